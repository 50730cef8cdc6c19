import PyProof.Rows.All
import PySem.Str
import HandS.HeadHook1
import HandS.HeadHook2
import HandS.HeadEnd
import HandS.Head0
import HandS.Head1
import HandS.Head2
import HandS.ExcOwn
import HandS.ExcInit
import HandS.ExcField
import HandS.Words
import HandS.Base
import HandS.Call
import HandS.List
import HandS.Comp
import HandS.Exc
import HandS.IsInst
import HandS.TupAny
import HandS.TupMul
import HandS.Wide
import HandS.Style
import HandS.Text
import HandS.WordsExc
import HandS.Defaults
import HandS.ExcIs
import KE.KExcIs
import KE.DataMinMax
import HandS.Iter
import KE.GoesMore
import PyProof.Draws
import HandS.Zip
import KE.GoesEnum
import HandS.SortRule
import HandS.TupSets
import HandS.Deep
import HandS.Codes
import HandS.OwnEq
import KE.KDictPairs
import HandS.Dict
import HandS.Conv
import HandS.SortKw
import HandS.Star
import HandS.HeadWalk
import PySem.Challenge.RW_trackloom_k01_errors
set_option linter.all false
/-! TwA: a small deterministic reading of the program's Python over plain trees. -/
namespace Tw
open PySem

/-- plain values: trees -/
inductive P where
  | non | bl (b : Bool) | int (i : Int) | str (s : Str) | tup (xs : List P) | lst (xs : List P) | ins (c : Nat) (ks : List Nat) (vs : List P) | err (c : Nat) (x : P)
  deriving Inhabited
/-- values of a frame: a tree, a place of the store, an exception in hand -/
inductive D where
  | p (x : P) | r (n : Nat) | e (c : Nat) (x : P)
  deriving Inhabited
/-- a key of a dict: a whole number or a text -/
abbrev Ky := Int ⊕ Str
inductive Cell where
  | lst (xs : List D) | ins (c : Nat) (ks : List Nat) (vs : List D) | dct (ks : List Ky) (vs : List D)
abbrev Store := List Cell
abbrev En := List (Option D)

inductive Out (α : Type) where
  | ok (a : α) (S : Store) | exc (c : Nat) (x : P) (S : Store) | stuck
def Out.bind {α β : Type} (o : Out α) (f : α → Store → Out β) : Out β := match o with
  | .ok a S => f a S
  | .exc c x S => .exc c x S
  | .stuck => .stuck
@[simp] theorem Out.bind_ok {α β : Type} (a : α) (S : Store) (f : α → Store → Out β) : (Out.ok a S).bind f = f a S := rfl
@[simp] theorem Out.bind_exc {α β : Type} (c : Nat) (x : P) (S : Store) (f : α → Store → Out β) : (Out.exc c x S : Out α).bind f = .exc c x S := rfl
@[simp] theorem Out.bind_stuck {α β : Type} (f : α → Store → Out β) : (Out.stuck : Out α).bind f = .stuck := rfl
inductive OutP where
  | ok (x : P) | exc (c : Nat) (x : P) | stuck
def Out.noexc {α : Type} (o : Out α) : Out α := match o with
  | .exc _ _ _ => .stuck
  | o => o
@[simp] theorem Out.noexc_ok {α : Type} (a : α) (S : Store) : (Out.ok a S).noexc = .ok a S := rfl
/-- some x goes on, none is stuck -/
def Out.of {α : Type} (o : Option α) (S : Store) : Out α := match o with
  | some a => .ok a S
  | none => .stuck
@[simp] theorem Out.of_some {α : Type} (a : α) (S : Store) : Out.of (some a) S = .ok a S := rfl
@[simp] theorem Out.of_none {α : Type} (S : Store) : (Out.of none S : Out α) = .stuck := rfl

/-! ### plain data: equality, depth -/
mutual
/-- no instance within, at most so deep -/
def P.dat : P → Nat → Bool
  | .non, _ => true
  | .bl _, _ => true
  | .int _, _ => true
  | .str _, _ => true
  | .tup xs, n => P.dats xs n
  | .lst xs, n => P.dats xs n
  | .ins _ _ _, _ => false
  | .err _ _, _ => false
def P.dats : List P → Nat → Bool
  | _, 0 => false
  | [], _ + 1 => true
  | x :: xs, n + 1 => x.dat n && P.dats xs (n + 1)
end
mutual
/-- == -/
def P.eq : P → P → Bool
  | .non, .non => true
  | .bl a, .bl b => a == b
  | .bl a, .int j => (if a then 1 else 0) == j
  | .int i, .bl b => i == (if b then 1 else 0)
  | .int i, .int j => i == j
  | .str x, .str y => x == y
  | .lst xs, .lst ys => P.eqs xs ys
  | .tup xs, .tup ys => P.eqs xs ys
  | _, _ => false
def P.eqs : List P → List P → Bool
  | [], [] => true
  | x :: xs, y :: ys => P.eq x y && P.eqs xs ys
  | _, _ => false
end

/-! ### views -/
def Ps : List D → Option (List P)
  | [] => some []
  | .p x :: r => match Ps r with
    | some xs => some (x :: xs)
    | none => none
  | _ :: _ => none
/-- the items of a list: a tree, or a place that holds one -/
def lsD (S : Store) : D → Option (List D)
  | .p (.lst xs) => some (xs.map D.p)
  | .r n => match S[n]? with
    | some (.lst xs) => some xs
    | _ => none
  | _ => none
/-- a value as a tree, as it stands now -/
def view (S : Store) : D → Option P
  | .p x => some x
  | .r n => match S[n]? with
    | some (.lst xs) => (Ps xs).map P.lst
    | _ => none
  | _ => none
def views (S : Store) : List D → Option (List P)
  | [] => some []
  | d :: r => match view S d, views S r with
    | some x, some xs => some (x :: xs)
    | _, _ => none

/-! ### operators -/
inductive BinO where
  | add | sub | mul | div | mod | pow | shl | shr
inductive CmpO where
  | lt | le | gt | ge | eq | ne | inn | nin | is | isn
inductive Ty where
  | int | bool | str | tuple | list | own (c : Nat)
inductive Bi where
  | abs | int | str | sum | all | any | max | min | tuple | max0
inductive Tk where
  | n (i : Nat) | t (is : List Nat)
inductive Tg where
  | nm (i : Nat) | tp (is : List Nat) | nt (ks : List Tk)

def two64 : Int := 18446744073709551616
def big (i : Int) : Bool := decide (-two64 < i) && decide (i < two64)
def line : Nat := 16777216
def intOp : BinO → Int → Int → Option Int
  | .add, i, j => some (i + j)
  | .sub, i, j => some (i - j)
  | .mul, i, j => if big i || big j then some (i * j) else none
  | .div, i, j => if decide (0 < j) && decide (j < two64) then some (i / j) else none
  | .mod, i, j => if 0 < j then some (i % j) else none
  | .pow, i, j => if decide (0 ≤ j) && decide (j ≤ 1000000) && big i then some (i ^ j.toNat) else none
  | .shl, i, j => if decide (0 ≤ j) && decide (j ≤ 1000000) && big i then some (i * 2 ^ j.toNat) else none
  | .shr, i, j => if 0 ≤ j then some (i / 2 ^ j.toNat) else none
def binP : BinO → P → P → Option P
  | o, .int i, .int j => (intOp o i j).map P.int
  | .add, .str s, .str t => if s.length + t.length ≤ line then some (.str (s ++ t)) else none
  | .add, .tup xs, .tup ys => if xs.length + ys.length ≤ line then some (.tup (xs ++ ys)) else none
  | .add, .lst xs, .lst ys => if xs.length + ys.length ≤ line then some (.lst (xs ++ ys)) else none
  | .mul, .tup xs, .int k => if !xs.isEmpty && decide (-2000000 < k) && decide (k < 2000000) && decide (k.toNat * xs.length ≤ line) then some (.tup (List.replicate k.toNat xs).flatten) else none
  | _, _, _ => none
def P.flat : P → Bool
  | .non => true
  | .bl _ => true
  | .int _ => true
  | .str _ => true
  | _ => false
def asInts : List P → Option (List Int)
  | [] => some []
  | .int i :: r => match asInts r with
    | some xs => some (i :: xs)
    | none => none
  | _ :: _ => none
/-- one row before another -/
def lexL : List Int → List Int → Bool
  | [], [] => false
  | [], _ :: _ => true
  | _ :: _, [] => false
  | x :: xs, y :: ys => if x = y then lexL xs ys else decide (x < y)
def cmpP : CmpO → P → P → Option Bool
  | .lt, .int i, .int j => some (decide (i < j))
  | .le, .int i, .int j => some (decide (i ≤ j))
  | .gt, .int i, .int j => some (decide (j < i))
  | .ge, .int i, .int j => some (decide (j ≤ i))
  | .lt, .str x, .str y => some (decide (x.cps.toList < y.cps.toList))
  | .le, .str x, .str y => some (!decide (y.cps.toList < x.cps.toList))
  | .gt, .str x, .str y => some (decide (y.cps.toList < x.cps.toList))
  | .ge, .str x, .str y => some (!decide (x.cps.toList < y.cps.toList))
  | .lt, .tup xs, .tup ys => match asInts xs, asInts ys with
    | some ns, some ms => some (lexL ns ms)
    | _, _ => none
  | .eq, x, y => if x.dat 60 && y.dat 60 then some (x.eq y) else none
  | .ne, x, y => if x.dat 60 && y.dat 60 then some (!x.eq y) else none
  | .is, x, .non => some (match x with | .non => true | _ => false)
  | .isn, x, .non => some (match x with | .non => false | _ => true)
  | .is, .bl a, .bl b => some (a == b)
  | .inn, .str x, .str y => match x.cps.toList with
    | [c] => some (decide (c ∈ y.cps.toList))
    | _ => none
  | .nin, .str x, .str y => match x.cps.toList with
    | [c] => some (!decide (c ∈ y.cps.toList))
    | _ => none
  | .inn, x, .lst ys => if x.flat && ys.all P.flat then some (ys.any fun y => y.eq x) else if x.dat 60 && P.dats ys 60 then some (ys.any fun y => y.eq x) else none
  | .inn, x, .tup ys => if x.flat && ys.all P.flat then some (ys.any fun y => y.eq x) else if x.dat 60 && P.dats ys 60 then some (ys.any fun y => y.eq x) else none
  | .nin, x, .lst ys => if x.flat && ys.all P.flat then some (!ys.any fun y => y.eq x) else if x.dat 60 && P.dats ys 60 then some (!ys.any fun y => y.eq x) else none
  | .nin, x, .tup ys => if x.flat && ys.all P.flat then some (!ys.any fun y => y.eq x) else if x.dat 60 && P.dats ys 60 then some (!ys.any fun y => y.eq x) else none
  | _, _, _ => none
def asBls : List P → Option (List Bool)
  | [] => some []
  | .bl i :: r => match asBls r with
    | some xs => some (i :: xs)
    | none => none
  | _ :: _ => none
def maxL : Int → List Int → Int
  | i, [] => i
  | i, j :: r => maxL (if i < j then j else i) r
def minL : Int → List Int → Int
  | i, [] => i
  | i, j :: r => minL (if j < i then j else i) r
def biP : Bi → List P → Option P
  | .abs, [.int i] => some (.int (if i < 0 then -i else i))
  | .int, [.int i] => some (.int i)
  | .int, [.bl b] => some (.int (if b then 1 else 0))
  | .str, [.int i] => if i.natAbs.log2 < 1920 then some (.str (toString i)) else none
  | .sum, [.lst xs] => (asInts xs).map fun ns => .int ns.sum
  | .all, [.lst xs] => (asBls xs).map fun bs => .bl (bs.all id)
  | .any, [.lst xs] => (asBls xs).map fun bs => .bl (bs.any id)
  | .max, [.int i, .int j] => some (.int (if j > i then j else i))
  | .min, [.int i, .int j] => some (.int (if j < i then j else i))
  | .max, [.lst xs] => match asInts xs with
    | some (n :: ns) => some (.int (maxL n ns))
    | _ => none
  | .min, [.lst xs] => match asInts xs with
    | some (n :: ns) => some (.int (minL n ns))
    | _ => none
  | .max0, [.lst xs, .int d] => match asInts xs with
    | some (n :: ns) => some (.int (maxL n ns))
    | some [] => some (.int d)
    | none => none
  | .tuple, [.lst xs] => some (.tup xs)
  | .tuple, [.tup xs] => some (.tup xs)
  | _, _ => none
def isTy : Ty → P → Bool
  | .int, .int _ => true
  | .int, .bl _ => true
  | .bool, .bl _ => true
  | .str, .str _ => true
  | .tuple, .tup _ => true
  | .list, .lst _ => true
  | .own c, .ins d _ _ => c == d
  | _, _ => false
/-- a place in a row of n, from either end -/
def ixAt (n : Nat) (i : Int) : Option Nat := if 0 ≤ i then (if i < n then some i.toNat else none) else if -(n : Int) ≤ i then some (i + n).toNat else none
def sIx (n d : Nat) : Option Int → Nat
  | none => d
  | some v => if v < 0 then (v + n).toNat else min v.toNat n
def cut {α : Type} (xs : List α) (lo hi : Option Int) : List α := (xs.drop (sIx xs.length 0 lo)).take (sIx xs.length xs.length hi - sIx xs.length 0 lo)

inductive E where
  | var (i : Nat) | cst (x : P) | exv (f i : Nat) | no
  | bin (o : BinO) (a b : E) | neg (a : E)
  | cmp (o : CmpO) (a b : E) | chn (o q : CmpO) (a b c : E)
  | and (xs : List E) | or (xs : List E) | not (a : E) | ifx (c a b : E)
  | tup (xs : List E) | lst (xs : List E) | mut (a : E)
  | idx (a i : E) | slc (a lo hi : E)
  | call (f : Nat) (xs : List E) | calls (f : Nat) (xs : List E)
  | new (c f : Nat) (xs : List E) | mth (c f : Nat) (o : E) (xs : List E)
  | err (c : Nat) (a : E) | xfd (f : Nat) (a : E) | isx (c : Nat) (a : E) | isv (a : E) | exi (c i : Nat)
  | isO (c : Nat) (a : E) | eqo (c f : Nat) (a b : E)
  | fld (f : Nat) (o : E)
  | len (a : E) | bi (b : Bi) (xs : List E) | lof (a : E)
  | isi (a : E) (ts : List Ty)
  | lc (own : List Nat) (t : Tg) (src : E) (ifs : List E) (elt : E)
  | lcr (own : List Nat) (t : Tg) (args : List E) (ifs : List E) (elt : E)
  | app (o x : E)
  | rev (a : E) | revl (a : E)
  | srt (a : E) | ixo (o x : E) | rmo (o x : E) | srs (a : E)
  | lcz (own : List Nat) (t : Tg) (args : List E) (ifs : List E) (elt : E)
  | lss (xs : List E) | tss (xs : List E)
  | dic (a : E) | dge (d k x : E) | lofr (xs : List E)
  deriving Inhabited

/-- what a body leans on: calls on trees, calls that work on the store; the attribute of an error class -/
structure Cb where
  cp : Nat → List P → OutP
  cs : Nat → List D → Store → Out D
  cn : Nat → List P → OutP
  xf : Nat → Nat
  sub : Nat → Nat → Option Bool

def wipeE : En → List Nat → En
  | en, [] => en
  | en, i :: r => (wipeE en r).set i none
/-- several targets, each a name or a row of names, take a row -/
def setK : List Tk → List P → En → Option En
  | [], [], en => some en
  | .n i :: r, x :: xs, en => setK r xs (en.set i (some (.p x)))
  | .t is :: r, .tup ys :: xs, en => if is.length = ys.length then setK r xs ((is.zip ys).foldl (fun en q => en.set q.1 (some (.p q.2))) en) else none
  | _, _, _ => none
/-- a target takes a value -/
def setT : Tg → D → En → Option En
  | .nm i, d, en => some (en.set i (some d))
  | .tp is, .p (.tup xs), en => if is.length = xs.length then some ((is.zip xs).foldl (fun en q => en.set q.1 (some (.p q.2))) en) else none
  | .nt ks, .p (.tup xs), en => setK ks xs en
  | _, _, _ => none
def getV (en : En) (i : Nat) : Option D := match en[i]? with
  | some (some (.p x)) => some (.p x)
  | some (some (.r n)) => some (.r n)
  | _ => none
/-- the items that are walked: what stands still the while, its items; a range -/
inductive Walk where
  | its (xs : List D) (n : Option Nat) | rng (lo : Int) (n : Nat) (c : Int)
/-- a text's signs -/
def signs (s : Str) : List P := s.cps.toList.map fun c => .str ⟨#[c]⟩
def walkD (S : Store) : D → Option Walk
  | .p (.lst xs) => some (.its (xs.map D.p) none)
  | .p (.tup xs) => some (.its (xs.map D.p) none)
  | .p (.str s) => if s.cps.toList.length ≤ line then some (.its ((signs s).map D.p) none) else none
  | .r n => match S[n]? with
    | some (.lst xs) => some (.its xs (some n))
    | _ => none
  | _ => none
def two61 : Int := 2305843009213693952
def near (i : Int) : Bool := decide (-two61 < i) && decide (i < two61)
/-- how many steps of c from i on stay below j -/
def stp (i j c : Int) : Nat := if i < j then ((j - i - 1) / c + 1).toNat else 0
def walkR : List D → Option Walk
  | [.p (.int j)] => if near j && decide (j.toNat ≤ line) then some (.rng 0 j.toNat 1) else none
  | [.p (.int i), .p (.int j)] => if near i && near j && decide ((j - i).toNat ≤ line) then some (.rng i (j - i).toNat 1) else none
  | [.p (.int i), .p (.int j), .p (.int c)] => if near i && near j && decide (1 ≤ c) && decide (c < 1048576) && decide (stp i j c ≤ line) then some (.rng i (stp i j c) c) else none
  | _ => none
def rngIts (lo : Int) (c : Int) : Nat → Nat → List D
  | _, 0 => []
  | i, n + 1 => .p (.int (lo + i * c)) :: rngIts lo c (i + 1) n
def Walk.items : Walk → List D
  | .its xs _ => xs
  | .rng lo n c => rngIts lo c 0 n
mutual
/-- the very same tree -/
def P.same : P → P → Bool
  | .non, .non => true
  | .bl a, .bl b => a == b
  | .int i, .int j => i == j
  | .str x, .str y => decide (x = y)
  | .lst xs, .lst ys => P.sames xs ys
  | .tup xs, .tup ys => P.sames xs ys
  | .ins c ks vs, .ins d ls ws => c == d && ks == ls && P.sames vs ws
  | .err c x, .err d y => c == d && P.same x y
  | _, _ => false
def P.sames : List P → List P → Bool
  | [], [] => true
  | x :: xs, y :: ys => P.same x y && P.sames xs ys
  | _, _ => false
end
mutual
theorem P.same_eq : ∀ x y : P, P.same x y = true → x = y
  | .non, y, h => by cases y <;> simp_all [P.same]
  | .bl a, y, h => by cases y <;> simp_all [P.same]
  | .int a, y, h => by cases y <;> simp_all [P.same]
  | .str a, y, h => by cases y <;> simp_all [P.same]
  | .tup xs, y, h => by
    cases y with
    | tup ys => rw [P.sames_eq xs ys (by simpa [P.same] using h)]
    | _ => simp [P.same] at h
  | .lst xs, y, h => by
    cases y with
    | lst ys => rw [P.sames_eq xs ys (by simpa [P.same] using h)]
    | _ => simp [P.same] at h
  | .ins c ks vs, y, h => by
    cases y with
    | ins d ls ws =>
      simp only [P.same, Bool.and_eq_true, beq_iff_eq] at h
      rw [h.1.1, h.1.2, P.sames_eq vs ws h.2]
    | _ => simp [P.same] at h
  | .err c x, y, h => by
    cases y with
    | err d y =>
      simp only [P.same, Bool.and_eq_true, beq_iff_eq] at h
      rw [h.1, P.same_eq x y h.2]
    | _ => simp [P.same] at h
theorem P.sames_eq : ∀ xs ys : List P, P.sames xs ys = true → xs = ys
  | [], ys, h => by cases ys <;> simp_all [P.sames]
  | x :: xs, ys, h => by
    cases ys with
    | nil => simp [P.sames] at h
    | cons y ys =>
      simp only [P.sames, Bool.and_eq_true] at h
      rw [P.same_eq x y h.1, P.sames_eq xs ys h.2]
end
mutual
theorem P.same_refl : ∀ x : P, P.same x x = true
  | .non => rfl
  | .bl a => by simp [P.same]
  | .int a => by simp [P.same]
  | .str a => by simp [P.same]
  | .tup xs => by simp [P.same, P.sames_refl xs]
  | .lst xs => by simp [P.same, P.sames_refl xs]
  | .ins c ks vs => by simp [P.same, P.sames_refl vs]
  | .err c x => by simp [P.same, P.same_refl x]
theorem P.sames_refl : ∀ xs : List P, P.sames xs xs = true
  | [] => rfl
  | x :: xs => by simp [P.sames, P.same_refl x, P.sames_refl xs]
end
def D.same : D → D → Bool
  | .p x, .p y => x.same y
  | .r n, .r k => n == k
  | .e c x, .e d y => c == d && x.same y
  | _, _ => false
def D.sames : List D → List D → Bool
  | [], [] => true
  | x :: xs, y :: ys => D.same x y && D.sames xs ys
  | _, _ => false
theorem D.same_eq {x y : D} (h : D.same x y = true) : x = y := by
  cases x <;> cases y <;> simp_all [D.same]
  · exact P.same_eq _ _ h
  · exact P.same_eq _ _ h.2
theorem D.same_refl (x : D) : D.same x x = true := by cases x <;> simp [D.same, P.same_refl]
theorem D.sames_eq : ∀ {xs ys : List D}, D.sames xs ys = true → xs = ys
  | [], ys, h => by cases ys <;> simp_all [D.sames]
  | x :: xs, ys, h => by
    cases ys with
    | nil => simp [D.sames] at h
    | cons y ys =>
      simp only [D.sames, Bool.and_eq_true] at h
      rw [D.same_eq h.1, D.sames_eq h.2]
theorem D.sames_refl : ∀ xs : List D, D.sames xs xs = true
  | [] => rfl
  | x :: xs => by simp [D.sames, D.same_refl x, D.sames_refl xs]
/-- a list that is walked stands as it stood -/
def still (w : Walk) (S : Store) : Bool := match w with
  | .its xs (some n) => match S[n]? with
    | some (.lst ys) => D.sames ys xs
    | _ => false
  | _ => true
def lofL (x : D) (S : Store) : Out (List D) := match x with
  | .p (.tup xs) => .ok (xs.map D.p) S
  | x => Out.of (lsD S x) S
/-- the turns of a comprehension -/
def turns (ok : Store → Bool) (f : D → Store → Out (Option D)) : List D → Store → Out (List D)
  | [], S => if ok S then .ok [] S else .stuck
  | x :: xs, S => if ok S then (f x S).bind fun y S1 => (turns ok f xs S1).bind fun ys S2 => .ok (match y with | some y => y :: ys | none => ys) S2 else .stuck

def cmpD (o : CmpO) (x y : D) (S : Store) : Out D := match view S x, view S y with
  | some a, some b => Out.of ((cmpP o a b).map fun k => D.p (.bl k)) S
  | _, _ => .stuck
def binD (o : BinO) (x y : D) (S : Store) : Out D := match view S x, view S y with
  | some a, some b => Out.of ((binP o a b).map D.p) S
  | _, _ => .stuck
def idxD (x y : D) (S : Store) : Out D := match y with
  | .p (.int i) => match x with
    | .p (.tup xs) => Out.of (((ixAt xs.length i).bind fun j => xs[j]?).map D.p) S
    | .p (.lst xs) => Out.of (((ixAt xs.length i).bind fun j => xs[j]?).map D.p) S
    | .p (.str s) => if s.length ≤ line then Out.of (((ixAt s.cps.toList.length i).bind fun j => s.cps.toList[j]?).map fun c => D.p (.str ⟨#[c]⟩)) S else .stuck
    | .r n => match S[n]? with
      | some (.lst xs) => Out.of ((ixAt xs.length i).bind fun j => xs[j]?) S
      | _ => .stuck
    | _ => .stuck
  | _ => .stuck
def bound : D → Option (Option Int)
  | .e _ _ => some none
  | .p (.int i) => some (some i)
  | _ => none
def lenD (x : D) (S : Store) : Out D := match x with
  | .p (.tup xs) => .ok (.p (.int xs.length)) S
  | .p (.lst xs) => .ok (.p (.int xs.length)) S
  | .p (.str s) => if s.length ≤ line then .ok (.p (.int s.length)) S else .stuck
  | .r n => match S[n]? with
    | some (.lst xs) => .ok (.p (.int xs.length)) S
    | _ => .stuck
  | _ => .stuck
def P.isIns : P → Bool
  | .ins _ _ _ => true
  | .err _ _ => true
  | _ => false
def isiD (x : D) (ts : List Ty) (S : Store) : Out D := match view S x with
  | some a => if !a.isIns then .ok (.p (.bl (ts.any fun t => isTy t a))) S else .stuck
  | none => .stuck
def fldD (f : Nat) (x : D) (S : Store) : Out D := match x with
  | .p (.ins _ ks vs) => Out.of (((ks.zip vs).lookup f).map D.p) S
  | .r n => match S[n]? with
    | some (.ins _ ks vs) => Out.of ((ks.zip vs).lookup f) S
    | _ => .stuck
  | _ => .stuck
def mkL (o : Out (List D)) : Out D := o.bind fun ds S => Out.of ((Ps ds).map fun xs => D.p (.lst xs)) S
def callD (C : Cb) (f : Nat) (ds : List D) (S : Store) : Out D := match Ps ds with
  | some xs => match C.cp f xs with
    | .ok x => .ok (.p x) S
    | .exc c x => .exc c x S
    | .stuck => .stuck
  | none => .stuck
def isC (c : Nat) : D → Bool
  | .p (.ins c' _ _) => c == c'
  | _ => false
def frz : Nat → Store → D → Option P
  | _, _, .p x => some x
  | k + 1, S, .r n => match S[n]? with
    | some (.lst xs) => (xs.mapM (frz k S)).map P.lst
    | some (.ins c ks vs) => (vs.mapM (frz k S)).map (P.ins c ks)
    | _ => none
  | _, _, _ => none
/-- a new instance: __init__ on an empty one, then as a tree -/
def newR (o : Out D) (S : Store) : Out D := match o with
  | .ok (.p .non) S2 => match frz 8 S2 (.r 0) with
    | some x => .ok (.p x) S
    | none => .stuck
  | .exc c x _ => .exc c x S
  | _ => .stuck
def newD (C : Cb) (c f : Nat) (ds : List D) (S : Store) : Out D := match Ps ds with
  | some xs => newR (C.cs f (.r 0 :: xs.map D.p) [.ins c [] []]) S
  | none => .stuck
def isOD (c : Nat) (x : D) (S : Store) : Out D := match isC c x with
  | true => .ok (.p (.bl true)) S
  | false => .stuck
def blO (o : Out D) : Out D := match o with
  | .ok (.p (.bl b)) S => .ok (.p (.bl b)) S
  | _ => .stuck
def eqoD (C : Cb) (c f : Nat) (x y : D) (S : Store) : Out D := match isC c x, isC c y with
  | true, true => blO (callD C f [x, y] S)
  | _, _ => .stuck
def exvD (C : Cb) (f i : Nat) (en : En) (S : Store) : Out D := match en[i]? with
  | some (some (.e c x)) => if C.xf c = f then .ok (.p x) S else .stuck
  | _ => .stuck
/-- an error made and kept -/
def errD (c : Nat) (x : D) (S : Store) : Out D := match x with
  | .p y => .ok (.p (.err c y)) S
  | _ => .stuck
def xfdD (C : Cb) (f : Nat) (x : D) (S : Store) : Out D := match x with
  | .p (.err c y) => if C.xf c = f then .ok (.p y) S else .stuck
  | _ => .stuck
def isxD (C : Cb) (c' : Nat) (x : D) (S : Store) : Out D := match x with
  | .p (.err c _) => Out.of ((C.sub c c').map fun b => D.p (.bl b)) S
  | _ => .stuck
def isvD (x : D) (S : Store) : Out D := match x with
  | .p (.err _ _) => .ok (.p (.bl true)) S
  | _ => .stuck
def exiD (C : Cb) (c' i : Nat) (en : En) (S : Store) : Out D := match en[i]? with
  | some (some (.e c _)) => Out.of ((C.sub c c').map fun b => D.p (.bl b)) S
  | _ => .stuck
def cond (d : D) (S : Store) : Out Bool := match d with
  | .p (.bl b) => .ok b S
  | _ => .stuck
/-- a list as a piece of another: lists alone -/
def sliceL (x : D) (lo hi : D) (S : Store) : Out (List D) := match lsD S x, bound lo, bound hi with
  | some xs, some a, some b => .ok (cut xs a b) S
  | _, _, _ => .stuck
def slcD (x lo hi : D) (S : Store) : Out D := match bound lo, bound hi with
  | some a, some b => match x with
    | .p (.tup xs) => .ok (.p (.tup (cut xs a b))) S
    | .p (.str s) => if s.length ≤ line then .ok (.p (.str ⟨(cut s.cps.toList a b).toArray⟩)) S else .stuck
    | _ => mkL (sliceL x lo hi S)
  | _, _ => .stuck

def revD (x : D) (S : Store) : Out D := match x with
  | .p (.tup xs) => .ok (.p (.tup xs.reverse)) S
  | _ => .stuck
def revlD (x : D) (S : Store) : Out (List D) := match lsD S x with
  | some xs => .ok xs.reverse S
  | none => .stuck
/-! rows of whole numbers, sorted -/
def insR (x : List Int) : List (List Int) → List (List Int)
  | [] => [x]
  | y :: r => if lexL y x then y :: insR x r else x :: y :: r
def srtR (ks : List (List Int)) : List (List Int) := ks.foldr insR []
def rowI : P → Option (List Int)
  | .tup xs => asInts xs
  | _ => none
def rowsI : List D → Option (List (List Int))
  | [] => some []
  | .p x :: r => match rowI x, rowsI r with
    | some k, some ks => some (k :: ks)
    | _, _ => none
  | _ :: _ => none
def rowD (k : List Int) : D := .p (.tup (k.map P.int))
def srtD (x : D) (S : Store) : Out (List D) := match lsD S x with
  | some ds => match rowsI ds with
    | some ks => if ks.all fun k => !k.isEmpty then .ok ((srtR ks).map rowD) S else .stuck
    | none => .stuck
  | none => .stuck
/-- each row once -/
def dedR : List (List Int) → List (List Int)
  | [] => []
  | k :: r => if r.contains k then dedR r else k :: dedR r
/-- rows that a set of the kit's size holds: alike long, not negative, not great -/
def setR (ks : List (List Int)) : Bool := decide (ks.length < 64) && decide (1 ≤ (ks.headD [0]).length) && ks.all fun k => decide (k.length = (ks.headD [0]).length) && k.all fun i => decide (0 ≤ i) && decide (i < 1048576)
def srsD (x : D) (S : Store) : Out (List D) := match lsD S x with
  | some ds => match rowsI ds with
    | some ks => if setR ks then .ok ((srtR (dedR ks)).map rowD) S else .stuck
    | none => .stuck
  | none => .stuck
/-- the first place of an equal one -/
def fst1 (z : P) : List P → Option Nat
  | [] => none
  | y :: r => if y.eq z then some 0 else (fst1 z r).map (· + 1)
def ixoD (l x : D) (S : Store) : Out D := match view S l, view S x with
  | some (.lst ys), some z => if P.dats ys 60 && z.dat 60 then (match fst1 z ys with
      | some j => .ok (.p (.int j)) S
      | none => .stuck) else .stuck
  | _, _ => .stuck
def rmoD (l x : D) (S : Store) : Out D := match l, view S x with
  | .r n, some z => match S[n]? with
    | some (.lst ds) => match Ps ds with
      | some ys => if P.dats ys 60 && z.dat 60 then (match fst1 z ys with
        | some j => .ok (.p .non) (S.set n (.lst (ds.eraseIdx j)))
        | none => .stuck) else .stuck
      | none => .stuck
    | _ => .stuck
  | _, _ => .stuck
def isLs (l : D) (S : Store) : Bool := match l with
  | .p (.lst _) => true
  | .r n => match S[n]? with
    | some (.lst _) => true
    | _ => false
  | _ => false
/-- zip's pairs -/
def zipIts (xs ys : List P) : List D := (xs.zip ys).map fun q => .p (.tup [q.1, q.2])
def zipD : List D → Option (List D)
  | [.p (.tup xs), .p (.lst ys)] => some (zipIts xs ys)
  | _ => none
def isLst (l : D) (S : Store) : Bool := match l with
  | .r n => match S[n]? with
    | some (.lst _) => true
    | _ => false
  | _ => false
def appD (l y : D) (S : Store) : Out D := match l with
  | .r n => match S[n]? with
    | some (.lst xs) => if xs.length < line then .ok (.p .non) (S.set n (.lst (xs ++ [y]))) else .stuck
    | _ => .stuck
  | _ => .stuck

/-! dicts -/
def keyP : P → Option Ky
  | .int i => some (.inl i)
  | .str s => some (.inr s)
  | _ => none
/-- the keys and the values of pairs -/
def prsP : List P → Option (List Ky × List P)
  | [] => some ([], [])
  | .tup [k, v] :: r => match keyP k, prsP r with
    | some a, some q => some (a :: q.1, v :: q.2)
    | _, _ => none
  | _ :: _ => none
def valK (ks : List Ky) (vs : List D) (k : Ky) : Option D := ((ks.zip vs).find? fun q => decide (q.1 = k)).map (·.2)
/-- dict of a tuple of pairs, no key twice -/
def dicD (x : D) (S : Store) : Out D := match x with
  | .p (.tup xs) => match prsP xs with
    | some q => if q.1.Nodup then .ok (.r S.length) (S ++ [.dct q.1 (q.2.map D.p)]) else .stuck
    | none => .stuck
  | _ => .stuck
def isDct (l : D) (S : Store) : Bool := match l with
  | .r n => match S[n]? with
    | some (.dct _ _) => true
    | _ => false
  | _ => false
def dgeD (x y z : D) (S : Store) : Out D := match x, y with
  | .r n, .p k => match S[n]?, keyP k with
    | some (.dct ks vs), some a => .ok ((valK ks vs a).getD z) S
    | _, _ => .stuck
  | _, _ => .stuck
def lofrL (ds : List D) (S : Store) : Out (List D) := Out.of ((walkR ds).map Walk.items) S
mutual
def ev (C : Cb) : E → En → Store → Out D
  | .var i, en, S => Out.of (getV en i) S
  | .cst x, _, S => .ok (.p x) S
  | .exv f i, en, S => exvD C f i en S
  | .no, _, S => .ok (.e 0 .non) S
  | .bin o a b, en, S => (ev C a en S).bind fun x S1 => (ev C b en S1).bind fun y S2 => binD o x y S2
  | .neg a, en, S => (ev C a en S).bind fun x S1 => match x with
    | .p (.int i) => .ok (.p (.int (-i))) S1
    | _ => .stuck
  | .cmp o a b, en, S => (ev C a en S).bind fun x S1 => (ev C b en S1).bind fun y S2 => cmpD o x y S2
  | .chn o q a b c, en, S => (ev C a en S).bind fun x S1 => (ev C b en S1).bind fun y S2 => (cmpD o x y S2).bind fun k S3 =>
    match k with
    | .p (.bl true) => (ev C c en S3).bind fun z S4 => cmpD q y z S4
    | .p (.bl false) => .ok (.p (.bl false)) S3
    | _ => .stuck
  | .and xs, en, S => evAnd C xs en S
  | .or xs, en, S => evOr C xs en S
  | .not a, en, S => (ev C a en S).bind fun x S1 => (cond x S1).bind fun b S2 => .ok (.p (.bl (!b))) S2
  | .ifx c a b, en, S => (ev C c en S).bind fun x S1 => (cond x S1).bind fun k S2 => match k with
    | true => ev C a en S2
    | false => ev C b en S2
  | .tup xs, en, S => (evs C xs en S).bind fun ds S1 => Out.of ((Ps ds).map fun ys => D.p (.tup ys)) S1
  | .lst xs, en, S => mkL (evs C xs en S)
  | .mut a, en, S => (evL C a en S).bind fun ds S1 => .ok (.r S1.length) (S1 ++ [.lst ds])
  | .idx a i, en, S => (ev C a en S).bind fun x S1 => (ev C i en S1).bind fun y S2 => idxD x y S2
  | .slc a lo hi, en, S => (ev C a en S).bind fun x S1 => (ev C lo en S1).bind fun l S2 => match bound l with
    | some _ => (ev C hi en S2).bind fun h S3 => match bound h with
      | some _ => slcD x l h S3
      | none => .stuck
    | none => .stuck
  | .call f xs, en, S => (evs C xs en S).bind fun ds S1 => callD C f ds S1
  | .calls f xs, en, S => (evs C xs en S).bind fun ds S1 => C.cs f ds S1
  | .new c f xs, en, S => (evs C xs en S).bind fun ds S1 => newD C c f ds S1
  | .isO c a, en, S => (ev C a en S).bind fun x S1 => isOD c x S1
  | .err c a, en, S => (ev C a en S).bind fun x S1 => errD c x S1
  | .xfd f a, en, S => (ev C a en S).bind fun x S1 => xfdD C f x S1
  | .isx c a, en, S => (ev C a en S).bind fun x S1 => isxD C c x S1
  | .isv a, en, S => (ev C a en S).bind fun x S1 => isvD x S1
  | .exi c i, en, S => exiD C c i en S
  | .eqo c f a b, en, S => (ev C a en S).bind fun x S1 => (ev C b en S1).bind fun y S2 => eqoD C c f x y S2
  | .mth c f o xs, en, S => (ev C o en S).bind fun x S1 => match isC c x with
    | true => (evs C xs en S1).bind fun ds S2 => callD C f (x :: ds) S2
    | false => .stuck
  | .fld f o, en, S => (ev C o en S).bind fun x S1 => fldD f x S1
  | .len a, en, S => (ev C a en S).bind fun x S1 => lenD x S1
  | .bi b xs, en, S => (evs C xs en S).bind fun ds S1 => match views S1 ds with
    | some ys => Out.of ((biP b ys).map D.p) S1
    | none => .stuck
  | .lof a, en, S => mkL ((ev C a en S).bind fun x S1 => lofL x S1)
  | .isi a ts, en, S => (ev C a en S).bind fun x S1 => isiD x ts S1
  | .lc own t src ifs elt, en, S => mkL ((ev C src en S).bind fun x S0 => (Out.of (walkD S0 x) S0).bind fun w S1 => (turns (still w) (fun x S2 => match setT t x (wipeE en own) with
      | some en' => (evIfs C ifs en' S2).bind fun k S3 => match k with
        | true => (ev C elt en' S3).bind fun y S4 => .ok (some y) S4
        | false => .ok none S3
      | none => .stuck) w.items S1).noexc)
  | .lcr own t xs ifs elt, en, S => mkL ((evs C xs en S).bind fun x S0 => (Out.of (walkR x) S0).bind fun w S1 => (turns (still w) (fun x S2 => match setT t x (wipeE en own) with
      | some en' => (evIfs C ifs en' S2).bind fun k S3 => match k with
        | true => (ev C elt en' S3).bind fun y S4 => .ok (some y) S4
        | false => .ok none S3
      | none => .stuck) w.items S1).noexc)
  | .app o x, en, S => (ev C o en S).bind fun l S1 => match isLst l S1 with
    | true => (ev C x en S1).bind fun y S2 => appD l y S2
    | false => .stuck
  | .rev a, en, S => (ev C a en S).bind fun x S1 => revD x S1
  | .srt a, en, S => mkL ((ev C a en S).bind fun x S1 => srtD x S1)
  | .srs a, en, S => mkL ((ev C a en S).bind fun x S1 => srsD x S1)
  | .ixo o x, en, S => (ev C o en S).bind fun l S1 => match isLs l S1 with
    | true => (ev C x en S1).bind fun y S2 => ixoD l y S2
    | false => .stuck
  | .rmo o x, en, S => (ev C o en S).bind fun l S1 => match isLst l S1 with
    | true => (ev C x en S1).bind fun y S2 => rmoD l y S2
    | false => .stuck
  | .revl a, en, S => mkL ((ev C a en S).bind fun x S1 => revlD x S1)
  | .lcz own t xs ifs elt, en, S => mkL ((evs C xs en S).bind fun x S0 => (Out.of (zipD x) S0).bind fun its S1 => (turns (fun _ => true) (fun x S2 => match setT t x (wipeE en own) with
      | some en' => (evIfs C ifs en' S2).bind fun k S3 => match k with
        | true => (ev C elt en' S3).bind fun y S4 => .ok (some y) S4
        | false => .ok none S3
      | none => .stuck) its S1).noexc)
  | .lss xs, en, S => mkL (evss C xs en S)
  | .tss xs, en, S => (evss C xs en S).bind fun ds S1 => Out.of ((Ps ds).map fun ys => D.p (.tup ys)) S1
  | .dic a, en, S => (ev C a en S).bind fun x S1 => dicD x S1
  | .dge d k x, en, S => (ev C d en S).bind fun l S1 => match isDct l S1 with
    | true => (ev C k en S1).bind fun y S2 => (ev C x en S2).bind fun z S3 => dgeD l y z S3
    | false => .stuck
  | .lofr xs, en, S => mkL ((evs C xs en S).bind fun ds S1 => lofrL ds S1)
termination_by structural x => x
/-- the forms that lay a new list: its items -/
def evL (C : Cb) : E → En → Store → Out (List D)
  | .lst xs, en, S => evs C xs en S
  | .lss xs, en, S => evss C xs en S
  | .lof a, en, S => (ev C a en S).bind fun x S1 => lofL x S1
  | .lofr xs, en, S => (evs C xs en S).bind fun ds S1 => lofrL ds S1
  | .lc own t src ifs elt, en, S => ((ev C src en S).bind fun x S0 => (Out.of (walkD S0 x) S0).bind fun w S1 => (turns (still w) (fun x S2 => match setT t x (wipeE en own) with
      | some en' => (evIfs C ifs en' S2).bind fun k S3 => match k with
        | true => (ev C elt en' S3).bind fun y S4 => .ok (some y) S4
        | false => .ok none S3
      | none => .stuck) w.items S1).noexc)
  | .lcr own t xs ifs elt, en, S => ((evs C xs en S).bind fun x S0 => (Out.of (walkR x) S0).bind fun w S1 => (turns (still w) (fun x S2 => match setT t x (wipeE en own) with
      | some en' => (evIfs C ifs en' S2).bind fun k S3 => match k with
        | true => (ev C elt en' S3).bind fun y S4 => .ok (some y) S4
        | false => .ok none S3
      | none => .stuck) w.items S1).noexc)
  | .bin .add a b, en, S => (ev C a en S).bind fun x S1 => (ev C b en S1).bind fun y S2 => match lsD S2 x, lsD S2 y with
    | some xs, some ys => if xs.length + ys.length ≤ line then .ok (xs ++ ys) S2 else .stuck
    | _, _ => .stuck
  | .slc a lo hi, en, S => (ev C a en S).bind fun x S1 => (ev C lo en S1).bind fun l S2 => match bound l with
    | some _ => (ev C hi en S2).bind fun h S3 => match bound h with
      | some _ => sliceL x l h S3
      | none => .stuck
    | none => .stuck
  | _, _, _ => .stuck
termination_by structural x => x
def evs (C : Cb) : List E → En → Store → Out (List D)
  | [], _, S => .ok [] S
  | a :: r, en, S => (ev C a en S).bind fun x S1 => (evs C r en S1).bind fun xs S2 => .ok (x :: xs) S2
termination_by structural x => x
/-- pieces of a display, one behind another -/
def evss (C : Cb) : List E → En → Store → Out (List D)
  | [], _, S => .ok [] S
  | a :: r, en, S => (evL C a en S).bind fun xs S1 => (evss C r en S1).bind fun ys S2 => if xs.length + ys.length ≤ line then .ok (xs ++ ys) S2 else .stuck
termination_by structural x => x
def evAnd (C : Cb) : List E → En → Store → Out D
  | [], _, _ => .stuck
  | [a], en, S => ev C a en S
  | a :: r, en, S => (ev C a en S).bind fun x S1 => (cond x S1).bind fun k S2 => match k with
    | true => evAnd C r en S2
    | false => .ok (.p (.bl false)) S2
termination_by structural x => x
def evOr (C : Cb) : List E → En → Store → Out D
  | [], _, _ => .stuck
  | [a], en, S => ev C a en S
  | a :: r, en, S => (ev C a en S).bind fun x S1 => (cond x S1).bind fun k S2 => match k with
    | true => .ok (.p (.bl true)) S2
    | false => evOr C r en S2
termination_by structural x => x
def evIfs (C : Cb) : List E → En → Store → Out Bool
  | [], _, S => .ok true S
  | [a], en, S => (ev C a en S).bind fun x S1 => cond x S1
  | _, _, _ => .stuck
termination_by structural x => x
end

/-! ### statements -/
structure Hd where
  c : Nat
  i : Nat
  e : E
inductive Sm where
  | set (t : Tg) (e : E) | par (i j : Nat) (a b : E)
  | seti (o i e : E) | setf (o : E) (f : Nat) (e : E)
  | aug (i : Nat) (o : BinO) (e : E)
  | ex (e : E) | ret (e : E) | retn
  | ite (c : E) (a b : List Sm)
  | fr (t : Tg) (src : E) (body : List Sm) | frr (t : Tg) (args : List E) (body : List Sm)
  | fre (t : Tg) (src : E) (body : List Sm)
  | par3 (i j l : Nat) (a b c : E)
  | wh (c : E) (body : List Sm)
  | rse (c : Nat) (e : E)
  | tr (body : List Sm) (hs : List Hd)
  | pass | brk | cnt
inductive OS where
  | nx (en : En) (S : Store) | rt (d : D) (S : Store) | bk (en : En) (S : Store) | ct (en : En) (S : Store) | exc (c : Nat) (x : P) (en : En) (S : Store) | stuck
def OS.bind (o : OS) (f : En → Store → OS) : OS := match o with
  | .nx en S => f en S
  | o => o
@[simp] theorem OS.bind_nx (en : En) (S : Store) (f : En → Store → OS) : (OS.nx en S).bind f = f en S := rfl
@[simp] theorem OS.bind_rt (d : D) (S : Store) (f : En → Store → OS) : (OS.rt d S).bind f = .rt d S := rfl
@[simp] theorem OS.bind_bk (en : En) (S : Store) (f : En → Store → OS) : (OS.bk en S).bind f = .bk en S := rfl
@[simp] theorem OS.bind_ct (en : En) (S : Store) (f : En → Store → OS) : (OS.ct en S).bind f = .ct en S := rfl
@[simp] theorem OS.bind_exc (c : Nat) (x : P) (en : En) (S : Store) (f : En → Store → OS) : (OS.exc c x en S).bind f = .exc c x en S := rfl
@[simp] theorem OS.bind_stuck (f : En → Store → OS) : OS.stuck.bind f = .stuck := rfl
/-- an expression ahead of what a statement does with it -/
def Out.thn {α : Type} (o : Out α) (en : En) (f : α → Store → OS) : OS := match o with
  | .ok a S => f a S
  | .exc c x S => .exc c x en S
  | .stuck => .stuck
@[simp] theorem Out.thn_ok {α : Type} (a : α) (S : Store) (en : En) (f : α → Store → OS) : (Out.ok a S).thn en f = f a S := rfl
@[simp] theorem Out.thn_exc {α : Type} (c : Nat) (x : P) (S : Store) (en : En) (f : α → Store → OS) : (Out.exc c x S : Out α).thn en f = .exc c x en S := rfl
@[simp] theorem Out.thn_stuck {α : Type} (en : En) (f : α → Store → OS) : (Out.stuck : Out α).thn en f = .stuck := rfl
def forL (ok : Store → Bool) (f : D → En → Store → OS) : List D → En → Store → OS
  | [], en, S => if ok S then .nx en S else .stuck
  | x :: xs, en, S => if ok S then (match f x en S with
    | .nx en' S' => forL ok f xs en' S'
    | .ct en' S' => forL ok f xs en' S'
    | .bk en' S' => .nx en' S'
    | o => o) else .stuck
/-- enumerate's pairs -/
def enumIts : Nat → List P → List D
  | _, [] => []
  | i, x :: xs => .p (.tup [.int (i : Nat), x]) :: enumIts (i + 1) xs
def whL (c : En → Store → Out Bool) (f : En → Store → OS) : Nat → En → Store → OS
  | 0, _, _ => .stuck
  | n + 1, en, S => (c en S).thn en fun k S1 => match k with
    | false => .nx en S1
    | true => match f en S1 with
      | .nx en' S' => whL c f n en' S'
      | .ct en' S' => whL c f n en' S'
      | .bk en' S' => .nx en' S'
      | o => o
def catchH (C : Cb) (c : Nat) (x : P) (en : En) (S : Store) : List Hd → OS
  | [] => .exc c x en S
  | h :: r => match C.sub c h.c with
    | some true => (ev C h.e (en.set h.i (some (.e c x))) S).noexc.thn en fun d S' => .rt d S'
    | some false => catchH C c x en S r
    | none => .stuck
/-- a name's value grows in place: ints alone -/
def augD (o : BinO) (x y : D) (S : Store) : Out D := match o, x, y with
  | .add, .p (.int i), .p (.int j) => .ok (.p (.int (i + j))) S
  | .sub, .p (.int i), .p (.int j) => .ok (.p (.int (i - j))) S
  | _, _, _ => .stuck
def fuelW : Nat := 1000000
def setiD (l i y : D) (S : Store) : Option Store := match l, i with
  | .r n, .p (.int k) => match S[n]? with
    | some (.lst xs) => (ixAt xs.length k).map fun j => S.set n (.lst (xs.set j y))
    | _ => none
  | _, _ => none
/-- an attribute is put: in its place, or behind -/
def putA {α : Type} (f : Nat) (y : α) : List Nat → List α → List Nat × List α
  | k :: ks, v :: vs => if f = k then (k :: ks, y :: vs) else (k :: (putA f y ks vs).1, v :: (putA f y ks vs).2)
  | _, _ => ([f], [y])
def setfD (o : D) (f : Nat) (y : D) (S : Store) : Option Store := match o with
  | .r n => match S[n]? with
    | some (.ins c ks vs) => if vs.length < 900 then some (S.set n (.ins c (putA f y ks vs).1 (putA f y ks vs).2)) else none
    | _ => none
  | _ => none

mutual
def ex (C : Cb) : Sm → En → Store → OS
  | .set t e, en, S => (ev C e en S).thn en fun x S1 => match setT t x en with
    | some en' => .nx en' S1
    | none => .stuck
  | .par i j a b, en, S => (ev C a en S).thn en fun x S1 => (ev C b en S1).thn en fun y S2 => .nx ((en.set i (some x)).set j (some y)) S2
  | .seti o i e, en, S => (ev C e en S).thn en fun y S1 => (ev C o en S1).thn en fun l S2 => (ev C i en S2).thn en fun k S3 => match setiD l k y S3 with
    | some S4 => .nx en S4
    | none => .stuck
  | .setf o f e, en, S => (ev C e en S).thn en fun y S1 => (ev C o en S1).thn en fun l S2 => match setfD l f y S2 with
    | some S3 => .nx en S3
    | none => .stuck
  | .aug i o e, en, S => (Out.of (getV en i) S).thn en fun x S1 => (ev C e en S1).thn en fun y S2 => (augD o x y S2).thn en fun z S3 => .nx (en.set i (some z)) S3
  | .ex e, en, S => (ev C e en S).thn en fun _ S1 => .nx en S1
  | .ret e, en, S => (ev C e en S).thn en fun d S1 => .rt d S1
  | .retn, _, S => .rt (.p .non) S
  | .ite c a b, en, S => (ev C c en S).thn en fun d S1 => (cond d S1).thn en fun k S2 => match k with
    | true => exs C a en S2
    | false => exs C b en S2
  | .fr t src body, en, S => (ev C src en S).thn en fun d S1 => (Out.of (walkD S1 d) S1).thn en fun w S2 => forL (still w) (fun x en' S' => match setT t x en' with
      | some en2 => exs C body en2 S'
      | none => .stuck) w.items en S2
  | .frr t args body, en, S => (evs C args en S).thn en fun d S1 => (Out.of (walkR d) S1).thn en fun w S2 => forL (still w) (fun x en' S' => match setT t x en' with
      | some en2 => exs C body en2 S'
      | none => .stuck) w.items en S2
  | .fre t src body, en, S => (ev C src en S).thn en fun d S1 => match d with
    | .p (.tup xs) => forL (fun _ => true) (fun x en' S' => match setT t x en' with
      | some en2 => exs C body en2 S'
      | none => .stuck) (enumIts 0 xs) en S1
    | _ => .stuck
  | .par3 i j l a b c, en, S => (ev C a en S).thn en fun x S1 => (ev C b en S1).thn en fun y S2 => (ev C c en S2).thn en fun z S3 => .nx (((en.set i (some x)).set j (some y)).set l (some z)) S3
  | .wh c body, en, S => whL (fun en' S' => (ev C c en' S').bind fun d S1 => cond d S1) (fun en' S' => exs C body en' S') fuelW en S
  | .rse c e, en, S => (ev C e en S).thn en fun d S1 => match d with
    | .p x => .exc c x en S1
    | _ => .stuck
  | .tr body hs, en, S => match exs C body en S with
    | .exc c x en' S' => catchH C c x en' S' hs
    | o => o
  | .pass, en, S => .nx en S
  | .brk, en, S => .bk en S
  | .cnt, en, S => .ct en S
termination_by structural x => x
def exs (C : Cb) : List Sm → En → Store → OS
  | [], en, S => .nx en S
  | s :: r, en, S => (ex C s en S).bind fun en' S' => exs C r en' S'
termination_by structural x => x
end

/-! ### defs -/
structure FnI where
  ar : Nat
  n : Nat
  body : List Sm
def runF (C : Cb) (F : FnI) (ds : List D) (S : Store) : OS := if ds.length = F.ar then exs C F.body (ds.map some ++ List.replicate (F.n - F.ar) none) S else .stuck
def finP : OS → OutP
  | .rt d S => match frz 8 S d with
    | some x => .ok x
    | none => .stuck
  | .nx _ _ => .ok .non
  | .exc c x _ _ => .exc c x
  | _ => .stuck
/-- behind an __init__: the new instance, as a tree -/
def finN : OS → OutP
  | .rt (.p .non) S => match frz 8 S (.r 0) with
    | some x => .ok x
    | none => .stuck
  | .nx _ S => match frz 8 S (.r 0) with
    | some x => .ok x
    | none => .stuck
  | .exc c x _ _ => .exc c x
  | _ => .stuck
def lowD (n : Nat) : D → Bool
  | .p _ => true
  | .r k => decide (k < n)
  | _ => false
def lowC (n : Nat) : Cell → Bool
  | .lst xs => xs.all (lowD n)
  | .ins _ _ vs => vs.all (lowD n)
  | .dct _ vs => vs.all (lowD n)
def trim (n : Nat) (S : Store) : Store := if S.length = n then S else if (S.take n).all (lowC n) then S.take n else S
def finS (n : Nat) : OS → Out D
  | .rt d S => if lowD n d then .ok d (trim n S) else .ok d S
  | .nx _ S => .ok (.p .non) (trim n S)
  | .exc c x _ S => .exc c x (trim n S)
  | _ => .stuck
structure Tab where
  fns : List FnI
  ini : Nat → Nat
  xf : Nat → Nat
  sub : Nat → Nat → Option Bool
def cb (T : Tab) : Nat → Cb
  | 0 => ⟨fun _ _ => .stuck, fun _ _ _ => .stuck, fun _ _ => .stuck, T.xf, T.sub⟩
  | k + 1 => ⟨fun f xs => match T.fns[f]? with
      | some F => finP (runF (cb T k) F (xs.map D.p) [])
      | none => .stuck,
    fun f ds S => match T.fns[f]? with
      | some F => finS S.length (runF (cb T k) F ds S)
      | none => .stuck,
    fun c xs => match T.fns[T.ini c]? with
      | some F => finN (runF (cb T k) F (.r 0 :: xs.map D.p) [.ins c [] []])
      | none => .stuck, T.xf, T.sub⟩

end Tw

set_option linter.all false
set_option Elab.async false
set_option maxRecDepth 100000
set_option maxHeartbeats 2000000
/-! TwE0: a law's pack and what its head must tell; behind TwA alone, so that the head may run early in a joined text. -/
namespace Tw
open PySem PySem.Spec PyProof.Rows L2
def oexB (K : PySem.W.Frag) (C : Addr) : Bool := (match K.lookup C with
  | some ⟨.type t, _, .cls cd, sl⟩ => t == "type" && (match cd.mro, sl.toList with
    | .ref C' :: bm, [_, _, _, _, some (.builtin n), _] => C' == C && n == "ValueError.__new__" && !cd.hasDel && cd.hasDict && PySem.HandSPX.refsVE bm
    | _, _ => false)
  | _ => false) && decide (PySem.W.findIn K (.ref C) "__setattr__" = some (some (.builtin "object.__setattr__"))) && decide (PySem.W.subIn K (.ref C) (.type "BaseException") = some true) && decide (PySem.W.typeIn K (.ref C) = some (.type "type")) && PySem.W.keepIn K (.ref C)
structure Lw where
  pr : Program
  T : Tab
  fns : List (Str × Nat × List Str)
  cls : List Str
  ini : List (Nat × Nat × Nat × List Str)
  subs : List ((Nat × Nat) × Bool)
  at_ : Nat → Str
  con : List (Str × P)
  fre : List Str
  ics : List Nat := []
  fds : List Nat := []
  /-- the own classes' functions, behind fns: class, top, place in it, names, name -/
  mfs : List (Nat × Nat × Nat × List Str × Str) := []
  inis : List (Nat × Nat) := []
  mts : List (Nat × Nat × Str) := []
  iso : List Nat := []
  eqs : List (Nat × Nat) := []
  /-- classes of which errors are made and kept -/
  ecs : List Nat := []
  /-- and those that are asked for -/
  dcl : List Nat := []
def Lw.st (L : Lw) (i : Nat) : Stmt := L.pr.main.body.getD i (.Pass ⟨0, 0, 0, 0⟩)
def Lw.ddf (L : Lw) (q : Str × Nat × List Str) : He.DefD := ⟨(q.1, none), q.1, q.1, defArgs (L.st q.2.1), defBody (L.st q.2.1), defScope (L.st q.2.1), [], []⟩
def Lw.cn (L : Lw) (c : Nat) : Str := L.cls.getD c Str.empty
def Lw.sti (L : Lw) (q : Nat × Nat × Nat × List Str) : Stmt := inClass (L.st q.2.1) q.2.2.1
def Lw.ddi (L : Lw) (q : Nat × Nat × Nat × List Str) : He.DefD := ⟨(L.cn q.1, some "__init__"), "__init__", L.cn q.1 ++ ".__init__", defArgs (L.sti q), defBody (L.sti q), defScope (L.sti q), [], []⟩
def Lw.stm (L : Lw) (q : Nat × Nat × Nat × List Str × Str) : Stmt := inClass (L.st q.2.1) q.2.2.1
def Lw.ddm (L : Lw) (q : Nat × Nat × Nat × List Str × Str) : He.DefD := ⟨(L.cn q.1, some q.2.2.2.2), q.2.2.2.2, L.cn q.1 ++ "." ++ q.2.2.2.2, defArgs (L.stm q), defBody (L.stm q), defScope (L.stm q), [], []⟩
def Lw.dds (L : Lw) : List He.DefD := L.fns.map L.ddf ++ L.ini.map L.ddi ++ L.mfs.map L.ddm
def conV : P → Value → Bool
  | .non, .none => true
  | .bl a, .bool b => a == b
  | .int i, .int j _ => decide (i = j)
  | .str s, .str t _ => decide (s = t) && PyData.strOk s
  | _, _ => false
def conB (K : PySem.W.Frag) (q : Str × P) : Bool := match PySem.W.nsIn K mainGlobals q.1 with
  | some (some u) => conV q.2 u
  | _ => false
def gloB (K : PySem.W.Frag) (x : Str) : Bool := decide (PySem.W.nsIn K mainGlobals x = some (some (.ref (He.ga K x))))
def freB (K : PySem.W.Frag) (x : Str) : Bool := decide (PySem.W.nsIn K mainGlobals x = some none)
def subB (L : Lw) (K : PySem.W.Frag) (q : (Nat × Nat) × Bool) : Bool :=
  decide (PySem.W.exmOne K (.ref (He.ga K (L.cn q.1.1))) (.ref (He.ga K (L.cn q.1.2))) = some q.2) && xfB K (He.ga K (L.cn q.1.1)) && decide (PySem.W.findIn K (.ref (He.ga K (L.cn q.1.1))) (L.at_ (L.T.xf q.1.1)) = some none)
def iniF (L : Lw) (K : PySem.W.Frag) (q : Nat × Nat × Nat × List Str) : Bool :=
  oexB K (He.ga K (L.cn q.1)) && decide (PySem.W.findIn K (.ref (He.ga K (L.cn q.1))) (L.at_ (L.T.xf q.1)) = some none) && decide (PySem.W.findIn K (.ref (He.ga K (L.cn q.1))) "__init__" = some (some (.ref (He.ma K (He.ga K (L.cn q.1)) "__init__")))) &&
    decide (PySem.W.typeIn K (.ref (He.ma K (He.ga K (L.cn q.1)) "__init__")) = some (.type "function"))
def icB (L : Lw) (K : PySem.W.Frag) (c : Nat) : Bool := (He.Fa.cls (L.cn c)).ok K && L.fds.all fun f => decide (PySem.W.findIn K (.ref (He.ga K (L.cn c))) (L.at_ f) = some none)
def isoB (L : Lw) (K : PySem.W.Frag) (c : Nat) : Bool :=
  decide (PySem.W.findIn K (.ref (He.ga K (L.cn c))) "__class__" = some (some (.builtin "object.__class__"))) && decide (PySem.W.specialIn K (.builtin "object.__class__") "__get__" = some (some (.builtin "getset_descriptor.__get__"))) &&
    decide (PySem.W.takesIn K (.builtin "object.__class__") = some true) && decide (PySem.W.mroIn K (He.ga K (L.cn c)) (.type "object") = some true) && decide (PySem.W.kitOne K (.ref (He.ga K (L.cn c))) (.ref (He.ga K (L.cn c))) = some true)
/-- which error class stands under which -/
def Lw.subT (L : Lw) : Nat → Nat → Option Bool := match L.ecs with
  | [] => fun c d => L.subs.lookup (c, d)
  | _ :: _ => fun c d => if L.ecs.contains c && L.dcl.contains d then some (c == d || d == 0) else none
def ecB (L : Lw) (K : PySem.W.Frag) (c : Nat) : Bool :=
  xfB K (He.ga K (L.cn c)) && decide (PySem.W.findIn K (.ref (He.ga K (L.cn c))) (L.at_ (L.T.xf c)) = some none) && decide (PySem.W.findIn K (.ref (He.ga K (L.cn c))) "__class__" = some (some (.builtin "object.__class__"))) && decide (PySem.W.mroIn K (He.ga K (L.cn c)) (.type "object") = some true) &&
    decide (PySem.W.kitOne K (.ref (He.ga K (L.cn c))) (.type "ValueError") = some true)
def ecB0 (K : PySem.W.Frag) : Bool := decide (PySem.W.specialIn K (.builtin "object.__class__") "__get__" = some (some (.builtin "getset_descriptor.__get__"))) && decide (PySem.W.takesIn K (.builtin "object.__class__") = some true)
def dcB (L : Lw) (K : PySem.W.Frag) (d : Nat) : Bool := decide (PySem.W.subIn K (.ref (He.ga K (L.cn d))) (.type "BaseException") = some true) && ((PySem.W.clsIn K (He.ga K (L.cn d))).isSome && decide (PySem.W.typeIn K (.ref (He.ga K (L.cn d))) = some (.type "type")))
def rowB (L : Lw) (K : PySem.W.Frag) (c : Nat) : Bool := match PySem.W.clsIn K (He.ga K (L.cn c)) with
  | some cd => !cd.mro.isEmpty && L.dcl.all fun d => cd.mro.contains (.ref (He.ga K (L.cn d))) == (c == d || d == 0)
  | none => false
def Lw.fbe (L : Lw) (K : PySem.W.Frag) : Bool := match L.ecs with
  | [] => true
  | _ :: _ => ecB0 K && (L.ecs.all (ecB L K) && (L.dcl.all (dcB L K) && L.ecs.all (rowB L K)))
def Lw.fbm (L : Lw) (K : PySem.W.Frag) : Bool := (L.mfs.all fun q => (He.Fa.meth (L.cn q.1) q.2.2.2.2).ok K) && (L.inis.all fun q => (He.Fa.mkr (L.cn q.1)).ok K) && L.iso.all (isoB L K)
/-- what the end of the top must say -/
def Lw.fb0 (L : Lw) (K : PySem.W.Frag) : Bool := L.con.all (conB K) && L.fre.all (freB K) && (L.fns.all fun q => gloB K q.1) && L.cls.all (gloB K) && L.subs.all (subB L K) && L.ini.all (iniF L K) && L.ics.all (icB L K) && L.dds.all fun d => d.ok K
def Lw.fb (L : Lw) (K : PySem.W.Frag) : Bool := L.fb0 K && (L.fbm K && L.fbe K)
abbrev Alw : Type := Bool × List He.FnW
def Lw.obs (L : Lw) (n : Nat) (g : Addr → Option Obj) : Alw := (L.fb (He.frG g (He.asD g n)), L.dds.map fun d => He.fnW (He.frG g (He.asD g n)) d.at_)
def Lw.Says (L : Lw) (K : PySem.W.Frag) : Prop := L.fb K = true ∧ (L.dds.map fun d => He.fnW K d.at_) = L.dds.map He.DefD.val
def Lw.hook (L : Lw) (n : Nat) : PySem.W.Hook where
  α := Alw
  obs := fun s => L.obs n s.heap.get?
  val := fun _ => (true, L.dds.map He.DefD.val)
  says := fun _ h => ∃ K : PySem.W.Frag, K.In h ∧ L.Says K
  of := fun _ _ e => ⟨_, He.frG_in, (Prod.mk.injEq .. ▸ e : _ ∧ _)⟩
  keeps := fun _ _ _ ⟨K, hK, c⟩ k => ⟨K, PySem.W.Frag.In.keeps hK k, c⟩
theorem Lw.obs_eq (L : Lw) {n : Nat} {g : Addr → Option Obj} {s : Shared} (h : ∀ a, g a = s.heap.get? a) : L.obs n g = (L.hook n).obs s := by
  have e : g = s.heap.get? := funext h
  rw [e] <;> rfl
end Tw

set_option linter.all false
set_option Elab.async false
set_option maxRecDepth 100000
set_option maxHeartbeats 0
namespace Tw.K01
open PySem Tw
/-! 0 is_integer (value) -/
def b_is_integer_0 : List Sm := (.ret (.and [(.isi (.var 0) [.int]), (.not (.isi (.var 0) [.bool]))])) :: []
def f_is_integer : FnI := ⟨1, 1, b_is_integer_0⟩
/-! 1 is_integer_in (value, least, most) -/
def b_is_integer_in_0 : List Sm := (.ret (.and [(.call 0 [(.var 0)]), (.chn .le .le (.var 1) (.var 0) (.var 2))])) :: []
def f_is_integer_in : FnI := ⟨3, 3, b_is_integer_in_0⟩
/-! 2 is_tuple_of (value, size) -/
def b_is_tuple_of_0 : List Sm := (.ret (.and [(.isi (.var 0) [.tuple]), (.cmp .eq (.len (.var 0)) (.var 1))])) :: []
def f_is_tuple_of : FnI := ⟨2, 2, b_is_tuple_of_0⟩
/-! 3 is_tuple_in (value, least, most) -/
def b_is_tuple_in_0 : List Sm := (.ret (.and [(.isi (.var 0) [.tuple]), (.chn .le .le (.var 1) (.len (.var 0)) (.var 2))])) :: []
def f_is_tuple_in : FnI := ⟨3, 3, b_is_tuple_in_0⟩
/-! 4 is_word_of (value, words) -/
def b_is_word_of_0 : List Sm := (.ret (.and [(.isi (.var 0) [.str]), (.cmp .inn (.var 0) (.var 1))])) :: []
def f_is_word_of : FnI := ⟨2, 2, b_is_word_of_0⟩
/-! 5 is_pace (value) -/
def b_is_pace_1 : List Sm := (.ret (.and [(.call 1 [(.idx (.var 0) (.cst (.int 1))), (.cst (.int 1)), (.cst (.int 400))]), (.call 4 [(.idx (.var 0) (.cst (.int 2))), (.tup [(.cst (.str (Str.ofString "flat"))), (.cst (.str (Str.ofString "ramp")))])])])) :: []
def b_is_pace_0 : List Sm := (.ite (.or [(.not (.call 2 [(.var 0), (.cst (.int 3))])), (.not (.call 1 [(.idx (.var 0) (.cst (.int 0))), (.cst (.int 0)), (.cst (.int 2000))]))]) [(.ret (.cst (.bl false)))] []) :: b_is_pace_1
def f_is_pace : FnI := ⟨1, 1, b_is_pace_0⟩
/-! 6 are_paces (value, at, triple) -/
def b_are_paces_2 : List Sm := (.ret (.and [(.cmp .eq (.idx (.idx (.var 0) (.cst (.int 0))) (.cst (.int 0))) (.cst (.int 0))), (.cmp .eq (.idx (.idx (.var 0) (.neg (.cst (.int 1)))) (.cst (.int 2))) (.cst (.str (Str.ofString "flat"))))])) :: []
def b_are_paces_1 : List Sm := (.ite (.not (.bi .all [(.lcr [1] (.nm 1) [(.cst (.int 1)), (.len (.var 0))] [] (.cmp .lt (.idx (.idx (.var 0) (.bin .sub (.var 1) (.cst (.int 1)))) (.cst (.int 0))) (.idx (.idx (.var 0) (.var 1)) (.cst (.int 0)))))])) [(.ret (.cst (.bl false)))] []) :: b_are_paces_2
def b_are_paces_0 : List Sm := (.ite (.or [(.not (.call 3 [(.var 0), (.cst (.int 1)), (.cst (.int 40))])), (.not (.bi .all [(.lc [2] (.nm 2) (.var 0) [] (.call 5 [(.var 2)]))]))]) [(.ret (.cst (.bl false)))] []) :: b_are_paces_1
def f_are_paces : FnI := ⟨1, 3, b_are_paces_0⟩
/-! 7 pace_between (point, later, tick, begin, pace, word) -/
def b_pace_between_2 : List Sm := (.ret (.bin .add (.var 4) (.bin .div (.bin .mul (.bin .sub (.idx (.var 1) (.cst (.int 1))) (.var 4)) (.bin .sub (.var 2) (.var 3))) (.bin .sub (.idx (.var 1) (.cst (.int 0))) (.var 3))))) :: []
def b_pace_between_1 : List Sm := (.ite (.cmp .eq (.var 5) (.cst (.str (Str.ofString "flat")))) [(.ret (.var 4))] []) :: b_pace_between_2
def b_pace_between_0 : List Sm := (.set (.tp [3, 4, 5]) (.var 0)) :: b_pace_between_1
def f_pace_between : FnI := ⟨3, 6, b_pace_between_0⟩
/-! 8 law_box (script, k, cell, great) -/
def b_law_box_3 : List Sm := (.ret (.mut (.lst [(.var 3), (.bin .add (.bin .mod (.bi .int [(.bin .add (.bin .mul (.bin .mod (.bi .int [(.var 2)]) (.cst (.int 1000000007))) (.cst (.int 48271))) (.bin .mul (.cst (.int 613)) (.var 1)))]) (.cst (.int 2147483647))) (.cst (.int 1)))]))) :: []
def b_law_box_2 : List Sm := (.set (.nm 3) (.idx (.lst [(.cst (.int 0)), (.var 2)]) (.bi .int [(.cmp .ge (.var 2) (.bin .pow (.cst (.int 10)) (.cst (.int 18))))]))) :: b_law_box_3
def b_law_box_1 : List Sm := (.ite (.cmp .lt (.var 1) (.len (.var 0))) [(.set (.nm 2) (.bi .abs [(.idx (.var 0) (.var 1))]))] [(.ite (.cmp .gt (.len (.var 0)) (.cst (.int 0))) [(.set (.nm 2) (.bin .add (.bin .mul (.bin .mod (.bi .int [(.bi .abs [(.idx (.var 0) (.bin .mod (.bi .int [(.var 1)]) (.len (.var 0))))])]) (.cst (.int 1000000007))) (.cst (.int 31))) (.bin .mul (.cst (.int 7919)) (.var 1))))] [])]) :: b_law_box_2
def b_law_box_0 : List Sm := (.set (.nm 2) (.bin .add (.bin .mul (.cst (.int 7919)) (.var 1)) (.cst (.int 101)))) :: b_law_box_1
def f_law_box : FnI := ⟨2, 4, b_law_box_0⟩
/-! 9 law_take (box, many, got) -/
def b_law_take_2 : List Sm := (.ret (.bin .mod (.bi .int [(.bin .div (.idx (.var 0) (.cst (.int 1))) (.cst (.int 8191)))]) (.var 1))) :: []
def b_law_take_1 : List Sm := (.seti (.var 0) (.cst (.int 1)) (.bin .mod (.bi .int [(.bin .add (.bin .mul (.idx (.var 0) (.cst (.int 1))) (.cst (.int 39373))) (.cst (.int 69621)))]) (.cst (.int 2147483647)))) :: b_law_take_2
def b_law_take_0 : List Sm := (.ite (.cmp .gt (.idx (.var 0) (.cst (.int 0))) (.cst (.int 0))) [(.set (.nm 2) (.bin .mod (.bi .int [(.idx (.var 0) (.cst (.int 0)))]) (.var 1))), (.seti (.var 0) (.cst (.int 0)) (.bin .div (.idx (.var 0) (.cst (.int 0))) (.var 1))), (.ret (.var 2))] []) :: b_law_take_1
def f_law_take : FnI := ⟨2, 3, b_law_take_0⟩
/-! 10 law_pick (box, some) -/
def b_law_pick_0 : List Sm := (.ret (.idx (.var 1) (.calls 9 [(.var 0), (.len (.var 1))]))) :: []
def f_law_pick : FnI := ⟨2, 2, b_law_pick_0⟩
/-! 11 law_ones (v, found) -/
def b_law_ones_3 : List Sm := (.ret (.bin .add (.var 1) (.lst [(.err 22 (.var 0)), (.err 23 (.var 0))]))) :: []
def b_law_ones_2 : List Sm := (.set (.nm 1) (.bin .add (.var 1) (.lst [(.err 15 (.var 0)), (.err 16 (.var 0)), (.err 17 (.var 0)), (.err 18 (.var 0)), (.err 19 (.var 0)), (.err 20 (.var 0)), (.err 21 (.var 0))]))) :: b_law_ones_3
def b_law_ones_1 : List Sm := (.set (.nm 1) (.bin .add (.var 1) (.lst [(.err 8 (.var 0)), (.err 9 (.var 0)), (.err 10 (.var 0)), (.err 11 (.var 0)), (.err 12 (.var 0)), (.err 13 (.var 0)), (.err 14 (.var 0))]))) :: b_law_ones_2
def b_law_ones_0 : List Sm := (.set (.nm 1) (.lst [(.err 1 (.var 0)), (.err 2 (.var 0)), (.err 3 (.var 0)), (.err 4 (.var 0)), (.err 5 (.var 0)), (.err 6 (.var 0)), (.err 7 (.var 0))])) :: b_law_ones_1
def f_law_ones : FnI := ⟨1, 2, b_law_ones_0⟩
/-! 12 law_kinds (e, found) -/
def b_law_kinds_6 : List Sm := (.ret (.bin .add (.var 1) (.lst [(.isx 0 (.var 0)), (.isv (.var 0))]))) :: []
def b_law_kinds_5 : List Sm := (.set (.nm 1) (.bin .add (.var 1) (.lst [(.isx 21 (.var 0)), (.isx 22 (.var 0)), (.isx 23 (.var 0)), (.isx 24 (.var 0)), (.isx 25 (.var 0))]))) :: b_law_kinds_6
def b_law_kinds_4 : List Sm := (.set (.nm 1) (.bin .add (.var 1) (.lst [(.isx 17 (.var 0)), (.isx 18 (.var 0)), (.isx 19 (.var 0)), (.isx 20 (.var 0))]))) :: b_law_kinds_5
def b_law_kinds_3 : List Sm := (.set (.nm 1) (.bin .add (.var 1) (.lst [(.isx 13 (.var 0)), (.isx 14 (.var 0)), (.isx 15 (.var 0)), (.isx 16 (.var 0))]))) :: b_law_kinds_4
def b_law_kinds_2 : List Sm := (.set (.nm 1) (.bin .add (.var 1) (.lst [(.isx 9 (.var 0)), (.isx 10 (.var 0)), (.isx 11 (.var 0)), (.isx 12 (.var 0))]))) :: b_law_kinds_3
def b_law_kinds_1 : List Sm := (.set (.nm 1) (.bin .add (.var 1) (.lst [(.isx 5 (.var 0)), (.isx 6 (.var 0)), (.isx 7 (.var 0)), (.isx 8 (.var 0))]))) :: b_law_kinds_2
def b_law_kinds_0 : List Sm := (.set (.nm 1) (.lst [(.isx 1 (.var 0)), (.isx 2 (.var 0)), (.isx 3 (.var 0)), (.isx 4 (.var 0))])) :: b_law_kinds_1
def f_law_kinds : FnI := ⟨1, 2, b_law_kinds_0⟩
/-! 13 law (script, box, some, v, errors, one, k, e, names, what, j) -/
def b_law_10 : List Sm := (.tr [(.ex (.new 26 14 [(.tup [])])), (.ret (.cst (.bl false)))] [⟨0, 7, (.and [(.exi 3 7), (.cmp .eq (.exv 100 7) (.tup []))])⟩]) :: []
def b_law_9 : List Sm := (.frr (.nm 6) [(.len (.var 4))] [(.ite (.cmp .ne (.call 12 [(.idx (.var 4) (.var 6))]) (.lcr [10] (.nm 10) [(.bin .add (.len (.var 4)) (.cst (.int 2)))] [] (.or [(.cmp .eq (.var 10) (.var 6)), (.cmp .ge (.var 10) (.len (.var 4)))]))) [(.ret (.cst (.bl false)))] [])]) :: b_law_10
def b_law_8 : List Sm := (.set (.nm 4) (.bin .add (.var 4) (.lst [(.var 8), (.var 9)]))) :: b_law_9
def b_law_7 : List Sm := (.ite (.or [(.cmp .ne (.xfd 101 (.var 8)) (.var 3)), (.cmp .ne (.xfd 102 (.var 9)) (.var 3))]) [(.ret (.cst (.bl false)))] []) :: b_law_8
def b_law_6 : List Sm := (.par 8 9 (.err 24 (.var 3)) (.err 25 (.var 3))) :: b_law_7
def b_law_5 : List Sm := (.fr (.nm 5) (.var 4) [(.ite (.cmp .ne (.xfd 100 (.var 5)) (.var 3)) [(.ret (.cst (.bl false)))] [])]) :: b_law_6
def b_law_4 : List Sm := (.set (.nm 4) (.call 11 [(.var 3)])) :: b_law_5
def b_law_3 : List Sm := (.set (.nm 3) (.calls 10 [(.var 1), (.var 2)])) :: b_law_4
def b_law_2 : List Sm := (.set (.nm 2) (.bin .add (.var 2) (.lst [(.lst [(.calls 9 [(.var 1), (.cst (.int 9))])]), (.cst .non), (.cst (.bl true)), (.tup [])]))) :: b_law_3
def b_law_1 : List Sm := (.set (.nm 2) (.lst [(.bin .sub (.calls 9 [(.var 1), (.bin .pow (.cst (.int 10)) (.cst (.int 6)))]) (.cst (.int 500000))), (.bin .add (.cst (.str (Str.ofString "text "))) (.bi .str [(.calls 9 [(.var 1), (.cst (.int 99))])])), (.tup [(.cst (.int 1)), (.calls 9 [(.var 1), (.cst (.int 9))])])])) :: b_law_2
def b_law_0 : List Sm := (.set (.nm 1) (.calls 8 [(.var 0), (.cst (.int 0))])) :: b_law_1
def f_law : FnI := ⟨1, 11, b_law_0⟩
/-! 14 m_Tempo___init__ (self, paces, sums, at, tick) -/
def b_m_Tempo___init___4 : List Sm := (.setf (.var 0) 4 (.bi .tuple [(.var 2)])) :: []
def b_m_Tempo___init___3 : List Sm := (.frr (.nm 3) [(.bin .sub (.len (.var 1)) (.cst (.int 1)))] [(.frr (.nm 4) [(.idx (.idx (.var 1) (.var 3)) (.cst (.int 0))), (.idx (.idx (.var 1) (.bin .add (.var 3) (.cst (.int 1)))) (.cst (.int 0)))] [(.ex (.app (.var 2) (.bin .add (.idx (.var 2) (.neg (.cst (.int 1)))) (.call 7 [(.idx (.var 1) (.var 3)), (.idx (.var 1) (.bin .add (.var 3) (.cst (.int 1)))), (.var 4)]))))])]) :: b_m_Tempo___init___4
def b_m_Tempo___init___2 : List Sm := (.set (.nm 2) (.mut (.lst [(.cst (.int 0))]))) :: b_m_Tempo___init___3
def b_m_Tempo___init___1 : List Sm := (.setf (.var 0) 3 (.var 1)) :: b_m_Tempo___init___2
def b_m_Tempo___init___0 : List Sm := (.ite (.not (.call 6 [(.var 1)])) [(.rse 3 (.var 1))] []) :: b_m_Tempo___init___1
def f_m_Tempo___init__ : FnI := ⟨2, 5, b_m_Tempo___init___0⟩
/-! 15 m_Tempo_sums (self) -/
def b_m_Tempo_sums_0 : List Sm := (.ret (.fld 4 (.var 0))) :: []
def f_m_Tempo_sums : FnI := ⟨1, 1, b_m_Tempo_sums_0⟩
/-! 16 m_Tempo___eq__ (self, other) -/
def b_m_Tempo___eq___0 : List Sm := (.ret (.and [(.isO 26 (.var 1)), (.cmp .eq (.fld 3 (.var 0)) (.fld 3 (.var 1)))])) :: []
def f_m_Tempo___eq__ : FnI := ⟨2, 2, b_m_Tempo___eq___0⟩
def subs : List ((Nat × Nat) × Bool) := []
def ecl : List Nat := [1, 2, 3, 4, 5, 6, 7, 8, 9, 10, 11, 12, 13, 14, 15, 16, 17, 18, 19, 20, 21, 22, 23, 24, 25]
def dcl : List Nat := [0, 1, 2, 3, 4, 5, 6, 7, 8, 9, 10, 11, 12, 13, 14, 15, 16, 17, 18, 19, 20, 21, 22, 23, 24, 25]
def tab : Tab where
  fns := [f_is_integer, f_is_integer_in, f_is_tuple_of, f_is_tuple_in, f_is_word_of, f_is_pace, f_are_paces, f_pace_between, f_law_box, f_law_take, f_law_pick, f_law_ones, f_law_kinds, f_law, f_m_Tempo___init__, f_m_Tempo_sums, f_m_Tempo___eq__]
  ini := fun c => match c with
    | 26 => 14
    | _ => 17
  xf := fun c => match c with
    | 1 => 100
    | 2 => 100
    | 3 => 100
    | 4 => 100
    | 5 => 100
    | 6 => 100
    | 7 => 100
    | 8 => 100
    | 9 => 100
    | 10 => 100
    | 11 => 100
    | 12 => 100
    | 13 => 100
    | 14 => 100
    | 15 => 100
    | 16 => 100
    | 17 => 100
    | 18 => 100
    | 19 => 100
    | 20 => 100
    | 21 => 100
    | 22 => 100
    | 23 => 100
    | 24 => 101
    | 25 => 102
    | _ => 0
  sub := fun c d => if ecl.contains c && dcl.contains d then some (c == d || d == 0) else none
def L : Lw where
  pr := PySem.Challenge.pw_trackloom_k01_errors
  T := tab
  fns := [(("is_integer" : Str), 28, [("value" : Str)]), (("is_integer_in" : Str), 29, [("value" : Str), ("least" : Str), ("most" : Str)]), (("is_tuple_of" : Str), 30, [("value" : Str), ("size" : Str)]), (("is_tuple_in" : Str), 31, [("value" : Str), ("least" : Str), ("most" : Str)]), (("is_word_of" : Str), 32, [("value" : Str), ("words" : Str)]), (("is_pace" : Str), 37, [("value" : Str)]), (("are_paces" : Str), 38, [("value" : Str), ("at" : Str), ("triple" : Str)]), (("pace_between" : Str), 40, [("point" : Str), ("later" : Str), ("tick" : Str), ("begin" : Str), ("pace" : Str), ("word" : Str)]), (("_law_box" : Str), 42, [("script" : Str), ("k" : Str), ("cell" : Str), ("great" : Str)]), (("_law_take" : Str), 43, [("box" : Str), ("many" : Str), ("got" : Str)]), (("_law_pick" : Str), 44, [("box" : Str), ("some" : Str)]), (("_law_ones" : Str), 45, [("v" : Str), ("found" : Str)]), (("_law_kinds" : Str), 46, [("e" : Str), ("found" : Str)]), (("law" : Str), 47, [("script" : Str), ("box" : Str), ("some" : Str), ("v" : Str), ("errors" : Str), ("one" : Str), ("k" : Str), ("e" : Str), ("names" : Str), ("what" : Str), ("j" : Str)])]
  cls := [("StudioError" : Str), ("InvalidNumber" : Str), ("InvalidName" : Str), ("InvalidPaces" : Str), ("InvalidBars" : Str), ("InvalidPlace" : Str), ("InvalidPart" : Str), ("InvalidCurve" : Str), ("InvalidTuning" : Str), ("InvalidTone" : Str), ("InvalidPool" : Str), ("InvalidClip" : Str), ("InvalidEffect" : Str), ("InvalidSamples" : Str), ("InvalidNodes" : Str), ("InvalidOrder" : Str), ("InvalidBlocks" : Str), ("InvalidKept" : Str), ("InvalidMark" : Str), ("InvalidBytes" : Str), ("InvalidText" : Str), ("InvalidValue" : Str), ("InvalidDeed" : Str), ("InvalidStamp" : Str), ("Round" : Str), ("Undefined" : Str), ("Tempo" : Str)]
  ini := [(1, 2, 0, [("self" : Str), ("value" : Str)]), (2, 3, 0, [("self" : Str), ("value" : Str)]), (3, 4, 0, [("self" : Str), ("value" : Str)]), (4, 5, 0, [("self" : Str), ("value" : Str)]), (5, 6, 0, [("self" : Str), ("value" : Str)]), (6, 7, 0, [("self" : Str), ("value" : Str)]), (7, 8, 0, [("self" : Str), ("value" : Str)]), (8, 9, 0, [("self" : Str), ("value" : Str)]), (9, 10, 0, [("self" : Str), ("value" : Str)]), (10, 11, 0, [("self" : Str), ("value" : Str)]), (11, 12, 0, [("self" : Str), ("value" : Str)]), (12, 13, 0, [("self" : Str), ("value" : Str)]), (13, 14, 0, [("self" : Str), ("value" : Str)]), (14, 15, 0, [("self" : Str), ("value" : Str)]), (15, 16, 0, [("self" : Str), ("value" : Str)]), (16, 17, 0, [("self" : Str), ("value" : Str)]), (17, 18, 0, [("self" : Str), ("value" : Str)]), (18, 19, 0, [("self" : Str), ("value" : Str)]), (19, 20, 0, [("self" : Str), ("value" : Str)]), (20, 21, 0, [("self" : Str), ("value" : Str)]), (21, 22, 0, [("self" : Str), ("value" : Str)]), (22, 23, 0, [("self" : Str), ("value" : Str)]), (23, 24, 0, [("self" : Str), ("value" : Str)]), (24, 25, 0, [("self" : Str), ("names" : Str)]), (25, 26, 0, [("self" : Str), ("what" : Str)])]
  subs := subs
  at_ := fun f => match f with
    | 100 => ("value" : Str)
    | 101 => ("names" : Str)
    | 102 => ("what" : Str)
    | 0 => ("value" : Str)
    | 1 => ("names" : Str)
    | 2 => ("what" : Str)
    | 3 => ("paces" : Str)
    | 4 => ("_sums" : Str)
    | _ => Str.empty
  con := [(("MOST_POINTS" : Str), (.int 40)), (("MOST_TICK" : Str), (.int 2000)), (("MOST_PACE" : Str), (.int 400))]
  fre := [("isinstance" : Str), ("len" : Str), ("int" : Str), ("bool" : Str), ("str" : Str), ("tuple" : Str), ("all" : Str), ("abs" : Str), ("range" : Str), ("ValueError" : Str)]
  ics := [26]
  mfs := [(26, 39, 0, [("self" : Str), ("paces" : Str), ("sums" : Str), ("at" : Str), ("tick" : Str)], ("__init__" : Str)), (26, 39, 1, [("self" : Str)], ("sums" : Str)), (26, 39, 2, [("self" : Str), ("other" : Str)], ("__eq__" : Str))]
  inis := [(26, 14)]
  mts := [(26, 15, ("sums" : Str))]
  iso := [26]
  ecs := ecl
  dcl := dcl
  eqs := [(26, 16)]
  fds := [3, 4]
-- law: function 13, top 47; loose: "InvalidBars", "InvalidBlocks", "InvalidBytes", "InvalidClip", "InvalidCurve", "InvalidDeed", "InvalidEffect", "InvalidKept", "InvalidMark", "InvalidName", "InvalidNodes", "InvalidNumber", "InvalidOrder", "InvalidPaces", "InvalidPart", "InvalidPlace", "InvalidPool", "InvalidSamples", "InvalidStamp", "InvalidText", "InvalidTone", "InvalidTuning", "InvalidValue", "MOST_PACE", "MOST_POINTS", "MOST_TICK", "Round", "StudioError", "Tempo", "Undefined", "_law_box", "_law_kinds", "_law_ones", "_law_pick", "_law_take", "are_paces", "is_integer", "is_integer_in", "is_pace", "is_tuple_in", "is_tuple_of", "is_word_of", "pace_between"
end Tw.K01

set_option linter.all false
set_option Elab.async false
set_option maxRecDepth 100000
set_option maxHeartbeats 0
namespace Tw.K01
open PySem PySem.Spec PyProof.Rows L2 Tw
abbrev R : PySem.W.OpenRow := PySem.W.OpenLaw.row PySem.Challenge.rw_trackloom_k01_errors
abbrev hk : PySem.W.Hook := L.hook 5
def ob (s : PySem.W.SharedT) : Alw := L.obs 5 (HandSHeadRun.getT s)
theorem ob_eq (s : PySem.W.SharedT) : ob s = hk.obs s.abs := Lw.obs_eq L (HandSHeadRun.getT_eq s)
def loose : List Str := [("InvalidBars" : Str), ("InvalidBlocks" : Str), ("InvalidBytes" : Str), ("InvalidClip" : Str), ("InvalidCurve" : Str), ("InvalidDeed" : Str), ("InvalidEffect" : Str), ("InvalidKept" : Str), ("InvalidMark" : Str), ("InvalidName" : Str), ("InvalidNodes" : Str), ("InvalidNumber" : Str), ("InvalidOrder" : Str), ("InvalidPaces" : Str), ("InvalidPart" : Str), ("InvalidPlace" : Str), ("InvalidPool" : Str), ("InvalidSamples" : Str), ("InvalidStamp" : Str), ("InvalidText" : Str), ("InvalidTone" : Str), ("InvalidTuning" : Str), ("InvalidValue" : Str), ("MOST_PACE" : Str), ("MOST_POINTS" : Str), ("MOST_TICK" : Str), ("Round" : Str), ("StudioError" : Str), ("Tempo" : Str), ("Undefined" : Str), ("_law_box" : Str), ("_law_kinds" : Str), ("_law_ones" : Str), ("_law_pick" : Str), ("_law_take" : Str), ("are_paces" : Str), ("is_integer" : Str), ("is_integer_in" : Str), ("is_pace" : Str), ("is_tuple_in" : Str), ("is_tuple_of" : Str), ("is_word_of" : Str), ("pace_between" : Str)]
theorem run (w : World) : HandSHeadRun.RunEq R (PySem.W.view R.prog [47]) hk ob 12000 loose w := by
  intro os
  kernel_rfl
end Tw.K01

set_option linter.all false
set_option Elab.async false
set_option maxRecDepth 100000
set_option maxHeartbeats 2000000
/-! TwB1: how trees and the store stand in the machine's heap. -/
namespace Tw
open PySem PySem.Spec PyProof.Rows L2

/-! ### rows in pairs -/
inductive F2 {α β : Type} (R : α → β → Prop) : List α → List β → Prop where
  | nil : F2 R [] []
  | cons {a : α} {b : β} {xs : List α} {ys : List β} (h : R a b) (t : F2 R xs ys) : F2 R (a :: xs) (b :: ys)
namespace F2
variable {α β : Type} {R R' : α → β → Prop}
theorem len {xs : List α} {ys : List β} (h : F2 R xs ys) : xs.length = ys.length := by
  induction h with
  | nil => rfl
  | cons _ _ ih => simp [ih]
theorem mono {xs : List α} {ys : List β} (h : F2 R xs ys) (m : ∀ a b, R a b → R' a b) : F2 R' xs ys := by
  induction h with
  | nil => exact .nil
  | cons h _ ih => exact .cons (m _ _ h) ih
theorem get {xs : List α} {ys : List β} (h : F2 R xs ys) : ∀ {i : Nat} {x : α}, xs[i]? = some x → ∃ y, ys[i]? = some y ∧ R x y := by
  induction h with
  | nil => intro i x e; simp at e
  | cons h _ ih =>
    intro i x e
    cases i with
    | zero => simp at e; subst e; exact ⟨_, rfl, h⟩
    | succ i => simpa using ih (by simpa using e)
theorem getR {xs : List α} {ys : List β} (h : F2 R xs ys) : ∀ {i : Nat} {y : β}, ys[i]? = some y → ∃ x, xs[i]? = some x ∧ R x y := by
  induction h with
  | nil => intro i x e; simp at e
  | cons h _ ih =>
    intro i x e
    cases i with
    | zero => simp at e; subst e; exact ⟨_, rfl, h⟩
    | succ i => simpa using ih (by simpa using e)
theorem app {xs xs' : List α} {ys ys' : List β} (h : F2 R xs ys) (h' : F2 R xs' ys') : F2 R (xs ++ xs') (ys ++ ys') := by
  induction h with
  | nil => exact h'
  | cons h _ ih => exact .cons h ih
theorem take {xs : List α} {ys : List β} (h : F2 R xs ys) : ∀ n, F2 R (xs.take n) (ys.take n) := by
  induction h with
  | nil => intro n; simp; exact .nil
  | cons h _ ih =>
    intro n
    cases n with
    | zero => exact .nil
    | succ n => exact .cons h (ih n)
theorem drop {xs : List α} {ys : List β} (h : F2 R xs ys) : ∀ n, F2 R (xs.drop n) (ys.drop n) := by
  induction h with
  | nil => intro n; simp; exact .nil
  | cons h t ih =>
    intro n
    cases n with
    | zero => exact .cons h t
    | succ n => exact ih n
theorem set {xs : List α} {ys : List β} (h : F2 R xs ys) {x : α} {y : β} (r : R x y) : ∀ n, F2 R (xs.set n x) (ys.set n y) := by
  induction h with
  | nil => intro n; exact .nil
  | cons h t ih =>
    intro n
    cases n with
    | zero => exact .cons r t
    | succ n => exact .cons h (ih n)
theorem rep {xs : List α} {ys : List β} (h : F2 R xs ys) : ∀ n, F2 R (List.replicate n xs).flatten (List.replicate n ys).flatten
  | 0 => .nil
  | n + 1 => by
    rw [List.replicate_succ, List.replicate_succ, List.flatten_cons, List.flatten_cons]
    exact h.app (rep h n)
theorem one {x : α} {y : β} (h : R x y) : F2 R [x] [y] := .cons h .nil
theorem rev {xs : List α} {ys : List β} (h : F2 R xs ys) : F2 R xs.reverse ys.reverse := by
  induction h with
  | nil => exact .nil
  | cons h _ ih =>
    rw [List.reverse_cons, List.reverse_cons]
    exact ih.app (one h)
theorem inv1 {x : α} {ys : List β} (h : F2 R [x] ys) : ∃ y, ys = [y] ∧ R x y := by
  cases h with
  | cons h t => cases t; exact ⟨_, rfl, h⟩
theorem inv2 {x x' : α} {ys : List β} (h : F2 R [x, x'] ys) : ∃ y y', ys = [y, y'] ∧ R x y ∧ R x' y' := by
  cases h with
  | cons h t =>
    obtain ⟨y', rfl, h'⟩ := t.inv1
    exact ⟨_, _, rfl, h, h'⟩
theorem inv0 {ys : List β} (h : F2 R ([] : List α) ys) : ys = [] := by cases h; rfl
theorem of_map {γ : Type} (f : γ → α) {xs : List γ} {ys : List β} (h : F2 (fun x y => R (f x) y) xs ys) : F2 R (xs.map f) ys := by
  induction h with
  | nil => exact .nil
  | cons h _ ih => exact .cons h ih
theorem to_map {γ : Type} (f : γ → α) : ∀ {xs : List γ} {ys : List β}, F2 R (xs.map f) ys → F2 (fun x y => R (f x) y) xs ys
  | [], _, h => by cases h; exact .nil
  | x :: xs, _, h => by cases h with | cons h t => exact .cons h (to_map f t)
end F2

/-! ### the world of one text -/
structure Wd where
  K : PySem.W.Frag
  /-- attributes' names -/
  fa : Nat → Str
  /-- classes' addresses -/
  ca : Nat → Addr
  /-- error classes: the attribute -/
  xf : Nat → Nat
  /-- classes of which instances are made -/
  ic : List Nat
  /-- fields in use -/
  fs : List Nat
  /-- error classes of which errors are made and kept -/
  ec : List Nat
/-- an instance's class and fields -/
def InsOk (G : Wd) (c : Nat) (ks : List Nat) : Prop := c ∈ G.ic ∧ ∀ k ∈ ks, k ∈ G.fs

/-- a list that stands for good -/
def Fz (K : PySem.W.Frag) (m : List Addr) (H : Hp) (a : Addr) (vs : List V) : Prop :=
  (Rd H a (.lst vs) ∧ a ∉ m) ∨ ∃ (o : Obj) (its : Array Value) (n : Nat), K.lookup a = some o ∧ o.cls = .type "list" ∧ o.dict = none ∧ o.data = .seq its n ∧ its.size ≤ sizeLine ∧ Vals vs its.toList
theorem Fz.sq {K : PySem.W.Frag} {m : List Addr} {H : Hp} {a : Addr} {vs : List V} (h : Fz K m H a vs) : SqL K H a vs := by
  rcases h with ⟨h, _⟩ | h
  · exact .inl h
  · exact .inr h

/-- a tuple that is known to have no attributes of its own -/
def Tq (H : Hp) (a : Addr) (vs : List V) : Prop := ∃ o : Obj, H a = some (.frz o (.tup vs)) ∧ o.dict = none
theorem Tq.sq {K : PySem.W.Frag} {H : Hp} {a : Addr} {vs : List V} (h : Tq H a vs) : SqT K H a vs := let ⟨o, e, _⟩ := h; .inl (.inr ⟨o, e⟩)
/-- what follows a new tuple -/
def NewT (H : Hp) (Q : VK) (vs : List V) : Prop := ∀ (p : Addr) (o : Obj), H p = none → o.dict = none → Q (.ref p) (upd H p (.frz o (.tup vs)))
mutual
def RD (G : Wd) (m : List Addr) (H : Hp) : P → V → Prop
  | .non, v => v = .non
  | .bl b, v => v = .bl b
  | .int i, v => v = .int i
  | .str s, v => v = .str s ∧ PySem.PyData.strOk s = true
  | .tup xs, v => ∃ a vs, v = .ref a ∧ Tq H a vs ∧ xs.length ≤ sizeLine ∧ RDs G m H xs vs
  | .lst xs, v => ∃ a vs, v = .ref a ∧ Fz G.K m H a vs ∧ xs.length ≤ sizeLine ∧ RDs G m H xs vs
  | .ins c ks xs, v => ∃ a dx vs, v = .ref a ∧ H a = some (.ins (G.ca c) dx ((ks.map G.fa).zip vs)) ∧ (a ∉ m ∧ InsOk G c ks) ∧ ks.length = xs.length ∧ RDs G m H xs vs
  | .err c x, v => ∃ a d w, v = .ref a ∧ (H a = some (exo a (G.ca c) (some d)) ∧ H d = some (exd d [(G.fa (G.xf c), w)])) ∧ (a ∉ m ∧ d ∉ m) ∧ c ∈ G.ec ∧ RD G m H x w
def RDs (G : Wd) (m : List Addr) (H : Hp) : List P → List V → Prop
  | [], vs => vs = []
  | x :: xs, vs => ∃ v r, vs = v :: r ∧ RD G m H x v ∧ RDs G m H xs r
end
theorem RDs_f2 {G : Wd} {m : List Addr} {H : Hp} : ∀ {xs : List P} {vs : List V}, RDs G m H xs vs ↔ F2 (RD G m H) xs vs
  | [], vs => ⟨fun h => by simp only [RDs] at h; subst h; exact .nil, fun h => by cases h; simp [RDs]⟩
  | x :: xs, vs => ⟨fun h => by
      simp only [RDs] at h
      obtain ⟨v, r, rfl, h1, h2⟩ := h
      exact .cons h1 (RDs_f2.mp h2), fun h => by
      cases h with
      | cons h t => simp only [RDs]; exact ⟨_, _, rfl, h, RDs_f2.mpr t⟩⟩

/-- what stands outside of the store stays, and outside of it -/
def Ex0 (m : List Addr) (H : Hp) (m' : List Addr) (H' : Hp) : Prop := ∀ a o, H a = some o → a ∉ m → H' a = some o ∧ a ∉ m'
/-- every place of m holds a list or an instance -/
def MutO : HO → Bool
  | .lst _ => true
  | .ins _ _ _ => true
  | .dK _ => true
  | _ => false
def Nt (m : List Addr) (H : Hp) : Prop := ∀ a ∈ m, ∃ o, H a = some o ∧ MutO o = true
theorem Nt.rdT {m : List Addr} {H : Hp} (n : Nt m H) {a : Addr} {vs : List V} (h : Rd H a (.tup vs)) : a ∉ m := fun z => by
  obtain ⟨u, q, k⟩ := n a z
  rcases h with h | ⟨o, h⟩ <;> rw [q] at h <;> cases h <;> cases k
theorem Nt.ne {m : List Addr} {H : Hp} (n : Nt m H) {p : Addr} (h : H p = none) : p ∉ m := fun z => by
  obtain ⟨u, q, _⟩ := n p z
  rw [h] at q
  cases q
section
variable {m m' : List Addr} {H H' : Hp}
theorem Ex0.rd (x : Ex0 m H m' H') {a : Addr} {u : HO} (h : Rd H a u) (n : a ∉ m) : Rd H' a u ∧ a ∉ m' := by
  rcases h with h | ⟨o, h⟩
  · exact ⟨.inl (x _ _ h n).1, (x _ _ h n).2⟩
  · exact ⟨.inr ⟨o, (x _ _ h n).1⟩, (x _ _ h n).2⟩
theorem Ex0.fz {K : PySem.W.Frag} (x : Ex0 m H m' H') {a : Addr} {vs : List V} (h : Fz K m H a vs) : Fz K m' H' a vs := by
  rcases h with ⟨h, n⟩ | h
  · exact .inl (x.rd h n)
  · exact .inr h
theorem Ex0.tq (x : Ex0 m H m' H') (n : Nt m H) {a : Addr} {vs : List V} (h : Tq H a vs) : Tq H' a vs := let ⟨o, e, d⟩ := h; ⟨o, (x _ _ e (n.rdT (.inr ⟨o, e⟩))).1, d⟩
theorem Ex0.sqT {K : PySem.W.Frag} (x : Ex0 m H m' H') (n : Nt m H) {a : Addr} {vs : List V} (h : SqT K H a vs) : SqT K H' a vs := by
  rcases h with h | h
  · exact .inl (x.rd h (n.rdT h)).1
  · exact .inr h
end
mutual
theorem RD.mono {G : Wd} {m m' : List Addr} {H H' : Hp} (x : Ex0 m H m' H') (n : Nt m H) : ∀ (d : P) (v : V), RD G m H d v → RD G m' H' d v
  | .non, _, h => by simpa only [RD] using h
  | .bl _, _, h => by simpa only [RD] using h
  | .int _, _, h => by simpa only [RD] using h
  | .str _, _, h => by simpa only [RD] using h
  | .tup xs, _, h => by
    simp only [RD] at h ⊢
    obtain ⟨a, vs, e, h1, h2, h3⟩ := h
    exact ⟨a, vs, e, x.tq n h1, h2, RDs.mono x n xs vs h3⟩
  | .lst xs, _, h => by
    simp only [RD] at h ⊢
    obtain ⟨a, vs, e, h1, h2, h3⟩ := h
    exact ⟨a, vs, e, x.fz h1, h2, RDs.mono x n xs vs h3⟩
  | .ins c ks xs, _, h => by
    simp only [RD] at h ⊢
    obtain ⟨a, dx, vs, e, h1, ⟨h2, hc⟩, h3, h4⟩ := h
    exact ⟨a, dx, vs, e, (x _ _ h1 h2).1, ⟨(x _ _ h1 h2).2, hc⟩, h3, RDs.mono x n xs vs h4⟩
  | .err c y, _, h => by
    simp only [RD] at h ⊢
    obtain ⟨a, d, w, e, ⟨h1, h2⟩, ⟨h3, h4⟩, h5, h6⟩ := h
    exact ⟨a, d, w, e, ⟨(x _ _ h1 h3).1, (x _ _ h2 h4).1⟩, ⟨(x _ _ h1 h3).2, (x _ _ h2 h4).2⟩, h5, RD.mono x n y w h6⟩
theorem RDs.mono {G : Wd} {m m' : List Addr} {H H' : Hp} (x : Ex0 m H m' H') (n : Nt m H) : ∀ (ds : List P) (vs : List V), RDs G m H ds vs → RDs G m' H' ds vs
  | [], _, h => by simpa only [RDs] using h
  | d :: ds, _, h => by
    simp only [RDs] at h ⊢
    obtain ⟨v, r, e, h1, h2⟩ := h
    exact ⟨v, r, e, RD.mono x n d v h1, RDs.mono x n ds r h2⟩
end
theorem Ex0.same {m : List Addr} {H H' : Hp} (k : Same H H') : Ex0 m H m H' := fun a o h n => ⟨k a o h, n⟩
theorem Nt.same {m : List Addr} {H H' : Hp} (n : Nt m H) (k : Same H H') : Nt m H' := fun a ha => by
  obtain ⟨o, q, z⟩ := n a ha
  exact ⟨o, k _ _ q, z⟩
theorem same_new {H : Hp} {p : Addr} {o : HO} (h : H p = none) : Same H (upd H p o) := fun a u e => by rw [upd_ne (ne_of_none e h)]; exact e

/-- how the heap may go on: the first k places of m are others' -/
structure Ext (k : Nat) (m : List Addr) (H : Hp) (m' : List Addr) (H' : Hp) : Prop where
  le : k ≤ m.length
  pre : ∃ r, m' = m ++ r ∧ ∀ a ∈ r, H a = none
  keep : ∀ a o, H a = some o → a ∉ m.drop k → H' a = some o
  st : ∀ a, H a ≠ none → H' a ≠ none
section
variable {k : Nat} {m m' m1 m2 : List Addr} {H H' H1 H2 : Hp}
theorem Ext.refl (hk : k ≤ m.length) : Ext k m H m H := ⟨hk, ⟨[], by simp⟩, fun _ _ h _ => h, fun _ h => h⟩
theorem Ext.same (hk : k ≤ m.length) (s : Same H H') : Ext k m H m H' := ⟨hk, ⟨[], by simp⟩, fun a o h _ => s a o h, fun a h => by
  cases q : H a with
  | none => exact absurd q h
  | some o => rw [s a o q]; simp⟩
theorem Ext.nmem (x : Ext k m H m' H') {a : Addr} {o : HO} (h : H a = some o) (n : a ∉ m) : a ∉ m' := by
  obtain ⟨r, e, f⟩ := x.pre
  rw [e, List.mem_append]
  rintro (z | z)
  · exact n z
  · rw [f a z] at h; cases h
theorem Ext.nmemD (x : Ext k m H m' H') {a : Addr} {o : HO} (h : H a = some o) (n : a ∉ m.drop k) : a ∉ m'.drop k := by
  obtain ⟨r, e, f⟩ := x.pre
  rw [e, List.drop_append_of_le_length x.le, List.mem_append]
  rintro (z | z)
  · exact n z
  · rw [f a z] at h; cases h
theorem Ext.le' (x : Ext k m H m' H') : k ≤ m'.length := by
  obtain ⟨r, e, _⟩ := x.pre
  rw [e, List.length_append]
  have := x.le
  omega
theorem Ext.trans (x : Ext k m H m1 H1) (y : Ext k m1 H1 m2 H2) : Ext k m H m2 H2 := by
  obtain ⟨r, e, f⟩ := x.pre
  obtain ⟨r2, e2, f2⟩ := y.pre
  refine ⟨x.le, ⟨r ++ r2, by rw [e2, e, List.append_assoc], fun a ha => ?_⟩, fun a o h n => y.keep a o (x.keep a o h n) (x.nmemD h n), fun a h => y.st a (x.st a h)⟩
  rcases List.mem_append.mp ha with z | z
  · exact f a z
  · cases q : H a with
    | none => rfl
    | some o => exact absurd (f2 a z) (x.st a (by rw [q]; simp))
theorem Ext.ref (x : Ext k m H m' H') {n : Nat} {a : Addr} (h : m[n]? = some a) : m'[n]? = some a := by
  obtain ⟨r, e, _⟩ := x.pre
  rw [e, List.getElem?_append_left (List.getElem?_eq_some_iff.mp h).1]
  exact h
theorem Ext.ex0 (x : Ext k m H m' H') : Ex0 m H m' H' := fun a o h n => ⟨x.keep a o h fun z => n (List.mem_of_mem_drop z), x.nmem h n⟩
end
def RDD (G : Wd) (k : Nat) (m : List Addr) (H : Hp) : D → V → Prop
  | .p x, v => RD G m H x v
  | .r n, v => ∃ a, m[k + n]? = some a ∧ v = .ref a
  | _, _ => False
section
variable {G : Wd} {k : Nat} {m m' : List Addr} {H H' : Hp} {S : Store}
theorem RDD.mono (x : Ext k m H m' H') (n : Nt m H) {d : D} {v : V} (h : RDD G k m H d v) : RDD G k m' H' d v := by
  cases d with
  | p y => exact RD.mono x.ex0 n y v h
  | r k => obtain ⟨a, e, r⟩ := h; exact ⟨a, x.ref e, r⟩
  | e c y => exact h
def CellOk (G : Wd) (k : Nat) (m : List Addr) (H : Hp) (a : Addr) : Cell → Prop
  | .lst xs => ∃ vs, H a = some (.lst vs) ∧ xs.length ≤ sizeLine ∧ F2 (RDD G k m H) xs vs
  | .ins c ks ds => ∃ dx vs, H a = some (.ins (G.ca c) dx ((ks.map G.fa).zip vs)) ∧ InsOk G c ks ∧ ks.length = ds.length ∧ F2 (RDD G k m H) ds vs
  | .dct ks ds => ∃ vs, H a = some (.dK (ks.zip vs)) ∧ ks.length ≤ sizeLine ∧ ks.length = ds.length ∧ F2 (RDD G k m H) ds vs
structure RS (G : Wd) (k : Nat) (m : List Addr) (H : Hp) (S : Store) : Prop where
  len : m.length = k + S.length
  nd : m.Nodup
  fst : Nt (m.take k) H
  ok : ∀ (n : Nat) (c : Cell) (a : Addr), S[n]? = some c → m[k + n]? = some a → CellOk G k m H a c
theorem RS.le (r : RS G k m H S) : k ≤ m.length := by rw [r.len]; omega
theorem RS.at_ (r : RS G k m H S) {n : Nat} {c : Cell} (h : S[n]? = some c) : ∃ a, m[k + n]? = some a ∧ CellOk G k m H a c := by
  have hn := (List.getElem?_eq_some_iff.mp h).1
  have : k + n < m.length := by rw [r.len]; omega
  exact ⟨m[k + n], by simp [this], r.ok n c _ h (by simp [this])⟩
theorem CellOk.lom {a : Addr} {c : Cell} (q : CellOk G k m H a c) : ∃ o, H a = some o ∧ MutO o = true := by
  cases c with
  | lst xs => obtain ⟨vs, q, _⟩ := q; exact ⟨_, q, rfl⟩
  | ins c ks ds => obtain ⟨dx, vs, q, _⟩ := q; exact ⟨_, q, rfl⟩
  | dct ks ds => obtain ⟨vs, q, _⟩ := q; exact ⟨_, q, rfl⟩
theorem RS.nt (r : RS G k m H S) : Nt m H := fun a ha => by
  obtain ⟨n, hn⟩ := List.getElem?_of_mem ha
  by_cases hk : n < k
  · refine r.fst a (List.mem_of_getElem? (i := n) ?_)
    rw [List.getElem?_take_of_lt hk]
    exact hn
  · have h1 := (List.getElem?_eq_some_iff.mp hn).1
    have h2 : n - k < S.length := by rw [r.len] at h1; omega
    exact (r.ok (n - k) S[n - k] a (by simp [h2]) (by rw [show k + (n - k) = n by omega]; exact hn)).lom
theorem CellOk.mono (x : Ext k m H m' H') (n : Nt m H) {a : Addr} {c : Cell} (e : H' a = H a) (q : CellOk G k m H a c) : CellOk G k m' H' a c := by
  cases c with
  | lst xs =>
    obtain ⟨vs, q1, q2, q3⟩ := q
    exact ⟨vs, e.trans q1, q2, q3.mono fun d v h => RDD.mono x n h⟩
  | ins c ks ds =>
    obtain ⟨dx, vs, q1, q2, q3, q4⟩ := q
    exact ⟨dx, vs, e.trans q1, q2, q3, q4.mono fun d v h => RDD.mono x n h⟩
  | dct ks ds =>
    obtain ⟨vs, q1, q2, q3, q4⟩ := q
    exact ⟨vs, e.trans q1, q2, q3, q4.mono fun d v h => RDD.mono x n h⟩
/-- what is in the first k places is in no other -/
theorem RS.notD (r : RS G k m H S) {a : Addr} (h : a ∈ m.take k) : a ∉ m.drop k := fun z => by
  have e := List.take_append_drop k m
  have nd := r.nd
  rw [← e] at nd
  exact (List.nodup_append.mp nd).2.2 a h a z rfl
theorem RS.fstX (r : RS G k m H S) (x : Ext k m H m' H') : Nt (m'.take k) H' := fun a ha => by
  obtain ⟨q, e, _⟩ := x.pre
  rw [e, List.take_append_of_le_length x.le] at ha
  obtain ⟨o, z, k⟩ := r.fst a ha
  exact ⟨o, x.keep _ _ z (r.notD ha), k⟩
/-- nothing but what is new comes beside -/
theorem RS.same (r : RS G k m H S) (s : Same H H') : RS G k m H' S := by
  have x : Ext k m H m H' := .same r.le s
  refine ⟨r.len, r.nd, r.fstX x, fun n c a h1 h2 => (r.ok n c a h1 h2).mono x r.nt ?_⟩
  obtain ⟨o, z, _⟩ := r.nt a (List.mem_of_getElem? h2)
  rw [z, s _ _ z]
/-- a new place of the store -/
theorem Ext.push {p : Addr} {o : HO} (hk : k ≤ m.length) (h : H p = none) : Ext k m H (m ++ [p]) (upd H p o) :=
  ⟨hk, ⟨[p], rfl, fun a ha => by simp at ha; rw [ha]; exact h⟩, (Ext.same hk (same_new h)).keep, (Ext.same hk (same_new h)).st⟩
theorem RS.push (r : RS G k m H S) {p : Addr} {o : HO} {c : Cell} (h : H p = none) (ok : CellOk G k (m ++ [p]) (upd H p o) p c) : RS G k (m ++ [p]) (upd H p o) (S ++ [c]) := by
  have x : Ext k m H (m ++ [p]) (upd H p o) := .push r.le h
  refine ⟨by simp [r.len, Nat.add_assoc], ?_, r.fstX x, fun n d a h1 h2 => ?_⟩
  · refine List.nodup_append.mpr ⟨r.nd, by simp, fun a ha b hb => ?_⟩
    simp at hb; subst hb
    intro z; subst z
    exact r.nt.ne h ha
  · by_cases hn : n < S.length
    · rw [List.getElem?_append_left hn] at h1
      rw [List.getElem?_append_left (by rw [r.len]; omega)] at h2
      exact (r.ok n d a h1 h2).mono x r.nt (upd_ne fun z => r.nt.ne h (z ▸ List.mem_of_getElem? h2))
    · rw [List.getElem?_append_right (Nat.le_of_not_lt hn)] at h1
      rw [List.getElem?_append_right (by rw [r.len]; omega)] at h2
      have e1 : n - S.length = 0 := by
        cases k : n - S.length with
        | zero => rfl
        | succ j => rw [k] at h1; simp at h1
      rw [r.len, show k + n - (k + S.length) = n - S.length by omega] at h2
      rw [e1] at h1 h2
      simp at h1 h2
      subst h1 h2
      exact ok
/-- a place of the store is written -/
theorem Ext.put {a : Addr} {o : HO} (hk : k ≤ m.length) (h : a ∈ m.drop k) : Ext k m H m (upd H a o) :=
  ⟨hk, ⟨[], by simp⟩, fun b u e n => by rw [upd_ne (fun z => n (by rw [z]; exact h))]; exact e, fun b e => by
    by_cases z : b = a
    · rw [z, upd_same]; simp
    · rw [upd_ne z]; exact e⟩
theorem mem_dropK {n : Nat} {a : Addr} (h : m[k + n]? = some a) : a ∈ m.drop k := List.mem_of_getElem? (i := n) (by rw [List.getElem?_drop]; exact h)
theorem RS.put (r : RS G k m H S) {n : Nat} {a : Addr} {o : HO} {c : Cell} (h : m[k + n]? = some a) (ok : CellOk G k m (upd H a o) a c) : RS G k m (upd H a o) (S.set n c) := by
  have x : Ext k m H m (upd H a o) := .put r.le (mem_dropK h)
  refine ⟨by simp [r.len], r.nd, r.fstX x, fun j d b h1 h2 => ?_⟩
  by_cases e : j = n
  · subst e
    rw [h] at h2; cases h2
    have hk : j < S.length := by
      have := (List.getElem?_eq_some_iff.mp h).1
      rw [r.len] at this
      omega
    rw [List.getElem?_set_self hk] at h1
    cases h1
    exact ok
  · rw [List.getElem?_set_ne (Ne.symm e)] at h1
    have ne : b ≠ a := fun z => by
      subst z
      obtain ⟨p1, e1⟩ := List.getElem?_eq_some_iff.mp h
      obtain ⟨p2, e2⟩ := List.getElem?_eq_some_iff.mp h2
      have := (List.getElem_inj r.nd).mp (e2.trans e1.symm)
      omega
    exact (r.ok j d b h1 h2).mono x r.nt (upd_ne ne)
end
end Tw

set_option linter.all false
set_option Elab.async false
set_option maxRecDepth 100000
set_option maxHeartbeats 4000000
/-! TwK1: an own error made and kept as a value; its field; isinstance of it. -/
namespace L2
open PySem PySem.Spec PyProof.Rows
/-- C(e, ..) as a value -/
def tNwO (C : Addr) (sp : Sp) (ta : TA) : TE := fun σ H Q => ta σ H fun vs H1 => vs.length ≤ 1000 ∧ ∀ a, H1 a = none → sp (.ref a :: vs) (upd H1 a (exo a C none)) (fun v H2 => v = .non ∧ Q (.ref a) H2) (fun _ _ _ => False)
theorem pe_oex {X : Cx} {e : Expr} {es : List Expr} {ta : TA} {p pos : Pos} {CX : CXT} {x : Str} {C fI : Addr} {k : Nat} {fd : FuncData} {ps : List Str} {sp : Sp} (T : OexC X.K C) (iC : PySem.W.findIn X.K (.ref C) "__init__" = some (some (.ref fI))) (tI : PySem.W.typeIn X.K (.ref fI) = some (.type "function"))
    (F1 : FnOk X.prog X.w X.K X.mg X.base CX k fI fd ps sp) (hr : Room (k + 1) X.A) (hb : Binds X.K fd ps []) (hx : Passes CX X (fun _ _ _ => False)) (hg : Gl X x) (hm : X.mg x = some (.ref C)) (ha : PA X (e :: es) ta)
    (hdb : (x == ("__debug__" : Str)) = false := by decide) (he : starEach (e :: es) X.env = (false, eval e X.env) :: starEach es X.env := by rfl) (hpl : (backTo pos (starEach es X.env)).any (·.1) = false := by rfl) :
    PE X (.Call (.Name x p) (e :: es) [] pos) (tNwO C sp ta) := by
  refine ⟨fun pins s σ H Q I h => ?_⟩
  obtain ⟨nm, q, N, bs, bm, sn, sub, ab, col, dd, k0, k1, k2, k3, k5, hC, hbm⟩ := T.cls
  refine wpAny_Call_Name_kw (ld_glob I hg hm ?_ hdb)
  refine PySem.W.callWith_K (h₀ := X.base) I.ok.mod.kin T.kC (thn (ha.run pos pins s σ H _ I h) fun us s1 ⟨vs, H1, I1, r1, hz, q1⟩ => ⟨I1.kIn, ?_⟩) he hpl
  show wpAny _ _ (call (.ref C) us) _ _ _
  obtain ⟨hp, g, dr, tk, os⟩ := s1
  have hsz : hp.objs.size ≤ hp.objs.size + 1 := Nat.le_succ _
  have hn : H1 (hp.objs.size + 1) = none := I1.hok.fresh hsz
  have hq := q1 (hp.objs.size + 1) hn
  have kk : ∀ b o, hp.get? b = some o → ((hp.push (PySem.W.kdv_tup us)).push (PySem.HandSPX.excO C hp.objs.size)).get? b = some o := fun b o e => Heap.get?_push_of_some _ (Heap.get?_push_of_some _ e)
  have hget : ((hp.push (PySem.W.kdv_tup us)).push (PySem.HandSPX.excO C hp.objs.size)).get? (hp.objs.size + 1) = some (PySem.HandSPX.excO C hp.objs.size) := by heap_get
  have I2 : Inv X pins σ (upd H1 (hp.objs.size + 1) (exo (hp.objs.size + 1) C none)) ⟨(hp.push (PySem.W.kdv_tup us)).push (PySem.HandSPX.excO C hp.objs.size), g, dr, tk, os⟩ :=
    I1.laid (t' := tk) (a := hp.objs.size + 1) (o := exo (hp.objs.size + 1) C none) (h' := (hp.push (PySem.W.kdv_tup us)).push (PySem.HandSPX.excO C hp.objs.size)) kk hsz (exo_ok hget)
  have r2 : Vals (V.ref (hp.objs.size + 1) :: vs) (Value.ref (hp.objs.size + 1) :: us) := .cons rfl r1
  have hl : (Value.ref (hp.objs.size + 1) :: us ++ []).length = ps.length := by
    have e := r2.length
    rw [F1.len _ _ _ _ hq] at e
    rw [List.append_nil]
    exact e.symm
  have hus : us.length ≤ sizeLine := by
    rw [← Paired.length r1, sizeLine_eq]
    omega
  refine wpAny_call (PySem.HandSPX.call_own F.excBase_ValueError (fun Y => PySem.HandSPX.refsVE_contains Y bm hbm) (I1.kIn _ _ hC) (PySem.W.looks_findIn I1.kIn iC) (fun self => PySem.W.bind_fn I1.kIn self tI) hus
    (codeAny_mono (F1.run _ X.stack _ _ ⟨Value.ref (hp.objs.size + 1) :: us, []⟩ (Value.ref (hp.objs.size + 1) :: us ++ []) _ _ (fun _ _ _ => False) (hr.make C us []) (I2.env0.make C us []) (hb _ (Value.ref (hp.objs.size + 1) :: us) I2.kIn hl) (by rw [List.append_nil]; exact r2) hq) fun r s' hq' => ?_))
  cases r with
  | error er => exact hx pins σ _ _ er s' I2 hq'
  | ok fl =>
    cases fl with
    | ret u =>
      obtain ⟨v, H2, os2, bare2, un2, hok2, rv, ev, q2⟩ := hq'
      subst ev
      obtain ⟨h2, g2, d2, t2, os'⟩ := s'
      exact ⟨rv, .ref (hp.objs.size + 1), H2, I2.call' (ch := []) os2 un2 hok2 bare2 (fun b z => absurd z (by simp)), rfl, q2⟩
    | next => exact False.elim hq'
    | brk => exact False.elim hq'
    | cont => exact False.elim hq'
/-- o.f of an error that is kept -/
def tXo (K : PySem.W.Frag) (f : Str) (te : TE) : TE := fun σ H Q => te σ H fun x H1 => ∃ (a C dd : Addr) (fs : List (Str × V)) (v : V), x = .ref a ∧ XfC K C ∧ PySem.W.findIn K (.ref C) f = some none ∧ H1 a = some (exo a C (some dd)) ∧ H1 dd = some (exd dd fs) ∧ fs.lookup f = some v ∧ Q v H1
theorem pe_xo {X : Cx} {e : Expr} {te : TE} {pos : Pos} {n : Str} (he : PE X e te) (hb : attributeBase e n X.env (eval e X.env) = eval e X.env := by rfl) : PE X (.Attribute e n pos) (tXo X.K n te) := by
  refine ⟨fun pins s σ H Q I h => ?_⟩
  refine attr_of hb (thn (he.run pins s σ H _ I h) fun u s1 hh => ?_)
  obtain ⟨x, H1, I1, rx, a, C, dd, fs, v, ex, T, hno, ha, hd, l, q⟩ := hh
  subst ex
  obtain rfl : u = Value.ref a := rx
  obtain ⟨t1, hget⟩ := exo_at I1.hok ha
  obtain ⟨mA, hns, hr⟩ := exd_at I1.hok hd
  obtain ⟨od, ho, hl⟩ := lookIn_ns hns
  obtain ⟨u, hu, ru⟩ := RelO.some_of (v := v) (o := mA n) (by rw [← l]; exact hr n)
  have J : PySem.W.InstAt s1.heap a _ C (some od) := ⟨hget, rfl, rfl, ho⟩
  exact HandSPX.exc_get I1.kIn J T.ga T.gg T.exC (PySem.W.findObj_own T.hdC hno rfl (by rw [hl, hu])) (handed_of ru) ⟨v, H1, I1.tok _, ru, q⟩
theorem excC_cls {K : PySem.W.Frag} {D : Addr} (C : ExcC K D) : (PySem.W.clsIn K D).isSome = true := by
  obtain ⟨cd, hc, _⟩ := PySem.W.any_some C.hd
  rw [hc]
  rfl
/-- isinstance(e, c), e an error that is kept -/
def rIsO (K : PySem.W.Frag) : List V → Hp → VK → Prop := fun xs H Q => ∃ (a C dd : Addr) (fs : List (Str × V)) (c : V) (cv : Value) (b : Bool), xs = [.ref a, c] ∧ ExcC K C ∧ H a = some (exo a C (some dd)) ∧ H dd = some (exd dd fs) ∧ (∀ u, RelV c u → u = cv) ∧ PySem.W.kitOne K (.ref C) cv = some b ∧ Q (.bl b) H
theorem call_isX {X : Cx} : CallR X (.builtin "isinstance") (rIsO X.K) := by
  intro pins s σ H xs us Q I r h
  obtain ⟨a, D, dd, fs, c, cv, b, rfl, C, ha, hd, hcv, e, q⟩ := h
  cases r with
  | cons rx rr =>
    cases rr with
    | cons rt rr =>
      cases rr
      cases rx
      have ec := hcv _ rt
      subst ec
      obtain ⟨t1, hget⟩ := exo_at I.hok ha
      obtain ⟨mA, hns, hr⟩ := exd_at I.hok hd
      obtain ⟨od, ho, hl⟩ := lookIn_ns hns
      have J : PySem.W.InstAt s.heap a _ D (some od) := ⟨hget, rfl, rfl, ho⟩
      exact PySem.W.kia_one (PySem.W.kitx_exc (excC_cls C) C.hg C.hk C.hs C.ha C.hn C.ht C.hm) I.kIn J e (fun z => nomatch z) fun tk => ⟨.bl b, H, I.kept (t' := tk) fun _ _ z => z, rfl, q⟩
/-- isinstance(e, c), e the error that the suite holds -/
def rIsD (K : PySem.W.Frag) (cls : Value) (d : Option Addr) (a : Addr) : List V → Hp → VK → Prop := fun xs H Q => ∃ (D dd : Addr) (fs : List (Str × V)) (c : V) (cv : Value) (b : Bool), cls = .ref D ∧ ExcC K D ∧ d = some dd ∧ H dd = some (.xd fs) ∧ xs = [.ref a, c] ∧ (∀ u, RelV c u → u = cv) ∧ PySem.W.kitOne K (.ref D) cv = some b ∧ Q (.bl b) H
theorem call_isD {X : Cx} {a : Addr} {oe : Obj} {cls : Value} {d : Option Addr} {pn : List (Addr × Obj)} (hz : Zc cls d oe) (hf : ∃ vs, oe.data = .fields vs) : CallR (X.suite a ((a, oe) :: pn)) (.builtin "isinstance") (rIsD X.K cls d a) := by
  intro pins s σ H xs us Q I r h
  obtain ⟨D, dd, fs, c, cv, b, ec0, C, ed, hdd, rfl, hcv, e, q⟩ := h
  subst ec0
  subst ed
  cases r with
  | cons rx rr =>
    cases rr with
    | cons rt rr =>
      cases rr
      cases rx
      have ec := hcv _ rt
      subst ec
      obtain ⟨hget, _⟩ := I.pin (a, oe) (List.mem_append.mpr (.inl List.mem_cons_self))
      obtain ⟨vs, hv⟩ := hf
      have hx : ObjOk X.prog X.w H s.heap dd (.xd fs) := I.hok dd _ hdd
      obtain ⟨mA, hns, hr⟩ := hx
      obtain ⟨od, ho, hl⟩ := lookIn_ns hns
      have J : PySem.W.InstAt s.heap a oe D (some od) := ⟨hget, hz.1, by unfold PySem.W.notCls; rw [hv] <;> rfl, by rw [hz.2]; exact ho⟩
      exact PySem.W.kia_one (PySem.W.kitx_exc (excC_cls C) C.hg C.hk C.hs C.ha C.hn C.ht C.hm) I.kIn J e (fun z => nomatch z) fun tk => ⟨.bl b, H, I.kept (t' := tk) fun _ _ z => z, rfl, q⟩
end L2
namespace Tw
open PySem PySem.Spec PyProof.Rows L2
/-- C(e) behind raise -/
def spX (Ca : Addr) (f : Str) : Sp := fun vs H Q E => ∃ a v, vs = [.ref a, v] ∧ H a = some (exo a Ca none) ∧ ∀ dx, H dx = none → dx ≠ a → Q .non (upd (upd H dx (exd dx [(f, v)])) a (exo a Ca (some dx)))
/-- an error class that is raised -/
structure Xcl (X : Cx) (Ca : Addr) (f : Str) : Prop where
  T : OexC X.K Ca
  no : PySem.W.findIn X.K (.ref Ca) f = some none
  ini : ∃ j fI fd ps, PySem.W.findIn X.K (.ref Ca) "__init__" = some (some (.ref fI)) ∧ PySem.W.typeIn X.K (.ref fI) = some (.type "function") ∧ Room (j + 1) X.A ∧ Binds X.K fd ps [] ∧
    FnOk X.prog X.w X.K X.mg X.base (L2.CX X.prog X.w) j fI fd ps (spX Ca f)
end Tw

set_option linter.all false
set_option Elab.async false
set_option maxRecDepth 100000
set_option maxHeartbeats 2000000
/-! TwB2: operators, comparisons, built-ins over trees. -/
namespace Tw
open PySem PySem.Spec PyProof.Rows L2

/-- a tree as it is read off a value now (a list of the store too) -/
def RV (G : Wd) (m : List Addr) (H : Hp) (x : P) (v : V) : Prop :=
  RD G m H x v ∨ ∃ ys a vs, x = .lst ys ∧ v = .ref a ∧ H a = some (.lst vs) ∧ ys.length ≤ sizeLine ∧ F2 (RD G m H) ys vs
section
variable {G : Wd} {m : List Addr} {H : Hp} {v : V}
theorem RV.non (h : RV G m H .non v) : v = .non := by
  rcases h with h | ⟨ys, a, vs, e, _⟩
  · simpa only [RD] using h
  · cases e
theorem RV.bl {b : Bool} (h : RV G m H (.bl b) v) : v = .bl b := by
  rcases h with h | ⟨ys, a, vs, e, _⟩
  · simpa only [RD] using h
  · cases e
theorem RV.int {i : Int} (h : RV G m H (.int i) v) : v = .int i := by
  rcases h with h | ⟨ys, a, vs, e, _⟩
  · simpa only [RD] using h
  · cases e
theorem RV.str {s : Str} (h : RV G m H (.str s) v) : v = .str s ∧ PySem.PyData.strOk s = true := by
  rcases h with h | ⟨ys, a, vs, e, _⟩
  · simpa only [RD] using h
  · cases e
theorem RV.tupq {xs : List P} (h : RV G m H (.tup xs) v) : ∃ a vs, v = .ref a ∧ Tq H a vs ∧ xs.length ≤ sizeLine ∧ F2 (RD G m H) xs vs := by
  rcases h with h | ⟨ys, a, vs, e, _⟩
  · simp only [RD] at h
    obtain ⟨a, vs, e, h1, h2, h3⟩ := h
    exact ⟨a, vs, e, h1, h2, RDs_f2.mp h3⟩
  · cases e
theorem RV.tup {xs : List P} (h : RV G m H (.tup xs) v) : ∃ a vs, v = .ref a ∧ SqT G.K H a vs ∧ xs.length ≤ sizeLine ∧ F2 (RD G m H) xs vs :=
  let ⟨a, vs, e, h1, h2⟩ := h.tupq; ⟨a, vs, e, h1.sq, h2⟩
theorem RV.lst {xs : List P} (h : RV G m H (.lst xs) v) : ∃ a vs, v = .ref a ∧ SqL G.K H a vs ∧ xs.length ≤ sizeLine ∧ F2 (RD G m H) xs vs := by
  rcases h with h | ⟨ys, a, vs, e, e2, h1, h2, h3⟩
  · simp only [RD] at h
    obtain ⟨a, vs, e, h1, h2, h3⟩ := h
    exact ⟨a, vs, e, h1.sq, h2, RDs_f2.mp h3⟩
  · cases e
    exact ⟨a, vs, e2, .of h1, h2, h3⟩
theorem RD_tup {xs : List P} {a : Addr} {vs : List V} (h1 : Tq H a vs) (h2 : xs.length ≤ sizeLine) (h3 : F2 (RD G m H) xs vs) : RD G m H (.tup xs) (.ref a) := by
  simp only [RD]
  exact ⟨a, vs, rfl, h1, h2, RDs_f2.mpr h3⟩
theorem RD_lst {xs : List P} {a : Addr} {vs : List V} (h1 : H a = some (.lst vs)) (hn : a ∉ m) (h2 : xs.length ≤ sizeLine) (h3 : F2 (RD G m H) xs vs) : RD G m H (.lst xs) (.ref a) := by
  simp only [RD]
  exact ⟨a, vs, rfl, .inl ⟨.inl h1, hn⟩, h2, RDs_f2.mpr h3⟩
theorem F2.rdmono {m' : List Addr} {H' : Hp} {xs : List P} {vs : List V} (h : F2 (RD G m H) xs vs) (x : Ex0 m H m' H') (n : Nt m H) : F2 (RD G m' H') xs vs := h.mono fun d v h => RD.mono x n d v h
/-- a new tuple, a new list of trees -/
theorem RD.newT {xs : List P} {p : Addr} {o : Obj} {vs : List V} (n : Nt m H) (hp : H p = none) (hd : o.dict = none) (h2 : xs.length ≤ sizeLine) (h3 : F2 (RD G m H) xs vs) : RD G m (upd H p (.frz o (.tup vs))) (.tup xs) (.ref p) :=
  RD_tup ⟨o, upd_same, hd⟩ h2 (h3.rdmono (.same (same_new hp)) n)
theorem RD.newL {xs : List P} {p : Addr} {vs : List V} (n : Nt m H) (hp : H p = none) (h2 : xs.length ≤ sizeLine) (h3 : F2 (RD G m H) xs vs) : RD G m (upd H p (.lst vs)) (.lst xs) (.ref p) :=
  RD_lst upd_same (n.ne hp) h2 (h3.rdmono (.same (same_new hp)) n)
end
/-- what follows, with a tree, the store as it was -/
def Fin1 (G : Wd) (m : List Addr) (H : Hp) (z : P) (Q : VK) : Prop := ∀ H' v, Same H H' → RD G m H' z v → Q v H'
section
variable {G : Wd} {m : List Addr} {H : Hp} {Q : VK} {z : P}
theorem Fin1.now {v : V} (f : Fin1 G m H z Q) (h : RD G m H z v) : Q v H := f H v (.refl H) h
theorem Fin1.tup {xs : List P} {vs : List V} (f : Fin1 G m H (.tup xs) Q) (n : Nt m H) (h2 : xs.length ≤ sizeLine) (h3 : F2 (RD G m H) xs vs) : NewT H Q vs := fun p o hp hd =>
  f _ _ (same_new hp) (.newT n hp hd h2 h3)
theorem Fin1.lst {xs : List P} {vs : List V} (f : Fin1 G m H (.lst xs) Q) (n : Nt m H) (h2 : xs.length ≤ sizeLine) (h3 : F2 (RD G m H) xs vs) : ∀ p, H p = none → Q (.ref p) (upd H p (.lst vs)) := fun p hp =>
  f _ _ (same_new hp) (.newL n hp h2 h3)
end
theorem line_eq : line = sizeLine := by rw [sizeLine_eq]; rfl
theorem two64_eq : two64 = 2 ^ 64 := by decide
theorem big_iff {i : Int} : big i = true ↔ -(2 ^ 64) < i ∧ i < 2 ^ 64 := by
  unfold big
  rw [two64_eq, Bool.and_eq_true, decide_eq_true_eq, decide_eq_true_eq]

/-! ### new tuples -/
section
variable {X : Cx}
theorem laidT {pins : List (Addr × Obj)} {s : Shared} {σ : L2.St} {H : Hp} {Q : VK} {vs : List V} {us : List Value} {k : Nat} (I : Inv X pins σ H s) (r : Vals vs us) (hz : vs.length ≤ sizeLine) (q : NewT H Q vs) :
    EP X pins σ Q (.ref s.heap.objs.size) { s with heap := s.heap.push { cls := .type "tuple", data := .seq us.toArray }, toks := k } := by
  refine ⟨.ref s.heap.objs.size, _, I.laid (t' := k) (o := .frz { cls := .type "tuple", data := .seq us.toArray } (.tup vs)) (fun _ _ e => Heap.get?_push_of_some _ e) (Nat.le_refl _) ?_, rfl, q _ _ I.fresh rfl⟩
  exact ⟨Heap.get?_push_size _ rfl, hz, us, r, IsTup.new _ _⟩
/-- a written tuple -/
def tTupD (t : TA) : TE := fun σ H Q => t σ H fun vs H1 => vs.length ≤ sizeLine ∧ NewT H1 Q vs
theorem pe_tupD {es : List Expr} {t : TA} {x1 : Nat} {pos : Pos} (h : PA X es t) : PE X (.Tuple es x1 pos) (tTupD t) :=
  ⟨fun pins s σ H Q I hq => wpAny_Tuple_spliced (thn (h.run pos pins s σ H _ I hq) fun us s1 ⟨vs, H1, I1, r, hz, q⟩ => ⟨by rw [← r.length]; exact hz, laidT (k := s1.toks) I1 r hz q⟩)⟩
/-- t + u -/
def rCatD (K : PySem.W.Frag) : R2 := fun x y H Q => ∃ a b xs ys, x = .ref a ∧ y = .ref b ∧ SqT K H a xs ∧ SqT K H b ys ∧ xs.length + ys.length ≤ sizeLine ∧
  (xs = [] → Q (.ref b) H) ∧ (xs ≠ [] → ys = [] → Q (.ref a) H) ∧ (xs ≠ [] → ys ≠ [] → NewT H Q (xs ++ ys))
theorem op_catD : OpR X (binaryOp .Add) (rCatD X.K) := by
  intro pins s σ H x y v u Q I rx ry ⟨a, b, xs, ys, ex, ey, ha, hb, hz, q0, q1, q2⟩
  subst ex ey
  by_cases hx : xs = []
  · exact op_catA pins s σ H _ _ v u Q I rx ry ⟨a, b, xs, ys, rfl, rfl, ha, hb, hz, q0, q1, fun z => absurd hx z⟩
  by_cases hy : ys = []
  · exact op_catA pins s σ H _ _ v u Q I rx ry ⟨a, b, xs, ys, rfl, rfl, ha, hb, hz, q0, q1, fun _ z => absurd hy z⟩
  cases rx
  cases ry
  obtain ⟨its, r1, p1, _⟩ := I.tuple ha
  obtain ⟨jts, r2, p2, _⟩ := I.tuple hb
  exact HT.cat_tup p1 p2 (fun z => hx (r1.nil_iff.mp z)) (fun z => absurd (r2.nil_iff.mp z) hy) (fun _ => laidT (k := s.toks) I (r1.append r2) (by rw [List.length_append]; exact hz) (q2 hx hy)) (by rw [← r1.length, ← r2.length]; exact hz)
/-- t[lo:hi] -/
def rSlD (K : PySem.W.Frag) : V → Option Int → Option Int → Hp → VK → Prop := fun x lo hi H Q => ∃ a xs, x = .ref a ∧ SqT K H a xs ∧
  (HT.sIx xs.length 0 lo = 0 ∧ HT.sIx xs.length xs.length hi = xs.length → Q (.ref a) H) ∧ (¬ (HT.sIx xs.length 0 lo = 0 ∧ HT.sIx xs.length xs.length hi = xs.length) → NewT H Q (cutV xs lo hi))
theorem sl_tupD : SlR X (rSlD X.K) := by
  intro pins s σ H x v vl vu lo hi sl Q I rx hs pl pu ⟨a, xs, ex, hx, q1, q2⟩
  subst ex
  by_cases hw : HT.sIx xs.length 0 lo = 0 ∧ HT.sIx xs.length xs.length hi = xs.length
  · exact sl_tupA pins s σ H _ v vl vu lo hi sl Q I rx hs pl pu ⟨a, xs, rfl, hx, q1, fun z => absurd hw z⟩
  cases rx
  obtain ⟨its, r, ht, hz⟩ := I.tuple hx
  have hn : its.toArray.size = xs.length := by rw [List.size_toArray]; exact r.length.symm
  refine ⟨"tuple", _, slot_tuple_getitem.lookup, ht.typeIs, HT.getItem_tuple_cut ht hs pl pu (by rw [hn]; exact hw) ?_ (by rw [hn]; exact hz)⟩
  rw [hn]
  exact laidT (k := s.toks) I ((r.drop (HT.sIx xs.length 0 lo)).take (HT.sIx xs.length xs.length hi - HT.sIx xs.length 0 lo)) (Nat.le_trans (cutV_length xs lo hi) hz) (q2 hw)
/-- tuple(x) -/
theorem call_tupleD : CallR X (.type "tuple") (fun xs H Q => ∃ p vs, xs = [.ref p] ∧ ((SqL X.K H p vs ∧ NewT H Q vs) ∨ (SqT X.K H p vs ∧ Q (.ref p) H))) := by
  intro pins s σ H xs us Q I r ⟨p, vs, ex, h⟩
  subst ex
  rcases h with ⟨hl, q⟩ | ⟨hq, q⟩
  · obtain ⟨u, rfl, rx⟩ := vals1 r
    cases rx
    obtain ⟨its, rv, pl, hz⟩ := I.list hl
    exact call_tuple_list pl.isList (fun h' hk => laidT (s := { s with heap := h' }) (k := s.toks) (I.kept (t' := s.toks) hk) rv hz q) (by rw [List.size_toArray, ← rv.length]; exact hz)
  · exact call_tuple_of pins s σ H _ us Q I r ⟨p, vs, rfl, .inr ⟨hq, q⟩⟩
end
/-! ### list + list, tuple * int, of any standing -/
section
variable {X : Cx}
def rCatL (K : PySem.W.Frag) : R2 := fun x y H Q => ∃ l b xs zs, x = .ref l ∧ y = .ref b ∧ SqL K H l xs ∧ SqL K H b zs ∧ xs.length + zs.length ≤ sizeLine ∧ ∀ p, H p = none → Q (.ref p) (upd H p (.lst (xs ++ zs)))
theorem op_catL : OpR X (binaryOp .Add) (rCatL X.K) := by
  intro pins s σ H x y v u Q I rx ry h
  obtain ⟨l, b, xs, zs, rfl, rfl, hl, hb, hz, q⟩ := h
  cases rx
  cases ry
  obtain ⟨its, r1, p1, _⟩ := I.list hl
  obtain ⟨its2, r2, p2, _⟩ := I.list hb
  obtain ⟨⟨c1, d1, t1, s1⟩, ho, hc, n, hd⟩ := id p1.isList
  obtain ⟨⟨c2, d2, t2, s2⟩, ho2, hc2, n2, hd2⟩ := id p2.isList
  dsimp only at hc hd hc2 hd2
  subst hc hd hc2 hd2
  have hs : its.length + its2.length ≤ sizeLine := by rw [← r1.length, ← r2.length]; exact hz
  refine concat_meets ⟨_, ho, rfl⟩ ⟨_, ho2, rfl⟩ noFill_list_add seq_list_add PySem.F.slot_list_add PySem.F.entry_list_add (PySem.F.args_list_add_2 _ _)
    (list_addW l b its.toArray its2.toArray n n2 d1 d2 s1 s2 (by rw [List.size_toArray, List.size_toArray]; exact hs)) ⟨ho, ho2, ?_⟩
  have e : its.toArray ++ its2.toArray = (its ++ its2).toArray := by simp
  rw [e]
  exact ⟨.ref _, _, I.lnew (t' := s.toks) (r1.append r2) (by rw [List.length_append]; exact hz), rfl, q _ I.fresh⟩
def rRepA (K : PySem.W.Frag) : R2 := fun x y H Q => ∃ l k xs, x = .ref l ∧ y = .int k ∧ SqT K H l xs ∧ xs ≠ [] ∧ 2 ≤ k ∧ k < 2000000 ∧ k.toNat * xs.length ≤ sizeLine ∧ NewT H Q (List.replicate k.toNat xs).flatten
theorem op_repA : OpR X (binaryOp .Mult) (rRepA X.K) := by
  intro pins s σ H x y v u Q I rx ry h
  obtain ⟨l, k, xs, rfl, rfl, hT, hne, k2, k3, hz, q⟩ := h
  cases rx
  obtain ⟨t, rfl⟩ := ry
  obtain ⟨its, r, hI, _⟩ := I.tuple hT
  obtain ⟨⟨cl, dd, dt, sl⟩, ho, hc, n, hd⟩ := hI
  dsimp only at hc hd
  subst hc hd
  have hle : xs.length = its.length := r.length
  have hpos : 0 < its.length := by
    rw [← hle]
    exact List.length_pos_iff.mpr hne
  have hi : its.toArray.isEmpty = false := by
    cases its with
    | nil => simp at hpos
    | cons a b => rfl
  have hz' : k.toNat * its.length ≤ 16777216 := by
    rw [← hle, ← sizeLine_eq]
    exact hz
  have hk : ((k.toNat : Nat) : Int) = k := Int.toNat_of_nonneg (by omega)
  have hm : ((its.toArray.size : Nat) : Int) * k ≤ 16777216 := by
    have z := Int.ofNat_le.mpr hz'
    rw [Int.natCast_mul, hk] at z
    rw [List.size_toArray, Int.mul_comm]
    exact z
  have e1 : (decide (k < -(2 ^ 63)) || decide (k ≥ 2 ^ 63)) = false := by
    rw [Bool.or_eq_false_iff]
    exact ⟨decide_eq_false (by omega), decide_eq_false (by omega)⟩
  have e2 : (its.toArray.isEmpty || k == 1) = false := by
    rw [Bool.or_eq_false_iff]
    exact ⟨hi, beq_eq_false_iff_ne.mpr (by omega)⟩
  have e3 : (decide (k ≤ 0) || its.toArray.isEmpty) = false := by
    rw [Bool.or_eq_false_iff]
    exact ⟨decide_eq_false (by omega), hi⟩
  have e4 : ¬ ((its.toArray.size : Nat) : Int) * k > (2 ^ 63 - 1) / 8 := by
    have : ((2 ^ 63 - 1) / 8 : Int) = 1152921504606846975 := by decide
    rw [this]
    omega
  have e5 : Builtin.Tuple.tupleTooMany (((its.toArray.size : Nat) : Int) * k) = false := by
    unfold Builtin.Tuple.tupleTooMany
    rw [sizeLine_eq]
    exact decide_eq_false (by omega)
  have e6 : (List.foldl (fun x1 x2 => x1 ++ x2) #[] (List.replicate k.toNat its.toArray)).size ≤ sizeLine := by
    rw [size_rep, List.size_toArray, PyProof.Rows.lm_len_rep_flat, sizeLine_eq]
    exact hz'
  refine wpAny_binaryOp_repeat_ref (T := "tuple") (U := "int") (by decide) ⟨_, ho, rfl⟩ (fun s' => typeIs_int s' k t) noFill_tuple_mul F.fills_int_mul F.slot_int_rmul repeat_tuple F.slot_int_index.lookup ?_
  refine call_meets F.slot_int_rmul (typeIs_int s k t) F.entry_int_rmul (F.args_int_rmul_2 _ _) (int_rmul_tuple k t l its.toArray n dd sl) ⟨ho, rfl, ⟨_, ho, rfl⟩, ?_⟩
  refine call_meets F.slot_tuple_mul ⟨_, ho, rfl⟩ F.entry_tuple_mul (F.args_tuple_mul_2 _ _) (tuple_mulW l its.toArray n dd sl k t e1 e2 e3 e4 e5 e6) ⟨ho, ?_⟩
  rw [size_rep]
  have rr := r.rep k.toNat
  refine laidT I rr ?_ q
  rw [PyProof.Rows.lm_len_rep_flat]
  exact hz
end

/-! ### tuple * int, of an int below 2 -/
theorem tuple_mul1 (l : Addr) (items : Array Value) (n : Nat) (dd : Option Addr) (sl : Array (Option Value)) (u : Tok) :
    Meets (Builtin.«tuple.__mul__» ⟨[.ref l, .int 1 u], []⟩) (fun _ R s => s.heap.get? l = some { cls := .type "tuple", dict := dd, data := .seq items n, slots := sl } ∧
      R (.ok (.ret (Value.ref l))) s) :=
  .of_wp fun prog w A R s h => by
    obtain ⟨hp, g, d, tk, os⟩ := s
    obtain ⟨hl, h⟩ := h
    have f1 := AutoSeq1.idx_int
    have c1 : (items.isEmpty || (1 : Int) == 1) = true := by rw [show ((1 : Int) == 1) = true from rfl, Bool.or_true]
    wp_walk using wpAny_loadPart' hl
    repeat (first
      | (refine wpAny_ite_true (decide_eq_true c1) ?_; wp_walk using wpAny_loadPart' hl)
      | (refine wpAny_ite_true c1 ?_; wp_walk using wpAny_loadPart' hl))
    exact ⟨_, rfl, h⟩
theorem tuple_mul0 (l : Addr) (items : Array Value) (n : Nat) (dd : Option Addr) (sl : Array (Option Value)) (x : Int) (u : Tok) (c0 : (decide (x < -(2 ^ 63)) || decide (x ≥ 2 ^ 63)) = false) (c1 : (items.isEmpty || x == 1) = false) (c2 : (decide (x ≤ 0) || items.isEmpty) = true) :
    Meets (Builtin.«tuple.__mul__» ⟨[.ref l, .int x u], []⟩) (fun _ R s => s.heap.get? l = some { cls := .type "tuple", dict := dd, data := .seq items n, slots := sl } ∧
      R (.ok (.ret (Value.ref s.heap.objs.size))) { s with heap := s.heap.push { cls := Value.type "tuple", data := Data.seq #[] }, toks := s.toks }) :=
  .of_wp fun prog w A R s h => by
    obtain ⟨hp, g, d, tk, os⟩ := s
    obtain ⟨hl, h⟩ := h
    have f1 := AutoSeq1.idx_int
    have z : (#[] : Array Value).size ≤ sizeLine := Nat.zero_le _
    wp_walk using wpAny_loadPart' hl
    repeat (first
      | (refine wpAny_ite_false (decide_eq_false (by rw [c0]; exact Bool.false_ne_true)) ?_; wp_walk using wpAny_loadPart' hl)
      | (refine wpAny_ite_false (decide_eq_false (by rw [c1]; exact Bool.false_ne_true)) ?_; wp_walk using wpAny_loadPart' hl)
      | (refine wpAny_ite_true (decide_eq_true c2) ?_; wp_walk using wpAny_loadPart' hl)
      | (refine wpAny_ite_true c2 ?_; wp_walk using wpAny_loadPart' hl)
      | (refine wpAny_ite_false (decide_eq_false (Nat.not_lt.mpr z)) ?_; wp_walk using wpAny_loadPart' hl))
    exact ⟨_, rfl, h⟩
section
variable {X : Cx}
def rRep1 (K : PySem.W.Frag) : R2 := fun x y H Q => ∃ l xs, x = .ref l ∧ y = .int 1 ∧ SqT K H l xs ∧ Q (.ref l) H
theorem op_rep1 : OpR X (binaryOp .Mult) (rRep1 X.K) := by
  intro pins s σ H x y v u Q I rx ry h
  obtain ⟨l, xs, rfl, rfl, hT, q⟩ := h
  cases rx
  obtain ⟨t, rfl⟩ := ry
  obtain ⟨its, r, hI, _⟩ := I.tuple hT
  obtain ⟨⟨cl, dd, dt, sl⟩, ho, hc, n, hd⟩ := hI
  dsimp only at hc hd
  subst hc hd
  refine wpAny_binaryOp_repeat_ref (T := "tuple") (U := "int") (by decide) ⟨_, ho, rfl⟩ (fun s' => typeIs_int s' 1 t) noFill_tuple_mul F.fills_int_mul F.slot_int_rmul repeat_tuple F.slot_int_index.lookup ?_
  refine call_meets F.slot_int_rmul (typeIs_int s 1 t) F.entry_int_rmul (F.args_int_rmul_2 _ _) (int_rmul_tuple 1 t l its.toArray n dd sl) ⟨ho, rfl, ⟨_, ho, rfl⟩, ?_⟩
  refine call_meets F.slot_tuple_mul ⟨_, ho, rfl⟩ F.entry_tuple_mul (F.args_tuple_mul_2 _ _) (tuple_mul1 l its.toArray n dd sl t) ⟨ho, ?_⟩
  exact ⟨.ref l, H, I, rfl, q⟩
def rRep0 (K : PySem.W.Frag) : R2 := fun x y H Q => ∃ l k xs, x = .ref l ∧ y = .int k ∧ SqT K H l xs ∧ xs ≠ [] ∧ -2000000 < k ∧ k ≤ 0 ∧ NewT H Q []
theorem op_rep0 : OpR X (binaryOp .Mult) (rRep0 X.K) := by
  intro pins s σ H x y v u Q I rx ry h
  obtain ⟨l, k, xs, rfl, rfl, hT, hne, k2, k3, q⟩ := h
  cases rx
  obtain ⟨t, rfl⟩ := ry
  obtain ⟨its, r, hI, _⟩ := I.tuple hT
  obtain ⟨⟨cl, dd, dt, sl⟩, ho, hc, n, hd⟩ := hI
  dsimp only at hc hd
  subst hc hd
  have hle : xs.length = its.length := r.length
  have hpos : 0 < its.length := by
    rw [← hle]
    exact List.length_pos_iff.mpr hne
  have hi : its.toArray.isEmpty = false := by
    cases its with
    | nil => simp at hpos
    | cons a b => rfl
  have e1 : (decide (k < -(2 ^ 63)) || decide (k ≥ 2 ^ 63)) = false := by
    rw [Bool.or_eq_false_iff]
    exact ⟨decide_eq_false (by omega), decide_eq_false (by omega)⟩
  have e2 : (its.toArray.isEmpty || k == 1) = false := by
    rw [Bool.or_eq_false_iff]
    exact ⟨hi, beq_eq_false_iff_ne.mpr (by omega)⟩
  have e3 : (decide (k ≤ 0) || its.toArray.isEmpty) = true := by rw [decide_eq_true k3, Bool.true_or]
  refine wpAny_binaryOp_repeat_ref (T := "tuple") (U := "int") (by decide) ⟨_, ho, rfl⟩ (fun s' => typeIs_int s' k t) noFill_tuple_mul F.fills_int_mul F.slot_int_rmul repeat_tuple F.slot_int_index.lookup ?_
  refine call_meets F.slot_int_rmul (typeIs_int s k t) F.entry_int_rmul (F.args_int_rmul_2 _ _) (int_rmul_tuple k t l its.toArray n dd sl) ⟨ho, rfl, ⟨_, ho, rfl⟩, ?_⟩
  refine call_meets F.slot_tuple_mul ⟨_, ho, rfl⟩ F.entry_tuple_mul (F.args_tuple_mul_2 _ _) (tuple_mul0 l its.toArray n dd sl k t e1 e2 e3) ⟨ho, ?_⟩
  exact laidT (us := []) I .nil (Nat.zero_le _) q
end
/-! ### the operators -/
def opA : BinO → Operator
  | .add => .Add
  | .sub => .Sub
  | .mul => .Mult
  | .div => .FloorDiv
  | .mod => .Mod
  | .pow => .Pow
  | .shl => .LShift
  | .shr => .RShift
def rBin (G : Wd) (o : BinO) : R2 := fun x y H Q => ∃ m a b z, Nt m H ∧ RV G m H a x ∧ RV G m H b y ∧ binP o a b = some z ∧ Fin1 G m H z Q
theorem strOk_app {s t : Str} (h : PySem.PyData.strOk s = true) (h' : PySem.PyData.strOk t = true) : PySem.PyData.strOk (s ++ t) = true := by
  have e : (s ++ t).cps = s.cps ++ t.cps := rfl
  unfold PySem.PyData.strOk at *
  rw [e, Array.all_append, h, h'] <;> rfl
theorem op_bin {X : Cx} {G : Wd} (hK : X.K = G.K) (o : BinO) : OpR X (binaryOp (opA o)) (rBin G o) := by
  intro pins s σ H x y v u Q I rx ry h
  obtain ⟨m, a, b, z, nt, ra, rb, e, f⟩ := h
  unfold binP at e
  split at e
  · rename_i i j
    have ex := ra.int
    have ey := rb.int
    subst ex ey
    cases k : intOp o i j with
    | none => rw [k] at e; cases e
    | some r =>
      rw [k] at e
      cases e
      have q : Q (.int r) H := f.now (by simp only [RD])
      cases o with
      | add => cases k; exact op_add pins s σ H _ _ v u Q I rx ry ⟨i, j, rfl, rfl, q⟩
      | sub => cases k; exact op_sub pins s σ H _ _ v u Q I rx ry ⟨i, j, rfl, rfl, q⟩
      | mul =>
        simp only [intOp] at k
        split at k
        · rename_i c
          cases k
          refine op_mul pins s σ H _ _ v u Q I rx ry ⟨i, j, rfl, rfl, ?_, q⟩
          rw [Bool.or_eq_true, big_iff, big_iff] at c
          exact c
        · cases k
      | div =>
        simp only [intOp] at k
        split at k
        · rename_i c
          cases k
          rw [Bool.and_eq_true, decide_eq_true_eq, decide_eq_true_eq, two64_eq] at c
          refine op_fdivW pins s σ H _ _ v u Q I rx ry ⟨i, j, rfl, rfl, wide_div (b := 64) c.1 ?_ (by decide) (by decide), q⟩
          have h2 : ((2 ^ 64 : Nat) : Int) = 2 ^ 64 := by decide
          omega
        · cases k
      | mod =>
        simp only [intOp] at k
        split at k
        · rename_i c
          cases k
          exact op_mod pins s σ H _ _ v u Q I rx ry ⟨i, j, rfl, rfl, c, q⟩
        · cases k
      | pow =>
        simp only [intOp] at k
        split at k
        · rename_i c
          cases k
          rw [Bool.and_eq_true, Bool.and_eq_true, decide_eq_true_eq, decide_eq_true_eq, big_iff] at c
          refine op_pow pins s σ H _ _ v u Q I rx ry ⟨i, j, rfl, rfl, ⟨c.1.1, c.1.2, ?_⟩, q⟩
          have h2 : ((2 ^ 64 : Nat) : Int) = 2 ^ 64 := by decide
          have := c.2
          omega
        · cases k
      | shl =>
        simp only [intOp] at k
        split at k
        · rename_i c
          cases k
          rw [Bool.and_eq_true, Bool.and_eq_true, decide_eq_true_eq, decide_eq_true_eq, big_iff] at c
          refine op_shl pins s σ H _ _ v u Q I rx ry ⟨i, j, rfl, rfl, ⟨c.1.1, c.1.2, ?_⟩, q⟩
          have h2 : ((2 ^ 64 : Nat) : Int) = 2 ^ 64 := by decide
          have := c.2
          omega
        · cases k
      | shr =>
        simp only [intOp] at k
        split at k
        · rename_i c
          cases k
          exact op_shr pins s σ H _ _ v u Q I rx ry ⟨i, j, rfl, rfl, c, q⟩
        · cases k
  · rename_i s1 s2
    obtain ⟨ex, k1⟩ := ra.str
    obtain ⟨ey, k2⟩ := rb.str
    subst ex ey
    split at e
    · rename_i c
      cases e
      refine op_add_str pins s σ H _ _ v u Q I rx ry ⟨s1, s2, rfl, rfl, by rw [← line_eq]; exact c, f.now ?_⟩
      unfold RD
      exact ⟨rfl, strOk_app k1 k2⟩
    · cases e
  · rename_i xs ys
    obtain ⟨a1, v1, ex, h1, l1, g1⟩ := ra.tupq
    obtain ⟨a2, v2, ey, h2, l2, g2⟩ := rb.tupq
    subst ex ey
    split at e
    · rename_i c
      cases e
      rw [line_eq] at c
      have lv : v1.length + v2.length ≤ sizeLine := by rw [← g1.len, ← g2.len]; exact c
      refine op_catD pins s σ H _ _ v u Q I rx ry ⟨a1, a2, v1, v2, rfl, rfl, h1.sq, h2.sq, lv, fun z => ?_, fun _ z => ?_, fun _ _ => ?_⟩
      · have e1 : xs = [] := List.eq_nil_of_length_eq_zero (by rw [g1.len, z]; rfl)
        subst e1
        exact f.now (RD_tup h2 l2 g2)
      · have e1 : ys = [] := List.eq_nil_of_length_eq_zero (by rw [g2.len, z]; rfl)
        subst e1
        rw [List.append_nil] at f
        exact f.now (RD_tup h1 l1 g1)
      · exact f.tup nt (by rw [List.length_append]; exact c) (g1.app g2)
    · cases e
  · rename_i xs ys
    obtain ⟨a1, v1, ex, h1, l1, g1⟩ := ra.lst
    obtain ⟨a2, v2, ey, h2, l2, g2⟩ := rb.lst
    subst ex ey
    split at e
    · rename_i c
      cases e
      rw [line_eq] at c
      have lv : v1.length + v2.length ≤ sizeLine := by rw [← g1.len, ← g2.len]; exact c
      exact op_catL pins s σ H _ _ v u Q I rx ry ⟨a1, a2, v1, v2, rfl, rfl, by rw [hK]; exact h1, by rw [hK]; exact h2, lv, f.lst nt (by rw [List.length_append]; exact c) (g1.app g2)⟩
    · cases e
  · rename_i xs k
    obtain ⟨a1, v1, ex, h1, l1, g1⟩ := ra.tupq
    have ey := rb.int
    subst ex ey
    split at e
    · rename_i c
      cases e
      simp only [Bool.and_eq_true, Bool.not_eq_true', decide_eq_true_eq] at c
      obtain ⟨⟨⟨c1, c2⟩, c3⟩, c4⟩ := c
      have hne : v1 ≠ [] := fun z => by
        have e1 : xs = [] := List.eq_nil_of_length_eq_zero (by rw [g1.len, z]; rfl)
        rw [e1] at c1
        cases c1
      rw [line_eq] at c4
      by_cases k1 : k = 1
      · subst k1
        refine op_rep1 pins s σ H _ _ v u Q I rx ry ⟨a1, v1, rfl, rfl, h1.sq, ?_⟩
        have e0 : (List.replicate (1 : Int).toNat xs).flatten = xs := by simp
        rw [e0] at f
        exact f.now (RD_tup h1 l1 g1)
      by_cases k0 : k ≤ 0
      · have e0 : (List.replicate k.toNat xs).flatten = [] := by rw [Int.toNat_of_nonpos k0]; rfl
        rw [e0] at f
        exact op_rep0 pins s σ H _ _ v u Q I rx ry ⟨a1, k, v1, rfl, rfl, h1.sq, hne, c2, k0, f.tup nt (Nat.zero_le _) .nil⟩
      replace c2 : 2 ≤ k := by omega
      refine op_repA pins s σ H _ _ v u Q I rx ry ⟨a1, k, v1, rfl, rfl, h1.sq, hne, c2, c3, by rw [← g1.len]; exact c4, f.tup nt ?_ (g1.rep _)⟩
      rw [PyProof.Rows.lm_len_rep_flat]
      exact c4
    · cases e
  · cases e
end Tw

set_option linter.all false
set_option Elab.async false
set_option maxRecDepth 100000
set_option maxHeartbeats 2000000
/-! TwB3: comparisons, built-ins. -/
namespace Tw
open PySem PySem.Spec PyProof.Rows L2

mutual
def toPy : P → PyData
  | .non => .none
  | .bl b => .bool b
  | .int i => .int i
  | .str s => .str s
  | .tup xs => .tuple (toPys xs)
  | .lst xs => .list (toPys xs)
  | .ins _ _ _ => .none
  | .err _ _ => .none
def toPys : List P → List PyData
  | [] => []
  | x :: xs => toPy x :: toPys xs
end
section
variable {G : Wd} {m : List Addr} {H : Hp}
mutual
theorem dp_of : ∀ (x : P) (n : Nat) (v : V), x.dat n = true → RD G m H x v → Dp G.K H v (toPy x) ∧ (toPy x).canLay0 = true ∧ (toPy x).depth ≤ n
  | .non, n, v, _, h => by
    have e : v = .non := by simpa only [RD] using h
    subst e
    exact ⟨.non, rfl, Nat.zero_le _⟩
  | .bl b, n, v, _, h => by
    have e : v = .bl b := by simpa only [RD] using h
    subst e
    exact ⟨.bl b, rfl, Nat.zero_le _⟩
  | .int i, n, v, _, h => by
    have e : v = .int i := by simpa only [RD] using h
    subst e
    exact ⟨.int i, rfl, Nat.zero_le _⟩
  | .str s, n, v, _, h => by
    have e : v = .str s ∧ PyData.strOk s = true := by simpa only [RD] using h
    obtain ⟨e, k⟩ := e
    subst e
    exact ⟨.str s, by simpa [toPy, PyData.canLay0] using k, Nat.zero_le _⟩
  | .tup xs, n, v, d, h => by
    simp only [RD] at h
    obtain ⟨a, vs, rfl, h1, _, h3⟩ := h
    cases n with
    | zero => cases xs <;> simp [P.dat, P.dats] at d
    | succ n =>
      obtain ⟨q1, q2, q3⟩ := dps_of xs n vs (by simpa only [P.dat] using d) h3
      refine ⟨.tup h1.sq q1, by simpa [toPy, PyData.canLay0] using q2, ?_⟩
      simp only [toPy, PyData.depth]
      omega
  | .lst xs, n, v, d, h => by
    simp only [RD] at h
    obtain ⟨a, vs, rfl, h1, _, h3⟩ := h
    cases n with
    | zero => cases xs <;> simp [P.dat, P.dats] at d
    | succ n =>
      obtain ⟨q1, q2, q3⟩ := dps_of xs n vs (by simpa only [P.dat] using d) h3
      refine ⟨.lst h1.sq q1, by simpa [toPy, PyData.canLay0] using q2, ?_⟩
      simp only [toPy, PyData.depth]
      omega
  | .ins c ks xs, n, v, d, _ => by simp [P.dat] at d
  | .err c x, n, v, d, _ => by simp [P.dat] at d
theorem dps_of : ∀ (xs : List P) (n : Nat) (vs : List V), P.dats xs (n + 1) = true → RDs G m H xs vs → DpAll G.K H vs (toPys xs) ∧ PyData.canLayAll0 (toPys xs) = true ∧ PyData.depthAll (toPys xs) ≤ n
  | [], n, vs, _, h => by
    have e : vs = [] := by simpa only [RDs] using h
    subst e
    exact ⟨.nil, rfl, Nat.zero_le _⟩
  | x :: xs, n, vs, d, h => by
    simp only [RDs] at h
    obtain ⟨v, r, rfl, h1, h2⟩ := h
    simp only [P.dats, Bool.and_eq_true] at d
    obtain ⟨p1, p2, p3⟩ := dp_of x n v d.1 h1
    obtain ⟨q1, q2, q3⟩ := dps_of xs n r d.2 h2
    refine ⟨.cons p1 q1, by simp [toPys, PyData.canLayAll0, p2, q2], ?_⟩
    simp only [toPys, PyData.depthAll]
    omega
end
theorem dp_rv {x : P} {n : Nat} {v : V} (d : x.dat n = true) (h : RV G m H x v) : Dp G.K H v (toPy x) ∧ (toPy x).canLay0 = true ∧ (toPy x).depth ≤ n := by
  rcases h with h | ⟨ys, a, vs, rfl, rfl, h1, h2, h3⟩
  · exact dp_of x n v d h
  · cases n with
    | zero => cases ys <;> simp [P.dat, P.dats] at d
    | succ n =>
      obtain ⟨q1, q2, q3⟩ := dps_of ys n vs (by simpa only [P.dat] using d) (RDs_f2.mpr h3)
      refine ⟨.lst (.of h1) q1, by simpa [toPy, PyData.canLay0] using q2, ?_⟩
      simp only [toPy, PyData.depth]
      omega
end
mutual
theorem eqv_of : ∀ (x y : P) (n k : Nat), x.dat n = true → y.dat k = true → PyData.eqv (toPy x) (toPy y) = P.eq x y
  | .non, y, _, _, _, e => by cases y <;> simp_all [toPy, PyData.eqv, P.eq, P.dat]
  | .bl b, y, _, _, _, e => by cases y <;> simp_all [toPy, PyData.eqv, P.eq, P.dat]
  | .int i, y, _, _, _, e => by cases y <;> simp_all [toPy, PyData.eqv, P.eq, P.dat]
  | .str s, y, _, _, _, e => by cases y <;> simp_all [toPy, PyData.eqv, P.eq, P.dat]
  | .tup xs, y, n, k, d, e => by
    cases y with
    | tup ys =>
      simp only [toPy, PyData.eqv, P.eq]
      exact eqvs_of xs ys n k (by simpa only [P.dat] using d) (by simpa only [P.dat] using e)
    | ins c ks vs => simp [P.dat] at e
    | err c x => simp [P.dat] at e
    | _ => simp [toPy, PyData.eqv, P.eq]
  | .lst xs, y, n, k, d, e => by
    cases y with
    | lst ys =>
      simp only [toPy, PyData.eqv, P.eq]
      exact eqvs_of xs ys n k (by simpa only [P.dat] using d) (by simpa only [P.dat] using e)
    | ins c ks vs => simp [P.dat] at e
    | err c x => simp [P.dat] at e
    | _ => simp [toPy, PyData.eqv, P.eq]
  | .ins c ks vs, y, n, k, d, _ => by simp [P.dat] at d
  | .err c x, y, n, k, d, _ => by simp [P.dat] at d
theorem eqvs_of : ∀ (xs ys : List P) (n k : Nat), P.dats xs n = true → P.dats ys k = true → PyData.eqvAll (toPys xs) (toPys ys) = P.eqs xs ys
  | [], ys, _, _, _, _ => by cases ys <;> simp [toPys, PyData.eqvAll, P.eqs]
  | x :: xs, ys, n, k, d, e => by
    cases ys with
    | nil => simp [toPys, PyData.eqvAll, P.eqs]
    | cons y ys =>
      cases n with
      | zero => simp [P.dats] at d
      | succ n =>
        cases k with
        | zero => simp [P.dats] at e
        | succ k =>
          simp only [P.dats, Bool.and_eq_true] at d e
          simp only [toPys, PyData.eqvAll, P.eqs]
          rw [eqv_of x y n k d.1 e.1, eqvs_of xs ys (n + 1) (k + 1) d.2 e.2]
end
def cmA : CmpO → CmpOp
  | .lt => .Lt
  | .le => .LtE
  | .gt => .Gt
  | .ge => .GtE
  | .eq => .Eq
  | .ne => .NotEq
  | .inn => .In
  | .nin => .NotIn
  | .is => .Is
  | .isn => .IsNot
def rCmp (G : Wd) (o : CmpO) : R2 := fun x y H Q => ∃ m a b k, Nt m H ∧ RV G m H a x ∧ RV G m H b y ∧ cmpP o a b = some k ∧ Q (.bl k) H
section
variable {G : Wd} {m : List Addr} {H : Hp}
theorem flat_rv {x : P} {v : V} (f : x.flat = true) (h : RV G m H x v) : flatV v = true ∧ ∀ {y : P} {w : V}, y.flat = true → RV G m H y w → eqV v w = x.eq y := by
  cases x with
  | non =>
    have e := h.non
    subst e
    refine ⟨rfl, fun {y w} fy hy => ?_⟩
    cases y with
    | non => rw [hy.non] <;> rfl
    | bl b => rw [hy.bl] <;> rfl
    | int i => rw [hy.int] <;> rfl
    | str s => rw [hy.str.1] <;> rfl
    | _ => simp [P.flat] at fy
  | bl b =>
    have e := h.bl
    subst e
    refine ⟨rfl, fun {y w} fy hy => ?_⟩
    cases y with
    | non => rw [hy.non] <;> rfl
    | bl b => rw [hy.bl] <;> rfl
    | int i => rw [hy.int] <;> rfl
    | str s => rw [hy.str.1] <;> rfl
    | _ => simp [P.flat] at fy
  | int i =>
    have e := h.int
    subst e
    refine ⟨rfl, fun {y w} fy hy => ?_⟩
    cases y with
    | non => rw [hy.non] <;> rfl
    | bl b => rw [hy.bl] <;> rfl
    | int i => rw [hy.int] <;> rfl
    | str s => rw [hy.str.1] <;> rfl
    | _ => simp [P.flat] at fy
  | str s =>
    have e := h.str.1
    subst e
    refine ⟨rfl, fun {y w} fy hy => ?_⟩
    cases y with
    | non => rw [hy.non] <;> rfl
    | bl b => rw [hy.bl] <;> rfl
    | int i => rw [hy.int] <;> rfl
    | str s => rw [hy.str.1] <;> rfl
    | _ => simp [P.flat] at fy
  | _ => simp [P.flat] at f
theorem flats_rv {x : P} {v : V} (f : x.flat = true) (h : RV G m H x v) : ∀ {ys : List P} {vs : List V}, ys.all P.flat = true → F2 (RD G m H) ys vs → vs.all flatV = true ∧ inV v vs = ys.any fun y => y.eq x := by
  intro ys vs fy hy
  induction hy with
  | nil => exact ⟨rfl, rfl⟩
  | cons h1 _ ih =>
    simp only [List.all_cons, Bool.and_eq_true] at fy
    obtain ⟨i1, i2⟩ := ih fy.2
    obtain ⟨j1, j2⟩ := flat_rv fy.1 (.inl h1)
    refine ⟨by simp [j1, i1], ?_⟩
    unfold inV at i2 ⊢
    rw [List.any_cons, List.any_cons, i2, j2 f h]
end
/-! in a row of data, one row before another -/
theorem anys_of {x : P} {n : Nat} (d : x.dat n = true) : ∀ (ys : List P) (k : Nat), P.dats ys k = true → ((toPys ys).any fun y => PyData.eqv y (toPy x)) = ys.any fun y => y.eq x
  | [], _, _ => rfl
  | y :: ys, 0, e => by simp [P.dats] at e
  | y :: ys, k + 1, e => by
    simp only [P.dats, Bool.and_eq_true] at e
    show (PyData.eqv (toPy y) (toPy x) || (toPys ys).any fun y => PyData.eqv y (toPy x)) = (y.eq x || ys.any fun y => y.eq x)
    rw [eqv_of y x k n e.1 d, anys_of d ys (k + 1) e.2]
theorem asInts_rv {G : Wd} {m : List Addr} {H : Hp} : ∀ {xs : List P} {ns : List Int} {vs : List V}, asInts xs = some ns → F2 (RD G m H) xs vs → vs = ns.map V.int
  | [], ns, vs, e, f => by
    cases e
    cases f
    rfl
  | x :: xs, ns, vs, e, f => by
    cases f with
    | @cons _ v _ vs' h t =>
      cases x with
      | int i =>
        unfold asInts at e
        cases q : asInts xs with
        | none => rw [q] at e; cases e
        | some ms =>
          rw [q] at e
          cases e
          have h' : v = .int i := by simpa only [RD] using h
          rw [h', asInts_rv q t]
          rfl
      | _ => cases e
theorem lexL_HT : ∀ xs ys : List Int, HT.lexLt xs ys = lexL xs ys
  | [], [] => rfl
  | [], _ :: _ => rfl
  | _ :: _, [] => rfl
  | x :: xs, y :: ys => by
    rw [HT.lexLt_cons, lexL_HT xs ys]
    rfl
section
variable {X : Cx} {pins : List (Addr × Obj)} {s : Shared} {σ : L2.St} {H : Hp} {x y : V} {v u : Value} {Q : VK} {d : PyData} {es : List PyData}
theorem in_lst (hu : X.A.units + 64 < cLine) (I : Inv X pins σ H s) (rx : RelV x v) (ry : RelV y u) (hd : Dp X.K H x d) (he : Dp X.K H y (.list es)) (c1 : (PyData.list es).canLay0 = true) (c2 : d.canLay0 = true) (c3 : d.depth ≤ 60) (q : Q (.bl (es.any fun y => PyData.eqv y d)) H) : wpAny (model X.prog X.w) X.A (compareOp .In v u) (EP X pins σ Q) X.xe s := by
  obtain ⟨as, r1⟩ := Dp.reads I d x v hd rx
  obtain ⟨bs, r2⟩ := Dp.reads I (.list es) y u he ry
  exact PySem.SeqAt.in_list_reads r2 r1 (by simpa [PyData.canLay0] using c1) c2 (by have := Nat.min_le_right (PyData.depthAll es) d.depth; omega) ⟨.bl _, H, I, rfl, q⟩
theorem in_tup (hu : X.A.units + 64 < cLine) (I : Inv X pins σ H s) (rx : RelV x v) (ry : RelV y u) (hd : Dp X.K H x d) (he : Dp X.K H y (.tuple es)) (c1 : (PyData.tuple es).canLay0 = true) (c2 : d.canLay0 = true) (c3 : d.depth ≤ 60) (q : Q (.bl (es.any fun y => PyData.eqv y d)) H) : wpAny (model X.prog X.w) X.A (compareOp .In v u) (EP X pins σ Q) X.xe s := by
  obtain ⟨as, r1⟩ := Dp.reads I d x v hd rx
  obtain ⟨bs, r2⟩ := Dp.reads I (.tuple es) y u he ry
  exact PySem.SeqAt.in_tuple_reads r2 r1 (by simpa [PyData.canLay0] using c1) c2 (by have := Nat.min_le_right (PyData.depthAll es) d.depth; omega) ⟨.bl _, H, I, rfl, q⟩
theorem nin_lst (hu : X.A.units + 64 < cLine) (I : Inv X pins σ H s) (rx : RelV x v) (ry : RelV y u) (hd : Dp X.K H x d) (he : Dp X.K H y (.list es)) (c1 : (PyData.list es).canLay0 = true) (c2 : d.canLay0 = true) (c3 : d.depth ≤ 60) (q : Q (.bl (!es.any fun y => PyData.eqv y d)) H) : wpAny (model X.prog X.w) X.A (compareOp .NotIn v u) (EP X pins σ Q) X.xe s := by
  obtain ⟨as, r1⟩ := Dp.reads I d x v hd rx
  obtain ⟨bs, r2⟩ := Dp.reads I (.list es) y u he ry
  exact PySem.SeqAt.notIn_list_reads r2 r1 (by simpa [PyData.canLay0] using c1) c2 (by have := Nat.min_le_right (PyData.depthAll es) d.depth; omega) ⟨.bl _, H, I, rfl, q⟩
theorem nin_tup (hu : X.A.units + 64 < cLine) (I : Inv X pins σ H s) (rx : RelV x v) (ry : RelV y u) (hd : Dp X.K H x d) (he : Dp X.K H y (.tuple es)) (c1 : (PyData.tuple es).canLay0 = true) (c2 : d.canLay0 = true) (c3 : d.depth ≤ 60) (q : Q (.bl (!es.any fun y => PyData.eqv y d)) H) : wpAny (model X.prog X.w) X.A (compareOp .NotIn v u) (EP X pins σ Q) X.xe s := by
  obtain ⟨as, r1⟩ := Dp.reads I d x v hd rx
  obtain ⟨bs, r2⟩ := Dp.reads I (.tuple es) y u he ry
  exact PySem.SeqAt.notIn_tuple_reads r2 r1 (by simpa [PyData.canLay0] using c1) c2 (by have := Nat.min_le_right (PyData.depthAll es) d.depth; omega) ⟨.bl _, H, I, rfl, q⟩
end
theorem dec_true {p : Prop} [Decidable p] (h : p) : decide p = true := decide_eq_true h
theorem sign_eq {s : Str} {c : Nat} (h : s.cps.toList = [c]) : s = ⟨#[c]⟩ := by
  obtain ⟨a⟩ := s
  obtain ⟨l⟩ := a
  have h' : l = [c] := h
  rw [h']
theorem op_cmp {X : Cx} {G : Wd} (hK : X.K = G.K) (hu : X.A.units + 64 < cLine) (o : CmpO) : OpR X (compareOp (cmA o)) (rCmp G o) := by
  intro pins s σ H x y v u Q I rx ry h
  obtain ⟨m, a, b, k, nt, ra, rb, e, q⟩ := h
  unfold cmpP at e
  split at e
  · have ex := ra.int
    have ey := rb.int
    subst ex ey
    cases e
    exact op_lt pins s σ H _ _ v u Q I rx ry ⟨_, _, rfl, rfl, q⟩
  · have ex := ra.int
    have ey := rb.int
    subst ex ey
    cases e
    exact op_le pins s σ H _ _ v u Q I rx ry ⟨_, _, rfl, rfl, q⟩
  · have ex := ra.int
    have ey := rb.int
    subst ex ey
    cases e
    exact op_gt pins s σ H _ _ v u Q I rx ry ⟨_, _, rfl, rfl, q⟩
  · have ex := ra.int
    have ey := rb.int
    subst ex ey
    cases e
    exact op_ge pins s σ H _ _ v u Q I rx ry ⟨_, _, rfl, rfl, q⟩
  · have ex := ra.str.1
    have ey := rb.str.1
    subst ex ey
    cases e
    exact op_lt_str pins s σ H _ _ v u Q I rx ry ⟨_, _, rfl, rfl, q⟩
  · have ex := ra.str.1
    have ey := rb.str.1
    subst ex ey
    cases e
    exact op_le_str pins s σ H _ _ v u Q I rx ry ⟨_, _, rfl, rfl, q⟩
  · have ex := ra.str.1
    have ey := rb.str.1
    subst ex ey
    cases e
    exact op_gt_str pins s σ H _ _ v u Q I rx ry ⟨_, _, rfl, rfl, q⟩
  · have ex := ra.str.1
    have ey := rb.str.1
    subst ex ey
    cases e
    exact op_ge_str pins s σ H _ _ v u Q I rx ry ⟨_, _, rfl, rfl, q⟩
  · rename_i xs ys
    split at e
    · rename_i ns ms e1 e2
      cases e
      obtain ⟨l, vs, ex, h1, _, g1⟩ := ra.tup
      obtain ⟨l2, vs2, ey, h2, _, g2⟩ := rb.tup
      subst ex ey
      rw [asInts_rv e1 g1] at h1
      rw [asInts_rv e2 g2] at h2
      exact op_ltT (by omega) pins s σ H _ _ v u Q I rx ry ⟨l, l2, ns, ms, rfl, rfl, by rw [hK]; exact h1, by rw [hK]; exact h2, by rw [lexL_HT]; exact q⟩
    · cases e
  · split at e
    · rename_i c
      cases e
      rw [Bool.and_eq_true] at c
      obtain ⟨p1, p2, p3⟩ := dp_rv c.1 ra
      obtain ⟨q1, q2, q3⟩ := dp_rv c.2 rb
      rw [← hK] at p1 q1
      refine op_eqD hu pins s σ H _ _ v u Q I rx ry ⟨_, _, p1, q1, ?_, ?_, ?_⟩
      · unfold SeqAt.shaped; rw [p2, decide_eq_true (by omega)] <;> rfl
      · unfold SeqAt.shaped; rw [q2, decide_eq_true (by omega)] <;> rfl
      · rw [eqv_of _ _ _ _ c.1 c.2]; exact q
    · cases e
  · split at e
    · rename_i c
      cases e
      rw [Bool.and_eq_true] at c
      obtain ⟨p1, p2, p3⟩ := dp_rv c.1 ra
      obtain ⟨q1, q2, q3⟩ := dp_rv c.2 rb
      rw [← hK] at p1 q1
      refine op_neD hu pins s σ H _ _ v u Q I rx ry ⟨_, _, p1, q1, ?_, ?_, ?_⟩
      · unfold SeqAt.shaped; rw [p2, decide_eq_true (by omega)] <;> rfl
      · unfold SeqAt.shaped; rw [q2, decide_eq_true (by omega)] <;> rfl
      · rw [eqv_of _ _ _ _ c.1 c.2]; exact q
    · cases e
  · have ey := rb.non
    subst ey
    refine op_isN pins s σ H _ _ v u Q I rx ry ⟨rfl, ?_⟩
    have e2 : decide (x = V.non) = k := by
      cases a with
      | non => rw [ra.non]; cases e; rfl
      | bl b => rw [ra.bl]; cases e; rfl
      | int b => rw [ra.int]; cases e; rfl
      | str b => rw [ra.str.1]; cases e; rfl
      | tup b => obtain ⟨_, _, z, _⟩ := ra.tup; rw [z]; cases e; rfl
      | lst b => obtain ⟨_, _, z, _⟩ := ra.lst; rw [z]; cases e; rfl
      | ins c ks b =>
        rcases ra with ra | ⟨_, _, _, z, _⟩
        · simp only [RD] at ra
          obtain ⟨_, _, _, z, _⟩ := ra
          rw [z]; cases e; rfl
        · cases z
      | err c b =>
        rcases ra with ra | ⟨_, _, _, z, _⟩
        · simp only [RD] at ra
          obtain ⟨_, _, _, z, _⟩ := ra
          rw [z]; cases e; rfl
        · cases z
    rw [e2]
    exact q
  · have ey := rb.non
    subst ey
    refine op_notN pins s σ H _ _ v u Q I rx ry ⟨rfl, ?_⟩
    have e2 : (!decide (x = V.non)) = k := by
      cases a with
      | non => rw [ra.non]; cases e; rfl
      | bl b => rw [ra.bl]; cases e; rfl
      | int b => rw [ra.int]; cases e; rfl
      | str b => rw [ra.str.1]; cases e; rfl
      | tup b => obtain ⟨_, _, z, _⟩ := ra.tup; rw [z]; cases e; rfl
      | lst b => obtain ⟨_, _, z, _⟩ := ra.lst; rw [z]; cases e; rfl
      | ins c ks b =>
        rcases ra with ra | ⟨_, _, _, z, _⟩
        · simp only [RD] at ra
          obtain ⟨_, _, _, z, _⟩ := ra
          rw [z]; cases e; rfl
        · cases z
      | err c b =>
        rcases ra with ra | ⟨_, _, _, z, _⟩
        · simp only [RD] at ra
          obtain ⟨_, _, _, z, _⟩ := ra
          rw [z]; cases e; rfl
        · cases z
    rw [e2]
    exact q
  · rename_i a b
    have ex := ra.bl
    have ey := rb.bl
    subst ex ey
    cases e
    refine op_isBl pins s σ H _ _ v u Q I rx ry ⟨a, b, rfl, rfl, ?_⟩
    have e2 : decide (a = b) = (a == b) := by cases a <;> cases b <;> rfl
    rw [e2]
    exact q
  · rename_i s1 s2
    have ex := ra.str.1
    have ey := rb.str.1
    subst ex ey
    split at e
    · rename_i c q0
      cases e
      have e1 : s1 = ⟨#[c]⟩ := sign_eq q0
      subst e1
      exact op_in_sign pins s σ H _ _ v u Q I rx ry ⟨c, s2, rfl, rfl, q⟩
    · cases e
  · rename_i s1 s2
    have ex := ra.str.1
    have ey := rb.str.1
    subst ex ey
    split at e
    · rename_i c q0
      cases e
      have e1 : s1 = ⟨#[c]⟩ := sign_eq q0
      subst e1
      exact op_notIn_sign pins s σ H _ _ v u Q I rx ry ⟨c, s2, rfl, rfl, q⟩
    · cases e
  · rename_i ys
    split at e
    · rename_i c
      obtain ⟨l, vs, ey, h1, l1, g1⟩ := rb.lst
      subst ey
      cases e
      rw [Bool.and_eq_true] at c
      obtain ⟨f1, f2⟩ := flats_rv c.1 ra c.2 g1
      refine op_in_seq pins s σ H _ _ v u Q I rx ry ⟨l, vs, rfl, .inl (by rw [hK]; exact h1), (flat_rv c.1 ra).1, f1, ?_⟩
      rw [if_neg Bool.false_ne_true, f2]
      exact q
    · split at e
      · rename_i c
        cases e
        rw [Bool.and_eq_true] at c
        obtain ⟨p1, p2, p3⟩ := dp_rv c.1 ra
        obtain ⟨q1, q2, q3⟩ := dp_rv (x := .lst ys) (n := 60) c.2 rb
        rw [← hK] at p1 q1
        exact in_lst hu I rx ry p1 q1 q2 p2 p3 (by rw [anys_of c.1 ys 60 c.2]; exact q)
      · cases e
  · rename_i ys
    split at e
    · rename_i c
      obtain ⟨l, vs, ey, h1, l1, g1⟩ := rb.tup
      subst ey
      cases e
      rw [Bool.and_eq_true] at c
      obtain ⟨f1, f2⟩ := flats_rv c.1 ra c.2 g1
      refine op_in_seq pins s σ H _ _ v u Q I rx ry ⟨l, vs, rfl, .inr (by rw [hK]; exact h1), (flat_rv c.1 ra).1, f1, ?_⟩
      rw [if_neg Bool.false_ne_true, f2]
      exact q
    · split at e
      · rename_i c
        cases e
        rw [Bool.and_eq_true] at c
        obtain ⟨p1, p2, p3⟩ := dp_rv c.1 ra
        obtain ⟨q1, q2, q3⟩ := dp_rv (x := .tup ys) (n := 60) c.2 rb
        rw [← hK] at p1 q1
        exact in_tup hu I rx ry p1 q1 q2 p2 p3 (by rw [anys_of c.1 ys 60 c.2]; exact q)
      · cases e
  · rename_i ys
    split at e
    · rename_i c
      obtain ⟨l, vs, ey, h1, l1, g1⟩ := rb.lst
      subst ey
      cases e
      rw [Bool.and_eq_true] at c
      obtain ⟨f1, f2⟩ := flats_rv c.1 ra c.2 g1
      refine op_notIn_seq pins s σ H _ _ v u Q I rx ry ⟨l, vs, rfl, .inl (by rw [hK]; exact h1), (flat_rv c.1 ra).1, f1, ?_⟩
      rw [if_pos rfl, f2]
      exact q
    · split at e
      · rename_i c
        cases e
        rw [Bool.and_eq_true] at c
        obtain ⟨p1, p2, p3⟩ := dp_rv c.1 ra
        obtain ⟨q1, q2, q3⟩ := dp_rv (x := .lst ys) (n := 60) c.2 rb
        rw [← hK] at p1 q1
        exact nin_lst hu I rx ry p1 q1 q2 p2 p3 (by rw [anys_of c.1 ys 60 c.2]; exact q)
      · cases e
  · rename_i ys
    split at e
    · rename_i c
      obtain ⟨l, vs, ey, h1, l1, g1⟩ := rb.tup
      subst ey
      cases e
      rw [Bool.and_eq_true] at c
      obtain ⟨f1, f2⟩ := flats_rv c.1 ra c.2 g1
      refine op_notIn_seq pins s σ H _ _ v u Q I rx ry ⟨l, vs, rfl, .inr (by rw [hK]; exact h1), (flat_rv c.1 ra).1, f1, ?_⟩
      rw [if_pos rfl, f2]
      exact q
    · split at e
      · rename_i c
        cases e
        rw [Bool.and_eq_true] at c
        obtain ⟨p1, p2, p3⟩ := dp_rv c.1 ra
        obtain ⟨q1, q2, q3⟩ := dp_rv (x := .tup ys) (n := 60) c.2 rb
        rw [← hK] at p1 q1
        exact nin_tup hu I rx ry p1 q1 q2 p2 p3 (by rw [anys_of c.1 ys 60 c.2]; exact q)
      · cases e
  · cases e
end Tw

set_option linter.all false
set_option Elab.async false
set_option maxRecDepth 100000
set_option maxHeartbeats 2000000
/-! TwB4: built-ins. -/
namespace Tw
open PySem PySem.Spec PyProof.Rows L2

section
variable {G : Wd} {m : List Addr} {H : Hp}
theorem ints_of : ∀ {xs : List P} {ns : List Int} {vs : List V}, asInts xs = some ns → F2 (RD G m H) xs vs → vs = ns.map V.int
  | [], ns, vs, e, h => by cases h; cases e; rfl
  | x :: xs, ns, vs, e, h => by
    cases h with
    | cons h t =>
      cases x with
      | int i =>
        simp only [asInts] at e
        split at e
        · rename_i r q
          cases e
          rw [ints_of q t]
          simp only [RD] at h
          rw [h, List.map_cons]
        · cases e
      | _ => simp [asInts] at e
theorem bls_of : ∀ {xs : List P} {ns : List Bool} {vs : List V}, asBls xs = some ns → F2 (RD G m H) xs vs → vs = ns.map V.bl
  | [], ns, vs, e, h => by cases h; cases e; rfl
  | x :: xs, ns, vs, e, h => by
    cases h with
    | cons h t =>
      cases x with
      | bl i =>
        simp only [asBls] at e
        split at e
        · rename_i r q
          cases e
          rw [bls_of q t]
          simp only [RD] at h
          rw [h, List.map_cons]
        · cases e
      | _ => simp [asBls] at e
end
theorem maxL_mem : ∀ (r : List Int) (i : Int), maxL i r ∈ i :: r
  | [], i => by simp [maxL]
  | j :: r, i => by
    simp only [maxL]
    split
    · exact List.mem_cons_of_mem _ (maxL_mem r j)
    · rcases List.mem_cons.mp (maxL_mem r i) with e | e
      · rw [e]; exact List.mem_cons_self
      · exact List.mem_cons_of_mem _ (List.mem_cons_of_mem _ e)
theorem maxL_ge0 : ∀ (r : List Int) (i : Int), i ≤ maxL i r
  | [], i => by simp [maxL]
  | j :: r, i => by
    simp only [maxL]
    split
    · have := maxL_ge0 r j; omega
    · exact maxL_ge0 r i
theorem maxL_ge : ∀ (r : List Int) (i : Int), ∀ y ∈ i :: r, y ≤ maxL i r
  | [], i, y, h => by simp at h; rw [h]; simp [maxL]
  | j :: r, i, y, h => by
    simp only [maxL]
    rcases List.mem_cons.mp h with e | h
    · split
      · have := maxL_ge0 r j; omega
      · rw [e]; exact maxL_ge0 r i
    · rcases List.mem_cons.mp h with e | h
      · split
        · rw [e]; exact maxL_ge0 r j
        · have := maxL_ge0 r i; omega
      · split
        · exact maxL_ge r j y (List.mem_cons_of_mem _ h)
        · exact maxL_ge r i y (List.mem_cons_of_mem _ h)
theorem minL_mem : ∀ (r : List Int) (i : Int), minL i r ∈ i :: r
  | [], i => by simp [minL]
  | j :: r, i => by
    simp only [minL]
    split
    · exact List.mem_cons_of_mem _ (minL_mem r j)
    · rcases List.mem_cons.mp (minL_mem r i) with e | e
      · rw [e]; exact List.mem_cons_self
      · exact List.mem_cons_of_mem _ (List.mem_cons_of_mem _ e)
theorem minL_le0 : ∀ (r : List Int) (i : Int), minL i r ≤ i
  | [], i => by simp [minL]
  | j :: r, i => by
    simp only [minL]
    split
    · have := minL_le0 r j; omega
    · exact minL_le0 r i
theorem minL_le : ∀ (r : List Int) (i : Int), ∀ y ∈ i :: r, minL i r ≤ y
  | [], i, y, h => by simp at h; rw [h]; simp [minL]
  | j :: r, i, y, h => by
    simp only [minL]
    rcases List.mem_cons.mp h with e | h
    · split
      · have := minL_le0 r j; omega
      · rw [e]; exact minL_le0 r i
    · rcases List.mem_cons.mp h with e | h
      · split
        · rw [e]; exact minL_le0 r j
        · have := minL_le0 r i; omega
      · split
        · exact minL_le r j y (List.mem_cons_of_mem _ h)
        · exact minL_le r i y (List.mem_cons_of_mem _ h)
def biV : Bi → Value
  | .abs => .builtin "abs"
  | .int => .type "int"
  | .str => .type "str"
  | .sum => .builtin "sum"
  | .all => .builtin "all"
  | .any => .builtin "any"
  | .max => .builtin "max"
  | .min => .builtin "min"
  | .tuple => .type "tuple"
  | .max0 => .builtin "max"
def rBi (G : Wd) (b : Bi) : List V → Hp → VK → Prop := fun vs H Q => ∃ m ys z, Nt m H ∧ F2 (RV G m H) ys vs ∧ biP b ys = some z ∧ Fin1 G m H z Q
theorem strOk_of {s : Str} (h : ∀ c ∈ s.cps.toList, c < 0x110000) : PySem.PyData.strOk s = true := by
  unfold PySem.PyData.strOk
  rw [Array.all_eq_true_iff_forall_mem]
  intro x hx
  exact decide_eq_true (h x (by simpa using hx))
theorem call_bi {X : Cx} {G : Wd} (hK : X.K = G.K) (hc : X.calm = true) (b : Bi) (hb : b ≠ .max0) (hst : ∀ i : Int, PySem.PyData.strOk (Str.ofString (toString i)) = true) : CallR X (biV b) (rBi G b) := by
  intro pins s σ H vs us Q I r h
  obtain ⟨m, ys, z, nt, f2, e, f⟩ := h
  unfold biP at e
  split at e
  · cases e
    obtain ⟨v, rfl, h1⟩ := f2.inv1
    rw [h1.int] at r
    exact call_abs pins s σ H _ us Q I r ⟨_, rfl, f.now (by simp only [RD])⟩
  · cases e
    obtain ⟨v, rfl, h1⟩ := f2.inv1
    rw [h1.int] at r
    exact call_int1 pins s σ H _ us Q I r (.inl ⟨_, rfl, f.now (by simp only [RD])⟩)
  · cases e
    obtain ⟨v, rfl, h1⟩ := f2.inv1
    rw [h1.bl] at r
    exact call_int1 pins s σ H _ us Q I r (.inr ⟨_, rfl, f.now (by simp only [RD])⟩)
  · split at e
    · rename_i c
      cases e
      obtain ⟨v, rfl, h1⟩ := f2.inv1
      rw [h1.int] at r
      exact call_str_int pins s σ H _ us Q I r ⟨_, rfl, c, f.now (by unfold RD; exact ⟨rfl, hst _⟩)⟩
    · cases e
  · rename_i xs
    obtain ⟨v, rfl, h1⟩ := f2.inv1
    obtain ⟨a, ws, rfl, h2, _, h3⟩ := h1.lst
    cases q : asInts xs with
    | none => rw [q] at e; cases e
    | some ns =>
      rw [q] at e
      cases e
      have e1 := ints_of q h3
      subst e1
      exact cr_sum hc pins s σ H _ us Q I r ⟨a, ns, rfl, by rw [hK]; exact h2, f.now (by simp only [RD])⟩
  · rename_i xs
    obtain ⟨v, rfl, h1⟩ := f2.inv1
    obtain ⟨a, ws, rfl, h2, _, h3⟩ := h1.lst
    cases q : asBls xs with
    | none => rw [q] at e; cases e
    | some ns =>
      rw [q] at e
      cases e
      have e1 := bls_of q h3
      subst e1
      exact cr_all hc pins s σ H _ us Q I r ⟨a, ns, rfl, by rw [hK]; exact h2, f.now (by simp only [RD])⟩
  · rename_i xs
    obtain ⟨v, rfl, h1⟩ := f2.inv1
    obtain ⟨a, ws, rfl, h2, _, h3⟩ := h1.lst
    cases q : asBls xs with
    | none => rw [q] at e; cases e
    | some ns =>
      rw [q] at e
      cases e
      have e1 := bls_of q h3
      subst e1
      exact cr_any hc pins s σ H _ us Q I r ⟨a, ns, rfl, by rw [hK]; exact h2, f.now (by simp only [RD])⟩
  · cases e
    obtain ⟨v, v', rfl, h1, h2⟩ := f2.inv2
    rw [h1.int, h2.int] at r
    exact call_max2 hc pins s σ H _ us Q I r ⟨_, _, rfl, f.now (by simp only [RD])⟩
  · cases e
    obtain ⟨v, v', rfl, h1, h2⟩ := f2.inv2
    rw [h1.int, h2.int] at r
    exact call_min2 hc pins s σ H _ us Q I r ⟨_, _, rfl, f.now (by simp only [RD])⟩
  · rename_i xs
    obtain ⟨v, rfl, h1⟩ := f2.inv1
    obtain ⟨a, ws, rfl, h2, _, h3⟩ := h1.lst
    split at e
    · rename_i n ns q
      cases e
      have e1 := ints_of q h3
      subst e1
      refine cr_max hc pins s σ H _ us Q I r ⟨a, n :: ns, rfl, by rw [hK]; exact h2, by simp, fun M hM hle => ?_⟩
      have e2 : M = maxL n ns := Int.le_antisymm (maxL_ge ns n M hM) (hle _ (maxL_mem ns n))
      rw [e2]
      exact f.now (by simp only [RD])
    · cases e
  · rename_i xs
    obtain ⟨v, rfl, h1⟩ := f2.inv1
    obtain ⟨a, ws, rfl, h2, _, h3⟩ := h1.lst
    split at e
    · rename_i n ns q
      cases e
      have e1 := ints_of q h3
      subst e1
      refine cr_min hc pins s σ H _ us Q I r ⟨a, n :: ns, rfl, by rw [hK]; exact h2, by simp, fun M hM hle => ?_⟩
      have e2 : M = minL n ns := Int.le_antisymm (hle _ (minL_mem ns n)) (minL_le ns n M hM)
      rw [e2]
      exact f.now (by simp only [RD])
    · cases e
  · exact absurd rfl hb
  · rename_i xs
    obtain ⟨v, rfl, h1⟩ := f2.inv1
    obtain ⟨a, ws, rfl, h2, h4, h3⟩ := h1.lst
    cases e
    exact call_tupleD pins s σ H _ us Q I r ⟨a, ws, rfl, .inl ⟨by rw [hK]; exact h2, f.tup nt h4 h3⟩⟩
  · rename_i xs
    obtain ⟨v, rfl, h1⟩ := f2.inv1
    obtain ⟨a, ws, rfl, h2, h4, h3⟩ := h1.tupq
    cases e
    exact call_tupleD pins s σ H _ us Q I r ⟨a, ws, rfl, .inr ⟨h2.sq, f.now (RD_tup h2 h4 h3)⟩⟩
  · cases e

/-! ### max(xs, default=d) -/
theorem maxL_fold : ∀ (ns : List Int) (n : Int), ns.foldl max n = maxL n ns
  | [], n => rfl
  | k :: r, n => by
    rw [List.foldl_cons, maxL_fold r]
    simp only [maxL]
    by_cases h : n < k
    · rw [if_pos h]; exact congrArg (fun z => maxL z r) (by omega)
    · rw [if_neg h]; exact congrArg (fun z => maxL z r) (by omega)
theorem pyInts : ∀ ns : List Int, toPys (ns.map P.int) = ns.map PyData.int
  | [] => rfl
  | n :: r => by simp [toPys, toPy, pyInts r]
theorem alike_ints (ns : List Int) : PySem.W.AlikeAll (ns.map PyData.int) := by
  refine ⟨fun x hx y hy => ?_, fun x hx => ?_⟩
  · obtain ⟨i, _, rfl⟩ := List.mem_map.mp hx
    obtain ⟨j, _, rfl⟩ := List.mem_map.mp hy
    rfl
  · obtain ⟨i, _, rfl⟩ := List.mem_map.mp hx
    intro z; cases z
theorem depth_ints : ∀ ns : List Int, PyData.depthAll (ns.map PyData.int) = 0
  | [] => rfl
  | n :: r => by simp [PyData.depthAll, PyData.depth, depth_ints r]
theorem dps_ints {K : PySem.W.Frag} {H : Hp} : ∀ ns : List Int, DpAll K H (ns.map V.int) (ns.map PyData.int)
  | [] => .nil
  | n :: r => .cons (.int n) (dps_ints r)
theorem reads_int {h : Heap} {v : Value} {i : Int} {as : List Addr} (r : Reads h v (.int i) as) : ∃ t, v = .int i t := by
  cases r
  exact ⟨_, rfl⟩
/-- max(xs, default=d) of a list of ints -/
def rMax0 (K : PySem.W.Frag) (x y : V) (H : Hp) (Q : VK) : Prop := ∃ a ns d, x = .ref a ∧ y = .int d ∧ SqL K H a (ns.map V.int) ∧ (ns = [] → Q (.int d) H) ∧ ∀ n r, ns = n :: r → Q (.int (maxL n r)) H
theorem call_max0 {X : Cx} (hc : X.calm = true) (hu : X.A.units + 64 < cLine) {pins : List (Addr × Obj)} {s : Shared} {σ : L2.St} {H : Hp} {x y : V} {u w : Value} {Q : VK} (I : Inv X pins σ H s) (rx : RelV x u) (ry : RelV y w) (h : rMax0 X.K x y H Q) :
    wpAny (model X.prog X.w) X.A (call (.builtin "max") [u] [(Str.ofString "default", w)]) (EP X pins σ Q) X.xe s := by
  obtain ⟨a, ns, d, rfl, rfl, hl, h0, h1⟩ := h
  cases rx
  obtain ⟨t, rfl⟩ := ry
  obtain ⟨its, rv, p, hz⟩ := I.list hl
  obtain ⟨as, rd⟩ := Dp.readsAll I (ns.map PyData.int) _ its (dps_ints ns) rv
  refine PySem.W.max_list_default (I.ok.hd hc) p.isList (vs := its.toArray) (by simpa using rd) (alike_ints ns) (by rw [depth_ints]; omega) (fun e h' tk k => ?_) fun y ys i v h' tk bs e hv r k => ?_
  · have e1 : ns = [] := by simpa using e
    exact ⟨.int d, H, I.kept (t' := tk) k, ⟨t, rfl⟩, h0 e1⟩
  · cases ns with
    | nil => cases e
    | cons n ns =>
      rw [List.map_cons] at e
      injection e with e1 e2
      subst e1 e2
      rw [PySem.W.maxD_ints, maxL_fold] at r
      obtain ⟨t', rfl⟩ := reads_int r
      exact ⟨.int _, H, I.kept (t' := tk) k, ⟨t', rfl⟩, h1 n ns rfl⟩

/-! ### strings of ints -/
end Tw

set_option linter.all false
set_option Elab.async false
set_option maxRecDepth 100000
set_option maxHeartbeats 2000000
/-! TwB5: t[::-1] of a tuple. -/
namespace Tw
open PySem PySem.Spec PyProof.Rows L2 HT
section
variable {prog : Program} {w : World} {A : Around} {E : Value → Shared → Prop} {s : Shared}
theorem applied_rev {sl : Addr} {vl vu vs : Value} {n : Nat} {Q : Int × Int × Nat → Shared → Prop} (hs : s.heap.IsSliceOf sl vl vu vs) (pl : IsPart vl none) (pu : IsPart vu none) (ps : IsPart vs (some (-1))) (h : Q ((n : Int) - 1, -1, n) s) :
    wpAny (model prog w) A (Builtin.Slice.sliceApplied (.ref sl) (pure (n : Int))) Q E s := by
  obtain ⟨os, ho, hc, hd⟩ := id hs
  unfold Builtin.Slice.sliceApplied Builtin.Slice.sliceFields
  refine wpAny_bind (wpAny_bind (wpAny_field ho hd (x := vl) rfl (wpAny_bind (wpAny_field ho hd (x := vu) rfl (wpAny_bind (wpAny_field ho hd (x := vs) rfl (wpAny_pure ?_)))))))
  refine wpAny_bind (slicePart_ ps ?_)
  show wpAny _ _ (if ((-1 : Int) == 0) = true then _ else _) _ _ s
  rw [if_neg (by decide)]
  refine wpAny_bind (slicePart_ pl (wpAny_bind (slicePart_ pu (wpAny_bind (wpAny_pure ?_)))))
  have e : Builtin.Slice.slicePlaces ((n : Int) - 1) (-1) (-1) = n := by
    unfold Builtin.Slice.slicePlaces
    rw [if_neg (by decide)]
    by_cases q : (n : Int) - 1 > -1
    · rw [if_pos q, show (- -1 : Int) = 1 by decide, Int.ediv_one]
      omega
    · rw [if_neg q]
      omega
  show wpAny _ _ (pure (((n : Int) - 1), (-1 : Int), Builtin.Slice.slicePlaces ((n : Int) - 1) (-1) (-1))) _ _ s
  rw [e]
  exact wpAny_pure h
theorem pick_rev (xs : Array Value) : ((List.range xs.size).filterMap fun (m : Nat) => xs[((xs.size : Int) - 1 + (m : Int) * (-1)).toNat]?).toArray = xs.toList.reverse.toArray := by
  have e : ((List.range xs.size).filterMap fun (m : Nat) => xs[((xs.size : Int) - 1 + (m : Int) * (-1)).toNat]?) = ((List.range xs.size).map fun k => xs.size - 1 - k).filterMap (xs[·]?) := by
    rw [List.filterMap_map]
    congr 1
    funext m
    have : ((xs.size : Int) - 1 + (m : Int) * (-1)).toNat = xs.size - 1 - m := by omega
    show xs[((xs.size : Int) - 1 + (m : Int) * (-1)).toNat]? = xs[xs.size - 1 - m]?
    rw [this]
  rw [e, PySem.W.krv_range, List.filterMap_reverse, PySem.W.krv_all]
theorem item_rev {t sl : Addr} {items : Array Value} {vl vu vs : Value} {Q : Value → Shared → Prop} (ht : IsTup s.heap t items) (hs : s.heap.IsSliceOf sl vl vu vs) (pl : IsPart vl none) (pu : IsPart vu none) (ps : IsPart vs (some (-1)))
    (h : Q (.ref s.heap.objs.size) { s with heap := s.heap.push { cls := .type "tuple", data := .seq items.toList.reverse.toArray } }) (hz : items.size ≤ sizeLine) : wpAny (model prog w) A (getItem (.ref t) (.ref sl)) Q E s := by
  have ok : sizeOk (.seq items.toList.reverse.toArray) := by
    show items.toList.reverse.toArray.size ≤ sizeLine
    rw [List.size_toArray, List.length_reverse, Array.length_toList]
    exact hz
  obtain ⟨os, ho, hc, hd⟩ := id hs
  have ty : s.TypeIs (.ref sl) "slice" := ⟨os, ho, hc⟩
  unfold getItem
  try with_reducible refine wpAny_holding ?_
  first | refine wpAny_bind (wpAny_pure ?_) | skip
  refine wpAny_bind (wpAny_sequenceKey ht.typeIs (by decide) ?_)
  refine wpAny_bind (wpAny_callSpecial?_slot (name := Str.ofString "__getitem__") ht.typeIs slot_tuple_getitem (wpAny_call_entry slot_tuple_getitem ht.typeIs entry_tuple_getitem ?_ (args_tuple_getitem _ _)))
  show wpAny _ _ (Builtin.Tuple.tupleItemsOf (.ref t) >>= _) _ _ s
  refine wpAny_bind (tupleItemsOf_ ht ?_)
  refine wpAny_bind (wpAny_typeOf ty ?_)
  rw [if_pos (by decide)]
  refine wpAny_bind (applied_rev hs pl pu ps ?_)
  have no : ¬ ((((items.size : Int) - 1) == 0 && (-1 : Int) == 1 && items.size == items.size) = true) := by
    intro q
    rw [Bool.and_eq_true, Bool.and_eq_true] at q
    exact absurd q.1.2 (by decide)
  show wpAny _ _ (if (((items.size : Int) - 1) == 0 && (-1 : Int) == 1 && items.size == items.size) = true then _ else _) _ _ s
  rw [if_neg no, pick_rev]
  first
    | exact wpAny_bind (m := Builtin.Tuple.tupleExact _) (wpAny_newObj_type (wpAny_pure ⟨_, rfl, wpAny_pure h⟩) ok)
    | exact wpAny_bind (m := Builtin.Tuple.tupleExact _) (wpAny_newObj_type (wpAny_bind (wpAny_pure (wpAny_pure ⟨_, rfl, wpAny_pure h⟩))) ok)
    | exact wpAny_bind (wpAny_bind (m := Builtin.Tuple.tupleExact _) (wpAny_newObj_type (wpAny_pure (wpAny_pure ⟨_, rfl, wpAny_pure h⟩)) ok))
    | exact wpAny_bind (wpAny_bind (m := Builtin.Tuple.tupleExact _) (wpAny_newObj_type (wpAny_pure ⟨_, rfl, wpAny_pure h⟩) ok))
end
/-- t[::-1] -/
def tRevT (K : PySem.W.Frag) (te : TE) : TE := fun σ H Q => te σ H fun x H1 => ∃ a xs, x = .ref a ∧ SqT K H1 a xs ∧ NewT H1 Q xs.reverse
theorem pe_revT {X : Cx} {e : Expr} {te : TE} {k : Nat} {p1 p2 p3 pos : Pos} (he : PE X e te) : PE X (.Subscript e (.Slice none none (some (.UnaryOp .USub (.Constant (.int 1) k p1) p2)) p3) pos) (tRevT X.K te) := by
  refine ⟨fun pins s σ H Q I h => Subscript_ (thn (he.run pins s σ H _ I h) fun v s1 ⟨x, H1, I1, r1, a, xs, ex, hx, q⟩ => ?_)⟩
  subst ex
  cases r1
  have st : PO X (some (.UnaryOp .USub (.Constant (.int 1) k p1) p2)) (tPart (tUn (rU fun i => .int (-i)) (tC (.int 1)))) := po_some (pe_un un_neg pe_int)
  refine wpAny_Slice (thn (po_none.run pins s1 σ H1 (fun o H2 => o = none ∧ H2 = H1) I1 ⟨rfl, rfl⟩) fun vl s2 ⟨l, H2, I2, pl, el, e2⟩ => ?_)
  subst el e2
  refine thn (po_none.run pins s2 σ H2 (fun o H3 => o = none ∧ H3 = H2) I2 ⟨rfl, rfl⟩) fun vu s3 ⟨u, H3, I3, pu, eu, e3⟩ => ?_
  subst eu e3
  refine thn (st.run pins s3 σ H3 (fun o H4 => o = some (-1) ∧ H4 = H3) I3 ⟨1, rfl, -1, rfl, rfl, rfl⟩) fun vs s4 ⟨o, H4, I4, ps, eo, e4⟩ => ?_
  subst eo e4
  have J : Inv X pins σ H4 { s4 with heap := s4.heap.push { cls := .type "slice", data := .fields #[vl, vu, vs] } } := I4.kept (t' := s4.toks) fun b ob q => Heap.get?_push_of_some _ q
  obtain ⟨its, r, ht, hz⟩ := J.tuple hx
  have hl := r.length
  show wpAny (model X.prog X.w) X.A (subscriptTail e (.Slice none none (some (.UnaryOp .USub (.Constant (.int 1) k p1) p2)) p3) (.ref a) (.ref s4.heap.objs.size)) (EP X pins σ Q) X.xe { s4 with heap := s4.heap.push { cls := .type "slice", data := .fields #[vl, vu, vs] } }
  refine tail_any (ops := [.ref a, .ref s4.heap.objs.size]) (show IsTup _ a its.toArray from ht).typeIs (slot_tuple_getitem.lookup) ?_ (by with_unfolding_all rfl)
  refine item_rev ht (Heap.IsSliceOf.new _ vl vu vs) pl pu ps ?_ (by rw [List.size_toArray]; omega)
  exact laidT (k := s4.toks) J r.reverse (by rw [List.length_reverse]; exact hz) q
end Tw

set_option linter.all false
set_option Elab.async false
set_option maxRecDepth 100000
set_option maxHeartbeats 2000000
/-! TwB6: enumerate of a tuple. -/
namespace Tw
open PySem PySem.Spec PyProof.Rows L2
theorem new_enumT (t : Addr) (items : Array Value) :
    Meets (Builtin.«enumerate.__new__» ⟨[.type "enumerate", .ref t], []⟩) (fun _ R s => s.heap.IsTuple t items ∧
      R (.ok (.ret (.ref (s.heap.push { cls := .type "tuple_iterator", data := .fields #[.ref t, .int 0 0] }).objs.size)))
        { s with heap := (s.heap.push { cls := .type "tuple_iterator", data := .fields #[.ref t, .int 0 0] }).push { cls := .type "enumerate", data := .fields #[.none, .bool false, .ref s.heap.objs.size, rawInt 0, .none, .none] } }) :=
  .of_wp fun prog w A R s h => by
    obtain ⟨hp, g, d, tk, os⟩ := s
    obtain ⟨ht, h⟩ := h
    have hsub := sub_enumerate
    wp_walk
    refine wpAny_stack_any fun st => wpAny_pure ?_
    split
    · rename_i c _ _ _ _ _
      cases (c == Value.type "enumerate")
      · wp_walk using (wpAny_pyIter_tuple ht)
        exact ⟨_, rfl, h⟩
      · wp_walk using (wpAny_pyIter_tuple ht)
        exact ⟨_, rfl, h⟩
    · wp_walk using (wpAny_pyIter_tuple ht)
      exact ⟨_, rfl, h⟩
section
variable {prog : Program} {w : World} {A : Around} {E : Value → Shared → Prop} {s : Shared}
theorem call_enumT {t : Addr} {items : Array Value} {Q : Value → Shared → Prop} (ht : s.heap.IsTuple t items)
    (h : ∀ h', IsEnum h' (s.heap.objs.size + 1) s.heap.objs.size 0 .none → h'.IsTupleIter s.heap.objs.size t 0 → h'.objs.size = s.heap.objs.size + 2 →
      (∀ b o, s.heap.get? b = some o → h'.get? b = some o) → Q (.ref (s.heap.objs.size + 1)) { s with heap := h' }) :
    wpAny (model prog w) A (call (.type "enumerate") [.ref t]) Q E s := by
  refine callType_new F.called_enumerate (by decide) (F.typeCall_enumerate_1 _) (F.newCall_enumerate_1 _) (fun obj => F.args_object_init_2 obj _) F.entry_enumerate_new (new_enumT t items) ⟨ht, ?_⟩
  have hz : (s.heap.push { cls := .type "tuple_iterator", data := .fields #[.ref t, .int 0 0] }).objs.size = s.heap.objs.size + 1 := Heap.size_push ..
  show _ ∧ _
  rw [hz]
  have he : IsEnum ((s.heap.push { cls := .type "tuple_iterator", data := .fields #[.ref t, .int 0 0] }).push
      { cls := .type "enumerate", data := .fields #[.none, .bool false, .ref s.heap.objs.size, rawInt 0, .none, .none] }) (s.heap.objs.size + 1) s.heap.objs.size 0 .none := by
    have z := Heap.get?_push_size (s.heap.push { cls := .type "tuple_iterator", data := .fields #[.ref t, .int 0 0] })
      (o := { cls := .type "enumerate", data := .fields #[.none, .bool false, .ref s.heap.objs.size, rawInt 0, .none, .none] }) rfl
    rw [hz] at z
    exact z
  exact ⟨⟨_, he, rfl⟩, h _ he ⟨_, Heap.get?_push_of_some _ (Heap.get?_push_size _ rfl), rfl, rfl⟩ (by rw [Heap.size_push, hz]) fun b o x => Heap.get?_push_of_some _ (Heap.get?_push_of_some _ x)⟩
end
/-- the tuple at a, each item in a new pair -/
def IteT (K : PySem.W.Frag) (a : Addr) : It :=
  ⟨fun i H => ∃ (xs : List V) (x : V), SqT K H a xs ∧ xs[i]? = some x, fun i H v H' => ∃ T x, ∃ o : Obj, v = .ref T ∧ H T = none ∧ o.dict = none ∧ H' = upd H T (.frz o (.tup [.int (i : Nat), x])) ∧ ∀ xs, SqT K H a xs → xs[i]? = some x, fun i H => ∃ xs : List V, SqT K H a xs ∧ xs.length = i⟩
theorem turn_enumT {P : Program} {w : World} {K : PySem.W.Frag} {elts : List Expr} {kk : Nat} {tpos : Pos} (a e it : Addr) :
    Turn P w K (.Tuple elts kk tpos) (IteT K a) [e, it] e (fun i h => (∃ old, IsEnum h e it ((i : Nat) : Int) old) ∧ h.IsTupleIter it a i ∧ e ≠ it) where
  mem := by simp
  obj := fun i h st b hb => by
    obtain ⟨⟨old, he⟩, ⟨o, ho, hc, hd⟩, _⟩ := st
    have e' : b = e ∨ b = it := by simpa using hb
    rcases e' with z | z
    · rw [z]; exact ⟨_, he, fun v q => nomatch q⟩
    · rw [z]; exact ⟨o, ho, fun v q => by rw [hd] at q; cases q⟩
  keep := fun i h h' st k => let ⟨⟨old, he⟩, hi, hne⟩ := st; ⟨⟨old, k e (by simp) _ he⟩, hi.at fun o q => k it (by simp) o q, hne⟩
  item := by
    intro X hP hw hK hc i pins s σ H E I hf st hg
    subst hP hw hK
    obtain ⟨⟨old, he⟩, hit, hne⟩ := st
    obtain ⟨xs, x, hq, hx⟩ := hg
    obtain ⟨its, rv, p, hz⟩ := I.tuple hq
    have pt : s.heap.IsTuple a its.toArray := p
    obtain ⟨u, hu, ru⟩ := rv.get hx
    have hel : e < s.heap.objs.size := Heap.lt_size he
    have hil : it < s.heap.objs.size := by obtain ⟨_, q, _⟩ := hit; exact Heap.lt_size q
    have nat_ : a ≠ it := fun z => by
      obtain ⟨o1, g1, c1, _⟩ := id hit
      obtain ⟨o2, g2, c2, _⟩ := id pt
      rw [z, g1] at g2
      cases g2
      rw [c1] at c2
      exact absurd c2 (by simp)
    have nae : e ∉ [it, a] := fun z => by
      rcases List.mem_cons.mp z with z | z
      · exact hne z
      · have z := List.mem_singleton.mp z
        obtain ⟨o2, g2, c2, _⟩ := id pt
        rw [← z, he] at g2
        cases g2
        exact absurd c2 (by simp)
    have lt : i < its.toArray.size := by
      have := (List.getElem?_eq_some_iff.mp hu).1
      simpa using this
    refine wpAny_pyNext_enum_itemD (Draws.tuple (A := X.A.in1) (I.ok.hd hc) it a nat_ its.toArray) he ⟨hit, pt⟩ lt hne nae fun x' h' tk hx' ho hit' hT hsz hk => ?_
    have ex : x' = u := by
      have z : its.toArray[i]? = some u := by simpa using hu
      rw [z] at hx'
      exact (Option.some.inj hx').symm
    subst ex
    refine ⟨_, rfl, wpAny_letOwnedTupleGo_enum (s := { s with heap := h', toks := tk + 1 }) ho fun h'' he' sb => ?_⟩
    have hT2 : h''.get? s.heap.objs.size = some { cls := .type "tuple", data := .seq #[.int i tk, x'] } := (sb.2 _ (Nat.ne_of_gt hel)).trans hT
    have new : ObjOk X.prog X.w (upd H s.heap.objs.size (.frz { cls := .type "tuple", data := .seq #[.int i tk, x'] } (.tup [.int (i : Nat), x]))) h'' s.heap.objs.size (.frz { cls := .type "tuple", data := .seq #[.int i tk, x'] } (.tup [.int (i : Nat), x])) :=
      ⟨hT2, by show 2 ≤ sizeLine; decide, [.int i tk, x'], .cons ⟨_, rfl⟩ (.cons ru .nil), ⟨_, hT2, rfl, _, rfl⟩⟩
    have J : Inv X pins σ (upd H s.heap.objs.size (.frz { cls := .type "tuple", data := .seq #[.int i tk, x'] } (.tup [.int (i : Nat), x]))) { s with heap := h'', toks := tk + 1 } :=
      I.turnedNew (ch := [e, it]) (fun b ob hb q => (sb.2 b (fun z => hb (by simp [z]))).trans (hk b ob (fun z => hb (by simp [z])) (fun z => hb (by simp [z])) q)) hf (Nat.le_refl _) new
    refine ⟨.ref s.heap.objs.size, _, J, rfl, ⟨_, x, _, rfl, I.hok.fresh (Nat.le_refl _), rfl, rfl, fun ys hy => by rw [I.tuple_inj hy hq]; exact hx⟩, ⟨⟨x', ?_⟩, hit'.1.at fun o q => (sb.2 it (Ne.symm hne)).trans q, hne⟩, fun b hb => ?_⟩
    · have e1 : ((i + 1 : Nat) : Int) = (i : Int) + 1 := by omega
      rw [e1]; exact he'
    · have hb' : b < s.heap.objs.size := by
        have e' : b = e ∨ b = it := by simpa using hb
        rcases e' with z | z
        · rw [z]; exact hel
        · rw [z]; exact hil
      rw [upd_ne (Nat.ne_of_lt hb')]
      exact (hf b hb).1
  done := by
    intro X hP hw hK hc i pins s σ H E I hf st hg
    subst hP hw hK
    obtain ⟨⟨old, he⟩, hit, hne⟩ := st
    obtain ⟨xs, hq, hx⟩ := hg
    obtain ⟨its, rv, p, hz⟩ := I.tuple hq
    have pt : s.heap.IsTuple a its.toArray := p
    obtain ⟨f0, f1, f2, f3, f4, f5⟩ := hf it (by simp)
    have hl := rv.length
    have nat_ : a ≠ it := fun z => by
      obtain ⟨o1, g1, c1, _⟩ := id hit
      obtain ⟨o2, g2, c2, _⟩ := id pt
      rw [z, g1] at g2
      cases g2
      rw [c1] at c2
      exact absurd c2 (by simp)
    have en : i = its.toArray.size := by simp; omega
    exact wpAny_pyNext_enum_endD (Draws.tuple (A := X.A.in1) (I.ok.hd hc) it a nat_ its.toArray) he ⟨by rw [← en]; exact hit, pt⟩ fun h' eb => ⟨rfl, I.turned (t' := s.toks) (fun b o hb q => eb b o hb q) f0 f1 f3 f4 f5⟩
  self := fun A i s Q E st h => let ⟨⟨_, he⟩, _⟩ := st; wpAny_pyIter_enum he h
def iEnumT (K : PySem.W.Frag) (ta : TA) : TI := fun σ H R => ta σ H fun vs H1 => ∃ a xs, vs = [.ref a] ∧ SqT K H1 a xs ∧ R (IteT K a) H1
theorem pi_enumT {X : Cx} {e : Expr} {ta : TA} {p pos tpos : Pos} {elts : List Expr} {kk : Nat} (hg : Gl X "enumerate") (hm : X.mg "enumerate" = none) (ha : PA X [e] ta) (hs : starEach [e] X.env = [(false, eval e X.env)]) :
    PI X (.Tuple elts kk tpos) (.Call (.Name "enumerate" p) [e] [] pos) (iEnumT X.K ta) := by
  refine ⟨fun pins s σ H R I h => Call_ (ld_blt I hg hm boot_enumerate (PyProof.Rows.callWith_type1 (thn (ha.run pos pins s σ H _ I h) fun us s1 ⟨vs, H1, I1, r1, a, xs, ex, hq, q⟩ => ?_) hs rfl))⟩
  subst ex
  cases r1 with
  | cons r rr =>
    cases rr
    cases r
    obtain ⟨its, rv, p2, hz⟩ := I1.tuple hq
    refine call_enumT (show s1.heap.IsTuple a its.toArray from p2) fun h' he hit hsz hk => wpAny_pyIter_enum he ?_
    have J : Inv X pins σ H1 { s1 with heap := h' } := I1.kept (t' := s1.toks) hk
    refine ⟨s1.heap.objs.size + 1, [s1.heap.objs.size + 1, s1.heap.objs.size], _, _, H1, rfl, J, turn_enumT a (s1.heap.objs.size + 1) s1.heap.objs.size, ⟨⟨.none, he⟩, hit, Nat.succ_ne_self _⟩, fun b hb => ?_, q⟩
    have e2 : b = s1.heap.objs.size + 1 ∨ b = s1.heap.objs.size := by simpa using hb
    have le : s1.heap.objs.size ≤ b := by
      rcases e2 with z | z
      · rw [z]; exact Nat.le_add_right _ _
      · rw [z]; exact Nat.le_refl _
    exact I1.fpOk le (I1.hok.fresh le)
end Tw

set_option linter.all false
set_option Elab.async false
set_option maxRecDepth 100000
set_option maxHeartbeats 2000000
/-! TwC1: what follows an evaluation; frames. -/
namespace Tw
open PySem PySem.Spec PyProof.Rows L2
abbrev Sl := L2.St

/-- a frame's value: an exception in hand stands at a, of class c, its own dict at d -/
def RVx (G : Wd) (k : Nat) (xa : Option (Addr × Nat × Addr)) (m : List Addr) (H : Hp) : D → V → Prop
  | .e c x, v => ∃ a d w, xa = some (a, c, d) ∧ v = .ref a ∧ H d = some (.xd [(G.fa (G.xf c), w)]) ∧ RD G m H x w
  | d, v => RDD G k m H d v
structure RE (G : Wd) (k : Nat) (xa : Option (Addr × Nat × Addr)) (m : List Addr) (H : Hp) (en : En) (σ : Sl) : Prop where
  len : en.length = σ.length
  at_ : ∀ (i : Nat) (d : D), en[i]? = some (some d) → ∃ v, σ[i]? = some (some v) ∧ RVx G k xa m H d v
section
variable {G : Wd} {k : Nat} {xa : Option (Addr × Nat × Addr)} {m m' m1 : List Addr} {H H' H1 : Hp} {S : Store} {en : En} {σ : Sl}
theorem Nt.xd {d : Addr} {fs : List (Str × V)} (n : Nt m H) (h : H d = some (.xd fs)) : d ∉ m := fun z => by
  obtain ⟨u, q, k⟩ := n d z
  rw [q] at h
  cases h
  cases k
theorem RVx.mono (x : Ext k m H m' H') (n : Nt m H) {d : D} {v : V} (h : RVx G k xa m H d v) : RVx G k xa m' H' d v := by
  cases d with
  | p y => exact RDD.mono (G := G) (d := .p y) x n h
  | r j => exact RDD.mono (G := G) (d := .r j) x n h
  | e c y =>
    obtain ⟨a, d, w, e1, e2, e3, e4⟩ := h
    exact ⟨a, d, w, e1, e2, (x.ex0 _ _ e3 (n.xd e3)).1, RD.mono x.ex0 n _ _ e4⟩
theorem RE.mono (r : RE G k xa m H en σ) (x : Ext k m H m' H') (n : Nt m H) : RE G k xa m' H' en σ :=
  ⟨r.len, fun i d e => let ⟨v, h1, h2⟩ := r.at_ i d e; ⟨v, h1, h2.mono x n⟩⟩
theorem RE.set (r : RE G k xa m H en σ) {d : D} {v : V} (h : RVx G k xa m H d v) (i : Nat) : RE G k xa m H (en.set i (some d)) (σ.set i (some v)) := by
  refine ⟨by simp [r.len], fun j d' e => ?_⟩
  by_cases hj : i = j
  · subst hj
    by_cases hi : i < en.length
    · rw [List.getElem?_set_self hi] at e
      cases e
      exact ⟨v, List.getElem?_set_self (by rw [← r.len]; exact hi), h⟩
    · rw [List.getElem?_eq_none (by simpa using hi)] at e; cases e
  · rw [List.getElem?_set_ne hj] at e
    obtain ⟨v', h1, h2⟩ := r.at_ j d' e
    exact ⟨v', by rw [List.getElem?_set_ne hj]; exact h1, h2⟩
theorem RE.unset (r : RE G k xa m H en σ) (i : Nat) (o : Option V) : RE G k xa m H (en.set i none) (σ.set i o) := by
  refine ⟨by simp [r.len], fun j d' e => ?_⟩
  by_cases hj : i = j
  · subst hj
    by_cases hi : i < en.length
    · rw [List.getElem?_set_self hi] at e; cases e
    · rw [List.getElem?_eq_none (by simpa using hi)] at e; cases e
  · rw [List.getElem?_set_ne hj] at e
    obtain ⟨v', h1, h2⟩ := r.at_ j d' e
    exact ⟨v', by rw [List.getElem?_set_ne hj]; exact h1, h2⟩
theorem RDD.vx {d : D} {v : V} (h : RDD G k m H d v) : RVx G k xa m H d v := by
  cases d with
  | e c x => exact False.elim h
  | p x => exact h
  | r n => exact h
theorem Ps_f2 : ∀ {ds : List D} {xs : List P} {vs : List V}, Ps ds = some xs → F2 (RDD G k m H) ds vs → F2 (RD G m H) xs vs
  | [], _, _, e, h => by cases h; cases e; exact .nil
  | d :: ds, xs, _, e, h => by
    cases h with
    | cons h t =>
      cases d with
      | p x =>
        simp only [Ps] at e
        split at e
        · rename_i ys q
          cases e
          exact .cons h (Ps_f2 q t)
        · cases e
      | _ => simp [Ps] at e
theorem f2_Ps {xs : List P} {vs : List V} (h : F2 (RD G m H) xs vs) : F2 (RDD G k m H) (xs.map D.p) vs := .of_map D.p h
theorem Ps_len : ∀ {ds : List D} {xs : List P}, Ps ds = some xs → ds.length = xs.length
  | [], _, e => by cases e; rfl
  | d :: ds, xs, e => by
    cases d with
    | p x =>
      simp only [Ps] at e
      split at e
      · rename_i ys q
        cases e
        simp [Ps_len q]
      · cases e
    | _ => simp [Ps] at e
theorem view_rv (r : RS G k m H S) {d : D} {v : V} {x : P} (h : RDD G k m H d v) (e : view S d = some x) : RV G m H x v := by
  cases d with
  | p y => cases e; exact .inl h
  | r n =>
    obtain ⟨a, ha, rfl⟩ := h
    simp only [view] at e
    split at e
    · rename_i xs q
      obtain ⟨vs, h1, h2, h3⟩ := r.ok n _ a q ha
      cases p : Ps xs with
      | none => rw [p] at e; cases e
      | some ys =>
        rw [p] at e
        cases e
        exact .inr ⟨ys, a, vs, rfl, rfl, h1, by rw [← Ps_len p]; exact h2, Ps_f2 p h3⟩
    · cases e
  | e c y => cases e
theorem views_rv (r : RS G k m H S) : ∀ {ds : List D} {vs : List V} {xs : List P}, F2 (RDD G k m H) ds vs → views S ds = some xs → F2 (RV G m H) xs vs
  | [], _, _, h, e => by cases h; cases e; exact .nil
  | d :: ds, _, xs, h, e => by
    cases h with
    | cons h t =>
      simp only [views] at e
      split at e
      · rename_i x ys q1 q2
        cases e
        exact .cons (view_rv r h q1) (views_rv r t q2)
      · cases e
/-- the items of a list, wherever it stands -/
theorem lsD_f2 (r : RS G k m H S) {d : D} {v : V} {xs : List D} (h : RDD G k m H d v) (e : lsD S d = some xs) : ∃ a vs, v = .ref a ∧ SqL G.K H a vs ∧ xs.length ≤ sizeLine ∧ F2 (RDD G k m H) xs vs := by
  unfold lsD at e
  split at e
  · rename_i ys
    cases e
    have h' : RD G m H (.lst ys) v := h
    obtain ⟨a, vs, rfl, h1, h2, h3⟩ := RV.lst (.inl h')
    exact ⟨a, vs, rfl, h1, by simpa using h2, f2_Ps h3⟩
  · rename_i n
    obtain ⟨a, ha, rfl⟩ := h
    split at e
    · rename_i ys q
      cases e
      obtain ⟨vs, h1, h2, h3⟩ := r.ok n _ a q ha
      exact ⟨a, vs, rfl, .of h1, h2, h3⟩
    · cases e
  · cases e
end

/-! ### what is asked of an outcome -/
def Post {α β : Type} (G : Wd) (k : Nat) (Rl : List Addr → Hp → α → β → Prop) (W : WX) (m : List Addr) (σ : Sl) (H : Hp) (Q : β → Hp → Prop) : Out α → Prop
  | .ok a S => ∀ m' H' b, Ext k m H m' H' → RS G k m' H' S → Rl m' H' a b → Q b H'
  | .exc c x S => ∀ m' H' d v, Ext k m H m' H' → RS G k m' H' S → H' d = some (.xd [(G.fa (G.xf c), v)]) → RD G m' H' x v → W (.ref (G.ca c)) (some d) σ H'
  | .stuck => False
section
variable {α β γ δ : Type} {G : Wd} {k : Nat} {xa : Option (Addr × Nat × Addr)} {m m' m1 : List Addr} {H H' H1 : Hp} {S S1 : Store} {en : En} {σ : Sl} {W : WX}
  {Rl : List Addr → Hp → α → β → Prop} {Rl2 : List Addr → Hp → γ → δ → Prop} {Q : β → Hp → Prop} {Q2 : δ → Hp → Prop}
theorem Post.ext {o : Out α} (p : Post G k Rl W m σ H Q o) (x : Ext k m H m1 H1) : Post G k Rl W m1 σ H1 Q o := by
  cases o with
  | ok a S => exact fun m' H' b y rs r => p m' H' b (x.trans y) rs r
  | exc c z S => exact fun m' H' d v y rs h r => p m' H' d v (x.trans y) rs h r
  | stuck => exact p
theorem Post.seq {o : Out γ} {f : γ → Store → Out α} (p : Post G k Rl W m σ H Q (o.bind f))
    (c : ∀ a S1 m1 H1 b, Ext k m H m1 H1 → RS G k m1 H1 S1 → Rl2 m1 H1 a b → Post G k Rl W m1 σ H1 Q (f a S1) → Q2 b H1) : Post G k Rl2 W m σ H Q2 o := by
  cases o with
  | ok a S => exact fun m' H' b y rs r => c a S m' H' b y rs r (p.ext y)
  | exc c' z S => exact p
  | stuck => exact p
theorem Post.ok_now {a : α} {b : β} (p : Post G k Rl W m σ H Q (.ok a S)) (rs : RS G k m H S) (r : Rl m H a b) : Q b H := p m H b (.refl rs.le) rs r
end
/-- readings: a value, a truth, a row of arguments -/
def tE (G : Wd) (k : Nat) (W : WX) (xa : Option (Addr × Nat × Addr)) (o : En → Store → Out D) : TE := fun σ H Q => ∃ m en S, RE G k xa m H en σ ∧ RS G k m H S ∧ Post G k (RDD G k) W m σ H Q (o en S)
def RB (_ : List Addr) (_ : Hp) (b c : Bool) : Prop := b = c
def tT (G : Wd) (k : Nat) (W : WX) (xa : Option (Addr × Nat × Addr)) (o : En → Store → Out Bool) : TT := fun σ H Q => ∃ m en S, RE G k xa m H en σ ∧ RS G k m H S ∧ Post G k RB W m σ H Q (o en S)
def RDs' (G : Wd) (k : Nat) (m : List Addr) (H : Hp) (ds : List D) (vs : List V) : Prop := F2 (RDD G k m H) ds vs
def tA (G : Wd) (k : Nat) (W : WX) (xa : Option (Addr × Nat × Addr)) (o : En → Store → Out (List D)) : TA := fun σ H Q => ∃ m en S, RE G k xa m H en σ ∧ RS G k m H S ∧ Post G k (RDs' G k) W m σ H Q (o en S)

/-! ### a place that is put among the others' -/
def insK (k : Nat) (p : Addr) (m : List Addr) : List Addr := m.take k ++ p :: m.drop k
section
variable {G : Wd} {k : Nat} {m m' m1 : List Addr} {H H' H1 : Hp} {S : Store} {p : Addr}
theorem mem_insK {a : Addr} : a ∈ insK k p m ↔ a = p ∨ a ∈ m := by
  unfold insK
  rw [List.mem_append, List.mem_cons]
  have e : a ∈ m ↔ a ∈ m.take k ∨ a ∈ m.drop k := by rw [← List.mem_append, List.take_append_drop]
  rw [e]
  constructor
  · rintro (h | h | h)
    · exact .inr (.inl h)
    · exact .inl h
    · exact .inr (.inr h)
  · rintro (h | h | h)
    · exact .inr (.inl h)
    · exact .inl h
    · exact .inr (.inr h)
theorem insK_len (hk : k ≤ m.length) : (insK k p m).length = m.length + 1 := by
  unfold insK
  rw [List.length_append, List.length_take, List.length_cons, List.length_drop]
  omega
theorem insK_get (hk : k ≤ m.length) (n : Nat) : (insK k p m)[k + 1 + n]? = m[k + n]? := by
  unfold insK
  rw [List.getElem?_append_right (by rw [List.length_take]; omega), List.length_take, show k + 1 + n - min k m.length = n + 1 by omega, List.getElem?_cons_succ, List.getElem?_drop]
theorem insK_take (hk : k ≤ m.length) : (insK k p m).take (k + 1) = m.take k ++ [p] := by
  unfold insK
  rw [List.take_append, List.length_take, List.take_of_length_le (by rw [List.length_take]; omega), show k + 1 - min k m.length = 1 by omega]
  rfl
theorem insK_drop (hk : k ≤ m.length) : (insK k p m).drop (k + 1) = m.drop k := by
  unfold insK
  rw [List.drop_append, List.length_take, List.drop_of_length_le (by rw [List.length_take]; omega), show k + 1 - min k m.length = 1 by omega]
  rfl
theorem insK_app (hk : k ≤ m.length) (r : List Addr) : insK k p m ++ r = insK k p (m ++ r) := by
  unfold insK
  rw [List.take_append_of_le_length hk, List.drop_append_of_le_length hk]
  simp
theorem insK_nodup (nd : m.Nodup) (hp : p ∉ m) : (insK k p m).Nodup := by
  unfold insK
  have e := List.take_append_drop k m
  rw [← e] at nd
  obtain ⟨n1, n2, n3⟩ := List.nodup_append.mp nd
  refine List.nodup_append.mpr ⟨n1, List.nodup_cons.mpr ⟨fun z => hp (List.mem_of_mem_drop z), n2⟩, fun a ha b hb => ?_⟩
  rcases List.mem_cons.mp hb with z | z
  · intro e2
    subst e2 z
    exact hp (List.mem_of_mem_take ha)
  · exact n3 a ha b z
mutual
/-- fewer places kept out -/
theorem RD.sub {f f' : List Addr} (hs : ∀ a ∈ f, a ∈ f') : ∀ (x : P) (v : V), RD G f' H x v → RD G f H x v
  | .non, _, h => by simpa only [RD] using h
  | .bl _, _, h => by simpa only [RD] using h
  | .int _, _, h => by simpa only [RD] using h
  | .str _, _, h => by simpa only [RD] using h
  | .tup xs, _, h => by
    simp only [RD] at h ⊢
    obtain ⟨a, vs, e, h1, h2, h3⟩ := h
    exact ⟨a, vs, e, h1, h2, RDs.sub hs xs vs h3⟩
  | .lst xs, _, h => by
    simp only [RD] at h ⊢
    obtain ⟨a, vs, e, h1, h2, h3⟩ := h
    refine ⟨a, vs, e, ?_, h2, RDs.sub hs xs vs h3⟩
    rcases h1 with ⟨h1, n⟩ | h1
    · exact .inl ⟨h1, fun z => n (hs a z)⟩
    · exact .inr h1
  | .ins c ks xs, _, h => by
    simp only [RD] at h ⊢
    obtain ⟨a, dx, vs, e, h1, ⟨h2, hc⟩, h3, h4⟩ := h
    exact ⟨a, dx, vs, e, h1, ⟨fun z => h2 (hs a z), hc⟩, h3, RDs.sub hs xs vs h4⟩
  | .err c x, _, h => by
    simp only [RD] at h ⊢
    obtain ⟨a, d, w, e, h1, ⟨h3, h4⟩, h5, h6⟩ := h
    exact ⟨a, d, w, e, h1, ⟨fun z => h3 (hs a z), fun z => h4 (hs d z)⟩, h5, RD.sub hs x w h6⟩
theorem RDs.sub {f f' : List Addr} (hs : ∀ a ∈ f, a ∈ f') : ∀ (xs : List P) (vs : List V), RDs G f' H xs vs → RDs G f H xs vs
  | [], _, h => by simpa only [RDs] using h
  | d :: ds, _, h => by
    simp only [RDs] at h ⊢
    obtain ⟨v, r, e, h1, h2⟩ := h
    exact ⟨v, r, e, RD.sub hs d v h1, RDs.sub hs ds r h2⟩
end
theorem RDD.unins (hk : k ≤ m.length) {d : D} {v : V} (h : RDD G (k + 1) (insK k p m) H d v) : RDD G k m H d v := by
  cases d with
  | p y => exact RD.sub (fun a ha => mem_insK.mpr (.inr ha)) y v h
  | r n => obtain ⟨a, e, r⟩ := h; exact ⟨a, by rw [insK_get hk] at e; exact e, r⟩
  | e c y => exact h
theorem CellOk.unins (hk : k ≤ m.length) {a : Addr} {c : Cell} (h : CellOk G (k + 1) (insK k p m) H a c) : CellOk G k m H a c := by
  cases c with
  | lst xs => obtain ⟨vs, q1, q2, q3⟩ := h; exact ⟨vs, q1, q2, q3.mono fun d v h => RDD.unins hk h⟩
  | ins c ks ds => obtain ⟨dx, vs, q1, q2, q3, q4⟩ := h; exact ⟨dx, vs, q1, q2, q3, q4.mono fun d v h => RDD.unins hk h⟩
  | dct ks ds => obtain ⟨vs, q1, q2, q3, q4⟩ := h; exact ⟨vs, q1, q2, q3, q4.mono fun d v h => RDD.unins hk h⟩
theorem RS.unins (hk : k ≤ m.length) (r : RS G (k + 1) (insK k p m) H S) : RS G k m H S := by
  have l := r.len
  rw [insK_len hk] at l
  refine ⟨by omega, ?_, fun a ha => r.fst a (by rw [insK_take hk]; exact List.mem_append_left _ ha), fun n c a h1 h2 => (r.ok n c a h1 (by rw [insK_get hk]; exact h2)).unins hk⟩
  have nd := r.nd
  unfold insK at nd
  obtain ⟨n1, n2, n3⟩ := List.nodup_append.mp nd
  rw [← List.take_append_drop k m]
  exact List.nodup_append.mpr ⟨n1, (List.nodup_cons.mp n2).2, fun a ha b hb => n3 a ha b (List.mem_cons_of_mem _ hb)⟩
/-- a new object is put among the others' -/
theorem ex0_insK (hn : ∀ a o, H a = some o → a ∉ m → H' a = some o) (hp : H p = none) : Ex0 m H (insK k p m) H' := fun a o h n => ⟨hn a o h n, fun z => by
  rcases mem_insK.mp z with z | z
  · rw [z, hp] at h; cases h
  · exact n z⟩
theorem RDD.ins (hk : k ≤ m.length) (n : Nt m H) (hp : H p = none) (s : Same H H') {d : D} {v : V} (h : RDD G k m H d v) : RDD G (k + 1) (insK k p m) H' d v := by
  cases d with
  | p y => exact RD.mono (ex0_insK (fun a o h _ => s a o h) hp) n y v h
  | r j => obtain ⟨a, e, r⟩ := h; exact ⟨a, by rw [insK_get hk]; exact e, r⟩
  | e c y => exact h
theorem RS.ins (r : RS G k m H S) (hp : H p = none) (s : Same H H') {vs : List V} (h : H' p = some (.lst vs)) : RS G (k + 1) (insK k p m) H' S := by
  have hk := r.le
  refine ⟨by rw [insK_len hk, r.len]; omega, insK_nodup r.nd (r.nt.ne hp), fun a ha => ?_, fun n c a h1 h2 => ?_⟩
  · rw [insK_take hk] at ha
    rcases List.mem_append.mp ha with z | z
    · exact (r.fst.same s) a z
    · simp at z
      subst z
      exact ⟨_, h, rfl⟩
  · rw [insK_get hk] at h2
    have q := r.ok n c a h1 h2
    cases c with
    | lst xs => obtain ⟨ws, q1, q2, q3⟩ := q; exact ⟨ws, s _ _ q1, q2, q3.mono fun d v z => RDD.ins hk r.nt hp s z⟩
    | ins c ks ds => obtain ⟨dx, ws, q1, q2, q3, q4⟩ := q; exact ⟨dx, ws, s _ _ q1, q2, q3, q4.mono fun d v z => RDD.ins hk r.nt hp s z⟩
    | dct ks ds => obtain ⟨ws, q1, q2, q3, q4⟩ := q; exact ⟨ws, s _ _ q1, q2, q3, q4.mono fun d v z => RDD.ins hk r.nt hp s z⟩
/-- .. and made a place of the store, the last one -/
theorem RDD.last (hk : k ≤ m.length) {d : D} {v : V} (h : RDD G (k + 1) (insK k p m) H d v) : RDD G k (m ++ [p]) H d v := by
  cases d with
  | p y => exact RD.sub (fun a ha => by
      rcases List.mem_append.mp ha with z | z
      · exact mem_insK.mpr (.inr z)
      · simp at z; exact mem_insK.mpr (.inl z)) y v h
  | r n =>
    obtain ⟨a, e, r⟩ := h
    rw [insK_get hk] at e
    exact ⟨a, by rw [List.getElem?_append_left (List.getElem?_eq_some_iff.mp e).1]; exact e, r⟩
  | e c y => exact h
theorem CellOk.last (hk : k ≤ m.length) {a : Addr} {c : Cell} (h : CellOk G (k + 1) (insK k p m) H a c) : CellOk G k (m ++ [p]) H a c := by
  cases c with
  | lst xs => obtain ⟨vs, q1, q2, q3⟩ := h; exact ⟨vs, q1, q2, q3.mono fun d v h => RDD.last hk h⟩
  | ins c ks ds => obtain ⟨dx, vs, q1, q2, q3, q4⟩ := h; exact ⟨dx, vs, q1, q2, q3, q4.mono fun d v h => RDD.last hk h⟩
  | dct ks ds => obtain ⟨vs, q1, q2, q3, q4⟩ := h; exact ⟨vs, q1, q2, q3, q4.mono fun d v h => RDD.last hk h⟩
theorem RS.last (hk : k ≤ m.length) (r : RS G (k + 1) (insK k p m) H S) {ds : List D} {vs : List V} (hp : p ∉ m) (h : H p = some (.lst vs)) (hl : ds.length ≤ sizeLine) (f : F2 (RDD G (k + 1) (insK k p m) H) ds vs) : RS G k (m ++ [p]) H (S ++ [.lst ds]) := by
  have u := r.unins hk
  refine ⟨by simp [u.len, Nat.add_assoc], ?_, fun a ha => ?_, fun n c a h1 h2 => ?_⟩
  · refine List.nodup_append.mpr ⟨u.nd, by simp, fun a ha b hb => ?_⟩
    simp at hb
    subst hb
    intro z
    subst z
    exact hp ha
  · rw [List.take_append_of_le_length hk] at ha
    exact u.fst a ha
  · by_cases hn : n < S.length
    · rw [List.getElem?_append_left hn] at h1
      rw [List.getElem?_append_left (by rw [u.len]; omega)] at h2
      exact (r.ok n c a h1 (by rw [insK_get hk]; exact h2)).last hk
    · rw [List.getElem?_append_right (Nat.le_of_not_lt hn)] at h1
      rw [List.getElem?_append_right (by rw [u.len]; omega), u.len, show k + n - (k + S.length) = n - S.length by omega] at h2
      have e1 : n - S.length = 0 := by
        cases q : n - S.length with
        | zero => rfl
        | succ j => rw [q] at h1; simp at h1
      rw [e1] at h1 h2
      simp at h1 h2
      subst h1 h2
      exact ⟨vs, h, hl, f.mono fun d v z => RDD.last hk z⟩
end
end Tw

set_option linter.all false
set_option Elab.async false
set_option maxRecDepth 100000
set_option maxHeartbeats 2000000
/-! TwB7: what a callee hands out. -/
namespace Tw
open PySem PySem.Spec PyProof.Rows L2
section
variable {G : Wd} {k : Nat} {m r : List Addr} {H H' : Hp} {S : Store}
theorem RDD_p {x : P} {v : V} (h : RDD G k m H (.p x) v) : RD G m H x v := h
theorem sub_left (m r : List Addr) : ∀ a ∈ m, a ∈ m ++ r := fun a h => List.mem_append_left _ h
theorem nd_right {r : List Addr} {n : Nat} {a : Addr} (nd : (m ++ r).Nodup) (h : (m ++ r)[m.length + n]? = some a) : a ∉ m := fun z => by
  rw [List.getElem?_append_right (by omega)] at h
  exact (List.nodup_append.mp nd).2.2 a z a (List.mem_of_getElem? h) rfl
theorem mapM_f2 {α β γ : Type} {R : α → γ → Prop} {R' : β → γ → Prop} {f : α → Option β} (hf : ∀ a b c, f a = some b → R a c → R' b c) : ∀ {xs : List α} {ys : List β} {vs : List γ}, xs.mapM f = some ys → F2 R xs vs → F2 R' ys vs
  | [], ys, vs, e, h => by cases h; simp at e; subst e; exact .nil
  | x :: xs, ys, vs, e, h => by
    cases h with
    | cons h t =>
      rw [List.mapM_cons] at e
      cases q : f x with
      | none => rw [q] at e; cases e
      | some y =>
        rw [q] at e
        cases q2 : xs.mapM f with
        | none => rw [q2] at e; cases e
        | some zs =>
          rw [q2] at e
          cases e
          exact .cons (hf _ _ _ q h) (mapM_f2 hf q2 t)
theorem mapM_len {α β : Type} {f : α → Option β} : ∀ {xs : List α} {ys : List β}, xs.mapM f = some ys → ys.length = xs.length
  | [], ys, e => by simp at e; subst e; rfl
  | x :: xs, ys, e => by
    rw [List.mapM_cons] at e
    cases q : f x with
    | none => rw [q] at e; cases e
    | some y =>
      rw [q] at e
      cases q2 : xs.mapM f with
      | none => rw [q2] at e; cases e
      | some zs =>
        rw [q2] at e
        cases e
        rw [List.length_cons, List.length_cons, mapM_len q2]
/-- what a callee hands out stands for good from then on -/
theorem frz_rd (rs : RS G m.length (m ++ r) H S) : ∀ (n : Nat) (d : D) (x : P) (v : V), frz n S d = some x → RDD G m.length (m ++ r) H d v → RD G m H x v
  | 0, d, x, v, e, h => by
    cases d with
    | p y =>
      have e' : some y = some x := e
      cases e'
      exact RD.sub (sub_left m r) _ _ (RDD_p h)
    | r j => have e' : (none : Option P) = some x := e; cases e'
    | e c y => exact h.elim
  | n + 1, d, x, v, e, h => by
    cases d with
    | p y =>
      have e' : some y = some x := e
      cases e'
      exact RD.sub (sub_left m r) _ _ (RDD_p h)
    | e c y => exact h.elim
    | r j =>
      obtain ⟨a, ha, rfl⟩ := h
      have na : a ∉ m := nd_right rs.nd ha
      unfold frz at e
      split at e
      · rename_i xs q
        obtain ⟨vs, h1, h2, h3⟩ := rs.ok _ _ a q ha
        cases q3 : xs.mapM (frz n S) with
        | none => rw [q3] at e; cases e
        | some ys =>
          rw [q3] at e
          cases e
          have f : F2 (RD G m H) ys vs := mapM_f2 (fun d x v e h => frz_rd rs n d x v e h) q3 h3
          exact RD_lst h1 na (by rw [mapM_len q3]; exact h2) f
      · rename_i c ks ds q
        obtain ⟨dx, vs, h1, h2, h3, h4⟩ := rs.ok _ _ a q ha
        cases q3 : ds.mapM (frz n S) with
        | none => rw [q3] at e; cases e
        | some ys =>
          rw [q3] at e
          cases e
          have f : F2 (RD G m H) ys vs := mapM_f2 (fun d x v e h => frz_rd rs n d x v e h) q3 h4
          show RD G m H (.ins c ks ys) _
          unfold RD
          exact ⟨a, dx, vs, rfl, h1, ⟨na, h2⟩, by rw [mapM_len q3]; exact h3, RDs_f2.mpr f⟩
      · cases e
end
end Tw

set_option linter.all false
set_option Elab.async false
set_option maxRecDepth 100000
set_option maxHeartbeats 2000000
/-! TwB8: zip of a tuple and a list. -/
namespace Tw
open PySem PySem.Spec PyProof.Rows L2
/-- the tuple at a and the list at b as they stand at each turn, the items in new pairs -/
def ItzM (K : PySem.W.Frag) (a b : Addr) : It :=
  ⟨fun i H => ∃ (xs ys : List V) (x y : V), SqT K H a xs ∧ SqL K H b ys ∧ xs[i]? = some x ∧ ys[i]? = some y,
    fun i H v H' => ∃ T x y, ∃ o : Obj, v = .ref T ∧ H T = none ∧ o.dict = none ∧ H' = upd H T (.frz o (.tup [x, y])) ∧ (∀ xs, SqT K H a xs → xs[i]? = some x) ∧ ∀ ys, SqL K H b ys → ys[i]? = some y,
    fun i H => ∃ xs ys : List V, SqT K H a xs ∧ SqL K H b ys ∧ i ≤ xs.length ∧ i ≤ ys.length ∧ (i = xs.length ∨ i = ys.length)⟩
theorem turn_zipM {P : Program} {w : World} {K : PySem.W.Frag} {elts : List Expr} {kk : Nat} {tpos : Pos} {a b z TI TO i1 i2 : Addr} (D : ZipSep2 z TI TO i1 i2 [i1, a] [i2, b]) :
    Turn P w K (.Tuple elts kk tpos) (ItzM K a b) [z, TI, TO, i1, i2] z (fun i h => IsZip h z TI TO .none ∧ IsTupOf2 h TI (.ref i1) (.ref i2) ∧ (∃ x y, IsTupOf2 h TO x y) ∧ h.IsTupleIter i1 a i ∧ h.IsListIter i2 b i) where
  mem := by simp
  obj := fun i h st c hc => by
    obtain ⟨hz, hTI, ⟨x, y, hTO⟩, ⟨o1, e1, _, d1⟩, ⟨o2, e2, _, d2⟩⟩ := st
    have e' : c = z ∨ c = TI ∨ c = TO ∨ c = i1 ∨ c = i2 := by simpa using hc
    rcases e' with q | q | q | q | q
    · rw [q]; exact ⟨_, hz, fun v q => nomatch q⟩
    · rw [q]; exact ⟨_, hTI, fun v q => nomatch q⟩
    · rw [q]; exact ⟨_, hTO, fun v q => nomatch q⟩
    · rw [q]; exact ⟨o1, e1, fun v q => by rw [d1] at q; cases q⟩
    · rw [q]; exact ⟨o2, e2, fun v q => by rw [d2] at q; cases q⟩
  keep := fun i h h' st k => by
    obtain ⟨hz, hTI, ⟨x, y, hTO⟩, h1, h2⟩ := st
    exact ⟨k z (by simp) _ hz, k TI (by simp) _ hTI, ⟨x, y, k TO (by simp) _ hTO⟩, h1.at fun o q => k i1 (by simp) o q, h2.at fun o q => k i2 (by simp) o q⟩
  item := by
    intro X hP hw hK hc i pins s σ H E I hf st hg
    subst hP hw hK
    obtain ⟨hz, hTI, ⟨x0, y0, hTO⟩, h1, h2⟩ := st
    obtain ⟨xs, ys, x, y, hqx, hqy, hx, hy⟩ := hg
    obtain ⟨its, rv, p, _⟩ := I.tuple hqx
    obtain ⟨its2, rv2, p2, _⟩ := I.list hqy
    have pt : s.heap.IsTuple a its.toArray := p
    obtain ⟨u, hu, ru⟩ := rv.get hx
    obtain ⟨u2, hu2, ru2⟩ := rv2.get hy
    have hzl : z < s.heap.objs.size := Heap.lt_size hz
    have lt1 : i < its.toArray.size := by
      have := (List.getElem?_eq_some_iff.mp hu).1
      simpa using this
    have lt2 : i < its2.toArray.size := by
      have := (List.getElem?_eq_some_iff.mp hu2).1
      simpa using this
    have na : a ≠ i1 := fun q => by
      obtain ⟨o1, g1, c1, _⟩ := id h1
      obtain ⟨o2, g2, c2, _⟩ := id pt
      rw [q, g1] at g2
      cases g2
      rw [c1] at c2
      exact absurd c2 (by simp)
    have nb : b ≠ i2 := fun q => by
      obtain ⟨o1, g1, c1, _⟩ := id h2
      obtain ⟨o2, g2, c2, _⟩ := id p2.isList
      rw [q, g1] at g2
      cases g2
      rw [c1] at c2
      exact absurd c2 (by simp)
    refine wpAny_pyNext_zipD2_item D (Draws.tuple (A := X.A.in1) (I.ok.hd hc) i1 a na its.toArray) (Draws.list (A := X.A.in1) (I.ok.hd hc) i2 b nb its2.toArray) hz hTI hTO ⟨h1, pt⟩ ⟨h2, p2.isList⟩ lt1 lt2 fun w1 w2 h' tk hw1 hw2 z' TO' h1' h2' hT hsz hk => ?_
    have e1 : w1 = u := by
      have q : its.toArray[i]? = some u := by simpa using hu
      rw [q] at hw1
      exact (Option.some.inj hw1).symm
    have e2 : w2 = u2 := by
      have q : its2.toArray[i]? = some u2 := by simpa using hu2
      rw [q] at hw2
      exact (Option.some.inj hw2).symm
    subst e1 e2
    refine ⟨_, rfl, wpAny_letOwnedTupleGo_zip (s := { s with heap := h', toks := tk }) z' fun h'' z'' sb => ?_⟩
    have hT2 : h''.get? s.heap.objs.size = some { cls := .type "tuple", data := .seq #[w1, w2] } := (sb.2 _ (Nat.ne_of_gt hzl)).trans hT
    have new : ObjOk X.prog X.w (upd H s.heap.objs.size (.frz { cls := .type "tuple", data := .seq #[w1, w2] } (.tup [x, y]))) h'' s.heap.objs.size (.frz { cls := .type "tuple", data := .seq #[w1, w2] } (.tup [x, y])) :=
      ⟨hT2, by show 2 ≤ sizeLine; decide, [w1, w2], .cons ru (.cons ru2 .nil), ⟨_, hT2, rfl, _, rfl⟩⟩
    have I1 : Inv X pins σ (upd H s.heap.objs.size (.frz { cls := .type "tuple", data := .seq #[w1, w2] } (.tup [x, y]))) { s with heap := h'', toks := tk } :=
      I.turnedNew (ch := [z, TI, TO, i1, i2]) (fun c o hb q => (sb.2 c (fun q' => hb (by simp [q']))).trans (hk c o (fun q' => hb (by simp [q'])) (fun q' => hb (by simp [q'])) (fun q' => hb (by simp [q'])) (fun q' => hb (by simp [q'])) q)) hf (Nat.le_refl _) new
    refine ⟨.ref s.heap.objs.size, _, I1, rfl, ⟨_, x, y, _, rfl, I.hok.fresh (Nat.le_refl _), rfl, rfl, fun l hl => by rw [I.tuple_inj hl hqx]; exact hx, fun l hl => by rw [I.list_inj hl hqy]; exact hy⟩, ⟨z'', ?_, ⟨w1, w2, ?_⟩, ?_, ?_⟩, fun c hcm => ?_⟩
    · exact (sb.2 _ D.TIz).trans (hk _ _ D.TIz D.TITO D.TIi1 D.TIi2 hTI)
    · exact (sb.2 _ D.TOz).trans TO'
    · exact h1'.1.at fun o q => (sb.2 _ (Ne.symm D.zi1)).trans q
    · exact h2'.1.at fun o q => (sb.2 _ (Ne.symm D.zi2)).trans q
    · have hlt : c < s.heap.objs.size := by
        have e' : c = z ∨ c = TI ∨ c = TO ∨ c = i1 ∨ c = i2 := by simpa using hcm
        rcases e' with q | q | q | q | q
        · rw [q]; exact hzl
        · rw [q]; exact Heap.lt_size hTI
        · rw [q]; exact Heap.lt_size hTO
        · rw [q]; obtain ⟨_, e1, _⟩ := h1; exact Heap.lt_size e1
        · rw [q]; obtain ⟨_, e2, _⟩ := h2; exact Heap.lt_size e2
      rw [upd_ne (Nat.ne_of_lt hlt)]
      exact (hf c hcm).1
  done := by
    intro X hP hw hK hc i pins s σ H E I hf st hg
    subst hP hw hK
    obtain ⟨hz, hTI, ⟨x0, y0, hTO⟩, h1, h2⟩ := st
    obtain ⟨xs, ys, hqx, hqy, l1, l2, hend⟩ := hg
    obtain ⟨its, rv, p, _⟩ := I.tuple hqx
    obtain ⟨its2, rv2, p2, _⟩ := I.list hqy
    have pt : s.heap.IsTuple a its.toArray := p
    have e1 := rv.length
    have e2 := rv2.length
    have na : a ≠ i1 := fun q => by
      obtain ⟨o1, g1, c1, _⟩ := id h1
      obtain ⟨o2, g2, c2, _⟩ := id pt
      rw [q, g1] at g2
      cases g2
      rw [c1] at c2
      exact absurd c2 (by simp)
    have nb : b ≠ i2 := fun q => by
      obtain ⟨o1, g1, c1, _⟩ := id h2
      obtain ⟨o2, g2, c2, _⟩ := id p2.isList
      rw [q, g1] at g2
      cases g2
      rw [c1] at c2
      exact absurd c2 (by simp)
    exact wpAny_pyNext_zipD2_end D (Draws.tuple (A := X.A.in1) (I.ok.hd hc) i1 a na its.toArray) (Draws.list (A := X.A.in1) (I.ok.hd hc) i2 b nb its2.toArray) hz hTI hTO ⟨h1, pt⟩ ⟨h2, p2.isList⟩ (by rw [List.size_toArray]; omega) (by rw [List.size_toArray]; omega) (by rw [List.size_toArray, List.size_toArray]; omega) fun h' tk hk => ⟨rfl, I.turnedL (t' := tk) (ch := [z, TI, TO, i1, i2]) (fun c o hb q =>
      hk c o (fun q' => hb (by simp [q'])) (fun q' => hb (by simp [q'])) (fun q' => hb (by simp [q'])) (fun q' => hb (by simp [q'])) q) hf⟩
  self := fun A i s Q E st h => wpAny_pyIter_zip st.1 h
def iZipM (K : PySem.W.Frag) (ta : TA) : TI := fun σ H R => ta σ H fun vs H1 => ∃ a b xs ys, vs = [.ref a, .ref b] ∧ SqT K H1 a xs ∧ SqL K H1 b ys ∧ R (ItzM K a b) H1
theorem pi_zipM {X : Cx} {e e2 : Expr} {ta : TA} {p pos tpos : Pos} {elts : List Expr} {kk : Nat} (hg : Gl X "zip") (hm : X.mg "zip" = none) (ha : PA X [e, e2] ta)
    (hs : starEach [e, e2] X.env = (false, eval e X.env) :: starEach [e2] X.env) (hpl : (backTo pos (starEach [e2] X.env)).any (·.1) = false) :
    PI X (.Tuple elts kk tpos) (.Call (.Name "zip" p) [e, e2] [] pos) (iZipM X.K ta) := by
  refine ⟨fun pins s σ H R I h => ?_⟩
  refine Call_ (ld_blt I hg hm PyProof.Rows.boot_zip (PyProof.Rows.callWith_type1 (thn (ha.run pos pins s σ H _ I h) fun us s1 ⟨vs, H1, I1, r1, q1⟩ => ?_) hs hpl))
  obtain ⟨a, b, xs, ys, ex, hqx, hqy, q⟩ := q1
  subst ex
  cases r1 with
  | cons r rr =>
    cases rr with
    | cons r' rr =>
      cases rr
      cases r
      cases r'
      have fresh5 : ∀ c, c ∈ [s1.heap.objs.size + 4, s1.heap.objs.size + 2, s1.heap.objs.size + 3, s1.heap.objs.size, s1.heap.objs.size + 1] → FpOk X pins H1 c := fun c hcm => by
        have e' : c = s1.heap.objs.size + 4 ∨ c = s1.heap.objs.size + 2 ∨ c = s1.heap.objs.size + 3 ∨ c = s1.heap.objs.size ∨ c = s1.heap.objs.size + 1 := by simpa using hcm
        have hle : s1.heap.objs.size ≤ c := by
          rcases e' with z | z | z | z | z
          · rw [z]; exact Nat.le_add_right _ _
          · rw [z]; exact Nat.le_add_right _ _
          · rw [z]; exact Nat.le_add_right _ _
          · rw [z]; exact Nat.le_refl _
          · rw [z]; exact Nat.le_add_right _ _
        exact I1.fpOk hle (I1.hok.fresh hle)
      obtain ⟨its, rv, p1, _⟩ := I1.tuple hqx
      obtain ⟨its2, rv2, p2, _⟩ := I1.list hqy
      have pt : s1.heap.IsTuple a its.toArray := p1
      obtain ⟨o1, ho1, _⟩ := id pt
      refine zip_begins2 (begins_tuple a its.toArray) (begins_list b its2.toArray) pt p2.isList fun h' hz hTI hTO g1 g2 hsz hk => wpAny_pyIter_zip hz ?_
      have I2 : Inv X pins σ H1 { s1 with heap := h' } := I1.kept (t' := s1.toks) hk
      refine ⟨s1.heap.objs.size + 4, [s1.heap.objs.size + 4, s1.heap.objs.size + 2, s1.heap.objs.size + 3, s1.heap.objs.size, s1.heap.objs.size + 1], _, _, H1, rfl, I2, turn_zipM (zip_sep2 (N := s1.heap.objs.size) (fp1 := [a]) (fp2 := [b]) (fun c hc => ?_) fun c hc => ?_), ⟨hz, hTI, ⟨_, _, hTO⟩, ⟨_, g1, rfl, rfl⟩, ⟨_, g2, rfl, rfl⟩⟩, fresh5, q⟩
      · rw [List.mem_singleton.mp hc]; exact Heap.lt_size ho1
      · rw [List.mem_singleton.mp hc]; exact p2.lt
end Tw

set_option linter.all false
set_option Elab.async false
set_option maxRecDepth 100000
set_option maxHeartbeats 2000000
/-! TwB10: sorted rows of whole numbers, any number of them; list.remove of any data. -/
namespace Tw
open PySem PySem.Spec PyProof.Rows L2
theorem lexL_cons (x y : Int) (xs ys : List Int) : lexL (x :: xs) (y :: ys) = if x = y then lexL xs ys else decide (x < y) := rfl
theorem lexL_asym : ∀ xs ys : List Int, lexL xs ys = true → lexL ys xs = false
  | [], [], h => rfl
  | [], _ :: _, h => rfl
  | _ :: _, [], h => by cases h
  | x :: xs, y :: ys, h => by
    rw [lexL_cons] at h ⊢
    by_cases e : x = y
    · rw [if_pos e] at h
      rw [if_pos e.symm]
      exact lexL_asym xs ys h
    · rw [if_neg e, decide_eq_true_eq] at h
      rw [if_neg (fun z => e z.symm), decide_eq_false (by omega)]
theorem lexL_tr : ∀ xs ys zs : List Int, lexL xs ys = false → lexL ys zs = false → lexL xs zs = false
  | [], [], zs, h1, h2 => h2
  | [], _ :: _, zs, h1, h2 => by cases h1
  | _ :: _, [], [], h1, h2 => rfl
  | _ :: _, [], _ :: _, h1, h2 => by cases h2
  | _ :: _, _ :: _, [], h1, h2 => rfl
  | x :: xs, y :: ys, z :: zs, h1, h2 => by
    rw [lexL_cons] at h1 h2 ⊢
    by_cases e1 : x = y
    · rw [if_pos e1] at h1
      by_cases e2 : y = z
      · rw [if_pos e2] at h2
        rw [if_pos (e1.trans e2)]
        exact lexL_tr xs ys zs h1 h2
      · rw [if_neg e2] at h2
        rw [e1, if_neg e2]
        exact h2
    · rw [if_neg e1, decide_eq_false_iff_not] at h1
      by_cases e2 : y = z
      · rw [← e2, if_neg e1, decide_eq_false h1]
      · rw [if_neg e2, decide_eq_false_iff_not] at h2
        rw [if_neg (by omega), decide_eq_false (by omega)]
theorem lexL_eq : ∀ xs ys : List Int, lexL xs ys = false → lexL ys xs = false → xs = ys
  | [], [], _, _ => rfl
  | [], _ :: _, h, _ => by cases h
  | _ :: _, [], _, h => by cases h
  | x :: xs, y :: ys, h1, h2 => by
    rw [lexL_cons] at h1 h2
    by_cases e : x = y
    · rw [if_pos e] at h1
      rw [if_pos e.symm] at h2
      rw [e, lexL_eq xs ys h1 h2]
    · rw [if_neg e, decide_eq_false_iff_not] at h1
      rw [if_neg (fun z => e z.symm), decide_eq_false_iff_not] at h2
      omega
theorem swo_lexL (k : Value → List Int) : SrtO.Swo fun v u => lexL (k v) (k u) := ⟨fun x y h => lexL_asym _ _ h, fun x y z h1 h2 => lexL_tr (k z) (k y) (k x) h2 h1⟩
theorem ints_size : ∀ {us : List Value} {ns : List Int}, IntsAre us ns → us.length = ns.length
  | _, _, .nil => rfl
  | _, _, .cons n t h => by rw [List.length_cons, List.length_cons, ints_size h]
section
variable {prog : Program} {w : World} {A : Around} {s : Shared}
theorem lex_kat : ∀ {us ws : List Value} {xs ys : List Int}, IntsAre us xs → IntsAre ws ys → ∀ (i : Nat) (fin : Bool), fin = decide (xs.length < ys.length) →
    PySem.W.KatLex prog w A true fin (fun r s' => s' = s ∧ r = lexL xs ys) (us.zip ws) i s
  | _, _, _, _, .nil, .nil, i, fin, hf => PySem.W.kat_nil ⟨rfl, hf⟩
  | _, _, _, _, .nil, .cons n t h, i, fin, hf => PySem.W.kat_nil ⟨rfl, hf.trans (by rw [decide_eq_true (show ([] : List Int).length < (n :: _).length by simp)]; rfl)⟩
  | _, _, _, _, .cons n t h, .nil, i, fin, hf => PySem.W.kat_nil ⟨rfl, hf.trans (by rw [decide_eq_false (show ¬ (n :: _).length < ([] : List Int).length by simp)]; rfl)⟩
  | _, _, _, _, .cons (ns := xs) n t h, .cons (ns := ys) m u h', i, fin, hf => by
    rw [List.zip_cons_cons]
    refine PySem.W.kat_cons (SeqAt.EqAt.int_int n t m u prog w _ _ ?_)
    refine PySem.W.kat_go (fun e1 => ?_) (fun e1 => ?_)
    · have ex : n = m := by simpa using e1
      have e3 : lexL (n :: xs) (m :: ys) = lexL xs ys := if_pos ex
      rw [e3]
      refine PySem.W.kat_yes (lex_kat h h' (i + 1) fin ?_)
      rw [hf]
      simp
    · have ex : ¬ n = m := by simpa using e1
      have e3 : lexL (n :: xs) (m :: ys) = decide (n < m) := if_neg ex
      exact PySem.W.kat_no (TS.oneLt_ints _ ⟨rfl, e3.symm⟩)
theorem row_cmp {vs : List Value} {k : Value → List Int} (hp : ∀ v ∈ vs, TS.TupInts s.heap v (k v)) : SrtO.Cmp prog w A s (tuples' true) (fun p => p.1 ∈ vs) (SrtO.lt2 fun v u => lexL (k v) (k u)) := by
  intro p q hm hm'
  have h1 := hp _ hm
  have h2 := hp _ hm'
  show wpAny (model prog w) A (keyLt' (tuples' true) p.1 q.1) (fun r s' => s' = s ∧ r = lexL (k p.1) (k q.1)) (fun _ _ => False) s
  generalize k p.1 = x at h1 ⊢
  generalize k q.1 = y at h2 ⊢
  obtain ⟨a, us, e, ⟨o, ho, hc, n, hd⟩, i1⟩ := h1
  obtain ⟨a', us', e', ⟨o', ho', hc', n', hd'⟩, i2⟩ := h2
  rw [e, e']
  refine PySem.W.kat_lt ho hd ho' hd' (lex_kat i1 i2 0 _ ?_)
  have l1 := ints_size i1
  have l2 := ints_size i2
  rw [Array.length_toList] at l1 l2
  rw [l1, l2]
theorem row_firsts {h : Heap} {k : Value → List Int} : ∀ {vs : List Value}, (∀ v ∈ vs, TS.TupInts h v (k v) ∧ k v ≠ []) → ∃ fs : List Value, PySem.W.KatTups h vs fs ∧ fs.length = vs.length ∧ ∀ f ∈ fs, ∃ x t, f = Value.int x t
  | [], _ => ⟨[], PySem.W.KatTups.nil, rfl, fun _ hm => by simp at hm⟩
  | v :: vs, hp => by
    obtain ⟨fs, g1, g2, g3⟩ := row_firsts (vs := vs) fun v' hm => hp v' (List.mem_cons_of_mem _ hm)
    obtain ⟨⟨a, us, e, ⟨o, ho, hc, n, hd⟩, i1⟩, hne⟩ := hp v (List.mem_cons_self ..)
    subst e
    generalize k (.ref a) = ks at i1 hne
    cases hu : us.toList with
    | nil =>
      rw [hu] at i1
      cases i1
      exact absurd rfl hne
    | cons f r =>
      rw [hu] at i1
      cases i1 with
      | cons x t i1 =>
        have hf : us[0]? = some (.int x t) := by
          rw [← Array.getElem?_toList, hu]
          rfl
        refine ⟨.int x t :: fs, PySem.W.KatTups.cons ho hc hd hf g1, by rw [List.length_cons, List.length_cons, g2], fun z hm => ?_⟩
        rcases List.mem_cons.mp hm with rfl | hm
        · exact ⟨x, t, rfl⟩
        · exact g3 z hm
theorem rows_sortable {a : Addr} {vs : List Value} {k : Value → List Int} (h0 : 0 < vs.length) (hp : ∀ v ∈ vs, TS.TupInts s.heap v (k v) ∧ k v ≠ []) (ha : ∀ o, s.heap.get? a = some o → o.cls ≠ .type "tuple") : SrtO.SortableO prog w A s a vs fun v u => lexL (k v) (k u) := by
  intro h' keep
  have hp' : ∀ v ∈ vs, TS.TupInts h' v (k v) ∧ k v ≠ [] := fun v hm => ⟨(hp v hm).1.keeps fun b o e c => keep b o (fun z => by subst z; exact ha o e c) e, (hp v hm).2⟩
  obtain ⟨fs, g1, g2, g3⟩ := row_firsts hp'
  refine ⟨tuples' true, fun Q E hq => ?_, row_cmp fun v hm => (hp' v hm).1⟩
  refine PySem.W.kat_kind (T := .type "int") g1 (by omega) (fun f hm => ?_) (by rfl) ?_
  · obtain ⟨x, t, rfl⟩ := g3 f hm
    exact PySem.W.Looks.now
  · have e : (Value.type "int" != Value.type "tuple") = true := by decide +kernel
    rw [e]
    exact hq
end
/-- the value is a tuple of these whole numbers -/
def RwR (K : PySem.W.Frag) (H : Hp) (ks : List Int) (v : V) : Prop := ∃ t, v = .ref t ∧ Tq H t (ks.map V.int)
def rSrtR (K : PySem.W.Frag) : List V → Hp → VK → Prop := fun vs H Q => ∃ (a : Addr) (xs : List V) (ks : List (List Int)), vs = [V.ref a] ∧ SqL K H a xs ∧ F2 (RwR K H) ks xs ∧ (∀ k ∈ ks, k ≠ []) ∧
  ∀ (ys : List V) (ls : List (List Int)) (p : Addr), F2 (RwR K H) ls ys → ls.Perm ks → ls.Pairwise (fun x y => lexL y x = false) → H p = none → Q (.ref p) (upd H p (.lst ys))
theorem f2_mem {α β : Type} {R : α → β → Prop} {xs : List α} {ys : List β} (h : F2 R xs ys) : ∀ y ∈ ys, ∃ x ∈ xs, R x y := by
  induction h with
  | nil => intro y hy; cases hy
  | cons r _ ih =>
    intro y hy
    rcases List.mem_cons.mp hy with rfl | hy
    · exact ⟨_, List.mem_cons_self, r⟩
    · obtain ⟨x, hx, q⟩ := ih y hy
      exact ⟨x, List.mem_cons_of_mem _ hx, q⟩
theorem f2_fun {α β : Type} {R : α → β → Prop} {f : β → α} : ∀ (ys : List β), (∀ y ∈ ys, R (f y) y) → F2 R (ys.map f) ys
  | [], _ => .nil
  | y :: ys, h => .cons (h y List.mem_cons_self) (f2_fun ys fun z hz => h z (List.mem_cons_of_mem _ hz))
theorem f2_keys {α β : Type} {R : α → β → Prop} {f : β → α} {xs : List α} {ys : List β} (h : F2 R xs ys) (u : ∀ x y, y ∈ ys → R x y → f y = x) : xs = ys.map f := by
  induction h with
  | nil => rfl
  | cons r _ ih => rw [List.map_cons, u _ _ List.mem_cons_self r, ← ih fun x y hy q => u x y (List.mem_cons_of_mem _ hy) q]
theorem f2_mapr {α β γ : Type} {R : α → γ → Prop} {g : β → γ} : ∀ {ks : List α} {us : List β}, F2 R ks (us.map g) → F2 (fun n v => R n (g v)) ks us
  | [], [], _ => .nil
  | [], _ :: _, h => by cases h
  | _ :: _, [], h => by cases h
  | _ :: _, _ :: _, .cons a b => .cons a (f2_mapr b)
section
variable {X : Cx}
theorem cr_srtR : CallR X (.builtin "sorted") (rSrtR X.K) := by
  intro pins s σ H vs us Q I r h
  obtain ⟨a, xs, ks, rfl, hs, hk, hne, q⟩ := h
  obtain ⟨its, rv, hl, hz⟩ := I.list hs
  obtain ⟨u, rfl, ru⟩ := vals1 r
  obtain rfl : u = Value.ref a := ru
  obtain ⟨e1, e2⟩ := refs_back rv fun x m => by
    obtain ⟨n, _, t, e, _⟩ := f2_mem hk x m
    exact ⟨t, e⟩
  have one : ∀ v ∈ its, ∃ n ∈ ks, RwR X.K H n (backV v) ∧ TS.TupInts s.heap v n := fun v hv => by
    obtain ⟨t, rfl⟩ := e2 v hv
    have hm : V.ref t ∈ xs := by rw [e1]; exact List.mem_map.mpr ⟨_, hv, rfl⟩
    obtain ⟨n, hn, hr⟩ := f2_mem hk _ hm
    obtain ⟨t', e, ht⟩ := id hr
    cases e
    exact ⟨n, hn, hr, tupI_raw I ht.sq⟩
  let k : Value → List Int := fun v => TS.intsOf s.heap v
  have at_ : ∀ v ∈ its, TS.TupInts s.heap v (k v) ∧ k v ≠ [] ∧ RwR X.K H (k v) (backV v) := fun v hv => by
    obtain ⟨n, hn, hr, ht⟩ := one v hv
    have e : k v = n := ht.ints
    rw [e]
    exact ⟨ht, hne n hn, hr⟩
  have ek : ks = its.map k := by
    have f : F2 (fun n v => RwR X.K H n (backV v)) ks its := by
      rw [e1] at hk
      exact f2_mapr hk
    refine f2_keys f fun n v hv hr => ?_
    obtain ⟨t, rfl⟩ := e2 v hv
    obtain ⟨t', e, ht⟩ := hr
    cases e
    exact (tupI_raw I ht.sq).ints
  refine SrtO.sorted_ord (swo_lexL k) hl.isList (by rw [← rv.length]; exact hz) (fun h2 h₁ b hb kk => ?_) fun out h1 h2 => ?_
  · refine rows_sortable (s := { s with heap := h₁ }) (by omega) (fun v hm => ⟨(at_ v hm).1.keeps fun c o e _ => (kk c o e).2, (at_ v hm).2.1⟩) fun o e => ?_
    have e' : some o = some (seqObj "list" its.toArray 0) := e.symm.trans hb
    cases e'
    intro c
    exact absurd (Value.type.inj c) (by decide)
  · have hmem : ∀ u ∈ out, u ∈ its := fun u hu => h2.perm.mem_iff.mp hu
    have h3 : ∀ u ∈ out, ∃ a, u = Value.ref a := fun u hu => e2 u (hmem u hu)
    have fl : F2 (RwR X.K H) (out.map k) (out.map backV) := by
      have : ∀ l : List Value, (∀ u ∈ l, u ∈ its) → F2 (RwR X.K H) (l.map k) (l.map backV) := by
        intro l
        induction l with
        | nil => intro _; exact .nil
        | cons u l ih => intro hl; exact .cons (at_ u (hl u List.mem_cons_self)).2.2 (ih fun z hz => hl z (List.mem_cons_of_mem _ hz))
      exact this out hmem
    have pm : (out.map k).Perm ks := by rw [ek]; exact h2.perm.map k
    obtain ⟨ep, hat⟩ := PyProof.Rows.sortedAll_at s.heap its out.toArray
    have pw : (out.map k).Pairwise (fun x y => lexL y x = false) := List.pairwise_map.mpr h1
    refine ⟨.ref _, upd H (s.heap.objs.size + 1) (.lst (out.map backV)), I.laid (t' := s.toks) (fun _ _ => PyProof.Rows.sortedAll_old) (Nat.le_succ _) ⟨?_, out, ep, vals_back h3, hat⟩, rfl, q _ _ _ fl pm pw (I.hok.fresh (Nat.le_succ _))⟩
    rw [List.length_map, h2.perm.length_eq, ← rv.length]
    exact hz
/-! ### index and remove, of data -/
theorem rem_loop (c : Addr) (us : Array Value) (n : Nat) (x : Value) (f : Value → Bool) (j : Nat) (hj : j < us.size) (yes : f us[j] = true) (hs : us.size ≤ sizeLine) (k : Nat) :
    ∀ i : Nat, j - i = k → i ≤ j → (∀ m (hm : m < us.size), i ≤ m → m < j → f us[m] = false) → Meets (Builtin.«list.remove.loop» ⟨[.ref c, x, rawInt i], []⟩)
      (fun B R s => s.heap.get? c = some { cls := .type "list", dict := none, data := .seq us n, slots := #[] } ∧ (∀ y, y ∈ us → SeqAt.EqAt B.in1 s y x (f y)) ∧ R (.ok (.ret .none)) { s with heap := s.heap.update c (Obj.mapSeq fun zs => zs.eraseIdxIfInBounds j) }) := by
  induction k with
  | zero =>
    intro i hk hij no prog w B R s h
    obtain ⟨hp, g, d, tk, os⟩ := s
    obtain ⟨hc, he, h⟩ := h
    have e : i = j := by omega
    subst e
    wp_walk using wpAny_loadPart' hc
    have hi : us[((i : Nat) : Int).toNat]? = some us[i] := by simp [hj]
    rw [hi]
    refine wpAny_bind (he _ (Array.getElem_mem hj) prog w _ _ ?_)
    rw [yes]
    have hz : (us.eraseIdxIfInBounds i).size ≤ sizeLine + 1 := Nat.le_trans (MeetsSeq.size_erased us _) (Nat.le_succ_of_le hs)
    wp_walk using (wpAny_updateSeq hc rfl (hz := hs) (_hz' := hz)), wpAny_loadPart' hc
    simpa using h
  | succ k ih =>
    intro i hk hij no prog w B R s h
    obtain ⟨hp, g, d, tk, os⟩ := s
    obtain ⟨hc, he, h⟩ := h
    have lt : i < us.size := by omega
    wp_walk using wpAny_loadPart' hc
    have hi : us[((i : Nat) : Int).toNat]? = some us[i] := by simp [lt]
    have hn : ((i : Int) + 1) = ((i + 1 : Nat) : Int) := by omega
    rw [hi]
    refine wpAny_bind (he _ (Array.getElem_mem lt) prog w _ _ ?_)
    rw [no i lt (Nat.le_refl _) (by omega)]
    wp_walk
    rw [hn]
    exact ⟨plainId_quiet MeetsSeq.plain_remove_loop _, codeAny_builtin MeetsSeq.entry_remove_loop (by
      rw [Around.under_plainId MeetsSeq.plain_remove_loop _]
      exact ih (i + 1) (by omega) (by omega) (fun m hm h1 h2 => no m hm (by omega) h2) prog w B R _ ⟨hc, he, h⟩)⟩
theorem rem_at (c : Addr) (us : Array Value) (n : Nat) (x : Value) (f : Value → Bool) (j : Nat) (hj : j < us.size) (yes : f us[j] = true) (no : ∀ m (hm : m < us.size), m < j → f us[m] = false) (hs : us.size ≤ sizeLine) :
    Meets (Builtin.«list.remove» ⟨[.ref c, x], []⟩)
      (fun B R s => s.heap.get? c = some { cls := .type "list", dict := none, data := .seq us n, slots := #[] } ∧ (∀ y, y ∈ us → SeqAt.EqAt B.in1 s y x (f y)) ∧ R (.ok (.ret .none)) { s with heap := s.heap.update c (Obj.mapSeq fun zs => zs.eraseIdxIfInBounds j) }) := by
  intro prog w B R s h
  obtain ⟨hp, g, d, tk, os⟩ := s
  obtain ⟨hc, he, h⟩ := h
  wp_walk using wpAny_loadPart' hc
  exact ⟨plainId_quiet MeetsSeq.plain_remove_loop _, codeAny_builtin MeetsSeq.entry_remove_loop (by
    rw [Around.under_plainId MeetsSeq.plain_remove_loop _]
    exact rem_loop c us n x f j hj yes hs _ 0 rfl (Nat.zero_le _) (fun m hm _ h2 => no m hm h2) prog w B R _ ⟨hc, he, h⟩)⟩
/-- what stands in a list, as data, and the first of them that equals one -/
structure FstD (K : PySem.W.Frag) (H : Hp) (vs : List V) (y : V) (j : Nat) (ds : List PyData) (d z : PyData) : Prop where
  all : DpAll K H vs ds
  one : Dp K H y d
  lays : PyData.canLayAll0 ds = true
  lay : d.canLay0 = true
  dep : d.depth ≤ 60
  get : ds[j]? = some z
  yes : PyData.eqv z d = true
  no : ∀ (m : Nat) (u : PyData), m < j → ds[m]? = some u → PyData.eqv u d = false
def rIxE (K : PySem.W.Frag) : V → List V → Hp → VK → Prop := fun x xs H Q => ∃ (a : Addr) (y : V) (vs : List V) (j : Nat) (ds : List PyData) (d z : PyData), x = V.ref a ∧ xs = [y] ∧ SqL K H a vs ∧ FstD K H vs y j ds d z ∧ Q (.int (j : Nat)) H
def rRmE (K : PySem.W.Frag) : V → List V → Hp → VK → Prop := fun x xs H Q => ∃ (a : Addr) (y : V) (vs : List V) (j : Nat) (ds : List PyData) (d z : PyData), x = V.ref a ∧ xs = [y] ∧ H a = some (.lst vs) ∧ FstD K H vs y j ds d z ∧ Q .non (upd H a (.lst (vs.eraseIdx j)))
theorem fst_facts {pins : List (Addr × Obj)} {σ : L2.St} {H : Hp} {s : Shared} {vs : List V} {y : V} {j : Nat} {ds : List PyData} {d z : PyData} (I : Inv X pins σ H s) (hu : X.A.units + 64 < cLine) (F : FstD X.K H vs y j ds d z) {us : List Value} {u : Value} (rv : Vals vs us) (ru : RelV y u) :
    (∀ w ∈ us.toArray, SeqAt.EqAt X.A.in1 s w u (PyData.eqv (SeqAt.readOf s.heap w) d)) ∧ ∃ hj : j < us.toArray.size, PyData.eqv (SeqAt.readOf s.heap us.toArray[j]) d = true ∧ ∀ m (hm : m < us.toArray.size), m < j → PyData.eqv (SeqAt.readOf s.heap us.toArray[m]) d = false := by
  obtain ⟨b1, q1⟩ := Dp.reads I d y u F.one ru
  obtain ⟨b2, q2⟩ := Dp.readsAll I ds vs us F.all rv
  have ln : us.length = ds.length := SeqAt.ReadsAll.length ds us b2 q2
  have mp : us.map (SeqAt.readOf s.heap) = ds := SeqAt.readsAll_map ds us b2 F.lays q2
  have room : X.A.units + 1 + min (PyData.depthAll ds) d.depth < cLine := by have := F.dep; omega
  have get_ : ∀ (m : Nat) (hm : m < us.toArray.size) (c : PyData), ds[m]? = some c → SeqAt.readOf s.heap us.toArray[m] = c := by
    intro m hm c hc
    have ml : m < us.length := by simpa using hm
    rw [← mp, List.getElem?_map, List.getElem?_eq_getElem ml] at hc
    have e1 : SeqAt.readOf s.heap us[m] = c := Option.some.inj (show some (SeqAt.readOf s.heap us[m]) = some c from hc)
    simpa using e1
  have jd : j < ds.length := (List.getElem?_eq_some_iff.mp F.get).1
  refine ⟨SeqAt.items_eqAt (vs := us.toArray) (show ReadsAll s.heap us.toArray.toList ds b2 from q2) q1 F.lays F.lay room, by rw [List.size_toArray]; omega, ?_, fun m hm hmj => ?_⟩
  · rw [get_ j _ z F.get]
    exact F.yes
  · have hz : ds[m]? = some ds[m] := List.getElem?_eq_getElem (by omega)
    rw [get_ m hm _ hz]
    exact F.no m _ hmj hz
theorem mt_ixE (hu : X.A.units + 64 < cLine) : MtR X "list.index" (rIxE X.K) := by
  intro pins s σ H x xs v us Q I rx rxs h
  obtain ⟨a, y, vs, j, ds, d, z, rfl, rfl, hl, F, q⟩ := h
  cases rx
  obtain ⟨u, rfl, ru⟩ := vals1 rxs
  obtain ⟨ws, rv, ⟨⟨cl, dd, dt, sl⟩, n, ho, hc, hdn, hdt⟩, hlen⟩ := I.list hl
  simp only at hc hdt
  subst hc hdt
  obtain ⟨f1, hj, f2, f3⟩ := fst_facts I hu F rv ru
  have z1 := sizeLine_eq
  have z2 := rv.length
  have z3 : j < ws.length := by simpa using hj
  exact call_meets PySem.F.slot_list_index ⟨_, ho, rfl⟩ PySem.F.entry_list_index (PySem.F.args_list_index_2 _ _)
    (SeqAt.list_indexAt a ws.toArray n dd sl u (fun w => PyData.eqv (SeqAt.readOf s.heap w) d) j hj (by omega) f2 f3) ⟨ho, f1, .int (j : Nat), H, I.tok _, ⟨_, rfl⟩, q⟩
theorem mt_rmE (hu : X.A.units + 64 < cLine) : MtR X "list.remove" (rRmE X.K) := by
  intro pins s σ H x xs v us Q I rx rxs h
  obtain ⟨a, y, vs, j, ds, d, z, rfl, rfl, hl, F, q⟩ := h
  cases rx
  obtain ⟨u, rfl, ru⟩ := vals1 rxs
  obtain ⟨lz, ws, n, rv, ll, e⟩ := I.lstM hl
  obtain ⟨f1, hj, f2, f3⟩ := fst_facts I hu F rv ru
  have z2 := rv.length
  refine call_meets PySem.F.slot_list_remove ⟨_, e, rfl⟩ PySem.F.entry_list_remove (PySem.F.args_list_remove_2 _ _)
    (rem_at a ws.toArray n u (fun w => PyData.eqv (SeqAt.readOf s.heap w) d) j hj f2 f3 (by rw [List.size_toArray]; omega)) ⟨e, f1, ?_⟩
  refine ⟨.non, _, I.lset (its' := ws.eraseIdx j) (t' := s.toks) hl e ?_ (rv.eraseIdx j) ?_, rfl, q⟩
  · show ws.toArray.eraseIdxIfInBounds j = (ws.eraseIdx j).toArray
    rw [List.eraseIdxIfInBounds_toArray]
  · have := List.length_eraseIdx_le vs j
    omega
end
end Tw

set_option linter.all false
set_option Elab.async false
set_option maxRecDepth 100000
set_option maxHeartbeats 2000000
/-! TwC2: what is looked at in the text. -/
namespace Tw
open PySem PySem.Spec PyProof.Rows L2

/-- the text's names -/
structure Ck where
  fns : List Str
  cls : List Str
  exs : List Nat
  at_ : Nat → Str
  con : List (Str × P)
  fre : List Str
  fds : List Nat
  inis : List (Nat × Nat)
  mts : List (Nat × Nat × Str)
  iso : List Nat
  eqs : List (Nat × Nat)
  ecs : List Nat
def okName (x : Str) : Bool := !(x == ("__debug__" : Str)) && !(x == ("__classdict__" : Str))
def visB (sc : Scope) (x : Str) : Bool := match sc.names.lookup x with
  | some .local => true
  | some .cell => true
  | some .free => true
  | _ => false
def glB (sc : Scope) (x : Str) : Bool := match sc.names.lookup x with
  | some .globalImplicit => true
  | _ => false
def notStar : Expr → Bool
  | .Starred _ _ => false
  | _ => true
def notSet : Expr → Bool
  | .Set _ _ _ => false
  | _ => true
def notSlice : Expr → Bool
  | .Slice _ _ _ _ => false
  | _ => true
def notCall : Expr → Bool
  | .Call _ (_ :: _) _ _ => true
  | .Call _ _ _ _ => false
  | _ => true
/-- no 'and', 'or', 'not', comparison -/
def valForm : Expr → Bool
  | .BoolOp _ _ _ => false
  | .UnaryOp .Not _ _ => false
  | .Compare _ _ _ _ => false
  | .IfExp _ _ _ _ => false
  | .NamedExpr _ _ _ => false
  | .Constant _ _ _ => false
  | _ => true
def cstOk : P → Const → Bool
  | .non, .none => true
  | .bl a, .bool b => a == b
  | .int i, .int j => decide (i = j)
  | .str s, .str t => decide (s = t) && PyData.strOk s
  | _, _ => false
def opIs : BinO → Operator → Bool
  | .add, .Add => true
  | .sub, .Sub => true
  | .mul, .Mult => true
  | .div, .FloorDiv => true
  | .mod, .Mod => true
  | .pow, .Pow => true
  | .shl, .LShift => true
  | .shr, .RShift => true
  | _, _ => false
theorem opIs_eq {o : BinO} {p : Operator} (h : opIs o p = true) : p = opA o := by cases o <;> cases p <;> first | rfl | cases h
def cmIs : CmpO → CmpOp → Bool
  | .lt, .Lt => true
  | .le, .LtE => true
  | .gt, .Gt => true
  | .ge, .GtE => true
  | .eq, .Eq => true
  | .ne, .NotEq => true
  | .inn, .In => true
  | .nin, .NotIn => true
  | .is, .Is => true
  | .isn, .IsNot => true
  | _, _ => false
theorem cmIs_eq {o : CmpO} {p : CmpOp} (h : cmIs o p = true) : p = cmA o := by cases o <;> cases p <;> first | rfl | cases h
def biN : Bi → Str
  | .abs => "abs"
  | .int => "int"
  | .str => "str"
  | .sum => "sum"
  | .all => "all"
  | .any => "any"
  | .max => "max"
  | .min => "min"
  | .tuple => "tuple"
  | .max0 => "max"
def tyN : Ty → Option String
  | .int => some "int"
  | .bool => some "bool"
  | .str => some "str"
  | .tuple => some "tuple"
  | .list => some "list"
  | .own _ => none
/-- a built-in's name -/
def bName (K : Ck) (sc : Scope) (x y : Str) : Bool := decide (x = y) && glB sc x && K.fre.contains x
/-- a name of a class: a built-in type -/
def tyIs (K : Ck) (sc : Scope) (t : Ty) : Expr → Bool
  | .Name x _ => match tyN t with
    | some n => bName K sc x (Str.ofString n)
    | none => false
  | _ => false
def tysAre (K : Ck) (sc : Scope) : List Ty → List Expr → Bool
  | [], [] => true
  | t :: ts, e :: es => tyIs K sc t e && tysAre K sc ts es
  | _, _ => false
def tysIs (K : Ck) (sc : Scope) (ts : List Ty) : Expr → Bool
  | .Tuple es _ _ => decide (es.length ≤ 8) && tysAre K sc ts es
  | e => match ts with
    | [t] => tyIs K sc t e
    | _ => false
def isNo : E → Bool
  | .no => true
  | _ => false
def ownN (N : List Str) (own : List Nat) : List (Str × Nat) := own.map fun i => (N.getD i Str.empty, i)
/-- a target's names; kinds as they stand in the scope that owns them -/
def tgN (N : List Str) (names : List (Str × NameKind)) (i : Nat) : Expr → Bool
  | .Name x _ => decide (N[i]? = some x) && (match names.lookup x with
    | some .local => true
    | some .cell => true
    | _ => false)
  | _ => false
def tgNs (N : List Str) (names : List (Str × NameKind)) : List Nat → List Expr → Bool
  | [], [] => true
  | i :: is, e :: es => tgN N names i e && tgNs N names is es
  | _, _ => false
def chkKs (N : List Str) (names : List (Str × NameKind)) : List Tk → List Expr → Bool
  | [], [] => true
  | .n i :: r, e :: es => tgN N names i e && chkKs N names r es
  | .t is :: r, .Tuple fs _ _ :: es => tgNs N names is fs && chkKs N names r es
  | _, _ => false
def chkT (N : List Str) (names : List (Str × NameKind)) : Tg → Expr → Bool
  | .nm i, e => tgN N names i e
  | .tp is, .Tuple es _ _ => tgNs N names is es
  | .nt ks, .Tuple es _ _ => chkKs N names ks es
  | _, _ => false
def tgOwn (own : List Nat) : Tg → Bool
  | .nm i => own.contains i
  | .tp is => is.all own.contains
  | .nt ks => ks.all fun k => match k with
    | .n i => own.contains i
    | .t is => is.all own.contains
/-- range(..), of one or two -/
def rArgs : Expr → List Expr
  | .Call _ es _ _ => es
  | _ => []
def chkR (K : Ck) (sc : Scope) : Expr → Bool
  | .Call (.Name x _) [_] [] _ => bName K sc x "range"
  | .Call (.Name x _) [_, _] [] _ => bName K sc x "range"
  | .Call (.Name x _) [_, _, _] [] _ => bName K sc x "range"
  | _ => false
/-- zip(..), of two, and a tuple as a target -/
def chkZ (K : Ck) (sc : Scope) : Expr → Bool
  | .Call (.Name x _) [_, _] [] _ => bName K sc x "zip"
  | _ => false
def isTupT : Expr → Bool
  | .Tuple _ _ _ => true
  | _ => false
mutual
/-- what may be asked of as a test -/
def tstE : E → Bool
  | .no => false
  | .cst _ => false
  | .and xs => tstEs xs
  | .or xs => tstEs xs
  | .not a => tstE a
  | .ifx _ _ _ => false
  | .mut _ => false
  | .eqo _ _ _ _ => false
  | _ => true
termination_by structural x => x
def tstEs : List E → Bool
  | [] => true
  | a :: r => tstE a && tstEs r
termination_by structural x => x
end
mutual
def chk (K : Ck) (N : List Str) : E → Scope → Bool → Expr → Bool
  | .var i, sc, _, z0 => match z0 with
    | .Name x _ => decide (N[i]? = some x) && visB sc x && okName x
    | _ => false
  | .cst p, sc, _, z0 => match z0 with
    | .Constant c _ _ => cstOk p c
    | .Name x _ => glB sc x && okName x && (match K.con.lookup x with
      | some q => P.same p q
      | none => false)
    | _ => false
  | .exv f i, sc, _, z0 => match z0 with
    | .Attribute (.Name x _) a _ => decide (N[i]? = some x) && visB sc x && okName x && decide (a = K.at_ f)
    | _ => false
  | .bin o a b, sc, c, z0 => match z0 with
    | .BinOp l op r _ => opIs o op && chk K N a sc c l && chk K N b sc c r
    | _ => false
  | .neg a, sc, c, z0 => match z0 with
    | .UnaryOp .USub e _ => chk K N a sc c e
    | _ => false
  | .cmp o a b, sc, c, z0 => match z0 with
    | .Compare l [op] [r] _ => cmIs o op && notSet r && chk K N a sc c l && chk K N b sc c r
    | _ => false
  | .chn o q a b d, sc, c, z0 => match z0 with
    | .Compare l [op, op'] [r, t] _ => cmIs o op && cmIs q op' && notSet t && chk K N a sc c l && chk K N b sc c r && chk K N d sc c t
    | _ => false
  | .and xs, sc, c, z0 => match z0 with
    | .BoolOp .And es _ => chks K N xs sc c es
    | _ => false
  | .or xs, sc, c, z0 => match z0 with
    | .BoolOp .Or es _ => chks K N xs sc c es
    | _ => false
  | .not a, sc, c, z0 => match z0 with
    | .UnaryOp .Not e _ => chk K N a sc c e
    | _ => false
  | .ifx t a b, sc, c, z0 => match z0 with
    | .IfExp e1 e2 e3 _ => tstE t && chk K N t sc c e1 && chk K N a sc c e2 && chk K N b sc c e3
    | _ => false
  | .tup xs, sc, c, z0 => match z0 with
    | .Tuple es _ _ => decide (es.length ≤ 1000) && chks K N xs sc c es
    | _ => false
  | .lst xs, sc, c, z0 => match z0 with
    | .List es _ => decide (es.length ≤ 1000) && chks K N xs sc c es
    | _ => false
  | .mut a, sc, c, e => chkL K N a sc c e
  | .idx a i, sc, c, z0 => match z0 with
    | .Subscript e s _ => notSlice s && chk K N a sc c e && chk K N i sc c s
    | _ => false
  | .slc a l h, sc, c, z0 => match z0 with
    | .Subscript e (.Slice lo hi none _) _ => chk K N a sc c e && (match lo with
      | some x => chk K N l sc c x
      | none => isNo l) && (match hi with
      | some x => chk K N h sc c x
      | none => isNo h)
    | _ => false
  | .call f xs, sc, c, z0 => match z0 with
    | .Call (.Name x _) es [] _ => c && glB sc x && okName x && decide (K.fns[f]? = some x) && chks K N xs sc c es
    | _ => false
  | .calls f xs, sc, c, z0 => match z0 with
    | .Call (.Name x _) es [] _ => c && glB sc x && okName x && decide (K.fns[f]? = some x) && !es.isEmpty && chks K N xs sc c es
    | _ => false
  | .new cl f xs, sc, c, z0 => match z0 with
    | .Call (.Name x _) es [] _ => c && glB sc x && okName x && decide (K.cls[cl]? = some x) && K.inis.contains (cl, f) && !es.isEmpty && chks K N xs sc c es
    | _ => false
  | .mth cl f o xs, sc, c, z0 => match z0 with
    | .Call (.Attribute e a ap) es [] cp => c && notCall e && (ap.endLine == cp.line) && decide (es.length < 30) && K.mts.contains (cl, f, a) && chk K N o sc c e && chks K N xs sc c es
    | _ => false
  | .isO cl a, sc, c, z0 => match z0 with
    | .Call (.Name x _) [e, .Name y _] [] _ => bName K sc x "isinstance" && notStar e && glB sc y && okName y && decide (K.cls[cl]? = some y) && K.iso.contains cl && chk K N a sc c e
    | _ => false
  | .err cl a, sc, c, z0 => match z0 with
    | .Call (.Name x _) [e] [] _ => c && glB sc x && okName x && decide (K.cls[cl]? = some x) && K.ecs.contains cl && notStar e && chk K N a sc c e
    | _ => false
  | .xfd f a, sc, c, z0 => match z0 with
    | .Attribute e n _ => notCall e && decide (n = K.at_ f) && chk K N a sc c e
    | _ => false
  | .isx cl a, sc, c, z0 => match z0 with
    | .Call (.Name x _) [e, .Name y _] [] _ => bName K sc x "isinstance" && notStar e && glB sc y && okName y && decide (K.cls[cl]? = some y) && chk K N a sc c e
    | _ => false
  | .isv a, sc, c, z0 => match z0 with
    | .Call (.Name x _) [e, .Name y _] [] _ => bName K sc x "isinstance" && notStar e && bName K sc y "ValueError" && chk K N a sc c e
    | _ => false
  | .exi cl i, sc, _, z0 => match z0 with
    | .Call (.Name n _) [.Name x _, .Name y _] [] _ => decide (N[i]? = some x) && visB sc x && okName x && bName K sc n "isinstance" && glB sc y && okName y && decide (K.cls[cl]? = some y) && !K.ecs.isEmpty
    | _ => false
  | .eqo cl f a b, sc, c, z0 => match z0 with
    | .Compare l [.Eq] [r] _ => c && K.eqs.contains (cl, f) && notSet r && chk K N a sc c l && chk K N b sc c r
    | _ => false
  | .fld f o, sc, c, z0 => match z0 with
    | .Attribute e a _ => notCall e && decide (a = K.at_ f) && K.fds.contains f && chk K N o sc c e
    | _ => false
  | .len a, sc, c, z0 => match z0 with
    | .Call (.Name x _) [e] [] _ => bName K sc x "len" && notStar e && chk K N a sc c e
    | _ => false
  | .bi b xs, sc, c, z0 => match z0 with
    | .Call (.Name x _) es kw _ => c && bName K sc x (biN b) && (match b with
      | .max0 => (match es, kw with
        | [e], [⟨some n, de, _⟩] => decide (n = ("default" : Str)) && chks K N xs sc c [e, de]
        | _, _ => false)
      | _ => kw.isEmpty && !es.isEmpty && chks K N xs sc c es)
    | _ => false
  | .lof a, sc, c, z0 => match z0 with
    | .Call (.Name x _) [e] [] _ => bName K sc x "list" && notStar e && chk K N a sc c e
    | _ => false
  | .isi a ts, sc, c, z0 => match z0 with
    | .Call (.Name x _) [e, t] [] _ => bName K sc x "isinstance" && notStar e && chk K N a sc c e && (match ts with
      | [t1] => tyIs K sc t1 t
      | _ => false)
    | _ => false
  | .lc own t src ifs elt, sc, c, z0 => match z0 with
    | .ListComp e gs scope _ => (match gs with
      | [⟨tg, it, ies, 0⟩] => c && notSet it && blkC N sc scope (ownN N own) && own.all (fun i => decide (i < N.length)) && tgOwn own t && chkT N scope.names t tg && tstEs ifs && chk K N src sc c it && chks K N ifs (relS scope sc) c ies && chk K N elt (relS scope sc) c e
      | _ => false)
    | _ => false
  | .lcr own t xs ifs elt, sc, c, z0 => match z0 with
    | .ListComp e gs scope _ => (match gs with
      | [⟨tg, it, ies, 0⟩] => c && blkC N sc scope (ownN N own) && own.all (fun i => decide (i < N.length)) && tgOwn own t && chkT N scope.names t tg && tstEs ifs && chkR K sc it && chks K N xs sc c (rArgs it) && chks K N ifs (relS scope sc) c ies && chk K N elt (relS scope sc) c e
      | _ => false)
    | _ => false
  | .app o x, sc, c, z0 => match z0 with
    | .Call (.Attribute e m ap) [a] [] cp => decide (m = ("append" : Str)) && notCall e && notStar a && (ap.endLine == cp.line) && chk K N o sc c e && chk K N x sc c a
    | _ => false
  | .rev a, sc, c, z0 => match z0 with
    | .Subscript e (.Slice none none (some (.UnaryOp .USub (.Constant (.int 1) _ _) _)) _) _ => chk K N a sc c e
    | _ => false
  | .revl a, sc, c, z0 => match z0 with
    | .Subscript e (.Slice none none (some (.UnaryOp .USub (.Constant (.int 1) _ _) _)) _) _ => chk K N a sc c e
    | _ => false
  | .srt a, sc, c, z0 => match z0 with
    | .Call (.Name x _) [e] [] _ => bName K sc x "sorted" && notStar e && chk K N a sc c e
    | _ => false
  | .srs a, sc, c, z0 => match z0 with
    | .Call (.Name x _) [.Call (.Name y _) [e] [] _] [] _ => bName K sc x "sorted" && bName K sc y "set" && c && notStar e && chk K N a sc c e
    | _ => false
  | .ixo o x, sc, c, z0 => match z0 with
    | .Call (.Attribute e m ap) [a] [] cp => decide (m = ("index" : Str)) && notCall e && notStar a && (ap.endLine == cp.line) && chk K N o sc c e && chk K N x sc c a
    | _ => false
  | .rmo o x, sc, c, z0 => match z0 with
    | .Call (.Attribute e m ap) [a] [] cp => decide (m = ("remove" : Str)) && notCall e && notStar a && (ap.endLine == cp.line) && chk K N o sc c e && chk K N x sc c a
    | _ => false
  | .lcz own t xs ifs elt, sc, c, z0 => match z0 with
    | .ListComp e gs scope _ => (match gs with
      | [⟨tg, it, ies, 0⟩] => c && blkC N sc scope (ownN N own) && own.all (fun i => decide (i < N.length)) && tgOwn own t && chkT N scope.names t tg && tstEs ifs && chkZ K sc it && isTupT tg && chks K N xs sc c (rArgs it) && chks K N ifs (relS scope sc) c ies && chk K N elt (relS scope sc) c e
      | _ => false)
    | _ => false
  | .lss xs, sc, c, z0 => match z0 with
    | .List es _ => chkss K N xs sc c es
    | _ => false
  | .tss xs, sc, c, z0 => match z0 with
    | .Tuple es _ _ => chkss K N xs sc c es
    | _ => false
  | .dic a, sc, c, z0 => match z0 with
    | .Call (.Name x _) [e] [] _ => c && bName K sc x "dict" && notStar e && chk K N a sc c e
    | _ => false
  | .dge d k x, sc, c, z0 => match z0 with
    | .Call (.Attribute e m ap) [a, b] [] cp => decide (m = ("get" : Str)) && notCall e && notStar a && notStar b && (ap.endLine == cp.line) && chk K N d sc c e && chk K N k sc c a && chk K N x sc c b
    | _ => false
  | .lofr xs, sc, c, z0 => match z0 with
    | .Call (.Name x _) [.Call (.Name y _) es [] _] [] _ => c && bName K sc x "list" && bName K sc y "range" && decide (es.length ≤ 2) && !es.isEmpty && chks K N xs sc c es
    | _ => false
  | _, _, _, _ => false
termination_by structural x => x
def chkst (K : Ck) (N : List Str) : E → Scope → Bool → Expr → Bool
  | .lof a, sc, c, z0 => match z0 with
    | .Starred e _ => chk K N a sc c e
    | _ => false
  | .lst xs, sc, c, z0 => chks K N xs sc c [z0]
  | _, _, _, _ => false
termination_by structural x => x
def chkss (K : Ck) (N : List Str) : List E → Scope → Bool → List Expr → Bool
  | [], _, _, z0 => match z0 with
    | [] => true
    | _ => false
  | a :: r, sc, c, z0 => match z0 with
    | e :: es => chkst K N a sc c e && chkss K N r sc c es
    | _ => false
termination_by structural x => x
def chks (K : Ck) (N : List Str) : List E → Scope → Bool → List Expr → Bool
  | [], _, _, z0 => match z0 with
    | [] => true
    | _ => false
  | a :: r, sc, c, z0 => match z0 with
    | e :: es => notStar e && chk K N a sc c e && chks K N r sc c es
    | _ => false
termination_by structural x => x
def chkL (K : Ck) (N : List Str) : E → Scope → Bool → Expr → Bool
  | .lss xs, sc, c, z0 => match z0 with
    | .List es _ => chkss K N xs sc c es
    | _ => false
  | .lst xs, sc, c, z0 => match z0 with
    | .List es _ => decide (es.length ≤ 1000) && chks K N xs sc c es
    | _ => false
  | .lof a, sc, c, z0 => match z0 with
    | .Call (.Name x _) [e] [] _ => bName K sc x "list" && notStar e && chk K N a sc c e
    | _ => false
  | .lofr xs, sc, c, z0 => match z0 with
    | .Call (.Name x _) [.Call (.Name y _) es [] _] [] _ => c && bName K sc x "list" && bName K sc y "range" && decide (es.length ≤ 2) && !es.isEmpty && chks K N xs sc c es
    | _ => false
  | .bin o a b, sc, c, z0 => match z0 with
    | .BinOp l op r _ => opIs .add op && opIs o op && chk K N a sc c l && chk K N b sc c r
    | _ => false
  | .lc own t src ifs elt, sc, c, z0 => match z0 with
    | .ListComp e gs scope _ => (match gs with
      | [⟨tg, it, ies, 0⟩] => c && notSet it && blkC N sc scope (ownN N own) && own.all (fun i => decide (i < N.length)) && tgOwn own t && chkT N scope.names t tg && tstEs ifs && chk K N src sc c it && chks K N ifs (relS scope sc) c ies && chk K N elt (relS scope sc) c e
      | _ => false)
    | _ => false
  | .lcr own t xs ifs elt, sc, c, z0 => match z0 with
    | .ListComp e gs scope _ => (match gs with
      | [⟨tg, it, ies, 0⟩] => c && blkC N sc scope (ownN N own) && own.all (fun i => decide (i < N.length)) && tgOwn own t && chkT N scope.names t tg && tstEs ifs && chkR K sc it && chks K N xs sc c (rArgs it) && chks K N ifs (relS scope sc) c ies && chk K N elt (relS scope sc) c e
      | _ => false)
    | _ => false
  | .slc a l h, sc, c, z0 => match z0 with
    | .Subscript e (.Slice lo hi none _) _ => chk K N a sc c e && (match lo with
      | some x => chk K N l sc c x
      | none => isNo l) && (match hi with
      | some x => chk K N h sc c x
      | none => isNo h)
    | _ => false
  | _, _, _, _ => false
termination_by structural x => x
end
end Tw

set_option linter.all false
set_option Elab.async false
set_option maxRecDepth 100000
set_option maxHeartbeats 2000000
/-! TwC3: each form of an expression does what the reading says. -/
namespace Tw
open PySem PySem.Spec PyProof.Rows L2

theorem star_cons {e : Expr} (h : notStar e = true) (es : List Expr) (env : Env) : starEach (e :: es) env = (false, eval e env) :: starEach es env := by
  cases e <;> first | rfl | cases h
theorem star_none : ∀ {es : List Expr}, es.all notStar = true → ∀ env pos, (backTo pos (starEach es env)).any (·.1) = false
  | [], _, _, _ => rfl
  | e :: es, h, env, pos => by
    rw [List.all_cons, Bool.and_eq_true] at h
    rw [star_cons h.1]
    show (false || (backTo pos (starEach es env)).any (·.1)) = false
    rw [star_none h.2] <;> rfl
theorem _root_.L2.PE.of {X : Cx} {e : Expr} {t t' : TE} (h : PE X e t) (c : ∀ σ H Q, t' σ H Q → t σ H Q) : PE X e t' := ⟨fun pins s σ H Q I hw => h.run pins s σ H Q I (c σ H Q hw)⟩
theorem _root_.L2.PT.of {X : Cx} {e : Expr} {t t' : TT} (h : PT X e t) (c : ∀ σ H Q, t' σ H Q → t σ H Q) : PT X e t' := ⟨fun pins s σ H Q I hw => h.run pins s σ H Q I (c σ H Q hw)⟩
theorem _root_.L2.PW.of {X : Cx} {e : Expr} {t t' : TT} (h : PW X e t) (c : ∀ σ H Q, t' σ H Q → t σ H Q) : PW X e t' := ⟨fun wh pins s σ H Q I hw => h.run wh pins s σ H Q I (c σ H Q hw)⟩
theorem _root_.L2.PA.of {X : Cx} {e : List Expr} {t t' : TA} (h : PA X e t) (c : ∀ σ H Q, t' σ H Q → t σ H Q) : PA X e t' := ⟨fun pos pins s σ H Q I hw => h.run pos pins s σ H Q I (c σ H Q hw)⟩

theorem Out.bind_assoc {α β γ : Type} (o : Out α) (f : α → Store → Out β) (g : β → Store → Out γ) : (o.bind f).bind g = o.bind fun a S => (f a S).bind g := by cases o <;> rfl
section
variable {G : Wd} {C : Cb} {X : Cx} {W : WX} {xa : Option (Addr × Nat × Addr)} {k : Nat} {a b c : Expr} {es : List Expr} {pos : Pos} {oa ob oc : En → Store → Out D} {os : En → Store → Out (List D)}

/-- an expression ahead of the rest -/
theorem seqE {α β : Type} {Rl : List Addr → Hp → α → β → Prop} {m : List Addr} {en : En} {S : Store} {σ : Sl} {H : Hp} {Q : β → Hp → Prop} {f : D → Store → Out α} {Q1 : V → Hp → Prop}
    (re : RE G k xa m H en σ) (rs : RS G k m H S) (p : Post G k Rl W m σ H Q ((oa en S).bind f))
    (c : ∀ d S1 m1 H1 v, Ext k m H m1 H1 → RE G k xa m1 H1 en σ → RS G k m1 H1 S1 → RDD G k m1 H1 d v → Post G k Rl W m1 σ H1 Q (f d S1) → Q1 v H1) : tE G k W xa oa σ H Q1 :=
  ⟨m, en, S, re, rs, p.seq fun d S1 m1 H1 v x rs1 r1 p1 => c d S1 m1 H1 v x (re.mono x rs.nt) rs1 r1 p1⟩
theorem seqA {α β : Type} {Rl : List Addr → Hp → α → β → Prop} {m : List Addr} {en : En} {S : Store} {σ : Sl} {H : Hp} {Q : β → Hp → Prop} {f : List D → Store → Out α} {Q1 : List V → Hp → Prop}
    (re : RE G k xa m H en σ) (rs : RS G k m H S) (p : Post G k Rl W m σ H Q ((os en S).bind f))
    (c : ∀ ds S1 m1 H1 vs, Ext k m H m1 H1 → RE G k xa m1 H1 en σ → RS G k m1 H1 S1 → F2 (RDD G k m1 H1) ds vs → Post G k Rl W m1 σ H1 Q (f ds S1) → Q1 vs H1) : tA G k W xa os σ H Q1 :=
  ⟨m, en, S, re, rs, p.seq fun d S1 m1 H1 v x rs1 r1 p1 => c d S1 m1 H1 v x (re.mono x rs.nt) rs1 r1 p1⟩
theorem seqA' {α β : Type} {n : Nat} (ho : ∀ en S ds S1, os en S = .ok ds S1 → ds.length = n) {Rl : List Addr → Hp → α → β → Prop} {m : List Addr} {en : En} {S : Store} {σ : Sl} {H : Hp} {Q : β → Hp → Prop} {f : List D → Store → Out α} {Q1 : List V → Hp → Prop}
    (re : RE G k xa m H en σ) (rs : RS G k m H S) (p : Post G k Rl W m σ H Q ((os en S).bind f))
    (c : ∀ ds S1 m1 H1 vs, ds.length = n → Ext k m H m1 H1 → RE G k xa m1 H1 en σ → RS G k m1 H1 S1 → F2 (RDD G k m1 H1) ds vs → Post G k Rl W m1 σ H1 Q (f ds S1) → Q1 vs H1) : tA G k W xa os σ H Q1 := by
  refine ⟨m, en, S, re, rs, ?_⟩
  cases q : os en S with
  | ok ds S1 =>
    rw [q] at p
    exact fun m' H' b x rs1 r1 => c ds S1 m' H' b (ho en S ds S1 q) x (re.mono x rs.nt) rs1 r1 (Post.ext p x)
  | exc c' z S1 => rw [q] at p; exact p
  | stuck => rw [q] at p; exact p
theorem seqT {α β : Type} {ot : En → Store → Out Bool} {Rl : List Addr → Hp → α → β → Prop} {m : List Addr} {en : En} {S : Store} {σ : Sl} {H : Hp} {Q : β → Hp → Prop} {f : Bool → Store → Out α} {Q1 : Bool → Hp → Prop}
    (re : RE G k xa m H en σ) (rs : RS G k m H S) (p : Post G k Rl W m σ H Q ((ot en S).bind f))
    (c : ∀ d S1 m1 H1, Ext k m H m1 H1 → RE G k xa m1 H1 en σ → RS G k m1 H1 S1 → Post G k Rl W m1 σ H1 Q (f d S1) → Q1 d H1) : tT G k W xa ot σ H Q1 :=
  ⟨m, en, S, re, rs, p.seq fun d S1 m1 H1 v x rs1 r1 p1 => by cases r1; exact c d S1 m1 H1 x (re.mono x rs.nt) rs1 p1⟩

theorem a_nil : PA X [] (tA G k W xa fun _ S => .ok [] S) := pa_nil.of fun σ H Q ⟨m, en, S, re, rs, p⟩ => p.ok_now rs F2.nil
theorem a_cons (h1 : notStar a = true) (ha : PE X a (tE G k W xa oa)) (hr : PA X es (tA G k W xa os)) :
    PA X (a :: es) (tA G k W xa fun en S => (oa en S).bind fun x S1 => (os en S1).bind fun xs S2 => .ok (x :: xs) S2) :=
  (pa_cons ha hr (star_cons h1 es X.env)).of fun σ H Q ⟨m, en, S, re, rs, p⟩ =>
    seqE re rs p fun d S1 m1 H1 v x1 re1 rs1 r1 p1 => seqA re1 rs1 p1 fun ds S2 m2 H2 vs x2 re2 rs2 r2 p2 =>
      p2.ok_now rs2 (F2.cons (r1.mono x2 rs1.nt) r2)

theorem l_var {i : Nat} {x : Str} (hN : X.N[i]? = some x) (hv : Vis X.env.scope x) (ho : okName x = true) : PE X (.Name x pos) (tE G k W xa fun en S => Out.of (getV en i) S) := by
  unfold okName at ho
  rw [Bool.and_eq_true, Bool.not_eq_true', Bool.not_eq_true'] at ho
  refine (pe_var hN hv ho.1 ho.2).of fun σ H Q ⟨m, en, S, re, rs, p⟩ => ?_
  dsimp only at p
  unfold getV at p
  split at p
  · rename_i y e
    obtain ⟨v, h1, h2⟩ := re.at_ i _ e
    exact ⟨v, h1, p.ok_now rs h2⟩
  · rename_i n e
    obtain ⟨v, h1, h2⟩ := re.at_ i _ e
    exact ⟨v, h1, p.ok_now rs h2⟩
  · exact p.elim
theorem l_tC {p : P} {v : V} {e : Expr} (h : PE X e (tC v)) (r : ∀ m H, RD G m H p v) : PE X e (tE G k W xa fun _ S => .ok (.p p) S) := h.of fun σ H Q ⟨m, en, S, re, rs, q⟩ => q.ok_now rs (r m H)
theorem l_cst {p : P} {q : Const} {j : Nat} (h : cstOk p q = true) : PE X (.Constant q j pos) (tE G k W xa fun _ S => .ok (.p p) S) := by
  unfold cstOk at h
  split at h
  · exact l_tC pe_non fun _ _ => by simp only [RD]
  · have e := eq_of_beq h
    subst e
    exact l_tC pe_bl fun _ _ => by simp only [RD]
  · have e := of_decide_eq_true h
    subst e
    exact l_tC pe_int fun _ _ => by simp only [RD]
  · rw [Bool.and_eq_true] at h
    have e := of_decide_eq_true h.1
    subst e
    exact l_tC pe_str fun _ _ => by unfold RD; exact ⟨rfl, h.2⟩
  · cases h
theorem l_bin {o : BinO} {op : Operator} (hK : X.K = G.K) (h : opIs o op = true) (ha : PE X a (tE G k W xa oa)) (hb : PE X b (tE G k W xa ob)) :
    PE X (.BinOp a op b pos) (tE G k W xa fun en S => (oa en S).bind fun x S1 => (ob en S1).bind fun y S2 => binD o x y S2) := by
  rw [opIs_eq h]
  refine (pe_op (op_bin hK o) ha hb).of fun σ H Q ⟨m, en, S, re, rs, p⟩ => ?_
  refine seqE re rs p fun d S1 m1 H1 v x1 re1 rs1 r1 p1 => seqE re1 rs1 p1 fun d2 S2 m2 H2 v2 x2 re2 rs2 r2 p2 => ?_
  unfold binD at p2
  split at p2
  · rename_i u w q1 q2
    cases e : binP o u w with
    | none => rw [e] at p2; exact p2.elim
    | some z =>
      rw [e] at p2
      exact ⟨m2, u, w, z, rs2.nt, view_rv rs2 (r1.mono x2 rs1.nt) q1, view_rv rs2 r2 q2, e, fun H' v s r => p2 m2 H' v (.same rs2.le s) (rs2.same s) r⟩
  · exact p2.elim
theorem l_neg (ha : PE X a (tE G k W xa oa)) : PE X (.UnaryOp .USub a pos) (tE G k W xa fun en S => (oa en S).bind fun x S1 => match x with
    | .p (.int i) => .ok (.p (.int (-i))) S1
    | _ => .stuck) := by
  refine (pe_un un_neg ha).of fun σ H Q ⟨m, en, S, re, rs, p⟩ => ?_
  refine seqE re rs p fun d S1 m1 H1 v x1 re1 rs1 r1 p1 => ?_
  split at p1
  · rename_i i
    have e : v = .int i := by
      have r : RD G m1 H1 (.int i) v := r1
      simpa only [RD] using r
    subst e
    exact ⟨i, rfl, p1.ok_now rs1 (show RD G m1 H1 (.int (-i)) (.int (-i)) by simp only [RD])⟩
  · exact p1.elim
/-- a comparison of two values -/
theorem cmp_conv {o : CmpO} {m : List Addr} {S : Store} {σ : Sl} {H : Hp} {Q : VK} {d d2 : D} {v v2 : V} (rs : RS G k m H S) (r1 : RDD G k m H d v) (r2 : RDD G k m H d2 v2)
    (p : Post G k (RDD G k) W m σ H Q (cmpD o d d2 S)) : rCmp G o v v2 H Q := by
  unfold cmpD at p
  split at p
  · rename_i u w q1 q2
    cases e : cmpP o u w with
    | none => rw [e] at p; exact p.elim
    | some z =>
      rw [e] at p
      exact ⟨m, u, w, z, rs.nt, view_rv rs r1 q1, view_rv rs r2 q2, e, p.ok_now rs (show RD G m H (.bl z) (.bl z) by simp only [RD])⟩
  · exact p.elim
theorem notSet_mark {o : CmpOp} {e : Expr} (h : notSet e = true) : behindInMarks o e = false := by cases e <;> first | rfl | cases h
theorem l_cmp {o : CmpO} {op : CmpOp} (hK : X.K = G.K) (hu : X.A.units + 64 < cLine) (h : cmIs o op = true) (hn : notSet b = true) (ha : PE X a (tE G k W xa oa)) (hb : PE X b (tE G k W xa ob)) :
    PE X (.Compare a [op] [b] pos) (tE G k W xa fun en S => (oa en S).bind fun x S1 => (ob en S1).bind fun y S2 => cmpD o x y S2) := by
  rw [cmIs_eq h]
  refine (pe_cmpR (op_cmp hK hu o) ha hb (notSet_mark hn)).of fun σ H Q ⟨m, en, S, re, rs, p⟩ => ?_
  exact seqE re rs p fun d S1 m1 H1 v x1 re1 rs1 r1 p1 => seqE re1 rs1 p1 fun d2 S2 m2 H2 v2 x2 re2 rs2 r2 p2 => cmp_conv rs2 (r1.mono x2 rs1.nt) r2 p2
theorem cmp_bl {o : CmpO} {m : List Addr} {S : Store} {σ : Sl} {H : Hp} {Q : Bool → Hp → Prop} {d d2 : D} {v v2 : V} (rs : RS G k m H S) (r1 : RDD G k m H d v) (r2 : RDD G k m H d2 v2)
    (p : Post G k RB W m σ H Q ((cmpD o d d2 S).bind cond)) : rCmp G o v v2 H fun x H' => ∃ z, x = .bl z ∧ Q z H' := by
  unfold cmpD at p
  split at p
  · rename_i u w q1 q2
    cases e : cmpP o u w with
    | none => rw [e] at p; exact p.elim
    | some z =>
      rw [e] at p
      exact ⟨m, u, w, z, rs.nt, view_rv rs r1 q1, view_rv rs r2 q2, e, z, rfl, p.ok_now rs rfl⟩
  · exact p.elim
theorem l_cmpT {o : CmpO} {op : CmpOp} (hK : X.K = G.K) (hu : X.A.units + 64 < cLine) (h : cmIs o op = true) (hn : notSet b = true) (ha : PE X a (tE G k W xa oa)) (hb : PE X b (tE G k W xa ob)) :
    PT X (.Compare a [op] [b] pos) (tT G k W xa fun en S => ((oa en S).bind fun x S1 => (ob en S1).bind fun y S2 => cmpD o x y S2).bind cond) := by
  rw [cmIs_eq h]
  refine (pt_cmpR (op_cmp hK hu o) ha hb (notSet_mark hn)).of fun σ H Q ⟨m, en, S, re, rs, p⟩ => ?_
  dsimp only at p
  rw [Out.bind_assoc] at p
  refine seqE re rs p fun d S1 m1 H1 v x1 re1 rs1 r1 p1 => ?_
  rw [Out.bind_assoc] at p1
  exact seqE re1 rs1 p1 fun d2 S2 m2 H2 v2 x2 re2 rs2 r2 p2 => cmp_bl rs2 (r1.mono x2 rs1.nt) r2 p2

/-! ### and, or, not, if else -/
theorem cond_conv {d : D} {v : V} {m : List Addr} {S : Store} {H : Hp} {α β : Type} {Rl : List Addr → Hp → α → β → Prop} {σ : Sl} {Q : β → Hp → Prop} {f : Bool → Store → Out α} (r : RDD G k m H d v)
    (p : Post G k Rl W m σ H Q ((cond d S).bind f)) : ∃ z, v = .bl z ∧ Post G k Rl W m σ H Q (f z S) := by
  unfold cond at p
  split at p
  · rename_i z
    have e : RD G m H (.bl z) v := r
    exact ⟨z, by simpa only [RD] using e, p⟩
  · exact p.elim
theorem ite_of {c : Bool} {A B : Prop} (h1 : c = true → A) (h2 : c = false → B) : if c = true then A else B := by
  cases c with
  | true => rw [if_pos rfl]; exact h1 rfl
  | false => rw [if_neg Bool.false_ne_true]; exact h2 rfl
theorem l_one {op : BoolOp} (ha : PE X a (tE G k W xa oa)) : PE X (.BoolOp op [a] pos) (tE G k W xa oa) := pe_one ha
theorem l_and {e : Expr} {r : List Expr} (ha : PE X a (tE G k W xa oa)) (hb : PE X (.BoolOp .And (e :: r) pos) (tE G k W xa ob)) : PE X (.BoolOp .And (a :: e :: r) pos) (tE G k W xa fun en S => (oa en S).bind fun x S1 => (cond x S1).bind fun k S2 => match k with
    | true => ob en S2
    | false => .ok (.p (.bl false)) S2) := by
  refine (pe_and ha hb).of fun σ H Q ⟨m, en, S, re, rs, p⟩ => ?_
  refine seqE re rs p fun d S1 m1 H1 v x1 re1 rs1 r1 p1 => ?_
  obtain ⟨z, e, p2⟩ := cond_conv r1 p1
  exact ⟨z, e, ite_of (fun h => by subst h; exact ⟨m1, en, S1, re1, rs1, p2⟩) fun h => by
    subst h
    exact p2.ok_now rs1 (show RD G m1 H1 (.bl false) (.bl false) by simp only [RD])⟩
theorem l_or {e : Expr} {r : List Expr} (ha : PE X a (tE G k W xa oa)) (hb : PE X (.BoolOp .Or (e :: r) pos) (tE G k W xa ob)) : PE X (.BoolOp .Or (a :: e :: r) pos) (tE G k W xa fun en S => (oa en S).bind fun x S1 => (cond x S1).bind fun k S2 => match k with
    | true => .ok (.p (.bl true)) S2
    | false => ob en S2) := by
  refine (pe_or ha hb).of fun σ H Q ⟨m, en, S, re, rs, p⟩ => ?_
  refine seqE re rs p fun d S1 m1 H1 v x1 re1 rs1 r1 p1 => ?_
  obtain ⟨z, e, p2⟩ := cond_conv r1 p1
  exact ⟨z, e, ite_of (fun h => by
    subst h
    exact p2.ok_now rs1 (show RD G m1 H1 (.bl true) (.bl true) by simp only [RD])) fun h => by subst h; exact ⟨m1, en, S1, re1, rs1, p2⟩⟩
theorem l_not (ha : PE X a (tE G k W xa oa)) : PE X (.UnaryOp .Not a pos) (tE G k W xa fun en S => (oa en S).bind fun x S1 => (cond x S1).bind fun b S2 => .ok (.p (.bl (!b))) S2) := by
  refine (pe_not ha).of fun σ H Q ⟨m, en, S, re, rs, p⟩ => ?_
  refine seqE re rs p fun d S1 m1 H1 v x1 re1 rs1 r1 p1 => ?_
  obtain ⟨z, e, p2⟩ := cond_conv r1 p1
  exact ⟨z, e, p2.ok_now rs1 (show RD G m1 H1 (.bl (!z)) (.bl (!z)) by simp only [RD])⟩
/-- tests -/
def tTst (o : En → Store → Out D) : En → Store → Out Bool := fun en S => (o en S).bind cond
theorem tst_conv {d : D} {v : V} {m : List Addr} {S : Store} {H : Hp} {σ : Sl} {Q : Bool → Hp → Prop} (rs : RS G k m H S) (r : RDD G k m H d v) (p : Post G k RB W m σ H Q (cond d S)) : ∃ z, v = .bl z ∧ Q z H := by
  unfold cond at p
  split at p
  · rename_i z
    have e : RD G m H (.bl z) v := r
    exact ⟨z, by simpa only [RD] using e, p.ok_now rs rfl⟩
  · exact p.elim
theorem l_val (ha : PE X a (tE G k W xa oa)) (he : ∀ whole, isTrue a X.env whole = (do let v ← whole; standAt a.pos; holding [v] (truthy v))) : PT X a (tT G k W xa (tTst oa)) := by
  refine (pt_val ha he).of fun σ H Q ⟨m, en, S, re, rs, p⟩ => ?_
  exact seqE re rs p fun d S1 m1 H1 v x1 re1 rs1 r1 p1 => tst_conv rs1 r1 p1
theorem l_notT (ha : PT X a (tT G k W xa (tTst oa))) : PT X (.UnaryOp .Not a pos) (tT G k W xa (tTst fun en S => (oa en S).bind fun x S1 => (cond x S1).bind fun b S2 => .ok (.p (.bl (!b))) S2)) := by
  refine (pt_not ha).of fun σ H Q ⟨m, en, S, re, rs, p⟩ => ?_
  unfold tTst at p
  rw [Out.bind_assoc] at p
  have e : ((oa en S).bind fun a S => (Out.bind (cond a S) fun b S2 => .ok (.p (.bl (!b))) S2).bind cond) = ((oa en S).bind cond).bind fun b S2 => .ok (!b) S2 := by
    rw [Out.bind_assoc]
    congr 1
    funext a S1
    rw [Out.bind_assoc]
    rfl
  rw [e] at p
  exact seqT re rs p fun z S1 m1 H1 x1 re1 rs1 p1 => p1.ok_now rs1 rfl
theorem l_oneT (ha : PT X a (tT G k W xa (tTst oa))) : PW X (.BoolOp .And [a] pos) (tT G k W xa (tTst oa)) := pw_and1 ha
theorem l_oneF (ha : PT X a (tT G k W xa (tTst oa))) : PW X (.BoolOp .Or [a] pos) (tT G k W xa (tTst oa)) := pw_or1 ha
theorem l_andT {e : Expr} {r : List Expr} (ha : PT X a (tT G k W xa (tTst oa))) (hb : PW X (.BoolOp .And (e :: r) pos) (tT G k W xa (tTst ob))) : PW X (.BoolOp .And (a :: e :: r) pos) (tT G k W xa (tTst fun en S => (oa en S).bind fun x S1 => (cond x S1).bind fun k S2 => match k with
    | true => ob en S2
    | false => .ok (.p (.bl false)) S2)) := by
  refine (pw_and ha hb).of fun σ H Q ⟨m, en, S, re, rs, p⟩ => ?_
  have e : (tTst (fun en S => (oa en S).bind fun x S1 => (cond x S1).bind fun k S2 => match k with
    | true => ob en S2
    | false => .ok (.p (.bl false)) S2)) en S = ((oa en S).bind cond).bind fun b S2 => match b with
    | true => (ob en S2).bind cond
    | false => .ok false S2 := by
    unfold tTst
    rw [Out.bind_assoc, Out.bind_assoc]
    congr 1
    funext a S1
    rw [Out.bind_assoc]
    congr 1
    funext b S2
    cases b <;> rfl
  rw [e] at p
  exact seqT re rs p fun z S1 m1 H1 x1 re1 rs1 p1 => ite_of (fun h => by subst h; exact ⟨m1, en, S1, re1, rs1, p1⟩) fun h => by subst h; exact p1.ok_now rs1 rfl
theorem l_orT {e : Expr} {r : List Expr} (ha : PT X a (tT G k W xa (tTst oa))) (hb : PW X (.BoolOp .Or (e :: r) pos) (tT G k W xa (tTst ob))) : PW X (.BoolOp .Or (a :: e :: r) pos) (tT G k W xa (tTst fun en S => (oa en S).bind fun x S1 => (cond x S1).bind fun k S2 => match k with
    | true => .ok (.p (.bl true)) S2
    | false => ob en S2)) := by
  refine (pw_or ha hb).of fun σ H Q ⟨m, en, S, re, rs, p⟩ => ?_
  have e : (tTst (fun en S => (oa en S).bind fun x S1 => (cond x S1).bind fun k S2 => match k with
    | true => .ok (.p (.bl true)) S2
    | false => ob en S2)) en S = ((oa en S).bind cond).bind fun b S2 => match b with
    | true => .ok true S2
    | false => (ob en S2).bind cond := by
    unfold tTst
    rw [Out.bind_assoc, Out.bind_assoc]
    congr 1
    funext a S1
    rw [Out.bind_assoc]
    congr 1
    funext b S2
    cases b <;> rfl
  rw [e] at p
  exact seqT re rs p fun z S1 m1 H1 x1 re1 rs1 p1 => ite_of (fun h => by subst h; exact p1.ok_now rs1 rfl) fun h => by subst h; exact ⟨m1, en, S1, re1, rs1, p1⟩
theorem l_ifx (hc : PT X c (tT G k W xa (tTst oc))) (ha : PE X a (tE G k W xa oa)) (hb : PE X b (tE G k W xa ob)) : PE X (.IfExp c a b pos) (tE G k W xa fun en S => (oc en S).bind fun x S1 => (cond x S1).bind fun k S2 => match k with
    | true => oa en S2
    | false => ob en S2) := by
  refine (pe_ifExp hc ha hb).of fun σ H Q ⟨m, en, S, re, rs, p⟩ => ?_
  have e : ((oc en S).bind fun x S1 => (cond x S1).bind fun k S2 => match k with
    | true => oa en S2
    | false => ob en S2) = ((oc en S).bind cond).bind fun k S2 => match k with
    | true => oa en S2
    | false => ob en S2 := by rw [Out.bind_assoc]
  dsimp only at p
  rw [e] at p
  exact seqT re rs p fun z S1 m1 H1 x1 re1 rs1 p1 => ite_of (fun h => by subst h; exact ⟨m1, en, S1, re1, rs1, p1⟩) fun h => by subst h; exact ⟨m1, en, S1, re1, rs1, p1⟩

/-! ### displays -/
theorem l_tup {x1 : Nat} (hl : es.length ≤ 1000) (ho : ∀ en S ds S1, os en S = .ok ds S1 → ds.length = es.length) (h : PA X es (tA G k W xa os)) : PE X (.Tuple es x1 pos) (tE G k W xa fun en S => (os en S).bind fun ds S1 => Out.of ((Ps ds).map fun ys => D.p (.tup ys)) S1) := by
  refine (pe_tupD h).of fun σ H Q ⟨m, en, S, re, rs, p⟩ => ?_
  refine seqA' ho re rs p fun ds S1 m1 H1 vs hd x1 re1 rs1 r1 p1 => ?_
  cases e : Ps ds with
  | none => rw [e] at p1; exact p1.elim
  | some ys =>
    rw [e] at p1
    have hy : ys.length ≤ sizeLine := by rw [← Ps_len e, hd, sizeLine_eq]; omega
    refine ⟨by rw [← r1.len, hd, sizeLine_eq]; omega, fun q o hq hd => ?_⟩
    exact p1 m1 _ _ (.same rs1.le (same_new hq)) (rs1.same (same_new hq)) (RD.newT rs1.nt hq hd hy (Ps_f2 e r1))
end
end Tw

set_option linter.all false
set_option Elab.async false
set_option maxRecDepth 100000
set_option maxHeartbeats 2000000
/-! TwC4: lists, places, calls. -/
namespace Tw
open PySem PySem.Spec PyProof.Rows L2

/-- what is asked of an outcome that lays a list -/
def PostL (G : Wd) (k : Nat) (W : WX) (m : List Addr) (σ : Sl) (H : Hp) (Q : VK) : Out (List D) → Prop
  | .ok ds S => ∀ m' H' p vs, Ext k m H m' H' → H p = none → H' p = some (.lst vs) → p ∉ m' → RS G (k + 1) (insK k p m') H' S → ds.length ≤ sizeLine → F2 (RDD G (k + 1) (insK k p m') H') ds vs → Q (.ref p) H'
  | .exc c x S => ∀ m' H' d v, Ext k m H m' H' → RS G k m' H' S → H' d = some (.xd [(G.fa (G.xf c), v)]) → RD G m' H' x v → W (.ref (G.ca c)) (some d) σ H'
  | .stuck => False
def tL (G : Wd) (k : Nat) (W : WX) (xa : Option (Addr × Nat × Addr)) (o : En → Store → Out (List D)) : TE := fun σ H Q => ∃ m en S, RE G k xa m H en σ ∧ RS G k m H S ∧ PostL G k W m σ H Q (o en S)
section
variable {G : Wd} {C : Cb} {X : Cx} {W : WX} {xa : Option (Addr × Nat × Addr)} {k : Nat} {a b c : Expr} {es : List Expr} {pos : Pos} {oa ob oc : En → Store → Out D} {os : En → Store → Out (List D)}
  {m m1 : List Addr} {en : En} {S : Store} {σ : Sl} {H H1 : Hp} {Q : VK}
theorem Ext.none (x : Ext k m H m1 H1) {p : Addr} (h : H1 p = none) : H p = none := by
  cases q : H p with
  | none => rfl
  | some o => exact absurd h (x.st p (by rw [q]; simp))
theorem PostL.ext {o : Out (List D)} (p : PostL G k W m σ H Q o) (x : Ext k m H m1 H1) : PostL G k W m1 σ H1 Q o := by
  cases o with
  | ok a S => exact fun m' H' q vs y h0 h1 h2 h3 h4 h5 => p m' H' q vs (x.trans y) (x.none h0) h1 h2 h3 h4 h5
  | exc c z S => exact fun m' H' d v y rs h r => p m' H' d v (x.trans y) rs h r
  | stuck => exact p
theorem PostL.seq {γ δ : Type} {Rl2 : List Addr → Hp → γ → δ → Prop} {Q2 : δ → Hp → Prop} {o : Out γ} {f : γ → Store → Out (List D)} (p : PostL G k W m σ H Q (o.bind f))
    (c : ∀ a S1 m1 H1 b, Ext k m H m1 H1 → RS G k m1 H1 S1 → Rl2 m1 H1 a b → PostL G k W m1 σ H1 Q (f a S1) → Q2 b H1) : Post G k Rl2 W m σ H Q2 o := by
  cases o with
  | ok a S => exact fun m' H' b y rs r => c a S m' H' b y rs r (p.ext y)
  | exc c' z S => exact p
  | stuck => exact p
theorem seqEL {f : D → Store → Out (List D)} {Q1 : V → Hp → Prop}
    (re : RE G k xa m H en σ) (rs : RS G k m H S) (p : PostL G k W m σ H Q ((oa en S).bind f))
    (c : ∀ d S1 m1 H1 v, Ext k m H m1 H1 → RE G k xa m1 H1 en σ → RS G k m1 H1 S1 → RDD G k m1 H1 d v → PostL G k W m1 σ H1 Q (f d S1) → Q1 v H1) : tE G k W xa oa σ H Q1 :=
  ⟨m, en, S, re, rs, p.seq fun d S1 m1 H1 v x rs1 r1 p1 => c d S1 m1 H1 v x (re.mono x rs.nt) rs1 r1 p1⟩
/-- a new list of items that are at hand -/
theorem newL {ds : List D} {vs : List V} (rs : RS G k m H S) (f : F2 (RDD G k m H) ds vs) (hl : ds.length ≤ sizeLine) (p : PostL G k W m σ H Q (.ok ds S)) : ∀ q, H q = none → Q (.ref q) (upd H q (.lst vs)) := fun q hq =>
  p m _ q vs (.same rs.le (same_new hq)) hq upd_same (rs.nt.ne hq) (rs.ins hq (same_new hq) upd_same) hl (f.mono fun d v h => RDD.ins rs.le rs.nt hq (same_new hq) h)
/-- it stands for good -/
theorem mkL_conv : ∀ σ H Q, tE G k W xa (fun en S => mkL (os en S)) σ H Q → tL G k W xa os σ H Q := fun σ H Q ⟨m, en, S, re, rs, p⟩ => ⟨m, en, S, re, rs, by
  dsimp only at p
  unfold mkL at p
  cases q : os en S with
  | ok ds S1 =>
    rw [q] at p
    intro m' H' a vs x h0 h1 h2 h3 h4 h5
    cases e : Ps ds with
    | none => rw [Out.bind_ok, e] at p; exact False.elim p
    | some xs =>
      rw [Out.bind_ok, e] at p
      exact p m' H' (.ref a) x (h3.unins x.le') (RD_lst h1 h2 (by rw [← Ps_len e]; exact h4) (Ps_f2 e (h5.mono fun d v z => RDD.unins x.le' z)))
  | exc c z S1 => rw [q] at p; exact p
  | stuck => rw [q] at p; exact p⟩
theorem l_mkL {e : Expr} (h : PE X e (tL G k W xa os)) : PE X e (tE G k W xa fun en S => mkL (os en S)) := h.of mkL_conv
/-- it will be changed -/
theorem mut_conv : ∀ σ H Q, tE G k W xa (fun en S => (os en S).bind fun ds S1 => .ok (.r S1.length) (S1 ++ [.lst ds])) σ H Q → tL G k W xa os σ H Q := fun σ H Q ⟨m, en, S, re, rs, p⟩ => ⟨m, en, S, re, rs, by
  dsimp only at p
  cases q : os en S with
  | ok ds S1 =>
    rw [q] at p
    intro m' H' a vs x h0 h1 h2 h3 h4 h5
    obtain ⟨r, e, f⟩ := x.pre
    have y : Ext k m H (m' ++ [a]) H' := ⟨x.le, ⟨r ++ [a], by rw [e, List.append_assoc], fun b hb => by
      rcases List.mem_append.mp hb with z | z
      · exact f b z
      · simp at z; rw [z]; exact h0⟩, x.keep, x.st⟩
    have u := h3.unins x.le'
    refine p (m' ++ [a]) H' (.ref a) y (RS.last x.le' h3 h2 h1 h4 h5) ⟨a, ?_, rfl⟩
    rw [← u.len, List.getElem?_append_right (Nat.le_refl _), Nat.sub_self]
    rfl
  | exc c z S1 => rw [q] at p; exact p
  | stuck => rw [q] at p; exact p⟩
theorem l_mut {e : Expr} (h : PE X e (tL G k W xa os)) : PE X e (tE G k W xa fun en S => (os en S).bind fun ds S1 => .ok (.r S1.length) (S1 ++ [.lst ds])) := h.of mut_conv
theorem l_lst (hl : es.length ≤ 1000) (ho : ∀ en S ds S1, os en S = .ok ds S1 → ds.length = es.length) (h : PA X es (tA G k W xa os)) : PE X (.List es pos) (tL G k W xa os) := by
  refine (pe_lst h).of fun σ H Q ⟨m, en, S, re, rs, p⟩ => ⟨m, en, S, re, rs, ?_⟩
  cases q : os en S with
  | ok ds S1 =>
    rw [q] at p
    have hd := ho en S ds S1 q
    intro m' H' vs x rs1 r1
    have hz : ds.length ≤ sizeLine := by rw [hd, sizeLine_eq]; omega
    exact ⟨by rw [← F2.len r1]; exact hz, newL rs1 r1 hz (p.ext x)⟩
  | exc c' z S1 => rw [q] at p; exact p
  | stuck => rw [q] at p; exact p
theorem l_cat {op : Operator} (hK : X.K = G.K) (h : opIs .add op = true) (ha : PE X a (tE G k W xa oa)) (hb : PE X b (tE G k W xa ob)) :
    PE X (.BinOp a op b pos) (tL G k W xa fun en S => (oa en S).bind fun x S1 => (ob en S1).bind fun y S2 => match lsD S2 x, lsD S2 y with
    | some xs, some ys => if xs.length + ys.length ≤ line then .ok (xs ++ ys) S2 else .stuck
    | _, _ => .stuck) := by
  rw [opIs_eq h]
  refine (pe_op op_catL ha hb).of fun σ H Q ⟨m, en, S, re, rs, p⟩ => ?_
  refine seqEL re rs p fun d S1 m1 H1 v x1 re1 rs1 r1 p1 => seqEL re1 rs1 p1 fun d2 S2 m2 H2 v2 x2 re2 rs2 r2 p2 => ?_
  split at p2
  · rename_i xs ys q1 q2
    split at p2
    · rename_i hl
      obtain ⟨a1, v1, rfl, s1, _, f1⟩ := lsD_f2 rs2 (r1.mono x2 rs1.nt) q1
      obtain ⟨a2, w2, rfl, s2, _, f2⟩ := lsD_f2 rs2 r2 q2
      rw [line_eq] at hl
      exact ⟨a1, a2, v1, w2, rfl, rfl, by rw [hK]; exact s1, by rw [hK]; exact s2, by rw [← f1.len, ← f2.len]; exact hl, newL rs2 (f1.app f2) (by rw [List.length_append]; exact hl) p2⟩
    · exact p2.elim
  · exact p2.elim
theorem lofL_f2 (rs : RS G k m H S) {d : D} {v : V} {ds : List D} (r : RDD G k m H d v) (e : lofL d S = .ok ds S1) : S1 = S ∧ ∃ a vs, v = .ref a ∧ (SqL G.K H a vs ∨ SqT G.K H a vs) ∧ ds.length ≤ sizeLine ∧ F2 (RDD G k m H) ds vs := by
  unfold lofL at e
  split at e
  · rename_i xs
    cases e
    have r' : RD G m H (.tup xs) v := r
    obtain ⟨a, vs, h1, h2, h3, h4⟩ := RV.tup (.inl r')
    exact ⟨rfl, a, vs, h1, .inr h2, by simpa using h3, f2_Ps h4⟩
  · cases q : lsD S d with
    | none => rw [q] at e; cases e
    | some xs =>
      rw [q] at e
      cases e
      obtain ⟨a, vs, h1, h2, h3, h4⟩ := lsD_f2 rs r q
      exact ⟨rfl, a, vs, h1, .inl h2, h3, h4⟩
theorem bName_ok {K : Ck} {x y : Str} (h : bName K X.env.scope x y = true) (hf : ∀ x, K.fre.contains x = true → X.mg x = none) : x = y ∧ Gl X x ∧ X.mg x = none := by
  unfold bName at h
  rw [Bool.and_eq_true, Bool.and_eq_true] at h
  refine ⟨of_decide_eq_true h.1.1, ?_, hf x h.2⟩
  have := h.1.2
  unfold glB at this
  split at this
  · assumption
  · cases this
theorem l_lof {K : Ck} {x : Str} {p1 : Pos} (hK : X.K = G.K) (hf : ∀ x, K.fre.contains x = true → X.mg x = none) (hb : bName K X.env.scope x "list" = true) (hn : notStar a = true) (ha : PE X a (tE G k W xa oa)) :
    PE X (.Call (.Name x p1) [a] [] pos) (tL G k W xa fun en S => (oa en S).bind fun x S1 => lofL x S1) := by
  obtain ⟨rfl, hg, hm⟩ := bName_ok hb hf
  refine (pe_callTy call_list_of hg hm (by decide +kernel) (pa_cons ha pa_nil (star_cons hn [] X.env)) (he := star_cons hn [] X.env)).of fun σ H Q ⟨m, en, S, re, rs, p⟩ => ?_
  refine seqEL re rs p fun d S1 m1 H1 v x1 re1 rs1 r1 p1 => ?_
  cases q : lofL d S1 with
  | ok ds S2 =>
    rw [q] at p1
    obtain ⟨rfl, a1, vs, rfl, h2, h3, h4⟩ := lofL_f2 rs1 r1 q
    exact ⟨a1, vs, rfl, by rw [hK]; exact h2, newL rs1 h4 h3 p1⟩
  | exc c z S2 =>
    unfold lofL at q
    split at q
    · cases q
    · cases e : lsD S1 d with
      | none => rw [e] at q; cases q
      | some z => rw [e] at q; cases q
  | stuck => rw [q] at p1; exact p1.elim
end
end Tw

set_option linter.all false
set_option Elab.async false
set_option maxRecDepth 100000
set_option maxHeartbeats 2000000
/-! TwC5: built-ins, places, calls. -/
namespace Tw
open PySem PySem.Spec PyProof.Rows L2

/-- what a def does, in words of the trees -/
def PostP (G : Wd) (m : List Addr) (H : Hp) (Q : VK) (E : XK) : OutP → Prop
  | .ok x => ∀ H' v, Same H H' → RD G m H' x v → Q v H'
  | .exc c x => ∀ H' d v, Same H H' → H' d = some (.xd [(G.fa (G.xf c), v)]) → RD G m H' x v → E (.ref (G.ca c)) (some d) H'
  | .stuck => False
def spP (G : Wd) (C : Cb) (f : Nat) : Sp := fun vs H Q E => ∃ m xs, m.Nodup ∧ Nt m H ∧ F2 (RD G m H) xs vs ∧ PostP G m H Q E (C.cp f xs)
def spS (G : Wd) (C : Cb) (f : Nat) : Sp := fun vs H Q E => ∃ k m S ds, RS G k m H S ∧ F2 (RDD G k m H) ds vs ∧ Post G k (RDD G k) (fun c d _ H => E c d H) m [] H Q (C.cs f ds S)
def spF (G : Wd) (C : Cb) (f : Nat) : Sp := fun vs H Q E => spP G C f vs H Q E ∨ spS G C f vs H Q E
/-- an attribute of the exception in hand -/
def tXv (xf : Nat → Nat) (xa : Option (Addr × Nat × Addr)) (i f : Nat) (a : Str) : TE := fun σ H Q => ∃ r c d v, xa = some (r, c, d) ∧ xf c = f ∧ σ[i]? = some (some (.ref r)) ∧ H d = some (.xd [(a, v)]) ∧ Q v H
/-- isinstance of the exception in hand -/
def tXi (ec : List Nat) (sub : Nat → Nat → Option Bool) (xa : Option (Addr × Nat × Addr)) (i c' : Nat) : TE := fun σ H Q => ∃ r c d f v b, xa = some (r, c, d) ∧ σ[i]? = some (some (.ref r)) ∧ H d = some (.xd [(f, v)]) ∧ c ∈ ec ∧ sub c c' = some b ∧ Q (.bl b) H
structure Cn (G : Wd) (C : Cb) (K : Ck) (N : List Str) (X : Cx) (W : WX) (xa : Option (Addr × Nat × Addr)) (sc : Scope) (calm : Bool) : Prop where
  hN : X.N = N
  nd : N.Nodup
  sce : X.env.scope = sc
  cm : calm = true → X.calm = true ∧ xa = none
  un : X.A.units + 64 < cLine
  hK : X.K = G.K
  xf : C.xf = G.xf
  fa : G.fa = K.at_
  con : ∀ x p, K.con.lookup x = some p → ∃ v u, X.mg x = some u ∧ RelV v u ∧ ∀ m H, RD G m H p v
  fre : ∀ x, K.fre.contains x = true → X.mg x = none
  fns : calm = true → ∀ f x, K.fns[f]? = some x → ∃ j fa fd ps, FnOk X.prog X.w X.K X.mg X.base (L2.CX X.prog X.w) j fa fd ps (spF G C f) ∧ Room j X.A ∧ X.mg x = some (.ref fa) ∧ PySem.W.keepIn X.K (.ref fa) = true ∧ Binds X.K fd ps []
  tk : Takes X W
  exv : ∀ {i x f p q}, N[i]? = some x → Vis sc x → okName x = true → PE X (.Attribute (.Name x p) (K.at_ f) q) (tXv C.xf xa i f (K.at_ f))
  str : ∀ i : Int, PySem.PyData.strOk (Str.ofString (toString i)) = true
  rec_ : ∀ c, c ∈ G.ic → Cls X.K (G.ca c) ∧ ∀ f, f ∈ G.fs → NoAttr X.K (G.ca c) (G.fa f)
  inj : ∀ i, i ∈ G.fs → ∀ j, j ∈ G.fs → G.fa i = G.fa j → i = j
  fds : K.fds = G.fs
  mts : calm = true → ∀ c f a, K.mts.contains (c, f, a) = true → c ∈ G.ic ∧ (∀ i ∈ G.fs, G.fa i ≠ a) ∧ ∃ j fa fd ps, FnOk X.prog X.w X.K X.mg X.base (L2.CX X.prog X.w) j fa fd ps (spF G C f) ∧ Room j X.A ∧ Meth X.K (G.ca c) a fa ∧ Binds X.K fd ps []
  ins : calm = true → ∀ c f x, K.inis.contains (c, f) = true → K.cls[c]? = some x → c ∈ G.ic ∧ X.mg x = some (.ref (G.ca c)) ∧ ∃ j fa fd ps, FnOk X.prog X.w X.K X.mg X.base (L2.CX X.prog X.w) j fa fd ps (spF G C f) ∧ Room (j + 1) X.A ∧ Mk X.K (G.ca c) fa ∧ Binds X.K fd ps []
  iso : ∀ c x, K.iso.contains c = true → K.cls[c]? = some x → C8.InsC X.K (G.ca c) ∧ X.mg x = some (.ref (G.ca c))
  ecs : K.ecs = G.ec
  sec : K.ecs.isEmpty = false → ∀ c c' b, C.sub c c' = some b → c ∈ G.ec
  erx : ∀ c, c ∈ G.ec → XfC X.K (G.ca c) ∧ ExcC X.K (G.ca c) ∧ PySem.W.findIn X.K (.ref (G.ca c)) (G.fa (G.xf c)) = some none ∧ PySem.W.kitOne X.K (.ref (G.ca c)) (.type "ValueError") = some true
  kit : ∀ c c' b x, c ∈ G.ec → C.sub c c' = some b → K.cls[c']? = some x → PySem.W.kitOne X.K (.ref (G.ca c)) (.ref (G.ca c')) = some b
  cls : ∀ (c : Nat) x, K.cls[c]? = some x → X.mg x = some (.ref (G.ca c))
  mkx : calm = true → ∀ c x, K.ecs.contains c = true → K.cls[c]? = some x → Xcl X (G.ca c) (G.fa (G.xf c))
  exi : ∀ {i c' x y n p1 p2 p3 pos}, N[i]? = some x → Vis sc x → okName x = true → bName K sc n "isinstance" = true → glB sc y = true → okName y = true → K.cls[c']? = some y → PE X (.Call (.Name n p1) [.Name x p2, .Name y p3] [] pos) (tXi G.ec C.sub xa i c')
  eqs : calm = true → ∀ c f, K.eqs.contains (c, f) = true → c ∈ G.ic ∧ ∃ j fa fd ps, FnOk X.prog X.w X.K X.mg X.base (L2.CX X.prog X.w) j fa fd ps (spF G C f) ∧ Room j X.A ∧ PySem.W.findIn X.K (.ref (G.ca c)) "__eq__" = some (some (.ref fa)) ∧ PySem.W.isFn X.K (.ref fa) = true ∧ Binds X.K fd ps []
section
variable {G : Wd} {C : Cb} {K : Ck} {N : List Str} {sc : Scope} {calm : Bool} {X : Cx} {W : WX} {xa : Option (Addr × Nat × Addr)} {k : Nat} {a b c : Expr} {es : List Expr} {pos : Pos} {oa ob oc : En → Store → Out D} {os : En → Store → Out (List D)}
  {m m1 : List Addr} {en : En} {S : Store} {σ : Sl} {H H1 : Hp} {Q : VK}
theorem l_len {x : Str} {p1 : Pos} (hK : X.K = G.K) (hf : ∀ x, K.fre.contains x = true → X.mg x = none) (hb : bName K X.env.scope x "len" = true) (hn : notStar a = true) (ha : PE X a (tE G k W xa oa)) :
    PE X (.Call (.Name x p1) [a] [] pos) (tE G k W xa fun en S => (oa en S).bind fun x S1 => lenD x S1) := by
  obtain ⟨rfl, hg, hm⟩ := bName_ok hb hf
  refine (pe_callB (call_len_seq.or call_len_str) hg hm PySem.boot_len (pa_cons ha pa_nil (star_cons hn [] X.env)) (he := star_cons hn [] X.env)).of fun σ H Q ⟨m, en, S, re, rs, p⟩ => ?_
  refine seqE re rs p fun d S1 m1 H1 v x1 re1 rs1 r1 p1 => ?_
  have fin : ∀ (n : Nat), RDD G k m1 H1 (.p (.int n)) (.int n) := fun n => by show RD G m1 H1 _ _; simp only [RD]
  unfold lenD at p1
  split at p1
  · rename_i xs
    have r' : RD G m1 H1 (.tup xs) v := r1
    obtain ⟨a1, vs, rfl, h2, h3, h4⟩ := RV.tup (.inl r')
    exact .inl ⟨a1, vs, rfl, .inr (by rw [hK]; exact h2), p1.ok_now rs1 (by rw [h4.len]; exact fin _)⟩
  · rename_i xs
    have r' : RD G m1 H1 (.lst xs) v := r1
    obtain ⟨a1, vs, rfl, h2, h3, h4⟩ := RV.lst (.inl r')
    exact .inl ⟨a1, vs, rfl, .inl (by rw [hK]; exact h2), p1.ok_now rs1 (by rw [h4.len]; exact fin _)⟩
  · rename_i s
    have r' : RD G m1 H1 (.str s) v := r1
    obtain ⟨rfl, _⟩ := RV.str (.inl r')
    split at p1
    · rename_i hl
      exact .inr ⟨s, rfl, by rw [← line_eq]; exact hl, p1.ok_now rs1 (fin _)⟩
    · exact p1.elim
  · rename_i n
    obtain ⟨a1, ha1, rfl⟩ := r1
    split at p1
    · rename_i xs q
      obtain ⟨vs, h1, h2, h3⟩ := rs1.ok n _ a1 q ha1
      exact .inl ⟨a1, vs, rfl, .inl (.of h1), p1.ok_now rs1 (by rw [h3.len]; exact fin _)⟩
    · exact p1.elim
  · exact p1.elim
theorem bi_conv {bi : Bi} {ds : List D} {vs : List V} (rs : RS G k m H S) (f : F2 (RDD G k m H) ds vs) (p : Post G k (RDD G k) W m σ H Q (match views S ds with
    | some ys => Out.of ((biP bi ys).map D.p) S
    | none => .stuck)) : rBi G bi vs H Q := by
  split at p
  · rename_i ys q
    cases e : biP bi ys with
    | none => rw [e] at p; exact p.elim
    | some z =>
      rw [e] at p
      exact ⟨m, ys, z, rs.nt, views_rv rs f q, e, fun H' v s r => p m H' v (.same rs.le s) (rs.same s) r⟩
  · exact p.elim
theorem l_bi {x : Str} {p1 : Pos} (bi : Bi) (hK : X.K = G.K) (hc : X.calm = true) (hstr : ∀ i : Int, PySem.PyData.strOk (Str.ofString (toString i)) = true) (hf : ∀ x, K.fre.contains x = true → X.mg x = none) (hb : bName K X.env.scope x (biN bi) = true) (hm0 : bi ≠ .max0)
    (hs : (a :: es).all notStar = true) (h : PA X (a :: es) (tA G k W xa os)) :
    PE X (.Call (.Name x p1) (a :: es) [] pos) (tE G k W xa fun en S => (os en S).bind fun ds S1 => match views S1 ds with
      | some ys => Out.of ((biP bi ys).map D.p) S1
      | none => .stuck) := by
  obtain ⟨rfl, hg, hm⟩ := bName_ok hb hf
  have hs2 := hs
  rw [List.all_cons, Bool.and_eq_true] at hs2
  have s1 := star_cons hs2.1 es X.env
  have s2 := star_none hs2.2 X.env pos
  have conv : ∀ (σ : L2.St) (H : Hp) (Q : VK), tE G k W xa (fun en S => (os en S).bind fun ds S1 => match views S1 ds with
      | some ys => Out.of ((biP bi ys).map D.p) S1
      | none => .stuck) σ H Q → tCB (rBi G bi) (tA G k W xa os) σ H Q := fun σ H Q ⟨m, en, S, re, rs, p⟩ =>
    seqA re rs p fun ds S1 m1 H1 vs x1 re1 rs1 r1 p1 => bi_conv rs1 r1 p1
  have cb := call_bi hK hc bi hm0 hstr
  cases bi with
  | abs => exact (pe_callB cb hg hm (by decide +kernel) h (he := s1) (hpl := s2)).of conv
  | int => exact (pe_callTy cb hg hm (by decide +kernel) h (he := s1) (hpl := s2)).of conv
  | str => exact (pe_callTy cb hg hm (by decide +kernel) h (he := s1) (hpl := s2)).of conv
  | sum => exact (pe_callB cb hg hm (by decide +kernel) h (he := s1) (hpl := s2)).of conv
  | all => exact (pe_callB cb hg hm (by decide +kernel) h (he := s1) (hpl := s2)).of conv
  | any => exact (pe_callB cb hg hm (by decide +kernel) h (he := s1) (hpl := s2)).of conv
  | max => exact (pe_callB cb hg hm (by decide +kernel) h (he := s1) (hpl := s2)).of conv
  | min => exact (pe_callB cb hg hm (by decide +kernel) h (he := s1) (hpl := s2)).of conv
  | tuple => exact (pe_callTy cb hg hm (by decide +kernel) h (he := s1) (hpl := s2)).of conv
  | max0 => exact absurd rfl hm0

/-! ### places -/
theorem ixAt_eq (n : Nat) (i : Int) : ixAt n i = ixN n i := rfl
theorem at_f2 {α β : Type} {R : α → β → Prop} {xs : List α} {vs : List β} {i : Int} {x : α} (f : F2 R xs vs) (e : ((ixAt xs.length i).bind fun j => xs[j]?) = some x) : ∃ v, atI vs i = some v ∧ R x v := by
  rw [ixAt_eq, f.len] at e
  cases q : ixN vs.length i with
  | none => rw [q] at e; cases e
  | some j =>
    rw [q] at e
    obtain ⟨v, h1, h2⟩ := f.get (i := j) e
    exact ⟨v, by unfold atI; rw [q]; exact h1, h2⟩
theorem notSlice_plain {e : Expr} (h : notSlice e = true) : PlainIx e := by
  intro o i
  cases e <;> first | rfl | cases h
theorem l_idx (hK : X.K = G.K) (hn : notSlice b = true) (ha : PE X a (tE G k W xa oa)) (hb : PE X b (tE G k W xa ob)) : PE X (.Subscript a b pos) (tE G k W xa fun en S => (oa en S).bind fun x S1 => (ob en S1).bind fun y S2 => idxD x y S2) := by
  refine (pe_ix ix_seq ha hb (notSlice_plain hn)).of fun σ H Q ⟨m, en, S, re, rs, p⟩ => ?_
  refine seqE re rs p fun d S1 m1 H1 v x1 re1 rs1 r1 p1 => seqE re1 rs1 p1 fun d2 S2 m2 H2 v2 x2 re2 rs2 r2 p2 => ?_
  have r3 := r1.mono x2 rs1.nt
  unfold idxD at p2
  split at p2
  · rename_i i
    have e2 : v2 = .int i := by
      have r' : RD G m2 H2 (.int i) v2 := r2
      simpa only [RD] using r'
    subst e2
    split at p2
    · rename_i xs
      have r' : RD G m2 H2 (.tup xs) v := r3
      obtain ⟨a1, vs, rfl, h2, h3, h4⟩ := RV.tup (.inl r')
      cases q : ((ixAt xs.length i).bind fun j => xs[j]?) with
      | none => rw [q] at p2; exact p2.elim
      | some y =>
        rw [q] at p2
        obtain ⟨w, g1, g2⟩ := at_f2 h4 q
        exact .inr (.inl ⟨a1, vs, i, w, rfl, rfl, by rw [hK]; exact h2, g1, p2.ok_now rs2 g2⟩)
    · rename_i xs
      have r' : RD G m2 H2 (.lst xs) v := r3
      obtain ⟨a1, vs, rfl, h2, h3, h4⟩ := RV.lst (.inl r')
      cases q : ((ixAt xs.length i).bind fun j => xs[j]?) with
      | none => rw [q] at p2; exact p2.elim
      | some y =>
        rw [q] at p2
        obtain ⟨w, g1, g2⟩ := at_f2 h4 q
        exact .inl ⟨a1, vs, i, w, rfl, rfl, by rw [hK]; exact h2, g1, p2.ok_now rs2 g2⟩
    · rename_i s
      have r' : RD G m2 H2 (.str s) v := r3
      obtain ⟨rfl, hs⟩ := RV.str (.inl r')
      split at p2
      · rename_i hl
        cases q : ((ixAt s.cps.toList.length i).bind fun j => s.cps.toList[j]?) with
        | none => rw [q] at p2; exact p2.elim
        | some y =>
          rw [q] at p2
          refine .inr (.inr ⟨s, i, y, rfl, rfl, by rw [← line_eq]; exact hl, q, p2.ok_now rs2 ?_⟩)
          show RD G m2 H2 _ _
          unfold RD
          refine ⟨rfl, ?_⟩
          cases q2 : ixAt s.cps.toList.length i with
          | none => rw [q2] at q; cases q
          | some j =>
            rw [q2] at q
            have hmem : y ∈ s.cps.toList := List.mem_of_getElem? (i := j) q
            unfold PyData.strOk at hs ⊢
            rw [Array.all_eq_true_iff_forall_mem] at hs
            have := hs y (by simpa using hmem)
            simpa using this
      · exact p2.elim
    · rename_i n
      obtain ⟨a1, ha1, rfl⟩ := r3
      split at p2
      · rename_i xs q0
        obtain ⟨vs, h1, h2, h3⟩ := rs2.ok n _ a1 q0 ha1
        cases q : ((ixAt xs.length i).bind fun j => xs[j]?) with
        | none => rw [q] at p2; exact p2.elim
        | some y =>
          rw [q] at p2
          obtain ⟨w, g1, g2⟩ := at_f2 h3 q
          exact .inl ⟨a1, vs, i, w, rfl, rfl, .of h1, g1, p2.ok_now rs2 g2⟩
      · exact p2.elim
    · exact p2.elim
  · exact p2.elim

/-! ### slices -/
theorem sIx_eq (n d : Nat) (o : Option Int) : sIx n d o = HT.sIx n d o := by cases o <;> rfl
theorem cut_f2 {α β : Type} {R : α → β → Prop} {xs : List α} {vs : List β} (f : F2 R xs vs) (lo hi : Option Int) : F2 R (cut xs lo hi) ((vs.drop (HT.sIx vs.length 0 lo)).take (HT.sIx vs.length vs.length hi - HT.sIx vs.length 0 lo)) := by
  unfold cut
  rw [sIx_eq, sIx_eq, f.len]
  exact (f.drop _).take _
theorem cut_len {α : Type} (xs : List α) (lo hi : Option Int) : (cut xs lo hi).length ≤ xs.length := by
  unfold cut
  rw [List.length_take, List.length_drop]
  omega
/-- a bound -/
structure Bd (X : Cx) (G : Wd) (k : Nat) (W : WX) (xa : Option (Addr × Nat × Addr)) (e : Option Expr) (o : En → Store → Out D) (t : TO) : Prop where
  po : PO X e t
  cv : ∀ {α β : Type} {Rl : List Addr → Hp → α → β → Prop} {m : List Addr} {en : En} {S : Store} {σ : Sl} {H : Hp} {Q : β → Hp → Prop} {f : D → Store → Out α} {Q1 : Option Int → Hp → Prop},
    RE G k xa m H en σ → RS G k m H S → Post G k Rl W m σ H Q ((o en S).bind fun l S1 => match bound l with
      | some _ => f l S1
      | none => .stuck) →
    (∀ d i S1 m1 H1, bound d = some i → Ext k m H m1 H1 → RE G k xa m1 H1 en σ → RS G k m1 H1 S1 → Post G k Rl W m1 σ H1 Q (f d S1) → Q1 i H1) → t σ H Q1
  cvL : ∀ {m : List Addr} {en : En} {S : Store} {σ : Sl} {H : Hp} {Q : VK} {f : D → Store → Out (List D)} {Q1 : Option Int → Hp → Prop},
    RE G k xa m H en σ → RS G k m H S → PostL G k W m σ H Q ((o en S).bind fun l S1 => match bound l with
      | some _ => f l S1
      | none => .stuck) →
    (∀ d i S1 m1 H1, bound d = some i → Ext k m H m1 H1 → RE G k xa m1 H1 en σ → RS G k m1 H1 S1 → PostL G k W m1 σ H1 Q (f d S1) → Q1 i H1) → t σ H Q1
theorem bd_none : Bd X G k W xa none (fun _ S => .ok (.e 0 .non) S) tNoPart :=
  ⟨po_none, fun re rs p c => c _ _ _ _ _ rfl (.refl rs.le) re rs p, fun re rs p c => c _ _ _ _ _ rfl (.refl rs.le) re rs p⟩
theorem bd_int {d : D} {i : Option Int} {v : V} (r : RDD G k m H d v) (e : bound d = some i) : ∃ j, v = .int j ∧ i = some j := by
  cases d with
  | p x =>
    cases x with
    | int j =>
      cases e
      have r' : RD G m H (.int j) v := r
      exact ⟨j, by simpa only [RD] using r', rfl⟩
    | _ => cases e
  | r n => cases e
  | e c x => exact r.elim
theorem bd_some (ha : PE X a (tE G k W xa oa)) : Bd X G k W xa (some a) oa (tPart (tE G k W xa oa)) := by
  refine ⟨po_some ha, fun re rs p c => ?_, fun re rs p c => ?_⟩
  · refine seqE re rs p fun d S1 m1 H1 v x1 re1 rs1 r1 p1 => ?_
    split at p1
    · rename_i i q
      obtain ⟨j, e1, e2⟩ := bd_int r1 q
      exact ⟨j, e1, by rw [← e2]; exact c d i S1 m1 H1 q x1 re1 rs1 p1⟩
    · exact p1.elim
  · refine seqEL re rs p fun d S1 m1 H1 v x1 re1 rs1 r1 p1 => ?_
    split at p1
    · rename_i i q
      obtain ⟨j, e1, e2⟩ := bd_int r1 q
      exact ⟨j, e1, by rw [← e2]; exact c d i S1 m1 H1 q x1 re1 rs1 p1⟩
    · exact p1.elim
theorem strOk_cut {s : Str} (h : PyData.strOk s = true) (lo hi : Option Int) : PyData.strOk ⟨(cut s.cps.toList lo hi).toArray⟩ = true := by
  unfold PyData.strOk at h ⊢
  rw [Array.all_eq_true_iff_forall_mem] at h ⊢
  intro x hx
  refine h x ?_
  have hx' : x ∈ cut s.cps.toList lo hi := by simpa using hx
  unfold cut at hx'
  have := List.mem_of_mem_drop (List.mem_of_mem_take hx')
  simpa using this
theorem l_slc {lo hi : Option Expr} {ol oh : En → Store → Out D} {tl th : TO} {p2 : Pos} (hK : X.K = G.K) (ha : PE X a (tE G k W xa oa)) (hl : Bd X G k W xa lo ol tl) (hh : Bd X G k W xa hi oh th) :
    PE X (.Subscript a (.Slice lo hi none p2) pos) (tE G k W xa fun en S => (oa en S).bind fun x S1 => (ol en S1).bind fun l S2 => match bound l with
      | some _ => (oh en S2).bind fun h S3 => match bound h with
        | some _ => slcD x l h S3
        | none => .stuck
      | none => .stuck) := by
  refine (pe_slice (sl_tupD.or (sl_str.or sl_list)) ha hl.po hh.po).of fun σ H Q ⟨m, en, S, re, rs, p⟩ => ?_
  refine seqE re rs p fun d S1 m1 H1 v x1 re1 rs1 r1 p1 => ?_
  refine hl.cv (f := fun l S2 => (oh en S2).bind fun h S3 => match bound h with
        | some _ => slcD d l h S3
        | none => .stuck) re1 rs1 p1 fun l i S2 m2 H2 bl x2 re2 rs2 p2 => ?_
  refine hh.cv (f := fun h S3 => slcD d l h S3) re2 rs2 p2 fun h j S3 m3 H3 bh x3 re3 rs3 p3 => ?_
  have r3 := (r1.mono x2 rs1.nt).mono x3 rs2.nt
  unfold slcD at p3
  rw [bl, bh] at p3
  dsimp only at p3
  split at p3
  · rename_i xs
    have r' : RD G m3 H3 (.tup xs) v := r3
    obtain ⟨a1, vs, rfl, h2, h3, h4⟩ := RV.tupq (.inl r')
    have f := cut_f2 h4 i j
    have hlen : (cut xs i j).length ≤ sizeLine := Nat.le_trans (cut_len xs i j) h3
    refine .inl ⟨a1, vs, rfl, h2.sq, fun hw => ?_, fun _ q o hq hd => ?_⟩
    · rw [hw.1, hw.2, List.drop_zero, Nat.sub_zero, List.take_length] at f
      exact p3.ok_now rs3 (RD_tup h2 hlen f)
    · exact p3 m3 _ _ (.same rs3.le (same_new hq)) (rs3.same (same_new hq)) (RD.newT rs3.nt hq hd hlen f)
  · rename_i s
    have r' : RD G m3 H3 (.str s) v := r3
    obtain ⟨rfl, hs⟩ := RV.str (.inl r')
    split at p3
    · rename_i hlen
      refine .inr (.inl ⟨s, rfl, by rw [← line_eq]; exact hlen, p3.ok_now rs3 ?_⟩)
      have e : cutS s i j = ⟨(cut s.cps.toList i j).toArray⟩ := by
        unfold cutS cut
        rw [sIx_eq, sIx_eq] <;> rfl
      rw [e]
      show RD G m3 H3 _ _
      unfold RD
      exact ⟨rfl, strOk_cut hs i j⟩
    · exact p3.elim
  · unfold sliceL mkL at p3
    rw [bl, bh] at p3
    cases q : lsD S3 d with
    | none => rw [q] at p3; exact p3.elim
    | some xs =>
      rw [q] at p3
      dsimp only at p3
      rw [Out.bind_ok] at p3
      obtain ⟨a1, vs, rfl, h2, h3, h4⟩ := lsD_f2 rs3 r3 q
      cases e : Ps (cut xs i j) with
      | none => rw [e] at p3; exact p3.elim
      | some ys =>
        rw [e] at p3
        have f := Ps_f2 e (cut_f2 h4 i j)
        have hlen : ys.length ≤ sizeLine := by rw [← Ps_len e]; exact Nat.le_trans (cut_len xs i j) h3
        exact .inr (.inr ⟨a1, vs, rfl, by rw [hK]; exact h2, fun q hq => p3 m3 _ _ (.same rs3.le (same_new hq)) (rs3.same (same_new hq)) (RD.newL rs3.nt hq hlen f)⟩)
theorem l_slcL {lo hi : Option Expr} {ol oh : En → Store → Out D} {tl th : TO} {p2 : Pos} (hK : X.K = G.K) (ha : PE X a (tE G k W xa oa)) (hl : Bd X G k W xa lo ol tl) (hh : Bd X G k W xa hi oh th) :
    PE X (.Subscript a (.Slice lo hi none p2) pos) (tL G k W xa fun en S => (oa en S).bind fun x S1 => (ol en S1).bind fun l S2 => match bound l with
      | some _ => (oh en S2).bind fun h S3 => match bound h with
        | some _ => sliceL x l h S3
        | none => .stuck
      | none => .stuck) := by
  refine (pe_slice sl_list ha hl.po hh.po).of fun σ H Q ⟨m, en, S, re, rs, p⟩ => ?_
  refine seqEL re rs p fun d S1 m1 H1 v x1 re1 rs1 r1 p1 => ?_
  refine hl.cvL (f := fun l S2 => (oh en S2).bind fun h S3 => match bound h with
        | some _ => sliceL d l h S3
        | none => .stuck) re1 rs1 p1 fun l i S2 m2 H2 bl x2 re2 rs2 p2 => ?_
  refine hh.cvL (f := fun h S3 => sliceL d l h S3) re2 rs2 p2 fun h j S3 m3 H3 bh x3 re3 rs3 p3 => ?_
  have r3 := (r1.mono x2 rs1.nt).mono x3 rs2.nt
  unfold sliceL at p3
  rw [bl, bh] at p3
  cases q : lsD S3 d with
  | none => rw [q] at p3; exact p3.elim
  | some xs =>
    rw [q] at p3
    obtain ⟨a1, vs, rfl, h2, h3, h4⟩ := lsD_f2 rs3 r3 q
    exact ⟨a1, vs, rfl, by rw [hK]; exact h2, newL rs3 (cut_f2 h4 i j) (Nat.le_trans (cut_len xs i j) h3) p3⟩

/-! ### isinstance of built-in classes -/
def tyNm : Ty → String
  | .int => "int"
  | .bool => "bool"
  | .str => "str"
  | .tuple => "tuple"
  | .list => "list"
  | .own _ => ""
def vTy : P → String
  | .non => "NoneType"
  | .bl _ => "bool"
  | .int _ => "int"
  | .str _ => "str"
  | .tup _ => "tuple"
  | .lst _ => "list"
  | .ins _ _ _ => ""
  | .err _ _ => ""
def isOwn : Ty → Bool
  | .own _ => true
  | _ => false
theorem kit_all {x : P} {t : Ty} (h1 : x.isIns = false) (h2 : isOwn t = false) : kitB (vTy x) (tyNm t) = some (isTy t x) := by
  cases t with
  | own c => cases h2
  | _ => cases x with
    | ins c ks vs => cases h1
    | err c x => cases h1
    | _ => simp only [vTy, tyNm, isTy]; decide +kernel
theorem tyx_rv {x : P} {v : V} (h1 : x.isIns = false) (h : RV G m H x v) : TyX G.K H v (.type (vTy x)) := by
  cases x with
  | non => rw [h.non]; exact .base .non
  | bl b => rw [h.bl]; exact .base (.bl b)
  | int i => rw [h.int]; exact .base (.int i)
  | str s => rw [h.str.1]; exact .base (.str s)
  | tup xs =>
    obtain ⟨a, vs, rfl, h2, _, _⟩ := h.tup
    rcases h2 with (h2 | ⟨o, h2⟩) | ⟨o, its, n, h2, h3, _⟩
    · exact .base (.tup h2)
    · exact .fTuple h2
    · exact .kTuple h2 h3
  | lst xs =>
    obtain ⟨a, vs, rfl, h2, _, _⟩ := h.lst
    rcases h2 with (h2 | ⟨o, h2⟩) | ⟨o, its, n, h2, h3, _⟩
    · exact .base (.lst h2)
    · exact .base (.frz h2)
    · exact .kList h2 h3
  | ins c ks vs => cases h1
  | err c x => cases h1
theorem l_isi1 {t : Ty} {x : Str} {e : Expr} {p1 : Pos} (hK : X.K = G.K) (hf : ∀ x, K.fre.contains x = true → X.mg x = none) (hb : bName K X.env.scope x "isinstance" = true) (hn : notStar a = true) (ht : tyIs K X.env.scope t e = true) (ha : PE X a (tE G k W xa oa)) :
    PE X (.Call (.Name x p1) [a, e] [] pos) (tE G k W xa fun en S => (oa en S).bind fun x S1 => isiD x [t] S1) := by
  obtain ⟨rfl, hg, hm⟩ := bName_ok hb hf
  have he : notStar e = true := by cases e <;> first | rfl | cases ht
  have hte : PE X e (tC (.ty (tyNm t))) := by
    cases e with
    | Name y p =>
      unfold tyIs at ht
      cases q : tyN t with
      | none => rw [q] at ht; cases ht
      | some n =>
        rw [q] at ht
        obtain ⟨rfl, hg2, hm2⟩ := bName_ok ht hf
        cases t with
        | own c => cases q
        | _ => cases q; exact pe_bltn hg2 hm2 (by decide +kernel) rfl (by decide +kernel) (by decide +kernel)
    | _ => cases ht
  have hown : isOwn t = false := by
    cases e with
    | Name y p =>
      unfold tyIs at ht
      cases t with
      | own c => cases ht
      | _ => rfl
    | _ => cases ht
  have s1 := star_cons hn [e] X.env
  have s2 : starEach [e] X.env = (false, eval e X.env) :: starEach [] X.env := star_cons he [] X.env
  refine (pe_callB call_isi hg hm (by decide +kernel) (pa_cons ha (pa_cons hte pa_nil s2) s1) (he := s1) (hpl := star_none (by simp [he]) X.env pos)).of fun σ H Q ⟨m, en, S, re, rs, p⟩ => ?_
  refine seqE re rs p fun d S1 m1 H1 v x1 re1 rs1 r1 p1 => ?_
  unfold isiD at p1
  split at p1
  · rename_i y q
    split at p1
    · rename_i hi
      have hin : y.isIns = false := by cases y <;> first | rfl | (simp [P.isIns] at hi)
      refine ⟨v, .ty (tyNm t), .type (vTy y), .type (tyNm t), isTy t y, rfl, .ty _, by rw [hK]; exact tyx_rv hin (view_rv rs1 r1 q), kit_ty (kit_all hin hown), ?_⟩
      refine p1.ok_now rs1 ?_
      show RD G m1 H1 _ _
      simp [RD]
    · exact p1.elim
  · exact p1.elim
end
end Tw

set_option linter.all false
set_option Elab.async false
set_option maxRecDepth 100000
set_option maxHeartbeats 2000000
/-! TwC6: calls of defs, append, comprehensions. -/
namespace Tw
open PySem PySem.Spec PyProof.Rows L2
section
variable {G : Wd} {C : Cb} {K : Ck} {N : List Str} {sc : Scope} {calm : Bool} {X : Cx} {W : WX} {xa : Option (Addr × Nat × Addr)} {k : Nat} {a b c : Expr} {es : List Expr} {pos : Pos} {oa ob oc : En → Store → Out D} {os : En → Store → Out (List D)}
  {m m1 : List Addr} {en : En} {S : Store} {σ : Sl} {H H1 : Hp} {Q : VK}
theorem glB_ok {x : Str} (h : glB X.env.scope x = true) : Gl X x := by
  unfold glB at h
  split at h
  · assumption
  · cases h
theorem okName_dbg {x : Str} (h : okName x = true) : (x == ("__debug__" : Str)) = false := by
  unfold okName at h
  rw [Bool.and_eq_true, Bool.not_eq_true', Bool.not_eq_true'] at h
  exact h.1
theorem visB_ok {x : Str} (h : visB sc x = true) : Vis sc x := by
  unfold visB at h
  split at h
  · exact .inl (by assumption)
  · exact .inr (.inl (by assumption))
  · exact .inr (.inr (by assumption))
  · cases h
theorem l_call {x : Str} {p1 : Pos} {f : Nat} (cn : Cn G C K N X W xa sc true) (hg : glB sc x = true) (ho : okName x = true) (hf : K.fns[f]? = some x) (hs : (a :: es).all notStar = true) (h : PA X (a :: es) (tA G k W xa os)) :
    PE X (.Call (.Name x p1) (a :: es) [] pos) (tE G k W xa fun en S => (os en S).bind fun ds S1 => callD C f ds S1) := by
  obtain ⟨j, fa, fd, ps, F, hr, hm, hk, hb⟩ := cn.fns rfl f x hf
  have hs2 := hs
  rw [List.all_cons, Bool.and_eq_true] at hs2
  rw [← cn.sce] at hg
  refine (pe_callS F hr (glB_ok hg) hm hk hb (fun σ => passAt cn.tk σ) h (hdb := okName_dbg ho) (he := star_cons hs2.1 es X.env) (hpl := star_none hs2.2 X.env pos)).of fun σ H Q ⟨m, en, S, re, rs, p⟩ => ?_
  refine seqA re rs p fun ds S1 m1 H1 vs x1 re1 rs1 r1 p1 => ?_
  unfold callD at p1
  split at p1
  · rename_i xs q
    refine .inl ⟨m1, xs, rs1.nd, rs1.nt, Ps_f2 q r1, ?_⟩
    split at p1
    · rename_i y e
      rw [e]
      exact fun H' v s r => p1 m1 H' v (.same rs1.le s) (rs1.same s) r
    · rename_i c' y e
      rw [e]
      exact fun H' d v s e1 r => p1 m1 H' d v (.same rs1.le s) (rs1.same s) e1 r
    · exact p1.elim
  · exact p1.elim
theorem pe_callS0 {CX : CXT} {j : Nat} {f : Addr} {fd : FuncData} {ps : List Str} {sp : Sp} {E : L2.St → XK} {x : Str} {p pos : Pos} (F : FnOk X.prog X.w X.K X.mg X.base CX j f fd ps sp) (hr : Room j X.A) (hg : Gl X x) (hm : X.mg x = some (.ref f)) (hk : PySem.W.keepIn X.K (.ref f) = true) (hb : Binds X.K fd ps []) (hx : ∀ σ, PassesAt CX X σ (E σ))
    (hdb : (x == ("__debug__" : Str)) = false) : PE X (.Call (.Name x p) [] [] pos) (tCallS sp E tNil) := by
  refine ⟨fun pins s σ H Q I h => ?_⟩
  refine wpAny_Call_Name_kw (ld_glob I hg hm ?_ hdb)
  exact PySem.W.callWith_K0 I.kIn hk (run_fnS (us := []) F hr hb (hx σ) I .nil h)
/-- f() -/
theorem l_call0 {x : Str} {p1 : Pos} {f : Nat} (cn : Cn G C K N X W xa sc true) (hg : glB sc x = true) (ho : okName x = true) (hf : K.fns[f]? = some x) :
    PE X (.Call (.Name x p1) [] [] pos) (tE G k W xa fun en S => callD C f [] S) := by
  obtain ⟨j, fa, fd, ps, F, hr, hm, hk, hb⟩ := cn.fns rfl f x hf
  rw [← cn.sce] at hg
  refine (pe_callS0 F hr (glB_ok hg) hm hk hb (fun σ => passAt cn.tk σ) (okName_dbg ho)).of fun σ H Q ⟨m, en, S, re, rs, p⟩ => ?_
  refine .inl ⟨m, [], rs.nd, rs.nt, .nil, ?_⟩
  unfold callD at p
  dsimp only [Ps] at p
  split at p
  · rename_i y e
    rw [e]
    exact fun H' v s r => p m H' v (.same rs.le s) (rs.same s) r
  · rename_i c' y e
    rw [e]
    exact fun H' d v s e1 r => p m H' d v (.same rs.le s) (rs.same s) e1 r
  · exact p.elim
theorem l_calls {x : Str} {p1 : Pos} {f : Nat} (cn : Cn G C K N X W xa sc true) (hg : glB sc x = true) (ho : okName x = true) (hf : K.fns[f]? = some x) (hs : (a :: es).all notStar = true) (h : PA X (a :: es) (tA G k W xa os)) :
    PE X (.Call (.Name x p1) (a :: es) [] pos) (tE G k W xa fun en S => (os en S).bind fun ds S1 => C.cs f ds S1) := by
  obtain ⟨j, fa, fd, ps, F, hr, hm, hk, hb⟩ := cn.fns rfl f x hf
  have hs2 := hs
  rw [List.all_cons, Bool.and_eq_true] at hs2
  rw [← cn.sce] at hg
  refine (pe_callS F hr (glB_ok hg) hm hk hb (fun σ => passAt cn.tk σ) h (hdb := okName_dbg ho) (he := star_cons hs2.1 es X.env) (hpl := star_none hs2.2 X.env pos)).of fun σ H Q ⟨m, en, S, re, rs, p⟩ => ?_
  refine seqA re rs p fun ds S1 m1 H1 vs x1 re1 rs1 r1 p1 => ?_
  refine .inr ⟨k, m1, S1, ds, rs1, r1, ?_⟩
  cases q : C.cs f ds S1 with
  | ok d S2 => rw [q] at p1; exact p1
  | exc c' z S2 => rw [q] at p1; exact p1
  | stuck => rw [q] at p1; exact p1
theorem notCall_base {e : Expr} {f : Str} {env : Env} (h : notCall e = true) : attributeBase e f env (eval e env) = eval e env := by
  cases e
  case Call f' es ks cp =>
    cases es
    · cases h
    · cases f' <;> rfl
  all_goals first | rfl | cases h
theorem isLst_ok (rs : RS G k m H S) {d : D} {v : V} (r : RDD G k m H d v) (h : isLst d S = true) : ∃ n a xs, d = .r n ∧ m[k + n]? = some a ∧ v = .ref a ∧ H a = some (.lst xs) := by
  unfold isLst at h
  split at h
  · rename_i n
    obtain ⟨a, ha, rfl⟩ := r
    split at h
    · rename_i xs q
      obtain ⟨vs, h1, _⟩ := rs.ok n _ a q ha
      exact ⟨n, a, vs, rfl, ha, rfl, h1⟩
    · cases h
  · cases h
theorem l_app {o : Expr} {ap cp : Pos} (hK : X.K = G.K) (hn : notCall o = true) (hs : notStar a = true) (hl : (ap.endLine == cp.line) = true) (ho : PE X o (tE G k W xa oa)) (ha : PE X a (tE G k W xa ob)) :
    PE X (.Call (.Attribute o "append" ap) [a] [] cp) (tE G k W xa fun en S => (oa en S).bind fun l S1 => match isLst l S1 with
    | true => (ob en S1).bind fun y S2 => appD l y S2
    | false => .stuck) := by
  have s1 := star_cons hs [] X.env
  have few : ((backTo cp (starEach [a] X.env)).all (fun x => !x.1) && (backToKw cp (keywordEach [] X.env)).all (fun x => x.1.isSome)
      && decide (([a] : List Expr).length + ([] : List Keyword).length + (if ([] : List Keyword).isEmpty then 0 else 1) < 30)) = true := by
    rw [s1] <;> rfl
  refine (pe_bm PySem.F.plainAttrs_list PySem.F.slot_list_append PySem.F.type_list_append mt_append ho (pa_cons ha pa_nil s1) (notCall_base hn) few hl s1 rfl).of fun σ H Q ⟨m, en, S, re, rs, p⟩ => ?_
  refine seqE re rs p fun d S1 m1 H1 v x1 re1 rs1 r1 p1 => ?_
  cases q : isLst d S1 with
  | false => rw [q] at p1; exact p1.elim
  | true =>
    rw [q] at p1
    obtain ⟨n, a1, xs0, rfl, ha1, rfl, h1⟩ := isLst_ok rs1 r1 q
    refine ⟨.inl ⟨rfl, xs0, .of h1⟩, ?_⟩
    refine seqE re1 rs1 p1 fun y S2 m2 H2 w x2 re2 rs2 r2 p2 => ?_
    have ha2 := x2.ref ha1
    unfold appD at p2
    dsimp only at p2
    split at p2
    · rename_i xs q2
      split at p2
      · rename_i hz
        obtain ⟨vs, g1, g2, g3⟩ := rs2.ok n _ a1 q2 ha2
        rw [line_eq] at hz
        refine ⟨a1, vs, w, rfl, rfl, g1, by rw [← g3.len]; exact hz, ?_⟩
        have y : Ext k m2 H2 m2 (upd H2 a1 (.lst (vs ++ [w]))) := .put rs2.le (mem_dropK ha2)
        refine p2 m2 _ .non y (rs2.put ha2 ⟨vs ++ [w], upd_same, by rw [List.length_append]; exact hz, ?_⟩) (by show RD G _ _ _ _; simp only [RD])
        exact (g3.app (.one r2)).mono fun d v h => RDD.mono y rs2.nt h
      · exact p2.elim
    · exact p2.elim

/-! ### constants, attributes of an exception -/
theorem l_con {x : Str} {p q : P} (cn : Cn G C K N X W xa sc calm) (hg : glB sc x = true) (ho : okName x = true) (hc : K.con.lookup x = some q) (hs : P.same p q = true) : PE X (.Name x pos) (tE G k W xa fun _ S => .ok (.p p) S) := by
  obtain ⟨v, u, h1, h2, h3⟩ := cn.con x q hc
  have e := P.same_eq p q hs
  subst e
  rw [← cn.sce] at hg
  exact l_tC (pe_glob (glB_ok hg) h1 h2 (okName_dbg ho)) h3
theorem l_exv {i f : Nat} {x : Str} {a : Str} {p q : Pos} (cn : Cn G C K N X W xa sc calm) (hi : N[i]? = some x) (hv : visB sc x = true) (ho : okName x = true) (ha : a = K.at_ f) : PE X (.Attribute (.Name x p) a q) (tE G k W xa fun en S => exvD C f i en S) := by
  subst ha
  refine (cn.exv hi (visB_ok hv) ho).of fun σ H Q ⟨m, en, S, re, rs, p⟩ => ?_
  dsimp only at p
  unfold exvD at p
  split at p
  · rename_i c y e
    split at p
    · rename_i e2
      obtain ⟨v, h1, r, d, w, h2, h3, h4, h5⟩ := re.at_ i _ e
      subst h3
      refine ⟨r, c, d, w, h2, e2, h1, ?_, p.ok_now rs h5⟩
      rw [h4, ← cn.fa, ← e2, cn.xf]
    · exact p.elim
  · exact p.elim
/-! ### fields -/
theorem fld_look {α : Type} {R : α → V → Prop} {f : Nat} {d : α} (inj : ∀ i, i ∈ G.fs → ∀ j, j ∈ G.fs → G.fa i = G.fa j → i = j) (hf : f ∈ G.fs) : ∀ {ks : List Nat} {ds : List α} {ws : List V}, (∀ k ∈ ks, k ∈ G.fs) → ks.length = ds.length → F2 R ds ws → (ks.zip ds).lookup f = some d → ∃ w, ((ks.map G.fa).zip ws).lookup (G.fa f) = some w ∧ R d w
  | [], _, _, _, _, _, e => by cases e
  | k :: ks, [], _, _, hl, _, _ => by simp at hl
  | k :: ks, x :: ds, _, hk, hl, h, e => by
    cases h with
    | @cons _ w _ ws h t =>
      rw [List.zip_cons_cons, List.lookup_cons] at e
      rw [List.map_cons, List.zip_cons_cons, List.lookup_cons]
      by_cases q : f = k
      · subst q
        simp only [beq_self_eq_true] at e ⊢
        cases e
        exact ⟨w, rfl, h⟩
      · have q1 : (f == k) = false := beq_eq_false_iff_ne.mpr q
        have q2 : (G.fa f == G.fa k) = false := beq_eq_false_iff_ne.mpr fun z => q (inj f hf k (hk k List.mem_cons_self) z)
        rw [q1] at e
        rw [q2]
        exact fld_look inj hf (fun y hy => hk y (List.mem_cons_of_mem _ hy)) (by simpa using hl) t e
theorem RV_ins {c : Nat} {ks : List Nat} {xs : List P} {v : V} (h : RD G m H (.ins c ks xs) v) : ∃ a dx vs, v = .ref a ∧ H a = some (.ins (G.ca c) dx ((ks.map G.fa).zip vs)) ∧ (a ∉ m ∧ InsOk G c ks) ∧ ks.length = xs.length ∧ F2 (RD G m H) xs vs := by
  simp only [RD] at h
  obtain ⟨a, dx, vs, h1, h2, h3, h4, h5⟩ := h
  exact ⟨a, dx, vs, h1, h2, h3, h4, RDs_f2.mp h5⟩
theorem l_fld {o : Expr} {f : Nat} {at_ : Str} (cn : Cn G C K N X W xa sc calm) (hn : notCall o = true) (ha : at_ = K.at_ f) (hf : K.fds.contains f = true) (ho : PE X o (tE G k W xa oa)) : PE X (.Attribute o at_ pos) (tE G k W xa fun en S => (oa en S).bind fun x S1 => fldD f x S1) := by
  have hf' : f ∈ G.fs := by
    rw [cn.fds] at hf
    simpa using hf
  have e1 : at_ = G.fa f := by rw [ha, cn.fa]
  subst e1
  refine (pe_fld ho (notCall_base hn)).of fun σ H Q ⟨m, en, S, re, rs, p⟩ => ?_
  refine seqE re rs p fun d S1 m1 H1 v x1 re1 rs1 r1 p1 => ?_
  unfold fldD at p1
  split at p1
  · rename_i c ks vs
    obtain ⟨a, dx, ws, rfl, h2, ⟨h3, h4, h5⟩, h6, h7⟩ := RV_ins (show RD G m1 H1 (.ins c ks vs) v from r1)
    cases q : (ks.zip vs).lookup f with
    | none => rw [q] at p1; exact p1.elim
    | some y =>
      rw [q] at p1
      obtain ⟨w, g1, g2⟩ := fld_look cn.inj hf' h5 h6 h7 q
      exact ⟨a, _, dx, _, w, rfl, h2, (cn.rec_ c h4).1, (cn.rec_ c h4).2 f hf', g1, p1.ok_now rs1 g2⟩
  · rename_i n
    obtain ⟨a, ha1, rfl⟩ := r1
    split at p1
    · rename_i c ks ds q0
      obtain ⟨dx, ws, h1, ⟨h2, h3⟩, h4, h5⟩ := rs1.ok n _ a q0 ha1
      cases q : (ks.zip ds).lookup f with
      | none => rw [q] at p1; exact p1.elim
      | some y =>
        rw [q] at p1
        obtain ⟨w, g1, g2⟩ := fld_look cn.inj hf' h3 h4 h5 q
        exact ⟨a, _, dx, _, w, rfl, h1, (cn.rec_ c h2).1, (cn.rec_ c h2).2 f hf', g1, p1.ok_now rs1 g2⟩
    · exact p1.elim
  · exact p1.elim
theorem l_rev {p1 p2 p3 : Pos} {j : Nat} (hK : X.K = G.K) (ha : PE X a (tE G k W xa oa)) : PE X (.Subscript a (.Slice none none (some (.UnaryOp .USub (.Constant (.int 1) j p1) p2)) p3) pos) (tE G k W xa fun en S => (oa en S).bind fun x S1 => revD x S1) := by
  refine (pe_revT ha).of fun σ H Q ⟨m, en, S, re, rs, p⟩ => ?_
  refine seqE re rs p fun d S1 m1 H1 v x1 re1 rs1 r1 p1 => ?_
  unfold revD at p1
  split at p1
  · rename_i xs
    obtain ⟨a1, vs, rfl, h2, h3, h4⟩ := RV.tup (.inl (show RD G m1 H1 (.tup xs) v from r1))
    refine ⟨a1, vs, rfl, by rw [hK]; exact h2, fun q o hq hd => ?_⟩
    exact p1 m1 _ _ (.same rs1.le (same_new hq)) (rs1.same (same_new hq)) (RD.newT rs1.nt hq hd (by rw [List.length_reverse]; exact h3) h4.rev)
  · exact p1.elim
end
end Tw

set_option linter.all false
set_option Elab.async false
set_option maxRecDepth 100000
set_option maxHeartbeats 2000000
/-! TwC6s: sorted, list.index, list.remove. -/
namespace Tw
open PySem PySem.Spec PyProof.Rows L2
section
variable {G : Wd} {C : Cb} {K : Ck} {N : List Str} {sc : Scope} {calm : Bool} {X : Cx} {W : WX} {xa : Option (Addr × Nat × Addr)} {k : Nat} {a b c : Expr} {es : List Expr} {pos : Pos} {oa ob oc : En → Store → Out D} {os : En → Store → Out (List D)}
  {m m1 : List Addr} {en : En} {S S1 : Store} {σ : Sl} {H H1 : Hp} {Q : VK}
abbrev le_ (x y : List Int) : Prop := lexL y x = false
theorem ins_perm (x : List Int) : ∀ l : List (List Int), (insR x l).Perm (x :: l)
  | [] => List.Perm.refl _
  | y :: r => by
    unfold insR
    split
    · exact ((ins_perm x r).cons y).trans (List.Perm.swap x y r)
    · exact List.Perm.refl _
theorem ins_srt (x : List Int) : ∀ l : List (List Int), l.Pairwise le_ → (insR x l).Pairwise le_
  | [], _ => List.pairwise_singleton _ _
  | y :: r, h => by
    obtain ⟨h1, h2⟩ := List.pairwise_cons.mp h
    unfold insR
    split
    · rename_i q
      refine List.pairwise_cons.mpr ⟨fun z hz => ?_, ins_srt x r h2⟩
      rcases List.mem_cons.mp ((ins_perm x r).mem_iff.mp hz) with rfl | hz
      · exact lexL_asym _ _ q
      · exact h1 z hz
    · rename_i q
      have q' : lexL y x = false := by
        cases e : lexL y x with
        | false => rfl
        | true => exact absurd e q
      refine List.pairwise_cons.mpr ⟨fun z hz => ?_, h⟩
      rcases List.mem_cons.mp hz with rfl | hz
      · exact q'
      · exact lexL_tr z y x (h1 z hz) q'
theorem srtR_perm : ∀ l : List (List Int), (srtR l).Perm l
  | [] => List.Perm.refl _
  | x :: l => (ins_perm x _).trans ((srtR_perm l).cons x)
theorem srtR_srt : ∀ l : List (List Int), (srtR l).Pairwise le_
  | [] => List.Pairwise.nil
  | x :: l => ins_srt x _ (srtR_srt l)
theorem srt_uniq : ∀ {l m : List (List Int)}, l.Pairwise le_ → m.Pairwise le_ → l.Perm m → l = m
  | [], m, _, _, p => (List.Perm.nil_eq p)
  | x :: l, [], _, _, p => absurd p.length_eq (by simp)
  | x :: l, y :: m, hl, hm, p => by
    obtain ⟨l1, l2⟩ := List.pairwise_cons.mp hl
    obtain ⟨m1, m2⟩ := List.pairwise_cons.mp hm
    have rf : ∀ z : List Int, lexL z z = false := fun z => by
      cases e : lexL z z with
      | false => rfl
      | true => exact ((lexL_asym z z e).symm.trans e).symm
    have h1 : lexL y x = false := by
      rcases List.mem_cons.mp (p.mem_iff.mpr (List.mem_cons_self (a := y) (l := m))) with e | hy
      · rw [e]; exact rf x
      · exact l1 y hy
    have h2 : lexL x y = false := by
      rcases List.mem_cons.mp (p.mem_iff.mp (List.mem_cons_self (a := x) (l := l))) with e | hx
      · rw [e]; exact rf y
      · exact m1 x hx
    have e := lexL_eq x y h2 h1
    subst e
    rw [srt_uniq l2 m2 p.cons_inv]
theorem asInts_f2 : ∀ {xs : List P} {ns : List Int} {vs : List V}, asInts xs = some ns → F2 (RD G m H) xs vs → vs = ns.map V.int ∧ xs = ns.map P.int
  | [], ns, vs, e, f => by
    cases e
    cases f
    exact ⟨rfl, rfl⟩
  | x :: xs, ns, vs, e, f => by
    cases f with
    | @cons _ v _ vs' h t =>
      cases x with
      | int i =>
        unfold asInts at e
        cases q : asInts xs with
        | none => rw [q] at e; cases e
        | some ms =>
          rw [q] at e
          cases e
          obtain ⟨e1, e2⟩ := asInts_f2 q t
          have ev : v = V.int i := by simpa only [RD] using h
          rw [e1, e2, ev]
          exact ⟨rfl, rfl⟩
      | _ => cases e
theorem rowsI_f2 {ds : List D} {vs : List V} (f : F2 (RDD G k m H) ds vs) : ∀ {ks : List (List Int)}, rowsI ds = some ks → F2 (RwR G.K H) ks vs ∧ ∀ z ∈ ks, z.length ≤ sizeLine := by
  induction f with
  | nil =>
    intro ks e
    cases e
    exact ⟨.nil, fun z hz => by cases hz⟩
  | @cons d v ds vs h t ih =>
    intro ks e
    cases d with
    | p x =>
      have e' : (match rowI x, rowsI ds with
        | some k, some ks => some (k :: ks)
        | _, _ => none) = some ks := e
      cases x with
      | tup xs =>
        cases q1 : asInts xs with
        | none =>
          have q1' : rowI (.tup xs) = none := q1
          rw [q1'] at e'
          cases e'
        | some ns =>
          have q1' : rowI (.tup xs) = some ns := q1
          rw [q1'] at e'
          cases q2 : rowsI ds with
          | none => rw [q2] at e'; cases e'
          | some ls =>
            rw [q2] at e'
            cases e'
            obtain ⟨i1, i2⟩ := ih q2
            obtain ⟨a, ws, rfl, g1, g2, g3⟩ := RV.tupq (.inl (show RD G m H (.tup xs) v from h))
            obtain ⟨e1, e2⟩ := asInts_f2 q1 g3
            rw [e1] at g1
            refine ⟨.cons ⟨a, rfl, g1⟩ i1, fun z hz => ?_⟩
            rcases List.mem_cons.mp hz with rfl | hz
            · rw [e2, List.length_map] at g2
              exact g2
            · exact i2 z hz
      | _ => cases e'
    | _ => cases e
theorem ints_rd : ∀ ns : List Int, F2 (RD G m H) (ns.map P.int) (ns.map V.int)
  | [] => .nil
  | n :: ns => .cons (by simp only [RD]) (ints_rd ns)
theorem rwR_rd {z : List Int} {v : V} (h : RwR G.K H z v) (hz : z.length ≤ sizeLine) : RDD G k m H (rowD z) v := by
  obtain ⟨t, rfl, g⟩ := h
  exact RD_tup (xs := z.map P.int) g (by rw [List.length_map]; exact hz) (ints_rd z)
theorem f2_map_l {α β γ : Type} {R : α → γ → Prop} {R' : β → γ → Prop} {g : α → β} : ∀ {xs : List α} {ys : List γ}, F2 R xs ys → (∀ x y, x ∈ xs → R x y → R' (g x) y) → F2 R' (xs.map g) ys
  | _, _, .nil, _ => .nil
  | _, _, .cons a b, h => .cons (h _ _ List.mem_cons_self a) (f2_map_l b fun x y hx r => h x y (List.mem_cons_of_mem _ hx) r)
theorem l_srt {x : Str} {p1 : Pos} (hK : X.K = G.K) (hf : ∀ x, K.fre.contains x = true → X.mg x = none) (hb : bName K X.env.scope x "sorted" = true) (hn : notStar a = true) (ha : PE X a (tE G k W xa oa)) :
    PE X (.Call (.Name x p1) [a] [] pos) (tL G k W xa fun en S => (oa en S).bind fun x S1 => srtD x S1) := by
  obtain ⟨rfl, hg, hm⟩ := bName_ok hb hf
  refine (pe_callB cr_srtR hg hm (by decide +kernel) (pa_cons ha pa_nil (star_cons hn [] X.env)) (he := star_cons hn [] X.env)).of fun σ H Q ⟨m, en, S, re, rs, p⟩ => ?_
  refine seqEL re rs p fun d S1 m1 H1 v x1 re1 rs1 r1 p1 => ?_
  unfold srtD at p1
  cases e : lsD S1 d with
  | none => rw [e] at p1; exact p1.elim
  | some ds =>
    rw [e] at p1
    dsimp only at p1
    cases e2 : rowsI ds with
    | none => rw [e2] at p1; exact p1.elim
    | some ks =>
      rw [e2] at p1
      dsimp only at p1
      split at p1
      · rename_i hall
        obtain ⟨a1, vs, rfl, h2, h3, h4⟩ := lsD_f2 rs1 r1 e
        obtain ⟨f1, f2⟩ := rowsI_f2 h4 e2
        refine ⟨a1, vs, ks, rfl, by rw [hK]; exact h2, by rw [hK]; exact f1, fun z hz => ?_, fun ys ls q fl pm pw hq => ?_⟩
        · have := List.all_eq_true.mp hall z hz
          intro e3
          rw [e3] at this
          cases this
        · have el : ls = srtR ks := srt_uniq pw (srtR_srt ks) (pm.trans (srtR_perm ks).symm)
          subst el
          rw [hK] at fl
          have fr : F2 (RDD G k m1 H1) ((srtR ks).map rowD) ys := f2_map_l fl fun z v hz hr => rwR_rd hr (f2 z ((srtR_perm ks).mem_iff.mp hz))
          refine newL rs1 fr ?_ p1 q hq
          rw [List.length_map, (srtR_perm ks).length_eq, f1.len, ← h4.len]
          exact h3
      · exact p1.elim
/-! sorted(set(rows)) -/
theorem code_bd {B : Int} (hB : 0 < B) : ∀ {ns : List Int}, TS.Bd B ns → 0 ≤ TS.code B ns ∧ TS.code B ns < B ^ ns.length
  | [], _ => by
    show (0 : Int) ≤ 0 ∧ (0 : Int) < B ^ 0
    rw [Int.pow_zero]
    omega
  | d :: r, h => by
    obtain ⟨c0, c1⟩ := code_bd hB h.tail
    obtain ⟨d0, d1⟩ := h.head
    have := TS.num1 c0 c1 d0 d1
    show 0 ≤ d * B ^ r.length + TS.code B r ∧ d * B ^ r.length + TS.code B r < B ^ (r.length + 1)
    rw [Int.pow_succ]
    exact this
theorem code_lex {B : Int} (hB : 0 < B) : ∀ {xs ys : List Int}, xs.length = ys.length → TS.Bd B xs → TS.Bd B ys → lexL xs ys = true → TS.code B xs < TS.code B ys
  | [], [], _, _, _, h => by cases h
  | [], _ :: _, e, _, _, _ => by simp at e
  | _ :: _, [], e, _, _, _ => by simp at e
  | x :: xs, y :: ys, e, hx, hy, h => by
    have e' : xs.length = ys.length := by simpa using e
    rw [lexL_cons] at h
    show x * B ^ xs.length + TS.code B xs < y * B ^ ys.length + TS.code B ys
    rw [← e']
    split at h
    · rename_i q
      have := code_lex hB e' hx.tail hy.tail h
      rw [q]
      omega
    · have q : x < y := of_decide_eq_true h
      obtain ⟨a0, a1⟩ := code_bd hB hx.tail
      obtain ⟨b0, b1⟩ := code_bd hB hy.tail
      have p0 : 0 ≤ B ^ xs.length := by omega
      have p1 : (x + 1) * B ^ xs.length ≤ y * B ^ xs.length := Int.mul_le_mul_of_nonneg_right (by omega) p0
      rw [Int.add_mul, Int.one_mul] at p1
      omega
theorem ded_mem : ∀ {l : List (List Int)} {k : List Int}, k ∈ dedR l ↔ k ∈ l
  | [], k => Iff.rfl
  | x :: r, k => by
    unfold dedR
    split
    · rename_i q
      have q' : x ∈ r := by simpa using q
      rw [ded_mem, List.mem_cons]
      exact ⟨.inr, fun h => h.elim (fun e => e ▸ q') id⟩
    · rw [List.mem_cons, List.mem_cons, ded_mem]
theorem ded_nd : ∀ l : List (List Int), (dedR l).Nodup
  | [] => List.Pairwise.nil
  | x :: r => by
    unfold dedR
    split
    · exact ded_nd r
    · rename_i q
      have q' : x ∉ r := by simpa using q
      exact List.pairwise_cons.mpr ⟨fun y hy e => q' (ded_mem.mp (e ▸ hy)), ded_nd r⟩
theorem ded_len : ∀ l : List (List Int), (dedR l).length ≤ l.length
  | [] => Nat.le_refl _
  | x :: r => by
    unfold dedR
    have := ded_len r
    split
    · simp only [List.length_cons]; omega
    · simp only [List.length_cons]; omega
/-- two rows in order, each once, with the same members -/
theorem ssrt_uniq : ∀ {l m : List (List Int)}, l.Pairwise (fun x y => le_ x y ∧ x ≠ y) → m.Pairwise (fun x y => le_ x y ∧ x ≠ y) → (∀ k, k ∈ l ↔ k ∈ m) → l = m
  | [], [], _, _, _ => rfl
  | [], y :: m, _, _, h => absurd ((h y).mpr (by simp)) (by simp)
  | x :: l, [], _, _, h => absurd ((h x).mp (by simp)) (by simp)
  | x :: l, y :: m, hl, hm, h => by
    obtain ⟨l1, l2⟩ := List.pairwise_cons.mp hl
    obtain ⟨m1, m2⟩ := List.pairwise_cons.mp hm
    have e : x = y := by
      rcases List.mem_cons.mp ((h x).mp (by simp)) with e | hx
      · exact e
      · rcases List.mem_cons.mp ((h y).mpr (by simp)) with e | hy
        · exact e.symm
        · exact lexL_eq _ _ (l1 y hy).1 (m1 x hx).1 |>.symm
    subst e
    rw [ssrt_uniq l2 m2 fun k => ⟨fun hk => ?_, fun hk => ?_⟩]
    · rcases List.mem_cons.mp ((h k).mp (List.mem_cons_of_mem _ hk)) with e | hk'
      · exact absurd e.symm (l1 k hk).2
      · exact hk'
    · rcases List.mem_cons.mp ((h k).mpr (List.mem_cons_of_mem _ hk)) with e | hk'
      · exact absurd e.symm (m1 k hk).2
      · exact hk'
theorem rows_pairs {K : PySem.W.Frag} {H : Hp} {ks : List (List Int)} {vs : List V} (f : F2 (RwR K H) ks vs) : ∃ ps : List (Addr × List Int), vs = ps.map (fun p => V.ref p.1) ∧ ks = ps.map (·.2) ∧ ∀ p ∈ ps, Tq H p.1 (p.2.map V.int) := by
  induction f with
  | nil => exact ⟨[], rfl, rfl, fun p hp => by cases hp⟩
  | @cons k v ks vs h t ih =>
    obtain ⟨ps, rfl, rfl, h3⟩ := ih
    obtain ⟨a, rfl, hs⟩ := h
    exact ⟨(a, k) :: ps, rfl, rfl, fun p hp => by
      rcases List.mem_cons.mp hp with rfl | hp
      · exact hs
      · exact h3 p hp⟩
theorem pairs_rd (hl : ∀ z : List Int, True) : ∀ {ps : List (Addr × List Int)}, (∀ p ∈ ps, Tq H p.1 (p.2.map V.int) ∧ p.2.length ≤ sizeLine) → F2 (RDD G k m H) ((ps.map (·.2)).map rowD) (ps.map fun p => V.ref p.1)
  | [], _ => .nil
  | p :: ps, h => .cons (rwR_rd ⟨p.1, rfl, (h p (by simp)).1⟩ (h p (by simp)).2) (pairs_rd hl fun q hq => h q (List.mem_cons_of_mem _ hq))
/-- a new list of items that are at hand, a helper object behind -/
theorem newL2 {ds : List D} {vs : List V} {c : Addr} {o : HO} (rs : RS G k m H S) (f : F2 (RDD G k m H) ds vs) (hl : ds.length ≤ sizeLine) (p : PostL G k W m σ H Q (.ok ds S)) (hc : H c = none) : ∀ q, upd H c o q = none → Q (.ref q) (upd (upd H c o) q (.lst vs)) := fun q hq => by
  have s1 : Same H (upd H c o) := same_new hc
  have hq' : H q = none := by
    cases e : H q with
    | none => rfl
    | some u => rw [s1 _ _ e] at hq; cases hq
  have sm : Same H (upd (upd H c o) q (.lst vs)) := fun a u e => same_new hq a u (s1 a u e)
  exact p m _ q vs (.same rs.le sm) hq' upd_same (rs.nt.ne hq') (rs.ins hq' sm upd_same) hl (f.mono fun d v h => RDD.ins rs.le rs.nt hq' sm h)
theorem l_srs {x y : Str} {p1 p2 pos2 : Pos} (hcm : X.calm = true) (hu : X.A.units + 64 < cLine) (hK : X.K = G.K) (hf : ∀ x, K.fre.contains x = true → X.mg x = none) (hb : bName K X.env.scope x "sorted" = true) (hb2 : bName K X.env.scope y "set" = true) (hn : notStar a = true) (ha : PE X a (tE G k W xa oa)) :
    PE X (.Call (.Name x p1) [.Call (.Name y p2) [a] [] pos2] [] pos) (tL G k W xa fun en S => (oa en S).bind fun x S1 => srsD x S1) := by
  obtain ⟨rfl, hg, hm⟩ := bName_ok hb hf
  obtain ⟨rfl, hg2, hm2⟩ := bName_ok hb2 hf
  refine (pe_callB (cr_sortedT hcm) hg hm (by decide +kernel) (pa_cons (pe_callTy (cr_setOfT hcm hu) hg2 hm2 (by decide +kernel) (pa_cons ha pa_nil (star_cons hn [] X.env)) (he := star_cons hn [] X.env)) pa_nil (star_cons rfl [] X.env)) (he := star_cons rfl [] X.env)).of fun σ H Q ⟨m, en, S, re, rs, p⟩ => ?_
  refine seqEL re rs p fun d S1 m1 H1 v x re1 rs1 r1 p1 => ?_
  unfold srsD at p1
  cases e : lsD S1 d with
  | none => rw [e] at p1; exact p1.elim
  | some ds =>
    rw [e] at p1
    dsimp only at p1
    cases e2 : rowsI ds with
    | none => rw [e2] at p1; exact p1.elim
    | some ks =>
      rw [e2] at p1
      dsimp only at p1
      split at p1
      · rename_i hall
        unfold setR at hall
        rw [Bool.and_eq_true, Bool.and_eq_true, decide_eq_true_eq, decide_eq_true_eq] at hall
        obtain ⟨⟨hlen, hd1⟩, hrow⟩ := hall
        have hr : ∀ z ∈ ks, z.length = (ks.headD [0]).length ∧ TS.Bd 1048576 z := fun z hz => by
          have := List.all_eq_true.mp hrow z hz
          rw [Bool.and_eq_true, decide_eq_true_eq] at this
          refine ⟨this.1, fun i hi => ?_⟩
          have := List.all_eq_true.mp this.2 i hi
          rw [Bool.and_eq_true, decide_eq_true_eq, decide_eq_true_eq] at this
          exact this
        obtain ⟨a1, vs, rfl, h2, h3, h4⟩ := lsD_f2 rs1 r1 e
        obtain ⟨f1, f2⟩ := rowsI_f2 h4 e2
        obtain ⟨ps, rfl, rfl, h5⟩ := rows_pairs f1
        have hpl : ps.length < 64 := by rw [List.length_map] at hlen; exact hlen
        refine ⟨a1, ps, rfl, by rw [hK]; exact h2, fun p hp => (h5 p hp).sq, hpl, fun c L hc sub cov => ?_⟩
        have s1 : Same H1 (upd H1 c (SetTO X.prog X.w c L)) := same_new hc
        have x1 : Ex0 m1 H1 m1 (upd H1 c (SetTO X.prog X.w c L)) := .same s1
        refine ⟨c, L, ((ps.map (·.2)).headD [0]).length, 1048576, rfl, upd_same, fun p hp => ?_, hd1, fun p hp => hr _ (List.mem_map.mpr ⟨p, sub p hp, rfl⟩), fun L' q pm nd few pw hq => ?_⟩
        · exact (x1.tq rs1.nt (h5 p (sub p hp))).sq
        · have mem' : ∀ p ∈ L', p ∈ ps := fun p hp => sub p (pm.mem_iff.mp hp)
          have keys : L'.map (·.2) = srtR (dedR (ps.map (·.2))) := by
            refine ssrt_uniq ?_ ?_ fun k => ?_
            · refine List.Pairwise.and ?_ nd
              rw [List.pairwise_map]
              refine List.Pairwise.imp_of_mem (fun {x y} hx hy h => ?_) pw
              show lexL y.2 x.2 = false
              cases q : lexL y.2 x.2 with
              | false => rfl
              | true =>
                have rx := hr _ (List.mem_map.mpr ⟨x, mem' x hx, rfl⟩)
                have ry := hr _ (List.mem_map.mpr ⟨y, mem' y hy, rfl⟩)
                have := code_lex (by omega) (ry.1.trans rx.1.symm) ry.2 rx.2 q
                omega
            · exact List.Pairwise.and (srtR_srt _) ((srtR_perm _).nodup_iff.mpr (ded_nd _))
            · rw [(srtR_perm _).mem_iff, ded_mem]
              constructor
              · intro h
                obtain ⟨p, hp, rfl⟩ := List.mem_map.mp h
                exact List.mem_map.mpr ⟨p, mem' p hp, rfl⟩
              · intro h
                obtain ⟨p, hp, rfl⟩ := List.mem_map.mp h
                obtain ⟨z, hz, e⟩ := List.mem_map.mp (cov p hp)
                exact List.mem_map.mpr ⟨z, pm.mem_iff.mpr hz, e⟩
          have fr : F2 (RDD G k m1 H1) ((srtR (dedR (ps.map (·.2)))).map rowD) (L'.map fun p => V.ref p.1) := by
            rw [← keys]
            exact pairs_rd (fun _ => trivial) fun p hp => ⟨h5 p (mem' p hp), f2 _ (List.mem_map.mpr ⟨p, mem' p hp, rfl⟩)⟩
          refine newL2 rs1 fr ?_ p1 hc q hq
          rw [List.length_map, ← keys, List.length_map]
          have : (64 : Nat) ≤ sizeLine := by rw [sizeLine_eq]; decide
          omega
      · exact p1.elim
theorem fst1_ok {z : P} : ∀ {ys : List P} {j : Nat}, fst1 z ys = some j → ∃ y, ys[j]? = some y ∧ y.eq z = true ∧ ∀ (m : Nat) (u : P), m < j → ys[m]? = some u → u.eq z = false
  | [], j, h => by cases h
  | y :: r, j, h => by
    unfold fst1 at h
    split at h
    · rename_i q
      cases h
      exact ⟨y, rfl, q, fun m u hm _ => absurd hm (Nat.not_lt_zero _)⟩
    · rename_i q
      cases e : fst1 z r with
      | none => rw [e] at h; cases h
      | some i =>
        rw [e] at h
        cases h
        obtain ⟨w, h1, h2, h3⟩ := fst1_ok e
        refine ⟨w, h1, h2, fun m u hm hu => ?_⟩
        cases m with
        | zero =>
          cases hu
          cases e2 : y.eq z with
          | false => rfl
          | true => exact absurd e2 q
        | succ m =>
        have hm' : m + 1 < i + 1 := hm
        exact h3 m u (by omega) hu
theorem toPys_map : ∀ ys : List P, toPys ys = ys.map toPy
  | [] => rfl
  | y :: ys => by rw [toPys, toPys_map ys]; rfl
theorem fstD_of {ys : List P} {z : P} {j : Nat} {vs : List V} {v : V} (h1 : P.dats ys 60 = true) (h2 : z.dat 60 = true) (h3 : fst1 z ys = some j) (f : F2 (RD G m H) ys vs) (r : RV G m H z v) : ∃ ds d c, FstD G.K H vs v j ds d c := by
  obtain ⟨y, g1, g2, g3⟩ := fst1_ok h3
  obtain ⟨q1, q2, _⟩ := dps_of ys 59 vs h1 (RDs_f2.mpr f)
  obtain ⟨w1, w2, w3⟩ := dp_rv h2 r
  have dy : ∀ (m : Nat) (u : P), ys[m]? = some u → u.dat 59 = true := fun m u hu => by
    have : ∀ (l : List P), P.dats l 60 = true → ∀ u ∈ l, u.dat 59 = true := by
      intro l
      induction l with
      | nil => intro _ u hu; cases hu
      | cons x l ih =>
        intro hl u hu
        have hl' : (x.dat 59 && P.dats l 60) = true := hl
        rw [Bool.and_eq_true] at hl'
        rcases List.mem_cons.mp hu with rfl | hu
        · exact hl'.1
        · exact ih hl'.2 u hu
    exact this ys h1 u (List.mem_of_getElem? hu)
  refine ⟨toPys ys, toPy z, toPy y, q1, w1, q2, w2, w3, by rw [toPys_map, List.getElem?_map, g1]; rfl, ?_, fun m u hm hu => ?_⟩
  · rw [eqv_of y z 59 60 (dy j y g1) h2]
    exact g2
  · rw [toPys_map, List.getElem?_map] at hu
    cases e : ys[m]? with
    | none => rw [e] at hu; cases hu
    | some w =>
      rw [e] at hu
      cases hu
      rw [eqv_of w z 59 60 (dy m w e) h2]
      exact g3 m w hm e
theorem isLs_ok {d : D} {v : V} (rs : RS G k m H S) (r : RDD G k m H d v) (q : isLs d S = true) : ∃ a xs, v = .ref a ∧ SqL G.K H a xs := by
  unfold isLs at q
  split at q
  · rename_i ys
    have r' : RD G m H (.lst ys) v := r
    simp only [RD] at r'
    obtain ⟨a, vs, rfl, h1, _⟩ := r'
    exact ⟨a, vs, rfl, h1.sq⟩
  · rename_i n
    split at q
    · rename_i xs e
      obtain ⟨a, ha, rfl⟩ := r
      obtain ⟨vs, g1, _⟩ := rs.ok n _ a e ha
      exact ⟨a, vs, rfl, .of g1⟩
    · cases q
  · cases q
theorem l_ixo {o : Expr} {ap cp : Pos} (hK : X.K = G.K) (hu : X.A.units + 64 < cLine) (hn : notCall o = true) (hs : notStar a = true) (hl : (ap.endLine == cp.line) = true) (ho : PE X o (tE G k W xa oa)) (ha : PE X a (tE G k W xa ob)) :
    PE X (.Call (.Attribute o "index" ap) [a] [] cp) (tE G k W xa fun en S => (oa en S).bind fun l S1 => match isLs l S1 with
    | true => (ob en S1).bind fun y S2 => ixoD l y S2
    | false => .stuck) := by
  have s1 := star_cons hs [] X.env
  have few : ((backTo cp (starEach [a] X.env)).all (fun x => !x.1) && (backToKw cp (keywordEach [] X.env)).all (fun x => x.1.isSome)
      && decide (([a] : List Expr).length + ([] : List Keyword).length + (if ([] : List Keyword).isEmpty then 0 else 1) < 30)) = true := by
    rw [s1] <;> rfl
  refine (pe_bm PySem.F.plainAttrs_list PySem.F.slot_list_index PySem.F.type_list_index (mt_ixE hu) ho (pa_cons ha pa_nil s1) (notCall_base hn) few hl s1 rfl).of fun σ H Q ⟨m, en, S, re, rs, p⟩ => ?_
  refine seqE re rs p fun d S1 m1 H1 v x1 re1 rs1 r1 p1 => ?_
  cases q : isLs d S1 with
  | false => rw [q] at p1; exact p1.elim
  | true =>
    rw [q] at p1
    obtain ⟨a1, xs0, rfl, h1⟩ := isLs_ok rs1 r1 q
    refine ⟨.inl ⟨rfl, xs0, by rw [hK]; exact h1⟩, ?_⟩
    refine seqE re1 rs1 p1 fun y S2 m2 H2 w x2 re2 rs2 r2 p2 => ?_
    have r1' := r1.mono x2 rs1.nt
    unfold ixoD at p2
    split at p2
    · rename_i ys z e1 e2
      split at p2
      · rename_i hd
        rw [Bool.and_eq_true] at hd
        split at p2
        · rename_i j e3
          obtain ⟨b, vs, eb, g1, g2, g3⟩ := (view_rv rs2 r1' e1).lst
          cases eb
          obtain ⟨ds, dd, cc, F⟩ := fstD_of hd.1 hd.2 e3 g3 (view_rv rs2 r2 e2)
          exact ⟨a1, w, vs, j, ds, dd, cc, rfl, rfl, by rw [hK]; exact g1, by rw [hK]; exact F, p2.ok_now rs2 (by show RD G _ _ _ _; simp only [RD])⟩
        · exact p2.elim
      · exact p2.elim
    · exact p2.elim
theorem eraseF2 {α β : Type} {R : α → β → Prop} {xs : List α} {ys : List β} (h : F2 R xs ys) : ∀ j, F2 R (xs.eraseIdx j) (ys.eraseIdx j) := by
  induction h with
  | nil => intro j; exact .nil
  | cons r t ih =>
    intro j
    cases j with
    | zero => exact t
    | succ j => exact .cons r (ih j)
theorem l_rmo {o : Expr} {ap cp : Pos} (hK : X.K = G.K) (hu : X.A.units + 64 < cLine) (hn : notCall o = true) (hs : notStar a = true) (hl : (ap.endLine == cp.line) = true) (ho : PE X o (tE G k W xa oa)) (ha : PE X a (tE G k W xa ob)) :
    PE X (.Call (.Attribute o "remove" ap) [a] [] cp) (tE G k W xa fun en S => (oa en S).bind fun l S1 => match isLst l S1 with
    | true => (ob en S1).bind fun y S2 => rmoD l y S2
    | false => .stuck) := by
  have s1 := star_cons hs [] X.env
  have few : ((backTo cp (starEach [a] X.env)).all (fun x => !x.1) && (backToKw cp (keywordEach [] X.env)).all (fun x => x.1.isSome)
      && decide (([a] : List Expr).length + ([] : List Keyword).length + (if ([] : List Keyword).isEmpty then 0 else 1) < 30)) = true := by
    rw [s1] <;> rfl
  refine (pe_bm PySem.F.plainAttrs_list PySem.F.slot_list_remove PySem.F.type_list_remove (mt_rmE hu) ho (pa_cons ha pa_nil s1) (notCall_base hn) few hl s1 rfl).of fun σ H Q ⟨m, en, S, re, rs, p⟩ => ?_
  refine seqE re rs p fun d S1 m1 H1 v x1 re1 rs1 r1 p1 => ?_
  cases q : isLst d S1 with
  | false => rw [q] at p1; exact p1.elim
  | true =>
    rw [q] at p1
    obtain ⟨n, a1, xs0, rfl, ha1, rfl, h1⟩ := isLst_ok rs1 r1 q
    refine ⟨.inl ⟨rfl, xs0, .of h1⟩, ?_⟩
    refine seqE re1 rs1 p1 fun y S2 m2 H2 w x2 re2 rs2 r2 p2 => ?_
    have ha2 := x2.ref ha1
    unfold rmoD at p2
    split at p2
    · rename_i n' z en' e2
      cases en'
      split at p2
      · rename_i ds q2
        split at p2
        · rename_i ys q3
          split at p2
          · rename_i hd
            rw [Bool.and_eq_true] at hd
            split at p2
            · rename_i j e3
              obtain ⟨vs, g1, g2, g3⟩ := rs2.ok n _ a1 q2 ha2
              obtain ⟨dd, d0, cc, F⟩ := fstD_of hd.1 hd.2 e3 (Ps_f2 q3 g3) (view_rv rs2 r2 e2)
              refine ⟨a1, w, vs, j, dd, d0, cc, rfl, rfl, g1, by rw [hK]; exact F, ?_⟩
              have y : Ext k m2 H2 m2 (upd H2 a1 (.lst (vs.eraseIdx j))) := .put rs2.le (mem_dropK ha2)
              refine p2 m2 _ .non y (rs2.put ha2 ⟨vs.eraseIdx j, upd_same, ?_, ?_⟩) (by show RD G _ _ _ _; simp only [RD])
              · have := List.length_eraseIdx_le ds j
                omega
              · exact (eraseF2 g3 j).mono fun d v h => RDD.mono y rs2.nt h
            · exact p2.elim
          · exact p2.elim
        · exact p2.elim
      · exact p2.elim
    · exact p2.elim
end
end Tw

set_option linter.all false
set_option Elab.async false
set_option maxRecDepth 100000
set_option maxHeartbeats 2000000
/-! TwC6n: own classes: making, methods, isinstance, ==. -/
namespace Tw
open PySem PySem.Spec PyProof.Rows L2
section
variable {X : Cx} {CX : CXT} {k : Nat} {f Cc : Addr} {fd : FuncData} {ps : List Str} {sp : Sp} {E : L2.St → XK} {x mn : Str} {p pos apos : Pos} {e o e2 : Expr} {es : List Expr} {ta tb : TE} {t : TA}
theorem run_makeS {pins : List (Addr × Obj)} {σ : L2.St} {H : Hp} {s : Shared} {Q : VK} {us : List Value} {vs : List V} (M : Mk X.K Cc f) (F : FnOk X.prog X.w X.K X.mg X.base CX k f fd ps sp) (hr : Room (k + 1) X.A) (hb : Binds X.K fd ps [])
    (hx : PassesAt CX X σ (E σ)) (I : Inv X pins σ H s) (r : Vals vs us)
    (h : ∀ x dx, H x = none → H dx = none → dx ≠ x → sp (.ref x :: vs) (upd (upd H dx (.own x)) x (.ins Cc dx [])) (fun v H2 => v = .non ∧ Q (.ref x) H2) (E σ)) :
    wpAny (model X.prog X.w) X.A (call (.ref Cc) us) (EP X pins σ Q) X.xe s := by
  have hq := h (s.heap.objs.size + 1) s.heap.objs.size (I.hok.fresh (Nat.le_succ _)) (I.hok.fresh (Nat.le_refl _)) (Nat.ne_of_lt (Nat.lt_succ_self _))
  have I2 := Inv.made (C := Cc) I
  have r2 : Vals (V.ref (s.heap.objs.size + 1) :: vs) (Value.ref (s.heap.objs.size + 1) :: us) := .cons rfl r
  have hl : (Value.ref (s.heap.objs.size + 1) :: us ++ []).length = ps.length := by
    have e := r2.length
    rw [F.len _ _ _ _ hq] at e
    rw [List.append_nil]
    exact e.symm
  have hbb := hb _ (Value.ref (s.heap.objs.size + 1) :: us) I2.kIn hl
  rw [List.append_nil] at hbb
  refine wpAny_call (make_map (f := f) I.kIn M.makes M.init (beq_iff_eq.mp M.fn) (codeAny_mono (F.run _ X.stack _ _ ⟨Value.ref (s.heap.objs.size + 1) :: us, []⟩ (Value.ref (s.heap.objs.size + 1) :: us) _ _ (E σ) (hr.make Cc us [])
    (I2.env0.make Cc us []) hbb r2 hq) fun r s' hq' => ?_))
  cases r with
  | error e => exact hx pins _ _ e s' I2 hq'
  | ok fl =>
    cases fl with
    | ret u =>
      obtain ⟨v, H', I3, rv, ev, q3⟩ := I2.after hq'
      subst ev
      exact ⟨rv, ⟨V.ref (s.heap.objs.size + 1), H', I3, rfl, q3⟩⟩
    | next => exact False.elim hq'
    | brk => exact False.elim hq'
    | cont => exact False.elim hq'
def tMakeS (Cc : Addr) (sp : Sp) (E : L2.St → XK) (t : TA) : TE := fun σ H Q => t σ H fun vs H1 => ∀ x dx, H1 x = none → H1 dx = none → dx ≠ x →
  sp (.ref x :: vs) (upd (upd H1 dx (.own x)) x (.ins Cc dx [])) (fun v H2 => v = .non ∧ Q (.ref x) H2) (E σ)
theorem pe_makeS (M : Mk X.K Cc f) (F : FnOk X.prog X.w X.K X.mg X.base CX k f fd ps sp) (hr : Room (k + 1) X.A) (hg : Gl X x) (hm : X.mg x = some (.ref Cc)) (hb : Binds X.K fd ps []) (hx : ∀ σ, PassesAt CX X σ (E σ))
    (ha : PA X (e :: es) t) (hdb : (x == ("__debug__" : Str)) = false) (he : starEach (e :: es) X.env = (false, eval e X.env) :: starEach es X.env) (hpl : (backTo pos (starEach es X.env)).any (·.1) = false) :
    PE X (.Call (.Name x p) (e :: es) [] pos) (tMakeS Cc sp E t) := by
  refine ⟨fun pins s σ H Q I h => ?_⟩
  refine wpAny_Call_Name_kw (ld_glob I hg hm ?_ hdb)
  refine PySem.W.callWith_K (h₀ := X.base) I.ok.mod.kin M.kp (thn (ha.run pos pins s σ H _ I h) fun us s1 ⟨vs, H1, I1, r, q⟩ => ⟨I1.kIn, ?_⟩) he hpl
  exact run_makeS M F hr hb (hx σ) I1 r q
def tMethS (Cc : Addr) (mn : Str) (sp : Sp) (E : L2.St → XK) (ta : TE) (t : TA) : TE := fun σ H Q => ta σ H fun x H1 => ∃ a dx fs, x = .ref a ∧ H1 a = some (.ins Cc dx fs) ∧ fs.lookup mn = none ∧ t σ H1 fun vs H2 => sp (x :: vs) H2 Q (E σ)
theorem meth_ev {o : Expr} {es : List Expr} {env : Env} (hn : notCall o = true) (hs : (backTo pos (starEach es env)).any (·.1) = false) (hl : es.length < 30) (hline : (apos.endLine == pos.line) = true) : eval (.Call (.Attribute o mn apos) es [] pos) env = (do
      let ov ← eval o env
      standAt apos.atName
      let (f, first) ← holding [ov] (getMethod ov mn (do return (← importBound o env).getD true))
      callWith pos f first (backTo pos (starEach es env)) (backToKw pos (keywordEach [] env))) := by
  have few : methodCallForm (es.length + ([] : List Keyword).length) (backTo pos (starEach es env)) (backToKw pos (keywordEach [] env)) = true := by
    unfold methodCallForm
    have h1 : (backTo pos (starEach es env)).all (fun x => !x.1) = true := by
      rw [List.any_eq_false] at hs
      rw [List.all_eq_true]
      intro x hx
      simpa using hs x hx
    rw [h1, show backToKw pos (keywordEach [] env) = [] from rfl]
    simpa using hl
  rw [arm_eval_Call, notCall_base hn]
  unfold methodCall methodCallPos calleeOf
  rw [few, hline]
  rfl
theorem pe_methS (he : PE X o ta) (hn : notCall o = true) (c : Cls X.K Cc) (hm : Meth X.K Cc mn f) (F : FnOk X.prog X.w X.K X.mg X.base CX k f fd ps sp) (hr : Room k X.A) (hb : Binds X.K fd ps []) (hx : ∀ σ, PassesAt CX X σ (E σ)) (ha : PA X (e :: es) t)
    (hst : starEach (e :: es) X.env = (false, eval e X.env) :: starEach es X.env) (hpl : (backTo pos (starEach es X.env)).any (·.1) = false) (hpl2 : (backTo pos (starEach (e :: es) X.env)).any (·.1) = false) (hl : (e :: es).length < 30) (hline : (apos.endLine == pos.line) = true) :
    PE X (.Call (.Attribute o mn apos) (e :: es) [] pos) (tMethS Cc mn sp E ta t) := by
  refine ⟨fun pins s σ H Q I h => ?_⟩
  refine PySem.W.methodCall_KW (thn (he.run pins s σ H _ I h) fun u s1 ⟨x, H1, I1, rx, a, dx, fs, ex, ea, l, q⟩ => ?_) (meth_ev hn hpl2 hl hline)
  subst ex
  obtain rfl : u = Value.ref a := rx
  refine getmeth_ok I1 ea c hm l ?_
  refine PySem.W.callWith_K (first := [.ref a]) (h₀ := X.base) I.ok.mod.kin hm.kp (thn (ha.run pos pins s1 σ H1 _ I1 q) fun us s2 ⟨vs, H2, I2, r, q2⟩ => ⟨I2.kIn, ?_⟩) hst hpl
  exact run_fnS (us := .ref a :: us) (vs := .ref a :: vs) F hr hb (hx σ) I2 (.cons rfl r) q2
theorem pe_methS0 (he : PE X o ta) (hn : notCall o = true) (c : Cls X.K Cc) (hm : Meth X.K Cc mn f) (F : FnOk X.prog X.w X.K X.mg X.base CX k f fd ps sp) (hr : Room k X.A) (hb : Binds X.K fd ps []) (hx : ∀ σ, PassesAt CX X σ (E σ)) (hline : (apos.endLine == pos.line) = true) :
    PE X (.Call (.Attribute o mn apos) [] [] pos) (tMethS Cc mn sp E ta tNil) := by
  refine ⟨fun pins s σ H Q I h => ?_⟩
  refine PySem.W.methodCall_KW (thn (he.run pins s σ H _ I h) fun u s1 ⟨x, H1, I1, rx, a, dx, fs, ex, ea, l, q⟩ => ?_) (meth_ev hn (by rfl) (by decide) hline)
  subst ex
  obtain rfl : u = Value.ref a := rx
  refine getmeth_ok I1 ea c hm l ?_
  exact PySem.W.callWith_K0 (first := [.ref a]) I1.kIn hm.kp (run_fnS (us := [.ref a]) (vs := [.ref a]) F hr hb (hx σ) I1 (.cons rfl .nil) q)
/-- == by the class's own __eq__, which raises nothing -/
def rEqO (Cc : Addr) (sp : Sp) : R2 := fun x y H Q => ∃ a b dx dy fs gs, x = .ref a ∧ y = .ref b ∧ H a = some (.ins Cc dx fs) ∧ H b = some (.ins Cc dy gs) ∧ sp [x, y] H (fun v H' => (∃ t, v = .bl t) ∧ Q v H') fun _ _ _ => False
theorem op_eqO (F : FnOk X.prog X.w X.K X.mg X.base CX k f fd ps sp) (hr : Room k X.A) (hu : X.A.units < cLine) (hs : PySem.W.findIn X.K (.ref Cc) "__eq__" = some (some (.ref f))) (hf : PySem.W.isFn X.K (.ref f) = true) (hb : Binds X.K fd ps []) (hx : ∀ σ, PassesAt CX X σ fun _ _ _ => False) : OpR X (compareOp .Eq) (rEqO Cc sp) := by
  intro pins s σ H x y u v Q I rx ry h
  obtain ⟨a, b, dx, dy, fs, gs, rfl, rfl, ha, hb', hsp⟩ := h
  cases rx
  cases ry
  obtain ⟨mA, J, _⟩ := ins_get I.hok ha
  obtain ⟨mB, J', _⟩ := ins_get I.hok hb'
  obtain ⟨od, J, _⟩ := J.look
  obtain ⟨od', J', _⟩ := J'.look
  obtain ⟨m, hF⟩ := I.fr
  show wpAny (model X.prog X.w) X.A (richCompare .Eq (.ref a) (.ref b)) (EP X pins σ Q) X.xe s
  refine PySem.W.cmp_K (op := .Eq) (tb := .ref Cc) hu hF I.ok.mod.kin J J'.type (by simp [PySem.W.notFirst]) hs hf ?_
  have r2 : Vals [V.ref a, V.ref b] [Value.ref a, Value.ref b] := .cons rfl (.cons rfl .nil)
  refine wpAny_mono (run_fnS (us := [.ref a, .ref b]) (vs := [.ref a, .ref b]) F hr hb (E := fun _ _ _ _ => False) (hx σ) I r2 hsp) (fun w s' z => ?_) fun _ _ e => e
  obtain ⟨v, H', I', rz, ⟨t, rfl⟩, q⟩ := z
  cases rz
  exact ⟨.bl t, H', I', rfl, q⟩
end
section
variable {G : Wd} {C : Cb} {K : Ck} {N : List Str} {sc : Scope} {calm : Bool} {X : Cx} {W : WX} {xa : Option (Addr × Nat × Addr)} {k : Nat} {a b c : Expr} {es : List Expr} {pos : Pos} {oa ob oc : En → Store → Out D} {os : En → Store → Out (List D)}
  {m m1 : List Addr} {en : En} {S : Store} {σ : Sl} {H H1 : Hp} {Q : VK}
theorem l_new {x : Str} {p1 : Pos} {cl f : Nat} (cn : Cn G C K N X W xa sc true) (hg : glB sc x = true) (ho : okName x = true) (hc : K.cls[cl]? = some x) (hf : K.inis.contains (cl, f) = true) (hs : (a :: es).all notStar = true) (h : PA X (a :: es) (tA G k W xa os)) :
    PE X (.Call (.Name x p1) (a :: es) [] pos) (tE G k W xa fun en S => (os en S).bind fun ds S1 => newD C cl f ds S1) := by
  obtain ⟨hic, hm, j, fa, fd, ps, F, hr, M, hb⟩ := cn.ins rfl cl f x hf hc
  have hs2 := hs
  rw [List.all_cons, Bool.and_eq_true] at hs2
  rw [← cn.sce] at hg
  refine (pe_makeS M F hr (glB_ok hg) hm hb (fun σ => passAt cn.tk σ) h (okName_dbg ho) (star_cons hs2.1 es X.env) (star_none hs2.2 X.env pos)).of fun σ H Q ⟨m, en, S, re, rs, p⟩ => ?_
  refine seqA re rs p fun ds S1 m1 H1 vs x1 re1 rs1 r1 p1 => ?_
  intro x dx hx hdx hne
  unfold newD at p1
  cases q : Ps ds with
  | none => rw [q] at p1; exact p1.elim
  | some xs =>
    rw [q] at p1
    dsimp only at p1
    have f1 : F2 (RD G m1 H1) xs vs := Ps_f2 q r1
    have sm1 : Same H1 (upd H1 dx (.own x)) := same_new hdx
    have hx2 : (upd H1 dx (.own x)) x = none := by rw [upd_ne (Ne.symm hne)]; exact hx
    have sm2 : Same H1 (upd (upd H1 dx (.own x)) x (.ins (G.ca cl) dx [])) := fun a o e => same_new hx2 a o (sm1 a o e)
    have xm : x ∉ m1 := rs1.nt.ne hx
    have nd : (m1 ++ [x]).Nodup := List.nodup_append.mpr ⟨rs1.nd, by simp, fun a ha b hb => by
      simp at hb; subst hb
      intro z; subst z
      exact xm ha⟩
    have ex0 : Ex0 m1 H1 (m1 ++ [x]) (upd (upd H1 dx (.own x)) x (.ins (G.ca cl) dx [])) := fun a o e n => ⟨sm2 a o e, fun z => by
      rcases List.mem_append.mp z with z | z
      · exact n z
      · rw [List.mem_singleton.mp z, hx] at e
        cases e⟩
    have hat : (m1 ++ [x])[m1.length + 0]? = some x := by simp
    refine .inr ⟨m1.length, m1 ++ [x], [.ins cl [] []], .r 0 :: xs.map D.p, ⟨by simp, nd, ?_, ?_⟩, .cons ⟨x, hat, rfl⟩ ?_, ?_⟩
    · rw [List.take_append_of_le_length (Nat.le_refl _), List.take_length]
      exact rs1.nt.same sm2
    · intro n c a h1 h2
      cases n with
      | succ n => cases h1
      | zero =>
        cases h1
        rw [hat] at h2
        cases h2
        exact ⟨dx, [], upd_same, ⟨hic, fun k hk => by cases hk⟩, rfl, .nil⟩
    · exact .of_map D.p (f1.mono fun d v h => RD.mono ex0 rs1.nt d v h)
    · have back : ∀ {m' : List Addr} {H' : Hp}, Ext m1.length (m1 ++ [x]) (upd (upd H1 dx (.own x)) x (.ins (G.ca cl) dx [])) m' H' → Same H1 H' := fun xx a o e => xx.keep a o (sm2 a o e) fun z => by
        rw [List.drop_left] at z
        rw [List.mem_singleton.mp z, hx] at e
        cases e
      cases qo : C.cs f (.r 0 :: xs.map D.p) [.ins cl [] []] with
      | stuck => rw [qo] at p1; exact p1.elim
      | exc c' y S2 =>
        rw [qo] at p1
        intro m' H' d v xx rs' hd rd
        obtain ⟨r, rfl, _⟩ := xx.pre
        exact p1 m1 H' d v (.same rs1.le (back xx)) (rs1.same (back xx)) hd (RD.sub (fun a ha => List.mem_append_left _ (List.mem_append_left _ ha)) _ _ rd)
      | ok d S2 =>
        rw [qo] at p1
        cases d with
        | p z =>
          cases z with
          | non =>
            unfold newR at p1
            dsimp only at p1
            cases q8 : frz 8 S2 (.r 0) with
            | none => rw [q8] at p1; exact p1.elim
            | some y =>
              rw [q8] at p1
              intro m' H' b xx rs' rd
              have eb : b = .non := by
                have z : RD G m' H' .non b := rd
                simpa only [RD] using z
              refine ⟨eb, ?_⟩
              obtain ⟨r, rfl, _⟩ := xx.pre
              rw [List.append_assoc] at rs'
              have rdx : RD G m1 H' y (.ref x) := frz_rd rs' 8 (.r 0) y (.ref x) q8 ⟨x, by simp, rfl⟩
              exact p1 m1 H' (.ref x) (.same rs1.le (back xx)) (rs1.same (back xx)) rdx
          | _ => exact p1.elim
        | _ => exact p1.elim
theorem zip_none {g : Str} {fa : Nat → Str} : ∀ {ks : List Nat} {ws : List V}, (∀ k ∈ ks, fa k ≠ g) → ((ks.map fa).zip ws).lookup g = none
  | [], _, _ => rfl
  | k :: ks, [], _ => rfl
  | k :: ks, w :: ws, h => by
    rw [List.map_cons, List.zip_cons_cons, List.lookup_cons]
    have q : (g == fa k) = false := beq_eq_false_iff_ne.mpr fun z => h k List.mem_cons_self z.symm
    rw [q]
    exact zip_none fun j hj => h j (List.mem_cons_of_mem _ hj)
theorem isC_ins {cl : Nat} {d : D} (h : isC cl d = true) : ∃ ks xs, d = .p (.ins cl ks xs) := by
  unfold isC at h
  split at h
  · rename_i c ks xs
    rw [beq_iff_eq] at h
    subst h
    exact ⟨ks, xs, rfl⟩
  · cases h
/-- behind the arguments of a call on trees -/
theorem callD_post {sp' : Sp} {cl f : Nat} {S1 : Store} {ds : List D} {vs : List V} (rs1 : RS G k m1 H1 S1) (r1 : F2 (RDD G k m1 H1) ds vs) (p1 : Post G k (RDD G k) W m1 σ H1 Q (callD C f ds S1)) : spF G C f vs H1 Q (WE W σ) := by
  unfold callD at p1
  split at p1
  · rename_i xs q
    refine .inl ⟨m1, xs, rs1.nd, rs1.nt, Ps_f2 q r1, ?_⟩
    split at p1
    · rename_i y e
      rw [e]
      exact fun H' v s r => p1 m1 H' v (.same rs1.le s) (rs1.same s) r
    · rename_i c' y e
      rw [e]
      exact fun H' d v s e1 r => p1 m1 H' d v (.same rs1.le s) (rs1.same s) e1 r
    · exact p1.elim
  · exact p1.elim
theorem l_mth {o : Expr} {g : Str} {ap : Pos} {cl f : Nat} (cn : Cn G C K N X W xa sc true) (hn : notCall o = true) (hf : K.mts.contains (cl, f, g) = true) (hs : es.all notStar = true) (hl : es.length < 30) (hline : (ap.endLine == pos.line) = true) (ho : PE X o (tE G k W xa oa)) (h : PA X es (tA G k W xa os)) (h0 : es = [] → ∀ en S, os en S = .ok [] S) :
    PE X (.Call (.Attribute o g ap) es [] pos) (tE G k W xa fun en S => (oa en S).bind fun x S1 => match isC cl x with
      | true => (os en S1).bind fun ds S2 => callD C f (x :: ds) S2
      | false => .stuck) := by
  obtain ⟨hic, hna, j, fa, fd, ps, F, hr, M, hb⟩ := cn.mts rfl cl f g hf
  have conv : ∀ {t : TA} (_ : ∀ σ H R, tA G k W xa os σ H R → t σ H R), ∀ σ H Q, tE G k W xa (fun en S => (oa en S).bind fun x S1 => match isC cl x with
      | true => (os en S1).bind fun ds S2 => callD C f (x :: ds) S2
      | false => .stuck) σ H Q → tMethS (G.ca cl) g (spF G C f) (WE W) (tE G k W xa oa) t σ H Q := fun {t} ht σ H Q ⟨m, en, S, re, rs, p⟩ => by
    refine seqE re rs p fun d S1 m1 H1 v x1 re1 rs1 r1 p1 => ?_
    cases q : isC cl d with
    | false => rw [q] at p1; exact p1.elim
    | true =>
      rw [q] at p1
      obtain ⟨ks, xs, rfl⟩ := isC_ins q
      obtain ⟨a, dx, ws, rfl, h2, ⟨h3, h4, h5⟩, h6, h7⟩ := RV_ins (show RD G m1 H1 (.ins cl ks xs) v from r1)
      refine ⟨a, dx, _, rfl, h2, zip_none fun i hi => hna i (h5 i hi), ht _ _ _ ?_⟩
      refine seqA re1 rs1 p1 fun ds S2 m2 H2 vs x2 re2 rs2 r2 p2 => ?_
      exact callD_post (sp' := spF G C f) (cl := cl) rs2 (.cons (r1.mono x2 rs1.nt) r2) p2
  cases es with
  | nil =>
    exact (pe_methS0 ho hn (cn.rec_ cl hic).1 M F hr hb (fun σ => passAt cn.tk σ) hline).of fun σ H Q q => conv (t := tNil) (fun σ H R ⟨m, en, S, re, rs, z⟩ => by
      rw [h0 rfl] at z
      exact z m H [] (.refl rs.le) rs .nil) σ H Q q
  | cons e es =>
    have hs2 := hs
    rw [List.all_cons, Bool.and_eq_true] at hs2
    exact (pe_methS ho hn (cn.rec_ cl hic).1 M F hr hb (fun σ => passAt cn.tk σ) h (star_cons hs2.1 es X.env) (star_none hs2.2 X.env pos) (star_none hs X.env pos) hl hline).of fun σ H Q q => conv (t := tA G k W xa os) (fun _ _ _ z => z) σ H Q q
theorem l_isO {x y : Str} {p1 p2 : Pos} {cl : Nat} (cn : Cn G C K N X W xa sc calm) (hb : bName K sc x "isinstance" = true) (hn : notStar a = true) (hg : glB sc y = true) (ho : okName y = true) (hc : K.cls[cl]? = some y) (hi : K.iso.contains cl = true) (ha : PE X a (tE G k W xa oa)) :
    PE X (.Call (.Name x p1) [a, .Name y p2] [] pos) (tE G k W xa fun en S => (oa en S).bind fun x S1 => isOD cl x S1) := by
  obtain ⟨ic, hm⟩ := cn.iso cl y hi hc
  rw [← cn.sce] at hb hg
  obtain ⟨rfl, hg0, hm0⟩ := bName_ok hb cn.fre
  have s1 := star_cons hn [.Name y p2] X.env
  have s2 : starEach [.Name y p2] X.env = (false, eval (.Name y p2) X.env) :: starEach [] X.env := rfl
  have hte : PE X (.Name y p2) (tC (.ref (G.ca cl))) := pe_glob (glB_ok hg) hm rfl (okName_dbg ho)
  refine (pe_callB (C8.call_isC ic) hg0 hm0 (by decide +kernel) (pa_cons ha (pa_cons hte pa_nil s2) s1) (he := s1) (hpl := rfl)).of fun σ H Q ⟨m, en, S, re, rs, p⟩ => ?_
  refine seqE re rs p fun d S1 m1 H1 v x1 re1 rs1 r1 p1 => ?_
  unfold isOD at p1
  cases q : isC cl d with
  | false => rw [q] at p1; exact p1.elim
  | true =>
    rw [q] at p1
    obtain ⟨ks, xs, rfl⟩ := isC_ins q
    obtain ⟨a, dx, ws, rfl, h2, _, _, _⟩ := RV_ins (show RD G m1 H1 (.ins cl ks xs) v from r1)
    refine ⟨a, dx, _, rfl, h2, p1.ok_now rs1 ?_⟩
    show RD G m1 H1 _ _
    simp only [RD]
theorem l_eqo {cl f : Nat} (cn : Cn G C K N X W xa sc true) (hf : K.eqs.contains (cl, f) = true) (hn : notSet b = true) (ha : PE X a (tE G k W xa oa)) (hb : PE X b (tE G k W xa ob)) :
    PE X (.Compare a [.Eq] [b] pos) (tE G k W xa fun en S => (oa en S).bind fun x S1 => (ob en S1).bind fun y S2 => eqoD C cl f x y S2) := by
  obtain ⟨hic, j, fa, fd, ps, F, hr, h1, h2, hbn⟩ := cn.eqs rfl cl f hf
  have hx : ∀ σ, PassesAt (L2.CX X.prog X.w) X σ fun _ _ _ => False := fun σ pins H s e s' I c => by
    obtain ⟨_, _, _, _, _, _, _, _, _, _, _, _, z⟩ := c
    exact z.elim
  refine (pe_cmpR (op_eqO F hr (by have := cn.un; omega) h1 h2 hbn hx) ha hb (notSet_mark hn)).of fun σ H Q ⟨m, en, S, re, rs, p⟩ => ?_
  refine seqE re rs p fun d S1 m1 H1 v x1 re1 rs1 r1 p1 => seqE re1 rs1 p1 fun d2 S2 m2 H2 v2 x2 re2 rs2 r2 p2 => ?_
  have r1' := r1.mono x2 rs1.nt
  unfold eqoD at p2
  cases q : isC cl d with
  | false => rw [q] at p2; exact p2.elim
  | true =>
    cases q2 : isC cl d2 with
    | false => rw [q, q2] at p2; exact p2.elim
    | true =>
      rw [q, q2] at p2
      dsimp only at p2
      obtain ⟨ks, xs, rfl⟩ := isC_ins q
      obtain ⟨ks2, xs2, rfl⟩ := isC_ins q2
      obtain ⟨a1, dx, ws, rfl, g2, _, _, _⟩ := RV_ins (show RD G m2 H2 (.ins cl ks xs) v from r1')
      obtain ⟨a2, dx2, ws2, rfl, g3, _, _, _⟩ := RV_ins (show RD G m2 H2 (.ins cl ks2 xs2) v2 from r2)
      refine ⟨a1, a2, dx, dx2, _, _, rfl, rfl, g2, g3, .inl ⟨m2, [.ins cl ks xs, .ins cl ks2 xs2], rs2.nd, rs2.nt, .cons r1' (.one r2), ?_⟩⟩
      have e0 : callD C f [.p (.ins cl ks xs), .p (.ins cl ks2 xs2)] S2 = match C.cp f [.ins cl ks xs, .ins cl ks2 xs2] with
        | .ok x => .ok (.p x) S2
        | .exc c x => .exc c x S2
        | .stuck => .stuck := rfl
      rw [e0] at p2
      cases qo : C.cp f [.ins cl ks xs, .ins cl ks2 xs2] with
      | stuck => rw [qo] at p2; exact p2.elim
      | exc c y => rw [qo] at p2; exact p2.elim
      | ok y =>
        rw [qo] at p2
        cases y with
        | bl t =>
          intro H' v s r
          have ev : v = .bl t := by simpa only [RD] using r
          exact ⟨⟨t, ev⟩, p2 m2 H' v (.same rs2.le s) (rs2.same s) r⟩
        | _ => exact p2.elim
end
end Tw

set_option linter.all false
set_option Elab.async false
set_option maxRecDepth 100000
set_option maxHeartbeats 2000000
/-! TwC6d: dicts; list(range(..)). -/
namespace Tw
open PySem PySem.Spec PyProof.Rows L2

/-! ### dict of a tuple of pairs -/
/-- the value is a pair of this key and this value -/
def PrV (K : PySem.W.Frag) (H : Hp) (v : V) (q : L2.Key × V) : Prop := ∃ t, v = .ref t ∧ SqT K H t [kV q.1, q.2]
theorem merge_new : ∀ (more acc : List (L2.Key × V)), ((acc ++ more).map (·.1)).Nodup → mergeK acc more = acc ++ more
  | [], acc, _ => by simp [mergeK]
  | q :: r, acc, nd => by
    have h0 : valV acc q.1 = none := by
      cases e : valV acc q.1 with
      | none => rfl
      | some v =>
        exfalso
        unfold valV at e
        cases e2 : acc.find? (fun kv => decide (kv.1 = q.1)) with
        | none => rw [e2] at e; cases e
        | some p =>
          have hm := List.mem_of_find?_eq_some e2
          have hk := List.find?_some e2
          rw [List.map_append, List.nodup_append] at nd
          exact nd.2.2 _ (List.mem_map.mpr ⟨p, hm, rfl⟩) q.1 (List.mem_map.mpr ⟨q, List.mem_cons_self, rfl⟩) (of_decide_eq_true hk)
    have e1 : mergeK acc (q :: r) = mergeK (putK acc q.1 q.2) r := rfl
    rw [e1, putK_new q.2 h0, merge_new r (acc ++ [(q.1, q.2)]) (by simpa using nd)]
    simp
section
variable {X : Cx} {pins : List (Addr × Obj)} {σ : L2.St} {H : Hp} {s : Shared}
theorem pairs_raw (I : Inv X pins σ H s) {vs : List V} {kvs : List (L2.Key × V)} (f : F2 (PrV X.K H) vs kvs) : ∀ {its : List Value}, Vals vs its → ∃ (Ts : List Addr) (ps : List (Value × Value)) (ms : List (L2.Key × Value)),
    its = Ts.map Value.ref ∧ Ts.length = ps.length ∧ KV kvs ms ∧ ms.length = ps.length ∧ (∀ (j : Nat) (k v : Value), ps[j]? = some (k, v) → ∃ t, Ts[j]? = some t ∧ PairAt s.heap t k v) ∧
    ∀ (i : Nat) (key v : Value), ps[i]? = some (key, v) → ∃ k, ms[i]? = some (k, v) ∧ (mixKind X.prog X.w).is k key = true := by
  induction f with
  | nil =>
    intro its r
    cases r
    exact ⟨[], [], [], rfl, rfl, .nil, rfl, fun j k v e => by simp at e, fun i key v e => by simp at e⟩
  | @cons v q vs kvs h t ih =>
    intro its r
    cases r with
    | cons r1 r2 =>
      obtain ⟨Ts, ps, ms, g1, g2, g3, g4, g5, g6⟩ := ih r2
      obtain ⟨a, rfl, hs⟩ := h
      cases r1
      obtain ⟨jts, rj, pt, _⟩ := I.tuple hs
      cases rj with
      | cons ra rb =>
        cases rb with
        | cons rb rc =>
          cases rc
          rename_i ku vu
          refine ⟨a :: Ts, (ku, vu) :: ps, (q.1, vu) :: ms, by rw [g1]; rfl, by simp [g2], .cons ⟨rfl, rb⟩ g3, by simp [g4], fun j k v e => ?_, fun i key v e => ?_⟩
          · cases j with
            | zero =>
              cases e
              exact ⟨a, rfl, .inl pt⟩
            | succ j => exact g5 j k v e
          · cases i with
            | zero =>
              cases e
              exact ⟨q.1, rfl, kV_is ra⟩
            | succ i => exact g6 i key v e
theorem call_dictT (hcm : X.calm = true) : CallR X (.type "dict") (fun xs H Q => ∃ (a : Addr) (vs : List V) (kvs : List (L2.Key × V)), xs = [.ref a] ∧ Tq H a vs ∧ F2 (PrV X.K H) vs kvs ∧ (kvs.map (·.1)).Nodup ∧ kvs.length ≤ sizeLine ∧ ∀ p, H p = none → Q (.ref p) (upd H p (.dK kvs))) := by
  intro pins s σ H xs us Q I r ⟨a, vs, kvs, ex, ⟨o, ho, hdn⟩, hp, nd, hz, q⟩
  subst ex
  obtain ⟨u, rfl, rx⟩ := vals1 r
  cases rx
  obtain ⟨hg, _, its, rv, o2, hg2, hc, n, hdat⟩ := I.hok a _ ho
  rw [hg] at hg2
  cases hg2
  obtain ⟨Ts, ps, ms, e1, e2, e3, e4, e5, e6⟩ := pairs_raw I hp rv
  have at_ : ∀ (j : Nat) (t : Addr), Ts[j]? = some t → Ts.getD j 0 = t := fun j t e => by rw [List.getD_eq_getElem?_getD, e]; rfl
  have hit : PairItems s.heap its.toArray (fun j => Ts.getD j 0) ps := by
    refine ⟨by rw [List.size_toArray, e1, List.length_map, e2], fun j k v e => ?_⟩
    obtain ⟨t, ht, hpa⟩ := e5 j k v e
    show its.toArray[j]? = some (Value.ref (Ts.getD j 0)) ∧ PairAt s.heap (Ts.getD j 0) k v
    rw [at_ j t ht]
    refine ⟨?_, hpa⟩
    rw [List.getElem?_toArray, e1, List.getElem?_map, ht]
    rfl
  have hl : kvs.length = ms.length := e3.length
  have hm : (s.heap.objs.size == sysModules) = false := beq_eq_false_iff_ne.mpr (Nat.ne_of_gt I.big)
  refine _root_.PySem.call_dict_pairs (knd := mixKind X.prog X.w) (kvs := ms) (PairArg.tuple a its.toArray (fun j => Ts.getD j 0) ps) (I.ok.hd hcm) ⟨⟨o, n, hg, hc, hdn, hdat⟩, hit⟩ ⟨e4, e6⟩ (by rw [← e4, ← hl]; exact hz) fun h' tk hd' hk => ?_
  have em : mergeK [] kvs = kvs := merge_new kvs [] nd
  have kv2 : KV kvs (merged [] ms) := by
    have := KV.merge e3 (.nil : KV ([] : List (L2.Key × V)) [])
    rwa [em] at this
  exact ⟨.ref s.heap.objs.size, _, I.laid (t' := tk) (o := .dK kvs) (fun b ob e => hk b ob (fun z => by cases z) e) (Nat.le_refl _) ⟨hz, hm, _, kv2, hd'⟩, rfl, q _ I.fresh⟩
end
section
variable {G : Wd} {C : Cb} {K : Ck} {N : List Str} {sc : Scope} {calm : Bool} {X : Cx} {W : WX} {xa : Option (Addr × Nat × Addr)} {k : Nat} {a b c : Expr} {es : List Expr} {pos : Pos} {oa ob oc : En → Store → Out D} {os : En → Store → Out (List D)}
  {m m1 : List Addr} {en : En} {S S1 : Store} {σ : Sl} {H H1 : Hp} {Q : VK}
theorem keyP_kV {x : P} {a : Ky} {v : V} (e : keyP x = some a) (r : RD G m H x v) : v = kV a := by
  cases x with
  | int i =>
    cases e
    exact (show v = V.int i by simpa only [RD] using r)
  | str s =>
    cases e
    simp only [RD] at r
    exact r.1
  | _ => cases e
theorem prs_f2 : ∀ {xs : List P} {vs : List V} {q : List Ky × List P}, prsP xs = some q → F2 (RD G m H) xs vs → ∃ ws, F2 (PrV G.K H) vs (q.1.zip ws) ∧ q.1.length = ws.length ∧ F2 (RD G m H) q.2 ws ∧ q.1.length = xs.length
  | [], _, q, e, f => by
    cases e
    cases f
    exact ⟨[], .nil, rfl, .nil, rfl⟩
  | x :: xs, _, q, e, f => by
    unfold prsP at e
    split at e
    · rename_i z
      cases z
    · rename_i kx vx r z
      injection z with z1 z2
      subst z1 z2
      cases f with
      | cons f1 f2 =>
        cases e1 : keyP kx with
        | none => rw [e1] at e; cases e
        | some ky =>
          cases e2 : prsP xs with
          | none => rw [e1, e2] at e; cases e
          | some q2 =>
            rw [e1, e2] at e
            cases e
            obtain ⟨ws, g1, g2, g3, g4⟩ := prs_f2 e2 f2
            obtain ⟨t, us, rfl, h2, _, h4⟩ := RV.tup (.inl f1)
            obtain ⟨w1, w2, rfl, h5, h6⟩ := h4.inv2
            rw [keyP_kV e1 h5] at h2
            exact ⟨w2 :: ws, .cons ⟨t, rfl, h2⟩ g1, by simp [g2], .cons h6 g3, by simp [g4]⟩
    · cases e
theorem zip_keys : ∀ {ks : List Ky} {ws : List V}, ks.length = ws.length → (ks.zip ws).map (·.1) = ks
  | [], _, _ => rfl
  | _ :: _, [], h => by cases h
  | k :: ks, w :: ws, h => by simp [zip_keys (Nat.succ.inj h)]
theorem l_dic {x : Str} {p1 : Pos} (hcm : X.calm = true) (hK : X.K = G.K) (hf : ∀ x, K.fre.contains x = true → X.mg x = none) (hb : bName K X.env.scope x "dict" = true) (hn : notStar a = true) (ha : PE X a (tE G k W xa oa)) :
    PE X (.Call (.Name x p1) [a] [] pos) (tE G k W xa fun en S => (oa en S).bind fun x S1 => dicD x S1) := by
  obtain ⟨rfl, hg, hm⟩ := bName_ok hb hf
  refine (pe_callTy (call_dictT hcm) hg hm (by decide +kernel) (pa_cons ha pa_nil (star_cons hn [] X.env)) (he := star_cons hn [] X.env)).of fun σ H Q ⟨m, en, S, re, rs, p⟩ => ?_
  refine seqE re rs p fun d S1 m1 H1 v x1 re1 rs1 r1 p1 => ?_
  unfold dicD at p1
  split at p1
  · rename_i xs
    obtain ⟨a1, vs, rfl, h2, h3, h4⟩ := RV.tupq (.inl (show RD G m1 H1 (.tup xs) v from r1))
    split at p1
    · rename_i q eq
      split at p1
      · rename_i nd
        obtain ⟨ws, g1, g2, g3, g4⟩ := prs_f2 eq h4
        have lz : (q.1.zip ws).length = q.1.length := by rw [List.length_zip]; omega
        refine ⟨a1, vs, q.1.zip ws, rfl, h2, by rw [hK]; exact g1, by rw [zip_keys g2]; exact nd, by rw [lz, g4]; exact h3, fun pp hpp => ?_⟩
        have ln : q.2.length = ws.length := g3.len
        refine p1 (m1 ++ [pp]) _ (.ref pp) (.push rs1.le hpp) (rs1.push hpp ⟨ws, upd_same, by rw [g4]; exact h3, by rw [List.length_map]; omega, ?_⟩) ⟨pp, ?_, rfl⟩
        · exact (f2_Ps (k := k) g3).mono fun d v h => RDD.mono (.push rs1.le hpp) rs1.nt h
        · rw [← rs1.len, List.getElem?_append_right (Nat.le_refl _), Nat.sub_self]
          rfl
      · exact p1.elim
    · exact p1.elim
  · exact p1.elim
theorem valK_f2 {R : D → V → Prop} (k : Ky) : ∀ {ks : List Ky} {ds : List D} {vs : List V}, ks.length = ds.length → F2 R ds vs → (valK ks ds k = none ∧ valV (ks.zip vs) k = none) ∨ ∃ d v, valK ks ds k = some d ∧ valV (ks.zip vs) k = some v ∧ R d v
  | [], _, _, _, _ => .inl ⟨rfl, rfl⟩
  | _ :: _, _, _, h, .nil => by cases h
  | k' :: ks, d :: ds, v :: vs, h, .cons r f => by
    by_cases e : k' = k
    · refine .inr ⟨d, v, ?_, ?_, r⟩
      · simp [valK, e]
      · simp [valV, e]
    · have h1 : valK (k' :: ks) (d :: ds) k = valK ks ds k := by simp [valK, e]
      have h2 : valV ((k' :: ks).zip (v :: vs)) k = valV (ks.zip vs) k := by simp [valV, e]
      rw [h1, h2]
      exact valK_f2 k (Nat.succ.inj h) f
theorem l_dge {o : Expr} {ap cp : Pos} {oo : En → Store → Out D} (hu : X.A.units + 1 < cLine) (hn : notCall o = true) (hs : notStar a = true) (hs2 : notStar b = true) (hl : (ap.endLine == cp.line) = true) (ho : PE X o (tE G k W xa oo)) (ha : PE X a (tE G k W xa oa)) (hb : PE X b (tE G k W xa ob)) :
    PE X (.Call (.Attribute o "get" ap) [a, b] [] cp) (tE G k W xa fun en S => (oo en S).bind fun l S1 => match isDct l S1 with
    | true => (oa en S1).bind fun y S2 => (ob en S2).bind fun z S3 => dgeD l y z S3
    | false => .stuck) := by
  have s2 := star_cons hs2 [] X.env
  have s1 := star_cons hs [b] X.env
  have tr : backTo cp (starEach [a, b] X.env) = [(false, eval a X.env), (false, eval b X.env)] := by
    rw [s1, s2] <;> rfl
  refine (pe_dget2 hu ho ha hb ⟨notCall_base hn, ?_, hl, tr⟩).of fun σ H Q ⟨m, en, S, re, rs, p⟩ => ?_
  · rw [tr] <;> rfl
  refine seqE re rs p fun d S1 m1 H1 v x1 re1 rs1 r1 p1 => ?_
  cases q : isDct d S1 with
  | false => rw [q] at p1; exact p1.elim
  | true =>
    rw [q] at p1
    unfold isDct at q
    split at q
    · rename_i n
      obtain ⟨a1, ha1, rfl⟩ := r1
      split at q
      · rename_i ks ds e
        obtain ⟨vs, g1, g2, g3, g4⟩ := rs1.ok n _ a1 e ha1
        refine ⟨a1, rfl, .inl ⟨_, .inl g1⟩, ?_⟩
        refine seqE re1 rs1 p1 fun y S2 m2 H2 v2 x2 re2 rs2 r2 p2 => seqE re2 rs2 p2 fun z S3 m3 H3 v3 x3 re3 rs3 r3 p3 => ?_
        unfold dgeD at p3
        split at p3
        · rename_i l' n' y' e1
          cases e1
          split at p3
          · rename_i ks' ds' ky e3 e4
            obtain ⟨ws, f1, f2, f3, f4⟩ := rs3.ok n _ a1 e3 (x3.ref (x2.ref ha1))
            have ek : v2 = kV ky := keyP_kV e4 (show RD G m2 H2 y' v2 from r2)
            subst ek
            refine ⟨_, DGet.k f1, p3.ok_now rs3 ?_⟩
            rcases valK_f2 ky f3 f4 with ⟨h1, h2⟩ | ⟨d1, v1, h1, h2, h3⟩
            · rw [h1, h2]; exact r3
            · rw [h1, h2]; exact h3
          · exact p3.elim
        · exact p3.elim
      · cases q
    · cases q
/-! ### list(range(..)) -/
theorem rngO_f2 (lo : Int) : ∀ (n i : Nat), F2 (RDD G k m H) (rngIts lo 1 i n) ((List.range n).map fun j => V.int (lo + ((i + j : Nat) : Int)))
  | 0, i => .nil
  | n + 1, i => by
    rw [List.range_succ_eq_map, List.map_cons, List.map_map]
    refine .cons ?_ ?_
    · show RD G m H (.int (lo + (i : Int) * 1)) _
      simp only [RD]
      rw [Int.mul_one, Nat.add_zero]
    · have := rngO_f2 lo n (i + 1)
      have e : ((fun j => V.int (lo + ((i + j : Nat) : Int))) ∘ Nat.succ) = fun j => V.int (lo + (((i + 1) + j : Nat) : Int)) := by
        funext j
        show V.int (lo + ((i + (j + 1) : Nat) : Int)) = _
        rw [show i + (j + 1) = i + 1 + j by omega]
      rw [e]
      exact this
theorem rngO_len (lo c : Int) : ∀ (n i : Nat), (rngIts lo c i n).length = n
  | 0, _ => rfl
  | n + 1, i => by simp [rngIts, rngO_len lo c n (i + 1)]
theorem rng_new {lo hi : Int} (rs : RS G k m H S) (hn : (hi - lo).toNat ≤ line) (p : PostL G k W m σ H Q (.ok (rngIts lo 1 0 (hi - lo).toNat) S)) : ∀ q, H q = none → Q (.ref q) (upd H q (.lst (rgV lo hi))) := by
  have f := rngO_f2 (G := G) (k := k) (m := m) (H := H) lo (hi - lo).toNat 0
  have e : ((List.range (hi - lo).toNat).map fun j => V.int (lo + ((0 + j : Nat) : Int))) = rgV lo hi := by
    unfold rgV
    simp
  rw [e] at f
  exact newL rs f (by rw [rngO_len, ← line_eq]; exact hn) p
theorem near_rg {lo hi : Int} (h1 : near lo = true) (h2 : near hi = true) (h : (hi - lo).toNat ≤ line) : RgOk lo hi := by
  unfold near at h1 h2
  rw [Bool.and_eq_true, decide_eq_true_eq, decide_eq_true_eq] at h1 h2
  have e : two61 = 2 ^ 61 := by decide
  rw [e] at h1 h2
  have e2 : line = 2 ^ 24 := by decide
  rw [e2] at h
  exact ⟨by omega, by omega, by omega, by omega, h⟩
theorem l_lofr1 {x y : Str} {p1 p2 pos2 : Pos} {a1 : E} (hcm : X.calm = true) (hf : ∀ x, K.fre.contains x = true → X.mg x = none) (hb : bName K X.env.scope x "list" = true) (hb2 : bName K X.env.scope y "range" = true) (hn : notStar a = true) (ha : PE X a (tE G k W xa (ev C a1))) :
    PE X (.Call (.Name x p1) [.Call (.Name y p2) [a] [] pos2] [] pos) (tL G k W xa fun en S => (evs C [a1] en S).bind fun ds S1 => lofrL ds S1) := by
  obtain ⟨rfl, hg, hm⟩ := bName_ok hb hf
  obtain ⟨rfl, hg2, hm2⟩ := bName_ok hb2 hf
  refine (pe_listRg hcm hg hm (prg_1 hg2 hm2 ha (star_cons hn [] X.env)) (star_cons rfl [] X.env)).of fun σ H Q ⟨m, en, S, re, rs, p⟩ => ?_
  have e : ((evs C [a1] en S).bind fun ds S1 => lofrL ds S1) = (ev C a1 en S).bind fun d S1 => lofrL [d] S1 := by
    show (((ev C a1 en S).bind fun x S1 => .ok [x] S1).bind fun ds S1 => lofrL ds S1) = _
    rw [Out.bind_assoc]
    rfl
  dsimp only at p
  rw [e] at p
  refine seqEL re rs p fun d S1 m1 H1 v x1 re1 rs1 r1 p1 => ?_
  unfold lofrL walkR at p1
  split at p1
  · rename_i j e1
    cases e1
    have ev1 : v = .int j := by
      have : RD G m1 H1 (.int j) v := r1
      simpa only [RD] using this
    split at p1
    · rename_i hc
      rw [Bool.and_eq_true, decide_eq_true_eq] at hc
      have hj : (j - 0).toNat = j.toNat := by rw [Int.sub_zero]
      refine ⟨j, ev1, near_rg (lo := 0) rfl hc.1 (by rw [hj]; exact hc.2), ?_⟩
      have p3 : PostL G k W m1 σ H1 Q (.ok (rngIts 0 1 0 (j - 0).toNat) S1) := by
        rw [hj]
        exact p1
      exact rng_new (lo := 0) rs1 (by rw [hj]; exact hc.2) p3
    · exact p1.elim
  · rename_i e1; cases e1
  · rename_i e1; cases e1
  · exact p1.elim
theorem l_lofr2 {x y : Str} {p1 p2 pos2 : Pos} {a1 b1 : E} (hcm : X.calm = true) (hf : ∀ x, K.fre.contains x = true → X.mg x = none) (hb : bName K X.env.scope x "list" = true) (hb2 : bName K X.env.scope y "range" = true) (hn : notStar a = true) (hn2 : notStar b = true)
    (ha : PE X a (tE G k W xa (ev C a1))) (hbb : PE X b (tE G k W xa (ev C b1))) :
    PE X (.Call (.Name x p1) [.Call (.Name y p2) [a, b] [] pos2] [] pos) (tL G k W xa fun en S => (evs C [a1, b1] en S).bind fun ds S1 => lofrL ds S1) := by
  obtain ⟨rfl, hg, hm⟩ := bName_ok hb hf
  obtain ⟨rfl, hg2, hm2⟩ := bName_ok hb2 hf
  have st : (backTo pos2 (starEach [b] X.env)).any (·.1) = false := by rw [star_cons hn2 [] X.env] <;> rfl
  refine (pe_listRg hcm hg hm (prg_2 hg2 hm2 ha hbb (star_cons hn [b] X.env) (star_cons hn2 [] X.env) st) (star_cons rfl [] X.env)).of fun σ H Q ⟨m, en, S, re, rs, p⟩ => ?_
  have e : ((evs C [a1, b1] en S).bind fun ds S1 => lofrL ds S1) = (ev C a1 en S).bind fun d S1 => (ev C b1 en S1).bind fun d2 S2 => lofrL [d, d2] S2 := by
    show (((ev C a1 en S).bind fun x S1 => (((ev C b1 en S1).bind fun x2 S2 => .ok [x2] S2).bind fun xs S3 => .ok (x :: xs) S3)).bind fun ds S1 => lofrL ds S1) = _
    rw [Out.bind_assoc]
    congr 1
    funext d S1
    rw [Out.bind_assoc, Out.bind_assoc]
    rfl
  dsimp only at p
  rw [e] at p
  refine seqEL re rs p fun d S1 m1 H1 v x1 re1 rs1 r1 p1 => seqEL re1 rs1 p1 fun d2 S2 m2 H2 v2 x2 re2 rs2 r2 p2 => ?_
  unfold lofrL walkR at p2
  split at p2
  · rename_i e1; cases e1
  · rename_i i j e1
    cases e1
    have ev1 : v = .int i := by
      have : RD G m1 H1 (.int i) v := r1
      simpa only [RD] using this
    have ev2 : v2 = .int j := by
      have : RD G m2 H2 (.int j) v2 := r2
      simpa only [RD] using this
    split at p2
    · rename_i hc
      rw [Bool.and_eq_true, Bool.and_eq_true, decide_eq_true_eq] at hc
      exact ⟨i, j, ev1, ev2, near_rg hc.1.1 hc.1.2 hc.2, rng_new rs2 hc.2 p2⟩
    · exact p2.elim
  · rename_i e1; cases e1
  · exact p2.elim
end
end Tw

set_option linter.all false
set_option Elab.async false
set_option maxRecDepth 100000
set_option maxHeartbeats 2000000
/-! TwC6e: errors made and kept as values: C(v), e.f, isinstance(e, C). -/
namespace Tw
open PySem PySem.Spec PyProof.Rows L2
section
variable {G : Wd} {C : Cb} {K : Ck} {N : List Str} {sc : Scope} {calm : Bool} {X : Cx} {W : WX} {xa : Option (Addr × Nat × Addr)} {k : Nat} {a b c : Expr} {es : List Expr} {pos : Pos} {oa ob oc : En → Store → Out D} {os : En → Store → Out (List D)}
  {m m1 : List Addr} {en : En} {S : Store} {σ : Sl} {H H1 : Hp} {Q : VK}
theorem RV_err {c : Nat} {x : P} {v : V} (h : RD G m H (.err c x) v) : ∃ a d w, v = .ref a ∧ (H a = some (exo a (G.ca c) (some d)) ∧ H d = some (exd d [(G.fa (G.xf c), w)])) ∧ (a ∉ m ∧ d ∉ m) ∧ c ∈ G.ec ∧ RD G m H x w := by
  simp only [RD] at h
  exact h
theorem l_err {x : Str} {p1 : Pos} {cl : Nat} (cn : Cn G C K N X W xa sc true) (hg : glB sc x = true) (ho : okName x = true) (hc : K.cls[cl]? = some x) (hi : K.ecs.contains cl = true) (hn : notStar a = true) (ha : PE X a (tE G k W xa oa)) :
    PE X (.Call (.Name x p1) [a] [] pos) (tE G k W xa fun en S => (oa en S).bind fun x S1 => errD cl x S1) := by
  have hm := cn.cls cl x hc
  have xc := cn.mkx rfl cl x hi hc
  obtain ⟨j, fI, fd, ps, h1, h2, h3, h4, F⟩ := xc.ini
  have hec : cl ∈ G.ec := by
    have := cn.ecs
    rw [this] at hi
    simpa using hi
  rw [← cn.sce] at hg
  have hx : Passes (L2.CX X.prog X.w) X (fun _ _ _ => False) := fun pins σ H s e s' I c => by
    obtain ⟨_, _, _, _, _, _, _, _, _, _, _, _, z⟩ := c
    exact z.elim
  have s1 := star_cons hn [] X.env
  refine (pe_oex xc.T h1 h2 F h3 h4 hx (glB_ok hg) hm (pa_cons ha pa_nil s1) (okName_dbg ho) s1 rfl).of fun σ H Q ⟨m, en, S, re, rs, p⟩ => ?_
  refine seqE re rs p fun d S1 m1 H1 v x1 re1 rs1 r1 p1 => ?_
  unfold errD at p1
  split at p1
  · rename_i y
    refine ⟨by simp, fun a h0 => ⟨a, v, rfl, upd_same, fun dx hdx ne => ⟨rfl, ?_⟩⟩⟩
    have hd1 : H1 dx = none := by rw [upd_ne ne] at hdx; exact hdx
    have sm : Same H1 (upd (upd (upd H1 a (exo a (G.ca cl) none)) dx (exd dx [(G.fa (G.xf cl), v)])) a (exo a (G.ca cl) (some dx))) := fun b o e => by
      have nb : b ≠ a := ne_of_none e h0
      have nd : b ≠ dx := ne_of_none e hd1
      rw [upd_ne nb, upd_ne nd, upd_ne nb]
      exact e
    refine p1 m1 _ _ (.same rs1.le sm) (rs1.same sm) ?_
    show RD G m1 _ (.err cl y) (.ref a)
    unfold RD
    refine ⟨a, dx, v, rfl, ⟨upd_same, by rw [upd_ne ne, upd_same]⟩, ⟨rs1.nt.ne h0, rs1.nt.ne hd1⟩, hec, ?_⟩
    exact RD.mono (Ext.same rs1.le sm).ex0 rs1.nt y v r1
  · exact p1.elim
theorem l_xfd {o : Expr} {f : Nat} {at_ : Str} (cn : Cn G C K N X W xa sc calm) (hn : notCall o = true) (ha : at_ = K.at_ f) (ho : PE X o (tE G k W xa oa)) : PE X (.Attribute o at_ pos) (tE G k W xa fun en S => (oa en S).bind fun x S1 => xfdD C f x S1) := by
  have e1 : at_ = G.fa f := by rw [ha, cn.fa]
  subst e1
  refine (pe_xo ho (notCall_base hn)).of fun σ H Q ⟨m, en, S, re, rs, p⟩ => ?_
  refine seqE re rs p fun d S1 m1 H1 v x1 re1 rs1 r1 p1 => ?_
  unfold xfdD at p1
  split at p1
  · rename_i c y
    split at p1
    · rename_i e2
      rw [cn.xf] at e2
      obtain ⟨a, d, w, rfl, ⟨h1, h2⟩, _, h4, h5⟩ := RV_err (show RD G m1 H1 (.err c y) v from r1)
      obtain ⟨g1, g2, g3, _⟩ := cn.erx c h4
      subst e2
      exact ⟨a, _, d, _, w, rfl, g1, g3, h1, h2, by simp, p1.ok_now rs1 h5⟩
    · exact p1.elim
  · exact p1.elim
theorem l_isx {x y : Str} {p1 p2 : Pos} {cl : Nat} (cn : Cn G C K N X W xa sc calm) (hb : bName K sc x "isinstance" = true) (hn : notStar a = true) (hg : glB sc y = true) (ho : okName y = true) (hc : K.cls[cl]? = some y) (ha : PE X a (tE G k W xa oa)) :
    PE X (.Call (.Name x p1) [a, .Name y p2] [] pos) (tE G k W xa fun en S => (oa en S).bind fun x S1 => isxD C cl x S1) := by
  rw [← cn.sce] at hb hg
  obtain ⟨rfl, hg0, hm0⟩ := bName_ok hb cn.fre
  have s1 := star_cons hn [.Name y p2] X.env
  have s2 : starEach [.Name y p2] X.env = (false, eval (.Name y p2) X.env) :: starEach [] X.env := rfl
  have hte : PE X (.Name y p2) (tC (.ref (G.ca cl))) := pe_glob (glB_ok hg) (cn.cls cl y hc) rfl (okName_dbg ho)
  refine (pe_callB call_isX hg0 hm0 (by decide +kernel) (pa_cons ha (pa_cons hte pa_nil s2) s1) (he := s1) (hpl := rfl)).of fun σ H Q ⟨m, en, S, re, rs, p⟩ => ?_
  refine seqE re rs p fun d S1 m1 H1 v x1 re1 rs1 r1 p1 => ?_
  unfold isxD at p1
  split at p1
  · rename_i c y0
    obtain ⟨a, d, w, rfl, ⟨h1, h2⟩, _, h4, h5⟩ := RV_err (show RD G m1 H1 (.err c y0) v from r1)
    cases q : C.sub c cl with
    | none => rw [q] at p1; exact p1.elim
    | some b =>
      rw [q] at p1
      obtain ⟨g1, g2, g3, _⟩ := cn.erx c h4
      refine ⟨a, _, d, _, .ref (G.ca cl), .ref (G.ca cl), b, rfl, g2, h1, h2, fun u z => z, cn.kit c cl b y h4 q hc, p1.ok_now rs1 ?_⟩
      show RD G m1 H1 _ _
      simp only [RD]
  · exact p1.elim
theorem l_isv {x y : Str} {p1 p2 : Pos} (cn : Cn G C K N X W xa sc calm) (hb : bName K sc x "isinstance" = true) (hn : notStar a = true) (hv : bName K sc y "ValueError" = true) (ha : PE X a (tE G k W xa oa)) :
    PE X (.Call (.Name x p1) [a, .Name y p2] [] pos) (tE G k W xa fun en S => (oa en S).bind fun x S1 => isvD x S1) := by
  rw [← cn.sce] at hb hv
  obtain ⟨rfl, hg0, hm0⟩ := bName_ok hb cn.fre
  obtain ⟨rfl, hg2, hm2⟩ := bName_ok hv cn.fre
  have s1 := star_cons hn [.Name "ValueError" p2] X.env
  have s2 : starEach [.Name "ValueError" p2] X.env = (false, eval (.Name "ValueError" p2) X.env) :: starEach [] X.env := rfl
  have hte : PE X (.Name "ValueError" p2) (tC (.ty "ValueError")) := pe_bltn hg2 hm2 (by decide +kernel) rfl (by decide +kernel) (by decide +kernel)
  refine (pe_callB call_isX hg0 hm0 (by decide +kernel) (pa_cons ha (pa_cons hte pa_nil s2) s1) (he := s1) (hpl := rfl)).of fun σ H Q ⟨m, en, S, re, rs, p⟩ => ?_
  refine seqE re rs p fun d S1 m1 H1 v x1 re1 rs1 r1 p1 => ?_
  unfold isvD at p1
  split at p1
  · rename_i c y0
    obtain ⟨a, d, w, rfl, ⟨h1, h2⟩, _, h4, h5⟩ := RV_err (show RD G m1 H1 (.err c y0) v from r1)
    obtain ⟨g1, g2, g3, g4⟩ := cn.erx c h4
    refine ⟨a, _, d, _, .ty "ValueError", .type "ValueError", true, rfl, g2, h1, h2, fun u z => z, g4, p1.ok_now rs1 ?_⟩
    show RD G m1 H1 _ _
    simp only [RD]
  · exact p1.elim
theorem l_exi {x y n : Str} {i cl : Nat} {p1 p2 p3 : Pos} (cn : Cn G C K N X W xa sc calm) (hi : N[i]? = some x) (hv : visB sc x = true) (ho : okName x = true) (hb : bName K sc n "isinstance" = true) (hg : glB sc y = true) (ho2 : okName y = true) (hc : K.cls[cl]? = some y) (hne : (!K.ecs.isEmpty) = true) :
    PE X (.Call (.Name n p1) [.Name x p2, .Name y p3] [] pos) (tE G k W xa fun en S => exiD C cl i en S) := by
  refine (cn.exi hi (visB_ok hv) ho hb hg ho2 hc).of fun σ H Q ⟨m, en, S, re, rs, p⟩ => ?_
  dsimp only at p
  unfold exiD at p
  split at p
  · rename_i c y0 e
    cases q : C.sub c cl with
    | none => rw [q] at p; exact p.elim
    | some b =>
      rw [q] at p
      obtain ⟨v, h1, r, d, w, h2, h3, h4, h5⟩ := re.at_ i _ e
      subst h3
      refine ⟨r, c, d, _, w, b, h2, h1, h4, cn.sec (by simpa using hne) c cl b q, q, p.ok_now rs ?_⟩
      show RD G m H _ _
      simp only [RD]
  · exact p.elim
end
end Tw

set_option linter.all false
set_option Elab.async false
set_option maxRecDepth 100000
set_option maxHeartbeats 2000000
/-! TwC7: what is walked, targets, comprehensions. -/
namespace Tw
open PySem PySem.Spec PyProof.Rows L2

structure Rdr (J : It) (P : Hp → List V → Prop) : Prop where
  go : ∀ (i : Nat) H vs, P H vs → i < vs.length → J.go i H
  stop : ∀ (i : Nat) H vs, P H vs → vs.length ≤ i → J.stop i H
  yld : ∀ (i : Nat) H vs x H', P H vs → i < vs.length → J.yld i H x H' → H' = H ∧ vs[i]? = some x
theorem rdr_list (K : PySem.W.Frag) (a : Addr) : Rdr (Itl K a) (fun H vs => SqL K H a vs) :=
  ⟨fun i H vs h hi => ⟨vs, vs[i], h, by simp [hi]⟩, fun i H vs h hi => ⟨vs, h, hi⟩, fun i H vs x H' h _ y => ⟨y.1, y.2 vs h⟩⟩
theorem rdr_tup (K : PySem.W.Frag) (a : Addr) : Rdr (Itt K a) (fun H vs => SqT K H a vs) :=
  ⟨fun i H vs h hi => ⟨vs, vs[i], h, by simp [hi]⟩, fun i H vs h hi => ⟨vs, h, hi⟩, fun i H vs x H' h _ y => ⟨y.1, y.2 vs h⟩⟩
def rngVs (lo : Int) : Nat → Nat → List V
  | _, 0 => []
  | i, n + 1 => .int (lo + i * 1) :: rngVs lo (i + 1) n
theorem rngVs_len (lo : Int) : ∀ (n i : Nat), (rngVs lo i n).length = n
  | 0, _ => rfl
  | n + 1, i => by simp [rngVs, rngVs_len lo n]
theorem rngVs_get (lo : Int) : ∀ (n i j : Nat), j < n → (rngVs lo i n)[j]? = some (.int (lo + ((i + j : Nat) : Int)))
  | 0, _, _, h => absurd h (Nat.not_lt_zero _)
  | n + 1, i, 0, _ => by simp [rngVs]
  | n + 1, i, j + 1, h => by
    simp only [rngVs, List.getElem?_cons_succ]
    rw [rngVs_get lo n (i + 1) j (by omega), show i + 1 + j = i + (j + 1) by omega]
theorem rdr_rng (lo : Int) (n : Nat) : Rdr (Itr lo n) (fun _ vs => vs = rngVs lo 0 n) :=
  ⟨fun i H vs h hi => by rw [h, rngVs_len] at hi; exact hi, fun i H vs h hi => by rw [h, rngVs_len] at hi; exact hi, fun i H vs x H' h hi y => by
    rw [h, rngVs_len] at hi
    refine ⟨y.1, ?_⟩
    rw [h, rngVs_get lo n 0 i hi, y.2, Nat.zero_add]⟩
theorem rng_f2 {G : Wd} {k : Nat} {m : List Addr} {H : Hp} (lo : Int) : ∀ (n i : Nat), F2 (RDD G k m H) (rngIts lo 1 i n) (rngVs lo i n)
  | 0, _ => .nil
  | n + 1, i => .cons (by show RD G m H _ _; simp only [RD]) (rng_f2 lo n (i + 1))
theorem rdr_str (z : Str) : Rdr (Its z) (fun _ vs => vs = z.cps.toList.map fun c => V.str ⟨#[c]⟩) :=
  ⟨fun i H vs h hi => by rw [h, List.length_map, Array.length_toList] at hi; exact hi, fun i H vs h hi => by rw [h, List.length_map, Array.length_toList] at hi; exact hi, fun i H vs x H' h hi y => by
    obtain ⟨e, c, hc, ex⟩ := y
    refine ⟨e, ?_⟩
    rw [h, List.getElem?_map, Array.getElem?_toList, hc, ex]
    rfl⟩
/-! steps of c -/
def rngVsC (lo c : Int) : Nat → Nat → List V
  | _, 0 => []
  | i, n + 1 => .int (lo + i * c) :: rngVsC lo c (i + 1) n
theorem rngVsC_len (lo c : Int) : ∀ (n i : Nat), (rngVsC lo c i n).length = n
  | 0, _ => rfl
  | n + 1, i => by simp [rngVsC, rngVsC_len lo c n]
theorem rngVsC_get (lo c : Int) : ∀ (n i j : Nat), j < n → (rngVsC lo c i n)[j]? = some (.int (lo + ((i + j : Nat) : Int) * c))
  | 0, _, _, h => absurd h (Nat.not_lt_zero _)
  | n + 1, i, 0, _ => by simp [rngVsC]
  | n + 1, i, j + 1, h => by
    simp only [rngVsC, List.getElem?_cons_succ]
    rw [rngVsC_get lo c n (i + 1) j (by omega), show i + 1 + j = i + (j + 1) by omega]
theorem rdr_rngC (lo c : Int) (n : Nat) : Rdr (Itc lo c n) (fun _ vs => vs = rngVsC lo c 0 n) :=
  ⟨fun i H vs h hi => by rw [h, rngVsC_len] at hi; exact hi, fun i H vs h hi => by rw [h, rngVsC_len] at hi; exact hi, fun i H vs x H' h hi y => by
    rw [h, rngVsC_len] at hi
    refine ⟨y.1, ?_⟩
    rw [h, rngVsC_get lo c n 0 i hi, y.2, Nat.zero_add]⟩
theorem rngC_f2 {G : Wd} {k : Nat} {m : List Addr} {H : Hp} (lo c : Int) : ∀ (n i : Nat), F2 (RDD G k m H) (rngIts lo c i n) (rngVsC lo c i n)
  | 0, _ => .nil
  | n + 1, i => .cons (by show RD G m H _ _; simp only [RD]) (rngC_f2 lo c n (i + 1))
theorem rg3 {i j c : Int} (h1 : near i = true) (h2 : near j = true) (h3 : 1 ≤ c) (h4 : c < 1048576) (h5 : stp i j c ≤ line) : RgC i j c (stp i j c) := by
  unfold near at h1 h2
  rw [Bool.and_eq_true, decide_eq_true_eq, decide_eq_true_eq] at h1 h2
  have e2 : two61 = 2305843009213693952 := rfl
  have sz : Builtin.Range.rangeSize i j c = (stp i j c : Int) := by
    unfold Builtin.Range.rangeSize stp
    rw [if_pos (show c > 0 by omega)]
    split
    · rename_i q
      have : 0 ≤ (j - i - 1) / c := Int.ediv_nonneg (by omega) (by omega)
      omega
    · rfl
  have sm : Builtin.Range.small i j c = true := by
    have hl : (line : Nat) ≤ 1000000000 := by unfold line; decide
    unfold Builtin.Range.small
    rw [sz]
    simp only [Builtin.Range.rangeFitsLong, Bool.and_eq_true, Bool.or_eq_true, decide_eq_true_eq, beq_iff_eq, show c > 0 by omega, if_true]
    omega
  exact ⟨by omega, by omega, sm, sz⟩
/-- what is walked gives the items, as long as it stands -/
def Src (G : Wd) (k : Nat) (m : List Addr) (H : Hp) (P : Hp → List V → Prop) (w : Walk) : Prop :=
  ∀ (k' : Nat) (m' : List Addr) (H' : Hp) (S' : Store), Ex0 m H m' H' → (∀ (n : Nat) (b : Addr), m[k + n]? = some b → m'[k' + n]? = some b) → RS G k' m' H' S' → still w S' = true → ∃ vs, P H' vs ∧ F2 (RDD G k' m' H') w.items vs
section
variable {G : Wd} {C : Cb} {K : Ck} {N : List Str} {sc : Scope} {calm : Bool} {X : Cx} {W : WX} {xa : Option (Addr × Nat × Addr)} {k : Nat} {a b c : Expr} {es : List Expr} {pos : Pos} {oa ob oc : En → Store → Out D} {os : En → Store → Out (List D)}
  {m m1 : List Addr} {en : En} {S : Store} {σ : Sl} {H H1 : Hp} {Q : VK}
theorem signs_f2 {z : Str} (hz : PyData.strOk z = true) : F2 (RDD G k m H) ((signs z).map D.p) (z.cps.toList.map fun c => V.str ⟨#[c]⟩) := by
  have hz' : ∀ c ∈ z.cps.toList, PyData.strOk ⟨#[c]⟩ = true := fun c hc => by
    unfold PyData.strOk at hz ⊢
    rw [Array.all_eq_true_iff_forall_mem] at hz ⊢
    intro x hx
    have e : x = c := by simpa using hx
    rw [e]
    exact hz c (by simpa using hc)
  unfold signs
  rw [List.map_map]
  generalize z.cps.toList = cs at hz'
  induction cs with
  | nil => exact .nil
  | cons c cs ih =>
    rw [List.map_cons, List.map_cons]
    refine .cons ?_ (ih fun x hx => hz' x (List.mem_cons_of_mem _ hx))
    show RD G m H (.str ⟨#[c]⟩) _
    unfold RD
    exact ⟨rfl, hz' c List.mem_cons_self⟩
theorem walk_seq {d : D} {v : V} {w : Walk} (rs : RS G k m H S) (r : RDD G k m H d v) (e : walkD S d = some w) :
    ∃ J P, ((∃ a, v = .ref a ∧ ((∃ xs, SqL G.K H a xs) ∧ J = Itl G.K a ∨ (∃ xs, SqT G.K H a xs) ∧ J = Itt G.K a)) ∨ ∃ z, v = .str z ∧ J = Its z) ∧ Rdr J P ∧ Src G k m H P w ∧ w.items.length ≤ sizeLine := by
  unfold walkD at e
  split at e
  · rename_i xs
    cases e
    have r' : RD G m H (.lst xs) v := r
    simp only [RD] at r'
    obtain ⟨a, vs, rfl, h1, h2, h3⟩ := r'
    have f := RDs_f2.mp h3
    exact ⟨_, _, .inl ⟨a, rfl, .inl ⟨⟨_, h1.sq⟩, rfl⟩⟩, rdr_list G.K a, fun k' m' H' S' x _ _ _ => ⟨vs, (x.fz h1).sq, f2_Ps (f.rdmono x rs.nt)⟩, by simpa [Walk.items] using h2⟩
  · rename_i xs
    cases e
    have r' : RD G m H (.tup xs) v := r
    obtain ⟨a, vs, rfl, h1, h2, f⟩ := RV.tup (.inl r')
    exact ⟨_, _, .inl ⟨a, rfl, .inr ⟨⟨_, h1⟩, rfl⟩⟩, rdr_tup G.K a, fun k' m' H' S' x _ _ _ => ⟨vs, x.sqT rs.nt h1, f2_Ps (f.rdmono x rs.nt)⟩, by simpa [Walk.items] using h2⟩
  · rename_i z
    obtain ⟨rfl, hz⟩ := RV.str (.inl (show RD G m H (.str z) v from r))
    split at e
    · rename_i hl
      cases e
      exact ⟨_, _, .inr ⟨z, rfl, rfl⟩, rdr_str z, fun k' m' H' S' _ _ _ _ => ⟨_, rfl, signs_f2 hz⟩, by
        show ((signs z).map D.p).length ≤ sizeLine
        rw [List.length_map, signs, List.length_map, ← line_eq]
        exact hl⟩
    · cases e
  · rename_i n
    obtain ⟨a, ha, rfl⟩ := r
    split at e
    · rename_i xs q
      cases e
      obtain ⟨vs, h1, h2, h3⟩ := rs.ok n _ a q ha
      refine ⟨_, _, .inl ⟨a, rfl, .inl ⟨⟨_, .of h1⟩, rfl⟩⟩, rdr_list G.K a, fun k' m' H' S' x hm rs' st => ?_, h2⟩
      simp only [still] at st
      split at st
      · rename_i ys q2
        have e2 := D.sames_eq st
        subst e2
        obtain ⟨ws, g1, g2, g3⟩ := rs'.ok n _ a q2 (hm n a ha)
        exact ⟨ws, .of g1, g3⟩
      · cases st
    · cases e
  · cases e
/-- the source of a walk: a list, a tuple, a text -/
def iSq (K : PySem.W.Frag) (tl : TE) : TI := fun σ H R => tl σ H fun x H1 => (∃ a, x = .ref a ∧ ((∃ xs, SqL K H1 a xs) ∧ R (Itl K a) H1 ∨ (∃ xs, SqT K H1 a xs) ∧ R (Itt K a) H1)) ∨ ∃ z, x = .str z ∧ R (Its z) H1
theorem pi_sq {tg l : Expr} {tl : TE} (hl : PE X l tl) : PI X tg l (iSq X.K tl) := by
  refine ⟨fun pins s σ H R I h => thn (hl.run pins s σ H _ I h) fun v s1 hv => ?_⟩
  obtain ⟨x, H1, I1, r1, hv⟩ := hv
  rcases hv with ⟨a, ex, q⟩ | ⟨z, ex, q⟩
  rotate_left
  · subst ex
    obtain ⟨tz, rfl⟩ := r1
    cases hw : z.cps.all (· < 128) with
    | false => exact wpAny_pyIter_wide hw (pi_one (tk := s1.toks) I1 _ (turn_str _ z tz "str_iterator" (.inr rfl)) ⟨_, Heap.get?_push_size _ rfl, rfl, rfl⟩ q)
    | true => exact wpAny_pyIter_ascii hw (pi_one (tk := s1.toks) I1 _ (turn_str _ z tz "str_ascii_iterator" (.inl rfl)) ⟨_, Heap.get?_push_size _ rfl, rfl, rfl⟩ q)
  subst ex
  cases r1
  have kp : ∀ (ob : Obj), ∀ b o, s1.heap.get? b = some o → (s1.heap.push ob).get? b = some o := fun ob b o e => Heap.get?_push_of_some _ e
  have fp : ∀ b ∈ [s1.heap.objs.size], FpOk X pins H1 b := fun b hb => by
    obtain rfl : b = s1.heap.objs.size := by simpa using hb
    exact I1.fpOk (Nat.le_refl _) (I1.hok.fresh (Nat.le_refl _))
  rcases q with ⟨⟨xs, hq⟩, q⟩ | ⟨⟨xs, hq⟩, q⟩
  · obtain ⟨its, rv, p, _⟩ := I1.list hq
    exact wpAny_pyIter_list p.isList ⟨_, _, _, _, H1, rfl, I1.kept (t' := s1.toks) (kp _), turn_list a _, ⟨_, Heap.get?_push_size _ rfl, rfl, rfl⟩, fp, q⟩
  · obtain ⟨its, rv, p, _⟩ := I1.tuple hq
    exact wpAny_pyIter_tuple (show s1.heap.IsTuple a its.toArray from p) ⟨_, _, _, _, H1, rfl, I1.kept (t' := s1.toks) (kp _), turn_tuple a _, ⟨_, Heap.get?_push_size _ rfl, rfl, rfl⟩, fp, q⟩

/-! ### targets -/
def gNs : List Nat → TGs
  | [] => gNil
  | i :: r => gCons (gName i) (gNs r)
def gKs (K : PySem.W.Frag) : List Tk → TGs
  | [] => gNil
  | .n i :: r => gCons (gName i) (gKs K r)
  | .t is :: r => gCons (gTup K is.length (gNs is)) (gKs K r)
def gT (K : PySem.W.Frag) : Tg → TG
  | .nm i => gName i
  | .tp is => gTup K is.length (gNs is)
  | .nt ks => gTup K ks.length (gKs K ks)
def tkIx : Tk → List Nat
  | .n i => [i]
  | .t is => is
def ksIx : List Tk → List Nat
  | [] => []
  | k :: r => tkIx k ++ ksIx r
def tgIx : Tg → List Nat
  | .nm i => [i]
  | .tp is => is
  | .nt ks => ksIx ks
theorem ksIx_own {own : List Nat} : ∀ {ks : List Tk}, (ks.all fun k => match k with
    | .n i => own.contains i
    | .t is => is.all own.contains) = true → ∀ j ∈ ksIx ks, j ∈ own
  | [], _, j, hj => by cases hj
  | k :: r, h, j, hj => by
    rw [List.all_cons, Bool.and_eq_true] at h
    rcases List.mem_append.mp hj with q | q
    · cases k with
      | n i =>
        have e : j = i := by simpa [tkIx] using q
        subst e
        simpa using h.1
      | t is =>
        have := List.all_eq_true.mp h.1 j q
        simpa using this
    · exact ksIx_own h.2 j q
theorem tgIx_own {own : List Nat} {t : Tg} (ho : tgOwn own t = true) : ∀ j ∈ tgIx t, j ∈ own := fun j hj => by
  cases t with
  | nm i =>
    have e : j = i := by simpa [tgIx] using hj
    subst e
    simpa [tgOwn] using ho
  | tp is =>
    have := List.all_eq_true.mp ho j hj
    simpa using this
  | nt ks => exact ksIx_own ho j hj
theorem gNs_ok : ∀ (is : List Nat) (xs : List P) (vs : List V) (en : En) (σ : Sl) (Q : Sl → Hp → Prop), is.length = xs.length → RE G k xa m H en σ → F2 (RD G m H) xs vs →
    (∀ σ', RE G k xa m H ((is.zip xs).foldl (fun en q => en.set q.1 (some (.p q.2))) en) σ' → (∀ j, j ∉ is → σ'[j]? = σ[j]?) → σ'.length = σ.length → Q σ' H) → gNs is vs σ H Q
  | [], xs, vs, en, σ, Q, hl, re, f, c => by
    cases xs with
    | nil => cases f; exact ⟨rfl, c σ re (fun _ _ => rfl) rfl⟩
    | cons x xs => simp at hl
  | i :: is, xs, vs, en, σ, Q, hl, re, f, c => by
    cases xs with
    | nil => simp at hl
    | cons x xs =>
      cases f with
      | cons h t =>
        refine ⟨_, _, rfl, gNs_ok is xs _ _ _ _ (by simpa using hl) (re.set (d := .p x) (RDD.vx (d := .p x) h) i) t fun σ' re' hj hlen => c σ' re' (fun j hn => ?_) (by rw [hlen, List.length_set])⟩
        have h1 : j ∉ is := fun z => hn (List.mem_cons_of_mem _ z)
        have h2 : i ≠ j := fun z => hn (by rw [z]; exact List.mem_cons_self)
        rw [hj j h1, List.getElem?_set_ne h2]
theorem setK_len : ∀ {ks : List Tk} {xs : List P} {en en' : En}, setK ks xs en = some en' → ks.length = xs.length
  | [], [], _, _, _ => rfl
  | [], _ :: _, _, _, h => by cases h
  | .n i :: r, [], _, _, h => by cases h
  | .t is :: r, [], _, _, h => by cases h
  | .n i :: r, x :: xs, en, en', h => by
    have h' : setK r xs (en.set i (some (.p x))) = some en' := h
    rw [List.length_cons, List.length_cons, setK_len h']
  | .t is :: r, x :: xs, en, en', h => by
    cases x with
    | tup ys =>
      have h' : (if is.length = ys.length then setK r xs ((is.zip ys).foldl (fun en q => en.set q.1 (some (.p q.2))) en) else none) = some en' := h
      split at h'
      · rw [List.length_cons, List.length_cons, setK_len h']
      · cases h'
    | _ => cases h
theorem gKs_ok : ∀ (ks : List Tk) (xs : List P) (vs : List V) (en en' : En) (σ : Sl) (Q : Sl → Hp → Prop), RE G k xa m H en σ → F2 (RD G m H) xs vs → setK ks xs en = some en' →
    (∀ σ', RE G k xa m H en' σ' → (∀ j, j ∉ ksIx ks → σ'[j]? = σ[j]?) → σ'.length = σ.length → Q σ' H) → gKs G.K ks vs σ H Q
  | [], [], vs, en, en', σ, Q, re, f, e, c => by
    cases f
    cases e
    exact ⟨rfl, c σ re (fun _ _ => rfl) rfl⟩
  | [], _ :: _, _, _, _, _, _, _, _, e, _ => by cases e
  | .n i :: r, [], _, _, _, _, _, _, _, e, _ => by cases e
  | .t is :: r, [], _, _, _, _, _, _, _, e, _ => by cases e
  | .n i :: r, x :: xs, vs, en, en', σ, Q, re, f, e, c => by
    cases f with
    | cons h t =>
      have e' : setK r xs (en.set i (some (.p x))) = some en' := e
      refine ⟨_, _, rfl, gKs_ok r xs _ _ _ _ _ (re.set (d := .p x) (RDD.vx (d := .p x) h) i) t e' fun σ' re' hj hlen => c σ' re' (fun j hn => ?_) (by rw [hlen, List.length_set])⟩
      have h1 : j ∉ ksIx r := fun z => hn (List.mem_append_right _ z)
      have h2 : i ≠ j := fun z => hn (List.mem_append_left _ (by rw [z]; exact List.mem_cons_self))
      rw [hj j h1, List.getElem?_set_ne h2]
  | .t is :: r, x :: xs, vs, en, en', σ, Q, re, f, e, c => by
    cases f with
    | cons h t =>
      cases x with
      | tup ys =>
        have e' : (if is.length = ys.length then setK r xs ((is.zip ys).foldl (fun en q => en.set q.1 (some (.p q.2))) en) else none) = some en' := e
        split at e'
        · rename_i hl
          obtain ⟨a, ws, rfl, g1, g2, g3⟩ := RV.tup (.inl h)
          refine ⟨_, _, rfl, a, ws, rfl, g1, by rw [← g3.len, hl], gNs_ok is ys ws en _ _ hl re g3 fun σ1 re1 hj1 hl1 => ?_⟩
          refine gKs_ok r xs _ _ _ _ _ re1 t e' fun σ' re' hj hlen => c σ' re' (fun j hn => ?_) (by rw [hlen, hl1])
          have h1 : j ∉ ksIx r := fun z => hn (List.mem_append_right _ z)
          have h2 : j ∉ is := fun z => hn (List.mem_append_left _ z)
          rw [hj j h1, hj1 j h2]
        · cases e'
      | _ => cases e
theorem gT_ok {t : Tg} {d : D} {v : V} {en' : En} {Q : Sl → Hp → Prop} (re : RE G k xa m H en σ) (r : RDD G k m H d v) (e : setT t d en = some en')
    (c : ∀ σ', RE G k xa m H en' σ' → (∀ j, j ∉ tgIx t → σ'[j]? = σ[j]?) → σ'.length = σ.length → Q σ' H) : gT G.K t v σ H Q := by
  cases t with
  | nm i =>
    simp only [setT] at e
    cases e
    refine c _ (re.set r.vx i) (fun j hj => ?_) (List.length_set ..)
    have : i ≠ j := fun z => hj (by rw [z]; exact List.mem_cons_self)
    rw [List.getElem?_set_ne this]
  | tp is =>
    unfold setT at e
    split at e
    · rename_i h; cases h
    · rename_i xs hx
      cases hx
      split at e
      · rename_i hl
        cases e
        have r' : RD G m H (.tup xs) v := r
        obtain ⟨a, vs, rfl, h1, h2, f⟩ := RV.tup (.inl r')
        exact ⟨a, vs, rfl, h1, by rw [← f.len, hl], gNs_ok is xs vs _ _ Q hl re f c⟩
      · cases e
    · rename_i h; cases h
    · cases e
  | nt ks =>
    unfold setT at e
    split at e
    · rename_i h; cases h
    · rename_i h; cases h
    · rename_i ks' xs hx
      cases hx
      have r' : RD G m H (.tup xs) v := r
      obtain ⟨a, vs, rfl, h1, h2, f⟩ := RV.tup (.inl r')
      exact ⟨a, vs, rfl, h1, by rw [← f.len, setK_len e], gKs_ok _ xs vs _ _ _ Q re f e c⟩
    · cases e
theorem wipe_get (σ : Sl) : ∀ (vs : List Nat) (j : Nat), (wipe σ vs)[j]? = if j ∈ vs then (if j < σ.length then some none else none) else σ[j]?
  | [], j => by simp [wipe]
  | v :: vs, j => by
    unfold wipe
    by_cases hv : v = j
    · subst hv
      by_cases hl : v < σ.length
      · rw [List.getElem?_set_self (by rw [wipe_length]; exact hl)]
        simp [hl]
      · rw [List.getElem?_eq_none (by rw [List.length_set, wipe_length]; omega)]
        simp [hl]
    · rw [List.getElem?_set_ne hv, wipe_get σ vs j]
      have : j ≠ v := fun z => hv z.symm
      simp [this]
theorem wipe_back {σ2 : Sl} {vs is : List Nat} (hs : ∀ i ∈ is, i ∈ vs) (h1 : ∀ j, j ∉ is → σ2[j]? = (wipe σ vs)[j]?) (h2 : σ2.length = (wipe σ vs).length) : wipe σ2 vs = wipe σ vs := by
  refine List.ext_getElem? fun j => ?_
  rw [wipe_get σ2 vs j]
  by_cases hj : j ∈ vs
  · rw [if_pos hj, wipe_get, if_pos hj, h2, wipe_length]
  · rw [if_neg hj, h1 j fun z => hj (hs j z)]
theorem re_wipe (re : RE G k xa m H en σ) : ∀ own : List Nat, RE G k xa m H (wipeE en own) (wipe σ own)
  | [] => re
  | i :: r => by unfold wipeE wipe; exact (re_wipe re r).unset i none
end
end Tw

set_option linter.all false
set_option Elab.async false
set_option maxRecDepth 100000
set_option maxHeartbeats 2000000
/-! TwC8: comprehensions. -/
namespace Tw
open PySem PySem.Spec PyProof.Rows L2
section
variable {G : Wd} {C : Cb} {K : Ck} {N : List Str} {sc : Scope} {calm : Bool} {X : Cx} {W : WX} {xa : Option (Addr × Nat × Addr)} {k k' : Nat} {a b c : Expr} {es : List Expr} {pos : Pos} {oa ob oc : En → Store → Out D} {os : En → Store → Out (List D)}
  {m m1 m' : List Addr} {en : En} {S S1 : Store} {σ : Sl} {H H1 H' : Hp} {Q : VK}
theorem _root_.L2.PTs.of {X : Cx} {e : List Expr} {t t' : TT} (h : PTs X e t) (c : ∀ σ H Q, t' σ H Q → t σ H Q) : PTs X e t' := ⟨fun pins s σ H Q I hw => h.run pins s σ H Q I (c σ H Q hw)⟩
theorem RDD.go (x : Ex0 m H m' H') (n : Nt m H) (hm : ∀ (j : Nat) (b : Addr), m[k + j]? = some b → m'[k' + j]? = some b) {d : D} {v : V} (h : RDD G k m H d v) : RDD G k' m' H' d v := by
  cases d with
  | p y => exact RD.mono x n y v h
  | r j => obtain ⟨a, e, r⟩ := h; exact ⟨a, hm j a e, r⟩
  | e c y => exact h
theorem RE.go (r : RE G k none m H en σ) (x : Ex0 m H m' H') (n : Nt m H) (hm : ∀ (j : Nat) (b : Addr), m[k + j]? = some b → m'[k' + j]? = some b) : RE G k' none m' H' en σ :=
  ⟨r.len, fun i d e => by
    obtain ⟨v, h1, h2⟩ := r.at_ i d e
    refine ⟨v, h1, ?_⟩
    cases d with
    | p y => exact RDD.go (G := G) (d := .p y) x n hm h2
    | r j => exact RDD.go (G := G) (d := .r j) x n hm h2
    | e c y => obtain ⟨a, d, w, z, _⟩ := h2; cases z⟩
/-- others' list is written -/
theorem RS.putO (r : RS G k m H S) {p : Addr} {ws : List V} (h : p ∈ m.take k) : RS G k m (upd H p (.lst ws)) S := by
  have x : Ex0 m H m (upd H p (.lst ws)) := fun a o e n => ⟨by rw [upd_ne fun z => n (by rw [z]; exact List.mem_of_mem_take h)]; exact e, n⟩
  refine ⟨r.len, r.nd, fun a ha => ?_, fun n c a h1 h2 => ?_⟩
  · by_cases e : a = p
    · rw [e]; exact ⟨_, upd_same, rfl⟩
    · obtain ⟨o, z, kk⟩ := r.fst a ha
      exact ⟨o, by rw [upd_ne e]; exact z, kk⟩
  · have ne : a ≠ p := fun z => r.notD h (by rw [← z]; exact mem_dropK h2)
    have q := r.ok n c a h1 h2
    cases c with
    | lst xs => obtain ⟨vs, q1, q2, q3⟩ := q; exact ⟨vs, by rw [upd_ne ne]; exact q1, q2, q3.mono fun d v h => RDD.go x r.nt (fun _ _ z => z) h⟩
    | ins c ks ds => obtain ⟨dx, vs, q1, q2, q3, q4⟩ := q; exact ⟨dx, vs, by rw [upd_ne ne]; exact q1, q2, q3, q4.mono fun d v h => RDD.go x r.nt (fun _ _ z => z) h⟩
    | dct ks ds => obtain ⟨vs, q1, q2, q3, q4⟩ := q; exact ⟨vs, by rw [upd_ne ne]; exact q1, q2, q3, q4.mono fun d v h => RDD.go x r.nt (fun _ _ z => z) h⟩

/-- a comprehension's own list p, beside the store -/
structure Ac (G : Wd) (k : Nat) (m1 : List Addr) (H1 : Hp) (p : Addr) (m' : List Addr) (H' : Hp) (S : Store) (acc : List D) : Prop where
  x : Ext k m1 H1 m' H'
  np : p ∉ m'
  rs : RS G (k + 1) (insK k p m') H' S
  at_ : ∃ vs, H' p = some (.lst vs) ∧ F2 (RDD G (k + 1) (insK k p m') H') acc vs
theorem Ac.ex0 {p : Addr} {acc : List D} (h0 : H1 p = none) (q : Ac G k m1 H1 p m' H' S acc) : Ex0 m1 H1 (insK k p m') H' := fun a o e n => by
  obtain ⟨z1, z2⟩ := q.x.ex0 a o e n
  refine ⟨z1, fun z => ?_⟩
  rcases mem_insK.mp z with z | z
  · rw [z, h0] at e; cases e
  · exact z2 z
theorem Ac.hm {p : Addr} {acc : List D} (q : Ac G k m1 H1 p m' H' S acc) : ∀ (j : Nat) (b : Addr), m1[k + j]? = some b → (insK k p m')[k + 1 + j]? = some b := fun j b e => by
  rw [insK_get q.x.le']; exact q.x.ref e
theorem Ac.go {p : Addr} {acc : List D} {m2 : List Addr} {H2 : Hp} {S2 : Store} (q : Ac G k m1 H1 p m' H' S acc) (y : Ext (k + 1) (insK k p m') H' m2 H2) (rs : RS G (k + 1) m2 H2 S2) : ∃ m'', m2 = insK k p m'' ∧ Ac G k m1 H1 p m'' H2 S2 acc := by
  obtain ⟨r, e, f⟩ := y.pre
  have hk := q.x.le'
  rw [insK_app hk] at e
  subst e
  obtain ⟨vs, h1, h2⟩ := q.at_
  have z : Ext k m' H' (m' ++ r) H2 := ⟨hk, ⟨r, rfl, f⟩, fun a o h n => y.keep a o h (by rw [insK_drop hk]; exact n), y.st⟩
  have np : p ∉ m' ++ r := fun h => by
    rcases List.mem_append.mp h with h | h
    · exact q.np h
    · rw [f p h] at h1; cases h1
  exact ⟨m' ++ r, rfl, q.x.trans z, np, rs, vs, z.keep _ _ h1 (fun h => q.np (List.mem_of_mem_drop h)), h2.mono fun d v h => RDD.mono y q.rs.nt h⟩
theorem Ac.put {p : Addr} {acc : List D} {d : D} {v : V} (h0 : H1 p = none) (q : Ac G k m1 H1 p m' H' S acc) (r : RDD G (k + 1) (insK k p m') H' d v) :
    ∃ vs, H' p = some (.lst vs) ∧ vs.length = acc.length ∧ Ac G k m1 H1 p m' (upd H' p (.lst (vs ++ [v]))) S (acc ++ [d]) := by
  obtain ⟨vs, h1, h2⟩ := q.at_
  have hk := q.x.le'
  have ht : p ∈ (insK k p m').take (k + 1) := by rw [insK_take hk]; simp
  have x : Ex0 (insK k p m') H' (insK k p m') (upd H' p (.lst (vs ++ [v]))) := fun a o e n => ⟨by rw [upd_ne fun z => n (by rw [z]; exact List.mem_of_mem_take ht)]; exact e, n⟩
  refine ⟨vs, h1, h2.len.symm, ⟨⟨q.x.le, q.x.pre, fun a o e n => ?_, fun a e => ?_⟩, q.np, q.rs.putO ht, _, upd_same, (h2.app (.one r)).mono fun d v h => RDD.go x q.rs.nt (fun _ _ z => z) h⟩⟩
  · rw [upd_ne fun z => by rw [z, h0] at e; cases e]
    exact q.x.keep a o e n
  · rw [upd_ne fun z => by rw [z, h0] at e; exact e rfl]
    exact q.x.st a e

def tn (ok : Store → Bool) (f : D → Store → Out (Option D)) (acc : List D) (xs : List D) (S : Store) : Out (List D) := (turns ok f xs S).bind fun ys S2 => .ok (acc ++ ys) S2
theorem tn_nil {ok : Store → Bool} {f : D → Store → Out (Option D)} {acc : List D} : tn ok f acc [] S = if ok S then .ok acc S else .stuck := by
  unfold tn turns
  split <;> simp
theorem tn_cons {ok : Store → Bool} {f : D → Store → Out (Option D)} {acc xs : List D} {x : D} : tn ok f acc (x :: xs) S = if ok S then (f x S).bind fun y S1 => tn ok f (acc ++ y.toList) xs S1 else .stuck := by
  rw [tn, turns]
  split
  · rw [Out.bind_assoc]
    congr 1
    funext y S1
    rw [Out.bind_assoc]
    unfold tn
    congr 1
    funext ys S2
    cases y <;> simp
  · rfl
theorem tn_0 {ok : Store → Bool} {f : D → Store → Out (Option D)} {xs : List D} : tn ok f [] xs S = turns ok f xs S := by
  unfold tn
  cases turns ok f xs S <;> simp
/-- no error leaves a comprehension -/
theorem seqN {γ δ : Type} {Rl2 : List Addr → Hp → γ → δ → Prop} {W2 : WX} {Q2 : δ → Hp → Prop} {m2 : List Addr} {H2 : Hp} {σ2 : Sl} {k2 : Nat} {o : Out γ} {f : γ → Store → Out (List D)} (p : PostL G k W m σ H Q ((o.bind f).noexc))
    (c : ∀ a S1 m3 H3 b, Ext k2 m2 H2 m3 H3 → RS G k2 m3 H3 S1 → Rl2 m3 H3 a b → PostL G k W m σ H Q ((f a S1).noexc) → Q2 b H3) : Post G k2 Rl2 W2 m2 σ2 H2 Q2 o := by
  cases o with
  | ok a S => exact fun m' H' b y rs r => c a S m' H' b y rs r p
  | exc c' z S => exact p.elim
  | stuck => exact p.elim
def fLc (C : Cb) (own : List Nat) (t : Tg) (ifs : List E) (elt : E) (en : En) : D → Store → Out (Option D) := fun x S2 => match setT t x (wipeE en own) with
      | some en' => (evIfs C ifs en' S2).bind fun k S3 => match k with
        | true => (ev C elt en' S3).bind fun y S4 => .ok (some y) S4
        | false => .ok none S3
      | none => .stuck
abbrev W0 : WX := fun _ _ _ _ => False
theorem lc_turns {J : It} {P : Hp → List V → Prop} {own : List Nat} {t : Tg} {ifs : List E} {elt : E} {w : Walk} (hJ : Rdr J P) (hS : Src G k m1 H1 P w) (hn : w.items.length ≤ sizeLine) (ho : tgOwn own t = true)
    (re : RE G k none m1 H1 en σ) (rs : RS G k m1 H1 S1) (p : PostL G k W m1 σ H1 Q ((turns (still w) (fLc C own t ifs elt en) w.items S1).noexc)) : ∀ D', H1 D' = none → ∃ W : Nat → Nat → Hp → Prop, (∃ m, W 0 m (upd H1 D' (.lst []))) ∧ ∀ i m H, W i m H →
  (J.stop i H ∧ Q (.ref D') H) ∨ (J.go i H ∧ ∃ Nx : Hp → Prop, (∀ H', Nx H' → ∃ m', m' < m ∧ W (i + 1) m' H') ∧ ∀ x H', J.yld i H x H' → gT G.K t x (wipe σ own) H' fun σ2 H2 => wipe σ2 own = wipe σ own ∧ tT G (k + 1) W0 none (evIfs C ifs) σ2 H2 fun b H3 =>
    if b = true then tE G (k + 1) W0 none (ev C elt) σ2 H3 fun y H4 => ∃ acc, H4 D' = some (.lst acc) ∧ acc.length < sizeLine ∧ Nx (upd H4 D' (.lst (acc ++ [y]))) else Nx H3) := by
  intro p0 h0
  let Wi : Nat → Hp → Prop := fun i H' => i ≤ w.items.length ∧ ∃ m' S' acc, Ac G k m1 H1 p0 m' H' S' acc ∧ acc.length ≤ i ∧ PostL G k W m1 σ H1 Q ((tn (still w) (fLc C own t ifs elt en) acc (w.items.drop i) S').noexc)
  refine ⟨fun i mm H' => mm = w.items.length - i ∧ Wi i H', ⟨_, rfl, Nat.zero_le _, m1, S1, [], ⟨.same rs.le (same_new h0), rs.nt.ne h0, rs.ins h0 (same_new h0) upd_same, [], upd_same, .nil⟩, Nat.le_refl _, by rw [List.drop_zero, tn_0]; exact p⟩, ?_⟩
  rintro i mm H' ⟨rfl, hi, m', S', acc, q, hacc, p⟩
  have hst : still w S' = true := by
    cases e : still w S' with
    | true => rfl
    | false =>
      exfalso
      cases hd : w.items.drop i with
      | nil => rw [hd, tn_nil, e] at p; exact p
      | cons x xs => rw [hd, tn_cons, e] at p; exact p
  obtain ⟨vs, hP, hF⟩ := hS (k + 1) (insK k p0 m') H' S' (q.ex0 h0) q.hm q.rs hst
  have hlen := hF.len
  by_cases hlt : i < w.items.length
  · have hd : w.items.drop i = w.items[i] :: w.items.drop (i + 1) := List.drop_eq_getElem_cons hlt
    rw [hd, tn_cons, hst, if_pos rfl] at p
    refine .inr ⟨hJ.go i H' vs hP (by omega), Wi (i + 1), fun H'' h => ⟨_, by omega, rfl, h⟩, fun x H'' y => ?_⟩
    obtain ⟨e1, e2⟩ := hJ.yld i H' vs x H'' hP (by omega) y
    subst e1
    obtain ⟨x', e3, rx⟩ := hF.get (i := i) (x := w.items[i]) (by simp [hlt])
    rw [e2] at e3
    cases e3
    have re' : RE G (k + 1) none (insK k p0 m') H'' (wipeE en own) (wipe σ own) := re_wipe (re.go (q.ex0 h0) rs.nt q.hm) own
    cases es : setT t w.items[i] (wipeE en own) with
    | none =>
      have e : fLc C own t ifs elt en w.items[i] S' = .stuck := by unfold fLc; rw [es]
      rw [e] at p
      exact p.elim
    | some en' =>
      have e : fLc C own t ifs elt en w.items[i] S' = (evIfs C ifs en' S').bind fun k S3 => match k with
        | true => (ev C elt en' S3).bind fun y S4 => .ok (some y) S4
        | false => .ok none S3 := by unfold fLc; rw [es]
      rw [e, Out.bind_assoc] at p
      refine gT_ok re' rx es fun σ2 re2 hj hl => ⟨wipe_back (tgIx_own ho) hj hl, insK k p0 m', en', S', re2, q.rs, ?_⟩
      · refine seqN p fun b S3 m3 H3 b' x3 rs3 r3 p3 => ?_
        cases r3
        obtain ⟨m4, e4, q4⟩ := q.go x3 rs3
        subst e4
        have re3 := re2.mono x3 q.rs.nt
        refine ite_of (fun hb => ?_) fun hb => ?_
        · subst hb
          dsimp only at p3
          rw [Out.bind_assoc] at p3
          refine ⟨_, _, _, re3, rs3, seqN p3 fun d S5 m5 H5 v x5 rs5 r5 p5 => ?_⟩
          obtain ⟨m6, e6, q6⟩ := q4.go x5 rs5
          subst e6
          obtain ⟨ws, g1, g2, g3⟩ := q6.put h0 r5
          refine ⟨ws, g1, by omega, by omega, m6, S5, acc ++ [d], g3, by simp; omega, ?_⟩
          exact p5
        · subst hb
          refine ⟨by omega, m4, S3, acc, q4, by omega, ?_⟩
          have e5 : acc ++ (none : Option D).toList = acc := by simp
          dsimp only at p3
          rw [Out.bind_ok, e5] at p3
          exact p3
  · have e : i = w.items.length := by omega
    subst e
    rw [List.drop_length, tn_nil, hst] at p
    obtain ⟨ws, g1, g2⟩ := q.at_
    exact .inl ⟨hJ.stop _ H' vs hP (by omega), p m' H' p0 ws q.x h0 g1 q.np q.rs (by omega) g2⟩
end
end Tw

set_option linter.all false
set_option Elab.async false
set_option maxRecDepth 100000
set_option maxHeartbeats 2000000
/-! TwC8b: comprehensions as expressions. -/
namespace Tw
open PySem PySem.Spec PyProof.Rows L2
section
variable {G : Wd} {C : Cb} {K : Ck} {N : List Str} {sc : Scope} {calm : Bool} {X : Cx} {W : WX} {xa : Option (Addr × Nat × Addr)} {k k' : Nat} {a b c : Expr} {es : List Expr} {pos : Pos} {oa ob oc : En → Store → Out D} {os : En → Store → Out (List D)}
  {m m1 m' : List Addr} {en : En} {S S1 : Store} {σ : Sl} {H H1 H' : Hp} {Q : VK}
theorem Cn.blk (cn : Cn G C K N X W xa sc true) (calm : Bool) (s : Shared) (H : Hp) (scope : Scope) (Cc : Addr) (cl : List (Str × Addr)) (fp : List Addr) :
    Cn G C K N (X.blk s H scope (compEnvC scope cl Cc X.env) fp) W0 none (relS scope sc) calm where
  hN := cn.hN
  nd := cn.nd
  sce := by rw [← cn.sce]; rfl
  cm := fun _ => ⟨(cn.cm rfl).1, rfl⟩
  un := cn.un
  hK := cn.hK
  xf := cn.xf
  fa := cn.fa
  con := cn.con
  fre := cn.fre
  fns := fun _ => cn.fns rfl
  tk := takes0
  exv := fun _ _ _ => ⟨fun pins s σ H Q I h => by obtain ⟨r, c, d, v, z, _⟩ := h; cases z⟩
  str := cn.str
  rec_ := cn.rec_
  inj := cn.inj
  fds := cn.fds
  mts := fun _ => cn.mts rfl
  ins := fun _ => cn.ins rfl
  iso := cn.iso
  ecs := cn.ecs
  sec := cn.sec
  erx := cn.erx
  kit := cn.kit
  cls := cn.cls
  mkx := fun _ c x h1 h2 => ⟨(cn.mkx rfl c x h1 h2).T, (cn.mkx rfl c x h1 h2).no, (cn.mkx rfl c x h1 h2).ini⟩
  exi := fun _ _ _ _ _ _ _ => ⟨fun pins s σ H Q I h => by obtain ⟨r, c, d, f, v, b, z, _⟩ := h; cases z⟩
  eqs := fun _ => cn.eqs rfl
theorem ownN_map : ∀ own : List Nat, (ownN N own).map (·.2) = own
  | [] => rfl
  | i :: r => by
    have := ownN_map r
    unfold ownN at this ⊢
    simp only [List.map_cons, this]
/-- a target, in a scope -/
theorem tgN_pg {X2 : Cx} {names : List (Str × NameKind)} {i : Nat} {e : Expr} (hN : X2.N = N) (nd : N.Nodup) (hl : ∀ x, names.lookup x = some .local → X2.env.scope.names.lookup x = some .local) (hc : ∀ x, names.lookup x = some .cell → X2.env.scope.names.lookup x = some .cell ∧ X2.fn x = true)
    (h : tgN N names i e = true) : ∃ x p, e = .Name x p ∧ PG X2 e (gName i) := by
  cases e with
  | Name x p =>
    unfold tgN at h
    rw [Bool.and_eq_true] at h
    refine ⟨x, p, rfl, ?_⟩
    have h1 := of_decide_eq_true h.1
    have h2 := h.2
    split at h2
    · rename_i q
      exact pg_name (by rw [hN]; exact nd) (by rw [hN]; exact h1) (.inl (hl x q)) (.inr (hl x q))
    · rename_i q
      exact pg_name (by rw [hN]; exact nd) (by rw [hN]; exact h1) (.inr (hc x q).1) (.inl (hc x q).2)
    · cases h2
  | _ => cases h
theorem tgNs_pg {X2 : Cx} {names : List (Str × NameKind)} (hN : X2.N = N) (nd : N.Nodup) (hl : ∀ x, names.lookup x = some .local → X2.env.scope.names.lookup x = some .local) (hc : ∀ x, names.lookup x = some .cell → X2.env.scope.names.lookup x = some .cell ∧ X2.fn x = true) :
    ∀ (is : List Nat) (es : List Expr), tgNs N names is es = true → PGs X2 es (gNs is) ∧ (assignEach es X2.env).length = is.length ∧ (assignEach es X2.env).findIdx? (·.1) = none
  | [], [], _ => ⟨pgs_nil, rfl, rfl⟩
  | [], e :: es, h => by cases h
  | i :: is, [], h => by cases h
  | i :: is, e :: es, h => by
    unfold tgNs at h
    rw [Bool.and_eq_true] at h
    obtain ⟨x, p, rfl, h1⟩ := tgN_pg hN nd hl hc h.1
    obtain ⟨h2, h3, h4⟩ := tgNs_pg hN nd hl hc is es h.2
    refine ⟨pgs_cons h1 h2, ?_, ?_⟩
    · show (assignEach es X2.env).length + 1 = is.length + 1
      rw [h3]
    · show List.findIdx? _ ((false, assign (.Name x p) X2.env) :: assignEach es X2.env) = none
      rw [List.findIdx?_cons, h4]
      rfl
theorem tgKs_pg {X2 : Cx} {names : List (Str × NameKind)} (hK : X2.K = G.K) (hcalm : X2.calm = true) (hN : X2.N = N) (nd : N.Nodup) (hl : ∀ x, names.lookup x = some .local → X2.env.scope.names.lookup x = some .local) (hc : ∀ x, names.lookup x = some .cell → X2.env.scope.names.lookup x = some .cell ∧ X2.fn x = true) :
    ∀ (ks : List Tk) (es : List Expr), chkKs N names ks es = true → PGs X2 es (gKs G.K ks) ∧ (assignEach es X2.env).length = ks.length ∧ (assignEach es X2.env).findIdx? (·.1) = none
  | [], [], _ => ⟨pgs_nil, rfl, rfl⟩
  | [], e :: es, h => by cases h
  | .n i :: ks, [], h => by cases h
  | .t is :: ks, [], h => by cases h
  | .n i :: ks, e :: es, h => by
    unfold chkKs at h
    rw [Bool.and_eq_true] at h
    obtain ⟨x, p, rfl, h1⟩ := tgN_pg hN nd hl hc h.1
    obtain ⟨h2, h3, h4⟩ := tgKs_pg hK hcalm hN nd hl hc ks es h.2
    refine ⟨pgs_cons h1 h2, ?_, ?_⟩
    · show (assignEach es X2.env).length + 1 = ks.length + 1
      rw [h3]
    · show List.findIdx? _ ((false, assign (.Name x p) X2.env) :: assignEach es X2.env) = none
      rw [List.findIdx?_cons, h4]
      rfl
  | .t is :: ks, e :: es, h => by
    cases e with
    | Tuple fs j p =>
      have h' : (tgNs N names is fs && chkKs N names ks es) = true := h
      rw [Bool.and_eq_true] at h'
      obtain ⟨g2, g3, g4⟩ := tgNs_pg hN nd hl hc _ fs h'.1
      have g1 := pg_tup (X := X2) (k := j) (pos := p) hcalm g2 g3 g4
      rw [hK] at g1
      obtain ⟨h2, h3, h4⟩ := tgKs_pg hK hcalm hN nd hl hc ks es h'.2
      refine ⟨pgs_cons g1 h2, ?_, ?_⟩
      · show (assignEach es X2.env).length + 1 = ks.length + 1
        rw [h3]
      · show List.findIdx? _ ((false, assign (.Tuple fs j p) X2.env) :: assignEach es X2.env) = none
        rw [List.findIdx?_cons, h4]
        rfl
    | _ => cases h
theorem chkT_pg {X2 : Cx} {names : List (Str × NameKind)} {t : Tg} {e : Expr} (hK : X2.K = G.K) (hcalm : X2.calm = true) (hN : X2.N = N) (nd : N.Nodup) (hl : ∀ x, names.lookup x = some .local → X2.env.scope.names.lookup x = some .local) (hc : ∀ x, names.lookup x = some .cell → X2.env.scope.names.lookup x = some .cell ∧ X2.fn x = true)
    (h : chkT N names t e = true) : PG X2 e (gT G.K t) := by
  cases t with
  | nm i =>
    obtain ⟨x, p, rfl, h1⟩ := tgN_pg hN nd hl hc (by unfold chkT at h; exact h)
    exact h1
  | tp is =>
    cases e with
    | Tuple es k p =>
      obtain ⟨h2, h3, h4⟩ := tgNs_pg hN nd hl hc is es (by unfold chkT at h; exact h)
      have := pg_tup (X := X2) (k := k) (pos := p) hcalm h2 h3 h4
      rw [hK] at this
      exact this
    | _ => cases h
  | nt ks =>
    cases e with
    | Tuple es k p =>
      obtain ⟨h2, h3, h4⟩ := tgKs_pg hK hcalm hN nd hl hc ks es (by unfold chkT at h; exact h)
      have := pg_tup (X := X2) (k := k) (pos := p) hcalm h2 h3 h4
      rw [hK] at this
      exact this
    | _ => cases h
theorem blk_pg (cn : Cn G C K N X W xa sc true) {scope : Scope} {t : Tg} {tg : Expr} (h : chkT N scope.names t tg = true) (s : Shared) (H : Hp) (Cc : Addr) (cl : List (Str × Addr)) (fp : List Addr) : PG (X.blk s H scope (compEnvC scope cl Cc X.env) fp) tg (gT G.K t) :=
  chkT_pg (X2 := X.blk s H scope (compEnvC scope cl Cc X.env) fp) cn.hK (cn.cm rfl).1 cn.hN cn.nd (fun x q => lookup_relS_keep (by decide) q) (fun x q => ⟨lookup_relS_keep (by decide) q, by show (scope.names.lookup x == some .cell) = true; rw [q]; rfl⟩) h
/-- what is asked of a comprehension's parts -/
structure LcOk (G : Wd) (C : Cb) (X : Cx) (k : Nat) (own : List Nat) (t : Tg) (ifs : List E) (elt : E) (N : List Str) (sc scope : Scope) (tg : Expr) (ies : List Expr) (e : Expr) : Prop where
  blk : BlkOk X.N X.env.scope scope (ownN N own)
  ow : tgOwn own t = true
  pg : ∀ (s : Shared) (H : Hp) (Cc : Addr) (cl : List (Str × Addr)) (fp : List Addr), PG (X.blk s H scope (compEnvC scope cl Cc X.env) fp) tg (gT G.K t)
  pts : ∀ (s : Shared) (H : Hp) (Cc : Addr) (cl : List (Str × Addr)) (fp : List Addr), PTs (X.blk s H scope (compEnvC scope cl Cc X.env) fp) ies (tT G (k + 1) W0 none (evIfs C ifs))
  pe : ∀ (s : Shared) (H : Hp) (Cc : Addr) (cl : List (Str × Addr)) (fp : List Addr), PE (X.blk s H scope (compEnvC scope cl Cc X.env) fp) e (tE G (k + 1) W0 none (ev C elt))
def oLc (C : Cb) (own : List Nat) (t : Tg) (oa : En → Store → Out D) (ifs : List E) (elt : E) : En → Store → Out (List D) := fun en S => (oa en S).bind fun x S0 => (Out.of (walkD S0 x) S0).bind fun w S1 => (turns (still w) (fLc C own t ifs elt en) w.items S1).noexc
def oLcr (C : Cb) (own : List Nat) (t : Tg) (os : En → Store → Out (List D)) (ifs : List E) (elt : E) : En → Store → Out (List D) := fun en S => (os en S).bind fun x S0 => (Out.of (walkR x) S0).bind fun w S1 => (turns (still w) (fLc C own t ifs elt en) w.items S1).noexc
theorem lc_conv {own : List Nat} {t : Tg} {ifs : List E} {elt : E} (hK : X.K = G.K) (ho : tgOwn own t = true) : ∀ σ H Q, tL G k W none (oLc C own t oa ifs elt) σ H Q → tLc (iSq X.K (tE G k W none oa)) (gT G.K t) (tT G (k + 1) W0 none (evIfs C ifs)) (tE G (k + 1) W0 none (ev C elt)) ((ownN N own).map (·.2)) σ H Q := fun σ H Q ⟨m, en, S, re, rs, p⟩ => by
  rw [ownN_map]
  refine seqEL re rs p fun d S1 m1 H1 v x1 re1 rs1 r1 p1 => ?_
  cases e : walkD S1 d with
  | none => rw [e] at p1; exact p1.elim
  | some w =>
    rw [e] at p1
    obtain ⟨J, P, q, hJ, hS, hn⟩ := walk_seq rs1 r1 e
    have core := lc_turns hJ hS hn ho re1 rs1 p1
    rw [hK]
    rcases q with ⟨a1, rfl, ⟨q1, rfl⟩ | ⟨q1, rfl⟩⟩ | ⟨z, rfl, rfl⟩
    · exact .inl ⟨a1, rfl, .inl ⟨q1, core⟩⟩
    · exact .inl ⟨a1, rfl, .inr ⟨q1, core⟩⟩
    · exact .inr ⟨z, rfl, core⟩
theorem two61_62 {i : Int} (h : near i = true) : -(2 ^ 62) ≤ i ∧ i < 2 ^ 62 := by
  unfold near at h
  rw [Bool.and_eq_true, decide_eq_true_eq, decide_eq_true_eq] at h
  have e : (2 : Int) ^ 62 = 4611686018427387904 := by decide
  have e2 : two61 = 2305843009213693952 := rfl
  omega
theorem rngIts_len (lo c : Int) : ∀ (n i : Nat), (rngIts lo c i n).length = n
  | 0, _ => rfl
  | n + 1, i => by simp [rngIts, rngIts_len lo c n]
theorem rng_src {k : Nat} (lo : Int) (n : Nat) : Src G k m H (fun _ vs => vs = rngVs lo 0 n) (.rng lo n 1) := fun k' m' H' S' _ _ _ _ => ⟨_, rfl, rng_f2 lo n 0⟩
theorem rng_srcC {k : Nat} (lo c : Int) (n : Nat) : Src G k m H (fun _ vs => vs = rngVsC lo c 0 n) (.rng lo n c) := fun k' m' H' S' _ _ _ _ => ⟨_, rfl, rngC_f2 lo c n 0⟩
theorem walkR3 {d d2 d3 : D} {w : Walk} (e : walkR [d, d2, d3] = some w) : ∃ i j c, d = .p (.int i) ∧ d2 = .p (.int j) ∧ d3 = .p (.int c) ∧ near i = true ∧ near j = true ∧ 1 ≤ c ∧ c < 1048576 ∧ stp i j c ≤ line ∧ w = .rng i (stp i j c) c := by
  unfold walkR at e
  split at e
  · rename_i z
    simp at z
  · rename_i z
    simp at z
  · rename_i i j c z
    cases z
    split at e
    · rename_i h
      rw [Bool.and_eq_true, Bool.and_eq_true, Bool.and_eq_true, Bool.and_eq_true, decide_eq_true_eq, decide_eq_true_eq, decide_eq_true_eq] at h
      cases e
      exact ⟨i, j, c, rfl, rfl, rfl, h.1.1.1.1, h.1.1.1.2, h.1.1.2, h.1.2, h.2, rfl⟩
    · cases e
  · cases e
theorem walkR1 {d : D} {w : Walk} (e : walkR [d] = some w) : ∃ j, d = .p (.int j) ∧ near j = true ∧ j.toNat ≤ line ∧ w = .rng 0 j.toNat 1 := by
  unfold walkR at e
  split at e
  · rename_i j z
    cases z
    split at e
    · rename_i h
      rw [Bool.and_eq_true, decide_eq_true_eq] at h
      cases e
      exact ⟨j, rfl, h.1, h.2, rfl⟩
    · cases e
  · rename_i z
    simp at z
  · rename_i z
    simp at z
  · cases e
theorem walkR2 {d d2 : D} {w : Walk} (e : walkR [d, d2] = some w) : ∃ i j, d = .p (.int i) ∧ d2 = .p (.int j) ∧ near i = true ∧ near j = true ∧ (j - i).toNat ≤ line ∧ w = .rng i (j - i).toNat 1 := by
  unfold walkR at e
  split at e
  · rename_i z
    simp at z
  · rename_i i j z
    cases z
    split at e
    · rename_i h
      rw [Bool.and_eq_true, Bool.and_eq_true, decide_eq_true_eq] at h
      cases e
      exact ⟨i, j, rfl, rfl, h.1.1, h.1.2, h.2, rfl⟩
    · cases e
  · rename_i z
    simp at z
  · cases e
theorem rdd_int {d : D} {i : Int} {v : V} (h : d = .p (.int i)) (r : RDD G k m H d v) : v = .int i := by
  subst h
  have r' : RD G m H (.int i) v := r
  simpa only [RD] using r'
theorem inv3 {α β : Type} {R : α → β → Prop} {a b c : α} {ys : List β} (h : F2 R [a, b, c] ys) : ∃ x y z, ys = [x, y, z] ∧ R a x ∧ R b y ∧ R c z := by
  cases h with
  | cons h1 h =>
    cases h with
    | cons h2 h =>
      cases h with
      | cons h3 h =>
        cases h
        exact ⟨_, _, _, rfl, h1, h2, h3⟩
theorem lcr_conv1 {own : List Nat} {t : Tg} {ifs : List E} {elt : E} (hl : ∀ en S ds S1, os en S = .ok ds S1 → ds.length = 1) (ho : tgOwn own t = true) : ∀ σ H Q, tL G k W none (oLcr C own t os ifs elt) σ H Q → tLc (iRng1 (tA G k W none os)) (gT G.K t) (tT G (k + 1) W0 none (evIfs C ifs)) (tE G (k + 1) W0 none (ev C elt)) ((ownN N own).map (·.2)) σ H Q := fun σ H Q ⟨m, en, S, re, rs, p⟩ => by
  rw [ownN_map]
  refine ⟨m, en, S, re, rs, ?_⟩
  unfold oLcr at p
  cases q : os en S with
  | ok ds S1 =>
    rw [q] at p
    intro m1 H1 vs x1 rs1 r1
    have hd := hl en S ds S1 q
    have p1 := PostL.ext (o := _) p x1
    rw [Out.bind_ok] at p1
    match ds, hd, r1, p1 with
    | [d], _, r1, p1 =>
      obtain ⟨v, rfl, r0⟩ := F2.inv1 r1
      cases e : walkR [d] with
      | none => rw [e] at p1; exact p1.elim
      | some w =>
        rw [e] at p1
        obtain ⟨j, h1, h2, h3, rfl⟩ := walkR1 e
        have ev := rdd_int h1 r0
        subst ev
        obtain ⟨z1, z2⟩ := two61_62 h2
        exact ⟨j, rfl, z1, z2, lc_turns (rdr_rng 0 j.toNat) (rng_src 0 j.toNat) (by show (rngIts 0 1 0 j.toNat).length ≤ _; rw [rngIts_len, ← line_eq]; exact h3) ho (re.mono x1 rs.nt) rs1 p1⟩
  | exc c' z S1 => rw [q] at p; exact p
  | stuck => rw [q] at p; exact p
theorem lcr_conv2 {own : List Nat} {t : Tg} {ifs : List E} {elt : E} (hl : ∀ en S ds S1, os en S = .ok ds S1 → ds.length = 2) (ho : tgOwn own t = true) : ∀ σ H Q, tL G k W none (oLcr C own t os ifs elt) σ H Q → tLc (iRng2 (tA G k W none os)) (gT G.K t) (tT G (k + 1) W0 none (evIfs C ifs)) (tE G (k + 1) W0 none (ev C elt)) ((ownN N own).map (·.2)) σ H Q := fun σ H Q ⟨m, en, S, re, rs, p⟩ => by
  rw [ownN_map]
  refine ⟨m, en, S, re, rs, ?_⟩
  unfold oLcr at p
  cases q : os en S with
  | ok ds S1 =>
    rw [q] at p
    intro m1 H1 vs x1 rs1 r1
    have hd := hl en S ds S1 q
    have p1 := PostL.ext (o := _) p x1
    rw [Out.bind_ok] at p1
    match ds, hd, r1, p1 with
    | [d, d2], _, r1, p1 =>
      obtain ⟨v, v2, rfl, r0, r2⟩ := F2.inv2 r1
      cases e : walkR [d, d2] with
      | none => rw [e] at p1; exact p1.elim
      | some w =>
        rw [e] at p1
        obtain ⟨i, j, h1, h2, h3, h4, h5, rfl⟩ := walkR2 e
        have ev := rdd_int h1 r0
        subst ev
        have ev := rdd_int h2 r2
        subst ev
        obtain ⟨z1, z2⟩ := two61_62 h3
        obtain ⟨z3, z4⟩ := two61_62 h4
        exact ⟨i, j, rfl, ⟨z1, z2, z3, z4⟩, lc_turns (rdr_rng i (j - i).toNat) (rng_src i (j - i).toNat) (by show (rngIts i 1 0 (j - i).toNat).length ≤ _; rw [rngIts_len, ← line_eq]; exact h5) ho (re.mono x1 rs.nt) rs1 p1⟩
  | exc c' z S1 => rw [q] at p; exact p
  | stuck => rw [q] at p; exact p
theorem lcr_conv3 {own : List Nat} {t : Tg} {ifs : List E} {elt : E} (hl : ∀ en S ds S1, os en S = .ok ds S1 → ds.length = 3) (ho : tgOwn own t = true) : ∀ σ H Q, tL G k W none (oLcr C own t os ifs elt) σ H Q → tLc (iRng3 (tA G k W none os)) (gT G.K t) (tT G (k + 1) W0 none (evIfs C ifs)) (tE G (k + 1) W0 none (ev C elt)) ((ownN N own).map (·.2)) σ H Q := fun σ H Q ⟨m, en, S, re, rs, p⟩ => by
  rw [ownN_map]
  refine ⟨m, en, S, re, rs, ?_⟩
  unfold oLcr at p
  cases q : os en S with
  | ok ds S1 =>
    rw [q] at p
    intro m1 H1 vs x1 rs1 r1
    have hd := hl en S ds S1 q
    have p1 := PostL.ext (o := _) p x1
    rw [Out.bind_ok] at p1
    match ds, hd, r1, p1 with
    | [d, d2, d3], _, r1, p1 =>
      obtain ⟨v, v2, v3, rfl, r0, r2, r3⟩ := inv3 r1
      cases e : walkR [d, d2, d3] with
      | none => rw [e] at p1; exact p1.elim
      | some w =>
        rw [e] at p1
        obtain ⟨i, j, c, h1, h2, h3, h4, h5, h6, h7, h8, rfl⟩ := walkR3 e
        have ev := rdd_int h1 r0
        subst ev
        have ev := rdd_int h2 r2
        subst ev
        have ev := rdd_int h3 r3
        subst ev
        exact ⟨i, j, c, stp i j c, rfl, rg3 h4 h5 h6 h7 h8, lc_turns (rdr_rngC i c (stp i j c)) (rng_srcC i c (stp i j c)) (by show (rngIts i c 0 (stp i j c)).length ≤ _; rw [rngIts_len, ← line_eq]; exact h8) ho (re.mono x1 rs.nt) rs1 p1⟩
  | exc c' z S1 => rw [q] at p; exact p
  | stuck => rw [q] at p; exact p
theorem notSet_fold {it : Expr} (h : notSet it = true) : ∀ x, foldedSetIterable it X.env x = pure x := fun x => by cases it <;> first | rfl | cases h
theorem l_lc {own : List Nat} {t : Tg} {ifs : List E} {elt : E} {scope : Scope} {tg it e : Expr} {ies : List Expr} (cn : Cn G C K N X W none sc true) (ok : LcOk G C X k own t ifs elt N sc scope tg ies e) (hn : notSet it = true) (hs : PE X it (tE G k W none oa)) :
    PE X (.ListComp e [⟨tg, it, ies, 0⟩] scope pos) (tL G k W none (oLc C own t oa ifs elt)) :=
  (pe_lc (cn.cm rfl).1 (by rw [cn.hN]; exact cn.nd) (pi_sq hs) ok.blk ok.pg ok.pts ok.pe (notSet_fold hn)).of (lc_conv cn.hK ok.ow)
theorem l_lcr1 {own : List Nat} {t : Tg} {ifs : List E} {elt : E} {scope : Scope} {tg e : Expr} {ies : List Expr} {x : Str} {p1 p2 : Pos} (cn : Cn G C K N X W none sc true) (ok : LcOk G C X k own t ifs elt N sc scope tg ies e) (hb : bName K sc x "range" = true) (hn : notStar a = true) (hl : ∀ en S ds S1, os en S = .ok ds S1 → ds.length = 1) (hs : PA X [a] (tA G k W none os)) :
    PE X (.ListComp e [⟨tg, .Call (.Name x p1) [a] [] p2, ies, 0⟩] scope pos) (tL G k W none (oLcr C own t os ifs elt)) := by
  rw [← cn.sce] at hb
  obtain ⟨rfl, hg, hm⟩ := bName_ok hb cn.fre
  exact (pe_lc (cn.cm rfl).1 (by rw [cn.hN]; exact cn.nd) (pi_range1 hg hm hs (star_cons hn [] X.env)) ok.blk ok.pg ok.pts ok.pe (fun x => rfl)).of (lcr_conv1 hl ok.ow)
theorem l_lcr2 {own : List Nat} {t : Tg} {ifs : List E} {elt : E} {scope : Scope} {tg e : Expr} {ies : List Expr} {x : Str} {p1 p2 : Pos} (cn : Cn G C K N X W none sc true) (ok : LcOk G C X k own t ifs elt N sc scope tg ies e) (hb : bName K sc x "range" = true) (hn : notStar a = true) (hn2 : notStar b = true) (hl : ∀ en S ds S1, os en S = .ok ds S1 → ds.length = 2) (hs : PA X [a, b] (tA G k W none os)) :
    PE X (.ListComp e [⟨tg, .Call (.Name x p1) [a, b] [] p2, ies, 0⟩] scope pos) (tL G k W none (oLcr C own t os ifs elt)) := by
  rw [← cn.sce] at hb
  obtain ⟨rfl, hg, hm⟩ := bName_ok hb cn.fre
  have s2 : starEach [b] X.env = (false, eval b X.env) :: starEach [] X.env := star_cons hn2 [] X.env
  have s1 : starEach [a, b] X.env = (false, eval a X.env) :: starEach [b] X.env := star_cons hn [b] X.env
  exact (pe_lc (cn.cm rfl).1 (by rw [cn.hN]; exact cn.nd) (pi_range2 hg hm hs (by rw [s1, s2]; rfl) s2) ok.blk ok.pg ok.pts ok.pe (fun x => rfl)).of (lcr_conv2 hl ok.ow)
theorem star3 {a b c : Expr} (h1 : notStar a = true) (h2 : notStar b = true) (h3 : notStar c = true) (pos : Pos) : starEach [a, b, c] X.env = (false, eval a X.env) :: starEach [b, c] X.env ∧ (backTo pos (starEach [b, c] X.env)).any (·.1) = false := by
  refine ⟨star_cons h1 [b, c] X.env, ?_⟩
  rw [show starEach [b, c] X.env = (false, eval b X.env) :: starEach [c] X.env from star_cons h2 [c] X.env, show starEach [c] X.env = (false, eval c X.env) :: starEach [] X.env from star_cons h3 [] X.env]
  rfl
theorem l_lcr3 {own : List Nat} {t : Tg} {ifs : List E} {elt : E} {scope : Scope} {tg e : Expr} {ies : List Expr} {x : Str} {p1 p2 : Pos} (cn : Cn G C K N X W none sc true) (ok : LcOk G C X k own t ifs elt N sc scope tg ies e) (hb : bName K sc x "range" = true) (hn : notStar a = true) (hn2 : notStar b = true) (hn3 : notStar c = true) (hl : ∀ en S ds S1, os en S = .ok ds S1 → ds.length = 3) (hs : PA X [a, b, c] (tA G k W none os)) :
    PE X (.ListComp e [⟨tg, .Call (.Name x p1) [a, b, c] [] p2, ies, 0⟩] scope pos) (tL G k W none (oLcr C own t os ifs elt)) := by
  rw [← cn.sce] at hb
  obtain ⟨rfl, hg, hm⟩ := bName_ok hb cn.fre
  have s := star3 (X := X) hn hn2 hn3 p2
  exact (pe_lc (cn.cm rfl).1 (by rw [cn.hN]; exact cn.nd) (pi_range3 hg hm hs s.1 s.2) ok.blk ok.pg ok.pts ok.pe (fun x => rfl)).of (lcr_conv3 hl ok.ow)
end
end Tw

set_option linter.all false
set_option Elab.async false
set_option maxRecDepth 100000
set_option maxHeartbeats 2000000
/-! TwC8z: comprehensions over zip of a tuple and a list; a list backwards. -/
namespace Tw
open PySem PySem.Spec PyProof.Rows L2
section
variable {G : Wd} {C : Cb} {K : Ck} {N : List Str} {sc : Scope} {calm : Bool} {X : Cx} {W : WX} {xa : Option (Addr × Nat × Addr)} {k k' : Nat} {a b c : Expr} {es : List Expr} {pos : Pos} {oa ob oc : En → Store → Out D} {os : En → Store → Out (List D)}
  {m m1 m' : List Addr} {en : En} {S S1 : Store} {σ : Sl} {H H1 H' : Hp} {Q : VK}
theorem zipIts_len (xs ys : List P) : (zipIts xs ys).length = min xs.length ys.length := by simp [zipIts]
theorem lcz_turns {own : List Nat} {t : Tg} {ifs : List E} {elt : E} {a0 b0 : Addr} {xs ys : List P} {vs ws : List V} (hqa : SqT G.K H1 a0 vs) (hqb : Fz G.K m1 H1 b0 ws) (fa : F2 (RD G m1 H1) xs vs) (fb : F2 (RD G m1 H1) ys ws) (hn : (zipIts xs ys).length ≤ sizeLine) (ho : tgOwn own t = true)
    (re : RE G k none m1 H1 en σ) (rs : RS G k m1 H1 S1) (p : PostL G k W m1 σ H1 Q ((turns (fun _ => true) (fLc C own t ifs elt en) (zipIts xs ys) S1).noexc)) : ∀ D', H1 D' = none → ∃ W : Nat → Nat → Hp → Prop, (∃ m, W 0 m (upd H1 D' (.lst []))) ∧ ∀ i m H, W i m H →
  ((ItzM G.K a0 b0).stop i H ∧ Q (.ref D') H) ∨ ((ItzM G.K a0 b0).go i H ∧ ∃ Nx : Hp → Prop, (∀ H', Nx H' → ∃ m', m' < m ∧ W (i + 1) m' H') ∧ ∀ x H', (ItzM G.K a0 b0).yld i H x H' → gT G.K t x (wipe σ own) H' fun σ2 H2 => wipe σ2 own = wipe σ own ∧ tT G (k + 1) W0 none (evIfs C ifs) σ2 H2 fun b H3 =>
    if b = true then tE G (k + 1) W0 none (ev C elt) σ2 H3 fun y H4 => ∃ acc, H4 D' = some (.lst acc) ∧ acc.length < sizeLine ∧ Nx (upd H4 D' (.lst (acc ++ [y]))) else Nx H3) := by
  intro p0 h0
  let zs := zipIts xs ys
  have hz : zs.length = min xs.length ys.length := zipIts_len xs ys
  have hn' : zs.length ≤ sizeLine := hn
  have la := fa.len
  have lb := fb.len
  let Wi : Nat → Hp → Prop := fun i H' => i ≤ zs.length ∧ ∃ m' S' acc, Ac G k m1 H1 p0 m' H' S' acc ∧ acc.length ≤ i ∧ PostL G k W m1 σ H1 Q ((tn (fun _ => true) (fLc C own t ifs elt en) acc (zs.drop i) S').noexc)
  refine ⟨fun i mm H' => mm = zs.length - i ∧ Wi i H', ⟨_, rfl, Nat.zero_le _, m1, S1, [], ⟨.same rs.le (same_new h0), rs.nt.ne h0, rs.ins h0 (same_new h0) upd_same, [], upd_same, .nil⟩, Nat.le_refl _, by rw [List.drop_zero, tn_0]; exact p⟩, ?_⟩
  rintro i mm H' ⟨rfl, hi, m', S', acc, q, hacc, p⟩
  have hqa' : SqT G.K H' a0 vs := (q.ex0 h0).sqT rs.nt hqa
  have hqb' : SqL G.K H' b0 ws := ((q.ex0 h0).fz hqb).sq
  by_cases hlt : i < zs.length
  · have hi1 : i < xs.length := by omega
    have hi2 : i < ys.length := by omega
    obtain ⟨v, hv, rv⟩ := fa.get (i := i) (x := xs[i]) (by simp [hi1])
    obtain ⟨w, hw, rw_⟩ := fb.get (i := i) (x := ys[i]) (by simp [hi2])
    have hd : zs.drop i = zs[i] :: zs.drop (i + 1) := List.drop_eq_getElem_cons hlt
    have hge : zs[i] = .p (.tup [xs[i], ys[i]]) := by simp [zs, zipIts]
    rw [hd, hge, tn_cons, if_pos rfl] at p
    refine .inr ⟨⟨vs, ws, v, w, hqa', hqb', hv, hw⟩, Wi (i + 1), fun H'' h => ⟨_, by omega, rfl, h⟩, fun u H'' y => ?_⟩
    obtain ⟨T, v', w', o', rfl, hT, hdn, rfl, f1, f2⟩ := y
    have ev1 := f1 vs hqa'
    rw [hv] at ev1
    cases ev1
    have ew1 := f2 ws hqb'
    rw [hw] at ew1
    cases ew1
    have sm := same_new (o := .frz o' (.tup [v, w])) hT
    have x2 : Ext (k + 1) (insK k p0 m') H' (insK k p0 m') (upd H' T (.frz o' (.tup [v, w]))) := .same q.rs.le sm
    obtain ⟨m2, e2, q2⟩ := q.go x2 (q.rs.same sm)
    have rp : RDD G (k + 1) (insK k p0 m2) (upd H' T (.frz o' (.tup [v, w]))) (.p (.tup [xs[i], ys[i]])) (.ref T) := by
      rw [← e2]
      exact RD.newT q.rs.nt hT hdn (show 2 ≤ sizeLine by decide) (.cons (RD.mono (q.ex0 h0) rs.nt _ _ rv) (.one (RD.mono (q.ex0 h0) rs.nt _ _ rw_)))
    have re' : RE G (k + 1) none (insK k p0 m2) (upd H' T (.frz o' (.tup [v, w]))) (wipeE en own) (wipe σ own) := re_wipe (re.go (q2.ex0 h0) rs.nt q2.hm) own
    cases es : setT t (.p (.tup [xs[i], ys[i]])) (wipeE en own) with
    | none =>
      have e : fLc C own t ifs elt en (.p (.tup [xs[i], ys[i]])) S' = .stuck := by unfold fLc; rw [es]
      rw [e] at p
      exact p.elim
    | some en' =>
      have e : fLc C own t ifs elt en (.p (.tup [xs[i], ys[i]])) S' = (evIfs C ifs en' S').bind fun k S3 => match k with
        | true => (ev C elt en' S3).bind fun y S4 => .ok (some y) S4
        | false => .ok none S3 := by unfold fLc; rw [es] <;> rfl
      rw [e, Out.bind_assoc] at p
      refine gT_ok re' rp es fun σ2 re2 hj hl => ⟨wipe_back (tgIx_own ho) hj hl, insK k p0 m2, en', S', re2, q2.rs, ?_⟩
      · refine seqN p fun b S3 m3 H3 b' x3 rs3 r3 p3 => ?_
        cases r3
        obtain ⟨m4, e4, q4⟩ := q2.go x3 rs3
        subst e4
        have re3 := re2.mono x3 q2.rs.nt
        refine ite_of (fun hb => ?_) fun hb => ?_
        · subst hb
          dsimp only at p3
          rw [Out.bind_assoc] at p3
          refine ⟨_, _, _, re3, rs3, seqN p3 fun d S5 m5 H5 v x5 rs5 r5 p5 => ?_⟩
          obtain ⟨m6, e6, q6⟩ := q4.go x5 rs5
          subst e6
          obtain ⟨ws, g1, g2, g3⟩ := q6.put h0 r5
          refine ⟨ws, g1, by omega, by omega, m6, S5, acc ++ [d], g3, by simp; omega, ?_⟩
          exact p5
        · subst hb
          refine ⟨by omega, m4, S3, acc, q4, by omega, ?_⟩
          have e5 : acc ++ (none : Option D).toList = acc := by simp
          dsimp only at p3
          rw [Out.bind_ok, e5] at p3
          exact p3
  · have e : i = zs.length := by omega
    subst e
    rw [List.drop_length, tn_nil, if_pos rfl] at p
    obtain ⟨us, g1, g2⟩ := q.at_
    exact .inl ⟨⟨vs, ws, hqa', hqb', by omega, by omega, by omega⟩, p m' H' p0 us q.x h0 g1 q.np q.rs (by omega) g2⟩
def oLcz (C : Cb) (own : List Nat) (t : Tg) (os : En → Store → Out (List D)) (ifs : List E) (elt : E) : En → Store → Out (List D) := fun en S => (os en S).bind fun x S0 => (Out.of (zipD x) S0).bind fun its S1 => (turns (fun _ => true) (fLc C own t ifs elt en) its S1).noexc
theorem lcz_conv {own : List Nat} {t : Tg} {ifs : List E} {elt : E} (hK : X.K = G.K) (ho : tgOwn own t = true) : ∀ σ H Q, tL G k W none (oLcz C own t os ifs elt) σ H Q → tLc (iZipM X.K (tA G k W none os)) (gT G.K t) (tT G (k + 1) W0 none (evIfs C ifs)) (tE G (k + 1) W0 none (ev C elt)) ((ownN N own).map (·.2)) σ H Q := fun σ H Q ⟨m, en, S, re, rs, p⟩ => by
  rw [ownN_map]
  refine ⟨m, en, S, re, rs, ?_⟩
  unfold oLcz at p
  cases q : os en S with
  | ok ds S1 =>
    rw [q] at p
    intro m1 H1 vs x1 rs1 r1
    have p1 := PostL.ext (o := _) p x1
    rw [Out.bind_ok] at p1
    cases e : zipD ds with
    | none => rw [e] at p1; exact p1.elim
    | some its =>
      rw [e] at p1
      unfold zipD at e
      split at e
      · rename_i xs ys
        cases e
        obtain ⟨v, v2, rfl, r0, r2⟩ := F2.inv2 r1
        obtain ⟨a1, us, rfl, g2, g3, g4⟩ := RV.tup (.inl (show RD G m1 H1 (.tup xs) v from r0))
        have r' : RD G m1 H1 (.lst ys) v2 := r2
        simp only [RD] at r'
        obtain ⟨b1, ws, rfl, h1, h2, h3⟩ := r'
        have f := RDs_f2.mp h3
        have ll := g4.len
        rw [hK]
        refine ⟨a1, b1, us, ws, rfl, g2, h1.sq, lcz_turns g2 h1 g4 f ?_ ho (re.mono x1 rs.nt) rs1 p1⟩
        rw [zipIts_len]
        omega
      · cases e
  | exc c' z S1 => rw [q] at p; exact p
  | stuck => rw [q] at p; exact p
theorem l_lcz2 {own : List Nat} {t : Tg} {ifs : List E} {elt : E} {scope : Scope} {tes : List Expr} {tk : Nat} {tp : Pos} {e : Expr} {ies : List Expr} {x : Str} {p1 p2 : Pos} (cn : Cn G C K N X W none sc true) (ok : LcOk G C X k own t ifs elt N sc scope (.Tuple tes tk tp) ies e) (hb : bName K sc x "zip" = true) (hn : notStar a = true) (hn2 : notStar b = true) (hs : PA X [a, b] (tA G k W none os)) :
    PE X (.ListComp e [⟨.Tuple tes tk tp, .Call (.Name x p1) [a, b] [] p2, ies, 0⟩] scope pos) (tL G k W none (oLcz C own t os ifs elt)) := by
  rw [← cn.sce] at hb
  obtain ⟨rfl, hg, hm⟩ := bName_ok hb cn.fre
  have s2 : starEach [b] X.env = (false, eval b X.env) :: starEach [] X.env := star_cons hn2 [] X.env
  have s1 : starEach [a, b] X.env = (false, eval a X.env) :: starEach [b] X.env := star_cons hn [b] X.env
  exact (pe_lc (cn.cm rfl).1 (by rw [cn.hN]; exact cn.nd) (pi_zipM hg hm hs s1 (by rw [s2]; rfl)) ok.blk ok.pg ok.pts ok.pe (fun x => rfl)).of (lcz_conv cn.hK ok.ow)
theorem l_revl {p1 p2 p3 : Pos} {j : Nat} (hK : X.K = G.K) (ha : PE X a (tE G k W xa oa)) : PE X (.Subscript a (.Slice none none (some (.UnaryOp .USub (.Constant (.int 1) j p1) p2)) p3) pos) (tL G k W xa fun en S => (oa en S).bind fun x S1 => revlD x S1) := by
  refine (pe_revL ha).of fun σ H Q ⟨m, en, S, re, rs, p⟩ => ?_
  refine seqEL re rs p fun d S1 m1 H1 v x1 re1 rs1 r1 p1 => ?_
  unfold revlD at p1
  cases e : lsD S1 d with
  | none => rw [e] at p1; exact p1.elim
  | some ds =>
    rw [e] at p1
    obtain ⟨a1, vs, rfl, h2, h3, h4⟩ := lsD_f2 rs1 r1 e
    refine ⟨a1, vs, rfl, by rw [hK]; exact h2, ?_⟩
    exact newL rs1 h4.rev (by rw [List.length_reverse]; exact h3) p1
end
end Tw

set_option linter.all false
set_option Elab.async false
set_option maxRecDepth 100000
set_option maxHeartbeats 2000000
/-! TwC9: all expressions at once. -/
namespace Tw
open PySem PySem.Spec PyProof.Rows L2
section
variable {G : Wd} {C : Cb} {K : Ck} {N : List Str} {sc : Scope} {calm : Bool} {X : Cx} {W : WX} {xa : Option (Addr × Nat × Addr)} {k k' : Nat} {a b c : Expr} {es : List Expr} {pos : Pos} {oa ob oc : En → Store → Out D} {os : En → Store → Out (List D)}
  {m m1 m' : List Addr} {en : En} {S S1 : Store} {σ : Sl} {H H1 H' : Hp} {Q : VK}
def oChn (o q : CmpO) (oa ob oc : En → Store → Out D) : En → Store → Out D := fun en S => (oa en S).bind fun x S1 => (ob en S1).bind fun y S2 => (cmpD o x y S2).bind fun k S3 =>
    match k with
    | .p (.bl true) => (oc en S3).bind fun z S4 => cmpD q y z S4
    | .p (.bl false) => .ok (.p (.bl false)) S3
    | _ => .stuck
theorem chn_conv {o q : CmpO} {α β : Type} {Rl : List Addr → Hp → α → β → Prop} {Qb : β → Hp → Prop} {f : D → Store → Out α} {Q1 : VK} (re : RE G k xa m H en σ) (rs : RS G k m H S) (p : Post G k Rl W m σ H Qb ((oChn o q oa ob oc en S).bind f))
    (cf : ∀ z S1 m1 H1, RS G k m1 H1 S1 → Post G k Rl W m1 σ H1 Qb (f (.p (.bl z)) S1) → Q1 (.bl z) H1) : tChain (rCmp G o) (rCmp G q) (tE G k W xa oa) (tE G k W xa ob) (tE G k W xa oc) σ H Q1 := by
  unfold oChn at p
  rw [Out.bind_assoc] at p
  refine seqE re rs p fun d S1 m1 H1 v x1 re1 rs1 r1 p1 => ?_
  rw [Out.bind_assoc] at p1
  refine seqE re1 rs1 p1 fun d2 S2 m2 H2 v2 x2 re2 rs2 r2 p2 => ?_
  rw [Out.bind_assoc] at p2
  unfold cmpD at p2
  split at p2
  · rename_i u w q1 q2
    cases e : cmpP o u w with
    | none => rw [e] at p2; exact p2.elim
    | some z =>
      rw [e] at p2
      refine ⟨m2, u, w, z, rs2.nt, view_rv rs2 (r1.mono x2 rs1.nt) q1, view_rv rs2 r2 q2, e, z, rfl, ite_of (fun hz => ?_) fun hz => ?_⟩
      · subst hz
        rw [Option.map_some, Out.of_some, Out.bind_ok] at p2
        dsimp only at p2
        rw [Out.bind_assoc] at p2
        refine seqE re2 rs2 p2 fun d3 S3 m3 H3 v3 x3 re3 rs3 r3 p3 => ?_
        split at p3
        · rename_i u' w' q1' q2'
          cases e' : cmpP q u' w' with
          | none => rw [e'] at p3; exact p3.elim
          | some z' =>
            rw [e'] at p3
            exact ⟨m3, u', w', z', rs3.nt, view_rv rs3 (r2.mono x3 rs2.nt) q1', view_rv rs3 r3 q2', e', cf z' S3 m3 H3 rs3 p3⟩
        · exact p3.elim
      · subst hz
        exact cf false S2 m2 H2 rs2 p2
  · exact p2.elim
theorem marks2 {op op' : CmpOp} {e e' : Expr} (h : notSet e' = true) : lastMarks [op, op'] [e, e'] = false := notSet_mark h
theorem l_chn {o q : CmpO} {op op' : CmpOp} (hK : X.K = G.K) (hu : X.A.units + 64 < cLine) (h : cmIs o op = true) (h' : cmIs q op' = true) (hn : notSet c = true) (ha : PE X a (tE G k W xa oa)) (hb : PE X b (tE G k W xa ob)) (hc : PE X c (tE G k W xa oc)) :
    PE X (.Compare a [op, op'] [b, c] pos) (tE G k W xa (oChn o q oa ob oc)) := by
  rw [cmIs_eq h, cmIs_eq h']
  refine (pe_chain (op_cmp hK hu o) (op_cmp hK hu q) ha hb hc (marks2 hn)).of fun σ H Q ⟨m, en, S, re, rs, p⟩ => ?_
  refine chn_conv (Rl := RDD G k) (f := fun d S => .ok d S) re rs ?_ fun z S1 m1 H1 rs1 p1 => p1.ok_now rs1 (show RD G m1 H1 (.bl z) (.bl z) by simp only [RD])
  have e : (oChn o q oa ob oc en S).bind (fun d S => Out.ok d S) = oChn o q oa ob oc en S := by cases oChn o q oa ob oc en S <;> rfl
  rw [e]
  exact p
theorem l_chnT {o q : CmpO} {op op' : CmpOp} (hK : X.K = G.K) (hu : X.A.units + 64 < cLine) (h : cmIs o op = true) (h' : cmIs q op' = true) (hn : notSet c = true) (ha : PE X a (tE G k W xa oa)) (hb : PE X b (tE G k W xa ob)) (hc : PE X c (tE G k W xa oc)) :
    PT X (.Compare a [op, op'] [b, c] pos) (tT G k W xa (tTst (oChn o q oa ob oc))) := by
  rw [cmIs_eq h, cmIs_eq h']
  refine (pt_chain (op_cmp hK hu o) (op_cmp hK hu q) ha hb hc (marks2 hn)).of fun σ H Q ⟨m, en, S, re, rs, p⟩ => ?_
  unfold tTst at p
  exact chn_conv re rs p fun z S1 m1 H1 rs1 p1 => ⟨z, rfl, p1.ok_now rs1 rfl⟩
theorem asInts_ints : ∀ {xs : List P} {ns : List Int} {vs : List V}, asInts xs = some ns → F2 (RD G m H) xs vs → vs = ns.map V.int
  | [], ns, vs, e, f => by cases f; cases e; rfl
  | x :: xs, ns, vs, e, f => by
    cases f with
    | cons h t =>
      cases x with
      | int i =>
        simp only [asInts] at e
        split at e
        · rename_i ys q
          cases e
          rw [asInts_ints q t, RV.int (.inl h)]
          rfl
        · cases e
      | _ => simp [asInts] at e
theorem l_max0 {x n : Str} {p1 kp : Pos} (hK : X.K = G.K) (hc : X.calm = true) (hu : X.A.units + 64 < cLine) (hf : ∀ x, K.fre.contains x = true → X.mg x = none) (hb : bName K X.env.scope x "max" = true) (hs : notStar a = true) (hn : n = ("default" : Str))
    (ha : PE X a (tE G k W xa oa)) (hd : PE X b (tE G k W xa ob)) :
    PE X (.Call (.Name x p1) [a] [⟨some n, b, kp⟩] pos) (tE G k W xa fun en S => (oa en S).bind fun x S1 => (ob en S1).bind fun y S2 => match views S2 [x, y] with
      | some ys => Out.of ((biP .max0 ys).map D.p) S2
      | none => .stuck) := by
  obtain ⟨rfl, hg, hm⟩ := bName_ok hb hf
  subst hn
  have s1 := star_cons hs [] X.env
  have cr : CallRK X (.builtin "max") [Str.ofString "default"] (fun vs zs H Q => ∃ x y, vs = [x] ∧ zs = [y] ∧ rMax0 X.K x y H Q) := by
    intro pins s σ H xs zs us ws Q I r1 r2 ⟨x, y, e1, e2, h⟩
    subst e1 e2
    cases r1 with
    | cons r1 t =>
      cases t
      cases r2 with
      | cons r2 t =>
        cases t
        exact call_max0 hc hu I r1 r2 h
  refine (pe_callBK cr hg hm (by decide +kernel) (pa_cons ha pa_nil s1) (pk_cons hd pk_nil) (he := by rw [s1]; rfl) (hpl := by rw [s1]; rfl)).of fun σ H Q ⟨m, en, S, re, rs, p⟩ => ?_
  refine seqE re rs p fun d S1 m1 H1 v x1 re1 rs1 r1 p1 => seqE re1 rs1 p1 fun d2 S2 m2 H2 v2 x2 re2 rs2 r2 p2 => ⟨v, v2, rfl, rfl, ?_⟩
  have f : F2 (RDD G k m2 H2) [d, d2] [v, v2] := .cons (r1.mono x2 rs1.nt) (.one r2)
  split at p2
  · rename_i ys q
    have g := views_rv rs2 f q
    match ys, g with
    | [u, w], g =>
      obtain ⟨v', v2', e1, g1, g2⟩ := g.inv2
      cases e1
      cases u with
      | lst xs =>
        cases w with
        | int i =>
          obtain ⟨a1, vs, rfl, h1, h2, h3⟩ := g1.lst
          have ei := g2.int
          subst ei
          have fin : ∀ n : Int, RDD G k m2 H2 (.p (.int n)) (.int n) := fun n => by show RD G m2 H2 _ _; simp only [RD]
          unfold biP at p2
          dsimp only at p2
          split at p2
          · rename_i n ns e
            have ev := asInts_ints e h3
            subst ev
            refine ⟨a1, n :: ns, i, rfl, rfl, by rw [hK]; exact h1, fun z => (by cases z), fun n' r' z => ?_⟩
            cases z
            exact p2.ok_now rs2 (fin _)
          · rename_i e
            have ev := asInts_ints e h3
            subst ev
            refine ⟨a1, [], i, rfl, rfl, by rw [hK]; exact h1, fun _ => p2.ok_now rs2 (fin _), fun n' r' z => by cases z⟩
          · exact p2.elim
        | _ => exact p2.elim
      | _ => exact p2.elim
    | [], g => exact p2.elim
    | [_], g => cases g with | cons _ t => cases t
    | _ :: _ :: _ :: _, g => obtain ⟨_, _, e, _⟩ := (F2.inv2 f); cases g with | cons _ t => cases t with | cons _ t => cases t
  · exact p2.elim
end
end Tw

set_option linter.all false
set_option Elab.async false
set_option maxRecDepth 100000
set_option maxHeartbeats 2000000
/-! TwC10: all expressions at once. -/
namespace Tw
open PySem PySem.Spec PyProof.Rows L2
/-- each of several does what the reading says -/
def Each (G : Wd) (C : Cb) (X : Cx) (k : Nat) (W : WX) (xa : Option (Addr × Nat × Addr)) : List E → List Expr → Prop
  | [], [] => True
  | a :: r, e :: es => notStar e = true ∧ PE X e (tE G k W xa (ev C a)) ∧ (tstE a = true → PT X e (tT G k W xa (tTst (ev C a)))) ∧ Each G C X k W xa r es
  | _, _ => False
section
variable {G : Wd} {C : Cb} {K : Ck} {N : List Str} {sc : Scope} {calm : Bool} {X : Cx} {W : WX} {xa : Option (Addr × Nat × Addr)} {k k' : Nat} {a b c : Expr} {es : List Expr} {pos : Pos} {oa ob oc : En → Store → Out D} {os : En → Store → Out (List D)}
  {m m1 m' : List Addr} {en : En} {S S1 : Store} {σ : Sl} {H H1 H' : Hp} {Q : VK}
theorem each_pa : ∀ {xs : List E} {es : List Expr}, Each G C X k W xa xs es → PA X es (tA G k W xa (evs C xs))
  | [], [], _ => a_nil
  | [], _ :: _, h => h.elim
  | _ :: _, [], h => h.elim
  | a :: r, e :: es, h => a_cons h.1 h.2.1 (each_pa h.2.2.2)
theorem each_star : ∀ {xs : List E} {es : List Expr}, Each G C X k W xa xs es → es.all notStar = true
  | [], [], _ => rfl
  | [], _ :: _, h => h.elim
  | _ :: _, [], h => h.elim
  | a :: r, e :: es, h => by rw [List.all_cons, h.1, each_star h.2.2.2]; rfl
theorem each_len : ∀ {xs : List E} {es : List Expr}, Each G C X k W xa xs es → es.length = xs.length
  | [], [], _ => rfl
  | [], _ :: _, h => h.elim
  | _ :: _, [], h => h.elim
  | a :: r, e :: es, h => by rw [List.length_cons, List.length_cons, each_len h.2.2.2]
theorem evs_len : ∀ (xs : List E) (en : En) (S : Store) (ds : List D) (S1 : Store), evs C xs en S = .ok ds S1 → ds.length = xs.length
  | [], en, S, ds, S1, h => by
    have h' : (Out.ok [] S : Out (List D)) = .ok ds S1 := h
    cases h'
    rfl
  | a :: r, en, S, ds, S1, h => by
    have h' : ((ev C a en S).bind fun x S1 => (evs C r en S1).bind fun xs S2 => .ok (x :: xs) S2) = .ok ds S1 := h
    cases q : ev C a en S with
    | ok d S2 =>
      rw [q, Out.bind_ok] at h'
      cases q2 : evs C r en S2 with
      | ok ds2 S3 =>
        rw [q2, Out.bind_ok] at h'
        cases h'
        rw [List.length_cons, List.length_cons, evs_len r en S2 ds2 _ q2]
      | exc c z S3 => rw [q2] at h'; cases h'
      | stuck => rw [q2] at h'; cases h'
    | exc c z S2 => rw [q] at h'; cases h'
    | stuck => rw [q] at h'; cases h'
theorem each_and : ∀ {xs : List E} {es : List Expr}, Each G C X k W xa xs es → PE X (.BoolOp .And es pos) (tE G k W xa (evAnd C xs)) ∧ (tstEs xs = true → PW X (.BoolOp .And es pos) (tT G k W xa (tTst (evAnd C xs))))
  | [], [], _ => ⟨⟨fun pins s σ H Q I h => by obtain ⟨_, _, _, _, _, p⟩ := h; exact False.elim p⟩, fun _ => ⟨fun w pins s σ H Q I h => by obtain ⟨_, _, _, _, _, p⟩ := h; exact False.elim p⟩⟩
  | [], _ :: _, h => h.elim
  | _ :: _, [], h => h.elim
  | [a], [e], h => ⟨l_one h.2.1, fun t => l_oneT (h.2.2.1 (by
      have t' : (tstE a && tstEs []) = true := t
      rw [Bool.and_eq_true] at t'
      exact t'.1))⟩
  | [a], e :: e2 :: es, h => h.2.2.2.elim
  | a :: a2 :: r, [e], h => h.2.2.2.elim
  | a :: a2 :: r, e :: e2 :: es, h => ⟨l_and h.2.1 (each_and h.2.2.2).1, fun t => by
      have t' : (tstE a && tstEs (a2 :: r)) = true := t
      rw [Bool.and_eq_true] at t'
      exact l_andT (h.2.2.1 t'.1) ((each_and h.2.2.2).2 t'.2)⟩
theorem each_or : ∀ {xs : List E} {es : List Expr}, Each G C X k W xa xs es → PE X (.BoolOp .Or es pos) (tE G k W xa (evOr C xs)) ∧ (tstEs xs = true → PW X (.BoolOp .Or es pos) (tT G k W xa (tTst (evOr C xs))))
  | [], [], _ => ⟨⟨fun pins s σ H Q I h => by obtain ⟨_, _, _, _, _, p⟩ := h; exact False.elim p⟩, fun _ => ⟨fun w pins s σ H Q I h => by obtain ⟨_, _, _, _, _, p⟩ := h; exact False.elim p⟩⟩
  | [], _ :: _, h => h.elim
  | _ :: _, [], h => h.elim
  | [a], [e], h => ⟨l_one h.2.1, fun t => l_oneF (h.2.2.1 (by
      have t' : (tstE a && tstEs []) = true := t
      rw [Bool.and_eq_true] at t'
      exact t'.1))⟩
  | [a], e :: e2 :: es, h => h.2.2.2.elim
  | a :: a2 :: r, [e], h => h.2.2.2.elim
  | a :: a2 :: r, e :: e2 :: es, h => ⟨l_or h.2.1 (each_or h.2.2.2).1, fun t => by
      have t' : (tstE a && tstEs (a2 :: r)) = true := t
      rw [Bool.and_eq_true] at t'
      exact l_orT (h.2.2.1 t'.1) ((each_or h.2.2.2).2 t'.2)⟩
theorem each_ifs : ∀ {xs : List E} {es : List Expr}, Each G C X k W xa xs es → tstEs xs = true → PTs X es (tT G k W xa (evIfs C xs))
  | [], [], _, _ => pts_nil.of fun σ H Q ⟨m, en, S, re, rs, p⟩ => p.ok_now rs rfl
  | [], _ :: _, h, _ => h.elim
  | _ :: _, [], h, _ => h.elim
  | [a], [e], h, t => pts_one (h.2.2.1 (by
      have t' : (tstE a && tstEs []) = true := t
      rw [Bool.and_eq_true] at t'
      exact t'.1))
  | [a], e :: e2 :: es, h, _ => h.2.2.2.elim
  | a :: a2 :: r, [e], h, _ => h.2.2.2.elim
  | a :: a2 :: r, e :: e2 :: es, h, _ => ⟨fun pins s σ H Q I h => by obtain ⟨_, _, _, _, _, p⟩ := h; exact False.elim p⟩
theorem lcOk {own : List Nat} {t : Tg} {ifs : List E} {elt : E} {scope : Scope} {tg e : Expr} {ies : List Expr} (cn : Cn G C K N X W xa sc true) (hb : blkC N sc scope (ownN N own) = true) (ho : tgOwn own t = true) (ht : chkT N scope.names t tg = true) (hts : tstEs ifs = true)
    (hifs : ∀ (s : Shared) (H : Hp) (Cc : Addr) (cl : List (Str × Addr)) (fp : List Addr), Each G C (X.blk s H scope (compEnvC scope cl Cc X.env) fp) (k + 1) W0 none ifs ies)
    (he : ∀ (s : Shared) (H : Hp) (Cc : Addr) (cl : List (Str × Addr)) (fp : List Addr), PE (X.blk s H scope (compEnvC scope cl Cc X.env) fp) e (tE G (k + 1) W0 none (ev C elt))) : LcOk G C X k own t ifs elt N sc scope tg ies e :=
  ⟨by rw [cn.hN, cn.sce]; exact blkOk_by hb, ho, blk_pg cn ht, fun s H Cc cl fp => each_ifs (hifs s H Cc cl fp) hts, he⟩
theorem l_lcr {xs : List E} {own : List Nat} {t : Tg} {ifs : List E} {elt : E} {scope : Scope} {tg it e : Expr} {ies : List Expr} (cn : Cn G C K N X W none sc true) (ok : LcOk G C X k own t ifs elt N sc scope tg ies e) (hr : chkR K sc it = true) (q : Each G C X k W none xs (rArgs it)) :
    PE X (.ListComp e [⟨tg, it, ies, 0⟩] scope pos) (tL G k W none (oLcr C own t (evs C xs) ifs elt)) := by
  have hl := each_len q
  unfold chkR at hr
  split at hr
  · rename_i x p1 a p2
    have st := each_star q
    simp only [rArgs, List.all_cons, Bool.and_eq_true] at st
    exact l_lcr1 cn ok hr st.1 (fun en S ds S1 e => by rw [evs_len xs en S ds S1 e, ← hl]; rfl) (each_pa q)
  · rename_i x p1 a b p2
    have st := each_star q
    simp only [rArgs, List.all_cons, Bool.and_eq_true] at st
    exact l_lcr2 cn ok hr st.1 st.2.1 (fun en S ds S1 e => by rw [evs_len xs en S ds S1 e, ← hl]; rfl) (each_pa q)
  · rename_i x p1 a b c p2
    have st := each_star q
    simp only [rArgs, List.all_cons, Bool.and_eq_true] at st
    exact l_lcr3 cn ok hr st.1 st.2.1 st.2.2.1 (fun en S ds S1 e => by rw [evs_len xs en S ds S1 e, ← hl]; rfl) (each_pa q)
  · cases hr
theorem l_lcz {xs : List E} {own : List Nat} {t : Tg} {ifs : List E} {elt : E} {scope : Scope} {tg it e : Expr} {ies : List Expr} (cn : Cn G C K N X W none sc true) (ok : LcOk G C X k own t ifs elt N sc scope tg ies e) (hr : chkZ K sc it = true) (ht : isTupT tg = true) (q : Each G C X k W none xs (rArgs it)) :
    PE X (.ListComp e [⟨tg, it, ies, 0⟩] scope pos) (tL G k W none (oLcz C own t (evs C xs) ifs elt)) := by
  unfold isTupT at ht
  split at ht
  · unfold chkZ at hr
    split at hr
    · rename_i x p1 a b p2
      have st := each_star q
      simp only [rArgs, List.all_cons, Bool.and_eq_true] at st
      exact l_lcz2 cn ok hr st.1 st.2.1 (each_pa q)
    · cases hr
  · cases ht
theorem l_lofr {xs : List E} {x y : Str} {p1 p2 pos2 : Pos} (hcm : X.calm = true) (hf : ∀ x, K.fre.contains x = true → X.mg x = none) (hb : bName K X.env.scope x "list" = true) (hb2 : bName K X.env.scope y "range" = true) (hl : es.length ≤ 2) (h0 : es.isEmpty = false) (q : Each G C X k W xa xs es) :
    PE X (.Call (.Name x p1) [.Call (.Name y p2) es [] pos2] [] pos) (tL G k W xa fun en S => (evs C xs en S).bind fun ds S1 => lofrL ds S1) := by
  match xs, es, q with
  | [], [], _ => cases h0
  | [a1], [a], q => exact l_lofr1 hcm hf hb hb2 q.1 q.2.1
  | [a1, b1], [a, b], q => exact l_lofr2 hcm hf hb hb2 q.1 q.2.2.2.1 q.2.1 q.2.2.2.2.1
  | _ :: _ :: _ :: _, _ :: _ :: _ :: _, _ => simp at hl
theorem opIs_add {o : BinO} {op : Operator} (h1 : opIs .add op = true) (h2 : opIs o op = true) : o = .add := by cases op <;> cases o <;> first | rfl | (exfalso; revert h1; decide) | (exfalso; revert h2; decide)
def oSt (o : En → Store → Out (List D)) (os : En → Store → Out (List D)) : En → Store → Out (List D) := fun en S => (o en S).bind fun xs S1 => (os en S1).bind fun ys S2 => if xs.length + ys.length ≤ line then .ok (xs ++ ys) S2 else .stuck
theorem l_star {p : Pos} (hK : X.K = G.K) (ha : PE X a (tE G k W xa oa)) (hr : PA X es (tA G k W xa os)) : PA X (.Starred a p :: es) (tA G k W xa (oSt (fun en S => (oa en S).bind fun x S1 => lofL x S1) os)) := by
  refine (StX.pa_star ha hr).of fun σ H Q ⟨m, en, S, re, rs, p⟩ => ?_
  unfold oSt at p
  dsimp only at p
  rw [Out.bind_assoc] at p
  refine seqE re rs p fun d S1 m1 H1 v x1 re1 rs1 r1 p1 => ?_
  cases q : lofL d S1 with
  | ok ds S2 =>
    rw [q, Out.bind_ok] at p1
    obtain ⟨rfl, a1, vs, rfl, h2, h3, h4⟩ := lofL_f2 rs1 r1 q
    refine ⟨a1, vs, rfl, by rw [hK]; exact h2.symm, ?_⟩
    refine seqA re1 rs1 p1 fun ys S3 m3 H3 ws x3 re3 rs3 r3 p3 => ?_
    split at p3
    · exact p3.ok_now rs3 ((h4.mono fun d v h => RDD.mono x3 rs1.nt h).app r3)
    · exact p3.elim
  | exc c z S2 =>
    unfold lofL at q
    split at q
    · cases q
    · cases e : lsD S1 d with
      | none => rw [e] at q; cases q
      | some z => rw [e] at q; cases q
  | stuck => rw [q] at p1; exact p1.elim
theorem l_plain {x : E} (hn : notStar a = true) (ha : PE X a (tE G k W xa (ev C x))) (hr : PA X es (tA G k W xa os)) : PA X (a :: es) (tA G k W xa (oSt (evs C [x]) os)) := by
  refine (pa_cons ha hr (star_cons hn es X.env)).of fun σ H Q ⟨m, en, S, re, rs, p⟩ => ?_
  have e : oSt (evs C [x]) os en S = (ev C x en S).bind fun d S1 => (os en S1).bind fun ys S2 => if 1 + ys.length ≤ line then .ok (d :: ys) S2 else .stuck := by
    show (((ev C x en S).bind fun x S1 => .ok [x] S1).bind fun xs S1 => (os en S1).bind fun ys S2 => if xs.length + ys.length ≤ line then .ok (xs ++ ys) S2 else .stuck) = _
    rw [Out.bind_assoc]
    rfl
  rw [e] at p
  refine seqE re rs p fun d S1 m1 H1 v x1 re1 rs1 r1 p1 => seqA re1 rs1 p1 fun ys S2 m2 H2 ws x2 re2 rs2 r2 p2 => ?_
  split at p2
  · exact p2.ok_now rs2 (F2.cons (r1.mono x2 rs1.nt) r2)
  · exact p2.elim
theorem evss_len : ∀ (xs : List E) (en : En) (S : Store) (ds : List D) (S1 : Store), evss C xs en S = .ok ds S1 → ds.length ≤ line
  | [], en, S, ds, S1, h => by
    have h' : (Out.ok [] S : Out (List D)) = .ok ds S1 := h
    cases h'
    exact Nat.zero_le _
  | a :: r, en, S, ds, S1, h => by
    have h' : ((evL C a en S).bind fun xs S1 => (evss C r en S1).bind fun ys S2 => if xs.length + ys.length ≤ line then .ok (xs ++ ys) S2 else .stuck) = .ok ds S1 := h
    cases q : evL C a en S with
    | ok d S2 =>
      rw [q, Out.bind_ok] at h'
      cases q2 : evss C r en S2 with
      | ok ds2 S3 =>
        rw [q2, Out.bind_ok] at h'
        split at h'
        · rename_i hl
          cases h'
          rw [List.length_append]
          exact hl
        · cases h'
      | exc c z S3 => rw [q2] at h'; cases h'
      | stuck => rw [q2] at h'; cases h'
    | exc c z S2 => rw [q] at h'; cases h'
    | stuck => rw [q] at h'; cases h'
theorem l_lss (ho : ∀ en S ds S1, os en S = .ok ds S1 → ds.length ≤ line) (h : PA X es (tA G k W xa os)) : PE X (.List es pos) (tL G k W xa os) := by
  refine (pe_lst h).of fun σ H Q ⟨m, en, S, re, rs, p⟩ => ⟨m, en, S, re, rs, ?_⟩
  cases q : os en S with
  | ok ds S1 =>
    rw [q] at p
    have hd := ho en S ds S1 q
    rw [line_eq] at hd
    intro m' H' vs x rs1 r1
    exact ⟨by rw [← F2.len r1]; exact hd, newL rs1 r1 hd (p.ext x)⟩
  | exc c' z S1 => rw [q] at p; exact p
  | stuck => rw [q] at p; exact p
theorem l_tss {x1 : Nat} (ho : ∀ en S ds S1, os en S = .ok ds S1 → ds.length ≤ line) (h : PA X es (tA G k W xa os)) : PE X (.Tuple es x1 pos) (tE G k W xa fun en S => (os en S).bind fun ds S1 => Out.of ((Ps ds).map fun ys => D.p (.tup ys)) S1) := by
  refine (pe_tupD h).of fun σ H Q ⟨m, en, S, re, rs, p⟩ => ⟨m, en, S, re, rs, ?_⟩
  dsimp only at p
  cases q : os en S with
  | ok ds S1 =>
    rw [q, Out.bind_ok] at p
    have hd := ho en S ds S1 q
    rw [line_eq] at hd
    intro m' H' vs x rs1 r1
    have p1 := Post.ext (o := _) p x
    cases e : Ps ds with
    | none => rw [e] at p1; exact p1.elim
    | some ys =>
      rw [e] at p1
      refine ⟨by rw [← F2.len r1]; exact hd, fun q o hq hd2 => ?_⟩
      exact p1 m' _ _ (.same rs1.le (same_new hq)) (rs1.same (same_new hq)) (RD.newT rs1.nt hq hd2 (by rw [← Ps_len e]; exact hd) (Ps_f2 e r1))
  | exc c' z S1 => rw [q] at p; exact p
  | stuck => rw [q] at p; exact p
/-- neither is a test -/
theorem nt {a : E} {x : Expr} (h : PE X x (tE G k W xa (ev C a))) (ht : tstE a = false) : PE X x (tE G k W xa (ev C a)) ∧ (tstE a = true → PT X x (tT G k W xa (tTst (ev C a)))) := ⟨h, fun z => by rw [ht] at z; cases z⟩
theorem vtx {x : Expr} {o : En → Store → Out D} {t : Bool} (h : PE X x (tE G k W xa o)) (he : ∀ whole, isTrue x X.env whole = (do let v ← whole; standAt x.pos; holding [v] (truthy v))) : PE X x (tE G k W xa o) ∧ (t = true → PT X x (tT G k W xa (tTst o))) := ⟨h, fun _ => l_val h he⟩
theorem vt {a : E} {x : Expr} (h : PE X x (tE G k W xa (ev C a))) (he : ∀ whole, isTrue x X.env whole = (do let v ← whole; standAt x.pos; holding [v] (truthy v))) : PE X x (tE G k W xa (ev C a)) ∧ (tstE a = true → PT X x (tT G k W xa (tTst (ev C a)))) := ⟨h, fun _ => l_val h he⟩
end

section
variable {G : Wd} {C : Cb} {K : Ck} {N : List Str}
mutual
theorem pe_main : ∀ (a : E) {k : Nat} {W : WX} {xa : Option (Addr × Nat × Addr)} {X : Cx} {sc : Scope} {calm : Bool} {x : Expr}, Cn G C K N X W xa sc calm → chk K N a sc calm x = true → PE X x (tE G k W xa (ev C a)) ∧ (tstE a = true → PT X x (tT G k W xa (tTst (ev C a))))
  | .var i, k, W, xa, X, sc, calm, x, cn, h => by
    unfold chk at h
    split at h <;> first | (cases h; done) | skip
    simp only [Bool.and_eq_true, decide_eq_true_eq] at h
    exact vt (l_var (by rw [cn.hN]; exact h.1.1) (by rw [cn.sce]; exact visB_ok h.1.2) h.2) fun _ => rfl
  | .cst p, k, W, xa, X, sc, calm, x, cn, h => by
    unfold chk at h
    split at h <;> first | (cases h; done) | skip
    · exact nt (l_cst h) rfl
    · simp only [Bool.and_eq_true] at h
      obtain ⟨⟨h1, h2⟩, h3⟩ := h
      split at h3
      · rename_i q e
        exact nt (l_con cn h1 h2 e h3) rfl
      · cases h3
  | .exv f i, k, W, xa, X, sc, calm, x, cn, h => by
    unfold chk at h
    split at h <;> first | (cases h; done) | skip
    simp only [Bool.and_eq_true, decide_eq_true_eq] at h
    exact vt (l_exv cn h.1.1.1 h.1.1.2 h.1.2 h.2) fun _ => rfl
  | .no, k, W, xa, X, sc, calm, x, cn, h => by
    unfold chk at h
    cases h
  | .bin o a b, k, W, xa, X, sc, calm, x, cn, h => by
    unfold chk at h
    split at h <;> first | (cases h; done) | skip
    simp only [Bool.and_eq_true] at h
    exact vt (l_bin cn.hK h.1.1 (pe_main a cn h.1.2).1 (pe_main b cn h.2).1) fun _ => rfl
  | .neg a, k, W, xa, X, sc, calm, x, cn, h => by
    unfold chk at h
    split at h <;> first | (cases h; done) | skip
    exact vt (l_neg (pe_main a cn h).1) fun _ => rfl
  | .cmp o a b, k, W, xa, X, sc, calm, x, cn, h => by
    unfold chk at h
    split at h <;> first | (cases h; done) | skip
    simp only [Bool.and_eq_true] at h
    have ha := (pe_main (k := k) a cn h.1.2).1
    have hb := (pe_main (k := k) b cn h.2).1
    exact ⟨l_cmp cn.hK cn.un h.1.1.1 h.1.1.2 ha hb, fun _ => l_cmpT cn.hK cn.un h.1.1.1 h.1.1.2 ha hb⟩
  | .chn o q a b c, k, W, xa, X, sc, calm, x, cn, h => by
    unfold chk at h
    split at h <;> first | (cases h; done) | skip
    simp only [Bool.and_eq_true] at h
    have ha := (pe_main (k := k) a cn h.1.1.2).1
    have hb := (pe_main (k := k) b cn h.1.2).1
    have hc := (pe_main (k := k) c cn h.2).1
    exact ⟨l_chn cn.hK cn.un h.1.1.1.1.1 h.1.1.1.1.2 h.1.1.1.2 ha hb hc, fun _ => l_chnT cn.hK cn.un h.1.1.1.1.1 h.1.1.1.1.2 h.1.1.1.2 ha hb hc⟩
  | .and xs, k, W, xa, X, sc, calm, x, cn, h => by
    unfold chk at h
    split at h <;> first | (cases h; done) | skip
    have q := each_and (pes_main (k := k) xs cn h) (pos := by assumption)
    exact ⟨q.1, fun t => (q.2 t).pt⟩
  | .or xs, k, W, xa, X, sc, calm, x, cn, h => by
    unfold chk at h
    split at h <;> first | (cases h; done) | skip
    have q := each_or (pes_main (k := k) xs cn h) (pos := by assumption)
    exact ⟨q.1, fun t => (q.2 t).pt⟩
  | .not a, k, W, xa, X, sc, calm, x, cn, h => by
    unfold chk at h
    split at h <;> first | (cases h; done) | skip
    have q := pe_main (k := k) a cn h
    exact ⟨l_not q.1, fun t => l_notT (q.2 t)⟩
  | .ifx t a b, k, W, xa, X, sc, calm, x, cn, h => by
    unfold chk at h
    split at h <;> first | (cases h; done) | skip
    simp only [Bool.and_eq_true] at h
    exact nt (l_ifx ((pe_main t cn h.1.1.2).2 h.1.1.1) (pe_main a cn h.1.2).1 (pe_main b cn h.2).1) rfl
  | .tup xs, k, W, xa, X, sc, calm, x, cn, h => by
    unfold chk at h
    split at h <;> first | (cases h; done) | skip
    simp only [Bool.and_eq_true, decide_eq_true_eq] at h
    have q := pes_main (k := k) xs cn h.2
    exact vt (l_tup h.1 (fun en S ds S1 e => by rw [evs_len xs en S ds S1 e, each_len q]) (each_pa q)) fun _ => rfl
  | .lst xs, k, W, xa, X, sc, calm, x, cn, h => by
    unfold chk at h
    split at h <;> first | (cases h; done) | skip
    simp only [Bool.and_eq_true, decide_eq_true_eq] at h
    have q := pes_main (k := k) xs cn h.2
    exact vt (l_mkL (l_lst h.1 (fun en S ds S1 e => by rw [evs_len xs en S ds S1 e, each_len q]) (each_pa q))) fun _ => rfl
  | .mut a, k, W, xa, X, sc, calm, x, cn, h => by
    have h' : chkL K N a sc calm x = true := h
    exact nt (l_mut (pl_main a cn h')) rfl
  | .idx a i, k, W, xa, X, sc, calm, x, cn, h => by
    unfold chk at h
    split at h <;> first | (cases h; done) | skip
    simp only [Bool.and_eq_true] at h
    exact vt (l_idx cn.hK h.1.1 (pe_main a cn h.1.2).1 (pe_main i cn h.2).1) fun _ => rfl
  | .slc a l hi, k, W, xa, X, sc, calm, x, cn, h => by
    unfold chk at h
    split at h <;> first | (cases h; done) | skip
    simp only [Bool.and_eq_true] at h
    rename_i e lo hi' p1 p2
    obtain ⟨t1, b1⟩ : ∃ t, Bd X G k W xa lo (ev C l) t := by
      cases lo with
      | some y => exact ⟨_, bd_some (pe_main l cn h.1.2).1⟩
      | none =>
        have h1 := h.1.2
        cases l <;> first | exact ⟨_, bd_none⟩ | (cases h1; done)
    obtain ⟨t2, b2⟩ : ∃ t, Bd X G k W xa hi' (ev C hi) t := by
      cases hi' with
      | some y => exact ⟨_, bd_some (pe_main hi cn h.2).1⟩
      | none =>
        have h1 := h.2
        cases hi <;> first | exact ⟨_, bd_none⟩ | (cases h1; done)
    exact vt (l_slc cn.hK (pe_main a cn h.1.1).1 b1 b2) fun _ => rfl
  | .call f xs, k, W, xa, X, sc, calm, x, cn, h => by
    unfold chk at h
    split at h <;> first | (cases h; done) | skip
    simp only [Bool.and_eq_true, decide_eq_true_eq] at h
    obtain ⟨⟨⟨⟨rfl, h1⟩, h2⟩, h3⟩, h5⟩ := h
    have q := pes_main (k := k) xs cn h5
    rename_i es _
    cases es with
    | nil =>
      cases xs with
      | nil => exact vt (l_call0 cn h1 h2 h3) fun _ => rfl
      | cons a r =>
        unfold chks at h5
        cases h5
    | cons e es => exact vt (l_call cn h1 h2 h3 (each_star q) (each_pa q)) fun _ => rfl
  | .calls f xs, k, W, xa, X, sc, calm, x, cn, h => by
    unfold chk at h
    split at h <;> first | (cases h; done) | skip
    simp only [Bool.and_eq_true, decide_eq_true_eq] at h
    obtain ⟨⟨⟨⟨⟨rfl, h1⟩, h2⟩, h3⟩, h4⟩, h5⟩ := h
    have q := pes_main (k := k) xs cn h5
    rename_i es _
    cases es with
    | nil => cases h4
    | cons e es => exact vt (l_calls cn h1 h2 h3 (each_star q) (each_pa q)) fun _ => rfl
  | .new c f xs, k, W, xa, X, sc, calm, x, cn, h => by
    unfold chk at h
    split at h <;> first | (cases h; done) | skip
    simp only [Bool.and_eq_true, decide_eq_true_eq] at h
    obtain ⟨⟨⟨⟨⟨⟨rfl, h1⟩, h2⟩, h3⟩, h3b⟩, h4⟩, h5⟩ := h
    have q := pes_main (k := k) xs cn h5
    rename_i es _
    cases es with
    | nil => cases h4
    | cons e es => exact vt (l_new cn h1 h2 h3 h3b (each_star q) (each_pa q)) fun _ => rfl
  | .mth c f o xs, k, W, xa, X, sc, calm, x, cn, h => by
    unfold chk at h
    split at h <;> first | (cases h; done) | skip
    simp only [Bool.and_eq_true, decide_eq_true_eq] at h
    obtain ⟨⟨⟨⟨⟨⟨rfl, h1⟩, h2⟩, h3⟩, h4⟩, h5⟩, h6⟩ := h
    have q := pes_main (k := k) xs cn h6
    have hl := each_len q
    refine vt (l_mth cn h1 h4 (each_star q) h3 h2 (pe_main o cn h5).1 (each_pa q) fun e en S => ?_) fun _ => rfl
    subst e
    cases xs with
    | nil => rfl
    | cons a r => cases hl
  | .err c a, k, W, xa, X, sc, calm, x, cn, h => by
    unfold chk at h
    split at h <;> first | (cases h; done) | skip
    simp only [Bool.and_eq_true, decide_eq_true_eq] at h
    obtain ⟨⟨⟨⟨⟨⟨rfl, h1⟩, h2⟩, h3⟩, h4⟩, h5⟩, h6⟩ := h
    exact vt (l_err cn h1 h2 h3 h4 h5 (pe_main a cn h6).1) fun _ => rfl
  | .xfd f a, k, W, xa, X, sc, calm, x, cn, h => by
    unfold chk at h
    split at h <;> first | (cases h; done) | skip
    simp only [Bool.and_eq_true, decide_eq_true_eq] at h
    obtain ⟨⟨h1, h2⟩, h3⟩ := h
    exact vt (l_xfd cn h1 h2 (pe_main a cn h3).1) fun _ => rfl
  | .isx c a, k, W, xa, X, sc, calm, x, cn, h => by
    unfold chk at h
    split at h <;> first | (cases h; done) | skip
    simp only [Bool.and_eq_true, decide_eq_true_eq] at h
    obtain ⟨⟨⟨⟨⟨h1, h2⟩, h3⟩, h4⟩, h5⟩, h6⟩ := h
    exact vt (l_isx cn h1 h2 h3 h4 h5 (pe_main a cn h6).1) fun _ => rfl
  | .isv a, k, W, xa, X, sc, calm, x, cn, h => by
    unfold chk at h
    split at h <;> first | (cases h; done) | skip
    simp only [Bool.and_eq_true, decide_eq_true_eq] at h
    obtain ⟨⟨⟨h1, h2⟩, h3⟩, h4⟩ := h
    exact vt (l_isv cn h1 h2 h3 (pe_main a cn h4).1) fun _ => rfl
  | .exi c i, k, W, xa, X, sc, calm, x, cn, h => by
    unfold chk at h
    split at h <;> first | (cases h; done) | skip
    simp only [Bool.and_eq_true, decide_eq_true_eq] at h
    obtain ⟨⟨⟨⟨⟨⟨⟨h1, h2⟩, h3⟩, h4⟩, h5⟩, h6⟩, h7⟩, h8⟩ := h
    exact vt (l_exi cn h1 h2 h3 h4 h5 h6 h7 h8) fun _ => rfl
  | .isO c a, k, W, xa, X, sc, calm, x, cn, h => by
    unfold chk at h
    split at h <;> first | (cases h; done) | skip
    simp only [Bool.and_eq_true, decide_eq_true_eq] at h
    obtain ⟨⟨⟨⟨⟨⟨h1, h2⟩, h3⟩, h4⟩, h5⟩, h6⟩, h7⟩ := h
    exact vt (l_isO cn h1 h2 h3 h4 h5 h6 (pe_main a cn h7).1) fun _ => rfl
  | .eqo c f a b, k, W, xa, X, sc, calm, x, cn, h => by
    unfold chk at h
    split at h <;> first | (cases h; done) | skip
    simp only [Bool.and_eq_true, decide_eq_true_eq] at h
    obtain ⟨⟨⟨⟨rfl, h1⟩, h2⟩, h3⟩, h4⟩ := h
    exact ⟨l_eqo cn h1 h2 (pe_main a cn h3).1 (pe_main b cn h4).1, fun z => by cases z⟩
  | .fld f o, k, W, xa, X, sc, calm, x, cn, h => by
    unfold chk at h
    split at h <;> first | (cases h; done) | skip
    simp only [Bool.and_eq_true, decide_eq_true_eq] at h
    exact vt (l_fld cn h.1.1.1 h.1.1.2 h.1.2 (pe_main o cn h.2).1) fun _ => rfl
  | .len a, k, W, xa, X, sc, calm, x, cn, h => by
    unfold chk at h
    split at h <;> first | (cases h; done) | skip
    simp only [Bool.and_eq_true] at h
    exact vt (l_len cn.hK cn.fre (by rw [cn.sce]; exact h.1.1) h.1.2 (pe_main a cn h.2).1) fun _ => rfl
  | .bi b xs, k, W, xa, X, sc, calm, x, cn, h => by
    unfold chk at h
    split at h <;> first | (cases h; done) | skip
    simp only [Bool.and_eq_true] at h
    obtain ⟨⟨rfl, h1⟩, h2⟩ := h
    rw [← cn.sce] at h1
    by_cases hb : b = .max0
    · subst hb
      dsimp only at h2
      split at h2
      · rename_i e n de kp
        simp only [Bool.and_eq_true, decide_eq_true_eq] at h2
        have q := pes_main (k := k) xs cn h2.2
        match xs, q with
        | [], q => exact q.elim
        | [_], q => exact q.2.2.2.elim
        | [a, d], q =>
          have e2 : ev C (.bi .max0 [a, d]) = fun en S => (ev C a en S).bind fun x S1 => (ev C d en S1).bind fun y S2 => match views S2 [x, y] with
            | some ys => Out.of ((biP .max0 ys).map D.p) S2
            | none => .stuck := by
            funext en S
            show ((ev C a en S).bind fun x S1 => (((ev C d en S1).bind fun y S2 => (Out.ok [] S2).bind fun xs S3 => .ok (y :: xs) S3).bind fun xs S2 => .ok (x :: xs) S2)).bind _ = _
            first
              | (simp only [Out.bind_assoc, Out.bind_ok]; done)
              | (simp only [Out.bind_assoc, Out.bind_ok]; rfl)
          rw [e2]
          exact vtx (l_max0 cn.hK (cn.cm rfl).1 cn.un cn.fre h1 q.1 h2.1 q.2.1 q.2.2.2.2.1) fun _ => rfl
        | _ :: _ :: _ :: _, q => exact q.2.2.2.2.2.2.elim
      · cases h2
    · rename_i x p es kw pos
      have h3 : (kw.isEmpty && !es.isEmpty && chks K N xs sc true es) = true := by
        cases b <;> first | exact h2 | exact absurd rfl hb
      simp only [Bool.and_eq_true] at h3
      obtain ⟨⟨h4, h5⟩, h6⟩ := h3
      have q := pes_main (k := k) xs cn h6
      cases kw with
      | cons _ _ => cases h4
      | nil =>
        cases es with
        | nil => cases h5
        | cons e es => exact vt (l_bi b cn.hK (cn.cm rfl).1 cn.str cn.fre h1 hb (each_star q) (each_pa q)) fun _ => rfl
  | .lof a, k, W, xa, X, sc, calm, x, cn, h => by
    unfold chk at h
    split at h <;> first | (cases h; done) | skip
    simp only [Bool.and_eq_true] at h
    exact vt (l_mkL (l_lof cn.hK cn.fre (by rw [cn.sce]; exact h.1.1) h.1.2 (pe_main a cn h.2).1)) fun _ => rfl
  | .isi a ts, k, W, xa, X, sc, calm, x, cn, h => by
    unfold chk at h
    split at h <;> first | (cases h; done) | skip
    simp only [Bool.and_eq_true] at h
    obtain ⟨⟨⟨h1, h2⟩, h3⟩, h4⟩ := h
    split at h4 <;> first | (cases h4; done) | skip
    exact vt (l_isi1 cn.hK cn.fre (by rw [cn.sce]; exact h1) h2 (by rw [cn.sce]; exact h4) (pe_main a cn h3).1) fun _ => rfl
  | .lc own t src ifs elt, k, W, xa, X, sc, calm, x, cn, h => by
    unfold chk at h
    split at h <;> first | (cases h; done) | skip
    split at h <;> first | (cases h; done) | skip
    simp only [Bool.and_eq_true] at h
    obtain ⟨⟨⟨⟨⟨⟨⟨⟨⟨rfl, h1⟩, h2⟩, h3⟩, h4⟩, h5⟩, h6⟩, h7⟩, h8⟩, h9⟩ := h
    obtain ⟨_, rfl⟩ := cn.cm rfl
    have ok := lcOk (k := k) cn h2 h4 h5 h6 (fun s H Cc cl fp => pes_main ifs (cn.blk true s H _ Cc cl fp) h8) (fun s H Cc cl fp => (pe_main elt (cn.blk true s H _ Cc cl fp) h9).1)
    exact vt (l_mkL (l_lc cn ok h1 (pe_main src cn h7).1)) fun _ => rfl
  | .lcr own t xs ifs elt, k, W, xa, X, sc, calm, x, cn, h => by
    unfold chk at h
    split at h <;> first | (cases h; done) | skip
    split at h <;> first | (cases h; done) | skip
    simp only [Bool.and_eq_true] at h
    obtain ⟨⟨⟨⟨⟨⟨⟨⟨⟨rfl, h2⟩, h3⟩, h4⟩, h5⟩, h6⟩, h7⟩, h10⟩, h8⟩, h9⟩ := h
    obtain ⟨_, rfl⟩ := cn.cm rfl
    have ok := lcOk (k := k) cn h2 h4 h5 h6 (fun s H Cc cl fp => pes_main ifs (cn.blk true s H _ Cc cl fp) h8) (fun s H Cc cl fp => (pe_main elt (cn.blk true s H _ Cc cl fp) h9).1)
    exact vt (l_mkL (l_lcr cn ok h7 (pes_main xs cn h10))) fun _ => rfl
  | .app o y, k, W, xa, X, sc, calm, x, cn, h => by
    unfold chk at h
    split at h <;> first | (cases h; done) | skip
    simp only [Bool.and_eq_true, decide_eq_true_eq] at h
    obtain ⟨⟨⟨⟨⟨h1, h2⟩, h3⟩, h4⟩, h5⟩, h6⟩ := h
    subst h1
    exact vt (l_app cn.hK h2 h3 h4 (pe_main o cn h5).1 (pe_main y cn h6).1) fun _ => rfl
  | .rev a, k, W, xa, X, sc, calm, x, cn, h => by
    unfold chk at h
    split at h <;> first | (cases h; done) | skip
    exact vt (l_rev cn.hK (pe_main a cn h).1) fun _ => rfl
  | .revl a, k, W, xa, X, sc, calm, x, cn, h => by
    unfold chk at h
    split at h <;> first | (cases h; done) | skip
    exact vt (l_mkL (l_revl cn.hK (pe_main a cn h).1)) fun _ => rfl
  | .srt a, k, W, xa, X, sc, calm, x, cn, h => by
    unfold chk at h
    split at h <;> first | (cases h; done) | skip
    simp only [Bool.and_eq_true] at h
    have hb := h.1.1
    rw [← cn.sce] at hb
    exact vt (l_mkL (l_srt cn.hK cn.fre hb h.1.2 (pe_main a cn h.2).1)) fun _ => rfl
  | .srs a, k, W, xa, X, sc, calm, x, cn, h => by
    unfold chk at h
    split at h <;> first | (cases h; done) | skip
    simp only [Bool.and_eq_true] at h
    have hb := h.1.1.1.1
    have hb2 := h.1.1.1.2
    rw [← cn.sce] at hb hb2
    exact vt (l_mkL (l_srs (cn.cm h.1.1.2).1 cn.un cn.hK cn.fre hb hb2 h.1.2 (pe_main a cn h.2).1)) fun _ => rfl
  | .ixo o y, k, W, xa, X, sc, calm, x, cn, h => by
    unfold chk at h
    split at h <;> first | (cases h; done) | skip
    simp only [Bool.and_eq_true, decide_eq_true_eq] at h
    obtain ⟨⟨⟨⟨⟨h1, h2⟩, h3⟩, h4⟩, h5⟩, h6⟩ := h
    subst h1
    exact vt (l_ixo cn.hK cn.un h2 h3 h4 (pe_main o cn h5).1 (pe_main y cn h6).1) fun _ => rfl
  | .rmo o y, k, W, xa, X, sc, calm, x, cn, h => by
    unfold chk at h
    split at h <;> first | (cases h; done) | skip
    simp only [Bool.and_eq_true, decide_eq_true_eq] at h
    obtain ⟨⟨⟨⟨⟨h1, h2⟩, h3⟩, h4⟩, h5⟩, h6⟩ := h
    subst h1
    exact vt (l_rmo cn.hK cn.un h2 h3 h4 (pe_main o cn h5).1 (pe_main y cn h6).1) fun _ => rfl
  | .lcz own t xs ifs elt, k, W, xa, X, sc, calm, x, cn, h => by
    unfold chk at h
    split at h <;> first | (cases h; done) | skip
    split at h <;> first | (cases h; done) | skip
    simp only [Bool.and_eq_true] at h
    obtain ⟨⟨⟨⟨⟨⟨⟨⟨⟨⟨rfl, h2⟩, h3⟩, h4⟩, h5⟩, h6⟩, h7⟩, h11⟩, h10⟩, h8⟩, h9⟩ := h
    obtain ⟨_, rfl⟩ := cn.cm rfl
    have ok := lcOk (k := k) cn h2 h4 h5 h6 (fun s H Cc cl fp => pes_main ifs (cn.blk true s H _ Cc cl fp) h8) (fun s H Cc cl fp => (pe_main elt (cn.blk true s H _ Cc cl fp) h9).1)
    exact vt (l_mkL (l_lcz cn ok h7 h11 (pes_main xs cn h10))) fun _ => rfl
  | .lss xs, k, W, xa, X, sc, calm, x, cn, h => by
    unfold chk at h
    split at h <;> first | (cases h; done) | skip
    exact vt (l_mkL (l_lss (evss_len xs) (pss_star xs cn h))) fun _ => rfl
  | .tss xs, k, W, xa, X, sc, calm, x, cn, h => by
    unfold chk at h
    split at h <;> first | (cases h; done) | skip
    exact vt (l_tss (evss_len xs) (pss_star xs cn h)) fun _ => rfl
  | .dic a, k, W, xa, X, sc, calm, x, cn, h => by
    unfold chk at h
    split at h <;> first | (cases h; done) | skip
    simp only [Bool.and_eq_true] at h
    have hb := h.1.1.2
    rw [← cn.sce] at hb
    exact vt (l_dic (cn.cm h.1.1.1).1 cn.hK cn.fre hb h.1.2 (pe_main a cn h.2).1) fun _ => rfl
  | .dge d y z, k, W, xa, X, sc, calm, x, cn, h => by
    unfold chk at h
    split at h <;> first | (cases h; done) | skip
    simp only [Bool.and_eq_true, decide_eq_true_eq] at h
    obtain ⟨⟨⟨⟨⟨⟨⟨h1, h2⟩, h3⟩, h4⟩, h5⟩, h6⟩, h7⟩, h8⟩ := h
    subst h1
    exact vt (l_dge (by have := cn.un; omega) h2 h3 h4 h5 (pe_main d cn h6).1 (pe_main y cn h7).1 (pe_main z cn h8).1) fun _ => rfl
  | .lofr xs, k, W, xa, X, sc, calm, x, cn, h => by
    unfold chk at h
    split at h <;> first | (cases h; done) | skip
    simp only [Bool.and_eq_true, decide_eq_true_eq, Bool.not_eq_true'] at h
    have hb := h.1.1.1.1.2
    have hb2 := h.1.1.1.2
    rw [← cn.sce] at hb hb2
    exact vt (l_mkL (l_lofr (cn.cm h.1.1.1.1.1).1 cn.fre hb hb2 h.1.1.2 h.1.2 (pes_main xs cn h.2))) fun _ => rfl
termination_by structural x => x
theorem pl_main : ∀ (a : E) {k : Nat} {W : WX} {xa : Option (Addr × Nat × Addr)} {X : Cx} {sc : Scope} {calm : Bool} {x : Expr}, Cn G C K N X W xa sc calm → chkL K N a sc calm x = true → PE X x (tL G k W xa (evL C a))
  | .lst xs, k, W, xa, X, sc, calm, x, cn, h => by
    unfold chkL at h
    split at h <;> first | (cases h; done) | skip
    simp only [Bool.and_eq_true, decide_eq_true_eq] at h
    have q := pes_main (k := k) xs cn h.2
    exact l_lst h.1 (fun en S ds S1 e => by rw [evs_len xs en S ds S1 e, each_len q]) (each_pa q)
  | .lof a, k, W, xa, X, sc, calm, x, cn, h => by
    unfold chkL at h
    split at h <;> first | (cases h; done) | skip
    simp only [Bool.and_eq_true] at h
    exact l_lof cn.hK cn.fre (by rw [cn.sce]; exact h.1.1) h.1.2 (pe_main a cn h.2).1
  | .bin o a b, k, W, xa, X, sc, calm, x, cn, h => by
    unfold chkL at h
    split at h <;> first | (cases h; done) | skip
    simp only [Bool.and_eq_true] at h
    have e := opIs_add h.1.1.1 h.1.1.2
    subst e
    exact l_cat cn.hK h.1.1.1 (pe_main a cn h.1.2).1 (pe_main b cn h.2).1
  | .slc a l hi, k, W, xa, X, sc, calm, x, cn, h => by
    unfold chkL at h
    split at h <;> first | (cases h; done) | skip
    simp only [Bool.and_eq_true] at h
    rename_i e lo hi' p1 p2
    obtain ⟨t1, b1⟩ : ∃ t, Bd X G k W xa lo (ev C l) t := by
      cases lo with
      | some y => exact ⟨_, bd_some (pe_main l cn h.1.2).1⟩
      | none =>
        have h1 := h.1.2
        cases l <;> first | exact ⟨_, bd_none⟩ | (cases h1; done)
    obtain ⟨t2, b2⟩ : ∃ t, Bd X G k W xa hi' (ev C hi) t := by
      cases hi' with
      | some y => exact ⟨_, bd_some (pe_main hi cn h.2).1⟩
      | none =>
        have h1 := h.2
        cases hi <;> first | exact ⟨_, bd_none⟩ | (cases h1; done)
    exact l_slcL cn.hK (pe_main a cn h.1.1).1 b1 b2
  | .lc own t src ifs elt, k, W, xa, X, sc, calm, x, cn, h => by
    unfold chkL at h
    split at h <;> first | (cases h; done) | skip
    split at h <;> first | (cases h; done) | skip
    simp only [Bool.and_eq_true] at h
    obtain ⟨⟨⟨⟨⟨⟨⟨⟨⟨rfl, h1⟩, h2⟩, h3⟩, h4⟩, h5⟩, h6⟩, h7⟩, h8⟩, h9⟩ := h
    obtain ⟨_, rfl⟩ := cn.cm rfl
    have ok := lcOk (k := k) cn h2 h4 h5 h6 (fun s H Cc cl fp => pes_main ifs (cn.blk true s H _ Cc cl fp) h8) (fun s H Cc cl fp => (pe_main elt (cn.blk true s H _ Cc cl fp) h9).1)
    exact l_lc cn ok h1 (pe_main src cn h7).1
  | .lcr own t xs ifs elt, k, W, xa, X, sc, calm, x, cn, h => by
    unfold chkL at h
    split at h <;> first | (cases h; done) | skip
    split at h <;> first | (cases h; done) | skip
    simp only [Bool.and_eq_true] at h
    obtain ⟨⟨⟨⟨⟨⟨⟨⟨⟨rfl, h2⟩, h3⟩, h4⟩, h5⟩, h6⟩, h7⟩, h10⟩, h8⟩, h9⟩ := h
    obtain ⟨_, rfl⟩ := cn.cm rfl
    have ok := lcOk (k := k) cn h2 h4 h5 h6 (fun s H Cc cl fp => pes_main ifs (cn.blk true s H _ Cc cl fp) h8) (fun s H Cc cl fp => (pe_main elt (cn.blk true s H _ Cc cl fp) h9).1)
    exact l_lcr cn ok h7 (pes_main xs cn h10)
  | .var _, k, W, xa, X, sc, calm, x, cn, h => by
    unfold chkL at h
    cases h
  | .cst _, k, W, xa, X, sc, calm, x, cn, h => by
    unfold chkL at h
    cases h
  | .exv _ _, k, W, xa, X, sc, calm, x, cn, h => by
    unfold chkL at h
    cases h
  | .no, k, W, xa, X, sc, calm, x, cn, h => by
    unfold chkL at h
    cases h
  | .neg _, k, W, xa, X, sc, calm, x, cn, h => by
    unfold chkL at h
    cases h
  | .cmp _ _ _, k, W, xa, X, sc, calm, x, cn, h => by
    unfold chkL at h
    cases h
  | .chn _ _ _ _ _, k, W, xa, X, sc, calm, x, cn, h => by
    unfold chkL at h
    cases h
  | .and _, k, W, xa, X, sc, calm, x, cn, h => by
    unfold chkL at h
    cases h
  | .or _, k, W, xa, X, sc, calm, x, cn, h => by
    unfold chkL at h
    cases h
  | .not _, k, W, xa, X, sc, calm, x, cn, h => by
    unfold chkL at h
    cases h
  | .ifx _ _ _, k, W, xa, X, sc, calm, x, cn, h => by
    unfold chkL at h
    cases h
  | .tup _, k, W, xa, X, sc, calm, x, cn, h => by
    unfold chkL at h
    cases h
  | .mut _, k, W, xa, X, sc, calm, x, cn, h => by
    unfold chkL at h
    cases h
  | .idx _ _, k, W, xa, X, sc, calm, x, cn, h => by
    unfold chkL at h
    cases h
  | .call _ _, k, W, xa, X, sc, calm, x, cn, h => by
    unfold chkL at h
    cases h
  | .calls _ _, k, W, xa, X, sc, calm, x, cn, h => by
    unfold chkL at h
    cases h
  | .new _ _ _, k, W, xa, X, sc, calm, x, cn, h => by
    unfold chkL at h
    cases h
  | .isO _ _, k, W, xa, X, sc, calm, x, cn, h => by
    unfold chkL at h
    cases h
  | .err _ _, k, W, xa, X, sc, calm, x, cn, h => by
    unfold chkL at h
    cases h
  | .xfd _ _, k, W, xa, X, sc, calm, x, cn, h => by
    unfold chkL at h
    cases h
  | .isx _ _, k, W, xa, X, sc, calm, x, cn, h => by
    unfold chkL at h
    cases h
  | .isv _, k, W, xa, X, sc, calm, x, cn, h => by
    unfold chkL at h
    cases h
  | .exi _ _, k, W, xa, X, sc, calm, x, cn, h => by
    unfold chkL at h
    cases h
  | .eqo _ _ _ _, k, W, xa, X, sc, calm, x, cn, h => by
    unfold chkL at h
    cases h
  | .mth _ _ _ _, k, W, xa, X, sc, calm, x, cn, h => by
    unfold chkL at h
    cases h
  | .fld _ _, k, W, xa, X, sc, calm, x, cn, h => by
    unfold chkL at h
    cases h
  | .len _, k, W, xa, X, sc, calm, x, cn, h => by
    unfold chkL at h
    cases h
  | .bi _ _, k, W, xa, X, sc, calm, x, cn, h => by
    unfold chkL at h
    cases h
  | .isi _ _, k, W, xa, X, sc, calm, x, cn, h => by
    unfold chkL at h
    cases h
  | .app _ _, k, W, xa, X, sc, calm, x, cn, h => by
    unfold chkL at h
    cases h
  | .rev _, k, W, xa, X, sc, calm, x, cn, h => by
    unfold chkL at h
    cases h
  | .revl _, k, W, xa, X, sc, calm, x, cn, h => by
    unfold chkL at h
    cases h
  | .srt _, k, W, xa, X, sc, calm, x, cn, h => by
    unfold chkL at h
    cases h
  | .srs _, k, W, xa, X, sc, calm, x, cn, h => by
    unfold chkL at h
    cases h
  | .ixo _ _, k, W, xa, X, sc, calm, x, cn, h => by
    unfold chkL at h
    cases h
  | .rmo _ _, k, W, xa, X, sc, calm, x, cn, h => by
    unfold chkL at h
    cases h
  | .lcz _ _ _ _ _, k, W, xa, X, sc, calm, x, cn, h => by
    unfold chkL at h
    cases h
  | .tss _, k, W, xa, X, sc, calm, x, cn, h => by
    unfold chkL at h
    cases h
  | .dic _, k, W, xa, X, sc, calm, x, cn, h => by
    unfold chkL at h
    cases h
  | .dge _ _ _, k, W, xa, X, sc, calm, x, cn, h => by
    unfold chkL at h
    cases h
  | .lofr xs, k, W, xa, X, sc, calm, x, cn, h => by
    unfold chkL at h
    split at h <;> first | (cases h; done) | skip
    simp only [Bool.and_eq_true, decide_eq_true_eq, Bool.not_eq_true'] at h
    have hb := h.1.1.1.1.2
    have hb2 := h.1.1.1.2
    rw [← cn.sce] at hb hb2
    exact l_lofr (cn.cm h.1.1.1.1.1).1 cn.fre hb hb2 h.1.1.2 h.1.2 (pes_main xs cn h.2)
  | .lss xs, k, W, xa, X, sc, calm, x, cn, h => by
    unfold chkL at h
    split at h <;> first | (cases h; done) | skip
    exact l_lss (evss_len xs) (pss_star xs cn h)
termination_by structural x => x
theorem pst_star : ∀ (a : E) {k : Nat} {W : WX} {xa : Option (Addr × Nat × Addr)} {X : Cx} {sc : Scope} {calm : Bool} {x : Expr} {es : List Expr} {os : En → Store → Out (List D)}, Cn G C K N X W xa sc calm → chkst K N a sc calm x = true → PA X es (tA G k W xa os) → PA X (x :: es) (tA G k W xa (oSt (evL C a) os))
  | .lof a, k, W, xa, X, sc, calm, x, es, os, cn, h, hr => by
    unfold chkst at h
    split at h <;> first | (cases h; done) | skip
    exact l_star cn.hK (pe_main a cn h).1 hr
  | .lst xs, k, W, xa, X, sc, calm, x, es, os, cn, h, hr => by
    unfold chkst at h
    have q := pes_main (k := k) (W := W) xs cn h
    match xs, q with
    | [a], q => exact l_plain q.1 q.2.1 hr
    | [], q => exact q.elim
    | _ :: _ :: _, q => exact q.2.2.2.elim
  | .var _, k, W, xa, X, sc, calm, x, es, os, cn, h, hr => by
    unfold chkst at h
    cases h
  | .cst _, k, W, xa, X, sc, calm, x, es, os, cn, h, hr => by
    unfold chkst at h
    cases h
  | .exv _ _, k, W, xa, X, sc, calm, x, es, os, cn, h, hr => by
    unfold chkst at h
    cases h
  | .no, k, W, xa, X, sc, calm, x, es, os, cn, h, hr => by
    unfold chkst at h
    cases h
  | .bin _ _ _, k, W, xa, X, sc, calm, x, es, os, cn, h, hr => by
    unfold chkst at h
    cases h
  | .neg _, k, W, xa, X, sc, calm, x, es, os, cn, h, hr => by
    unfold chkst at h
    cases h
  | .cmp _ _ _, k, W, xa, X, sc, calm, x, es, os, cn, h, hr => by
    unfold chkst at h
    cases h
  | .chn _ _ _ _ _, k, W, xa, X, sc, calm, x, es, os, cn, h, hr => by
    unfold chkst at h
    cases h
  | .and _, k, W, xa, X, sc, calm, x, es, os, cn, h, hr => by
    unfold chkst at h
    cases h
  | .or _, k, W, xa, X, sc, calm, x, es, os, cn, h, hr => by
    unfold chkst at h
    cases h
  | .not _, k, W, xa, X, sc, calm, x, es, os, cn, h, hr => by
    unfold chkst at h
    cases h
  | .ifx _ _ _, k, W, xa, X, sc, calm, x, es, os, cn, h, hr => by
    unfold chkst at h
    cases h
  | .tup _, k, W, xa, X, sc, calm, x, es, os, cn, h, hr => by
    unfold chkst at h
    cases h
  | .mut _, k, W, xa, X, sc, calm, x, es, os, cn, h, hr => by
    unfold chkst at h
    cases h
  | .idx _ _, k, W, xa, X, sc, calm, x, es, os, cn, h, hr => by
    unfold chkst at h
    cases h
  | .slc _ _ _, k, W, xa, X, sc, calm, x, es, os, cn, h, hr => by
    unfold chkst at h
    cases h
  | .call _ _, k, W, xa, X, sc, calm, x, es, os, cn, h, hr => by
    unfold chkst at h
    cases h
  | .calls _ _, k, W, xa, X, sc, calm, x, es, os, cn, h, hr => by
    unfold chkst at h
    cases h
  | .new _ _ _, k, W, xa, X, sc, calm, x, es, os, cn, h, hr => by
    unfold chkst at h
    cases h
  | .isO _ _, k, W, xa, X, sc, calm, x, es, os, cn, h, hr => by
    unfold chkst at h
    cases h
  | .err _ _, k, W, xa, X, sc, calm, x, es, os, cn, h, hr => by
    unfold chkst at h
    cases h
  | .xfd _ _, k, W, xa, X, sc, calm, x, es, os, cn, h, hr => by
    unfold chkst at h
    cases h
  | .isx _ _, k, W, xa, X, sc, calm, x, es, os, cn, h, hr => by
    unfold chkst at h
    cases h
  | .isv _, k, W, xa, X, sc, calm, x, es, os, cn, h, hr => by
    unfold chkst at h
    cases h
  | .exi _ _, k, W, xa, X, sc, calm, x, es, os, cn, h, hr => by
    unfold chkst at h
    cases h
  | .eqo _ _ _ _, k, W, xa, X, sc, calm, x, es, os, cn, h, hr => by
    unfold chkst at h
    cases h
  | .mth _ _ _ _, k, W, xa, X, sc, calm, x, es, os, cn, h, hr => by
    unfold chkst at h
    cases h
  | .fld _ _, k, W, xa, X, sc, calm, x, es, os, cn, h, hr => by
    unfold chkst at h
    cases h
  | .len _, k, W, xa, X, sc, calm, x, es, os, cn, h, hr => by
    unfold chkst at h
    cases h
  | .bi _ _, k, W, xa, X, sc, calm, x, es, os, cn, h, hr => by
    unfold chkst at h
    cases h
  | .isi _ _, k, W, xa, X, sc, calm, x, es, os, cn, h, hr => by
    unfold chkst at h
    cases h
  | .lc _ _ _ _ _, k, W, xa, X, sc, calm, x, es, os, cn, h, hr => by
    unfold chkst at h
    cases h
  | .lcr _ _ _ _ _, k, W, xa, X, sc, calm, x, es, os, cn, h, hr => by
    unfold chkst at h
    cases h
  | .app _ _, k, W, xa, X, sc, calm, x, es, os, cn, h, hr => by
    unfold chkst at h
    cases h
  | .rev _, k, W, xa, X, sc, calm, x, es, os, cn, h, hr => by
    unfold chkst at h
    cases h
  | .revl _, k, W, xa, X, sc, calm, x, es, os, cn, h, hr => by
    unfold chkst at h
    cases h
  | .srt _, k, W, xa, X, sc, calm, x, es, os, cn, h, hr => by
    unfold chkst at h
    cases h
  | .srs _, k, W, xa, X, sc, calm, x, es, os, cn, h, hr => by
    unfold chkst at h
    cases h
  | .ixo _ _, k, W, xa, X, sc, calm, x, es, os, cn, h, hr => by
    unfold chkst at h
    cases h
  | .rmo _ _, k, W, xa, X, sc, calm, x, es, os, cn, h, hr => by
    unfold chkst at h
    cases h
  | .lcz _ _ _ _ _, k, W, xa, X, sc, calm, x, es, os, cn, h, hr => by
    unfold chkst at h
    cases h
  | .lss _, k, W, xa, X, sc, calm, x, es, os, cn, h, hr => by
    unfold chkst at h
    cases h
  | .tss _, k, W, xa, X, sc, calm, x, es, os, cn, h, hr => by
    unfold chkst at h
    cases h
  | .dic _, k, W, xa, X, sc, calm, x, es, os, cn, h, hr => by
    unfold chkst at h
    cases h
  | .dge _ _ _, k, W, xa, X, sc, calm, x, es, os, cn, h, hr => by
    unfold chkst at h
    cases h
  | .lofr _, k, W, xa, X, sc, calm, x, es, os, cn, h, hr => by
    unfold chkst at h
    cases h
termination_by structural x => x
theorem pss_star : ∀ (a : List E) {k : Nat} {W : WX} {xa : Option (Addr × Nat × Addr)} {X : Cx} {sc : Scope} {calm : Bool} {x : List Expr}, Cn G C K N X W xa sc calm → chkss K N a sc calm x = true → PA X x (tA G k W xa (evss C a))
  | [], k, W, xa, X, sc, calm, x, cn, h => by
    unfold chkss at h
    split at h <;> first | (cases h; done) | skip
    exact a_nil
  | a :: r, k, W, xa, X, sc, calm, x, cn, h => by
    unfold chkss at h
    split at h <;> first | (cases h; done) | skip
    simp only [Bool.and_eq_true] at h
    exact pst_star a cn h.1 (pss_star r cn h.2)
termination_by structural x => x
theorem pes_main : ∀ (a : List E) {k : Nat} {W : WX} {xa : Option (Addr × Nat × Addr)} {X : Cx} {sc : Scope} {calm : Bool} {x : List Expr}, Cn G C K N X W xa sc calm → chks K N a sc calm x = true → Each G C X k W xa a x
  | [], k, W, xa, X, sc, calm, x, cn, h => by
    unfold chks at h
    split at h <;> first | (cases h; done) | trivial
  | a :: r, k, W, xa, X, sc, calm, x, cn, h => by
    unfold chks at h
    split at h <;> first | (cases h; done) | skip
    simp only [Bool.and_eq_true] at h
    exact ⟨h.1.1, (pe_main a cn h.1.2).1, (pe_main a cn h.1.2).2, pes_main r cn h.2⟩
termination_by structural x => x
end
end
end Tw

set_option linter.all false
set_option Elab.async false
set_option maxRecDepth 100000
set_option maxHeartbeats 2000000
/-! TwD0: try with several 'except C as n: return e'. -/
namespace Tw
open PySem PySem.Spec PyProof.Rows L2
/-- a clause: the name's slot, the class, what is returned -/
structure Cl where
  i : Nat
  c : Value
  te : Addr → Value → Option Addr → TE
def wN (K : PySem.W.Frag) (Wo : WX) (rt : VK) : List Cl → WX
  | [] => Wo
  | q :: r => fun cls d σ H => ∃ b, PySem.W.exmOne K cls q.c = some b ∧ (b = true → ∀ a, H a = none → q.te a cls d (σ.set q.i (some (.ref a))) H rt) ∧ (b = false → wN K Wo rt r cls d σ H)
inductive HdN (X : Cx) : List ExceptHandler → List Cl → Prop
  | nil : HdN X [] []
  | cons {x n : Str} {q : Cl} {e : Expr} {np rp hp : Pos} {hs : List ExceptHandler} {l : List Cl} (hc : Names X x q.c) (hi : X.N[q.i]? = some n) (hl : X.env.kindOf n = some .local)
      (hr : ∀ (a : Addr) (oe : Obj) (cls : Value) (d : Option Addr) (pn : List (Addr × Obj)), Zc cls d oe → (∃ vs, oe.data = .fields vs) → PE (X.suite a ((a, oe) :: pn)) e (q.te a cls d)) (t : HdN X hs l) :
      HdN X (.ExceptHandler (some (.Name x np)) (some n) [.Return (some e) rp] hp :: hs) (q :: l)
section
variable {X : Cx} {pins : List (Addr × Obj)}
theorem sp_back {xe : Value → Shared → Prop} {D : Ends} {f : Flow} {s1 : Shared} (ok : X.Ok) (h : SP (X.tr (X.pn ++ pins) xe) [] D f s1) : SP X pins D f s1 := by
  cases f with
  | ret u =>
    obtain ⟨v, σ1, H1, J, r1, z⟩ := h
    exact ⟨v, σ1, H1, J.ofTry ok, r1, z⟩
  | next =>
    obtain ⟨σ1, H1, J, z⟩ := h
    exact ⟨σ1, H1, J.ofTry ok, z⟩
  | brk =>
    obtain ⟨σ1, H1, J, z⟩ := h
    exact ⟨σ1, H1, J.ofTry ok, z⟩
  | cont =>
    obtain ⟨σ1, H1, J, z⟩ := h
    exact ⟨σ1, H1, J.ofTry ok, z⟩
/-- an exception that stands on the ground, in our hands -/
structure Cgt (X : Cx) (pins : List (Addr × Obj)) (a : Addr) (cls : Value) (d : Option Addr) (σ : L2.St) (H : Hp) (B : Heap) (sI t : Shared) : Prop where
  J : Inv X pins σ H sI
  nb : ∀ b o, sI.heap.get? b = some o → b ∉ frs X.stack → B.get? b = some o
  up : sI.heap.UpToSlots t.heap
  fl : PySem.HandSPX.FlyingZ B (X.env :: X.outer) a (Zc cls d) t.heap
  na : H a = none
  os : t.os = sI.os
  ag : AllBare t.gens
variable {a : Addr} {cls : Value} {d : Option Addr} {σ : L2.St} {H : Hp} {B : Heap} {sI t : Shared}
theorem Cgt.inv (g : Cgt X pins a cls d σ H B sI t) : Inv X pins σ H t := g.J.landed g.nb g.fl.1 g.up g.os g.ag
theorem Cgt.suite (hf : X.env.frame = some X.env.locals) (g : Cgt X pins a cls d σ H B sI t) : ∃ oe, t.heap.get? a = some oe ∧ Zc cls d oe ∧ (∃ vs, oe.data = .fields vs) ∧ Inv (X.suite a ((a, oe) :: (X.pn ++ pins))) [] σ H t := by
  obtain ⟨oe, vs, h1, h2, h3⟩ := g.fl.there
  have nf : a ∉ frs (X.env :: X.outer) := fun hm => by
    obtain ⟨_, o2, h4, h5⟩ := g.fl.2.2.1.mem hm
    cases h1.symm.trans h4
    exact h5 _ h3
  refine ⟨oe, h1, h2, ⟨vs, h3⟩, g.inv.suite h1 h3 g.na (fun z => nf ?_) fun z => nf ?_⟩
  · exact List.mem_filterMap.mpr ⟨X.env, List.mem_cons_self, by rw [hf, z]⟩
  · obtain ⟨e, h4, h5⟩ := List.mem_filterMap.mp z
    exact List.mem_filterMap.mpr ⟨e, List.mem_cons_of_mem _ h4, h5⟩
/-- no clause took it: on it goes -/
theorem Cgt.pass {Wo : WX} {Q : Flow → Shared → Prop} (hs : X.stack = X.env :: X.outer) (hf : X.env.frame = some X.env.locals) (tk : Takes X Wo) (g : Cgt X pins a cls d σ H B sI t) (w : Wo cls d σ H) :
    wpAny (model X.prog X.w) X.A (handleBy (.ref a) X.env []) Q X.xe t := by
  refine wpAny_handleBy_nil ?_
  obtain ⟨_, _, _, oe, vs, T, _, _, h1, _, h3, h4, _⟩ := id g.fl
  unfold PySem.passOn
  refine wpAny_bind (wpAny_field h1 h3 h4 ?_)
  have ne : ¬ ((Value.ref T == Value.none) = true) := by simp
  rw [if_neg ne]
  have go : wpAny (model X.prog X.w) X.A (setFlight (.ref a) X.env.frame) (fun _ t2 => wpAny (model X.prog X.w) X.A (throw (.ref a) : Sem Flow) Q X.xe t2) X.xe t := by
    rw [hf]
    refine PySem.HandSPX.setFlight_upZ g.fl fun h2 held up2 => wpAny_throw (tk _ _ ⟨a, B, sI, pins, σ, H, cls, d, rfl, g.J, g.nb, g.up.trans up2, ?_, g.na, g.os, g.ag, w⟩)
    rw [hs]
    exact .inr (.inr held)
  first
    | exact wpAny_bind (wpAny_pure (wpAny_bind go))
    | exact wpAny_bind go
theorem Cgt.hands {Wo : WX} {D : Ends} (hs : X.stack = X.env :: X.outer) (hf : X.env.frame = some X.env.locals) (hN : X.N.Nodup) (tk : Takes X Wo) (ok : X.Ok) (g : Cgt X pins a cls d σ H B sI t) :
    ∀ {hds : List ExceptHandler} {l : List Cl}, HdN X hds l → wN X.K Wo D.rt l cls d σ H → wpAny (model X.prog X.w) X.A (handleBy (.ref a) X.env hds) (SP X pins D) X.xe t := by
  intro hds l hk
  induction hk with
  | nil => exact fun w => g.pass hs hf tk w
  | @cons x n q e np rp hp hs2 l2 hc hi hl hr _ ih =>
    rintro ⟨b, m1, yes, no⟩
    obtain ⟨oe, h1, h2, h3, S⟩ := g.suite hf
    refine wpAny_handleBy_cons (codeAny_handlers_test ?_) (by intro z; cases z)
    have ty : PySem.W.Looks (model X.prog X.w) t.heap (typeOf (.ref a)) cls := fun A Q E s k z => wpAny_typeOf_ref (k _ _ h1) (by rw [h2.1]; exact z)
    have mm := PySem.W.exm_one (M := model X.prog X.w) g.inv.kIn ty m1
    have nm : ∀ {Q : Value → Shared → Prop} {E : Value → Shared → Prop}, Q q.c t → wpAny (model X.prog X.w) (X.A.mark (some (.ref a))) (eval (.Name x np) X.env) Q E t := fun {Q E} z => by
      obtain ⟨n1, n2, n3⟩ := hc
      rcases n3 with n3 | ⟨n3, n4, n5⟩
      · exact ld_glob (X := X.suite a ((a, oe) :: (X.pn ++ pins))) S n1 n3 z n2
      · exact ld_blt (X := X.suite a ((a, oe) :: (X.pn ++ pins))) S n1 n3 n4 z n5 n2
    refine nm (mm.here ?_)
    cases b with
    | false => exact ih (no rfl)
    | true =>
      refine codeAny_handlers_suite_as (PySem.HandSPX.lands_againZ g.fl fun h4 fl4 up4 => ?_)
      have g4 : Cgt X pins a cls d σ H B sI { t with heap := h4 } := ⟨g.J, g.nb, g.up.trans up4, fl4, g.na, g.os, g.ag⟩
      obtain ⟨oe4, k1, k2, k3, S4⟩ := g4.suite hf
      refine store_ok (X := X.suite a ((a, oe4) :: (X.pn ++ pins))) (v := .ref a) S4 hN hi (.inl hl) rfl (fun s5 S5 => ?_) (.inr hl)
      have run := (pss_one (ps_ret (pos := rp) (hr a oe4 cls d (X.pn ++ pins) k2 k3))).run [] s5 _ H { nx := fun _ _ => False, rt := D.rt } S5 (yes rfl a g.na)
      refine wpAny_mono run (fun f s6 z => ?_) fun _ _ z => z.elim
      cases f with
      | ret u =>
        obtain ⟨v6, σ6, H6, S6, r6, z6⟩ := z
        exact gone_ok (S6.unsuite ok) hN hi hl fun s7 J7 => ⟨_, _, _, J7, r6, z6⟩
      | next => obtain ⟨_, _, _, z⟩ := z; exact z.elim
      | brk => obtain ⟨_, _, _, z⟩ := z; exact z.elim
      | cont => obtain ⟨_, _, _, z⟩ := z; exact z.elim
theorem ps_tryN {body : List Stmt} {h0 : ExceptHandler} {hds : List ExceptHandler} {l : List Cl} {pos : Pos} {tb : WX → TS} {Wo : WX} (hs : X.stack = X.env :: X.outer) (hf : X.env.frame = some X.env.locals) (hN : X.N.Nodup) (tk : Takes X Wo)
    (hb : ∀ (W : WX) (pn : List (Addr × Obj)) (xe : Value → Shared → Prop), Takes (X.tr pn xe) W → PassesOwn (model X.prog X.w) X.A X.env xe → PSs (X.tr pn xe) body (tb W))
    (hh : HdN X (h0 :: hds) l) : PS X (.Try body (h0 :: hds) [] [] pos) (fun D σ H => tb (wN X.K Wo D.rt l) D σ H) := by
  refine ⟨fun pins s σ H D I h => wpAny_Try_except (wpAny_mono ((hb (wN X.K Wo D.rt l) (X.pn ++ pins) (fun e s₁ => wpAny (model X.prog X.w) X.A (noteFrame e X.env) (fun _ s₂ => wpAny (model X.prog X.w) X.A (setFlight e none) (fun _ s₃ =>
    wpAny (model X.prog X.w) X.A (handleBy e X.env (h0 :: hds)) (SP X pins D) X.xe s₃) X.xe s₂) X.xe s₁) (fun u t xx => ?_) PassesOwn.looking).run [] s σ H D (I.toTry _) h) (fun f s1 q => ?_) fun e s1 he => he)⟩
  · obtain ⟨a, B, sI, pins2, σ2, H2, cls, d, eu, J, nb, up, sky, na, os, ag, w⟩ := xx
    subst eu
    have sky2 : Sky B (X.env :: X.outer) a (Zc cls d) X.env.locals t.heap := by rw [← hs]; exact sky
    refine Sky.land Zc.steady (by rw [I.ok.frames, hs]) hf sky2 fun h3 fl3 up3 => ?_
    exact Cgt.hands (t := { t with heap := h3 }) hs hf hN tk I.ok ⟨J.ofTry I.ok, nb, up.trans up3, fl3, na, os, ag⟩ hh w
  · have q2 := sp_back I.ok q
    cases f with
    | next => exact wpAny_execs_nil q2
    | brk => exact q2
    | cont => exact q2
    | ret u => exact q2
end
end Tw

set_option linter.all false
set_option Elab.async false
set_option maxRecDepth 100000
set_option maxHeartbeats 2000000
/-! TwD1: statements: what is asked of an outcome; the conversions. -/
namespace Tw
open PySem PySem.Spec PyProof.Rows L2
def PostS (G : Wd) (k : Nat) (W : WX) (D : Ends) (m : List Addr) (H : Hp) : OS → Prop
  | .nx en S => ∀ m' H' σ', Ext k m H m' H' → RE G k none m' H' en σ' → RS G k m' H' S → D.nx σ' H'
  | .bk en S => ∀ m' H' σ', Ext k m H m' H' → RE G k none m' H' en σ' → RS G k m' H' S → D.bk σ' H'
  | .ct en S => ∀ m' H' σ', Ext k m H m' H' → RE G k none m' H' en σ' → RS G k m' H' S → D.ct σ' H'
  | .rt d S => ∀ m' H' v, Ext k m H m' H' → RS G k m' H' S → RDD G k m' H' d v → D.rt v H'
  | .exc c x en S => ∀ m' H' σ' d v, Ext k m H m' H' → RE G k none m' H' en σ' → RS G k m' H' S → H' d = some (.xd [(G.fa (G.xf c), v)]) → RD G m' H' x v → W (.ref (G.ca c)) (some d) σ' H'
  | .stuck => False
def tS (G : Wd) (k : Nat) (W : WX) (o : En → Store → OS) : TS := fun D σ H => ∃ m en S, RE G k none m H en σ ∧ RS G k m H S ∧ PostS G k W D m H (o en S)
theorem _root_.L2.PS.of {X : Cx} {e : Stmt} {t t' : TS} (h : PS X e t) (c : ∀ D σ H, t' D σ H → t D σ H) : PS X e t' := ⟨fun pins s σ H D I hw => h.run pins s σ H D I (c D σ H hw)⟩
theorem _root_.L2.PSs.of {X : Cx} {e : List Stmt} {t t' : TS} (h : PSs X e t) (c : ∀ D σ H, t' D σ H → t D σ H) : PSs X e t' := ⟨fun pins s σ H D I hw => h.run pins s σ H D I (c D σ H hw)⟩
section
variable {G : Wd} {C : Cb} {k : Nat} {W : WX} {Dd : Ends} {m m1 m' : List Addr} {H H1 H' : Hp} {en : En} {S S1 : Store} {σ : Sl}
theorem PostS.ext {o : OS} (p : PostS G k W Dd m H o) (x : Ext k m H m1 H1) : PostS G k W Dd m1 H1 o := by
  cases o with
  | nx en S => exact fun m' H' σ' y => p m' H' σ' (x.trans y)
  | bk en S => exact fun m' H' σ' y => p m' H' σ' (x.trans y)
  | ct en S => exact fun m' H' σ' y => p m' H' σ' (x.trans y)
  | rt d S => exact fun m' H' v y => p m' H' v (x.trans y)
  | exc c z en S => exact fun m' H' σ' d v y => p m' H' σ' d v (x.trans y)
  | stuck => exact p
/-- an evaluation ahead of a statement's rest -/
theorem thnP {α β : Type} {Rl : List Addr → Hp → α → β → Prop} {Q : β → Hp → Prop} {o : Out α} {f : α → Store → OS} (re : RE G k none m H en σ) (rs : RS G k m H S) (p : PostS G k W Dd m H (o.thn en f))
    (c : ∀ a S1 m1 H1 b, o = .ok a S1 → Ext k m H m1 H1 → RE G k none m1 H1 en σ → RS G k m1 H1 S1 → Rl m1 H1 a b → PostS G k W Dd m1 H1 (f a S1) → Q b H1) : Post G k Rl W m σ H Q o := by
  cases o with
  | ok a S1 => exact fun m1 H1 b x rs1 r => c a S1 m1 H1 b rfl x (re.mono x rs.nt) rs1 r (PostS.ext (o := f a S1) p x)
  | exc c' z S1 => exact fun m1 H1 d v x rs1 hd r => p m1 H1 σ d v x (re.mono x rs.nt) rs1 hd r
  | stuck => exact p
theorem thnE {oa : En → Store → Out D} {f : D → Store → OS} {Q : VK} (re : RE G k none m H en σ) (rs : RS G k m H S) (p : PostS G k W Dd m H ((oa en S).thn en f))
    (c : ∀ d S1 m1 H1 v, Ext k m H m1 H1 → RE G k none m1 H1 en σ → RS G k m1 H1 S1 → RDD G k m1 H1 d v → PostS G k W Dd m1 H1 (f d S1) → Q v H1) : tE G k W none oa σ H Q :=
  ⟨m, en, S, re, rs, thnP re rs p fun a S1 m1 H1 b _ x re1 rs1 r p1 => c a S1 m1 H1 b x re1 rs1 r p1⟩
theorem thnT {oa : En → Store → Out Bool} {f : Bool → Store → OS} {Q : Bool → Hp → Prop} (re : RE G k none m H en σ) (rs : RS G k m H S) (p : PostS G k W Dd m H ((oa en S).thn en f))
    (c : ∀ d S1 m1 H1, Ext k m H m1 H1 → RE G k none m1 H1 en σ → RS G k m1 H1 S1 → PostS G k W Dd m1 H1 (f d S1) → Q d H1) : tT G k W none oa σ H Q :=
  ⟨m, en, S, re, rs, thnP re rs p fun a S1 m1 H1 b _ x re1 rs1 r p1 => by cases r; exact c a S1 m1 H1 x re1 rs1 p1⟩
theorem PostS.nx_now {en : En} (p : PostS G k W Dd m H (.nx en S)) (re : RE G k none m H en σ) (rs : RS G k m H S) : Dd.nx σ H := p m H σ (.refl rs.le) re rs
theorem Out.thn_bind {α β : Type} (o : Out α) (g : α → Store → Out β) (en : En) (f : β → Store → OS) : (o.bind g).thn en f = o.thn en fun a S => (g a S).thn en f := by cases o <;> rfl

theorem seq_conv {o : En → Store → OS} {f : En → Store → OS} : ∀ Dd σ H, tS G k W (fun en S => (o en S).bind f) Dd σ H → tSeq (tS G k W o) (tS G k W f) Dd σ H := fun Dd σ H ⟨m, en, S, re, rs, p⟩ => by
  refine ⟨m, en, S, re, rs, ?_⟩
  dsimp only at p
  cases q : o en S with
  | nx en1 S1 =>
    rw [q] at p
    exact fun m1 H1 σ1 x re1 rs1 => ⟨m1, en1, S1, re1, rs1, PostS.ext (o := f en1 S1) p x⟩
  | bk en1 S1 => rw [q] at p; exact p
  | ct en1 S1 => rw [q] at p; exact p
  | rt d S1 => rw [q] at p; exact p
  | exc c z en1 S1 => rw [q] at p; exact p
  | stuck => rw [q] at p; exact p
theorem set_conv {t : Tg} {oa : En → Store → Out D} : ∀ Dd σ H, tS G k W (fun en S => (oa en S).thn en fun x S1 => match setT t x en with
    | some en' => .nx en' S1
    | none => .stuck) Dd σ H → tAsg (tE G k W none oa) (gT G.K t) Dd σ H := fun Dd σ H ⟨m, en, S, re, rs, p⟩ => by
  refine thnE re rs p fun d S1 m1 H1 v x re1 rs1 r1 p1 => ?_
  cases e : setT t d en with
  | none => rw [e] at p1; exact p1.elim
  | some en' =>
    rw [e] at p1
    exact gT_ok re1 r1 e fun σ' re2 _ _ => p1.nx_now re2 rs1
theorem ret_conv {oa : En → Store → Out D} : ∀ Dd σ H, tS G k W (fun en S => (oa en S).thn en fun d S1 => .rt d S1) Dd σ H → tRet (tE G k W none oa) Dd σ H := fun Dd σ H ⟨m, en, S, re, rs, p⟩ =>
  thnE re rs p fun d S1 m1 H1 v x re1 rs1 r1 p1 => p1 m1 H1 v (.refl rs1.le) rs1 r1
theorem drop_conv {oa : En → Store → Out D} : ∀ Dd σ H, tS G k W (fun en S => (oa en S).thn en fun _ S1 => .nx en S1) Dd σ H → tDrop (tE G k W none oa) Dd σ H := fun Dd σ H ⟨m, en, S, re, rs, p⟩ =>
  thnE re rs p fun d S1 m1 H1 v x re1 rs1 r1 p1 => p1.nx_now re1 rs1
theorem if_conv {oa : En → Store → Out D} {f g : En → Store → OS} : ∀ Dd σ H, tS G k W (fun en S => (oa en S).thn en fun d S1 => (cond d S1).thn en fun k S2 => match k with
    | true => f en S2
    | false => g en S2) Dd σ H → tIfS (tT G k W none (tTst oa)) (tS G k W f) (tS G k W g) Dd σ H := fun Dd σ H ⟨m, en, S, re, rs, p⟩ => by
  have p' : PostS G k W Dd m H ((tTst oa en S).thn en fun k S2 => match k with
    | true => f en S2
    | false => g en S2) := by
    unfold tTst
    rw [Out.thn_bind]
    exact p
  exact thnT re rs p' fun b S1 m1 H1 x re1 rs1 p1 => ite_of (fun h => by subst h; exact ⟨m1, en, S1, re1, rs1, p1⟩) fun h => by subst h; exact ⟨m1, en, S1, re1, rs1, p1⟩
theorem par_conv {i j : Nat} {a b : E} : ∀ Dd σ H, tS G k W (fun en S => (ev C a en S).thn en fun x S1 => (ev C b en S1).thn en fun y S2 => .nx ((en.set i (some x)).set j (some y)) S2) Dd σ H → tPar i j (tA G k W none (evs C [a, b])) Dd σ H := fun Dd σ H ⟨m, en, S, re, rs, p⟩ => by
  have e : (evs C [a, b] en S) = (ev C a en S).bind fun x S1 => (ev C b en S1).bind fun y S2 => .ok [x, y] S2 := by
    show ((ev C a en S).bind fun x S1 => (((ev C b en S1).bind fun y S2 => (Out.ok [] S2).bind fun xs S3 => .ok (y :: xs) S3)).bind fun xs S2 => .ok (x :: xs) S2) = _
    simp only [Out.bind_assoc, Out.bind_ok]
  have p' : PostS G k W Dd m H ((evs C [a, b] en S).thn en fun l S3 => match l with
    | [x, y] => .nx ((en.set i (some x)).set j (some y)) S3
    | _ => .stuck) := by
    rw [e]
    simp only [Out.thn_bind]
    exact p
  refine ⟨m, en, S, re, rs, thnP re rs p' fun l S1 m1 H1 vs _ x re1 rs1 r p1 => ?_⟩
  match l, r, p1 with
  | [d, d2], r, p1 =>
    obtain ⟨v, v2, rfl, r1, r2⟩ := F2.inv2 r
    exact ⟨v, v2, rfl, p1.nx_now ((re1.set r1.vx i).set r2.vx j) rs1⟩
  | [], _, p1 => exact p1.elim
  | [_], _, p1 => exact p1.elim
  | _ :: _ :: _ :: _, _, p1 => exact p1.elim
theorem par3_conv {i j l : Nat} {a b c : E} : ∀ Dd σ H, tS G k W (fun en S => (ev C a en S).thn en fun x S1 => (ev C b en S1).thn en fun y S2 => (ev C c en S2).thn en fun z S3 => .nx (((en.set i (some x)).set j (some y)).set l (some z)) S3) Dd σ H → tPar3 i j l (tA G k W none (evs C [a, b, c])) Dd σ H := fun Dd σ H ⟨m, en, S, re, rs, p⟩ => by
  have e : (evs C [a, b, c] en S) = (ev C a en S).bind fun x S1 => (ev C b en S1).bind fun y S2 => (ev C c en S2).bind fun z S3 => .ok [x, y, z] S3 := by
    show ((ev C a en S).bind fun x S1 => (((ev C b en S1).bind fun y S2 => (((ev C c en S2).bind fun z S3 => (Out.ok [] S3).bind fun xs S4 => .ok (z :: xs) S4)).bind fun xs S3 => .ok (y :: xs) S3)).bind fun xs S2 => .ok (x :: xs) S2) = _
    simp only [Out.bind_assoc, Out.bind_ok]
  have p' : PostS G k W Dd m H ((evs C [a, b, c] en S).thn en fun w S3 => match w with
    | [x, y, z] => .nx (((en.set i (some x)).set j (some y)).set l (some z)) S3
    | _ => .stuck) := by
    rw [e]
    simp only [Out.thn_bind]
    exact p
  refine ⟨m, en, S, re, rs, thnP re rs p' fun w S1 m1 H1 vs _ x re1 rs1 r p1 => ?_⟩
  match w, r, p1 with
  | [d, d2, d3], r, p1 =>
    cases r with
    | cons r1 rr =>
      obtain ⟨v2, v3, rfl, r2, r3⟩ := F2.inv2 rr
      exact ⟨_, v2, v3, rfl, p1.nx_now (((re1.set r1.vx i).set r2.vx j).set r3.vx l) rs1⟩
  | [], _, p1 => exact p1.elim
  | [_], _, p1 => exact p1.elim
  | [_, _], _, p1 => exact p1.elim
  | _ :: _ :: _ :: _ :: _, _, p1 => exact p1.elim
/-- int op= int -/
def rAug (o : BinO) : TIp := fun x y H Q => ∃ i j, x = .int i ∧ y = .int j ∧ ((o = .add ∧ Q (.int (i + j)) H) ∨ (o = .sub ∧ Q (.int (i - j)) H))
theorem ip_aug {X : Cx} {o : BinO} {op : Operator} (h : opIs o op = true) : PIp X op (rAug o) := by
  rw [opIs_eq h]
  intro pins s σ H x y v u Q I r1 r2 ⟨i, j, e1, e2, q⟩
  rcases q with ⟨rfl, q⟩ | ⟨rfl, q⟩
  · exact ip_add pins s σ H x y v u Q I r1 r2 ⟨i, j, e1, e2, q⟩
  · exact ip_sub pins s σ H x y v u Q I r1 r2 ⟨i, j, e1, e2, q⟩
theorem aug_conv {i : Nat} {o : BinO} {oa : En → Store → Out D} : ∀ Dd σ H, tS G k W (fun en S => (Out.of (getV en i) S).thn en fun x S1 => (oa en S1).thn en fun y S2 => (augD o x y S2).thn en fun z S3 => .nx (en.set i (some z)) S3) Dd σ H →
    tAug i (tE G k W none oa) (rAug o) Dd σ H := fun Dd σ H ⟨m, en, S, re, rs, p⟩ => by
  have go : ∀ d, en[i]? = some (some d) → RVx G k none m H d = RDD G k m H d → PostS G k W Dd m H ((oa en S).thn en fun y S2 => (augD o d y S2).thn en fun z S3 => .nx (en.set i (some z)) S3) → tAug i (tE G k W none oa) (rAug o) Dd σ H := fun d e hr p => by
    obtain ⟨v, h1, h2⟩ := re.at_ i d e
    rw [hr] at h2
    refine ⟨v, h1, thnE re rs p fun d2 S1 m1 H1 v2 x re1 rs1 r1 p1 => ?_⟩
    have r2 := h2.mono x rs.nt
    unfold augD at p1
    split at p1
    · have e1 := rdd_int rfl r2
      have e2 := rdd_int rfl r1
      subst e1 e2
      exact ⟨_, _, rfl, rfl, .inl ⟨rfl, p1.nx_now (re1.set (d := .p (.int _)) (RDD.vx (d := .p (.int _)) (by show RD G m1 H1 _ _; simp only [RD])) i) rs1⟩⟩
    · have e1 := rdd_int rfl r2
      have e2 := rdd_int rfl r1
      subst e1 e2
      exact ⟨_, _, rfl, rfl, .inr ⟨rfl, p1.nx_now (re1.set (d := .p (.int _)) (RDD.vx (d := .p (.int _)) (by show RD G m1 H1 _ _; simp only [RD])) i) rs1⟩⟩
    · exact p1.elim
  dsimp only at p
  unfold getV at p
  split at p
  · rename_i y e
    exact go _ e rfl p
  · rename_i n e
    exact go _ e rfl p
  · exact p.elim
theorem seti_conv {oo oi oe : En → Store → Out D} : ∀ Dd σ H, tS G k W (fun en S => (oe en S).thn en fun y S1 => (oo en S1).thn en fun l S2 => (oi en S2).thn en fun k S3 => match setiD l k y S3 with
    | some S4 => .nx en S4
    | none => .stuck) Dd σ H → tAsg (tE G k W none oe) (gSub (tE G k W none oo) (tE G k W none oi) rSetL) Dd σ H := fun Dd σ H ⟨m, en, S, re, rs, p⟩ => by
  refine thnE re rs p fun y S1 m1 H1 v x1 re1 rs1 r1 p1 => thnE re1 rs1 p1 fun l S2 m2 H2 w x2 re2 rs2 r2 p2 => thnE re2 rs2 p2 fun i S3 m3 H3 u x3 re3 rs3 r3 p3 => ?_
  have ry := (r1.mono x2 rs1.nt).mono x3 rs2.nt
  have rl := r2.mono x3 rs2.nt
  unfold setiD at p3
  split at p3
  · rename_i S4 e
    split at e
    · rename_i n j
      split at e
      · rename_i xs q
        obtain ⟨a, ha, rfl⟩ := rl
        obtain ⟨vs, h1, h2, h3⟩ := rs3.ok n _ a q ha
        have eu := rdd_int rfl r3
        subst eu
        cases q2 : ixAt xs.length j with
        | none => rw [q2] at e; cases e
        | some jj =>
          rw [q2] at e
          cases e
          rw [ixAt_eq, h3.len] at q2
          have y2 : Ext k m3 H3 m3 (upd H3 a (.lst (vs.set jj v))) := .put rs3.le (mem_dropK ha)
          refine ⟨a, vs, j, jj, rfl, rfl, h1, q2, ?_⟩
          refine p3 m3 _ σ y2 (re3.mono y2 rs3.nt) (rs3.put ha ⟨vs.set jj v, upd_same, by rw [List.length_set]; exact h2, ?_⟩)
          exact (F2.set h3 ry jj).mono fun d v h => RDD.mono y2 rs3.nt h
      · cases e
    · cases e
  · exact p3.elim

theorem putF_zip {α : Type} {R : α → V → Prop} {f : Nat} {y : α} {v : V} (inj : ∀ i, i ∈ G.fs → ∀ j, j ∈ G.fs → G.fa i = G.fa j → i = j) (hf : f ∈ G.fs) (hr : R y v) : ∀ {ks : List Nat} {ds : List α} {ws : List V}, (∀ k ∈ ks, k ∈ G.fs) → ks.length = ds.length → F2 R ds ws →
    ∃ ws', putF (G.fa f) v ((ks.map G.fa).zip ws) = (((putA f y ks ds).1.map G.fa).zip ws') ∧ F2 R (putA f y ks ds).2 ws' ∧ (putA f y ks ds).1.length = (putA f y ks ds).2.length ∧ ∀ k ∈ (putA f y ks ds).1, k ∈ G.fs
  | [], [], ws, _, _, h => by
    cases h
    exact ⟨[v], rfl, .one hr, rfl, fun k hk => by
      have hk' : k ∈ [f] := hk
      rw [List.mem_singleton.mp hk']
      exact hf⟩
  | [], _ :: _, _, _, hl, _ => by simp at hl
  | _ :: _, [], _, _, hl, _ => by simp at hl
  | k :: ks, d :: ds, ws, hk, hl, h => by
    cases h with
    | @cons _ w _ ws h t =>
      by_cases q : f = k
      · subst q
        refine ⟨v :: ws, ?_, ?_, ?_, ?_⟩
        · simp [putA, putF]
        · simp only [putA, if_true]
          exact .cons hr t
        · simpa [putA] using hl
        · simpa [putA] using hk
      · have q2 : ¬ G.fa k = G.fa f := fun z => q (inj k (hk k List.mem_cons_self) f hf z).symm
        obtain ⟨ws', e1, e2, e3, e4⟩ := putF_zip (y := y) (v := v) inj hf hr (fun j hj => hk j (List.mem_cons_of_mem _ hj)) (by simpa using hl) t
        refine ⟨w :: ws', ?_, ?_, ?_, ?_⟩
        · simp only [putA, if_neg q, List.map_cons, List.zip_cons_cons, putF, if_neg q2, e1]
        · simp only [putA, if_neg q]
          exact .cons h e2
        · simp only [putA, if_neg q, List.length_cons, e3]
        · simp only [putA, if_neg q]
          intro j hj
          rcases List.mem_cons.mp hj with rfl | hj
          · exact hk _ List.mem_cons_self
          · exact e4 j hj
theorem setf_conv {X : Cx} {f : Nat} {oo oe : En → Store → Out D} (hK : X.K = G.K) (hrec : ∀ c, c ∈ G.ic → Cls X.K (G.ca c) ∧ ∀ f, f ∈ G.fs → NoAttr X.K (G.ca c) (G.fa f)) (inj : ∀ i, i ∈ G.fs → ∀ j, j ∈ G.fs → G.fa i = G.fa j → i = j) (hf : f ∈ G.fs) : ∀ Dd σ H, tS G k W (fun en S => (oe en S).thn en fun y S1 => (oo en S1).thn en fun l S2 => match setfD l f y S2 with
    | some S3 => .nx en S3
    | none => .stuck) Dd σ H → sFld X.K (tE G k W none oo) (tE G k W none oe) (G.fa f) Dd σ H := fun Dd σ H ⟨m, en, S, re, rs, p⟩ => by
  refine thnE re rs p fun y S1 m1 H1 v x1 re1 rs1 r1 p1 => thnE re1 rs1 p1 fun l S2 m2 H2 w x2 re2 rs2 r2 p2 => ?_
  have ry := r1.mono x2 rs1.nt
  unfold setfD at p2
  split at p2
  · rename_i S3 e
    split at e
    · rename_i n
      split at e
      · rename_i c ks ds q
        obtain ⟨a, ha, rfl⟩ := r2
        obtain ⟨dx, ws, h1, ⟨h2, h3⟩, h4, h5⟩ := rs2.ok n _ a q ha
        split at e
        · rename_i hlen
          cases e
          obtain ⟨ws', e1, e2, e3, e4⟩ := putF_zip (y := y) (v := v) inj hf ry h3 h4 h5
          have y2 : Ext k m2 H2 m2 (upd H2 a (.ins (G.ca c) dx (putF (G.fa f) v ((ks.map G.fa).zip ws)))) := .put rs2.le (mem_dropK ha)
          refine ⟨a, G.ca c, dx, _, rfl, h1, (hrec c h2).1, (hrec c h2).2 f hf, ?_, ?_⟩
          · rw [List.length_zip, List.length_map, ← h5.len]
            omega
          · refine p2 m2 _ σ y2 (re2.mono y2 rs2.nt) (rs2.put ha ⟨dx, ws', by rw [upd_same, e1], ⟨h2, e4⟩, e3, ?_⟩)
            exact e2.mono fun d v h => RDD.mono y2 rs2.nt h
        · cases e
      · cases e
    · cases e
  · exact p2.elim

/-! ### loops -/
/-- a loop's body, in words of the loop -/
theorem PostS.turn {o : OS} {f : En → Store → OS} {Nx : Sl → Hp → Prop} (p : PostS G k W Dd m H (match o with
    | .nx en' S' => f en' S'
    | .ct en' S' => f en' S'
    | .bk en' S' => .nx en' S'
    | o => o)) (c : ∀ m1 H1 σ1 en1 S1, Ext k m H m1 H1 → RE G k none m1 H1 en1 σ1 → RS G k m1 H1 S1 → PostS G k W Dd m1 H1 (f en1 S1) → Nx σ1 H1) : PostS G k W { Dd with nx := Nx, ct := Nx, bk := Dd.nx } m H o := by
  cases o with
  | nx en1 S1 => exact fun m1 H1 σ1 x re1 rs1 => c m1 H1 σ1 en1 S1 x re1 rs1 (PostS.ext (o := f en1 S1) p x)
  | ct en1 S1 => exact fun m1 H1 σ1 x re1 rs1 => c m1 H1 σ1 en1 S1 x re1 rs1 (PostS.ext (o := f en1 S1) p x)
  | bk en1 S1 => exact p
  | rt d S1 => exact p
  | exc c z en1 S1 => exact p
  | stuck => exact p
theorem for_turns {J : It} {P : Hp → List V → Prop} {t : Tg} {body : En → Store → OS} {w : Walk} (hJ : Rdr J P) (hS : Src G k m1 H1 P w) (re : RE G k none m1 H1 en σ) (rs : RS G k m1 H1 S1)
    (p : PostS G k W Dd m1 H1 (forL (still w) (fun x en' S' => match setT t x en' with
      | some en2 => body en2 S'
      | none => .stuck) w.items en S1)) : ∃ Wi : Nat → Nat → Sl → Hp → Prop, (∃ m, Wi 0 m σ H1) ∧ ∀ i m σ H, Wi i m σ H →
  (J.stop i H ∧ Dd.nx σ H) ∨ (J.go i H ∧ ∃ N : Sl → Hp → Prop, (∀ σ' H', N σ' H' → ∃ m', m' < m ∧ Wi (i + 1) m' σ' H') ∧ ∀ x H', J.yld i H x H' → gT G.K t x σ H' fun σ2 H2 => tS G k W body { Dd with nx := N, ct := N, bk := Dd.nx } σ2 H2) := by
  let f : D → En → Store → OS := fun x en' S' => match setT t x en' with
      | some en2 => body en2 S'
      | none => .stuck
  let Wi : Nat → Sl → Hp → Prop := fun i σ H' => i ≤ w.items.length ∧ ∃ m' en' S', Ext k m1 H1 m' H' ∧ RE G k none m' H' en' σ ∧ RS G k m' H' S' ∧ PostS G k W Dd m' H' (forL (still w) f (w.items.drop i) en' S')
  refine ⟨fun i mm σ H' => mm = w.items.length - i ∧ Wi i σ H', ⟨_, rfl, Nat.zero_le _, m1, en, S1, .refl rs.le, re, rs, by rw [List.drop_zero]; exact p⟩, ?_⟩
  rintro i mm σ H' ⟨rfl, hi, m', en', S', x, re', rs', p⟩
  have hst : still w S' = true := by
    cases e : still w S' with
    | true => rfl
    | false =>
      exfalso
      cases hd : w.items.drop i with
      | nil => rw [hd, forL, e] at p; exact p
      | cons x xs => rw [hd, forL, e] at p; exact p
  obtain ⟨vs, hP, hF⟩ := hS k m' H' S' x.ex0 (fun n b e => x.ref e) rs' hst
  have hlen := hF.len
  by_cases hlt : i < w.items.length
  · have hd : w.items.drop i = w.items[i] :: w.items.drop (i + 1) := List.drop_eq_getElem_cons hlt
    rw [hd, forL, hst, if_pos rfl] at p
    refine .inr ⟨hJ.go i H' vs hP (by omega), Wi (i + 1), fun σ'' H'' h => ⟨_, by omega, rfl, h⟩, fun v H'' y => ?_⟩
    obtain ⟨e1, e2⟩ := hJ.yld i H' vs v H'' hP (by omega) y
    subst e1
    obtain ⟨v', e3, rx⟩ := hF.get (i := i) (x := w.items[i]) (by simp [hlt])
    rw [e2] at e3
    cases e3
    cases es : setT t w.items[i] en' with
    | none =>
      have e : f w.items[i] en' S' = .stuck := by show (match setT t w.items[i] en' with | some en2 => body en2 S' | none => .stuck) = _; rw [es]
      rw [e] at p
      exact p.elim
    | some en2 =>
      have e : f w.items[i] en' S' = body en2 S' := by show (match setT t w.items[i] en' with | some en2 => body en2 S' | none => .stuck) = _; rw [es]
      rw [e] at p
      refine gT_ok re' rx es fun σ2 re2 _ _ => ⟨m', en2, S', re2, rs', PostS.turn p fun m3 H3 σ3 en3 S3 x3 re3 rs3 p3 => ⟨by omega, m3, en3, S3, x.trans x3, re3, rs3, p3⟩⟩
  · have e : i = w.items.length := by omega
    subst e
    rw [List.drop_length, forL, hst] at p
    exact .inl ⟨hJ.stop _ H' vs hP (by omega), p.nx_now re' rs'⟩
theorem enumIts_len : ∀ (xs : List P) (i : Nat), (enumIts i xs).length = xs.length
  | [], _ => rfl
  | _ :: xs, i => by show (enumIts (i + 1) xs).length + 1 = xs.length + 1; rw [enumIts_len xs (i + 1)]
theorem enumIts_get : ∀ (xs : List P) (i j : Nat) (x : P), xs[j]? = some x → (enumIts i xs)[j]? = some (.p (.tup [.int ((i + j : Nat) : Int), x]))
  | [], _, _, _, h => by cases h
  | y :: xs, i, 0, x, h => by
    cases h
    rfl
  | y :: xs, i, j + 1, x, h => by
    have e := enumIts_get xs (i + 1) j x h
    have z : i + 1 + j = i + (j + 1) := by omega
    rw [z] at e
    exact e
theorem for_turnsE {t : Tg} {body : En → Store → OS} {a0 : Addr} {xs : List P} {vs : List V} (hq : SqT G.K H1 a0 vs) (hF : F2 (RD G m1 H1) xs vs) (re : RE G k none m1 H1 en σ) (rs : RS G k m1 H1 S1)
    (p : PostS G k W Dd m1 H1 (forL (fun _ => true) (fun x en' S' => match setT t x en' with
      | some en2 => body en2 S'
      | none => .stuck) (enumIts 0 xs) en S1)) : ∃ Wi : Nat → Nat → Sl → Hp → Prop, (∃ m, Wi 0 m σ H1) ∧ ∀ i m σ H, Wi i m σ H →
  ((IteT G.K a0).stop i H ∧ Dd.nx σ H) ∨ ((IteT G.K a0).go i H ∧ ∃ N : Sl → Hp → Prop, (∀ σ' H', N σ' H' → ∃ m', m' < m ∧ Wi (i + 1) m' σ' H') ∧ ∀ x H', (IteT G.K a0).yld i H x H' → gT G.K t x σ H' fun σ2 H2 => tS G k W body { Dd with nx := N, ct := N, bk := Dd.nx } σ2 H2) := by
  let f : D → En → Store → OS := fun x en' S' => match setT t x en' with
      | some en2 => body en2 S'
      | none => .stuck
  have hlen := hF.len
  let Wi : Nat → Sl → Hp → Prop := fun i σ H' => i ≤ xs.length ∧ ∃ m' en' S', Ext k m1 H1 m' H' ∧ RE G k none m' H' en' σ ∧ RS G k m' H' S' ∧ PostS G k W Dd m' H' (forL (fun _ => true) f ((enumIts 0 xs).drop i) en' S')
  refine ⟨fun i mm σ H' => mm = xs.length - i ∧ Wi i σ H', ⟨_, rfl, Nat.zero_le _, m1, en, S1, .refl rs.le, re, rs, by rw [List.drop_zero]; exact p⟩, ?_⟩
  rintro i mm σ H' ⟨rfl, hi, m', en', S', x, re', rs', p⟩
  have hq' : SqT G.K H' a0 vs := x.ex0.sqT rs.nt hq
  by_cases hlt : i < xs.length
  · have hx0 : xs[i]? = some xs[i] := by simp [hlt]
    obtain ⟨w, hw, rx⟩ := hF.get (i := i) (x := xs[i]) hx0
    have hg := enumIts_get xs 0 i _ hx0
    rw [Nat.zero_add] at hg
    have hlt2 : i < (enumIts 0 xs).length := by rw [enumIts_len]; exact hlt
    have hd : (enumIts 0 xs).drop i = (enumIts 0 xs)[i] :: (enumIts 0 xs).drop (i + 1) := List.drop_eq_getElem_cons hlt2
    have hge : (enumIts 0 xs)[i] = .p (.tup [.int (i : Nat), xs[i]]) := by
      rw [List.getElem?_eq_getElem hlt2] at hg
      exact Option.some.inj hg
    rw [hd, hge, forL, if_pos rfl] at p
    refine .inr ⟨⟨vs, w, hq', hw⟩, Wi (i + 1), fun σ'' H'' h => ⟨_, by omega, rfl, h⟩, fun v H'' y => ?_⟩
    obtain ⟨T, w', o', rfl, hT, hdn, rfl, hall⟩ := y
    have ew := hall vs hq'
    rw [hw] at ew
    cases ew
    have sm := same_new (o := .frz o' (.tup [.int (i : Nat), w])) hT
    have x2 : Ext k m' H' m' (upd H' T (.frz o' (.tup [.int (i : Nat), w]))) := .same rs'.le sm
    have rp : RDD G k m' (upd H' T (.frz o' (.tup [.int (i : Nat), w]))) (.p (.tup [.int (i : Nat), xs[i]])) (.ref T) :=
      RD.newT rs'.nt hT hdn (show 2 ≤ sizeLine by decide) (.cons (by simp only [RD]) (.one (RD.mono x.ex0 rs.nt _ _ rx)))
    cases es : setT t (.p (.tup [.int (i : Nat), xs[i]])) en' with
    | none =>
      have e : f (.p (.tup [.int (i : Nat), xs[i]])) en' S' = .stuck := by show (match setT t (.p (.tup [.int (i : Nat), xs[i]])) en' with | some en2 => body en2 S' | none => .stuck) = _; rw [es]
      rw [e] at p
      exact p.elim
    | some en2 =>
      have e : f (.p (.tup [.int (i : Nat), xs[i]])) en' S' = body en2 S' := by show (match setT t (.p (.tup [.int (i : Nat), xs[i]])) en' with | some en2 => body en2 S' | none => .stuck) = _; rw [es]
      rw [e] at p
      refine gT_ok (re'.mono x2 rs'.nt) rp es fun σ2 re2 _ _ => ⟨m', en2, S', re2, rs'.same sm, PostS.turn (p.ext x2) fun m3 H3 σ3 en3 S3 x3 re3 rs3 p3 => ⟨by omega, m3, en3, S3, (x.trans x2).trans x3, re3, rs3, p3⟩⟩
  · have e : i = xs.length := by omega
    subst e
    rw [← enumIts_len xs 0, List.drop_length, forL, if_pos rfl] at p
    exact .inl ⟨⟨vs, hq', hlen.symm⟩, p.nx_now re' rs'⟩
theorem fre_conv {X : Cx} {t : Tg} {a : E} {body : En → Store → OS} (hK : X.K = G.K) : ∀ Dd σ H, tS G k W (fun en S => (ev C a en S).thn en fun d S1 => match d with
    | .p (.tup xs) => forL (fun _ => true) (fun x en' S' => match setT t x en' with
      | some en2 => body en2 S'
      | none => .stuck) (enumIts 0 xs) en S1
    | _ => .stuck) Dd σ H → tFor (iEnumT X.K (tA G k W none (evs C [a]))) (gT G.K t) (tS G k W body) Dd σ H := fun Dd σ H ⟨m, en, S, re, rs, p⟩ => by
  have e1 : (evs C [a] en S) = (ev C a en S).bind fun x S1 => .ok [x] S1 := rfl
  have p' : PostS G k W Dd m H ((evs C [a] en S).thn en fun l S1 => match l with
    | [.p (.tup xs)] => forL (fun _ => true) (fun x en' S' => match setT t x en' with
      | some en2 => body en2 S'
      | none => .stuck) (enumIts 0 xs) en S1
    | _ => .stuck) := by
    rw [e1, Out.thn_bind]
    cases q : ev C a en S with
    | ok d S1 =>
      dsimp only at p
      rw [q] at p
      dsimp only [Out.thn] at p ⊢
      split at p
      · exact p
      · exact p.elim
    | exc c' z S1 =>
      dsimp only at p
      rw [q] at p
      exact p
    | stuck =>
      dsimp only at p
      rw [q] at p
      exact p
  refine ⟨m, en, S, re, rs, thnP re rs p' fun l S1 m1 H1 vs _ x re1 rs1 r p1 => ?_⟩
  split at p1
  · rename_i xs _
    obtain ⟨v, rfl, r0⟩ := F2.inv1 r
    have r0' : RD G m1 H1 (.tup xs) v := r0
    simp only [RD] at r0'
    obtain ⟨a0, vs, rfl, hq, _, hF⟩ := r0'
    rw [hK]
    exact ⟨a0, vs, rfl, hq.sq, for_turnsE hq.sq (RDs_f2.mp hF) re1 rs1 p1⟩
  · exact p1.elim
theorem fr_conv {X : Cx} {t : Tg} {oa : En → Store → Out D} {body : En → Store → OS} (hK : X.K = G.K) : ∀ Dd σ H, tS G k W (fun en S => (oa en S).thn en fun d S1 => (Out.of (walkD S1 d) S1).thn en fun w S2 => forL (still w) (fun x en' S' => match setT t x en' with
      | some en2 => body en2 S'
      | none => .stuck) w.items en S2) Dd σ H → tFor (iSq X.K (tE G k W none oa)) (gT G.K t) (tS G k W body) Dd σ H := fun Dd σ H ⟨m, en, S, re, rs, p⟩ => by
  refine thnE re rs p fun d S1 m1 H1 v x re1 rs1 r1 p1 => ?_
  cases e : walkD S1 d with
  | none => rw [e] at p1; exact p1.elim
  | some w =>
    rw [e] at p1
    obtain ⟨J, P, q, hJ, hS, hn⟩ := walk_seq rs1 r1 e
    have core := for_turns hJ hS re1 rs1 p1
    rw [hK]
    rcases q with ⟨a1, rfl, ⟨q1, rfl⟩ | ⟨q1, rfl⟩⟩ | ⟨z, rfl, rfl⟩
    · exact .inl ⟨a1, rfl, .inl ⟨q1, core⟩⟩
    · exact .inl ⟨a1, rfl, .inr ⟨q1, core⟩⟩
    · exact .inr ⟨z, rfl, core⟩
theorem frr_conv1 {t : Tg} {a : E} {body : En → Store → OS} : ∀ Dd σ H, tS G k W (fun en S => (evs C [a] en S).thn en fun d S1 => (Out.of (walkR d) S1).thn en fun w S2 => forL (still w) (fun x en' S' => match setT t x en' with
      | some en2 => body en2 S'
      | none => .stuck) w.items en S2) Dd σ H → tFor (iRng1 (tA G k W none (evs C [a]))) (gT G.K t) (tS G k W body) Dd σ H := fun Dd σ H ⟨m, en, S, re, rs, p⟩ => by
  refine ⟨m, en, S, re, rs, thnP re rs p fun l S1 m1 H1 vs hl x re1 rs1 r p1 => ?_⟩
  have hd := evs_len [a] en S l S1 hl
  match l, hd, r, p1 with
  | [d], _, r, p1 =>
    obtain ⟨v, rfl, r0⟩ := F2.inv1 r
    cases e : walkR [d] with
    | none => rw [e] at p1; exact p1.elim
    | some w =>
      rw [e] at p1
      obtain ⟨j, h1, h2, h3, rfl⟩ := walkR1 e
      have ei := rdd_int h1 r0
      subst ei
      obtain ⟨z1, z2⟩ := two61_62 h2
      exact ⟨j, rfl, z1, z2, for_turns (rdr_rng 0 j.toNat) (rng_src 0 j.toNat) re1 rs1 p1⟩
theorem frr_conv2 {t : Tg} {a b : E} {body : En → Store → OS} : ∀ Dd σ H, tS G k W (fun en S => (evs C [a, b] en S).thn en fun d S1 => (Out.of (walkR d) S1).thn en fun w S2 => forL (still w) (fun x en' S' => match setT t x en' with
      | some en2 => body en2 S'
      | none => .stuck) w.items en S2) Dd σ H → tFor (iRng2 (tA G k W none (evs C [a, b]))) (gT G.K t) (tS G k W body) Dd σ H := fun Dd σ H ⟨m, en, S, re, rs, p⟩ => by
  refine ⟨m, en, S, re, rs, thnP re rs p fun l S1 m1 H1 vs hl x re1 rs1 r p1 => ?_⟩
  have hd := evs_len [a, b] en S l S1 hl
  match l, hd, r, p1 with
  | [d, d2], _, r, p1 =>
    obtain ⟨v, v2, rfl, r0, r2⟩ := F2.inv2 r
    cases e : walkR [d, d2] with
    | none => rw [e] at p1; exact p1.elim
    | some w =>
      rw [e] at p1
      obtain ⟨i, j, h1, h2, h3, h4, h5, rfl⟩ := walkR2 e
      have ei := rdd_int h1 r0
      subst ei
      have ej := rdd_int h2 r2
      subst ej
      obtain ⟨z1, z2⟩ := two61_62 h3
      obtain ⟨z3, z4⟩ := two61_62 h4
      exact ⟨i, j, rfl, ⟨z1, z2, z3, z4⟩, for_turns (rdr_rng i (j - i).toNat) (rng_src i (j - i).toNat) re1 rs1 p1⟩
theorem frr_conv3 {t : Tg} {a b c : E} {body : En → Store → OS} : ∀ Dd σ H, tS G k W (fun en S => (evs C [a, b, c] en S).thn en fun d S1 => (Out.of (walkR d) S1).thn en fun w S2 => forL (still w) (fun x en' S' => match setT t x en' with
      | some en2 => body en2 S'
      | none => .stuck) w.items en S2) Dd σ H → tFor (iRng3 (tA G k W none (evs C [a, b, c]))) (gT G.K t) (tS G k W body) Dd σ H := fun Dd σ H ⟨m, en, S, re, rs, p⟩ => by
  refine ⟨m, en, S, re, rs, thnP re rs p fun l S1 m1 H1 vs hl x re1 rs1 r p1 => ?_⟩
  have hd := evs_len [a, b, c] en S l S1 hl
  match l, hd, r, p1 with
  | [d, d2, d3], _, r, p1 =>
    obtain ⟨v, v2, v3, rfl, r0, r2, r3⟩ := inv3 r
    cases e : walkR [d, d2, d3] with
    | none => rw [e] at p1; exact p1.elim
    | some w =>
      rw [e] at p1
      obtain ⟨i, j, cc, h1, h2, h3, h4, h5, h6, h7, h8, rfl⟩ := walkR3 e
      have ei := rdd_int h1 r0
      subst ei
      have ej := rdd_int h2 r2
      subst ej
      have ec := rdd_int h3 r3
      subst ec
      exact ⟨i, j, cc, stp i j cc, rfl, rg3 h4 h5 h6 h7 h8, for_turns (rdr_rngC i cc (stp i j cc)) (rng_srcC i cc (stp i j cc)) re1 rs1 p1⟩
theorem wh_conv {oc : En → Store → Out D} {body : En → Store → OS} : ∀ Dd σ H, tS G k W (fun en S => whL (fun en' S' => (oc en' S').bind fun d S1 => cond d S1) (fun en' S' => body en' S') fuelW en S) Dd σ H → tWhile (tT G k W none (tTst oc)) (tS G k W body) Dd σ H := fun Dd σ H ⟨m, en, S, re, rs, p⟩ => by
  refine ⟨fun mm σ H' => ∃ m' en' S', RE G k none m' H' en' σ ∧ RS G k m' H' S' ∧ PostS G k W Dd m' H' (whL (tTst oc) body mm en' S'), ⟨fuelW, m, en, S, re, rs, p⟩, ?_⟩
  rintro mm σ H' ⟨m', en', S', re', rs', p⟩
  cases mm with
  | zero => exact False.elim p
  | succ n =>
    rw [whL] at p
    refine thnT re' rs' p fun b S1 m1 H1 x re1 rs1 p1 => ite_of (fun h => ?_) fun h => ?_
    · subst h
      exact ⟨fun σ2 H2 => ∃ m2 en2 S2, RE G k none m2 H2 en2 σ2 ∧ RS G k m2 H2 S2 ∧ PostS G k W Dd m2 H2 (whL (tTst oc) body n en2 S2), fun σ2 H2 h => ⟨n, Nat.lt_succ_self n, h⟩, m1, en', S1, re1, rs1, PostS.turn p1 fun m3 H3 σ3 en3 S3 x3 re3 rs3 p3 => ⟨m3, en3, S3, re3, rs3, p3⟩⟩
    · subst h
      exact p1.nx_now re1 rs1
end
end Tw

set_option linter.all false
set_option Elab.async false
set_option maxRecDepth 100000
set_option maxHeartbeats 2000000
/-! TwD2: statements: what is looked at; all of them at once. -/
namespace Tw
open PySem PySem.Spec PyProof.Rows L2
def notComp : Expr → Bool
  | .ListComp _ _ _ _ => false
  | .SetComp _ _ _ _ => false
  | .DictComp _ _ _ _ _ => false
  | _ => true
def notTup : Expr → Bool
  | .Tuple _ _ _ => false
  | _ => true
def isZip : Expr → Bool
  | .Call (.Name x _) _ _ _ => decide (x = ("zip" : Str))
  | _ => false
def isLC : Expr → Bool
  | .ListComp _ [⟨_, it, _, _⟩] _ _ => !isZip it
  | _ => false
def bkF (sc : Scope) : Bool := (if sc.kind.isAnnotationScope then .function else sc.kind) == .function
/-- a comprehension and the name that takes it, on one line -/
def swB (sc : Scope) (t : Str) (tp : Pos) : Expr → Bool
  | .ListComp _ _ s p => bkF sc && sc.names.lookup t == some .local && tp.line == p.line && !(s.names.any fun (n, k) => n == t && (k == .local || k == .cell))
  | _ => false
def foldT : Expr → Bool
  | .Tuple vs _ _ => vs.all (foldedForSure 8)
  | _ => false
/-- the value that a target may take -/
def asgB (sc : Scope) : Expr → Expr → Bool
  | .Name x p, v => if notComp v then true else isLC v && swB sc x p v
  | .Tuple es _ _, v => notComp v && (notTup v || es.any isTupT || foldT v)
  | _, _ => false
def locB (sc : Scope) (x : Str) : Bool := match sc.names.lookup x with
  | some .local => true
  | _ => false
def parB (sc : Scope) (x y : Str) (px py : Pos) (a b : Expr) : Bool :=
  bkF sc && notStar a && notStar b && locB sc x && locB sc y && (py.line == px.line) && !(x == y) && !([a, b].all (foldedForSure 8)) && !([a, b].all (constantsAlone 8))
def parB3 (sc : Scope) (x y z : Str) (px py pz : Pos) (a b c : Expr) : Bool :=
  bkF sc && notStar a && notStar b && notStar c && locB sc x && locB sc y && locB sc z && (py.line == px.line) && (pz.line == px.line) && decide (([x, y, z] : List Str).eraseDups.length = 3) && !([a, b, c].all (foldedForSure 8)) && !([a, b, c].all (constantsAlone 8))
mutual
def chkS (K : Ck) (N : List Str) : Sm → Scope → Stmt → Bool
  | .set t e, sc, z0 => match z0 with
    | .Assign [tg] v _ => chkT N sc.names t tg && asgB sc tg v && chk K N e sc true v
    | _ => false
  | .par i j a b, sc, z0 => match z0 with
    | .Assign [.Tuple [.Name x px, .Name y py] _ _] (.Tuple [a', b'] _ _) _ => decide (N[i]? = some x) && decide (N[j]? = some y) && decide (i ≠ j) && parB sc x y px py a' b' && chk K N a sc true a' && chk K N b sc true b'
    | _ => false
  | .par3 i j l a b c, sc, z0 => match z0 with
    | .Assign [.Tuple [.Name x px, .Name y py, .Name z pz] _ _] (.Tuple [a', b', c'] _ _) _ => decide (N[i]? = some x) && decide (N[j]? = some y) && decide (N[l]? = some z) && decide (i ≠ j) && decide (i ≠ l) && decide (j ≠ l) && parB3 sc x y z px py pz a' b' c' && chk K N a sc true a' && chk K N b sc true b' && chk K N c sc true c'
    | _ => false
  | .seti o i e, sc, z0 => match z0 with
    | .Assign [.Subscript o' i' _] v _ => notSlice i' && notComp v && notTup v && chk K N o sc true o' && chk K N i sc true i' && chk K N e sc true v
    | _ => false
  | .aug i o e, sc, z0 => match z0 with
    | .AugAssign (.Name x p) op v _ => opIs o op && tgN N sc.names i (.Name x p) && chk K N e sc true v
    | _ => false
  | .ex e, sc, z0 => match z0 with
    | .Expr v _ => notComp v && chk K N e sc true v
    | _ => false
  | .ret e, sc, z0 => match z0 with
    | .Return (some v) _ => chk K N e sc true v
    | _ => false
  | .retn, _, z0 => match z0 with
    | .Return none _ => true
    | _ => false
  | .ite c a b, sc, z0 => match z0 with
    | .If c' a' b' _ => tstE c && chk K N c sc true c' && chkSs K N a sc a' && chkSs K N b sc b'
    | _ => false
  | .fr t src body, sc, z0 => match z0 with
    | .For tg it body' [] _ => notSet it && chkT N sc.names t tg && chk K N src sc true it && chkSs K N body sc body'
    | _ => false
  | .fre t a body, sc, z0 => match z0 with
    | .For (.Tuple tes tk tp) (.Call (.Name x _) [e] [] _) body' [] _ => chkT N sc.names t (.Tuple tes tk tp) && bName K sc x "enumerate" && notStar e && chk K N a sc true e && chkSs K N body sc body'
    | _ => false
  | .frr t xs body, sc, z0 => match z0 with
    | .For tg it body' [] _ => chkT N sc.names t tg && chkR K sc it && chks K N xs sc true (rArgs it) && chkSs K N body sc body'
    | _ => false
  | .wh c body, sc, z0 => match z0 with
    | .While c' body' [] _ => tstE c && chk K N c sc true c' && chkSs K N body sc body'
    | _ => false
  | .rse c e, sc, z0 => match z0 with
    | .Raise (some (.Call (.Name x _) [v] [] _)) none _ => K.exs.contains c && decide (K.cls[c]? = some x) && glB sc x && okName x && notStar v && chk K N e sc true v
    | _ => false
  | .tr body hs, sc, z0 => match z0 with
    | .Try body' (h0 :: hds) [] [] _ => chkSs K N body sc body' && chkH K N hs sc (h0 :: hds)
    | _ => false
  | .pass, _, z0 => match z0 with
    | .Pass _ => true
    | _ => false
  | .brk, _, z0 => match z0 with
    | .Break _ => true
    | _ => false
  | .cnt, _, z0 => match z0 with
    | .Continue _ => true
    | _ => false
  | .setf o f e, sc, z0 => match z0 with
    | .Assign [.Attribute o' f' _] v _ => notComp v && notTup v && notStar v && decide (f' = K.at_ f) && K.fds.contains f && chk K N o sc true o' && chk K N e sc true v
    | _ => false
termination_by structural x => x
def chkSs (K : Ck) (N : List Str) : List Sm → Scope → List Stmt → Bool
  | [], _, z0 => match z0 with
    | [] => true
    | _ => false
  | a :: r, sc, z0 => match z0 with
    | s :: t => chkS K N a sc s && chkSs K N r sc t
    | _ => false
termination_by structural x => x
def chkH (K : Ck) (N : List Str) : List Hd → Scope → List ExceptHandler → Bool
  | [], _, z0 => match z0 with
    | [] => true
    | _ => false
  | ⟨c, i, e⟩ :: r, sc, z0 => match z0 with
    | .ExceptHandler (some (.Name x _)) (some n) [.Return (some v) _] _ :: t => decide (K.cls[c]? = some x) && glB sc x && okName x && decide (N[i]? = some n) && locB sc n && chk K N e sc false v && chkH K N r sc t
    | _ => false
termination_by structural x => x
end
structure Cs (G : Wd) (C : Cb) (K : Ck) (N : List Str) (X : Cx) (W : WX) (sc : Scope) : Prop where
  cn : Cn G C K N X W none sc true
  stk : X.stack = X.env :: X.outer
  frm : X.env.frame = some X.env.locals
  pas : PassesOwn (model X.prog X.w) X.A X.env X.xe
  fnt : ∀ x, X.fn x = true
  mg : ∀ (c : Nat) x, K.cls[c]? = some x → X.mg x = some (.ref (G.ca c))
  sub : ∀ c c' b, C.sub c c' = some b → PySem.W.exmOne X.K (.ref (G.ca c)) (.ref (G.ca c')) = some b ∧ XfC X.K (G.ca c) ∧ PySem.W.findIn X.K (.ref (G.ca c)) (G.fa (G.xf c)) = some none
  xcl : ∀ c, K.exs.contains c = true → Xcl X (G.ca c) (G.fa (G.xf c))
section
variable {G : Wd} {C : Cb} {K : Ck} {N : List Str} {sc : Scope} {X : Cx} {W : WX} {k : Nat} {a b c : Expr} {es : List Expr} {pos : Pos}
theorem rse_in {Ca : Addr} {f : Str} {H1 : Hp} {Q : XK} {v : V} (hd : ∀ d, H1 d = none → Q (.ref Ca) (some d) (upd H1 d (.xd [(f, v)]))) : [v].length ≤ 1000 ∧ ∀ a, H1 a = none → spX Ca f (.ref a :: ([v] ++ [])) (upd H1 a (exo a Ca none))
  (fun v H2 => v = .non ∧ ∃ (d : Addr) (fs : List (Str × V)), H2 a = some (exo a Ca (some d)) ∧ H2 d = some (exd d fs) ∧ H1 d = none ∧ Q (.ref Ca) (some d) (upd (del H2 a) d (.xd fs))) (fun _ _ _ => False) := by
  refine ⟨by simp, fun a0 h0 => ⟨a0, v, rfl, upd_same, fun dx hdx ne => ⟨rfl, dx, [(f, v)], upd_same, ?_, ?_, ?_⟩⟩⟩
  · rw [upd_ne ne, upd_same]
  · rw [upd_ne ne] at hdx; exact hdx
  · rw [upd_ne ne] at hdx
    have e : upd (del (upd (upd (upd H1 a0 (exo a0 Ca none)) dx (exd dx [(f, v)])) a0 (exo a0 Ca (some dx))) a0) dx (.xd [(f, v)]) = upd H1 dx (.xd [(f, v)]) := by
      funext b
      by_cases hb : b = dx
      · rw [hb, upd_same, upd_same]
      · rw [upd_ne hb, upd_ne hb]
        by_cases hb2 : b = a0
        · rw [hb2, del_same, h0]
        · rw [del_ne hb2, upd_ne hb2, upd_ne hb, upd_ne hb2]
    rw [e]
    exact hd dx hdx
theorem pmk_rse {Ca : Addr} {x f : Str} {p1 p2 : Pos} {ta : TA} (xc : Xcl X Ca f) (hg : Gl X x) (ho : okName x = true) (hm : X.mg x = some (.ref Ca)) (hs : notStar a = true) (ha : PA X [a] ta) : PMk X (.Call (.Name x p1) [a] [] p2) (tMkO Ca (spX Ca f) [] ta) := by
  obtain ⟨j, fI, fd, ps, h1, h2, h3, h4, F⟩ := xc.ini
  have hx : Passes (L2.CX X.prog X.w) X (fun _ _ _ => False) := fun pins σ H s e s' I c => by
    obtain ⟨_, _, _, _, _, _, _, _, _, _, _, _, z⟩ := c
    exact z.elim
  exact pmk_oex (x := x) (p := p1) (pos := p2) xc.T h1 h2 F h3 h4 (ds := []) (dvs := []) .nil hx hg hm ha (okName_dbg ho) (star_cons hs [] X.env)
theorem rse_conv {c : Nat} {e : E} : ∀ D σ H, tS G k W (fun en S => (ev C e en S).thn en fun d S1 => match d with
    | .p x => .exc c x en S1
    | _ => .stuck) D σ H → tMkO (G.ca c) (spX (G.ca c) (G.fa (G.xf c))) [] (tA G k W none (evs C [e])) σ H fun cls d H' => W cls d σ H' := fun D σ H ⟨m, en, S, re, rs, p⟩ => by
  have e1 : (evs C [e] en S) = (ev C e en S).bind fun x S1 => .ok [x] S1 := rfl
  have p' : PostS G k W D m H ((evs C [e] en S).thn en fun l S3 => match l with
    | [.p x] => .exc c x en S3
    | _ => .stuck) := by
    rw [e1, Out.thn_bind]
    cases q : ev C e en S with
    | ok d S1 =>
      dsimp only at p
      rw [q] at p
      cases d <;> exact p
    | exc c' z S1 =>
      dsimp only at p
      rw [q] at p
      exact p
    | stuck =>
      dsimp only at p
      rw [q] at p
      exact p
  refine ⟨m, en, S, re, rs, thnP re rs p' fun l S1 m1 H1 vs _ x re1 rs1 r p1 => ?_⟩
  split at p1
  · rename_i y
    obtain ⟨v, rfl, r0⟩ := F2.inv1 r
    refine rse_in (Q := fun cls d H' => W cls d σ H') fun d hd => ?_
    have sm := same_new (o := .xd [(G.fa (G.xf c), v)]) hd
    have y2 : Ext k m1 H1 m1 (upd H1 d (.xd [(G.fa (G.xf c), v)])) := .same rs1.le sm
    exact p1 m1 _ σ d v y2 (re1.mono y2 rs1.nt) (rs1.same sm) upd_same (RDD.mono y2 rs1.nt r0)
  · exact p1.elim
end
end Tw

set_option linter.all false
set_option Elab.async false
set_option maxRecDepth 100000
set_option maxHeartbeats 2000000
/-! TwD3: all statements at once. -/
namespace Tw
open PySem PySem.Spec PyProof.Rows L2
section
variable {G : Wd} {C : Cb} {K : Ck} {N : List Str} {sc : Scope} {X : Cx} {W : WX} {k : Nat} {a b c : Expr} {es : List Expr} {pos : Pos} {m : List Addr} {H : Hp} {en : En} {S : Store} {σ : Sl}
theorem sw_no {v : Expr} {tg : Option Expr} {l : Nat} {env : Env} (h : notComp v = true) : swapsWith v tg l env = pure false := by cases v <;> first | rfl | cases h
theorem sw_sub {v o i : Expr} {p : Pos} {l : Nat} {env : Env} (h : notComp v = true) : swapsWith v (some (.Subscript o i p)) l env = pure false := sw_no h
theorem sw_sole {v tg : Expr} {l : Nat} {env : Env} (h : notComp v = true) : swapsWithSole [tg] v l env = pure false := sw_no h
theorem ss_name {v : Expr} {x : Str} {p : Pos} {env : Env} : swappedStores [.Name x p] v env = pure none := by cases v <;> rfl
theorem ss_sub {v o i : Expr} {p : Pos} {env : Env} : swappedStores [.Subscript o i p] v env = pure none := by cases v <;> rfl
theorem ss_tup {v : Expr} {es : List Expr} {j : Nat} {p : Pos} {env : Env} (h : notTup v = true) : swappedStores [.Tuple es j p] v env = pure none := by cases v <;> first | rfl | cases h
/-- a tuple of nothing but written constants -/
theorem ss_fold {v : Expr} {es : List Expr} {j : Nat} {p : Pos} {env : Env} (h : foldT v = true) : swappedStores [.Tuple es j p] v env = pure none := by
  cases v with
  | Tuple vs i q =>
    have h' : vs.all (foldedForSure 8) = true := h
    unfold swappedStores
    dsimp only
    rw [h']
    split
    · rfl
    · split
      · rfl
      · split
        · rfl
        · rfl
  | _ => cases h
theorem filt_short {α : Type} {f : Expr → Option α} (hf : ∀ e, isTupT e = true → f e = none) : ∀ {es : List Expr}, es.any isTupT = true → (es.filterMap f).length < es.length
  | e :: es, h => by
    rw [List.any_cons, Bool.or_eq_true] at h
    rw [List.filterMap_cons]
    rcases h with h | h
    · rw [hf e h]
      have := List.length_filterMap_le f es
      simp only [List.length_cons]
      omega
    · have := filt_short hf h
      cases f e with
      | none => simp only [List.length_cons]; omega
      | some a => simp only [List.length_cons]; omega
theorem ss_nt {v : Expr} {es : List Expr} {j : Nat} {p : Pos} {env : Env} (h : es.any isTupT = true) : swappedStores [.Tuple es j p] v env = pure none := by
  cases v with
  | Tuple vs i q =>
    unfold swappedStores
    dsimp only
    split
    · rfl
    · split
      · rfl
      · split
        · rfl
        · rename_i hn
          exfalso
          refine hn ?_
          rw [Bool.or_eq_true]
          left
          rw [bne_iff_ne]
          exact Nat.ne_of_lt (filt_short (fun e he => by cases e <;> first | rfl | cases he) h)
  | _ => rfl
theorem sw_yes {x : Str} {px p : Pos} {e : Expr} {gs : List Comprehension} {s : Scope} {l : Nat} {env : Env} (h : swB env.scope x px (.ListComp e gs s p) = true) : swapsWith (.ListComp e gs s p) (some (.Name x px)) l env = pure true := by
  have e1 : swapsWith (.ListComp e gs s p) (some (.Name x px)) l env = pure (env.blockKind == .function && env.kindOf x == some .local && px.line == p.line && !(s.names.any fun (n, k) => n == x && (k == .local || k == .cell))) := rfl
  rw [e1]
  have e2 : (env.blockKind == .function && env.kindOf x == some .local && px.line == p.line && !(s.names.any fun (n, k) => n == x && (k == .local || k == .cell))) = swB env.scope x px (.ListComp e gs s p) := rfl
  rw [e2, h]
theorem locB_ok {x : Str} (h : locB sc x = true) : sc.names.lookup x = some .local := by
  unfold locB at h
  split at h
  · assumption
  · cases h
theorem swB_loc {x : Str} {px : Pos} {v : Expr} (h : swB sc x px v = true) : sc.names.lookup x = some .local := by
  cases v with
  | ListComp e gs s p =>
    unfold swB at h
    simp only [Bool.and_eq_true, beq_iff_eq] at h
    exact h.1.1.2
  | _ => cases h
theorem ss_par3 {x y z : Str} {px py pz pt pt2 : Pos} {kt k2 : Nat} {a b c : Expr} {env : Env} (h : parB3 env.scope x y z px py pz a b c = true) : swappedStores [.Tuple [.Name x px, .Name y py, .Name z pz] kt pt] (.Tuple [a, b, c] k2 pt2) env = pure (some [x, y, z]) := by
  unfold parB3 at h
  simp only [Bool.and_eq_true, Bool.not_eq_true', decide_eq_true_eq] at h
  obtain ⟨⟨⟨⟨⟨⟨⟨⟨⟨⟨⟨h1, h2⟩, h3⟩, h3c⟩, h4⟩, h5⟩, h5c⟩, h6⟩, h6c⟩, h7⟩, h8⟩, h9⟩ := h
  have l1 : env.kindOf x = some .local := locB_ok h4
  have l2 : env.kindOf y = some .local := locB_ok h5
  have l3 : env.kindOf z = some .local := locB_ok h5c
  have bk : env.blockKind = .function := by
    have e : bkF env.scope = (env.blockKind == .function) := rfl
    rw [e] at h1
    exact eq_of_beq h1
  have q6 := eq_of_beq h6
  have q7 := eq_of_beq h6c
  unfold swappedStores
  simp only [List.length_cons, List.length_nil, bk, List.any_cons, List.any_nil, List.head?_cons, Option.map_some, Option.getD_some, List.filterMap_cons, List.filterMap_nil, l1, l2, l3]
  have ep : (Expr.Name x px).pos.line = px.line := rfl
  rw [ep, q6, q7]
  simp only [beq_self_eq_true, Bool.and_self, if_true]
  simp [h8, h9, h7]
  rintro (w | w | w)
  · exfalso
    cases a <;> first | (cases w; done) | cases h2
  · exfalso
    cases b <;> first | (cases w; done) | cases h3
  · exfalso
    cases c <;> first | (cases w; done) | cases h3c
theorem ss_par {x y : Str} {px py pt pt2 : Pos} {kt k2 : Nat} {a b : Expr} {env : Env} (h : parB env.scope x y px py a b = true) : swappedStores [.Tuple [.Name x px, .Name y py] kt pt] (.Tuple [a, b] k2 pt2) env = pure (some [x, y]) := by
  unfold parB at h
  simp only [Bool.and_eq_true, Bool.not_eq_true', beq_eq_false_iff_ne] at h
  obtain ⟨⟨⟨⟨⟨⟨⟨⟨h1, h2⟩, h3⟩, h4⟩, h5⟩, h6⟩, h7⟩, h8⟩, h9⟩ := h
  have l1 : env.kindOf x = some .local := locB_ok h4
  have l2 : env.kindOf y = some .local := locB_ok h5
  have bk : env.blockKind = .function := by
    have e : bkF env.scope = (env.blockKind == .function) := rfl
    rw [e] at h1
    exact eq_of_beq h1
  have q6 := eq_of_beq h6
  unfold swappedStores
  simp only [List.length_cons, List.length_nil, bk, List.any_cons, List.any_nil, List.head?_cons, Option.map_some, Option.getD_some, List.filterMap_cons, List.filterMap_nil, l1, l2]
  have ep : (Expr.Name x px).pos.line = px.line := rfl
  rw [ep, q6]
  have dd : ([x, y] : List Str).eraseDups.length = 2 := by
    have : (y == x) = false := by
      rw [beq_eq_false_iff_ne]
      exact fun z => h7 z.symm
    simp [List.eraseDups_cons, this]
  simp only [beq_self_eq_true, Bool.and_self, if_true]
  simp [h8, h9, dd]
  rintro (z | z)
  · exfalso
    cases a <;> first | (cases z; done) | cases h2
  · exfalso
    cases b <;> first | (cases z; done) | cases h3
theorem RE.up {xa : Option (Addr × Nat × Addr)} (r : RE G k none m H en σ) : RE G k xa m H en σ := ⟨r.len, fun i d e => by
  obtain ⟨v, h1, h2⟩ := r.at_ i d e
  refine ⟨v, h1, ?_⟩
  cases d with
  | e c x => obtain ⟨_, _, _, z, _⟩ := h2; cases z
  | p x => exact h2
  | r n => exact h2⟩
theorem Cs.tr (cs : Cs G C K N X W sc) {W' : WX} {pn : List (Addr × Obj)} {xe : Value → Shared → Prop} (tk : Takes (X.tr pn xe) W') (pas : PassesOwn (model X.prog X.w) X.A X.env xe) : Cs G C K N (X.tr pn xe) W' sc where
  cn := ⟨cs.cn.hN, cs.cn.nd, cs.cn.sce, cs.cn.cm, cs.cn.un, cs.cn.hK, cs.cn.xf, cs.cn.fa, cs.cn.con, cs.cn.fre, cs.cn.fns, tk, fun _ _ _ => ⟨fun pins s σ H Q I h => by obtain ⟨r, c, d, v, z, _⟩ := h; cases z⟩, cs.cn.str, cs.cn.rec_, cs.cn.inj, cs.cn.fds, cs.cn.mts, cs.cn.ins, cs.cn.iso, cs.cn.ecs, cs.cn.sec, cs.cn.erx, cs.cn.kit, cs.cn.cls, fun z c x h1 h2 => ⟨(cs.cn.mkx z c x h1 h2).T, (cs.cn.mkx z c x h1 h2).no, (cs.cn.mkx z c x h1 h2).ini⟩, fun _ _ _ _ _ _ _ => ⟨fun pins s σ H Q I h => by obtain ⟨r, c, d, f, v, b, z, _⟩ := h; cases z⟩, cs.cn.eqs⟩
  stk := cs.stk
  frm := cs.frm
  pas := pas
  fnt := cs.fnt
  mg := cs.mg
  sub := cs.sub
  xcl := fun c h => ⟨(cs.xcl c h).T, (cs.xcl c h).no, (cs.xcl c h).ini⟩
/-- in an except suite -/
theorem Cs.suite (cs : Cs G C K N X W sc) {a : Addr} {oe : Obj} {c : Nat} {d : Addr} {pn : List (Addr × Obj)} (hz : Zc (.ref (G.ca c)) (some d) oe) (hd : ∃ vs, oe.data = .fields vs) (T : XfC X.K (G.ca c)) (hno : PySem.W.findIn X.K (.ref (G.ca c)) (G.fa (G.xf c)) = some none) :
    Cn G C K N (X.suite a ((a, oe) :: pn)) W0 (some (a, c, d)) sc false where
  hN := cs.cn.hN
  nd := cs.cn.nd
  sce := cs.cn.sce
  cm := fun z => by cases z
  un := cs.cn.un
  hK := cs.cn.hK
  xf := cs.cn.xf
  fa := cs.cn.fa
  con := cs.cn.con
  fre := cs.cn.fre
  fns := fun z => by cases z
  mts := fun z => by cases z
  ins := fun z => by cases z
  iso := cs.cn.iso
  ecs := cs.cn.ecs
  sec := cs.cn.sec
  erx := cs.cn.erx
  kit := cs.cn.kit
  cls := cs.cn.cls
  mkx := fun z => by cases z
  exi := fun {i c' x y n p1 p2 p3 pos} hi hv ho hb hg ho2 hc => by
    unfold okName at ho
    rw [Bool.and_eq_true, Bool.not_eq_true', Bool.not_eq_true'] at ho
    rw [← cs.cn.sce] at hb hg
    obtain ⟨rfl, hg0, hm0⟩ := bName_ok hb cs.cn.fre
    have he : PE (X.suite a ((a, oe) :: pn)) (.Name x p2) (tVar i) := pe_var (by show X.N[i]? = _; rw [cs.cn.hN]; exact hi) (by show Vis X.env.scope x; rw [cs.cn.sce]; exact hv) ho.1 ho.2
    have hte : PE (X.suite a ((a, oe) :: pn)) (.Name y p3) (tC (.ref (G.ca c'))) := pe_glob (X := X.suite a ((a, oe) :: pn)) (glB_ok hg) (cs.cn.cls c' y hc) rfl (okName_dbg ho2)
    refine (pe_callB (X := X.suite a ((a, oe) :: pn)) (call_isD hz hd) hg0 hm0 (by decide +kernel) (pa_cons he (pa_cons hte pa_nil rfl) rfl) (he := rfl) (hpl := rfl)).of fun σ H Q h => ?_
    obtain ⟨r, c1, d1, f, v, b, e1, e2, e3, e4, e5, e6⟩ := h
    cases e1
    exact ⟨.ref a, e2, _, d, [(f, v)], .ref (G.ca c'), .ref (G.ca c'), b, rfl, (cs.cn.erx c e4).2.1, rfl, e3, rfl, fun u z => z, cs.cn.kit c c' b y e4 e5 hc, e6⟩
  eqs := fun z => by cases z
  tk := takes0
  exv := fun {i x f p q} hi hv ho => by
    by_cases hf : C.xf c = f
    · unfold okName at ho
      rw [Bool.and_eq_true, Bool.not_eq_true', Bool.not_eq_true'] at ho
      have hn2 : PySem.W.findIn X.K (.ref (G.ca c)) (K.at_ f) = some none := by rw [← cs.cn.fa, ← hf, cs.cn.xf]; exact hno
      have he : PE (X.suite a ((a, oe) :: pn)) (.Name x p) (tVar i) := pe_var (by show X.N[i]? = _; rw [cs.cn.hN]; exact hi) (by show Vis X.env.scope x; rw [cs.cn.sce]; exact hv) ho.1 ho.2
      refine (pe_xf (pos := q) T hn2 hz hd he).of fun σ H Q h => ?_
      obtain ⟨r, c', d', v, e1, _, e2, e3, e4⟩ := h
      cases e1
      exact ⟨.ref a, e2, rfl, rfl, d, [(K.at_ f, v)], v, rfl, e3, by simp, e4⟩
    · exact ⟨fun pins s σ H Q I h => by
        obtain ⟨r, c', d', v, e1, e2, _⟩ := h
        cases e1
        exact absurd e2 hf⟩
  str := cs.cn.str
  rec_ := cs.cn.rec_
  inj := cs.cn.inj
  fds := cs.cn.fds
def clOf (G : Wd) (C : Cb) (k : Nat) (h : Hd) : Cl := ⟨h.i, .ref (G.ca h.c), fun a cls d σ H Q => ∃ c dd b, cls = .ref (G.ca c) ∧ d = some dd ∧ C.sub c h.c = some b ∧ tE G k W0 (some (a, c, dd)) (ev C h.e) σ H Q⟩
theorem hd_all (cs : Cs G C K N X W sc) : ∀ (hs : List Hd) (hds : List ExceptHandler), chkH K N hs sc hds = true → HdN X hds (hs.map (clOf G C k))
  | [], hds, h => by
    unfold chkH at h
    split at h <;> first | (cases h; done) | exact .nil
  | ⟨c, i, e⟩ :: r, hds, h => by
    unfold chkH at h
    split at h <;> first | (cases h; done) | skip
    simp only [Bool.and_eq_true, decide_eq_true_eq] at h
    obtain ⟨⟨⟨⟨⟨⟨h1, h2⟩, h3⟩, h4⟩, h5⟩, h6⟩, h7⟩ := h
    rw [← cs.cn.sce] at h2 h5
    refine HdN.cons (q := clOf G C k ⟨c, i, e⟩) ⟨glB_ok h2, okName_dbg h3, .inl (cs.mg c _ h1)⟩ (by rw [cs.cn.hN]; exact h4) (locB_ok h5) (fun a oe cls d pn hz hf => ?_) (hd_all cs r _ h7)
    refine ⟨fun pins s σ H Q I hw => ?_⟩
    obtain ⟨c1, dd, b, rfl, rfl, hb, hw⟩ := hw
    obtain ⟨_, T, hno⟩ := cs.sub c1 c b hb
    exact (pe_main e (cs.suite hz hf T hno) h6).1.run pins s σ H Q I hw
theorem catch_wN (cs : Cs G C K N X W sc) {D : Ends} {c : Nat} {x : P} {d : Addr} {v : V} : ∀ (hs : List Hd) {m : List Addr} {H : Hp} {en : En} {σ : Sl} {S : Store}, PostS G k W D m H (catchH C c x en S hs) → RE G k none m H en σ → RS G k m H S → H d = some (.xd [(G.fa (G.xf c), v)]) → RD G m H x v →
    wN X.K W D.rt (hs.map (clOf G C k)) (.ref (G.ca c)) (some d) σ H
  | [], m, H, en, σ, S, p, re, rs, hd, r => p m H σ d v (.refl rs.le) re rs hd r
  | h :: hs, m, H, en, σ, S, p, re, rs, hd, r => by
    unfold catchH at p
    cases e : C.sub c h.c with
    | none => rw [e] at p; exact p.elim
    | some b =>
      rw [e] at p
      obtain ⟨e1, _, _⟩ := cs.sub c h.c b e
      refine ⟨b, e1, fun hb a ha => ?_, fun hb => ?_⟩
      · subst hb
        refine ⟨c, d, true, rfl, rfl, e, m, en.set h.i (some (.e c x)), S, re.up.set (d := .e c x) (v := .ref a) ⟨a, d, v, rfl, rfl, hd, r⟩ h.i, rs, ?_⟩
        dsimp only at p
        cases q : ev C h.e (en.set h.i (some (.e c x))) S with
        | ok d1 S1 => rw [q] at p; exact fun m1 H1 w x1 rs1 r1 => p m1 H1 w x1 rs1 r1
        | exc c' z S1 => rw [q] at p; exact p.elim
        | stuck => rw [q] at p; exact p.elim
      · subst hb
        exact catch_wN cs hs p re rs hd r
theorem tr_conv (cs : Cs G C K N X W sc) {body : En → Store → OS} {hs : List Hd} : ∀ D σ H, tS G k W (fun en S => match body en S with
    | .exc c x en' S' => catchH C c x en' S' hs
    | o => o) D σ H → tS G k (wN X.K W D.rt (hs.map (clOf G C k))) body D σ H := fun D σ H ⟨m, en, S, re, rs, p⟩ => by
  refine ⟨m, en, S, re, rs, ?_⟩
  dsimp only at p
  cases q : body en S with
  | exc c x en1 S1 =>
    rw [q] at p
    exact fun m1 H1 σ1 d v y re1 rs1 hd r => catch_wN cs hs (PostS.ext (o := catchH C c x en1 S1 hs) p y) re1 rs1 hd r
  | nx en1 S1 => rw [q] at p; exact p
  | bk en1 S1 => rw [q] at p; exact p
  | ct en1 S1 => rw [q] at p; exact p
  | rt d S1 => rw [q] at p; exact p
  | stuck => rw [q] at p; exact p
/-- a comprehension that its name takes -/
theorem lca_go {i : Nat} {y : Str} {py spos p : Pos} {own : List Nat} {t : Tg} {ifs : List E} {elt : E} {scope : Scope} {tg it e : Expr} {ies : List Expr} (cs : Cs G C K N X W sc) (hi : N[i]? = some y) (hb : swB sc y py (.ListComp e [⟨tg, it, ies, 0⟩] scope p) = true)
    (h2 : blkC N sc scope (ownN N own) = true) (h4 : tgOwn own t = true) (h5 : chkT N scope.names t tg = true) (h6 : tstEs ifs = true) (h8 : chks K N ifs (relS scope sc) true ies = true) (h9 : chk K N elt (relS scope sc) true e = true) {wi : TI} {os : En → Store → Out (List D)}
    (hpi : PI X tg it wi) (hfold : ∀ x, foldedSetIterable it X.env x = pure x) (cv : ∀ σ H Q, tL G k W none os σ H Q → tLc wi (gT G.K t) (tT G (k + 1) W0 none (evIfs C ifs)) (tE G (k + 1) W0 none (ev C elt)) ((ownN N own).map (·.2)) σ H Q) :
    PS X (.Assign [.Name y py] (.ListComp e [⟨tg, it, ies, 0⟩] scope p) spos) (tAsg (tL G k W none os) (gName i)) := by
  have cn := cs.cn
  have ok := lcOk (k := k) cn h2 h4 h5 h6 (fun s H Cc cl fp => pes_main ifs (cn.blk true s H _ Cc cl fp) h8) (fun s H Cc cl fp => (pe_main elt (cn.blk true s H _ Cc cl fp) h9).1)
  have hloc := swB_loc hb
  rw [← cn.sce] at hloc hb
  exact (ps_setLc (cn.cm rfl).1 (by rw [cn.hN]; exact cn.nd) (by rw [cn.hN]; exact hi) hloc (sw_yes hb) hpi ok.blk ok.pg ok.pts ok.pe hfold).of fun D σ H h => cv σ H _ h
theorem lca_main {i : Nat} {y : Str} {py spos : Pos} (cs : Cs G C K N X W sc) (hi : N[i]? = some y) {own : List Nat} {t : Tg} {src : E} {xs ifs : List E} {elt : E} {v : Expr} (hb : swB sc y py v = true) :
    (chk K N (.lc own t src ifs elt) sc true v = true → PS X (.Assign [.Name y py] v spos) (tAsg (tL G k W none (oLc C own t (ev C src) ifs elt)) (gName i))) ∧
    (chk K N (.lcr own t xs ifs elt) sc true v = true → PS X (.Assign [.Name y py] v spos) (tAsg (tL G k W none (oLcr C own t (evs C xs) ifs elt)) (gName i))) := by
  have cn := cs.cn
  refine ⟨fun h => ?_, fun h => ?_⟩
  · unfold chk at h
    split at h <;> first | (cases h; done) | skip
    split at h <;> first | (cases h; done) | skip
    simp only [Bool.and_eq_true] at h
    obtain ⟨⟨⟨⟨⟨⟨⟨⟨⟨_, h1⟩, h2⟩, h3⟩, h4⟩, h5⟩, h6⟩, h7⟩, h8⟩, h9⟩ := h
    exact lca_go cs hi hb h2 h4 h5 h6 h8 h9 (pi_sq (pe_main src cn h7).1) (notSet_fold h1) (lc_conv cn.hK h4)
  · unfold chk at h
    split at h <;> first | (cases h; done) | skip
    split at h <;> first | (cases h; done) | skip
    simp only [Bool.and_eq_true] at h
    obtain ⟨⟨⟨⟨⟨⟨⟨⟨⟨_, h2⟩, h3⟩, h4⟩, h5⟩, h6⟩, h7⟩, h10⟩, h8⟩, h9⟩ := h
    have q := pes_main (k := k) (W := W) xs cn h10
    have hl := each_len q
    have st := each_star q
    rw [← cn.sce] at h7
    unfold chkR at h7
    split at h7
    · rename_i x p1 a p2
      simp only [rArgs, List.all_cons, Bool.and_eq_true] at st
      obtain ⟨rfl, hg, hm⟩ := bName_ok h7 cn.fre
      exact lca_go cs hi hb h2 h4 h5 h6 h8 h9 (pi_range1 hg hm (each_pa q) (star_cons st.1 [] X.env)) (fun x => rfl) (lcr_conv1 (fun en S ds S1 e => by rw [evs_len xs en S ds S1 e, ← hl]; rfl) h4)
    · rename_i x p1 a b p2
      simp only [rArgs, List.all_cons, Bool.and_eq_true] at st
      obtain ⟨rfl, hg, hm⟩ := bName_ok h7 cn.fre
      have s2 : starEach [b] X.env = (false, eval b X.env) :: starEach [] X.env := star_cons st.2.1 [] X.env
      have s1 : starEach [a, b] X.env = (false, eval a X.env) :: starEach [b] X.env := star_cons st.1 [b] X.env
      exact lca_go cs hi hb h2 h4 h5 h6 h8 h9 (pi_range2 hg hm (each_pa q) (by rw [s1, s2]; rfl) s2) (fun x => rfl) (lcr_conv2 (fun en S ds S1 e => by rw [evs_len xs en S ds S1 e, ← hl]; rfl) h4)
    · rename_i x p1 a b c p2
      simp only [rArgs, List.all_cons, Bool.and_eq_true] at st
      obtain ⟨rfl, hg, hm⟩ := bName_ok h7 cn.fre
      have s := star3 (X := X) st.1 st.2.1 st.2.2.1 p2
      exact lca_go cs hi hb h2 h4 h5 h6 h8 h9 (pi_range3 hg hm (each_pa q) s.1 s.2) (fun x => rfl) (lcr_conv3 (fun en S ds S1 e => by rw [evs_len xs en S ds S1 e, ← hl]; rfl) h4)
    · cases h7

theorem lc_only {e : E} {v : Expr} (hv : isLC v = true) (h : chk K N e sc true v = true) : (∃ own t src ifs elt, e = .lc own t src ifs elt) ∨ (∃ own t xs ifs elt, e = .lcr own t xs ifs elt) ∨ (∃ own t src ifs elt, e = .mut (.lc own t src ifs elt)) ∨ (∃ own t xs ifs elt, e = .mut (.lcr own t xs ifs elt)) := by
  cases v with
  | ListComp e1 gs s p =>
    cases e with
    | lc own t src ifs elt => exact .inl ⟨_, _, _, _, _, rfl⟩
    | lcr own t xs ifs elt => exact .inr (.inl ⟨_, _, _, _, _, rfl⟩)
    | lcz own t xs ifs elt =>
      exfalso
      unfold chk at h
      dsimp only at h
      split at h
      · rename_i tg it ies
        simp only [Bool.and_eq_true] at h
        have hz := h.1.1.1.1.2
        unfold chkZ at hz
        split at hz
        · unfold bName at hz
          rw [Bool.and_eq_true, Bool.and_eq_true] at hz
          have hv' : (!decide (_ = ("zip" : Str))) = true := hv
          rw [hz.1.1] at hv'
          cases hv'
        · cases hz
      · cases h
    | «mut» a =>
      have h' : chkL K N a sc true (.ListComp e1 gs s p) = true := h
      cases a with
      | lc own t src ifs elt => exact .inr (.inr (.inl ⟨_, _, _, _, _, rfl⟩))
      | lcr own t xs ifs elt => exact .inr (.inr (.inr ⟨_, _, _, _, _, rfl⟩))
      | _ => exact absurd h' (by unfold chkL; simp)
    | _ => exact absurd h (by unfold chk; simp)
  | _ => cases hv
theorem chkL_lc {own : List Nat} {t : Tg} {src : E} {ifs : List E} {elt : E} {v : Expr} (h : chkL K N (.lc own t src ifs elt) sc true v = true) : chk K N (.lc own t src ifs elt) sc true v = true := by
  unfold chkL at h
  unfold chk
  exact h
theorem chkL_lcr {own : List Nat} {t : Tg} {xs : List E} {ifs : List E} {elt : E} {v : Expr} (h : chkL K N (.lcr own t xs ifs elt) sc true v = true) : chk K N (.lcr own t xs ifs elt) sc true v = true := by
  unfold chkL at h
  unfold chk
  exact h
theorem set_lc {i : Nat} {y : Str} {py spos : Pos} {e : E} {v : Expr} (cs : Cs G C K N X W sc) (hi : N[i]? = some y) (hl : isLC v = true) (hb : swB sc y py v = true) (h : chk K N e sc true v = true) : PS X (.Assign [.Name y py] v spos) (tAsg (tE G k W none (ev C e)) (gName i)) := by
  rcases lc_only hl h with ⟨own, t, src, ifs, elt, rfl⟩ | ⟨own, t, xs, ifs, elt, rfl⟩ | ⟨own, t, src, ifs, elt, rfl⟩ | ⟨own, t, xs, ifs, elt, rfl⟩
  · exact ((lca_main cs hi (src := src) (xs := []) hb).1 h).of fun D σ H q => mkL_conv σ H _ q
  · exact ((lca_main cs hi (src := .no) (xs := xs) hb).2 h).of fun D σ H q => mkL_conv σ H _ q
  · exact ((lca_main cs hi (src := src) (xs := []) hb).1 (chkL_lc h)).of fun D σ H q => mut_conv σ H _ q
  · exact ((lca_main cs hi (src := .no) (xs := xs) hb).2 (chkL_lcr h)).of fun D σ H q => mut_conv σ H _ q
theorem cs_pg (cs : Cs G C K N X W sc) {t : Tg} {tg : Expr} (h : chkT N sc.names t tg = true) : PG X tg (gT G.K t) :=
  chkT_pg (X2 := X) cs.cn.hK (cs.cn.cm rfl).1 cs.cn.hN cs.cn.nd (fun x q => by rw [cs.cn.sce]; exact q) (fun x q => ⟨by rw [cs.cn.sce]; exact q, cs.fnt x⟩) h
theorem set_all {t : Tg} {e : E} {tg v : Expr} {spos : Pos} (cs : Cs G C K N X W sc) (h1 : chkT N sc.names t tg = true) (h2 : asgB sc tg v = true) (h3 : chk K N e sc true v = true) : PS X (.Assign [tg] v spos) (tAsg (tE G k W none (ev C e)) (gT G.K t)) := by
  have hpg := cs_pg cs h1
  have he := (pe_main (k := k) (W := W) e cs.cn h3).1
  cases tg with
  | Name x p =>
    cases hc : notComp v with
    | true => exact ps_asg he hpg (sw_sole hc) ss_name
    | false =>
      have h2' : (if notComp v = true then true else isLC v && swB sc x p v) = true := h2
      rw [hc] at h2'
      simp only [Bool.false_eq_true, if_false, Bool.and_eq_true] at h2'
      cases t with
      | tp is => cases h1
      | nt ks => cases h1
      | nm i =>
        have hi : N[i]? = some x := by
          unfold chkT tgN at h1
          rw [Bool.and_eq_true] at h1
          exact of_decide_eq_true h1.1
        exact set_lc cs hi h2'.1 h2'.2 h3
  | Tuple es j p =>
    have h2' : (notComp v && (notTup v || es.any isTupT || foldT v)) = true := h2
    rw [Bool.and_eq_true, Bool.or_eq_true, Bool.or_eq_true] at h2'
    rcases h2'.2 with (q | q) | q
    · exact ps_asg he hpg (sw_sole h2'.1) (ss_tup q)
    · exact ps_asg he hpg (sw_sole h2'.1) (ss_nt q)
    · exact ps_asg he hpg (sw_sole h2'.1) (ss_fold q)
  | _ => cases h2
theorem nt_of {t : TS} {st : Stmt} (h : PS X st t) {o : En → Store → OS} (c : ∀ D σ H, tS G k W o D σ H → t D σ H) : PS X st (tS G k W o) := h.of c
mutual
theorem ps_main : ∀ (s : Sm) {k : Nat} {W : WX} {X : Cx} {sc : Scope} {st : Stmt}, Cs G C K N X W sc → chkS K N s sc st = true → PS X st (tS G k W (ex C s))
  | .set t e, k, W, X, sc, st, cs, h => by
    unfold chkS at h
    split at h <;> first | (cases h; done) | skip
    simp only [Bool.and_eq_true] at h
    exact (set_all cs h.1.1 h.1.2 h.2).of set_conv
  | .par i j a b, k, W, X, sc, st, cs, h => by
    unfold chkS at h
    split at h <;> first | (cases h; done) | skip
    simp only [Bool.and_eq_true, decide_eq_true_eq] at h
    obtain ⟨⟨⟨⟨⟨h1, h2⟩, h3⟩, h4⟩, h5⟩, h6⟩ := h
    have cn := cs.cn
    have h4' := h4
    rw [← cn.sce] at h4'
    unfold parB at h4
    simp only [Bool.and_eq_true] at h4
    obtain ⟨⟨⟨⟨⟨⟨⟨⟨_, s1⟩, s2⟩, l1⟩, l2⟩, _⟩, _⟩, _⟩, _⟩ := h4
    rw [← cn.sce] at l1 l2
    have q : PA X [_, _] (tA G k W none (evs C [a, b])) := a_cons s1 (pe_main a cn h5).1 (a_cons s2 (pe_main b cn h6).1 a_nil)
    exact (ps_par (cn.cm rfl).1 (by rw [cn.hN]; exact cn.nd) (by rw [cn.hN]; exact h1) (by rw [cn.hN]; exact h2) h3 (locB_ok l1) (locB_ok l2) q (ss_par h4')).of par_conv
  | .par3 i j l a b c, k, W, X, sc, st, cs, h => by
    unfold chkS at h
    split at h <;> first | (cases h; done) | skip
    simp only [Bool.and_eq_true, decide_eq_true_eq] at h
    obtain ⟨⟨⟨⟨⟨⟨⟨⟨⟨h1, h2⟩, h2c⟩, h3⟩, h3b⟩, h3c⟩, h4⟩, h5⟩, h6⟩, h7⟩ := h
    have cn := cs.cn
    have h4' := h4
    rw [← cn.sce] at h4'
    unfold parB3 at h4
    simp only [Bool.and_eq_true] at h4
    obtain ⟨⟨⟨⟨⟨⟨⟨⟨⟨⟨⟨_, s1⟩, s2⟩, s3⟩, l1⟩, l2⟩, l3⟩, _⟩, _⟩, _⟩, _⟩, _⟩ := h4
    rw [← cn.sce] at l1 l2 l3
    have q : PA X [_, _, _] (tA G k W none (evs C [a, b, c])) := a_cons s1 (pe_main a cn h5).1 (a_cons s2 (pe_main b cn h6).1 (a_cons s3 (pe_main c cn h7).1 a_nil))
    exact (ps_par3 (cn.cm rfl).1 (by rw [cn.hN]; exact cn.nd) (by rw [cn.hN]; exact h1) (by rw [cn.hN]; exact h2) (by rw [cn.hN]; exact h2c) h3 h3b h3c (locB_ok l1) (locB_ok l2) (locB_ok l3) q (ss_par3 h4')).of par3_conv
  | .seti o i e, k, W, X, sc, st, cs, h => by
    unfold chkS at h
    split at h <;> first | (cases h; done) | skip
    simp only [Bool.and_eq_true] at h
    obtain ⟨⟨⟨⟨⟨h1, h2⟩, h3⟩, h4⟩, h5⟩, h6⟩ := h
    have cn := cs.cn
    rename_i o' i' p v pos
    have hpg : PG X (.Subscript o' i' p) (gSub (tE G k W none (ev C o)) (tE G k W none (ev C i)) rSetL) := pg_sub (pe_main o cn h4).1 (pe_main i cn h5).1 set_list (by
      intro w
      cases i' <;> first | rfl | cases h1)
    exact (ps_asg (pe_main e cn h6).1 hpg (sw_sole h2) ss_sub).of seti_conv
  | .setf o f e, k, W, X, sc, st, cs, h => by
    unfold chkS at h
    split at h <;> first | (cases h; done) | skip
    simp only [Bool.and_eq_true, decide_eq_true_eq] at h
    obtain ⟨⟨⟨⟨⟨⟨h1, h2⟩, h3⟩, h4⟩, h5⟩, h6⟩, h7⟩ := h
    have cn := cs.cn
    have hf : f ∈ G.fs := by
      rw [cn.fds] at h5
      simpa using h5
    subst h4
    have e1 : K.at_ f = G.fa f := by rw [cn.fa]
    rw [e1]
    exact (ps_fld (pe_main o cn h6).1 (pe_main e cn h7).1 (sw_no h1)).of fun D σ H q => setf_conv cn.hK cn.rec_ cn.inj hf D σ H q
  | .aug i o e, k, W, X, sc, st, cs, h => by
    unfold chkS at h
    split at h <;> first | (cases h; done) | skip
    simp only [Bool.and_eq_true] at h
    obtain ⟨⟨h1, h2⟩, h3⟩ := h
    have cn := cs.cn
    unfold tgN at h2
    rw [Bool.and_eq_true] at h2
    obtain ⟨h4, h5⟩ := h2
    refine (ps_aug (by rw [cn.hN]; exact cn.nd) (by rw [cn.hN]; exact of_decide_eq_true h4) ?_ (pe_main e cn h3).1 (ip_aug h1) (.inl (cs.fnt _))).of aug_conv
    rw [cn.sce]
    split at h5
    · exact .inl (by assumption)
    · exact .inr (by assumption)
    · cases h5
  | .ex e, k, W, X, sc, st, cs, h => by
    unfold chkS at h
    split at h <;> first | (cases h; done) | skip
    simp only [Bool.and_eq_true] at h
    exact (ps_expr (pe_main e cs.cn h.2).1 (sw_no h.1)).of drop_conv
  | .ret e, k, W, X, sc, st, cs, h => by
    unfold chkS at h
    split at h <;> first | (cases h; done) | skip
    exact (ps_ret (pe_main e cs.cn h).1).of ret_conv
  | .retn, k, W, X, sc, st, cs, h => by
    unfold chkS at h
    split at h <;> first | (cases h; done) | skip
    exact ps_retN.of fun D σ H ⟨m, en, S, re, rs, p⟩ => p m H .non (.refl rs.le) rs (by show RD G m H _ _; simp only [RD])
  | .ite c a b, k, W, X, sc, st, cs, h => by
    unfold chkS at h
    split at h <;> first | (cases h; done) | skip
    simp only [Bool.and_eq_true] at h
    exact (ps_if ((pe_main c cs.cn h.1.1.2).2 h.1.1.1) (pss_main a cs h.1.2) (pss_main b cs h.2)).of if_conv
  | .fr t src body, k, W, X, sc, st, cs, h => by
    unfold chkS at h
    split at h <;> first | (cases h; done) | skip
    simp only [Bool.and_eq_true] at h
    exact (ps_for cs.pas (cs.cn.cm rfl).1 (pi_sq (pe_main src cs.cn h.1.2).1) (cs_pg cs h.1.1.2) (pss_main body cs h.2) (notSet_fold h.1.1.1)).of (fr_conv cs.cn.hK)
  | .fre t a body, k, W, X, sc, st, cs, h => by
    unfold chkS at h
    split at h <;> first | (cases h; done) | skip
    simp only [Bool.and_eq_true] at h
    obtain ⟨⟨⟨⟨h1, h2⟩, h3⟩, h4⟩, h5⟩ := h
    have cn := cs.cn
    rw [← cn.sce] at h2
    obtain ⟨rfl, hg, hm⟩ := bName_ok h2 cn.fre
    have q := a_cons h3 (pe_main (k := k) (W := W) a cn h4).1 a_nil
    exact (ps_for cs.pas (cn.cm rfl).1 (pi_enumT hg hm q (star_cons h3 [] X.env)) (cs_pg cs h1) (pss_main body cs h5) (fun x => rfl)).of (fre_conv cn.hK)
  | .frr t xs body, k, W, X, sc, st, cs, h => by
    unfold chkS at h
    split at h <;> first | (cases h; done) | skip
    simp only [Bool.and_eq_true] at h
    obtain ⟨⟨⟨h1, h2⟩, h3⟩, h4⟩ := h
    have cn := cs.cn
    have q := pes_main (k := k) (W := W) xs cn h3
    have hl := each_len q
    have st := each_star q
    have hb := pss_main (k := k) (W := W) body cs h4
    rw [← cn.sce] at h2
    unfold chkR at h2
    split at h2
    · simp only [rArgs, List.all_cons, Bool.and_eq_true] at st
      obtain ⟨rfl, hg, hm⟩ := bName_ok h2 cn.fre
      match xs, q, hl with
      | [a1], q, _ => exact (ps_for cs.pas (cn.cm rfl).1 (pi_range1 hg hm (each_pa q) (star_cons st.1 [] X.env)) (cs_pg cs h1) hb (fun x => rfl)).of frr_conv1
      | [], q, hl => cases hl
      | _ :: _ :: _, q, hl => simp [rArgs] at hl
    · rename_i b p2
      simp only [rArgs, List.all_cons, Bool.and_eq_true] at st
      obtain ⟨rfl, hg, hm⟩ := bName_ok h2 cn.fre
      have s2 := star_cons st.2.1 [] X.env
      have s1 := star_cons st.1 [b] X.env
      match xs, q, hl with
      | [a1, a2], q, _ => exact (ps_for cs.pas (cn.cm rfl).1 (pi_range2 hg hm (each_pa q) (by rw [s1, s2]; rfl) s2) (cs_pg cs h1) hb (fun x => rfl)).of frr_conv2
      | [], q, hl => cases hl
      | [_], q, hl => simp [rArgs] at hl
      | _ :: _ :: _ :: _, q, hl => simp [rArgs] at hl
    · rename_i b c p2
      simp only [rArgs, List.all_cons, Bool.and_eq_true] at st
      obtain ⟨rfl, hg, hm⟩ := bName_ok h2 cn.fre
      have s := star3 (X := X) st.1 st.2.1 st.2.2.1 p2
      match xs, q, hl with
      | [a1, a2, a3], q, _ => exact (ps_for cs.pas (cn.cm rfl).1 (pi_range3 hg hm (each_pa q) s.1 s.2) (cs_pg cs h1) hb (fun x => rfl)).of frr_conv3
      | [], q, hl => cases hl
      | [_], q, hl => simp [rArgs] at hl
      | [_, _], q, hl => simp [rArgs] at hl
      | _ :: _ :: _ :: _ :: _, q, hl => simp [rArgs] at hl
    · cases h2
  | .wh c body, k, W, X, sc, st, cs, h => by
    unfold chkS at h
    split at h <;> first | (cases h; done) | skip
    simp only [Bool.and_eq_true] at h
    exact (ps_while cs.pas ((pe_main c cs.cn h.1.2).2 h.1.1) (pss_main body cs h.2)).of wh_conv
  | .rse c e, k, W, X, sc, st, cs, h => by
    unfold chkS at h
    split at h <;> first | (cases h; done) | skip
    simp only [Bool.and_eq_true, decide_eq_true_eq] at h
    obtain ⟨⟨⟨⟨⟨h1, h2⟩, h3⟩, h4⟩, h5⟩, h6⟩ := h
    rw [← cs.cn.sce] at h3
    have q : PA X [_] (tA G k W none (evs C [e])) := a_cons h5 (pe_main e cs.cn h6).1 a_nil
    exact (ps_raise (cs.cn.cm rfl).1 cs.cn.tk (pmk_rse (cs.xcl c h1) (glB_ok h3) h4 (cs.mg c _ h2) h5 q)).of rse_conv
  | .tr body hs, k, W, X, sc, st, cs, h => by
    unfold chkS at h
    split at h <;> first | (cases h; done) | skip
    simp only [Bool.and_eq_true] at h
    exact (ps_tryN (tb := fun W' => tS G k W' (exs C body)) cs.stk cs.frm (by rw [cs.cn.hN]; exact cs.cn.nd) cs.cn.tk (fun W' pn xe tk pas => pss_main body (cs.tr tk pas) h.1) (hd_all cs hs _ h.2)).of (tr_conv cs)
  | .pass, k, W, X, sc, st, cs, h => by
    unfold chkS at h
    split at h <;> first | (cases h; done) | skip
    exact ps_pass.of fun D σ H ⟨m, en, S, re, rs, p⟩ => p.nx_now re rs
  | .brk, k, W, X, sc, st, cs, h => by
    unfold chkS at h
    split at h <;> first | (cases h; done) | skip
    exact ps_break.of fun D σ H ⟨m, en, S, re, rs, p⟩ => p m H σ (.refl rs.le) re rs
  | .cnt, k, W, X, sc, st, cs, h => by
    unfold chkS at h
    split at h <;> first | (cases h; done) | skip
    exact ps_continue.of fun D σ H ⟨m, en, S, re, rs, p⟩ => p m H σ (.refl rs.le) re rs
termination_by structural x => x
theorem pss_main : ∀ (s : List Sm) {k : Nat} {W : WX} {X : Cx} {sc : Scope} {st : List Stmt}, Cs G C K N X W sc → chkSs K N s sc st = true → PSs X st (tS G k W (exs C s))
  | [], k, W, X, sc, st, cs, h => by
    unfold chkSs at h
    split at h <;> first | (cases h; done) | skip
    exact pss_nil.of fun D σ H ⟨m, en, S, re, rs, p⟩ => p.nx_now re rs
  | s :: r, k, W, X, sc, st, cs, h => by
    unfold chkSs at h
    split at h <;> first | (cases h; done) | skip
    simp only [Bool.and_eq_true] at h
    exact (pss_cons (ps_main s cs h.1) (pss_main r cs h.2)).of seq_conv
termination_by structural x => x
end
end
end Tw

set_option linter.all false
set_option Elab.async false
set_option maxRecDepth 100000
set_option maxHeartbeats 2000000
/-! TwD4: defs. -/
namespace Tw
open PySem PySem.Spec PyProof.Rows L2
section
variable {G : Wd} {k : Nat} {m r : List Addr} {H H' : Hp} {S : Store}
theorem low_rdd {n : Nat} {d : D} {v : V} (hn : m.length = k + n) (hl : lowD n d = true) (h : RDD G k (m ++ r) H d v) : RDD G k m H d v := by
  cases d with
  | p y => exact RD.sub (sub_left m r) _ _ (RDD_p h)
  | e c y => exact h.elim
  | r j =>
    obtain ⟨a, ha, e⟩ := h
    have hj : j < n := by simpa [lowD] using hl
    exact ⟨a, by rw [List.getElem?_append_left (by omega)] at ha; exact ha, e⟩
theorem low_f2 {n : Nat} (hn : m.length = k + n) : ∀ {ds : List D} {vs : List V}, ds.all (lowD n) = true → F2 (RDD G k (m ++ r) H) ds vs → F2 (RDD G k m H) ds vs
  | [], _, _, h => by cases h; exact .nil
  | d :: ds, _, hl, h => by
    rw [List.all_cons, Bool.and_eq_true] at hl
    cases h with
    | cons h t => exact .cons (low_rdd hn hl.1 h) (low_f2 hn hl.2 t)
theorem low_rs {n : Nat} (hn : m.length = k + n) (rs : RS G k (m ++ r) H S) (hl : (S.take n).all (lowC n) = true) : RS G k m H (S.take n) := by
  have l := rs.len
  rw [List.length_append] at l
  refine ⟨by rw [List.length_take]; omega, (List.nodup_append.mp rs.nd).1, fun a ha => rs.fst a (by rw [List.take_append_of_le_length (by omega)]; exact ha), fun j c a h1 h2 => ?_⟩
  have hj : j < n := by
    have := (List.getElem?_eq_some_iff.mp h1).1
    rw [List.length_take] at this
    omega
  have hc : lowC n c = true := List.all_eq_true.mp hl c (List.mem_of_getElem? h1)
  rw [List.getElem?_take_of_lt hj] at h1
  have q := rs.ok j c a h1 (by rw [List.getElem?_append_left (by omega)]; exact h2)
  cases c with
  | lst xs => obtain ⟨vs, q1, q2, q3⟩ := q; exact ⟨vs, q1, q2, low_f2 hn hc q3⟩
  | ins c ks ds => obtain ⟨dx, vs, q1, q2, q3, q4⟩ := q; exact ⟨dx, vs, q1, q2, q3, low_f2 hn hc q4⟩
  | dct ks ds => obtain ⟨vs, q1, q2, q3, q4⟩ := q; exact ⟨vs, q1, q2, q3, low_f2 hn hc q4⟩
theorem Ext.back (x : Ext k m H (m ++ r) H') : Ext k m H m H' := ⟨x.le, ⟨[], by simp⟩, x.keep, x.st⟩
/-- behind a callee: the places that are no more needed are let go -/
theorem trim_ok {n : Nat} {Q : List Addr → Store → Prop} (hn : m.length = k + n) (x : Ext k m H (m ++ r) H') (rs : RS G k (m ++ r) H' S) (h1 : RS G k m H' (S.take n) → Q m (S.take n)) (h2 : Q (m ++ r) S) : ∃ m', Ext k m H m' H' ∧ RS G k m' H' (trim n S) ∧ Q m' (trim n S) := by
  unfold trim
  split
  · exact ⟨_, x, rs, h2⟩
  · split
    · rename_i h
      have q := low_rs hn rs h
      exact ⟨m, x.back, q, h1 q⟩
    · exact ⟨_, x, rs, h2⟩
end
section
variable {G : Wd} {C : Cb} {k : Nat} {m : List Addr} {H : Hp} {S : Store} {E : XK} {Q : VK}
abbrev WofE (E : XK) : WX := fun cls d _ H => E cls d H
abbrev EofQ (Q : VK) : Ends := { nx := fun _ H' => Q .non H', rt := Q }
theorem finP_ok {o : OS} (nd : m.Nodup) (p : PostP G m H Q E (finP o)) : PostS G m.length (WofE E) (EofQ Q) m H o := by
  have same : ∀ {m' H'}, Ext m.length m H m' H' → Same H H' := fun x a o e => x.keep a o e (by rw [List.drop_length]; exact fun z => by cases z)
  cases o with
  | nx en S => exact fun m' H' σ' x re rs => p H' .non (same x) (by simp only [RD])
  | bk en S => exact p.elim
  | ct en S => exact p.elim
  | stuck => exact p.elim
  | rt d S =>
    intro m' H' v x rs rd
    obtain ⟨r, rfl, _⟩ := x.pre
    unfold finP at p
    dsimp only at p
    cases q : frz 8 S d with
    | none => rw [q] at p; exact p.elim
    | some y => rw [q] at p; exact p H' v (same x) (frz_rd rs 8 d y v q rd)
  | exc c y en S =>
    intro m' H' σ' d v x re rs hd r
    obtain ⟨r', rfl, _⟩ := x.pre
    exact p H' d v (same x) hd (RD.sub (sub_left m r') _ _ r)
theorem finS_ok {o : OS} {n : Nat} (hn : m.length = k + n) (p : Post G k (RDD G k) (WofE E) m [] H Q (finS n o)) : PostS G k (WofE E) (EofQ Q) m H o := by
  cases o with
  | bk en S => exact p.elim
  | ct en S => exact p.elim
  | stuck => exact p.elim
  | nx en S =>
    intro m' H' σ' x re rs
    obtain ⟨r, rfl, _⟩ := x.pre
    obtain ⟨m2, x2, rs2, h⟩ := trim_ok (Q := fun m' _ => RDD G k m' H' (.p .non) .non) hn x rs (fun _ => by show RD G m H' _ _; simp only [RD]) (by show RD G _ H' _ _; simp only [RD])
    exact p m2 H' .non x2 rs2 h
  | rt d S =>
    intro m' H' v x rs rd
    obtain ⟨r, rfl, _⟩ := x.pre
    unfold finS at p
    dsimp only at p
    split at p
    · rename_i hl
      obtain ⟨m2, x2, rs2, h⟩ := trim_ok (Q := fun m' _ => RDD G k m' H' d v) hn x rs (fun _ => low_rdd hn hl rd) rd
      exact p m2 H' v x2 rs2 h
    · exact p _ H' v x rs rd
  | exc c y en S =>
    intro m' H' σ' d v x re rs hd rd
    obtain ⟨r, rfl, _⟩ := x.pre
    obtain ⟨m2, x2, rs2, h⟩ := trim_ok (Q := fun m' _ => RD G m' H' y v) hn x rs (fun _ => RD.sub (sub_left m r) _ _ rd) rd
    exact p m2 H' d v x2 rs2 hd h
theorem re_start {N : List Str} {ds : List D} {vs : List V} {F : FnI} (f : F2 (RDD G k m H) ds vs) (hl : N.length = F.n) (ha : ds.length = F.ar) : RE G k none m H (ds.map some ++ List.replicate (F.n - F.ar) none) (L2.start N vs) := by
  unfold L2.start
  have e := f.len
  refine ⟨by simp; omega, fun i d h => ?_⟩
  by_cases hi : i < ds.length
  · rw [List.getElem?_append_left (by simpa using hi), List.getElem?_map] at h
    cases q : ds[i]? with
    | none => rw [q] at h; cases h
    | some d2 =>
      rw [q] at h
      cases h
      obtain ⟨v, h1, h2⟩ := f.get q
      exact ⟨v, by rw [List.getElem?_append_left (by simp; omega), List.getElem?_map, h1]; rfl, RDD.vx h2⟩
  · rw [List.getElem?_append_right (by simp; omega)] at h
    rw [List.getElem?_replicate] at h
    split at h <;> cases h
end
end Tw

set_option linter.all false
set_option Elab.async false
set_option maxRecDepth 100000
set_option maxHeartbeats 2000000
/-! TwD5: all defs keep their promises. -/
namespace Tw
open PySem PySem.Spec PyProof.Rows L2
/-- a def as it stands, and as it is read -/
structure Dok (K : PySem.W.Frag) (ck : Ck) (F : FnI) (x : Str) (fa : Addr) (fd : FuncData) (N ps : List Str) (qual : Str) (pa : Arguments) (body : List Stmt) (sc : Scope) : Prop where
  fun_ : FunD K x qual pa body sc [] [] fa fd
  sco : FnScope N ps sc
  bnd : Binds K fd ps []
  chk : chkSs ck N F.body sc body = true
  n : N.length = F.n
  ar : ps.length = F.ar
def iniB (f : Str) (N : List Str) (sc : Scope) : List Stmt → Bool
  | [.Assign [.Attribute (.Name s _) f0 _] (.Name v _) _] => decide (N[0]? = some s) && decide (N[1]? = some v) && decide (f0 = f) && visB sc s && visB sc v && okName s && okName v
  | _ => false
structure Wf (P : Program) (w : World) (K : PySem.W.Frag) (mg : Str → Option Value) (base : Heap) (G : Wd) (T : Tab) (ck : Ck) (FA : Nat → Addr) : Prop where
  hK : K = G.K
  xf : T.xf = G.xf
  fa : G.fa = ck.at_
  con : ∀ x p, ck.con.lookup x = some p → ∃ v u, mg x = some u ∧ RelV v u ∧ ∀ m H, RD G m H p v
  fre : ∀ x, ck.fre.contains x = true → mg x = none
  str : ∀ i : Int, PySem.PyData.strOk (Str.ofString (toString i)) = true
  cls : ∀ (c : Nat) x, ck.cls[c]? = some x → mg x = some (.ref (G.ca c))
  sub : ∀ c c' b, T.sub c c' = some b → PySem.W.exmOne K (.ref (G.ca c)) (.ref (G.ca c')) = some b ∧ XfC K (G.ca c) ∧ PySem.W.findIn K (.ref (G.ca c)) (G.fa (G.xf c)) = some none
  exs : ∀ c, ck.exs.contains c = true → OexC K (G.ca c) ∧ PySem.W.findIn K (.ref (G.ca c)) (G.fa (G.xf c)) = some none ∧ ∃ fI x q pa body sc fd N ps, PySem.W.findIn K (.ref (G.ca c)) "__init__" = some (some (.ref fI)) ∧
    PySem.W.typeIn K (.ref fI) = some (.type "function") ∧ FunD K x q pa body sc [] [] fI fd ∧ FnScope N ps sc ∧ Binds K fd ps [] ∧ iniB (G.fa (G.xf c)) N sc body = true ∧ ps.length = 2
  rec_ : ∀ c, c ∈ G.ic → Cls K (G.ca c) ∧ ∀ f, f ∈ G.fs → NoAttr K (G.ca c) (G.fa f)
  inj : ∀ i, i ∈ G.fs → ∀ j, j ∈ G.fs → G.fa i = G.fa j → i = j
  fds : ck.fds = G.fs
  len : ck.fns.length ≤ T.fns.length
  glo : ∀ f x, ck.fns[f]? = some x → mg x = some (.ref (FA f))
  fns : ∀ (f : Nat) (F : FnI), T.fns[f]? = some F → ∃ x fd N ps qual pa body sc, Dok K ck F x (FA f) fd N ps qual pa body sc
  mts : ∀ c f a, ck.mts.contains (c, f, a) = true → c ∈ G.ic ∧ (∀ i ∈ G.fs, G.fa i ≠ a) ∧ f < T.fns.length ∧ Meth K (G.ca c) a (FA f)
  ins : ∀ c f, ck.inis.contains (c, f) = true → c ∈ G.ic ∧ f < T.fns.length ∧ Mk K (G.ca c) (FA f)
  iso : ∀ c, ck.iso.contains c = true → C8.InsC K (G.ca c)
  ecs : ck.ecs = G.ec
  sec : ck.ecs.isEmpty = false → ∀ c c' b, T.sub c c' = some b → c ∈ G.ec
  erx : ∀ c, c ∈ G.ec → XfC K (G.ca c) ∧ ExcC K (G.ca c) ∧ PySem.W.findIn K (.ref (G.ca c)) (G.fa (G.xf c)) = some none ∧ PySem.W.kitOne K (.ref (G.ca c)) (.type "ValueError") = some true
  kit : ∀ c c' b x, c ∈ G.ec → T.sub c c' = some b → ck.cls[c']? = some x → PySem.W.kitOne K (.ref (G.ca c)) (.ref (G.ca c')) = some b
  ecx : ∀ c, ck.ecs.contains c = true → ck.exs.contains c = true
  eqs : ∀ c f, ck.eqs.contains (c, f) = true → c ∈ G.ic ∧ f < T.fns.length ∧ PySem.W.findIn K (.ref (G.ca c)) "__eq__" = some (some (.ref (FA f))) ∧ PySem.W.isFn K (.ref (FA f)) = true
section
variable {P : Program} {w : World} {K : PySem.W.Frag} {mg : Str → Option Value} {base : Heap} {G : Wd} {T : Tab} {ck : Ck} {FA : Nat → Addr}
theorem cb_xf (T : Tab) : ∀ k, (cb T k).xf = T.xf
  | 0 => rfl
  | _ + 1 => rfl
theorem cb_sub (T : Tab) : ∀ k, (cb T k).sub = T.sub
  | 0 => rfl
  | _ + 1 => rfl
/-- an error class's __init__ -/
theorem ini_ok {x q : Str} {pa : Arguments} {body : List Stmt} {sc : Scope} {fI Ca : Addr} {fd : FuncData} {N ps : List Str} {f : Str} (T0 : OexC K Ca) (no : PySem.W.findIn K (.ref Ca) f = some none) (F : FunD K x q pa body sc [] [] fI fd) (S : FnScope N ps sc) (hb : iniB f N sc body = true) (h2 : ps.length = 2) :
    FnOk P w K mg base (L2.CX P w) 1 fI fd ps (spX Ca f) := by
  refine F.ok (k := 0) S (fun vs H Q E h => ?_) fun cdv A outer s H vs Q E hr hsp => ?_
  · obtain ⟨a, v, rfl, _⟩ := h
    rw [h2]; rfl
  · obtain ⟨a, v, rfl, h3, h4⟩ := hsp
    unfold iniB at hb
    split at hb <;> first | (cases hb; done) | skip
    simp only [Bool.and_eq_true, decide_eq_true_eq] at hb
    obtain ⟨⟨⟨⟨⟨⟨b1, b2⟩, b3⟩, b4⟩, b5⟩, b6⟩, b7⟩ := hb
    subst b3
    unfold okName at b6 b7
    rw [Bool.and_eq_true, Bool.not_eq_true', Bool.not_eq_true'] at b6 b7
    refine ⟨_, pss_one (ps_ost (pe_var b1 (visB_ok b4) b6.1 b6.2) (pe_var b2 (visB_ok b5) b7.1 b7.2)), ?_⟩
    refine ⟨v, ?_, .ref a, ?_, a, Ca, rfl, T0, no, .inl ⟨h3, fun dx n ne => h4 dx n ne⟩⟩
    · show (L2.start N [.ref a, v])[1]? = _
      simp [L2.start]
    · show (L2.start N [.ref a, v])[0]? = _
      simp [L2.start]
/-- a body's context -/
theorem cs_of (wf : Wf P w K mg base G T ck FA) {k : Nat} (ih : ∀ (f : Nat), f < T.fns.length → ∃ fd ps, FnOk P w K mg base (L2.CX P w) (2 * k + 2) (FA f) fd ps (spF G (cb T k) f) ∧ PySem.W.keepIn K (.ref (FA f)) = true ∧ Binds K fd ps [])
    {N ps : List Str} {qual : Str} {sc : Scope} {fa : Addr} {cdv : Value} {A : Around} {outer : List Env} {s : Shared} {H : Hp} {E : XK} (S : FnScope N ps sc) (hr : Room (2 * k + 3) (A.deeper (envOfC qual sc s.heap.objs.size fa cdv))) :
    Cs G (cb T k) ck N (cxOf (L2.CX P w) P w K mg base N qual sc fa cdv A outer s H E) (WofE E) sc where
  cn := {
    hN := rfl
    nd := S.nd
    sce := rfl
    cm := fun _ => ⟨rfl, rfl⟩
    un := hr.units
    hK := wf.hK
    xf := by rw [cb_xf]; exact wf.xf
    fa := wf.fa
    con := wf.con
    fre := wf.fre
    fns := fun _ f x h => by
      obtain ⟨fd, ps', F, h2, h3⟩ := ih f (Nat.lt_of_lt_of_le (List.getElem?_eq_some_iff.mp h).1 wf.len)
      exact ⟨2 * k + 2, FA f, fd, ps', F, hr.mono (by omega), wf.glo f x h, h2, h3⟩
    tk := takes_of rfl rfl rfl rfl
    exv := fun _ _ _ => ⟨fun pins s σ H Q I h => by obtain ⟨r, c, d, v, z, _⟩ := h; cases z⟩
    str := wf.str
    rec_ := wf.rec_
    inj := wf.inj
    fds := wf.fds
    mts := fun _ c f a h => by
      obtain ⟨h1, h2, h3, h4⟩ := wf.mts c f a h
      obtain ⟨fd, ps', F, _, h5⟩ := ih f h3
      exact ⟨h1, h2, 2 * k + 2, FA f, fd, ps', F, hr.mono (by omega), h4, h5⟩
    ins := fun _ c f x h hx => by
      obtain ⟨h1, h3, h4⟩ := wf.ins c f h
      obtain ⟨fd, ps', F, _, h5⟩ := ih f h3
      exact ⟨h1, wf.cls c x hx, 2 * k + 2, FA f, fd, ps', F, hr, h4, h5⟩
    iso := fun c x h hx => ⟨wf.iso c h, wf.cls c x hx⟩
    ecs := wf.ecs
    sec := fun z c c' b h => wf.sec z c c' b (by rw [cb_sub] at h; exact h)
    erx := wf.erx
    kit := fun c c' b x h1 h2 h3 => wf.kit c c' b x h1 (by rw [cb_sub] at h2; exact h2) h3
    cls := wf.cls
    mkx := fun _ c x h _ => by
      obtain ⟨T0, no, fI, x, q, pa, body, sc', fd, N', ps', i1, i2, F, S', B, hb, h2⟩ := wf.exs c (wf.ecx c h)
      exact ⟨T0, no, 1, fI, fd, ps', i1, i2, hr.mono (by omega), B, ini_ok T0 no F S' hb h2⟩
    exi := fun _ _ _ _ _ _ _ => ⟨fun pins s σ H Q I h => by obtain ⟨r, c, d, f, v, b, z, _⟩ := h; cases z⟩
    eqs := fun _ c f h => by
      obtain ⟨h1, h3, h4, h6⟩ := wf.eqs c f h
      obtain ⟨fd, ps', F, _, h5⟩ := ih f h3
      exact ⟨h1, 2 * k + 2, FA f, fd, ps', F, hr.mono (by omega), h4, h6, h5⟩ }
  stk := rfl
  frm := rfl
  pas := passes_of rfl
  fnt := fun _ => rfl
  mg := wf.cls
  sub := fun c c' b h => by rw [cb_sub] at h; exact wf.sub c c' b h
  xcl := fun c h => by
    obtain ⟨T0, no, fI, x, q, pa, body, sc', fd, N', ps', i1, i2, F, S', B, hb, h2⟩ := wf.exs c h
    exact ⟨T0, no, 1, fI, fd, ps', i1, i2, hr.mono (by omega), B, ini_ok T0 no F S' hb h2⟩
theorem fn_step (wf : Wf P w K mg base G T ck FA) {k : Nat} (ih : ∀ (f : Nat), f < T.fns.length → ∃ fd ps, FnOk P w K mg base (L2.CX P w) (2 * k + 2) (FA f) fd ps (spF G (cb T k) f) ∧ PySem.W.keepIn K (.ref (FA f)) = true ∧ Binds K fd ps [])
    {f : Nat} {F : FnI} {x : Str} {fa : Addr} {fd : FuncData} {N ps : List Str} {qual : Str} {pa : Arguments} {body : List Stmt} {sc : Scope} (eF : T.fns[f]? = some F) (q : Dok K ck F x fa fd N ps qual pa body sc) :
    FnOk P w K mg base (L2.CX P w) (2 * k + 4) fa fd ps (spF G (cb T (k + 1)) f) := by
  refine q.fun_.ok (k := 2 * k + 3) q.sco (fun vs H Q E z => ?_) fun cdv A outer s H vs Q E hr z => ?_
  · rcases z with ⟨m, xs, _, _, f2, z⟩ | ⟨k', m, S, ds, _, f2, z⟩
    · have z' : PostP G m H Q E (match T.fns[f]? with
        | some F => finP (runF (cb T k) F (xs.map D.p) [])
        | none => .stuck) := z
      rw [eF] at z'
      dsimp only at z'
      unfold runF at z'
      split at z'
      · rename_i e
        rw [q.ar, ← e, List.length_map, f2.len]
      · exact False.elim z'
    · have z' : Post G k' (RDD G k') (WofE E) m [] H Q (match T.fns[f]? with
        | some F => finS S.length (runF (cb T k) F ds S)
        | none => .stuck) := z
      rw [eF] at z'
      dsimp only at z'
      unfold runF at z'
      split at z'
      · rename_i e
        rw [q.ar, ← e, f2.len]
      · exact False.elim z'
  · have cs := cs_of (qual := qual) (E := E) (H := H) (outer := outer) wf ih q.sco hr
    rcases z with ⟨m, xs, nd, ntm, f2, z⟩ | ⟨k', m, S, ds, rs, f2, z⟩
    · have z' : PostP G m H Q E (match T.fns[f]? with
        | some F => finP (runF (cb T k) F (xs.map D.p) [])
        | none => .stuck) := z
      rw [eF] at z'
      dsimp only at z'
      unfold runF at z'
      split at z'
      · rename_i e
        have rs : RS G m.length m H [] := ⟨by simp, nd, by rw [List.take_length]; exact ntm, fun n c a h1 => by simp at h1⟩
        refine ⟨_, pss_main (k := m.length) F.body cs q.chk, m, _, [], re_start (f2_Ps f2) q.n e, rs, finP_ok nd z'⟩
      · exact False.elim z'
    · have z' : Post G k' (RDD G k') (WofE E) m [] H Q (match T.fns[f]? with
        | some F => finS S.length (runF (cb T k) F ds S)
        | none => .stuck) := z
      rw [eF] at z'
      dsimp only at z'
      unfold runF at z'
      split at z'
      · rename_i e
        exact ⟨_, pss_main (k := k') F.body cs q.chk, m, _, S, re_start f2 q.n e, rs, finS_ok rs.len z'⟩
      · exact False.elim z'
theorem fns_ok (wf : Wf P w K mg base G T ck FA) : ∀ (k f : Nat), f < T.fns.length → ∃ fd ps, FnOk P w K mg base (L2.CX P w) (2 * k + 2) (FA f) fd ps (spF G (cb T k) f) ∧ PySem.W.keepIn K (.ref (FA f)) = true ∧ Binds K fd ps []
  | 0, f, hf => by
    obtain ⟨x', fd, N, ps, qual, pa, body, sc, q⟩ := wf.fns f T.fns[f] (by simp [hf])
    refine ⟨fd, ps, ⟨fun vs H Q E z => ?_, fun A outer s H args us vs Q E _ _ _ _ z => ?_⟩, q.fun_.kp, q.bnd⟩
    · rcases z with ⟨m, xs, _, _, _, z⟩ | ⟨k, m, S, ds, _, _, z⟩ <;> exact False.elim z
    · rcases z with ⟨m, xs, _, _, _, z⟩ | ⟨k, m, S, ds, _, _, z⟩ <;> exact False.elim z
  | k + 1, f, hf => by
    obtain ⟨x', fd, N, ps, qual, pa, body, sc, q⟩ := wf.fns f T.fns[f] (by simp [hf])
    exact ⟨fd, ps, fn_step wf (fns_ok wf k) (by simp [hf]) q, q.fun_.kp, q.bnd⟩
end
end Tw

set_option linter.all false
set_option Elab.async false
set_option maxRecDepth 100000
set_option maxHeartbeats 2000000
/-! TwE1: a law's text, the facts of its head. -/
namespace Tw
open PySem PySem.Spec PyProof.Rows L2
theorem str_ok (s : String) : PyData.strOk (Str.ofString s) = true := by
  rw [Str.ofString_eq_toList]
  unfold PyData.strOk
  rw [Array.all_eq_true_iff_forall_mem]
  intro c hc
  simp only [List.mem_toArray, List.mem_map] at hc
  obtain ⟨a, _, rfl⟩ := hc
  have h := a.valid
  rw [decide_eq_true_eq]
  show a.val.toNat < 0x110000
  rcases h with h | h
  · have h' : a.val.toNat < 55296 := h
    omega
  · exact h.2
/-! ### plain parameters -/
theorem fm_congr {α β : Type} {f g : α → Option β} : ∀ {l : List α}, (∀ x ∈ l, f x = g x) → l.filterMap f = l.filterMap g
  | [], _ => rfl
  | x :: l, h => by
    rw [List.filterMap_cons, List.filterMap_cons, h x List.mem_cons_self, fm_congr fun y hy => h y (List.mem_cons_of_mem _ hy)]
theorem zip_lookup : ∀ {ps : List Str} {us : List Value}, ps.Nodup → us.length = ps.length → (ps.filterMap fun n => ((ps.zip us).lookup n).map (n, ·)) = ps.zip us
  | [], us, _, h => by simp
  | p :: ps, [], _, h => by simp at h
  | p :: ps, u :: us, nd, h => by
    obtain ⟨n1, n2⟩ := List.nodup_cons.mp nd
    have ih := zip_lookup n2 (us := us) (by simpa using h)
    rw [List.zip_cons_cons, List.filterMap_cons]
    simp only [List.lookup_cons, beq_self_eq_true, Option.map_some]
    congr 1
    conv => rhs; rw [← ih]
    refine fm_congr fun n hn => ?_
    have e : (n == p) = false := by
      rw [beq_eq_false_iff_ne]
      exact fun z => n1 (z ▸ hn)
    rw [e]
theorem zip_some : ∀ {ps : List Str} {us : List Value}, us.length = ps.length → ∀ n ∈ ps, ((ps.zip us).lookup n).isNone = false
  | [], us, h, n, hn => by cases hn
  | p :: ps, [], h, n, hn => by simp at h
  | p :: ps, u :: us, h, n, hn => by
    rw [List.zip_cons_cons, List.lookup_cons]
    cases e : (n == p) with
    | true => rfl
    | false =>
      rcases List.mem_cons.mp hn with z | z
      · rw [z] at e; simp at e
      · exact zip_some (by simpa using h) n z
theorem bind_plain {fd : FuncData} {ps : List Str} {us : List Value} (h1 : fd.params.posonlyargs = []) (h2 : fd.params.kwonlyargs = []) (h3 : fd.params.vararg = none) (h4 : fd.params.kwarg = none) (h5 : fd.params.args.map (·.arg) = ps) (h6 : fd.defaults = .none)
    (nd : ps.Nodup) (hl : us.length = ps.length) : bindArgs fd ⟨us, []⟩ = pure (ps.zip us) := by
  unfold bindArgs
  simp only [h1, h2, h3, h4, h5, h6, List.map_nil, List.nil_append, List.append_nil]
  have e1 : ∀ n ∈ ps, ((ps.zip us).lookup n).isNone = false := zip_some hl
  have e2 : (ps.filter fun n => ((ps.zip us).lookup n).isNone) = [] := List.filter_eq_nil_iff.mpr fun n hn => by rw [e1 n hn]; simp
  have e3 := zip_lookup nd hl
  simp [seqItems?, hl, e2, e3]
  rfl
def plainB (pa : Arguments) (ps : List Str) : Bool := pa.posonlyargs.isEmpty && pa.kwonlyargs.isEmpty && pa.vararg.isNone && pa.kwarg.isNone && decide (pa.args.map (·.arg) = ps)
theorem plain_bnd {K : PySem.W.Frag} {x qual : Str} {pa : Arguments} {body : List Stmt} {sc : Scope} {f : Addr} {fd : FuncData} {ps : List Str} (F : FunD K x qual pa body sc [] [] f fd) (h : plainB pa ps = true) (nd : ps.Nodup) (us : List Value) (hl : us.length = ps.length) : bindArgs fd ⟨us, []⟩ = pure (ps.zip us) := by
  unfold plainB at h
  simp only [Bool.and_eq_true, decide_eq_true_eq, List.isEmpty_iff, Option.isNone_iff_eq_none] at h
  obtain ⟨⟨⟨⟨h1, h2⟩, h3⟩, h4⟩, h5⟩ := h
  obtain ⟨oc, od, dV, kV, doc, pm, an, cdv, ct, osl, rfl, lk, hcd, hD, hK⟩ := F.ex
  rcases hD with ⟨_, rfl⟩ | ⟨e, _⟩
  · exact bind_plain h1 h2 h3 h4 h5 rfl nd hl
  · exact absurd rfl e
/-! ### scopes -/
def fscB (N ps : List Str) (sc : Scope) : Bool :=
  (match sc.kind with | .function => true | _ => false) && !sc.isCoroutine && !sc.isGenerator && decide N.Nodup && decide (N.take ps.length = ps) && (ps.all fun x => match sc.names.lookup x with
    | some .local => true
    | some .cell => true
    | _ => false) && sc.names.all fun y => match y.2 with
    | .free => false
    | _ => true
theorem fscB_ok {N ps : List Str} {sc : Scope} (h : fscB N ps sc = true) : FnScope N ps sc := by
  unfold fscB at h
  simp only [Bool.and_eq_true, List.all_eq_true, decide_eq_true_eq, Bool.not_eq_true'] at h
  obtain ⟨⟨⟨⟨⟨⟨h1, h2⟩, h3⟩, h4⟩, h5⟩, h6⟩, h7⟩ := h
  refine ⟨?_, h2, h3, h4, h5, fun x hx => ?_, fun y hy e => ?_⟩
  · split at h1
    · assumption
    · cases h1
  · have q := h6 x hx
    split at q
    · exact .inl (by assumption)
    · exact .inr (by assumption)
    · cases q
  · have q := h7 y hy
    rw [e] at q
    cases q
/-! ### error classes -/
theorem oexB_ok {K : PySem.W.Frag} {C : Addr} (h : oexB K C = true) : OexC K C := by
  unfold oexB at h
  simp only [Bool.and_eq_true, decide_eq_true_eq] at h
  obtain ⟨⟨⟨⟨h1, h2⟩, h3⟩, h4⟩, h5⟩ := h
  refine ⟨?_, h2, h3, h4, h5⟩
  split at h1
  · rename_i t dd cd sl ho
    simp only [Bool.and_eq_true, beq_iff_eq] at h1
    obtain ⟨rfl, h1⟩ := h1
    split at h1
    · rename_i C' bm k0 k1 k2 k3 n k5 hm hs
      simp only [Bool.and_eq_true, beq_iff_eq, Bool.not_eq_true'] at h1
      obtain ⟨⟨⟨⟨rfl, rfl⟩, hdel⟩, hdi⟩, hr⟩ := h1
      obtain ⟨nm, bs, mro, ns, qn, hd, sn, sub, ab, col, del⟩ := cd
      dsimp only at hm hdel hdi
      subst hm hdel hdi
      have hsl : sl = #[k0, k1, k2, k3, some (.builtin "ValueError.__new__"), k5] := by
        obtain ⟨l⟩ := sl
        simp only at hs
        rw [hs]
      subst hsl
      exact ⟨nm, qn, ns, bs, bm, sn, sub, ab, col, dd, k0, k1, k2, k3, k5, ho, hr⟩
    · cases h1
  · cases h1
/-! ### a law's text -/
def Lw.ck (L : Lw) : Ck := ⟨L.fns.map (·.1), L.cls, L.ini.map (·.1), L.at_, L.con, L.fre, L.fds, L.inis, L.mts, L.iso, L.eqs, L.ecs⟩
def Lw.G (L : Lw) (K : PySem.W.Frag) : Wd := ⟨K, L.at_, fun c => He.ga K (L.cn c), L.T.xf, L.ics, L.fds, L.ecs⟩
def Lw.mf (L : Lw) (f : Nat) : Option (Nat × Nat × Nat × List Str × Str) := if L.fns.length ≤ f then L.mfs[f - L.fns.length]? else none
def Lw.FA (L : Lw) (K : PySem.W.Frag) (f : Nat) : Addr := match L.fns[f]? with
  | some q => He.ga K q.1
  | none => match L.mfs[f - L.fns.length]? with
    | some q => He.ma K (He.ga K (L.cn q.1)) q.2.2.2.2
    | none => 0
def mfN (L : Lw) (c f : Nat) (x : Str) : Bool := L.ics.contains c && (match L.mf f with
  | some z => decide (z.1 = c) && decide (z.2.2.2.2 = x)
  | none => false)
/-- the lists of the own classes fit -/
def Lw.stB (L : Lw) : Bool := (L.inis.all fun q => mfN L q.1 q.2 "__init__") && (L.mts.all fun q => mfN L q.1 q.2.1 q.2.2 && L.fds.all fun i => !decide (L.at_ i = q.2.2)) && (L.iso.all fun c => L.ics.contains c) && (L.eqs.all fun q => mfN L q.1 q.2 "__eq__") && (L.ecs.all fun c => (L.ini.map (·.1)).contains c && L.dcl.contains c)
/-- what the text must say -/
def Lw.fnB (L : Lw) (q : Str × Nat × List Str) (F : FnI) : Bool :=
  fscB q.2.2 (q.2.2.take F.ar) (defScope (L.st q.2.1)) && plainB (defArgs (L.st q.2.1)) (q.2.2.take F.ar) && decide (q.2.2.length = F.n) && decide (F.ar ≤ F.n) && chkSs L.ck q.2.2 F.body (defScope (L.st q.2.1)) (defBody (L.st q.2.1))
def Lw.mfB (L : Lw) (q : Nat × Nat × Nat × List Str × Str) (F : FnI) : Bool :=
  fscB q.2.2.2.1 (q.2.2.2.1.take F.ar) (defScope (L.stm q)) && plainB (defArgs (L.stm q)) (q.2.2.2.1.take F.ar) && decide (q.2.2.2.1.length = F.n) && decide (F.ar ≤ F.n) && chkSs L.ck q.2.2.2.1 F.body (defScope (L.stm q)) (defBody (L.stm q))
def Lw.inB (L : Lw) (q : Nat × Nat × Nat × List Str) : Bool :=
  fscB q.2.2.2 q.2.2.2 (defScope (L.sti q)) && plainB (defArgs (L.sti q)) q.2.2.2 && decide (q.2.2.2.length = 2) && iniB (L.at_ (L.T.xf q.1)) q.2.2.2 (defScope (L.sti q)) (defBody (L.sti q))
def Lw.injB (L : Lw) : Bool := L.fds.all fun i => L.fds.all fun j => !decide (L.at_ i = L.at_ j) || decide (i = j)
theorem conV_ok {p : P} {u : Value} (h : conV p u = true) : ∃ v, RelV v u ∧ ∀ (G : Wd) m H, RD G m H p v := by
  unfold conV at h
  split at h
  · exact ⟨.non, rfl, fun G m H => by simp only [RD]⟩
  · rename_i a b
    have e := eq_of_beq h
    subst e
    exact ⟨.bl a, rfl, fun G m H => by simp only [RD]⟩
  · rename_i i j t
    have e := of_decide_eq_true h
    subst e
    exact ⟨.int i, ⟨t, rfl⟩, fun G m H => by simp only [RD]⟩
  · rename_i s t tk
    rw [Bool.and_eq_true] at h
    have e := of_decide_eq_true h.1
    subst e
    exact ⟨.str s, ⟨tk, rfl⟩, fun G m H => by unfold RD; exact ⟨rfl, h.2⟩⟩
  · cases h
theorem lookup_mem {α β : Type} [BEq α] [LawfulBEq α] {x : α} {y : β} : ∀ {l : List (α × β)}, l.lookup x = some y → (x, y) ∈ l
  | [], h => by cases h
  | (a, b) :: r, h => by
    rw [List.lookup_cons] at h
    split at h
    · rename_i e
      rw [beq_iff_eq] at e
      cases h
      rw [e]
      exact List.mem_cons_self
    · exact List.mem_cons_of_mem _ (lookup_mem h)
theorem Lw.funD {L : Lw} {K : PySem.W.Frag} (c : L.Says K) (d : He.DefD) (hd : d ∈ L.dds) : ∃ fd, FunD K d.name d.qual d.params d.body d.scope (d.dvs K) (d.kws K) (He.fAd K d.at_) fd := by
  obtain ⟨c1, c2⟩ := c
  unfold Lw.fb at c1
  rw [Bool.and_eq_true] at c1
  replace c1 := c1.1
  unfold Lw.fb0 at c1
  simp only [Bool.and_eq_true, List.all_eq_true] at c1
  obtain ⟨i, hi⟩ := List.getElem?_of_mem hd
  have e2 : (L.dds.map fun d => He.fnW K d.at_)[i]? = (L.dds.map He.DefD.val)[i]? := by rw [c2]
  rw [List.getElem?_map, List.getElem?_map, hi] at e2
  exact He.DefD.funD (Option.some.inj e2) (c1.2 d hd)
theorem Lw.mgf {L : Lw} {K : PySem.W.Frag} {mg : Str → Option Value} {h : Heap} (X : K.In h) (Gn : h.Ns mainGlobals mg) (c : L.Says K) {q : Str × Nat × List Str} (hq : q ∈ L.fns) : mg q.1 = some (.ref (He.ga K q.1)) := by
  obtain ⟨c1, _⟩ := c
  unfold Lw.fb at c1
  rw [Bool.and_eq_true] at c1
  replace c1 := c1.1
  unfold Lw.fb0 at c1
  simp only [Bool.and_eq_true, List.all_eq_true] at c1
  obtain ⟨⟨⟨⟨⟨⟨⟨b1, b2⟩, b3⟩, b4⟩, b5⟩, b6⟩, b8⟩, b7⟩ := c1
  exact PySem.W.mg_of X Gn (of_decide_eq_true (b3 q hq))
theorem Lw.dok {L : Lw} {K : PySem.W.Frag} (c : L.Says K) {q : Str × Nat × List Str} {F : FnI} (hq : q ∈ L.fns) (t : L.fnB q F = true) :
    ∃ fd, Dok K L.ck F q.1 (He.ga K q.1) fd q.2.2 (q.2.2.take F.ar) q.1 (defArgs (L.st q.2.1)) (defBody (L.st q.2.1)) (defScope (L.st q.2.1)) := by
  unfold Lw.fnB at t
  simp only [Bool.and_eq_true, decide_eq_true_eq] at t
  obtain ⟨⟨⟨⟨t1, t2⟩, t3⟩, t4⟩, t5⟩ := t
  obtain ⟨fd, FD⟩ := Lw.funD c (L.ddf q) (List.mem_append_left _ (List.mem_append_left _ (List.mem_map_of_mem hq)))
  have S := fscB_ok t1
  have nd2 : (q.2.2.take F.ar).Nodup := List.Nodup.sublist (List.take_sublist _ _) S.nd
  exact ⟨fd, FD, S, .all (plain_bnd FD t2 nd2), t5, t3, by rw [List.length_take, t3]; omega⟩
theorem Lw.dokm {L : Lw} {K : PySem.W.Frag} (c : L.Says K) {q : Nat × Nat × Nat × List Str × Str} {F : FnI} (hq : q ∈ L.mfs) (t : L.mfB q F = true) :
    ∃ fd, Dok K L.ck F q.2.2.2.2 (He.ma K (He.ga K (L.cn q.1)) q.2.2.2.2) fd q.2.2.2.1 (q.2.2.2.1.take F.ar) (L.cn q.1 ++ "." ++ q.2.2.2.2) (defArgs (L.stm q)) (defBody (L.stm q)) (defScope (L.stm q)) := by
  unfold Lw.mfB at t
  simp only [Bool.and_eq_true, decide_eq_true_eq] at t
  obtain ⟨⟨⟨⟨t1, t2⟩, t3⟩, t4⟩, t5⟩ := t
  obtain ⟨fd, FD⟩ := Lw.funD c (L.ddm q) (List.mem_append_right _ (List.mem_map_of_mem hq))
  have S := fscB_ok t1
  have nd2 : (q.2.2.2.1.take F.ar).Nodup := List.Nodup.sublist (List.take_sublist _ _) S.nd
  exact ⟨fd, FD, S, .all (plain_bnd FD t2 nd2), t5, t3, by rw [List.length_take, t3]; omega⟩
theorem mfN_ok {L : Lw} {K : PySem.W.Frag} {c f : Nat} {x : Str} (h : mfN L c f x = true) : c ∈ L.ics ∧ ∃ q, L.fns.length ≤ f ∧ L.mfs[f - L.fns.length]? = some q ∧ q.1 = c ∧ q.2.2.2.2 = x ∧ L.FA K f = He.ma K (He.ga K (L.cn c)) x := by
  unfold mfN at h
  rw [Bool.and_eq_true] at h
  obtain ⟨h1, h2⟩ := h
  refine ⟨by simpa using h1, ?_⟩
  unfold Lw.mf at h2
  split at h2
  · rename_i z e
    split at e
    · rename_i hl
      rw [Bool.and_eq_true, decide_eq_true_eq, decide_eq_true_eq] at h2
      refine ⟨z, hl, e, h2.1, h2.2, ?_⟩
      unfold Lw.FA
      rw [List.getElem?_eq_none hl, e]
      obtain ⟨h3, h4⟩ := h2
      subst h3 h4
      rfl
    · cases e
  · cases h2
/-- the facts of the error classes -/
theorem fbe_un {L : Lw} {K : PySem.W.Frag} (h : L.fbe K = true) (hn : L.ecs ≠ []) : ecB0 K = true ∧ (∀ c ∈ L.ecs, ecB L K c = true) ∧ (∀ d ∈ L.dcl, dcB L K d = true) ∧ ∀ c ∈ L.ecs, rowB L K c = true := by
  unfold Lw.fbe at h
  split at h
  · rename_i e
    exact absurd e hn
  · simp only [Bool.and_eq_true, List.all_eq_true] at h
    exact h
theorem ecs_cls {L : Lw} {K : PySem.W.Frag} (h : L.fbe K = true) {c : Nat} (hc : c ∈ L.ecs) : XfC K (He.ga K (L.cn c)) ∧ ExcC K (He.ga K (L.cn c)) ∧ PySem.W.findIn K (.ref (He.ga K (L.cn c))) (L.at_ (L.T.xf c)) = some none ∧ PySem.W.kitOne K (.ref (He.ga K (L.cn c))) (.type "ValueError") = some true := by
  obtain ⟨h0, h1, _, _⟩ := fbe_un h (by intro e; rw [e] at hc; cases hc)
  have q := h1 c hc
  unfold ecB at q
  unfold ecB0 at h0
  simp only [Bool.and_eq_true, decide_eq_true_eq] at q h0
  obtain ⟨⟨⟨⟨q1, q2⟩, q3⟩, q6⟩, q7⟩ := q
  have x := xfB_ok q1
  exact ⟨x, ⟨x.ga, x.gg, x.exC, x.hdC, q3, h0.1, h0.2, q6⟩, q2, q7⟩
theorem ecs_facts {L : Lw} {K : PySem.W.Frag} (hd0 : ∀ c ∈ L.ecs, c ∈ L.dcl) (h : L.fbe K = true) {c c' : Nat} {b : Bool} (hb : L.subT c c' = some b) (hn : L.ecs ≠ []) :
    c ∈ L.ecs ∧ PySem.W.exmOne K (.ref (He.ga K (L.cn c))) (.ref (He.ga K (L.cn c'))) = some b ∧ PySem.W.kitOne K (.ref (He.ga K (L.cn c))) (.ref (He.ga K (L.cn c'))) = some b ∧ XfC K (He.ga K (L.cn c)) ∧ PySem.W.findIn K (.ref (He.ga K (L.cn c))) (L.at_ (L.T.xf c)) = some none ∧ True := by
  obtain ⟨h0, h1, h2, h3⟩ := fbe_un h hn
  have e : L.subT c c' = if L.ecs.contains c && L.dcl.contains c' then some (c == c' || c' == 0) else none := by
    unfold Lw.subT
    cases q : L.ecs with
    | nil => exact absurd q hn
    | cons _ _ => rfl
  rw [e] at hb
  split at hb
  · rename_i hm
    rw [Bool.and_eq_true] at hm
    have hc : c ∈ L.ecs := by simpa using hm.1
    have hd : c' ∈ L.dcl := by simpa using hm.2
    have hb' := Option.some.inj hb
    have r := h3 c hc
    unfold rowB at r
    split at r
    · rename_i cd hcd
      rw [Bool.and_eq_true, Bool.not_eq_true', List.all_eq_true] at r
      obtain ⟨r0, r1⟩ := r
      have r2 := r1 c' hd
      rw [hb', beq_iff_eq] at r2
      have d := h2 c' hd
      unfold dcB at d
      simp only [Bool.and_eq_true, decide_eq_true_eq] at d
      obtain ⟨d1, d2, d3⟩ := d
      have sb : PySem.W.subIn K (.ref (He.ga K (L.cn c))) (.ref (He.ga K (L.cn c'))) = some b := by
        show PySem.W.mroIn K _ _ = _
        unfold PySem.W.mroIn
        rw [hcd, Option.bind_some, r0, r2]
        rfl
      have kc : PySem.W.kitCls K (.ref (He.ga K (L.cn c))) (.ref (He.ga K (L.cn c'))) = some b := by
        show (if ((PySem.W.clsIn K (He.ga K (L.cn c'))).isSome && PySem.W.typeIn K (.ref (He.ga K (L.cn c'))) == some (.type "type")) = true then _ else none) = _
        rw [d2, d3]
        exact sb
      obtain ⟨x1, _, x3, _⟩ := ecs_cls h hc
      refine ⟨hc, ?_, ?_, x1, x3, trivial⟩
      · show (if (PySem.W.subIn K (.ref (He.ga K (L.cn c'))) (.type "BaseException") == some true) = true then _ else none) = _
        rw [d1]
        exact kc
      · show (if (Value.ref (He.ga K (L.cn c)) == Value.ref (He.ga K (L.cn c'))) = true then some true else _) = _
        split
        · rename_i eq
          have ea := Value.ref.inj (beq_iff_eq.mp eq)
          congr 1
          have r3 := r1 c (hd0 c hc)
          rw [show (c == c || c == 0) = true by simp, beq_iff_eq, ea, r2] at r3
          exact r3.symm
        · exact kc
    · cases r
  · cases hb
theorem Lw.wf {L : Lw} {w : World} {K : PySem.W.Frag} {mg : Str → Option Value} {base h : Heap} (hsub : L.T.sub = L.subT) (hlen : L.fns.length + L.mfs.length = L.T.fns.length) (hf : ∀ (i : Nat) (q : Str × Nat × List Str) (F : FnI), L.fns[i]? = some q → L.T.fns[i]? = some F → L.fnB q F = true) (hi : L.ini.all L.inB = true) (hj : L.injB = true) (hm : ∀ (i : Nat) (q : Nat × Nat × Nat × List Str × Str) (F : FnI), L.mfs[i]? = some q → L.T.fns[L.fns.length + i]? = some F → L.mfB q F = true) (hst : L.stB = true)
    (X : K.In h) (Gn : h.Ns mainGlobals mg) (cc : L.Says K) : Wf L.pr w K mg base (L.G K) L.T L.ck (L.FA K) := by
  obtain ⟨c1, c2⟩ := id cc
  unfold Lw.fb at c1
  rw [Bool.and_eq_true] at c1
  obtain ⟨c1, cm0⟩ := c1
  rw [Bool.and_eq_true] at cm0
  obtain ⟨cm, ce⟩ := cm0
  unfold Lw.fbm at cm
  simp only [Bool.and_eq_true, List.all_eq_true] at cm
  obtain ⟨⟨m1, m2⟩, m3⟩ := cm
  unfold Lw.stB at hst
  rw [Bool.and_eq_true] at hst
  obtain ⟨hst, hse⟩ := hst
  simp only [Bool.and_eq_true, List.all_eq_true] at hst hse
  obtain ⟨⟨⟨s1, s2⟩, s3⟩, s4⟩ := hst
  unfold Lw.fb0 at c1
  simp only [Bool.and_eq_true, List.all_eq_true] at c1
  obtain ⟨⟨⟨⟨⟨⟨⟨b1, b2⟩, b3⟩, b4⟩, b5⟩, b6⟩, b8⟩, b7⟩ := c1
  have glo : ∀ x, gloB K x = true → mg x = some (.ref (He.ga K x)) := fun x h => PySem.W.mg_of X Gn (of_decide_eq_true h)
  refine ⟨rfl, rfl, rfl, fun x p hx => ?_, fun x hx => ?_, fun i => str_ok _, fun c x hx => ?_, fun c c' b hb => ?_, fun c hc => ?_, fun c hc => ?_, fun i hi j hj' e => ?_, rfl, ?_, fun f x hx => ?_, fun f F hF => ?_, fun c f a h => ?_, fun c f h => ?_, fun c h => ?_, rfl, fun z c c' b h => ?_, fun c hc => ?_, fun c c' b x hc hb hx => ?_, fun c h => ?_, fun c f h => ?_⟩
  · have q := b1 _ (lookup_mem hx)
    unfold conB at q
    dsimp only at q
    split at q
    · rename_i u e
      obtain ⟨v, h1, h2⟩ := conV_ok q
      exact ⟨v, u, PySem.W.mg_of X Gn e, h1, h2 _⟩
    · cases q
  · have q := b2 x (by
      have hx' : L.fre.contains x = true := hx
      simpa using hx')
    exact PySem.W.mg_none_of X Gn (of_decide_eq_true q)
  · have hx' : L.cls[c]? = some x := hx
    have q := b4 x (List.mem_of_getElem? hx')
    have e : L.cn c = x := by
      unfold Lw.cn
      rw [List.getD_eq_getElem?_getD, hx']
      rfl
    show mg x = some (.ref (He.ga K (L.cn c)))
    rw [e]
    exact glo x q
  · rw [hsub] at hb
    cases ee : L.ecs with
    | nil =>
      have hb' : L.subs.lookup (c, c') = some b := by
        unfold Lw.subT at hb
        rw [ee] at hb
        exact hb
      have q := b5 _ (lookup_mem hb')
      unfold subB at q
      simp only [Bool.and_eq_true, decide_eq_true_eq] at q
      exact ⟨q.1.1, xfB_ok q.1.2, q.2⟩
    | cons e0 es =>
      have z := ecs_facts (fun c hc => by simpa using (hse c hc).2) ce hb (by rw [ee]; simp)
      exact ⟨z.2.1, z.2.2.2.1, z.2.2.2.2.1⟩
  · have hc' : (L.ini.map (·.1)).contains c = true := hc
    simp only [List.contains_iff_mem, List.mem_map] at hc'
    obtain ⟨q, hq, rfl⟩ := hc'
    have f := b6 q hq
    unfold iniF at f
    simp only [Bool.and_eq_true, decide_eq_true_eq] at f
    obtain ⟨⟨⟨f1, f2⟩, f3⟩, f4⟩ := f
    have t := List.all_eq_true.mp hi q hq
    unfold Lw.inB at t
    simp only [Bool.and_eq_true, decide_eq_true_eq] at t
    obtain ⟨⟨⟨t1, t2⟩, t3⟩, t4⟩ := t
    obtain ⟨fd, FD⟩ := Lw.funD cc (L.ddi q) (List.mem_append_left _ (List.mem_append_right _ (List.mem_map_of_mem hq)))
    have S := fscB_ok t1
    exact ⟨oexB_ok f1, f2, _, _, _, _, _, _, fd, q.2.2.2, q.2.2.2, f3, f4, FD, S, .all (plain_bnd FD t2 S.nd), t4, t3⟩
  · have q := b8 c hc
    unfold icB at q
    simp only [Bool.and_eq_true, List.all_eq_true, decide_eq_true_eq] at q
    exact ⟨He.cls_ok q.1, fun f hf => q.2 f hf⟩
  · unfold Lw.injB at hj
    simp only [List.all_eq_true, Bool.or_eq_true, Bool.not_eq_true', decide_eq_true_eq, decide_eq_false_iff_not] at hj
    rcases hj i hi j hj' with z | z
    · exact absurd e z
    · exact z
  · show (L.fns.map (·.1)).length ≤ _
    rw [List.length_map, ← hlen]
    omega
  · have hx' : (L.fns.map (·.1))[f]? = some x := hx
    rw [List.getElem?_map] at hx'
    cases e : L.fns[f]? with
    | none => rw [e] at hx'; cases hx'
    | some q =>
      rw [e] at hx'
      cases hx'
      unfold Lw.FA
      rw [e]
      exact Lw.mgf X Gn cc (List.mem_of_getElem? e)
  · have hl := (List.getElem?_eq_some_iff.mp hF).1
    rw [← hlen] at hl
    by_cases hg : f < L.fns.length
    · have e : L.fns[f]? = some L.fns[f] := by simp [hg]
      generalize L.fns[f] = q at e
      obtain ⟨fd, dk⟩ := Lw.dok cc (List.mem_of_getElem? e) (hf f q F e hF)
      have eA : L.FA K f = He.ga K q.1 := by
        unfold Lw.FA
        rw [e]
      rw [eA]
      exact ⟨q.1, fd, q.2.2, q.2.2.take F.ar, q.1, _, _, _, dk⟩
    · have hi : f - L.fns.length < L.mfs.length := by omega
      have e : L.mfs[f - L.fns.length]? = some L.mfs[f - L.fns.length] := by simp [hi]
      generalize L.mfs[f - L.fns.length] = q at e
      obtain ⟨fd, dk⟩ := Lw.dokm cc (List.mem_of_getElem? e) (hm (f - L.fns.length) q F e (by rw [show L.fns.length + (f - L.fns.length) = f by omega]; exact hF))
      have eA : L.FA K f = He.ma K (He.ga K (L.cn q.1)) q.2.2.2.2 := by
        unfold Lw.FA
        rw [List.getElem?_eq_none (by omega), e]
      rw [eA]
      exact ⟨q.2.2.2.2, fd, q.2.2.2.1, q.2.2.2.1.take F.ar, _, _, _, _, dk⟩
  · have h' : L.mts.contains (c, f, a) = true := h
    have hmem : (c, f, a) ∈ L.mts := by simpa using h'
    obtain ⟨z1, z2⟩ := s2 _ hmem
    obtain ⟨k1, q, k2, k3, k4, k5, k6⟩ := mfN_ok (K := K) z1
    refine ⟨k1, fun i hi => ?_, ?_, ?_⟩
    · have z := z2 i hi
      show L.at_ i ≠ a
      simpa using z
    · rw [← hlen]
      have := (List.getElem?_eq_some_iff.mp k3).1
      dsimp only at this k2
      omega
    · have mm := He.meth_ok (m1 q (List.mem_of_getElem? k3))
      rw [k4, k5] at mm
      rw [k6]
      exact mm
  · have h' : L.inis.contains (c, f) = true := h
    have hmem : (c, f) ∈ L.inis := by simpa using h'
    obtain ⟨k1, q, k2, k3, k4, k5, k6⟩ := mfN_ok (K := K) (s1 _ hmem)
    refine ⟨k1, ?_, ?_⟩
    · rw [← hlen]
      have := (List.getElem?_eq_some_iff.mp k3).1
      dsimp only at this k2
      omega
    · rw [k6]
      exact He.mkr_ok (m2 _ hmem)
  · have h' : L.iso.contains c = true := h
    have hmem : c ∈ L.iso := by simpa using h'
    have z := m3 c hmem
    unfold isoB at z
    simp only [Bool.and_eq_true, decide_eq_true_eq] at z
    obtain ⟨⟨⟨⟨z1, z2⟩, z3⟩, z4⟩, z5⟩ := z
    have hic : c ∈ L.ics := by simpa using s3 c hmem
    have qc := b8 c hic
    unfold icB at qc
    simp only [Bool.and_eq_true] at qc
    exact ⟨He.cls_ok qc.1, z1, z2, z3, z4, z5⟩
  · rw [hsub] at h
    have z' : L.ecs.isEmpty = false := z
    exact (ecs_facts (fun c hc => by simpa using (hse c hc).2) ce h (by intro e; rw [e] at z'; cases z')).1
  · have hm : c ∈ L.ecs := hc
    obtain ⟨q1, q2, q3, q4⟩ := ecs_cls ce hm
    exact ⟨q1, q2, q3, q4⟩
  · rw [hsub] at hb
    have hm : c ∈ L.ecs := hc
    exact (ecs_facts (fun c hc => by simpa using (hse c hc).2) ce hb (by intro e; rw [e] at hm; cases hm)).2.2.1
  · have h' : L.ecs.contains c = true := h
    exact (hse c (by simpa using h')).1
  · have h' : L.eqs.contains (c, f) = true := h
    have hmem : (c, f) ∈ L.eqs := by simpa using h'
    obtain ⟨k1, q, k2, k3, k4, k5, k6⟩ := mfN_ok (K := K) (s4 _ hmem)
    have mm := He.meth_ok (m1 q (List.mem_of_getElem? k3))
    rw [k4, k5] at mm
    refine ⟨k1, ?_, ?_, ?_⟩
    · rw [← hlen]
      have := (List.getElem?_eq_some_iff.mp k3).1
      dsimp only at this k2
      omega
    · rw [k6]
      exact mm.at_
    · rw [k6]
      exact mm.fn
/-- the law's promise -/
theorem Lw.law {L : Lw} {n k i : Nat} {F : FnI} {t : Nat} {N : List Str} (hsub : L.T.sub = L.subT) (hlen : L.fns.length + L.mfs.length = L.T.fns.length) (hf : ∀ (i : Nat) (q : Str × Nat × List Str) (F : FnI), L.fns[i]? = some q → L.T.fns[i]? = some F → L.fnB q F = true) (hi : L.ini.all L.inB = true) (hj : L.injB = true) (hm : ∀ (i : Nat) (q : Nat × Nat × Nat × List Str × Str) (F : FnI), L.mfs[i]? = some q → L.T.fns[L.fns.length + i]? = some F → L.mfB q F = true) (hst : L.stB = true)
    (h1 : L.fns[i]? = some (("law" : Str), t, ("script" : Str) :: N)) (h2 : L.T.fns[i]? = some F) (ha : F.ar = 1) (pu : ∀ ns : List Int, ns.length ≤ n → (cb L.T (k + 1)).cp i [.lst (ns.map P.int)] = .ok (.bl true)) (hn : n ≤ sizeLine) :
    ∀ (w : World) (mg : Str → Option Value) (fa : Addr) (h : Heap), (∃ K : PySem.W.Frag, K.In h ∧ L.Says K) → h.Ns mainGlobals mg → mg ("law" : Str) = some (.ref fa) →
      ∃ (K : PySem.W.Frag) (fd : FuncData) (sp : Sp), K.In h ∧ (∀ (s : Shared) (u : Value), BindsTo s fd ⟨[u], []⟩ [(("script" : Str), u)]) ∧
        (∀ (H : Hp) (a : Addr) (ns : List Int), ns.length ≤ n → SqL K H a (ns.map V.int) → sp [.ref a] H (fun v _ => v = .bl true) fun _ _ _ => False) ∧
        ∀ base : Heap, K.In base → base.Ns mainGlobals mg → FnOk L.pr w K mg base (L2.CX L.pr w) (2 * k + 4) fa fd [("script" : Str)] sp := by
  intro w mg fa h ⟨K, X, c⟩ Gn hmg
  obtain ⟨fd, dk⟩ := Lw.dok c (List.mem_of_getElem? h1) (hf i _ F h1 h2)
  rw [ha] at dk
  have dkmg := Lw.mgf X Gn c (List.mem_of_getElem? h1)
  have e : He.ga K ("law" : Str) = fa := by
    have z := dkmg.symm.trans hmg
    cases z
    rfl
  refine ⟨K, fd, spF (L.G K) (cb L.T (k + 1)) i, X, fun s u => ?_, fun H a ns hl hs => ?_, fun base hb hg => ?_⟩
  · have t1 := hf i _ F h1 h2
    unfold Lw.fnB at t1
    rw [ha] at t1
    simp only [Bool.and_eq_true, decide_eq_true_eq] at t1
    exact .of_eq (plain_bnd dk.fun_ t1.1.1.1.2 (by simp) [u] rfl)
  · refine .inl ⟨[], [.lst (ns.map P.int)], List.nodup_nil, fun a ha => (by cases ha), .one ?_, ?_⟩
    · have rows : ∀ ns : List Int, F2 (RD (L.G K) [] H) (ns.map P.int) (ns.map V.int) := fun ns => by
        induction ns with
        | nil => exact .nil
        | cons i r ih => exact .cons (by simp only [RD]) ih
      show RD (L.G K) [] H _ _
      unfold RD
      refine ⟨a, ns.map V.int, rfl, ?_, by rw [List.length_map]; omega, RDs_f2.mpr (rows ns)⟩
      rcases hs with hs | hs
      · exact .inl ⟨hs, fun z => by cases z⟩
      · exact .inr hs
    · show PostP (L.G K) [] H (fun v _ => v = .bl true) (fun _ _ _ => False) ((cb L.T (k + 1)).cp i [.lst (ns.map P.int)])
      rw [pu ns hl]
      exact fun H' v _ r => by simpa only [RD] using r
  · have wf := Lw.wf (w := w) (base := base) hsub hlen hf hi hj hm hst X Gn c
    have q := fn_step wf (fns_ok wf k) h2 dk
    rw [e] at q
    exact q
end Tw

set_option linter.all false
set_option Elab.async false
set_option maxRecDepth 100000
set_option maxHeartbeats 0
namespace Tw.K01
open PySem Tw
theorem fn_ok : ∀ (i : Nat) (q : Str × Nat × List Str) (F : FnI), L.fns[i]? = some q → L.T.fns[i]? = some F → L.fnB q F = true := by
  have h : ((L.fns.zip L.T.fns).all fun z => L.fnB z.1 z.2) = true := by decide +kernel
  intro i q F h1 h2
  refine List.all_eq_true.mp h (q, F) (List.mem_of_getElem? (i := i) ?_)
  rw [List.getElem?_zip_eq_some]
  exact ⟨h1, h2⟩
theorem in_ok : L.ini.all L.inB = true := by decide +kernel
theorem mf_ok : ∀ (i : Nat) (q : Nat × Nat × Nat × List Str × Str) (F : FnI), L.mfs[i]? = some q → L.T.fns[L.fns.length + i]? = some F → L.mfB q F = true := by
  have h : ((L.mfs.zip (L.T.fns.drop L.fns.length)).all fun z => L.mfB z.1 z.2) = true := by decide +kernel
  intro i q F h1 h2
  refine List.all_eq_true.mp h (q, F) (List.mem_of_getElem? (i := i) ?_)
  rw [List.getElem?_zip_eq_some, List.getElem?_drop]
  exact ⟨h1, h2⟩
theorem st_ok : L.stB = true := by decide +kernel
end Tw.K01

set_option linter.all false
set_option Elab.async false
set_option maxRecDepth 100000
set_option maxHeartbeats 1000000
/-! TwP: plain laws of the reading. -/
namespace Tw
open PySem
theorem Ps_map : ∀ xs : List P, Ps (xs.map D.p) = some xs
  | [] => rfl
  | x :: xs => by simp [Ps, Ps_map xs]
theorem asInts_map : ∀ ns : List Int, asInts (ns.map P.int) = some ns
  | [] => rfl
  | n :: ns => by simp [asInts, asInts_map ns]
theorem asInts_mapf {α : Type} (f : α → Int) : ∀ xs : List α, asInts (xs.map fun x => P.int (f x)) = some (xs.map f)
  | [] => rfl
  | n :: ns => by simp [asInts, asInts_mapf f ns]
theorem asBls_mapf {α : Type} (f : α → Bool) : ∀ xs : List α, asBls (xs.map fun x => P.bl (f x)) = some (xs.map f)
  | [] => rfl
  | n :: ns => by simp [asBls, asBls_mapf f ns]
/-- pure turns -/
theorem turns_fm {ok : Store → Bool} {f : D → Store → Out (Option D)} {S : Store} (hok : ok S = true) (g : D → Option D) : ∀ items : List D, (∀ x ∈ items, f x S = .ok (g x) S) → turns ok f items S = .ok (items.filterMap g) S
  | [], _ => by simp [turns, hok]
  | x :: xs, h => by
    rw [turns, hok, if_pos rfl, h x List.mem_cons_self, Out.bind_ok, turns_fm hok g xs fun y hy => h y (List.mem_cons_of_mem _ hy), Out.bind_ok, List.filterMap_cons]
    cases g x <;> rfl
def loF (C : Cb) (own : List Nat) (t : Tg) (ifs : List E) (elt : E) (en : En) : D → Store → Out (Option D) := fun x S2 => match setT t x (wipeE en own) with
      | some en' => (evIfs C ifs en' S2).bind fun k S3 => match k with
        | true => (ev C elt en' S3).bind fun y S4 => .ok (some y) S4
        | false => .ok none S3
      | none => .stuck
theorem lc_eq {C : Cb} {own : List Nat} {t : Tg} {src : E} {ifs : List E} {elt : E} {en : En} {S S0 : Store} {x : D} {w : Walk} {ds : List D} {S1 : Store} (h1 : ev C src en S = .ok x S0) (h2 : walkD S0 x = some w) (h3 : turns (still w) (loF C own t ifs elt en) w.items S0 = .ok ds S1) :
    ev C (.lc own t src ifs elt) en S = Out.of ((Ps ds).map fun xs => D.p (.lst xs)) S1 := by
  show mkL ((ev C src en S).bind fun x S0 => (Out.of (walkD S0 x) S0).bind fun w S1 => (turns (still w) (loF C own t ifs elt en) w.items S1).noexc) = _
  rw [h1, Out.bind_ok, h2, Out.of_some, Out.bind_ok, h3, Out.noexc_ok]
  rfl
theorem lcr_eq {C : Cb} {own : List Nat} {t : Tg} {xs : List E} {ifs : List E} {elt : E} {en : En} {S S0 : Store} {x : List D} {w : Walk} {ds : List D} {S1 : Store} (h1 : evs C xs en S = .ok x S0) (h2 : walkR x = some w) (h3 : turns (still w) (loF C own t ifs elt en) w.items S0 = .ok ds S1) :
    ev C (.lcr own t xs ifs elt) en S = Out.of ((Ps ds).map fun xs => D.p (.lst xs)) S1 := by
  show mkL ((evs C xs en S).bind fun x S0 => (Out.of (walkR x) S0).bind fun w S1 => (turns (still w) (loF C own t ifs elt en) w.items S1).noexc) = _
  rw [h1, Out.bind_ok, h2, Out.of_some, Out.bind_ok, h3, Out.noexc_ok]
  rfl
/-- rows of a list or a tuple -/
def rowsOf : P → Option (List P)
  | .lst xs => some xs
  | .tup xs => some xs
  | _ => none
/-- a comprehension over trees, one name, no test -/
theorem lc_map {C : Cb} {i : Nat} {src elt : E} {en : En} {S : Store} {p : P} {xs : List P} {h : P → P} (h1 : ev C src en S = .ok (.p p) S) (h2 : rowsOf p = some xs) (h3 : ∀ x ∈ xs, ev C elt (en.set i (some (.p x))) S = .ok (.p (h x)) S) :
    ev C (.lc [i] (.nm i) src [] elt) en S = .ok (.p (.lst (xs.map h))) S := by
  have e : turns (still (.its (xs.map D.p) none)) (loF C [i] (.nm i) [] elt en) (xs.map D.p) S = .ok ((xs.map h).map D.p) S := by
    rw [turns_fm (S := S) rfl (fun d => match d with | .p x => some (.p (h x)) | _ => none)]
    · congr 1
      rw [List.filterMap_map]
      show List.filterMap (fun x => some (D.p (h x))) xs = _
      rw [List.map_map]
      exact List.filterMap_eq_map (f := fun x => D.p (h x)) ▸ rfl
    · intro d hd
      obtain ⟨x, hx, rfl⟩ := List.mem_map.mp hd
      have q := h3 x hx
      have e2 : (wipeE en [i]).set i (some (.p x)) = en.set i (some (.p x)) := by simp [wipeE]
      simp [loF, setT, evIfs, e2, q]
  have w : walkD S (.p p) = some (.its (xs.map D.p) none) := by
    cases p <;> simp [rowsOf] at h2
    · subst h2; rfl
    · subst h2; rfl
  rw [lc_eq h1 w e, Ps_map]
  rfl
/-- .. with a test -/
theorem lc_filter {C : Cb} {i : Nat} {src elt c : E} {en : En} {S : Store} {p : P} {xs : List P} {q : P → Bool} {h : P → P} (h1 : ev C src en S = .ok (.p p) S) (h2 : rowsOf p = some xs) (h3 : ∀ x ∈ xs, ev C c (en.set i (some (.p x))) S = .ok (.p (.bl (q x))) S) (h4 : ∀ x ∈ xs, q x = true → ev C elt (en.set i (some (.p x))) S = .ok (.p (h x)) S) :
    ev C (.lc [i] (.nm i) src [c] elt) en S = .ok (.p (.lst ((xs.filter q).map h))) S := by
  have e : turns (still (.its (xs.map D.p) none)) (loF C [i] (.nm i) [c] elt en) (xs.map D.p) S = .ok (((xs.filter q).map h).map D.p) S := by
    rw [turns_fm (S := S) rfl (fun d => match d with | .p x => if q x then some (.p (h x)) else none | _ => none)]
    · congr 1
      rw [List.filterMap_map]
      show List.filterMap (fun x => if q x then some (D.p (h x)) else none) xs = _
      clear h1 h2 h3 h4
      induction xs with
      | nil => rfl
      | cons x xs ih =>
        rw [List.filterMap_cons, List.filter_cons]
        cases e : q x <;> simp [e, ih]
    · intro d hd
      obtain ⟨x, hx, rfl⟩ := List.mem_map.mp hd
      have q3 := h3 x hx
      have e2 : (wipeE en [i]).set i (some (.p x)) = en.set i (some (.p x)) := by simp [wipeE]
      cases e : q x with
      | true => simp [loF, setT, evIfs, e2, q3, cond, e, h4 x hx e]
      | false => simp [loF, setT, evIfs, e2, q3, cond, e]
  have w : walkD S (.p p) = some (.its (xs.map D.p) none) := by
    cases p <;> simp [rowsOf] at h2
    · subst h2; rfl
    · subst h2; rfl
  rw [lc_eq h1 w e, Ps_map]
  rfl
/-- the ints of a range -/
def rng (lo : Int) (n : Nat) : List Int := (List.range n).map fun j : Nat => lo + (j : Int)
theorem rngIts_eq (lo : Int) : ∀ (n i : Nat), rngIts lo 1 i n = ((List.range n).map fun (j : Nat) => lo + ((i + j : Nat) : Int)).map fun z => D.p (.int z)
  | 0, _ => rfl
  | n + 1, i => by
    rw [rngIts, rngIts_eq lo n (i + 1), List.range_succ_eq_map]
    simp only [List.map_cons, List.map_map, Int.mul_one, Nat.add_zero]
    congr 1
    refine List.map_congr_left fun j _ => ?_
    simp only [Function.comp]
    rw [show i + 1 + j = i + (j + 1) by omega]
theorem rngIts0 (lo : Int) (n : Nat) : rngIts lo 1 0 n = (rng lo n).map fun z => D.p (.int z) := by
  rw [rngIts_eq]
  simp [rng]
/-- over a range, pure -/
theorem lcr_map {C : Cb} {i : Nat} {as : List E} {elt : E} {en : En} {S : Store} {ds : List D} {lo : Int} {n : Nat} {h : Int → P} (h1 : evs C as en S = .ok ds S) (h2 : walkR ds = some (.rng lo n 1)) (h3 : ∀ z ∈ rng lo n, ev C elt (en.set i (some (.p (.int z)))) S = .ok (.p (h z)) S) :
    ev C (.lcr [i] (.nm i) as [] elt) en S = .ok (.p (.lst ((rng lo n).map h))) S := by
  have e : turns (still (.rng lo n 1)) (loF C [i] (.nm i) [] elt en) (Walk.items (.rng lo n 1)) S = .ok (((rng lo n).map h).map D.p) S := by
    show turns _ _ (rngIts lo 1 0 n) S = _
    rw [rngIts0, turns_fm (S := S) rfl (fun d => match d with | .p (.int z) => some (.p (h z)) | _ => none)]
    · congr 1
      rw [List.filterMap_map]
      show List.filterMap (fun x => some (D.p (h x))) _ = _
      rw [List.map_map]
      exact List.filterMap_eq_map (f := fun x => D.p (h x)) ▸ rfl
    · intro d hd
      obtain ⟨x, hx, rfl⟩ := List.mem_map.mp hd
      have q := h3 x hx
      have e2 : (wipeE en [i]).set i (some (.p (.int x))) = en.set i (some (.p (.int x))) := by simp [wipeE]
      simp [loF, setT, evIfs, e2, q]
  rw [lcr_eq h1 h2 e, Ps_map]
  rfl
/-- turns that draw: each item is good, the store stays of its kind -/
theorem turns_inv {ok : Store → Bool} {f : D → Store → Out (Option D)} {I : Store → Prop} {R : Int → Prop} (hok : ∀ S, I S → ok S = true) : ∀ (items : List D) (S : Store), I S → (∀ x ∈ items, ∀ S, I S → ∃ z S', f x S = .ok (some (.p (.int z))) S' ∧ R z ∧ I S') →
    ∃ zs : List Int, ∃ S', turns ok f items S = .ok (zs.map fun z => .p (.int z)) S' ∧ zs.length = items.length ∧ (∀ z ∈ zs, R z) ∧ I S'
  | [], S, hS, _ => ⟨[], S, by simp [turns, hok S hS], rfl, by simp, hS⟩
  | x :: xs, S, hS, h => by
    obtain ⟨z, S1, e1, r1, i1⟩ := h x List.mem_cons_self S hS
    obtain ⟨zs, S2, e2, l2, r2, i2⟩ := turns_inv hok xs S1 i1 fun y hy => h y (List.mem_cons_of_mem _ hy)
    refine ⟨z :: zs, S2, ?_, by simp [l2], ?_, i2⟩
    · rw [turns, hok S hS, if_pos rfl, e1, Out.bind_ok, e2, Out.bind_ok]
      rfl
    · intro y hy
      rcases List.mem_cons.mp hy with rfl | hy
      · exact r1
      · exact r2 y hy
/-! ### loops -/
theorem forL_inv {ok : Store → Bool} {f : D → En → Store → OS} {I : Nat → En → Store → Prop} (hok : ∀ i en S, I i en S → ok S = true) : ∀ (items : List D) (j : Nat) (en : En) (S : Store), I j en S →
    (∀ (i : Nat) (x : D) en S, items[i]? = some x → I (j + i) en S → ∃ en' S', f x en S = .nx en' S' ∧ I (j + i + 1) en' S') → ∃ en' S', forL ok f items en S = .nx en' S' ∧ I (j + items.length) en' S'
  | [], j, en, S, hI, _ => ⟨en, S, by simp [forL, hok j en S hI], hI⟩
  | x :: xs, j, en, S, hI, h => by
    obtain ⟨en1, S1, e1, i1⟩ := h 0 x en S rfl hI
    obtain ⟨en2, S2, e2, i2⟩ := forL_inv hok xs (j + 1) en1 S1 i1 fun i y en S hy hi => by
      have := h (i + 1) y en S (by simpa using hy) (by rw [show j + (i + 1) = j + 1 + i by omega]; exact hi)
      rw [show j + (i + 1) + 1 = j + 1 + i + 1 by omega] at this
      exact this
    refine ⟨en2, S2, ?_, by rw [List.length_cons, show j + (xs.length + 1) = j + 1 + xs.length by omega]; exact i2⟩
    rw [forL, hok j en S hI, if_pos rfl, e1]
    exact e2
/-! ### equality -/
theorem dats_ints : ∀ (ns : List Int) (n : Nat), P.dats (ns.map P.int) (n + 1) = true
  | [], n => rfl
  | i :: r, n => by
    rw [List.map_cons, P.dats, dats_ints r n]
    rfl
mutual
theorem eq_refl : ∀ (x : P) (n : Nat), x.dat n = true → P.eq x x = true
  | .non, _, _ => rfl
  | .bl a, _, _ => by simp [P.eq]
  | .int a, _, _ => by simp [P.eq]
  | .str a, _, _ => by simp [P.eq]
  | .tup xs, n, h => by
    have h' : P.dats xs n = true := h
    show P.eqs xs xs = true
    exact eqs_refl xs n h'
  | .lst xs, n, h => by
    have h' : P.dats xs n = true := h
    show P.eqs xs xs = true
    exact eqs_refl xs n h'
  | .ins c ks vs, n, h => by
    have h' : false = true := h
    cases h'
  | .err c x, n, h => by
    have h' : false = true := h
    cases h'
theorem eqs_refl : ∀ (xs : List P) (n : Nat), P.dats xs n = true → P.eqs xs xs = true
  | [], _, _ => rfl
  | x :: xs, 0, h => by
    have h' : false = true := h
    cases h'
  | x :: xs, n + 1, h => by
    have h' : (x.dat n && P.dats xs (n + 1)) = true := h
    rw [Bool.and_eq_true] at h'
    show (P.eq x x && P.eqs xs xs) = true
    rw [eq_refl x n h'.1, eqs_refl xs (n + 1) h'.2]
    rfl
end
theorem ne_same {x : P} (h : x.dat 60 = true) : cmpP .ne x x = some false := by
  have e : cmpP .ne x x = if x.dat 60 && x.dat 60 then some (!x.eq x) else none := by
    cases x <;> rfl
  rw [e, h, eq_refl x 60 h]
  rfl
theorem eq_same {x : P} (h : x.dat 60 = true) : cmpP .eq x x = some true := by
  have e : cmpP .eq x x = if x.dat 60 && x.dat 60 then some (x.eq x) else none := by
    cases x <;> rfl
  rw [e, h, eq_refl x 60 h]
  rfl
end Tw

set_option linter.all false
set_option Elab.async false
set_option maxRecDepth 100000
set_option maxHeartbeats 1000000
/-! TwQ: the reading, a step at a time. -/
namespace Tw
open PySem
section
variable {C : Cb} {en : En} {S : Store} {a b c : E} {xs : List E}
@[simp] theorem ev_var (i : Nat) : ev C (.var i) en S = Out.of (getV en i) S := rfl
@[simp] theorem ev_cst (x : P) : ev C (.cst x) en S = .ok (.p x) S := rfl
@[simp] theorem ev_exv (f i : Nat) : ev C (.exv f i) en S = exvD C f i en S := rfl
@[simp] theorem ev_no : ev C .no en S = .ok (.e 0 .non) S := rfl
@[simp] theorem ev_bin (o : BinO) : ev C (.bin o a b) en S = (ev C a en S).bind fun x S1 => (ev C b en S1).bind fun y S2 => binD o x y S2 := rfl
def negD (x : D) (S1 : Store) : Out D := match x with
    | .p (.int i) => .ok (.p (.int (-i))) S1
    | _ => .stuck
@[simp] theorem ev_neg : ev C (.neg a) en S = (ev C a en S).bind negD := rfl
@[simp] theorem ev_cmp (o : CmpO) : ev C (.cmp o a b) en S = (ev C a en S).bind fun x S1 => (ev C b en S1).bind fun y S2 => cmpD o x y S2 := rfl
@[simp] theorem ev_chn (o q : CmpO) : ev C (.chn o q a b c) en S = (ev C a en S).bind fun x S1 => (ev C b en S1).bind fun y S2 => (cmpD o x y S2).bind fun k S3 => (cond k S3).bind fun t S4 => if t then (ev C c en S4).bind fun z S5 => cmpD q y z S5 else .ok (.p (.bl false)) S4 := by
  show ((ev C a en S).bind fun x S1 => (ev C b en S1).bind fun y S2 => (cmpD o x y S2).bind fun k S3 =>
    match k with
    | .p (.bl true) => (ev C c en S3).bind fun z S4 => cmpD q y z S4
    | .p (.bl false) => .ok (.p (.bl false)) S3
    | _ => .stuck) = _
  congr 1
  funext x S1
  congr 1
  funext y S2
  congr 1
  funext k S3
  unfold cond
  split <;> simp_all
@[simp] theorem ev_and : ev C (.and xs) en S = evAnd C xs en S := rfl
@[simp] theorem ev_or : ev C (.or xs) en S = evOr C xs en S := rfl
@[simp] theorem ev_not : ev C (.not a) en S = (ev C a en S).bind fun x S1 => (cond x S1).bind fun b S2 => .ok (.p (.bl (!b))) S2 := rfl
@[simp] theorem ev_ifx : ev C (.ifx c a b) en S = (ev C c en S).bind fun x S1 => (cond x S1).bind fun k S2 => if k then ev C a en S2 else ev C b en S2 := by
  show ((ev C c en S).bind fun x S1 => (cond x S1).bind fun k S2 => match k with
    | true => ev C a en S2
    | false => ev C b en S2) = _
  congr 1
  funext x S1
  congr 1
  funext k S2
  cases k <;> rfl
@[simp] theorem ev_tup : ev C (.tup xs) en S = (evs C xs en S).bind fun ds S1 => Out.of ((Ps ds).map fun ys => D.p (.tup ys)) S1 := rfl
@[simp] theorem ev_lst : ev C (.lst xs) en S = mkL (evs C xs en S) := rfl
@[simp] theorem ev_mutL : ev C (.mut (.lst xs)) en S = (evs C xs en S).bind fun ds S1 => .ok (.r S1.length) (S1 ++ [.lst ds]) := rfl
@[simp] theorem ev_idx : ev C (.idx a b) en S = (ev C a en S).bind fun x S1 => (ev C b en S1).bind fun y S2 => idxD x y S2 := rfl
def slc1 (C : Cb) (hi : E) (en : En) (x l : D) (S2 : Store) : Out D := match bound l with
    | some _ => (ev C hi en S2).bind fun h S3 => match bound h with
      | some _ => slcD x l h S3
      | none => .stuck
    | none => .stuck
@[simp] theorem ev_slc : ev C (.slc a b c) en S = (ev C a en S).bind fun x S1 => (ev C b en S1).bind fun l S2 => slc1 C c en x l S2 := rfl
@[simp] theorem ev_call (f : Nat) : ev C (.call f xs) en S = (evs C xs en S).bind fun ds S1 => callD C f ds S1 := rfl
@[simp] theorem ev_calls (f : Nat) : ev C (.calls f xs) en S = (evs C xs en S).bind fun ds S1 => C.cs f ds S1 := rfl
@[simp] theorem ev_len : ev C (.len a) en S = (ev C a en S).bind fun x S1 => lenD x S1 := rfl
def biD (b : Bi) (ds : List D) (S1 : Store) : Out D := match views S1 ds with
    | some ys => Out.of ((biP b ys).map D.p) S1
    | none => .stuck
@[simp] theorem ev_bi (b : Bi) : ev C (.bi b xs) en S = (evs C xs en S).bind (biD b) := rfl
@[simp] theorem ev_lof : ev C (.lof a) en S = mkL ((ev C a en S).bind fun x S1 => lofL x S1) := rfl
@[simp] theorem ev_isi (ts : List Ty) : ev C (.isi a ts) en S = (ev C a en S).bind fun x S1 => isiD x ts S1 := rfl
@[simp] theorem ev_nil : evs C [] en S = .ok [] S := rfl
@[simp] theorem ev_cons : evs C (a :: xs) en S = (ev C a en S).bind fun x S1 => (evs C xs en S1).bind fun ys S2 => .ok (x :: ys) S2 := rfl
@[simp] theorem ev_and1 : evAnd C [a] en S = ev C a en S := rfl
@[simp] theorem ev_and2 : evAnd C (a :: b :: xs) en S = (ev C a en S).bind fun x S1 => (cond x S1).bind fun k S2 => if k then evAnd C (b :: xs) en S2 else .ok (.p (.bl false)) S2 := by
  show ((ev C a en S).bind fun x S1 => (cond x S1).bind fun k S2 => match k with
    | true => evAnd C (b :: xs) en S2
    | false => .ok (.p (.bl false)) S2) = _
  congr 1
  funext x S1
  congr 1
  funext k S2
  cases k <;> rfl
@[simp] theorem ev_or1 : evOr C [a] en S = ev C a en S := rfl
@[simp] theorem ev_or2 : evOr C (a :: b :: xs) en S = (ev C a en S).bind fun x S1 => (cond x S1).bind fun k S2 => if k then .ok (.p (.bl true)) S2 else evOr C (b :: xs) en S2 := by
  show ((ev C a en S).bind fun x S1 => (cond x S1).bind fun k S2 => match k with
    | true => .ok (.p (.bl true)) S2
    | false => evOr C (b :: xs) en S2) = _
  congr 1
  funext x S1
  congr 1
  funext k S2
  cases k <;> rfl
variable {p q : List Sm} {s : Sm} {t : Tg}
def setS (t : Tg) (en : En) (x : D) (S1 : Store) : OS := match setT t x en with
    | some en' => .nx en' S1
    | none => .stuck
@[simp] theorem ex_set : ex C (.set t a) en S = (ev C a en S).thn en (setS t en) := rfl
@[simp] theorem ex_par (i j : Nat) : ex C (.par i j a b) en S = (ev C a en S).thn en fun x S1 => (ev C b en S1).thn en fun y S2 => .nx ((en.set i (some x)).set j (some y)) S2 := rfl
@[simp] theorem ex_par3 (i j l : Nat) : ex C (.par3 i j l a b c) en S = (ev C a en S).thn en fun x S1 => (ev C b en S1).thn en fun y S2 => (ev C c en S2).thn en fun z S3 => .nx (((en.set i (some x)).set j (some y)).set l (some z)) S3 := rfl
def setiS (l k y : D) (en : En) (S3 : Store) : OS := match setiD l k y S3 with
    | some S4 => .nx en S4
    | none => .stuck
@[simp] theorem ex_seti : ex C (.seti a b c) en S = (ev C c en S).thn en fun y S1 => (ev C a en S1).thn en fun l S2 => (ev C b en S2).thn en fun k S3 => setiS l k y en S3 := rfl
@[simp] theorem ex_aug (i : Nat) (o : BinO) : ex C (.aug i o a) en S = (Out.of (getV en i) S).thn en fun x S1 => (ev C a en S1).thn en fun y S2 => (augD o x y S2).thn en fun z S3 => .nx (en.set i (some z)) S3 := rfl
@[simp] theorem ex_ex : ex C (.ex a) en S = (ev C a en S).thn en fun _ S1 => .nx en S1 := rfl
@[simp] theorem ex_ret : ex C (.ret a) en S = (ev C a en S).thn en fun d S1 => .rt d S1 := rfl
@[simp] theorem ex_ite : ex C (.ite c p q) en S = (ev C c en S).thn en fun d S1 => (cond d S1).thn en fun k S2 => if k then exs C p en S2 else exs C q en S2 := by
  show ((ev C c en S).thn en fun d S1 => (cond d S1).thn en fun k S2 => match k with
    | true => exs C p en S2
    | false => exs C q en S2) = _
  congr 1
  funext x S1
  congr 1
  funext k S2
  cases k <;> rfl
def loS (C : Cb) (t : Tg) (p : List Sm) : D → En → Store → OS := fun x en' S' => match setT t x en' with
      | some en2 => exs C p en2 S'
      | none => .stuck
@[simp] theorem ex_fr : ex C (.fr t a p) en S = (ev C a en S).thn en fun d S1 => (Out.of (walkD S1 d) S1).thn en fun w S2 => forL (still w) (loS C t p) w.items en S2 := rfl
@[simp] theorem ex_frr : ex C (.frr t xs p) en S = (evs C xs en S).thn en fun d S1 => (Out.of (walkR d) S1).thn en fun w S2 => forL (still w) (loS C t p) w.items en S2 := rfl
def rseS (c : Nat) (en : En) (d : D) (S1 : Store) : OS := match d with
    | .p x => .exc c x en S1
    | _ => .stuck
@[simp] theorem ex_rse (c : Nat) : ex C (.rse c a) en S = (ev C a en S).thn en (rseS c en) := rfl
def trS (C : Cb) (hs : List Hd) (o : OS) : OS := match o with
    | .exc c x en' S' => catchH C c x en' S' hs
    | o => o
@[simp] theorem ex_tr (hs : List Hd) : ex C (.tr p hs) en S = trS C hs (exs C p en S) := rfl
@[simp] theorem ex_nil : exs C [] en S = .nx en S := rfl
@[simp] theorem ex_cons : exs C (s :: p) en S = (ex C s en S).bind fun en' S' => exs C p en' S' := rfl
end
@[simp] theorem isIns_non : P.isIns .non = false := rfl
@[simp] theorem isIns_bl (b : Bool) : P.isIns (.bl b) = false := rfl
@[simp] theorem isIns_int (i : Int) : P.isIns (.int i) = false := rfl
@[simp] theorem isIns_str (s : Str) : P.isIns (.str s) = false := rfl
@[simp] theorem isIns_tup (xs : List P) : P.isIns (.tup xs) = false := rfl
@[simp] theorem isIns_lst (xs : List P) : P.isIns (.lst xs) = false := rfl
@[simp] theorem bi_abs (i : Int) : biP .abs [.int i] = some (.int (if i < 0 then -i else i)) := rfl
@[simp] theorem bi_int (i : Int) : biP .int [.int i] = some (.int i) := rfl
@[simp] theorem bi_intb (b : Bool) : biP .int [.bl b] = some (.int (if b then 1 else 0)) := rfl
@[simp] theorem bi_sum (ns : List Int) : biP .sum [.lst (ns.map P.int)] = some (.int ns.sum) := by simp [biP, asInts_map]
@[simp] theorem bi_sumf {α : Type} (f : α → Int) (ns : List α) : biP .sum [.lst (ns.map fun x => P.int (f x))] = some (.int (ns.map f).sum) := by simp [biP, asInts_mapf]
@[simp] theorem bi_all {α : Type} (f : α → Bool) (ns : List α) : biP .all [.lst (ns.map fun x => P.bl (f x))] = some (.bl (ns.all f)) := by simp [biP, asBls_mapf]
@[simp] theorem bi_any {α : Type} (f : α → Bool) (ns : List α) : biP .any [.lst (ns.map fun x => P.bl (f x))] = some (.bl (ns.any f)) := by simp [biP, asBls_mapf]
@[simp] theorem bi_max2 (i j : Int) : biP .max [.int i, .int j] = some (.int (if j > i then j else i)) := rfl
@[simp] theorem bi_min2 (i j : Int) : biP .min [.int i, .int j] = some (.int (if j < i then j else i)) := rfl
theorem bi_maxc (n : Int) (ns : List Int) : biP .max [.lst (P.int n :: ns.map P.int)] = some (.int (maxL n ns)) := by simp [biP, asInts, asInts_map]
theorem bi_minc (n : Int) (ns : List Int) : biP .min [.lst (P.int n :: ns.map P.int)] = some (.int (minL n ns)) := by simp [biP, asInts, asInts_map]
def maxD (d : Int) : List Int → Int
  | [] => d
  | n :: r => maxL n r
@[simp] theorem bi_max0 (ns : List Int) (d : Int) : biP .max0 [.lst (ns.map P.int), .int d] = some (.int (maxD d ns)) := by cases ns <;> simp [biP, asInts, asInts_map, maxD]
@[simp] theorem bi_tupl (xs : List P) : biP .tuple [.lst xs] = some (.tup xs) := rfl
@[simp] theorem bi_tupt (xs : List P) : biP .tuple [.tup xs] = some (.tup xs) := rfl
theorem idx_tup {S : Store} {xs : List P} {z : Int} {j : Nat} {v : P} (hz : z = j) (h : xs[j]? = some v) : idxD (.p (.tup xs)) (.p (.int z)) S = .ok (.p v) S := by
  subst hz
  have hj := (List.getElem?_eq_some_iff.mp h).1
  have e : ixAt xs.length (j : Int) = some j := by
    unfold ixAt
    rw [if_pos (by omega), if_pos (by omega)]
    rfl
  simp [idxD, e, h]
theorem idx_lst {S : Store} {xs : List P} {z : Int} {j : Nat} {v : P} (hz : z = j) (h : xs[j]? = some v) : idxD (.p (.lst xs)) (.p (.int z)) S = .ok (.p v) S := by
  subst hz
  have hj := (List.getElem?_eq_some_iff.mp h).1
  have e : ixAt xs.length (j : Int) = some j := by
    unfold ixAt
    rw [if_pos (by omega), if_pos (by omega)]
    rfl
  simp [idxD, e, h]
theorem walkR_2 {lo hi : Int} (h1 : near lo = true) (h2 : near hi = true) (h3 : (hi - lo).toNat ≤ line) : walkR [.p (.int lo), .p (.int hi)] = some (.rng lo (hi - lo).toNat 1) := by
  simp [walkR, h1, h2, h3]
theorem walkR_1 {hi : Int} (h2 : near hi = true) (h3 : hi.toNat ≤ line) : walkR [.p (.int hi)] = some (.rng 0 hi.toNat 1) := by
  simp [walkR, h2, h3]
theorem near_of {i : Int} (h : -1000000 ≤ i) (h2 : i ≤ 1000000) : near i = true := by
  unfold near two61
  simp only [Bool.and_eq_true, decide_eq_true_eq]
  omega
theorem cut_to {α : Type} (xs : List α) (m : Nat) : cut xs none (some (m : Int)) = xs.take m := by
  have e : sIx xs.length xs.length (some (m : Int)) = min m xs.length := by
    unfold sIx
    simp only
    rw [if_neg (by omega)]
    rfl
  unfold cut
  rw [e]
  show (xs.drop 0).take (min m xs.length - 0) = _
  rw [List.drop_zero, Nat.sub_zero]
  by_cases h : m ≤ xs.length
  · rw [show min m xs.length = m by omega]
  · rw [show min m xs.length = xs.length by omega, List.take_length, List.take_of_length_le (by omega)]
theorem cut_from {α : Type} (xs : List α) (m : Nat) : cut xs (some (m : Int)) none = xs.drop m := by
  unfold cut sIx
  simp
  rw [if_neg (by omega)]
  by_cases h : m ≤ xs.length
  · rw [show min m xs.length = m by omega, List.take_of_length_le (by rw [List.length_drop]; omega)]
  · rw [show min m xs.length = xs.length by omega, List.drop_of_length_le (Nat.le_refl _), List.drop_of_length_le (by omega)]
    simp
theorem cut_mid {α : Type} (xs : List α) (k m : Nat) (h : k + m ≤ xs.length) : cut xs (some (k : Int)) (some ((k : Int) + (m : Int))) = (xs.drop k).take m := by
  unfold cut sIx
  simp
  rw [if_neg (by omega), if_neg (by omega)]
  rw [show min k xs.length = k by omega, show min ((k : Int) + (m : Int)).toNat xs.length - k = m by omega]
theorem rng_get (lo : Int) (n i : Nat) (h : i < n) : (rngIts lo 1 0 n)[i]? = some (.p (.int (lo + i))) := by
  rw [rngIts0, List.getElem?_map]
  unfold rng
  rw [List.getElem?_map, List.getElem?_range h]
  rfl
theorem rng_len (lo : Int) (n : Nat) : (rngIts lo 1 0 n).length = n := by
  rw [rngIts0]
  simp [rng]
end Tw

set_option linter.all false
set_option Elab.async false
set_option maxRecDepth 100000
set_option maxHeartbeats 1000000
/-! TwR: runs of the reading, by rules. -/
namespace Tw
open PySem
/-- a loop whose every turn goes on -/
theorem for_keep {ok : Store → Bool} {f : D → En → Store → OS} {I : En → Store → Prop} (hok : ∀ S, ok S = true) (items : List D) {en : En} {S : Store} (h0 : I en S) (h : ∀ x ∈ items, ∀ en S, I en S → ∃ en' S', f x en S = .nx en' S' ∧ I en' S') : ∃ en' S', forL ok f items en S = .nx en' S' ∧ I en' S' := by
  obtain ⟨en', S', h1, h2⟩ := forL_inv (I := fun _ en S => I en S) (fun _ _ S _ => hok S) items 0 en S h0 fun i x en S hx hi => h x (List.mem_of_getElem? hx) en S hi
  exact ⟨en', S', h1, h2⟩
section
variable {C : Cb} {en en' : En} {S S1 S2 : Store} {a b c : E} {X Y : P} {p q r : List Sm}
theorem v_at {i : Nat} {x : P} (h : en[i]? = some (some (.p x))) : ev C (.var i) en S = .ok (.p x) S := by
  rw [ev_var, getV, h]
  rfl
theorem v_ref {i n : Nat} (h : en[i]? = some (some (.r n))) : ev C (.var i) en S = .ok (.r n) S := by
  rw [ev_var, getV, h]
  rfl
theorem v_set {i : Nat} {x : P} (h : i < en.length) : ev C (.var i) (en.set i (some (.p x))) S = .ok (.p x) S := v_at (List.getElem?_set_self h)
theorem e_ne (h1 : ev C a en S = .ok (.p X) S1) (h2 : ev C b en S1 = .ok (.p X) S2) (hd : X.dat 60 = true) : ev C (.cmp .ne a b) en S = .ok (.p (.bl false)) S2 := by
  rw [ev_cmp, h1, Out.bind_ok, h2, Out.bind_ok]
  show Out.of ((cmpP .ne X X).map fun k => D.p (.bl k)) S2 = _
  rw [ne_same hd]
  rfl
theorem e_eq (h1 : ev C a en S = .ok (.p X) S1) (h2 : ev C b en S1 = .ok (.p X) S2) (hd : X.dat 60 = true) : ev C (.cmp .eq a b) en S = .ok (.p (.bl true)) S2 := by
  rw [ev_cmp, h1, Out.bind_ok, h2, Out.bind_ok]
  show Out.of ((cmpP .eq X X).map fun k => D.p (.bl k)) S2 = _
  rw [eq_same hd]
  rfl
theorem e_or (h1 : ev C a en S = .ok (.p (.bl false)) S1) (h2 : ev C b en S1 = .ok (.p (.bl false)) S2) : ev C (.or [a, b]) en S = .ok (.p (.bl false)) S2 := by
  rw [ev_or, ev_or2, h1, Out.bind_ok]
  simp [cond, ev_or1, h2]
theorem e_call1 {f : Nat} (h1 : ev C a en S = .ok (.p X) S1) (hc : C.cp f [X] = .ok Y) : ev C (.call f [a]) en S = .ok (.p Y) S1 := by
  rw [ev_call, ev_cons, h1, Out.bind_ok, ev_nil]
  show callD C f [.p X] S1 = _
  simp [callD, Ps, hc]
theorem e_call2 {f : Nat} {Z : P} (h1 : ev C a en S = .ok (.p X) S1) (h2 : ev C b en S1 = .ok (.p Y) S2) (hc : C.cp f [X, Y] = .ok Z) : ev C (.call f [a, b]) en S = .ok (.p Z) S2 := by
  rw [ev_call, ev_cons, h1, Out.bind_ok, ev_cons, h2, Out.bind_ok, ev_nil]
  show callD C f [.p X, .p Y] S2 = _
  simp [callD, Ps, hc]
theorem e_call3 {f : Nat} {S3 : Store} {Z U : P} (h1 : ev C a en S = .ok (.p X) S1) (h2 : ev C b en S1 = .ok (.p Y) S2) (h3 : ev C c en S2 = .ok (.p Z) S3) (hc : C.cp f [X, Y, Z] = .ok U) : ev C (.call f [a, b, c]) en S = .ok (.p U) S3 := by
  rw [ev_call, ev_cons, h1, Out.bind_ok, ev_cons, h2, Out.bind_ok, ev_cons, h3, Out.bind_ok, ev_nil]
  show callD C f [.p X, .p Y, .p Z] S3 = _
  simp [callD, Ps, hc]
theorem e_tup1 (h1 : ev C a en S = .ok (.p X) S1) : ev C (.tup [a]) en S = .ok (.p (.tup [X])) S1 := by
  rw [ev_tup, ev_cons, h1, Out.bind_ok, ev_nil]
  rfl
theorem e_tup2 (h1 : ev C a en S = .ok (.p X) S1) (h2 : ev C b en S1 = .ok (.p Y) S2) : ev C (.tup [a, b]) en S = .ok (.p (.tup [X, Y])) S2 := by
  rw [ev_tup, ev_cons, h1, Out.bind_ok, ev_cons, h2, Out.bind_ok, ev_nil]
  rfl
theorem e_rep {x : Int} {n : Nat} (h1 : ev C a en S = .ok (.p (.int x)) S1) (h2 : ev C b en S1 = .ok (.p (.int n)) S2) (h4 : n < 2000000) : ev C (.bin .mul (.tup [a]) b) en S = .ok (.p (.tup ((List.replicate n x).map P.int))) S2 := by
  have e : binP .mul (.tup [.int x]) (.int n) = some (.tup ((List.replicate n x).map P.int)) := by
    show (if (!([P.int x].isEmpty) && decide (-2000000 < (n : Int)) && decide ((n : Int) < 2000000) && decide ((n : Int).toNat * 1 ≤ line)) then some (P.tup (List.replicate (n : Int).toNat [P.int x]).flatten) else none) = _
    have c : (!([P.int x].isEmpty) && decide (-2000000 < (n : Int)) && decide ((n : Int) < 2000000) && decide ((n : Int).toNat * 1 ≤ line)) = true := by
      have l : line = 16777216 := rfl
      simp only [Bool.and_eq_true, decide_eq_true_eq]
      exact ⟨⟨⟨rfl, by omega⟩, by omega⟩, by omega⟩
    rw [if_pos c, Int.toNat_natCast, List.flatten_replicate_singleton, List.map_replicate]
  rw [ev_bin, e_tup1 h1, Out.bind_ok, h2, Out.bind_ok]
  show Out.of ((binP .mul (.tup [.int x]) (.int n)).map D.p) S2 = _
  rw [e]
  rfl
theorem e_repT {xs : List P} {n : Nat} (h1 : ev C a en S = .ok (.p (.tup xs)) S1) (h2 : ev C b en S1 = .ok (.p (.int n)) S2) (h0 : xs ≠ []) (h3 : n < 2000000) (h4 : n * xs.length ≤ line) : ev C (.bin .mul a b) en S = .ok (.p (.tup (List.replicate n xs).flatten)) S2 := by
  have e : binP .mul (.tup xs) (.int n) = some (.tup (List.replicate n xs).flatten) := by
    show (if (!(xs.isEmpty) && decide (-2000000 < (n : Int)) && decide ((n : Int) < 2000000) && decide ((n : Int).toNat * xs.length ≤ line)) then some (P.tup (List.replicate (n : Int).toNat xs).flatten) else none) = _
    have c : (!(xs.isEmpty) && decide (-2000000 < (n : Int)) && decide ((n : Int) < 2000000) && decide ((n : Int).toNat * xs.length ≤ line)) = true := by
      simp only [Bool.and_eq_true, decide_eq_true_eq]
      refine ⟨⟨⟨?_, by omega⟩, by omega⟩, by rw [Int.toNat_natCast]; exact h4⟩
      cases xs with
      | nil => exact absurd rfl h0
      | cons _ _ => rfl
    rw [if_pos c, Int.toNat_natCast]
  rw [ev_bin, h1, Out.bind_ok, h2, Out.bind_ok]
  show Out.of ((binP .mul (.tup xs) (.int n)).map D.p) S2 = _
  rw [e]
  rfl
/-- if test: return False -/
theorem x_ite (h : ev C c en S = .ok (.p (.bl false)) S1) : ex C (.ite c p []) en S = .nx en S1 := by
  rw [ex_ite, h, Out.thn_ok]
  rfl
theorem x_then {s : Sm} (h : ex C s en S = .nx en' S1) : exs C (s :: r) en S = exs C r en' S1 := by
  rw [ex_cons, h, OS.bind_nx]
theorem x_set {i : Nat} {d : D} (h : ev C a en S = .ok d S1) : ex C (.set (.nm i) a) en S = .nx (en.set i (some d)) S1 := by
  rw [ex_set, h, Out.thn_ok]
  rfl
theorem lo_nm {i : Nat} {x : D} (h : exs C p (en.set i (some x)) S = .nx en' S1) : loS C (.nm i) p x en S = .nx en' S1 := h
theorem x_for {t : Tg} {xs : List P} {I : En → Store → Prop} (h1 : ev C a en S = .ok (.p (.lst xs)) S1) (h0 : I en S1) (h : ∀ x ∈ xs, ∀ en S, I en S → ∃ en' S', loS C t p (.p x) en S = .nx en' S' ∧ I en' S') : ∃ en' S', ex C (.fr t a p) en S = .nx en' S' ∧ I en' S' := by
  have f := for_keep (ok := still (.its (xs.map D.p) none)) (f := loS C t p) (fun _ => rfl) (xs.map D.p) h0 (by
    intro x hx
    obtain ⟨y, hy, rfl⟩ := List.mem_map.mp hx
    exact h y hy)
  obtain ⟨en', S', e, i⟩ := f
  refine ⟨en', S', ?_, i⟩
  rw [ex_fr, h1, Out.thn_ok]
  exact e
end
section
variable {C : Cb} {en en' : En} {S S1 S2 : Store} {a b c : E} {X Y : P} {p q r : List Sm}
theorem e_lst {xs : List E} {ys : List P} (h : evs C xs en S = .ok (ys.map D.p) S1) : ev C (.lst xs) en S = .ok (.p (.lst ys)) S1 := by
  rw [ev_lst, mkL, h, Out.bind_ok, Ps_map]
  rfl
theorem es_nil : evs C [] en S = .ok (([] : List P).map D.p) S := rfl
theorem es_cons {xs : List E} {ys : List P} (h1 : ev C a en S = .ok (.p X) S1) (h2 : evs C xs en S1 = .ok (ys.map D.p) S2) : evs C (a :: xs) en S = .ok ((X :: ys).map D.p) S2 := by
  rw [ev_cons, h1, Out.bind_ok, h2, Out.bind_ok]
  rfl
theorem e_addl {xs ys : List P} (h1 : ev C a en S = .ok (.p (.lst xs)) S1) (h2 : ev C b en S1 = .ok (.p (.lst ys)) S2) (h : xs.length + ys.length ≤ line) : ev C (.bin .add a b) en S = .ok (.p (.lst (xs ++ ys))) S2 := by
  rw [ev_bin, h1, Out.bind_ok, h2, Out.bind_ok]
  simp [binD, view, binP, h]
theorem e_addt {xs ys : List P} (h1 : ev C a en S = .ok (.p (.tup xs)) S1) (h2 : ev C b en S1 = .ok (.p (.tup ys)) S2) (h : xs.length + ys.length ≤ line) : ev C (.bin .add a b) en S = .ok (.p (.tup (xs ++ ys))) S2 := by
  rw [ev_bin, h1, Out.bind_ok, h2, Out.bind_ok]
  simp [binD, view, binP, h]
theorem e_lofT {xs : List P} (h1 : ev C a en S = .ok (.p (.tup xs)) S1) : ev C (.lof a) en S = .ok (.p (.lst xs)) S1 := by
  rw [ev_lof, h1, Out.bind_ok]
  show mkL (.ok (xs.map D.p) S1) = _
  simp [mkL, Ps_map]
end
section
variable {C : Cb} {en en' : En} {S S1 S2 S3 : Store} {a b c : E} {X Y : P} {p q r : List Sm}
theorem e_slcT {xs : List P} {l h : Int} (h1 : ev C a en S = .ok (.p (.tup xs)) S1) (h2 : ev C b en S1 = .ok (.p (.int l)) S2) (h3 : ev C c en S2 = .ok (.p (.int h)) S3) : ev C (.slc a b c) en S = .ok (.p (.tup (cut xs (some l) (some h)))) S3 := by
  rw [ev_slc, h1, Out.bind_ok, h2, Out.bind_ok]
  simp [slc1, bound, h3, slcD]
theorem e_slcTo {xs : List P} {h : Int} (h1 : ev C a en S = .ok (.p (.tup xs)) S1) (h3 : ev C c en S1 = .ok (.p (.int h)) S2) : ev C (.slc a .no c) en S = .ok (.p (.tup (cut xs none (some h)))) S2 := by
  rw [ev_slc, h1, Out.bind_ok, ev_no, Out.bind_ok]
  simp [slc1, bound, h3, slcD]
theorem e_slcFr {xs : List P} {l : Int} (h1 : ev C a en S = .ok (.p (.tup xs)) S1) (h2 : ev C b en S1 = .ok (.p (.int l)) S2) : ev C (.slc a b .no) en S = .ok (.p (.tup (cut xs (some l) none))) S2 := by
  rw [ev_slc, h1, Out.bind_ok, h2, Out.bind_ok]
  simp [slc1, bound, ev_no, slcD]
theorem e_addi {x y : Int} (h1 : ev C a en S = .ok (.p (.int x)) S1) (h2 : ev C b en S1 = .ok (.p (.int y)) S2) : ev C (.bin .add a b) en S = .ok (.p (.int (x + y))) S2 := by
  rw [ev_bin, h1, Out.bind_ok, h2, Out.bind_ok]
  rfl
theorem e_subi {x y : Int} (h1 : ev C a en S = .ok (.p (.int x)) S1) (h2 : ev C b en S1 = .ok (.p (.int y)) S2) : ev C (.bin .sub a b) en S = .ok (.p (.int (x - y))) S2 := by
  rw [ev_bin, h1, Out.bind_ok, h2, Out.bind_ok]
  rfl
theorem e_muli {x y : Int} (h1 : ev C a en S = .ok (.p (.int x)) S1) (h2 : ev C b en S1 = .ok (.p (.int y)) S2) (h : big x = true) : ev C (.bin .mul a b) en S = .ok (.p (.int (x * y))) S2 := by
  rw [ev_bin, h1, Out.bind_ok, h2, Out.bind_ok]
  simp [binD, view, binP, intOp, h]
theorem e_lenT {xs : List P} (h1 : ev C a en S = .ok (.p (.tup xs)) S1) : ev C (.len a) en S = .ok (.p (.int xs.length)) S1 := by
  rw [ev_len, h1, Out.bind_ok]
  rfl
theorem e_lt {x y : Int} (h1 : ev C a en S = .ok (.p (.int x)) S1) (h2 : ev C b en S1 = .ok (.p (.int y)) S2) : ev C (.cmp .lt a b) en S = .ok (.p (.bl (decide (x < y)))) S2 := by
  rw [ev_cmp, h1, Out.bind_ok, h2, Out.bind_ok]
  rfl
theorem e_gt {x y : Int} (h1 : ev C a en S = .ok (.p (.int x)) S1) (h2 : ev C b en S1 = .ok (.p (.int y)) S2) : ev C (.cmp .gt a b) en S = .ok (.p (.bl (decide (y < x)))) S2 := by
  rw [ev_cmp, h1, Out.bind_ok, h2, Out.bind_ok]
  rfl
theorem e_ge {x y : Int} (h1 : ev C a en S = .ok (.p (.int x)) S1) (h2 : ev C b en S1 = .ok (.p (.int y)) S2) : ev C (.cmp .ge a b) en S = .ok (.p (.bl (decide (y ≤ x)))) S2 := by
  rw [ev_cmp, h1, Out.bind_ok, h2, Out.bind_ok]
  rfl
theorem e_ifT (h1 : ev C c en S = .ok (.p (.bl true)) S1) : ev C (.ifx c a b) en S = ev C a en S1 := by
  rw [ev_ifx, h1, Out.bind_ok]
  rfl
theorem e_ifF (h1 : ev C c en S = .ok (.p (.bl false)) S1) : ev C (.ifx c a b) en S = ev C b en S1 := by
  rw [ev_ifx, h1, Out.bind_ok]
  rfl
theorem e_bi1 {B : Bi} (h1 : ev C a en S = .ok (.p X) S1) (h : biP B [X] = some Y) : ev C (.bi B [a]) en S = .ok (.p Y) S1 := by
  rw [ev_bi, ev_cons, h1, Out.bind_ok, ev_nil]
  show biD B [.p X] S1 = _
  simp [biD, views, view, h]
theorem x_iteT (h : ev C c en S = .ok (.p (.bl true)) S1) : ex C (.ite c p q) en S = exs C p en S1 := by
  rw [ex_ite, h, Out.thn_ok]
  rfl
theorem x_iteF (h : ev C c en S = .ok (.p (.bl false)) S1) : ex C (.ite c p q) en S = exs C q en S1 := by
  rw [ex_ite, h, Out.thn_ok]
  rfl
theorem x_one {s : Sm} (h : ex C s en S = .nx en' S1) : exs C [s] en S = .nx en' S1 := by
  rw [x_then h]
  rfl
theorem x_frr {t : Tg} {xs : List E} {n : Nat} {I : En → Store → Prop} (h1 : evs C xs en S = .ok [.p (.int n)] S1) (hn : n ≤ 1000000) (h0 : I en S1) (h : ∀ i : Nat, i < n → ∀ en S, I en S → ∃ en' S', loS C t p (.p (.int i)) en S = .nx en' S' ∧ I en' S') : ∃ en' S', ex C (.frr t xs p) en S = .nx en' S' ∧ I en' S' := by
  have w : walkR [.p (.int n)] = some (.rng 0 n 1) := by
    have := walkR_1 (hi := (n : Int)) (near_of (by omega) (by omega)) (by have l : line = 16777216 := rfl; omega)
    rw [Int.toNat_natCast] at this
    exact this
  have f := for_keep (ok := still (.rng 0 n 1)) (f := loS C t p) (fun _ => rfl) (rngIts 0 1 0 n) h0 (by
    intro x hx
    obtain ⟨i, hi⟩ := List.getElem?_of_mem hx
    have hl := (List.getElem?_eq_some_iff.mp hi).1
    rw [rng_len] at hl
    rw [rng_get _ _ _ hl] at hi
    cases hi
    rw [Int.zero_add]
    exact h i hl)
  obtain ⟨en', S', e, i⟩ := f
  refine ⟨en', S', ?_, i⟩
  rw [ex_frr, h1, Out.thn_ok, w]
  exact e
end
section
variable {C : Cb} {en en' : En} {S S1 S2 S3 : Store} {a b c : E} {X Y : P} {p q r : List Sm}
theorem e_and2 {x y : Bool} (h1 : ev C a en S = .ok (.p (.bl x)) S) (h2 : ev C b en S = .ok (.p (.bl y)) S) : ev C (.and [a, b]) en S = .ok (.p (.bl (x && y))) S := by
  rw [ev_and, ev_and2, h1, Out.bind_ok]
  cases x <;> simp [cond, ev_and1, h2]
theorem e_idxL {xs : List P} {z : Int} {j : Nat} (h1 : ev C a en S = .ok (.p (.lst xs)) S1) (h2 : ev C b en S1 = .ok (.p (.int z)) S2) (hz : z = j) (h : xs[j]? = some X) : ev C (.idx a b) en S = .ok (.p X) S2 := by
  rw [ev_idx, h1, Out.bind_ok, h2, Out.bind_ok]
  exact idx_lst hz h
theorem e_divi {x y : Int} (h1 : ev C a en S = .ok (.p (.int x)) S1) (h2 : ev C b en S1 = .ok (.p (.int y)) S2) (h : 0 < y) (h' : y < two64) : ev C (.bin .div a b) en S = .ok (.p (.int (x / y))) S2 := by
  rw [ev_bin, h1, Out.bind_ok, h2, Out.bind_ok]
  simp [binD, view, binP, intOp, h, h']
end
theorem e_tup4 {C : Cb} {en : En} {S S1 S2 S3 S4 : Store} {a b c d : E} {X Y Z U : P} (h1 : ev C a en S = .ok (.p X) S1) (h2 : ev C b en S1 = .ok (.p Y) S2) (h3 : ev C c en S2 = .ok (.p Z) S3) (h4 : ev C d en S3 = .ok (.p U) S4) : ev C (.tup [a, b, c, d]) en S = .ok (.p (.tup [X, Y, Z, U])) S4 := by
  rw [ev_tup, ev_cons, h1, Out.bind_ok, ev_cons, h2, Out.bind_ok, ev_cons, h3, Out.bind_ok, ev_cons, h4, Out.bind_ok, ev_nil]
  rfl
theorem loF_one {C : Cb} {i : Nat} {elt : E} {en : En} {x y : D} {S S1 : Store} (h : ev C elt (en.set i (some x)) S = .ok y S1) : loF C [i] (.nm i) [] elt en x S = .ok (some y) S1 := by
  have ew : (wipeE en [i]).set i (some x) = en.set i (some x) := by simp [wipeE]
  simp [loF, setT, evIfs, ew, h]
end Tw

set_option linter.all false
set_option Elab.async false
set_option maxRecDepth 100000
set_option maxHeartbeats 1000000
/-! TwS: the draws of the laws, for any store. -/
namespace Tw
open PySem
theorem cp_eq {T : Tab} {k f : Nat} {xs : List P} {F : FnI} (h : T.fns[f]? = some F) (hl : xs.length = F.ar) : (cb T (k + 1)).cp f xs = finP (exs (cb T k) F.body ((xs.map D.p).map some ++ List.replicate (F.n - F.ar) none) []) := by
  show (match T.fns[f]? with
      | some F => finP (runF (cb T k) F (xs.map D.p) [])
      | none => .stuck) = _
  rw [h]
  show finP (runF (cb T k) F (xs.map D.p) []) = _
  unfold runF
  rw [if_pos (by rw [List.length_map]; exact hl)]
theorem cs_eq {T : Tab} {k f : Nat} {ds : List D} {S : Store} {F : FnI} (h : T.fns[f]? = some F) (hl : ds.length = F.ar) : (cb T (k + 1)).cs f ds S = finS S.length (exs (cb T k) F.body (ds.map some ++ List.replicate (F.n - F.ar) none) S) := by
  show (match T.fns[f]? with
      | some F => finS S.length (runF (cb T k) F ds S)
      | none => .stuck) = _
  rw [h]
  show finS S.length (runF (cb T k) F ds S) = _
  unfold runF
  rw [if_pos hl]
def isNon : P → Bool
  | .non => true
  | _ => false
section
variable {C : Cb} {en en' : En} {S S1 S2 S3 : Store} {a b c : E} {X Y Z : P} {p q r : List Sm}
theorem e_modi {x y : Int} (h1 : ev C a en S = .ok (.p (.int x)) S1) (h2 : ev C b en S1 = .ok (.p (.int y)) S2) (h : 0 < y) : ev C (.bin .mod a b) en S = .ok (.p (.int (x % y))) S2 := by
  rw [ev_bin, h1, Out.bind_ok, h2, Out.bind_ok]
  simp [binD, view, binP, intOp, h]
theorem e_negi {x : Int} (h1 : ev C a en S = .ok (.p (.int x)) S1) : ev C (.neg a) en S = .ok (.p (.int (-x))) S1 := by
  rw [ev_neg, h1, Out.bind_ok]
  rfl
theorem e_idxT {xs : List P} {z : Int} {j : Nat} (h1 : ev C a en S = .ok (.p (.tup xs)) S1) (h2 : ev C b en S1 = .ok (.p (.int z)) S2) (hz : z = j) (h : xs[j]? = some X) : ev C (.idx a b) en S = .ok (.p X) S2 := by
  rw [ev_idx, h1, Out.bind_ok, h2, Out.bind_ok]
  exact idx_tup hz h
theorem e_bi2 {B : Bi} (h1 : ev C a en S = .ok (.p X) S1) (h2 : ev C b en S1 = .ok (.p Y) S2) (h : biP B [X, Y] = some Z) : ev C (.bi B [a, b]) en S = .ok (.p Z) S2 := by
  rw [ev_bi, ev_cons, h1, Out.bind_ok, ev_cons, h2, Out.bind_ok, ev_nil]
  show biD B [.p X, .p Y] S2 = _
  simp [biD, views, view, h]
theorem e_le {x y : Int} (h1 : ev C a en S = .ok (.p (.int x)) S1) (h2 : ev C b en S1 = .ok (.p (.int y)) S2) : ev C (.cmp .le a b) en S = .ok (.p (.bl (decide (x ≤ y)))) S2 := by
  rw [ev_cmp, h1, Out.bind_ok, h2, Out.bind_ok]
  rfl
theorem e_is {x : P} (h1 : ev C a en S = .ok (.p x) S1) : ev C (.cmp .is a (.cst .non)) en S = .ok (.p (.bl (isNon x))) S1 := by
  rw [ev_cmp, h1, Out.bind_ok, ev_cst, Out.bind_ok]
  cases x <;> rfl
theorem e_isn {x : P} (h1 : ev C a en S = .ok (.p x) S1) : ev C (.cmp .isn a (.cst .non)) en S = .ok (.p (.bl (!isNon x))) S1 := by
  rw [ev_cmp, h1, Out.bind_ok, ev_cst, Out.bind_ok]
  cases x <;> rfl
theorem e_notb {x : Bool} (h1 : ev C a en S = .ok (.p (.bl x)) S1) : ev C (.not a) en S = .ok (.p (.bl (!x))) S1 := by
  rw [ev_not, h1, Out.bind_ok]
  rfl
theorem e_notT (h1 : ev C a en S = .ok (.p (.bl true)) S1) : ev C (.not a) en S = .ok (.p (.bl false)) S1 := e_notb h1
theorem e_notF (h1 : ev C a en S = .ok (.p (.bl false)) S1) : ev C (.not a) en S = .ok (.p (.bl true)) S1 := e_notb h1
theorem e_tup3 (h1 : ev C a en S = .ok (.p X) S1) (h2 : ev C b en S1 = .ok (.p Y) S2) (h3 : ev C c en S2 = .ok (.p Z) S3) : ev C (.tup [a, b, c]) en S = .ok (.p (.tup [X, Y, Z])) S3 := by
  rw [ev_tup, ev_cons, h1, Out.bind_ok, ev_cons, h2, Out.bind_ok, ev_cons, h3, Out.bind_ok, ev_nil]
  rfl
/-- two comparisons of ints -/
theorem e_lele {x y z : Int} (h1 : ev C a en S = .ok (.p (.int x)) S) (h2 : ev C b en S = .ok (.p (.int y)) S) (h3 : ev C c en S = .ok (.p (.int z)) S) : ev C (.chn .le .le a b c) en S = .ok (.p (.bl (decide (x ≤ y) && decide (y ≤ z)))) S := by
  have e : cmpD .le (.p (.int x)) (.p (.int y)) S = .ok (.p (.bl (decide (x ≤ y)))) S := rfl
  have e' : cmpD .le (.p (.int y)) (.p (.int z)) S = .ok (.p (.bl (decide (y ≤ z)))) S := rfl
  rw [ev_chn, h1, Out.bind_ok, h2, Out.bind_ok, e, Out.bind_ok]
  cases q : decide (x ≤ y) with
  | true =>
    show (ev C c en S).bind _ = _
    rw [h3, Out.bind_ok, e']
    rfl
  | false => rfl
theorem e_lelt {x y z : Int} (h1 : ev C a en S = .ok (.p (.int x)) S) (h2 : ev C b en S = .ok (.p (.int y)) S) (h3 : ev C c en S = .ok (.p (.int z)) S) : ev C (.chn .le .lt a b c) en S = .ok (.p (.bl (decide (x ≤ y) && decide (y < z)))) S := by
  have e : cmpD .le (.p (.int x)) (.p (.int y)) S = .ok (.p (.bl (decide (x ≤ y)))) S := rfl
  have e' : cmpD .lt (.p (.int y)) (.p (.int z)) S = .ok (.p (.bl (decide (y < z)))) S := rfl
  rw [ev_chn, h1, Out.bind_ok, h2, Out.bind_ok, e, Out.bind_ok]
  cases q : decide (x ≤ y) with
  | true =>
    show (ev C c en S).bind _ = _
    rw [h3, Out.bind_ok, e']
    rfl
  | false => rfl
theorem e_andF (h1 : ev C a en S = .ok (.p (.bl false)) S1) : ev C (.and [a, b]) en S = .ok (.p (.bl false)) S1 := by
  rw [ev_and, ev_and2, h1, Out.bind_ok]
  rfl
theorem e_andT {x : D} (h1 : ev C a en S = .ok (.p (.bl true)) S1) (h2 : ev C b en S1 = .ok x S2) : ev C (.and [a, b]) en S = .ok x S2 := by
  rw [ev_and, ev_and2, h1, Out.bind_ok]
  show evAnd C [b] en S1 = _
  rw [ev_and1, h2]
theorem x_ex {d : D} (h : ev C a en S = .ok d S1) : ex C (.ex a) en S = .nx en S1 := by
  rw [ex_ex, h, Out.thn_ok]
theorem x_par {i j : Nat} {d e : D} (h1 : ev C a en S = .ok d S1) (h2 : ev C b en S1 = .ok e S2) : ex C (.par i j a b) en S = .nx ((en.set i (some d)).set j (some e)) S2 := by
  rw [ex_par, h1, Out.thn_ok, h2, Out.thn_ok]
theorem x_ret {d : D} (h : ev C a en S = .ok d S1) : exs C (.ret a :: r) en S = .rt d S1 := by
  rw [ex_cons, ex_ret, h, Out.thn_ok]
  rfl
theorem x_retI {d : D} (h : ev C a en S = .ok d S1) (hc : ev C c en S2 = .ok (.p (.bl true)) S) : exs C (.ite c [.ret a] q :: r) en S2 = .rt d S1 := by
  rw [ex_cons, x_iteT hc, x_ret h]
  rfl
/-- the items of a list that grows -/
abbrev Lp (xs : List P) : Cell := .lst (xs.map D.p)
theorem Lp_app (xs : List P) (x : P) : Lp (xs ++ [x]) = .lst (xs.map D.p ++ [.p x]) := by simp [Lp]
theorem e_app {n : Nat} {xs : List P} (h1 : ev C a en S = .ok (.r n) S) (h2 : ev C b en S = .ok (.p X) S1) (h : S[n]? = some (Lp xs)) (h' : S1[n]? = some (Lp xs)) (hl : xs.length ≤ 1000000) : ev C (.app a b) en S = .ok (.p .non) (S1.set n (Lp (xs ++ [X]))) := by
  have l : (xs.map D.p).length < line := by rw [List.length_map]; unfold line; omega
  show ((ev C a en S).bind fun d S1 => match isLst d S1 with
    | true => (ev C b en S1).bind fun y S2 => appD d y S2
    | false => .stuck) = _
  rw [h1, Out.bind_ok]
  have i : isLst (.r n) S = true := by simp [isLst, h]
  rw [i]
  show (ev C b en S).bind _ = _
  rw [h2, Out.bind_ok]
  simp only [appD, h', l, if_pos]
  rw [Lp_app]
end
theorem e_eqi {C : Cb} {en : En} {S S1 S2 : Store} {a b : E} {x y : Int} (h1 : ev C a en S = .ok (.p (.int x)) S1) (h2 : ev C b en S1 = .ok (.p (.int y)) S2) : ev C (.cmp .eq a b) en S = .ok (.p (.bl (decide (x = y)))) S2 := by
  rw [ev_cmp, h1, Out.bind_ok, h2, Out.bind_ok]
  show Out.ok (D.p (.bl (x == y))) S2 = _
  congr 3
theorem e_eqs {C : Cb} {en : En} {S S1 S2 : Store} {a b : E} {x y : Str} (h1 : ev C a en S = .ok (.p (.str x)) S1) (h2 : ev C b en S1 = .ok (.p (.str y)) S2) : ev C (.cmp .eq a b) en S = .ok (.p (.bl (x == y))) S2 := by
  rw [ev_cmp, h1, Out.bind_ok, h2, Out.bind_ok]
  rfl
theorem e_muliR {C : Cb} {en : En} {S S1 S2 : Store} {a b : E} {x y : Int} (h1 : ev C a en S = .ok (.p (.int x)) S1) (h2 : ev C b en S1 = .ok (.p (.int y)) S2) (h : big y = true) : ev C (.bin .mul a b) en S = .ok (.p (.int (x * y))) S2 := by
  rw [ev_bin, h1, Out.bind_ok, h2, Out.bind_ok]
  simp [binD, view, binP, intOp, h]
theorem lo_tp2 {C : Cb} {i j : Nat} {x y : P} {p : List Sm} {en en' : En} {S S1 : Store} (h : exs C p ((en.set i (some (.p x))).set j (some (.p y))) S = .nx en' S1) : loS C (.tp [i, j]) p (.p (.tup [x, y])) en S = .nx en' S1 := h
theorem fre_inv {C : Cb} {t : Tg} {body : List Sm} {I : Nat → En → Store → Prop} {a : E} {xs : List P} {en : En} {S S1 : Store} (h1 : ev C a en S = .ok (.p (.tup xs)) S1) (h0 : I 0 en S1) (h : ∀ (i : Nat) x, xs[i]? = some x → ∀ en S, I i en S → ∃ en' S', loS C t body (.p (.tup [.int i, x])) en S = .nx en' S' ∧ I (i + 1) en' S') :
    ∃ en' S', ex C (.fre t a body) en S = .nx en' S' ∧ I xs.length en' S' := by
  obtain ⟨en', S', e, i⟩ := forL_inv (ok := fun _ => true) (f := loS C t body) (I := I) (fun _ _ _ _ => rfl) (enumIts 0 xs) 0 en S1 h0 (by
    intro i x en S hx hi
    have hl := (List.getElem?_eq_some_iff.mp hx).1
    rw [enumIts_len] at hl
    have g := enumIts_get xs 0 i xs[i] (by simp [hl])
    rw [g, Nat.zero_add] at hx
    cases hx
    rw [Nat.zero_add] at hi ⊢
    exact h i _ (by simp [hl]) en S hi)
  rw [enumIts_len, Nat.zero_add] at i
  refine ⟨en', S', ?_, i⟩
  show (ev C a en S).thn en _ = _
  rw [h1, Out.thn_ok]
  exact e
/-- a range's loop that keeps I -/
theorem rng_inv {C : Cb} {t : Tg} {body : List Sm} {I : Nat → En → Store → Prop} {as : List E} {n : Nat} {en : En} {S S1 : Store} (h1 : evs C as en S = .ok [.p (.int n)] S1) (hn : n ≤ 1000000) (h0 : I 0 en S1) (h : ∀ i : Nat, i < n → ∀ en S, I i en S → ∃ en' S', loS C t body (.p (.int i)) en S = .nx en' S' ∧ I (i + 1) en' S') :
    ∃ en' S', ex C (.frr t as body) en S = .nx en' S' ∧ I n en' S' := by
  have w : walkR [.p (.int n)] = some (.rng 0 n 1) := by
    have := walkR_1 (hi := (n : Int)) (near_of (by omega) (by omega)) (by have l : line = 16777216 := rfl; omega)
    rw [Int.toNat_natCast] at this
    exact this
  obtain ⟨en', S', e, i⟩ := forL_inv (ok := still (.rng 0 n 1)) (f := loS C t body) (I := I) (fun _ _ _ _ => rfl) (rngIts 0 1 0 n) 0 en S1 h0 (by
    intro i x en S hx hi
    have hl := (List.getElem?_eq_some_iff.mp hx).1
    rw [rng_len] at hl
    rw [rng_get _ _ _ hl, Int.zero_add] at hx
    cases hx
    rw [Nat.zero_add] at hi ⊢
    exact h i hl en S hi)
  rw [rng_len, Nat.zero_add] at i
  refine ⟨en', S', ?_, i⟩
  rw [ex_frr, h1, Out.thn_ok, w]
  exact e
def bxc (a b : Int) : Cell := .lst [.p (.int a), .p (.int b)]
def takeB : List Sm := [(.ite (.cmp .gt (.idx (.var 0) (.cst (.int 0))) (.cst (.int 0))) [(.set (.nm 2) (.bin .mod (.bi .int [(.idx (.var 0) (.cst (.int 0)))]) (.var 1))), (.seti (.var 0) (.cst (.int 0)) (.bin .div (.idx (.var 0) (.cst (.int 0))) (.var 1))), (.ret (.var 2))] []), (.seti (.var 0) (.cst (.int 1)) (.bin .mod (.bi .int [(.bin .add (.bin .mul (.idx (.var 0) (.cst (.int 1))) (.cst (.int 39373))) (.cst (.int 69621)))]) (.cst (.int 2147483647)))),
  (.ret (.bin .mod (.bi .int [(.bin .div (.idx (.var 0) (.cst (.int 1))) (.cst (.int 8191)))]) (.var 1)))]
theorem take_run (C : Cb) {S : Store} {n : Nat} {a b : Int} (h : S[n]? = some (bxc a b)) (t : Int) (h1 : 0 < t) (h2 : t < two64) : ∃ v a' b', 0 ≤ v ∧ v < t ∧ exs C takeB [some (.r n), some (.p (.int t)), none] S = .rt (.p (.int v)) (S.set n (bxc a' b')) := by
  have bg : big 39373 = true := rfl
  have hn : n < S.length := (List.getElem?_eq_some_iff.mp h).1
  have hs : ∀ c, (S.set n c)[n]? = some c := fun c => List.getElem?_set_self hn
  clear hn
  unfold bxc at h
  by_cases ha : 0 < a
  · refine ⟨a % t, a / t, b, Int.emod_nonneg _ (by omega), Int.emod_lt_of_pos _ h1, ?_⟩
    simp [-List.map_map, -List.map_take, -List.map_drop, negD, slc1, biD, setS, setiS, setiD, rseS, trS, getV, callD, Ps, Ps_map, cond, cmpD, view, views, cmpP, binD, binP, intOp, augD, isiD, isTy, lenD, idxD, ixAt, bound, slcD, mkL, lofL, finP, frz, setT, asInts_map, asInts_mapf, asBls_mapf, runF, takeB, h, bxc, ha, h1, h2, lowD, trim]
  · refine ⟨(b * 39373 + 69621) % 2147483647 / 8191 % t, a, (b * 39373 + 69621) % 2147483647, Int.emod_nonneg _ (by omega), Int.emod_lt_of_pos _ h1, ?_⟩
    simp [-List.map_map, -List.map_take, -List.map_drop, negD, slc1, biD, setS, setiS, setiD, rseS, trS, getV, callD, Ps, Ps_map, cond, cmpD, view, views, cmpP, binD, binP, intOp, augD, isiD, isTy, lenD, idxD, ixAt, bound, slcD, mkL, lofL, finP, frz, setT, asInts_map, asInts_mapf, asBls_mapf, runF, takeB, h, hs, bxc, ha, h1, h2, bg, lowD, trim, two64]
theorem take_fin {C : Cb} {S : Store} {n : Nat} {a b : Int} (h : S[n]? = some (bxc a b)) (t : Int) (h1 : 0 < t) (h2 : t < two64) : ∃ v a' b', 0 ≤ v ∧ v < t ∧ finS S.length (exs C takeB [some (.r n), some (.p (.int t)), none] S) = .ok (.p (.int v)) (S.set n (bxc a' b')) := by
  obtain ⟨v, a', b', v1, v2, e⟩ := take_run C h t h1 h2
  refine ⟨v, a', b', v1, v2, ?_⟩
  rw [e]
  simp [finS, lowD, trim]
def pickB (f : Nat) : List Sm := [(.ret (.idx (.var 1) (.calls f [(.var 0), (.len (.var 1))])))]
theorem pick_fin {C : Cb} {f : Nat} {S : Store} {n : Nat} {a b : Int} (h : S[n]? = some (bxc a b)) (hC : ∀ t : Int, 0 < t → t < two64 → ∃ v a' b', 0 ≤ v ∧ v < t ∧ C.cs f [.r n, .p (.int t)] S = .ok (.p (.int v)) (S.set n (bxc a' b'))) (xs : List P) (hx : xs ≠ []) (hl : xs.length < 1000) :
    ∃ v a' b', v ∈ xs ∧ finS S.length (exs C (pickB f) [some (.r n), some (.p (.lst xs))] S) = .ok (.p v) (S.set n (bxc a' b')) := by
  have hp : 0 < xs.length := List.length_pos_iff.mpr hx
  obtain ⟨v, a', b', v1, v2, q⟩ := hC xs.length (by omega) (by unfold two64; omega)
  have hv : v.toNat < xs.length := by omega
  refine ⟨xs[v.toNat], a', b', List.getElem_mem hv, ?_⟩
  have i := idx_lst (S := S.set n (bxc a' b')) (z := v) (j := v.toNat) (xs := xs) (v := xs[v.toNat]) (by omega) (by simp [hv])
  have g : exs C (pickB f) [some (.r n), some (.p (.lst xs))] S = .rt (.p xs[v.toNat]) (S.set n (bxc a' b')) := by
    rw [pickB, ex_cons, ex_ret, ev_idx]
    simp [-List.map_map, -List.map_take, -List.map_drop, negD, slc1, biD, setS, setiS, setiD, rseS, trS, getV, callD, Ps, Ps_map, cond, cmpD, view, views, cmpP, binD, binP, intOp, augD, isiD, isTy, lenD, bound, slcD, mkL, lofL, finP, frz, setT, asInts_map, asInts_mapf, asBls_mapf, runF, q, i]
  rw [g]
  simp [finS, lowD, trim]
theorem pick_finT {C : Cb} {f : Nat} {S : Store} {n : Nat} {a b : Int} (h : S[n]? = some (bxc a b)) (hC : ∀ t : Int, 0 < t → t < two64 → ∃ v a' b', 0 ≤ v ∧ v < t ∧ C.cs f [.r n, .p (.int t)] S = .ok (.p (.int v)) (S.set n (bxc a' b'))) (xs : List P) (hx : xs ≠ []) (hl : xs.length < 1000) :
    ∃ v a' b', v ∈ xs ∧ finS S.length (exs C (pickB f) [some (.r n), some (.p (.tup xs))] S) = .ok (.p v) (S.set n (bxc a' b')) := by
  have hp : 0 < xs.length := List.length_pos_iff.mpr hx
  obtain ⟨v, a', b', v1, v2, q⟩ := hC xs.length (by omega) (by unfold two64; omega)
  have hv : v.toNat < xs.length := by omega
  refine ⟨xs[v.toNat], a', b', List.getElem_mem hv, ?_⟩
  have i := idx_tup (S := S.set n (bxc a' b')) (z := v) (j := v.toNat) (xs := xs) (v := xs[v.toNat]) (by omega) (by simp [hv])
  have g : exs C (pickB f) [some (.r n), some (.p (.tup xs))] S = .rt (.p xs[v.toNat]) (S.set n (bxc a' b')) := by
    rw [pickB, ex_cons, ex_ret, ev_idx]
    simp [-List.map_map, -List.map_take, -List.map_drop, negD, slc1, biD, setS, setiS, setiD, rseS, trS, getV, callD, Ps, Ps_map, cond, cmpD, view, views, cmpP, binD, binP, intOp, augD, isiD, isTy, lenD, bound, slcD, mkL, lofL, finP, frz, setT, asInts_map, asInts_mapf, asBls_mapf, runF, q, i]
  rw [g]
  simp [finS, lowD, trim]
def boxB : List Sm := [(.set (.nm 2) (.bin .add (.bin .mul (.cst (.int 7919)) (.var 1)) (.cst (.int 101)))),
  (.ite (.cmp .lt (.var 1) (.len (.var 0))) [(.set (.nm 2) (.bi .abs [(.idx (.var 0) (.var 1))]))] [(.ite (.cmp .gt (.len (.var 0)) (.cst (.int 0))) [(.set (.nm 2) (.bin .add (.bin .mul (.bin .mod (.bi .int [(.bi .abs [(.idx (.var 0) (.bin .mod (.bi .int [(.var 1)]) (.len (.var 0))))])]) (.cst (.int 1000000007))) (.cst (.int 31))) (.bin .mul (.cst (.int 7919)) (.var 1))))] [])]),
  (.set (.nm 3) (.idx (.lst [(.cst (.int 0)), (.var 2)]) (.bi .int [(.cmp .ge (.var 2) (.bin .pow (.cst (.int 10)) (.cst (.int 18))))]))),
  (.ret (.mut (.lst [(.var 3), (.bin .add (.bin .mod (.bi .int [(.bin .add (.bin .mul (.bin .mod (.bi .int [(.var 2)]) (.cst (.int 1000000007))) (.cst (.int 48271))) (.bin .mul (.cst (.int 613)) (.var 1)))]) (.cst (.int 2147483647))) (.cst (.int 1)))])))]
theorem box_end (C : Cb) (S : Store) (x : P) (k : Nat) (c : Int) : ∃ a b, exs C [(.set (.nm 3) (.idx (.lst [(.cst (.int 0)), (.var 2)]) (.bi .int [(.cmp .ge (.var 2) (.bin .pow (.cst (.int 10)) (.cst (.int 18))))]))),
  (.ret (.mut (.lst [(.var 3), (.bin .add (.bin .mod (.bi .int [(.bin .add (.bin .mul (.bin .mod (.bi .int [(.var 2)]) (.cst (.int 1000000007))) (.cst (.int 48271))) (.bin .mul (.cst (.int 613)) (.var 1)))]) (.cst (.int 2147483647))) (.cst (.int 1)))])))] [some (.p x), some (.p (.int k)), some (.p (.int c)), none] S = .rt (.r S.length) (S ++ [bxc a b]) := by
  have b2 : big 48271 = true := rfl
  have b3 : big 613 = true := rfl
  have b4 : big 10 = true := rfl
  by_cases hn : (1000000000000000000 : Int) ≤ c
  · refine ⟨c, (c % 1000000007 * 48271 + 613 * k) % 2147483647 + 1, ?_⟩
    simp [-List.map_map, -List.map_take, -List.map_drop, negD, slc1, biD, setS, setiS, setiD, rseS, trS, getV, callD, Ps, Ps_map, cond, cmpD, view, views, cmpP, binD, binP, intOp, augD, isiD, isTy, lenD, idxD, ixAt, bound, slcD, mkL, lofL, finP, frz, setT, asInts_map, asInts_mapf, asBls_mapf, runF, b2, b3, b4, bxc, hn]
  · refine ⟨0, (c % 1000000007 * 48271 + 613 * k) % 2147483647 + 1, ?_⟩
    simp [-List.map_map, -List.map_take, -List.map_drop, negD, slc1, biD, setS, setiS, setiD, rseS, trS, getV, callD, Ps, Ps_map, cond, cmpD, view, views, cmpP, binD, binP, intOp, augD, isiD, isTy, lenD, idxD, ixAt, bound, slcD, mkL, lofL, finP, frz, setT, asInts_map, asInts_mapf, asBls_mapf, runF, b2, b3, b4, bxc, hn]
theorem box_run (C : Cb) (S : Store) (ns : List Int) (k : Nat) (hk : k < 1000000) : ∃ a b, exs C boxB [some (.p (.lst (ns.map P.int))), some (.p (.int k)), none, none] S = .rt (.r S.length) (S ++ [bxc a b]) := by
  have b1 : big 7919 = true := rfl
  have b5 : big 31 = true := rfl
  have s1 : ex C (.set (.nm 2) (.bin .add (.bin .mul (.cst (.int 7919)) (.var 1)) (.cst (.int 101)))) [some (.p (.lst (ns.map P.int))), some (.p (.int k)), none, none] S = .nx [some (.p (.lst (ns.map P.int))), some (.p (.int k)), some (.p (.int (7919 * k + 101))), none] S := by
    simp [-List.map_map, -List.map_take, -List.map_drop, negD, slc1, biD, setS, setiS, setiD, rseS, trS, getV, callD, Ps, Ps_map, cond, cmpD, view, views, cmpP, binD, binP, intOp, augD, isiD, isTy, lenD, idxD, ixAt, bound, slcD, mkL, lofL, finP, frz, setT, asInts_map, asInts_mapf, asBls_mapf, runF, b1]
  rw [boxB, x_then s1]
  by_cases h1 : k < ns.length
  · have i := idx_lst (S := S) (z := (k : Int)) (j := k) (xs := ns.map P.int) (v := .int ns[k]) rfl (by simp [h1])
    have h1' : (k : Int) < (ns.length : Int) := by omega
    have s2 : ∃ c, ex C (.ite (.cmp .lt (.var 1) (.len (.var 0))) [(.set (.nm 2) (.bi .abs [(.idx (.var 0) (.var 1))]))] [(.ite (.cmp .gt (.len (.var 0)) (.cst (.int 0))) [(.set (.nm 2) (.bin .add (.bin .mul (.bin .mod (.bi .int [(.bi .abs [(.idx (.var 0) (.bin .mod (.bi .int [(.var 1)]) (.len (.var 0))))])]) (.cst (.int 1000000007))) (.cst (.int 31))) (.bin .mul (.cst (.int 7919)) (.var 1))))] [])]) [some (.p (.lst (ns.map P.int))), some (.p (.int k)), some (.p (.int (7919 * k + 101))), none] S = .nx [some (.p (.lst (ns.map P.int))), some (.p (.int k)), some (.p (.int c)), none] S := by
      refine ⟨if ns[k] < 0 then -ns[k] else ns[k], ?_⟩
      simp [-List.map_map, -List.map_take, -List.map_drop, negD, slc1, biD, setS, setiS, setiD, rseS, trS, getV, callD, Ps, Ps_map, cond, cmpD, view, views, cmpP, binD, binP, intOp, augD, isiD, isTy, lenD, bound, slcD, mkL, lofL, finP, frz, setT, asInts_map, asInts_mapf, asBls_mapf, runF, i, h1']
    obtain ⟨c, s2⟩ := s2
    rw [x_then s2]
    exact box_end C S _ k c
  · have h1' : ¬ (k : Int) < (ns.length : Int) := by omega
    have s2 : ∃ c, ex C (.ite (.cmp .lt (.var 1) (.len (.var 0))) [(.set (.nm 2) (.bi .abs [(.idx (.var 0) (.var 1))]))] [(.ite (.cmp .gt (.len (.var 0)) (.cst (.int 0))) [(.set (.nm 2) (.bin .add (.bin .mul (.bin .mod (.bi .int [(.bi .abs [(.idx (.var 0) (.bin .mod (.bi .int [(.var 1)]) (.len (.var 0))))])]) (.cst (.int 1000000007))) (.cst (.int 31))) (.bin .mul (.cst (.int 7919)) (.var 1))))] [])]) [some (.p (.lst (ns.map P.int))), some (.p (.int k)), some (.p (.int (7919 * k + 101))), none] S = .nx [some (.p (.lst (ns.map P.int))), some (.p (.int k)), some (.p (.int c)), none] S := by
      by_cases h0 : 0 < ns.length
      · have h0' : (0 : Int) < (ns.length : Int) := by omega
        have hm : ((k : Int) % (ns.length : Int)).toNat < ns.length := by
          have := Int.emod_lt_of_pos (k : Int) h0'
          have := Int.emod_nonneg (k : Int) (b := (ns.length : Int)) (by omega)
          omega
        have i := idx_lst (S := S) (z := (k : Int) % (ns.length : Int)) (j := ((k : Int) % (ns.length : Int)).toNat) (xs := ns.map P.int) (v := .int (ns[((k : Int) % (ns.length : Int)).toNat])) (by
          have := Int.emod_nonneg (k : Int) (b := (ns.length : Int)) (by omega)
          omega) (by simp [hm])
        refine ⟨(if ns[((k : Int) % (ns.length : Int)).toNat] < 0 then -ns[((k : Int) % (ns.length : Int)).toNat] else ns[((k : Int) % (ns.length : Int)).toNat]) % 1000000007 * 31 + 7919 * k, ?_⟩
        simp [-List.map_map, -List.map_take, -List.map_drop, negD, slc1, biD, setS, setiS, setiD, rseS, trS, getV, callD, Ps, Ps_map, cond, cmpD, view, views, cmpP, binD, binP, intOp, augD, isiD, isTy, lenD, bound, slcD, mkL, lofL, finP, frz, setT, asInts_map, asInts_mapf, asBls_mapf, runF, i, h1', h0', h0, b1, b5]
      · have h0' : ¬ (0 : Int) < (ns.length : Int) := by omega
        refine ⟨7919 * k + 101, ?_⟩
        simp [-List.map_map, -List.map_take, -List.map_drop, negD, slc1, biD, setS, setiS, setiD, rseS, trS, getV, callD, Ps, Ps_map, cond, cmpD, view, views, cmpP, binD, binP, intOp, augD, isiD, isTy, lenD, bound, slcD, mkL, lofL, finP, frz, setT, asInts_map, asInts_mapf, asBls_mapf, runF, h1', h0', h0]
    obtain ⟨c, s2⟩ := s2
    rw [x_then s2]
    exact box_end C S _ k c
theorem box_fin (C : Cb) (S : Store) (ns : List Int) (k : Nat) (hk : k < 1000000) : ∃ a b, finS S.length (exs C boxB [some (.p (.lst (ns.map P.int))), some (.p (.int k)), none, none] S) = .ok (.r S.length) (S ++ [bxc a b]) := by
  obtain ⟨a, b, e⟩ := box_run C S ns k hk
  refine ⟨a, b, ?_⟩
  rw [e]
  simp [finS, lowD]
end Tw

set_option linter.all false
set_option Elab.async false
set_option maxRecDepth 100000
set_option maxHeartbeats 1000000
/-! TwT: more rules; data of any kind. -/
namespace Tw
open PySem
section
variable {C : Cb} {en en' : En} {S S1 S2 S3 S4 : Store} {a b c d : E} {X Y Z U : P} {p q r : List Sm} {xs : List E}
theorem e_or1' : ev C (.or [a]) en S = ev C a en S := by rw [ev_or, ev_or1]
theorem e_orT (h : ev C a en S = .ok (.p (.bl true)) S1) : ev C (.or (a :: b :: xs)) en S = .ok (.p (.bl true)) S1 := by
  rw [ev_or, ev_or2, h, Out.bind_ok]
  rfl
theorem e_orN (h : ev C a en S = .ok (.p (.bl false)) S1) : ev C (.or (a :: b :: xs)) en S = ev C (.or (b :: xs)) en S1 := by
  rw [ev_or, ev_or2, h, Out.bind_ok]
  show evOr C (b :: xs) en S1 = _
  rw [ev_or]
theorem e_and1' : ev C (.and [a]) en S = ev C a en S := by rw [ev_and, ev_and1]
theorem e_andF' (h : ev C a en S = .ok (.p (.bl false)) S1) : ev C (.and (a :: b :: xs)) en S = .ok (.p (.bl false)) S1 := by
  rw [ev_and, ev_and2, h, Out.bind_ok]
  rfl
theorem e_andN (h : ev C a en S = .ok (.p (.bl true)) S1) : ev C (.and (a :: b :: xs)) en S = ev C (.and (b :: xs)) en S1 := by
  rw [ev_and, ev_and2, h, Out.bind_ok]
  show evAnd C (b :: xs) en S1 = _
  rw [ev_and]
theorem e_idxG {ys : List P} {z : Int} {j : Nat} (h1 : ev C a en S = .ok (.p (.tup ys)) S1) (h2 : ev C b en S1 = .ok (.p (.int z)) S2) (hz : ixAt ys.length z = some j) (h : ys[j]? = some X) : ev C (.idx a b) en S = .ok (.p X) S2 := by
  rw [ev_idx, h1, Out.bind_ok, h2, Out.bind_ok]
  simp [idxD, hz, h]
theorem e_isi {x : P} {ts : List Ty} (h1 : ev C a en S = .ok (.p x) S1) (h : x.isIns = false) : ev C (.isi a ts) en S = .ok (.p (.bl (ts.any fun t => isTy t x))) S1 := by
  rw [ev_isi, h1, Out.bind_ok]
  simp [isiD, view, h]
theorem e_eqd {x y : P} (h1 : ev C a en S = .ok (.p x) S1) (h2 : ev C b en S1 = .ok (.p y) S2) (hx : x.dat 60 = true) (hy : y.dat 60 = true) : ev C (.cmp .eq a b) en S = .ok (.p (.bl (x.eq y))) S2 := by
  rw [ev_cmp, h1, Out.bind_ok, h2, Out.bind_ok]
  have e : cmpP .eq x y = some (x.eq y) := by
    have : cmpP .eq x y = if x.dat 60 && y.dat 60 then some (x.eq y) else none := by cases x <;> cases y <;> rfl
    rw [this, hx, hy]
    rfl
  show Out.of ((cmpP .eq x y).map fun k => D.p (.bl k)) S2 = _
  rw [e]
  rfl
theorem e_ned {x y : P} (h1 : ev C a en S = .ok (.p x) S1) (h2 : ev C b en S1 = .ok (.p y) S2) (hx : x.dat 60 = true) (hy : y.dat 60 = true) : ev C (.cmp .ne a b) en S = .ok (.p (.bl (!x.eq y))) S2 := by
  rw [ev_cmp, h1, Out.bind_ok, h2, Out.bind_ok]
  have e : cmpP .ne x y = some (!x.eq y) := by
    have : cmpP .ne x y = if x.dat 60 && y.dat 60 then some (!x.eq y) else none := by cases x <;> cases y <;> rfl
    rw [this, hx, hy]
    rfl
  show Out.of ((cmpP .ne x y).map fun k => D.p (.bl k)) S2 = _
  rw [e]
  rfl
theorem eq_nilL (xs : List P) : P.eq (.lst xs) (.lst []) = xs.isEmpty := by cases xs <;> rfl
theorem eq_nilT (xs : List P) : P.eq (.tup xs) (.tup []) = xs.isEmpty := by cases xs <;> rfl
theorem e_nei {x y : Int} (h1 : ev C a en S = .ok (.p (.int x)) S1) (h2 : ev C b en S1 = .ok (.p (.int y)) S2) : ev C (.cmp .ne a b) en S = .ok (.p (.bl (decide (x ≠ y)))) S2 := by
  rw [ev_cmp, h1, Out.bind_ok, h2, Out.bind_ok]
  show Out.ok (D.p (.bl (!(x == y)))) S2 = _
  by_cases h : x = y <;> simp [h]
theorem e_nes {x y : Str} (h1 : ev C a en S = .ok (.p (.str x)) S1) (h2 : ev C b en S1 = .ok (.p (.str y)) S2) : ev C (.cmp .ne a b) en S = .ok (.p (.bl (!(x == y)))) S2 := by
  rw [ev_cmp, h1, Out.bind_ok, h2, Out.bind_ok]
  rfl
theorem e_shl {x y : Int} (h1 : ev C a en S = .ok (.p (.int x)) S1) (h2 : ev C b en S1 = .ok (.p (.int y)) S2) (h : 0 ≤ y) (h' : y ≤ 1000000) (hb : big x = true) : ev C (.bin .shl a b) en S = .ok (.p (.int (x * 2 ^ y.toNat))) S2 := by
  rw [ev_bin, h1, Out.bind_ok, h2, Out.bind_ok]
  simp [binD, view, binP, intOp, h, h', hb]
theorem e_inn' {x : P} {ys : List P} {t : Bool} (h1 : ev C a en S = .ok (.p x) S1) (h2 : ev C b en S1 = .ok (.p (.lst ys)) S2) (h : cmpP .inn x (.lst ys) = some t) : ev C (.cmp .inn a b) en S = .ok (.p (.bl t)) S2 := by
  rw [ev_cmp, h1, Out.bind_ok, h2, Out.bind_ok]
  show Out.of ((cmpP .inn x (.lst ys)).map fun k => D.p (.bl k)) S2 = _
  rw [h]
  rfl
theorem e_innT {x : P} {ys : List P} {t : Bool} (h1 : ev C a en S = .ok (.p x) S1) (h2 : ev C b en S1 = .ok (.p (.tup ys)) S2) (h : cmpP .inn x (.tup ys) = some t) : ev C (.cmp .inn a b) en S = .ok (.p (.bl t)) S2 := by
  rw [ev_cmp, h1, Out.bind_ok, h2, Out.bind_ok]
  show Out.of ((cmpP .inn x (.tup ys)).map fun k => D.p (.bl k)) S2 = _
  rw [h]
  rfl
theorem e_ltlt {x y z : Int} (h1 : ev C a en S = .ok (.p (.int x)) S) (h2 : ev C b en S = .ok (.p (.int y)) S) (h3 : ev C c en S = .ok (.p (.int z)) S) : ev C (.chn .lt .lt a b c) en S = .ok (.p (.bl (decide (x < y) && decide (y < z)))) S := by
  have e : cmpD .lt (.p (.int x)) (.p (.int y)) S = .ok (.p (.bl (decide (x < y)))) S := rfl
  have e' : cmpD .lt (.p (.int y)) (.p (.int z)) S = .ok (.p (.bl (decide (y < z)))) S := rfl
  rw [ev_chn, h1, Out.bind_ok, h2, Out.bind_ok, e, Out.bind_ok]
  cases q : decide (x < y) with
  | true =>
    show (ev C c en S).bind _ = _
    rw [h3, Out.bind_ok, e']
    rfl
  | false => rfl
theorem x_retI' {d : D} {q : List Sm} (h : ev C a en S = .ok d S1) (hc : ev C c en S2 = .ok (.p (.bl true)) S) : exs C (.ite c [.ret a] q :: r) en S2 = .rt d S1 := x_retI h hc
theorem x_skip (h : ev C c en S = .ok (.p (.bl false)) S1) : exs C (.ite c p [] :: r) en S = exs C r en S1 := by rw [x_then (x_ite h)]
theorem x_par3 {i j l : Nat} {d e f : D} (h1 : ev C a en S = .ok d S1) (h2 : ev C b en S1 = .ok e S2) (h3 : ev C c en S2 = .ok f S3) : ex C (.par3 i j l a b c) en S = .nx (((en.set i (some d)).set j (some e)).set l (some f)) S3 := by
  rw [ex_par3, h1, Out.thn_ok, h2, Out.thn_ok, h3, Out.thn_ok]
/-- over a range, with a test -/
theorem lcr_filter {i : Nat} {as : List E} {elt c : E} {ds : List D} {lo : Int} {n : Nat} {q : Int → Bool} {h : Int → P} (h1 : evs C as en S = .ok ds S) (h2 : walkR ds = some (.rng lo n 1)) (h3 : ∀ z ∈ rng lo n, ev C c (en.set i (some (.p (.int z)))) S = .ok (.p (.bl (q z))) S) (h4 : ∀ z ∈ rng lo n, q z = true → ev C elt (en.set i (some (.p (.int z)))) S = .ok (.p (h z)) S) :
    ev C (.lcr [i] (.nm i) as [c] elt) en S = .ok (.p (.lst (((rng lo n).filter q).map h))) S := by
  have e : turns (still (.rng lo n 1)) (loF C [i] (.nm i) [c] elt en) (Walk.items (.rng lo n 1)) S = .ok ((((rng lo n).filter q).map h).map D.p) S := by
    show turns _ _ (rngIts lo 1 0 n) S = _
    rw [rngIts0, turns_fm (S := S) rfl (fun d => match d with | .p (.int z) => if q z then some (.p (h z)) else none | _ => none)]
    · congr 1
      rw [List.filterMap_map]
      show List.filterMap (fun x => if q x then some (D.p (h x)) else none) (rng lo n) = _
      generalize rng lo n = xs
      induction xs with
      | nil => rfl
      | cons x xs ih =>
        rw [List.filterMap_cons, List.filter_cons]
        cases e : q x <;> simp [e, ih]
    · intro d hd
      obtain ⟨x, hx, rfl⟩ := List.mem_map.mp hd
      have q3 := h3 x hx
      have e2 : (wipeE en [i]).set i (some (.p (.int x))) = en.set i (some (.p (.int x))) := by simp [wipeE]
      cases e : q x with
      | true => simp [loF, setT, evIfs, e2, q3, cond, e, h4 x hx e]
      | false => simp [loF, setT, evIfs, e2, q3, cond, e]
  rw [lcr_eq h1 h2 e, Ps_map]
  rfl
end
/-- a whole number in bounds -/
def inB (lo hi : Int) : P → Bool
  | .int i => decide (lo ≤ i) && decide (i ≤ hi)
  | _ => false
theorem inB_int {lo hi : Int} {x : P} (h : inB lo hi x = true) : ∃ i, x = .int i ∧ lo ≤ i ∧ i ≤ hi := by
  cases x with
  | int i =>
    simp only [inB, Bool.and_eq_true, decide_eq_true_eq] at h
    exact ⟨i, rfl, h.1, h.2⟩
  | _ => cases h
def isI : P → Bool
  | .int _ => true
  | _ => false
theorem dat_ins {x : P} {n : Nat} (h : x.dat n = true) : x.isIns = false := by cases x <;> first | rfl | cases h
theorem dats_mem : ∀ {xs : List P} {n : Nat}, P.dats xs n = true → ∀ x ∈ xs, ∃ m, n = m + 1 ∧ x.dat m = true
  | [], _, _, x, hx => by cases hx
  | y :: ys, 0, h, x, hx => by cases h
  | y :: ys, n + 1, h, x, hx => by
    rw [P.dats, Bool.and_eq_true] at h
    rcases List.mem_cons.mp hx with rfl | hx
    · exact ⟨n, rfl, h.1⟩
    · obtain ⟨m, e, q⟩ := dats_mem h.2 x hx
      exact ⟨m, e, q⟩
mutual
theorem dat_up : ∀ (x : P) {n m : Nat}, x.dat n = true → n ≤ m → x.dat m = true
  | .non, _, _, _, _ => rfl
  | .bl _, _, _, _, _ => rfl
  | .int _, _, _, _, _ => rfl
  | .str _, _, _, _, _ => rfl
  | .tup xs, _, _, h, l => dats_up xs (n := _) (m := _) h l
  | .lst xs, _, _, h, l => dats_up xs (n := _) (m := _) h l
  | .ins c ks vs, _, _, h, _ => by cases h
theorem dats_up : ∀ (xs : List P) {n m : Nat}, P.dats xs n = true → n ≤ m → P.dats xs m = true
  | _, 0, _, h, _ => by
    unfold P.dats at h
    cases h
  | xs, n + 1, 0, h, l => by omega
  | [], n + 1, m + 1, _, _ => rfl
  | x :: xs, n + 1, m + 1, h, l => by
    rw [P.dats, Bool.and_eq_true] at h ⊢
    exact ⟨dat_up x h.1 (by omega), dats_up xs h.2 l⟩
end
theorem dats_of : ∀ {xs : List P} {n : Nat}, (∀ x ∈ xs, x.dat n = true) → P.dats xs (n + 1) = true
  | [], n, _ => rfl
  | x :: xs, n, h => by
    rw [P.dats, h x List.mem_cons_self, dats_of fun y hy => h y (List.mem_cons_of_mem _ hy)]
    rfl
theorem tup_mem {xs : List P} {n : Nat} (h : (P.tup xs).dat (n + 1) = true) : ∀ x ∈ xs, x.dat n = true := fun x hx => by
  obtain ⟨m, e, q⟩ := dats_mem (n := n + 1) h x hx
  cases e
  exact q
end Tw

set_option linter.all false
set_option Elab.async false
set_option maxRecDepth 100000
set_option maxHeartbeats 1000000
/-! TwU: rules that all laws use: walks, ranges, lists of the store, slices, equality. -/
namespace Tw
open PySem

theorem rng_mem {lo : Int} {n : Nat} {z : Int} (h : z ∈ rng lo n) : lo ≤ z ∧ z < lo + n := by
  unfold rng at h
  obtain ⟨j, hj, rfl⟩ := List.mem_map.mp h
  have := List.mem_range.mp hj
  omega

theorem big_of {i : Int} (h : -1000000000000 ≤ i ∧ i ≤ 1000000000000) : big i = true := by
  unfold big two64
  simp only [Bool.and_eq_true, decide_eq_true_eq]
  omega

theorem w1n {n : Nat} (h0 : 1 ≤ n) (h : n ≤ 1000000) : walkR [.p (.int 1), .p (.int n)] = some (.rng 1 (n - 1) 1) := by
  have := walkR_2 (lo := 1) (hi := n) (near_of (by omega) (by omega)) (near_of (by omega) (by omega)) (by unfold line; omega)
  rw [this, show ((n : Int) - 1).toNat = n - 1 by omega]

theorem w0n {n : Nat} (h : n ≤ 1000000) : walkR [.p (.int n)] = some (.rng 0 n 1) := by
  have := walkR_1 (hi := n) (near_of (by omega) (by omega)) (by unfold line; omega)
  rw [this, Int.toNat_natCast]

theorem ix_neg {n : Nat} (h : 1 ≤ n) : ixAt n (-1) = some (n - 1) := by
  unfold ixAt
  rw [if_neg (by omega), if_pos (by omega)]
  congr 1
  omega

theorem filt_range (c : Nat) : ∀ n, c ≤ n → (List.range n).filter (fun i => decide (i < c)) = List.range c
  | 0, h => by
    have : c = 0 := by omega
    subst this
    rfl
  | n + 1, h => by
    rw [List.range_succ, List.filter_append]
    rcases Nat.lt_or_ge n c with q | q
    · have : c = n + 1 := by omega
      subst this
      rw [List.filter_eq_self.mpr (fun i hi => by
        have := List.mem_range.mp hi
        rw [decide_eq_true_eq]
        omega), List.range_succ]
      simp
    · rw [filt_range c n q]
      have : ([n] : List Nat).filter (fun i => decide (i < c)) = [] := by
        rw [List.filter_cons, decide_eq_false (by omega)]
        rfl
      rw [this, List.append_nil]

theorem filt_of {n c : Nat} {q : Nat → Bool} (hc : c < n) (h : ∀ i < n, (q i = true ↔ i ≤ c)) : (List.range n).filter q = List.range (c + 1) := by
  rw [← filt_range (c + 1) n (by omega)]
  refine List.filter_congr fun i hi => ?_
  have := h i (List.mem_range.mp hi)
  rw [Bool.eq_iff_iff, this, decide_eq_true_eq]
  omega

theorem e_tupR {C : Cb} {en : En} {S : Store} {i n : Nat} {xs : List P} (h : en[i]? = some (some (.r n))) (hS : S[n]? = some (Lp xs)) : ev C (.bi .tuple [.var i]) en S = .ok (.p (.tup xs)) S := by
  rw [ev_bi, ev_cons, v_ref h, Out.bind_ok, ev_nil]
  show biD .tuple [.r n] S = _
  simp [biD, views, view, hS, Lp, Ps_map]
theorem e_idxR {C : Cb} {en : En} {S S1 S2 : Store} {a b : E} {n : Nat} {xs : List P} {z : Int} {j : Nat} {X : P} (h1 : ev C a en S = .ok (.r n) S1) (h2 : ev C b en S1 = .ok (.p (.int z)) S2) (hS : S2[n]? = some (Lp xs)) (hz : ixAt xs.length z = some j) (h : xs[j]? = some X) : ev C (.idx a b) en S = .ok (.p X) S2 := by
  rw [ev_idx, h1, Out.bind_ok, h2, Out.bind_ok]
  simp [idxD, hS, Lp, hz, h]
theorem g_ne {en : En} {i j : Nat} {v : Option D} {u : Option (Option D)} (h : i ≠ j) (h2 : en[j]? = u) : (en.set i v)[j]? = u := by rw [List.getElem?_set_ne h]; exact h2
theorem g_eq {en : En} {i : Nat} {v : Option D} (h : i < en.length) : (en.set i v)[i]? = some v := List.getElem?_set_self h
section
variable {C : Cb} {en : En} {S S1 S2 S3 S4 S5 S6 : Store} {a b c d e f : E} {X Y Z U V W R : P} {g : Nat}
theorem e_call0 (hc : C.cp g [] = .ok R) : ev C (.call g []) en S = .ok (.p R) S := by
  rw [ev_call, ev_nil, Out.bind_ok]
  show callD C g [] S = _
  simp [callD, Ps, hc]
theorem e_call5 (h1 : ev C a en S = .ok (.p X) S1) (h2 : ev C b en S1 = .ok (.p Y) S2) (h3 : ev C c en S2 = .ok (.p Z) S3) (h4 : ev C d en S3 = .ok (.p U) S4) (h5 : ev C e en S4 = .ok (.p V) S5) (hc : C.cp g [X, Y, Z, U, V] = .ok R) : ev C (.call g [a, b, c, d, e]) en S = .ok (.p R) S5 := by
  rw [ev_call, ev_cons, h1, Out.bind_ok, ev_cons, h2, Out.bind_ok, ev_cons, h3, Out.bind_ok, ev_cons, h4, Out.bind_ok, ev_cons, h5, Out.bind_ok, ev_nil]
  show callD C g [.p X, .p Y, .p Z, .p U, .p V] S5 = _
  simp [callD, Ps, hc]
theorem e_call6 (h1 : ev C a en S = .ok (.p X) S1) (h2 : ev C b en S1 = .ok (.p Y) S2) (h3 : ev C c en S2 = .ok (.p Z) S3) (h4 : ev C d en S3 = .ok (.p U) S4) (h5 : ev C e en S4 = .ok (.p V) S5) (h6 : ev C f en S5 = .ok (.p W) S6) (hc : C.cp g [X, Y, Z, U, V, W] = .ok R) : ev C (.call g [a, b, c, d, e, f]) en S = .ok (.p R) S6 := by
  rw [ev_call, ev_cons, h1, Out.bind_ok, ev_cons, h2, Out.bind_ok, ev_cons, h3, Out.bind_ok, ev_cons, h4, Out.bind_ok, ev_cons, h5, Out.bind_ok, ev_cons, h6, Out.bind_ok, ev_nil]
  show callD C g [.p X, .p Y, .p Z, .p U, .p V, .p W] S6 = _
  simp [callD, Ps, hc]
theorem e_mutL {es : List E} {ys : List P} (h : evs C es en S = .ok (ys.map D.p) S1) : ev C (.mut (.lst es)) en S = .ok (.r S1.length) (S1 ++ [Lp ys]) := by
  rw [ev_mutL, h, Out.bind_ok]
theorem e_mutA {n : Nat} {xs ys : List P} (h1 : ev C a en S = .ok (.r n) S1) (h2 : ev C b en S1 = .ok (.p (.lst ys)) S2) (hS : S2[n]? = some (Lp xs)) (hl : xs.length + ys.length ≤ 1000000) : ev C (.mut (.bin .add a b)) en S = .ok (.r S2.length) (S2 ++ [Lp (xs ++ ys)]) := by
  show ((ev C a en S).bind fun x S1 => (ev C b en S1).bind fun y S2 => match lsD S2 x, lsD S2 y with
    | some xs, some ys => if xs.length + ys.length ≤ line then Out.ok (xs ++ ys) S2 else .stuck
    | _, _ => .stuck).bind (fun ds S1 => Out.ok (D.r S1.length) (S1 ++ [.lst ds])) = _
  rw [h1, Out.bind_ok, h2, Out.bind_ok]
  have l : (xs.map D.p).length + (ys.map D.p).length ≤ line := by rw [List.length_map, List.length_map]; unfold line; omega
  simp only [lsD, hS, Lp, l, if_pos, Out.bind_ok, List.map_append]
/-- over a list of the store that stands still -/
theorem x_forR {t : Tg} {p : List Sm} {n : Nat} {xs : List P} {I : En → Prop} (h1 : ev C a en S = .ok (.r n) S) (hS : S[n]? = some (Lp xs)) (h0 : I en) (h : ∀ x ∈ xs, ∀ en, I en → ∃ en', loS C t p (.p x) en S = .nx en' S ∧ I en') : ∃ en', ex C (.fr t a p) en S = .nx en' S ∧ I en' := by
  have w : walkD S (.r n) = some (.its (xs.map D.p) (some n)) := by simp [walkD, hS, Lp]
  have ok : still (.its (xs.map D.p) (some n)) S = true := by simp [still, hS, Lp, D.sames_refl]
  obtain ⟨en', S', e, i, rfl⟩ := forL_inv (ok := still (.its (xs.map D.p) (some n))) (f := loS C t p) (I := fun _ en S' => I en ∧ S' = S) (fun _ _ _ hi => by rw [hi.2]; exact ok) (xs.map D.p) 0 en S ⟨h0, rfl⟩ (by
    rintro i x en S' hx ⟨hi, rfl⟩
    obtain ⟨y, hy, rfl⟩ := List.mem_map.mp (List.mem_of_getElem? hx)
    obtain ⟨en', q, hi'⟩ := h y hy en hi
    exact ⟨en', _, q, hi', rfl⟩)
  refine ⟨en', ?_, i⟩
  rw [ex_fr, h1, Out.thn_ok, w]
  exact e
end
section
variable {C : Cb} {en : En} {S S1 S2 : Store} {a b c : E} {r : List Sm}
theorem e_fld {c' f : Nat} {ks : List Nat} {vs : List P} {X : P} (h1 : ev C a en S = .ok (.p (.ins c' ks vs)) S1) (h : (ks.zip vs).lookup f = some X) : ev C (.fld f a) en S = .ok (.p X) S1 := by
  show ((ev C a en S).bind fun x S1 => fldD f x S1) = _
  rw [h1, Out.bind_ok]
  simp [fldD, h]
theorem e_mth0 {c' f : Nat} {ks : List Nat} {vs : List P} {X : P} (h1 : ev C a en S = .ok (.p (.ins c' ks vs)) S1) (h : C.cp f [.ins c' ks vs] = .ok X) : ev C (.mth c' f a []) en S = .ok (.p X) S1 := by
  show ((ev C a en S).bind fun x S1 => match isC c' x with
    | true => (evs C [] en S1).bind fun ds S2 => callD C f (x :: ds) S2
    | false => .stuck) = _
  rw [h1, Out.bind_ok]
  simp [isC, ev_nil, callD, Ps, h]
theorem x_setT {i j : Nat} {X Y : P} (h : ev C a en S = .ok (.p (.tup [X, Y])) S1) : ex C (.set (.tp [i, j]) a) en S = .nx ((en.set i (some (.p X))).set j (some (.p Y))) S1 := by
  rw [ex_set, h, Out.thn_ok]
  rfl
theorem x_setf {f n c' : Nat} {ks : List Nat} {vs : List D} {y : D} (h1 : ev C b en S = .ok y S1) (h2 : ev C a en S1 = .ok (.r n) S2) (h3 : S2[n]? = some (.ins c' ks vs)) (h4 : vs.length < 900) : ex C (.setf a f b) en S = .nx en (S2.set n (.ins c' (putA f y ks vs).1 (putA f y ks vs).2)) := by
  show ((ev C b en S).thn en fun y S1 => (ev C a en S1).thn en fun l S2 => match setfD l f y S2 with
    | some S3 => .nx en S3
    | none => .stuck) = _
  rw [h1, Out.thn_ok, h2, Out.thn_ok]
  simp [setfD, h3, h4]
theorem x_rseI {k : Nat} {X : P} {q : List Sm} (h1 : ev C a en S1 = .ok (.p X) S2) (hc : ev C c en S = .ok (.p (.bl true)) S1) : exs C (.ite c [.rse k a] q :: r) en S = .exc k X en S2 := by
  rw [ex_cons, x_iteT hc, ex_cons, ex_rse, h1]
  rfl
/-- a range from one -/
theorem rng_inv2 {t : Tg} {body : List Sm} {I : Nat → En → Store → Prop} {as : List E} {n : Nat} (h1 : evs C as en S = .ok [.p (.int 1), .p (.int n)] S1) (h0' : 1 ≤ n) (hn : n ≤ 1000000) (h0 : I 0 en S1) (h : ∀ i : Nat, i + 1 < n → ∀ en S, I i en S → ∃ en' S', loS C t body (.p (.int ((i + 1 : Nat) : Int))) en S = .nx en' S' ∧ I (i + 1) en' S') :
    ∃ en' S', ex C (.frr t as body) en S = .nx en' S' ∧ I (n - 1) en' S' := by
  obtain ⟨en', S', e, i⟩ := forL_inv (ok := still (.rng 1 (n - 1) 1)) (f := loS C t body) (I := I) (fun _ _ _ _ => rfl) (rngIts 1 1 0 (n - 1)) 0 en S1 h0 (by
    intro i x en S hx hi
    have hl := (List.getElem?_eq_some_iff.mp hx).1
    rw [rng_len] at hl
    rw [rng_get _ _ _ hl, show (1 : Int) + (i : Int) = ((i + 1 : Nat) : Int) by omega] at hx
    cases hx
    rw [Nat.zero_add] at hi ⊢
    exact h i (by omega) en S hi)
  rw [rng_len, Nat.zero_add] at i
  refine ⟨en', S', ?_, i⟩
  rw [ex_frr, h1, Out.thn_ok, w1n h0' hn]
  exact e
/-- over a tuple, whose turns go on or end with the same -/
theorem forL_all {ok : Store → Bool} {f : D → En → Store → OS} {I : En → Prop} {q : P → Bool} {d : D} (hok : ok S = true) : ∀ (xs : List P) (en : En), I en → (∀ x ∈ xs, ∀ en, I en → (q x = true → ∃ en', f (.p x) en S = .nx en' S ∧ I en') ∧ (q x = false → f (.p x) en S = .rt d S)) →
    (xs.all q = true → ∃ en', forL ok f (xs.map D.p) en S = .nx en' S ∧ I en') ∧ (xs.all q = false → forL ok f (xs.map D.p) en S = .rt d S)
  | [], en, hi, h => ⟨fun _ => ⟨en, by simp [forL, hok], hi⟩, fun h => by cases h⟩
  | x :: xs, en, hi, h => by
    obtain ⟨h1, h2⟩ := h x List.mem_cons_self en hi
    rw [List.all_cons, List.map_cons, forL, if_pos hok]
    cases q1 : q x with
    | false =>
      rw [h2 q1]
      exact ⟨fun h => by simp at h, fun _ => rfl⟩
    | true =>
      obtain ⟨en', e, hi'⟩ := h1 q1
      rw [e, Bool.true_and]
      exact forL_all hok xs en' hi' fun y hy => h y (List.mem_cons_of_mem _ hy)
theorem x_forT {t : Tg} {p : List Sm} {xs : List P} {I : En → Prop} {q : P → Bool} {d : D} (h1 : ev C a en S = .ok (.p (.tup xs)) S) (hi : I en) (h : ∀ x ∈ xs, ∀ en, I en → (q x = true → ∃ en', loS C t p (.p x) en S = .nx en' S ∧ I en') ∧ (q x = false → loS C t p (.p x) en S = .rt d S)) :
    (xs.all q = true → ∃ en', ex C (.fr t a p) en S = .nx en' S ∧ I en') ∧ (xs.all q = false → ex C (.fr t a p) en S = .rt d S) := by
  rw [ex_fr, h1, Out.thn_ok]
  exact forL_all (ok := still (.its (xs.map D.p) none)) rfl xs en hi h
end
section
variable {C : Cb} {en : En} {S S1 S2 : Store} {a b c : E} {r : List Sm}
/-- over a list or a tuple, turn by turn -/
theorem x_forI {t : Tg} {p : List Sm} {q : P} {xs : List P} {I : Nat → En → Store → Prop} (h1 : ev C a en S = .ok (.p q) S1) (hq : rowsOf q = some xs) (h0 : I 0 en S1) (h : ∀ (i : Nat) x, xs[i]? = some x → ∀ en S, I i en S → ∃ en' S', loS C t p (.p x) en S = .nx en' S' ∧ I (i + 1) en' S') :
    ∃ en' S', ex C (.fr t a p) en S = .nx en' S' ∧ I xs.length en' S' := by
  have w : walkD S1 (.p q) = some (.its (xs.map D.p) none) := by
    cases q <;> simp [rowsOf] at hq
    · subst hq; rfl
    · subst hq; rfl
  obtain ⟨en', S', e, i⟩ := forL_inv (ok := still (.its (xs.map D.p) none)) (f := loS C t p) (I := I) (fun _ _ _ _ => rfl) (xs.map D.p) 0 en S1 h0 (by
    intro i x en S hx hi
    rw [List.getElem?_map] at hx
    cases hy : xs[i]? with
    | none => rw [hy] at hx; cases hx
    | some y =>
      rw [hy] at hx
      cases hx
      rw [Nat.zero_add] at hi ⊢
      exact h i y hy en S hi)
  rw [List.length_map, Nat.zero_add] at i
  refine ⟨en', S', ?_, i⟩
  rw [ex_fr, h1, Out.thn_ok, w]
  exact e
end
/-! the greatest of a row of places -/
theorem maxL_snoc : ∀ (l : List Int) (i x : Int), maxL i (l ++ [x]) = if maxL i l < x then x else maxL i l
  | [], i, x => rfl
  | y :: l, i, x => by
    show maxL (if i < y then y else i) (l ++ [x]) = _
    rw [maxL_snoc]
    rfl
theorem maxL_range : ∀ c : Nat, maxL 0 ((List.range c).map fun i : Nat => ((i + 1 : Nat) : Int)) = c
  | 0 => rfl
  | c + 1 => by
    rw [List.range_succ, List.map_append, List.map_cons, List.map_nil, maxL_snoc, maxL_range c, if_pos (by omega)]
theorem bi_maxR (c : Nat) : biP .max [.lst ((List.range (c + 1)).map fun i : Nat => P.int i)] = some (.int c) := by
  have e : (List.range (c + 1)).map (fun i : Nat => P.int i) = P.int 0 :: (((List.range c).map fun i : Nat => ((i + 1 : Nat) : Int)).map P.int) := by
    rw [List.range_succ_eq_map, List.map_cons, List.map_map, List.map_map]
    rfl
  rw [e, bi_maxc, maxL_range]
theorem rng_filt {n c : Nat} {q : Int → Bool} (hc : c < n) (h : ∀ i : Nat, i < n → (q i = true ↔ i ≤ c)) : ((rng 0 n).filter q).map P.int = (List.range (c + 1)).map fun i : Nat => P.int i := by
  unfold rng
  rw [show (fun j : Nat => (0 : Int) + (j : Int)) = fun j : Nat => (j : Int) from funext fun j => by omega]
  rw [List.filter_map, List.map_map, filt_of (q := q ∘ fun j : Nat => (j : Int)) hc (fun i hi => h i hi)]
  rfl
section
variable {C : Cb} {en : En} {S S1 S2 : Store} {a b c : E} {r : List Sm}
/-- a range from lo on -/
theorem rng_inv3 {t : Tg} {body : List Sm} {I : Nat → En → Store → Prop} {as : List E} {lo n : Nat} (h1 : evs C as en S = .ok [.p (.int lo), .p (.int ((lo + n : Nat) : Int))] S1) (hn : lo + n ≤ 1000000) (h0 : I 0 en S1) (h : ∀ i : Nat, i < n → ∀ en S, I i en S → ∃ en' S', loS C t body (.p (.int ((lo + i : Nat) : Int))) en S = .nx en' S' ∧ I (i + 1) en' S') :
    ∃ en' S', ex C (.frr t as body) en S = .nx en' S' ∧ I n en' S' := by
  have w : walkR [.p (.int lo), .p (.int ((lo + n : Nat) : Int))] = some (.rng lo n 1) := by
    have := walkR_2 (lo := lo) (hi := ((lo + n : Nat) : Int)) (near_of (by omega) (by omega)) (near_of (by omega) (by omega)) (by unfold line; omega)
    rw [this, show (((lo + n : Nat) : Int) - (lo : Int)).toNat = n by omega]
  obtain ⟨en', S', e, i⟩ := forL_inv (ok := still (.rng lo n 1)) (f := loS C t body) (I := I) (fun _ _ _ _ => rfl) (rngIts lo 1 0 n) 0 en S1 h0 (by
    intro i x en S hx hi
    have hl := (List.getElem?_eq_some_iff.mp hx).1
    rw [rng_len] at hl
    rw [rng_get _ _ _ hl, show (lo : Int) + (i : Int) = ((lo + i : Nat) : Int) by omega] at hx
    cases hx
    rw [Nat.zero_add] at hi ⊢
    exact h i hl en S hi)
  rw [rng_len, Nat.zero_add] at i
  refine ⟨en', S', ?_, i⟩
  rw [ex_frr, h1, Out.thn_ok, w]
  exact e
/-- a loop that is left by return at its t-th turn -/
theorem forL_upto {ok : Store → Bool} {f : D → En → Store → OS} {I : Nat → En → Store → Prop} {o : OS} (hok : ∀ S, ok S = true) (hd : ∀ en S, o ≠ .nx en S) (hd2 : ∀ en S, o ≠ .ct en S) (hd3 : ∀ en S, o ≠ .bk en S) {t : Nat} : ∀ (items : List D) (j : Nat) (en : En) (S : Store), j ≤ t → t < j + items.length → I j en S →
    (∀ (i : Nat) x en S, items[i]? = some x → j + i < t → I (j + i) en S → ∃ en' S', f x en S = .nx en' S' ∧ I (j + i + 1) en' S') →
    (∀ x en S, items[t - j]? = some x → I t en S → f x en S = o) → forL ok f items en S = o
  | [], j, en, S, hj, hl, _, _, _ => by simp at hl; omega
  | x :: xs, j, en, S, hj, hl, hI, h, h2 => by
    rw [List.length_cons] at hl
    rw [forL, if_pos (hok S)]
    rcases Nat.lt_or_ge j t with q | q
    · obtain ⟨en', S', e, hi⟩ := h 0 x en S rfl q hI
      rw [e]
      refine forL_upto (t := t) (I := I) hok hd hd2 hd3 xs (j + 1) en' S' (by omega) (by omega) hi (fun i y en S hy hlt hi => ?_) (fun y en S hy hi => ?_)
      · have := h (i + 1) y en S (by simpa using hy) (by omega) (by rw [show j + (i + 1) = j + 1 + i by omega]; exact hi)
        rw [show j + (i + 1) + 1 = j + 1 + i + 1 by omega] at this
        exact this
      · refine h2 y en S ?_ hi
        rw [show t - j = (t - (j + 1)) + 1 by omega]
        simpa using hy
    · have : j = t := by omega
      subst this
      have e := h2 x en S (by simp) hI
      rw [e]
      cases o with
      | nx en S => exact absurd rfl (hd en S)
      | ct en S => exact absurd rfl (hd2 en S)
      | bk en S => exact absurd rfl (hd3 en S)
      | _ => rfl
/-- a while that gets nearer to its end -/
theorem whL_inv {cnd : En → Store → Out Bool} {f : En → Store → OS} {I : Nat → En → Prop} {S : Store} {J : En → Prop} (h : ∀ m en, I m en → (cnd en S = .ok false S ∧ J en) ∨ (cnd en S = .ok true S ∧ ∃ en' m', m' < m ∧ f en S = .nx en' S ∧ I m' en')) : ∀ (n m : Nat) (en : En), m < n → I m en → ∃ en', whL cnd f n en S = .nx en' S ∧ J en'
  | 0, _, _, hl, _ => by omega
  | n + 1, m, en, hl, hI => by
    rw [whL]
    rcases h m en hI with ⟨e, hJ⟩ | ⟨e, en', m', hm, e2, hI'⟩
    · rw [e]
      exact ⟨en, rfl, hJ⟩
    · rw [e, Out.thn_ok]
      simp only [e2]
      exact whL_inv h n m' en' (by omega) hI'
theorem x_wh {p : List Sm} {I : Nat → En → Prop} {J : En → Prop} (h : ∀ m en, I m en → (ev C c en S = .ok (.p (.bl false)) S ∧ J en) ∨ (ev C c en S = .ok (.p (.bl true)) S ∧ ∃ en' m', m' < m ∧ exs C p en S = .nx en' S ∧ I m' en')) {m : Nat} (hm : m < 1000000) (hI : I m en) : ∃ en', ex C (.wh c p) en S = .nx en' S ∧ J en' := by
  refine whL_inv (cnd := fun en' S' => (ev C c en' S').bind fun d S1 => cond d S1) (f := fun en' S' => exs C p en' S') (I := I) (J := J) (fun m en hI => ?_) fuelW m en hm hI
  rcases h m en hI with ⟨e, hJ⟩ | ⟨e, r⟩
  · exact .inl ⟨by rw [e]; rfl, hJ⟩
  · exact .inr ⟨by rw [e]; rfl, r⟩
theorem e_ninL {x : P} {ys : List P} {t : Bool} (h1 : ev C a en S = .ok (.p x) S1) (h2 : ev C b en S1 = .ok (.p (.lst ys)) S2) (h : cmpP .nin x (.lst ys) = some t) : ev C (.cmp .nin a b) en S = .ok (.p (.bl t)) S2 := by
  rw [ev_cmp, h1, Out.bind_ok, h2, Out.bind_ok]
  show Out.of ((cmpP .nin x (.lst ys)).map fun k => D.p (.bl k)) S2 = _
  rw [h]
  rfl
theorem x_setT3 {i j k : Nat} {X Y Z : P} (h : ev C a en S = .ok (.p (.tup [X, Y, Z])) S1) : ex C (.set (.tp [i, j, k]) a) en S = .nx (((en.set i (some (.p X))).set j (some (.p Y))).set k (some (.p Z))) S1 := by
  rw [ex_set, h, Out.thn_ok]
  rfl
end

theorem beq_sw (a b : Str) : (a == b) = (b == a) := by
  rw [Bool.eq_iff_iff, beq_iff_eq, beq_iff_eq]
  exact eq_comm

theorem ne_beq {a b : Str} (h : ¬ a = b) : (a == b) = false := by
  cases q : (a == b) with
  | false => rfl
  | true => exact absurd (eq_of_beq q) h

theorem e_and3 {C : Cb} {en : En} {S : Store} {a b c : E} {x y z : Bool} (h1 : ev C a en S = .ok (.p (.bl x)) S) (h2 : ev C b en S = .ok (.p (.bl y)) S) (h3 : ev C c en S = .ok (.p (.bl z)) S) : ev C (.and [a, b, c]) en S = .ok (.p (.bl (x && (y && z)))) S := by
  cases x with
  | false => exact e_andF' h1
  | true =>
    refine (e_andN h1).trans ?_
    cases y with
    | false => exact e_andF' h2
    | true => exact (e_andN h2).trans (e_and1'.trans h3)

theorem all_notI (xs : List Int) (q : Int → Bool) : (xs.filter fun x => !q x).isEmpty = xs.all q := by
  induction xs with
  | nil => rfl
  | cons x xs ih =>
    rw [List.filter_cons, List.all_cons]
    cases q x with
    | true => simpa using ih
    | false => simp

theorem cut_init {α : Type} (xs : List α) : cut xs none (some (-1)) = xs.take (xs.length - 1) := by
  show List.take ((if (-1 : Int) < 0 then ((-1) + (xs.length : Int)).toNat else min (-1 : Int).toNat xs.length) - 0) (List.drop 0 xs) = _
  rw [if_pos (by omega), List.drop_zero, Nat.sub_zero]
  congr 1
  omega

theorem e_slcR {C : Cb} {en : En} {S S1 S2 : Store} {a c : E} {n : Nat} {xs : List P} {h : Int} (h1 : ev C a en S = .ok (.r n) S1) (h3 : ev C c en S1 = .ok (.p (.int h)) S2) (hS : S2[n]? = some (Lp xs)) : ev C (.slc a .no c) en S = .ok (.p (.lst (cut xs none (some h)))) S2 := by
  have e : cut (xs.map D.p) none (some h) = (cut xs none (some h)).map D.p := by
    unfold cut
    rw [List.length_map, List.map_take, List.map_drop]
  rw [ev_slc, h1, Out.bind_ok, ev_no, Out.bind_ok]
  simp [slc1, bound, h3, slcD, sliceL, lsD, hS, Lp, e, mkL, Ps_map]

theorem pdat {s : Str} {x : P} (h : x.dat 59 = true) : (P.tup [.str s, x]).dat 60 = true := by
  show (true && (x.dat 59 && true)) = true
  rw [h]
  rfl

mutual
theorem eq_cm : ∀ x y : P, P.eq x y = P.eq y x
  | .non, y => by cases y <;> rfl
  | .bl a, y => by
    cases y with
    | bl b => simp only [P.eq]; exact BEq.comm
    | int b => simp only [P.eq]; exact BEq.comm
    | _ => rfl
  | .int a, y => by
    cases y with
    | bl b => simp only [P.eq]; exact BEq.comm
    | int b => simp only [P.eq]; exact BEq.comm
    | _ => rfl
  | .str a, y => by
    cases y with
    | str b => simp only [P.eq]; exact BEq.comm
    | _ => rfl
  | .lst xs, y => by
    cases y with
    | lst ys => simp only [P.eq]; exact eqs_cm xs ys
    | _ => rfl
  | .tup xs, y => by
    cases y with
    | tup ys => simp only [P.eq]; exact eqs_cm xs ys
    | _ => rfl
  | .ins _ _ _, y => by cases y <;> rfl
  | .err _ _, y => by cases y <;> rfl
theorem eqs_cm : ∀ xs ys : List P, P.eqs xs ys = P.eqs ys xs
  | [], ys => by cases ys <;> rfl
  | x :: xs, ys => by
    cases ys with
    | nil => rfl
    | cons y ys => simp only [P.eqs]; rw [eq_cm x y, eqs_cm xs ys]
end

theorem set_st {S : Store} {n : Nat} {x c y : Cell} (h : n < S.length) : (S.set n x ++ [c]).set n y = S.set n y ++ [c] := by
  rw [List.set_append_left _ _ (by rw [List.length_set]; exact h), List.set_set]

theorem get_st {S : Store} {n : Nat} {x c : Cell} (h : n < S.length) : (S.set n x ++ [c])[n]? = some x := by
  rw [List.getElem?_append_left (by rw [List.length_set]; exact h), List.getElem?_set_self h]

theorem last_st {S : Store} {n : Nat} {x c : Cell} : (S.set n x ++ [c])[S.length]? = some c := by
  rw [List.getElem?_append_right (by simp)]
  simp

theorem put_st {S : Store} {n : Nat} {x c d : Cell} : (S.set n x ++ [c]).set S.length d = S.set n x ++ [d] := by
  rw [List.set_append_right _ _ (by simp)]
  simp

theorem cut_mem {α : Type} {xs : List α} {a b : Option Int} {y : α} (h : y ∈ cut xs a b) : y ∈ xs := by
  unfold cut at h
  exact List.mem_of_mem_drop (List.mem_of_mem_take h)

end Tw

set_option linter.all false
set_option Elab.async false
set_option maxRecDepth 100000
set_option maxHeartbeats 1000000
/-! TwV: walks over texts, guards, ors and ands of tests, dicts. -/
namespace Tw
open PySem
section
variable {C : Cb} {en : En} {S S1 S2 S3 S4 : Store} {a b c d e f : E} {X Y Z U : P} {r : List Sm}
/-- over anything that is walked, one name, no test -/
theorem lc_mapW {i : Nat} {src elt : E} {p : P} {xs : List P} {h : P → P} (h1 : ev C src en S = .ok (.p p) S) (w : walkD S (.p p) = some (.its (xs.map D.p) none)) (h3 : ∀ x ∈ xs, ev C elt (en.set i (some (.p x))) S = .ok (.p (h x)) S) :
    ev C (.lc [i] (.nm i) src [] elt) en S = .ok (.p (.lst (xs.map h))) S := by
  have e : turns (still (.its (xs.map D.p) none)) (loF C [i] (.nm i) [] elt en) (xs.map D.p) S = .ok ((xs.map h).map D.p) S := by
    rw [turns_fm (S := S) rfl (fun d => match d with | .p x => some (.p (h x)) | _ => none)]
    · congr 1
      rw [List.filterMap_map, List.map_map]
      exact List.filterMap_eq_map (f := fun x => D.p (h x)) ▸ rfl
    · intro d hd
      obtain ⟨x, hx, rfl⟩ := List.mem_map.mp hd
      exact loF_one (h3 x hx)
  rw [lc_eq h1 w e, Ps_map]
  rfl
theorem lc_filterW {i : Nat} {src elt c : E} {p : P} {xs : List P} {q : P → Bool} {h : P → P} (h1 : ev C src en S = .ok (.p p) S) (w : walkD S (.p p) = some (.its (xs.map D.p) none)) (h3 : ∀ x ∈ xs, ev C c (en.set i (some (.p x))) S = .ok (.p (.bl (q x))) S) (h4 : ∀ x ∈ xs, q x = true → ev C elt (en.set i (some (.p x))) S = .ok (.p (h x)) S) :
    ev C (.lc [i] (.nm i) src [c] elt) en S = .ok (.p (.lst ((xs.filter q).map h))) S := by
  have e : turns (still (.its (xs.map D.p) none)) (loF C [i] (.nm i) [c] elt en) (xs.map D.p) S = .ok (((xs.filter q).map h).map D.p) S := by
    rw [turns_fm (S := S) rfl (fun d => match d with | .p x => if q x then some (.p (h x)) else none | _ => none)]
    · congr 1
      rw [List.filterMap_map]
      show List.filterMap (fun x => if q x then some (D.p (h x)) else none) xs = _
      clear h1 w h3 h4
      induction xs with
      | nil => rfl
      | cons x xs ih =>
        rw [List.filterMap_cons, List.filter_cons]
        cases e : q x <;> simp [e, ih]
    · intro d hd
      obtain ⟨x, hx, rfl⟩ := List.mem_map.mp hd
      have q3 := h3 x hx
      have e2 : (wipeE en [i]).set i (some (.p x)) = en.set i (some (.p x)) := by simp [wipeE]
      cases e : q x with
      | true => simp [loF, setT, evIfs, e2, q3, cond, e, h4 x hx e]
      | false => simp [loF, setT, evIfs, e2, q3, cond, e]
  rw [lc_eq h1 w e, Ps_map]
  rfl
theorem walk_str {s : Str} (h : s.length ≤ 1000000) : walkD S (.p (.str s)) = some (.its ((signs s).map D.p) none) := by
  have q : s.cps.toList.length ≤ line := by
    rw [Array.length_toList]
    have : s.cps.size ≤ 1000000 := h
    unfold line
    omega
  show (if s.cps.toList.length ≤ line then _ else _) = _
  rw [if_pos q]
theorem e_lenS {s : Str} (h1 : ev C a en S = .ok (.p (.str s)) S1) (h : s.length ≤ 1000000) : ev C (.len a) en S = .ok (.p (.int s.length)) S1 := by
  rw [ev_len, h1, Out.bind_ok]
  show (if s.length ≤ line then _ else _) = _
  rw [if_pos (by unfold line; omega)]
theorem e_inS {x : Nat} {s : Str} (h1 : ev C a en S = .ok (.p (.str ⟨#[x]⟩)) S1) (h2 : ev C b en S1 = .ok (.p (.str s)) S2) : ev C (.cmp .inn a b) en S = .ok (.p (.bl (decide (x ∈ s.cps.toList)))) S2 := by
  rw [ev_cmp, h1, Out.bind_ok, h2, Out.bind_ok]
  rfl
theorem e_ltS {s t : Str} (h1 : ev C a en S = .ok (.p (.str s)) S1) (h2 : ev C b en S1 = .ok (.p (.str t)) S2) : ev C (.cmp .lt a b) en S = .ok (.p (.bl (decide (s.cps.toList < t.cps.toList)))) S2 := by
  rw [ev_cmp, h1, Out.bind_ok, h2, Out.bind_ok]
  rfl
theorem e_gtS {s t : Str} (h1 : ev C a en S = .ok (.p (.str s)) S1) (h2 : ev C b en S1 = .ok (.p (.str t)) S2) : ev C (.cmp .gt a b) en S = .ok (.p (.bl (decide (t.cps.toList < s.cps.toList)))) S2 := by
  rw [ev_cmp, h1, Out.bind_ok, h2, Out.bind_ok]
  rfl
theorem e_geS {s t : Str} (h1 : ev C a en S = .ok (.p (.str s)) S1) (h2 : ev C b en S1 = .ok (.p (.str t)) S2) : ev C (.cmp .ge a b) en S = .ok (.p (.bl (!decide (s.cps.toList < t.cps.toList)))) S2 := by
  rw [ev_cmp, h1, Out.bind_ok, h2, Out.bind_ok]
  rfl
/-! ors of what must not be -/
theorem e_nor2 {x y : Bool} (h1 : ev C a en S = .ok (.p (.bl (!x))) S) (h2 : ev C b en S = .ok (.p (.bl (!y))) S) : ev C (.or [a, b]) en S = .ok (.p (.bl (!(x && y)))) S := by
  cases x with
  | false => exact e_orT h1
  | true => exact (e_orN h1).trans (e_or1'.trans h2)
theorem e_norC {x y : Bool} {xs : List E} (h1 : ev C a en S = .ok (.p (.bl (!x))) S) (h2 : x = true → ev C (.or (b :: xs)) en S = .ok (.p (.bl (!y))) S) : ev C (.or (a :: b :: xs)) en S = .ok (.p (.bl (!(x && y)))) S := by
  cases x with
  | false => exact e_orT h1
  | true => exact (e_orN h1).trans (h2 rfl)
theorem e_orB2 {x y : Bool} (h1 : ev C a en S = .ok (.p (.bl x)) S) (h2 : ev C b en S = .ok (.p (.bl y)) S) : ev C (.or [a, b]) en S = .ok (.p (.bl (x || y))) S := by
  cases x with
  | true => exact e_orT h1
  | false => exact (e_orN h1).trans (e_or1'.trans h2)
theorem e_or1n {x : Bool} (h1 : ev C a en S = .ok (.p (.bl (!x))) S) : ev C (.or [a]) en S = .ok (.p (.bl (!x))) S := e_or1'.trans h1
theorem e_andC {x y : Bool} {xs : List E} (h1 : ev C a en S = .ok (.p (.bl x)) S) (h2 : x = true → ev C (.and (b :: xs)) en S = .ok (.p (.bl y)) S) : ev C (.and (a :: b :: xs)) en S = .ok (.p (.bl (x && y))) S := by
  cases x with
  | false => exact e_andF' h1
  | true => exact (e_andN h1).trans (h2 rfl)
/-- if test: return False -/
theorem guardB {q R : Bool} (hc : ev C c en S = .ok (.p (.bl (!q))) S) (hr : q = true → finP (exs C r en S) = .ok (.bl R)) : finP (exs C (.ite c [.ret (.cst (.bl false))] [] :: r) en S) = .ok (.bl (q && R)) := by
  cases q with
  | false =>
    rw [x_retI (d := .p (.bl false)) rfl hc]
    rfl
  | true => rw [x_skip hc]; exact hr rfl
theorem retB {R : Bool} (h : ev C a en S = .ok (.p (.bl R)) S1) : finP (exs C (.ret a :: r) en S) = .ok (.bl R) := by
  rw [x_ret h]
  rfl
theorem retP (h : ev C a en S = .ok (.p X) S1) : finP (exs C (.ret a :: r) en S) = .ok X := by
  rw [x_ret h]
  rfl
/-- if test: raise -/
theorem guardR {q : Bool} {n : Nat} (hc : ev C c en S = .ok (.p (.bl (!q))) S) (h1 : ev C a en S = .ok (.p X) S) : exs C (.ite c [.rse n a] [] :: r) en S = if q then exs C r en S else .exc n X en S := by
  cases q with
  | false => exact x_rseI h1 hc
  | true => exact x_skip hc
/-- a row's walk: range(1, n) -/
theorem w1n' {n : Nat} (h : n ≤ 1000000) : walkR [.p (.int 1), .p (.int n)] = some (.rng 1 (n - 1) 1) := by
  have := walkR_2 (lo := 1) (hi := n) (near_of (by omega) (by omega)) (near_of (by omega) (by omega)) (by unfold line; omega)
  rw [this, show ((n : Int) - 1).toNat = n - 1 by omega]
theorem all_not {α : Type} (xs : List α) (q : α → Bool) : (xs.filter fun x => !q x).isEmpty = xs.all q := by
  induction xs with
  | nil => rfl
  | cons x xs ih =>
    rw [List.filter_cons, List.all_cons]
    cases q x with
    | true => simpa using ih
    | false => simp
theorem e_tup8 {g h : E} {S5 S6 S7 S8 : Store} {V W R T : P} (h1 : ev C a en S = .ok (.p X) S1) (h2 : ev C b en S1 = .ok (.p Y) S2) (h3 : ev C c en S2 = .ok (.p Z) S3) (h4 : ev C d en S3 = .ok (.p U) S4) (h5 : ev C e en S4 = .ok (.p V) S5) (h6 : ev C f en S5 = .ok (.p W) S6) (h7 : ev C g en S6 = .ok (.p R) S7) (h8 : ev C h en S7 = .ok (.p T) S8) :
    ev C (.tup [a, b, c, d, e, f, g, h]) en S = .ok (.p (.tup [X, Y, Z, U, V, W, R, T])) S8 := by
  rw [ev_tup, ev_cons, h1, Out.bind_ok, ev_cons, h2, Out.bind_ok, ev_cons, h3, Out.bind_ok, ev_cons, h4, Out.bind_ok, ev_cons, h5, Out.bind_ok, ev_cons, h6, Out.bind_ok, ev_cons, h7, Out.bind_ok, ev_cons, h8, Out.bind_ok, ev_nil]
  rfl
theorem e_lofr {as : List E} {ds : List D} {lo : Int} {n : Nat} (h1 : evs C as en S = .ok ds S1) (h2 : walkR ds = some (.rng lo n 1)) : ev C (.lofr as) en S = .ok (.p (.lst ((rng lo n).map P.int))) S1 := by
  show mkL ((evs C as en S).bind fun ds S1 => lofrL ds S1) = _
  rw [h1, Out.bind_ok]
  unfold lofrL
  rw [h2]
  show mkL (.ok (rngIts lo 1 0 n) S1) = _
  rw [rngIts0]
  unfold mkL
  rw [Out.bind_ok, show (rng lo n).map (fun z => D.p (.int z)) = ((rng lo n).map P.int).map D.p by rw [List.map_map]; rfl, Ps_map]
  rfl
theorem e_dic {xs : List P} {q : List Ky × List P} (h1 : ev C a en S = .ok (.p (.tup xs)) S1) (h2 : prsP xs = some q) (h3 : q.1.Nodup) : ev C (.dic a) en S = .ok (.r S1.length) (S1 ++ [.dct q.1 (q.2.map D.p)]) := by
  show (ev C a en S).bind (fun x S1 => dicD x S1) = _
  rw [h1, Out.bind_ok]
  unfold dicD
  simp only [h2, h3, if_true]
theorem e_dge {n : Nat} {ks : List Ky} {vs : List D} {k : P} {y : Ky} {z : D} (h1 : ev C a en S = .ok (.r n) S1) (h0 : S1[n]? = some (.dct ks vs)) (h2 : ev C b en S1 = .ok (.p k) S2) (h3 : ev C c en S2 = .ok z S3) (h4 : S3[n]? = some (.dct ks vs)) (hk : keyP k = some y) : ev C (.dge a b c) en S = .ok ((valK ks vs y).getD z) S3 := by
  show (ev C a en S).bind (fun l S1 => match isDct l S1 with
    | true => (ev C b en S1).bind fun y S2 => (ev C c en S2).bind fun z S3 => dgeD l y z S3
    | false => .stuck) = _
  rw [h1, Out.bind_ok]
  have i : isDct (.r n) S1 = true := by simp [isDct, h0]
  rw [i]
  show (ev C b en S1).bind _ = _
  rw [h2, Out.bind_ok, h3, Out.bind_ok]
  simp [dgeD, h4, hk]
end
end Tw

set_option linter.all false
set_option Elab.async false
set_option maxRecDepth 100000
set_option maxHeartbeats 1000000
namespace Tw.K01
open PySem Tw
theorem s_take (k : Nat) {S : Store} {n : Nat} {a b : Int} (h : S[n]? = some (bxc a b)) (t : Int) (h1 : 0 < t) (h2 : t < two64) : ∃ v a' b', 0 ≤ v ∧ v < t ∧ (cb tab (k + 1)).cs 9 [.r n, .p (.int t)] S = .ok (.p (.int v)) (S.set n (bxc a' b')) := by
  obtain ⟨v, a', b', v1, v2, q⟩ := take_fin (C := cb tab k) h t h1 h2
  exact ⟨v, a', b', v1, v2, (cs_eq (F := f_law_take) rfl rfl).trans q⟩
theorem s_pick (k : Nat) {S : Store} {n : Nat} {a b : Int} (h : S[n]? = some (bxc a b)) (xs : List P) (hx : xs ≠ []) (hl : xs.length < 1000) : ∃ v a' b', v ∈ xs ∧ (cb tab (k + 2)).cs 10 [.r n, .p (.lst xs)] S = .ok (.p v) (S.set n (bxc a' b')) := by
  obtain ⟨v, a', b', v1, q⟩ := pick_fin (C := cb tab (k + 1)) (f := 9) h (fun t h1 h2 => s_take k h t h1 h2) xs hx hl
  exact ⟨v, a', b', v1, (cs_eq (F := f_law_pick) rfl rfl).trans q⟩
theorem s_box (k : Nat) (S : Store) (ns : List Int) (j : Nat) (hj : j < 1000000) : ∃ a b, (cb tab (k + 1)).cs 8 [.p (.lst (ns.map P.int)), .p (.int j)] S = .ok (.r S.length) (S ++ [bxc a b]) := by
  obtain ⟨a, b, q⟩ := box_fin (cb tab k) S ns j hj
  exact ⟨a, b, (cs_eq (F := f_law_box) rfl rfl).trans q⟩
theorem e_take {k : Nat} {en : En} {S S1 : Store} {i n : Nat} {e : E} {a b t : Int} (hi : en[i]? = some (some (.r n))) (h1 : ev (cb tab (k + 1)) e en S = .ok (.p (.int t)) S1) (h : S1[n]? = some (bxc a b)) (t1 : 0 < t) (t2 : t < two64) : ∃ v a' b', 0 ≤ v ∧ v < t ∧ ev (cb tab (k + 1)) (.calls 9 [.var i, e]) en S = .ok (.p (.int v)) (S1.set n (bxc a' b')) := by
  obtain ⟨v, a', b', v1, v2, q⟩ := s_take k h t t1 t2
  refine ⟨v, a', b', v1, v2, ?_⟩
  rw [ev_calls, ev_cons, v_ref hi, Out.bind_ok, ev_cons, h1, Out.bind_ok, ev_nil]
  exact q
theorem e_pick {k : Nat} {en : En} {S S1 : Store} {i n : Nat} {e : E} {a b : Int} {xs : List P} (hi : en[i]? = some (some (.r n))) (h1 : ev (cb tab (k + 2)) e en S = .ok (.p (.lst xs)) S1) (h : S1[n]? = some (bxc a b)) (t1 : xs ≠ []) (t2 : xs.length < 1000) : ∃ v a' b', v ∈ xs ∧ ev (cb tab (k + 2)) (.calls 10 [.var i, e]) en S = .ok (.p v) (S1.set n (bxc a' b')) := by
  obtain ⟨v, a', b', v1, q⟩ := s_pick k h xs t1 t2
  refine ⟨v, a', b', v1, ?_⟩
  rw [ev_calls, ev_cons, v_ref hi, Out.bind_ok, ev_cons, h1, Out.bind_ok, ev_nil]
  exact q
section
variable {C : Cb} {en : En} {S S1 : Store} {a : E} {y : P} {c f : Nat}
theorem e_xfd (h : ev C a en S = .ok (.p (.err c y)) S1) (hf : C.xf c = f) : ev C (.xfd f a) en S = .ok (.p y) S1 := by
  show (ev C a en S).bind (fun x S1 => xfdD C f x S1) = _
  rw [h, Out.bind_ok]
  unfold xfdD
  simp only [hf, if_true]
theorem e_err (h : ev C a en S = .ok (.p y) S1) : ev C (.err c a) en S = .ok (.p (.err c y)) S1 := by
  show (ev C a en S).bind (fun x S1 => errD c x S1) = _
  rw [h, Out.bind_ok]
  rfl
end
def EL (v : P) : List P := [.err 1 v, .err 2 v, .err 3 v, .err 4 v, .err 5 v, .err 6 v, .err 7 v, .err 8 v, .err 9 v, .err 10 v, .err 11 v, .err 12 v, .err 13 v, .err 14 v, .err 15 v, .err 16 v, .err 17 v, .err 18 v, .err 19 v, .err 20 v, .err 21 v, .err 22 v, .err 23 v]
theorem s_ones (k : Nat) (v : P) : (cb tab (k + 1)).cp 11 [v] = .ok (.lst (EL v)) := by
  have e : (cb tab (k + 1)).cp 11 [v] = finP (exs (cb tab k) b_law_ones_0 [some (.p v), none] []) := cp_eq (F := f_law_ones) rfl rfl
  rw [e]
  kernel_rfl
def kd (i : Nat) : P := .lst ((rng 0 27).map fun z => P.bl (decide (z = (i : Int)) || decide (25 ≤ z)))
theorem s_kinds (k : Nat) (v : P) : ∀ i : Nat, i < 25 → (cb tab (k + 2)).cp 12 [.err (i + 1) v] = .ok (kd i) := by
  intro i hi
  have e : (cb tab (k + 2)).cp 12 [.err (i + 1) v] = finP (exs (cb tab (k + 1)) b_law_kinds_0 [some (.p (.err (i + 1) v)), none] []) := cp_eq (F := f_law_kinds) rfl rfl
  rw [e]
  match i, hi with
  | 0, _ => kernel_rfl
  | 1, _ => kernel_rfl
  | 2, _ => kernel_rfl
  | 3, _ => kernel_rfl
  | 4, _ => kernel_rfl
  | 5, _ => kernel_rfl
  | 6, _ => kernel_rfl
  | 7, _ => kernel_rfl
  | 8, _ => kernel_rfl
  | 9, _ => kernel_rfl
  | 10, _ => kernel_rfl
  | 11, _ => kernel_rfl
  | 12, _ => kernel_rfl
  | 13, _ => kernel_rfl
  | 14, _ => kernel_rfl
  | 15, _ => kernel_rfl
  | 16, _ => kernel_rfl
  | 17, _ => kernel_rfl
  | 18, _ => kernel_rfl
  | 19, _ => kernel_rfl
  | 20, _ => kernel_rfl
  | 21, _ => kernel_rfl
  | 22, _ => kernel_rfl
  | 23, _ => kernel_rfl
  | 24, _ => kernel_rfl
  | n + 25, h => omega
abbrev CC : Cb := cb tab 9
theorem L10 {s n2 k5 k6 k10 : Option D} {v w8 w9 : P} {el : List P} {a b : Int} : exs CC b_law_10 [s, some (.r 0), n2, some (.p v), some (.p (.lst el)), k5, k6, none, some (.p w8), some (.p w9), k10] [bxc a b] = .rt (.p (.bl true)) [bxc a b] := by
  kernel_rfl
end Tw.K01

set_option linter.all false
set_option Elab.async false
set_option maxRecDepth 100000
set_option maxHeartbeats 1000000
namespace Tw.K01
open PySem Tw
theorem app_len (s t : Str) : (s ++ t).length = s.length + t.length := by
  show (s.cps ++ t.cps).size = _
  rw [Array.size_append]
  rfl
theorem tos_len {i : Int} (h0 : -1000000 ≤ i) (h1 : i ≤ 1000000) : (Str.ofString (toString i)).length ≤ 1000 := by
  have nat_ : ∀ n : Nat, n ≤ 1000000 → (toString n : String).length ≤ 7 := fun n hn => by
    rw [Nat.toString_eq_repr]
    show (String.ofList (Nat.toDigits 10 n)).length ≤ 7
    rw [String.length_ofList]
    exact (Nat.length_toDigits_le_iff (by omega) (by omega)).mpr (by omega)
  have e : (Str.ofString (toString i)).length = (toString i : String).length := by
    rw [Str.ofString_eq_toList]
    show (((toString i : String).toList.map _).toArray).size = _
    rw [List.size_toArray, List.length_map]
    first | rfl | exact String.length_toList
  rw [e]
  cases i with
  | ofNat n =>
    have h1' : (n : Int) ≤ 1000000 := h1
    have := nat_ n (by omega)
    show (toString n : String).length ≤ 1000
    omega
  | negSucc n =>
    rw [Int.negSucc_eq] at h0
    have := nat_ (n + 1) (by omega)
    show ("-" ++ toString (n + 1) : String).length ≤ 1000
    rw [String.length_append]
    have : ("-" : String).length = 1 := rfl
    omega
section
variable {C : Cb} {en : En} {S S1 S2 S3 : Store} {a b c : E}
theorem e_adds {s t : Str} (h1 : ev C a en S = .ok (.p (.str s)) S1) (h2 : ev C b en S1 = .ok (.p (.str t)) S2) (hs : s.length ≤ 1000) (ht : t.length ≤ 1000) : ev C (.bin .add a b) en S = .ok (.p (.str (s ++ t))) S2 := by
  have q : s.length + t.length ≤ line := by unfold line; omega
  rw [ev_bin, h1, Out.bind_ok, h2, Out.bind_ok]
  simp [binD, view, binP, q]
end
theorem str_ok {i : Int} (h0 : -1000000 ≤ i) (h1 : i ≤ 1000000) : biP .str [.int i] = some (.str (toString i)) := by
  have : i.natAbs.log2 < 1920 := by
    by_cases z : i.natAbs = 0
    · rw [z]; decide
    · rw [Nat.log2_lt z]
      refine Nat.lt_of_lt_of_le (m := 2 ^ 20) (by omega) (Nat.pow_le_pow_right (by omega) (by omega))
  show (if i.natAbs.log2 < 1920 then _ else _) = _
  rw [if_pos this]
def Go (r : List Sm) (en : En) (S : Store) : Prop := ∃ S', exs CC r en S = .rt (.p (.bl true)) S'
theorem go_then {s : Sm} {r : List Sm} {en en' : En} {S S' : Store} (h : ex CC s en S = .nx en' S') (g : Go r en' S') : Go (s :: r) en S := by
  obtain ⟨S2, q⟩ := g
  exact ⟨S2, (x_then h).trans q⟩
theorem EL_len (v : P) : (EL v).length = 23 := rfl
theorem EL_at (v : P) : ∀ i : Nat, i < 25 → (EL v ++ [.err 24 v, .err 25 v])[i]? = some (.err (i + 1) v) := by
  intro i hi
  match i, hi with
  | 0, _ => rfl
  | 1, _ => rfl
  | 2, _ => rfl
  | 3, _ => rfl
  | 4, _ => rfl
  | 5, _ => rfl
  | 6, _ => rfl
  | 7, _ => rfl
  | 8, _ => rfl
  | 9, _ => rfl
  | 10, _ => rfl
  | 11, _ => rfl
  | 12, _ => rfl
  | 13, _ => rfl
  | 14, _ => rfl
  | 15, _ => rfl
  | 16, _ => rfl
  | 17, _ => rfl
  | 18, _ => rfl
  | 19, _ => rfl
  | 20, _ => rfl
  | 21, _ => rfl
  | 22, _ => rfl
  | 23, _ => rfl
  | 24, _ => rfl
  | n + 25, h => omega
theorem EL_mem (v : P) : ∀ x ∈ EL v, ∃ c, x = .err c v ∧ tab.xf c = 100 := by
  intro x hx
  simp only [EL, List.mem_cons, List.not_mem_nil, or_false] at hx
  rcases hx with rfl | rfl | rfl | rfl | rfl | rfl | rfl | rfl | rfl | rfl | rfl | rfl | rfl | rfl | rfl | rfl | rfl | rfl | rfl | rfl | rfl | rfl | rfl <;> exact ⟨_, rfl, rfl⟩
theorem kd_dat (i : Nat) : (kd i).dat 60 = true := by
  show P.dats _ 60 = true
  refine dats_of (n := 59) fun x hx => ?_
  obtain ⟨z, _, rfl⟩ := List.mem_map.mp hx
  rfl
theorem L9 {s n2 k5 k6 k10 : Option D} {v w8 w9 : P} {a b : Int} : Go b_law_9 [s, some (.r 0), n2, some (.p v), some (.p (.lst (EL v ++ [.err 24 v, .err 25 v]))), k5, k6, none, some (.p w8), some (.p w9), k10] [bxc a b] := by
  rw [b_law_9]
  obtain ⟨en', S', q, ⟨k6', rfl⟩, rfl⟩ := rng_inv (C := CC) (t := .nm 6) (body := [(.ite (.cmp .ne (.call 12 [(.idx (.var 4) (.var 6))]) (.lcr [10] (.nm 10) [(.bin .add (.len (.var 4)) (.cst (.int 2)))] [] (.or [(.cmp .eq (.var 10) (.var 6)), (.cmp .ge (.var 10) (.len (.var 4)))]))) [(.ret (.cst (.bl false)))] [])]) (as := [(.len (.var 4))]) (n := 25) (en := [s, some (.r 0), n2, some (.p v), some (.p (.lst (EL v ++ [.err 24 v, .err 25 v]))), k5, k6, none, some (.p w8), some (.p w9), k10]) (S := [bxc a b]) (S1 := [bxc a b])
    (I := fun _ en S => (∃ k6, en = [s, some (.r 0), n2, some (.p v), some (.p (.lst (EL v ++ [.err 24 v, .err 25 v]))), k5, k6, none, some (.p w8), some (.p w9), k10]) ∧ S = [bxc a b]) rfl (by omega) ⟨⟨k6, rfl⟩, rfl⟩ (by
    rintro i hi en S ⟨⟨k6, rfl⟩, rfl⟩
    refine ⟨[s, some (.r 0), n2, some (.p v), some (.p (.lst (EL v ++ [.err 24 v, .err 25 v]))), k5, some (.p (.int i)), none, some (.p w8), some (.p w9), k10], [bxc a b], lo_nm ?_, ⟨_, rfl⟩, rfl⟩
    simp only [List.set_cons_succ, List.set_cons_zero]
    have l1 : ∀ {en : En} {S : Store}, en[4]? = some (some (.p (.lst (EL v ++ [.err 24 v, .err 25 v])))) → ev CC (.len (.var 4)) en S = .ok (.p (.int 25)) S := fun {en S} h => by
      rw [ev_len, v_at h, Out.bind_ok]
      rfl
    have l := lcr_map (C := CC) (i := 10) (as := [(.bin .add (.len (.var 4)) (.cst (.int 2)))]) (elt := .or [(.cmp .eq (.var 10) (.var 6)), (.cmp .ge (.var 10) (.len (.var 4)))]) (en := [s, some (.r 0), n2, some (.p v), some (.p (.lst (EL v ++ [.err 24 v, .err 25 v]))), k5, some (.p (.int i)), none, some (.p w8), some (.p w9), k10]) (S := [bxc a b]) (ds := [.p (.int 27)]) (lo := 0) (n := 27) (h := fun z => P.bl (decide (z = (i : Int)) || decide (25 ≤ z))) rfl (w0n (n := 27) (by omega)) (fun z hz => e_orB2 (e_eqi rfl rfl) (e_ge rfl (l1 rfl)))
    have hk := s_kinds 7 v i hi
    exact x_one (x_ite (e_ne (e_call1 (e_idxL (j := i) rfl rfl rfl (EL_at v i hi)) hk) l (kd_dat i))))
  exact go_then q ⟨_, L10⟩
theorem L4 {s n2 : Option D} {v : P} (hd : v.dat 60 = true) {a b : Int} : Go b_law_4 [s, some (.r 0), n2, some (.p v), none, none, none, none, none, none, none] [bxc a b] := by
  rw [b_law_4]
  refine go_then (x_set (e_call1 rfl (s_ones 8 v))) ?_
  simp only [List.set_cons_succ, List.set_cons_zero]
  rw [b_law_5]
  obtain ⟨en', S', q, ⟨k5, rfl⟩, rfl⟩ := x_for (C := CC) (t := .nm 5) (a := .var 4) (p := [(.ite (.cmp .ne (.xfd 100 (.var 5)) (.var 3)) [(.ret (.cst (.bl false)))] [])]) (en := [s, some (.r 0), n2, some (.p v), some (.p (.lst (EL v))), none, none, none, none, none, none]) (S := [bxc a b]) (S1 := [bxc a b]) (xs := EL v)
    (I := fun en S => (∃ k5, en = [s, some (.r 0), n2, some (.p v), some (.p (.lst (EL v))), k5, none, none, none, none, none]) ∧ S = [bxc a b]) rfl ⟨⟨none, rfl⟩, rfl⟩ (by
    rintro x hx en S ⟨⟨k5, rfl⟩, rfl⟩
    obtain ⟨c, rfl, hc⟩ := EL_mem v x hx
    refine ⟨[s, some (.r 0), n2, some (.p v), some (.p (.lst (EL v))), some (.p (.err c v)), none, none, none, none, none], [bxc a b], lo_nm ?_, ⟨_, rfl⟩, rfl⟩
    simp only [List.set_cons_succ, List.set_cons_zero]
    exact x_one (x_ite (e_ne (e_xfd (c := c) (y := v) rfl hc) rfl hd)))
  refine go_then q ?_
  rw [b_law_6]
  refine go_then (x_par (e_err (y := v) rfl) (e_err (y := v) rfl)) ?_
  simp only [List.set_cons_succ, List.set_cons_zero]
  rw [b_law_7]
  refine go_then (x_ite (e_or (e_ne (e_xfd (c := 24) (y := v) rfl rfl) rfl hd) (e_ne (e_xfd (c := 25) (y := v) rfl rfl) rfl hd))) ?_
  rw [b_law_8]
  refine go_then (x_set (e_addl (xs := EL v) (ys := [.err 24 v, .err 25 v]) rfl (e_lst (es_cons rfl (es_cons rfl es_nil))) (show 23 + 2 ≤ line by decide))) ?_
  simp only [List.set_cons_succ, List.set_cons_zero]
  exact L9
theorem pure_law (sc : List Int) (hn : sc.length ≤ 63) : (cb L.T (9 + 1)).cp 13 [.lst (sc.map P.int)] = .ok (.bl true) := by
  have q : (cb tab (9 + 1)).cp 13 [.lst (sc.map P.int)] = finP (exs CC b_law_0 (some (.p (.lst (sc.map P.int))) :: List.replicate 10 none) []) := cp_eq (F := f_law) rfl rfl
  obtain ⟨s, hs⟩ : ∃ s : Option D, s = some (.p (.lst (sc.map P.int))) := ⟨_, rfl⟩
  obtain ⟨a0, b0, q0⟩ := s_box 8 [] sc 0 (by omega)
  have c0 : ev CC (.calls 8 [(.var 0), (.cst (.int 0))]) (s :: List.replicate 10 none) [] = .ok (.r 0) [bxc a0 b0] := by
    rw [hs, ev_calls, ev_cons, v_at (i := 0) rfl, Out.bind_ok, ev_cons, ev_cst, Out.bind_ok, ev_nil]
    exact q0
  have E0 : ∀ {n2 : Option D} {S : Store}, ([s, some (.r 0), n2, none, none, none, none, none, none, none, none] : En)[1]? = some (some (.r 0)) := rfl
  obtain ⟨d1, a1, b1, _, _, q1⟩ := e_take (k := 8) (en := [s, some (.r 0), none, none, none, none, none, none, none, none, none]) (S := [bxc a0 b0]) (i := 1) (e := .bin .pow (.cst (.int 10)) (.cst (.int 6))) (t := 1000000) rfl rfl rfl (by omega) (by decide)
  obtain ⟨d2, a2, b2, u0, u1, q2⟩ := e_take (k := 8) (en := [s, some (.r 0), none, none, none, none, none, none, none, none, none]) (S := [bxc a1 b1]) (i := 1) (e := .cst (.int 99)) (t := 99) rfl rfl rfl (by omega) (by decide)
  obtain ⟨d3, a3, b3, _, _, q3⟩ := e_take (k := 8) (en := [s, some (.r 0), none, none, none, none, none, none, none, none, none]) (S := [bxc a2 b2]) (i := 1) (e := .cst (.int 9)) (t := 9) rfl rfl rfl (by omega) (by decide)
  obtain ⟨tx, htx⟩ : ∃ tx : Str, ev CC (.bin .add (.cst (.str (Str.ofString "text "))) (.bi .str [(.calls 9 [(.var 1), (.cst (.int 99))])])) [s, some (.r 0), none, none, none, none, none, none, none, none, none] [bxc a1 b1] = .ok (.p (.str tx)) [bxc a2 b2] := by
    refine ⟨Str.ofString "text " ++ Str.ofString (toString d2), ?_⟩
    have q := e_bi1 (B := .str) q2 (str_ok (i := d2) (by omega) (by omega))
    exact e_adds rfl q (by decide +kernel) (tos_len (by omega) (by omega))
  have c1 : ex CC (.set (.nm 2) (.lst [(.bin .sub (.calls 9 [(.var 1), (.bin .pow (.cst (.int 10)) (.cst (.int 6)))]) (.cst (.int 500000))), (.bin .add (.cst (.str (Str.ofString "text "))) (.bi .str [(.calls 9 [(.var 1), (.cst (.int 99))])])), (.tup [(.cst (.int 1)), (.calls 9 [(.var 1), (.cst (.int 9))])])])) [s, some (.r 0), none, none, none, none, none, none, none, none, none] [bxc a0 b0] = .nx [s, some (.r 0), some (.p (.lst [.int (d1 - 500000), .str tx, .tup [.int 1, .int d3]])), none, none, none, none, none, none, none, none] [bxc a3 b3] :=
    x_set (e_lst (es_cons (e_subi q1 (y := 500000) rfl) (es_cons htx (es_cons (e_tup2 rfl q3) es_nil))))
  obtain ⟨d4, a4, b4, _, _, q4⟩ := e_take (k := 8) (en := [s, some (.r 0), some (.p (.lst [.int (d1 - 500000), .str tx, .tup [.int 1, .int d3]])), none, none, none, none, none, none, none, none]) (S := [bxc a3 b3]) (i := 1) (e := .cst (.int 9)) (t := 9) rfl rfl rfl (by omega) (by decide)
  have c2 : ex CC (.set (.nm 2) (.bin .add (.var 2) (.lst [(.lst [(.calls 9 [(.var 1), (.cst (.int 9))])]), (.cst .non), (.cst (.bl true)), (.tup [])]))) [s, some (.r 0), some (.p (.lst [.int (d1 - 500000), .str tx, .tup [.int 1, .int d3]])), none, none, none, none, none, none, none, none] [bxc a3 b3] = .nx [s, some (.r 0), some (.p (.lst [.int (d1 - 500000), .str tx, .tup [.int 1, .int d3], .lst [.int d4], .non, .bl true, .tup []])), none, none, none, none, none, none, none, none] [bxc a4 b4] :=
    x_set (e_addl (xs := [.int (d1 - 500000), .str tx, .tup [.int 1, .int d3]]) (ys := [.lst [.int d4], .non, .bl true, .tup []]) rfl (e_lst (es_cons (e_lst (ys := [.int d4]) (es_cons q4 es_nil)) (es_cons rfl (es_cons rfl (es_cons rfl es_nil))))) (show 3 + 4 ≤ line by decide))
  obtain ⟨v, a5, b5, hv, q5⟩ := e_pick (k := 7) (en := [s, some (.r 0), some (.p (.lst [.int (d1 - 500000), .str tx, .tup [.int 1, .int d3], .lst [.int d4], .non, .bl true, .tup []])), none, none, none, none, none, none, none, none]) (S := [bxc a4 b4]) (i := 1) (e := .var 2) (xs := [.int (d1 - 500000), .str tx, .tup [.int 1, .int d3], .lst [.int d4], .non, .bl true, .tup []]) rfl rfl rfl (by simp) (by simp)
  have hd : v.dat 60 = true := by
    simp only [List.mem_cons, List.not_mem_nil, or_false] at hv
    rcases hv with rfl | rfl | rfl | rfl | rfl | rfl | rfl <;> rfl
  have c3 := x_set (i := 3) q5
  obtain ⟨S', g⟩ := L4 (s := s) (n2 := some (.p (.lst [.int (d1 - 500000), .str tx, .tup [.int 1, .int d3], .lst [.int d4], .non, .bl true, .tup []]))) hd (a := a5) (b := b5)
  show (cb tab (9 + 1)).cp 13 [.lst (sc.map P.int)] = _
  rw [q, ← hs, b_law_0]
  refine (congrArg finP (x_then (x_set c0))).trans ?_
  rw [b_law_1]
  refine (congrArg finP (x_then c1)).trans ?_
  rw [b_law_2]
  refine (congrArg finP (x_then c2)).trans ?_
  rw [b_law_3]
  refine (congrArg finP (x_then c3)).trans ?_
  refine (congrArg finP g).trans ?_
  rfl
end Tw.K01

set_option linter.all false
set_option Elab.async false
set_option maxRecDepth 100000
set_option maxHeartbeats 0

open PySem PySem.W PySem.Calls PyProof.Rows
theorem PySem.Challenge.cw_trackloom_k01_errors_holds : PySem.Challenge.rw_trackloom_k01_errors.Holds := by
  w_on; o_law
  refine HandSHeadRun.head_any (r := OpenLaw.row PySem.Challenge.rw_trackloom_k01_errors) (q := view (OpenLaw.row PySem.Challenge.rw_trackloom_k01_errors).prog [47]) (H := Tw.K01.hk) (ob := Tw.K01.ob) (M := 12000) (loose := Tw.K01.loose) (d := HandSHeadRun.topDef (OpenLaw.row PySem.Challenge.rw_trackloom_k01_errors).prog 47) (kwd := []) Tw.K01.ob_eq
    (by kernel_rfl) (fun s => by kernel_rfl) Tw.K01.run (by kernel_rfl) (by kernel_rfl) (by kernel_rfl) (by rfl) (by first | assumption | decide +kernel) (by decide +kernel) ⟨rfl, rfl, rfl, rfl, rfl, by decide +kernel⟩ ?hw ?hc
  case hw => w_witness2
  case hc =>
    refine LamX.walk_ofTsE (l := PySem.Challenge.rw_trackloom_k01_errors) (n := 63) (k := 22) (x := "script") (CX := fun w => L2.CX PySem.Challenge.pw_trackloom_k01_errors w) rfl (by decide) (by kernel_rfl) ⟨rfl, by decide, by decide⟩ ?F ?E
    case F =>
      intro w mg fa h Y G hmg0
      have e : (HandSHeadRun.topDef (OpenLaw.row PySem.Challenge.rw_trackloom_k01_errors).prog 47).name = ("law" : PySem.Str) := by kernel_rfl
      rw [e] at hmg0
      obtain ⟨K, fd, sp, KX, hb, hsp, hF⟩ := Tw.Lw.law (L := Tw.K01.L) (k := 9) (n := 63) (i := 13) rfl rfl Tw.K01.fn_ok Tw.K01.in_ok rfl Tw.K01.mf_ok Tw.K01.st_ok rfl rfl rfl Tw.K01.pure_law (by decide) w mg fa h Y G hmg0
      exact ⟨K, KX, fd, [], sp, fun p hp => (by cases hp), fun p hp => (by cases hp), fun p hp => (by cases hp), hb, fun H a ns hl _ _ hS => hsp H a ns hl hS, fun base hB hN _ => hF base hB hN⟩
    case E =>
      intro w H s e s' c
      obtain ⟨_, _, _, _, _, _, _, _, _, _, _, _, z⟩ := c
      exact z
