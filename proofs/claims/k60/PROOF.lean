import PyProof.Rows.All
import Wide.All
import OpenK.AllK
import Wide.FinOn
import PySem.PyData
import HandS.Base
import HandS.Call
import HandS.List
import HandS.Words
import HandS.Exc
import HandS.Lambda
import HandS.TupAny
import HandS.Deep
import HandS.Text
import KE.LtData
import PyProof.Rows.InDataRows
import HandS.TupMul
import KE.SortData
import HandS.Iter
import HandS.Zip
import HandS.Flow
import HandS.Star
import HandS.IsInst
import HandS.WordsList
import HandS.Conv
import KE.GoesMore
import HandS.Comp
import HandS.TryOnly
import HandS.ExcOwn
import HandS.CallSlots
import HandS.TupSets
import KE.SortKeyed
import KE.KLam
import KE.DataMinMax
import KE.KRevSl
import HandS.Style
import KE.KeyNested
import PyProof.CollectStr
import PyProof.TupleOfGen
import KE.KExcSuper
import KE.KExcIs
import KE.KIsAll
import HandS.ExcField
import HandS.TryMany
import HandS.ExcIs
import HandS.WordsExc
import HandS.Ends
import HandS.EndTab
import KE.KNestM
import PySem.Challenge.RW_locksforsome_k60_the_greatest_set_within
set_option autoImplicit false
set_option linter.all false
/-! LK1: data, results, the little language and what it means. No heap here. -/
namespace LK
open PySem

/-- data; .cell n: a list that may be changed, by its place in the store -/
inductive D where
  | non | bl (b : Bool) | int (i : Int) | str (s : List Nat) | lst (l : List D) | tup (l : List D) | cell (n : Nat)
  deriving Inhabited, Repr

abbrev Env := List (Option D)
abbrev Store := List (List D)
abbrev line : Nat := 16777216

mutual
def D.same : D → D → Bool
  | .non, .non => true
  | .bl a, .bl b => a == b
  | .int a, .int b => a == b
  | .str a, .str b => a == b
  | .lst a, .lst b => D.sames a b
  | .tup a, .tup b => D.sames a b
  | .cell a, .cell b => a == b
  | _, _ => false
def D.sames : List D → List D → Bool
  | [], [] => true
  | x :: r, y :: s => D.same x y && D.sames r s
  | _, _ => false
end
mutual
theorem D.same_eq : ∀ (x y : D), D.same x y = true → x = y
  | .non, y, h => by cases y <;> simp [D.same] at h; rfl
  | .bl a, y, h => by cases y <;> simp [D.same] at h; rw [h]
  | .int a, y, h => by cases y <;> simp [D.same] at h; rw [h]
  | .str a, y, h => by cases y <;> simp [D.same] at h; rw [h]
  | .lst a, y, h => by cases y <;> simp [D.same] at h; rw [D.sames_eq _ _ h]
  | .tup a, y, h => by cases y <;> simp [D.same] at h; rw [D.sames_eq _ _ h]
  | .cell a, y, h => by cases y <;> simp [D.same] at h; rw [h]
theorem D.sames_eq : ∀ (x y : List D), D.sames x y = true → x = y
  | [], [], _ => rfl
  | [], _ :: _, h => by simp [D.sames] at h
  | _ :: _, [], h => by simp [D.sames] at h
  | a :: r, b :: s, h => by
    simp [D.sames] at h
    rw [D.same_eq _ _ h.1, D.sames_eq _ _ h.2]
end
mutual
theorem D.same_refl : ∀ (x : D), D.same x x = true
  | .non => by simp [D.same]
  | .bl a => by simp [D.same]
  | .int a => by simp [D.same]
  | .str a => by simp [D.same]
  | .lst a => by simp [D.same, D.sames_refl a]
  | .tup a => by simp [D.same, D.sames_refl a]
  | .cell a => by simp [D.same]
theorem D.sames_refl : ∀ (x : List D), D.sames x x = true
  | [] => by simp [D.sames]
  | a :: r => by simp [D.sames, D.same_refl a, D.sames_refl r]
end
instance : DecidableEq D := fun x y => match h : D.same x y with
  | true => isTrue (D.same_eq x y h)
  | false => isFalse fun e => by rw [e, D.same_refl] at h; cases h

/-! ### Python's == and < -/
def b2i (b : Bool) : Int := if b then 1 else 0
mutual
/-- == -/
def D.eqv : D → D → Bool
  | .non, .non => true
  | .bl a, .bl b => a == b
  | .bl a, .int b => b2i a == b
  | .int a, .bl b => a == b2i b
  | .int a, .int b => a == b
  | .str a, .str b => a == b
  | .lst a, .lst b => D.eqvs a b
  | .tup a, .tup b => D.eqvs a b
  | _, _ => false
def D.eqvs : List D → List D → Bool
  | [], [] => true
  | x :: r, y :: s => D.eqv x y && D.eqvs r s
  | _, _ => false
end
def ltNats : List Nat → List Nat → Bool
  | [], [] => false
  | [], _ :: _ => true
  | _ :: _, [] => false
  | a :: r, b :: s => if a == b then ltNats r s else decide (a < b)
mutual
/-- the same shape as far as < looks: nums, texts, tuples of these -/
def D.like : D → D → Bool
  | .int _, .int _ => true
  | .str _, .str _ => true
  | .tup a, .tup b => D.likes a b
  | _, _ => false
def D.likes : List D → List D → Bool
  | x :: r, y :: s => D.like x y && D.likes r s
  | _, _ => true
end
mutual
/-- < of things alike -/
def D.lt : D → D → Bool
  | .int a, .int b => decide (a < b)
  | .str a, .str b => ltNats a b
  | .tup a, .tup b => D.lts a b
  | _, _ => false
def D.lts : List D → List D → Bool
  | [], _ :: _ => true
  | x :: r, y :: s => if D.eqv x y then D.lts r s else D.lt x y
  | _, _ => false
end
mutual
/-- no cell within -/
def D.pure : D → Bool
  | .cell _ => false
  | .lst l => D.pures l
  | .tup l => D.pures l
  | _ => true
def D.pures : List D → Bool
  | [] => true
  | d :: r => D.pure d && D.pures r
end
mutual
/-- cells as they stand -/
def D.thaw (S : Store) : D → Option D
  | .cell n => match S[n]? with
    | some l => if D.pures l then some (.lst l) else none
    | none => none
  | .lst l => (D.thaws S l).map .lst
  | .tup l => (D.thaws S l).map .tup
  | .non => some .non
  | .bl b => some (.bl b)
  | .int i => some (.int i)
  | .str s => some (.str s)
def D.thaws (S : Store) : List D → Option (List D)
  | [] => some []
  | d :: r => (D.thaw S d).bind fun x => (D.thaws S r).map fun xs => x :: xs
end
mutual
/-- the cells from n on as they stand, no others -/
def D.melt (n : Nat) (S : Store) : D → Option D
  | .cell k => if n ≤ k then (match S[k]? with
    | some l => if D.pures l then some (.lst l) else none
    | none => none) else none
  | .lst l => (D.melts n S l).map .lst
  | .tup l => (D.melts n S l).map .tup
  | .non => some .non
  | .bl b => some (.bl b)
  | .int i => some (.int i)
  | .str s => some (.str s)
def D.melts (n : Nat) (S : Store) : List D → Option (List D)
  | [] => some []
  | d :: r => (D.melt n S d).bind fun x => (D.melts n S r).map fun xs => x :: xs
end
mutual
/-- no list within -/
def D.flat : D → Bool
  | .cell _ => false
  | .lst _ => false
  | .tup l => D.flats l
  | _ => true
def D.flats : List D → Bool
  | [] => true
  | d :: r => D.flat d && D.flats r
end

mutual
/-- nested at most n deep -/
def D.shal : Nat → D → Bool
  | 0, .lst _ => false
  | 0, .tup _ => false
  | n + 1, .lst l => D.shals n l
  | n + 1, .tup l => D.shals n l
  | _, _ => true
def D.shals : Nat → List D → Bool
  | _, [] => true
  | n, d :: r => D.shal n d && D.shals n r
end
/-- one of the two is not nested deep -/
def shal2 (a b : D) : Bool := D.shal 30 a || D.shal 30 b
def D.eqvO (a b : D) : Option Bool := if shal2 a b then some (D.eqv a b) else none
def D.ltO (a b : D) : Option Bool := if D.like a b && a.pure && b.pure && shal2 a b then some (D.lt a b) else none
def D.memO (a : D) (l : List D) : Option Bool := if shal2 a (.lst l) then some (l.any fun z => D.eqv z a) else none

/-! ### results -/
/-- the own exception classes, by numbers -/
def xName : Nat → Str
  | 0 => "NoReader" | 1 => "NoKey" | 2 => "NoNumber" | 3 => "NothingDone" | 4 => "BadLine" | 5 => "BadText" | 6 => "CanNot" | 7 => "Known" | 8 => "Unfit" | _ => "Unlike"
def xFld : Nat → Str
  | 0 => "name" | 1 => "place" | 2 => "number" | 4 => "number" | 5 => "piece" | _ => "name"
def xHas : Nat → Bool
  | 0 => true | 1 => true | 2 => true | 4 => true | 5 => true | 7 => true | _ => false
/-- straight under LookupError -/
def xLook (n : Nat) : Bool := decide (n < 4)
structure XV where
  cls : Nat
  args : List D
  deriving Inhabited
inductive Res (α : Type) where
  | ok (a : α) (S : Store)
  | exc (x : XV) (S : Store)
  | bad
@[reducible] def Res.bind {α β : Type} (r : Res α) (f : α → Store → Res β) : Res β := match r with
  | .ok a S => f a S
  | .exc x S => .exc x S
  | .bad => .bad
theorem Res.bind_bind {α β γ : Type} (r : Res α) (f : α → Store → Res β) (g : β → Store → Res γ) : (r.bind f).bind g = r.bind fun a S => (f a S).bind g := by
  cases r <;> rfl
def Res.of {α : Type} (S : Store) : Option α → Res α
  | some a => .ok a S
  | none => .bad
/-- nothing may be raised here -/
def Res.calm {α : Type} : Res α → Res α
  | .ok a S => .ok a S
  | _ => .bad
inductive SR where
  | nx (env : Env) (S : Store)
  | rt (d : D) (S : Store)
  | exc (x : XV) (env : Env) (S : Store)
  | bad

/-! ### operations on data -/
/-- the items of a list or tuple -/
def items (S : Store) : D → Option (List D)
  | .lst l => some l
  | .tup l => some l
  | .cell n => S[n]?
  | _ => none
/-- the items of a list -/
def listed (S : Store) : D → Option (List D)
  | .lst l => some l
  | .cell n => S[n]?
  | _ => none
/-- what is walked -/
def walked (S : Store) : D → Option (List D)
  | .str s => some (s.map fun c => .str [c])
  | d => items S d
def truth (S : Store) : D → Option Bool
  | .non => some false
  | .bl b => some b
  | .int i => some (i != 0)
  | .str s => some (!s.isEmpty)
  | .lst l => some (!l.isEmpty)
  | .tup l => some (!l.isEmpty)
  | .cell n => (S[n]?).map fun l => !l.isEmpty
def smallI (i : Int) : Bool := decide (-(2 ^ 64) < i ∧ i < 2 ^ 64)
def okLen {α : Type} (l : List α) : Option (List α) := if l.length ≤ line then some l else none
/-- an index of any sign -/
def ixOf (n : Nat) (i : Int) : Option Nat := if 0 ≤ i then (if i.toNat < n then some i.toNat else none) else (if 0 ≤ i + n then some (i + n).toNat else none)
def clip (n : Nat) (i : Int) : Nat := if 0 ≤ i then min i.toNat n else (i + n).toNat
/-- a slice's end: none where it isn't written -/
def endOf (n d : Nat) : D → Option Nat
  | .non => some d
  | .int i => some (clip n i)
  | _ => none
def cut {α : Type} (l : List α) (a b : Nat) : List α := (l.drop a).take (b - a)

inductive Op where
  | add | sub | mul | fdiv | mod | pow | eq | ne | lt | le | gt | ge | mem | nmem | ix | isN | notN | max2 | min2
  deriving DecidableEq, Repr
def repList {α : Type} (l : List α) : Nat → List α
  | 0 => []
  | n + 1 => l ++ repList l n
def memD (S : Store) (x y : D) : Option Bool := match x, y with
  | .str [c], .str s => some (decide (c ∈ s))
  | x, y => (x.thaw S).bind fun a => (items S y).bind fun l => (D.thaws S l).bind fun l => D.memO a l
def binD (S : Store) : Op → D → D → Option D
  | .add, x, y => match x, y with
    | .int a, .int b => some (.int (a + b))
    | .str a, .str b => (okLen (a ++ b)).map .str
    | .tup a, .tup b => (okLen (a ++ b)).map .tup
    | .lst a, .lst b => (okLen (a ++ b)).map .lst
    | .cell n, .lst b => (S[n]?).bind fun a => (okLen (a ++ b)).map .lst
    | .lst a, .cell n => (S[n]?).bind fun b => (okLen (a ++ b)).map .lst
    | .cell m, .cell n => (S[m]?).bind fun a => (S[n]?).bind fun b => (okLen (a ++ b)).map .lst
    | _, _ => none
  | .sub, .int a, .int b => some (.int (a - b))
  | .mul, x, y => match x, y with
    | .int a, .int b => if smallI a || smallI b then some (.int (a * b)) else none
    | .tup a, .int b => if 0 ≤ b ∧ b ≤ 1000 ∧ a.length ≤ 1000 then some (.tup (repList a b.toNat)) else none
    | .lst a, .int b => if 0 ≤ b ∧ b ≤ 1000 ∧ a.length ≤ 1000 then some (.lst (repList a b.toNat)) else none
    | .cell n, .int b => (S[n]?).bind fun a => if 0 ≤ b ∧ b ≤ 1000 ∧ a.length ≤ 1000 then some (.lst (repList a b.toNat)) else none
    | _, _ => none
  | .fdiv, .int a, .int b => if 0 < b ∧ b < 1073741824 then some (.int (a / b)) else none
  | .mod, .int a, .int b => if 0 < b then some (.int (a % b)) else none
  | .pow, .int a, .int b => if 0 ≤ b ∧ b ≤ 1000 ∧ smallI a then some (.int (a ^ b.toNat)) else none
  | .eq, x, y => (x.thaw S).bind fun a => (y.thaw S).bind fun b => (D.eqvO a b).map .bl
  | .ne, x, y => (x.thaw S).bind fun a => (y.thaw S).bind fun b => (D.eqvO a b).map fun k => .bl (!k)
  | .lt, x, y => (D.ltO x y).map .bl
  | .gt, x, y => match x, y with
    | .int a, .int b => some (.bl (decide (b < a)))
    | _, _ => none
  | .le, x, y => match x, y with
    | .int a, .int b => some (.bl (decide (a ≤ b)))
    | _, _ => none
  | .ge, x, y => match x, y with
    | .int a, .int b => some (.bl (decide (b ≤ a)))
    | _, _ => none
  | .mem, x, y => (memD S x y).map .bl
  | .nmem, x, y => (memD S x y).map fun k => .bl (!k)
  | .ix, x, .int i => match x with
    | .str s => (ixOf s.length i).bind fun k => (s[k]?).map fun c => .str [c]
    | x => (items S x).bind fun l => (ixOf l.length i).bind fun k => l[k]?
  | .isN, x, _ => some (.bl (match x with | .non => true | _ => false))
  | .notN, x, _ => some (.bl (match x with | .non => false | _ => true))
  | .max2, .int a, .int b => some (.int (if b > a then b else a))
  | .min2, .int a, .int b => some (.int (if b < a then b else a))
  | _, _, _ => none

/-- the least sorted form, each once -/
def ins (x : D) : List D → List D
  | [] => [x]
  | y :: r => if D.lt x y then x :: y :: r else if D.eqv x y then y :: r else y :: ins x r
def sset (l : List D) : List D := l.foldl (fun acc x => ins x acc) []
/-- sorted, stable -/
def insS (x : D) : List D → List D
  | [] => [x]
  | y :: r => if D.lt x y then x :: y :: r else y :: insS x r
def sorted (l : List D) : List D := l.foldl (fun acc x => insS x acc) []
/-- sorted by keys, stable: an item, its key -/
def insK (p : D × D) : List (D × D) → List (D × D)
  | [] => [p]
  | q :: r => if D.lt q.2 p.2 then q :: insK p r else p :: q :: r
def sortP : List (D × D) → List (D × D)
  | [] => []
  | p :: r => insK p (sortP r)
def sortKD (l ks : List D) : List D := (sortP (l.zip ks)).map (·.1)
/-- all alike, two by two, and such that they may stand in a set -/
def slowLike (l : List D) : Bool := l.all fun x => l.all fun y => D.like x y
/-- shapes that show it at one look -/
inductive Shp where
  | i | s | row (x : Shp) | pair (x y : Shp)
def Shp.fits : Shp → D → Bool
  | .i, d => match d with
    | .int _ => true
    | _ => false
  | .s, d => match d with
    | .str _ => true
    | _ => false
  | .row x, d => match d with
    | .tup l => l.all x.fits
    | _ => false
  | .pair x y, d => match d with
    | .tup [a, b] => x.fits a && y.fits b
    | _ => false
theorem Shp.like : ∀ (h : Shp) (a b : D), h.fits a = true → h.fits b = true → D.like a b = true
  | .i, a, b, ha, hb => by cases a <;> simp [Shp.fits] at ha; cases b <;> simp [Shp.fits] at hb; simp [D.like]
  | .s, a, b, ha, hb => by cases a <;> simp [Shp.fits] at ha; cases b <;> simp [Shp.fits] at hb; simp [D.like]
  | .row x, a, b, ha, hb => by
    have ih := Shp.like x
    cases a <;> simp only [Shp.fits, Bool.false_eq_true] at ha
    cases b <;> simp only [Shp.fits, Bool.false_eq_true] at hb
    rename_i l m
    simp only [D.like]
    induction l generalizing m with
    | nil => simp [D.likes]
    | cons p l il =>
      cases m with
      | nil => simp [D.likes]
      | cons q m =>
        simp only [List.all_cons, Bool.and_eq_true] at ha hb
        simp only [D.likes, Bool.and_eq_true]
        exact ⟨ih p q ha.1 hb.1, il ha.2 m hb.2⟩
  | .pair x y, a, b, ha, hb => by
    have i1 := Shp.like x
    have i2 := Shp.like y
    unfold Shp.fits at ha hb
    split at ha
    · split at hb
      · rename_i p q _ r t
        simp only [Bool.and_eq_true] at ha hb
        simp only [D.like, D.likes, Bool.and_eq_true, Bool.and_true]
        exact ⟨i1 _ _ ha.1 hb.1, i2 _ _ ha.2 hb.2⟩
      · cases hb
    · cases ha
def shps : List Shp := [.i, .s, .row .s, .row .i, .pair .i (.row .s), .pair .i (.row .i), .row (.row .s), .row (.row .i), .pair .i (.row (.row .s)), .pair .i (.row (.row .i)), .pair .s (.row .s), .pair .s .i, .pair .s (.row .i)]
def allLike (l : List D) : Bool := (shps.any fun h => l.all h.fits) || slowLike l
theorem allLike_slow {l : List D} (h : allLike l = true) : slowLike l = true := by
  unfold allLike at h
  rw [Bool.or_eq_true] at h
  rcases h with h | h
  · obtain ⟨sh, _, hs⟩ := List.any_eq_true.mp h
    unfold slowLike
    rw [List.all_eq_true] at hs ⊢
    intro x hx
    rw [List.all_eq_true]
    exact fun y hy => sh.like x y (hs x hx) (hs y hy)
  · exact h

inductive Ty where
  | int | bool | str | list | tuple
  deriving DecidableEq, Repr
def isTy : Ty → D → Bool
  | .int, .int _ => true
  | .int, .bl _ => true
  | .bool, .bl _ => true
  | .str, .str _ => true
  | .list, .lst _ => true
  | .list, .cell _ => true
  | .tuple, .tup _ => true
  | _, _ => false
inductive Un where
  | neg | len | tuple | list | int | abs | all | any | sset | sorted | min | max | sum | rev | isT (ts : List Ty)
  deriving DecidableEq, Repr
def isI : D → Bool
  | .int _ => true
  | _ => false
def isTup : D → Bool
  | .tup _ => true
  | _ => false
def isAtom : D → Bool
  | .int _ => true
  | .str _ => true
  | _ => false
/-- a tuple of whole numbers -/
def isTI : D → Bool
  | .tup k => k.all isI
  | _ => false
def allBool : List D → Option (List Bool)
  | [] => some []
  | .bl b :: r => (allBool r).map fun l => b :: l
  | _ :: _ => none
def allInt : List D → Option (List Int)
  | [] => some []
  | .int i :: r => (allInt r).map fun l => i :: l
  | _ => none
def leastI : List Int → Option Int
  | [] => none
  | i :: r => some (r.foldl (fun a b => if b < a then b else a) i)
def mostI : List Int → Option Int
  | [] => none
  | i :: r => some (r.foldl (fun a b => if b > a then b else a) i)
/-- the first of the least, of the greatest -/
def leastD : List D → Option D
  | [] => none
  | d :: r => some (r.foldl (fun a b => if D.lt b a then b else a) d)
def greatD : List D → Option D
  | [] => none
  | d :: r => some (r.foldl (fun a b => if D.lt a b then b else a) d)
def unD (S : Store) : Un → D → Option D
  | .neg, .int i => some (.int (-i))
  | .len, .str s => some (.int s.length)
  | .len, d => (items S d).map fun l => .int l.length
  | .tuple, .str s => some (.tup (s.map fun c => .str [c]))
  | .tuple, d => (items S d).map .tup
  | .list, d => (items S d).map .lst
  | .int, .int i => some (.int i)
  | .int, .bl b => some (.int (b2i b))
  | .abs, .int i => some (.int (if i < 0 then -i else i))
  | .all, d => ((listed S d).bind allBool).map fun l => .bl (l.all id)
  | .any, d => ((listed S d).bind allBool).map fun l => .bl (l.any id)
  | .sset, d => (items S d).bind fun l => if (decide (l.length < 64) || decide ((LK.sset l).length < 63)) && allLike l && l.all (D.shal 8) && (l.all isTup || l.all isAtom) then some (.lst (LK.sset l)) else none
  | .sorted, d => (items S d).bind fun l => (D.thaws S l).bind fun l => if allLike l && l.all (D.shal 30) then some (.lst (LK.sorted l)) else none
  | .min, d => (listed S d).bind fun l => if allLike l && D.pures l && l.all (D.shal 30) then leastD l else none
  | .max, d => (listed S d).bind fun l => if allLike l && D.pures l && l.all (D.shal 30) then greatD l else none
  | .sum, d => ((listed S d).bind allInt).map fun l => .int l.sum
  | .rev, .tup l => some (.tup l.reverse)
  | .rev, d => (items S d).map fun l => .lst l.reverse
  | .isT ts, d => some (.bl (ts.any fun t => isTy t d))
  | _, _ => none
def sliceD (S : Store) : D → D → D → Option D
  | .str s, lo, hi => (endOf s.length 0 lo).bind fun a => (endOf s.length s.length hi).map fun b => .str (cut s a b)
  | .tup l, lo, hi => (endOf l.length 0 lo).bind fun a => (endOf l.length l.length hi).map fun b => .tup (cut l a b)
  | d, lo, hi => (items S d).bind fun l => (endOf l.length 0 lo).bind fun a => (endOf l.length l.length hi).map fun b => .lst (cut l a b)
def cmpOp : Op → Bool
  | .eq | .ne | .lt | .le | .gt | .ge | .mem | .nmem | .isN | .notN => true
  | _ => false

/-! ### the language -/
inductive E where
  | var (i : Nat)
  | lit (d : D)
  | bin (o : Op) (a b : E)
  | un (o : Un) (a : E)
  | not (a : E)
  | and (a b : E)
  | or (a b : E)
  | ite (c a b : E)
  | chain (o p : Op) (a b c : E)
  | sl (wl wh : Bool) (a lo hi : E)
  | tup (l : E)
  | lst (l : E)
  | nil
  | cons (a r : E)
  | star (a r : E)
  | rep (l n : E)
  | mk (a : E)
  | call (f : Nat) (muts : List Bool) (perm : List Nat) (l k : E)
  | rng (a b : E)
  | seqr (tp : Bool) (a b : E)
  | enum (a : E)
  | zip (a b : E)
  | lc (own : List Nat) (tup : Bool) (tg : List Nat) (src c x : E)
  | lc2 (own : List Nat) (tup : Bool) (tg : List Nat) (src c : E) (tup1 : Bool) (tg1 : List Nat) (src1 c1 x : E)
  | sortK (key a : E)
  /-- a new list of a call, that nobody changes -/
  | fz (a : E)
  deriving Inhabited, Repr, DecidableEq
structure Den where
  v : Env → Store → Res D
  t : Env → Store → Res Bool
  /-- an argument list -/
  l : Env → Store → Res (List D)
  /-- what is walked; the cell that it is, if it is one -/
  i : Env → Store → Res (List D × Option Nat)
abbrev Call := Nat → List D → Store → Res D

/-- what a slice's part gives: w where it is written -/
def partF (w : Bool) (f : Env → Store → Res D) : Env → Store → Res D := fun env S => (f env S).bind fun d S => match d with
  | .non => if w then .bad else .ok d S
  | .int _ => if w then .ok d S else .bad
  | _ => .bad
def badV : Env → Store → Res D := fun _ _ => .bad
def badL : Env → Store → Res (List D) := fun _ _ => .bad
def asCell : D → Option Nat
  | .cell n => some n
  | _ => none
def Den.ofV (f : Env → Store → Res D) : Den where
  v := f
  t := fun env S => (f env S).bind fun d S => .of S (truth S d)
  l := badL
  i := fun env S => (f env S).bind fun d S => .of S ((walked S d).map fun l => (l, asCell d))
def Den.ofB (f : Env → Store → Res D) : Den where
  v := f
  t := fun env S => (f env S).bind fun d S => match d with | .bl b => .ok b S | _ => .bad
  l := badL
  i := fun _ _ => .bad
def Den.ofL (f : Env → Store → Res (List D)) : Den where
  v := badV
  t := fun _ _ => .bad
  l := f
  i := fun _ _ => .bad
def Den.ofI (f : Env → Store → Res (List D)) : Den where
  v := badV
  t := fun _ _ => .bad
  l := badL
  i := fun env S => (f env S).bind fun l S => .ok (l, none) S
/-- a tuple of two -/
def pairs (l : List D) (k : List D) : List D := (l.zip k).map fun p => .tup [p.1, p.2]
def nums (a : Int) : Nat → List D
  | 0 => []
  | n + 1 => .int a :: nums (a + 1) n
/-- a target takes a value: a name, or a written tuple of names -/
def put1 (env : Env) (i : Nat) (d : D) : Env := env.set i (some d)
def puts (env : Env) : List Nat → List D → Option Env
  | [], [] => some env
  | i :: is, d :: ds => puts (put1 env i d) is ds
  | _, _ => none
def bindT (tup : Bool) (tg : List Nat) (env : Env) (d : D) : Option Env :=
  if tup then (match d with | .tup l => puts env tg l | .lst l => puts env tg l | _ => none) else (match tg with | [i] => some (put1 env i d) | _ => none)
def wipeE (env : Env) : List Nat → Env
  | [] => env
  | v :: vs => (wipeE env vs).set v none
/-- the cell that is walked stands as it stood -/
def stays (g : Option Nat) (S S' : Store) : Bool := match g with
  | none => true
  | some n => decide (S'[n]? = S[n]?)
def lcRun (bnd : D → Option Env) (c : Env → Store → Res Bool) (x : Env → Store → Res D) (g : Option Nat) : List D → Store → Res (List D)
  | [], S => .ok [] S
  | d :: r, S => match bnd d with
    | none => .bad
    | some env => (c env S).bind fun b S1 => if b then (x env S1).bind fun y S2 => if stays g S S2 then (lcRun bnd c x g r S2).bind fun ys S3 => .ok (y :: ys) S3 else .bad
      else if stays g S S1 then lcRun bnd c x g r S1 else .bad
/-- the inner list of two -/
def lcRun2 (bnd : D → Option Env) (c : Env → Store → Res Bool) (x : Env → Store → Res (List D)) (g : Option Nat) : List D → Store → Res (List D)
  | [], S => .ok [] S
  | d :: r, S => match bnd d with
    | none => .bad
    | some env => (c env S).bind fun b S1 => if b then (x env S1).bind fun y S2 => if stays g S S2 then (lcRun2 bnd c x g r S2).bind fun ys S3 => Res.of S3 (okLen (y ++ ys)) else .bad
      else if stays g S S1 then lcRun2 bnd c x g r S1 else .bad
/-- the keys of a row -/
def keysR (kf : D → Store → Res D) : List D → Store → Res (List D)
  | [], S => .ok [] S
  | x :: r, S => (kf x S).calm.bind fun y S1 => (keysR kf r S1).bind fun ys S2 => .ok (y :: ys) S2
/-- the cells that are handed over -/
def handed : List Bool → List D → Option (List Nat)
  | true :: ms, .cell n :: ds => (handed ms ds).map fun l => n :: l
  | false :: ms, _ :: ds => handed ms ds
  | [], [] => some []
  | _, _ => none
def handOver (S : Store) : List Bool → Nat → List D → Option (List D)
  | true :: ms, k, _ :: ds => (handOver S ms (k + 1) ds).map fun l => .cell k :: l
  | false :: ms, k, d :: ds => (d.thaw S).bind fun x => (handOver S ms k ds).map fun l => x :: l
  | [], _, [] => some []
  | _, _, _ => none
def pick {α : Type} (l : List α) : List Nat → Option (List α)
  | [] => some []
  | n :: ns => (l[n]?).bind fun x => (pick l ns).map fun r => x :: r
def putBack (S : Store) : List Nat → List (List D) → Store
  | n :: ns, l :: ls => putBack (S.set n l) ns ls
  | _, _ => S
/-- what is handed over as it stands has no cell within -/
def plainArgs : List Bool → List D → Bool
  | true :: ms, _ :: ds => plainArgs ms ds
  | false :: ms, d :: ds => d.pure && plainArgs ms ds
  | _, _ => true
def callD (C : Call) (f : Nat) (muts : List Bool) (ds : List D) (S : Store) : Res D :=
  match handed muts ds with
  | none => .bad
  | some ns => match pick S ns, handOver S muts 0 ds with
    | some Sc, some args =>
      if ns.Nodup ∧ Sc.all D.pures = true then
        if plainArgs muts ds then match C f args Sc with
          | .ok d S' => if S'.length = ns.length then .ok d (putBack S ns S')
            else match S'[ns.length]? with
              | some l => .ok (.cell S.length) (putBack S ns (S'.take ns.length) ++ [l])
              | none => .bad
          | .exc x S' => if S'.length = ns.length then .exc x (putBack S ns S') else .bad
          | .bad => .bad
        else if ns = [] then match C f args Sc with
          | .ok d S' => if S'.length = 0 ∧ d.flat then .ok d S else .bad
          | .exc x S' => if S'.length = 0 ∧ D.flats x.args then .exc x S else .bad
          | .bad => .bad
        else .bad
      else .bad
    | _, _ => .bad
/-- the new list as it stands -/
def fzR (S : Store) (d : D) (S1 : Store) : Res D := if d = .cell S.length ∧ S1.length = S.length + 1 ∧ (S1.take S.length).all D.pures = true then (match S1[S.length]? with
  | some l => if D.pures l = true then .ok (.lst l) (S1.take S.length) else .bad
  | none => .bad) else .bad
def den (C : Call) : E → Den
  | .var i => .ofV fun env S => match env[i]? with
    | some (some d) => .ok d S
    | _ => .bad
  | .lit d => .ofV fun _ S => .ok d S
  | .bin o a b => .ofV fun env S => ((den C a).v env S).bind fun x S => ((den C b).v env S).bind fun y S => .of S (binD S o x y)
  | .un o a => .ofV fun env S => ((den C a).v env S).bind fun x S => .of S (unD S o x)
  | .not a => { v := fun env S => ((den C a).v env S).bind fun d S => .of S ((truth S d).map fun b => .bl (!b)), t := fun env S => ((den C a).t env S).bind fun b S => .ok (!b) S, l := badL, i := fun _ _ => .bad }
  | .and a b => { v := fun env S => ((den C a).v env S).bind fun d S => match truth S d with | none => .bad | some true => (den C b).v env S | some false => .ok d S, t := fun env S => ((den C a).t env S).bind fun c S => if c then (den C b).t env S else .ok false S, l := badL, i := fun _ _ => .bad }
  | .or a b => { v := fun env S => ((den C a).v env S).bind fun d S => match truth S d with | none => .bad | some true => .ok d S | some false => (den C b).v env S, t := fun env S => ((den C a).t env S).bind fun c S => if c then .ok true S else (den C b).t env S, l := badL, i := fun _ _ => .bad }
  | .ite c a b => { v := fun env S => ((den C c).t env S).bind fun k S => if k then (den C a).v env S else (den C b).v env S, t := fun env S => ((den C c).t env S).bind fun k S => if k then (den C a).t env S else (den C b).t env S, l := badL
                    i := fun env S => ((den C c).t env S).bind fun k S => (if k then (den C a).v env S else (den C b).v env S).bind fun d S => .of S ((walked S d).map fun l => (l, asCell d)) }
  | .chain o p a b c => .ofB fun env S => ((den C a).v env S).bind fun x S => ((den C b).v env S).bind fun y S => match binD S o x y with
    | some (.bl true) => ((den C c).v env S).bind fun z S => .of S (binD S p y z)
    | some (.bl false) => .ok (.bl false) S
    | _ => .bad
  | .sl wl wh a lo hi => .ofV fun env S => ((den C a).v env S).bind fun x S => (partF wl (den C lo).v env S).bind fun y S => (partF wh (den C hi).v env S).bind fun z S => .of S (sliceD S x y z)
  | .tup l => .ofV fun env S => ((den C l).l env S).bind fun xs S => .of S ((okLen xs).map .tup)
  | .lst l => .ofV fun env S => ((den C l).l env S).bind fun xs S => .of S ((okLen xs).map .lst)
  | .nil => .ofL fun _ S => .ok [] S
  | .cons a r => .ofL fun env S => ((den C a).v env S).bind fun x S => ((den C r).l env S).bind fun xs S => .ok (x :: xs) S
  | .star a r => .ofL fun env S => ((den C a).v env S).bind fun x S => match items S x with
    | some ys => ((den C r).l env S).bind fun xs S => .ok (ys ++ xs) S
    | none => .bad
  | .rep l n => .ofV fun env S => ((den C l).l env S).bind fun xs S => if xs.length ≤ 1000 then ((den C n).v env S).bind fun k S => match k with
    | .int k => if k ≤ 1000 ∧ -1000 ≤ k then .ok (.lst (repList xs k.toNat)) S else .bad
    | _ => .bad else .bad
  | .mk a => .ofV fun env S => ((den C a).v env S).bind fun x S => match x with
    | .lst l => .ok (.cell S.length) (S ++ [l])
    | _ => .bad
  | .call f muts perm l k => .ofV fun env S => ((den C l).l env S).bind fun xs S => ((den C k).l env S).bind fun ys S => match pick (xs ++ ys) perm with
    | some ds => callD C f muts ds S
    | none => .bad
  | .rng a b => .ofI fun env S => ((den C a).v env S).bind fun x S => ((den C b).v env S).bind fun y S => match x, y with
    | .int i, .int j => if (-1000000 ≤ i ∧ i ≤ 1000000 ∧ -1000000 ≤ j ∧ j ≤ 1000000) then .ok (nums i (j - i).toNat) S else .bad
    | _, _ => .bad
  | .seqr tp a b => .ofV fun env S => ((den C a).v env S).bind fun x S => ((den C b).v env S).bind fun y S => match x, y with
    | .int i, .int j => if (-1000000 ≤ i ∧ i ≤ 1000000 ∧ -1000000 ≤ j ∧ j ≤ 1000000) then .ok (if tp then .tup (nums i (j - i).toNat) else .lst (nums i (j - i).toNat)) S else .bad
    | _, _ => .bad
  | .enum a => .ofI fun env S => ((den C a).v env S).bind fun x S => match x with
    | .lst l => .ok (pairs (nums 0 l.length) l) S
    | .tup l => .ok (pairs (nums 0 l.length) l) S
    | _ => .bad
  | .zip a b => .ofI fun env S => ((den C a).v env S).bind fun x S => ((den C b).v env S).bind fun y S => match x, y with
    | .lst l, .lst k => .ok (pairs l k) S
    | .tup l, .tup k => .ok (pairs l k) S
    | _, _ => .bad
  | .lc own tp tg src c x => .ofV fun env S => ((den C src).i env S).bind fun p S =>
      (lcRun (bindT tp tg (wipeE env own)) (fun e S => ((den C c).t e S).calm) (fun e S => ((den C x).v e S).calm) p.2 p.1 S).bind fun ys S => .ok (.lst ys) S
  | .lc2 own tp tg src c tp1 tg1 src1 c1 x => .ofV fun env S => ((den C src).i env S).bind fun p S =>
      (lcRun2 (bindT tp tg (wipeE env own)) (fun e S => ((den C c).t e S).calm) (fun e S => ((den C src1).i e S).calm.bind fun q S =>
          lcRun (bindT tp1 tg1 (wipeE e tg1)) (fun e S => ((den C c1).t e S).calm) (fun e S => ((den C x).v e S).calm) q.2 q.1 S) p.2 p.1 S).bind fun ys S => .ok (.lst ys) S

  | .sortK key a => .ofV fun env S => ((den C a).v env S).bind fun d S => match listed S d with
    | some l => (keysR (fun x S => (den C key).v [some x] S) l S).bind fun ks S => if (allLike ks && ks.all (D.shal 30)) && ks.all D.pure then .ok (.lst (sortKD l ks)) S else .bad
    | none => .bad
  | .fz a => .ofV fun env S => ((den C a).v env S).bind fun d S1 => fzR S d S1

/-! ### statements -/
/-- what is told of an exception that is caught -/
inductive HX where
  | lit (d : D)
  | fld
  | isB (look : Bool)
  | lst (l : HX)
  | nil
  | cons (a r : HX)
  deriving Inhabited, Repr, DecidableEq
mutual
def hv (x : XV) : HX → Option D
  | .lit d => some d
  | .fld => match x.args with
    | [d] => some d
    | _ => none
  | .isB b => some (.bl (xLook x.cls == b))
  | .lst l => ((hvs x l).bind okLen).map .lst
  | _ => none
def hvs (x : XV) : HX → Option (List D)
  | .nil => some []
  | .cons a r => (hv x a).bind fun d => (hvs x r).map fun l => d :: l
  | _ => none
end
inductive S where
  | skip
  | seq (a b : S)
  | asg (i : Nat) (e : E)
  /-- a tuple's parts, by a tuple -/
  | tasg (tg : List Nat) (e : E)
  /-- a, b = e, e' by the right order of stores -/
  | pasg (i j : Nat) (a b : E)
  | pasg3 (i j k : Nat) (a b c : E)
  | ex (e : E)
  | ret (e : E)
  | ite (c : E) (a b : S)
  | for_ (tp : Bool) (tg : List Nat) (src : E) (body : S)
  | while_ (c : E) (body : S)
  /-- o[i] = e, o a cell -/
  | setix (o i e : E)
  | app (o e : E)
  | ext (o e : E)
  | stop
  /-- raise C(..) -/
  | raise_ (c : Nat) (a : E)
  /-- try: b, except ..: h -/
  | try_ (b h : S)
  /-- except C as nm: name i = x (or return x), then further clauses -/
  | hd (c : Nat) (nm : Option Nat) (ret : Bool) (i : Nat) (x : HX) (r : S)
  deriving Inhabited, Repr, DecidableEq
def SR.bind (r : SR) (f : Env → Store → SR) : SR := match r with
  | .nx env S => f env S
  | r => r
def Res.st {α : Type} (env : Env) (r : Res α) (f : α → Store → SR) : SR := match r with
  | .ok a S => f a S
  | .exc x S => .exc x env S
  | .bad => .bad
def forRun (bnd : Env → D → Option Env) (body : Env → Store → SR) (g : Option Nat) : List D → Env → Store → SR
  | [], env, S => .nx env S
  | d :: r, env, S => match bnd env d with
    | none => .bad
    | some env1 => match body env1 S with
      | .nx env2 S2 => if stays g S S2 then forRun bnd body g r env2 S2 else .bad
      | r => r
def whileRun (c : Env → Store → Res Bool) (body : Env → Store → SR) : Nat → Env → Store → SR
  | 0, _, _ => .bad
  | n + 1, env, S => (c env S).st env fun b S1 => if b then (body env S1).bind fun env2 S2 => whileRun c body n env2 S2 else .nx env S1
def setAt (S : Store) (n : Nat) (i : Int) (y : D) : Option Store := (S[n]?).bind fun l => (ixOf l.length i).map fun k => S.set n (l.set k y)
def dropN (env : Env) : Option Nat → Option Env
  | none => some env
  | some n => if n < env.length then some (env.set n none) else none
/-- the clauses of a try, one after another -/
def hden : S → XV → Env → Store → SR
  | .hd c nm ret i h r, x, env, S => if x.cls = c then (match hv x h, dropN env nm with
    | some d, some env => if ret then .rt d S else .nx (put1 env i d) S
    | _, _ => .bad) else hden r x env S
  | .skip, x, env, S => .exc x env S
  | _, _, _, _ => .bad
def sden (C : Call) : S → Env → Store → SR
  | .skip => fun env S => .nx env S
  | .seq a b => fun env S => (sden C a env S).bind (sden C b)
  | .asg i e => fun env S => ((den C e).v env S).st env fun d S => .nx (put1 env i d) S
  | .tasg tg e => fun env S => ((den C e).v env S).st env fun d S => match bindT true tg env d with
    | some env => .nx env S
    | none => .bad
  | .pasg i j a b => fun env S => ((den C a).v env S).st env fun x S => ((den C b).v env S).st env fun y S => .nx (put1 (put1 env i x) j y) S
  | .pasg3 i j k a b c => fun env S => ((den C a).v env S).st env fun x S => ((den C b).v env S).st env fun y S => ((den C c).v env S).st env fun z S => .nx (put1 (put1 (put1 env i x) j y) k z) S
  | .ex e => fun env S => ((den C e).v env S).st env fun _ S => .nx env S
  | .ret e => fun env S => ((den C e).v env S).st env fun d S => .rt d S
  | .ite c a b => fun env S => ((den C c).t env S).st env fun k S => if k then sden C a env S else sden C b env S
  | .for_ tp tg src body => fun env S => ((den C src).i env S).st env fun p S => forRun (fun env d => bindT tp tg env d) (sden C body) p.2 p.1 env S
  | .while_ c body => fun env S => whileRun (den C c).t (sden C body) 4096 env S
  | .setix o i e => fun env S => ((den C e).v env S).st env fun y S => ((den C o).v env S).st env fun x S => ((den C i).v env S).st env fun k S => match x, k with
    | .cell n, .int k => (match setAt S n k y with | some S => .nx env S | none => .bad)
    | _, _ => .bad
  | .app o e => fun env S => ((den C o).v env S).st env fun x S => match x with
    | .cell n => ((den C e).v env S).st env fun y S => (match (S[n]?).bind fun l => okLen (l ++ [y]) with | some l => .nx env (S.set n l) | none => .bad)
    | _ => .bad
  | .ext o e => fun env S => ((den C o).v env S).st env fun x S => match x with
    | .cell n => ((den C e).v env S).st env fun y S => match y with
      | .lst k => (match (S[n]?).bind fun l => okLen (l ++ k) with | some l => .nx env (S.set n l) | none => .bad)
      | _ => .bad
    | _ => .bad
  | .stop => fun _ _ => .bad
  | .raise_ c a => fun env S => ((den C a).l env S).st env fun xs S => if xs.length = (if xHas c then 1 else 0) then .exc ⟨c, xs⟩ env S else .bad
  | .try_ b h => fun env S => match sden C b env S with
    | .exc x env S => if x.cls < 10 then hden h x env S else .bad
    | r => r
  | .hd _ _ _ _ _ _ => fun _ _ => .bad

/-! ### defs -/
structure Fn where
  np : Nat
  ns : Nat
  ret : Bool
  body : S
  deriving Inhabited, Repr, DecidableEq
/-- a def's end: what is handed back has no cell of its own, or is one (ret) -/
def fin (ret : Bool) (n : Nat) : SR → Res D
  | .nx _ S => if ret then .bad else if (S.take n).all D.pures then .ok .non (S.take n) else .bad
  | .rt d S => if (S.take n).all D.pures then (if ret then (match d with
      | .cell k => if n ≤ k then (match S[k]? with | some l => if D.pures l then .ok (.cell n) (S.take n ++ [l]) else .bad | none => .bad) else .bad
      | _ => .bad)
    else (match d.melt n S with | some x => .ok x (S.take n) | none => .bad)) else .bad
  | .exc x _ S => if (S.take n).all D.pures then (match D.melts n S x.args with | some a => .exc ⟨x.cls, a⟩ (S.take n) | none => .bad) else .bad
  | .bad => .bad
def env0 (fn : Fn) (ds : List D) : Env := ds.map some ++ List.replicate (fn.ns - ds.length) none
def callF (T : Nat → Option Fn) : Nat → Call
  | 0 => fun _ _ _ => .bad
  | k + 1 => fun f ds S => match T f with
    | none => .bad
    | some fn => if ds.length = fn.np then fin fn.ret S.length (sden (callF T k) fn.body (env0 fn ds) S) else .bad
end LK
set_option Elab.async false
set_option linter.all false
set_option autoImplicit false
set_option maxRecDepth 100000
/-! LK2: how data lies in the heap; what a result promises. -/
namespace LK
open PySem PySem.Spec PyProof.Rows L2

theorem line_eq : (line : Nat) = sizeLine := by rw [sizeLine_eq]
/-- a list at a, its own or a locked one -/
def LAt (H : Hp) (a : Addr) (vs : List V) : Prop := H a = some (.lst vs) ∨ ∃ o, H a = some (.frz o (.lst vs))
/-- the cells, and lists that nothing refers to for now -/
structure Rho where
  c : List Addr
  h : List Addr
instance : Membership Addr Rho := ⟨fun ρ a => a ∈ ρ.c ∨ a ∈ ρ.h⟩
theorem Rho.mem_c {ρ : Rho} {a : Addr} (h : a ∈ ρ.c) : a ∈ ρ := .inl h
theorem Rho.mem_h {ρ : Rho} {a : Addr} (h : a ∈ ρ.h) : a ∈ ρ := .inr h
abbrev txt (s : List Nat) : Str := ⟨s.toArray⟩
mutual
def Rep (ρ : Rho) (H : Hp) : D → V → Prop
  | .non, v => v = .non
  | .bl b, v => v = .bl b
  | .int i, v => v = .int i
  | .str s, v => v = .str (txt s) ∧ s.length ≤ line ∧ s.all (fun c => decide (c < 1114112)) = true
  | .lst l, v => ∃ a vs, v = .ref a ∧ LAt H a vs ∧ a ∉ ρ ∧ l.length ≤ line ∧ Reps ρ H l vs
  | .tup l, v => ∃ a vs, v = .ref a ∧ H a = some (.tup vs) ∧ l.length ≤ line ∧ Reps ρ H l vs
  | .cell n, v => ∃ a, ρ.c[n]? = some a ∧ v = .ref a
def Reps (ρ : Rho) (H : Hp) : List D → List V → Prop
  | [], vs => vs = []
  | d :: l, vs => ∃ v r, vs = v :: r ∧ Rep ρ H d v ∧ Reps ρ H l r
end
/-- the tables of code objects that may grow, with the names of what is made -/
class Tt where
  l : List (Addr × Str)
  cs : List (Addr × Addr)
instance (priority := 1) Tt.none : Tt := ⟨[], []⟩
variable [Tt]
/-- what was tracked stands; tables are not spoken of -/
def Stay (o : HO) (x : Option HO) : Prop := (∀ ps, o ≠ .tbl ps) → x = some o
/-- nothing stands here, but for a table -/
def NoO (x : Option HO) : Prop := ∀ o, x = some o → ∃ ps, o = .tbl ps
omit [Tt] in
theorem no_none {x : Option HO} (h : x = none) : NoO x := fun o e => by rw [h] at e; cases e
omit [Tt] in
theorem Stay.get {o : HO} {x : Option HO} (h : Stay o x) (t : ∀ ps, o ≠ .tbl ps) : x = some o := h t
omit [Tt] in
theorem Stay.of {o : HO} {x : Option HO} (h : x = some o) : Stay o x := fun _ => h
/-- all that was tracked is as it was, but the cells; tables may grow -/
def Frm (ρ : Rho) (H H' : Hp) : Prop := ∀ b o, H b = some o → b ∉ ρ.c → Stay o (H' b)
/-- all that was tracked is as it was, but the cells and the hidden lists -/
def Frw (ρ : Rho) (H H' : Hp) : Prop := ∀ b o, H b = some o → b ∉ ρ → Stay o (H' b)
omit [Tt] in
theorem Frm.get {ρ : Rho} {H H' : Hp} (f : Frm ρ H H') {b : Addr} {o : HO} (e : H b = some o) (n : b ∉ ρ.c) (t : ∀ ps, o ≠ .tbl ps := by nofun) : H' b = some o := (f b o e n).get t
omit [Tt] in
theorem Frw.get {ρ : Rho} {H H' : Hp} (f : Frw ρ H H') {b : Addr} {o : HO} (e : H b = some o) (n : b ∉ ρ) (t : ∀ ps, o ≠ .tbl ps := by nofun) : H' b = some o := (f b o e n).get t
omit [Tt] in
theorem Frm.w {ρ : Rho} {H H' : Hp} (f : Frm ρ H H') : Frw ρ H H' := fun b o e n => f b o e fun z => n (.inl z)
/-- the cells: those of before, then new ones -/
def Grow (ρ ρ' : Rho) (H : Hp) : Prop := ∃ more : List Addr, ρ' = ⟨ρ.c ++ more, ρ.h⟩ ∧ ∀ a ∈ more, NoO (H a)
theorem Frm.refl (ρ : Rho) (H : Hp) : Frm ρ H H := fun _ _ e _ => .of e
theorem Grow.refl (ρ : Rho) (H : Hp) : Grow ρ ρ H := ⟨[], by simp, fun _ h => by cases h⟩
theorem Frm.free {ρ : Rho} {H H' : Hp} (f : Frm ρ H H') {b : Addr} (h : NoO (H' b)) (hb : b ∉ ρ.c) : NoO (H b) := fun o e => by
  by_cases t : ∃ ps, o = .tbl ps
  · exact t
  · exact h o (f b o e hb fun ps z => t ⟨ps, z⟩)
/-- the cells are tracked -/
def Live (ρ : Rho) (H : Hp) : Prop := ∀ a ∈ ρ, ∃ vs, H a = some (.lst vs)
theorem Frm.trans {ρ ρ' : Rho} {H H1 H2 : Hp} (a : Frm ρ H H1) (g : Grow ρ ρ' H) (b : Frm ρ' H1 H2) : Frm ρ H H2 := fun c o e n => by
  obtain ⟨more, rfl, hm⟩ := g
  refine fun t => b c o (a c o e n t) (fun hc => ?_) t
  rcases List.mem_append.mp hc with h | h
  · exact n h
  · obtain ⟨ps, z⟩ := hm c h o e
    exact t ps z
theorem Grow.trans {ρ ρ1 ρ2 : Rho} {H H1 : Hp} (g : Grow ρ ρ1 H) (f : Frm ρ H H1) (lv : Live ρ H) (g2 : Grow ρ1 ρ2 H1) (lv1 : Live ρ1 H1) : Grow ρ ρ2 H := by
  obtain ⟨m1, rfl, h1⟩ := g
  obtain ⟨m2, rfl, h2⟩ := g2
  refine ⟨m1 ++ m2, by rw [List.append_assoc], fun a ha => ?_⟩
  rcases List.mem_append.mp ha with h | h
  · exact h1 a h
  · have e := h2 a h
    refine f.free e fun hr => ?_
    obtain ⟨vs, q⟩ := lv1 a (Rho.mem_c (List.mem_append_left _ hr))
    obtain ⟨ps, z⟩ := e _ q
    cases z

theorem LAt.keep {ρ : Rho} {H H' : Hp} {a : Addr} {vs : List V} (f : Frw ρ H H') (h : LAt H a vs) (n : a ∉ ρ) : LAt H' a vs := by
  rcases h with h | ⟨o, h⟩
  · exact .inl (f.get h n)
  · exact .inr ⟨o, f.get h n⟩
theorem LAt.sq {K : PySem.W.Frag} {H : Hp} {a : Addr} {vs : List V} (h : LAt H a vs) : SqL K H a vs := .inl h
theorem LAt.track {H : Hp} {a : Addr} {vs : List V} (h : LAt H a vs) : ∃ o, H a = some o := by
  rcases h with h | ⟨o, h⟩
  · exact ⟨_, h⟩
  · exact ⟨_, h⟩
theorem LAt.real {H : Hp} {a : Addr} {vs : List V} (h : LAt H a vs) (n : NoO (H a)) : False := by
  rcases h with h | ⟨o, h⟩
  · obtain ⟨ps, z⟩ := n _ h
    cases z
  · obtain ⟨ps, z⟩ := n _ h
    cases z
mutual
theorem Rep.monoW {ρ ρ' : Rho} {H H' : Hp} (f : Frw ρ H H') (g : Grow ρ ρ' H) (lv : Live ρ H) : ∀ (d : D) (v : V), Rep ρ H d v → Rep ρ' H' d v
  | .non, v, h => by simpa [Rep] using h
  | .bl b, v, h => by simpa [Rep] using h
  | .int i, v, h => by simpa [Rep] using h
  | .str s, v, h => by simpa [Rep] using h
  | .lst l, v, h => by
    simp only [Rep] at h ⊢
    obtain ⟨a, vs, e, ha, n, z, r⟩ := h
    refine ⟨a, vs, e, ha.keep f n, fun hm => ?_, z, Reps.monoW f g lv l vs r⟩
    obtain ⟨more, rfl, hn⟩ := g
    rcases hm with hm | hm
    · rcases List.mem_append.mp hm with q | q
      · exact n (.inl q)
      · exact ha.real (hn a q)
    · exact n (.inr hm)
  | .tup l, v, h => by
    simp only [Rep] at h ⊢
    obtain ⟨a, vs, e, ha, z, r⟩ := h
    refine ⟨a, vs, e, f.get ha fun hm => ?_, z, Reps.monoW f g lv l vs r⟩
    obtain ⟨ws, q⟩ := lv a hm
    rw [ha] at q; cases q
  | .cell n, v, h => by
    simp only [Rep] at h ⊢
    obtain ⟨a, e, ev⟩ := h
    obtain ⟨more, rfl, _⟩ := g
    refine ⟨a, ?_, ev⟩
    obtain ⟨hlt, _⟩ := List.getElem?_eq_some_iff.mp e
    rw [List.getElem?_append_left hlt]
    exact e
theorem Reps.monoW {ρ ρ' : Rho} {H H' : Hp} (f : Frw ρ H H') (g : Grow ρ ρ' H) (lv : Live ρ H) : ∀ (l : List D) (vs : List V), Reps ρ H l vs → Reps ρ' H' l vs
  | [], vs, h => by simpa [Reps] using h
  | d :: l, vs, h => by
    simp only [Reps] at h ⊢
    obtain ⟨v, r, e, h1, h2⟩ := h
    exact ⟨v, r, e, Rep.monoW f g lv d v h1, Reps.monoW f g lv l r h2⟩
end
theorem Rep.mono {ρ ρ' : Rho} {H H' : Hp} (f : Frm ρ H H') (g : Grow ρ ρ' H) (lv : Live ρ H) (d : D) (v : V) (h : Rep ρ H d v) : Rep ρ' H' d v := Rep.monoW f.w g lv d v h
theorem Reps.mono {ρ ρ' : Rho} {H H' : Hp} (f : Frm ρ H H') (g : Grow ρ ρ' H) (lv : Live ρ H) (l : List D) (vs : List V) (h : Reps ρ H l vs) : Reps ρ' H' l vs := Reps.monoW f.w g lv l vs h
mutual
/-- a new list is hidden -/
theorem Rep.hide {ρ : Rho} {H : Hp} {p : Addr} {o : HO} (hp : H p = none) : ∀ (d : D) (v : V), Rep ρ H d v → Rep ⟨ρ.c, p :: ρ.h⟩ (upd H p o) d v
  | .non, v, h => by simpa [Rep] using h
  | .bl _, v, h => by simpa [Rep] using h
  | .int _, v, h => by simpa [Rep] using h
  | .str _, v, h => by simpa [Rep] using h
  | .lst l, v, h => by
    simp only [Rep] at h ⊢
    obtain ⟨a, vs, e, ha, n, z, r⟩ := h
    have na : a ≠ p := by
      rintro rfl
      obtain ⟨o, t⟩ := ha.track
      rw [hp] at t; cases t
    refine ⟨a, vs, e, ?_, fun m => ?_, z, Reps.hide hp l vs r⟩
    · unfold LAt
      rw [upd_ne na]
      exact ha
    · rcases m with m | m
      · exact n (.inl m)
      · rcases List.mem_cons.mp m with m | m
        · exact na m
        · exact n (.inr m)
  | .tup l, v, h => by
    simp only [Rep] at h ⊢
    obtain ⟨a, vs, e, ha, z, r⟩ := h
    have na : a ≠ p := by
      rintro rfl
      rw [hp] at ha; cases ha
    exact ⟨a, vs, e, by rw [upd_ne na]; exact ha, z, Reps.hide hp l vs r⟩
  | .cell n, v, h => by simpa only [Rep] using h
theorem Reps.hide {ρ : Rho} {H : Hp} {p : Addr} {o : HO} (hp : H p = none) : ∀ (l : List D) (vs : List V), Reps ρ H l vs → Reps ⟨ρ.c, p :: ρ.h⟩ (upd H p o) l vs
  | [], vs, h => by simpa [Reps] using h
  | d :: l, vs, h => by
    simp only [Reps] at h ⊢
    obtain ⟨v, r, e, h1, h2⟩ := h
    exact ⟨v, r, e, Rep.hide hp d v h1, Reps.hide hp l r h2⟩
end
theorem Reps.length {ρ : Rho} {H : Hp} : ∀ {l : List D} {vs : List V}, Reps ρ H l vs → vs.length = l.length
  | [], vs, h => by simp only [Reps] at h; subst h; rfl
  | d :: l, vs, h => by
    simp only [Reps] at h
    obtain ⟨v, r, rfl, _, h2⟩ := h
    simp [Reps.length h2]
theorem Reps.append {ρ : Rho} {H : Hp} : ∀ {l k : List D} {vs ws : List V}, Reps ρ H l vs → Reps ρ H k ws → Reps ρ H (l ++ k) (vs ++ ws)
  | [], k, vs, ws, h, h' => by simp only [Reps] at h; subst h; simpa using h'
  | d :: l, k, vs, ws, h, h' => by
    simp only [Reps] at h
    obtain ⟨v, r, rfl, h1, h2⟩ := h
    simp only [List.cons_append, Reps]
    exact ⟨v, r ++ ws, rfl, h1, Reps.append h2 h'⟩
theorem Reps.get {ρ : Rho} {H : Hp} : ∀ {l : List D} {vs : List V} {i : Nat} {d : D}, Reps ρ H l vs → l[i]? = some d → ∃ v, vs[i]? = some v ∧ Rep ρ H d v
  | [], _, _, _, _, e => by simp at e
  | x :: l, vs, 0, d, h, e => by
    simp only [Reps] at h
    obtain ⟨v, r, rfl, h1, h2⟩ := h
    simp at e; subst e
    exact ⟨v, rfl, h1⟩
  | x :: l, vs, i + 1, d, h, e => by
    simp only [Reps] at h
    obtain ⟨v, r, rfl, h1, h2⟩ := h
    simp at e
    obtain ⟨u, a, b⟩ := Reps.get h2 e
    exact ⟨u, by simpa using a, b⟩
theorem Reps.getV {ρ : Rho} {H : Hp} {l : List D} {vs : List V} {i : Nat} {v : V} (h : Reps ρ H l vs) (e : vs[i]? = some v) : ∃ d, l[i]? = some d ∧ Rep ρ H d v := by
  obtain ⟨hlt, _⟩ := List.getElem?_eq_some_iff.mp e
  rw [h.length] at hlt
  obtain ⟨u, a, b⟩ := h.get (List.getElem?_eq_getElem hlt)
  rw [e] at a; cases a
  exact ⟨_, List.getElem?_eq_getElem hlt, b⟩
theorem Reps.drop {ρ : Rho} {H : Hp} : ∀ {l : List D} {vs : List V} (n : Nat), Reps ρ H l vs → Reps ρ H (l.drop n) (vs.drop n)
  | l, vs, 0, h => by simpa using h
  | [], vs, n + 1, h => by simp only [Reps] at h; subst h; simp [Reps]
  | d :: l, vs, n + 1, h => by
    simp only [Reps] at h
    obtain ⟨v, r, rfl, h1, h2⟩ := h
    simpa using Reps.drop n h2
theorem Reps.take {ρ : Rho} {H : Hp} : ∀ {l : List D} {vs : List V} (n : Nat), Reps ρ H l vs → Reps ρ H (l.take n) (vs.take n)
  | l, vs, 0, h => by simp [Reps]
  | [], vs, n + 1, h => by simp only [Reps] at h; subst h; simp [Reps]
  | d :: l, vs, n + 1, h => by
    simp only [Reps] at h
    obtain ⟨v, r, rfl, h1, h2⟩ := h
    simp only [List.take_succ_cons, Reps]
    exact ⟨v, r.take n, rfl, h1, Reps.take n h2⟩
theorem Reps.set {ρ : Rho} {H : Hp} {d : D} {v : V} (r : Rep ρ H d v) : ∀ {l : List D} {vs : List V} (i : Nat), Reps ρ H l vs → Reps ρ H (l.set i d) (vs.set i v)
  | [], vs, i, h => by simp only [Reps] at h; subst h; simp [Reps]
  | x :: l, vs, 0, h => by
    simp only [Reps] at h
    obtain ⟨u, w, rfl, h1, h2⟩ := h
    simp only [List.set_cons_zero, Reps]
    exact ⟨v, w, rfl, r, h2⟩
  | x :: l, vs, i + 1, h => by
    simp only [Reps] at h
    obtain ⟨u, w, rfl, h1, h2⟩ := h
    simp only [List.set_cons_succ, Reps]
    exact ⟨u, w.set i v, rfl, h1, Reps.set r i h2⟩

omit [Tt] in
/-- a list changes, or goes -/
theorem tabs_lst {T : List (Addr × Str)} {H H' : Hp} {a : Addr} (t : LamX.Tabs T H) (h : ∃ vs, H a = some (.lst vs)) (k : ∀ b o, b ≠ a → H b = some o → H' b = some o) : LamX.Tabs T H' := by
  obtain ⟨vs, h⟩ := h
  intro p hp
  obtain ⟨ps, h1, h2, h3⟩ := t p hp
  refine ⟨ps, k _ _ (fun e => ?_) h1, h2, fun pos cv hc => ?_⟩
  · rw [e, h] at h1; cases h1
  · obtain ⟨c, e1, e2⟩ := h3 pos cv hc
    refine ⟨c, e1, k _ _ (fun e => ?_) e2⟩
    rw [e, h] at e2
    unfold LamX.CodeO at e2
    cases e2
/-- the store -/
structure SRep (ρ : Rho) (S : Store) (H : Hp) : Prop where
  len : ρ.c.length = S.length
  nd : ρ.c.Nodup
  hid : ∀ a ∈ ρ.h, a ∉ ρ.c ∧ ∃ vs, H a = some (.lst vs)
  at_ : ∀ (n : Nat) l a, S[n]? = some l → ρ.c[n]? = some a → ∃ vs, H a = some (.lst vs) ∧ l.length ≤ line ∧ Reps ρ H l vs
  tb : LamX.Tabs Tt.l H
theorem SRep.live {ρ : Rho} {S : Store} {H : Hp} (s : SRep ρ S H) : Live ρ H := fun a ha => by
  rcases ha with ha | ha
  case inr => exact (s.hid a ha).2
  obtain ⟨n, hn, e⟩ := List.mem_iff_getElem.mp ha
  have h1 : ρ.c[n]? = some a := by rw [List.getElem?_eq_getElem hn, e]
  have h2 : n < S.length := by rw [← s.len]; exact hn
  obtain ⟨vs, q, _⟩ := s.at_ n _ a (List.getElem?_eq_getElem h2) h1
  exact ⟨vs, q⟩
structure ERep (ρ : Rho) (env : Env) (σ : L2.St) (H : Hp) : Prop where
  len : env.length = σ.length
  at_ : ∀ (i : Nat) d, env[i]? = some (some d) → ∃ v, σ[i]? = some (some v) ∧ Rep ρ H d v
structure Ok (ρ : Rho) (env : Env) (S : Store) (σ : L2.St) (H : Hp) : Prop where
  e : ERep ρ env σ H
  s : SRep ρ S H
theorem ERep.mono {ρ ρ' : Rho} {env : Env} {σ : L2.St} {H H' : Hp} (f : Frm ρ H H') (g : Grow ρ ρ' H) (lv : Live ρ H) (e : ERep ρ env σ H) : ERep ρ' env σ H' :=
  ⟨e.len, fun i d h => let ⟨v, a, b⟩ := e.at_ i d h; ⟨v, a, b.mono f g lv d v⟩⟩
/-- a new object beside -/
theorem frm_of {ρ : Rho} {H H' : Hp} (s : Same H H') : Frm ρ H H' := fun b o e _ => .of (s b o e)
theorem SRep.same {ρ : Rho} {S : Store} {H H' : Hp} (s : SRep ρ S H) (q : Same H H') : SRep ρ S H' :=
  ⟨s.len, s.nd, fun a ha => ⟨(s.hid a ha).1, let ⟨vs, e⟩ := (s.hid a ha).2; ⟨vs, q _ _ e⟩⟩, fun n l a h1 h2 => by
    obtain ⟨vs, e, z, r⟩ := s.at_ n l a h1 h2
    exact ⟨vs, q _ _ e, z, r.mono (frm_of q) (Grow.refl _ _) s.live l vs⟩, s.tb.ext q⟩
theorem Ok.same {ρ : Rho} {env : Env} {S : Store} {σ : L2.St} {H H' : Hp} (k : Ok ρ env S σ H) (q : Same H H') : Ok ρ env S σ H' :=
  ⟨k.e.mono (frm_of q) (Grow.refl _ _) k.s.live, k.s.same q⟩
/-- all but tables stands -/
theorem SRep.grown {ρ : Rho} {S : Store} {H H' : Hp} (s : SRep ρ S H) (fr : Frm ρ H H') (q : ∀ b o, H b = some o → (∀ ps, o ≠ .tbl ps) → H' b = some o) (t : LamX.Tabs Tt.l H') : SRep ρ S H' :=
  ⟨s.len, s.nd, fun a ha => ⟨(s.hid a ha).1, let ⟨vs, e⟩ := (s.hid a ha).2; ⟨vs, q _ _ e nofun⟩⟩, fun n l a h1 h2 => by
    obtain ⟨vs, e, z, r⟩ := s.at_ n l a h1 h2
    exact ⟨vs, q _ _ e nofun, z, r.mono fr (Grow.refl _ _) s.live l vs⟩, t⟩
theorem Ok.grown {ρ : Rho} {env : Env} {S : Store} {σ : L2.St} {H H' : Hp} (k : Ok ρ env S σ H) (fr : Frm ρ H H') (q : ∀ b o, H b = some o → (∀ ps, o ≠ .tbl ps) → H' b = some o) (t : LamX.Tabs Tt.l H') : Ok ρ env S σ H' :=
  ⟨k.e.mono fr (Grow.refl _ _) k.s.live, k.s.grown fr q t⟩
theorem same_new {H : Hp} {p : Addr} {o : HO} (h : H p = none) : Same H (upd H p o) := fun b x e => by
  rw [upd_ne (ne_of_none e h)]; exact e

/-! ### what a result promises -/
/-- an exception -/
structure XRep (K : PySem.W.Frag) (mg : Str → Option Value) (ρ : Rho) (H : Hp) (x : XV) (c : Value) (dx : Option Addr) : Prop where
  cls : mg (xName x.cls) = some c
  args : (x.args = [] ∧ dx = none) ∨ ∃ d v a, x.args = [d] ∧ dx = some a ∧ H a = some (.xd [(xFld x.cls, v)]) ∧ Rep ρ H d v
section
variable {α β : Type}
def RP (X : Cx) (W : WX) (env : Env) (σ : L2.St) (ρ : Rho) (H : Hp) (Rv : Rho → Hp → α → β → Prop) (r : Res α) (Q : β → Hp → Prop) : Prop :=
  match r with
  | .ok d S' => ∀ v H' ρ', Frm ρ H H' → Grow ρ ρ' H → Ok ρ' env S' σ H' → Rv ρ' H' d v → Q v H'
  | .exc x S' => ∀ c dx H' ρ', Frm ρ H H' → Grow ρ ρ' H → Ok ρ' env S' σ H' → XRep X.K X.mg ρ' H' x c dx → W c dx σ H'
  | .bad => False
theorem RP.weak {X : Cx} {W : WX} {env : Env} {σ : L2.St} {ρ ρ1 : Rho} {H H1 : Hp} {Rv : Rho → Hp → α → β → Prop} {r : Res α} {Q : β → Hp → Prop}
    (h : RP X W env σ ρ H Rv r Q) (f : Frm ρ H H1) (g : Grow ρ ρ1 H) (lv : Live ρ H) (lv1 : Live ρ1 H1) : RP X W env σ ρ1 H1 Rv r Q := by
  cases r with
  | ok d S' => exact fun v H' ρ' f' g' k rv => h v H' ρ' (f.trans g f') (g.trans f lv g' lv1) k rv
  | exc x S' => exact fun c dx H' ρ' f' g' k rv => h c dx H' ρ' (f.trans g f') (g.trans f lv g' lv1) k rv
  | bad => exact h
/-- one after another -/
theorem RP.bind {γ δ : Type} {X : Cx} {W : WX} {env : Env} {σ : L2.St} {ρ : Rho} {H : Hp} {Rv : Rho → Hp → α → β → Prop} {Rw : Rho → Hp → γ → δ → Prop} {r : Res α} {k : α → Store → Res γ} {Q : β → Hp → Prop} {Q2 : δ → Hp → Prop}
    (h : RP X W env σ ρ H Rw (r.bind k) Q2) (lv : Live ρ H)
    (q : ∀ d S' v H' ρ', Frm ρ H H' → Grow ρ ρ' H → Ok ρ' env S' σ H' → Rv ρ' H' d v → RP X W env σ ρ' H' Rw (k d S') Q2 → Q v H') : RP X W env σ ρ H Rv r Q := by
  cases r with
  | ok d S' => exact fun v H' ρ' f g ok rv => q d S' v H' ρ' f g ok rv (RP.weak (r := k d S') h f g lv ok.s.live)
  | exc x S' => exact h
  | bad => exact h
end

/-! ### judgements -/
/-- the reading of an expression that gives f -/
def tD (X : Cx) (W : WX) (f : LK.Env → Store → Res D) : TE := fun σ H Q => ∃ env S ρ, Ok ρ env S σ H ∧ RP X W env σ ρ H Rep (f env S) Q
def tB (X : Cx) (W : WX) (f : LK.Env → Store → Res Bool) : TT := fun σ H Q => ∃ env S ρ, Ok ρ env S σ H ∧ RP X W env σ ρ H (fun _ _ b c => b = c) (f env S) Q
def tLs (X : Cx) (W : WX) (f : LK.Env → Store → Res (List D)) : TA := fun σ H Q => ∃ env S ρ, Ok ρ env S σ H ∧ RP X W env σ ρ H Reps (f env S) Q
theorem _root_.L2.PE.weak {X : Cx} {e : Expr} {t t' : TE} (h : PE X e t) (q : ∀ σ H Q, t' σ H Q → t σ H Q) : PE X e t' := ⟨fun pins s σ H Q I hw => h.run pins s σ H Q I (q _ _ _ hw)⟩
theorem _root_.L2.PT.weak {X : Cx} {e : Expr} {t t' : TT} (h : PT X e t) (q : ∀ σ H Q, t' σ H Q → t σ H Q) : PT X e t' := ⟨fun pins s σ H Q I hw => h.run pins s σ H Q I (q _ _ _ hw)⟩
theorem _root_.L2.PA.weak {X : Cx} {e : List Expr} {t t' : TA} (h : PA X e t) (q : ∀ σ H Q, t' σ H Q → t σ H Q) : PA X e t' := ⟨fun pos pins s σ H Q I hw => h.run pos pins s σ H Q I (q _ _ _ hw)⟩
end LK
set_option Elab.async false
set_option linter.all false
set_option autoImplicit false
set_option maxRecDepth 100000
/-! LK3: data as the library reads it; operations by values. -/
namespace LK
open PySem PySem.Spec PyProof.Rows L2
variable [Tt]

mutual
def D.py : D → PyData
  | .non => .none
  | .bl b => .bool b
  | .int i => .int i
  | .str s => .str (txt s)
  | .lst l => .list (D.pys l)
  | .tup l => .tuple (D.pys l)
  | .cell _ => .none
def D.pys : List D → List PyData
  | [] => []
  | d :: r => D.py d :: D.pys r
end
mutual
theorem Rep.lay {ρ : Rho} {H : Hp} : ∀ (d : D) (v : V), Rep ρ H d v → d.py.canLay0 = true
  | .non, v, _ => by simp [D.py, PyData.canLay0]
  | .bl _, v, _ => by simp [D.py, PyData.canLay0]
  | .int _, v, _ => by simp [D.py, PyData.canLay0]
  | .str s, v, h => by
    simp only [Rep] at h
    simp only [D.py, PyData.canLay0, PyData.strOk]
    simpa [txt] using h.2.2
  | .lst l, v, h => by
    simp only [Rep] at h
    obtain ⟨a, vs, rfl, ha, n, z, r⟩ := h
    simpa [D.py, PyData.canLay0] using Reps.lay l vs r
  | .tup l, v, h => by
    simp only [Rep] at h
    obtain ⟨a, vs, rfl, ha, z, r⟩ := h
    simpa [D.py, PyData.canLay0] using Reps.lay l vs r
  | .cell _, v, _ => by simp [D.py, PyData.canLay0]
theorem Reps.lay {ρ : Rho} {H : Hp} : ∀ (l : List D) (vs : List V), Reps ρ H l vs → PyData.canLayAll0 (D.pys l) = true
  | [], vs, _ => by simp [D.pys, PyData.canLayAll0]
  | d :: r, vs, h => by
    simp only [Reps] at h
    obtain ⟨v, w, rfl, h1, h2⟩ := h
    simp [D.pys, PyData.canLayAll0, Rep.lay d v h1, Reps.lay r w h2]
end
mutual
theorem py_depth : ∀ (n : Nat) (d : D), D.shal n d = true → d.py.depth ≤ n
  | n, .non, _ => by simp [D.py, PyData.depth]
  | n, .bl _, _ => by simp [D.py, PyData.depth]
  | n, .int _, _ => by simp [D.py, PyData.depth]
  | n, .str _, _ => by simp [D.py, PyData.depth]
  | n, .cell _, _ => by simp [D.py, PyData.depth]
  | 0, .lst l, h => by simp [D.shal] at h
  | 0, .tup l, h => by simp [D.shal] at h
  | n + 1, .lst l, h => by
    have := pys_depth n l (by simpa [D.shal] using h)
    simp only [D.py, PyData.depth]
    omega
  | n + 1, .tup l, h => by
    have := pys_depth n l (by simpa [D.shal] using h)
    simp only [D.py, PyData.depth]
    omega
theorem pys_depth : ∀ (n : Nat) (l : List D), D.shals n l = true → PyData.depthAll (D.pys l) ≤ n
  | n, [], _ => by simp [D.pys, PyData.depthAll]
  | n, d :: r, h => by
    simp [D.shals] at h
    have h1 := py_depth n d h.1
    have h2 := pys_depth n r h.2
    simp only [D.pys, PyData.depthAll]
    omega
end
theorem txt_beq (a b : List Nat) : (txt a == txt b) = (a == b) := by
  rw [Bool.eq_iff_iff]
  simp [txt]
mutual
theorem py_eqv : ∀ (x y : D), x.pure = true → y.pure = true → PyData.eqv x.py y.py = D.eqv x y
  | .non, y, _, h => by cases y <;> simp [D.py, PyData.eqv, D.eqv, D.pure] at h ⊢
  | .bl a, y, _, h => by cases y <;> simp [D.py, PyData.eqv, D.eqv, D.pure, b2i] at h ⊢
  | .int a, y, _, h => by cases y <;> simp [D.py, PyData.eqv, D.eqv, D.pure, b2i] at h ⊢
  | .str a, y, _, h => by
    cases y with
    | str b => simp only [D.py, PyData.eqv, D.eqv]; exact txt_beq a b
    | _ => simp [D.py, PyData.eqv, D.eqv, D.pure] at h ⊢
  | .lst a, y, h0, h => by
    cases y with
    | lst b =>
      simp only [D.py, PyData.eqv, D.eqv]
      exact pys_eqv a b (by simpa [D.pure] using h0) (by simpa [D.pure] using h)
    | _ => simp [D.py, PyData.eqv, D.eqv, D.pure] at h ⊢
  | .tup a, y, h0, h => by
    cases y with
    | tup b =>
      simp only [D.py, PyData.eqv, D.eqv]
      exact pys_eqv a b (by simpa [D.pure] using h0) (by simpa [D.pure] using h)
    | _ => simp [D.py, PyData.eqv, D.eqv, D.pure] at h ⊢
  | .cell a, y, h0, _ => by simp [D.pure] at h0
theorem pys_eqv : ∀ (x y : List D), D.pures x = true → D.pures y = true → PyData.eqvAll (D.pys x) (D.pys y) = D.eqvs x y
  | [], [], _, _ => by simp [D.pys, PyData.eqvAll, D.eqvs]
  | [], _ :: _, _, _ => by simp [D.pys, PyData.eqvAll, D.eqvs]
  | _ :: _, [], _, _ => by simp [D.pys, PyData.eqvAll, D.eqvs]
  | a :: r, b :: s, h, h' => by
    simp [D.pures] at h h'
    simp only [D.pys, PyData.eqvAll, D.eqvs, py_eqv a b h.1 h'.1, pys_eqv r s h.2 h'.2]
end
mutual
theorem thaw_pure (S : Store) : ∀ (d x : D), d.thaw S = some x → x.pure = true
  | .non, x, h => by simp [D.thaw] at h; subst h; simp [D.pure]
  | .bl _, x, h => by simp [D.thaw] at h; subst h; simp [D.pure]
  | .int _, x, h => by simp [D.thaw] at h; subst h; simp [D.pure]
  | .str _, x, h => by simp [D.thaw] at h; subst h; simp [D.pure]
  | .lst l, x, h => by
    simp [D.thaw] at h
    obtain ⟨k, hk, rfl⟩ := h
    simpa [D.pure] using thaws_pure S l k hk
  | .tup l, x, h => by
    simp [D.thaw] at h
    obtain ⟨k, hk, rfl⟩ := h
    simpa [D.pure] using thaws_pure S l k hk
  | .cell n, x, h => by
    simp only [D.thaw] at h
    split at h
    · split at h
      · cases h; simpa [D.pure]
      · cases h
    · cases h
theorem thaws_pure (S : Store) : ∀ (l k : List D), D.thaws S l = some k → D.pures k = true
  | [], k, h => by simp [D.thaws] at h; subst h; simp [D.pures]
  | d :: r, k, h => by
    simp only [D.thaws, Option.bind_eq_some_iff, Option.map_eq_some_iff] at h
    obtain ⟨x, hx, xs, hxs, rfl⟩ := h
    simp [D.pures, thaw_pure S d x hx, thaws_pure S r xs hxs]
end
theorem nobar (a : Addr) : a ∉ (⟨[], []⟩ : Rho) := fun h => by rcases h with h | h <;> cases h
mutual
/-- what is pure lies so whatever the cells -/
theorem Rep.any {ρ : Rho} {H : Hp} : ∀ (d : D) (v : V), d.pure = true → Rep ρ H d v → Rep ⟨[], []⟩ H d v
  | .non, v, _, h => by simpa [Rep] using h
  | .bl _, v, _, h => by simpa [Rep] using h
  | .int _, v, _, h => by simpa [Rep] using h
  | .str _, v, _, h => by simpa [Rep] using h
  | .lst l, v, p, h => by
    simp only [Rep] at h ⊢
    obtain ⟨a, vs, e, ha, n, z, r⟩ := h
    exact ⟨a, vs, e, ha, nobar a, z, Reps.any l vs (by simpa [D.pure] using p) r⟩
  | .tup l, v, p, h => by
    simp only [Rep] at h ⊢
    obtain ⟨a, vs, e, ha, z, r⟩ := h
    exact ⟨a, vs, e, ha, z, Reps.any l vs (by simpa [D.pure] using p) r⟩
  | .cell _, v, p, _ => by simp [D.pure] at p
theorem Reps.any {ρ : Rho} {H : Hp} : ∀ (l : List D) (vs : List V), D.pures l = true → Reps ρ H l vs → Reps ⟨[], []⟩ H l vs
  | [], vs, _, h => by simpa [Reps] using h
  | d :: l, vs, p, h => by
    simp [D.pures] at p
    simp only [Reps] at h ⊢
    obtain ⟨v, r, e, h1, h2⟩ := h
    exact ⟨v, r, e, Rep.any d v p.1 h1, Reps.any l r p.2 h2⟩
end
theorem nodup_get {α : Type} {l : List α} (h : l.Nodup) {i j : Nat} {x : α} (hi : l[i]? = some x) (hj : l[j]? = some x) : i = j := by
  obtain ⟨h1, e1⟩ := List.getElem?_eq_some_iff.mp hi
  obtain ⟨h2, e2⟩ := List.getElem?_eq_some_iff.mp hj
  have q := List.pairwise_iff_getElem.mp h
  rcases Nat.lt_trichotomy i j with c | c | c
  · exact absurd (e1.trans e2.symm) (q i j h1 h2 c)
  · exact c
  · exact absurd (e2.trans e1.symm) (q j i h2 h1 c)
mutual
theorem thaw_self (S : Store) : ∀ d : D, d.pure = true → d.thaw S = some d
  | .non, _ => rfl
  | .bl _, _ => rfl
  | .int _, _ => rfl
  | .str _, _ => rfl
  | .lst l, h => by simp only [D.thaw, thaws_self S l (by simpa [D.pure] using h)]; rfl
  | .tup l, h => by simp only [D.thaw, thaws_self S l (by simpa [D.pure] using h)]; rfl
  | .cell _, h => by simp [D.pure] at h
theorem thaws_self (S : Store) : ∀ l : List D, D.pures l = true → D.thaws S l = some l
  | [], _ => rfl
  | d :: l, h => by
    simp [D.pures] at h
    simp only [D.thaws, thaw_self S d h.1, thaws_self S l h.2]
    rfl
end
mutual
/-- fewer marks, where no cell is -/
theorem Rep.sets {ρ ρ' : Rho} {H : Hp} (hh : ∀ a, a ∈ ρ' → a ∈ ρ) : ∀ (d : D) (v : V), d.pure = true → Rep ρ H d v → Rep ρ' H d v
  | .non, v, _, h => by simpa [Rep] using h
  | .bl _, v, _, h => by simpa [Rep] using h
  | .int _, v, _, h => by simpa [Rep] using h
  | .str _, v, _, h => by simpa [Rep] using h
  | .lst l, v, p, h => by
    simp only [Rep] at h ⊢
    obtain ⟨a, vs, e, ha, n, z, r⟩ := h
    exact ⟨a, vs, e, ha, fun m => n (hh a m), z, Reps.sets hh l vs (by simpa [D.pure] using p) r⟩
  | .tup l, v, p, h => by
    simp only [Rep] at h ⊢
    obtain ⟨a, vs, e, ha, z, r⟩ := h
    exact ⟨a, vs, e, ha, z, Reps.sets hh l vs (by simpa [D.pure] using p) r⟩
  | .cell _, v, p, _ => by simp [D.pure] at p
theorem Reps.sets {ρ ρ' : Rho} {H : Hp} (hh : ∀ a, a ∈ ρ' → a ∈ ρ) : ∀ (l : List D) (vs : List V), D.pures l = true → Reps ρ H l vs → Reps ρ' H l vs
  | [], vs, _, h => by simpa [Reps] using h
  | d :: l, vs, p, h => by
    simp [D.pures] at p
    simp only [Reps] at h ⊢
    obtain ⟨v, r, e, h1, h2⟩ := h
    exact ⟨v, r, e, Rep.sets hh d v p.1 h1, Reps.sets hh l r p.2 h2⟩
end
mutual
/-- where no list is, marks do not matter -/
theorem Rep.flat {ρ ρ' : Rho} {H : Hp} : ∀ (d : D) (v : V), d.flat = true → Rep ρ H d v → Rep ρ' H d v
  | .non, v, _, h => by simpa [Rep] using h
  | .bl _, v, _, h => by simpa [Rep] using h
  | .int _, v, _, h => by simpa [Rep] using h
  | .str _, v, _, h => by simpa [Rep] using h
  | .lst l, v, p, h => by simp [D.flat] at p
  | .tup l, v, p, h => by
    simp only [Rep] at h ⊢
    obtain ⟨a, vs, e, ha, z, r⟩ := h
    exact ⟨a, vs, e, ha, z, Reps.flat l vs (by simpa [D.flat] using p) r⟩
  | .cell _, v, p, _ => by simp [D.flat] at p
theorem Reps.flat {ρ ρ' : Rho} {H : Hp} : ∀ (l : List D) (vs : List V), D.flats l = true → Reps ρ H l vs → Reps ρ' H l vs
  | [], vs, _, h => by simpa [Reps] using h
  | d :: l, vs, p, h => by
    simp [D.flats] at p
    simp only [Reps] at h ⊢
    obtain ⟨v, r, e, h1, h2⟩ := h
    exact ⟨v, r, e, Rep.flat d v p.1 h1, Reps.flat l r p.2 h2⟩
end
mutual
/-- a thing and what it is with its cells as they stand -/
theorem Rep.thawH {ρ : Rho} {S : Store} {H : Hp} (s : SRep ρ S H) : ∀ (d x : D) (v : V), d.thaw S = some x → Rep ρ H d v → Rep ⟨[], ρ.h⟩ H x v
  | .non, x, v, h, r => by simp [D.thaw] at h; subst h; simpa [Rep] using r
  | .bl _, x, v, h, r => by simp [D.thaw] at h; subst h; simpa [Rep] using r
  | .int _, x, v, h, r => by simp [D.thaw] at h; subst h; simpa [Rep] using r
  | .str _, x, v, h, r => by simp [D.thaw] at h; subst h; simpa [Rep] using r
  | .lst l, x, v, h, r => by
    simp [D.thaw] at h
    obtain ⟨k, hk, rfl⟩ := h
    simp only [Rep] at r ⊢
    obtain ⟨a, vs, e, ha, n, z, r⟩ := r
    have q := Reps.thawH s l k vs hk r
    refine ⟨a, vs, e, ha, fun m => n (m.elim (fun z => by cases z) .inr), ?_, q⟩
    rw [← q.length, r.length]; exact z
  | .tup l, x, v, h, r => by
    simp [D.thaw] at h
    obtain ⟨k, hk, rfl⟩ := h
    simp only [Rep] at r ⊢
    obtain ⟨a, vs, e, ha, z, r⟩ := r
    have q := Reps.thawH s l k vs hk r
    refine ⟨a, vs, e, ha, ?_, q⟩
    rw [← q.length, r.length]; exact z
  | .cell n, x, v, h, r => by
    simp only [D.thaw] at h
    simp only [Rep] at r
    obtain ⟨a, ha, ev⟩ := r
    split at h
    · rename_i l hl
      split at h
      · rename_i hp
        cases h
        obtain ⟨vs, e, z, q⟩ := s.at_ n l a hl ha
        simp only [Rep]
        refine ⟨a, vs, ev, .inl e, fun m => ?_, z, Reps.sets (ρ := ρ) (ρ' := ⟨[], ρ.h⟩) (fun b m => m.elim (fun z => by cases z) .inr) l vs hp q⟩
        rcases m with m | m
        · cases m
        · exact (s.hid a m).1 (List.mem_of_getElem? ha)
      · cases h
    · cases h
theorem Reps.thawH {ρ : Rho} {S : Store} {H : Hp} (s : SRep ρ S H) : ∀ (l k : List D) (vs : List V), D.thaws S l = some k → Reps ρ H l vs → Reps ⟨[], ρ.h⟩ H k vs
  | [], k, vs, h, r => by simp [D.thaws] at h; subst h; simpa [Reps] using r
  | d :: l, k, vs, h, r => by
    simp only [D.thaws, Option.bind_eq_some_iff, Option.map_eq_some_iff] at h
    obtain ⟨x, hx, xs, hxs, rfl⟩ := h
    simp only [Reps] at r ⊢
    obtain ⟨v, w, e, r1, r2⟩ := r
    exact ⟨v, w, e, Rep.thawH s d x v hx r1, Reps.thawH s l xs w hxs r2⟩
end
mutual
/-- at a def's end -/
theorem Rep.melt {ρ : Rho} {n : Nat} {S : Store} {H : Hp} (s : SRep ρ S H) : ∀ (d x : D) (v : V), d.melt n S = some x → Rep ρ H d v → Rep ⟨ρ.c.take n, ρ.h⟩ H x v ∧ x.pure = true
  | .non, x, v, h, r => by simp [D.melt] at h; subst h; exact ⟨by simpa [Rep] using r, rfl⟩
  | .bl _, x, v, h, r => by simp [D.melt] at h; subst h; exact ⟨by simpa [Rep] using r, rfl⟩
  | .int _, x, v, h, r => by simp [D.melt] at h; subst h; exact ⟨by simpa [Rep] using r, rfl⟩
  | .str _, x, v, h, r => by simp [D.melt] at h; subst h; exact ⟨by simpa [Rep] using r, rfl⟩
  | .lst l, x, v, h, r => by
    simp [D.melt] at h
    obtain ⟨k, hk, rfl⟩ := h
    simp only [Rep] at r ⊢
    obtain ⟨a, vs, e, ha, n', z, r⟩ := r
    obtain ⟨q, p⟩ := Reps.melt s l k vs hk r
    refine ⟨⟨a, vs, e, ha, fun m => n' (m.elim (fun z => .inl (List.mem_of_mem_take z)) .inr), ?_, q⟩, by simpa [D.pure] using p⟩
    rw [← q.length, r.length]; exact z
  | .tup l, x, v, h, r => by
    simp [D.melt] at h
    obtain ⟨k, hk, rfl⟩ := h
    simp only [Rep] at r ⊢
    obtain ⟨a, vs, e, ha, z, r⟩ := r
    obtain ⟨q, p⟩ := Reps.melt s l k vs hk r
    refine ⟨⟨a, vs, e, ha, ?_, q⟩, by simpa [D.pure] using p⟩
    rw [← q.length, r.length]; exact z
  | .cell k, x, v, h, r => by
    simp only [D.melt] at h
    simp only [Rep] at r
    obtain ⟨a, ha, ev⟩ := r
    split at h
    · rename_i hnk
      split at h
      · rename_i l hl
        split at h
        · rename_i hp
          cases h
          obtain ⟨vs, e, z, q⟩ := s.at_ k l a hl ha
          simp only [Rep]
          refine ⟨⟨a, vs, ev, .inl e, fun m => ?_, z, Reps.sets (ρ := ρ) (ρ' := ⟨ρ.c.take n, ρ.h⟩) (fun b m => m.elim (fun z => .inl (List.mem_of_mem_take z)) .inr) l vs hp q⟩, by simpa [D.pure] using hp⟩
          rcases m with m | m
          · obtain ⟨j, hj, ej⟩ := List.mem_iff_getElem.mp m
            rw [List.getElem_take] at ej
            rw [List.length_take] at hj
            obtain ⟨hk, ek⟩ := List.getElem?_eq_some_iff.mp ha
            have : j = k := nodup_get s.nd (List.getElem?_eq_some_iff.mpr ⟨by omega, ej⟩) ha
            omega
          · exact (s.hid a m).1 (List.mem_of_getElem? ha)
        · cases h
      · cases h
    · cases h
theorem Reps.melt {ρ : Rho} {n : Nat} {S : Store} {H : Hp} (s : SRep ρ S H) : ∀ (l k : List D) (vs : List V), D.melts n S l = some k → Reps ρ H l vs → Reps ⟨ρ.c.take n, ρ.h⟩ H k vs ∧ D.pures k = true
  | [], k, vs, h, r => by simp [D.melts] at h; subst h; exact ⟨by simpa [Reps] using r, rfl⟩
  | d :: l, k, vs, h, r => by
    simp only [D.melts, Option.bind_eq_some_iff, Option.map_eq_some_iff] at h
    obtain ⟨x, hx, xs, hxs, rfl⟩ := h
    simp only [Reps] at r ⊢
    obtain ⟨v, w, e, r1, r2⟩ := r
    obtain ⟨q1, p1⟩ := Rep.melt s d x v hx r1
    obtain ⟨q2, p2⟩ := Reps.melt s l xs w hxs r2
    exact ⟨⟨v, w, e, q1, q2⟩, by simp [D.pures, p1, p2]⟩
end
mutual
/-- a thing and what it is with its cells as they stand -/
theorem Rep.thaw {ρ : Rho} {S : Store} {H : Hp} (s : SRep ρ S H) : ∀ (d x : D) (v : V), d.thaw S = some x → Rep ρ H d v → Rep ⟨[], []⟩ H x v
  | .non, x, v, h, r => by simp [D.thaw] at h; subst h; simpa [Rep] using r
  | .bl _, x, v, h, r => by simp [D.thaw] at h; subst h; simpa [Rep] using r
  | .int _, x, v, h, r => by simp [D.thaw] at h; subst h; simpa [Rep] using r
  | .str _, x, v, h, r => by simp [D.thaw] at h; subst h; simpa [Rep] using r
  | .lst l, x, v, h, r => by
    simp [D.thaw] at h
    obtain ⟨k, hk, rfl⟩ := h
    simp only [Rep] at r ⊢
    obtain ⟨a, vs, e, ha, n, z, r⟩ := r
    have q := Reps.thaw s l k vs hk r
    refine ⟨a, vs, e, ha, nobar a, ?_, q⟩
    rw [← q.length, r.length]; exact z
  | .tup l, x, v, h, r => by
    simp [D.thaw] at h
    obtain ⟨k, hk, rfl⟩ := h
    simp only [Rep] at r ⊢
    obtain ⟨a, vs, e, ha, z, r⟩ := r
    have q := Reps.thaw s l k vs hk r
    refine ⟨a, vs, e, ha, ?_, q⟩
    rw [← q.length, r.length]; exact z
  | .cell n, x, v, h, r => by
    simp only [D.thaw] at h
    simp only [Rep] at r
    obtain ⟨a, ha, ev⟩ := r
    split at h
    · rename_i l hl
      split at h
      · rename_i hp
        cases h
        obtain ⟨vs, e, z, q⟩ := s.at_ n l a hl ha
        simp only [Rep]
        exact ⟨a, vs, ev, .inl e, nobar a, z, Reps.any l vs hp q⟩
      · cases h
    · cases h
theorem Reps.thaw {ρ : Rho} {S : Store} {H : Hp} (s : SRep ρ S H) : ∀ (l k : List D) (vs : List V), D.thaws S l = some k → Reps ρ H l vs → Reps ⟨[], []⟩ H k vs
  | [], k, vs, h, r => by simp [D.thaws] at h; subst h; simpa [Reps] using r
  | d :: l, k, vs, h, r => by
    simp only [D.thaws, Option.bind_eq_some_iff, Option.map_eq_some_iff] at h
    obtain ⟨x, hx, xs, hxs, rfl⟩ := h
    simp only [Reps] at r ⊢
    obtain ⟨v, w, e, r1, r2⟩ := r
    exact ⟨v, w, e, Rep.thaw s d x v hx r1, Reps.thaw s l xs w hxs r2⟩
end
mutual
/-- as the library's data -/
theorem Rep.dp {K : PySem.W.Frag} {ρ : Rho} {H : Hp} : ∀ (d : D) (v : V), d.pure = true → Rep ρ H d v → Dp K H v d.py
  | .non, v, _, h => by simp [Rep] at h; subst h; simpa [D.py] using Dp.non
  | .bl b, v, _, h => by simp [Rep] at h; subst h; simpa [D.py] using Dp.bl b
  | .int i, v, _, h => by simp [Rep] at h; subst h; simpa [D.py] using Dp.int i
  | .str s, v, _, h => by simp only [Rep] at h; obtain ⟨h, _⟩ := h; subst h; simpa [D.py] using Dp.str (txt s)
  | .lst l, v, p, h => by
    simp only [Rep] at h
    obtain ⟨a, vs, rfl, ha, n, z, r⟩ := h
    simp only [D.py]
    exact .lst ha.sq (Reps.dp l vs (by simpa [D.pure] using p) r)
  | .tup l, v, p, h => by
    simp only [Rep] at h
    obtain ⟨a, vs, rfl, ha, z, r⟩ := h
    simp only [D.py]
    exact .tup (SqT.of ha) (Reps.dp l vs (by simpa [D.pure] using p) r)
  | .cell _, v, p, _ => by simp [D.pure] at p
theorem Reps.dp {K : PySem.W.Frag} {ρ : Rho} {H : Hp} : ∀ (l : List D) (vs : List V), D.pures l = true → Reps ρ H l vs → DpAll K H vs (D.pys l)
  | [], vs, _, h => by simp [Reps] at h; subst h; simpa [D.pys] using DpAll.nil
  | d :: l, vs, p, h => by
    simp [D.pures] at p
    simp only [Reps] at h
    obtain ⟨v, r, rfl, h1, h2⟩ := h
    simp only [D.pys]
    exact .cons (Rep.dp d v p.1 h1) (Reps.dp l r p.2 h2)
end
end LK
set_option Elab.async false
set_option linter.all false
set_option autoImplicit false
set_option maxRecDepth 100000
set_option maxHeartbeats 4000000
/-! LK4t: a tuple times 0 or 1, or the empty one. -/
namespace LK
open PySem PySem.Spec PyProof.Rows L2
theorem tuple_mul_same (l : Addr) (items : Array Value) (n : Nat) (dd : Option Addr) (sl : Array (Option Value)) (x : Int) (u : Tok) (c0 : (decide (x < -(2 ^ 63)) || decide (x ≥ 2 ^ 63)) = false) (c1 : (items.isEmpty || x == 1) = true) :
    Meets (Builtin.«tuple.__mul__» ⟨[.ref l, .int x u], []⟩) (fun _ R s => s.heap.get? l = some { cls := .type "tuple", dict := dd, data := .seq items n, slots := sl } ∧ R (.ok (.ret (Value.ref l))) s) :=
  .of_wp fun prog w A R s h => by
    obtain ⟨hp, g, d, tk, os⟩ := s
    obtain ⟨hl, h⟩ := h
    have f1 := AutoSeq1.idx_int
    wp_walk using wpAny_loadPart' hl
    repeat (first
      | (refine wpAny_ite_false (decide_eq_false (by rw [c0]; exact Bool.false_ne_true)) ?_; wp_walk using wpAny_loadPart' hl)
      | (refine wpAny_ite_true (decide_eq_true (by rw [c1])) ?_; wp_walk using wpAny_loadPart' hl))
    exact ⟨_, rfl, h⟩
theorem tuple_mul_zero (l : Addr) (items : Array Value) (n : Nat) (dd : Option Addr) (sl : Array (Option Value)) (x : Int) (u : Tok) (c0 : (decide (x < -(2 ^ 63)) || decide (x ≥ 2 ^ 63)) = false) (c1 : (items.isEmpty || x == 1) = false) (c2 : (decide (x ≤ 0) || items.isEmpty) = true) :
    Meets (Builtin.«tuple.__mul__» ⟨[.ref l, .int x u], []⟩) (fun _ R s => s.heap.get? l = some { cls := .type "tuple", dict := dd, data := .seq items n, slots := sl } ∧
      R (.ok (.ret (Value.ref s.heap.objs.size))) { s with heap := s.heap.push { cls := Value.type "tuple", data := Data.seq #[] }, toks := s.toks }) :=
  .of_wp fun prog w A R s h => by
    obtain ⟨hp, g, d, tk, os⟩ := s
    obtain ⟨hl, h⟩ := h
    have f1 := AutoSeq1.idx_int
    wp_walk using wpAny_loadPart' hl
    repeat (first
      | (refine wpAny_ite_false (decide_eq_false (by rw [c0]; exact Bool.false_ne_true)) ?_; wp_walk using wpAny_loadPart' hl)
      | (refine wpAny_ite_false (decide_eq_false (by rw [c1]; exact Bool.false_ne_true)) ?_; wp_walk using wpAny_loadPart' hl)
      | (refine wpAny_ite_true (decide_eq_true (by rw [c2])) ?_; wp_walk using wpAny_loadPart' hl))
    exact ⟨_, rfl, h⟩
/-- a tuple times a number -/
def rRepU (K : PySem.W.Frag) : R2 := fun x y H Q => ∃ l k xs, x = .ref l ∧ y = .int k ∧ SqT K H l xs ∧ 0 ≤ k ∧ k ≤ 1000 ∧ xs.length ≤ 1000 ∧ (xs = [] ∨ k = 1 → Q (.ref l) H) ∧ ∀ p, H p = none → Q (.ref p) (upd H p (.tup (List.replicate k.toNat xs).flatten))
theorem op_repU {X : Cx} : OpR X (binaryOp .Mult) (rRepU X.K) := by
  intro pins s σ H x y v u Q I rx ry h
  obtain ⟨l, k, xs, ex, ey, hT, h1, h2, hz, q1, q2⟩ := h
  by_cases hs : xs = [] ∨ k = 1
  · subst ex; subst ey
    cases rx
    obtain ⟨t, rfl⟩ := ry
    obtain ⟨its, r, ⟨⟨cls, dd, data, sl⟩, ho, hc, n, hd⟩, hsz⟩ := I.tuple hT
    simp only at hc hd
    subst hc hd
    have c0 : (decide (k < -(2 ^ 63)) || decide (k ≥ 2 ^ 63)) = false := by
      rw [decide_eq_false (by omega), decide_eq_false (by omega)] <;> rfl
    have c1 : (its.toArray.isEmpty || k == 1) = true := by
      rcases hs with hs | hs
      · have hle := r.length
        rw [hs] at hle
        have : its = [] := List.length_eq_zero_iff.mp hle.symm
        rw [this]; rfl
      · rw [hs]; simp
    refine wpAny_binaryOp_repeat_ref (T := "tuple") (U := "int") (by decide) ⟨_, ho, rfl⟩ (fun s' => typeIs_int s' k t) noFill_tuple_mul F.fills_int_mul F.slot_int_rmul repeat_tuple F.slot_int_index.lookup
      (call_meets F.slot_int_rmul (typeIs_int s k t) F.entry_int_rmul (F.args_int_rmul_2 _ _) (int_rmul_tuple k t l its.toArray n dd sl)
        ⟨ho, rfl, ⟨_, ho, rfl⟩, call_meets F.slot_tuple_mul ⟨_, ho, rfl⟩ F.entry_tuple_mul (F.args_tuple_mul_2 _ _) (tuple_mul_same l its.toArray n dd sl k t c0 c1) ⟨ho, ?_⟩⟩)
    exact ⟨.ref l, H, I.tok _, rfl, q1 hs⟩
  · have hne : xs ≠ [] := fun e => hs (.inl e)
    have hk1 : k ≠ 1 := fun e => hs (.inr e)
    by_cases hk : 2 ≤ k
    · exact op_repT pins s σ H x y v u Q I rx ry ⟨l, k, xs, ex, ey, hT, hne, hk, h2, hz, q2⟩
    · have k0 : k = 0 := by omega
      subst ex; subst ey; subst k0
      cases rx
      obtain ⟨t, rfl⟩ := ry
      obtain ⟨its, r, ⟨⟨cls, dd, data, sl⟩, ho, hc, n, hd⟩, hsz⟩ := I.tuple hT
      simp only at hc hd
      subst hc hd
      have hle : its.length = xs.length := r.length.symm
      have hi : its.toArray.isEmpty = false := by
        cases its with
        | nil => exact absurd (List.length_eq_zero_iff.mp hle.symm) hne
        | cons a b => rfl
      have c0 : (decide ((0 : Int) < -(2 ^ 63)) || decide ((0 : Int) ≥ 2 ^ 63)) = false := by decide
      have c1 : (its.toArray.isEmpty || (0 : Int) == 1) = false := by rw [hi]; rfl
      have c2 : (decide ((0 : Int) ≤ 0) || its.toArray.isEmpty) = true := rfl
      refine wpAny_binaryOp_repeat_ref (T := "tuple") (U := "int") (by decide) ⟨_, ho, rfl⟩ (fun s' => typeIs_int s' 0 t) noFill_tuple_mul F.fills_int_mul F.slot_int_rmul repeat_tuple F.slot_int_index.lookup
        (call_meets F.slot_int_rmul (typeIs_int s 0 t) F.entry_int_rmul (F.args_int_rmul_2 _ _) (int_rmul_tuple 0 t l its.toArray n dd sl)
          ⟨ho, rfl, ⟨_, ho, rfl⟩, call_meets F.slot_tuple_mul ⟨_, ho, rfl⟩ F.entry_tuple_mul (F.args_tuple_mul_2 _ _) (tuple_mul_zero l its.toArray n dd sl 0 t c0 c1 c2) ⟨ho, ?_⟩⟩)
      refine ⟨.ref s.heap.objs.size, _, I.laid (t' := s.toks) (o := .tup (List.replicate (0 : Int).toNat xs).flatten) (fun b ob q => Heap.get?_push_of_some _ q) (Nat.le_refl _) ?_, rfl, q2 _ (I.hok.fresh (Nat.le_refl _))⟩
      exact ⟨by simp, [], .nil, IsTup.new _ _⟩
end LK
set_option Elab.async false
set_option linter.all false
set_option autoImplicit false
set_option maxRecDepth 100000
set_option maxHeartbeats 1000000
/-! LK4: the operators of two values. -/
namespace LK
open PySem PySem.Spec PyProof.Rows L2
variable [Tt]

/-- a rule serves an operation -/
def OpS (o : Op) (r : R2) : Prop := ∀ (S : Store) (ρ : Rho) (H : Hp) (x y : D) (vx vy : V) (d : D) (Q : VK), SRep ρ S H → Rep ρ H x vx → Rep ρ H y vy → binD S o x y = some d →
  (∀ v H', Same H H' → Rep ρ H' d v → Q v H') → r vx vy H Q
theorem okLen_some {α : Type} {l k : List α} (h : okLen l = some k) : k = l ∧ l.length ≤ line := by
  unfold okLen at h
  split at h
  · cases h; exact ⟨rfl, by assumption⟩
  · cases h
theorem Rep.str_of {ρ : Rho} {H : Hp} {s : List Nat} (h1 : s.length ≤ line) (h2 : s.all (fun c => decide (c < 1114112)) = true) : Rep ρ H (.str s) (.str (txt s)) := by
  show Rep ρ H (.str s) (V.str (txt s))
  unfold Rep
  exact ⟨rfl, h1, h2⟩
theorem Rep.tup_new {ρ : Rho} {H : Hp} {l : List D} {vs : List V} {p : Addr} (hp : H p = none) (lv : Live ρ H) (hz : l.length ≤ line) (r : Reps ρ H l vs) : Rep ρ (upd H p (.tup vs)) (.tup l) (.ref p) := by
  simp only [Rep]
  exact ⟨p, vs, rfl, upd_same, hz, r.mono (frm_of (same_new hp)) (Grow.refl _ _) lv l vs⟩
theorem Rep.lst_new {ρ : Rho} {H : Hp} {l : List D} {vs : List V} {p : Addr} (hp : H p = none) (lv : Live ρ H) (hz : l.length ≤ line) (r : Reps ρ H l vs) : Rep ρ (upd H p (.lst vs)) (.lst l) (.ref p) := by
  simp only [Rep]
  refine ⟨p, vs, rfl, .inl upd_same, fun hm => ?_, hz, r.mono (frm_of (same_new hp)) (Grow.refl _ _) lv l vs⟩
  obtain ⟨ws, q⟩ := lv p hm
  rw [hp] at q; cases q
theorem txt_append (a b : List Nat) : txt a ++ txt b = txt (a ++ b) := by
  show (⟨a.toArray ++ b.toArray⟩ : Str) = ⟨(a ++ b).toArray⟩
  simp
theorem txt_length (a : List Nat) : (txt a).length = a.length := by
  show (a.toArray).size = a.length
  simp

/-! ### a list or tuple, read -/
theorem Rep.items {K : PySem.W.Frag} {ρ : Rho} {S : Store} {H : Hp} (s : SRep ρ S H) {d : D} {v : V} {l : List D} (h : LK.items S d = some l) (r : Rep ρ H d v) :
    ∃ a vs, v = .ref a ∧ (SqL K H a vs ∨ SqT K H a vs) ∧ l.length ≤ line ∧ Reps ρ H l vs := by
  cases d with
  | lst k =>
    simp [LK.items] at h; subst h
    simp only [Rep] at r
    obtain ⟨a, vs, e, ha, n, z, r⟩ := r
    exact ⟨a, vs, e, .inl ha.sq, z, r⟩
  | tup k =>
    simp [LK.items] at h; subst h
    simp only [Rep] at r
    obtain ⟨a, vs, e, ha, z, r⟩ := r
    exact ⟨a, vs, e, .inr (SqT.of ha), z, r⟩
  | cell n =>
    simp [LK.items] at h
    simp only [Rep] at r
    obtain ⟨a, e, ev⟩ := r
    obtain ⟨vs, q, z, r⟩ := s.at_ n l a h e
    exact ⟨a, vs, ev, .inl (SqL.of q), z, r⟩
  | _ => simp [LK.items] at h

/-! ### rules over lists that may be locked -/
section
variable {X : Cx}
theorem LAt.rd {H : Hp} {a : Addr} {vs : List V} (h : LAt H a vs) : Rd H a (.lst vs) := h
theorem Inv.objL {pins : List (Addr × Obj)} {σ : L2.St} {H : Hp} {s : Shared} {a : Addr} {vs : List V} (I : Inv X pins σ H s) (h : LAt H a vs) :
    ∃ (its : List Value) (n : Nat), Vals vs its ∧ vs.length ≤ sizeLine ∧ s.heap.get? a = some { cls := .type "list", data := .seq its.toArray n } := by
  obtain ⟨z, its, n, r, e⟩ := h.rd.ok I.hok
  exact ⟨its, n, r, z, e⟩
def rCatL : R2 := fun x y H Q => ∃ l b xs zs, x = .ref l ∧ y = .ref b ∧ LAt H l xs ∧ LAt H b zs ∧ xs.length + zs.length ≤ sizeLine ∧ ∀ p, H p = none → Q (.ref p) (upd H p (.lst (xs ++ zs)))
theorem op_catL : OpR X (binaryOp .Add) rCatL := by
  intro pins s σ H x y v u Q I rx ry ⟨l, b, xs, zs, ex, ey, hl, hb, hz, q⟩
  subst ex; subst ey
  cases rx; cases ry
  obtain ⟨i1, n1, r1, z1, e1⟩ := Inv.objL I hl
  obtain ⟨i2, n2, r2, z2, e2⟩ := Inv.objL I hb
  have l1 := r1.length
  have l2 := r2.length
  refine PySem.P.add_list e1 e2 ?_ (by simp only [List.size_toArray]; omega)
  rw [show i1.toArray ++ i2.toArray = (i1 ++ i2).toArray by simp]
  exact ⟨.ref _, _, I.lnew (t' := s.toks) (r1.append r2) (by rw [List.length_append]; omega), rfl, q _ I.fresh⟩
def rAdd4 (K : PySem.W.Frag) : R2 := fun x y H Q => (((rI0 fun i j => V.int (i + j)) x y H Q ∨ (∃ i j, x = V.str i ∧ y = V.str j ∧ i.length + j.length ≤ sizeLine ∧ Q (.str (i ++ j)) H)) ∨ rCatA K x y H Q) ∨ rCatL x y H Q
theorem or_add : OpR X (binaryOp .Add) (rAdd4 X.K) := ((op_add.or op_add_str).or op_catA).or op_catL
/-- a list's place, its own or a cell's -/
theorem Rep.listAt {ρ : Rho} {S : Store} {H : Hp} (s : SRep ρ S H) {d : D} {v : V} {l : List D} (h : LK.items S d = some l) (nt : ∀ k, d ≠ .tup k) (r : Rep ρ H d v) :
    ∃ a vs, v = .ref a ∧ LAt H a vs ∧ Reps ρ H l vs := by
  cases d with
  | lst k =>
    simp [LK.items] at h; subst h
    simp only [Rep] at r
    obtain ⟨a, vs, e, ha, n, z, r⟩ := r
    exact ⟨a, vs, e, ha, r⟩
  | tup k => exact absurd rfl (nt k)
  | cell n =>
    simp [LK.items] at h
    simp only [Rep] at r
    obtain ⟨a, e, ev⟩ := r
    obtain ⟨vs, q, z, r⟩ := s.at_ n l a h e
    exact ⟨a, vs, ev, .inl q, r⟩
  | _ => simp [LK.items] at h
theorem addL {K : PySem.W.Frag} {ρ : Rho} {S : Store} {H : Hp} {x y : D} {vx vy : V} {l k m : List D} {Q : VK} (s : SRep ρ S H) (rx : Rep ρ H x vx) (ry : Rep ρ H y vy)
    (hl : LK.items S x = some l) (hk : LK.items S y = some k) (nx : ∀ k, x ≠ .tup k) (ny : ∀ k, y ≠ .tup k) (hm : okLen (l ++ k) = some m) (q : ∀ v H', Same H H' → Rep ρ H' (.lst m) v → Q v H') : rAdd4 K vx vy H Q := by
  obtain ⟨a, vs, rfl, ha, r1⟩ := Rep.listAt s hl nx rx
  obtain ⟨b, ws, rfl, hb, r2⟩ := Rep.listAt s hk ny ry
  obtain ⟨rfl, hz⟩ := okLen_some hm
  refine .inr ⟨a, b, vs, ws, rfl, rfl, ha, hb, ?_, fun p hp => q _ _ (same_new hp) (Rep.lst_new hp s.live hz (r1.append r2))⟩
  rw [r1.length, r2.length, ← line_eq]
  rw [List.length_append] at hz
  exact hz
theorem ops_add {K : PySem.W.Frag} : OpS .add (rAdd4 K) := by
  intro S ρ H x y vx vy d Q s rx ry h q
  simp only [binD] at h
  split at h
  · cases h
    simp only [Rep] at rx ry
    subst rx ry
    exact .inl (.inl (.inl ⟨_, _, rfl, rfl, q _ _ (fun _ _ e => e) (by simp [Rep])⟩))
  · rename_i a b
    simp only [Option.map_eq_some_iff] at h
    obtain ⟨c, hc, rfl⟩ := h
    obtain ⟨rfl, hz⟩ := okLen_some hc
    simp only [Rep] at rx ry
    obtain ⟨rfl, h1, h2⟩ := rx
    obtain ⟨rfl, h3, h4⟩ := ry
    refine .inl (.inl (.inr ⟨_, _, rfl, rfl, ?_, q _ _ (fun _ _ e => e) ?_⟩))
    · rw [txt_length, txt_length, ← line_eq]
      rw [List.length_append] at hz
      exact hz
    · rw [txt_append]
      exact Rep.str_of hz (by rw [List.all_append, h2, h4]; rfl)
  · rename_i a b
    simp only [Option.map_eq_some_iff] at h
    obtain ⟨c, hc, rfl⟩ := h
    obtain ⟨rfl, hz⟩ := okLen_some hc
    have rx0 := rx
    have ry0 := ry
    simp only [Rep] at rx ry
    obtain ⟨p, vs, rfl, hp, z1, r1⟩ := rx
    obtain ⟨p2, ws, rfl, hp2, z2, r2⟩ := ry
    refine .inl (.inr ⟨p, p2, vs, ws, rfl, rfl, SqT.of hp, SqT.of hp2, ?_, fun e => ?_, fun e1 e2 => ?_, fun _ _ t ht => q _ _ (same_new ht) (Rep.tup_new ht s.live hz (r1.append r2))⟩)
    · rw [r1.length, r2.length, ← line_eq]
      rw [List.length_append] at hz
      exact hz
    · have : a = [] := by
        have := r1.length
        rw [e] at this
        exact List.length_eq_zero_iff.mp this.symm
      subst this
      exact q _ _ (fun _ _ e => e) ry0
    · have : b = [] := by
        have := r2.length
        rw [e2] at this
        exact List.length_eq_zero_iff.mp this.symm
      subst this
      exact q _ _ (fun _ _ e => e) (by rw [List.append_nil]; exact rx0)
  · simp only [Option.map_eq_some_iff] at h
    obtain ⟨c, hc, rfl⟩ := h
    exact addL s rx ry rfl rfl (by simp) (by simp) hc q
  · simp only [Option.map_eq_some_iff, Option.bind_eq_some_iff] at h
    obtain ⟨a, ha, c, hc, rfl⟩ := h
    exact addL s rx ry (by simpa [LK.items] using ha) rfl (by simp) (by simp) hc q
  · simp only [Option.map_eq_some_iff, Option.bind_eq_some_iff] at h
    obtain ⟨a, ha, c, hc, rfl⟩ := h
    exact addL s rx ry rfl (by simpa [LK.items] using ha) (by simp) (by simp) hc q
  · simp only [Option.map_eq_some_iff, Option.bind_eq_some_iff] at h
    obtain ⟨a, ha, b, hb, c, hc, rfl⟩ := h
    exact addL s rx ry (by simpa [LK.items] using ha) (by simpa [LK.items] using hb) (by simp) (by simp) hc q
  · cases h
/-! ### ints -/
theorem ops_sub : OpS .sub (rI0 fun i j => V.int (i - j)) := by
  intro S ρ H x y vx vy d Q s rx ry h q
  cases x <;> cases y <;> simp only [binD] at h <;> first | cases h | skip
  simp only [Rep] at rx ry
  subst rx ry
  exact ⟨_, _, rfl, rfl, q _ _ (fun _ _ e => e) (by simp [Rep])⟩
theorem smallI_iff {i : Int} (h : smallI i = true) : -(2 ^ 64) < i ∧ i < 2 ^ 64 := of_decide_eq_true h
theorem rep_flat {α : Type} (l : List α) : ∀ n, repList l n = (List.replicate n l).flatten
  | 0 => rfl
  | n + 1 => by simp [repList, rep_flat l n, List.replicate_succ]
theorem Reps.rep {ρ : Rho} {H : Hp} {l : List D} {vs : List V} (r : Reps ρ H l vs) : ∀ n, Reps ρ H (repList l n) (List.replicate n vs).flatten
  | 0 => by simp [repList, Reps]
  | n + 1 => by
    rw [List.replicate_succ, List.flatten_cons]
    exact Reps.append r (Reps.rep r n)
theorem rep_len {α : Type} (l : List α) (n : Nat) : (repList l n).length = l.length * n := by
  rw [rep_flat]; simp [List.length_flatten, Nat.mul_comm]
/-- a list times a number, whatever list -/
def rRepL : R2 := fun x y H Q => ∃ l k xs, x = .ref l ∧ y = .int k ∧ LAt H l xs ∧ 0 ≤ k ∧ k ≤ 1000 ∧ xs.length ≤ 1000 ∧ ∀ p, H p = none → Q (.ref p) (upd H p (.lst (List.replicate k.toNat xs).flatten))
theorem fold_rep (its : List Value) (m : Nat) : List.foldl (fun a b => a ++ b) #[] (List.replicate m its.toArray) = (List.replicate m its).flatten.toArray := by
  have := foldl_rep its m []
  rwa [List.nil_append] at this
theorem op_repL {X : Cx} : OpR X (binaryOp .Mult) rRepL := by
  intro pins s σ H x y v u Q I rx ry ⟨l, k, xs, ex, ey, hl, h1, h2, h3, q⟩
  subst ex; subst ey
  cases rx
  obtain ⟨t, rfl⟩ := ry
  obtain ⟨its, n, r, z, e⟩ := Inv.objL I hl
  have el := r.length
  have hk : k.toNat ≤ 1000 := by omega
  have w0 : xs.length * k.toNat ≤ 1000 * 1000 := Nat.mul_le_mul h3 hk
  have w1 : its.toArray.size * k.toNat ≤ sizeLine := by simp only [List.size_toArray]; rw [← el, sizeLine_eq]; omega
  have w2 : ¬ its.toArray.size * k.toNat > (2 ^ 63 - 1) / 8 := by rw [sizeLine_eq] at w1; omega
  have w3 : ¬ (!Builtin.List.listFitsIndex k) = true := by rw [fitsIndex_both (by omega) (by omega)]; decide
  have w4 : ¬ Builtin.List.listTooLong (its.toArray.size * k.toNat) = true := by rw [notLongL w1]; decide
  have w5 : List.foldl (fun a b => a ++ b) #[] (List.replicate (if its.toArray.isEmpty = true then 0 else k.toNat) its.toArray) = (List.replicate k.toNat its).flatten.toArray := by
    rw [fold_rep]
    cases its <;> simp
  refine wpAny_binaryOp_repeat_ref (T := "list") (U := "int") (by decide) ⟨_, e, rfl⟩ (fun s2 => typeIs_int s2 k t) noFill_list_mul F.fills_int_mul F.slot_int_rmul repeat_list F.slot_int_index.lookup ?_
  refine call_meets F.slot_int_rmul (typeIs_int s k t) F.entry_int_rmul (F.args_int_rmul_2 _ _) (int___rmul___int_list k t l its.toArray n) ⟨e, rfl, ⟨_, e, rfl⟩, ?_⟩
  refine call_meets F.slot_list_mul ⟨_, e, rfl⟩ F.entry_list_mul (F.args_list_mul_2 _ _) (AutoListH.list___mul___list_int_3 l its.toArray n k t w3 w2 w4) ⟨e, ?_⟩
  rw [w5]
  exact ⟨.ref _, _, I.lnew (t' := s.toks) (r.rep k.toNat) (by rw [PyProof.Rows.lm_len_rep_flat, Nat.mul_comm, sizeLine_eq]; omega), rfl, q _ I.fresh⟩
theorem ops_mul {K : PySem.W.Frag} : OpS .mul (fun x y H Q => ((rI CMul fun i j => V.int (i * j)) x y H Q ∨ rRepU K x y H Q) ∨ rRepL x y H Q) := by
  intro S ρ H x y vx vy d Q s rx ry h q
  simp only [binD] at h
  split at h
  · rename_i a b
    split at h
    · rename_i hs
      cases h
      simp only [Rep] at rx ry
      subst rx ry
      refine .inl (.inl ⟨_, _, rfl, rfl, ?_, q _ _ (fun _ _ e => e) (by simp [Rep])⟩)
      rw [Bool.or_eq_true] at hs
      rcases hs with hs | hs
      · exact .inl (smallI_iff hs)
      · exact .inr (smallI_iff hs)
    · cases h
  · rename_i a b
    split at h
    · rename_i hs
      cases h
      obtain ⟨h1, h2, h3⟩ := hs
      have rx0 := rx
      simp only [Rep] at rx ry
      subst ry
      obtain ⟨p, vs, rfl, hp, z, r⟩ := rx
      refine .inl (.inr ⟨p, b, vs, rfl, rfl, SqT.of hp, h1, h2, by rw [r.length]; exact h3, fun e => ?_, fun t ht => q _ _ (same_new ht) (Rep.tup_new ht s.live ?_ (r.rep _))⟩)
      · have e2 : repList a b.toNat = a := by
          rcases e with e | e
          · have := r.length
            rw [e] at this
            have ha : a = [] := List.length_eq_zero_iff.mp this.symm
            rw [ha, rep_flat]
            simp
          · rw [e]
            simp [repList]
        exact q _ _ (fun _ _ e => e) (by rw [e2]; exact rx0)
      · rw [rep_len]
        have h4 : b.toNat ≤ 1000 := by omega
        exact Nat.le_trans (Nat.mul_le_mul h3 h4) (by decide)
    · cases h
  · rename_i a b
    have hh : ∀ {x : D} {l : List D}, items S x = some l → (∀ k, x ≠ .tup k) → Rep ρ H x vx → 0 ≤ b ∧ b ≤ 1000 ∧ l.length ≤ 1000 → Rep ρ H (.int b) vy → d = .lst (repList l b.toNat) → rRepL vx vy H Q := fun {x l} hi hn rx hs ry hd => by
      subst hd
      obtain ⟨h1, h2, h3⟩ := hs
      simp only [Rep] at ry
      subst ry
      obtain ⟨p, vs, rfl, hp, r⟩ := Rep.listAt s hi hn rx
      have h4 : b.toNat ≤ 1000 := by omega
      have h5 : l.length * b.toNat ≤ 1000 * 1000 := Nat.mul_le_mul h3 h4
      refine ⟨p, b, vs, rfl, rfl, hp, h1, h2, by rw [r.length]; exact h3, fun t ht => q _ _ (same_new ht) (Rep.lst_new ht s.live ?_ (r.rep _))⟩
      rw [rep_len]
      exact Nat.le_trans h5 (by decide)
    split at h
    · rename_i hs
      exact .inr (hh (x := .lst a) rfl (by simp) rx hs ry (by cases h; rfl))
    · cases h
  · rename_i n b
    have hh : ∀ {x : D} {l : List D}, items S x = some l → (∀ k, x ≠ .tup k) → Rep ρ H x vx → 0 ≤ b ∧ b ≤ 1000 ∧ l.length ≤ 1000 → Rep ρ H (.int b) vy → d = .lst (repList l b.toNat) → rRepL vx vy H Q := fun {x l} hi hn rx hs ry hd => by
      subst hd
      obtain ⟨h1, h2, h3⟩ := hs
      simp only [Rep] at ry
      subst ry
      obtain ⟨p, vs, rfl, hp, r⟩ := Rep.listAt s hi hn rx
      have h4 : b.toNat ≤ 1000 := by omega
      have h5 : l.length * b.toNat ≤ 1000 * 1000 := Nat.mul_le_mul h3 h4
      refine ⟨p, b, vs, rfl, rfl, hp, h1, h2, by rw [r.length]; exact h3, fun t ht => q _ _ (same_new ht) (Rep.lst_new ht s.live ?_ (r.rep _))⟩
      rw [rep_len]
      exact Nat.le_trans h5 (by decide)
    simp only [Option.bind_eq_some_iff] at h
    obtain ⟨a, ha, h⟩ := h
    split at h
    · rename_i hs
      exact .inr (hh (x := .cell n) ha (by simp) rx hs ry (by cases h; rfl))
    · cases h
  · cases h
theorem ops_fdiv : OpS .fdiv (rI CDiv fun i j => V.int (i / j)) := by
  intro S ρ H x y vx vy d Q s rx ry h q
  cases x <;> cases y <;> simp only [binD] at h <;> first | (cases h; done) | skip
  split at h
  · rename_i hs
    cases h
    simp only [Rep] at rx ry
    subst rx ry
    exact ⟨_, _, rfl, rfl, hs, q _ _ (fun _ _ e => e) (by simp [Rep])⟩
  · cases h
theorem ops_mod : OpS .mod (rI (fun _ j => 0 < j) fun i j => V.int (i % j)) := by
  intro S ρ H x y vx vy d Q s rx ry h q
  cases x <;> cases y <;> simp only [binD] at h <;> first | (cases h; done) | skip
  split at h
  · rename_i hs
    cases h
    simp only [Rep] at rx ry
    subst rx ry
    exact ⟨_, _, rfl, rfl, hs, q _ _ (fun _ _ e => e) (by simp [Rep])⟩
  · cases h
theorem ops_pow : OpS .pow (rI CPow fun i j => V.int (i ^ j.toNat)) := by
  intro S ρ H x y vx vy d Q s rx ry h q
  cases x <;> cases y <;> simp only [binD] at h <;> first | (cases h; done) | skip
  split at h
  · rename_i hs
    cases h
    obtain ⟨h1, h2, h3⟩ := hs
    simp only [Rep] at rx ry
    subst rx ry
    have := smallI_iff h3
    exact ⟨_, _, rfl, rfl, ⟨h1, by omega, by omega⟩, q _ _ (fun _ _ e => e) (by simp [Rep])⟩
  · cases h
theorem ops_le : OpS .le (rI0 fun i j => V.bl (decide (i ≤ j))) := by
  intro S ρ H x y vx vy d Q s rx ry h q
  cases x <;> cases y <;> simp only [binD] at h <;> first | (cases h; done) | skip
  cases h
  simp only [Rep] at rx ry
  subst rx ry
  exact ⟨_, _, rfl, rfl, q _ _ (fun _ _ e => e) (by simp [Rep])⟩
theorem ops_ge : OpS .ge (rI0 fun i j => V.bl (decide (j ≤ i))) := by
  intro S ρ H x y vx vy d Q s rx ry h q
  cases x <;> cases y <;> simp only [binD] at h <;> first | (cases h; done) | skip
  cases h
  simp only [Rep] at rx ry
  subst rx ry
  exact ⟨_, _, rfl, rfl, q _ _ (fun _ _ e => e) (by simp [Rep])⟩
theorem ops_gt : OpS .gt (rI0 fun i j => V.bl (decide (j < i))) := by
  intro S ρ H x y vx vy d Q s rx ry h q
  cases x <;> cases y <;> simp only [binD] at h <;> first | (cases h; done) | skip
  cases h
  simp only [Rep] at rx ry
  subst rx ry
  exact ⟨_, _, rfl, rfl, q _ _ (fun _ _ e => e) (by simp [Rep])⟩
/-! ### is None -/
theorem Rep.non_iff {ρ : Rho} {H : Hp} {d : D} {v : V} (r : Rep ρ H d v) : decide (v = V.non) = (match d with | .non => true | _ => false) := by
  cases d <;> simp only [Rep] at r
  · subst r; rfl
  · subst r; rfl
  · subst r; rfl
  · obtain ⟨rfl, _⟩ := r; rfl
  · obtain ⟨a, vs, rfl, _⟩ := r; rfl
  · obtain ⟨a, vs, rfl, _⟩ := r; rfl
  · obtain ⟨a, _, rfl⟩ := r; rfl
/-! ### == and != -/
def rEqM (K : PySem.W.Frag) (neg : Bool) : R2 := fun x y H Q => ∃ d e : PyData, Dp K H x d ∧ Dp K H y e ∧ d.canLay0 = true ∧ e.canLay0 = true ∧ min d.depth e.depth ≤ 30 ∧ Q (.bl (if neg then !PyData.eqv d e else PyData.eqv d e)) H
theorem op_eqM (hu : X.A.units + 100 < cLine) : OpR X (compareOp .Eq) (rEqM X.K false) := by
  intro pins s σ H x y v u Q I rx ry ⟨d, e, hd, he, ld, le, hm, q⟩
  obtain ⟨as, r1⟩ := Dp.reads I d x v hd rx
  obtain ⟨bs, r2⟩ := Dp.reads I e y u he ry
  exact SeqAt.compareEq_reads r1 r2 ld le (by omega) ⟨.bl _, H, I, rfl, q⟩
theorem op_neM (hu : X.A.units + 100 < cLine) : OpR X (compareOp .NotEq) (rEqM X.K true) := by
  intro pins s σ H x y v u Q I rx ry ⟨d, e, hd, he, ld, le, hm, q⟩
  obtain ⟨as, r1⟩ := Dp.reads I d x v hd rx
  obtain ⟨bs, r2⟩ := Dp.reads I e y u he ry
  exact SeqAt.compareNe_reads r1 r2 ld le (by omega) ⟨.bl _, H, I, rfl, q⟩
theorem shal2_depth {a b : D} (h : shal2 a b = true) : min a.py.depth b.py.depth ≤ 30 := by
  rw [shal2, Bool.or_eq_true] at h
  rcases h with h | h
  · exact Nat.le_trans (Nat.min_le_left _ _) (py_depth 30 a h)
  · exact Nat.le_trans (Nat.min_le_right _ _) (py_depth 30 b h)
theorem eqvO_some {a b : D} {k : Bool} (h : D.eqvO a b = some k) : shal2 a b = true ∧ k = D.eqv a b := by
  unfold D.eqvO at h
  split at h
  · cases h; exact ⟨by assumption, rfl⟩
  · cases h
theorem ops_eq {K : PySem.W.Frag} : OpS .eq (rEqM K false) := by
  intro S ρ H x y vx vy d Q s rx ry h q
  simp only [binD, Option.bind_eq_some_iff, Option.map_eq_some_iff] at h
  obtain ⟨a, ha, b, hb, k, hk, rfl⟩ := h
  obtain ⟨h1, rfl⟩ := eqvO_some hk
  have r1 := Rep.thaw s x a vx ha rx
  have r2 := Rep.thaw s y b vy hb ry
  have p1 := thaw_pure S x a ha
  have p2 := thaw_pure S y b hb
  refine ⟨a.py, b.py, Rep.dp a vx p1 r1, Rep.dp b vy p2 r2, Rep.lay a vx r1, Rep.lay b vy r2, shal2_depth h1, ?_⟩
  rw [py_eqv a b p1 p2]
  exact q _ _ (fun _ _ e => e) (by simp [Rep])
theorem ops_ne {K : PySem.W.Frag} : OpS .ne (rEqM K true) := by
  intro S ρ H x y vx vy d Q s rx ry h q
  simp only [binD, Option.bind_eq_some_iff, Option.map_eq_some_iff] at h
  obtain ⟨a, ha, b, hb, k, hk, rfl⟩ := h
  obtain ⟨h1, rfl⟩ := eqvO_some hk
  have r1 := Rep.thaw s x a vx ha rx
  have r2 := Rep.thaw s y b vy hb ry
  have p1 := thaw_pure S x a ha
  have p2 := thaw_pure S y b hb
  refine ⟨a.py, b.py, Rep.dp a vx p1 r1, Rep.dp b vy p2 r2, Rep.lay a vx r1, Rep.lay b vy r2, shal2_depth h1, ?_⟩
  rw [py_eqv a b p1 p2]
  exact q _ _ (fun _ _ e => e) (by simp [Rep])
/-! ### in, not in -/
theorem any_py : ∀ {l : List D} {a : D}, D.pures l = true → a.pure = true → ((D.pys l).any fun z => PyData.eqv z a.py) = l.any fun z => D.eqv z a
  | [], _, _, _ => rfl
  | x :: r, a, h, p => by
    simp [D.pures] at h
    simp only [D.pys, List.any_cons]
    rw [py_eqv x a h.1 p, any_py h.2 p]
def rInM (K : PySem.W.Frag) (neg : Bool) : R2 := fun x y H Q => ∃ (d : PyData) (ds : List PyData) (b : Bool), Dp K H x d ∧ Dp K H y (if b then .tuple ds else .list ds) ∧ d.canLay0 = true ∧ PyData.canLayAll0 ds = true ∧ min (PyData.depthAll ds) d.depth ≤ 30 ∧
  Q (.bl (if neg then !(ds.any fun z => PyData.eqv z d) else ds.any fun z => PyData.eqv z d)) H
theorem op_inM (hu : X.A.units + 100 < cLine) : OpR X (compareOp .In) (rInM X.K false) := by
  intro pins s σ H x y v u Q I rx ry ⟨d, ds, b, hd, he, ld, le, hm, q⟩
  obtain ⟨as, r1⟩ := Dp.reads I d x v hd rx
  cases b with
  | true =>
    obtain ⟨bs, r2⟩ := Dp.reads I _ y u he ry
    exact SeqAt.in_tuple_reads r2 r1 le ld (by omega) ⟨.bl _, H, I, rfl, q⟩
  | false =>
    obtain ⟨bs, r2⟩ := Dp.reads I _ y u he ry
    exact SeqAt.in_list_reads r2 r1 le ld (by omega) ⟨.bl _, H, I, rfl, q⟩
theorem op_ninM (hu : X.A.units + 100 < cLine) : OpR X (compareOp .NotIn) (rInM X.K true) := by
  intro pins s σ H x y v u Q I rx ry ⟨d, ds, b, hd, he, ld, le, hm, q⟩
  obtain ⟨as, r1⟩ := Dp.reads I d x v hd rx
  cases b with
  | true =>
    obtain ⟨bs, r2⟩ := Dp.reads I _ y u he ry
    exact SeqAt.notIn_tuple_reads r2 r1 le ld (by omega) ⟨.bl _, H, I, rfl, q⟩
  | false =>
    obtain ⟨bs, r2⟩ := Dp.reads I _ y u he ry
    exact SeqAt.notIn_list_reads r2 r1 le ld (by omega) ⟨.bl _, H, I, rfl, q⟩
def rInS (neg : Bool) : R2 := fun x y H Q => ∃ (c : Nat) (z : Str), x = .str ⟨#[c]⟩ ∧ y = .str z ∧ Q (.bl (if neg then !decide (c ∈ z.cps.toList) else decide (c ∈ z.cps.toList))) H
theorem memO_some {a : D} {l : List D} {k : Bool} (h : D.memO a l = some k) : shal2 a (.lst l) = true ∧ k = l.any fun z => D.eqv z a := by
  unfold D.memO at h
  split at h
  · cases h; exact ⟨by assumption, rfl⟩
  · cases h
theorem shal2_in {a : D} {l : List D} (h : shal2 a (.lst l) = true) : min (PyData.depthAll (D.pys l)) a.py.depth ≤ 30 := by
  have := shal2_depth h
  simp only [D.py, PyData.depth] at this
  omega
theorem Rep.seqD {K : PySem.W.Frag} {ρ : Rho} {S : Store} {H : Hp} (s : SRep ρ S H) {d : D} {v : V} {l k : List D} (h : LK.items S d = some l) (hk : D.thaws S l = some k) (r : Rep ρ H d v) :
    ∃ b : Bool, Dp K H v (if b then PyData.tuple (D.pys k) else .list (D.pys k)) := by
  obtain ⟨a, vs, rfl, hq, z, r1⟩ := Rep.items (K := K) s h r
  have r2 := Reps.thaw s l k vs hk r1
  have q := Reps.dp (K := K) k vs (thaws_pure S l k hk) r2
  rcases hq with hq | hq
  · exact ⟨false, .lst hq q⟩
  · exact ⟨true, .tup hq q⟩
theorem Reps.layT {ρ : Rho} {S : Store} {H : Hp} (s : SRep ρ S H) {d : D} {v : V} {l k : List D} (h : LK.items S d = some l) (hk : D.thaws S l = some k) (r : Rep ρ H d v) : PyData.canLayAll0 (D.pys k) = true := by
  obtain ⟨a, vs, rfl, hq, z, r1⟩ := Rep.items (K := ([] : PySem.W.Frag)) s h r
  exact Reps.lay k vs (Reps.thaw s l k vs hk r1)
/-! ### < -/
theorem ltNats_eq : ∀ (a b : List Nat), ltNats a b = decide (a < b)
  | [], [] => by simp [ltNats]
  | [], _ :: _ => by simp [ltNats]
  | _ :: _, [] => by simp [ltNats]
  | a :: r, b :: s => by
    unfold ltNats
    by_cases e : a = b
    · subst e
      simp [ltNats_eq r s, List.cons_lt_cons_iff]
    · have e2 : (a == b) = false := by simpa using e
      rw [e2]
      simp [List.cons_lt_cons_iff, e]
mutual
theorem py_like : ∀ (x y : D), D.like x y = true → PySem.W.alike x.py y.py = true
  | .int a, y, h => by cases y <;> simp [D.like] at h; simp [D.py, PySem.W.alike]
  | .str a, y, h => by cases y <;> simp [D.like] at h; simp [D.py, PySem.W.alike]
  | .tup a, y, h => by
    cases y <;> simp [D.like] at h
    simpa [D.py, PySem.W.alike] using pys_like a _ h
  | .non, y, h => by simp [D.like] at h
  | .bl _, y, h => by simp [D.like] at h
  | .lst _, y, h => by simp [D.like] at h
  | .cell _, y, h => by simp [D.like] at h
theorem pys_like : ∀ (x y : List D), D.likes x y = true → PySem.W.alikeAll (D.pys x) (D.pys y) = true
  | [], y, _ => by simp [D.pys, PySem.W.alikeAll]
  | a :: r, [], _ => by simp [D.pys, PySem.W.alikeAll]
  | a :: r, b :: s, h => by
    simp [D.likes] at h
    simp [D.pys, PySem.W.alikeAll, py_like a b h.1, pys_like r s h.2]
end
mutual
theorem like_pure : ∀ (x y : D), D.like x y = true → D.eqv x y = PyData.eqv x.py y.py
  | .int a, y, h => by cases y <;> simp [D.like] at h; simp [D.py, D.eqv, PyData.eqv]
  | .str a, y, h => by
    cases y <;> simp [D.like] at h
    simp only [D.py, D.eqv, PyData.eqv]
    exact (txt_beq _ _).symm
  | .tup a, y, h => by
    cases y <;> simp [D.like] at h
    simpa [D.py, D.eqv, PyData.eqv] using likes_pure a _ h
  | .non, y, h => by simp [D.like] at h
  | .bl _, y, h => by simp [D.like] at h
  | .lst _, y, h => by simp [D.like] at h
  | .cell _, y, h => by simp [D.like] at h
theorem likes_pure : ∀ (x y : List D), D.likes x y = true → D.eqvs x y = PyData.eqvAll (D.pys x) (D.pys y)
  | [], [], _ => by simp [D.pys, D.eqvs, PyData.eqvAll]
  | [], _ :: _, _ => by simp [D.pys, D.eqvs, PyData.eqvAll]
  | _ :: _, [], _ => by simp [D.pys, D.eqvs, PyData.eqvAll]
  | a :: r, b :: s, h => by
    simp [D.likes] at h
    simp only [D.pys, D.eqvs, PyData.eqvAll, like_pure a b h.1, likes_pure r s h.2]
end
theorem toks_nil_cons (x : PyData) (xs : List PyData) : PyProof.Rows.lexLt itemOrd (PySem.W.keyToksAll []) (PySem.W.keyToksAll (x :: xs)) = true := by
  rw [PySem.W.toks_all_cons]
  simp only [PySem.W.keyToksAll]
  rfl
theorem toks_cons_nil (x : PyData) (xs : List PyData) : PyProof.Rows.lexLt itemOrd (PySem.W.keyToksAll (x :: xs)) (PySem.W.keyToksAll []) = false := by
  rw [PySem.W.toks_all_cons]
  simp only [PySem.W.keyToksAll]
  rfl
mutual
theorem py_lt : ∀ (x y : D), D.like x y = true → PySem.W.dataLt x.py y.py = D.lt x y
  | .int a, y, h => by
    cases y <;> simp [D.like] at h
    simp only [D.py, D.lt]
    exact PySem.W.dataLt_int _ _
  | .str a, y, h => by
    cases y <;> simp [D.like] at h
    simp only [D.py, D.lt]
    rw [PySem.W.dataLt_str, ltNats_eq]
  | .tup a, y, h => by
    cases y <;> simp [D.like] at h
    simp only [D.py, D.lt]
    rw [PySem.W.dataLt_tuple]
    exact pys_lt a _ h
  | .non, y, h => by simp [D.like] at h
  | .bl _, y, h => by simp [D.like] at h
  | .lst _, y, h => by simp [D.like] at h
  | .cell _, y, h => by simp [D.like] at h
theorem pys_lt : ∀ (x y : List D), D.likes x y = true → PyProof.Rows.lexLt itemOrd (PySem.W.keyToksAll (D.pys x)) (PySem.W.keyToksAll (D.pys y)) = D.lts x y
  | [], [], _ => by simp only [D.pys, D.lts, PySem.W.keyToksAll]; rfl
  | [], _ :: _, _ => by simp only [D.pys, D.lts]; exact toks_nil_cons _ _
  | _ :: _, [], _ => by simp only [D.pys, D.lts]; exact toks_cons_nil _ _
  | a :: r, b :: s, h => by
    simp [D.likes] at h
    simp only [D.pys, D.lts]
    rw [PySem.W.dataLt_cons (py_like a b h.1), ← like_pure a b h.1, pys_lt r s h.2, py_lt a b h.1]
end
def rLtM (K : PySem.W.Frag) : R2 := fun x y H Q => ∃ d e : PyData, Dp K H x d ∧ Dp K H y e ∧ PySem.W.alike d e = true ∧ d ≠ .none ∧ min d.depth e.depth ≤ 30 ∧ Q (.bl (PySem.W.dataLt d e)) H
theorem op_ltM (hu : X.A.units + 100 < cLine) : OpR X (compareOp .Lt) (rLtM X.K) := by
  intro pins s σ H x y v u Q I rx ry ⟨d, e, hd, he, hal, hn, hm, q⟩
  obtain ⟨as, r1⟩ := Dp.reads I d x v hd rx
  obtain ⟨bs, r2⟩ := Dp.reads I e y u he ry
  exact PySem.W.rcLt_alike d e X.A s v u as bs r1 r2 hal hn (by omega) _ _ _ _ ⟨.bl _, H, I, rfl, q⟩
mutual
theorem like_is_pure : ∀ (x y : D), D.like x y = true → x.py ≠ .none
  | .int a, y, h => by simp [D.py]
  | .str a, y, h => by simp [D.py]
  | .tup a, y, h => by simp [D.py]
  | .non, y, h => by simp [D.like] at h
  | .bl _, y, h => by simp [D.like] at h
  | .lst _, y, h => by simp [D.like] at h
  | .cell _, y, h => by simp [D.like] at h
end
theorem ops_lt {K : PySem.W.Frag} : OpS .lt (rLtM K) := by
  intro S ρ H x y vx vy d Q s rx ry h q
  simp only [binD, Option.map_eq_some_iff] at h
  obtain ⟨k, hk, rfl⟩ := h
  unfold D.ltO at hk
  split at hk
  · rename_i hh
    cases hk
    rw [Bool.and_eq_true, Bool.and_eq_true, Bool.and_eq_true] at hh
    obtain ⟨⟨⟨h1, p1⟩, p2⟩, h2⟩ := hh
    refine ⟨x.py, y.py, Rep.dp x vx p1 rx, Rep.dp y vy p2 ry, py_like x y h1, like_is_pure x y h1, shal2_depth h2, ?_⟩
    rw [py_lt x y h1]
    exact q _ _ (fun _ _ e => e) (by simp [Rep])
  · cases hk
/-! ### in -/
def rMem (K : PySem.W.Frag) (neg : Bool) : R2 := fun x y H Q => rInS neg x y H Q ∨ rInM K neg x y H Q
theorem or_mem (hu : X.A.units + 100 < cLine) : OpR X (compareOp .In) (rMem X.K false) := op_in_sign.or (op_inM hu)
theorem or_nmem (hu : X.A.units + 100 < cLine) : OpR X (compareOp .NotIn) (rMem X.K true) := op_notIn_sign.or (op_ninM hu)
theorem ops_mem0 {K : PySem.W.Frag} {S : Store} {ρ : Rho} {H : Hp} {x y : D} {vx vy : V} {neg b : Bool} {Q : VK} (s : SRep ρ S H) (rx : Rep ρ H x vx) (ry : Rep ρ H y vy) (h : memD S x y = some b)
    (q : ∀ v H', Same H H' → Rep ρ H' (.bl (if neg then !b else b)) v → Q v H') : rMem K neg vx vy H Q := by
  unfold memD at h
  split at h
  · rename_i c z
    cases h
    simp only [Rep] at rx ry
    obtain ⟨rfl, h1, h2⟩ := rx
    obtain ⟨rfl, h3, h4⟩ := ry
    refine .inl ⟨c, txt z, rfl, rfl, q _ _ (fun _ _ e => e) ?_⟩
    simp [Rep, txt]
  · simp only [Option.bind_eq_some_iff] at h
    obtain ⟨a, ha, l, hl, k, hk, hb⟩ := h
    obtain ⟨h1, rfl⟩ := memO_some hb
    have r1 := Rep.thaw s x a vx ha rx
    obtain ⟨tb, hd⟩ := Rep.seqD (K := K) s hl hk ry
    have p1 := thaw_pure S x a ha
    have p2 := thaws_pure S l k hk
    refine .inr ⟨a.py, D.pys k, tb, Rep.dp a vx p1 r1, hd, Rep.lay a vx r1, Reps.layT s hl hk ry, shal2_in h1, ?_⟩
    rw [any_py p2 p1]
    exact q _ _ (fun _ _ e => e) (by simp [Rep])
theorem ops_mem {K : PySem.W.Frag} : OpS .mem (rMem K false) := by
  intro S ρ H x y vx vy d Q s rx ry h q
  simp only [binD, Option.map_eq_some_iff] at h
  obtain ⟨b, hb, rfl⟩ := h
  exact ops_mem0 s rx ry hb q
theorem ops_nmem {K : PySem.W.Frag} : OpS .nmem (rMem K true) := by
  intro S ρ H x y vx vy d Q s rx ry h q
  simp only [binD, Option.map_eq_some_iff] at h
  obtain ⟨b, hb, rfl⟩ := h
  exact ops_mem0 s rx ry hb q
/-! ### x[i] -/
theorem ixOf_ixN {n : Nat} {i : Int} {k : Nat} (h : ixOf n i = some k) : ixN n i = some k := by
  unfold ixOf at h
  unfold ixN
  split at h
  · rename_i h0
    rw [if_pos h0]
    split at h
    · rename_i h1
      cases h
      rw [if_pos (by omega)]
    · cases h
  · rename_i h0
    rw [if_neg h0]
    split at h
    · rename_i h1
      cases h
      rw [if_pos (by omega)]
    · cases h
theorem ops_ix {K : PySem.W.Frag} : OpS .ix (rIx K) := by
  intro S ρ H x y vx vy d Q s rx ry h q
  cases y <;> simp only [binD] at h <;> first | (cases h; done) | skip
  rename_i i
  simp only [Rep] at ry
  subst ry
  split at h
  · rename_i z
    simp only [Option.bind_eq_some_iff, Option.map_eq_some_iff] at h
    obtain ⟨k, hk, c, hc, rfl⟩ := h
    simp only [Rep] at rx
    obtain ⟨rfl, h1, h2⟩ := rx
    refine .inr (.inr ⟨txt z, i, c, rfl, rfl, by rw [txt_length, ← line_eq]; exact h1, ?_, q _ _ (fun _ _ e => e) ?_⟩)
    · unfold atI
      have e : (txt z).cps.toList = z := by simp [txt]
      rw [e, ixOf_ixN hk]
      exact hc
    · have hm := List.mem_of_getElem? hc
      have h3 := (List.all_eq_true.mp h2) c hm
      exact Rep.str_of (s := [c]) (by show 1 ≤ 16777216; decide) (by simpa using h3)
  · simp only [Option.bind_eq_some_iff] at h
    obtain ⟨l, hl, k, hk, hd⟩ := h
    obtain ⟨a, vs, rfl, hq, hz, r⟩ := Rep.items (K := K) s hl rx
    obtain ⟨v, hv, rv⟩ := r.get hd
    have hat : atI vs i = some v := by
      unfold atI
      rw [r.length, ixOf_ixN hk]
      exact hv
    rcases hq with hq | hq
    · exact .inl ⟨a, vs, i, v, rfl, rfl, hq, hat, q _ _ (fun _ _ e => e) rv⟩
    · exact .inr (.inl ⟨a, vs, i, v, rfl, rfl, hq, hat, q _ _ (fun _ _ e => e) rv⟩)
end
end LK
set_option Elab.async false
set_option linter.all false
set_option autoImplicit false
set_option maxRecDepth 100000
set_option maxHeartbeats 1000000
/-! LK4b: what is walked. -/
namespace LK
open PySem PySem.Spec PyProof.Rows L2
variable [Tt]
section
variable {X : Cx} {W : WX}
/-! ### what is walked -/
/-- an iterator J goes over l; g: the cell that it goes over -/
structure Src (J : It) (l : List D) (g : Option Nat) (live : Store → Rho → Hp → Prop) : Prop where
  len : l.length ≤ line
  stop : ∀ {S : Store} {ρ : Rho} {H : Hp}, SRep ρ S H → live S ρ H → J.stop l.length H
  go : ∀ {S : Store} {ρ : Rho} {H : Hp} {i : Nat} {d : D}, SRep ρ S H → live S ρ H → l[i]? = some d → J.go i H
  yld : ∀ {S : Store} {ρ : Rho} {H H' : Hp} {i : Nat} {d : D} {x : V}, SRep ρ S H → live S ρ H → l[i]? = some d → J.yld i H x H' → Same H H' ∧ Rep ρ H' d x
  keep : ∀ {S S' : Store} {ρ ρ' : Rho} {H H' : Hp}, SRep ρ S H → SRep ρ' S' H' → live S ρ H → Frw ρ H H' → Grow ρ ρ' H → stays g S S' = true → live S' ρ' H'
  hide : ∀ {S : Store} {ρ : Rho} {H : Hp} {p : Addr}, SRep ρ S H → live S ρ H → H p = none → live S ⟨ρ.c, p :: ρ.h⟩ (upd H p (.lst []))
def SrcAt (ρ : Rho) (H : Hp) (q : (List D × Option Nat) × Store) (J : It) : Prop := ∃ live, Src J q.1.1 q.1.2 live ∧ live q.2 ρ H
def withS {α : Type} (r : Res α) : Res (α × Store) := r.bind fun a S => .ok (a, S) S
def tI (X : Cx) (W : WX) (f : Env → Store → Res (List D × Option Nat)) : TI := fun σ H R => ∃ env S ρ, Ok ρ env S σ H ∧ RP X W env σ ρ H SrcAt (withS (f env S)) R
theorem _root_.L2.PI.weak {tg e : Expr} {t t' : TI} (h : PI X tg e t) (q : ∀ σ H R, t' σ H R → t σ H R) : PI X tg e t' := ⟨fun pins s σ H R I hw => h.run pins s σ H R I (q _ _ _ hw)⟩
/-- a list, a tuple or a text -/
def iAny (K : PySem.W.Frag) (te : TE) : TI := fun σ H R => te σ H fun x H1 => ∃ J, R J H1 ∧ ((∃ a, x = .ref a ∧ J = Itl K a ∧ ∃ xs, SqL K H1 a xs) ∨ (∃ a, x = .ref a ∧ J = Itt K a ∧ ∃ xs, SqT K H1 a xs) ∨ ∃ z, x = .str z ∧ J = Its z)
theorem pi_any {tg e : Expr} {te : TE} (he : PE X e te) : PI X tg e (iAny X.K te) := by
  refine ⟨fun pins s σ H R I h => ?_⟩
  refine thn (he.run pins s σ H _ I h) fun v s1 ⟨x, H1, I1, r1, J, q, q1⟩ => ?_
  rcases q1 with ⟨a, rfl, rfl, xs, hq⟩ | ⟨a, rfl, rfl, xs, hq⟩ | ⟨z, rfl, rfl⟩
  · cases r1
    obtain ⟨its, rv, p, hz⟩ := I1.list hq
    refine wpAny_pyIter_list p.isList ?_
    refine ⟨s1.heap.objs.size, [s1.heap.objs.size], _, _, H1, rfl, I1.kept (t' := s1.toks) fun b o e => Heap.get?_push_of_some _ e, turn_list a _, ⟨_, Heap.get?_push_size _ rfl, rfl, rfl⟩, fun b hb => ?_, q⟩
    have e : b = s1.heap.objs.size := by simpa using hb
    subst e
    exact I1.fpOk (Nat.le_refl _) (I1.hok.fresh (Nat.le_refl _))
  · cases r1
    obtain ⟨its, rv, p, hz⟩ := I1.tuple hq
    refine wpAny_pyIter_tuple (show s1.heap.IsTuple a its.toArray from p) ?_
    refine ⟨s1.heap.objs.size, [s1.heap.objs.size], _, _, H1, rfl, I1.kept (t' := s1.toks) fun b o e => Heap.get?_push_of_some _ e, turn_tuple a _, ⟨_, Heap.get?_push_size _ rfl, rfl, rfl⟩, fun b hb => ?_, q⟩
    have e : b = s1.heap.objs.size := by simpa using hb
    subst e
    exact I1.fpOk (Nat.le_refl _) (I1.hok.fresh (Nat.le_refl _))
  · obtain ⟨t, rfl⟩ := r1
    cases ha : z.cps.all (· < 128)
    · exact wpAny_pyIter_wide ha (pi_one (tk := s1.toks) I1 _ (turn_str _ z t "str_iterator" (.inr rfl)) ⟨_, Heap.get?_push_size _ rfl, rfl, rfl⟩ q)
    · exact wpAny_pyIter_ascii ha (pi_one (tk := s1.toks) I1 _ (turn_str _ z t "str_ascii_iterator" (.inl rfl)) ⟨_, Heap.get?_push_size _ rfl, rfl, rfl⟩ q)
/-! the sources -/
/-- a list that stays as it is -/
theorem src_lst {K : PySem.W.Frag} {a : Addr} {l : List D} {vs : List V} (hz : l.length ≤ line) : Src (Itl K a) l none (fun S ρ H => LAt H a vs ∧ a ∉ ρ ∧ Reps ρ H l vs) where
  len := hz
  stop := fun s ⟨ha, n, r⟩ => ⟨vs, ha.sq, Nat.le_of_eq r.length⟩
  go := fun s ⟨ha, n, r⟩ e => by
    obtain ⟨v, hv, _⟩ := r.get e
    exact ⟨vs, v, ha.sq, hv⟩
  yld := fun s ⟨ha, n, r⟩ e y => by
    obtain ⟨rfl, h⟩ := y
    obtain ⟨v, hv, rv⟩ := r.get e
    have := h vs ha.sq
    rw [hv] at this
    cases this
    exact ⟨fun _ _ e => e, rv⟩
  keep := fun {S S' ρ ρ' H H'} s s' ⟨ha, n, r⟩ f g _ => by
    refine ⟨ha.keep f n, fun hm => ?_, r.monoW f g s.live l vs⟩
    obtain ⟨more, rfl, hn⟩ := g
    rcases hm with hm | hm
    · rcases List.mem_append.mp hm with q | q
      · exact n (.inl q)
      · exact ha.real (hn a q)
    · exact n (.inr hm)
  hide := fun {S ρ H p} s ⟨ha, n, r⟩ hp => by
    have na : a ≠ p := by
      rintro rfl
      obtain ⟨o, t⟩ := ha.track
      rw [hp] at t; cases t
    refine ⟨?_, fun m => ?_, Reps.hide hp l vs r⟩
    · unfold LAt
      rw [upd_ne na]
      exact ha
    · rcases m with m | m
      · exact n (.inl m)
      · rcases List.mem_cons.mp m with m | m
        · exact na m
        · exact n (.inr m)
theorem src_tup {K : PySem.W.Frag} {a : Addr} {l : List D} {vs : List V} (hz : l.length ≤ line) : Src (Itt K a) l none (fun S ρ H => H a = some (.tup vs) ∧ Reps ρ H l vs) where
  len := hz
  stop := fun s ⟨ha, r⟩ => ⟨vs, SqT.of ha, Nat.le_of_eq r.length⟩
  go := fun s ⟨ha, r⟩ e => by
    obtain ⟨v, hv, _⟩ := r.get e
    exact ⟨vs, v, SqT.of ha, hv⟩
  yld := fun s ⟨ha, r⟩ e y => by
    obtain ⟨rfl, h⟩ := y
    obtain ⟨v, hv, rv⟩ := r.get e
    have := h vs (SqT.of ha)
    rw [hv] at this
    cases this
    exact ⟨fun _ _ e => e, rv⟩
  keep := fun {S S' ρ ρ' H H'} s s' ⟨ha, r⟩ f g _ => by
    refine ⟨f.get ha fun hm => ?_, r.monoW f g s.live l vs⟩
    obtain ⟨ws, q⟩ := s.live a hm
    rw [ha] at q; cases q
  hide := fun {S ρ H p} s ⟨ha, r⟩ hp => by
    have na : a ≠ p := by
      rintro rfl
      rw [hp] at ha; cases ha
    exact ⟨by rw [upd_ne na]; exact ha, Reps.hide hp l vs r⟩
/-- a cell -/
theorem src_cell {K : PySem.W.Frag} {a : Addr} {l : List D} {n : Nat} (hz : l.length ≤ line) : Src (Itl K a) l (some n) (fun S ρ H => S[n]? = some l ∧ ρ.c[n]? = some a) where
  len := hz
  stop := fun s ⟨hl, ha⟩ => by
    obtain ⟨vs, e, _, r⟩ := s.at_ n l a hl ha
    exact ⟨vs, .inl (.inl e), Nat.le_of_eq r.length⟩
  go := fun s ⟨hl, ha⟩ e => by
    obtain ⟨vs, e', _, r⟩ := s.at_ n l a hl ha
    obtain ⟨v, hv, _⟩ := r.get e
    exact ⟨vs, v, .inl (.inl e'), hv⟩
  yld := fun s ⟨hl, ha⟩ e y => by
    obtain ⟨rfl, h⟩ := y
    obtain ⟨vs, e', _, r⟩ := s.at_ n l a hl ha
    obtain ⟨v, hv, rv⟩ := r.get e
    have := h vs (.inl (.inl e'))
    rw [hv] at this
    cases this
    exact ⟨fun _ _ e => e, rv⟩
  keep := fun {S S' ρ ρ' H H'} s s' ⟨hl, ha⟩ f g st => by
    simp only [stays, decide_eq_true_eq] at st
    refine ⟨st.trans hl, ?_⟩
    obtain ⟨more, rfl, _⟩ := g
    obtain ⟨hlt, _⟩ := List.getElem?_eq_some_iff.mp ha
    show (ρ.c ++ more)[n]? = some a
    rw [List.getElem?_append_left hlt]
    exact ha
  hide := fun s h hp => h
theorem src_str {z : List Nat} (h1 : z.length ≤ line) (h2 : z.all (fun c => decide (c < 1114112)) = true) : Src (Its (txt z)) (z.map fun c => D.str [c]) none (fun _ _ _ => True) where
  len := by rw [List.length_map]; exact h1
  stop := fun s _ => by
    show (txt z).cps.size ≤ _
    simp
  go := fun {S ρ H i d} s _ e => by
    obtain ⟨hlt, _⟩ := List.getElem?_eq_some_iff.mp e
    show i < (txt z).cps.size
    simpa using hlt
  yld := fun {S ρ H H' i d x} s _ e y => by
    obtain ⟨rfl, c, hc, rfl⟩ := y
    have hz : z[i]? = some c := by simpa using hc
    rw [List.getElem?_map, hz] at e
    simp at e
    subst e
    refine ⟨fun _ _ e => e, ?_⟩
    simp only [Rep]
    rw [List.all_eq_true] at h2
    have := h2 c (List.mem_of_getElem? hz)
    exact ⟨trivial, by show 1 ≤ 16777216; decide, by simpa using this⟩
  keep := fun _ _ _ _ _ _ => trivial
  hide := fun _ _ _ => trivial
theorem pi_bad {tg e : Expr} : PI X tg e (tI X W fun _ _ => .bad) := ⟨fun pins s σ H R I ⟨env, S, ρ, k, h⟩ => h.elim⟩
theorem walk_read {env : Env} {S : Store} {ρ : Rho} {σ : L2.St} {H : Hp} {d : D} {v : V} {R : It → Hp → Prop} (k : Ok ρ env S σ H) (r : Rep ρ H d v)
    (h : RP X W env σ ρ H SrcAt (withS (Res.of S ((walked S d).map fun l => (l, asCell d)))) R) :
    ∃ J, R J H ∧ ((∃ a, v = .ref a ∧ J = Itl X.K a ∧ ∃ xs, SqL X.K H a xs) ∨ (∃ a, v = .ref a ∧ J = Itt X.K a ∧ ∃ xs, SqT X.K H a xs) ∨ ∃ z, v = .str z ∧ J = Its z) := by
  cases d with
  | str z =>
    simp only [Rep] at r
    obtain ⟨rfl, h1, h2⟩ := r
    exact ⟨Its (txt z), h _ H ρ (Frm.refl _ _) (Grow.refl _ _) k ⟨_, src_str h1 h2, trivial⟩, .inr (.inr ⟨_, rfl, rfl⟩)⟩
  | lst l =>
    simp only [Rep] at r
    obtain ⟨a, vs, rfl, ha, n, hz, r⟩ := r
    exact ⟨Itl X.K a, h _ H ρ (Frm.refl _ _) (Grow.refl _ _) k ⟨_, src_lst hz, ha, n, r⟩, .inl ⟨a, rfl, rfl, vs, ha.sq⟩⟩
  | tup l =>
    simp only [Rep] at r
    obtain ⟨a, vs, rfl, ha, hz, r⟩ := r
    exact ⟨Itt X.K a, h _ H ρ (Frm.refl _ _) (Grow.refl _ _) k ⟨_, src_tup hz, ha, r⟩, .inr (.inl ⟨a, rfl, rfl, vs, SqT.of ha⟩)⟩
  | cell n =>
    simp only [Rep] at r
    obtain ⟨a, ha, rfl⟩ := r
    cases hl : S[n]? with
    | none => simp only [walked, items, hl] at h; exact h.elim
    | some l =>
      simp only [walked, items, hl, asCell] at h
      obtain ⟨vs, e, hz, r⟩ := k.s.at_ n l a hl ha
      exact ⟨Itl X.K a, h _ H ρ (Frm.refl _ _) (Grow.refl _ _) k ⟨_, src_cell hz, hl, ha⟩, .inl ⟨a, rfl, rfl, vs, .inl (.inl e)⟩⟩
  | _ => exact h.elim
theorem pi_val {tg e : Expr} {f : Env → Store → Res D} (he : PE X e (tD X W f)) : PI X tg e (tI X W (Den.ofV f).i) :=
  (pi_any he).weak fun σ H R ⟨env, S, ρ, k, h⟩ => ⟨env, S, ρ, k, by
    simp only [Den.ofV, withS] at h
    rw [Res.bind_bind] at h
    exact RP.bind h k.s.live fun d S1 v H1 ρ1 f1 g1 k1 r1 h1 => walk_read k1 r1 h1⟩
end
end LK
set_option Elab.async false
set_option linter.all false
set_option autoImplicit false
set_option maxRecDepth 100000
set_option maxHeartbeats 1000000
/-! LK5: expressions. -/
namespace LK
open PySem PySem.Spec PyProof.Rows L2
variable [Tt]

structure DE (X : Cx) (W : WX) (e : Expr) (d : Den) : Prop where
  v : PE X e (tD X W d.v)
  t : PT X e (tB X W d.t)
  i : ∀ tg, PI X tg e (tI X W d.i)
/-- what isinstance and the like hand on: no change of the heap is told but new things -/
theorem rp_now {X : Cx} {W : WX} {env : Env} {σ : L2.St} {ρ : Rho} {H H' : Hp} {S : Store} {d : D} {v : V} {Q : VK} (k : Ok ρ env S σ H) (h : RP X W env σ ρ H Rep (.ok d S) Q) (q : Same H H') (r : Rep ρ H' d v) : Q v H' :=
  h v H' ρ (frm_of q) (Grow.refl _ _) (k.same q) r
theorem rp_of {X : Cx} {W : WX} {env : Env} {σ : L2.St} {ρ : Rho} {H : Hp} {S : Store} {o : Option D} {Q : VK} (k : Ok ρ env S σ H) (h : RP X W env σ ρ H Rep (Res.of S o) Q) :
    ∃ d, o = some d ∧ ∀ v H', Same H H' → Rep ρ H' d v → Q v H' := by
  cases o with
  | none => exact h.elim
  | some d => exact ⟨d, rfl, fun v H' q r => rp_now k h q r⟩
theorem rpb_of {X : Cx} {W : WX} {env : Env} {σ : L2.St} {ρ : Rho} {H : Hp} {S : Store} {b : Bool} {Q : Bool → Hp → Prop} (k : Ok ρ env S σ H) (h : RP X W env σ ρ H (fun _ _ b c => b = c) (.ok b S) Q) : Q b H :=
  h b H ρ (Frm.refl _ _) (Grow.refl _ _) k rfl

section
variable {X : Cx} {W : WX}
/-! ### truth -/
theorem truth_tru {K : PySem.W.Frag} {ρ : Rho} {S : Store} {H : Hp} (s : SRep ρ S H) {d : D} {v : V} {k : Bool} (h : truth S d = some k) (r : Rep ρ H d v) : TruV K v H k := by
  cases d with
  | non => simp only [truth] at h; cases h; simp only [Rep] at r; subst r; rfl
  | bl b => simp only [truth] at h; cases h; simp only [Rep] at r; subst r; rfl
  | int i => simp only [truth] at h; cases h; simp only [Rep] at r; subst r; rfl
  | str z =>
    simp only [truth] at h; cases h
    simp only [Rep] at r
    obtain ⟨rfl, h1, _⟩ := r
    refine ⟨by rw [txt_length, ← line_eq]; exact h1, ?_⟩
    rw [txt_length]
    cases z with
    | nil => rfl
    | cons a t =>
      have : ((List.length (a :: t) : Nat) : Int) ≠ 0 := by simp; omega
      simp [this]
      omega
  | lst l =>
    simp only [truth] at h; cases h
    obtain ⟨a, vs, rfl, hq, hz, r⟩ := Rep.items (K := K) s (d := .lst l) rfl r
    have hl := r.length
    have e : vs.isEmpty = l.isEmpty := by cases vs <;> cases l <;> simp_all
    rcases hq with hq | hq
    · exact .inl ⟨vs, hq, by rw [e]⟩
    · exact .inr (.inl ⟨vs, hq, by rw [e]⟩)
  | tup l =>
    simp only [truth] at h; cases h
    obtain ⟨a, vs, rfl, hq, hz, r⟩ := Rep.items (K := K) s (d := .tup l) rfl r
    have hl := r.length
    have e : vs.isEmpty = l.isEmpty := by cases vs <;> cases l <;> simp_all
    rcases hq with hq | hq
    · exact .inl ⟨vs, hq, by rw [e]⟩
    · exact .inr (.inl ⟨vs, hq, by rw [e]⟩)
  | cell n =>
    simp only [truth, Option.map_eq_some_iff] at h
    obtain ⟨l, hl, rfl⟩ := h
    obtain ⟨a, vs, rfl, hq, hz, r⟩ := Rep.items (K := K) s (d := .cell n) hl r
    have hl := r.length
    have e : vs.isEmpty = l.isEmpty := by cases vs <;> cases l <;> simp_all
    rcases hq with hq | hq
    · exact .inl ⟨vs, hq, by rw [e]⟩
    · exact .inr (.inl ⟨vs, hq, by rw [e]⟩)
/-- a value's truth as the test -/
theorem de_val {e : Expr} {f : Env → Store → Res D} (hv : PE X e (tD X W f)) (he : ∀ whole, isTrue e X.env whole = (do let v ← whole; standAt e.pos; holding [v] (truthy v))) : DE X W e (Den.ofV f) := by
  refine ⟨hv, (pt_truth hv he).weak fun σ H Q ⟨env, S, ρ, k, h⟩ => ⟨env, S, ρ, k, ?_⟩, fun tg => pi_val hv⟩
  refine RP.bind h k.s.live fun d S' v H' ρ' f' g k' r h' => ?_
  cases hd : truth S' d with
  | none => rw [hd] at h'; exact h'.elim
  | some b =>
    rw [hd] at h'
    exact ⟨b, truth_tru k'.s hd r, rpb_of k' h'⟩
/-! ### names, constants -/
theorem de_var {i : Nat} {x : Str} {pos : Pos} (hN : X.N[i]? = some x) (hv : Vis X.env.scope x) (hd : (x == ("__debug__" : Str)) = false) (hc : (x == ("__classdict__" : Str)) = false) (C : Call) : DE X W (.Name x pos) (den C (.var i)) := by
  refine de_val ((pe_var hN hv hd hc).weak fun σ H Q ⟨env, S, ρ, k, h⟩ => ?_) fun _ => rfl
  cases he : env[i]? with
  | none => simp only [he] at h; exact h.elim
  | some o =>
    cases o with
    | none => simp only [he] at h; exact h.elim
    | some d =>
      simp only [he] at h
      obtain ⟨v, e, r⟩ := k.e.at_ i d he
      exact ⟨v, e, rp_now k h (fun _ _ e => e) r⟩
/-- a plain value -/
def flatD : D → V → Prop
  | .non, v => v = .non
  | .bl b, v => v = .bl b
  | .int i, v => v = .int i
  | .str s, v => v = .str (txt s) ∧ s.length ≤ line ∧ s.all (fun c => decide (c < 1114112)) = true
  | _, _ => False
theorem flat_rep {ρ : Rho} {H : Hp} {d : D} {v : V} (h : flatD d v) : Rep ρ H d v := by
  cases d <;> simp only [flatD] at h <;> simp only [Rep] <;> exact h
theorem de_lit {e : Expr} {d : D} {v : V} (hv : PE X e (tC v)) (hf : flatD d v) (he : ∀ whole, isTrue e X.env whole = (do let v ← whole; standAt e.pos; holding [v] (truthy v))) (C : Call) : DE X W e (den C (.lit d)) :=
  de_val (hv.weak fun σ H Q ⟨env, S, ρ, k, h⟩ => rp_now k h (fun _ _ e => e) (flat_rep hf)) he
/-! ### two values -/
theorem tD_bin {o : Op} {r : R2} (os : OpS o r) {f g : Env → Store → Res D} {σ : L2.St} {H : Hp} {Q : VK} (h : tD X W (fun env S => (f env S).bind fun x S => (g env S).bind fun y S => .of S (binD S o x y)) σ H Q) :
    tOp r (tD X W f) (tD X W g) σ H Q := by
  obtain ⟨env, S, ρ, k, h⟩ := h
  refine ⟨env, S, ρ, k, RP.bind h k.s.live fun x S1 vx H1 ρ1 f1 g1 k1 r1 h1 => ?_⟩
  refine ⟨env, S1, ρ1, k1, RP.bind h1 k1.s.live fun y S2 vy H2 ρ2 f2 g2 k2 r2 h2 => ?_⟩
  obtain ⟨d, hd, q⟩ := rp_of k2 h2
  exact os S2 ρ2 H2 x y vx vy d Q k2.s (Rep.mono f2 g2 k1.s.live x vx r1) r2 hd q
theorem de_bin {a b : Expr} {da db : E} {C : Call} {o : Op} {op : Operator} {r : R2} {pos : Pos} (ho : OpR X (binaryOp op) r) (os : OpS o r) (ha : DE X W a (den C da)) (hb : DE X W b (den C db)) : DE X W (.BinOp a op b pos) (den C (.bin o da db)) :=
  de_val ((pe_op ho ha.v hb.v).weak fun σ H Q h => tD_bin os h) fun _ => rfl
theorem cmp_bool {S : Store} {o : Op} (hc : cmpOp o = true) {x y d : D} (h : binD S o x y = some d) : ∃ b, d = .bl b := by
  cases o <;> simp only [cmpOp] at hc <;> first | (cases hc; done) | skip
  all_goals simp only [binD, Option.bind_eq_some_iff, Option.map_eq_some_iff] at h
  · obtain ⟨_, _, _, _, k, _, rfl⟩ := h; exact ⟨_, rfl⟩
  · obtain ⟨_, _, _, _, k, _, rfl⟩ := h; exact ⟨_, rfl⟩
  · obtain ⟨k, _, rfl⟩ := h; exact ⟨_, rfl⟩
  · split at h <;> cases h; exact ⟨_, rfl⟩
  · split at h <;> cases h; exact ⟨_, rfl⟩
  · split at h <;> cases h; exact ⟨_, rfl⟩
  · obtain ⟨k, _, rfl⟩ := h; exact ⟨_, rfl⟩
  · obtain ⟨k, _, rfl⟩ := h; exact ⟨_, rfl⟩
  · cases h; exact ⟨_, rfl⟩
  · cases h; exact ⟨_, rfl⟩
theorem de_cmp {a b : Expr} {da db : E} {C : Call} {o : Op} {op : CmpOp} {r : R2} {pos : Pos} (ho : OpR X (compareOp op) r) (os : OpS o r) (hc : cmpOp o = true) (hm : behindInMarks op b = false) (ha : DE X W a (den C da)) (hb : DE X W b (den C db)) :
    DE X W (.Compare a [op] [b] pos) (den C (.bin o da db)) := by
  have hv := (pe_cmpR (pos := pos) ho ha.v hb.v hm).weak fun σ H Q h => tD_bin (X := X) (W := W) (f := (den C da).v) (g := (den C db).v) os h
  refine ⟨hv, (pt_cmpR ho ha.v hb.v hm).weak fun σ H Q ⟨env, S, ρ, k, h⟩ => ?_, fun tg => pi_val hv⟩
  refine ⟨env, S, ρ, k, ?_⟩
  simp only [den, Den.ofV] at h
  rw [Res.bind_bind] at h
  refine RP.bind h k.s.live fun x S1 vx H1 ρ1 f1 g1 k1 r1 h1 => ?_
  rw [Res.bind_bind] at h1
  refine ⟨env, S1, ρ1, k1, RP.bind h1 k1.s.live fun y S2 vy H2 ρ2 f2 g2 k2 r2 h2 => ?_⟩
  cases hd : binD S2 o x y with
  | none => rw [hd] at h2; exact h2.elim
  | some d =>
    obtain ⟨b, rfl⟩ := cmp_bool hc hd
    rw [hd] at h2
    refine os S2 ρ2 H2 x y vx vy (.bl b) _ k2.s (Rep.mono f2 g2 k1.s.live x vx r1) r2 hd fun v H' q r => ?_
    simp only [Rep] at r
    exact ⟨b, r, rpb_of (k2.same q) (h2.weak (frm_of q) (Grow.refl _ _) k2.s.live (k2.same q).s.live)⟩
/-! ### not, and, or, if -/
theorem de_not {a : Expr} {da : E} {C : Call} {pos : Pos} (ha : DE X W a (den C da)) : DE X W (.UnaryOp .Not a pos) (den C (.not da)) := by
  refine ⟨(pe_notT ha.v).weak fun σ H Q ⟨env, S, ρ, k, h⟩ => ?_, (pt_not ha.t).weak fun σ H Q ⟨env, S, ρ, k, h⟩ => ?_, fun tg => pi_bad⟩
  · refine ⟨env, S, ρ, k, RP.bind h k.s.live fun d S' v H' ρ' f' g k' r h' => ?_⟩
    cases hd : truth S' d with
    | none => rw [hd] at h'; exact h'.elim
    | some b =>
      rw [hd] at h'
      exact ⟨b, truth_tru k'.s hd r, rp_now k' h' (fun _ _ e => e) (by simp [Rep])⟩
  · refine ⟨env, S, ρ, k, RP.bind h k.s.live fun b S' c H' ρ' f' g k' r h' => ?_⟩
    subst r
    exact rpb_of k' h'
theorem de_and {a b : Expr} {da db : E} {rest : List Expr} {C : Call} {pos : Pos} (ha : DE X W a (den C da)) (hb : PE X (.BoolOp .And (b :: rest) pos) (tD X W (den C db).v)) (hw : PW X (.BoolOp .And (b :: rest) pos) (tB X W (den C db).t)) :
    DE X W (.BoolOp .And (a :: b :: rest) pos) (den C (.and da db)) ∧ PW X (.BoolOp .And (a :: b :: rest) pos) (tB X W (den C (.and da db)).t) := by
  have q : ∀ σ H Q, tB X W (den C (.and da db)).t σ H Q → tAnd (tB X W (den C da).t) (tB X W (den C db).t) σ H Q := fun σ H Q ⟨env, S, ρ, k, h⟩ => by
    refine ⟨env, S, ρ, k, RP.bind h k.s.live fun b S' c H' ρ' f' g k' r h' => ?_⟩
    subst r
    cases b with
    | true => exact iteT ⟨env, S', ρ', k', h'⟩
    | false => exact iteF (rpb_of k' h')
  refine ⟨⟨(pe_andT ha.v hb).weak fun σ H Q ⟨env, S, ρ, k, h⟩ => ?_, (pw_and ha.t hw).pt.weak q, fun tg => pi_bad⟩, ⟨fun wh pins s σ H Q I h => (pw_and ha.t hw).run wh pins s σ H Q I (q _ _ _ h)⟩⟩
  refine ⟨env, S, ρ, k, RP.bind h k.s.live fun d S' v H' ρ' f' g k' r h' => ?_⟩
  cases hd : truth S' d with
  | none => simp only [hd] at h'; exact h'.elim
  | some b =>
    cases b with
    | true => simp only [hd] at h'; exact ⟨true, truth_tru k'.s hd r, iteT ⟨env, S', ρ', k', h'⟩⟩
    | false => simp only [hd] at h'; exact ⟨false, truth_tru k'.s hd r, iteF (rp_now k' h' (fun _ _ e => e) r)⟩
theorem de_or {a b : Expr} {da db : E} {rest : List Expr} {C : Call} {pos : Pos} (ha : DE X W a (den C da)) (hb : PE X (.BoolOp .Or (b :: rest) pos) (tD X W (den C db).v)) (hw : PW X (.BoolOp .Or (b :: rest) pos) (tB X W (den C db).t)) :
    DE X W (.BoolOp .Or (a :: b :: rest) pos) (den C (.or da db)) ∧ PW X (.BoolOp .Or (a :: b :: rest) pos) (tB X W (den C (.or da db)).t) := by
  have q : ∀ σ H Q, tB X W (den C (.or da db)).t σ H Q → tOr (tB X W (den C da).t) (tB X W (den C db).t) σ H Q := fun σ H Q ⟨env, S, ρ, k, h⟩ => by
    refine ⟨env, S, ρ, k, RP.bind h k.s.live fun b S' c H' ρ' f' g k' r h' => ?_⟩
    subst r
    cases b with
    | true => exact iteT (rpb_of k' h')
    | false => exact iteF ⟨env, S', ρ', k', h'⟩
  refine ⟨⟨(pe_orT ha.v hb).weak fun σ H Q ⟨env, S, ρ, k, h⟩ => ?_, (pw_or ha.t hw).pt.weak q, fun tg => pi_bad⟩, ⟨fun wh pins s σ H Q I h => (pw_or ha.t hw).run wh pins s σ H Q I (q _ _ _ h)⟩⟩
  refine ⟨env, S, ρ, k, RP.bind h k.s.live fun d S' v H' ρ' f' g k' r h' => ?_⟩
  cases hd : truth S' d with
  | none => simp only [hd] at h'; exact h'.elim
  | some b =>
    cases b with
    | true => simp only [hd] at h'; exact ⟨true, truth_tru k'.s hd r, iteT (rp_now k' h' (fun _ _ e => e) r)⟩
    | false => simp only [hd] at h'; exact ⟨false, truth_tru k'.s hd r, iteF ⟨env, S', ρ', k', h'⟩⟩
theorem de_and1 {a : Expr} {da : E} {C : Call} {pos : Pos} (ha : DE X W a (den C da)) : PE X (.BoolOp .And [a] pos) (tD X W (den C da).v) ∧ PW X (.BoolOp .And [a] pos) (tB X W (den C da).t) :=
  ⟨pe_one ha.v, pw_and1 ha.t⟩
theorem de_or1 {a : Expr} {da : E} {C : Call} {pos : Pos} (ha : DE X W a (den C da)) : PE X (.BoolOp .Or [a] pos) (tD X W (den C da).v) ∧ PW X (.BoolOp .Or [a] pos) (tB X W (den C da).t) :=
  ⟨pe_one ha.v, pw_or1 ha.t⟩
end
end LK
set_option Elab.async false
set_option linter.all false
set_option autoImplicit false
set_option maxRecDepth 100000
set_option maxHeartbeats 1000000
/-! LK6: more expressions: if, chains, slices, displays, built-ins of one thing. -/
namespace LK
open PySem PySem.Spec PyProof.Rows L2
variable [Tt]
section
variable {X : Cx} {W : WX}
/-! ### a if t else b -/
theorem pt_ite {c a b : Expr} {tc ta tb : TT} {pos : Pos} (hc : PT X c tc) (ha : PT X a ta) (hb : PT X b tb) : PT X (.IfExp c a b pos) (fun σ H Q => tc σ H fun k H1 => if k = true then ta σ H1 Q else tb σ H1 Q) := by
  refine ⟨fun pins s σ H Q I h => ?_⟩
  show wpAny _ _ (isTrue c X.env (eval c X.env) >>= fun k => if k = true then isTrue a X.env (eval a X.env) else isTrue b X.env (eval b X.env)) _ _ s
  refine wpAny_bind (thn (hc.run pins s σ H _ I h) fun k s1 ⟨H1, I1, q1⟩ => ?_)
  cases k with
  | true => exact ha.run pins s1 σ H1 Q I1 q1
  | false => exact hb.run pins s1 σ H1 Q I1 q1
theorem de_ite {c a b : Expr} {dc da db : E} {C : Call} {pos : Pos} (hc : DE X W c (den C dc)) (ha : DE X W a (den C da)) (hb : DE X W b (den C db)) : DE X W (.IfExp c a b pos) (den C (.ite dc da db)) := by
  have hv : PE X (.IfExp c a b pos) (tD X W (den C (.ite dc da db)).v) := (pe_ifExp hc.t ha.v hb.v).weak fun σ H Q ⟨env, S, ρ, k, h⟩ => by
    refine ⟨env, S, ρ, k, RP.bind h k.s.live fun d S' v H' ρ' f' g k' r h' => ?_⟩
    subst r
    cases d with
    | true => exact iteT ⟨env, S', ρ', k', h'⟩
    | false => exact iteF ⟨env, S', ρ', k', h'⟩
  refine ⟨hv, (pt_ite hc.t ha.t hb.t).weak fun σ H Q ⟨env, S, ρ, k, h⟩ => ?_, fun tg => (pi_val hv).weak fun σ H R ⟨env, S, ρ, k, h⟩ => ⟨env, S, ρ, k, by
    simp only [Den.ofV, den, withS, Res.bind_bind] at h ⊢
    exact h⟩⟩
  · refine ⟨env, S, ρ, k, RP.bind h k.s.live fun d S' v H' ρ' f' g k' r h' => ?_⟩
    subst r
    cases d with
    | true => exact iteT ⟨env, S', ρ', k', h'⟩
    | false => exact iteF ⟨env, S', ρ', k', h'⟩
/-! ### chains -/
theorem de_chain {a b c : Expr} {da db dc : E} {C : Call} {o p : Op} {op op' : CmpOp} {r r' : R2} {pos : Pos} (ho : OpR X (compareOp op) r) (ho' : OpR X (compareOp op') r') (os : OpS o r) (ps : OpS p r') (co : cmpOp o = true) (cp : cmpOp p = true)
    (hm : lastMarks [op, op'] [b, c] = false) (ha : DE X W a (den C da)) (hb : DE X W b (den C db)) (hc : DE X W c (den C dc)) : DE X W (.Compare a [op, op'] [b, c] pos) (den C (.chain o p da db dc)) := by
  have key : ∀ {σ : L2.St} {H : Hp} {Q : VK}, tD X W (den C (.chain o p da db dc)).v σ H Q → tChain r r' (tD X W (den C da).v) (tD X W (den C db).v) (tD X W (den C dc).v) σ H Q := fun {σ H Q} ⟨env, S, ρ, k, h⟩ => by
    refine ⟨env, S, ρ, k, RP.bind h k.s.live fun x S1 vx H1 ρ1 f1 g1 k1 r1 h1 => ?_⟩
    refine ⟨env, S1, ρ1, k1, RP.bind h1 k1.s.live fun y S2 vy H2 ρ2 f2 g2 k2 r2 h2 => ?_⟩
    cases hd : binD S2 o x y with
    | none => simp only [hd] at h2; exact h2.elim
    | some d =>
      obtain ⟨t, rfl⟩ := cmp_bool co hd
      simp only [hd] at h2
      refine os S2 ρ2 H2 x y vx vy (.bl t) _ k2.s (Rep.mono f2 g2 k1.s.live x vx r1) r2 hd fun v H' q rr => ?_
      simp only [Rep] at rr
      refine ⟨t, rr, ?_⟩
      cases t with
      | false => exact iteF (rp_now k2 h2 q (by simp [Rep]))
      | true =>
        have k3 := k2.same q
        refine iteT ⟨env, S2, ρ2, k3, RP.bind (h2.weak (frm_of q) (Grow.refl _ _) k2.s.live k3.s.live) k3.s.live fun z S4 vz H4 ρ4 f4 g4 k4 r4 h4 => ?_⟩
        obtain ⟨d, hd', q'⟩ := rp_of k4 h4
        exact ps S4 ρ4 H4 y z vy vz d Q k4.s (Rep.mono f4 g4 k3.s.live y vy (Rep.mono (frm_of q) (Grow.refl _ _) k2.s.live y vy r2)) r4 hd' q'
  have hv := (pe_chain (pos := pos) ho ho' ha.v hb.v hc.v hm).weak fun σ H Q h => key h
  refine ⟨hv, (pt_chain ho ho' ha.v hb.v hc.v hm).weak fun σ H Q ⟨env, S, ρ, k, h⟩ => ?_, fun tg => pi_bad⟩
  show tChain r r' _ _ _ σ H _
  refine key ⟨env, S, ρ, k, ?_⟩
  refine RP.bind (r := (den C (.chain o p da db dc)).v env S) h k.s.live fun d S1 v H1 ρ1 f1 g1 k1 r1 h1 => ?_
  cases d with
  | bl t =>
    simp only [Rep] at r1
    exact ⟨t, r1, rpb_of k1 h1⟩
  | _ => exact h1.elim
/-! ### argument lists -/
theorem da_nil {C : Call} : PA X [] (tLs X W (den C .nil).l) := pa_nil.weak fun σ H Q ⟨env, S, ρ, k, h⟩ => h [] H ρ (Frm.refl _ _) (Grow.refl _ _) k (by simp [Reps])
theorem da_cons {e : Expr} {es : List Expr} {de dr : E} {C : Call} (he : DE X W e (den C de)) (hr : PA X es (tLs X W (den C dr).l)) (hs : starEach (e :: es) X.env = (false, eval e X.env) :: starEach es X.env) : PA X (e :: es) (tLs X W (den C (.cons de dr)).l) :=
  (pa_cons he.v hr hs).weak fun σ H Q ⟨env, S, ρ, k, h⟩ => by
    refine ⟨env, S, ρ, k, RP.bind h k.s.live fun x S1 vx H1 ρ1 f1 g1 k1 r1 h1 => ?_⟩
    refine ⟨env, S1, ρ1, k1, RP.bind h1 k1.s.live fun y S2 vy H2 ρ2 f2 g2 k2 r2 h2 => ?_⟩
    refine h2 _ H2 ρ2 (Frm.refl _ _) (Grow.refl _ _) k2 ?_
    simp only [Reps]
    exact ⟨vx, vy, rfl, Rep.mono f2 g2 k1.s.live x vx r1, r2⟩
theorem da_star {e : Expr} {es : List Expr} {de dr : E} {C : Call} {p : Pos} (he : DE X W e (den C de)) (hr : PA X es (tLs X W (den C dr).l)) : PA X (.Starred e p :: es) (tLs X W (den C (.star de dr)).l) :=
  (StX.pa_star he.v hr).weak fun σ H Q ⟨env, S, ρ, k, h⟩ => by
    refine ⟨env, S, ρ, k, RP.bind h k.s.live fun x S1 vx H1 ρ1 f1 g1 k1 r1 h1 => ?_⟩
    cases hi : items S1 x with
    | none => simp only [hi] at h1; exact h1.elim
    | some ys =>
      simp only [hi] at h1
      obtain ⟨a, vs, rfl, hq, hz, r⟩ := Rep.items (K := X.K) k1.s hi r1
      refine ⟨a, vs, rfl, hq.symm, env, S1, ρ1, k1, RP.bind h1 k1.s.live fun y S2 vy H2 ρ2 f2 g2 k2 r2 h2 => ?_⟩
      exact h2 _ H2 ρ2 (Frm.refl _ _) (Grow.refl _ _) k2 (Reps.append (Reps.mono f2 g2 k1.s.live ys vs r) r2)
/-! ### displays -/
theorem de_tup {es : List Expr} {dl : E} {C : Call} {n : Nat} {pos : Pos} (h : PA X es (tLs X W (den C dl).l)) : DE X W (.Tuple es n pos) (den C (.tup dl)) :=
  de_val ((pe_tup h).weak fun σ H Q ⟨env, S, ρ, k, h⟩ => ⟨env, S, ρ, k, RP.bind h k.s.live fun x S1 vx H1 ρ1 f1 g1 k1 r1 h1 => by
    obtain ⟨d, hd, q⟩ := rp_of k1 h1
    simp only [Option.map_eq_some_iff] at hd
    obtain ⟨m, hm, rfl⟩ := hd
    obtain ⟨rfl, hz⟩ := okLen_some hm
    refine ⟨by rw [r1.length, ← line_eq]; exact hz, fun p hp => q _ _ (same_new hp) (Rep.tup_new hp k1.s.live hz r1)⟩⟩) fun _ => rfl
theorem de_lst {es : List Expr} {dl : E} {C : Call} {pos : Pos} (h : PA X es (tLs X W (den C dl).l)) : DE X W (.List es pos) (den C (.lst dl)) :=
  de_val ((pe_lst h).weak fun σ H Q ⟨env, S, ρ, k, h⟩ => ⟨env, S, ρ, k, RP.bind h k.s.live fun x S1 vx H1 ρ1 f1 g1 k1 r1 h1 => by
    obtain ⟨d, hd, q⟩ := rp_of k1 h1
    simp only [Option.map_eq_some_iff] at hd
    obtain ⟨m, hm, rfl⟩ := hd
    obtain ⟨rfl, hz⟩ := okLen_some hm
    refine ⟨by rw [r1.length, ← line_eq]; exact hz, fun p hp => q _ _ (same_new hp) (Rep.lst_new hp k1.s.live hz r1)⟩⟩) fun _ => rfl
/-- [..] * n -/
theorem de_rep {es : List Expr} {b : Expr} {dl db : E} {C : Call} {pos pos' : Pos} (h : PA X es (tLs X W (den C dl).l)) (hb : DE X W b (den C db)) : DE X W (.BinOp (.List es pos') .Mult b pos) (den C (.rep dl db)) :=
  de_val ((pe_op op_rep (pe_lst h) hb.v).weak fun σ H Q ⟨env, S, ρ, k, h⟩ => ⟨env, S, ρ, k, RP.bind h k.s.live fun x S1 vx H1 ρ1 f1 g1 k1 r1 h1 => by
    by_cases hz : x.length ≤ 1000
    · simp only [hz, if_true] at h1
      have hl : vx.length ≤ 1000 := by rw [r1.length]; exact hz
      refine ⟨by rw [sizeLine_eq]; omega, fun p hp => ?_⟩
      have k1' := k1.same (same_new (o := .lst vx) hp)
      refine ⟨env, S1, ρ1, k1', RP.bind (h1.weak (frm_of (same_new hp)) (Grow.refl _ _) k1.s.live k1'.s.live) k1'.s.live fun y S2 vy H2 ρ2 f2 g2 k2 r2 h2 => ?_⟩
      cases y with
      | int n =>
        simp only at h2
        split at h2
        · rename_i hn
          simp only [Rep] at r2
          subst r2
          have hpn : p ∉ ρ1 := fun hm => by
            obtain ⟨ws, q⟩ := k1.s.live p hm
            rw [hp] at q; cases q
          have e2 : H2 p = some (.lst vx) := f2.get upd_same fun z => hpn (.inl z)
          have h5 : n.toNat ≤ 1000 := by omega
          have h6 : vx.length * n.toNat ≤ 1000 * 1000 := Nat.mul_le_mul hl h5
          refine ⟨p, n, vx, rfl, rfl, e2, by omega, by omega, by rw [sizeLine_eq]; omega, fun t ht => ?_⟩
          have r3 : Reps ρ2 H2 x vx := Reps.mono f2 g2 k1'.s.live x vx (Reps.mono (frm_of (same_new hp)) (Grow.refl _ _) k1.s.live x vx r1)
          refine rp_now k2 h2 (same_new ht) (Rep.lst_new ht k2.s.live ?_ (r3.rep _))
          rw [rep_len, ← r1.length]
          exact Nat.le_trans h6 (by decide)
        · exact h2.elim
      | _ => exact h2.elim
    · simp only [hz, if_false] at h1; exact h1.elim⟩) fun _ => rfl
/-! ### slices -/
theorem clip_sIx {n : Nat} {i : Int} (d : Nat) : HT.sIx n d (some i) = clip n i := by
  show (if i < 0 then (i + (n : Int)).toNat else min i.toNat n) = clip n i
  unfold clip
  by_cases h : i < 0
  · rw [if_pos h, if_neg (by omega)]
  · rw [if_neg h, if_pos (by omega)]
/-- a slice's part -/
def PartOf : Option Int → D → Prop
  | none, .non => True
  | some i, .int j => i = j
  | _, _ => False
theorem endOf_sIx {n d : Nat} {x : D} {o : Option Int} {k : Nat} (h : endOf n d x = some k) (hp : PartOf o x) : HT.sIx n d o = k := by
  cases o with
  | none =>
    cases x <;> simp only [PartOf] at hp
    simp only [endOf] at h
    cases h
    rfl
  | some i =>
    cases x <;> simp only [PartOf] at hp
    subst hp
    simp only [endOf] at h
    cases h
    exact clip_sIx d
def tPt (X : Cx) (W : WX) (f : Env → Store → Res D) : TO := fun σ H Q => ∃ env S ρ, Ok ρ env S σ H ∧ RP X W env σ ρ H (fun _ _ d o => PartOf o d) (f env S) Q
theorem po_weak {e : Option Expr} {t t' : TO} (h : PO X e t) (q : ∀ σ H Q, t' σ H Q → t σ H Q) : PO X e t' := ⟨fun pins s σ H Q I hw => h.run pins s σ H Q I (q _ _ _ hw)⟩
theorem dpart_none {C : Call} : PO X none (tPt X W (partF false (den C (.lit .non)).v)) :=
  po_weak po_none fun σ H Q ⟨env, S, ρ, k, h⟩ => h none H ρ (Frm.refl _ _) (Grow.refl _ _) k trivial
theorem dpart_some {e : Expr} {de : E} {C : Call} (he : DE X W e (den C de)) : PO X (some e) (tPt X W (partF true (den C de).v)) :=
  po_weak (po_some he.v) fun σ H Q ⟨env, S, ρ, k, h⟩ => ⟨env, S, ρ, k, RP.bind h k.s.live fun x S1 vx H1 ρ1 f1 g1 k1 r1 h1 => by
    cases x with
    | int i =>
      simp only [Rep] at r1
      exact ⟨i, r1, h1 (some i) H1 ρ1 (Frm.refl _ _) (Grow.refl _ _) k1 rfl⟩
    | _ => exact h1.elim⟩
def rSlM (K : PySem.W.Frag) : V → Option Int → Option Int → Hp → VK → Prop := fun x lo hi H Q => (rSlA K x lo hi H Q ∨ rSlL K x lo hi H Q) ∨ rSlS x lo hi H Q
theorem sl_any : SlR X (rSlM X.K) := (sl_tupA.or sl_list).or sl_str
theorem cut_len {α : Type} (l : List α) (a b : Nat) : (cut l a b).length ≤ l.length := by
  unfold cut
  rw [List.length_take, List.length_drop]
  omega
theorem slice_ok {K : PySem.W.Frag} {S : Store} {ρ : Rho} {H : Hp} {x lo hi d : D} {vx : V} {ol oh : Option Int} {Q : VK} (s : SRep ρ S H) (rx : Rep ρ H x vx) (pl : PartOf ol lo) (ph : PartOf oh hi) (h : sliceD S x lo hi = some d)
    (q : ∀ v H', Same H H' → Rep ρ H' d v → Q v H') : rSlM K vx ol oh H Q := by
  unfold sliceD at h
  split at h
  · rename_i z
    simp only [Option.bind_eq_some_iff, Option.map_eq_some_iff] at h
    obtain ⟨a, ha, b, hb, rfl⟩ := h
    simp only [Rep] at rx
    obtain ⟨rfl, h1, h2⟩ := rx
    refine .inr ⟨txt z, rfl, by rw [txt_length, ← line_eq]; exact h1, ?_⟩
    have e : cutS (txt z) ol oh = txt (cut z a b) := by
      unfold cutS
      rw [txt_length, endOf_sIx ha pl, endOf_sIx hb ph]
      rfl
    rw [e]
    refine q _ _ (fun _ _ e => e) (Rep.str_of (Nat.le_trans (cut_len _ _ _) h1) ?_)
    rw [List.all_eq_true] at h2 ⊢
    intro c hc
    exact h2 c (List.mem_of_mem_drop (List.mem_of_mem_take hc))
  · rename_i l
    simp only [Option.bind_eq_some_iff, Option.map_eq_some_iff] at h
    obtain ⟨a, ha, b, hb, rfl⟩ := h
    have rx0 := rx
    simp only [Rep] at rx
    obtain ⟨p, vs, rfl, hp, hz, r⟩ := rx
    have e1 : HT.sIx vs.length 0 ol = a := by rw [r.length]; exact endOf_sIx ha pl
    have e2 : HT.sIx vs.length vs.length oh = b := by rw [r.length]; exact endOf_sIx hb ph
    have hc : cutV vs ol oh = cut vs a b := by unfold cutV cut; rw [e1, e2]
    refine .inl (.inl ⟨p, vs, rfl, SqT.of hp, fun hw => ?_, fun hw t ht => ?_⟩)
    · rw [e1, e2] at hw
      have : cut l a b = l := by
        unfold cut
        rw [hw.1, hw.2, r.length]
        simp
      rw [this] at q
      exact q _ _ (fun _ _ e => e) rx0
    · rw [hc]
      exact q _ _ (same_new ht) (Rep.tup_new ht s.live (Nat.le_trans (cut_len _ _ _) hz) ((r.drop a).take (b - a)))
  · rename_i hns hnt
    simp only [Option.bind_eq_some_iff, Option.map_eq_some_iff] at h
    obtain ⟨l, hl, a, ha, b, hb, rfl⟩ := h
    obtain ⟨p, vs, rfl, hq, r⟩ := Rep.listAt s hl hnt rx
    have hz : l.length ≤ line := by
      obtain ⟨_, _, _, _, hz, _⟩ := Rep.items (K := K) s hl rx
      exact hz
    have e1 : HT.sIx vs.length 0 ol = a := by rw [r.length]; exact endOf_sIx ha pl
    have e2 : HT.sIx vs.length vs.length oh = b := by rw [r.length]; exact endOf_sIx hb ph
    have hc : cutV vs ol oh = cut vs a b := by unfold cutV cut; rw [e1, e2]
    refine .inl (.inr ⟨p, vs, rfl, hq.sq, fun t ht => ?_⟩)
    rw [hc]
    exact q _ _ (same_new ht) (Rep.lst_new ht s.live (Nat.le_trans (cut_len _ _ _) hz) ((r.drop a).take (b - a)))
theorem de_sl {e : Expr} {lo hi : Option Expr} {de dl dh : E} {wl wh : Bool} {C : Call} {pos p2 : Pos} (he : DE X W e (den C de)) (hl : PO X lo (tPt X W (partF wl (den C dl).v))) (hh : PO X hi (tPt X W (partF wh (den C dh).v))) :
    DE X W (.Subscript e (.Slice lo hi none p2) pos) (den C (.sl wl wh de dl dh)) :=
  de_val ((pe_slice sl_any he.v hl hh).weak fun σ H Q ⟨env, S, ρ, k, h⟩ => ⟨env, S, ρ, k, RP.bind h k.s.live fun x S1 vx H1 ρ1 f1 g1 k1 r1 h1 =>
    ⟨env, S1, ρ1, k1, RP.bind h1 k1.s.live fun y S2 ol H2 ρ2 f2 g2 k2 r2 h2 => ⟨env, S2, ρ2, k2, RP.bind h2 k2.s.live fun z S3 oh H3 ρ3 f3 g3 k3 r3 h3 => by
      obtain ⟨d, hd, q⟩ := rp_of k3 h3
      exact slice_ok k3.s (Rep.mono f3 g3 k2.s.live x vx (Rep.mono f2 g2 k1.s.live x vx r1)) r2 r3 hd q⟩⟩⟩) fun _ => rfl
end
end LK
set_option Elab.async false
set_option linter.all false
set_option autoImplicit false
set_option maxRecDepth 100000
set_option maxHeartbeats 1000000
/-! LK7: built-ins of one thing; isinstance; range as a list. -/
namespace LK
open PySem PySem.Spec PyProof.Rows L2
variable [Tt]
/-- no star -/
def noStar : Expr → Bool
  | .Starred _ _ => false
  | _ => true
theorem star_plain {e : Expr} (h : noStar e = true) (es : List Expr) (env : PySem.Env) : starEach (e :: es) env = (false, eval e env) :: starEach es env := by
  cases e <;> first | rfl | (simp [noStar] at h)
def UnS (o : Un) (r : List V → Hp → VK → Prop) : Prop := ∀ (S : Store) (ρ : Rho) (H : Hp) (x : D) (vx : V) (d : D) (Q : VK), SRep ρ S H → Rep ρ H x vx → unD S o x = some d → (∀ v H', Same H H' → Rep ρ H' d v → Q v H') → r [vx] H Q
section
variable {X : Cx} {W : WX}
theorem tD_un {o : Un} {r : List V → Hp → VK → Prop} (us : UnS o r) {f : Env → Store → Res D} {σ : L2.St} {H : Hp} {Q : VK} (h : tD X W (fun env S => (f env S).bind fun x S => .of S (unD S o x)) σ H Q) :
    tCB r (tCons (tD X W f) tNil) σ H Q := by
  obtain ⟨env, S, ρ, k, h⟩ := h
  refine ⟨env, S, ρ, k, RP.bind h k.s.live fun x S1 vx H1 ρ1 f1 g1 k1 r1 h1 => ?_⟩
  obtain ⟨d, hd, q⟩ := rp_of k1 h1
  exact us S1 ρ1 H1 x vx d Q k1.s r1 hd q
theorem de_callB {id : String} {x : Str} {o : Un} {r : List V → Hp → VK → Prop} {a : Expr} {da : E} {C : Call} {p pos : Pos} (hc : CallR X (.builtin id) r) (us : UnS o r) (hg : Gl X x) (hm : X.mg x = none) (hv : bootBuiltins x = some (.builtin id)) (hn : x ≠ "__name__") (hd : (x == ("__debug__" : Str)) = false)
    (ns : noStar a = true) (ha : DE X W a (den C da)) : DE X W (.Call (.Name x p) [a] [] pos) (den C (.un o da)) :=
  de_val ((pe_callB hc hg hm hv (pa_cons ha.v pa_nil (star_plain ns _ _)) hn hd (star_plain ns _ _)).weak fun σ H Q h => tD_un us h) fun _ => rfl
theorem de_callTy {T : String} {x : Str} {o : Un} {r : List V → Hp → VK → Prop} {a : Expr} {da : E} {C : Call} {p pos : Pos} (hc : CallR X (.type T) r) (us : UnS o r) (hg : Gl X x) (hm : X.mg x = none) (hv : bootBuiltins x = some (.type T)) (hn : x ≠ "__name__") (hd : (x == ("__debug__" : Str)) = false)
    (ns : noStar a = true) (ha : DE X W a (den C da)) : DE X W (.Call (.Name x p) [a] [] pos) (den C (.un o da)) :=
  de_val ((pe_callTy hc hg hm hv (pa_cons ha.v pa_nil (star_plain ns _ _)) hn hd (star_plain ns _ _)).weak fun σ H Q h => tD_un us h) fun _ => rfl
theorem de_neg {a : Expr} {da : E} {C : Call} {pos : Pos} (ha : DE X W a (den C da)) : DE X W (.UnaryOp .USub a pos) (den C (.un .neg da)) :=
  de_val ((pe_un un_neg ha.v).weak fun σ H Q ⟨env, S, ρ, k, h⟩ => ⟨env, S, ρ, k, RP.bind h k.s.live fun x S1 vx H1 ρ1 f1 g1 k1 r1 h1 => by
    obtain ⟨d, hd, q⟩ := rp_of k1 h1
    cases x <;> simp only [unD] at hd <;> first | (cases hd; done) | skip
    cases hd
    simp only [Rep] at r1
    exact ⟨_, r1, q _ _ (fun _ _ e => e) (by simp [Rep])⟩⟩) fun _ => rfl
/-! ### the prims -/
theorem us_len : UnS .len (fun xs H Q => ∃ x n, xs = [x] ∧ LenV X.K x H n ∧ Q (.int n) H) := by
  intro S ρ H x vx d Q s rx h q
  by_cases hs : ∃ z, x = .str z
  · obtain ⟨z, rfl⟩ := hs
    simp only [unD] at h
    cases h
    simp only [Rep] at rx
    obtain ⟨rfl, h1, h2⟩ := rx
    exact ⟨_, z.length, rfl, ⟨by rw [txt_length, ← line_eq]; exact h1, (txt_length z).symm⟩, q _ _ (fun _ _ e => e) (by simp [Rep])⟩
  · have h : (items S x).map (fun l => D.int l.length) = some d := by
      cases x <;> first | exact h | exact absurd ⟨_, rfl⟩ hs
    simp only [Option.map_eq_some_iff] at h
    obtain ⟨l, hl, rfl⟩ := h
    obtain ⟨a, vs, rfl, hq, hz, r⟩ := Rep.items (K := X.K) s hl rx
    refine ⟨_, l.length, rfl, ?_, q _ _ (fun _ _ e => e) (by simp [Rep])⟩
    rcases hq with hq | hq
    · exact .inl ⟨vs, hq, r.length.symm⟩
    · exact .inr ⟨vs, hq, r.length.symm⟩
theorem tup_read {K : PySem.W.Frag} {S : Store} {ρ : Rho} {H : Hp} {x : D} {vx : V} {d : D} {Q : VK} (s : SRep ρ S H) (rx : Rep ρ H x vx) (h : (items S x).map .tup = some d) (q : ∀ v H', Same H H' → Rep ρ H' d v → Q v H') : ∃ p ys, [vx] = [.ref p] ∧ ((SqL K H p ys ∧ ∀ l, H l = none → Q (.ref l) (upd H l (.tup ys))) ∨ (SqT K H p ys ∧ Q (.ref p) H)) := by
  simp only [Option.map_eq_some_iff] at h
  obtain ⟨l, hl, rfl⟩ := h
  cases x with
  | tup k =>
    simp only [items] at hl
    cases hl
    have rx0 := rx
    simp only [Rep] at rx
    obtain ⟨a, vs, rfl, ha, hz, r⟩ := rx
    exact ⟨a, vs, rfl, .inr ⟨SqT.of ha, q _ _ (fun _ _ e => e) rx0⟩⟩
  | lst k =>
    obtain ⟨a, vs, rfl, ha, r⟩ := Rep.listAt s hl (by simp) rx
    obtain ⟨_, _, _, _, hz, _⟩ := Rep.items (K := K) s hl rx
    exact ⟨a, vs, rfl, .inl ⟨ha.sq, fun t ht => q _ _ (same_new ht) (Rep.tup_new ht s.live hz r)⟩⟩
  | cell n =>
    obtain ⟨a, vs, rfl, ha, r⟩ := Rep.listAt s hl (by simp) rx
    obtain ⟨_, _, _, _, hz, _⟩ := Rep.items (K := K) s hl rx
    exact ⟨a, vs, rfl, .inl ⟨ha.sq, fun t ht => q _ _ (same_new ht) (Rep.tup_new ht s.live hz r)⟩⟩
  | _ => simp [items] at hl
theorem us_list : UnS .list (fun xs H Q => ∃ p ys, xs = [.ref p] ∧ (SqL X.K H p ys ∨ SqT X.K H p ys) ∧ ∀ l, H l = none → Q (.ref l) (upd H l (.lst ys))) := by
  intro S ρ H x vx d Q s rx h q
  simp only [unD, Option.map_eq_some_iff] at h
  obtain ⟨l, hl, rfl⟩ := h
  obtain ⟨a, vs, rfl, hq, hz, r⟩ := Rep.items (K := X.K) s hl rx
  exact ⟨a, vs, rfl, hq, fun t ht => q _ _ (same_new ht) (Rep.lst_new ht s.live hz r)⟩
theorem us_int : UnS .int (fun xs H Q => (∃ i, xs = [.int i] ∧ Q (.int i) H) ∨ ∃ k, xs = [.bl k] ∧ Q (.int (if k then 1 else 0)) H) := by
  intro S ρ H x vx d Q s rx h q
  cases x <;> simp only [unD] at h <;> first | (cases h; done) | skip
  · cases h
    simp only [Rep] at rx
    subst rx
    exact .inr ⟨_, rfl, q _ _ (fun _ _ e => e) (by simp [Rep, b2i])⟩
  · cases h
    simp only [Rep] at rx
    subst rx
    exact .inl ⟨_, rfl, q _ _ (fun _ _ e => e) (by simp [Rep])⟩
theorem us_abs : UnS .abs (fun xs H Q => ∃ i, xs = [.int i] ∧ Q (.int (if i < 0 then -i else i)) H) := by
  intro S ρ H x vx d Q s rx h q
  cases x <;> simp only [unD] at h <;> first | (cases h; done) | skip
  cases h
  simp only [Rep] at rx
  subst rx
  exact ⟨_, rfl, q _ _ (fun _ _ e => e) (by simp [Rep])⟩
theorem allBool_rep {ρ : Rho} {H : Hp} : ∀ {l : List D} {vs : List V} {bs : List Bool}, allBool l = some bs → Reps ρ H l vs → vs = bs.map V.bl
  | [], vs, bs, h, r => by simp [allBool] at h; subst h; simpa [Reps] using r
  | d :: l, vs, bs, h, r => by
    cases d <;> simp only [allBool] at h <;> first | (cases h; done) | skip
    simp only [Option.map_eq_some_iff] at h
    obtain ⟨cs, hc, rfl⟩ := h
    simp only [Reps, Rep] at r
    obtain ⟨v, w, rfl, rfl, r2⟩ := r
    rw [allBool_rep hc r2]
    rfl
theorem Rep.listed {K : PySem.W.Frag} {ρ : Rho} {S : Store} {H : Hp} (s : SRep ρ S H) {d : D} {v : V} {l : List D} (h : LK.listed S d = some l) (r : Rep ρ H d v) :
    ∃ a vs, v = .ref a ∧ SqL K H a vs ∧ l.length ≤ line ∧ Reps ρ H l vs := by
  have hi : LK.items S d = some l ∧ ∀ k, d ≠ .tup k := by
    cases d <;> simp [LK.listed] at h <;> simp [LK.items, h]
  obtain ⟨a, vs, rfl, ha, r'⟩ := Rep.listAt s hi.1 hi.2 r
  obtain ⟨_, _, _, _, hz, _⟩ := Rep.items (K := K) s hi.1 r
  exact ⟨a, vs, rfl, ha.sq, hz, r'⟩
theorem us_all : UnS .all (rAll X.K) := by
  intro S ρ H x vx d Q s rx h q
  simp only [unD, Option.map_eq_some_iff, Option.bind_eq_some_iff] at h
  obtain ⟨bs, ⟨l, hl, hb⟩, rfl⟩ := h
  obtain ⟨a, vs, rfl, hq, hz, r⟩ := Rep.listed (K := X.K) s hl rx
  have e := allBool_rep hb r
  subst e
  exact ⟨a, bs, rfl, hq, q _ _ (fun _ _ e => e) (by simp [Rep])⟩
theorem us_any : UnS .any (rAny X.K) := by
  intro S ρ H x vx d Q s rx h q
  simp only [unD, Option.map_eq_some_iff, Option.bind_eq_some_iff] at h
  obtain ⟨bs, ⟨l, hl, hb⟩, rfl⟩ := h
  obtain ⟨a, vs, rfl, hq, hz, r⟩ := Rep.listed (K := X.K) s hl rx
  have e := allBool_rep hb r
  subst e
  exact ⟨a, bs, rfl, hq, q _ _ (fun _ _ e => e) (by simp [Rep])⟩
theorem allInt_rep {ρ : Rho} {H : Hp} : ∀ {l : List D} {vs : List V} {is : List Int}, allInt l = some is → Reps ρ H l vs → vs = is.map V.int
  | [], vs, is, h, r => by simp [allInt] at h; subst h; simpa [Reps] using r
  | d :: l, vs, is, h, r => by
    cases d <;> simp only [allInt] at h <;> first | (cases h; done) | skip
    simp only [Option.map_eq_some_iff] at h
    obtain ⟨cs, hc, rfl⟩ := h
    simp only [Reps, Rep] at r
    obtain ⟨v, w, rfl, rfl, r2⟩ := r
    rw [allInt_rep hc r2]
    rfl
theorem least_go : ∀ (r : List Int) (i : Int), r.foldl (fun a b => if b < a then b else a) i ∈ i :: r ∧ ∀ y ∈ i :: r, r.foldl (fun a b => if b < a then b else a) i ≤ y
  | [], i => ⟨List.mem_cons_self .., fun y hy => by simp at hy; rw [hy]; exact Int.le_refl _⟩
  | j :: r, i => by
    obtain ⟨h1, h2⟩ := least_go r (if j < i then j else i)
    refine ⟨?_, fun y hy => ?_⟩
    · show r.foldl _ (if j < i then j else i) ∈ _
      rcases List.mem_cons.mp h1 with e | e
      · rw [e]
        split
        · exact List.mem_cons_of_mem _ (List.mem_cons_self ..)
        · exact List.mem_cons_self ..
      · exact List.mem_cons_of_mem _ (List.mem_cons_of_mem _ e)
    · show r.foldl _ (if j < i then j else i) ≤ y
      have h3 := h2 (if j < i then j else i) (List.mem_cons_self ..)
      rcases List.mem_cons.mp hy with e | hy
      · subst e
        split at h3 <;> split <;> omega
      · rcases List.mem_cons.mp hy with e | hy
        · subst e
          split at h3 <;> split <;> omega
        · exact h2 y (List.mem_cons_of_mem _ hy)
theorem most_go : ∀ (r : List Int) (i : Int), r.foldl (fun a b => if b > a then b else a) i ∈ i :: r ∧ ∀ y ∈ i :: r, y ≤ r.foldl (fun a b => if b > a then b else a) i
  | [], i => ⟨List.mem_cons_self .., fun y hy => by simp at hy; rw [hy]; exact Int.le_refl _⟩
  | j :: r, i => by
    obtain ⟨h1, h2⟩ := most_go r (if j > i then j else i)
    refine ⟨?_, fun y hy => ?_⟩
    · show r.foldl _ (if j > i then j else i) ∈ _
      rcases List.mem_cons.mp h1 with e | e
      · rw [e]
        split
        · exact List.mem_cons_of_mem _ (List.mem_cons_self ..)
        · exact List.mem_cons_self ..
      · exact List.mem_cons_of_mem _ (List.mem_cons_of_mem _ e)
    · show y ≤ r.foldl _ (if j > i then j else i)
      have h3 := h2 (if j > i then j else i) (List.mem_cons_self ..)
      rcases List.mem_cons.mp hy with e | hy
      · subst e
        split at h3 <;> split <;> omega
      · rcases List.mem_cons.mp hy with e | hy
        · subst e
          split at h3 <;> split <;> omega
        · exact h2 y (List.mem_cons_of_mem _ hy)
theorem leastI_spec {l : List Int} {i : Int} (h : leastI l = some i) : i ∈ l ∧ ∀ y ∈ l, i ≤ y := by
  cases l with
  | nil => cases h
  | cons a r => cases h; exact least_go r a
theorem mostI_spec {l : List Int} {i : Int} (h : mostI l = some i) : i ∈ l ∧ ∀ y ∈ l, y ≤ i := by
  cases l with
  | nil => cases h
  | cons a r => cases h; exact most_go r a
theorem us_sum : UnS .sum (rSum X.K) := by
  intro S ρ H x vx d Q s rx h q
  simp only [unD, Option.map_eq_some_iff, Option.bind_eq_some_iff] at h
  obtain ⟨is, ⟨l, hl, hb⟩, rfl⟩ := h
  obtain ⟨a, vs, rfl, hq, hz, r⟩ := Rep.listed (K := X.K) s hl rx
  have e := allInt_rep hb r
  subst e
  exact ⟨a, is, rfl, hq, q _ _ (fun _ _ e => e) (by simp [Rep])⟩
/-! ### built-ins of two -/
def BinS (o : Op) (r : List V → Hp → VK → Prop) : Prop := ∀ (i j : Int) (H : Hp) (d : D) (Q : VK) (S : Store), binD S o (.int i) (.int j) = some d → (∀ k, d = .int k → Q (.int k) H) → r [.int i, .int j] H Q
theorem de_call2 {id : String} {x : Str} {o : Op} {r : List V → Hp → VK → Prop} {a b : Expr} {da db : E} {C : Call} {p pos : Pos} (ho : o = .max2 ∨ o = .min2) (hc : CallR X (.builtin id) r) (bs : BinS o r) (hg : Gl X x) (hm : X.mg x = none) (hv : bootBuiltins x = some (.builtin id)) (hn : x ≠ "__name__") (hd : (x == ("__debug__" : Str)) = false)
    (na : noStar a = true) (nb : noStar b = true) (ha : DE X W a (den C da)) (hb : DE X W b (den C db)) : DE X W (.Call (.Name x p) [a, b] [] pos) (den C (.bin o da db)) :=
  de_val ((pe_callB hc hg hm hv (pa_cons ha.v (pa_cons hb.v pa_nil (star_plain nb _ _)) (star_plain na _ _)) hn hd (star_plain na _ _) (by rw [star_plain nb]; rfl)).weak fun σ H Q ⟨env, S, ρ, k, h⟩ =>
    ⟨env, S, ρ, k, RP.bind h k.s.live fun x S1 vx H1 ρ1 f1 g1 k1 r1 h1 => ⟨env, S1, ρ1, k1, RP.bind h1 k1.s.live fun y S2 vy H2 ρ2 f2 g2 k2 r2 h2 => by
      obtain ⟨d, hd, q⟩ := rp_of k2 h2
      have hxy : ∃ i j : Int, x = .int i ∧ y = .int j ∧ ∃ m : Int, d = .int m := by
        rcases ho with rfl | rfl <;> cases x <;> cases y <;> simp only [binD] at hd <;> first | (cases hd; done) | (cases hd; exact ⟨_, _, rfl, rfl, _, rfl⟩)
      obtain ⟨i, j, rfl, rfl, m, rfl⟩ := hxy
      simp only [Rep] at r1 r2
      subst r1 r2
      exact bs i j H2 _ _ S2 hd fun m e => q _ _ (fun _ _ e => e) (by cases e; simp [Rep])⟩⟩) fun _ => rfl
theorem bs_max2 : BinS .max2 (fun xs H Q => ∃ i j, xs = [.int i, .int j] ∧ Q (.int (if j > i then j else i)) H) := fun i j H d Q S h q => ⟨i, j, rfl, q _ (by simp only [binD] at h; cases h; rfl)⟩
theorem bs_min2 : BinS .min2 (fun xs H Q => ∃ i j, xs = [.int i, .int j] ∧ Q (.int (if j < i then j else i)) H) := fun i j H d Q S h q => ⟨i, j, rfl, q _ (by simp only [binD] at h; cases h; rfl)⟩
/-! ### isinstance -/
def tyD : D → String
  | .non => "NoneType"
  | .bl _ => "bool"
  | .int _ => "int"
  | .str _ => "str"
  | .lst _ => "list"
  | .cell _ => "list"
  | .tup _ => "tuple"
def Ty.nm : Ty → String
  | .int => "int"
  | .bool => "bool"
  | .str => "str"
  | .list => "list"
  | .tuple => "tuple"
theorem ty_of {K : PySem.W.Frag} {ρ : Rho} {S : Store} {H : Hp} (s : SRep ρ S H) {d : D} {v : V} (r : Rep ρ H d v) : TyX K H v (.type (tyD d)) := by
  cases d <;> simp only [Rep] at r
  · subst r; exact .base .non
  · subst r; exact .base (.bl _)
  · subst r; exact .base (.int _)
  · obtain ⟨rfl, _⟩ := r; exact .base (.str _)
  · obtain ⟨a, vs, rfl, ha, _⟩ := r
    rcases ha with ha | ⟨o, ha⟩
    · exact .base (.lst ha)
    · exact .base (.frz ha)
  · obtain ⟨a, vs, rfl, ha, _⟩ := r; exact .base (.tup ha)
  · rename_i n
    obtain ⟨a, ha, rfl⟩ := r
    obtain ⟨hlt, _⟩ := List.getElem?_eq_some_iff.mp ha
    obtain ⟨vs, e, _⟩ := s.at_ n _ a (List.getElem?_eq_getElem (by rw [← s.len]; exact hlt)) ha
    exact .base (.lst e)
def kitOf (a b : String) : Bool := (kitB a b == some true)
theorem kit_tab : ∀ (t : Ty), kitB "NoneType" t.nm = some false ∧ kitB "bool" t.nm = some (t == .int || t == .bool) ∧ kitB "int" t.nm = some (t == .int) ∧ kitB "str" t.nm = some (t == .str) ∧ kitB "list" t.nm = some (t == .list) ∧ kitB "tuple" t.nm = some (t == .tuple)
  | .int => by decide +kernel
  | .bool => by decide +kernel
  | .str => by decide +kernel
  | .list => by decide +kernel
  | .tuple => by decide +kernel
theorem kit_isTy (t : Ty) (d : D) : kitB (tyD d) t.nm = some (isTy t d) := by
  obtain ⟨h1, h2, h3, h4, h5, h6⟩ := kit_tab t
  cases d <;> simp only [tyD, h1, h2, h3, h4, h5, h6] <;> cases t <;> rfl
theorem de_isT1 {a : Expr} {da : E} {C : Call} {x : Str} {t : Ty} {p p2 pos : Pos} (hg : Gl X "isinstance") (hm : X.mg "isinstance" = none) (hg2 : Gl X x) (hm2 : X.mg x = none) (hv2 : bootBuiltins x = some (.type t.nm)) (hn : x ≠ "__name__") (hd : (x == ("__debug__" : Str)) = false)
    (ns : noStar a = true) (ha : DE X W a (den C da)) : DE X W (.Call (.Name "isinstance" p) [a, .Name x p2] [] pos) (den C (.un (.isT [t]) da)) :=
  de_val ((pe_callB call_isi hg hm (by decide +kernel) (pa_cons ha.v (pa_cons (pe_bltn (v := .ty t.nm) hg2 hm2 hv2 rfl hn hd) pa_nil rfl) (star_plain ns _ _)) (by decide) (by decide) (star_plain ns _ _)).weak fun σ H Q ⟨env, S, ρ, k, h⟩ =>
    ⟨env, S, ρ, k, RP.bind h k.s.live fun x S1 vx H1 ρ1 f1 g1 k1 r1 h1 => by
      obtain ⟨d, hd, q⟩ := rp_of k1 h1
      simp only [unD] at hd
      cases hd
      refine ⟨vx, .ty t.nm, _, _, isTy t x, rfl, .ty _, ty_of k1.s r1, kit_ty (kit_isTy t x), q _ _ (fun _ _ e => e) (by simp [Rep])⟩⟩) fun _ => rfl
/-- the names of types, written -/
inductive TyNames (X : Cx) : List Expr → List Ty → Prop
  | nil : TyNames X [] []
  | cons {x : Str} {p : Pos} {t : Ty} {es : List Expr} {ts : List Ty} (hg : Gl X x) (hm : X.mg x = none) (hv : bootBuiltins x = some (.type t.nm)) (hn : x ≠ "__name__") (hd : (x == ("__debug__" : Str)) = false) (r : TyNames X es ts) : TyNames X (.Name x p :: es) (t :: ts)
theorem TyNames.pa {es : List Expr} {ts : List Ty} (h : TyNames X es ts) : PA X es (fun _ H Q => Q (ts.map fun t => V.ty t.nm) H) := by
  induction h with
  | nil => exact pa_nil
  | cons hg hm hv hn hd r ih => exact (pa_cons (pe_bltn (v := .ty _) hg hm hv rfl hn hd) ih rfl).weak fun σ H Q h => h
theorem clsV_all : ∀ ts : List Ty, Paired ClsV (ts.map fun t => V.ty t.nm) (ts.map fun t => Value.type t.nm)
  | [] => .nil
  | t :: r => .cons (.ty _) (clsV_all r)
theorem kitAny_all {K : PySem.W.Frag} (d : D) : ∀ ts : List Ty, PySem.W.kitAny K (.type (tyD d)) (ts.map fun t => Value.type t.nm) = some (ts.any fun t => isTy t d)
  | [] => rfl
  | t :: r => by
    refine kitAny_cons (kit_ty (kit_isTy t d)) (fun h => ?_) (fun h => by simp [h])
    rw [kitAny_all d r]
    simp [h]
theorem de_isTs {a : Expr} {da : E} {C : Call} {es : List Expr} {ts : List Ty} {n : Nat} {p p2 pos : Pos} (hg : Gl X "isinstance") (hm : X.mg "isinstance" = none) (hts : TyNames X es ts) (hz : ts.length ≤ 5)
    (ns : noStar a = true) (ha : DE X W a (den C da)) : DE X W (.Call (.Name "isinstance" p) [a, .Tuple es n p2] [] pos) (den C (.un (.isT ts) da)) :=
  de_val ((pe_callB call_isiT hg hm (by decide +kernel) (pa_cons ha.v (pa_cons (pe_tup hts.pa) pa_nil rfl) (star_plain ns _ _)) (by decide) (by decide) (star_plain ns _ _)).weak fun σ H Q ⟨env, S, ρ, k, h⟩ =>
    ⟨env, S, ρ, k, RP.bind h k.s.live fun x S1 vx H1 ρ1 f1 g1 k1 r1 h1 => by
      obtain ⟨d, hd, q⟩ := rp_of k1 h1
      simp only [unD] at hd
      cases hd
      refine ⟨by rw [List.length_map, sizeLine_eq]; omega, fun t ht => ?_⟩
      refine ⟨vx, t, _, _, _, _, rfl, upd_same, clsV_all ts, ty_of (k1.same (same_new ht)).s (Rep.mono (frm_of (same_new ht)) (Grow.refl _ _) k1.s.live x vx r1), kitAny_all x ts, ?_⟩
      exact q _ _ (same_new ht) (by simp [Rep])⟩) fun _ => rfl
/-! ### list(range(..)), tuple(range(..)) -/
theorem nums_reps {ρ : Rho} {H : Hp} : ∀ (n : Nat) (a : Int), Reps ρ H (nums a n) ((List.range n).map fun i => V.int (a + (i : Nat)))
  | 0, a => by simp [nums, Reps]
  | n + 1, a => by
    rw [List.range_succ_eq_map, List.map_cons, List.map_map]
    simp only [nums, Reps]
    refine ⟨_, _, rfl, by simp [Rep], ?_⟩
    have := nums_reps (ρ := ρ) (H := H) n (a + 1)
    have e : ((fun i : Nat => V.int (a + (i : Nat))) ∘ Nat.succ) = fun i : Nat => V.int (a + 1 + (i : Nat)) := by
      funext i
      simp only [Function.comp]
      congr 1
      omega
    rw [e]
    exact this
theorem nums_len : ∀ (n : Nat) (a : Int), (nums a n).length = n
  | 0, _ => rfl
  | n + 1, a => by simp [nums, nums_len n]
/-- the ends of a range -/
def Ends2 (i j : Int) : Prop := -1000000 ≤ i ∧ i ≤ 1000000 ∧ -1000000 ≤ j ∧ j ≤ 1000000
theorem Ends2.ok {i j : Int} (h : Ends2 i j) : RgOk i j := by
  obtain ⟨h1, h2, h3, h4⟩ := h
  exact ⟨by omega, by omega, by omega, by omega, by omega⟩
/-- a range's reading, by its two ends -/
def tRgD (X : Cx) (W : WX) (f g : Env → Store → Res D) : L2.St → Hp → (Int → Int → Hp → Prop) → Prop := fun σ H Q => ∃ env S ρ, Ok ρ env S σ H ∧
  RP X W env σ ρ H (fun _ _ (p : Int × Int) (q : Int × Int) => p = q) ((f env S).bind fun x S => (g env S).bind fun y S => match x, y with
    | .int i, .int j => if (-1000000 ≤ i ∧ i ≤ 1000000 ∧ -1000000 ≤ j ∧ j ≤ 1000000) then .ok (i, j) S else .bad
    | _, _ => .bad) (fun p H => Q p.1 p.2 H)
theorem prg_weak {e : Expr} {t t' : L2.St → Hp → (Int → Int → Hp → Prop) → Prop} (h : PRg X e t) (q : ∀ σ H Q, t' σ H Q → t σ H Q) : PRg X e t' := fun pins s σ H Q I hw => h pins s σ H Q I (q _ _ _ hw)
theorem prg1 {a : Expr} {da : E} {C : Call} {p pos : Pos} (hg : Gl X "range") (hm : X.mg "range" = none) (ns : noStar a = true) (ha : DE X W a (den C da)) : PRg X (.Call (.Name "range" p) [a] [] pos) (tRgD X W (den C (.lit (.int 0))).v (den C da).v) :=
  prg_weak (prg_1 hg hm ha.v (star_plain ns _ _)) fun σ H Q ⟨env, S, ρ, k, h⟩ => ⟨env, S, ρ, k, RP.bind (r := (den C da).v env S) h k.s.live fun y S1 vy H1 ρ1 f1 g1 k1 r1 h1 => by
    cases y <;> first | (exact h1.elim) | skip
    rename_i j
    simp only at h1
    split at h1
    · simp only [Rep] at r1
      exact ⟨j, r1, h1 _ H1 ρ1 (Frm.refl _ _) (Grow.refl _ _) k1 rfl⟩
    · exact h1.elim⟩
theorem prg2 {a b : Expr} {da db : E} {C : Call} {p pos : Pos} (hg : Gl X "range") (hm : X.mg "range" = none) (ns : noStar a = true) (ns2 : noStar b = true) (ha : DE X W a (den C da)) (hb : DE X W b (den C db)) : PRg X (.Call (.Name "range" p) [a, b] [] pos) (tRgD X W (den C da).v (den C db).v) :=
  prg_weak (prg_2 hg hm ha.v hb.v (star_plain ns _ _) (star_plain ns2 _ _) (by rw [star_plain ns2]; rfl)) fun σ H Q ⟨env, S, ρ, k, h⟩ => ⟨env, S, ρ, k, RP.bind h k.s.live fun x S1 vx H1 ρ1 f1 g1 k1 r1 h1 =>
    ⟨env, S1, ρ1, k1, RP.bind h1 k1.s.live fun y S2 vy H2 ρ2 f2 g2 k2 r2 h2 => by
      cases x <;> cases y <;> first | (exact h2.elim) | skip
      rename_i i j
      simp only at h2
      split at h2
      · simp only [Rep] at r1 r2
        exact ⟨i, j, r1, r2, h2 _ H2 ρ2 (Frm.refl _ _) (Grow.refl _ _) k2 rfl⟩
      · exact h2.elim⟩⟩
theorem seqr_read {f g : Env → Store → Res D} {tp : Bool} {σ : L2.St} {H : Hp} {Q : VK}
    (h : tD X W (fun env S => (f env S).bind fun x S => (g env S).bind fun y S => match x, y with
      | .int i, .int j => if (-1000000 ≤ i ∧ i ≤ 1000000 ∧ -1000000 ≤ j ∧ j ≤ 1000000) then .ok (if tp then .tup (nums i (j - i).toNat) else .lst (nums i (j - i).toNat)) S else .bad
      | _, _ => .bad) σ H Q) : tRgD X W f g σ H (fun a b H1 => RgOk a b ∧ ∀ q, H1 q = none → Q (.ref q) (upd H1 q (if tp then .tup (rgV a b) else .lst (rgV a b)))) := by
  obtain ⟨env, S, ρ, k, h⟩ := h
  refine ⟨env, S, ρ, k, ?_⟩
  dsimp only at h
  cases h0 : f env S with
  | bad => rw [h0] at h; exact h.elim
  | exc x S' => rw [h0] at h; exact h
  | ok x S1 =>
    rw [h0] at h
    show RP _ _ _ _ _ _ _ ((g env S1).bind _) _
    replace h : RP X W env σ ρ H Rep ((g env S1).bind _) Q := h
    cases h2 : g env S1 with
    | bad => rw [h2] at h; exact h.elim
    | exc x S' => rw [h2] at h; exact h
    | ok y S2 =>
      rw [h2] at h
      cases x <;> cases y <;> first | (exact (show False from h).elim) | skip
      rename_i i j
      replace h : RP X W env σ ρ H Rep (if (-1000000 ≤ i ∧ i ≤ 1000000 ∧ -1000000 ≤ j ∧ j ≤ 1000000) then Res.ok (if tp then D.tup (nums i (j - i).toNat) else .lst (nums i (j - i).toNat)) S2 else .bad) Q := h
      show RP X W env σ ρ H _ (if (-1000000 ≤ i ∧ i ≤ 1000000 ∧ -1000000 ≤ j ∧ j ≤ 1000000) then Res.ok (i, j) S2 else .bad) _
      split at h
      · rename_i hb
        rw [if_pos hb]
        intro v H' ρ' f' g' k' e
        subst e
        refine ⟨Ends2.ok hb, fun q hq => ?_⟩
        have rr := nums_reps (ρ := ρ') (H := H') (j - i).toNat i
        have hz : (nums i (j - i).toNat).length ≤ line := by
          rw [nums_len]
          show _ ≤ 16777216
          omega
        cases tp with
        | true => exact h _ _ ρ' (f'.trans g' (frm_of (same_new hq))) g' (k'.same (same_new hq)) (Rep.tup_new hq k'.s.live hz rr)
        | false => exact h _ _ ρ' (f'.trans g' (frm_of (same_new hq))) g' (k'.same (same_new hq)) (Rep.lst_new hq k'.s.live hz rr)
      · exact h.elim
theorem de_seqr {e : Expr} {da db : E} {C : Call} {tp : Bool} {p pos : Pos} (hc : X.calm = true) (hg : Gl X (if tp then "tuple" else "list")) (hm : X.mg (if tp then "tuple" else "list") = none) (ns : noStar e = true) (he : PRg X e (tRgD X W (den C da).v (den C db).v)) :
    DE X W (.Call (.Name (if tp then "tuple" else "list") p) [e] [] pos) (den C (.seqr tp da db)) := by
  cases tp with
  | true => exact de_val ((pe_tupRg hc hg hm he (star_plain ns _ _)).weak fun σ H Q h => seqr_read (tp := true) h) fun _ => rfl
  | false => exact de_val ((pe_listRg hc hg hm he (star_plain ns _ _)).weak fun σ H Q h => seqr_read (tp := false) h) fun _ => rfl
end
end LK
set_option Elab.async false
set_option linter.all false
set_option autoImplicit false
set_option maxRecDepth 100000
set_option maxHeartbeats 4000000
/-! LK8a: enumerate of a tuple. -/
namespace LK
open PySem PySem.Spec PyProof.Rows L2
variable [Tt]
theorem enumNew_tup (l : Addr) (items : Array Value) (n : Nat) (dct : Option Addr) (sl : Array (Option Value)) :
    Meets (Builtin.«enumerate.__new__» ⟨[.type "enumerate", .ref l], []⟩) (fun _ R s => s.heap.get? l = some { cls := .type "tuple", dict := dct, data := .seq items n, slots := sl } ∧
      R (.ok (.ret (.ref (s.heap.push { cls := .type "tuple_iterator", data := .fields #[.ref l, .int 0 0] }).objs.size)))
        { s with heap := (s.heap.push { cls := .type "tuple_iterator", data := .fields #[.ref l, .int 0 0] }).push { cls := .type "enumerate", data := .fields #[.none, .bool false, .ref s.heap.objs.size, rawInt 0, .none, .none] } }) :=
  .of_wp fun prog w A R s h => by
    obtain ⟨hp, g, d, tk, os⟩ := s; obtain ⟨hl, h⟩ := h
    have hsub := sub_enumerate
    have hL : Heap.IsTuple (Shared.heap ⟨hp, g, d, tk, os⟩) l items := ⟨_, hl, rfl, n, rfl⟩
    wp_walk using wpAny_loadPart' hl
    refine wpAny_stack_any fun st => wpAny_pure ?_
    split
    · rename_i c _ _ _ _ _
      cases (c == Value.type "enumerate")
      · wp_walk using wpAny_loadPart' hl, wpAny_pyIter_tuple hL
        exact ⟨_, rfl, h⟩
      · wp_walk using wpAny_loadPart' hl, wpAny_pyIter_tuple hL
        exact ⟨_, rfl, h⟩
    · wp_walk using wpAny_loadPart' hl, wpAny_pyIter_tuple hL
      exact ⟨_, rfl, h⟩
section
variable {prog : Program} {w : World} {A : Around} {E : Value → Shared → Prop} {s : Shared}
theorem call_enum_tup {l : Addr} {items : Array Value} {Q : Value → Shared → Prop} (hL : s.heap.IsTuple l items)
    (h : ∀ h', IsEnum h' (s.heap.objs.size + 1) s.heap.objs.size 0 .none → h'.IsTupleIter s.heap.objs.size l 0 → (∀ b o, s.heap.get? b = some o → h'.get? b = some o) → Q (.ref (s.heap.objs.size + 1)) { s with heap := h' }) : wpAny (model prog w) A (call (.type "enumerate") [.ref l]) Q E s := by
  obtain ⟨⟨c, dct, dt, sl⟩, hl, hc, n, hd⟩ := hL
  simp only at hc hd
  subst hc hd
  refine callType_new F.called_enumerate (by decide) (F.typeCall_enumerate_1 _) (F.newCall_enumerate_1 _) (fun obj => F.args_object_init_2 obj _) F.entry_enumerate_new (enumNew_tup l items n dct sl) ⟨hl, ?_⟩
  have hz : (s.heap.push { cls := .type "tuple_iterator", data := .fields #[.ref l, .int 0 0] }).objs.size = s.heap.objs.size + 1 := Heap.size_push ..
  show _ ∧ _
  rw [hz]
  have he : IsEnum ((s.heap.push { cls := .type "tuple_iterator", data := .fields #[.ref l, .int 0 0] }).push { cls := .type "enumerate", data := .fields #[.none, .bool false, .ref s.heap.objs.size, rawInt 0, .none, .none] }) (s.heap.objs.size + 1) s.heap.objs.size 0 .none := by
    rw [← hz]; exact Heap.get?_push_size _ rfl
  have hit : ((s.heap.push { cls := .type "tuple_iterator", data := .fields #[.ref l, .int 0 0] }).push { cls := .type "enumerate", data := .fields #[.none, .bool false, .ref s.heap.objs.size, rawInt 0, .none, .none] }).IsTupleIter s.heap.objs.size l 0 :=
    ⟨_, Heap.get?_push_of_some _ (Heap.get?_push_size _ rfl), rfl, rfl⟩
  refine ⟨⟨_, he, ?_⟩, h _ he hit fun b o e => Heap.get?_push_of_some _ (Heap.get?_push_of_some _ e)⟩
  rfl
end
/-- the tuple at a, each item in a new pair -/
def Itet (K : PySem.W.Frag) (a : Addr) : It :=
  ⟨fun i H => ∃ (xs : List V) (x : V), SqT K H a xs ∧ xs[i]? = some x, fun i H v H' => ∃ T x, v = .ref T ∧ H T = none ∧ H' = upd H T (.tup [.int (i : Nat), x]) ∧ ∀ xs, SqT K H a xs → xs[i]? = some x, fun i H => ∃ xs : List V, SqT K H a xs ∧ xs.length = i⟩
theorem turn_enumT {P : Program} {w : World} {K : PySem.W.Frag} {elts : List Expr} {kk : Nat} {tpos : Pos} (a e it : Addr) :
    Turn P w K (.Tuple elts kk tpos) (Itet K a) [e, it] e (fun i h => (∃ old, IsEnum h e it ((i : Nat) : Int) old) ∧ h.IsTupleIter it a i ∧ e ≠ it ∧ a ≠ it ∧ e ≠ a) where
  mem := by simp
  obj := fun i h st b hb => by
    obtain ⟨⟨old, he⟩, ⟨o, ho, hc, hd⟩, _⟩ := st
    rcases (show b = e ∨ b = it by simpa using hb) with z | z
    · rw [z]; exact ⟨_, he, fun v q => nomatch q⟩
    · rw [z]; exact ⟨o, ho, fun v q => by rw [hd] at q; cases q⟩
  keep := fun i h h' st k => let ⟨⟨old, he⟩, hi, hne⟩ := st; ⟨⟨old, k e (by simp) _ he⟩, hi.at fun o q => k it (by simp) o q, hne⟩
  item := by
    intro X hP hw hK hc i pins s σ H E I hf st hg
    subst hP hw hK
    obtain ⟨⟨old, he⟩, hit, hne, hai, hea⟩ := st
    obtain ⟨xs, x, hq, hx⟩ := hg
    obtain ⟨its, rv, p, hz⟩ := I.tuple hq
    obtain ⟨u, hu, ru⟩ := rv.get hx
    have hel : e < s.heap.objs.size := Heap.lt_size he
    have hil : it < s.heap.objs.size := by obtain ⟨_, q, _⟩ := hit; exact Heap.lt_size q
    have hlt : i < its.toArray.size := by
      have := (List.getElem?_eq_some_iff.mp hu).1
      simpa using this
    refine wpAny_pyNext_enum_itemD (Draws.tuple (A := X.A.in1) (by simpa using I.ok.hd hc) it a hai its.toArray) he ⟨hit, p⟩ hlt hne (by simp; exact ⟨hne, hea⟩) fun x' h' tk hx' ho hst' hT hsz hk => ?_
    have ex : x' = u := by
      have : its.toArray[i]? = some u := by simpa using hu
      rw [this] at hx'
      exact (Option.some.inj hx').symm
    subst ex
    refine ⟨_, rfl, wpAny_letOwnedTupleGo_enum (s := { s with heap := h', toks := tk + 1 }) ho fun h'' he' sb => ?_⟩
    have hT2 : h''.get? s.heap.objs.size = some { cls := .type "tuple", data := .seq #[.int i tk, x'] } := (sb.2 _ (Nat.ne_of_gt hel)).trans hT
    have new : ObjOk X.prog X.w (upd H s.heap.objs.size (.tup [.int (i : Nat), x])) h'' s.heap.objs.size (.tup [.int (i : Nat), x]) :=
      ⟨by show 2 ≤ sizeLine; decide, [.int i tk, x'], .cons ⟨_, rfl⟩ (.cons ru .nil), ⟨_, hT2, rfl, _, rfl⟩⟩
    have I1 : Inv X pins σ (upd H s.heap.objs.size (.tup [.int (i : Nat), x])) { s with heap := h'', toks := tk + 1 } :=
      I.turnedNew (ch := [e, it]) (fun b ob hb q => (sb.2 b (fun z => hb (by simp [z]))).trans (hk b ob (fun z => hb (by simp [z])) (fun z => hb (by simp [z])) q)) hf (Nat.le_refl _) new
    refine ⟨.ref s.heap.objs.size, _, I1, rfl, ⟨_, x, rfl, I.hok.fresh (Nat.le_refl _), rfl, fun ys hy => by rw [I.tuple_inj hy hq]; exact hx⟩, ⟨⟨x', ?_⟩, hst'.1.at fun o q => (sb.2 it (Ne.symm hne)).trans q, hne, hai, hea⟩, fun b hb => ?_⟩
    · have e1 : ((i + 1 : Nat) : Int) = (i : Int) + 1 := by omega
      rw [e1]; exact he'
    · have hb' : b < s.heap.objs.size := by
        rcases (show b = e ∨ b = it by simpa using hb) with z | z
        · rw [z]; exact hel
        · rw [z]; exact hil
      rw [upd_ne (Nat.ne_of_lt hb')]
      exact (hf b hb).1
  done := by
    intro X hP hw hK hc i pins s σ H E I hf st hg
    subst hP hw hK
    obtain ⟨⟨old, he⟩, hit, hne, hai, hea⟩ := st
    obtain ⟨xs, hq, hx⟩ := hg
    obtain ⟨its, rv, p, hz⟩ := I.tuple hq
    obtain ⟨f0, f1, f2, f3, f4, f5⟩ := hf it (by simp)
    have hl := rv.length
    have hi : i = its.toArray.size := by simp; omega
    subst hi
    exact wpAny_pyNext_enum_endD (Draws.tuple (A := X.A.in1) (by simpa using I.ok.hd hc) it a hai its.toArray) he ⟨hit, p⟩ fun h' eb => ⟨rfl, I.turned (t' := s.toks) (fun b o hb q => eb b o hb q) f0 f1 f3 f4 f5⟩
  self := fun A i s Q E st h => let ⟨⟨_, he⟩, _⟩ := st; wpAny_pyIter_enum he h
def iEnum2 (K : PySem.W.Frag) (ta : TA) : TI := fun σ H R => ta σ H fun vs H1 => ∃ a, vs = [.ref a] ∧ ((∃ xs, SqL K H1 a xs ∧ R (Ite K a) H1) ∨ (∃ xs, SqT K H1 a xs ∧ R (Itet K a) H1))
theorem pi_enum2 {X : Cx} {e : Expr} {ta : TA} {p pos tpos : Pos} {elts : List Expr} {kk : Nat} (hg : Gl X "enumerate") (hm : X.mg "enumerate" = none) (ha : PA X [e] ta) (hs : starEach [e] X.env = [(false, eval e X.env)]) :
    PI X (.Tuple elts kk tpos) (.Call (.Name "enumerate" p) [e] [] pos) (iEnum2 X.K ta) := by
  refine ⟨fun pins s σ H R I h => ?_⟩
  refine Call_ (ld_blt I hg hm boot_enumerate (PyProof.Rows.callWith_type1 (thn (ha.run pos pins s σ H _ I h) fun us s1 ⟨vs, H1, I1, r1, q1⟩ => ?_) hs rfl))
  obtain ⟨a, ex, q1⟩ := q1
  subst ex
  have fresh : ∀ b ∈ [s1.heap.objs.size + 1, s1.heap.objs.size], s1.heap.objs.size ≤ b := fun b hb => by
    rcases (show b = s1.heap.objs.size + 1 ∨ b = s1.heap.objs.size by simpa using hb) with z | z
    · rw [z]; exact Nat.le_add_right _ _
    · rw [z]; exact Nat.le_refl _
  cases r1 with
  | cons r rr =>
    cases rr
    cases r
    rcases q1 with ⟨xs, hq, q⟩ | ⟨xs, hq, q⟩
    · obtain ⟨its, rv, p', hz⟩ := I1.list hq
      refine call_enumerate_list p'.isList fun h' he hit hsz hk => wpAny_pyIter_enum he ?_
      have I2 : Inv X pins σ H1 { s1 with heap := h' } := I1.kept (t' := s1.toks) hk
      exact ⟨s1.heap.objs.size + 1, [s1.heap.objs.size + 1, s1.heap.objs.size], _, _, H1, rfl, I2, turn_enum a (s1.heap.objs.size + 1) s1.heap.objs.size, ⟨⟨.none, he⟩, hit, Nat.succ_ne_self _⟩, fun b hb => I1.fpOk (fresh b hb) (I1.hok.fresh (fresh b hb)), q⟩
    · obtain ⟨its, rv, p', hz⟩ := I1.tuple hq
      have hlt : a < s1.heap.objs.size := by obtain ⟨o, ho, _⟩ := p'; exact Heap.lt_size ho
      refine call_enum_tup p' fun h' he hit hk => wpAny_pyIter_enum he ?_
      have I2 : Inv X pins σ H1 { s1 with heap := h' } := I1.kept (t' := s1.toks) hk
      exact ⟨s1.heap.objs.size + 1, [s1.heap.objs.size + 1, s1.heap.objs.size], _, _, H1, rfl, I2, turn_enumT a (s1.heap.objs.size + 1) s1.heap.objs.size, ⟨⟨.none, he⟩, hit, Nat.succ_ne_self _, Nat.ne_of_lt hlt, Nat.ne_of_gt (Nat.lt_succ_of_lt hlt)⟩, fun b hb => I1.fpOk (fresh b hb) (I1.hok.fresh (fresh b hb)), q⟩
end LK
set_option Elab.async false
set_option linter.all false
set_option autoImplicit false
set_option maxRecDepth 100000
set_option maxHeartbeats 1000000
/-! LK8: an index; is None; what is walked. -/
namespace LK
open PySem PySem.Spec PyProof.Rows L2
variable [Tt]
section
variable {X : Cx} {W : WX}
theorem de_ix {a b : Expr} {da db : E} {C : Call} {pos : Pos} (hs : PlainIx b) (ha : DE X W a (den C da)) (hb : DE X W b (den C db)) : DE X W (.Subscript a b pos) (den C (.bin .ix da db)) :=
  de_val ((pe_ix ix_seq ha.v hb.v hs).weak fun σ H Q h => tD_bin ops_ix h) fun _ => rfl
/-- no slice with a step left out -/
def plainIx : Expr → Bool
  | .Slice _ _ _ _ => false
  | _ => true
theorem plainIx_ok {b : Expr} (h : plainIx b = true) : PlainIx b := by
  intro o i
  cases b <;> first | rfl | (simp [plainIx] at h)
def isNon : D → Bool
  | .non => true
  | _ => false
theorem isNon_iff {ρ : Rho} {H : Hp} {d : D} {v : V} (r : Rep ρ H d v) : decide (v = V.non) = isNon d := by
  rw [r.non_iff]
  cases d <;> rfl
theorem isN_bin (S : Store) (x y : D) : binD S .isN x y = some (.bl (isNon x)) := by cases x <;> rfl
theorem notN_bin (S : Store) (x y : D) : binD S .notN x y = some (.bl (!isNon x)) := by cases x <;> rfl
theorem de_isN {a : Expr} {da : E} {C : Call} {j : Nat} {pos p2 : Pos} (ha : DE X W a (den C da)) : DE X W (.Compare a [.Is] [.Constant .none j p2] pos) (den C (.bin .isN da (.lit .non))) := by
  have hv : PE X (.Compare a [.Is] [.Constant .none j p2] pos) (tD X W (den C (.bin .isN da (.lit .non))).v) := (pe_cmp (pc_isN ha.v) (nobehind _ (by decide) (by decide))).weak fun σ H Q ⟨env, S, ρ, k, h⟩ => ⟨env, S, ρ, k, RP.bind h k.s.live fun x S1 vx H1 ρ1 f1 g1 k1 r1 h1 => by
    rw [isNon_iff r1]
    replace h1 : RP X W env σ ρ1 H1 Rep (Res.of S1 (binD S1 .isN x .non)) Q := h1
    rw [isN_bin] at h1
    exact rp_now k1 h1 (fun _ _ e => e) (by simp only [Rep])⟩
  refine ⟨hv, (pt_cmp (pc_isN ha.v) (nobehind _ (by decide) (by decide))).weak fun σ H Q ⟨env, S, ρ, k, h⟩ => ⟨env, S, ρ, k, ?_⟩, fun tg => pi_val hv⟩
  simp only [den, Den.ofV] at h
  rw [Res.bind_bind] at h
  refine RP.bind h k.s.live fun x S1 vx H1 ρ1 f1 g1 k1 r1 h1 => ?_
  rw [isNon_iff r1]
  replace h1 : RP X W env σ ρ1 H1 (fun _ _ b c => b = c) ((Res.of S1 (binD S1 .isN x .non)).bind fun d S => .of S (truth S d)) Q := h1
  rw [isN_bin] at h1
  exact ⟨_, rfl, rpb_of k1 h1⟩
theorem de_notN {a : Expr} {da : E} {C : Call} {j : Nat} {pos p2 : Pos} (ha : DE X W a (den C da)) : DE X W (.Compare a [.IsNot] [.Constant .none j p2] pos) (den C (.bin .notN da (.lit .non))) := by
  have hv : PE X (.Compare a [.IsNot] [.Constant .none j p2] pos) (tD X W (den C (.bin .notN da (.lit .non))).v) := (pe_cmp (pc_notN ha.v) (nobehind _ (by decide) (by decide))).weak fun σ H Q ⟨env, S, ρ, k, h⟩ => ⟨env, S, ρ, k, RP.bind h k.s.live fun x S1 vx H1 ρ1 f1 g1 k1 r1 h1 => by
    rw [isNon_iff r1]
    replace h1 : RP X W env σ ρ1 H1 Rep (Res.of S1 (binD S1 .notN x .non)) Q := h1
    rw [notN_bin] at h1
    exact rp_now k1 h1 (fun _ _ e => e) (by simp only [Rep])⟩
  refine ⟨hv, (pt_cmp (pc_notN ha.v) (nobehind _ (by decide) (by decide))).weak fun σ H Q ⟨env, S, ρ, k, h⟩ => ⟨env, S, ρ, k, ?_⟩, fun tg => pi_val hv⟩
  simp only [den, Den.ofV] at h
  rw [Res.bind_bind] at h
  refine RP.bind h k.s.live fun x S1 vx H1 ρ1 f1 g1 k1 r1 h1 => ?_
  rw [isNon_iff r1]
  replace h1 : RP X W env σ ρ1 H1 (fun _ _ b c => b = c) ((Res.of S1 (binD S1 .notN x .non)).bind fun d S => .of S (truth S d)) Q := h1
  rw [notN_bin] at h1
  exact ⟨_, rfl, rpb_of k1 h1⟩
theorem nums_get : ∀ (n : Nat) (a : Int) (i : Nat) (d : D), (nums a n)[i]? = some d → d = .int (a + (i : Nat)) ∧ i < n
  | 0, a, i, d, h => by simp [nums] at h
  | n + 1, a, 0, d, h => by
    simp [nums] at h
    subst h
    exact ⟨by simp, by omega⟩
  | n + 1, a, i + 1, d, h => by
    simp only [nums, List.getElem?_cons_succ] at h
    obtain ⟨e, h'⟩ := nums_get n (a + 1) i d h
    refine ⟨?_, by omega⟩
    rw [e]
    congr 1
    omega
theorem src_rng {a : Int} {n : Nat} (hz : n ≤ line) : Src (Itr a n) (nums a n) none (fun _ _ _ => True) where
  len := by rw [nums_len]; exact hz
  stop := fun s _ => by
    show n ≤ _
    rw [nums_len]
    exact Nat.le_refl _
  go := fun s _ e => (nums_get n a _ _ e).2
  yld := fun s _ e y => by
    obtain ⟨rfl, rfl⟩ := y
    exact ⟨fun _ _ e => e, by rw [(nums_get n a _ _ e).1]; simp only [Rep]⟩
  keep := fun _ _ _ _ _ _ => trivial
  hide := fun _ _ _ => trivial
/-! range, enumerate, zip -/
theorem di_rng1 {tg a : Expr} {da : E} {C : Call} {p pos : Pos} (hg : Gl X "range") (hm : X.mg "range" = none) (ns : noStar a = true) (ha : DE X W a (den C da)) :
    PI X tg (.Call (.Name "range" p) [a] [] pos) (tI X W (den C (.rng (.lit (.int 0)) da)).i) :=
  (pi_range1 hg hm (pa_cons ha.v pa_nil (star_plain ns _ _)) (star_plain ns _ _)).weak fun σ H R ⟨env, S, ρ, k, h⟩ => ⟨env, S, ρ, k, by
    replace h : RP X W env σ ρ H SrcAt (withS ((((Res.ok (D.int 0) S : Res D).bind fun x S => ((den C da).v env S).bind fun y S => match x, y with
      | .int i, .int j => if (-1000000 ≤ i ∧ i ≤ 1000000 ∧ -1000000 ≤ j ∧ j ≤ 1000000) then .ok (nums i (j - i).toNat) S else .bad
      | _, _ => .bad) : Res (List D)).bind fun l S => .ok (l, none) S)) R := h
    simp only [withS, Res.bind_bind] at h
    refine RP.bind (r := (den C da).v env S) h k.s.live fun y S1 vy H1 ρ1 f1 g1 k1 r1 h1 => ?_
    cases y <;> first | (exact h1.elim) | skip
    rename_i j
    simp only at h1
    split at h1
    · rename_i hb
      simp only [Rep] at r1
      subst r1
      refine ⟨j, rfl, by omega, by omega, ?_⟩
      have e : (j - 0).toNat = j.toNat := by rw [Int.sub_zero]
      rw [e] at h1
      exact h1 _ H1 ρ1 (Frm.refl _ _) (Grow.refl _ _) k1 ⟨_, src_rng (by show _ ≤ 16777216; omega), trivial⟩
    · exact h1.elim⟩
theorem di_rng2 {tg a b : Expr} {da db : E} {C : Call} {p pos : Pos} (hg : Gl X "range") (hm : X.mg "range" = none) (ns : noStar a = true) (ns2 : noStar b = true) (ha : DE X W a (den C da)) (hb : DE X W b (den C db)) :
    PI X tg (.Call (.Name "range" p) [a, b] [] pos) (tI X W (den C (.rng da db)).i) :=
  (pi_range2 hg hm (pa_cons ha.v (pa_cons hb.v pa_nil (star_plain ns2 _ _)) (star_plain ns _ _)) (by rw [star_plain ns, star_plain ns2]; rfl) (by rw [star_plain ns2]; rfl)).weak fun σ H R ⟨env, S, ρ, k, h⟩ => ⟨env, S, ρ, k, by
    replace h : RP X W env σ ρ H SrcAt (withS (((((den C da).v env S).bind fun x S => ((den C db).v env S).bind fun y S => match x, y with
      | .int i, .int j => if (-1000000 ≤ i ∧ i ≤ 1000000 ∧ -1000000 ≤ j ∧ j ≤ 1000000) then .ok (nums i (j - i).toNat) S else .bad
      | _, _ => .bad) : Res (List D)).bind fun l S => .ok (l, none) S)) R := h
    simp only [withS, Res.bind_bind] at h
    refine RP.bind h k.s.live fun x S1 vx H1 ρ1 f1 g1 k1 r1 h1 => ?_
    refine ⟨env, S1, ρ1, k1, RP.bind h1 k1.s.live fun y S2 vy H2 ρ2 f2 g2 k2 r2 h2 => ?_⟩
    cases x <;> cases y <;> first | (exact h2.elim) | skip
    rename_i i j
    simp only at h2
    split at h2
    · rename_i hb
      simp only [Rep] at r1 r2
      subst r1 r2
      refine ⟨i, j, rfl, ⟨by omega, by omega, by omega, by omega⟩, ?_⟩
      exact h2 _ H2 ρ2 (Frm.refl _ _) (Grow.refl _ _) k2 ⟨_, src_rng (by show _ ≤ 16777216; omega), trivial⟩
    · exact h2.elim⟩
theorem pairs_get {l k : List D} {i : Nat} {d : D} (h : (pairs l k)[i]? = some d) : ∃ x y, l[i]? = some x ∧ k[i]? = some y ∧ d = .tup [x, y] := by
  unfold pairs at h
  rw [List.getElem?_map, Option.map_eq_some_iff] at h
  obtain ⟨⟨x, y⟩, h, rfl⟩ := h
  rw [List.getElem?_zip_eq_some] at h
  exact ⟨x, y, h.1, h.2, rfl⟩
theorem rep_pair {ρ : Rho} {H : Hp} {t : Addr} {x y : D} {vx vy : V} (ht : H t = none) (lv : Live ρ H) (rx : Rep ρ H x vx) (ry : Rep ρ H y vy) : Rep ρ (upd H t (.tup [vx, vy])) (.tup [x, y]) (.ref t) :=
  Rep.tup_new ht lv (by show 2 ≤ 16777216; decide) (by simp only [Reps]; exact ⟨vx, [vy], rfl, rx, vy, [], rfl, ry, rfl⟩)
theorem src_enum {K : PySem.W.Frag} {a : Addr} {l : List D} {vs : List V} (hz : l.length ≤ line) : Src (Ite K a) (pairs (nums 0 l.length) l) none (fun S ρ H => LAt H a vs ∧ a ∉ ρ ∧ Reps ρ H l vs) where
  len := by
    unfold pairs
    rw [List.length_map, List.length_zip, nums_len]
    omega
  stop := fun s ⟨ha, n, r⟩ => ⟨vs, ha.sq, by
    unfold pairs
    rw [List.length_map, List.length_zip, nums_len, r.length]
    omega⟩
  go := fun s ⟨ha, n, r⟩ e => by
    obtain ⟨x, y, hx, hy, _⟩ := pairs_get e
    obtain ⟨v, hv, _⟩ := r.get hy
    exact ⟨vs, v, ha.sq, hv⟩
  yld := fun s ⟨ha, n, r⟩ e y => by
    obtain ⟨t, x, rfl, ht, rfl, h⟩ := y
    obtain ⟨x', y', hx, hy, rfl⟩ := pairs_get e
    obtain ⟨v, hv, rv⟩ := r.get hy
    have := h vs ha.sq
    rw [hv] at this
    cases this
    refine ⟨same_new ht, ?_⟩
    rw [(nums_get _ _ _ _ hx).1, Int.zero_add]
    exact rep_pair ht s.live (by simp only [Rep]) rv
  keep := fun s s' h f g st => (src_lst (K := K) hz).keep s s' h f g st
  hide := fun s h hp => (src_lst (K := K) hz).hide s h hp
theorem src_enumT {K : PySem.W.Frag} {a : Addr} {l : List D} {vs : List V} (hz : l.length ≤ line) : Src (Itet K a) (pairs (nums 0 l.length) l) none (fun S ρ H => H a = some (.tup vs) ∧ Reps ρ H l vs) where
  len := by
    unfold pairs
    rw [List.length_map, List.length_zip, nums_len]
    omega
  stop := fun s ⟨ha, r⟩ => ⟨vs, SqT.of ha, by
    unfold pairs
    rw [List.length_map, List.length_zip, nums_len, r.length]
    omega⟩
  go := fun s ⟨ha, r⟩ e => by
    obtain ⟨x, y, hx, hy, _⟩ := pairs_get e
    obtain ⟨v, hv, _⟩ := r.get hy
    exact ⟨vs, v, SqT.of ha, hv⟩
  yld := fun s ⟨ha, r⟩ e y => by
    obtain ⟨t, x, rfl, ht, rfl, h⟩ := y
    obtain ⟨x', y', hx, hy, rfl⟩ := pairs_get e
    obtain ⟨v, hv, rv⟩ := r.get hy
    have := h vs (SqT.of ha)
    rw [hv] at this
    cases this
    refine ⟨same_new ht, ?_⟩
    rw [(nums_get _ _ _ _ hx).1, Int.zero_add]
    exact rep_pair ht s.live (by simp only [Rep]) rv
  keep := fun s s' h f g st => (src_tup (K := K) hz).keep s s' h f g st
  hide := fun s h hp => (src_tup (K := K) hz).hide s h hp
theorem src_zipL {K : PySem.W.Frag} {a b : Addr} {l k : List D} {vs ws : List V} (hz : l.length ≤ line) (hz2 : k.length ≤ line) : Src (Itz K a b) (pairs l k) none (fun S ρ H => (LAt H a vs ∧ a ∉ ρ ∧ Reps ρ H l vs) ∧ (LAt H b ws ∧ b ∉ ρ ∧ Reps ρ H k ws)) where
  len := by
    unfold pairs
    rw [List.length_map, List.length_zip]
    omega
  stop := fun s ⟨⟨ha, n, r⟩, ⟨hb, n2, r2⟩⟩ => ⟨vs, ws, ha.sq, hb.sq, by
    unfold pairs
    rw [List.length_map, List.length_zip, r.length, r2.length]
    omega⟩
  go := fun s ⟨⟨ha, n, r⟩, ⟨hb, n2, r2⟩⟩ e => by
    obtain ⟨x, y, hx, hy, _⟩ := pairs_get e
    obtain ⟨v, hv, _⟩ := r.get hx
    obtain ⟨w, hw, _⟩ := r2.get hy
    exact ⟨vs, ws, v, w, ha.sq, hb.sq, hv, hw⟩
  yld := fun s ⟨⟨ha, n, r⟩, ⟨hb, n2, r2⟩⟩ e y => by
    obtain ⟨t, x, z, rfl, ht, rfl, h, h2⟩ := y
    obtain ⟨x', y', hx, hy, rfl⟩ := pairs_get e
    obtain ⟨v, hv, rv⟩ := r.get hx
    obtain ⟨w, hw, rw'⟩ := r2.get hy
    have e1 := h vs ha.sq
    rw [hv] at e1
    cases e1
    have e2 := h2 ws hb.sq
    rw [hw] at e2
    cases e2
    exact ⟨same_new ht, rep_pair ht s.live rv rw'⟩
  keep := fun s s' h f g st => ⟨(src_lst (K := K) hz).keep s s' h.1 f g st, (src_lst (K := K) hz2).keep s s' h.2 f g st⟩
  hide := fun s h hp => ⟨(src_lst (K := K) hz).hide s h.1 hp, (src_lst (K := K) hz2).hide s h.2 hp⟩
theorem src_zipT {K : PySem.W.Frag} {a b : Addr} {l k : List D} {vs ws : List V} (hz : l.length ≤ line) (hz2 : k.length ≤ line) : Src (RZ.ItzT K a b) (pairs l k) none (fun S ρ H => (H a = some (.tup vs) ∧ Reps ρ H l vs) ∧ (H b = some (.tup ws) ∧ Reps ρ H k ws)) where
  len := by
    unfold pairs
    rw [List.length_map, List.length_zip]
    omega
  stop := fun s ⟨⟨ha, r⟩, ⟨hb, r2⟩⟩ => ⟨vs, ws, SqT.of ha, SqT.of hb, by
    unfold pairs
    rw [List.length_map, List.length_zip, r.length, r2.length]
    omega⟩
  go := fun s ⟨⟨ha, r⟩, ⟨hb, r2⟩⟩ e => by
    obtain ⟨x, y, hx, hy, _⟩ := pairs_get e
    obtain ⟨v, hv, _⟩ := r.get hx
    obtain ⟨w, hw, _⟩ := r2.get hy
    exact ⟨vs, ws, v, w, SqT.of ha, SqT.of hb, hv, hw⟩
  yld := fun s ⟨⟨ha, r⟩, ⟨hb, r2⟩⟩ e y => by
    obtain ⟨t, x, z, rfl, ht, rfl, h, h2⟩ := y
    obtain ⟨x', y', hx, hy, rfl⟩ := pairs_get e
    obtain ⟨v, hv, rv⟩ := r.get hx
    obtain ⟨w, hw, rw'⟩ := r2.get hy
    have e1 := h vs (SqT.of ha)
    rw [hv] at e1
    cases e1
    have e2 := h2 ws (SqT.of hb)
    rw [hw] at e2
    cases e2
    exact ⟨same_new ht, rep_pair ht s.live rv rw'⟩
  keep := fun s s' h f g st => ⟨(src_tup (K := K) hz).keep s s' h.1 f g st, (src_tup (K := K) hz2).keep s s' h.2 f g st⟩
  hide := fun s h hp => ⟨(src_tup (K := K) hz).hide s h.1 hp, (src_tup (K := K) hz2).hide s h.2 hp⟩
theorem di_enum {e : Expr} {de : E} {C : Call} {elts : List Expr} {kk : Nat} {p pos tpos : Pos} (hg : Gl X "enumerate") (hm : X.mg "enumerate" = none) (ns : noStar e = true) (he : DE X W e (den C de)) :
    PI X (.Tuple elts kk tpos) (.Call (.Name "enumerate" p) [e] [] pos) (tI X W (den C (.enum de)).i) :=
  (pi_enum2 hg hm (pa_cons he.v pa_nil (star_plain ns _ _)) (star_plain ns _ _)).weak fun σ H R ⟨env, S, ρ, k, h⟩ => ⟨env, S, ρ, k, by
    simp only [den, Den.ofI, withS, Res.bind_bind] at h
    refine RP.bind h k.s.live fun x S1 vx H1 ρ1 f1 g1 k1 r1 h1 => ?_
    cases x <;> first | (exact h1.elim) | skip
    · rename_i l
      simp only [Rep] at r1
      obtain ⟨a, vs, rfl, ha, n, hz, r⟩ := r1
      exact ⟨a, rfl, .inl ⟨vs, ha.sq, h1 _ H1 ρ1 (Frm.refl _ _) (Grow.refl _ _) k1 ⟨_, src_enum hz, ha, n, r⟩⟩⟩
    · rename_i l
      simp only [Rep] at r1
      obtain ⟨a, vs, rfl, ha, hz, r⟩ := r1
      exact ⟨a, rfl, .inr ⟨vs, SqT.of ha, h1 _ H1 ρ1 (Frm.refl _ _) (Grow.refl _ _) k1 ⟨_, src_enumT hz, ha, r⟩⟩⟩⟩
theorem di_zip {e e2 : Expr} {de de2 : E} {C : Call} {elts : List Expr} {kk : Nat} {p pos tpos : Pos} (hg : Gl X "zip") (hm : X.mg "zip" = none) (ns : noStar e = true) (ns2 : noStar e2 = true) (he : DE X W e (den C de)) (he2 : DE X W e2 (den C de2)) :
    PI X (.Tuple elts kk tpos) (.Call (.Name "zip" p) [e, e2] [] pos) (tI X W (den C (.zip de de2)).i) :=
  (RZ.pi_zipA hg hm (pa_cons he.v (pa_cons he2.v pa_nil (star_plain ns2 _ _)) (star_plain ns _ _)) (star_plain ns _ _) (by rw [star_plain ns2]; rfl)).weak fun σ H R ⟨env, S, ρ, k, h⟩ => ⟨env, S, ρ, k, by
    simp only [den, Den.ofI, withS, Res.bind_bind] at h
    refine RP.bind h k.s.live fun x S1 vx H1 ρ1 f1 g1 k1 r1 h1 => ?_
    refine ⟨env, S1, ρ1, k1, RP.bind h1 k1.s.live fun y S2 vy H2 ρ2 f2 g2 k2 r2 h2 => ?_⟩
    have r1' := Rep.mono f2 g2 k1.s.live x vx r1
    cases x <;> cases y <;> first | (exact h2.elim) | skip
    · simp only [Rep] at r1' r2
      obtain ⟨a, vs, rfl, ha, n, hz, r⟩ := r1'
      obtain ⟨b, ws, rfl, hb, n2, hz2, r2⟩ := r2
      exact ⟨a, b, vs, ws, rfl, .inl ⟨ha.sq, hb.sq, h2 _ H2 ρ2 (Frm.refl _ _) (Grow.refl _ _) k2 ⟨_, src_zipL hz hz2, ⟨ha, n, r⟩, hb, n2, r2⟩⟩⟩
    · simp only [Rep] at r1' r2
      obtain ⟨a, vs, rfl, ha, hz, r⟩ := r1'
      obtain ⟨b, ws, rfl, hb, hz2, r2⟩ := r2
      exact ⟨a, b, vs, ws, rfl, .inr ⟨SqT.of ha, SqT.of hb, h2 _ H2 ρ2 (Frm.refl _ _) (Grow.refl _ _) k2 ⟨_, src_zipT hz hz2, ⟨ha, r⟩, hb, r2⟩⟩⟩⟩
end
end LK
set_option Elab.async false
set_option linter.all false
set_option autoImplicit false
set_option maxRecDepth 100000
set_option maxHeartbeats 1000000
/-! LK9: targets; list comprehensions. -/
namespace LK
open PySem PySem.Spec PyProof.Rows L2
variable [Tt]
/-! ### targets -/
def gNs : List Nat → TGs
  | [] => gNil
  | i :: r => gCons (gName i) (gNs r)
/-- a, b, .. = a tuple or a list of that length -/
def gTL (K : PySem.W.Frag) (n : Nat) (t : TGs) : TG := fun v σ H Q => gTup K n t v σ H Q ∨ gLst K n t v σ H Q
theorem pg_tl {X : Cx} {pos : Pos} {es : List Expr} {k : Nat} {t : TGs} {n : Nat} (hc : X.calm = true) (h : PGs X es t)
    (hn : (assignEach es X.env).length = n) (hst : (assignEach es X.env).findIdx? (·.1) = none) : PG X (.Tuple es k pos) (gTL X.K n t) :=
  ⟨fun pins s σ H v u Q I r hw => hw.elim (fun hw => (pg_tup hc h hn hst).run pins s σ H v u Q I r hw) (fun hw => (pg_lst hc h hn hst).run pins s σ H v u Q I r hw)⟩
def gT (K : PySem.W.Frag) (tp : Bool) (tg : List Nat) : TG :=
  if tp then gTL K tg.length (gNs tg) else fun v σ H Q => ∃ i, tg = [i] ∧ gName i v σ H Q
theorem ERep.put {ρ : Rho} {env : Env} {σ : L2.St} {H : Hp} {i : Nat} {d : D} {v : V} (e : ERep ρ env σ H) (r : Rep ρ H d v) : ERep ρ (put1 env i d) (σ.set i (some v)) H := by
  refine ⟨by unfold put1; rw [List.length_set, List.length_set]; exact e.len, fun j x h => ?_⟩
  unfold put1 at h
  by_cases hj : i = j
  · subst hj
    by_cases hl : i < env.length
    · rw [List.getElem?_set_self hl] at h
      cases h
      exact ⟨v, List.getElem?_set_self (by rw [← e.len]; exact hl), r⟩
    · rw [List.getElem?_eq_none (by rw [List.length_set]; omega)] at h; cases h
  · rw [List.getElem?_set_ne hj] at h
    obtain ⟨w, a, b⟩ := e.at_ j x h
    exact ⟨w, by rw [List.getElem?_set_ne hj]; exact a, b⟩
theorem ERep.wipe {ρ : Rho} {env : Env} {σ : L2.St} {H : Hp} (e : ERep ρ env σ H) : ∀ vs : List Nat, ERep ρ (wipeE env vs) (L2.wipe σ vs) H
  | [] => e
  | v :: vs => by
    have h := ERep.wipe e vs
    refine ⟨by unfold wipeE L2.wipe; rw [List.length_set, List.length_set]; exact h.len, fun j x hx => ?_⟩
    unfold wipeE at hx
    unfold L2.wipe
    by_cases hj : v = j
    · subst hj
      by_cases hl : v < (wipeE env vs).length
      · rw [List.getElem?_set_self hl] at hx; cases hx
      · rw [List.getElem?_eq_none (by rw [List.length_set]; omega)] at hx; cases hx
    · rw [List.getElem?_set_ne hj] at hx
      obtain ⟨w, a, b⟩ := h.at_ j x hx
      exact ⟨w, by rw [List.getElem?_set_ne hj]; exact a, b⟩
theorem wipe_set {σ : L2.St} {i : Nat} {x : Option V} : ∀ {vs : List Nat}, i ∈ vs → L2.wipe (σ.set i x) vs = L2.wipe σ vs
  | [], h => by cases h
  | v :: vs, h => by
    unfold L2.wipe
    by_cases hi : i ∈ vs
    · rw [wipe_set hi]
    · have e : i = v := by rcases List.mem_cons.mp h with q | q; exact q; exact absurd q hi
      subst e
      have : ∀ ws : List Nat, (L2.wipe (σ.set i x) ws).set i none = (L2.wipe σ ws).set i none := by
        intro ws
        induction ws with
        | nil => unfold L2.wipe; rw [List.set_set]
        | cons w ws ih =>
          unfold L2.wipe
          by_cases hw : w = i
          · subst hw
            rw [List.set_set, List.set_set]
            exact ih
          · rw [List.set_comm _ _ hw, List.set_comm _ _ hw, ih]
      exact this vs
theorem wipe_wipe {σ : L2.St} : ∀ {ws vs : List Nat}, (∀ i ∈ ws, i ∈ vs) → L2.wipe (L2.wipe σ ws) vs = L2.wipe σ vs
  | [], vs, _ => rfl
  | w :: ws, vs, h => by
    show L2.wipe ((L2.wipe σ ws).set w none) vs = _
    rw [wipe_set (h w (List.mem_cons_self ..)), wipe_wipe fun i hi => h i (List.mem_cons_of_mem _ hi)]
/-- what a target's taking gives -/
theorem ns_read {ρ : Rho} {H : Hp} {Q : L2.St → Hp → Prop} {own : List Nat} : ∀ {tg : List Nat} {l : List D} {vs : List V} {env env' : Env} {σ : L2.St}, (∀ i ∈ tg, i ∈ own) → ERep ρ env σ H → Reps ρ H l vs → puts env tg l = some env' →
    (∀ σ', L2.wipe σ' own = L2.wipe σ own → ERep ρ env' σ' H → Q σ' H) → gNs tg vs σ H Q
  | [], [], vs, env, env', σ, _, e, r, h, q => by
    simp only [puts] at h
    cases h
    simp only [Reps] at r
    exact ⟨r, q σ rfl e⟩
  | [], _ :: _, _, _, _, _, _, _, _, h, _ => by simp [puts] at h
  | _ :: _, [], _, _, _, _, _, _, _, h, _ => by simp [puts] at h
  | i :: tg, d :: l, vs, env, env', σ, ho, e, r, h, q => by
    simp only [puts] at h
    simp only [Reps] at r
    obtain ⟨v, w, rfl, r1, r2⟩ := r
    refine ⟨v, w, rfl, ?_⟩
    refine ns_read (fun j hj => ho j (List.mem_cons_of_mem _ hj)) (e.put r1) r2 h fun σ' hw e' => q σ' ?_ e'
    rw [hw, wipe_set (ho i (List.mem_cons_self ..))]
theorem puts_len : ∀ {tg : List Nat} {l : List D} {env env' : Env}, puts env tg l = some env' → l.length = tg.length
  | [], [], _, _, _ => rfl
  | [], _ :: _, _, _, h => by simp [puts] at h
  | _ :: _, [], _, _, h => by simp [puts] at h
  | i :: tg, d :: l, env, env', h => by
    simp only [puts] at h
    simp [puts_len h]
theorem bind_read {K : PySem.W.Frag} {ρ : Rho} {H : Hp} {tp : Bool} {tg own : List Nat} {d : D} {v : V} {env env' : Env} {σ : L2.St} {Q : L2.St → Hp → Prop} (ho : ∀ i ∈ tg, i ∈ own) (e : ERep ρ env σ H) (r : Rep ρ H d v) (h : bindT tp tg env d = some env')
    (q : ∀ σ', L2.wipe σ' own = L2.wipe σ own → ERep ρ env' σ' H → Q σ' H) : gT K tp tg v σ H Q := by
  cases tp with
  | true =>
    simp only [bindT, if_true] at h
    cases d <;> first | (cases h; done) | skip
    · rename_i l
      simp only [Rep] at r
      obtain ⟨a, vs, rfl, ha, hn, hz, r⟩ := r
      have hl : l.length = tg.length := puts_len h
      exact .inr ⟨a, vs, rfl, ha.sq, by rw [r.length]; exact hl, ns_read ho e r h q⟩
    · rename_i l
      simp only [Rep] at r
      obtain ⟨a, vs, rfl, ha, hz, r⟩ := r
      have hl : l.length = tg.length := puts_len h
      exact .inl ⟨a, vs, rfl, SqT.of ha, by rw [r.length]; exact hl, ns_read ho e r h q⟩
  | false =>
    simp only [bindT, Bool.false_eq_true, if_false] at h
    split at h
    · rename_i i
      cases h
      exact ⟨i, rfl, q _ (wipe_set (ho i (List.mem_cons_self ..))) (e.put r)⟩
    · cases h
/-! ### less hidden -/
mutual
theorem Rep.less {ρ : Rho} {H : Hp} {hs : List Addr} (hh : ∀ a ∈ hs, a ∈ ρ.h) : ∀ (d : D) (v : V), Rep ρ H d v → Rep ⟨ρ.c, hs⟩ H d v
  | .non, v, h => by simpa [Rep] using h
  | .bl _, v, h => by simpa [Rep] using h
  | .int _, v, h => by simpa [Rep] using h
  | .str _, v, h => by simpa [Rep] using h
  | .lst l, v, h => by
    simp only [Rep] at h ⊢
    obtain ⟨a, vs, e, ha, n, z, r⟩ := h
    exact ⟨a, vs, e, ha, fun m => n (m.elim .inl fun q => .inr (hh a q)), z, Reps.less hh l vs r⟩
  | .tup l, v, h => by
    simp only [Rep] at h ⊢
    obtain ⟨a, vs, e, ha, z, r⟩ := h
    exact ⟨a, vs, e, ha, z, Reps.less hh l vs r⟩
  | .cell n, v, h => by simpa only [Rep] using h
theorem Reps.less {ρ : Rho} {H : Hp} {hs : List Addr} (hh : ∀ a ∈ hs, a ∈ ρ.h) : ∀ (l : List D) (vs : List V), Reps ρ H l vs → Reps ⟨ρ.c, hs⟩ H l vs
  | [], vs, h => by simpa [Reps] using h
  | d :: l, vs, h => by
    simp only [Reps] at h ⊢
    obtain ⟨v, r, e, h1, h2⟩ := h
    exact ⟨v, r, e, Rep.less hh d v h1, Reps.less hh l r h2⟩
end
theorem SRep.less {ρ : Rho} {S : Store} {H : Hp} {hs : List Addr} (s : SRep ρ S H) (hh : ∀ a ∈ hs, a ∈ ρ.h) : SRep ⟨ρ.c, hs⟩ S H :=
  ⟨s.len, s.nd, fun a ha => s.hid a (hh a ha), fun n l a h1 h2 => let ⟨vs, e, z, r⟩ := s.at_ n l a h1 h2; ⟨vs, e, z, Reps.less hh l vs r⟩, s.tb⟩
theorem Ok.less {ρ : Rho} {env : Env} {S : Store} {σ : L2.St} {H : Hp} {hs : List Addr} (k : Ok ρ env S σ H) (hh : ∀ a ∈ hs, a ∈ ρ.h) : Ok ⟨ρ.c, hs⟩ env S σ H :=
  ⟨⟨k.e.len, fun i d h => let ⟨v, a, b⟩ := k.e.at_ i d h; ⟨v, a, Rep.less hh d v b⟩⟩, k.s.less hh⟩
/-- a hidden list changes -/
theorem frw_hid {ρ : Rho} {H : Hp} {a : Addr} {o : HO} (h : a ∈ ρ.h) : Frw ρ H (upd H a o) := fun b x e n => .of (by
  rw [upd_ne]
  · exact e
  · rintro rfl; exact n (.inr h))
theorem SRep.hidUpd {ρ : Rho} {S : Store} {H : Hp} {a : Addr} {ws : List V} (s : SRep ρ S H) (h : a ∈ ρ.h) : SRep ρ S (upd H a (.lst ws)) := by
  refine ⟨s.len, s.nd, fun b hb => ⟨(s.hid b hb).1, ?_⟩, fun n l b h1 h2 => ?_, tabs_lst s.tb (s.hid a h).2 fun b o n e => by rw [upd_ne n]; exact e⟩
  · by_cases hab : b = a
    · subst hab; exact ⟨ws, upd_same⟩
    · obtain ⟨vs, e⟩ := (s.hid b hb).2
      exact ⟨vs, by rw [upd_ne hab]; exact e⟩
  · obtain ⟨vs, e, z, r⟩ := s.at_ n l b h1 h2
    refine ⟨vs, ?_, z, Reps.monoW (frw_hid h) (Grow.refl _ _) s.live l vs r⟩
    rw [upd_ne]
    · exact e
    · rintro rfl; exact (s.hid b h).1 (List.mem_of_getElem? h2)
theorem Ok.hidUpd {ρ : Rho} {env : Env} {S : Store} {σ : L2.St} {H : Hp} {a : Addr} {ws : List V} (k : Ok ρ env S σ H) (h : a ∈ ρ.h) : Ok ρ env S σ (upd H a (.lst ws)) :=
  ⟨⟨k.e.len, fun i d hd => let ⟨v, p, r⟩ := k.e.at_ i d hd; ⟨v, p, Rep.monoW (frw_hid h) (Grow.refl _ _) k.s.live d v r⟩⟩, k.s.hidUpd h⟩
/-- a list that fills: D, what stands in it -/
structure Inn (env : Env) (σ : L2.St) (ρ1 : Rho) (H1 : Hp) (D0 : Addr) (ρ' : Rho) (S' : Store) (H : Hp) (ys : List D) (vs : List V) : Prop where
  hid : ρ'.h = D0 :: ρ1.h
  grow : Grow ρ1 ⟨ρ'.c, ρ1.h⟩ H1
  frm : Frm ρ1 H1 H
  ok : Ok ρ' env S' σ H
  at_ : H D0 = some (.lst vs)
  reps : Reps ρ' H ys vs
theorem Inn.start {env : Env} {S1 : Store} {σ : L2.St} {ρ1 : Rho} {H1 : Hp} {D0 : Addr} (k : Ok ρ1 env S1 σ H1) (h : H1 D0 = none) : Inn env σ ρ1 H1 D0 ⟨ρ1.c, D0 :: ρ1.h⟩ S1 (upd H1 D0 (.lst [])) [] [] := by
  have hD : D0 ∉ ρ1 := fun m => by
    obtain ⟨vs, e⟩ := k.s.live D0 m
    rw [h] at e; cases e
  have k1 := k.same (same_new (o := .lst []) h)
  refine ⟨rfl, ⟨[], by simp, fun _ h => by cases h⟩, frm_of (same_new h), ⟨⟨k.e.len, fun i d hd => ?_⟩, k.s.len, k.s.nd, fun a ha => ?_, fun n l a h1 h2 => ?_, k1.s.tb⟩, upd_same, by simp [Reps]⟩
  · obtain ⟨v, p, r⟩ := k.e.at_ i d hd
    exact ⟨v, p, Rep.hide h d v r⟩
  · rcases List.mem_cons.mp ha with q | q
    · subst q
      exact ⟨fun m => hD (.inl m), [], upd_same⟩
    · exact ⟨(k.s.hid a q).1, let ⟨vs, e⟩ := (k.s.hid a q).2; ⟨vs, same_new h _ _ e⟩⟩
  · obtain ⟨vs, e, z, r⟩ := k.s.at_ n l a h1 h2
    exact ⟨vs, same_new h _ _ e, z, Reps.hide h l vs r⟩
theorem Inn.not_c {env : Env} {σ : L2.St} {ρ1 : Rho} {H1 : Hp} {D0 : Addr} {ρ' : Rho} {S' : Store} {H : Hp} {ys : List D} {vs : List V} (I : Inn env σ ρ1 H1 D0 ρ' S' H ys vs) : D0 ∈ ρ'.h ∧ D0 ∉ ρ'.c := by
  have h : D0 ∈ ρ'.h := by rw [I.hid]; exact List.mem_cons_self ..
  exact ⟨h, (I.ok.s.hid D0 h).1⟩
theorem Inn.step {env env1 : Env} {σ σ2 : L2.St} {ρ1 : Rho} {H1 : Hp} {D0 : Addr} {ρ' ρ3 : Rho} {S' S3 : Store} {H H3 : Hp} {ys : List D} {vs : List V} (I : Inn env σ ρ1 H1 D0 ρ' S' H ys vs) (lv1 : Live ρ1 H1) (f : Frm ρ' H H3) (g : Grow ρ' ρ3 H) (k : Ok ρ3 env1 S3 σ2 H3) :
    Inn env σ ρ1 H1 D0 ρ3 S3 H3 ys vs := by
  obtain ⟨more, rfl, hm⟩ := g
  have lv' : Live ⟨ρ'.c, ρ1.h⟩ H := fun a ha => I.ok.s.live a (ha.elim .inl fun q => .inr (by rw [I.hid]; exact List.mem_cons_of_mem _ q))
  have g' : Grow (⟨ρ'.c, ρ1.h⟩ : Rho) ⟨ρ'.c ++ more, ρ1.h⟩ H := ⟨more, rfl, hm⟩
  refine ⟨I.hid, I.grow.trans I.frm lv1 g' lv', I.frm.trans I.grow (ρ' := ⟨ρ'.c, ρ1.h⟩) f, ⟨I.ok.e.mono f ⟨more, rfl, hm⟩ I.ok.s.live, k.s⟩, f.get I.at_ I.not_c.2, Reps.mono f ⟨more, rfl, hm⟩ I.ok.s.live ys vs I.reps⟩
theorem Inn.push {env : Env} {σ : L2.St} {ρ1 : Rho} {H1 : Hp} {D0 : Addr} {ρ' : Rho} {S' : Store} {H : Hp} {ys : List D} {vs : List V} {y : D} {v : V} (I : Inn env σ ρ1 H1 D0 ρ' S' H ys vs) (lv1 : Live ρ1 H1) (hD : D0 ∉ ρ1 ∧ H1 D0 = none) (r : Rep ρ' H y v) :
    Inn env σ ρ1 H1 D0 ρ' S' (upd H D0 (.lst (vs ++ [v]))) (ys ++ [y]) (vs ++ [v]) := by
  have hh := I.not_c.1
  refine ⟨I.hid, I.grow, fun b o e n => ?_, I.ok.hidUpd hh, upd_same, Reps.append (Reps.monoW (frw_hid hh) (Grow.refl _ _) I.ok.s.live ys vs I.reps) ?_⟩
  · rw [upd_ne]
    · exact I.frm b o e n
    · rintro rfl; rw [hD.2] at e; cases e
  · simp only [Reps]
    exact ⟨v, [], rfl, Rep.monoW (frw_hid hh) (Grow.refl _ _) I.ok.s.live y v r, rfl⟩
theorem Inn.done {env : Env} {σ : L2.St} {ρ1 : Rho} {H1 : Hp} {D0 : Addr} {ρ' : Rho} {S' : Store} {H : Hp} {ys : List D} {vs : List V} (I : Inn env σ ρ1 H1 D0 ρ' S' H ys vs) (hD : D0 ∉ ρ1) (hz : ys.length ≤ line) :
    Ok ⟨ρ'.c, ρ1.h⟩ env S' σ H ∧ Rep ⟨ρ'.c, ρ1.h⟩ H (.lst ys) (.ref D0) := by
  have hh : ∀ a ∈ ρ1.h, a ∈ ρ'.h := fun a ha => by rw [I.hid]; exact List.mem_cons_of_mem _ ha
  refine ⟨I.ok.less hh, ?_⟩
  simp only [Rep]
  refine ⟨D0, vs, rfl, .inl I.at_, fun m => ?_, hz, Reps.less hh ys vs I.reps⟩
  rcases m with m | m
  · exact I.not_c.2 m
  · exact hD (.inr m)

/-! ### list comprehensions -/
def W0 : WX := fun _ _ _ _ => False
theorem rp_calm {α β : Type} {X : Cx} {W : WX} {env : Env} {σ : L2.St} {ρ : Rho} {H : Hp} {Rv : Rho → Hp → α → β → Prop} {r : Res α} {Q : β → Hp → Prop} (h : RP X W env σ ρ H Rv r.calm Q) : RP X W0 env σ ρ H Rv r Q := by
  cases r with
  | ok a S => exact h
  | exc x S => exact h.elim
  | bad => exact h.elim
theorem Res.calm_ok {α : Type} {r : Res α} {a : α} {S : Store} (h : r.calm = .ok a S) : r = .ok a S := by
  cases r with
  | ok b T => exact h
  | exc x S => cases h
  | bad => cases h
theorem Res.bind_ok {α β : Type} {r : Res α} {f : α → Store → Res β} {b : β} {S : Store} (h : r.bind f = .ok b S) : ∃ a S', r = .ok a S' ∧ f a S' = .ok b S := by
  cases r with
  | ok a S' => exact ⟨a, S', rfl, h⟩
  | exc x S => cases h
  | bad => cases h
theorem Res.bind_exc {α β : Type} {r : Res α} {f : α → Store → Res β} {e : XV} {S : Store} (h : r.bind f = .exc e S) : r = .exc e S ∨ ∃ a S', r = .ok a S' ∧ f a S' = .exc e S := by
  cases r with
  | ok a S' => exact .inr ⟨a, S', rfl, h⟩
  | exc x S' => cases h; exact .inl rfl
  | bad => cases h
theorem Res.calm_no {α : Type} {r : Res α} {e : XV} {S : Store} : r.calm ≠ .exc e S := by
  intro h
  cases r <;> cases h
theorem lcRun_noexc {bnd : D → Option Env} {c : Env → Store → Res Bool} {x : Env → Store → Res D} {g : Option Nat} : ∀ {l : List D} {S S' : Store} {e : XV}, lcRun bnd (fun e S => (c e S).calm) (fun e S => (x e S).calm) g l S ≠ .exc e S'
  | [], S, S', e => by simp [lcRun]
  | d :: r, S, S', e => by
    intro h
    simp only [lcRun] at h
    split at h
    · cases h
    · rename_i env _
      rcases Res.bind_exc h with h | ⟨b, S1, _, h⟩
      · exact Res.calm_no h
      · split at h
        · rcases Res.bind_exc h with h | ⟨y, S2, _, h⟩
          · exact Res.calm_no h
          · split at h
            · rcases Res.bind_exc h with h | ⟨ys, S3, _, h⟩
              · exact lcRun_noexc h
              · cases h
            · cases h
        · split at h
          · exact lcRun_noexc h
          · cases h
theorem withS_ok {α : Type} {r : Res α} {a : α} {S : Store} (h : r = .ok a S) : withS r = .ok (a, S) S := by subst h; rfl
theorem stays_refl (g : Option Nat) (S : Store) : stays g S S = true := by cases g <;> simp [stays]
theorem lc_core {K : PySem.W.Frag} {X : Cx} {c : Env → Store → Res Bool} {x : Env → Store → Res D} {own tg : List Nat} {tp : Bool} (ho : ∀ i ∈ tg, i ∈ own) {σ : L2.St} {env : Env} {ρ1 : Rho} {S1 Sz : Store} {H1 : Hp} {Q : VK} {J : It} {l : List D} {cl : Option Nat}
    {live : Store → Rho → Hp → Prop} {zs : List D} (k1 : Ok ρ1 env S1 σ H1) (src : Src J l cl live) (lv : live S1 ρ1 H1) {D0 : Addr} (hD0 : H1 D0 = none) (hr : lcRun (bindT tp tg (wipeE env own)) (fun e S => (c e S).calm) (fun e S => (x e S).calm) cl l S1 = .ok zs Sz)
    (hQ : ∀ ρ' H vs, Inn env σ ρ1 H1 D0 ρ' Sz H zs vs → zs.length ≤ line → D0 ∉ ρ1 → Q (.ref D0) H) :
    ∃ W : Nat → Nat → Hp → Prop, (∃ m, W 0 m (upd H1 D0 (.lst []))) ∧ ∀ i m H, W i m H →
      (J.stop i H ∧ Q (.ref D0) H) ∨ (J.go i H ∧ ∃ Nx : Hp → Prop, (∀ H', Nx H' → ∃ m', m' < m ∧ W (i + 1) m' H') ∧ ∀ v H', J.yld i H v H' → gT K tp tg v (L2.wipe σ own) H' fun σ2 H2 => L2.wipe σ2 own = L2.wipe σ own ∧ tB X W0 c σ2 H2 fun b H3 =>
        if b = true then tD X W0 x σ2 H3 fun y H4 => ∃ acc, H4 D0 = some (.lst acc) ∧ acc.length < sizeLine ∧ Nx (upd H4 D0 (.lst (acc ++ [y]))) else Nx H3) := by
  have lv1 := k1.s.live
  have hD : D0 ∉ ρ1 := fun m => by
    obtain ⟨vs, e⟩ := lv1 D0 m
    rw [hD0] at e; cases e
  refine ⟨fun i m H => m = l.length - i ∧ i ≤ l.length ∧ ∃ ys vs ρ' S' r, Inn env σ ρ1 H1 D0 ρ' S' H ys vs ∧ live S' ρ' H ∧ ys.length ≤ i ∧ lcRun (bindT tp tg (wipeE env own)) (fun e S => (c e S).calm) (fun e S => (x e S).calm) cl (l.drop i) S' = .ok r Sz ∧ zs = ys ++ r,
    ⟨l.length, by simp, Nat.zero_le _, [], [], _, S1, zs, Inn.start k1 hD0, ?_, Nat.le_refl _, by simpa using hr, by simp⟩, ?_⟩
  · exact src.hide k1.s lv hD0
  · rintro i m H2 ⟨rfl, hi, ys, vs, ρ', S', r, I, lv, hys, hrun, hz⟩
    by_cases hlt : i < l.length
    · have hd : l[i]? = some l[i] := List.getElem?_eq_getElem hlt
      rw [List.drop_eq_getElem_cons hlt] at hrun
      refine .inr ⟨src.go I.ok.s lv hd, fun H => i + 1 ≤ l.length ∧ ∃ ys vs ρ' S' r, Inn env σ ρ1 H1 D0 ρ' S' H ys vs ∧ live S' ρ' H ∧ ys.length ≤ i + 1 ∧ lcRun (bindT tp tg (wipeE env own)) (fun e S => (c e S).calm) (fun e S => (x e S).calm) cl (l.drop (i + 1)) S' = .ok r Sz ∧ zs = ys ++ r,
        fun H' ⟨h1, h2⟩ => ⟨l.length - (i + 1), by omega, rfl, h1, h2⟩, fun v H3 y => ?_⟩
      obtain ⟨sm, rv⟩ := src.yld I.ok.s lv hd y
      have k3 := I.ok.same sm
      have I3 := I.step lv1 (frm_of sm) (Grow.refl _ _) k3
      simp only [lcRun] at hrun
      split at hrun
      · cases hrun
      · rename_i env1 hb
        refine bind_read ho (k3.e.wipe own) rv hb fun σ2 hw e2 => ⟨by rw [hw, wipe_wipe fun _ h => h], ?_⟩
        have k2 : Ok ρ' env1 S' σ2 H3 := ⟨e2, k3.s⟩
        obtain ⟨b, S4, hc, hrun⟩ := Res.bind_ok hrun
        refine ⟨env1, S', ρ', k2, ?_⟩
        rw [Res.calm_ok hc]
        intro b' H4 ρ4 f4 g4 k4 eb
        replace eb : b = b' := eb
        subst eb
        have I4 := I3.step lv1 f4 g4 k4
        cases b with
        | false =>
          simp only [Bool.false_eq_true, if_false] at hrun ⊢
          split at hrun
          · rename_i hst
            exact ⟨hlt, ys, vs, ρ4, S4, r, I4, src.keep I3.ok.s I4.ok.s (src.keep I.ok.s I3.ok.s lv (frm_of sm).w (Grow.refl _ _) (stays_refl _ _)) f4.w g4 hst, by omega, hrun, hz⟩
          · cases hrun
        | true =>
          simp only [if_true] at hrun ⊢
          obtain ⟨y', S5, hx, hrun⟩ := Res.bind_ok hrun
          refine ⟨env1, S4, ρ4, k4, ?_⟩
          rw [Res.calm_ok hx]
          intro v5 H5 ρ5 f5 g5 k5 r5
          have I5 := I4.step lv1 f5 g5 k5
          split at hrun
          · rename_i hst
            obtain ⟨ys', S6, hrest, e⟩ := Res.bind_ok hrun
            cases e
            have hlen : vs.length = ys.length := I5.reps.length
            have := src.len
            refine ⟨vs, I5.at_, by rw [hlen, ← line_eq]; omega, hlt, ys ++ [y'], vs ++ [v5], ρ5, S5, ys', I5.push lv1 ⟨hD, hD0⟩ r5, ?_, by simp; omega, hrest, by rw [hz]; simp⟩
            have lv5 : live S5 ρ5 H5 := by
              refine src.keep I3.ok.s I5.ok.s (src.keep I.ok.s I3.ok.s lv (frm_of sm).w (Grow.refl _ _) (stays_refl _ _)) ?_ ?_ hst
              · exact (f4.trans g4 f5).w
              · exact g4.trans f4 I3.ok.s.live g5 I4.ok.s.live
            exact src.keep I5.ok.s (I5.push lv1 ⟨hD, hD0⟩ r5).ok.s lv5 (frw_hid I5.not_c.1) (Grow.refl _ _) (stays_refl _ _)
          · cases hrun
    · have e : i = l.length := by omega
      subst e
      refine .inl ⟨src.stop I.ok.s lv, ?_⟩
      rw [List.drop_length] at hrun
      simp only [lcRun] at hrun
      cases hrun
      rw [List.append_nil] at hz
      subst hz
      exact hQ _ _ _ I (Nat.le_trans hys src.len) hD
theorem lc_read {X : Cx} {W : WX} {f : Env → Store → Res (List D × Option Nat)} {c : Env → Store → Res Bool} {x : Env → Store → Res D} {own tg : List Nat} {tp : Bool} (ho : ∀ i ∈ tg, i ∈ own) {σ : L2.St} {H : Hp} {Q : VK}
    (h : tD X W (fun env S => (f env S).bind fun p S => (lcRun (bindT tp tg (wipeE env own)) (fun e S => (c e S).calm) (fun e S => (x e S).calm) p.2 p.1 S).bind fun ys S => .ok (.lst ys) S) σ H Q) :
    tLc (tI X W f) (gT X.K tp tg) (tB X W0 c) (tD X W0 x) own σ H Q := by
  obtain ⟨env, S, ρ, k, h⟩ := h
  refine ⟨env, S, ρ, k, ?_⟩
  dsimp only at h
  cases hf : f env S with
  | bad => rw [hf] at h; exact h.elim
  | exc e S1 => rw [hf] at h; exact h
  | ok p S1 =>
    rw [hf] at h
    obtain ⟨l, cl⟩ := p
    replace h : RP X W env σ ρ H Rep ((lcRun (bindT tp tg (wipeE env own)) (fun e S => (c e S).calm) (fun e S => (x e S).calm) cl l S1).bind fun ys S => .ok (.lst ys) S) Q := h
    intro J H1 ρ1 f1 g1 k1 src D0 hD0
    obtain ⟨live, src, lv⟩ := src
    replace src : Src J l cl live := src
    replace lv : live S1 ρ1 H1 := lv
    cases hr : lcRun (bindT tp tg (wipeE env own)) (fun e S => (c e S).calm) (fun e S => (x e S).calm) cl l S1 with
    | bad => rw [hr] at h; exact h.elim
    | exc e S2 => exact absurd hr lcRun_noexc
    | ok zs Sz =>
      rw [hr] at h
      have hQ : ∀ v H' ρ', Frm ρ1 H1 H' → Grow ρ1 ρ' H1 → Ok ρ' env Sz σ H' → Rep ρ' H' (.lst zs) v → Q v H' := RP.weak (r := Res.ok (D.lst zs) Sz) h f1 g1 k.s.live k1.s.live
      refine lc_core ho k1 src lv hD0 hr fun ρ' H vs I hz hD => ?_
      obtain ⟨ka, ra⟩ := I.done hD hz
      exact hQ _ _ _ I.frm I.grow ka ra
end LK
set_option Elab.async false
set_option linter.all false
set_option autoImplicit false
set_option maxRecDepth 100000
set_option maxHeartbeats 1000000
/-! LK9b: list comprehensions with two fors. -/
namespace LK
open PySem PySem.Spec PyProof.Rows L2
variable [Tt]
theorem Frw.trans {ρ ρ' : Rho} {H H1 H2 : Hp} (a : Frw ρ H H1) (g : Grow ρ ρ' H) (b : Frw ρ' H1 H2) : Frw ρ H H2 := fun c o e n => by
  obtain ⟨more, rfl, hm⟩ := g
  refine fun t => b c o (a c o e n t) (fun hc => ?_) t
  rcases hc with hc | hc
  · rcases List.mem_append.mp hc with h | h
    · exact n (.inl h)
    · obtain ⟨ps, z⟩ := hm c h o e
      exact t ps z
  · exact n (.inr hc)
theorem Grow.transW {ρ ρ1 ρ2 : Rho} {H H1 : Hp} (g : Grow ρ ρ1 H) (f : Frw ρ H H1) (g2 : Grow ρ1 ρ2 H1) (lv1 : Live ρ1 H1) : Grow ρ ρ2 H := by
  obtain ⟨m1, rfl, h1⟩ := g
  obtain ⟨m2, rfl, h2⟩ := g2
  refine ⟨m1 ++ m2, by rw [List.append_assoc], fun a ha => ?_⟩
  rcases List.mem_append.mp ha with h | h
  · exact h1 a h
  · intro o e
    by_cases t : ∃ ps, o = .tbl ps
    · exact t
    · by_cases hn : a ∈ ρ
      · have : a ∈ (⟨ρ.c ++ m1, ρ.h⟩ : Rho) := by
          rcases hn with q | q
          · exact .inl (List.mem_append_left _ q)
          · exact .inr q
        obtain ⟨vs, q⟩ := lv1 a this
        obtain ⟨ps, z⟩ := h2 a h _ q
        cases z
      · exact h2 a h o (f a o e hn fun ps z => t ⟨ps, z⟩)
theorem of_okLen {l r : List D} {S S' : Store} (h : Res.of S (okLen l) = .ok r S') : r = l ∧ S' = S ∧ l.length ≤ line := by
  unfold okLen at h
  split at h
  · rename_i hl
    cases h
    exact ⟨rfl, rfl, hl⟩
  · cases h
theorem lcRun2_len {bnd : D → Option Env} {c : Env → Store → Res Bool} {x : Env → Store → Res (List D)} {g : Option Nat} : ∀ {l : List D} {S S' : Store} {zs : List D}, lcRun2 bnd c x g l S = .ok zs S' → zs.length ≤ line
  | [], S, S', zs, h => by
    simp only [lcRun2] at h
    cases h
    exact Nat.zero_le _
  | d :: r, S, S', zs, h => by
    simp only [lcRun2] at h
    split at h
    · cases h
    · obtain ⟨b, S1, _, h⟩ := Res.bind_ok h
      split at h
      · obtain ⟨y, S2, _, h⟩ := Res.bind_ok h
        split at h
        · obtain ⟨ys, S3, _, h⟩ := Res.bind_ok h
          obtain ⟨rfl, _, q⟩ := of_okLen h
          exact q
        · cases h
      · split at h
        · exact lcRun2_len h
        · cases h
theorem of_noexc {α : Type} {S S' : Store} {o : Option α} {e : XV} : Res.of S o ≠ .exc e S' := by
  cases o <;> exact fun h => by cases h
theorem lcRun2_noexc {bnd : D → Option Env} {c : Env → Store → Res Bool} {x : Env → Store → Res (List D)} {g : Option Nat} (hx : ∀ e S v S', x e S ≠ .exc v S') : ∀ {l : List D} {S S' : Store} {e : XV}, lcRun2 bnd (fun e S => (c e S).calm) x g l S ≠ .exc e S'
  | [], S, S', e => by simp [lcRun2]
  | d :: r, S, S', e => by
    intro h
    simp only [lcRun2] at h
    split at h
    · cases h
    · rcases Res.bind_exc h with h | ⟨b, S1, _, h⟩
      · exact Res.calm_no h
      · split at h
        · rcases Res.bind_exc h with h | ⟨y, S2, _, h⟩
          · exact hx _ _ _ _ h
          · split at h
            · rcases Res.bind_exc h with h | ⟨ys, S3, _, h⟩
              · exact lcRun2_noexc hx h
              · exact of_noexc h
            · cases h
        · split at h
          · exact lcRun2_noexc hx h
          · cases h
/-- the inner run -/
def lcIn (f1 : Env → Store → Res (List D × Option Nat)) (c1 : Env → Store → Res Bool) (x : Env → Store → Res D) (tp1 : Bool) (tg1 : List Nat) : Env → Store → Res (List D) :=
  fun e S => (f1 e S).calm.bind fun q S => lcRun (bindT tp1 tg1 (wipeE e tg1)) (fun e S => (c1 e S).calm) (fun e S => (x e S).calm) q.2 q.1 S
theorem lcIn_noexc {f1 : Env → Store → Res (List D × Option Nat)} {c1 : Env → Store → Res Bool} {x : Env → Store → Res D} {tp1 : Bool} {tg1 : List Nat} : ∀ e S v S', lcIn f1 c1 x tp1 tg1 e S ≠ .exc v S' := fun e S v S' h => by
  unfold lcIn at h
  rcases Res.bind_exc h with h | ⟨b, S1, _, h⟩
  · exact Res.calm_no h
  · exact lcRun_noexc h
theorem lc2_core {K : PySem.W.Frag} {X : Cx} {c c1 : Env → Store → Res Bool} {f1 : Env → Store → Res (List D × Option Nat)} {x : Env → Store → Res D} {own tg tg1 : List Nat} {tp tp1 : Bool} (ho : ∀ i ∈ tg, i ∈ own) {σ : L2.St} {env : Env} {ρ1 : Rho} {S1 Sz : Store} {H1 : Hp} {Q : VK} {J : It} {l : List D} {cl : Option Nat}
    {live : Store → Rho → Hp → Prop} {zs : List D} (k1 : Ok ρ1 env S1 σ H1) (src : Src J l cl live) (lv : live S1 ρ1 H1) {D0 : Addr} (hD0 : H1 D0 = none) (hr : lcRun2 (bindT tp tg (wipeE env own)) (fun e S => (c e S).calm) (lcIn f1 c1 x tp1 tg1) cl l S1 = .ok zs Sz)
    (hQ : ∀ ρ' H vs, Inn env σ ρ1 H1 D0 ρ' Sz H zs vs → zs.length ≤ line → D0 ∉ ρ1 → Q (.ref D0) H) :
    ∃ W : Nat → Nat → Hp → Prop, (∃ m, W 0 m (upd H1 D0 (.lst []))) ∧ ∀ i m H, W i m H →
      (J.stop i H ∧ Q (.ref D0) H) ∨ (J.go i H ∧ ∃ Nx : Hp → Prop, (∀ H', Nx H' → ∃ m', m' < m ∧ W (i + 1) m' H') ∧ ∀ v H', J.yld i H v H' → gT K tp tg v (L2.wipe σ own) H' fun σ2 H2 => L2.wipe σ2 own = L2.wipe σ own ∧ tB X W0 c σ2 H2 fun b H3 =>
        if b = true then tI X W0 f1 σ2 H3 fun J1 H4 => ∃ W1 : Nat → Nat → Hp → Prop, (∃ m, W1 0 m H4) ∧ ∀ j k H, W1 j k H →
          (J1.stop j H ∧ Nx H) ∨ (J1.go j H ∧ ∃ Nx1 : Hp → Prop, (∀ H', Nx1 H' → ∃ k', k' < k ∧ W1 (j + 1) k' H') ∧ ∀ x' H', J1.yld j H x' H' → gT K tp1 tg1 x' (L2.wipe σ2 tg1) H' fun σ3 H5 => L2.wipe σ3 tg1 = L2.wipe σ2 tg1 ∧ tB X W0 c1 σ3 H5 fun b H6 =>
            if b = true then tD X W0 x σ3 H6 fun y H7 => ∃ acc, H7 D0 = some (.lst acc) ∧ acc.length < sizeLine ∧ Nx1 (upd H7 D0 (.lst (acc ++ [y]))) else Nx1 H6)
        else Nx H3) := by
  have lv1 := k1.s.live
  have hD : D0 ∉ ρ1 := fun m => by
    obtain ⟨vs, e⟩ := lv1 D0 m
    rw [hD0] at e; cases e
  have hzl : zs.length ≤ line := lcRun2_len hr
  refine ⟨fun i m H => m = l.length - i ∧ i ≤ l.length ∧ ∃ ys vs ρ' S' r, Inn env σ ρ1 H1 D0 ρ' S' H ys vs ∧ live S' ρ' H ∧ lcRun2 (bindT tp tg (wipeE env own)) (fun e S => (c e S).calm) (lcIn f1 c1 x tp1 tg1) cl (l.drop i) S' = .ok r Sz ∧ zs = ys ++ r,
    ⟨l.length, by simp, Nat.zero_le _, [], [], _, S1, zs, Inn.start k1 hD0, src.hide k1.s lv hD0, by simpa using hr, by simp⟩, ?_⟩
  rintro i m H2 ⟨rfl, hi, ys, vs, ρ', S', r, I, lv, hrun, hz⟩
  by_cases hlt : i < l.length
  · have hd : l[i]? = some l[i] := List.getElem?_eq_getElem hlt
    rw [List.drop_eq_getElem_cons hlt] at hrun
    refine .inr ⟨src.go I.ok.s lv hd, fun H => i + 1 ≤ l.length ∧ ∃ ys vs ρ' S' r, Inn env σ ρ1 H1 D0 ρ' S' H ys vs ∧ live S' ρ' H ∧ lcRun2 (bindT tp tg (wipeE env own)) (fun e S => (c e S).calm) (lcIn f1 c1 x tp1 tg1) cl (l.drop (i + 1)) S' = .ok r Sz ∧ zs = ys ++ r,
      fun H' ⟨h1, h2⟩ => ⟨l.length - (i + 1), by omega, rfl, h1, h2⟩, fun v H3 y => ?_⟩
    obtain ⟨sm, rv⟩ := src.yld I.ok.s lv hd y
    have k3 := I.ok.same sm
    have I3 := I.step lv1 (frm_of sm) (Grow.refl _ _) k3
    have lv3 := src.keep I.ok.s I3.ok.s lv (frm_of sm).w (Grow.refl _ _) (stays_refl _ _)
    simp only [lcRun2] at hrun
    split at hrun
    · cases hrun
    · rename_i env1 hb
      refine bind_read ho (k3.e.wipe own) rv hb fun σ2 hw e2 => ⟨by rw [hw, wipe_wipe fun _ h => h], ?_⟩
      have k2 : Ok ρ' env1 S' σ2 H3 := ⟨e2, k3.s⟩
      obtain ⟨b, S4, hc, hrun⟩ := Res.bind_ok hrun
      refine ⟨env1, S', ρ', k2, ?_⟩
      rw [Res.calm_ok hc]
      intro b' H4 ρ4 f4 g4 k4 eb
      replace eb : b = b' := eb
      subst eb
      have I4 := I3.step lv1 f4 g4 k4
      cases b with
      | false =>
        simp only [Bool.false_eq_true, if_false] at hrun ⊢
        split at hrun
        · rename_i hst
          exact ⟨hlt, ys, vs, ρ4, S4, r, I4, src.keep I3.ok.s I4.ok.s lv3 f4.w g4 hst, hrun, hz⟩
        · cases hrun
      | true =>
        simp only [if_true] at hrun ⊢
        obtain ⟨y1, S5, hx, hrun⟩ := Res.bind_ok hrun
        unfold lcIn at hx
        obtain ⟨q, S4b, hf, hin⟩ := Res.bind_ok hx
        split at hrun
        · rename_i hst
          obtain ⟨ys', S6, hrest, e⟩ := Res.bind_ok hrun
          obtain ⟨rfl, rfl, _⟩ := of_okLen e
          refine ⟨env1, S4, ρ4, k4, ?_⟩
          rw [withS_ok (Res.calm_ok hf)]
          intro J1 H5 ρ5 f5 g5 k5 src1
          obtain ⟨live1, src1, lvv1⟩ := src1
          replace src1 : Src J1 q.1 q.2 live1 := src1
          replace lvv1 : live1 S4b ρ5 H5 := lvv1
          have I5 := I4.step lv1 f5 g5 k5
          have f35 : Frw ρ' H3 H5 := (f4.trans g4 f5).w
          have g35 : Grow ρ' ρ5 H3 := g4.trans f4 I3.ok.s.live g5 I4.ok.s.live
          refine ⟨fun j k H => k = q.1.length - j ∧ j ≤ q.1.length ∧ ∃ ys2 vs2 ρ6 S6 r1, Inn env σ ρ1 H1 D0 ρ6 S6 H (ys ++ ys2) vs2 ∧ Ok ρ6 env1 S6 σ2 H ∧ live1 S6 ρ6 H ∧ Frw ρ' H3 H ∧ Grow ρ' ρ6 H3 ∧ lcRun (bindT tp1 tg1 (wipeE env1 tg1)) (fun e S => (c1 e S).calm) (fun e S => (x e S).calm) q.2 (q.1.drop j) S6 = .ok r1 S5 ∧ y1 = ys2 ++ r1,
            ⟨q.1.length, by simp, Nat.zero_le _, [], vs, ρ5, S4b, y1, by simpa using I5, k5, lvv1, f35, g35, by simpa using hin, by simp⟩, ?_⟩
          rintro j k H6 ⟨rfl, hj, ys2, vs2, ρ6, S7, r1, I6, k6, lv6, f36, g36, hrun1, hy1⟩
          by_cases hlt1 : j < q.1.length
          · have hd1 : q.1[j]? = some q.1[j] := List.getElem?_eq_getElem hlt1
            rw [List.drop_eq_getElem_cons hlt1] at hrun1
            refine .inr ⟨src1.go k6.s lv6 hd1, fun H => j + 1 ≤ q.1.length ∧ ∃ ys2 vs2 ρ6 S6 r1, Inn env σ ρ1 H1 D0 ρ6 S6 H (ys ++ ys2) vs2 ∧ Ok ρ6 env1 S6 σ2 H ∧ live1 S6 ρ6 H ∧ Frw ρ' H3 H ∧ Grow ρ' ρ6 H3 ∧ lcRun (bindT tp1 tg1 (wipeE env1 tg1)) (fun e S => (c1 e S).calm) (fun e S => (x e S).calm) q.2 (q.1.drop (j + 1)) S6 = .ok r1 S5 ∧ y1 = ys2 ++ r1,
              fun H' ⟨h1, h2⟩ => ⟨q.1.length - (j + 1), by omega, rfl, h1, h2⟩, fun v H7 y => ?_⟩
            obtain ⟨sm1, rv1⟩ := src1.yld k6.s lv6 hd1 y
            have k7 := k6.same sm1
            have I7 := I6.step lv1 (frm_of sm1) (Grow.refl _ _) k7
            have lv7 := src1.keep k6.s k7.s lv6 (frm_of sm1).w (Grow.refl _ _) (stays_refl _ _)
            have f37 : Frw ρ' H3 H7 := f36.trans g36 (frm_of sm1).w
            simp only [lcRun] at hrun1
            split at hrun1
            · cases hrun1
            · rename_i env2 hb1
              refine bind_read (fun _ h => h) (k7.e.wipe tg1) rv1 hb1 fun σ3 hw1 e3 => ⟨by rw [hw1, wipe_wipe fun _ h => h], ?_⟩
              have k8 : Ok ρ6 env2 S7 σ3 H7 := ⟨e3, k7.s⟩
              obtain ⟨b1, S8, hc1, hrun1⟩ := Res.bind_ok hrun1
              refine ⟨env2, S7, ρ6, k8, ?_⟩
              rw [Res.calm_ok hc1]
              intro b1' H8 ρ8 f8 g8 k9 eb1
              replace eb1 : b1 = b1' := eb1
              subst eb1
              have I8 := I7.step lv1 f8 g8 k9
              have k9b : Ok ρ8 env1 S8 σ2 H8 := ⟨k7.e.mono f8 g8 k7.s.live, k9.s⟩
              have f38 : Frw ρ' H3 H8 := f37.trans g36 f8.w
              have g38 : Grow ρ' ρ8 H3 := g36.transW f37 g8 k7.s.live
              cases b1 with
              | false =>
                simp only [Bool.false_eq_true, if_false] at hrun1 ⊢
                split at hrun1
                · rename_i hst1
                  exact ⟨hlt1, ys2, vs2, ρ8, S8, r1, I8, k9b, src1.keep k7.s k9.s lv7 f8.w g8 hst1, f38, g38, hrun1, hy1⟩
                · cases hrun1
              | true =>
                simp only [if_true] at hrun1 ⊢
                obtain ⟨y', S9, hx1, hrun1⟩ := Res.bind_ok hrun1
                refine ⟨env2, S8, ρ8, k9, ?_⟩
                rw [Res.calm_ok hx1]
                intro v9 H9 ρ9 f9 g9 k10 r9
                have I9 := I8.step lv1 f9 g9 k10
                split at hrun1
                · rename_i hst1
                  obtain ⟨ys3, S10, hrest1, e⟩ := Res.bind_ok hrun1
                  cases e
                  have hlen : vs2.length = (ys ++ ys2).length := I9.reps.length
                  have k10b : Ok ρ9 env1 S9 σ2 H9 := ⟨k9b.e.mono f9 g9 k9.s.live, k10.s⟩
                  have f39 : Frw ρ' H3 H9 := f38.trans g38 f9.w
                  have g39 : Grow ρ' ρ9 H3 := g38.transW f38 g9 k9.s.live
                  have lv9 : live1 S9 ρ9 H9 := src1.keep k7.s k10.s lv7 (f8.trans g8 f9).w (g8.trans f8 k7.s.live g9 k9.s.live) hst1
                  have hh := I9.not_c.1
                  have hIp := I9.push lv1 ⟨hD, hD0⟩ r9
                  refine ⟨vs2, I9.at_, ?_, hlt1, ys2 ++ [y'], vs2 ++ [v9], ρ9, S9, ys3, by rw [← List.append_assoc]; exact hIp, k10b.hidUpd hh, src1.keep k10.s hIp.ok.s lv9 (frw_hid hh) (Grow.refl _ _) (stays_refl _ _), f39.trans g39 (frw_hid hh), g39, hrest1, by rw [hy1]; simp⟩
                  rw [hlen, ← line_eq]
                  rw [hz, hy1] at hzl
                  simp at hzl ⊢
                  omega
                · cases hrun1
          · have ej : j = q.1.length := by omega
            subst ej
            refine .inl ⟨src1.stop k6.s lv6, ?_⟩
            rw [List.drop_length] at hrun1
            simp only [lcRun] at hrun1
            cases hrun1
            rw [List.append_nil] at hy1
            subst hy1
            exact ⟨hlt, ys ++ y1, vs2, ρ6, _, ys', I6, src.keep I3.ok.s I6.ok.s lv3 f36 g36 hst, hrest, by rw [hz]; simp⟩
        · cases hrun
  · have e : i = l.length := by omega
    subst e
    refine .inl ⟨src.stop I.ok.s lv, ?_⟩
    rw [List.drop_length] at hrun
    simp only [lcRun2] at hrun
    cases hrun
    rw [List.append_nil] at hz
    subst hz
    exact hQ _ _ _ I hzl hD
theorem lc2_read {X : Cx} {W : WX} {f f1 : Env → Store → Res (List D × Option Nat)} {c c1 : Env → Store → Res Bool} {x : Env → Store → Res D} {own tg tg1 : List Nat} {tp tp1 : Bool} (ho : ∀ i ∈ tg, i ∈ own) {σ : L2.St} {H : Hp} {Q : VK}
    (h : tD X W (fun env S => (f env S).bind fun p S => (lcRun2 (bindT tp tg (wipeE env own)) (fun e S => (c e S).calm) (lcIn f1 c1 x tp1 tg1) p.2 p.1 S).bind fun ys S => .ok (.lst ys) S) σ H Q) :
    tLc2 (tI X W f) (gT X.K tp tg) (tB X W0 c) (tI X W0 f1) (gT X.K tp1 tg1) (tB X W0 c1) (tD X W0 x) own tg1 σ H Q := by
  obtain ⟨env, S, ρ, k, h⟩ := h
  refine ⟨env, S, ρ, k, ?_⟩
  dsimp only at h
  cases hf : f env S with
  | bad => rw [hf] at h; exact h.elim
  | exc e S1 => rw [hf] at h; exact h
  | ok p S1 =>
    rw [hf] at h
    obtain ⟨l, cl⟩ := p
    replace h : RP X W env σ ρ H Rep ((lcRun2 (bindT tp tg (wipeE env own)) (fun e S => (c e S).calm) (lcIn f1 c1 x tp1 tg1) cl l S1).bind fun ys S => .ok (.lst ys) S) Q := h
    intro J H1 ρ1 f1' g1 k1 src D0 hD0
    obtain ⟨live, src, lv⟩ := src
    replace src : Src J l cl live := src
    replace lv : live S1 ρ1 H1 := lv
    cases hr : lcRun2 (bindT tp tg (wipeE env own)) (fun e S => (c e S).calm) (lcIn f1 c1 x tp1 tg1) cl l S1 with
    | bad => rw [hr] at h; exact h.elim
    | exc e S2 => exact absurd hr (lcRun2_noexc lcIn_noexc)
    | ok zs Sz =>
      rw [hr] at h
      have hQ : ∀ v H' ρ', Frm ρ1 H1 H' → Grow ρ1 ρ' H1 → Ok ρ' env Sz σ H' → Rep ρ' H' (.lst zs) v → Q v H' := RP.weak (r := Res.ok (D.lst zs) Sz) h f1' g1 k.s.live k1.s.live
      refine lc2_core ho k1 src lv hD0 hr fun ρ' H vs I hz hD => ?_
      obtain ⟨ka, ra⟩ := I.done hD hz
      exact hQ _ _ _ I.frm I.grow ka ra
end LK
set_option Elab.async false
set_option linter.all false
set_option autoImplicit false
set_option maxRecDepth 100000
set_option maxHeartbeats 1000000
/-! LK10: what a def promises; a call. -/
namespace LK
open PySem PySem.Spec PyProof.Rows L2
variable [Tt]
/-! ### lists -/
theorem pick_len {α : Type} : ∀ {l : List α} {ns : List Nat} {r : List α}, pick l ns = some r → r.length = ns.length
  | l, [], r, h => by simp [pick] at h; subst h; rfl
  | l, n :: ns, r, h => by
    simp only [pick, Option.bind_eq_some_iff, Option.map_eq_some_iff] at h
    obtain ⟨x, hx, r', hr, rfl⟩ := h
    simp [pick_len hr]
theorem pick_get {α : Type} : ∀ {l : List α} {ns : List Nat} {r : List α} {i : Nat} {x : α}, pick l ns = some r → r[i]? = some x → ∃ n, ns[i]? = some n ∧ l[n]? = some x
  | l, [], r, i, x, h, e => by simp [pick] at h; subst h; simp at e
  | l, n :: ns, r, i, x, h, e => by
    simp only [pick, Option.bind_eq_some_iff, Option.map_eq_some_iff] at h
    obtain ⟨y, hy, r', hr, rfl⟩ := h
    cases i with
    | zero => simp at e; subst e; exact ⟨n, rfl, hy⟩
    | succ i =>
      obtain ⟨m, hm, hl⟩ := pick_get hr (by simpa using e)
      exact ⟨m, by simpa using hm, hl⟩
theorem pick_get' {α : Type} {l : List α} {ns : List Nat} {r : List α} {i n : Nat} (h : pick l ns = some r) (e : ns[i]? = some n) : ∃ x, r[i]? = some x ∧ l[n]? = some x := by
  have hl := pick_len h
  obtain ⟨hlt, _⟩ := List.getElem?_eq_some_iff.mp e
  have hr : r[i]? = some r[i] := List.getElem?_eq_getElem (by omega)
  obtain ⟨m, hm, hx⟩ := pick_get h hr
  rw [e] at hm
  cases hm
  exact ⟨_, hr, hx⟩
theorem pick_same {α β : Type} : ∀ {l : List α} {k : List β} {ns : List Nat} {r : List α}, l.length = k.length → pick l ns = some r → ∃ r', pick k ns = some r'
  | l, k, [], r, _, h => ⟨[], rfl⟩
  | l, k, n :: ns, r, hl, h => by
    simp only [pick, Option.bind_eq_some_iff, Option.map_eq_some_iff] at h
    obtain ⟨x, hx, r', hr, rfl⟩ := h
    obtain ⟨q, hq⟩ := pick_same hl hr
    obtain ⟨hlt, _⟩ := List.getElem?_eq_some_iff.mp hx
    have e : k[n]? = some k[n] := List.getElem?_eq_getElem (by omega)
    refine ⟨k[n] :: q, ?_⟩
    simp only [pick, e, hq]
    rfl
theorem pick_mem {α : Type} {l : List α} {ns : List Nat} {r : List α} (h : pick l ns = some r) {x : α} (hx : x ∈ r) : x ∈ l := by
  obtain ⟨i, hi, e⟩ := List.mem_iff_getElem.mp hx
  obtain ⟨n, _, q⟩ := pick_get h (List.getElem?_eq_some_iff.mpr ⟨hi, e⟩)
  exact List.mem_of_getElem? q
theorem pick_nodup {α : Type} {l : List α} {ns : List Nat} {r : List α} (h : pick l ns = some r) (hl : l.Nodup) (hn : ns.Nodup) : r.Nodup := by
  refine List.pairwise_iff_getElem.mpr fun i j hi hj hij e => ?_
  have e1 : r[i]? = some r[i] := List.getElem?_eq_getElem hi
  have e2 : r[j]? = some r[j] := List.getElem?_eq_getElem hj
  rw [← e] at e2
  obtain ⟨n, hn1, q1⟩ := pick_get h e1
  obtain ⟨m, hm1, q2⟩ := pick_get h e2
  have := nodup_get hl q1 q2
  subst this
  have := nodup_get hn hn1 hm1
  omega
theorem reps_pick {ρ : Rho} {H : Hp} {l : List D} {vs : List V} (h : Reps ρ H l vs) : ∀ {ns : List Nat} {r : List D} {ws : List V}, pick l ns = some r → pick vs ns = some ws → Reps ρ H r ws
  | [], r, ws, h1, h2 => by simp [pick] at h1 h2; subst h1 h2; simp [Reps]
  | n :: ns, r, ws, h1, h2 => by
    simp only [pick, Option.bind_eq_some_iff, Option.map_eq_some_iff] at h1 h2
    obtain ⟨x, hx, r', hr, rfl⟩ := h1
    obtain ⟨v, hv, w', hw, rfl⟩ := h2
    obtain ⟨u, hu, ru⟩ := h.get hx
    rw [hv] at hu
    cases hu
    simp only [Reps]
    exact ⟨v, w', rfl, ru, reps_pick h hr hw⟩
theorem putBack_len : ∀ (ns : List Nat) (ls : List (List D)) (S : Store), (putBack S ns ls).length = S.length
  | [], ls, S => by simp [putBack]
  | n :: ns, [], S => by simp [putBack]
  | n :: ns, l :: ls, S => by simp [putBack, putBack_len ns ls]
theorem putBack_get : ∀ {ns : List Nat} {ls : List (List D)} {S : Store} {m : Nat} {l : List D}, ns.length = ls.length → ns.Nodup → (putBack S ns ls)[m]? = some l → (∃ i : Nat, ns[i]? = some m ∧ ls[i]? = some l) ∨ (m ∉ ns ∧ S[m]? = some l)
  | [], ls, S, m, l, _, _, h => by simp [putBack] at h; exact .inr ⟨by simp, h⟩
  | n :: ns, [], S, m, l, hl, _, h => by simp at hl
  | n :: ns, k :: ls, S, m, l, hl, hn, h => by
    simp only [putBack] at h
    have hn' := List.nodup_cons.mp hn
    rcases putBack_get (by simpa using hl) hn'.2 h with ⟨i, h1, h2⟩ | ⟨h1, h2⟩
    · exact .inl ⟨i + 1, by simpa using h1, by simpa using h2⟩
    · by_cases hm : n = m
      · subst hm
        by_cases hlt : n < S.length
        · rw [List.getElem?_set_self hlt] at h2
          exact .inl ⟨0, rfl, by simpa using h2⟩
        · rw [List.getElem?_eq_none (by simpa using hlt)] at h2; cases h2
      · rw [List.getElem?_set_ne hm] at h2
        exact .inr ⟨by simp only [List.mem_cons, not_or]; exact ⟨fun e => hm e.symm, h1⟩, h2⟩
theorem pures_all {l : List (List D)} (h : l.all D.pures = true) {i : Nat} {x : List D} (e : l[i]? = some x) : D.pures x = true := by
  rw [List.all_eq_true] at h
  exact h x (List.mem_of_getElem? e)
/-! ### what a def's run leaves -/
def After (n : Nat) (r : Res D) : Prop := match r with
  | .ok d S => S.all D.pures = true ∧ ((d.pure = true ∧ S.length ≤ n) ∨ (d = .cell n ∧ S.length = n + 1))
  | .exc x S => S.all D.pures = true ∧ S.length ≤ n ∧ D.pures x.args = true
  | .bad => True
mutual
theorem melt_pure {n : Nat} {S : Store} : ∀ {d x : D}, d.melt n S = some x → x.pure = true
  | .non, x, h => by simp [D.melt] at h; subst h; rfl
  | .bl _, x, h => by simp [D.melt] at h; subst h; rfl
  | .int _, x, h => by simp [D.melt] at h; subst h; rfl
  | .str _, x, h => by simp [D.melt] at h; subst h; rfl
  | .lst l, x, h => by
    simp [D.melt] at h
    obtain ⟨k, hk, rfl⟩ := h
    simpa [D.pure] using melts_pure hk
  | .tup l, x, h => by
    simp [D.melt] at h
    obtain ⟨k, hk, rfl⟩ := h
    simpa [D.pure] using melts_pure hk
  | .cell k, x, h => by
    simp only [D.melt] at h
    split at h
    · split at h
      · split at h
        · cases h; simpa [D.pure]
        · cases h
      · cases h
    · cases h
theorem melts_pure {n : Nat} {S : Store} : ∀ {l k : List D}, D.melts n S l = some k → D.pures k = true
  | [], k, h => by simp [D.melts] at h; subst h; rfl
  | d :: l, k, h => by
    simp only [D.melts, Option.bind_eq_some_iff, Option.map_eq_some_iff] at h
    obtain ⟨x, hx, xs, hxs, rfl⟩ := h
    simp [D.pures, melt_pure hx, melts_pure hxs]
end
theorem fin_after (ret : Bool) (n : Nat) (r : SR) : After n (fin ret n r) := by
  cases r with
  | nx env S =>
    unfold fin
    cases ret with
    | true => trivial
    | false =>
      simp only [Bool.false_eq_true, if_false]
      split
      · rename_i h
        exact ⟨h, .inl ⟨rfl, by rw [List.length_take]; omega⟩⟩
      · trivial
  | rt d S =>
    unfold fin
    dsimp only
    split
    · rename_i h
      cases ret with
      | true =>
        simp only [if_true]
        cases d <;> first | trivial | skip
        rename_i k
        dsimp only
        split
        · rename_i hnk
          split
          · rename_i l hl
            split
            · rename_i hp
              obtain ⟨hlt, _⟩ := List.getElem?_eq_some_iff.mp hl
              refine ⟨?_, .inr ⟨rfl, ?_⟩⟩
              · rw [List.all_append, h]; simp [hp]
              · rw [List.length_append, List.length_take]; simp; omega
            · trivial
          · trivial
        · trivial
      | false =>
        simp only [Bool.false_eq_true, if_false]
        split
        · rename_i x hx
          exact ⟨h, .inl ⟨melt_pure hx, by rw [List.length_take]; omega⟩⟩
        · trivial
    · trivial
  | exc x env S =>
    unfold fin
    simp only
    split
    · rename_i h
      split
      · rename_i a ha
        exact ⟨h, by rw [List.length_take]; omega, melts_pure ha⟩
      · trivial
    · trivial
  | bad => trivial
theorem callF_after (T : Nat → Option Fn) (k : Nat) (f : Nat) (ds : List D) (S : Store) : After S.length (callF T k f ds S) := by
  cases k with
  | zero => trivial
  | succ k =>
    unfold callF
    cases T f with
    | none => trivial
    | some fn =>
      dsimp only
      split
      · exact fin_after _ _ _
      · trivial
/-! ### the promise -/
def CP (K : PySem.W.Frag) (mg : Str → Option Value) (ρ : Rho) (H : Hp) (r : Res D) (Q : VK) (E : XK) : Prop := match r with
  | .ok d S' => ∀ v H' ρ', Frm ρ H H' → Grow ρ ρ' H → SRep ρ' S' H' → Rep ρ' H' d v → Q v H'
  | .exc x S' => ∀ c dx H' ρ', Frm ρ H H' → Grow ρ ρ' H → SRep ρ' S' H' → XRep K mg ρ' H' x c dx → E c dx H'
  | .bad => False
def spOf (T : Nat → Option Fn) (k : Nat) (K : PySem.W.Frag) (mg : Str → Option Value) (f : Nat) : Sp := fun vs H Q E => ∃ fn, T f = some fn ∧ vs.length = fn.np ∧ ∃ ds S ρ, Reps ρ H ds vs ∧ SRep ρ S H ∧ CP K mg ρ H (callF T k f ds S) Q E
/-- arguments handed over -/
theorem hand_reps {ρ ρc : Rho} {S : Store} {H : Hp} (hs : ∀ a, a ∈ ρc → a ∈ ρ) : ∀ {muts : List Bool} {ds args : List D} {vs : List V} {ns : List Nat} {as pre : List Addr}, handed muts ds = some ns → pick ρ.c ns = some as → ρc.c = pre ++ as →
    handOver S muts pre.length ds = some args → plainArgs muts ds = true → Reps ρ H ds vs → Reps ρc H args vs
  | [], [], args, vs, ns, as, pre, h1, h2, h3, h4, h5, r => by simp [handOver] at h4; subst h4; simpa [Reps] using r
  | true :: ms, d :: ds, args, vs, ns, as, pre, h1, h2, h3, h4, h5, r => by
    cases d <;> simp only [handed] at h1 <;> first | (cases h1; done) | skip
    rename_i n
    simp only [Option.map_eq_some_iff] at h1
    obtain ⟨ns', hn, rfl⟩ := h1
    simp only [handOver, Option.map_eq_some_iff] at h4
    obtain ⟨args', ha, rfl⟩ := h4
    simp only [pick, Option.bind_eq_some_iff, Option.map_eq_some_iff] at h2
    obtain ⟨a, hca, as', has, rfl⟩ := h2
    simp only [plainArgs] at h5
    simp only [Reps] at r ⊢
    obtain ⟨v, w, rfl, r1, r2⟩ := r
    refine ⟨v, w, rfl, ?_, hand_reps hs (pre := pre ++ [a]) hn has (by rw [h3]; simp) (by simpa using ha) h5 r2⟩
    simp only [Rep] at r1 ⊢
    obtain ⟨b, hb, ev⟩ := r1
    rw [hca] at hb
    cases hb
    exact ⟨a, by rw [h3]; simp, ev⟩
  | false :: ms, d :: ds, args, vs, ns, as, pre, h1, h2, h3, h4, h5, r => by
    simp only [handed] at h1
    simp only [handOver, Option.bind_eq_some_iff, Option.map_eq_some_iff] at h4
    obtain ⟨x, hx, args', ha, rfl⟩ := h4
    simp only [plainArgs, Bool.and_eq_true] at h5
    rw [thaw_self S d h5.1] at hx
    cases hx
    simp only [Reps] at r ⊢
    obtain ⟨v, w, rfl, r1, r2⟩ := r
    exact ⟨v, w, rfl, Rep.sets hs d v h5.1 r1, hand_reps hs h1 h2 h3 ha h5.2 r2⟩
  | [], _ :: _, args, vs, ns, as, pre, h1, _, _, _, _, _ => by simp [handed] at h1
  | true :: _, [], args, vs, ns, as, pre, h1, _, _, _, _, _ => by simp [handed] at h1
  | false :: _, [], args, vs, ns, as, pre, h1, _, _, _, _, _ => by simp [handed] at h1
theorem hand_thaw {ρ : Rho} {S : Store} {H : Hp} (s : SRep ρ S H) : ∀ {muts : List Bool} {ds args : List D} {vs : List V} {k : Nat}, handed muts ds = some [] → handOver S muts k ds = some args → Reps ρ H ds vs → Reps ⟨[], ρ.h⟩ H args vs
  | [], [], args, vs, k, h1, h4, r => by simp [handOver] at h4; subst h4; simpa [Reps] using r
  | true :: ms, d :: ds, args, vs, k, h1, h4, r => by
    cases d <;> simp only [handed] at h1 <;> first | (cases h1; done) | skip
    simp at h1
  | false :: ms, d :: ds, args, vs, k, h1, h4, r => by
    simp only [handed] at h1
    simp only [handOver, Option.bind_eq_some_iff, Option.map_eq_some_iff] at h4
    obtain ⟨x, hx, args', ha, rfl⟩ := h4
    simp only [Reps] at r ⊢
    obtain ⟨v, w, rfl, r1, r2⟩ := r
    exact ⟨v, w, rfl, Rep.thawH s d x v hx r1, hand_thaw s h1 ha r2⟩
  | [], _ :: _, _, _, _, h1, _, _ => by simp [handed] at h1
  | true :: _, [], _, _, _, h1, _, _ => by simp [handed] at h1
  | false :: _, [], _, _, _, h1, _, _ => by simp [handed] at h1
theorem callF_np {T : Nat → Option Fn} {k : Nat} {f : Nat} {ds : List D} {S : Store} (h : callF T k f ds S ≠ .bad) : ∃ fn, T f = some fn ∧ ds.length = fn.np := by
  cases k with
  | zero => exact absurd rfl h
  | succ k =>
    unfold callF at h
    cases hT : T f with
    | none => rw [hT] at h; exact absurd rfl h
    | some fn =>
      rw [hT] at h
      dsimp only at h
      split at h
      · exact ⟨fn, rfl, by assumption⟩
      · exact absurd rfl h
theorem back_at {ρ ρ2 : Rho} {S : Store} {H H' : Hp} {ns : List Nat} {as : List Addr} {ls : List (List D)} (s : SRep ρ S H) (fr : Frm ρ H H') (g : Grow ρ ρ2 H) (frc : ∀ b o, H b = some o → b ∉ as → Stay o (H' b)) (hp : pick ρ.c ns = some as) (nd : ns.Nodup) (hl : ls.length = ns.length)
    (hq : ∀ (i : Nat) l a, ls[i]? = some l → as[i]? = some a → ∃ vs, H' a = some (.lst vs) ∧ l.length ≤ line ∧ Reps ρ2 H' l vs) {m : Nat} {l : List D} {a : Addr} (h1 : (putBack S ns ls)[m]? = some l) (h2 : ρ.c[m]? = some a) :
    ∃ vs, H' a = some (.lst vs) ∧ l.length ≤ line ∧ Reps ρ2 H' l vs := by
  rcases putBack_get hl.symm nd h1 with ⟨i, e1, e2⟩ | ⟨e1, e2⟩
  · obtain ⟨x, hx, hc⟩ := pick_get' hp e1
    rw [h2] at hc
    cases hc
    exact hq i l a e2 hx
  · obtain ⟨vs, e, z, r⟩ := s.at_ m l a e2 h2
    refine ⟨vs, (frc a _ e fun hm => ?_).get nofun, z, Reps.mono fr g s.live l vs r⟩
    obtain ⟨i, hi, ei⟩ := List.mem_iff_getElem.mp hm
    obtain ⟨n, hn, hc⟩ := pick_get hp (List.getElem?_eq_some_iff.mpr ⟨hi, ei⟩)
    have := nodup_get s.nd hc h2
    subst this
    exact e1 (List.mem_of_getElem? hn)
theorem xrep_sets {K : PySem.W.Frag} {mg : Str → Option Value} {ρ ρ' : Rho} {H : Hp} {x : XV} {c : Value} {dx : Option Addr} (hh : ∀ a, a ∈ ρ' → a ∈ ρ) (p : D.pures x.args = true) (r : XRep K mg ρ H x c dx) : XRep K mg ρ' H x c dx :=
  ⟨r.cls, r.args.imp id fun ⟨d, v, a, e, e2, e3, rr⟩ => ⟨d, v, a, e, e2, e3, Rep.sets hh d v (by rw [e] at p; simpa [D.pures] using p) rr⟩⟩
theorem xrep_flat {K : PySem.W.Frag} {mg : Str → Option Value} {ρ ρ' : Rho} {H : Hp} {x : XV} {c : Value} {dx : Option Addr} (p : D.flats x.args = true) (r : XRep K mg ρ H x c dx) : XRep K mg ρ' H x c dx :=
  ⟨r.cls, r.args.imp id fun ⟨d, v, a, e, e2, e3, rr⟩ => ⟨d, v, a, e, e2, e3, Rep.flat d v (by rw [e] at p; simpa [D.flats] using p) rr⟩⟩
theorem call_read {X : Cx} {W : WX} {T : Nat → Option Fn} {k : Nat} {f : Nat} {muts : List Bool} {ds : List D} {vs : List V} {env : Env} {S : Store} {ρ : Rho} {σ : L2.St} {H : Hp} {Q : VK} (ok : Ok ρ env S σ H) (rd : Reps ρ H ds vs)
    (h : RP X W env σ ρ H Rep (callD (callF T k) f muts ds S) Q) : spOf T k X.K X.mg f vs H Q (WE W σ) := by
  unfold callD at h
  split at h
  · exact h.elim
  rename_i ns hns
  split at h
  case h_2 => exact h.elim
  rename_i Sc args hSc hargs
  split at h
  case isFalse => exact h.elim
  rename_i hc
  obtain ⟨hnd, hpure⟩ := hc
  have hlen := pick_len hSc
  split at h
  · rename_i hplain
    obtain ⟨as, has⟩ := pick_same (k := ρ.c) ok.s.len.symm hSc
    obtain ⟨ρc, hρc⟩ : ∃ ρc : Rho, ρc = ⟨as, ρ.h ++ ρ.c.filter (fun a => !decide (a ∈ as))⟩ := ⟨_, rfl⟩
    have hsub : ∀ a ∈ as, a ∈ ρ.c := fun a ha => pick_mem has ha
    have m1 : ∀ a, a ∈ ρc → a ∈ ρ := by
      intro a ha
      rw [hρc] at ha
      rcases ha with ha | ha
      · exact .inl (hsub a ha)
      · rcases List.mem_append.mp ha with q | q
        · exact .inr q
        · exact .inl (List.mem_filter.mp q).1
    have m2 : ∀ a, a ∈ ρ → a ∈ ρc := by
      intro a ha
      rw [hρc]
      rcases ha with ha | ha
      · by_cases q : a ∈ as
        · exact .inl q
        · exact .inr (List.mem_append_right _ (List.mem_filter.mpr ⟨ha, by simp [q]⟩))
      · exact .inr (List.mem_append_left _ ha)
    have asl : as.length = ns.length := pick_len has
    have hc : ρc.c = as := by rw [hρc]
    have sc : SRep ρc Sc H := by
      refine ⟨by rw [hc, asl, hlen], by rw [hc]; exact pick_nodup has ok.s.nd hnd, fun a ha => ?_, fun i l a h1 h2 => ?_, ok.s.tb⟩
      · rw [hc]
        rw [hρc] at ha
        rcases List.mem_append.mp ha with q | q
        · exact ⟨fun z => (ok.s.hid a q).1 (hsub a z), (ok.s.hid a q).2⟩
        · obtain ⟨q1, q2⟩ := List.mem_filter.mp q
          exact ⟨by simpa using q2, ok.s.live a (.inl q1)⟩
      · rw [hc] at h2
        obtain ⟨n, hn, hS⟩ := pick_get hSc h1
        obtain ⟨b, hb, hcb⟩ := pick_get' has hn
        rw [h2] at hb
        cases hb
        obtain ⟨vs, e, z, r⟩ := ok.s.at_ n l a hS hcb
        exact ⟨vs, e, z, Reps.sets m1 l vs (pures_all hpure h1) r⟩
    have ra : Reps ρc H args vs := hand_reps m1 (pre := []) hns has (by rw [hc]; rfl) hargs hplain rd
    have hbad : callF T k f args Sc ≠ .bad := fun e => by rw [e] at h; exact h.elim
    obtain ⟨fn, hT, hnp⟩ := callF_np hbad
    refine ⟨fn, hT, by rw [ra.length]; exact hnp, args, Sc, ρc, ra, sc, ?_⟩
    have af := callF_after T k f args Sc
    cases hr : callF T k f args Sc with
    | bad => exact absurd hr hbad
    | exc x S' =>
      rw [hr] at h af
      dsimp only at h
      split at h
      · rename_i hl
        intro c dx H' ρ' f' g' s' xr
        obtain ⟨more, rfl, hm⟩ := g'
        have : more = [] := by
          have e1 := s'.len
          simp only [List.length_append, hc] at e1
          cases more with
          | nil => rfl
          | cons a r => simp at e1; omega
        subst this
        have fr : Frm ρ H H' := fun b o e n => f' b o e fun z => n (by rw [hc] at z; exact hsub b z)
        have m2' : ∀ a, a ∈ ρ → a ∈ (⟨ρc.c ++ [], ρc.h⟩ : Rho) := fun a ha => (m2 a ha).imp (fun z => by simpa using z) id
        refine h c dx H' ρ fr (Grow.refl _ _) ⟨ok.e.mono fr (Grow.refl _ _) ok.s.live, ?_⟩ (xrep_sets m2' af.2.2 xr)
        refine ⟨by rw [putBack_len]; exact ok.s.len, ok.s.nd, fun a ha => ⟨(ok.s.hid a ha).1, let ⟨vs, e⟩ := (ok.s.hid a ha).2; ⟨vs, fr.get e (ok.s.hid a ha).1⟩⟩, fun m l a h1 h2 => ?_, s'.tb⟩
        refine back_at ok.s fr (Grow.refl _ _) (fun b o e n => f' b o e (by rw [hc]; exact n)) has hnd hl (fun i l a e1 e2 => ?_) h1 h2
        obtain ⟨vs, e, z, r⟩ := s'.at_ i l a e1 (by simp [hc, e2])
        exact ⟨vs, e, z, Reps.sets m2' l vs (pures_all af.1 e1) r⟩
      · exact h.elim
    | ok d S' =>
      rw [hr] at h af
      dsimp only at h
      intro v H' ρ' f' g' s' rv
      obtain ⟨more, rfl, hm⟩ := g'
      have fr : Frm ρ H H' := fun b o e n => f' b o e fun z => n (by rw [hc] at z; exact hsub b z)
      have e1 := s'.len
      simp only [List.length_append, hc] at e1
      split at h
      · rename_i hl
        have : more = [] := by
          cases more with
          | nil => rfl
          | cons a r => simp at e1; omega
        subst this
        have hd : d.pure = true := by
          rcases af.2 with q | q
          · exact q.1
          · omega
        have m2' : ∀ a, a ∈ ρ → a ∈ (⟨ρc.c ++ [], ρc.h⟩ : Rho) := fun a ha => (m2 a ha).imp (fun z => by simpa using z) id
        refine h v H' ρ fr (Grow.refl _ _) ⟨ok.e.mono fr (Grow.refl _ _) ok.s.live, ?_⟩ (Rep.sets m2' d v hd rv)
        refine ⟨by rw [putBack_len]; exact ok.s.len, ok.s.nd, fun a ha => ⟨(ok.s.hid a ha).1, let ⟨vs, e⟩ := (ok.s.hid a ha).2; ⟨vs, fr.get e (ok.s.hid a ha).1⟩⟩, fun m l a h1 h2 => ?_, s'.tb⟩
        refine back_at ok.s fr (Grow.refl _ _) (fun b o e n => f' b o e (by rw [hc]; exact n)) has hnd hl (fun i l a e1 e2 => ?_) h1 h2
        obtain ⟨vs, e, z, r⟩ := s'.at_ i l a e1 (by simp [hc, e2])
        exact ⟨vs, e, z, Reps.sets m2' l vs (pures_all af.1 e1) r⟩
      · rename_i hl
        split at h
        case h_2 => exact h.elim
        rename_i l0 hl0
        obtain ⟨hlt, _⟩ := List.getElem?_eq_some_iff.mp hl0
        obtain ⟨rfl, hl1⟩ : d = .cell Sc.length ∧ S'.length = Sc.length + 1 := by
          rcases af.2 with q | q
          · omega
          · exact q
        obtain ⟨a0, rfl⟩ : ∃ a, more = [a] := by
          cases more with
          | nil => simp at e1; omega
          | cons a r =>
            cases r with
            | nil => exact ⟨a, rfl⟩
            | cons b r => simp at e1; omega
        have hH : NoO (H a0) := hm a0 (by simp)
        have hn0 : a0 ∉ ρ := fun z => by
          obtain ⟨vs, e⟩ := ok.s.live a0 z
          obtain ⟨ps, z⟩ := hH _ e
          cases z
        have g2 : Grow ρ ⟨ρ.c ++ [a0], ρ.h⟩ H := ⟨[a0], rfl, hm⟩
        have m2' : ∀ a, a ∈ (⟨ρ.c ++ [a0], ρ.h⟩ : Rho) → a ∈ (⟨ρc.c ++ [a0], ρc.h⟩ : Rho) := by
          intro a ha
          rcases ha with ha | ha
          · rcases List.mem_append.mp ha with q | q
            · exact (m2 a (.inl q)).imp (fun z => List.mem_append_left _ z) id
            · exact .inl (List.mem_append_right _ q)
          · exact (m2 a (.inr ha)).imp (fun z => List.mem_append_left _ z) id
        have hk : (S'.take ns.length).length = ns.length := by rw [List.length_take]; omega
        have ea : (⟨ρc.c ++ [a0], ρc.h⟩ : Rho).c[ns.length]? = some a0 := by
          show (ρc.c ++ [a0])[ns.length]? = some a0
          rw [List.getElem?_append_right (by rw [hc]; omega), hc, asl]
          simp
        have hv : v = .ref a0 := by
          simp only [Rep] at rv
          obtain ⟨b, hb, rfl⟩ := rv
          rw [hlen] at hb
          have : (ρc.c ++ [a0])[ns.length]? = some b := hb
          rw [show (ρc.c ++ [a0])[ns.length]? = some a0 from ea] at this
          cases this
          rfl
        subst hv
        refine h (.ref a0) H' ⟨ρ.c ++ [a0], ρ.h⟩ fr g2 ⟨ok.e.mono fr g2 ok.s.live, ?_⟩ ?_
        · refine ⟨by rw [List.length_append, List.length_append, putBack_len, ok.s.len]; rfl, ?_, fun a ha => ?_, fun m l a h1 h2 => ?_, s'.tb⟩
          · show (ρ.c ++ [a0]).Nodup
            refine List.nodup_append.mpr ⟨ok.s.nd, List.nodup_cons.mpr ⟨by simp, List.nodup_nil⟩, fun x hx y hy e => ?_⟩
            simp at hy
            subst hy
            subst e
            exact hn0 (.inl hx)
          · refine ⟨fun z => ?_, let ⟨vs, e⟩ := (ok.s.hid a ha).2; ⟨vs, fr.get e (ok.s.hid a ha).1⟩⟩
            rcases List.mem_append.mp z with q | q
            · exact (ok.s.hid a ha).1 q
            · simp at q
              subst q
              exact hn0 (.inr ha)
          · have h2 : (ρ.c ++ [a0])[m]? = some a := h2
            by_cases hmS : m < S.length
            · rw [List.getElem?_append_left (by rw [putBack_len]; exact hmS)] at h1
              rw [List.getElem?_append_left (by rw [ok.s.len]; exact hmS)] at h2
              refine back_at ok.s fr g2 (fun b o e n => f' b o e (by rw [hc]; exact n)) has hnd hk (fun i l a e1 e2 => ?_) h1 h2
              have hi : i < ns.length := by
                obtain ⟨q, _⟩ := List.getElem?_eq_some_iff.mp e2
                omega
              rw [List.getElem?_take_of_lt hi] at e1
              obtain ⟨vs, e, z, r⟩ := s'.at_ i l a e1 (by
                show (ρc.c ++ [a0])[i]? = some a
                rw [List.getElem?_append_left (by rw [hc]; omega), hc]
                exact e2)
              exact ⟨vs, e, z, Reps.sets m2' l vs (pures_all af.1 e1) r⟩
            · rw [List.getElem?_append_right (by rw [putBack_len]; omega), putBack_len] at h1
              rw [List.getElem?_append_right (by rw [ok.s.len]; omega), ok.s.len] at h2
              have hm0 : m - S.length = 0 := by
                obtain ⟨q, _⟩ := List.getElem?_eq_some_iff.mp h2
                simp at q
                exact q
              rw [hm0] at h1 h2
              simp at h1 h2
              subst h1 h2
              obtain ⟨vs, e, z, r⟩ := s'.at_ ns.length l0 a0 hl0 ea
              exact ⟨vs, e, z, Reps.sets m2' l0 vs (pures_all af.1 hl0) r⟩
        · simp only [Rep]
          refine ⟨a0, ?_, rfl⟩
          show (ρ.c ++ [a0])[S.length]? = some a0
          rw [← ok.s.len]
          simp
  · split at h
    case isFalse => exact h.elim
    rename_i hn0
    subst hn0
    have ra : Reps ⟨[], ρ.h⟩ H args vs := hand_thaw ok.s hns hargs rd
    have e0 : Sc = [] := by cases Sc <;> simp_all
    subst e0
    have sc : SRep ⟨[], ρ.h⟩ [] H := ⟨rfl, List.nodup_nil, fun a ha => ⟨by simp, (ok.s.hid a ha).2⟩, fun i l a h1 h2 => by simp at h1, ok.s.tb⟩
    have hbad : callF T k f args [] ≠ .bad := fun e => by rw [e] at h; exact h.elim
    obtain ⟨fn, hT, hnp⟩ := callF_np hbad
    refine ⟨fn, hT, by rw [ra.length]; exact hnp, args, [], ⟨[], ρ.h⟩, ra, sc, ?_⟩
    cases hr : callF T k f args [] with
    | bad => exact absurd hr hbad
    | exc x S' =>
      rw [hr] at h
      dsimp only at h
      split at h
      · rename_i hl
        intro c dx H' ρ' f' g' s' xr
        have fr : Frm ρ H H' := fun b o e _ => f' b o e (by simp)
        have fl : ∀ b o, H b = some o → (∀ ps, o ≠ .tbl ps) → H' b = some o := fun b o e t => (f' b o e (by simp)).get t
        exact h c dx H' ρ fr (Grow.refl _ _) (ok.grown fr fl s'.tb) (xrep_flat hl.2 xr)
      · exact h.elim
    | ok d S' =>
      rw [hr] at h
      dsimp only at h
      split at h
      · rename_i hl
        intro v H' ρ' f' g' s' rv
        have fr : Frm ρ H H' := fun b o e _ => f' b o e (by simp)
        have fl : ∀ b o, H b = some o → (∀ ps, o ≠ .tbl ps) → H' b = some o := fun b o e t => (f' b o e (by simp)).get t
        exact h v H' ρ fr (Grow.refl _ _) (ok.grown fr fl s'.tb) (Rep.flat d v hl.2 rv)
      · exact h.elim
end LK
set_option Elab.async false
set_option linter.all false
set_option autoImplicit false
set_option maxRecDepth 100000
set_option maxHeartbeats 1000000
/-! LK11: the call of a def. -/
namespace LK
open PySem PySem.Spec PyProof.Rows L2
variable [Tt]
theorem stars_any {es : List Expr} (h : es.all noStar = true) (pos : Pos) (env : PySem.Env) : (backTo pos (starEach es env)).any (·.1) = false := by
  induction es with
  | nil => rfl
  | cons e es ih =>
    simp only [List.all_cons, Bool.and_eq_true] at h
    rw [star_plain h.1]
    show (false || (backTo pos (starEach es env)).any (·.1)) = false
    rw [ih h.2]
    rfl
def kwNames (kws : List Keyword) : List Str := kws.filterMap (·.arg)
theorem kw_all {kws : List Keyword} (h : kws.all (fun k => k.arg.isSome) = true) (pos : Pos) (env : PySem.Env) :
    (backToKw pos (keywordEach kws env)).all (·.1.isSome) = true ∧ (backToKw pos (keywordEach kws env)).any (·.1.isNone) = false ∧ (backToKw pos (keywordEach kws env)).filterMap (·.1) = kwNames kws := by
  induction kws with
  | nil => exact ⟨rfl, rfl, rfl⟩
  | cons k kws ih =>
    obtain ⟨nm, e, p⟩ := k
    simp only [List.all_cons, Bool.and_eq_true] at h
    obtain ⟨h1, h2, h3⟩ := ih h.2
    cases nm with
    | none => simp at h
    | some x =>
      refine ⟨?_, ?_, ?_⟩
      · show (true && (backToKw pos (keywordEach kws env)).all (·.1.isSome)) = true
        rw [h1]; rfl
      · show (false || (backToKw pos (keywordEach kws env)).any (·.1.isNone)) = false
        rw [h2]; rfl
      · show x :: (backToKw pos (keywordEach kws env)).filterMap (·.1) = x :: kwNames kws
        rw [h3]
theorem pk_weak {X : Cx} {kws : List Keyword} {t t' : TA} (h : PK X kws t) (q : ∀ σ H Q, t' σ H Q → t σ H Q) : PK X kws t' := ⟨fun pos pins s σ H Q I hw => h.run pos pins s σ H Q I (q _ _ _ hw)⟩
section
variable {X : Cx} {W : WX}
theorem dk_nil {C : Call} : PK X [] (tLs X W (den C .nil).l) := pk_weak pk_nil fun σ H Q ⟨env, S, ρ, k, h⟩ => h [] H ρ (Frm.refl _ _) (Grow.refl _ _) k (by simp [Reps])
theorem dk_cons {nm : Option Str} {kp : Pos} {e : Expr} {kws : List Keyword} {de dr : E} {C : Call} (he : DE X W e (den C de)) (hr : PK X kws (tLs X W (den C dr).l)) : PK X (⟨nm, e, kp⟩ :: kws) (tLs X W (den C (.cons de dr)).l) :=
  pk_weak (pk_cons he.v hr) fun σ H Q ⟨env, S, ρ, k, h⟩ => by
    refine ⟨env, S, ρ, k, RP.bind h k.s.live fun x S1 vx H1 ρ1 f1 g1 k1 r1 h1 => ?_⟩
    refine ⟨env, S1, ρ1, k1, RP.bind h1 k1.s.live fun y S2 vy H2 ρ2 f2 g2 k2 r2 h2 => ?_⟩
    refine h2 _ H2 ρ2 (Frm.refl _ _) (Grow.refl _ _) k2 ?_
    simp only [Reps]
    exact ⟨vx, vy, rfl, Rep.mono f2 g2 k1.s.live x vx r1, r2⟩
theorem vals_len {vs : List V} {us : List Value} (h : Vals vs us) : vs.length = us.length := h.length
theorem vals_pick {vs : List V} {us : List Value} (h : Vals vs us) : ∀ {ns : List Nat} {ws : List V}, pick vs ns = some ws → ∃ zs, pick us ns = some zs ∧ Vals ws zs
  | [], ws, e => by simp [pick] at e; subst e; exact ⟨[], rfl, .nil⟩
  | n :: ns, ws, e => by
    simp only [pick, Option.bind_eq_some_iff, Option.map_eq_some_iff] at e
    obtain ⟨x, hx, r, hr, rfl⟩ := e
    obtain ⟨zs, hz, rz⟩ := vals_pick h hr
    obtain ⟨u, hu, ru⟩ := h.get hx
    exact ⟨u :: zs, by simp only [pick, hu, hz]; rfl, .cons ru rz⟩
/-- how a call's written arguments are bound -/
def PatOk (K : PySem.W.Frag) (fd : FuncData) (ps : List Str) (n : Nat) (ks : List Str) (perm : List Nat) : Prop :=
  ∀ (s : Shared) (us ws zs : List Value), K.In s.heap → us.length = n → ws.length = ks.length → pick (us ++ ws) perm = some zs → zs.length = ps.length → BindsTo s fd ⟨us, ks.zip ws⟩ (ps.zip zs)
structure Callee (X : Cx) (T : Nat → Option Fn) (k : Nat) (x : Str) (f : Nat) (n : Nat) (ks : List Str) (perm : List Nat) : Prop where
  ex : ∃ (fa : Addr) (fd : FuncData) (ps : List Str), FnOk X.prog X.w X.K X.mg X.base (L2.CX X.prog X.w) k fa fd ps (spOf T k X.K X.mg f) ∧ X.mg x = some (.ref fa) ∧ PySem.W.keepIn X.K (.ref fa) = true ∧ PatOk X.K fd ps n ks perm
theorem run_pat {T : Nat → Option Fn} {k : Nat} {f : Nat} {fa : Addr} {fd : FuncData} {ps : List Str} {n : Nat} {ks : List Str} {perm : List Nat} {pins : List (Addr × Obj)} {σ : L2.St} {H : Hp} {s : Shared} {Q : VK} {us ws zs : List Value} {vs : List V}
    (F : FnOk X.prog X.w X.K X.mg X.base (L2.CX X.prog X.w) k fa fd ps (spOf T k X.K X.mg f)) (hr : Room k X.A) (hp : PatOk X.K fd ps n ks perm) (tk : Takes X W)
    (I : Inv X pins σ H s) (hus : us.length = n) (hws : ws.length = ks.length) (hz : pick (us ++ ws) perm = some zs) (r : Vals vs zs) (h : spOf T k X.K X.mg f vs H Q (WE W σ)) : wpAny (model X.prog X.w) X.A (call (.ref fa) us (ks.zip ws)) (EP X pins σ Q) X.xe s := by
  have hl : zs.length = ps.length := by rw [← r.length]; exact F.len _ _ _ _ h
  refine wpAny_call (codeAny_mono (F.run X.A X.stack s H ⟨us, ks.zip ws⟩ zs vs Q (WE W σ) hr I.env0 (hp s us ws zs I.kIn hus hws hz hl) r h) fun r s' hq => ?_)
  cases r with
  | error e => exact passAt tk σ pins H s e s' I hq
  | ok fl =>
    cases fl with
    | ret u => exact I.after hq
    | next => exact False.elim hq
    | brk => exact False.elim hq
    | cont => exact False.elim hq
/-- as many values as arguments -/
def lenE : E → Option Nat
  | .nil => some 0
  | .cons _ r => (lenE r).map (· + 1)
  | _ => none
theorem lenE_ok {C : Call} : ∀ {l : E} {n : Nat} {env : Env} {S S' : Store} {xs : List D}, lenE l = some n → (den C l).l env S = .ok xs S' → xs.length = n
  | .nil, n, env, S, S', xs, h, e => by
    simp only [lenE] at h
    cases h
    simp only [den, Den.ofL] at e
    cases e
    rfl
  | .cons a r, n, env, S, S', xs, h, e => by
    simp only [lenE, Option.map_eq_some_iff] at h
    obtain ⟨m, hm, rfl⟩ := h
    simp only [den, Den.ofL] at e
    obtain ⟨x, S1, _, e⟩ := Res.bind_ok e
    obtain ⟨ys, S2, e2, e⟩ := Res.bind_ok e
    cases e
    simp [lenE_ok hm e2]
  | .var _, n, env, S, S', xs, h, e => by simp [lenE] at h
  | .lit _, n, env, S, S', xs, h, e => by simp [lenE] at h
  | .bin _ _ _, n, env, S, S', xs, h, e => by simp [lenE] at h
  | .un _ _, n, env, S, S', xs, h, e => by simp [lenE] at h
  | .not _, n, env, S, S', xs, h, e => by simp [lenE] at h
  | .and _ _, n, env, S, S', xs, h, e => by simp [lenE] at h
  | .or _ _, n, env, S, S', xs, h, e => by simp [lenE] at h
  | .ite _ _ _, n, env, S, S', xs, h, e => by simp [lenE] at h
  | .chain _ _ _ _ _, n, env, S, S', xs, h, e => by simp [lenE] at h
  | .sl _ _ _ _ _, n, env, S, S', xs, h, e => by simp [lenE] at h
  | .tup _, n, env, S, S', xs, h, e => by simp [lenE] at h
  | .lst _, n, env, S, S', xs, h, e => by simp [lenE] at h
  | .star _ _, n, env, S, S', xs, h, e => by simp [lenE] at h
  | .rep _ _, n, env, S, S', xs, h, e => by simp [lenE] at h
  | .mk _, n, env, S, S', xs, h, e => by simp [lenE] at h
  | .call _ _ _ _ _, n, env, S, S', xs, h, e => by simp [lenE] at h
  | .rng _ _, n, env, S, S', xs, h, e => by simp [lenE] at h
  | .seqr _ _ _, n, env, S, S', xs, h, e => by simp [lenE] at h
  | .enum _, n, env, S, S', xs, h, e => by simp [lenE] at h
  | .zip _ _, n, env, S, S', xs, h, e => by simp [lenE] at h
  | .lc _ _ _ _ _ _, n, env, S, S', xs, h, e => by simp [lenE] at h
  | .lc2 _ _ _ _ _ _ _ _ _ _, n, env, S, S', xs, h, e => by simp [lenE] at h
  | .sortK _ _, n, env, S, S', xs, h, e => by simp [lenE] at h
  | .fz _, n, env, S, S', xs, h, e => by simp [lenE] at h
/-- what is wanted behind the arguments of a call -/
theorem args_read {T : Nat → Option Fn} {k : Nat} {f : Nat} {muts : List Bool} {perm : List Nat} {dl dk : E} {n m : Nat} (hn : lenE dl = some n) (hm : lenE dk = some m) {σ : L2.St} {H : Hp} {Q : VK}
    (h : tD X W (den (callF T k) (.call f muts perm dl dk)).v σ H Q) :
    tLs X W (den (callF T k) dl).l σ H fun vs H1 => tLs X W (den (callF T k) dk).l σ H1 fun zs H2 => vs.length = n ∧ zs.length = m ∧ ∃ ws, pick (vs ++ zs) perm = some ws ∧ spOf T k X.K X.mg f ws H2 Q (WE W σ) := by
  obtain ⟨env, S, ρ, ok, h⟩ := h
  refine ⟨env, S, ρ, ok, ?_⟩
  dsimp only [den, Den.ofV] at h
  cases h1 : (den (callF T k) dl).l env S with
  | bad => rw [h1] at h; exact h.elim
  | exc x S1 => rw [h1] at h; exact h
  | ok xs S1 =>
    rw [h1] at h
    intro vs H1 ρ1 f1 g1 k1 r1
    have h := RP.weak (r := ((den (callF T k) dk).l env S1).bind fun ys S => match pick (xs ++ ys) perm with
      | some ds => callD (callF T k) f muts ds S
      | none => .bad) h f1 g1 ok.s.live k1.s.live
    refine ⟨env, S1, ρ1, k1, ?_⟩
    cases h2 : (den (callF T k) dk).l env S1 with
    | bad => rw [h2] at h; exact h.elim
    | exc x S2 => rw [h2] at h; exact h
    | ok ys S2 =>
      rw [h2] at h
      intro zs H2 ρ2 f2 g2 k2 r2
      have h := RP.weak (r := (match pick (xs ++ ys) perm with
        | some ds => callD (callF T k) f muts ds S2
        | none => .bad)) h f2 g2 k1.s.live k2.s.live
      refine ⟨by rw [r1.length]; exact lenE_ok hn h1, by rw [r2.length]; exact lenE_ok hm h2, ?_⟩
      have ra : Reps ρ2 H2 (xs ++ ys) (vs ++ zs) := (Reps.mono f2 g2 k1.s.live xs vs r1).append r2
      cases hp : pick (xs ++ ys) perm with
      | none => rw [hp] at h; exact h.elim
      | some ds =>
        rw [hp] at h
        obtain ⟨ws, hw⟩ := pick_same (k := vs ++ zs) ra.length.symm hp
        exact ⟨ws, hw, call_read k2 (reps_pick ra hp hw) h⟩
theorem de_call {T : Nat → Option Fn} {k : Nat} {x : Str} {f : Nat} {muts : List Bool} {perm : List Nat} {es : List Expr} {kws : List Keyword} {dl dk : E} {n : Nat} {p pos : Pos} (hr : Room k X.A) (tk : Takes X W) (hg : Gl X x) (hdb : (x == ("__debug__" : Str)) = false)
    (c : Callee X T k x f n (kwNames kws) perm) (hns : es.all noStar = true) (hks : kws.all (fun k => k.arg.isSome) = true) (hn : lenE dl = some n) (hm : lenE dk = some (kwNames kws).length)
    (h0 : es = [] → dl = .nil) (ha : PA X es (tLs X W (den (callF T k) dl).l)) (hk : PK X kws (tLs X W (den (callF T k) dk).l)) : DE X W (.Call (.Name x p) es kws pos) (den (callF T k) (.call f muts perm dl dk)) := by
  obtain ⟨fa, fd, ps, F, hmg, hkp, hp⟩ := c.ex
  refine de_val ⟨fun pins s σ H Q I h => ?_⟩ fun _ => rfl
  obtain ⟨kw1, kw2, kw3⟩ := kw_all hks pos X.env
  have h := args_read hn hm h
  refine wpAny_Call_Name_kw (ld_glob I hg hmg ?_ hdb)
  cases es with
  | cons e es =>
    have ns := hns
    simp only [List.all_cons, Bool.and_eq_true] at ns
    refine PySem.W.callWith_KW (h₀ := X.base) I.ok.mod.kin hkp kw1 (thn (ha.run pos pins s σ H _ I h) fun us s1 ⟨vs, H1, I1, r, q⟩ => ?_) (by rw [stars_any hns, kw2]; rfl) (star_plain ns.1 _ _)
    refine thn (hk.run pos pins s1 σ H1 _ I1 q) fun ws s2 ⟨zs, H2, I2, rz, h1, h2, vv, hv, q2⟩ => ⟨I2.kIn, ?_⟩
    rw [kw3]
    obtain ⟨uu, hu, ru⟩ := vals_pick (r.append rz) hv
    exact run_pat F hr hp tk I2 (show us.length = n by rw [← vals_len r]; exact h1) (by rw [← vals_len rz]; exact h2) hu ru q2
  | nil =>
    refine PySem.W.callWith_KW0 (h₀ := X.base) I.ok.mod.kin hkp kw1 ?_ (by rw [stars_any hns, kw2]; rfl)
    have e0 := h0 rfl
    subst e0
    obtain ⟨env, S, ρ, ok, h⟩ := h
    have h := h [] H ρ (Frm.refl _ _) (Grow.refl _ _) ok (by simp [Reps])
    refine thn (hk.run pos pins s σ H _ I h) fun ws s2 ⟨zs, H2, I2, rz, h1, h2, vv, hv, q2⟩ => ⟨I2.kIn, ?_⟩
    rw [kw3]
    obtain ⟨uu, hu, ru⟩ := vals_pick (vs := [] ++ zs) (us := [] ++ ws) rz hv
    exact run_pat F hr hp tk I2 (us := []) h1 (by rw [← vals_len rz]; exact h2) hu ru q2
end
end LK
set_option Elab.async false
set_option linter.all false
set_option autoImplicit false
set_option maxRecDepth 100000
set_option maxHeartbeats 1000000
/-! LK12: new lists, that may become cells. -/
namespace LK
open PySem PySem.Spec PyProof.Rows L2
variable [Tt]
/-- what a result promises that is a new list, if it is one -/
def FP (X : Cx) (W : WX) (env : Env) (σ : L2.St) (ρ : Rho) (H : Hp) (r : Res D) (Q : VK) : Prop :=
  match r with
  | .ok (.lst l) S' => ∀ p vs H1 ρ', Frm ρ H H1 → Grow ρ ρ' H → Ok ρ' env S' σ H1 → Reps ρ' H1 l vs → l.length ≤ line → H1 p = none → Q (.ref p) (upd H1 p (.lst vs))
  | .ok d S' => ∀ v H' ρ', Frm ρ H H' → Grow ρ ρ' H → Ok ρ' env S' σ H' → Rep ρ' H' d v → Q v H'
  | .exc x S' => ∀ c dx H' ρ', Frm ρ H H' → Grow ρ ρ' H → Ok ρ' env S' σ H' → XRep X.K X.mg ρ' H' x c dx → W c dx σ H'
  | .bad => False
def tF (X : Cx) (W : WX) (f : Env → Store → Res D) : TE := fun σ H Q => ∃ env S ρ, Ok ρ env S σ H ∧ FP X W env σ ρ H (f env S) Q
section
variable {X : Cx} {W : WX}
theorem fp_of {env : Env} {σ : L2.St} {ρ : Rho} {H : Hp} {r : Res D} {Q : VK} (h : RP X W env σ ρ H Rep r Q) : FP X W env σ ρ H r Q := by
  cases r with
  | bad => exact h
  | exc x S => exact h
  | ok d S =>
    cases d <;> first | exact h | skip
    rename_i l
    intro p vs H1 ρ' f g k r hz hp
    exact h _ _ ρ' (f.trans g (frm_of (same_new hp))) g (k.same (same_new hp)) (Rep.lst_new hp k.s.live hz r)
theorem de_of {e : Expr} {f : Env → Store → Res D} (h : PE X e (tF X W f)) : PE X e (tD X W f) := h.weak fun σ H Q ⟨env, S, ρ, k, h⟩ => ⟨env, S, ρ, k, fp_of h⟩
theorem FP.weak {env : Env} {σ : L2.St} {ρ ρ1 : Rho} {H H1 : Hp} {r : Res D} {Q : VK} (h : FP X W env σ ρ H r Q) (f : Frm ρ H H1) (g : Grow ρ ρ1 H) (lv : Live ρ H) (lv1 : Live ρ1 H1) : FP X W env σ ρ1 H1 r Q := by
  cases r with
  | bad => exact h
  | exc x S => exact fun c dx H' ρ' f' g' k rv => h c dx H' ρ' (f.trans g f') (g.trans f lv g' lv1) k rv
  | ok d S =>
    cases d with
    | lst l => exact fun p vs H' ρ' f' g' k rv hz hp => h p vs H' ρ' (f.trans g f') (g.trans f lv g' lv1) k rv hz hp
    | _ => exact fun v H' ρ' f' g' k rv => h v H' ρ' (f.trans g f') (g.trans f lv g' lv1) k rv
theorem FP.bind {α β : Type} {env : Env} {σ : L2.St} {ρ : Rho} {H : Hp} {Rv : Rho → Hp → α → β → Prop} {r : Res α} {k : α → Store → Res D} {Q : β → Hp → Prop} {Q2 : VK}
    (h : FP X W env σ ρ H (r.bind k) Q2) (lv : Live ρ H)
    (q : ∀ d S' v H' ρ', Frm ρ H H' → Grow ρ ρ' H → Ok ρ' env S' σ H' → Rv ρ' H' d v → FP X W env σ ρ' H' (k d S') Q2 → Q v H') : RP X W env σ ρ H Rv r Q := by
  cases r with
  | ok d S' => exact fun v H' ρ' f g ok rv => q d S' v H' ρ' f g ok rv (FP.weak (r := k d S') h f g lv ok.s.live)
  | exc x S' => exact h
  | bad => exact h
/-! ### what makes new lists -/
theorem df_lst {es : List Expr} {dl : E} {C : Call} {pos : Pos} (h : PA X es (tLs X W (den C dl).l)) : PE X (.List es pos) (tF X W (den C (.lst dl)).v) :=
  (pe_lst h).weak fun σ H Q ⟨env, S, ρ, k, h⟩ => ⟨env, S, ρ, k, FP.bind h k.s.live fun x S1 vx H1 ρ1 f1 g1 k1 r1 h1 => by
    cases hm : okLen x with
    | none => rw [hm] at h1; exact h1.elim
    | some m =>
      rw [hm] at h1
      obtain ⟨rfl, hz⟩ := okLen_some hm
      exact ⟨by rw [r1.length, ← line_eq]; exact hz, fun p hp => h1 p vx H1 ρ1 (Frm.refl _ _) (Grow.refl _ _) k1 r1 hz hp⟩⟩
theorem df_list {a : Expr} {da : E} {C : Call} {p pos : Pos} (hc : CallR X (.type "list") (fun xs H Q => ∃ p ys, xs = [.ref p] ∧ (SqL X.K H p ys ∨ SqT X.K H p ys) ∧ ∀ l, H l = none → Q (.ref l) (upd H l (.lst ys)))) (hg : Gl X "list") (hm : X.mg "list" = none) (hv : bootBuiltins "list" = some (.type "list")) (hn : ("list" : Str) ≠ "__name__") (hd : (("list" : Str) == ("__debug__" : Str)) = false)
    (ns : noStar a = true) (ha : DE X W a (den C da)) : PE X (.Call (.Name "list" p) [a] [] pos) (tF X W (den C (.un .list da)).v) :=
  (pe_callTy hc hg hm hv (pa_cons ha.v pa_nil (star_plain ns _ _)) hn hd (star_plain ns _ _)).weak fun σ H Q ⟨env, S, ρ, k, h⟩ => ⟨env, S, ρ, k, FP.bind h k.s.live fun x S1 vx H1 ρ1 f1 g1 k1 r1 h1 => by
    cases hi : items S1 x with
    | none => simp only [unD, hi] at h1; exact h1.elim
    | some l =>
      simp only [unD, hi] at h1
      obtain ⟨a, vs, rfl, hq, hz, r⟩ := Rep.items (K := X.K) k1.s hi r1
      exact ⟨a, vs, rfl, hq, fun t ht => h1 t vs H1 ρ1 (Frm.refl _ _) (Grow.refl _ _) k1 r hz ht⟩⟩
theorem df_cat {a b : Expr} {da db : E} {C : Call} {pos : Pos} (ha : DE X W a (den C da)) (hb : DE X W b (den C db)) : PE X (.BinOp a .Add b pos) (tF X W (den C (.bin .add da db)).v) :=
  (pe_op or_add ha.v hb.v).weak fun σ H Q ⟨env, S, ρ, k, h⟩ => ⟨env, S, ρ, k, FP.bind h k.s.live fun x S1 vx H1 ρ1 f1 g1 k1 r1 h1 => ⟨env, S1, ρ1, k1, FP.bind h1 k1.s.live fun y S2 vy H2 ρ2 f2 g2 k2 r2 h2 => by
    have rx := Rep.mono f2 g2 k1.s.live x vx r1
    cases hd : binD S2 .add x y with
    | none => rw [hd] at h2; exact h2.elim
    | some d =>
      rw [hd] at h2
      have gen : (∀ l, d ≠ .lst l) → rAdd4 X.K vx vy H2 Q := fun hl => ops_add S2 ρ2 H2 x y vx vy d Q k2.s rx r2 hd fun v H' q r => by
        have h3 : FP X W env σ ρ2 H2 (.ok d S2) Q := h2
        cases d with
        | lst l => exact absurd rfl (hl l)
        | _ => exact h3 v H' ρ2 (frm_of q) (Grow.refl _ _) (k2.same q) r
      by_cases hl : ∃ l, d = .lst l
      · obtain ⟨m, rfl⟩ := hl
        have key : ∀ l k, items S2 x = some l → items S2 y = some k → (∀ z, x ≠ .tup z) → (∀ z, y ≠ .tup z) → okLen (l ++ k) = some m → rAdd4 X.K vx vy H2 Q := by
          intro l k' hl hk nx ny hm
          obtain ⟨a, vs, rfl, ha, q1⟩ := Rep.listAt k2.s hl nx rx
          obtain ⟨b, ws, rfl, hb, q2⟩ := Rep.listAt k2.s hk ny r2
          obtain ⟨rfl, hz⟩ := okLen_some hm
          refine .inr ⟨a, b, vs, ws, rfl, rfl, ha, hb, ?_, fun p hp => h2 p _ H2 ρ2 (Frm.refl _ _) (Grow.refl _ _) k2 (q1.append q2) hz hp⟩
          rw [q1.length, q2.length, ← line_eq]
          rw [List.length_append] at hz
          exact hz
        simp only [binD] at hd
        split at hd
        · cases hd
        · simp only [Option.map_eq_some_iff] at hd
          obtain ⟨_, _, e⟩ := hd
          cases e
        · simp only [Option.map_eq_some_iff] at hd
          obtain ⟨_, _, e⟩ := hd
          cases e
        · simp only [Option.map_eq_some_iff] at hd
          obtain ⟨c, hc, e⟩ := hd
          cases e
          exact key _ _ rfl rfl (by simp) (by simp) hc
        · simp only [Option.map_eq_some_iff, Option.bind_eq_some_iff] at hd
          obtain ⟨a, ha, c, hc, e⟩ := hd
          cases e
          exact key _ _ ha rfl (by simp) (by simp) hc
        · simp only [Option.map_eq_some_iff, Option.bind_eq_some_iff] at hd
          obtain ⟨a, ha, c, hc, e⟩ := hd
          cases e
          exact key _ _ rfl ha (by simp) (by simp) hc
        · simp only [Option.map_eq_some_iff, Option.bind_eq_some_iff] at hd
          obtain ⟨a, ha, b, hb, c, hc, e⟩ := hd
          cases e
          exact key _ _ ha hb (by simp) (by simp) hc
        · cases hd
      · exact gen fun l e => hl ⟨l, e⟩⟩⟩
theorem df_or {a b : Expr} {da db : E} {C : Call} {pos : Pos} (ha : PE X a (tF X W (den C da).v)) (hb : PE X b (tF X W (den C db).v)) :
    PE X (.BoolOp .Or [a, b] pos) (tF X W (den C (.or da db)).v) :=
  (pe_orT ha (pe_one hb)).weak fun σ H Q ⟨env, S, ρ, k, h⟩ => ⟨env, S, ρ, k, by
    dsimp only [den] at h
    cases h0 : (den C da).v env S with
    | bad => rw [h0] at h; exact h.elim
    | exc x S1 => rw [h0] at h; exact h
    | ok d S1 =>
      rw [h0] at h
      replace h : FP X W env σ ρ H (match truth S1 d with | none => .bad | some true => .ok d S1 | some false => (den C db).v env S1) Q := h
      cases hd : truth S1 d with
      | none => simp only [hd] at h; exact h.elim
      | some t =>
        simp only [hd] at h
        have fin : ∀ v H' ρ', Frm ρ H H' → Grow ρ ρ' H → Ok ρ' env S1 σ H' → Rep ρ' H' d v → (t = true → Q v H') → ∃ b, TruV X.K v H' b ∧ if b = true then Q v H' else tF X W (den C db).v σ H' Q := by
          intro v H' ρ' f g k' r hq
          refine ⟨t, truth_tru k'.s hd r, ?_⟩
          cases t with
          | true => exact iteT (hq rfl)
          | false => exact iteF ⟨env, S1, ρ', k', h.weak f g k.s.live k'.s.live⟩
        cases d with
        | lst l =>
          intro p vs H1 ρ' f g k1 r hz hp
          refine fin (.ref p) _ ρ' (f.trans g (frm_of (same_new hp))) g (k1.same (same_new hp)) (Rep.lst_new hp k1.s.live hz r) fun ht => ?_
          subst ht
          exact h p vs H1 ρ' f g k1 r hz hp
        | _ =>
          intro v H' ρ' f g k' r
          refine fin v H' ρ' f g k' r fun ht => ?_
          subst ht
          exact h v H' ρ' f g k' r⟩
mutual
theorem Rep.unhide {ρ : Rho} {H : Hp} {p : Addr} {ws : List V} {hs : List Addr} (hp : p ∈ ρ.h) (he : H p = some (.lst ws)) (hh : ∀ a ∈ hs, a ∈ ρ.h) : ∀ (d : D) (v : V), Rep ρ H d v → Rep ⟨ρ.c, hs⟩ (fun b => if b = p then none else H b) d v
  | .non, v, h => by simpa [Rep] using h
  | .bl _, v, h => by simpa [Rep] using h
  | .int _, v, h => by simpa [Rep] using h
  | .str _, v, h => by simpa [Rep] using h
  | .lst l, v, h => by
    simp only [Rep] at h ⊢
    obtain ⟨a, vs, e, ha, n, z, r⟩ := h
    have na : a ≠ p := by rintro rfl; exact n (.inr hp)
    refine ⟨a, vs, e, ?_, fun m => n (m.elim .inl fun q => .inr (hh a q)), z, Reps.unhide hp he hh l vs r⟩
    unfold LAt
    simp only [na, if_false]
    exact ha
  | .tup l, v, h => by
    simp only [Rep] at h ⊢
    obtain ⟨a, vs, e, ha, z, r⟩ := h
    have na : a ≠ p := by rintro rfl; rw [he] at ha; cases ha
    exact ⟨a, vs, e, by simp only [na, if_false]; exact ha, z, Reps.unhide hp he hh l vs r⟩
  | .cell n, v, h => by simpa only [Rep] using h
theorem Reps.unhide {ρ : Rho} {H : Hp} {p : Addr} {ws : List V} {hs : List Addr} (hp : p ∈ ρ.h) (he : H p = some (.lst ws)) (hh : ∀ a ∈ hs, a ∈ ρ.h) : ∀ (l : List D) (vs : List V), Reps ρ H l vs → Reps ⟨ρ.c, hs⟩ (fun b => if b = p then none else H b) l vs
  | [], vs, h => by simpa [Reps] using h
  | d :: l, vs, h => by
    simp only [Reps] at h ⊢
    obtain ⟨v, r, e, h1, h2⟩ := h
    exact ⟨v, r, e, Rep.unhide hp he hh d v h1, Reps.unhide hp he hh l r h2⟩
end
theorem Inn.fresh {env : Env} {σ : L2.St} {ρ1 : Rho} {H1 : Hp} {D0 : Addr} {ρ' : Rho} {S' : Store} {H : Hp} {ys : List D} {vs : List V} (I : Inn env σ ρ1 H1 D0 ρ' S' H ys vs) (hD : D0 ∉ ρ1) (hD0 : H1 D0 = none) :
    ∃ Hm : Hp, Hm D0 = none ∧ upd Hm D0 (.lst vs) = H ∧ Frm ρ1 H1 Hm ∧ Ok ⟨ρ'.c, ρ1.h⟩ env S' σ Hm ∧ Reps ⟨ρ'.c, ρ1.h⟩ Hm ys vs := by
  have hh : ∀ a ∈ ρ1.h, a ∈ ρ'.h := fun a ha => by rw [I.hid]; exact List.mem_cons_of_mem _ ha
  have hp := I.not_c
  refine ⟨fun b => if b = D0 then none else H b, by simp, ?_, fun b o e n => ?_, ⟨⟨I.ok.e.len, fun i d h => ?_⟩, I.ok.s.len, I.ok.s.nd, fun a ha => ?_, fun n l a h1 h2 => ?_, tabs_lst I.ok.s.tb ⟨vs, I.at_⟩ fun b o n e => by simp only [n, if_false]; exact e⟩, Reps.unhide hp.1 I.at_ hh ys vs I.reps⟩
  · funext b
    by_cases hb : b = D0
    · subst hb; rw [upd_same, I.at_]
    · rw [upd_ne hb]; simp [hb]
  · have nb : b ≠ D0 := by rintro rfl; rw [hD0] at e; cases e
    simp only [nb, if_false]
    exact I.frm b o e n
  · obtain ⟨v, a, r⟩ := I.ok.e.at_ i d h
    exact ⟨v, a, Rep.unhide hp.1 I.at_ hh d v r⟩
  · obtain ⟨q, vs, e⟩ := I.ok.s.hid a (hh a ha)
    have na : a ≠ D0 := by rintro rfl; exact hD (.inr ha)
    exact ⟨q, vs, by simp only [na, if_false]; exact e⟩
  · obtain ⟨vs, e, z, r⟩ := I.ok.s.at_ n l a h1 h2
    have na : a ≠ D0 := by rintro rfl; exact hp.2 (List.mem_of_getElem? h2)
    exact ⟨vs, by simp only [na, if_false]; exact e, z, Reps.unhide hp.1 I.at_ hh l vs r⟩
theorem lc_readF {f : Env → Store → Res (List D × Option Nat)} {c : Env → Store → Res Bool} {x : Env → Store → Res D} {own tg : List Nat} {tp : Bool} (ho : ∀ i ∈ tg, i ∈ own) {σ : L2.St} {H : Hp} {Q : VK}
    (h : tF X W (fun env S => (f env S).bind fun p S => (lcRun (bindT tp tg (wipeE env own)) (fun e S => (c e S).calm) (fun e S => (x e S).calm) p.2 p.1 S).bind fun ys S => .ok (.lst ys) S) σ H Q) :
    tLc (tI X W f) (gT X.K tp tg) (tB X W0 c) (tD X W0 x) own σ H Q := by
  obtain ⟨env, S, ρ, k, h⟩ := h
  refine ⟨env, S, ρ, k, ?_⟩
  dsimp only at h
  cases hf : f env S with
  | bad => rw [hf] at h; exact h.elim
  | exc e S1 => rw [hf] at h; exact h
  | ok p S1 =>
    rw [hf] at h
    obtain ⟨l, cl⟩ := p
    replace h : FP X W env σ ρ H ((lcRun (bindT tp tg (wipeE env own)) (fun e S => (c e S).calm) (fun e S => (x e S).calm) cl l S1).bind fun ys S => .ok (.lst ys) S) Q := h
    intro J H1 ρ1 f1 g1 k1 src D0 hD0
    obtain ⟨live, src, lv⟩ := src
    replace src : Src J l cl live := src
    replace lv : live S1 ρ1 H1 := lv
    cases hr : lcRun (bindT tp tg (wipeE env own)) (fun e S => (c e S).calm) (fun e S => (x e S).calm) cl l S1 with
    | bad => rw [hr] at h; exact h.elim
    | exc e S2 => exact absurd hr lcRun_noexc
    | ok zs Sz =>
      rw [hr] at h
      have hQ := FP.weak (r := Res.ok (D.lst zs) Sz) h f1 g1 k.s.live k1.s.live
      refine lc_core ho k1 src lv hD0 hr fun ρ' H vs I hz hD => ?_
      obtain ⟨Hm, e1, e2, e3, e4, e5⟩ := I.fresh hD hD0
      rw [← e2]
      exact hQ D0 vs Hm _ e3 I.grow e4 e5 hz e1
/-- a new list becomes a cell -/
theorem mk_read {f : Env → Store → Res D} {σ : L2.St} {H : Hp} {Q : VK} (h : tD X W (fun env S => (f env S).bind fun x S => match x with | .lst l => .ok (.cell S.length) (S ++ [l]) | _ => .bad) σ H Q) : tF X W f σ H Q := by
  obtain ⟨env, S, ρ, k, h⟩ := h
  refine ⟨env, S, ρ, k, ?_⟩
  dsimp only at h
  cases hf : f env S with
  | bad => rw [hf] at h; exact h.elim
  | exc e S1 => rw [hf] at h; exact h
  | ok d S1 =>
    rw [hf] at h
    cases d with
    | lst l =>
      replace h : RP X W env σ ρ H Rep (.ok (.cell S1.length) (S1 ++ [l])) Q := h
      intro p vs H1 ρ' f1 g1 k1 r hz hp
      have hn : p ∉ ρ' := fun m => by
        obtain ⟨ws, e⟩ := k1.s.live p m
        rw [hp] at e; cases e
      have sn := same_new (o := .lst vs) hp
      have gn : Grow ρ' ⟨ρ'.c ++ [p], ρ'.h⟩ H1 := ⟨[p], rfl, fun a ha => by simp at ha; subst ha; exact no_none hp⟩
      refine h (.ref p) _ ⟨ρ'.c ++ [p], ρ'.h⟩ (f1.trans g1 (frm_of sn)) ?_ ⟨k1.e.mono (frm_of sn) gn k1.s.live, ?_⟩ ?_
      · exact g1.trans f1 k.s.live gn k1.s.live
      · refine ⟨by rw [List.length_append, List.length_append, k1.s.len]; rfl, ?_, fun a ha => ?_, fun m l' a h1 h2 => ?_, k1.s.tb.ext sn⟩
        · show (ρ'.c ++ [p]).Nodup
          refine List.nodup_append.mpr ⟨k1.s.nd, List.nodup_cons.mpr ⟨by simp, List.nodup_nil⟩, fun x hx y hy e => ?_⟩
          simp at hy
          subst hy
          subst e
          exact hn (.inl hx)
        · refine ⟨fun z => ?_, let ⟨vs, e⟩ := (k1.s.hid a ha).2; ⟨vs, sn _ _ e⟩⟩
          rcases List.mem_append.mp z with q | q
          · exact (k1.s.hid a ha).1 q
          · simp at q
            subst q
            exact hn (.inr ha)
        · have h2 : (ρ'.c ++ [p])[m]? = some a := h2
          by_cases hm : m < S1.length
          · rw [List.getElem?_append_left hm] at h1
            rw [List.getElem?_append_left (by rw [k1.s.len]; exact hm)] at h2
            obtain ⟨ws, e, z, r'⟩ := k1.s.at_ m l' a h1 h2
            exact ⟨ws, sn _ _ e, z, Reps.mono (frm_of sn) gn k1.s.live l' ws r'⟩
          · rw [List.getElem?_append_right (by omega)] at h1
            rw [List.getElem?_append_right (by rw [k1.s.len]; omega), k1.s.len] at h2
            have hm0 : m - S1.length = 0 := by
              obtain ⟨q, _⟩ := List.getElem?_eq_some_iff.mp h2
              simp at q
              exact q
            rw [hm0] at h1 h2
            simp at h1 h2
            subst h1 h2
            exact ⟨vs, upd_same, hz, Reps.mono (frm_of sn) gn k1.s.live l vs r⟩
      · simp only [Rep]
        refine ⟨p, ?_, rfl⟩
        show (ρ'.c ++ [p])[S1.length]? = some p
        rw [← k1.s.len]
        simp
    | _ => exact h.elim
theorem de_mk {e : Expr} {de : E} {C : Call} (he : PE X e (tF X W (den C de).v)) (ht : ∀ whole, isTrue e X.env whole = (do let v ← whole; standAt e.pos; holding [v] (truthy v))) : DE X W e (den C (.mk de)) :=
  de_val (he.weak fun σ H Q h => mk_read h) ht
end
end LK
set_option Elab.async false
set_option linter.all false
set_option autoImplicit false
set_option maxRecDepth 100000
set_option maxHeartbeats 1000000
/-! LK13: statements. -/
namespace LK
open PySem PySem.Spec PyProof.Rows L2
variable [Tt]
def SRP (X : Cx) (W : WX) (ρ : Rho) (H : Hp) (r : SR) (Q : Ends) : Prop := match r with
  | .nx env' S' => ∀ σ' H' ρ', Frm ρ H H' → Grow ρ ρ' H → Ok ρ' env' S' σ' H' → Q.nx σ' H'
  | .rt d S' => ∀ v H' ρ', Frm ρ H H' → Grow ρ ρ' H → SRep ρ' S' H' → Rep ρ' H' d v → Q.rt v H'
  | .exc x env' S' => ∀ c dx σ' H' ρ', Frm ρ H H' → Grow ρ ρ' H → Ok ρ' env' S' σ' H' → XRep X.K X.mg ρ' H' x c dx → W c dx σ' H'
  | .bad => False
def tS (X : Cx) (W : WX) (d : Env → Store → SR) : TS := fun Q σ H => ∃ env S ρ, Ok ρ env S σ H ∧ SRP X W ρ H (d env S) Q
theorem _root_.L2.PS.weak {X : Cx} {st : Stmt} {t t' : TS} (h : PS X st t) (q : ∀ D σ H, t' D σ H → t D σ H) : PS X st t' := ⟨fun pins s σ H D I hw => h.run pins s σ H D I (q _ _ _ hw)⟩
theorem _root_.L2.PSs.weak {X : Cx} {st : List Stmt} {t t' : TS} (h : PSs X st t) (q : ∀ D σ H, t' D σ H → t D σ H) : PSs X st t' := ⟨fun pins s σ H D I hw => h.run pins s σ H D I (q _ _ _ hw)⟩
section
variable {X : Cx} {W : WX}
theorem SRP.weak {ρ ρ1 : Rho} {H H1 : Hp} {r : SR} {Q : Ends} (h : SRP X W ρ H r Q) (f : Frm ρ H H1) (g : Grow ρ ρ1 H) (lv : Live ρ H) (lv1 : Live ρ1 H1) : SRP X W ρ1 H1 r Q := by
  cases r with
  | nx env S => exact fun σ' H' ρ' f' g' k => h σ' H' ρ' (f.trans g f') (g.trans f lv g' lv1) k
  | rt d S => exact fun v H' ρ' f' g' k rv => h v H' ρ' (f.trans g f') (g.trans f lv g' lv1) k rv
  | exc x env S => exact fun c dx σ' H' ρ' f' g' k rv => h c dx σ' H' ρ' (f.trans g f') (g.trans f lv g' lv1) k rv
  | bad => exact h
theorem SRP.st {α β : Type} {env : Env} {σ : L2.St} {ρ : Rho} {H : Hp} {Rv : Rho → Hp → α → β → Prop} {r : Res α} {k : α → Store → SR} {Q : β → Hp → Prop} {Q2 : Ends} (h : SRP X W ρ H (r.st env k) Q2) (lv : Live ρ H)
    (q : ∀ d S' v H' ρ', Frm ρ H H' → Grow ρ ρ' H → Ok ρ' env S' σ H' → Rv ρ' H' d v → SRP X W ρ' H' (k d S') Q2 → Q v H') : RP X W env σ ρ H Rv r Q := by
  cases r with
  | ok d S' => exact fun v H' ρ' f g ok rv => q d S' v H' ρ' f g ok rv (SRP.weak (r := k d S') h f g lv ok.s.live)
  | exc x S' => exact fun c dx H' ρ' f g ok xr => h c dx σ H' ρ' f g ok xr
  | bad => exact h
theorem srp_nx {ρ : Rho} {env : Env} {S : Store} {σ : L2.St} {H : Hp} {Q : Ends} (h : SRP X W ρ H (.nx env S) Q) (k : Ok ρ env S σ H) : Q.nx σ H := h σ H ρ (Frm.refl _ _) (Grow.refl _ _) k
/-! ### rows of statements -/
theorem dss_nil {C : Call} : PSs X [] (tS X W (sden C .skip)) := pss_nil.weak fun D σ H ⟨env, S, ρ, k, h⟩ => srp_nx h k
theorem dss_cons {st : Stmt} {rest : List Stmt} {a b : S} {C : Call} (ha : PS X st (tS X W (sden C a))) (hb : PSs X rest (tS X W (sden C b))) : PSs X (st :: rest) (tS X W (sden C (.seq a b))) :=
  (pss_cons ha hb).weak fun D σ H ⟨env, S, ρ, k, h⟩ => ⟨env, S, ρ, k, by
    replace h : SRP X W ρ H ((sden C a env S).bind (sden C b)) D := h
    cases h0 : sden C a env S with
    | bad => rw [h0] at h; exact h.elim
    | exc x env' S' => rw [h0] at h; exact h
    | rt d S' => rw [h0] at h; exact h
    | nx env' S' =>
      rw [h0] at h
      intro σ' H' ρ' f g k'
      exact ⟨env', S', ρ', k', SRP.weak (r := sden C b env' S') h f g k.s.live k'.s.live⟩⟩
/-! ### stores -/
theorem asg_read {f : Env → Store → Res D} {i : Nat} {Q : Ends} {σ : L2.St} {H : Hp} (h : tS X W (fun env S => (f env S).st env fun d S => .nx (put1 env i d) S) Q σ H) : tAsg (tD X W f) (gName i) Q σ H := by
  obtain ⟨env, S, ρ, k, h⟩ := h
  exact ⟨env, S, ρ, k, SRP.st h k.s.live fun d S1 v H1 ρ1 f1 g1 k1 r1 h1 => srp_nx h1 ⟨k1.e.put r1, k1.s⟩⟩
theorem ds_asg {i : Nat} {x : Str} {e : Expr} {f : Env → Store → Res D} {pos pos' : Pos} (hN : X.N.Nodup) (hi : X.N[i]? = some x) (hx : Loc X.env.scope x) (hf : X.fn x = true ∨ X.env.scope.names.lookup x = some .local) (he : PE X e (tD X W f)) (hs : swapsWith e (some (.Name x pos')) pos.line X.env = pure false) :
    PS X (.Assign [.Name x pos'] e pos) (tS X W (fun env S => (f env S).st env fun d S => .nx (put1 env i d) S)) := (ps_set hN hi hx he hs hf).weak fun D σ H h => asg_read h
theorem tasg_read {f : Env → Store → Res D} {tg : List Nat} {Q : Ends} {σ : L2.St} {H : Hp} (h : tS X W (fun env S => (f env S).st env fun d S => match bindT true tg env d with
    | some env => .nx env S
    | none => .bad) Q σ H) : tAsg (tD X W f) (gT X.K true tg) Q σ H := by
  obtain ⟨env, S, ρ, k, h⟩ := h
  refine ⟨env, S, ρ, k, SRP.st h k.s.live fun d S1 v H1 ρ1 f1 g1 k1 r1 h1 => ?_⟩
  cases hb : bindT true tg env d with
  | none => rw [hb] at h1; exact h1.elim
  | some env1 =>
    rw [hb] at h1
    exact bind_read (own := tg) (fun _ h => h) k1.e r1 hb fun σ' _ e' => srp_nx h1 ⟨e', k1.s⟩
theorem ds_tasg {tg : List Nat} {t e : Expr} {f : Env → Store → Res D} {pos : Pos} (hg : PG X t (gT X.K true tg)) (he : PE X e (tD X W f)) (hs : swapsWithSole [t] e pos.line X.env = pure false) (hw : swappedStores [t] e X.env = pure none) (h1 : (assignEach [t] X.env).map (·.2) = [assign t X.env]) :
    PS X (.Assign [t] e pos) (tS X W (fun env S => (f env S).st env fun d S => match bindT true tg env d with
    | some env => .nx env S
    | none => .bad)) := (ps_asg he hg hs hw h1).weak fun D σ H h => tasg_read h
theorem ds_pasg {i j : Nat} {x y : Str} {a b : Expr} {f g : Env → Store → Res D} {px py pt : Pos} {kt k2 : Nat} {pt2 pos : Pos} (hc : X.calm = true) (hN : X.N.Nodup) (hi : X.N[i]? = some x) (hj : X.N[j]? = some y) (hij : i ≠ j)
    (hx : X.env.scope.names.lookup x = some .local) (hy : X.env.scope.names.lookup y = some .local) (nb : noStar b = true) (na : noStar a = true) (ha : PE X a (tD X W f)) (hb : PE X b (tD X W g))
    (hw : swappedStores [.Tuple [.Name x px, .Name y py] kt pt] (.Tuple [a, b] k2 pt2) X.env = pure (some [x, y])) :
    PS X (.Assign [.Tuple [.Name x px, .Name y py] kt pt] (.Tuple [a, b] k2 pt2) pos) (tS X W (fun env S => (f env S).st env fun x S => (g env S).st env fun y S => .nx (put1 (put1 env i x) j y) S)) :=
  (ps_par hc hN hi hj hij hx hy (pa_cons ha (pa_cons hb pa_nil (star_plain nb _ _)) (star_plain na _ _)) hw).weak fun D σ H ⟨env, S, ρ, k, h⟩ =>
    ⟨env, S, ρ, k, SRP.st h k.s.live fun d S1 v H1 ρ1 f1 g1 k1 r1 h1 => ⟨env, S1, ρ1, k1, SRP.st h1 k1.s.live fun d2 S2 w H2 ρ2 f2 g2 k2 r2 h2 =>
      ⟨v, w, rfl, srp_nx h2 ⟨(k2.e.put (Rep.mono f2 g2 k1.s.live d v r1)).put r2, k2.s⟩⟩⟩⟩
/-! ### the rest -/
theorem ds_ex {e : Expr} {f : Env → Store → Res D} {pos : Pos} (he : PE X e (tD X W f)) (hs : swapsWith e none pos.line X.env = pure false) : PS X (.Expr e pos) (tS X W (fun env S => (f env S).st env fun _ S => .nx env S)) :=
  (ps_expr he hs).weak fun D σ H ⟨env, S, ρ, k, h⟩ => ⟨env, S, ρ, k, SRP.st h k.s.live fun d S1 v H1 ρ1 f1 g1 k1 r1 h1 => srp_nx h1 k1⟩
theorem ds_ret {e : Expr} {f : Env → Store → Res D} {pos : Pos} (he : PE X e (tD X W f)) : PS X (.Return (some e) pos) (tS X W (fun env S => (f env S).st env fun d S => .rt d S)) :=
  (ps_ret he).weak fun D σ H ⟨env, S, ρ, k, h⟩ => ⟨env, S, ρ, k, SRP.st h k.s.live fun d S1 v H1 ρ1 f1 g1 k1 r1 h1 => h1 v H1 ρ1 (Frm.refl _ _) (Grow.refl _ _) k1.s r1⟩
theorem ds_retN {C : Call} {pos : Pos} : PS X (.Return none pos) (tS X W (sden C (.ret (.lit .non)))) :=
  ps_retN.weak fun D σ H ⟨env, S, ρ, k, h⟩ => h .non H ρ (Frm.refl _ _) (Grow.refl _ _) k.s (by simp [Rep])
theorem ds_pass {C : Call} {pos : Pos} : PS X (.Pass pos) (tS X W (sden C .skip)) := ps_pass.weak fun D σ H ⟨env, S, ρ, k, h⟩ => srp_nx h k
theorem ds_doc {C : Call} {x : Str} {j : Nat} {pos pos' : Pos} : PS X (.Expr (.Constant (.str x) j pos) pos') (tS X W (sden C .skip)) := ps_doc.weak fun D σ H ⟨env, S, ρ, k, h⟩ => srp_nx h k
theorem ds_if {c : Expr} {p q : List Stmt} {dc : E} {a b : S} {C : Call} {pos : Pos} (hc : DE X W c (den C dc)) (ha : PSs X p (tS X W (sden C a))) (hb : PSs X q (tS X W (sden C b))) : PS X (.If c p q pos) (tS X W (sden C (.ite dc a b))) :=
  (ps_if hc.t ha hb).weak fun D σ H ⟨env, S, ρ, k, h⟩ => ⟨env, S, ρ, k, SRP.st h k.s.live fun d S1 v H1 ρ1 f1 g1 k1 r1 h1 => by
    replace r1 : d = v := r1
    subst r1
    cases d with
    | true => exact iteT ⟨env, S1, ρ1, k1, h1⟩
    | false => exact iteF ⟨env, S1, ρ1, k1, h1⟩⟩
theorem ds_for {t iter : Expr} {body : List Stmt} {tp : Bool} {tg : List Nat} {src : E} {db : S} {C : Call} {pos : Pos} (hp : PassesOwn (model X.prog X.w) X.A X.env X.xe) (hc : X.calm = true) (hi : PI X t iter (tI X W (den C src).i)) (hg : PG X t (gT X.K tp tg)) (hb : PSs X body (tS X W (sden C db)))
    (hs : ∀ x, foldedSetIterable iter X.env x = pure x) : PS X (.For t iter body [] pos) (tS X W (sden C (.for_ tp tg src db))) :=
  (ps_for hp hc hi hg hb hs).weak fun D σ H ⟨env, S, ρ, k, h⟩ => ⟨env, S, ρ, k, by
    replace h : SRP X W ρ H (((den C src).i env S).st env fun p S => forRun (fun env d => bindT tp tg env d) (sden C db) p.2 p.1 env S) D := h
    cases hf : (den C src).i env S with
    | bad => rw [hf] at h; exact h.elim
    | exc e S1 => rw [hf] at h; exact fun c dx H' ρ' f g ok xr => h c dx σ H' ρ' f g ok xr
    | ok p S1 =>
      rw [hf] at h
      obtain ⟨l, cl⟩ := p
      intro J H1 ρ1 f1 g1 k1 src
      obtain ⟨live, src, lv⟩ := src
      replace src : Src J l cl live := src
      replace lv : live S1 ρ1 H1 := lv
      have h := SRP.weak (r := forRun (fun env d => bindT tp tg env d) (sden C db) cl l env S1) h f1 g1 k.s.live k1.s.live
      refine ⟨fun i m σ H => m = l.length - i ∧ i ≤ l.length ∧ ∃ env S ρ, Ok ρ env S σ H ∧ live S ρ H ∧ SRP X W ρ H (forRun (fun env d => bindT tp tg env d) (sden C db) cl (l.drop i) env S) D, ⟨l.length, by simp, Nat.zero_le _, env, S1, ρ1, k1, lv, h⟩, ?_⟩
      rintro i m σ2 H2 ⟨rfl, hi, env2, S2, ρ2, k2, lv2, h2⟩
      by_cases hlt : i < l.length
      · have hd : l[i]? = some l[i] := List.getElem?_eq_getElem hlt
        rw [List.drop_eq_getElem_cons hlt] at h2
        refine .inr ⟨src.go k2.s lv2 hd, fun σ H => i + 1 ≤ l.length ∧ ∃ env S ρ, Ok ρ env S σ H ∧ live S ρ H ∧ SRP X W ρ H (forRun (fun env d => bindT tp tg env d) (sden C db) cl (l.drop (i + 1)) env S) D,
          fun σ' H' ⟨h1, h3⟩ => ⟨l.length - (i + 1), by omega, rfl, h1, h3⟩, fun x H3 y => ?_⟩
        obtain ⟨sm, rv⟩ := src.yld k2.s lv2 hd y
        have k3 := k2.same sm
        have lv3 := src.keep k2.s k3.s lv2 (frm_of sm).w (Grow.refl _ _) (stays_refl _ _)
        have h3 := h2.weak (frm_of sm) (Grow.refl _ _) k2.s.live k3.s.live
        simp only [forRun] at h3
        split at h3
        · exact h3.elim
        · rename_i env3 hb
          refine bind_read (own := tg) (fun _ h => h) k3.e rv hb fun σ4 _ e4 => ⟨env3, S2, ρ2, ⟨e4, k3.s⟩, ?_⟩
          split at h3
          · rename_i env4 S4 hbd
            rw [hbd]
            split at h3
            · rename_i hst
              intro σ5 H5 ρ5 f5 g5 k5
              exact ⟨hlt, env4, S4, ρ5, k5, src.keep k3.s k5.s lv3 f5.w g5 hst, h3.weak f5 g5 k3.s.live k5.s.live⟩
            · exact h3.elim
          · rename_i hn
            cases hbd : sden C db env3 S2 with
            | nx e4 S4 => exact absurd hbd (hn e4 S4)
            | rt d S4 => rw [hbd] at h3; exact h3
            | exc x e4 S4 => rw [hbd] at h3; exact h3
            | bad => rw [hbd] at h3; exact h3.elim
      · have e : i = l.length := by omega
        subst e
        rw [List.drop_length] at h2
        simp only [forRun] at h2
        exact .inl ⟨src.stop k2.s lv2, srp_nx h2 k2⟩⟩
theorem ds_while {c : Expr} {body : List Stmt} {dc : E} {db : S} {C : Call} {pos : Pos} (hp : PassesOwn (model X.prog X.w) X.A X.env X.xe) (hc : DE X W c (den C dc)) (hb : PSs X body (tS X W (sden C db))) : PS X (.While c body [] pos) (tS X W (sden C (.while_ dc db))) :=
  (ps_while hp hc.t hb).weak fun D σ H ⟨env, S, ρ, k, h⟩ => by
    refine ⟨fun m σ H => ∃ env S ρ, Ok ρ env S σ H ∧ SRP X W ρ H (whileRun (den C dc).t (sden C db) m env S) D, ⟨4096, env, S, ρ, k, h⟩, ?_⟩
    rintro m σ1 H1 ⟨env1, S1, ρ1, k1, h1⟩
    cases m with
    | zero => exact h1.elim
    | succ m =>
      replace h1 : SRP X W ρ1 H1 (((den C dc).t env1 S1).st env1 fun b S1 => if b then (sden C db env1 S1).bind fun env2 S2 => whileRun (den C dc).t (sden C db) m env2 S2 else .nx env1 S1) D := h1
      refine ⟨env1, S1, ρ1, k1, SRP.st h1 k1.s.live fun b S2 v H2 ρ2 f2 g2 k2 r2 h2 => ?_⟩
      replace r2 : b = v := r2
      subst r2
      cases b with
      | false => exact iteF (srp_nx h2 k2)
      | true =>
        refine iteT ⟨fun σ H => ∃ env S ρ, Ok ρ env S σ H ∧ SRP X W ρ H (whileRun (den C dc).t (sden C db) m env S) D, fun σ' H' q => ⟨m, by omega, q⟩, env1, S2, ρ2, k2, ?_⟩
        replace h2 : SRP X W ρ2 H2 ((sden C db env1 S2).bind fun env2 S2 => whileRun (den C dc).t (sden C db) m env2 S2) D := h2
        cases hbd : sden C db env1 S2 with
        | bad => rw [hbd] at h2; exact h2.elim
        | exc x e S => rw [hbd] at h2; exact h2
        | rt d S => rw [hbd] at h2; exact h2
        | nx e S =>
          rw [hbd] at h2
          intro σ' H' ρ' f g k'
          exact ⟨e, S, ρ', k', SRP.weak (r := whileRun (den C dc).t (sden C db) m e S) h2 f g k2.s.live k'.s.live⟩
/-! ### cells change -/
theorem frw_cell {ρ : Rho} {H : Hp} {a : Addr} {o : HO} (h : a ∈ ρ.c) : Frw ρ H (upd H a o) := fun b x e n => .of (by
  rw [upd_ne]
  · exact e
  · rintro rfl; exact n (.inl h))
theorem frm_cell {ρ : Rho} {H : Hp} {a : Addr} {o : HO} (h : a ∈ ρ.c) : Frm ρ H (upd H a o) := fun b x e n => .of (by
  rw [upd_ne]
  · exact e
  · rintro rfl; exact n h)
theorem ok_cell {ρ : Rho} {env : Env} {S : Store} {σ : L2.St} {H : Hp} {n : Nat} {a : Addr} {l : List D} {vs : List V} (k : Ok ρ env S σ H) (ha : ρ.c[n]? = some a) (hz : l.length ≤ line) (r : Reps ρ H l vs) : Ok ρ env (S.set n l) σ (upd H a (.lst vs)) := by
  have hm : a ∈ ρ.c := List.mem_of_getElem? ha
  have fw := frw_cell (o := .lst vs) (H := H) hm
  refine ⟨⟨k.e.len, fun i d h => let ⟨v, p, q⟩ := k.e.at_ i d h; ⟨v, p, Rep.monoW fw (Grow.refl _ _) k.s.live d v q⟩⟩, by rw [List.length_set]; exact k.s.len, k.s.nd, fun b hb => ?_, fun m l' b h1 h2 => ?_, tabs_lst k.s.tb (k.s.live a (.inl hm)) fun b o n e => by rw [upd_ne n]; exact e⟩
  · obtain ⟨q, ws, e⟩ := k.s.hid b hb
    refine ⟨q, ws, ?_⟩
    rw [upd_ne]
    · exact e
    · rintro rfl; exact q hm
  · by_cases hnm : n = m
    · subst hnm
      rw [ha] at h2
      cases h2
      have hl : n < S.length := by
        rw [← k.s.len]
        exact (List.getElem?_eq_some_iff.mp ha).1
      rw [List.getElem?_set_self hl] at h1
      cases h1
      exact ⟨vs, upd_same, hz, Reps.monoW fw (Grow.refl _ _) k.s.live _ vs r⟩
    · rw [List.getElem?_set_ne hnm] at h1
      obtain ⟨ws, e, z, q⟩ := k.s.at_ m l' b h1 h2
      refine ⟨ws, ?_, z, Reps.monoW fw (Grow.refl _ _) k.s.live l' ws q⟩
      rw [upd_ne]
      · exact e
      · rintro rfl; exact hnm (nodup_get k.s.nd ha h2)
theorem srp_cell {ρ : Rho} {env : Env} {S : Store} {σ : L2.St} {H : Hp} {n : Nat} {a : Addr} {l : List D} {vs : List V} {Q : Ends} (h : SRP X W ρ H (.nx env (S.set n l)) Q) (k : Ok ρ env S σ H) (ha : ρ.c[n]? = some a) (hz : l.length ≤ line) (r : Reps ρ H l vs) : Q.nx σ (upd H a (.lst vs)) :=
  h σ _ ρ (frm_cell (List.mem_of_getElem? ha)) (Grow.refl _ _) (ok_cell k ha hz r)
/-- the receiver is not super() -/
def notSuper : Expr → Bool
  | .Call _ _ _ _ => false
  | _ => true
theorem base_plain {o : Expr} (h : notSuper o = true) (attr : Str) (env : PySem.Env) : attributeBase o attr env (eval o env) = eval o env := by
  cases o <;> first | rfl | (simp [notSuper] at h)
theorem ds_app {o e : Expr} {do_ de : E} {C : Call} {apos cpos pos : Pos} (hso : notSuper o = true) (hline : (apos.endLine == cpos.line) = true) (ns : noStar e = true) (ho : DE X W o (den C do_)) (he : DE X W e (den C de)) :
    PS X (.Expr (.Call (.Attribute o "append" apos) [e] [] cpos) pos) (tS X W (sden C (.app do_ de))) :=
  (ps_expr (pe_bm PySem.F.plainAttrs_list PySem.F.slot_list_append PySem.F.type_list_append mt_append ho.v (pa_cons he.v pa_nil (star_plain ns _ _)) (base_plain hso _ _) (by rw [star_plain ns]; rfl) hline (star_plain ns _ _))).weak fun D σ H ⟨env, S, ρ, k, h⟩ =>
    ⟨env, S, ρ, k, SRP.st h k.s.live fun x S1 vx H1 ρ1 f1 g1 k1 r1 h1 => by
      have hcell : (∃ n, x = .cell n) ∨ ∀ n, x ≠ .cell n := by cases x <;> simp
      rcases hcell with ⟨n, rfl⟩ | hno
      · simp only [Rep] at r1
        obtain ⟨a, ha, rfl⟩ := r1
        obtain ⟨hlt, _⟩ := List.getElem?_eq_some_iff.mp ha
        obtain ⟨vs, ev, _⟩ := k1.s.at_ n _ a (List.getElem?_eq_getElem (by rw [← k1.s.len]; exact hlt)) ha
        refine ⟨.inl ⟨rfl, vs, .inl (.inl ev)⟩, env, S1, ρ1, k1, SRP.st h1 k1.s.live fun y S2 vy H2 ρ2 f2 g2 k2 r2 h2 => ?_⟩
        have ha2 : ρ2.c[n]? = some a := by
          obtain ⟨more, rfl, _⟩ := g2
          show (ρ1.c ++ more)[n]? = some a
          rw [List.getElem?_append_left hlt]
          exact ha
        cases hl : S2[n]? with
        | none => simp only [hl] at h2; exact h2.elim
        | some l =>
          simp only [hl] at h2
          cases hm : okLen (l ++ [y]) with
          | none => simp only [hm, Option.bind_some] at h2; exact h2.elim
          | some m =>
            simp only [hm, Option.bind_some] at h2
            obtain ⟨rfl, hz⟩ := okLen_some hm
            obtain ⟨ws, ew, zw, rw'⟩ := k2.s.at_ n l a hl ha2
            refine ⟨a, ws, vy, rfl, rfl, ew, ?_, ?_⟩
            · rw [rw'.length, ← line_eq]
              rw [List.length_append] at hz
              simp at hz
              omega
            · exact srp_cell h2 k2 ha2 hz (rw'.append (by simp only [Reps]; exact ⟨vy, [], rfl, r2, rfl⟩))
      · exfalso
        cases x <;> first | exact h1 | exact hno _ rfl⟩
theorem ds_setix {o i e : Expr} {do_ di de : E} {C : Call} {tpos pos : Pos} (hpl : plainIx i = true) (hsw : swapsWithSole [.Subscript o i tpos] e pos.line X.env = pure false) (ho : DE X W o (den C do_)) (hi : DE X W i (den C di)) (he : DE X W e (den C de)) :
    PS X (.Assign [.Subscript o i tpos] e pos) (tS X W (sden C (.setix do_ di de))) := by
  have hass : ∀ v, assign (.Subscript o i tpos) X.env v = (do
      let ov ← holding [v] (eval o X.env)
      let iv ← holding [v, ov] (eval i X.env)
      standAt tpos
      holding [v, ov, iv] (setItem ov iv v)
      release [v, ov, iv] []) := by
    intro v
    cases i <;> first | rfl | (simp [plainIx] at hpl)
  refine (ps_asg he.v (pg_sub ho.v hi.v set_list hass) hsw).weak fun D σ H ⟨env, S, ρ, k, h⟩ => ⟨env, S, ρ, k, SRP.st h k.s.live fun y S1 vy H1 ρ1 f1 g1 k1 r1 h1 =>
    ⟨env, S1, ρ1, k1, SRP.st h1 k1.s.live fun x S2 vx H2 ρ2 f2 g2 k2 r2 h2 => ⟨env, S2, ρ2, k2, SRP.st h2 k2.s.live fun z S3 vz H3 ρ3 f3 g3 k3 r3 h3 => ?_⟩⟩⟩
  have r2' := Rep.mono f3 g3 k2.s.live x vx r2
  have r1' := Rep.mono f3 g3 k2.s.live y vy (Rep.mono f2 g2 k1.s.live y vy r1)
  cases x <;> cases z <;> first | (exact h3.elim) | skip
  rename_i n j
  simp only [Rep] at r2' r3
  obtain ⟨a, ha, rfl⟩ := r2'
  subst r3
  dsimp only at h3
  cases hs : setAt S3 n j y with
  | none => rw [hs] at h3; exact h3.elim
  | some S4 =>
    rw [hs] at h3
    simp only [setAt, Option.bind_eq_some_iff, Option.map_eq_some_iff] at hs
    obtain ⟨l, hl, m, hm, rfl⟩ := hs
    obtain ⟨vs, ev, hz, rl⟩ := k3.s.at_ n l a hl ha
    refine ⟨a, vs, j, m, rfl, rfl, ev, ?_, srp_cell h3 k3 ha (by rw [List.length_set]; exact hz) (rl.set r1' m)⟩
    rw [rl.length]
    unfold ixOf at hm
    unfold ixN
    by_cases h0 : 0 ≤ j
    · rw [if_pos h0] at hm ⊢
      by_cases h1 : j.toNat < l.length
      · rw [if_pos h1] at hm
        rw [if_pos (by omega)]
        exact hm
      · rw [if_neg h1] at hm; cases hm
    · rw [if_neg h0] at hm ⊢
      by_cases h1 : 0 ≤ j + l.length
      · rw [if_pos h1] at hm
        rw [if_pos (by omega)]
        exact hm
      · rw [if_neg h1] at hm; cases hm
end
end LK
set_option Elab.async false
set_option linter.all false
set_option autoImplicit false
set_option maxRecDepth 100000
set_option maxHeartbeats 1000000
/-! LK13e: xs.extend(ys) as a statement. -/
namespace LK
open PySem PySem.Spec PyProof.Rows L2
variable [Tt]
section
variable {X : Cx} {W : WX}
/-- a list of ours takes all of another one, frozen or not -/
def rExtL : V → List V → Hp → VK → Prop := fun x vs H Q => ∃ l b xs zs, x = .ref l ∧ vs = [.ref b] ∧ H l = some (.lst xs) ∧ LAt H b zs ∧ xs.length + zs.length ≤ sizeLine ∧ Q .non (upd H l (.lst (xs ++ zs)))
theorem mt_extL : MtM X "list.extend" rExtL := by
  intro pins s σ H x vs v us Q I rx rv ⟨l, b, xs, zs, ex, ev, hl, hb, hz, q⟩
  subst ex; subst ev
  cases rx
  obtain ⟨u, rfl, ru⟩ := rv.one
  cases ru
  obtain ⟨z, i1, n1, r1, hi, e1⟩ := I.lstM hl
  obtain ⟨i2, n2, r2, z2, e2⟩ := Inv.objL I hb
  have l2 := r2.length
  have w1 : i1.toArray.size + i2.toArray.size ≤ sizeLine := by simp only [List.size_toArray]; omega
  have w2 : ¬ (!i1.toArray.isEmpty && Builtin.List.listTooLong (i1.toArray.size + i2.toArray.size)) = true := by rw [notLongL w1, Bool.and_false]; decide
  refine call_meets F.slot_list_extend ⟨_, e1, rfl⟩ F.entry_list_extend (F.args_list_extend_2 _ _) (AutoSeq1.list_extend_list_list_0 l i1.toArray n1 b i2.toArray n2 w2 (by simp only [List.size_toArray]; omega) (by omega)) ⟨e1, e2, ?_⟩
  exact ⟨.non, _, I.lset (its' := i1 ++ i2) hl e1 (by simp) (r1.append r2) (by rw [List.length_append]; omega), rfl, q⟩
theorem ds_ext {o e : Expr} {do_ de : E} {C : Call} {apos cpos pos : Pos} (hso : notSuper o = true) (hline : (apos.endLine == cpos.line) = true) (ns : noStar e = true) (ho : DE X W o (den C do_)) (he : DE X W e (den C de)) :
    PS X (.Expr (.Call (.Attribute o "extend" apos) [e] [] cpos) pos) (tS X W (sden C (.ext do_ de))) :=
  (ps_expr (pe_bm PySem.F.plainAttrs_list PySem.F.slot_list_extend PySem.F.type_list_extend mt_extL ho.v (pa_cons he.v pa_nil (star_plain ns _ _)) (base_plain hso _ _) (by rw [star_plain ns]; rfl) hline (star_plain ns _ _))).weak fun D σ H ⟨env, S, ρ, k, h⟩ =>
    ⟨env, S, ρ, k, SRP.st h k.s.live fun x S1 vx H1 ρ1 f1 g1 k1 r1 h1 => by
      have hcell : (∃ n, x = .cell n) ∨ ∀ n, x ≠ .cell n := by cases x <;> simp
      rcases hcell with ⟨n, rfl⟩ | hno
      · simp only [Rep] at r1
        obtain ⟨a, ha, rfl⟩ := r1
        obtain ⟨hlt, _⟩ := List.getElem?_eq_some_iff.mp ha
        obtain ⟨vs, ev, _⟩ := k1.s.at_ n _ a (List.getElem?_eq_getElem (by rw [← k1.s.len]; exact hlt)) ha
        refine ⟨.inl ⟨rfl, vs, .inl (.inl ev)⟩, env, S1, ρ1, k1, SRP.st h1 k1.s.live fun y S2 vy H2 ρ2 f2 g2 k2 r2 h2 => ?_⟩
        have ha2 : ρ2.c[n]? = some a := by
          obtain ⟨more, rfl, _⟩ := g2
          show (ρ1.c ++ more)[n]? = some a
          rw [List.getElem?_append_left hlt]
          exact ha
        have hy : (∃ m, y = .lst m) ∨ ∀ m, y ≠ .lst m := by cases y <;> simp
        rcases hy with ⟨m, rfl⟩ | hno
        · cases hl : S2[n]? with
          | none => simp only [hl] at h2; exact h2.elim
          | some l =>
            simp only [hl] at h2
            cases hm : okLen (l ++ m) with
            | none => simp only [hm, Option.bind_some] at h2; exact h2.elim
            | some r =>
              simp only [hm, Option.bind_some] at h2
              obtain ⟨rfl, hz⟩ := okLen_some hm
              obtain ⟨ws, ew, zw, rw'⟩ := k2.s.at_ n l a hl ha2
              simp only [Rep] at r2
              obtain ⟨b, us, rfl, hb, _, _, ru⟩ := r2
              refine ⟨a, b, ws, us, rfl, rfl, ew, hb, ?_, ?_⟩
              · rw [rw'.length, ru.length, ← line_eq]
                rw [List.length_append] at hz
                exact hz
              · exact srp_cell h2 k2 ha2 hz (rw'.append ru)
        · exfalso
          cases y <;> first | exact h2 | exact hno _ rfl
      · exfalso
        cases x <;> first | exact h1 | exact hno _ rfl⟩
end
end LK
set_option Elab.async false
set_option linter.all false
set_option autoImplicit false
set_option maxRecDepth 100000
set_option maxHeartbeats 2000000
/-! LK18: sorting tuples of any lengths, () among them. -/
namespace LK
open PySem PySem.Calls PySem.W PySem.SeqAt PyProof.Rows
section
variable {prog : Program} {w : World} {A : Around} {s : Shared}
theorem call_tuple_lt {E : Value → Shared → Prop} {Q : Value → Shared → Prop} {l b : Addr} {items items2 : Array Value} {e r : Nat → Bool} (hl : s.heap.IsTuple l items) (hb : s.heap.IsTuple b items2)
    (he : ∀ j (h1 : j < items.size) (h2 : j < items2.size), EqAt A.in1 s items[j] items2[j] (e j)) (hr : ∀ j (h1 : j < items.size) (h2 : j < items2.size), e j = false → RcLt A.in1 s items[j] items2[j] (r j))
    (h : Q (.bool (firstLt e r (decide (items.size < items2.size)) (List.range (min items.size items2.size)))) s) : wpAny (model prog w) A (call (.builtin "tuple.__lt__") [.ref l, .ref b]) Q E s := by
  obtain ⟨⟨cls, dd, data, sl⟩, ho, hc, n, hd⟩ := id hl
  obtain ⟨⟨cls2, dd2, data2, sl2⟩, ho2, hc2, n2, hd2⟩ := id hb
  simp only at hc hd hc2 hd2
  subst hc hd hc2 hd2
  exact call_meets F.slot_tuple_lt ⟨_, ho, rfl⟩ F.entry_tuple_lt (F.args_tuple_lt_2 _ _) (tuple_ltAt l b items items2 n n2 dd dd2 sl sl2 e r) ⟨ho, ho2, he, hr, h⟩
theorem oneLt_tuples {E : Value → Shared → Prop} {Q : Bool → Shared → Prop} {xs ys : List PyData} {a b : Value} {as bs : List Addr} (ra : Reads s.heap a (.tuple xs) as) (rb : Reads s.heap b (.tuple ys) bs) (hal : alikeAll xs ys = true)
    (hu : A.units + min (PyData.tuple xs).depth (PyData.tuple ys).depth < cLine) (hq : Q (dataLt (.tuple xs) (.tuple ys)) s) : wpAny (model prog w) A (oneLt' true a b) Q E s := by
  cases ra with
  | @tuple l o vs n _ as₁ h1 h2 h3 h4 =>
    cases rb with
    | @tuple l' o' vs' n' _ bs₁ k1 k2 k3 k4 =>
      have n1 : vs.size = xs.length := by simpa using ReadsAll.length _ _ _ h4
      have n2 : vs'.size = ys.length := by simpa using ReadsAll.length _ _ _ k4
      rw [dataLt_tuple, ← firstLt_toks xs ys hal, ← n1, ← n2] at hq
      rw [oneLt'_eq]
      simp only [if_true]
      refine wpAny_bind (wpAny_cRoomFor (room_here hu) ?_)
      refine wpAny_bind (wpAny_callSpecialIfBound?_slot (T := "tuple") ⟨_, h1, h2⟩ F.slot_tuple_lt (call_tuple_lt (e := pairEq xs ys) (r := fun j => dataLt (xs.getD j .none) (ys.getD j .none)) ⟨_, h1, h2, _, h3⟩ ⟨_, k1, k2, _, k3⟩ (fun j j1 j2 => ?_) (fun j j1 j2 hj => ?_) ?_))
      · have := eqAt_alikeAll xs ys A.in1 s vs.toList vs'.toList _ _ h4 k4 hal (room_in hu) j (by simpa using j1) (by simpa using j2)
        simpa using this
      · have := rcLt_alikeAll xs ys A.in1 s vs.toList vs'.toList _ _ h4 k4 hal (room_in hu) j (by simpa using j1) (by simpa using j2) hj
        simpa using this
      · exact wpAny_truthy_bool hq
def neT : PyData → Bool
  | .tuple (_ :: _) => true
  | _ => false
theorem firsts_run : ∀ {vs : List Value} {ds : List PyData}, EachIs (fun v d => ∃ as, Reads s.heap v d as) vs ds → (∀ d ∈ ds, ∃ xs, d = .tuple xs) →
    ∃ os : List (Option Value), os.map Option.isSome = ds.map neT ∧ ∀ {M : Model} {A : Around} {E : Value → Shared → Prop} {Q : List (Option Value) → Shared → Prop}, Q os s → wpAny M A (vs.mapM firstOfTuple') Q E s
  | _, _, .nil, _ => ⟨[], rfl, fun h => by rw [List.mapM_nil]; exact wpAny_pure h⟩
  | v :: vs, d :: ds, .cons ⟨as, r⟩ t, hd => by
    obtain ⟨os, h1, h2⟩ := firsts_run t fun x hx => hd x (List.mem_cons_of_mem _ hx)
    obtain ⟨xs, rfl⟩ := hd d (List.mem_cons_self ..)
    cases r with
    | @tuple l o ws n _ _ q1 q2 q3 q4 =>
      have hl : ws.toList.length = xs.length := SeqAt.ReadsAll.length _ _ _ q4
      refine ⟨ws[0]? :: os, ?_, fun {M A E Q} h => ?_⟩
      · simp only [List.map_cons, h1]
        congr 1
        cases xs with
        | nil =>
          have : ws.size = 0 := by simpa using hl
          rw [Array.getElem?_eq_none (by omega)]
          rfl
        | cons x r =>
          have : ws.size = r.length + 1 := by simpa using hl
          rw [Array.getElem?_eq_getElem (by omega)]
          rfl
      · rw [List.mapM_cons]
        refine wpAny_bind ?_
        rw [kas_first_eq]
        refine wpAny_bind (Looks.here (show Looks M s.heap (typeOf (.ref l)) o.cls from (Looks.ld q1).andThen .now) ?_)
        rw [q2, if_neg (by first | decide | simp)]
        refine wpAny_bind (listItems_at q1 q3 (wpAny_pure ?_))
        exact wpAny_bind (h2 (Q := fun bs s' => wpAny M A (pure (ws[0]? :: bs)) Q E s') (wpAny_pure h))
/-- the kind that the model picks for tuples, one of them () -/
noncomputable def tupKind (ds : List PyData) : SortKind := if (ds.head?.map neT) = some true then general' else oneType'
theorem tups_kind {M : Model} {E : Value → Shared → Prop} {vs : List Value} {ds : List PyData} {Q : SortKind → Shared → Prop} (e : EachIs (fun v d => ∃ as, Reads s.heap v d as) vs ds) (ht : ∀ d ∈ ds, ∃ xs, d = .tuple xs) (hne : ds.all neT = false) (h : Q (tupKind ds) s) :
    wpAny M A (keyKind' vs.toArray) Q E s := by
  obtain ⟨os, h1, h2⟩ := firsts_run e ht
  rw [keyKind'_eq, List.mapM_toArray, map_eq_pure_bind]
  refine wpAny_bind (wpAny_bind (h2 (wpAny_pure ?_)))
  have hall : (os.toArray.all fun x => x.isSome) = false := by
    have : (os.map Option.isSome).all id = (ds.map neT).all id := by rw [h1]
    simp only [List.all_map] at this
    rw [List.all_toArray]
    exact this.trans hne
  rw [if_neg (by rw [hall]; simp)]
  cases ds with
  | nil => simp at hne
  | cons d ds =>
    cases os with
    | nil => simp at h1
    | cons o os =>
      simp only [List.map_cons, List.cons.injEq] at h1
      have h0 : ((o :: os).toArray[0]?.bind id) = o := by simp
      rw [h0]
      cases hd : neT d with
      | true =>
        rw [if_pos (by rw [h1.1, hd])]
        refine wpAny_pure ?_
        have : tupKind (d :: ds) = general' := by unfold tupKind; rw [if_pos (by simp [hd])]
        rw [← this]
        exact h
      | false =>
        rw [if_neg (by rw [h1.1, hd]; simp)]
        have hk : tupKind (d :: ds) = oneType' := by unfold tupKind; rw [if_neg (by simp [hd])]
        rw [oneTypeOnly'_eq, List.mapM_toArray, map_eq_pure_bind]
        have hT : ∀ v ∈ vs, Looks M s.heap (typeOf v) (Value.type "tuple") := fun v hv => by
          obtain ⟨x, hx, as, r⟩ := e.left v hv
          obtain ⟨xs, rfl⟩ := ht x hx
          exact looks_reads r
        refine wpAny_bind (wpAny_bind (wpAny_bind (kas_mapM (r := Value.type "tuple") _ (fun v hv Q' hq => (hT v hv).here hq) (wpAny_pure ?_))))
        have hall2 : ((List.map (fun _ => Value.type "tuple") vs).toArray.all fun x => x == Value.type "tuple") = true := by
          simp only [List.all_toArray, List.all_map, List.all_eq_true]
          intro _ _
          exact beq_self_eq_true _
        cases e with
        | cons p t =>
          rename_i v vs
          have h0 : (List.map (fun _ => Value.type "tuple") (v :: vs)).toArray[0]? = some (Value.type "tuple") := by simp
          rw [h0]
          simp only [hall2, if_true]
          refine wpAny_pure (wpAny_pure ?_)
          rw [← hk]
          exact h
/-- tuples of any lengths can be sorted -/
theorem sortsAt_tups {vs : List Value} {ds : List PyData} (e : EachIs (fun v d => ∃ as, Reads s.heap v d as) vs ds) (hal : AllAlike ds) (ht : ∀ d ∈ ds, ∃ xs, d = .tuple xs) (hu : ∀ d, d ∈ ds → A.units + d.depth < cLine) : SortsAt prog w A s (dataKind s.heap ds) vs := by
  cases hne : ds.all neT with
  | true =>
    refine SortsAt.data e hal (.inl fun d hd => ?_) hu
    obtain ⟨xs, rfl⟩ := ht d hd
    rw [List.all_eq_true] at hne
    have := hne _ hd
    cases xs with
    | nil => simp [neT] at this
    | cons x r => exact ⟨x, r, rfl⟩
  | false =>
    have room : ∀ {d d' : PyData}, d ∈ ds → A.units + min d.depth d'.depth < cLine := fun {d d'} hd => Nat.lt_of_le_of_lt (Nat.add_le_add_left (Nat.min_le_left _ _) _) (hu d hd)
    refine ⟨fun v hv => ?_, tupKind ds, fun E x y a b Q ha hb hq => ?_, fun h2 E Q hq => tups_kind e ht hne hq⟩
    · obtain ⟨d, hd, as, r⟩ := e.left v hv
      exact ⟨_, dataKind_some hal hd r⟩
    · obtain ⟨d, as, hd, ra, rfl⟩ := dataKind_inv ha
      obtain ⟨d', as', hd', rb, rfl⟩ := dataKind_inv hb
      obtain ⟨xs, rfl⟩ := ht d hd
      obtain ⟨ys, rfl⟩ := ht d' hd'
      have hq' : Q (dataLt (.tuple xs) (.tuple ys)) s := hq
      unfold tupKind
      split
      · show wpAny _ _ (oneLt' false x y) _ _ _
        exact oneLt_alike (fun h => by cases h) ra rb (hal _ hd _ hd') (by simp) (room hd) hq'
      · rw [keyLt'_oneType]
        exact oneLt_tuples ra rb (by have := hal _ hd _ hd'; simpa [alike] using this) (room hd) hq'
end
end LK
set_option Elab.async false
set_option linter.all false
set_option autoImplicit false
set_option maxRecDepth 100000
set_option maxHeartbeats 2000000
/-! LK19: sorted(..) of a list or a tuple. -/
namespace LK
open PySem PySem.Calls PySem.W PySem.SeqAt PyProof.Rows
section
variable {prog : Program} {w : World} {A : Around} {E : Value → Shared → Prop} {s : Shared}
theorem collect_tup {l : Addr} {vs : List Value} {Q : List Value → Shared → Prop} (hl : s.heap.IsTuple l vs.toArray)
    (h : Q vs { s with heap := (s.heap.push (seqObj "list" #[] 0)).update s.heap.objs.size (Obj.mapSeq (· ++ vs.toArray)) }) (hsz : vs.length ≤ sizeLine) :
    wpAny (model prog w) A (collect (.ref l)) Q E s := by
  obtain ⟨o, ho, hc, n, hd⟩ := id hl
  unfold collect
  refine wpAny_bind (wpAny_runValue (codeAny_builtin entry_proto_collect' ?_))
  show wpAny _ _ (do again (.builtin "list.__iadd__" ⟨[← newList [], .ref l], []⟩)) _ _ s
  refine wpAny_bind (wpAny_newList (wpAny_pure ⟨Code.quiet_builtin _ (by decide +kernel), codeAny_builtin entry_list_iadd' ?_⟩))
  show wpAny _ _ (Builtin.List.listExtendWith (.ref s.heap.objs.size) (.ref l) (.ref s.heap.objs.size)) _ _ { s with heap := s.heap.push (seqObj "list" #[] 0) }
  unfold Builtin.List.listExtendWith
  have ho' : (s.heap.push (seqObj "list" #[] 0)).get? l = some o := Heap.get?_push_of_some _ ho
  refine wpAny_bind (wpAny_typeOf (T := "tuple") ⟨o, ho', hc⟩ ?_)
  have ht : (Value.type "tuple" == Value.type "tuple") = true := by rfl
  rw [if_pos (by rw [ht]; simp)]
  refine wpAny_bind (listItems_at ho' hd ?_)
  refine wpAny_bind (listItems_at (xs := #[]) (n := 0) (Heap.get?_push_size _ rfl) rfl ?_)
  rw [if_neg (by simp)]
  refine wpAny_bind (listUpdate_at (xs := #[]) (n := 0) (Heap.get?_push_size _ rfl) rfl ?_ (Nat.zero_le _) (by show (#[] ++ vs.toArray).size ≤ sizeLine + 1; simp only [Array.size_append, List.size_toArray, List.length_nil]; omega))
  refine wpAny_pure ?_
  show wpAny (model prog w) A (do
      let o ← load s.heap.objs.size
      match o.data with
      | .seq xs _ => pure xs.toList
      | _ => unsupported "internal:collect") Q E { s with heap := (s.heap.push (seqObj "list" #[] 0)).update s.heap.objs.size (Obj.mapSeq (· ++ vs.toArray)) }
  refine wpAny_bind (wpAny_load (get?_update_seq (Heap.get?_push_size _ rfl) _) ?_)
  show wpAny _ _ (pure ((#[] : Array Value) ++ vs.toArray).toList) Q E _
  rw [show ((#[] : Array Value) ++ vs.toArray).toList = vs by simp]
  exact wpAny_pure h
theorem sorted_any {κ : PyProof.Rows.KeyKind} {l : Addr} {vs : List Value} {Q : Value → Shared → Prop} (hl : s.heap.IsList l vs.toArray ∨ s.heap.IsTuple l vs.toArray) (S : SortsAt prog w A.in1.in1 { s with heap := sortingHeap (copyHeap s.heap vs) (s.heap.objs.size + 1) vs } κ vs) (hL : vs.length ≤ sizeLine)
    (h : Q (.ref (s.heap.objs.size + 1)) { s with heap := sortedAll s.heap vs (sortVals κ false vs vs).toArray }) : wpAny (model prog w) A (call (.builtin "sorted") [.ref l]) Q E s := by
  rcases hl with hl | hl
  · exact sorted_vals hl S hL h
  · refine call_function_entry_kw kind_sorted plain_sorted entry_sorted (args_sorted1 _) ?_
    unfold Builtin.«sorted»
    refine wpAny_bind (m := checkCount "sorted" 1 1 _) (wpAny_pure ?_)
    refine wpAny_bind (collect_tup hl ?_ hL)
    refine wpAny_bind (wpAny_newList ?_ hL)
    have hsz : ((s.heap.push (seqObj "list" #[] 0)).update s.heap.objs.size (Obj.mapSeq (· ++ vs.toArray))).objs.size = s.heap.objs.size + 1 := by
      rw [Heap.size_update, size_push']
    show wpAny _ _ _ _ _ { s with heap := copyHeap s.heap vs }
    rw [hsz]
    refine wpAny_bind (wpAny_holding (wpAny_call_entry_kw slot_list_sort ⟨_, copyHeap_at s.heap vs, rfl⟩ entry_list_sort ?body (args_list_sort _)))
    case body =>
      show wpAny (model prog w) A.in1.in1 (Builtin.«list.sort» ⟨[.ref (s.heap.objs.size + 1)], []⟩) _ _ _
      refine wpAny_mono (list_sort_vals (s := { s with heap := copyHeap s.heap vs }) (P := fun f s' => f = .done (.ret .none) ∧ Q (.ref (s.heap.objs.size + 1)) s') (copyHeap_at s.heap vs) S hL ⟨rfl, h⟩) (fun f s' hf => ?_) fun _ _ e => e
      obtain ⟨rfl, hq⟩ := hf
      exact ⟨_, rfl, wpAny_pure ⟨_, rfl, hq⟩⟩
end
/-! ### as a rule of the hand layer -/
open L2 in
/-- the values bs, in Python's order of what they are -/
def rSortD (K : PySem.W.Frag) : List V → Hp → VK → Prop := fun vs H Q => ∃ (a : Addr) (xs : List V) (l : List D), vs = [.ref a] ∧ (SqL K H a xs ∨ SqT K H a xs) ∧ xs.length = l.length ∧ DpAll K H xs (D.pys l) ∧ allLike l = true ∧
  ((∀ d ∈ l, ∃ k, d = .tup k) ∨ ∀ d ∈ l, ∀ k, d ≠ .tup k) ∧ (∀ d ∈ l, d.py.depth ≤ 30) ∧
  ∀ (bs : List (V × D)) (p : Addr), bs.Perm (xs.zip l) → bs.Pairwise (fun b c => D.lt c.2 b.2 = false) → H p = none → Q (.ref p) (upd H p (.lst (bs.map (·.1))))

open L2 in
theorem each_zip {X : Cx} {pins : List (Addr × Obj)} {σ : L2.St} {H : Hp} {s : Shared} (I : L2.Inv X pins σ H s) : ∀ {xs : List V} {l : List D} {its : List Value}, L2.Vals xs its → DpAll X.K H xs (D.pys l) → xs.length = l.length →
    EachIs (fun u (b : V × D) => L2.RelV b.1 u) its (xs.zip l) ∧ EachIs (fun u (b : V × D) => ∃ as, Reads s.heap u b.2.py as) its (xs.zip l)
  | [], [], _, .nil, _, _ => ⟨.nil, .nil⟩
  | x :: xs, [], _, _, _, h => by simp at h
  | [], _ :: _, _, _, _, h => by simp at h
  | x :: xs, d :: l, _, .cons r t, hd, hl => by
    simp only [D.pys] at hd
    cases hd with
    | cons h1 h2 =>
      obtain ⟨e1, e2⟩ := each_zip I t h2 (by simpa using hl)
      obtain ⟨as, ra⟩ := L2.Dp.reads I d.py x _ h1 r
      exact ⟨.cons r e1, .cons ⟨as, ra⟩ e2⟩
open L2 in
theorem vals_each : ∀ {out : List Value} {bs : List (V × D)}, EachIs (fun u (b : V × D) => L2.RelV b.1 u) out bs → L2.Vals (bs.map (·.1)) out
  | _, _, .nil => .nil
  | _, _, .cons h t => .cons h (vals_each t)
theorem in1_units (A : Around) : A.in1.in1.units = A.units + 2 := rfl
open L2 in
theorem cr_sortedD {X : Cx} (hu : X.A.units + 100 < cLine) : CallR X (.builtin "sorted") (rSortD X.K) := by
  intro pins s σ H vs us Q I r h
  obtain ⟨a, xs, l, rfl, hs, hlen, hd, hal, ht, hdp, q⟩ := h
  rw [Vals.ref1 r]
  obtain ⟨its, rv, hl, hz⟩ : ∃ its, L2.Vals xs its ∧ (s.heap.IsList a its.toArray ∨ s.heap.IsTuple a its.toArray) ∧ xs.length ≤ sizeLine := by
    rcases hs with hs | hs
    · obtain ⟨its, rv, p, hz⟩ := I.list hs
      exact ⟨its, rv, .inl p.isList, hz⟩
    · obtain ⟨its, rv, p, hz⟩ := I.tuple hs
      exact ⟨its, rv, .inr p, hz⟩
  obtain ⟨e1, e2⟩ := each_zip I rv hd hlen
  have hmem : ∀ b ∈ xs.zip l, b.2 ∈ l := fun b hb => (List.of_mem_zip hb).2
  have hlike : ∀ x ∈ l, ∀ y ∈ l, D.like x y = true := fun x hx y hy => by
    replace hal := allLike_slow hal
    unfold slowLike at hal
    rw [List.all_eq_true] at hal
    have := hal x hx
    rw [List.all_eq_true] at this
    exact this y hy
  have hAll : AllAlike ((xs.zip l).map fun b => b.2.py) := by
    intro d hd' d' hd''
    obtain ⟨b, hb, rfl⟩ := List.mem_map.mp hd'
    obtain ⟨c, hc, rfl⟩ := List.mem_map.mp hd''
    exact py_like _ _ (hlike _ (hmem b hb) _ (hmem c hc))
  have er : EachIs (fun v (b : V × D) => ∃ as, Reads (sortingHeap (copyHeap s.heap its) (s.heap.objs.size + 1) its) v b.2.py as) its (xs.zip l) := e2.mono fun _ _ ⟨as, r⟩ => ⟨as, PyProof.Rows.Reads.keeps (fun _ _ => sorting_copy_old) r⟩
  have hdep : ∀ d ∈ (xs.zip l).map (fun b => b.2.py), X.A.in1.in1.units + d.depth < cLine := by
    intro d hd'
    obtain ⟨b, hb, rfl⟩ := List.mem_map.mp hd'
    have := hdp _ (hmem b hb)
    rw [in1_units]
    omega
  have S : SortsAt X.prog X.w X.A.in1.in1 { s with heap := sortingHeap (copyHeap s.heap its) (s.heap.objs.size + 1) its } (dataKind (sortingHeap (copyHeap s.heap its) (s.heap.objs.size + 1) its) ((xs.zip l).map fun b => b.2.py)) its := by
    have em := each_map (R := fun v d => ∃ as, Reads (sortingHeap (copyHeap s.heap its) (s.heap.objs.size + 1) its) v d as) (fun b : V × D => b.2.py) er
    rcases ht with ht | ht
    · refine sortsAt_tups (s := { s with heap := sortingHeap (copyHeap s.heap its) (s.heap.objs.size + 1) its }) em hAll (fun d hd' => ?_) hdep
      obtain ⟨b, hb, rfl⟩ := List.mem_map.mp hd'
      obtain ⟨k, hk⟩ := ht _ (hmem b hb)
      exact ⟨D.pys k, by rw [hk]; simp [D.py]⟩
    · refine SortsAt.data (s := { s with heap := sortingHeap (copyHeap s.heap its) (s.heap.objs.size + 1) its }) em hAll (.inr fun d hd' => ?_) hdep
      obtain ⟨b, hb, rfl⟩ := List.mem_map.mp hd'
      have hb2 := hmem b hb
      refine ⟨like_is_pure _ _ (hlike _ hb2 _ hb2), fun ys e => ?_⟩
      cases hb3 : b.2 with
      | tup k => exact ht _ hb2 k hb3
      | _ => rw [hb3] at e; simp [D.py] at e
  refine sorted_any hl S (by rw [← rv.length]; exact hz) ?_
  obtain ⟨ep, he'⟩ := PyProof.Rows.sortedAll_at s.heap its (sortVals (dataKind (sortingHeap (copyHeap s.heap its) (s.heap.objs.size + 1) its) ((xs.zip l).map fun b => b.2.py)) false its its).toArray
  have eo := sortVals_data (R := fun u (b : V × D) => L2.RelV b.1 u) (enc := fun b : V × D => b.2.py) false e1 er hAll
  have hv := vals_each eo
  have hperm : ((xs.zip l).mergeSort (dataLe false fun b : V × D => b.2.py)).Perm (xs.zip l) := List.mergeSort_perm _ _
  have hlenz : (((xs.zip l).mergeSort (dataLe false fun b : V × D => b.2.py)).map (·.1)).length ≤ sizeLine := by
    rw [List.length_map, hperm.length_eq, List.length_zip]
    omega
  refine ⟨.ref _, upd H (s.heap.objs.size + 1) (.lst (((xs.zip l).mergeSort (dataLe false fun b : V × D => b.2.py)).map (·.1))), I.laid (t' := s.toks) (fun _ _ => PyProof.Rows.sortedAll_old) (Nat.le_succ _) ⟨hlenz, _, ep, hv, he'⟩, rfl, q _ _ hperm ?_ (I.hok.fresh (Nat.le_succ _))⟩
  refine (sort_pairwise (sortLe_total (listOrd itemOrd) false fun b : V × D => keyToks b.2.py) (xs.zip l)).imp_of_mem ?_
  intro b c hb hc hle
  have hb' := hmem b (hperm.mem_iff.mp hb)
  have hc' := hmem c (hperm.mem_iff.mp hc)
  rw [← py_lt _ _ (hlike _ hc' _ hb')]
  have h9 : dataLe false (fun b : V × D => b.2.py) b c = true := hle
  rw [dataLe_eq] at h9
  simpa using h9
end LK
set_option Elab.async false
set_option linter.all false
set_option autoImplicit false
set_option maxRecDepth 100000
set_option maxHeartbeats 2000000
/-! LK20: the order of things alike; what sorted tells. -/
namespace LK
open PySem PySem.Calls PySem.W PySem.SeqAt PyProof.Rows
mutual
theorem like_eqv_eq : ∀ (x y : D), D.like x y = true → D.eqv x y = true → x = y
  | .int a, y, h, e => by cases y <;> simp [D.like] at h; simp [D.eqv] at e; rw [e]
  | .str a, y, h, e => by cases y <;> simp [D.like] at h; simp [D.eqv] at e; rw [e]
  | .tup a, y, h, e => by
    cases y <;> simp [D.like] at h
    simp [D.eqv] at e
    rw [likes_eqv_eq _ _ h e]
  | .non, y, h, _ => by simp [D.like] at h
  | .bl _, y, h, _ => by simp [D.like] at h
  | .lst _, y, h, _ => by simp [D.like] at h
  | .cell _, y, h, _ => by simp [D.like] at h
theorem likes_eqv_eq : ∀ (x y : List D), D.likes x y = true → D.eqvs x y = true → x = y
  | [], [], _, _ => rfl
  | [], _ :: _, _, e => by simp [D.eqvs] at e
  | _ :: _, [], _, e => by simp [D.eqvs] at e
  | a :: r, b :: s, h, e => by
    simp [D.likes] at h
    simp [D.eqvs] at e
    rw [like_eqv_eq a b h.1 e.1, likes_eqv_eq r s h.2 e.2]
end
mutual
theorem eqv_symm_like : ∀ (x y : D), D.like x y = true → D.eqv y x = true → D.eqv x y = true
  | .int a, y, h, e => by cases y <;> simp [D.like] at h; simp [D.eqv] at e ⊢; exact e.symm
  | .str a, y, h, e => by cases y <;> simp [D.like] at h; simp [D.eqv] at e ⊢; exact e.symm
  | .tup a, y, h, e => by
    cases y <;> simp [D.like] at h
    simp only [D.eqv] at e ⊢
    exact eqvs_symm_like _ _ h e
  | .non, y, h, _ => by simp [D.like] at h
  | .bl _, y, h, _ => by simp [D.like] at h
  | .lst _, y, h, _ => by simp [D.like] at h
  | .cell _, y, h, _ => by simp [D.like] at h
theorem eqvs_symm_like : ∀ (x y : List D), D.likes x y = true → D.eqvs y x = true → D.eqvs x y = true
  | [], [], _, _ => by simp [D.eqvs]
  | [], _ :: _, _, e => by simp [D.eqvs] at e
  | _ :: _, [], _, e => by simp [D.eqvs] at e
  | a :: r, b :: s, h, e => by
    simp [D.likes] at h
    simp [D.eqvs] at e ⊢
    exact ⟨eqv_symm_like a b h.1 e.1, eqvs_symm_like r s h.2 e.2⟩
end
mutual
theorem eqv_refl : ∀ (x : D), x.pure = true → D.eqv x x = true
  | .non, _ => by simp [D.eqv]
  | .bl _, _ => by simp [D.eqv]
  | .int a, _ => by simp [D.eqv]
  | .str a, _ => by simp [D.eqv]
  | .tup a, h => by simp only [D.eqv]; exact eqvs_refl a (by simpa [D.pure] using h)
  | .lst a, h => by simp only [D.eqv]; exact eqvs_refl a (by simpa [D.pure] using h)
  | .cell _, h => by simp [D.pure] at h
theorem eqvs_refl : ∀ (x : List D), D.pures x = true → D.eqvs x x = true
  | [], _ => by simp [D.eqvs]
  | a :: r, h => by
    simp [D.pures] at h
    simp [D.eqvs, eqv_refl a h.1, eqvs_refl r h.2]
end
theorem ltNats_antisym : ∀ (a b : List Nat), ltNats a b = false → ltNats b a = false → a = b
  | [], [], _, _ => rfl
  | [], _ :: _, h, _ => by simp [ltNats] at h
  | _ :: _, [], _, h => by simp [ltNats] at h
  | a :: r, b :: s, h1, h2 => by
    simp only [ltNats] at h1 h2
    by_cases e : a = b
    · subst e
      simp at h1 h2
      rw [ltNats_antisym r s h1 h2]
    · have e' : ¬ b = a := fun z => e z.symm
      simp [e] at h1
      simp [e'] at h2
      omega
mutual
theorem lt_antisym : ∀ (x y : D), D.like x y = true → x.pure = true → y.pure = true → D.lt x y = false → D.lt y x = false → x = y
  | .int a, y, h, _, _, h1, h2 => by
    cases y <;> simp [D.like] at h
    simp [D.lt] at h1 h2
    congr 1
    omega
  | .str a, y, h, _, _, h1, h2 => by
    cases y <;> simp [D.like] at h
    simp only [D.lt] at h1 h2
    rw [ltNats_antisym _ _ h1 h2]
  | .tup a, y, h, p1, p2, h1, h2 => by
    cases y <;> simp [D.like] at h
    simp only [D.lt] at h1 h2
    rw [lts_antisym _ _ h (by simpa [D.pure] using p1) (by simpa [D.pure] using p2) h1 h2]
  | .non, y, h, _, _, _, _ => by simp [D.like] at h
  | .bl _, y, h, _, _, _, _ => by simp [D.like] at h
  | .lst _, y, h, _, _, _, _ => by simp [D.like] at h
  | .cell _, y, h, _, _, _, _ => by simp [D.like] at h
theorem lts_antisym : ∀ (x y : List D), D.likes x y = true → D.pures x = true → D.pures y = true → D.lts x y = false → D.lts y x = false → x = y
  | [], [], _, _, _, _, _ => rfl
  | [], _ :: _, _, _, _, h, _ => by simp [D.lts] at h
  | _ :: _, [], _, _, _, _, h => by simp [D.lts] at h
  | a :: r, b :: s, h, p1, p2, h1, h2 => by
    simp [D.likes] at h
    simp [D.pures] at p1 p2
    simp only [D.lts] at h1 h2
    by_cases e : D.eqv a b = true
    · have e2 := like_eqv_eq a b h.1 e
      subst e2
      rw [if_pos e] at h1 h2
      rw [lts_antisym r s h.2 p1.2 p2.2 h1 h2]
    · rw [if_neg e] at h1
      by_cases e' : D.eqv b a = true
      · exfalso
        exact absurd (eqv_symm_like a b h.1 e') e
      · rw [if_neg e'] at h2
        have e3 := lt_antisym a b h.1 p1.1 p2.1 h1 h2
        subst e3
        exact absurd (eqv_refl a p1.1) e
end
theorem lt_toks {x y : D} (h : D.like x y = true) : D.lt x y = (listOrd itemOrd).blt (keyToks x.py) (keyToks y.py) := (py_lt x y h).symm
theorem lt_asymm {x y : D} (h : D.like x y = true) (h' : D.like y x = true) (e : D.lt x y = true) : D.lt y x = false := by
  rw [lt_toks h] at e
  rw [lt_toks h']
  exact KeyOrd.klt_asymm e
theorem le_trans {x y z : D} (h1 : D.like y x = true) (h2 : D.like z y = true) (h3 : D.like z x = true) (e1 : D.lt y x = false) (e2 : D.lt z y = false) : D.lt z x = false := by
  rw [lt_toks h1] at e1
  rw [lt_toks h2] at e2
  rw [lt_toks h3]
  exact KeyOrd.kle_trans e1 e2
/-- things alike, two by two, without cells -/
structure Likes (l : List D) : Prop where
  like : ∀ x ∈ l, ∀ y ∈ l, D.like x y = true
  pure : ∀ x ∈ l, x.pure = true
theorem Likes.sub {l m : List D} (h : Likes l) (s : ∀ x ∈ m, x ∈ l) : Likes m := ⟨fun x hx y hy => h.like x (s x hx) y (s y hy), fun x hx => h.pure x (s x hx)⟩
abbrev Asc (l : List D) : Prop := l.Pairwise fun a b => D.lt b a = false
theorem insS_perm (x : D) : ∀ l : List D, (insS x l).Perm (x :: l)
  | [] => List.Perm.refl _
  | y :: r => by
    unfold insS
    split
    · exact List.Perm.refl _
    · exact ((insS_perm x r).cons y).trans (List.Perm.swap x y r)
theorem insS_asc {x : D} : ∀ {l : List D}, Likes (x :: l) → Asc l → Asc (insS x l)
  | [], _, _ => List.pairwise_singleton _ _
  | y :: r, hl, h => by
    obtain ⟨h1, h2⟩ := List.pairwise_cons.mp h
    have mx : x ∈ x :: y :: r := List.mem_cons_self ..
    have my : y ∈ x :: y :: r := List.mem_cons_of_mem _ (List.mem_cons_self ..)
    have mr : ∀ z ∈ r, z ∈ x :: y :: r := fun z hz => List.mem_cons_of_mem _ (List.mem_cons_of_mem _ hz)
    unfold insS
    split
    · rename_i e
      have e' := lt_asymm (hl.like x mx y my) (hl.like y my x mx) e
      refine List.pairwise_cons.mpr ⟨fun z hz => ?_, h⟩
      rcases List.mem_cons.mp hz with q | q
      · subst q; exact e'
      · exact le_trans (hl.like y my x mx) (hl.like z (mr z q) y my) (hl.like z (mr z q) x mx) e' (h1 z q)
    · rename_i e
      have e' : D.lt x y = false := by simpa using e
      refine List.pairwise_cons.mpr ⟨fun z hz => ?_, insS_asc (hl.sub fun z hz => ?_) h2⟩
      · rcases List.mem_cons.mp ((insS_perm x r).mem_iff.mp hz) with q | q
        · subst q; exact e'
        · exact h1 z q
      · rcases List.mem_cons.mp hz with q | q
        · subst q; exact mx
        · exact mr z q
theorem sorted_go : ∀ (l acc : List D), Likes (acc ++ l) → Asc acc → (l.foldl (fun acc x => insS x acc) acc).Perm (acc ++ l) ∧ Asc (l.foldl (fun acc x => insS x acc) acc)
  | [], acc, _, h => by simpa using h
  | x :: l, acc, hl, h => by
    have hp := insS_perm x acc
    have hsub : ∀ z ∈ x :: acc, z ∈ acc ++ x :: l := fun z hz => by
      rcases List.mem_cons.mp hz with q | q
      · subst q; simp
      · exact List.mem_append_left _ q
    have ha := insS_asc (hl.sub hsub) h
    have hl' : Likes (insS x acc ++ l) := hl.sub fun z hz => by
      rcases List.mem_append.mp hz with q | q
      · exact hsub z (hp.mem_iff.mp q)
      · exact List.mem_append_right _ (List.mem_cons_of_mem _ q)
    obtain ⟨q1, q2⟩ := sorted_go l (insS x acc) hl' ha
    refine ⟨q1.trans ?_, q2⟩
    exact (hp.append_right l).trans List.perm_middle.symm
theorem sorted_ok {l : List D} (hl : Likes l) : (sorted l).Perm l ∧ Asc (sorted l) := by
  have := sorted_go l [] (by simpa using hl) List.Pairwise.nil
  unfold sorted
  simpa using this
/-- two rows in order, of the same things, are one -/
theorem asc_unique : ∀ {l m : List D}, Likes l → l.Perm m → Asc l → Asc m → l = m
  | [], m, _, hp, _, _ => (List.nil_perm.mp hp).symm
  | a :: l, m, hl, hp, h1, h2 => by
    cases m with
    | nil => exact absurd hp.length_eq (by simp)
    | cons b m =>
      have hab : a = b := by
        by_cases e : a = b
        · exact e
        · have ha : a ∈ m := by
            rcases List.mem_cons.mp (hp.mem_iff.mp (List.mem_cons_self ..)) with q | q
            · exact absurd q e
            · exact q
          have hb : b ∈ l := by
            rcases List.mem_cons.mp (hp.mem_iff.mpr (List.mem_cons_self ..)) with q | q
            · exact absurd q.symm e
            · exact q
          have ma : a ∈ a :: l := List.mem_cons_self ..
          have mb : b ∈ a :: l := List.mem_cons_of_mem _ hb
          exact lt_antisym a b (hl.like a ma b mb) (hl.pure a ma) (hl.pure b mb) ((List.pairwise_cons.mp h2).1 a ha) ((List.pairwise_cons.mp h1).1 b hb)
      subst hab
      rw [asc_unique (hl.sub fun x hx => List.mem_cons_of_mem _ hx) hp.cons_inv (List.pairwise_cons.mp h1).2 (List.pairwise_cons.mp h2).2]

/-! ### sorted as a rule -/
mutual
theorem like_flat : ∀ x : D, D.like x x = true → x.flat = true ∧ x.pure = true
  | .int _, _ => ⟨rfl, rfl⟩
  | .str _, _ => ⟨rfl, rfl⟩
  | .tup a, h => by
    have := likes_flat a (by simpa [D.like] using h)
    exact ⟨by simpa [D.flat] using this.1, by simpa [D.pure] using this.2⟩
  | .non, h => by simp [D.like] at h
  | .bl _, h => by simp [D.like] at h
  | .lst _, h => by simp [D.like] at h
  | .cell _, h => by simp [D.like] at h
theorem likes_flat : ∀ x : List D, D.likes x x = true → D.flats x = true ∧ D.pures x = true
  | [], _ => ⟨rfl, rfl⟩
  | a :: r, h => by
    simp [D.likes] at h
    have h1 := like_flat a h.1
    have h2 := likes_flat r h.2
    exact ⟨by simp [D.flats, h1.1, h2.1], by simp [D.pures, h1.2, h2.2]⟩
end
theorem allLike_likes {l : List D} (h : allLike l = true) : Likes l := by
  have q : ∀ x ∈ l, ∀ y ∈ l, D.like x y = true := fun x hx y hy => by
    replace h := allLike_slow h
    unfold slowLike at h
    rw [List.all_eq_true] at h
    have := h x hx
    rw [List.all_eq_true] at this
    exact this y hy
  exact ⟨q, fun x hx => (like_flat x (q x hx x hx)).2⟩
theorem flats_of {l : List D} (h : ∀ x ∈ l, x.flat = true) : D.flats l = true := by
  induction l with
  | nil => rfl
  | cons a r ih => simp [D.flats, h a (List.mem_cons_self ..), ih fun x hx => h x (List.mem_cons_of_mem _ hx)]
theorem tup_or {l : List D} (h : Likes l) : (∀ d ∈ l, ∃ k, d = .tup k) ∨ ∀ d ∈ l, ∀ k, d ≠ .tup k := by
  cases l with
  | nil => exact .inl fun d hd => by cases hd
  | cons a r =>
    have ha : a ∈ a :: r := List.mem_cons_self ..
    cases a with
    | tup k =>
      refine .inl fun d hd => ?_
      have := h.like _ ha d hd
      cases d <;> simp [D.like] at this
      exact ⟨_, rfl⟩
    | _ =>
      refine .inr fun d hd k e => ?_
      subst e
      have := h.like _ ha _ hd
      simp [D.like] at this
theorem reps_zip {ρ : Rho} {H : L2.Hp} : ∀ {l : List D} {vs : List L2.V}, Reps ρ H l vs → ∀ b ∈ vs.zip l, Rep ρ H b.2 b.1
  | [], vs, h, b, hb => by simp at hb
  | d :: l, vs, h, b, hb => by
    simp only [Reps] at h
    obtain ⟨v, r, rfl, h1, h2⟩ := h
    rw [List.zip_cons_cons] at hb
    rcases List.mem_cons.mp hb with q | q
    · subst q; exact h1
    · exact reps_zip h2 b q
theorem reps_of {ρ : Rho} {H : L2.Hp} : ∀ {bs : List (L2.V × D)}, (∀ b ∈ bs, Rep ρ H b.2 b.1) → Reps ρ H (bs.map (·.2)) (bs.map (·.1))
  | [], _ => by simp [Reps]
  | b :: bs, h => by
    simp only [List.map_cons, Reps]
    exact ⟨_, _, rfl, h b (List.mem_cons_self ..), reps_of fun c hc => h c (List.mem_cons_of_mem _ hc)⟩
open L2 in
variable [Tt] in
theorem us_sorted {K : PySem.W.Frag} : UnS .sorted (rSortD K) := by
  intro S ρ H x vx d Q s rx h q
  simp only [unD, Option.bind_eq_some_iff] at h
  obtain ⟨l, hl, k, hk, h⟩ := h
  split at h
  case isFalse => cases h
  rename_i hc
  cases h
  rw [Bool.and_eq_true, List.all_eq_true] at hc
  have hL := allLike_likes hc.1
  obtain ⟨a, vs, rfl, hq, hz, r1⟩ := Rep.items (K := K) s hl rx
  have r2 := Reps.thaw s l k vs hk r1
  have r3 : Reps ρ H k vs := Reps.flat k vs (flats_of fun y hy => (like_flat y (hL.like y hy y hy)).1) r2
  refine ⟨a, vs, k, rfl, hq, r2.length, Reps.dp k vs (thaws_pure S l k hk) r2, hc.1, tup_or hL, fun y hy => ?_, fun bs p hp ha hf => ?_⟩
  · have := shal2_depth (a := y) (b := y) (by unfold shal2; rw [hc.2 y hy]; rfl)
    omega
  · have e1 : (vs.zip k).map (·.2) = k := by
      rw [List.map_snd_zip]
      rw [r2.length]
      exact Nat.le_refl _
    have hperm : (bs.map (·.2)).Perm k := by
      have := hp.map (·.2)
      rwa [e1] at this
    obtain ⟨s1, s2⟩ := sorted_ok hL
    have e2 : bs.map (·.2) = sorted k := asc_unique (hL.sub fun y hy => hperm.mem_iff.mp hy) (hperm.trans s1.symm) (List.pairwise_map.mpr ha) s2
    have rr := reps_of (bs := bs) fun b hb => reps_zip r3 b (hp.mem_iff.mp hb)
    rw [e2] at rr
    refine q _ _ (same_new hf) (Rep.lst_new hf s.live ?_ rr)
    rw [s1.length_eq, ← r2.length, r1.length]
    exact hz
end LK
set_option Elab.async false
set_option linter.all false
set_option autoImplicit false
set_option maxRecDepth 100000
set_option maxHeartbeats 4000000
/-! LK26: sorted(xs, key=lambda x: ..). -/
namespace LK
open PySem PySem.Calls PySem.W PySem.SeqAt PyProof.Rows
/-! ### the sorting itself -/
section
variable {prog : Program} {w : World} {A : Around} {E : Value → Shared → Prop} {s : Shared} {a kS : Addr} {vs : List Value} {keys : Array Value} {e e1 : Nat} {P : PySem.Fin → Shared → Prop}
/-- the heap behind: the two lists are other ones, all else stands -/
structure Behind (h h' : Heap) (a kS : Addr) (out : List Value) : Prop where
  keep : ∀ b o, b ≠ kS → b ≠ a → h.get? b = some o → h'.get? b = some o
  ks : ∃ c, h'.get? kS = some (seqObj "list" #[] c)
  at_ : ∃ c, h'.get? a = some (seqObj "list" out.toArray c)
theorem sk_tail {st : SortSt} {out : List Value} (nk : s.heap.get? kS = some (seqObj "list" keys e)) (na : s.heap.get? a = some (seqObj "list" #[] e1)) (hka : kS ≠ a) (hsz : keys.size ≤ sizeLine) (hz : out.length ≤ sizeLine) (hfl : failedOf st = none)
    (ho : (arrOf st).map (·.2) = out.toArray) (h : ∀ h', Behind s.heap h' a kS out → P (.done (.ret .none)) { s with heap := h' }) : wpAny (model prog w) A (ksk_tail a false e1 (.ref kS) st) P E s := by
  have q1 := Heap.SameBut.update s.heap kS (Obj.mapSeq fun _ => (#[] : Array Value))
  have na1 : (s.heap.update kS (Obj.mapSeq fun _ => (#[] : Array Value))).get? a = some (seqObj "list" #[] e1) := (q1.2 a hka.symm).trans na
  have q2 := Heap.SameBut.update (s.heap.update kS (Obj.mapSeq fun _ => (#[] : Array Value))) a (Obj.mapSeq fun _ => out.toArray)
  have big : out.toArray.size ≤ sizeLine + 1 := by rw [List.size_toArray]; omega
  unfold ksk_tail
  dsimp only
  rw [ho]
  refine wpAny_bind (listUpdate_at nk rfl ?_ hsz (Nat.zero_le _))
  refine wpAny_bind (wpAny_letGo (wpAny_bind (seqEpoch_at na1 rfl ?_)))
  refine wpAny_bind (listUpdate_at na1 rfl ?_ (Nat.zero_le _) big)
  rw [hfl]
  simp only [bne_self_eq_false, Bool.false_eq_true, if_false]
  refine wpAny_pure (h _ ⟨fun b o hb hb2 q => (q2.2 b hb2).trans ((q1.2 b hb).trans q), ?_, ?_⟩)
  · obtain ⟨c, hc⟩ : ∃ c, (s.heap.update kS (Obj.mapSeq fun _ => (#[] : Array Value))).get? kS = some (seqObj "list" #[] c) := ⟨_, get?_update_seq nk fun _ => #[]⟩
    exact ⟨c, (q2.2 kS hka).trans hc⟩
  · exact ⟨_, get?_update_seq na1 fun _ => out.toArray⟩
theorem sk_end {κ : PyProof.Rows.KeyKind} (nk : s.heap.get? kS = some (seqObj "list" keys e)) (na : s.heap.get? a = some (seqObj "list" #[] e1)) (hka : kS ≠ a) (S : SortsAt prog w A s κ keys.toList) (hsz : keys.size = vs.length) (hZ : vs.length ≤ sizeLine)
    (h : ∀ h', Behind s.heap h' a kS (sortVals κ false keys.toList vs) → P (.done (.ret .none)) { s with heap := h' }) : wpAny (model prog w) A (ksk_end a false vs.toArray e1 (.ref kS) keys) P E s := by
  obtain ⟨kd, h1, h2⟩ := S.kind
  have hkl : keys.toList.length = vs.length := by rw [Array.length_toList]; exact hsz
  have hK : PyProof.Rows.KeysOf κ (keys.zip vs.toArray) := keysOf_zip S.keys
  have hol : (sortVals κ false keys.toList vs).length = vs.length := sortVals_length false hkl
  have hss : (keys.zip vs.toArray).size = vs.length := by rw [Array.size_zip, hsz, List.size_toArray, Nat.min_self]
  have out : ∀ z : SortSt, (arrOf z).Perm (keys.zip vs.toArray) → SortedToK κ (arrOf z) (keys.zip vs.toArray).size → Stable κ (arrOf z) (keys.zip vs.toArray) → (arrOf z).map (·.2) = (sortVals κ false keys.toList vs).toArray := by
    intro z p1 p2 p3
    have q := congrArg List.toArray (sort_out (rev := false) (keys := keys) (items := vs.toArray) (xs := arrOf z) (κ := κ) hK p1 p2 p3)
    rw [Array.toArray_toList] at q
    exact q
  have big : keys.size ≤ sizeLine := by omega
  have big2 : (sortVals κ false keys.toList vs).length ≤ sizeLine := by omega
  unfold ksk_end
  dsimp only
  simp only [Bool.false_eq_true, if_false]
  by_cases hl : vs.toArray.size < 2
  · rw [if_pos hl, if_pos hl]
    refine wpAny_bind (wpAny_pure ?_)
    rw [StateT.run_pure]
    refine wpAny_bind (wpAny_pure (sk_tail (st := SortSt.mk' general' (keys.zip vs.toArray) #[] 7 none) nk na hka big big2 rfl (out _ (Array.Perm.refl _) (fun i j hij hj => ?_) (Stable.refl _)) h))
    rw [hss] at hj
    rw [List.size_toArray] at hl
    obtain rfl : i = j := by omega
    exact KeyOrd.kle_refl _
  · rw [if_neg hl, if_neg hl]
    rw [List.size_toArray] at hl
    refine wpAny_bind (h2 (by omega) _ (wpAny_bind (wpAny_mono (H.wpS_sortRunsSt (κ := κ) (kd := kd) (a₀ := keys.zip vs.toArray) (st := SortSt.mk' kd (keys.zip vs.toArray) #[] 7 none)
      (Q := fun _ z => failedOf z = none ∧ (arrOf z).map (·.2) = (sortVals κ false keys.toList vs).toArray)
      h1 hK ⟨Array.Perm.refl _, rfl, rfl⟩ rfl (Stable.refl _) (by rw [hss]; omega) fun z a1 a2 a3 a4 => ⟨a2, out z a1 a3 a4⟩) ?_ fun _ _ e => e)))
    rintro ⟨⟨⟩, z⟩ s' ⟨rfl, hf, ho⟩
    exact sk_tail nk na hka big big2 hf ho h
end
end LK
set_option Elab.async false
set_option linter.all false
set_option autoImplicit false
set_option maxRecDepth 100000
set_option maxHeartbeats 4000000
/-! LK26b: a stable sort by keys is one. -/
namespace LK
open PySem PySem.Calls PySem.W PySem.SeqAt PyProof.Rows
section
variable {β : Type}
def insG (le : β → β → Bool) (p : β) : List β → List β
  | [] => [p]
  | q :: r => if le p q then p :: q :: r else q :: insG le p r
def sortG (le : β → β → Bool) : List β → List β
  | [] => []
  | p :: r => insG le p (sortG le r)
theorem insG_mid (le : β → β → Bool) (p : β) : ∀ (l1 l2 : List β), (∀ b ∈ l1, le p b = false) → (∀ b ∈ l2, le p b = true) → insG le p (l1 ++ l2) = l1 ++ p :: l2
  | [], [], _, _ => rfl
  | [], b :: l2, _, h => by
    show (if le p b then p :: b :: l2 else b :: insG le p l2) = _
    rw [if_pos (h b (List.mem_cons_self ..))]
    rfl
  | b :: l1, l2, h, h2 => by
    show (if le p b then p :: b :: (l1 ++ l2) else b :: insG le p (l1 ++ l2)) = _
    rw [if_neg (by rw [h b (List.mem_cons_self ..)]; simp), insG_mid le p l1 l2 (fun x hx => h x (List.mem_cons_of_mem _ hx)) h2]
    rfl
theorem merge_ins {le : β → β → Bool} (tr : ∀ a b c, le a b = true → le b c = true → le a c = true) (tot : ∀ a b, (le a b || le b a) = true) : ∀ l : List β, l.mergeSort le = sortG le l
  | [] => by simp [sortG]
  | p :: l => by
    obtain ⟨l1, l2, h1, h2, h3⟩ := List.mergeSort_cons tr tot p l
    have hs := List.pairwise_mergeSort (le := le) tr tot (p :: l)
    rw [h1] at hs
    have h4 : ∀ b ∈ l2, le p b = true := fun b hb => (List.pairwise_cons.mp (List.pairwise_append.mp hs).2.1).1 b hb
    show _ = insG le p (sortG le l)
    rw [h1, ← merge_ins tr tot l, h2]
    exact (insG_mid le p l1 l2 (fun b hb => by have := h3 b hb; simpa using this) h4).symm
theorem insG_mem {le : β → β → Bool} {p x : β} : ∀ {l : List β}, x ∈ insG le p l → x = p ∨ x ∈ l
  | [], h => by simp [insG] at h; exact .inl h
  | q :: r, h => by
    unfold insG at h
    split at h
    · simpa using h
    · rcases List.mem_cons.mp h with e | h
      · exact .inr (by simp [e])
      · exact (insG_mem h).imp id (List.mem_cons_of_mem _)
theorem sortG_mem {le : β → β → Bool} {x : β} : ∀ {l : List β}, x ∈ sortG le l → x ∈ l
  | [], h => by simp [sortG] at h
  | p :: r, h => by
    rcases insG_mem h with e | h
    · simp [e]
    · exact List.mem_cons_of_mem _ (sortG_mem h)
/-- seen through g -/
theorem insG_map {γ : Type} {le : β → β → Bool} {le' : γ → γ → Bool} (g : β → γ) (p : β) : ∀ (l : List β), (∀ b ∈ l, le p b = le' (g p) (g b)) → (insG le p l).map g = insG le' (g p) (l.map g)
  | [], _ => rfl
  | q :: r, h => by
    show (if le p q then p :: q :: r else q :: insG le p r).map g = if le' (g p) (g q) then _ else _
    rw [← h q (List.mem_cons_self ..)]
    split
    · rfl
    · rw [List.map_cons, insG_map g p r fun b hb => h b (List.mem_cons_of_mem _ hb)]
theorem sortG_map {γ : Type} {le : β → β → Bool} {le' : γ → γ → Bool} (g : β → γ) : ∀ (l : List β), (∀ a ∈ l, ∀ b ∈ l, le a b = le' (g a) (g b)) → (sortG le l).map g = sortG le' (l.map g)
  | [], _ => rfl
  | p :: r, h => by
    show (insG le p (sortG le r)).map g = insG le' (g p) (sortG le' (r.map g))
    rw [insG_map (le' := le') g p _ fun b hb => h p (List.mem_cons_self ..) b (List.mem_cons_of_mem _ (sortG_mem hb)), sortG_map g r fun a ha b hb => h a (List.mem_cons_of_mem _ ha) b (List.mem_cons_of_mem _ hb)]
end
def leK (p q : D × D) : Bool := !D.lt q.2 p.2
theorem insK_G (p : D × D) : ∀ l, insK p l = insG leK p l
  | [] => rfl
  | q :: r => by
    show (if D.lt q.2 p.2 then q :: insK p r else p :: q :: r) = if leK p q then p :: q :: r else q :: insG leK p r
    rw [insK_G p r]
    unfold leK
    cases D.lt q.2 p.2 <;> rfl
theorem sortP_G : ∀ l, sortP l = sortG leK l
  | [] => rfl
  | p :: r => by
    show insK p (sortP r) = insG leK p (sortG leK r)
    rw [insK_G, sortP_G r]
theorem sortP_mem {x : D × D} {l : List (D × D)} (h : x ∈ sortP l) : x ∈ l := by rw [sortP_G] at h; exact sortG_mem h
/-- the list that key= leaves -/
theorem merge_sortP {β : Type} {l : List β} (g : β → D × D) (hl : ∀ a ∈ l, ∀ b ∈ l, D.like (g a).2 (g b).2 = true) : (l.mergeSort (dataLe false fun b => (g b).2.py)).map g = sortP (l.map g) := by
  have t := sortLe_total (listOrd itemOrd) false fun b : β => keyToks (g b).2.py
  rw [merge_ins (le := dataLe false fun b => (g b).2.py) (fun a b c => t.trans a b c) (fun a b => Bool.or_eq_true_iff.mpr (t.total a b)), sortP_G]
  refine sortG_map g l fun a ha b hb => ?_
  rw [dataLe_eq]
  show (!dataLt (g b).2.py (g a).2.py) = !D.lt (g b).2 (g a).2
  rw [py_lt _ _ (hl b hb a ha)]
end LK
set_option Elab.async false
set_option linter.all false
set_option autoImplicit false
set_option maxRecDepth 100000
set_option maxHeartbeats 4000000
/-! LK27: a lambda of one parameter is called; the keys of a row. -/
namespace LK
open PySem PySem.Spec PyProof.Rows L2
variable [Tt]
theorem cx_none {P : Program} {w : World} {outer : List PySem.Env} {H : Hp} {s s' : Shared} {e : Value} (h : L2.CX P w outer H s (fun _ _ _ => False) e s') : False := by
  obtain ⟨_, _, _, _, _, _, _, _, _, _, _, _, q⟩ := h
  exact q
/-- an address of our own, beside all that the frame knows -/
structure Fre (X : Cx) (pins : List (Addr × Obj)) (b : Addr) : Prop where
  hi : X.s_0.heap.objs.size ≤ b
  loc : b ≠ X.env.locals
  cel : ∀ x c, X.env.cells.lookup x = some c → c ≠ b
  pin : ∀ p ∈ X.pn ++ pins, p.1 ≠ b
  stk : b ∉ frs X.stack
section
variable {X : Cx} {pins : List (Addr × Obj)} {σ : L2.St} {H H' : Hp} {s s' : Shared} {h' : Heap}
theorem fre_new (I : Inv X pins σ H s) {b : Addr} (h : s.heap.objs.size ≤ b) : Fre X pins b where
  hi := Nat.le_trans I.sz h
  loc := fun z => by have := I.lt; rw [← z] at this; exact Nat.lt_irrefl _ (Nat.lt_of_lt_of_le this h)
  cel := fun x c e z => by
    obtain ⟨v, o, ho, _⟩ := I.cell x c e
    have := Heap.lt_size ho
    rw [z] at this
    exact Nat.lt_irrefl _ (Nat.lt_of_lt_of_le this h)
  pin := fun p hp z => by
    have := Heap.lt_size (I.pin p hp).1
    rw [z] at this
    exact Nat.lt_irrefl _ (Nat.lt_of_lt_of_le this h)
  stk := fun z => by
    rcases List.mem_cons.mp (I.stkSub _ z) with e | e
    · have h1 := I.lt
      rw [← e] at h1
      exact Nat.lt_irrefl _ (Nat.lt_of_lt_of_le h1 h)
    · exact I.nofs h e
/-- things of our own change -/
theorem inv_chg {t' : Nat} (ch : List Addr) (I : Inv X pins σ H s) (hch : ∀ b ∈ ch, Fre X pins b) (hn : ∀ b ∈ ch, H b = none) (keep : ∀ b o, b ∉ ch → s.heap.get? b = some o → h'.get? b = some o) (hH : ∀ b, b ∉ ch → H' b = H b)
    (hok : ∀ b ∈ ch, ∀ u, H' b = some u → ObjOk X.prog X.w H' h' b u) : Inv X pins σ H' { s with heap := h', toks := t' } := by
  have nch : ∀ b u, H b = some u → b ∉ ch := fun b u e z => by rw [hn b z] at e; cases e
  refine I.step (g' := s.gens) (d' := s.drawn) (ch := ch) (fun b hb => ⟨.inr (hch b hb).hi, (hch b hb).loc, (hch b hb).cel, (hch b hb).pin⟩) (fun b o _ _ hc e _ => keep b o hc e) (fun b o _ _ hc e _ => ⟨o.slots, keep b o hc e⟩)
    (fun b o hc _ e => (hH b hc).trans e) (fun b o hc e => ⟨o, keep b o hc e⟩) (fun b xs e => (hH b (nch b _ e)).trans e) (fun b o u e => (hH b (nch b _ e)).trans e) (fun b ps e => ⟨#[], by rw [Array.append_empty]; exact (hH b (nch b _ e)).trans e⟩) (fun m hm => ?_) (fun b u e => ?_) I.bare
  · obtain ⟨ob, es, ep, ho, r⟩ := hm
    exact ⟨ob, es, ep, keep _ ob (fun z => (hch _ z).loc rfl) ho, r⟩
  · by_cases hb : b ∈ ch
    · exact hok b hb u e
    · have e' : H b = some u := (hH b hb).symm.trans e
      exact (I.hok b u e').stay (fun d v hd q => keep d v (by
        rcases hd with z | z
        · rw [z]; exact hb
        · exact nch d _ z) q) (fun d q => (hH d (nch d _ q)).trans q) fun d xs q => (hH d (nch d _ q)).trans q
/-! ### the call -/
theorem clo_none {cells : List (Str × Addr)} : ∀ {names : List (Str × NameKind)} {acc : List (Str × Addr)}, (∀ y ∈ names, y.2 ≠ .free) → cloFrom cells names acc = acc
  | [], acc, _ => rfl
  | (n, k) :: r, acc, h => by
    have hk := h (n, k) (List.mem_cons_self ..)
    have : (k == NameKind.free) = false := by simpa using hk
    unfold cloFrom
    rw [this]
    exact clo_none fun y hy => h y (List.mem_cons_of_mem _ hy)
/-- the body's context -/
abbrev lamX (X : Cx) (A : Around) (x q : Str) (scope : Scope) (f c' : Addr) (s : Shared) (H : Hp) : Cx := cxOf (L2.CX X.prog X.w) X.prog X.w X.K X.mg X.base [x] q scope f (.ref c') A X.stack s H (fun _ _ _ => False)
theorem lam_run {A : Around} {x q : Str} {scope : Scope} {f c' : Addr} {params : Arguments} {body : Expr} {pm ctv u : Value} {v : V} {tb : TE} {Q : VK} (S : FnScope [x] [x] scope) (e0 : Env0 X.prog X.w X.K X.mg X.base A X.stack s H) (hd : A.handled = none) (hdp : A.depth < recursionLimit)
    (hf : s.heap.get? f = some (PySem.W.kla_obj "<lambda>" q params body scope [] pm c' ctv)) (hc : H c' = some (LamX.CodeO c' q)) (hbind : ∀ v : Value, bindArgs (PySem.W.kla_fn "<lambda>" q params body scope [] pm (.ref c') ctv) ⟨[v], []⟩ = pure [(x, v)])
    (hbody : PE (lamX X A x q scope f c' s H) body tb) (rv : RelV v u) (ht : tb [some v] H Q) :
    codeAny (model X.prog X.w) A (.call (.ref f) ⟨[u], []⟩) (CR (L2.CX X.prog X.w) X.stack X.prog X.w H s Q (fun _ _ _ => False)) s := by
  obtain ⟨⟨oc, vs, t, hoc, hdc, hvc⟩, _, _⟩ := e0.hok c' _ hc
  have lim : s.heap.NoLimit := e0.mod.nolimit.keeps fun b o e => (e0.bs b o e).1
  refine PySem.W.kla_callFunE hdp hf rfl S.co S.gen rfl ⟨c', oc, vs, t, rfl, hoc, hdc, hvc⟩ ?_
  rw [hbind]
  refine wpAny_pure (wpAny_newFunctionEnv_cells S.kind (fun y hy => ?_) fun env he s1 xx => ?_)
  · rw [List.mem_singleton.mp hy]
    rcases S.par x (List.mem_cons_self ..) with z | z
    · exact .inl z
    · exact .inr ⟨z, PySem.W.cellsFrom_some _ _ _ (.inl z)⟩
  subst he
  refine ⟨lim.keeps xx.toInCall.keep, ?_⟩
  have J : Inv (lamX X A x q scope f c' s H) [] (start [x] [v]) H s1 := inv_start (ps := [x]) (us := [u]) (vs := [v]) S hd e0 rfl (.cons rv .nil) xx
  refine PySem.W.kla_codeExpr (wpAny_mono (hbody.run [] s1 (start [x] [v]) H Q J ht) (fun w s' hq => ?_) fun e s' hq => hq)
  obtain ⟨w', H', J', rw', q⟩ := hq
  exact ⟨w', H', J'.os, J'.bare, J'.base, J'.hok, rw', q⟩
end
end LK
set_option Elab.async false
set_option linter.all false
set_option autoImplicit false
set_option maxRecDepth 100000
set_option maxHeartbeats 4000000
/-! LK28: sorted(xs, key=lambda x: ..). -/
namespace LK
open PySem PySem.Spec PyProof.Rows L2
open PySem.W (EachIs AllAlike SortsAt dataKind sortVals dataLe keyToks)
variable [Tt]
/-- the parameters that lambdas have here -/
def okPar (x : Str) : Bool := x = "some" || x = "pair" || x = "places"
abbrev par1 (x : Str) (p : Pos) : Arguments := ⟨[], [⟨x, none, p⟩], none, [], [], none, []⟩
theorem lam_bind1 {n q x : Str} {p : Pos} {body : Expr} {scope : Scope} {pm cd ctv v : Value} (h : okPar x = true) : bindArgs (PySem.W.kla_fn n q (par1 x p) body scope [] pm cd ctv) ⟨[v], []⟩ = pure [(x, v)] := by
  unfold okPar at h
  simp only [Bool.or_eq_true, decide_eq_true_eq] at h
  rcases h with (h | h) | h <;> subst h <;> rfl
theorem lam_def1 {x : Str} {p : Pos} {env : PySem.Env} : defaultsOf (par1 x p) env = ([], []) := rfl
section
variable {X : Cx} {W : WX} {pins : List (Addr × Obj)} {σ : L2.St} {H : Hp} {s : Shared}
theorem reps_two {ρ : Rho} {H : Hp} {α : Type} (f : α → V) (g : α → D) : ∀ {m : List α}, (∀ b ∈ m, Rep ρ H (g b) (f b)) → Reps ρ H (m.map g) (m.map f)
  | [], _ => by simp [Reps]
  | b :: m, h => by
    simp only [List.map_cons, Reps]
    exact ⟨_, _, rfl, h b (List.mem_cons_self ..), reps_two f g fun c hc => h c (List.mem_cons_of_mem _ hc)⟩
/-- an item's value, the item, its key -/
abbrev B3 := (V × D) × D
theorem reps_mem {ρ : Rho} {H : Hp} : ∀ {l : List D} {vs : List V}, Reps ρ H l vs → ∀ p ∈ vs.zip l, Rep ρ H p.2 p.1
  | [], vs, _, p, hp => by simp at hp
  | d :: l, vs, h, p, hp => by
    simp only [Reps] at h
    obtain ⟨v, r, rfl, h1, h2⟩ := h
    rcases List.mem_cons.mp hp with e | hp
    · subst e; exact h1
    · exact reps_mem h2 p hp
theorem vals_zip {α : Type} : ∀ {vs : List V} {its : List Value} {bs : List α}, Vals vs its → bs.length = vs.length → PySem.W.EachIs (fun u (b : V × α) => RelV b.1 u) its (vs.zip bs)
  | _, _, [], .nil, _ => .nil
  | _, _, [], .cons _ _, h => by simp at h
  | _, _, b :: bs, .nil, h => by simp at h
  | _, _, b :: bs, .cons r t, h => .cons r (vals_zip t (by simpa using h))
theorem each_reads (I : Inv X pins σ H s) {ρ : Rho} : ∀ {ks : List D} {kvs : List V} {us : List Value}, D.pures ks = true → Vals kvs us → Reps ρ H ks kvs → PySem.W.EachIs (fun u d => ∃ as, Reads s.heap u d as) us (ks.map D.py)
  | [], kvs, us, _, v, r => by
    simp only [Reps] at r
    subst r
    cases v
    exact .nil
  | d :: ks, kvs, us, p, v, r => by
    simp [D.pures] at p
    simp only [Reps] at r
    obtain ⟨w, t, rfl, r1, r2⟩ := r
    cases v with
    | cons q v =>
      obtain ⟨as, ra⟩ := Dp.reads I d.py w _ (Rep.dp d w p.1 r1) q
      exact .cons ⟨as, ra⟩ (each_reads I p.2 v r2)

/-- the keys of things alike can be sorted -/
theorem keys_sort {A : Around} (I : Inv X pins σ H s) {ρ : Rho} {ks : List D} {kvs : List V} {us : List Value} (p : D.pures ks = true) (v : Vals kvs us) (r : Reps ρ H ks kvs) (hal : allLike ks = true) (hdp : ks.all (D.shal 30) = true) (hu : A.units + 64 < cLine) :
    AllAlike (ks.map D.py) ∧ SortsAt X.prog X.w A s (dataKind s.heap (ks.map D.py)) us := by
  have hlike : ∀ x ∈ ks, ∀ y ∈ ks, D.like x y = true := fun x hx y hy => by
    replace hal := allLike_slow hal
    unfold slowLike at hal
    rw [List.all_eq_true] at hal
    have := hal x hx
    rw [List.all_eq_true] at this
    exact this y hy
  have em := each_reads I p v r
  have hAll : AllAlike (ks.map D.py) := by
    intro d hd d' hd'
    obtain ⟨b, hb, rfl⟩ := List.mem_map.mp hd
    obtain ⟨c, hc, rfl⟩ := List.mem_map.mp hd'
    exact py_like _ _ (hlike _ hb _ hc)
  have hdep : ∀ d ∈ ks.map D.py, A.units + d.depth < cLine := by
    intro d hd
    obtain ⟨b, hb, rfl⟩ := List.mem_map.mp hd
    rw [List.all_eq_true] at hdp
    have := py_depth 30 b (hdp b hb)
    omega
  refine ⟨hAll, ?_⟩
  by_cases ht : ∃ d ∈ ks, ∃ k, d = .tup k
  · obtain ⟨d0, hd0, k0, rfl⟩ := ht
    refine sortsAt_tups em hAll (fun d hd => ?_) hdep
    obtain ⟨b, hb, rfl⟩ := List.mem_map.mp hd
    have := hlike _ hd0 b hb
    cases b <;> simp [D.like] at this
    rename_i k
    exact ⟨D.pys k, by simp [D.py]⟩
  · refine SortsAt.data em hAll (.inr fun d hd => ?_) hdep
    obtain ⟨b, hb, rfl⟩ := List.mem_map.mp hd
    refine ⟨like_is_pure _ _ (hlike _ hb _ hb), fun ys e => ?_⟩
    cases b with
    | tup k => exact ht ⟨_, hb, k, rfl⟩
    | _ => simp [D.py] at e
/-- what is known of a lambda -/
structure LamAt (X : Cx) (A : Around) (x q : Str) (scope : Scope) (body : Expr) (kf : Env → Store → Res D) : Prop where
  S : FnScope [x] [x] scope
  par : okPar x = true
  hd : A.handled = none
  dp : A.depth < recursionLimit
  un : A.units + 64 < cLine
  body : ∀ (f c' : Addr) (s : Shared) (H : Hp), PE (lamX X A x q scope f c' s H) body (tD (lamX X A x q scope f c' s H) W0 kf)
/-- how it stands behind some turns -/
structure Turn (X : Cx) (pins : List (Addr × Obj)) (σ : L2.St) (env : Env) (ρ : Rho) (H : Hp) (fo : Obj) (f c' a kS e1 : Nat) (q : Str) (kf : Env → Store → Res D) (l all : List D) (Sz : Store) (i : Nat) (s : Shared) : Prop where
  ex : ∃ H' ρ' S', Inv X pins σ H' s ∧ Frm ρ H H' ∧ Grow ρ ρ' H ∧ Ok ρ' env S' σ H' ∧ s.heap.get? f = some fo ∧ H' f = none ∧ s.heap.get? a = some (seqObj "list" #[] e1) ∧ H' a = none ∧
    ∃ kA e kvs kds rest, s.heap.get? kS = some (seqObj "list" kA e) ∧ H' kS = none ∧ Vals kvs kA.toList ∧ Reps ρ' H' kds kvs ∧ kds.length = i ∧ keysR (fun x S => kf [some x] S) (l.drop i) S' = .ok rest Sz ∧ all = kds ++ rest
theorem sk_rest {x q : Str} {scope : Scope} {f c' a kS : Addr} {e1 : Nat} {p : Pos} {body : Expr} {pm ctv : Value} {kf : Env → Store → Res D} {env : Env} {S Sz : Store} {ρ : Rho} {l all : List D} {vs : List V} {its : List Value} {P : PySem.Fin → Shared → Prop} {E : Value → Shared → Prop}
    (L : LamAt X X.A.in1.in1 x q scope body kf) (I : Inv X pins σ H s) (k : Ok ρ env S σ H) (hf : s.heap.get? f = some (PySem.W.kla_obj "<lambda>" q (par1 x p) body scope [] pm c' ctv)) (fn : H f = none) (ff : f ∉ frs X.stack) (hc : H c' = some (LamX.CodeO c' q))
    (ha : s.heap.get? a = some (seqObj "list" #[] e1)) (an : H a = none) (fa : Fre X pins a) (hk : s.heap.get? kS = some (seqObj "list" #[] 0)) (kn : H kS = none) (fk : Fre X pins kS) (hka : kS ≠ a) (hkf : kS ≠ f) (rl : Reps ρ H l vs) (rv : Vals vs its) (hz : l.length ≤ line)
    (hrun : keysR (fun x S => kf [some x] S) l S = .ok all Sz) (hal : allLike all = true) (hdp : all.all (D.shal 30) = true) (hpu : all.all D.pure = true)
    (h : ∀ s2 H2 ρ2, Inv X pins σ H2 s2 → Frm ρ H H2 → Grow ρ ρ2 H → Ok ρ2 env Sz σ H2 → Rep ρ2 H2 (.lst (sortKD l all)) (.ref a) → P (.done (.ret .none)) s2) :
    wpAny (model X.prog X.w) X.A.in1.in1 (ksk_rest a (.ref f) false its.toArray e1 (.ref kS)) P E s := by
  have hvl : its.length = l.length := by rw [← rv.length, rl.length]
  have c0 : ∀ {ρ2 : Rho} {S2 : Store} {H2 : Hp}, SRep ρ2 S2 H2 → H2 c' = some (LamX.CodeO c' q) → c' ∉ ρ2.c := fun s2 e m => by
    obtain ⟨ws, z⟩ := s2.live _ (.inl m)
    rw [e] at z
    unfold LamX.CodeO at z
    cases z
  unfold ksk_rest
  refine wpAny_bind (wpAny_rule ?_)
  rw [List.forIn_toArray]
  refine wpAny_bind (ksk_fold (Turn X pins σ env ρ H (PySem.W.kla_obj "<lambda>" q (par1 x p) body scope [] pm c' ctv) f c' a kS e1 q kf l all Sz) its 0 s
    ⟨H, ρ, S, I, Frm.refl _ _, Grow.refl _ _, k, hf, fn, ha, an, #[], 0, [], [], all, hk, kn, .nil, by simp [Reps], rfl, by simpa using hrun, rfl⟩ ?step ?done)
  case step =>
    rintro j u s' hu ⟨H1, ρ1, S1, I1, f1, g1, k1, hf1, fn1, ha1, an1, kA, e, kvs, kds, rest, hk1, kn1, vk, rk, hj, hr, hall⟩
    simp only [Nat.zero_add] at hj hr ⊢
    have hjl : j < l.length := by rw [← hvl]; exact (List.getElem?_eq_some_iff.mp hu).1
    have hd : l[j]? = some l[j] := List.getElem?_eq_getElem hjl
    rw [List.drop_eq_getElem_cons hjl] at hr
    simp only [keysR] at hr
    obtain ⟨y, S2, hy, hr⟩ := Res.bind_ok hr
    replace hy := Res.calm_ok hy
    obtain ⟨ys, S3, hys, e3⟩ := Res.bind_ok hr
    cases e3
    have rl1 := Reps.mono f1 g1 k.s.live l vs rl
    obtain ⟨v, hv, rvv⟩ := rl1.get hd
    obtain ⟨u', hu', rvu⟩ := rv.get hv
    rw [hu] at hu'
    cases hu'
    have hc1 : H1 c' = some (LamX.CodeO c' q) := f1.get hc (c0 k.s hc) fun ps => LamX.codeO_ne ps
    have len1 : kA.size = j := by
      have z : kvs.length = kA.size := by rw [← Array.length_toList]; exact vk.length
      rw [rk.length] at z
      omega
    refine wpAny_bind (wpAny_attempt (wpAny_call (codeAny_mono (lam_run (A := X.A.in1.in1) (v := v) (Q := fun w H2 => ∃ ρ2, Frm ρ1 H1 H2 ∧ Grow ρ1 ρ2 H1 ∧ SRep ρ2 S2 H2 ∧ Rep ρ2 H2 y w) L.S I1.env0.in1.in1 L.hd L.dp hf1 hc1 (fun v => lam_bind1 L.par) (L.body f c' s' H1) rvu ?_) fun r s2 hq => ?_)))
    · refine ⟨[some l[j]], S1, ρ1, ⟨⟨rfl, fun i d hi => ?_⟩, k1.s⟩, ?_⟩
      · cases i with
        | zero =>
          simp at hi
          subst hi
          exact ⟨v, rfl, rvv⟩
        | succ i => simp at hi
      · rw [hy]
        intro w H2 ρ2 f2 g2 k2 r2
        exact ⟨ρ2, f2, g2, k2.s, r2⟩
    · cases r with
      | error er => exact (cx_none hq).elim
      | ok fl =>
        cases fl with
        | next => exact False.elim hq
        | brk => exact False.elim hq
        | cont => exact False.elim hq
        | ret kv =>
          obtain ⟨w, H2, os, bare, un, hok, rw2, ρ2, f2, g2, s2r, r2⟩ := hq
          have I2 : Inv X pins σ H2 s2 := I1.call' os un hok bare (fun b z => absurd z (by simp))
          have keep : ∀ b o, s'.heap.get? b = some o → H1 b = none → b ∉ frs X.stack → s2.heap.get? b = some o := fun b o e n st => un.keep b o e n st (by simp)
          have hk2 := keep _ _ hk1 kn1 fk.stk
          have kn2 := un.free _ _ hk1 kn1 (by simp)
          have k2 : Ok ρ2 env S2 σ H2 := ⟨k1.e.mono f2 g2 k1.s.live, s2r⟩
          have rk2 := Reps.mono f2 g2 k1.s.live kds kvs rk
          have big : kA.size ≤ sizeLine := by
            rw [← line_eq] at *
            omega
          have q1 := Heap.SameBut.update s2.heap kS (Obj.mapSeq (·.push kv))
          obtain ⟨c2, hc2⟩ : ∃ c2, (s2.heap.update kS (Obj.mapSeq (·.push kv))).get? kS = some (seqObj "list" (kA.push kv) c2) := ⟨_, get?_update_seq hk2 (·.push kv)⟩
          refine wpAny_bind (listUpdate_at hk2 rfl ?_ big (by rw [Array.size_push]; omega))
          refine wpAny_pure ⟨rfl, H2, ρ2, S2, ?_, f1.trans g1 f2, g1.trans f1 k.s.live g2 k1.s.live, k2, ?_, un.free _ _ hf1 fn1 (by simp), ?_, un.free _ _ ha1 an1 (by simp), kA.push kv, c2, kvs ++ [w], kds ++ [y], ys, hc2, kn2, ?_, rk2.append ?_, by simp [hj], hys, by rw [hall]; simp⟩
          · exact inv_chg (t' := s2.toks) [kS] I2 (fun b hb => by rw [List.mem_singleton.mp hb]; exact fk) (fun b hb => by rw [List.mem_singleton.mp hb]; exact kn2) (fun b o hb q => (q1.2 b (fun z => hb (by rw [z]; simp))).trans q) (fun _ _ => rfl)
              fun b hb u e => by rw [List.mem_singleton.mp hb, kn2] at e; cases e
          · exact (q1.2 f hkf.symm).trans (keep _ _ hf1 fn1 ff)
          · exact (q1.2 a hka.symm).trans (keep _ _ ha1 an1 fa.stk)
          · rw [Array.toList_push]
            exact vk.append (.cons rw2 .nil)
          · simp only [Reps]
            exact ⟨w, [], rfl, r2, rfl⟩
  case done =>
    rintro s' ⟨H1, ρ1, S1, I1, f1, g1, k1, hf1, fn1, ha1, an1, kA, e, kvs, kds, rest, hk1, kn1, vk, rk, hj, hr, hall⟩
    simp only [Nat.zero_add] at hj hr
    rw [hvl, List.drop_length] at hr
    simp only [keysR] at hr
    cases hr
    rw [List.append_nil] at hall
    subst hall
    have hpu' : D.pures all = true := by
      clear h hrun hal hdp rk hj
      induction all with
      | nil => rfl
      | cons d r ih =>
        simp only [List.all_cons, Bool.and_eq_true] at hpu
        simp only [D.pures, Bool.and_eq_true]
        exact ⟨hpu.1, ih hpu.2⟩
    obtain ⟨hAll, hS⟩ := keys_sort (A := X.A.in1.in1) I1 hpu' vk rk hal hdp L.un
    have lk : all.length = l.length := by rw [hj, hvl]
    have hsz : kA.size = its.length := by
      have z : kvs.length = kA.size := by rw [← Array.length_toList]; exact vk.length
      rw [rk.length] at z
      omega
    refine wpAny_bind (listItems_at hk1 rfl ?_)
    refine sk_end hk1 ha1 hka hS hsz (by rw [hvl, ← line_eq]; exact hz) fun h' B => ?_
    -- what lies there now
    have rl1 := Reps.mono f1 g1 k.s.live l vs rl
    have hvsl : vs.length = l.length := rl.length
    have lz : (vs.zip l).length = all.length := by rw [List.length_zip, hvsl, lk]; simp
    have eB : EachIs (fun u (b : B3) => RelV b.1.1 u) its ((vs.zip l).zip all) := by
      have e1 := vals_zip (bs := l) rv hvsl.symm
      have e2 : ∀ {us : List Value} {ps : List (V × D)} {ds : List D}, EachIs (fun u (b : V × D) => RelV b.1 u) us ps → ds.length = ps.length → EachIs (fun u (b : B3) => RelV b.1.1 u) us (ps.zip ds) := by
        intro us ps ds he
        induction he generalizing ds with
        | nil => intro _; exact .nil
        | cons r t ih =>
          intro hl
          cases ds with
          | nil => simp at hl
          | cons d ds => exact .cons r (ih (by simpa using hl))
      exact e2 e1 lz.symm
    have eK : EachIs (fun v (b : B3) => (dataKind s'.heap (all.map D.py)).keyOf v = some (keyToks b.2.py)) kA.toList ((vs.zip l).zip all) := by
      have e1 := PySem.W.each_keys hAll (each_reads I1 hpu' vk rk)
      have e2 : ∀ {us : List Value} {ps : List (V × D)} {ds : List D} {R : Value → PyData → Prop}, EachIs R us (ds.map D.py) → ps.length = ds.length → EachIs (fun v (b : B3) => R v b.2.py) us (ps.zip ds) := by
        intro us ps ds R he
        induction ds generalizing us ps with
        | nil =>
          intro _
          cases he
          cases ps <;> exact .nil
        | cons d ds ih =>
          intro hl
          cases ps with
          | nil => simp at hl
          | cons q ps =>
            cases he with
            | cons r t => exact .cons r (ih t (by simpa using hl))
      exact e2 e1 lz
    have eo := PySem.W.sortVals_each (κ := dataKind s'.heap (all.map D.py)) (rev := false) (fun b : B3 => keyToks b.2.py) eB eK
    obtain ⟨m, hm⟩ : ∃ m, m = ((vs.zip l).zip all).mergeSort (dataLe false fun b : B3 => b.2.py) := ⟨_, rfl⟩
    have hmem : ∀ b ∈ m, b ∈ (vs.zip l).zip all := fun b hb => by rw [hm] at hb; exact (List.mergeSort_perm _ _).mem_iff.mp hb
    have hlike : ∀ b ∈ (vs.zip l).zip all, ∀ c ∈ (vs.zip l).zip all, D.like b.2 c.2 = true := fun b hb c hc => by
      have h1 := (List.of_mem_zip hb).2
      have h2 := (List.of_mem_zip hc).2
      replace hal := allLike_slow hal
      unfold slowLike at hal
      rw [List.all_eq_true] at hal
      have := hal _ h1
      rw [List.all_eq_true] at this
      exact this _ h2
    have hsort : m.map (fun b => b.1.2) = sortKD l all := by
      have z := merge_sortP (l := (vs.zip l).zip all) (fun b : B3 => (b.1.2, b.2)) hlike
      have hg : ((vs.zip l).zip all).map (fun b : B3 => (b.1.2, b.2)) = l.zip all := by
        have : ∀ {vs : List V} {l all : List D}, vs.length = l.length → ((vs.zip l).zip all).map (fun b : B3 => (b.1.2, b.2)) = l.zip all := by
          intro vs l all
          induction l generalizing vs all with
          | nil => intro _; simp
          | cons d l ih =>
            intro hl
            cases vs with
            | nil => simp at hl
            | cons v vs =>
              cases all with
              | nil => simp
              | cons y all => simp [ih (vs := vs) (all := all) (by simpa using hl)]
        exact this hvsl
      rw [hg, ← hm] at z
      unfold sortKD
      rw [← z, List.map_map]
      rfl
    have rm : Reps ρ1 H1 (sortKD l all) (m.map fun b => b.1.1) := by
      rw [← hsort]
      exact reps_two (fun b : B3 => b.1.1) (fun b : B3 => b.1.2) fun b hb => reps_mem rl1 b.1 (List.of_mem_zip (hmem b hb)).1
    have hv : Vals (m.map fun b => b.1.1) (sortVals (dataKind s'.heap (all.map D.py)) false kA.toList its) := by
      have e2 : ∀ {us : List Value} {ps : List B3}, EachIs (fun u (b : B3) => RelV b.1.1 u) us ps → Vals (ps.map fun b => b.1.1) us := by
        intro us ps he
        induction he with
        | nil => exact .nil
        | cons r t ih => exact .cons r ih
      rw [hm]
      exact e2 eo
    have hlen : (sortKD l all).length ≤ line := by
      rw [← hsort, List.length_map, hm, (List.mergeSort_perm _ _).length_eq, List.length_zip, lz]
      omega
    obtain ⟨c3, hc3⟩ := B.at_
    obtain ⟨c4, hc4⟩ := B.ks
    have hob : ObjOk X.prog X.w (upd H1 a (.lst (m.map fun b => b.1.1))) h' a (.lst (m.map fun b => b.1.1)) := ⟨by rw [rm.length, ← line_eq]; exact hlen, _, c3, hv, hc3⟩
    have I2 : Inv X pins σ (upd H1 a (.lst (m.map fun b => b.1.1))) { s' with heap := h', toks := s'.toks } := inv_chg [kS, a] I1 (fun b hb => by
        rcases List.mem_cons.mp hb with e | hb
        · rw [e]; exact fk
        · rw [List.mem_singleton.mp hb]; exact fa) (fun b hb => by
        rcases List.mem_cons.mp hb with e | hb
        · rw [e]; exact kn1
        · rw [List.mem_singleton.mp hb]; exact an1) (fun b o hb q => B.keep b o (fun z => hb (by rw [z]; simp)) (fun z => hb (by rw [z]; simp)) q)
      (fun b hb => upd_ne fun z => hb (by rw [z]; simp)) fun b hb u e => by
        rcases List.mem_cons.mp hb with z | hb
        · rw [z, upd_ne hka, kn1] at e; cases e
        · rw [List.mem_singleton.mp hb] at e ⊢
          rw [upd_same] at e
          cases e
          exact hob
    exact h _ _ ρ1 I2 (f1.trans g1 (frm_of (same_new an1))) g1 (k1.same (same_new an1)) (Rep.lst_new an1 k1.s.live hlen rm)
end
end LK
set_option Elab.async false
set_option linter.all false
set_option autoImplicit false
set_option maxRecDepth 100000
set_option maxHeartbeats 4000000
/-! LK29: sorted(xs, key=lambda x: ..) as a rule. -/
namespace LK
open PySem PySem.Spec PyProof.Rows L2
variable [Tt]
/-- the def may make lambdas -/
structure LamOk (X : Cx) : Prop where
  ex : ∃ c P, LamX.TabB X.base X.mg c P ∧ X.env.code = .ref c ∧ (P, X.env.qual ++ "<lambda>") ∈ Tt.l ∧ ∀ p ∈ Tt.l, p.1 = P → p.2 = X.env.qual ++ "<lambda>"
theorem nt_lst {vs : List V} : ∀ ps, HO.lst vs ≠ .tbl ps := nofun
theorem de_sortK {X : Cx} {W : WX} {e body : Expr} {de dk : E} {C : Call} {x : Str} {scope : Scope} {p pos lpos kp px : Pos} (LO : LamOk X) (L : LamAt X X.A.in1.in1 x (X.env.qual ++ "<lambda>") scope body (den C dk).v) (hg : Gl X "sorted") (hm : X.mg "sorted" = none) (ns : noStar e = true) (he : DE X W e (den C de)) :
    DE X W (.Call (.Name "sorted" p) [e] [⟨some "key", .Lambda (par1 x px) body scope lpos, kp⟩] pos) (den C (.sortK dk de)) := by
  refine de_val ⟨fun pins s σ H Q I ⟨env, S, ρ, k, h⟩ => ?_⟩ fun _ => rfl
  refine wpAny_Call_Name_kw (ld_blt I hg hm (by decide +kernel : bootBuiltins "sorted" = some (.builtin "sorted")) ?_)
  have pa : PA X [e] _ := pa_cons he.v pa_nil (star_plain ns _ _)
  refine PyProof.Rows.callWith_kw (thn (pa.run pos pins s σ H (fun vs H1 => ∃ d S1 ρ1 v, vs = [v] ∧ Ok ρ1 env S1 σ H1 ∧ Rep ρ1 H1 d v ∧ RP X W env σ ρ1 H1 Rep (match listed S1 d with
      | some l => (keysR (fun x S => (den C dk).v [some x] S) l S1).bind fun ks S => if (allLike ks && ks.all (D.shal 30)) && ks.all D.pure then .ok (.lst (sortKD l ks)) S else .bad
      | none => .bad) Q) I ⟨env, S, ρ, k, RP.bind h k.s.live fun d S1 v H1 ρ1 f1 g1 k1 r1 h1 => ⟨d, S1, ρ1, v, rfl, k1, r1, h1⟩⟩) fun us s1 ⟨vs, H1, I1, r1, d, S1, ρ1, v, ev, k1, rd, h1⟩ => ?_) (by rw [star_plain ns]; rfl) (by rw [star_plain ns]; rfl)
  subst ev
  obtain ⟨cA, P, TB, hcode, hmem, hu⟩ := LO.ex
  show wpAny _ _ (evalAll ((do let v ← eval (.Lambda (par1 x px) body scope lpos) X.env; standAt pos; pure v) :: [])) _ _ s1
  refine wpAny_evalAll_cons (wpAny_bind (LamX.lam_make2 I1 TB hcode hmem hu k1.s.tb lam_def1 (fun y hy e => absurd e (L.S.nofree y hy)) fun f c' pm ctv H2 s2 I2 ext tabs hf fn ff hc => wpAny_bind (wpAny_standAt (wpAny_pure (wpAny_evalAll_nil ?_)))))
  rw [clo_none L.S.nofree] at hf
  -- the row
  cases hl : listed S1 d with
  | none => rw [hl] at h1; exact h1.elim
  | some l =>
    rw [hl] at h1
    simp only at h1
    cases hk : keysR (fun x S => (den C dk).v [some x] S) l S1 with
    | bad => rw [hk] at h1; exact h1.elim
    | exc y S2 =>
      exfalso
      have : ∀ (l : List D) (S1 S2 : Store) (y : XV), keysR (fun x S => (den C dk).v [some x] S) l S1 ≠ .exc y S2 := by
        intro l
        induction l with
        | nil => intro S1 S2 y z; cases z
        | cons x r ih =>
          intro S1 S2 y z
          simp only [keysR] at z
          rcases Res.bind_exc z with z | ⟨u, S3, _, z⟩
          · exact Res.calm_no z
          · rcases Res.bind_exc z with z | ⟨w, S4, _, z⟩
            · exact ih _ _ _ z
            · cases z
      exact this _ _ _ _ hk
    | ok ks Sz =>
      rw [hk] at h1
      replace h1 : RP X W env σ ρ1 H1 Rep (if (allLike ks && ks.all (D.shal 30)) && ks.all D.pure then .ok (.lst (sortKD l ks)) Sz else .bad) Q := h1
      split at h1
      case isFalse => exact h1.elim
      rename_i hq
      rw [Bool.and_eq_true, Bool.and_eq_true] at hq
      obtain ⟨⟨q1, q2⟩, q3⟩ := hq
      have fr : Frm ρ1 H1 H2 := fun b o e _ t => ext b o e t
      have k2 : Ok ρ1 env S1 σ H2 := k1.grown fr ext tabs
      have rd2 := Rep.mono fr (Grow.refl _ _) k1.s.live d v rd
      obtain ⟨a, vs, rfl, hs, hz, rl⟩ := Rep.listed (K := X.K) k2.s hl rd2
      obtain ⟨its, rv, hli, hz2⟩ := I2.list hs
      obtain rfl := Vals.ref1 r1
      have hlen : its.length ≤ sizeLine := by rw [← rv.length]; exact hz2
      refine PySem.W.sorted_of_sort hli.isList hlen (ksk_s1 _ _) (fun _ => ksk_l1 _ _) fun E' => ?_
      show wpAny _ _ (Builtin.«list.sort» ⟨[.ref (s2.heap.objs.size + 1)], [(Str.ofString "key", .ref f)]⟩) _ _ _
      rw [ksk_t1]
      have hoL := PySem.W.copyHeap_at s2.heap its
      have I3 : Inv X pins σ H2 { s2 with heap := PySem.W.copyHeap s2.heap its } := I2.kept (t' := s2.toks) fun b o e => PySem.W.copyHeap_old e
      have fa : Fre X pins (s2.heap.objs.size + 1) := fre_new I2 (Nat.le_succ _)
      have an : H2 (s2.heap.objs.size + 1) = none := I2.hok.fresh (Nat.le_succ _)
      have c1 := Heap.SameBut.update (PySem.W.copyHeap s2.heap its) (s2.heap.objs.size + 1) (Obj.mapSeq fun _ => (#[] : Array Value))
      obtain ⟨e1, ho1⟩ : ∃ e1, ((PySem.W.copyHeap s2.heap its).update (s2.heap.objs.size + 1) (Obj.mapSeq fun _ => (#[] : Array Value))).get? (s2.heap.objs.size + 1) = some (seqObj "list" #[] e1) := ⟨_, get?_update_seq hoL fun _ => #[]⟩
      have I4 : Inv X pins σ H2 { s2 with heap := (PySem.W.copyHeap s2.heap its).update (s2.heap.objs.size + 1) (Obj.mapSeq fun _ => (#[] : Array Value)) } :=
        inv_chg (s := { s2 with heap := PySem.W.copyHeap s2.heap its }) (t' := s2.toks) [s2.heap.objs.size + 1] I3 (fun b hb => by rw [List.mem_singleton.mp hb]; exact fa) (fun b hb => by rw [List.mem_singleton.mp hb]; exact an) (fun b o hb q => (c1.2 b fun z => hb (by rw [z]; simp)).trans q) (fun _ _ => rfl)
          fun b hb u e => by rw [List.mem_singleton.mp hb, an] at e; cases e
      have hf4 : ((PySem.W.copyHeap s2.heap its).update (s2.heap.objs.size + 1) (Obj.mapSeq fun _ => (#[] : Array Value))).get? f = some (PySem.W.kla_obj "<lambda>" (X.env.qual ++ "<lambda>") (par1 x px) body scope [] pm c' ctv) :=
        (c1.2 f fun z => by have q := Heap.lt_size hf; rw [z] at q; exact absurd q (Nat.not_lt.mpr (Nat.le_succ _))).trans (PySem.W.copyHeap_old hf)
      unfold ksk_tree
      refine wpAny_bind (listItems_at hoL rfl ?_)
      refine wpAny_bind (listUpdate_at hoL rfl ?_ (by rw [List.size_toArray]; exact hlen) (Nat.zero_le _))
      refine wpAny_bind (seqEpoch_at ho1 rfl ?_)
      refine wpAny_bind (wpAny_newTuple ?_ (by show its.length ≤ _; exact hlen))
      refine wpAny_bind (wpAny_newList ?_ (Nat.zero_le _))
      refine wpAny_holding ?_
      obtain ⟨h4, e4⟩ : ∃ h4, h4 = (PySem.W.copyHeap s2.heap its).update (s2.heap.objs.size + 1) (Obj.mapSeq fun _ => (#[] : Array Value)) := ⟨_, rfl⟩
      rw [← e4] at I4 ho1 hf4
      show wpAny _ _ (ksk_rest _ _ _ _ _ _) _ _ { s2 with heap := ((((PySem.W.copyHeap s2.heap its).update (s2.heap.objs.size + 1) (Obj.mapSeq fun _ => (#[] : Array Value))).push (seqObj "tuple" its.toArray 0)).push (seqObj "list" #[] 0)) }
      rw [← e4]
      have I5 : Inv X pins σ H2 { s2 with heap := h4.push (seqObj "tuple" its.toArray 0) } := I4.kept (t' := s2.toks) fun b o e => Heap.get?_push_of_some _ e
      have I6 : Inv X pins σ H2 { s2 with heap := (h4.push (seqObj "tuple" its.toArray 0)).push (seqObj "list" #[] 0) } := I5.kept (t' := s2.toks) fun b o e => Heap.get?_push_of_some _ e
      have lt4 : s2.heap.objs.size + 1 < (h4.push (seqObj "tuple" its.toArray 0)).objs.size := Nat.lt_of_lt_of_le (Heap.lt_size ho1) (by rw [Heap.size_push]; omega)
      refine sk_rest (kS := (h4.push (seqObj "tuple" its.toArray 0)).objs.size) L I6 k2 (Heap.get?_push_of_some _ (Heap.get?_push_of_some _ hf4)) fn ff hc (Heap.get?_push_of_some _ (Heap.get?_push_of_some _ ho1)) an fa (Heap.get?_push_size _ rfl) (I5.hok.fresh (Nat.le_refl _)) (fre_new I5 (Nat.le_refl _))
        (Nat.ne_of_gt lt4) (fun z => by have q := Heap.lt_size hf; rw [← z] at q; exact absurd (Nat.lt_trans (Nat.lt_trans (Nat.lt_succ_self _) lt4) q) (Nat.lt_irrefl _)) rl rv hz hk q1 q2 q3 fun s9 H9 ρ9 I9 f9 g9 k9 r9 => ⟨rfl, .ref _, H9, I9, rfl, h1 _ H9 ρ9 (fr.trans (Grow.refl _ _) f9) ?_ k9 r9⟩
      exact (Grow.refl _ _).trans fr k1.s.live g9 k2.s.live
end LK
set_option Elab.async false
set_option linter.all false
set_option autoImplicit false
set_option maxRecDepth 100000
set_option maxHeartbeats 1000000
/-! LK12z: a new list of a call that stays as it is. -/
namespace LK
open PySem PySem.Spec PyProof.Rows L2
variable [Tt]
/-- the frame's own cells are left -/
theorem srep_leave {ρ ρ' : Rho} {S S' : Store} {H H' : Hp} (s : SRep ρ S H) (g : Grow ρ ρ' H) (s' : SRep ρ' S' H') (hp : (S'.take S.length).all D.pures = true) : SRep ρ (S'.take S.length) H' ∧ (⟨ρ'.c.take S.length, ρ'.h⟩ : Rho) = ρ := by
  obtain ⟨more, rfl, hm⟩ := g
  have e : (ρ.c ++ more).take S.length = ρ.c := by rw [← s.len]; simp
  have hS : S.length ≤ S'.length := by
    have h1 := s'.len
    simp only [List.length_append] at h1
    rw [s.len] at h1
    omega
  refine ⟨⟨by rw [List.length_take, s.len]; omega, s.nd, fun a ha => ?_, fun n l a h1 h2 => ?_, s'.tb⟩, by rw [show (⟨ρ.c ++ more, ρ.h⟩ : Rho).c = ρ.c ++ more from rfl, e]⟩
  · obtain ⟨q1, q2⟩ := s'.hid a ha
    exact ⟨fun z => q1 (List.mem_append_left _ z), q2⟩
  · have hn : n < S.length := by
      have := (List.getElem?_eq_some_iff.mp h1).1
      rw [List.length_take] at this
      omega
    have h1' := h1
    rw [List.getElem?_take_of_lt hn] at h1'
    obtain ⟨vs, q, z, r⟩ := s'.at_ n l a h1' (by
      show (ρ.c ++ more)[n]? = some a
      rw [List.getElem?_append_left (by rw [s.len]; exact hn)]
      exact h2)
    exact ⟨vs, q, z, Reps.sets (ρ := ⟨ρ.c ++ more, ρ.h⟩) (ρ' := ρ) (fun b hb => hb.imp (fun y => List.mem_append_left _ y) id) l vs (pures_all hp h1) r⟩
section
variable {X : Cx} {W : WX}
theorem fz_read {f : Env → Store → Res D} {σ : L2.St} {H : Hp} {Q : VK} (h : tD X W (fun env S => (f env S).bind fun d S1 => fzR S d S1) σ H Q) : tD X W f σ H Q := by
  obtain ⟨env, S, ρ, k, h⟩ := h
  refine ⟨env, S, ρ, k, ?_⟩
  dsimp only at h
  cases hf : f env S with
  | bad => rw [hf] at h; exact h.elim
  | exc e S1 => rw [hf] at h; exact h
  | ok d S1 =>
    rw [hf] at h
    replace h : RP X W env σ ρ H Rep (fzR S d S1) Q := h
    unfold fzR at h
    split at h
    case isFalse => exact h.elim
    rename_i q
    obtain ⟨rfl, hl, hp⟩ := q
    split at h
    case h_2 => exact h.elim
    rename_i l hg
    split at h
    case isFalse => exact h.elim
    rename_i hpl
    intro v H' ρ' fr g k1 rv
    obtain ⟨s2, _⟩ := srep_leave k.s g k1.s hp
    simp only [Rep] at rv
    obtain ⟨a, ha, rfl⟩ := rv
    obtain ⟨vs, e, z, r⟩ := k1.s.at_ _ l a hg ha
    have hg' := g
    obtain ⟨more, rfl, hm⟩ := g
    have nc : a ∉ ρ := by
      rintro (m | m)
      · obtain ⟨i, hi, ei⟩ := List.mem_iff_getElem.mp m
        have h1 : (ρ.c ++ more)[i]? = some a := by
          rw [List.getElem?_append_left hi, List.getElem?_eq_getElem hi, ei]
        have := nodup_get k1.s.nd h1 ha
        rw [k.s.len] at hi
        omega
      · exact (k1.s.hid a m).1 (List.mem_of_getElem? ha)
    refine h (.ref a) H' ρ fr (Grow.refl _ _) ⟨k.e.mono fr (Grow.refl _ _) k.s.live, s2⟩ ?_
    simp only [Rep]
    exact ⟨a, vs, rfl, .inl e, nc, z, Reps.sets (ρ := ⟨ρ.c ++ more, ρ.h⟩) (ρ' := ρ) (fun b hb => hb.imp (fun y => List.mem_append_left _ y) id) l vs hpl r⟩
theorem de_fz {e : Expr} {de : E} {C : Call} (he : DE X W e (den C de)) (ht : ∀ whole, isTrue e X.env whole = (do let v ← whole; standAt e.pos; holding [v] (truthy v))) : DE X W e (den C (.fz de)) :=
  de_val (he.v.weak fun σ H Q h => fz_read h) ht
end
end LK
set_option Elab.async false
set_option linter.all false
set_option autoImplicit false
set_option maxRecDepth 100000
set_option maxHeartbeats 2000000
/-! LK7m: min, max of a list of things alike. -/
namespace LK
open PySem PySem.Calls PySem.W PySem.SeqAt PyProof.Rows
mutual
theorem py_inj : ∀ (x y : D), x.pure = true → y.pure = true → x.py = y.py → x = y
  | .non, y, _, hy, h => by cases y <;> simp [D.py, D.pure] at h hy ⊢
  | .bl b, y, _, hy, h => by cases y <;> simp [D.py, D.pure] at h hy ⊢; exact h
  | .int b, y, _, hy, h => by cases y <;> simp [D.py, D.pure] at h hy ⊢; exact h
  | .str b, y, _, hy, h => by cases y <;> simp [D.py, D.pure] at h hy ⊢; exact h
  | .lst l, y, hx, hy, h => by
    cases y <;> simp only [D.py, D.pure, PyData.list.injEq, reduceCtorEq] at h hx hy
    rw [pys_inj _ _ hx hy h]
  | .tup l, y, hx, hy, h => by
    cases y <;> simp only [D.py, D.pure, PyData.tuple.injEq, reduceCtorEq] at h hx hy
    rw [pys_inj _ _ hx hy h]
  | .cell _, _, hx, _, _ => by simp [D.pure] at hx
theorem pys_inj : ∀ (x y : List D), D.pures x = true → D.pures y = true → D.pys x = D.pys y → x = y
  | [], [], _, _, _ => rfl
  | [], _ :: _, _, _, h => by simp [D.pys] at h
  | _ :: _, [], _, _, h => by simp [D.pys] at h
  | a :: r, b :: s, hx, hy, h => by
    simp only [D.pys, List.cons.injEq] at h
    simp only [D.pures, Bool.and_eq_true] at hx hy
    rw [py_inj a b hx.1 hy.1 h.1, pys_inj r s hx.2 hy.2 h.2]
end
theorem pures_iff' : ∀ {l : List D}, D.pures l = true → ∀ d ∈ l, d.pure = true
  | [], _, _, h => by cases h
  | a :: l, p, d, h => by
    simp only [D.pures, Bool.and_eq_true] at p
    rcases List.mem_cons.mp h with e | h
    · rw [e]; exact p.1
    · exact pures_iff' p.2 d h
/-- the first that is best -/
def bestO (f : D → D → Bool) : List D → Option D
  | [] => none
  | d :: r => some (r.foldl (fun a b => if f a b then b else a) d)
theorem best_mem {f : D → D → Bool} : ∀ (r : List D) (d : D), r.foldl (fun a b => if f a b then b else a) d ∈ d :: r
  | [], d => by simp
  | b :: r, d => by
    have := best_mem (f := f) r (if f d b then b else d)
    rw [List.foldl_cons]
    split at this <;> rename_i h
    · rw [if_pos h]
      exact List.mem_cons_of_mem _ this
    · rw [if_neg h]
      rcases List.mem_cons.mp this with e | e
      · rw [e]; exact List.mem_cons_self
      · exact List.mem_cons_of_mem _ (List.mem_cons_of_mem _ e)
theorem fold_py {g : PyData → PyData → Bool} {f : D → D → Bool} : ∀ (r : List D) (d : D), (∀ x ∈ d :: r, ∀ y ∈ d :: r, g x.py y.py = f x y) → (D.pys r).foldl (fun a y => if g a y then y else a) d.py = (r.foldl (fun a b => if f a b then b else a) d).py
  | [], d, _ => rfl
  | b :: r, d, h => by
    simp only [D.pys, List.foldl_cons]
    rw [h d List.mem_cons_self b (List.mem_cons_of_mem _ List.mem_cons_self)]
    have ih := fold_py (g := g) (f := f) r (if f d b then b else d) (fun x hx y hy => h x ?_ y ?_)
    · rw [← ih]
      split <;> rfl
    · split at hx
      · exact List.mem_cons_of_mem _ hx
      · rcases List.mem_cons.mp hx with e | e
        · rw [e]; exact List.mem_cons_self
        · exact List.mem_cons_of_mem _ (List.mem_cons_of_mem _ e)
    · split at hy
      · exact List.mem_cons_of_mem _ hy
      · rcases List.mem_cons.mp hy with e | e
        · rw [e]; exact List.mem_cons_self
        · exact List.mem_cons_of_mem _ (List.mem_cons_of_mem _ e)
open L2 in
/-- min, max of things alike: an item that is so -/
def rBest (K : PySem.W.Frag) (f : D → D → Bool) : List V → Hp → VK → Prop := fun vs H Q => ∃ (a : Addr) (xs : List V) (l : List D), vs = [.ref a] ∧ SqL K H a xs ∧ xs.length = l.length ∧ DpAll K H xs (D.pys l) ∧ allLike l = true ∧ l ≠ [] ∧ (∀ d ∈ l, d.py.depth ≤ 30) ∧
  ∀ (i : Nat) (v : V) (d e : D), xs[i]? = some v → l[i]? = some d → bestO f l = some e → d.py = e.py → Q v H
open L2 in
theorem reads_all {X : Cx} {pins : List (Addr × Obj)} {σ : L2.St} {H : Hp} {s : Shared} (I : L2.Inv X pins σ H s) : ∀ {xs : List V} {ds : List PyData} {its : List Value}, L2.Vals xs its → DpAll X.K H xs ds → ∃ as, ReadsAll s.heap its ds as
  | xs, ds, its, h, hd => Dp.readsAll I ds xs its hd h
theorem likes_of_all {l : List D} (hal : allLike l = true) : ∀ x ∈ l, ∀ y ∈ l, D.like x y = true := fun x hx y hy => by
  replace hal := allLike_slow hal
  unfold slowLike at hal
  rw [List.all_eq_true] at hal
  have := hal x hx
  rw [List.all_eq_true] at this
  exact this y hy
theorem pys_map : ∀ (l : List D), D.pys l = l.map D.py
  | [] => rfl
  | d :: l => by simp only [D.pys, List.map_cons, pys_map l]
theorem depth_all {l : List D} (h : ∀ d ∈ l, d.py.depth ≤ 30) : PyData.depthAll (D.pys l) ≤ 30 := by
  induction l with
  | nil => simp [D.pys, PyData.depthAll]
  | cons d l ih =>
    simp only [D.pys, PyData.depthAll]
    exact Nat.max_le.mpr ⟨h d List.mem_cons_self, ih fun x hx => h x (List.mem_cons_of_mem _ hx)⟩
open L2 in
theorem cr_minD {X : Cx} (hc : X.calm = true) (hu : X.A.units + 100 < cLine) : CallR X (.builtin "min") (rBest X.K fun a b => D.lt b a) := by
  intro pins s σ H vs us Q I r h
  obtain ⟨a, xs, l, rfl, hs, hlen, hd, hal, hne, hdp, q⟩ := h
  rw [Vals.ref1 r]
  obtain ⟨its, rv, p, hz⟩ := I.list hs
  obtain ⟨as, ra⟩ := reads_all I rv hd
  have hlike := likes_of_all hal
  match l, hne with
  | d :: l, _ =>
    have hdep := depth_all hdp
    have hR := readsAll_at ra
    simp only [D.pys] at ra hdep
    refine min_list_data (I.ok.hd hc) p.isList ra ⟨fun x hx y hy => ?_, fun x hx => ?_⟩ (by omega) fun i v h' tk bs hi hr hk => ?_
    · have hx' : x ∈ D.pys (d :: l) := hx
      have hy' : y ∈ D.pys (d :: l) := hy
      rw [pys_map] at hx' hy'
      obtain ⟨x, hx, rfl⟩ := List.mem_map.mp hx'
      obtain ⟨y, hy, rfl⟩ := List.mem_map.mp hy'
      exact py_like _ _ (hlike x (by assumption) y (by assumption))
    · have hx' : x ∈ D.pys (d :: l) := hx
      rw [pys_map] at hx'
      obtain ⟨x, hx, rfl⟩ := List.mem_map.mp hx'
      exact like_is_pure _ _ (hlike x (by assumption) x (by assumption))
    · have hi' : its[i]? = some v := by simpa using hi
      obtain ⟨bs2, hr2, hlt, _, _⟩ := hR i v hi'
      have e1 := (PySem.Reads.unique (PyProof.Rows.Reads.keeps hk hr2) _ _ hr).1
      have hil : i < (d :: l).length := by
        rw [pys_map, List.length_map] at hlt
        exact hlt
      have e2 : (D.pys (d :: l)).getD i .none = ((d :: l)[i]).py := by
        rw [pys_map, List.getD_eq_getElem?_getD, List.getElem?_map, List.getElem?_eq_getElem hil]
        rfl
      have hxl : i < xs.length := by rw [hlen]; exact hil
      obtain ⟨u, hu2, ru⟩ := Vals.get rv (List.getElem?_eq_getElem hxl)
      rw [hi'] at hu2
      cases hu2
      have e3 := fold_py (g := fun a y => dataLt y a) (f := fun a b => D.lt b a) l d fun x hx y hy => py_lt _ _ (hlike y hy x hx)
      refine ⟨xs[i], H, I.kept (t' := tk) hk, ru, q i xs[i] (d :: l)[i] _ (List.getElem?_eq_getElem hxl) (List.getElem?_eq_getElem hil) rfl ?_⟩
      rw [← e2, e1]
      exact e3
open L2 in
theorem cr_maxD {X : Cx} (hc : X.calm = true) (hu : X.A.units + 100 < cLine) : CallR X (.builtin "max") (rBest X.K fun a b => D.lt a b) := by
  intro pins s σ H vs us Q I r h
  obtain ⟨a, xs, l, rfl, hs, hlen, hd, hal, hne, hdp, q⟩ := h
  rw [Vals.ref1 r]
  obtain ⟨its, rv, p, hz⟩ := I.list hs
  obtain ⟨as, ra⟩ := reads_all I rv hd
  have hlike := likes_of_all hal
  match l, hne with
  | d :: l, _ =>
    have hdep := depth_all hdp
    have hR := readsAll_at ra
    simp only [D.pys] at ra hdep
    refine max_list_data (I.ok.hd hc) p.isList ra ⟨fun x hx y hy => ?_, fun x hx => ?_⟩ (by omega) fun i v h' tk bs hi hr hk => ?_
    · have hx' : x ∈ D.pys (d :: l) := hx
      have hy' : y ∈ D.pys (d :: l) := hy
      rw [pys_map] at hx' hy'
      obtain ⟨x, hx, rfl⟩ := List.mem_map.mp hx'
      obtain ⟨y, hy, rfl⟩ := List.mem_map.mp hy'
      exact py_like _ _ (hlike x (by assumption) y (by assumption))
    · have hx' : x ∈ D.pys (d :: l) := hx
      rw [pys_map] at hx'
      obtain ⟨x, hx, rfl⟩ := List.mem_map.mp hx'
      exact like_is_pure _ _ (hlike x (by assumption) x (by assumption))
    · have hi' : its[i]? = some v := by simpa using hi
      obtain ⟨bs2, hr2, hlt, _, _⟩ := hR i v hi'
      have e1 := (PySem.Reads.unique (PyProof.Rows.Reads.keeps hk hr2) _ _ hr).1
      have hil : i < (d :: l).length := by
        rw [pys_map, List.length_map] at hlt
        exact hlt
      have e2 : (D.pys (d :: l)).getD i .none = ((d :: l)[i]).py := by
        rw [pys_map, List.getD_eq_getElem?_getD, List.getElem?_map, List.getElem?_eq_getElem hil]
        rfl
      have hxl : i < xs.length := by rw [hlen]; exact hil
      obtain ⟨u, hu2, ru⟩ := Vals.get rv (List.getElem?_eq_getElem hxl)
      rw [hi'] at hu2
      cases hu2
      have e3 := fold_py (g := fun a y => dataLt a y) (f := fun a b => D.lt a b) l d fun x hx y hy => py_lt _ _ (hlike x hx y hy)
      refine ⟨xs[i], H, I.kept (t' := tk) hk, ru, q i xs[i] (d :: l)[i] _ (List.getElem?_eq_getElem hxl) (List.getElem?_eq_getElem hil) rfl ?_⟩
      rw [← e2, e1]
      exact e3
section
variable [Tt] {X : L2.Cx}
open L2 in
theorem us_best {o : Un} {f : D → D → Bool} (ho : ∀ S d, unD S o d = (listed S d).bind fun l => if allLike l && D.pures l && l.all (D.shal 30) then bestO f l else none) : UnS o (rBest X.K f) := by
  intro S ρ H x vx d Q s rx h q
  rw [ho] at h
  simp only [Option.bind_eq_some_iff] at h
  obtain ⟨l, hl, h⟩ := h
  split at h
  case isFalse => cases h
  rename_i hc
  simp only [Bool.and_eq_true, List.all_eq_true] at hc
  obtain ⟨a, vs, rfl, hq, hz, r⟩ := Rep.listed (K := X.K) s hl rx
  refine ⟨a, vs, l, rfl, hq, r.length, Reps.dp l vs hc.1.2 r, hc.1.1, fun e => (by rw [e] at h; cases h), fun y hy => ?_, fun i v y e hv hy he hpy => ?_⟩
  · have := shal2_depth (a := y) (b := y) (by unfold shal2; rw [hc.2 y hy]; rfl)
    omega
  · rw [h] at he
    cases he
    obtain ⟨v2, hv2, rv⟩ := r.get hy
    rw [hv] at hv2
    cases hv2
    have hm : d ∈ l := by
      cases l with
      | nil => cases h
      | cons a t => cases h; exact best_mem t a
    have := py_inj y d (pures_iff' hc.1.2 y (List.mem_of_getElem? hy)) (pures_iff' hc.1.2 d hm) hpy
    subst this
    exact q _ _ (fun _ _ e => e) rv
theorem us_min : UnS .min (rBest X.K fun a b => D.lt b a) := us_best fun S d => by
  unfold unD
  cases h : listed S d with
  | none => cases d <;> simp [h]
  | some l => cases l <;> cases d <;> simp [h] <;> rfl
theorem us_max : UnS .max (rBest X.K fun a b => D.lt a b) := us_best fun S d => by
  unfold unD
  cases h : listed S d with
  | none => cases d <;> simp [h]
  | some l => cases l <;> cases d <;> simp [h] <;> rfl
end
end LK
set_option Elab.async false
set_option linter.all false
set_option maxRecDepth 100000
set_option maxHeartbeats 4000000
/-! LK6r: x[::-1], a list's and a tuple's. -/
namespace LK
open PySem PySem.Spec PyProof.Rows HT L2
variable [Tt]
section
variable {prog : Program} {w : World} {A : Around} {E : Value → Shared → Prop} {s : Shared}
theorem places_rev (n : Nat) : Builtin.Slice.slicePlaces ((n : Int) - 1) (-1) (-1) = n := by
  unfold Builtin.Slice.slicePlaces
  rw [if_neg (by decide)]
  by_cases h : n = 0
  · subst h; decide
  · rw [if_pos (by omega)]
    have : ((n : Int) - 1 - -1 - 1) / (- -1) = (n : Int) - 1 := by
      rw [show (- -1 : Int) = 1 by decide, Int.ediv_one]
      omega
    rw [this]
    omega
theorem applied_rev {sl : Addr} {vl vu vs : Value} {n : Nat} {Q : Int × Int × Nat → Shared → Prop} (hs : s.heap.IsSliceOf sl vl vu vs) (pl : IsPart vl none) (pu : IsPart vu none) (ps : IsPart vs (some (-1)))
    (h : Q ((n : Int) - 1, -1, n) s) : wpAny (model prog w) A (Builtin.Slice.sliceApplied (.ref sl) (pure (n : Int))) Q E s := by
  obtain ⟨os, hos, hcs, hds⟩ := id hs
  unfold Builtin.Slice.sliceApplied Builtin.Slice.sliceFields
  refine wpAny_bind (wpAny_bind (wpAny_field hos hds (x := vl) rfl ?_))
  refine wpAny_bind (wpAny_field hos hds (x := vu) rfl ?_)
  refine wpAny_bind (wpAny_field hos hds (x := vs) rfl (wpAny_pure ?_))
  refine wpAny_bind (slicePart_ ps ?_)
  show wpAny _ _ (if ((-1 : Int) == 0) = true then _ else _) _ _ s
  rw [if_neg (show ¬ ((-1 : Int) == 0) = true by decide)]
  refine wpAny_bind (slicePart_ pl ?_)
  refine wpAny_bind (slicePart_ pu ?_)
  refine wpAny_bind (wpAny_pure ?_)
  show wpAny _ _ (pure ((n : Int) - 1, (-1 : Int), Builtin.Slice.slicePlaces ((n : Int) - 1) (-1) (-1))) _ _ s
  rw [places_rev]
  exact wpAny_pure h
theorem pick_rev (xs : Array Value) : ((List.range xs.size).filterMap fun (m : Nat) => xs[((xs.size : Int) - 1 + (m : Int) * -1).toNat]?).toArray = xs.toList.reverse.toArray := by
  have e : (fun (m : Nat) => xs[((xs.size : Int) - 1 + (m : Int) * -1).toNat]?) = (fun j => xs[j]?) ∘ fun m => xs.size - 1 - m := by
    funext m
    show xs[((xs.size : Int) - 1 + (m : Int) * -1).toNat]? = xs[xs.size - 1 - m]?
    rw [show ((xs.size : Int) - 1 + (m : Int) * -1).toNat = xs.size - 1 - m by omega]
  rw [e, ← List.filterMap_map, PySem.W.krv_range, List.filterMap_reverse, PySem.W.krv_all]
theorem tup_rev {p q : Addr} {xs : Array Value} {vl vu vs : Value} {Q : Value → Shared → Prop} (hp : IsTup s.heap p xs) (hq : s.heap.IsSliceOf q vl vu vs) (pl : IsPart vl none) (pu : IsPart vu none) (ps : IsPart vs (some (-1))) (hsz : xs.size ≤ sizeLine)
    (h : Q (.ref s.heap.objs.size) { s with heap := s.heap.push { cls := .type "tuple", data := .seq xs.toList.reverse.toArray } }) : wpAny (model prog w) A (getItem (.ref p) (.ref q)) Q E s := by
  have hz : sizeOk (.seq xs.toList.reverse.toArray) := by
    show xs.toList.reverse.toArray.size ≤ sizeLine
    simpa using hsz
  obtain ⟨oq, e1, e2, e3⟩ := id hq
  have tq : s.TypeIs (.ref q) "slice" := ⟨oq, e1, e2⟩
  unfold getItem
  refine wpAny_holding (wpAny_bind (wpAny_sequenceKey hp.typeIs (by decide) ?_))
  refine wpAny_bind (wpAny_callSpecial?_slot (name := Str.ofString "__getitem__") hp.typeIs slot_tuple_getitem ?_)
  refine wpAny_call_entry slot_tuple_getitem hp.typeIs entry_tuple_getitem ?_ (args_tuple_getitem _ _)
  show wpAny _ _ (Builtin.Tuple.tupleItemsOf (.ref p) >>= _) _ _ s
  refine wpAny_bind (tupleItemsOf_ hp (wpAny_bind (wpAny_typeOf tq ?_)))
  rw [if_pos (by decide)]
  refine wpAny_bind (applied_rev hq pl pu ps ?_)
  have hno : ¬ ((((xs.size : Int) - 1 == 0) && ((-1 : Int) == 1) && (xs.size == xs.size)) = true) := by
    rw [show ((-1 : Int) == 1) = false from rfl, Bool.and_false, Bool.false_and]
    decide
  show wpAny _ _ (if (((xs.size : Int) - 1 == 0) && ((-1 : Int) == 1) && (xs.size == xs.size)) = true then _ else _) _ _ s
  rw [if_neg hno, pick_rev]
  first
    | exact wpAny_bind (m := Builtin.Tuple.tupleExact _) (wpAny_newObj_type (wpAny_pure ⟨_, rfl, wpAny_pure h⟩) hz)
    | exact wpAny_bind (m := Builtin.Tuple.tupleExact _) (wpAny_newObj_type (wpAny_bind (wpAny_pure (wpAny_pure ⟨_, rfl, wpAny_pure h⟩))) hz)
    | exact wpAny_bind (wpAny_bind (m := Builtin.Tuple.tupleExact _) (wpAny_newObj_type (wpAny_pure (wpAny_pure ⟨_, rfl, wpAny_pure h⟩)) hz))
    | exact wpAny_bind (wpAny_bind (m := Builtin.Tuple.tupleExact _) (wpAny_newObj_type (wpAny_pure ⟨_, rfl, wpAny_pure h⟩) hz))
end
section
variable {X : Cx}
/-- x[::-1]: a new list, a new tuple -/
def tRevM (K : PySem.W.Frag) (te : TE) : TE := fun σ H Q => te σ H fun x H1 => ∃ a xs, x = .ref a ∧ ((SqL K H1 a xs ∧ ∀ p, H1 p = none → Q (.ref p) (upd H1 p (.lst xs.reverse))) ∨ (SqT K H1 a xs ∧ ∀ p, H1 p = none → Q (.ref p) (upd H1 p (.tup xs.reverse))))
theorem pe_revM {e : Expr} {te : TE} {k : Nat} {p1 p2 p3 pos : Pos} (he : PE X e te) : PE X (.Subscript e (.Slice none none (some (.UnaryOp .USub (.Constant (.int 1) k p1) p2)) p3) pos) (tRevM X.K te) := by
  refine ⟨fun pins s σ H Q I h => Subscript_ (thn (he.run pins s σ H _ I h) fun v s1 ⟨x, H1, I1, r1, a, xs, ex, hx⟩ => ?_)⟩
  subst ex
  cases r1
  have hm : PO X (some (.UnaryOp .USub (.Constant (.int 1) k p1) p2)) (tPart (tUn (rU fun i => .int (-i)) (tC (.int 1)))) := po_some (pe_un un_neg pe_int)
  have hn := fun s σ H I => po_none.run (X := X) pins s σ H (fun o H2 => o = none ∧ H2 = H) I ⟨rfl, rfl⟩
  refine wpAny_Slice (thn (hn s1 σ H1 I1) fun vl s2 ⟨l, H2, I2, pl, el, q2⟩ => ?_)
  subst el q2
  refine thn (hn s2 σ H2 I2) fun vu s3 ⟨u, H3, I3, pu, eu, q3⟩ => ?_
  subst eu q3
  refine thn (hm.run pins s3 σ H3 (fun o H4 => o = some (-1) ∧ H4 = H3) I3 ⟨1, rfl, -1, rfl, rfl, rfl⟩) fun vs s4 ⟨o, H4, I4, ps, eo, q4⟩ => ?_
  subst eo q4
  have I5 : Inv X pins σ H4 { s4 with heap := s4.heap.push { cls := .type "slice", data := .fields #[vl, vu, vs] } } := I4.kept (t' := s4.toks) fun b ob z => Heap.get?_push_of_some _ z
  show wpAny (model X.prog X.w) X.A (subscriptTail e (.Slice none none (some (.UnaryOp .USub (.Constant (.int 1) k p1) p2)) p3) (.ref a) (.ref s4.heap.objs.size)) (EP X pins σ Q) X.xe _
  rcases hx with ⟨hx, q⟩ | ⟨hx, q⟩
  · obtain ⟨its, r, ht, hz⟩ := I5.list hx
    have hlen := r.length
    refine tail_any (ops := [.ref a, .ref s4.heap.objs.size]) ht.isList.typeIs PySem.slot_list_getitem.lookup ?_ (by with_unfolding_all rfl)
    refine wpAny_getItem_list_slice ht.isList (Heap.IsSliceOf.new _ vl vu vs) pl pu ps (by decide) ?_ (by rw [List.size_toArray]; omega)
    rw [PySem.W.krv_pick]
    exact ⟨.ref _, _, I5.laid (t' := s4.toks) (o := .lst xs.reverse) (fun b ob z => Heap.get?_push_of_some _ z) (Nat.le_refl _) ⟨by rw [List.length_reverse]; exact hz, _, 0, r.reverse, Heap.get?_push_size _ rfl⟩, rfl, q _ (I5.hok.fresh (Nat.le_refl _))⟩
  · obtain ⟨its, r, ht, hz⟩ := I5.tuple hx
    have hlen := r.length
    refine tail_any (ops := [.ref a, .ref s4.heap.objs.size]) ht.typeIs slot_tuple_getitem.lookup ?_ (by with_unfolding_all rfl)
    refine tup_rev ht (Heap.IsSliceOf.new _ vl vu vs) pl pu ps (by rw [List.size_toArray]; omega) ?_
    exact ⟨.ref _, _, I5.laid (t' := s4.toks) (o := .tup xs.reverse) (fun b ob z => Heap.get?_push_of_some _ z) (Nat.le_refl _) ⟨by rw [List.length_reverse]; exact hz, _, r.reverse, by simpa using IsTup.new (s4.heap.push { cls := .type "slice", data := .fields #[vl, vu, vs] }) _⟩, rfl, q _ (I5.hok.fresh (Nat.le_refl _))⟩
theorem Reps.one {ρ : Rho} {H : Hp} {d : D} {v : V} (h : Rep ρ H d v) : Reps ρ H [d] [v] := ⟨v, [], rfl, h, rfl⟩
theorem Reps.rev {ρ : Rho} {H : Hp} : ∀ {l : List D} {vs : List V}, Reps ρ H l vs → Reps ρ H l.reverse vs.reverse
  | [], vs, h => by simp only [Reps] at h; subst h; rfl
  | d :: l, vs, h => by
    simp only [Reps] at h
    obtain ⟨v, r, rfl, h1, h2⟩ := h
    rw [List.reverse_cons, List.reverse_cons]
    exact Reps.append (Reps.rev h2) (Reps.one h1)
theorem de_rev {W : WX} {e : Expr} {de : E} {C : Call} {k : Nat} {p1 p2 p3 pos : Pos} (he : DE X W e (den C de)) : DE X W (.Subscript e (.Slice none none (some (.UnaryOp .USub (.Constant (.int 1) k p1) p2)) p3) pos) (den C (.un .rev de)) :=
  de_val ((pe_revM he.v).weak fun σ H Q ⟨env, S, ρ, k, h⟩ => ⟨env, S, ρ, k, RP.bind h k.s.live fun x S1 vx H1 ρ1 f1 g1 k1 r1 h1 => by
    obtain ⟨d, hd, q⟩ := rp_of k1 h1
    by_cases ht : ∃ l, x = .tup l
    · obtain ⟨l, rfl⟩ := ht
      simp only [unD] at hd
      cases hd
      simp only [Rep] at r1
      obtain ⟨a, vs, rfl, ha, hz, r⟩ := r1
      exact ⟨a, vs, rfl, .inr ⟨SqT.of ha, fun p hp => q _ _ (same_new hp) (Rep.tup_new hp k1.s.live (by rw [List.length_reverse]; exact hz) r.rev)⟩⟩
    · have hd : (items S1 x).map (fun l => D.lst l.reverse) = some d := by
        cases x <;> first | exact hd | exact absurd ⟨_, rfl⟩ ht
      simp only [Option.map_eq_some_iff] at hd
      obtain ⟨l, hl, rfl⟩ := hd
      obtain ⟨a, vs, rfl, ha, r⟩ := Rep.listAt k1.s hl (fun l e => ht ⟨l, e⟩) r1
      obtain ⟨_, _, _, _, hz, _⟩ := Rep.items (K := X.K) k1.s hl r1
      exact ⟨a, vs, rfl, .inl ⟨ha.sq, fun p hp => q _ _ (same_new hp) (Rep.lst_new hp k1.s.live (by rw [List.length_reverse]; exact hz) r.rev)⟩⟩⟩) fun _ => rfl
end
end LK
set_option Elab.async false
set_option linter.all false
set_option autoImplicit false
set_option maxRecDepth 100000
set_option maxHeartbeats 2000000
/-! LS1: sets of tuples of whole numbers, texts and such tuples: what is asked of a key; the search. -/
namespace LK
open PySem PySem.Spec PyProof.Rows L2
abbrev NK := NestedKey
/-- the tuple at a is the key k -/
def KeyAt (h : Heap) (k : NK) (a : Addr) : Prop := NestedIs h k (.ref a) ∧ k.depth ≤ 8
section
variable {P : Program} {w : World} {A : Around} {E : Value → Shared → Prop} {s : Shared}
theorem KeyAt.keep {h h' : Heap} {k : NK} {a : Addr} (x : KeyAt h k a) (hk : ∀ b o vs n, h.get? b = some o → o.data = .seq vs n → h'.get? b = some o) : KeyAt h' k a := ⟨NestedIs.at hk _ _ x.1, x.2⟩
theorem KeyAt.inj {h : Heap} {k k' : NK} {a : Addr} (x : KeyAt h k a) (y : KeyAt h k' a) : k = k' := NestedIs.inj _ _ _ x.1 y.1
theorem loop_no {f : Value → Sem Bool} {items : Array Value} {d : Bool} {Q : Bool → Shared → Prop} (hv : ∀ v ∈ items.toList, ∀ Q : Bool → Shared → Prop, Q false s → wpAny (model P w) A (f v) Q E s) (h : Q d s) :
    wpAny (model P w) A (do
      for y in items do
        if ← f y then return true
      return d) Q E s := by
  refine wpAny_bind ?_
  rw [← Array.forIn_toList]
  refine wpAny_forIn_list _ (fun rest r t => r.1 = none ∧ t = s ∧ ∀ v ∈ rest, ∀ Q : Bool → Shared → Prop, Q false s → wpAny (model P w) A (f v) Q E s) _ ?_ ?_ _ _ ⟨rfl, rfl, hv⟩
  · rintro v rest r t ⟨hr, rfl, hall⟩
    refine wpAny_bind (hall v List.mem_cons_self _ ?_)
    simp only [Bool.false_eq_true, if_false]
    exact wpAny_pure ⟨rfl, rfl, fun u hu => hall u (List.mem_cons_of_mem _ hu)⟩
  · rintro ⟨r1, r2⟩ t ⟨hr, rfl, _⟩
    simp only at hr
    subst hr
    exact wpAny_pure h
theorem all_items {h : Heap} : ∀ {ks : List NK} {vs : List Value}, NestedAll h ks vs → ∀ v ∈ vs, ∃ k ∈ ks, NestedIs h k v
  | _, _, .nil, v, hv => by cases hv
  | _, _, .cons h1 h2, v, hv => by
    rcases List.mem_cons.mp hv with e | hv
    · subst e; exact ⟨_, List.mem_cons_self, h1⟩
    · obtain ⟨k, hk, q⟩ := all_items h2 v hv
      exact ⟨k, List.mem_cons_of_mem _ hk, q⟩
theorem depth_mem : ∀ {ks : List NK} {k : NK}, k ∈ ks → k.depth ≤ NestedKey.depthAll ks
  | a :: ks, k, h => by
    simp only [NestedKey.depthAll]
    rcases List.mem_cons.mp h with e | h
    · subst e; exact Nat.le_max_left ..
    · exact Nat.le_trans (depth_mem h) (Nat.le_max_right ..)
/-- no class statement stands behind a key -/
theorem ofClass_no : ∀ (n : Nat) (k : NK) (v : Value) (Q : Bool → Shared → Prop), NestedIs s.heap k v → k.depth ≤ n → Q false s → wpAny (model P w) A (ofAClassStatement n v) Q E s := by
  intro n
  induction n with
  | zero =>
    intro k v Q x hd h
    cases x with
    | tup h1 h2 h3 h4 => simp [NestedKey.depth] at hd
    | none => exact wpAny_pure h
    | bool e => exact wpAny_pure h
    | int _ t => exact wpAny_pure h
    | text _ t => exact wpAny_pure h
  | succ n ih =>
    intro k v Q x hd h
    cases x with
    | none => exact wpAny_pure h
    | bool e => exact wpAny_pure h
    | int _ t => exact wpAny_pure h
    | text _ t => exact wpAny_pure h
    | @tup b o vs m ks h1 h2 h3 h4 =>
      simp only [NestedKey.depth] at hd
      have hT : s.TypeIs (.ref b) "tuple" := ⟨o, h1, h2⟩
      unfold ofAClassStatement
      refine wpAny_bind (wpAny_typeOf hT ?_)
      dsimp only
      have e : (("tuple" : String) == "tuple") = true := by decide
      simp only [e, if_true, Bool.not_true, Bool.false_eq_true, if_false]
      try refine wpAny_bind (wpAny_pure ?_)
      try simp only [Bool.not_true, Bool.false_eq_true, if_false]
      show wpAny _ _ (seqItems? (.ref b) >>= _) _ _ s
      refine wpAny_bind (wpAny_seqItems h1 h3 ?_)
      dsimp only
      refine loop_no (fun v hv Q hq => ?_) h
      obtain ⟨k, hk, q⟩ := all_items h4 v hv
      exact ih k v Q q (by have := depth_mem hk; omega) hq
/-- whether a key's hash is its value's: some answer comes -/
theorem byValue_some : ∀ (n : Nat) (k : NK) (v : Value) (Q : Bool → Shared → Prop), NestedIs s.heap k v → (∀ b, Q b s) → wpAny (model P w) A (hashByValue n v) Q E s := by
  intro n
  induction n with
  | zero =>
    intro k v Q x h
    cases x <;> exact wpAny_pure (h _)
  | succ n ih =>
    intro k v Q x h
    cases x with
    | none => exact wpAny_pure (h _)
    | bool e => exact wpAny_pure (h _)
    | int _ t => exact wpAny_pure (h _)
    | text _ t => exact wpAny_pure (h _)
    | @tup b o vs m ks h1 h2 h3 h4 =>
      have hT : s.TypeIs (.ref b) "tuple" := ⟨o, h1, h2⟩
      unfold hashByValue
      refine wpAny_bind (wpAny_specialOf hT F.slot_tuple_hash.lookup ?_)
      show wpAny _ _ (seqItems? (.ref b) >>= _) _ _ s
      refine wpAny_bind (wpAny_seqItems h1 h3 ?_)
      refine wpAny_bind ?_
      show wpAny _ _ (forIn vs _ _) _ _ s
      rw [← Array.forIn_toList]
      refine wpAny_forIn_list _ (fun rest r t => t = s ∧ ∀ v ∈ rest, ∃ k ∈ ks, NestedIs s.heap k v) _ ?_ ?_ _ _ ⟨rfl, all_items h4⟩
      · rintro v rest r t ⟨rfl, hall⟩
        obtain ⟨k, hk, q⟩ := hall v List.mem_cons_self
        refine wpAny_bind (ih k v _ q fun b => ?_)
        cases b with
        | true => simp only [Bool.not_true, Bool.false_eq_true, if_false]; exact wpAny_pure ⟨rfl, fun u hu => hall u (List.mem_cons_of_mem _ hu)⟩
        | false => simp only [Bool.not_false, if_true]; exact wpAny_pure (by dsimp only; exact wpAny_pure (h false))
      · rintro ⟨r1, r2⟩ t ⟨rfl, _⟩
        cases r1 with
        | none => exact wpAny_pure (h _)
        | some b => exact wpAny_pure (h _)
/-- a search among keys shows nothing -/
theorem search_unseen {k : NK} {b : Addr} {Q : Bool → Shared → Prop} (hk : KeyAt s.heap k b) {ys : List Value} (hy : ∀ y ∈ ys, ∃ k' c, y = Value.ref c ∧ KeyAt s.heap k' c) (h : Q false s) : wpAny (model P w) A (searchCouldBeSeen (.ref b) ys) Q E s := by
  unfold searchCouldBeSeen
  refine wpAny_bind ?_
  refine wpAny_forIn_list _ (fun rest r t => r.1 = none ∧ t = s ∧ ∀ y ∈ rest, ∃ k' c, y = Value.ref c ∧ KeyAt s.heap k' c) _ ?_ ?_ _ _ ⟨rfl, rfl, hy⟩
  · rintro v rest r t ⟨hr, rfl, hall⟩
    obtain ⟨k', c, rfl, hc⟩ := hall v List.mem_cons_self
    have more : ∀ y ∈ rest, ∃ k' c, y = Value.ref c ∧ KeyAt t.heap k' c := fun u hu => hall u (List.mem_cons_of_mem _ hu)
    dsimp only
    by_cases hv : (b == c || (carriedByValue (.ref b) && carriedByValue (.ref c))) = true
    · exact wp_if_pos hv (wpAny_pure ⟨rfl, rfl, more⟩)
    · refine wp_if_neg hv (wpAny_bind ((nestedKind P w).quiet hk ?_))
      simp only [Bool.not_true, Bool.false_eq_true, if_false]
      refine wpAny_bind ((nestedKind P w).quiet hc ?_)
      simp only [Bool.not_true, Bool.false_eq_true, if_false]
      refine wpAny_bind (ofClass_no 8 _ _ _ hk.1 hk.2 ?_)
      simp only [Bool.false_eq_true, if_false]
      refine wpAny_bind (ofClass_no 8 _ _ _ hc.1 hc.2 ?_)
      simp only [Bool.false_eq_true, if_false]
      exact wpAny_pure ⟨rfl, rfl, more⟩
  · rintro ⟨r1, r2⟩ t ⟨hr, rfl, _⟩
    simp only at hr
    subst hr
    exact wpAny_pure h
/-! ### a set of keys -/
abbrev Row := Addr × NK
abbrev rowsN (w : World) (L : List Row) : List (Int × Value) := L.map fun p => (p.2.hash w, Value.ref p.1)
abbrev hashesN (w : World) (L : List Row) : List Int := L.map fun p => p.2.hash w
structure SetN (w : World) (h : Heap) (a : Addr) (L : List Row) (es : Array (Int × Value)) (ep : Nat) (t : SetTable) : Prop where
  ob : ∃ o, h.get? a = some o ∧ o.ExactSet ∧ o.data = .set es ep t
  rows : es.toList = rowsN w L
  tab : TabOk t (hashesN w L)
  nd : (L.map (·.2)).Nodup
  key : ∀ p ∈ L, KeyAt h p.2 p.1
  led : w.params.followText "set-order" = true ∨ t.led = true
  room : L.length * 5 < t.mask * 3
  few : L.length < 64
variable {a : Addr} {L : List Row} {es : Array (Int × Value)} {ep : Nat} {t : SetTable}
theorem SetN.size (R : SetN w s.heap a L es ep t) : es.size = L.length := by
  rw [← Array.length_toList, R.rows, List.length_map]
theorem SetN.fits (R : SetN w s.heap a L es ep t) : t.fits es.size = true := by
  have h1 := R.tab.sz
  have h2 := R.size
  have h3 := R.room
  rw [List.length_map] at h1
  unfold SetTable.fits SetTable.fill
  rw [R.tab.dm]
  simp only [Array.size_empty, Nat.add_zero, Bool.and_eq_true, beq_iff_eq, decide_eq_true_eq]
  omega
theorem SetN.entry (R : SetN w s.heap a L es ep t) {i : Nat} {p : Row} (h : L[i]? = some p) : es[i]? = some (p.2.hash w, Value.ref p.1) := by
  rw [← Array.getElem?_toList, R.rows, List.getElem?_map, h]; rfl
theorem SetN.gw (R : SetN w s.heap a L es ep t) : ¬ t.gaveWay = true := by
  unfold SetTable.gaveWay
  rw [mask_odd R.tab.mok]
  decide
/-- the c-th state of the way of a hash -/
abbrev stp (m : Nat) (h : Int) (c : Nat) : SetTable.Probe := nth m (runAt m (SetTable.bits h % (m + 1)) (SetTable.bits h)) c
theorem stp_dummy (m : Nat) : ∀ (c : Nat) (p : SetTable.Probe), p.dummy = none → (nth m p c).dummy = none
  | 0, _, h => h
  | c + 1, p, h => stp_dummy m c (adv m p) (by unfold adv; split <;> exact h)
theorem find_key (R : SetN w s.heap a L es ep t) {x : Addr} {k : NK} (hx : KeyAt s.heap k x) (hu : A.units + 8 < cLine) {K : Nat} (hKf : K < 10 * SetTable.turns t.mask) (hK : way t.mask (k.hash w) K ∉ t.place.toList) (hKb : ∀ c, c < K → way t.mask (k.hash w) c ∈ t.place.toList)
    {Q : SetFound → Shared → Prop} (hin : k ∈ L.map (·.2) → Q (.there none) s) (hout : k ∉ L.map (·.2) → Q (.free (way t.mask (k.hash w) K) false) s) :
    ∀ (f c : Nat) (stand : Option SetTable.Probe), stand.getD (t.probeStart (k.hash w)) = stp t.mask (k.hash w) c → c ≤ K → K - c < f →
      (∀ (i : Nat) p, L[i]? = some p → p.2 = k → ∃ c', c ≤ c' ∧ c' < K ∧ t.place.toList[i]? = some (way t.mask (k.hash w) c')) → wpAny (model P w) A (setSearchFrom a (.ref x) (k.hash w) true f stand) Q E s := by
  obtain ⟨o, ho, hex, hd⟩ := R.ob
  have hashAt : ∀ (i : Nat) p, L[i]? = some p → (fun i => (es[i]?.map (·.1)).getD 0) i = p.2.hash w := fun i p hp => by
    show (es[i]?.map (·.1)).getD 0 = _
    rw [R.entry hp]; rfl
  intro f
  induction f with
  | zero => intro c stand _ _ hf; omega
  | succ f ih =>
    intro c stand hst hc hf hre
    rw [setSearchFrom_succ]
    refine wpAny_bind (wpAny_setState_of ho hd R.fits ?_)
    dsimp only
    refine wp_if_neg R.gw ?_
    try refine wpAny_bind (wpAny_pure ?_)
    have e1 : ∀ q, (nth t.mask (stp t.mask (k.hash w) c) q).j = way t.mask (k.hash w) (c + q) := fun q => by
      show _ = (stp t.mask (k.hash w) (c + q)).j
      rw [← nth_add]
    have spec := go_spec t R.tab.ris R.tab.dm (fun i => (es[i]?.map (·.1)).getD 0) (k.hash w) (10 * SetTable.turns t.mask) (K - c) (stp t.mask (k.hash w) c) (stp_dummy _ c _ rfl) (by omega)
      (fun q hq => by rw [e1]; exact hKb (c + q) (by omega)) (by rw [e1, show c + (K - c) = K by omega]; exact hK)
    have start : t.probe (fun i => (es[i]?.map (·.1)).getD 0) (k.hash w) (stand.getD (t.probeStart (k.hash w))) = SetTable.probe.go t (fun i => (es[i]?.map (·.1)).getD 0) (k.hash w) (10 * SetTable.turns t.mask) (stp t.mask (k.hash w) c) := by rw [hst]; rfl
    rcases spec with ⟨q, i, hq, hi, hh, hno, hpr⟩ | ⟨hno, hpr⟩
    · rw [start, hpr]
      dsimp only
      rw [e1] at hi ⊢
      have hil : i < L.length := by
        have h1 := (List.getElem?_eq_some_iff.mp hi).1
        have h2 := R.tab.sz
        rw [List.length_map] at h2
        rw [Array.length_toList] at h1
        omega
      obtain ⟨p, hp⟩ : ∃ p, L[i]? = some p := ⟨_, List.getElem?_eq_getElem hil⟩
      have hm : p ∈ L := List.mem_of_getElem? hp
      have rest : wpAny (model P w) A (searchRest a (.ref x) (k.hash w) true f es t (way t.mask (k.hash w) (c + q)) i (nth t.mask (stp t.mask (k.hash w) c) (q + 1))) Q E s := by
        unfold searchRest
        rw [R.entry hp]
        dsimp only
        refine wpAny_bind (wpAny_holding ((nestedKind P w).eqBool hu (R.key p hm) hx ?_))
        refine wpAny_bind (wpAny_setState_of ho hd R.fits ?_)
        dsimp only
        by_cases hkk : p.2 = k
        · exact wp_if_pos (by simp [hkk]) (wpAny_pure (hin (List.mem_map.mpr ⟨p, hm, hkk⟩)))
        · refine wp_if_neg (by simp [hkk]) ?_
          try refine wpAny_bind (wpAny_pure ?_)
          rw [sameMem]
          dsimp only
          have hsl : t.slot (way t.mask (k.hash w) (c + q)) = .live i := slot_live R.tab.ris hi
          simp only [if_true, hsl, R.entry hp]
          refine wpAny_bind (wpAny_isSame_ref_self (wpAny_bind (wpAny_pure ?_)))
          simp only [if_true]
          refine wp_if_neg (by simp [hkk]) ?_
          refine ih (c + (q + 1)) _ (by show nth t.mask (stp t.mask (k.hash w) c) (q + 1) = _; rw [← nth_add]) (by omega) (by omega) fun i0 p0 h0 hk0 => ?_
          obtain ⟨c', a1, a2, a3⟩ := hre i0 p0 h0 hk0
          refine ⟨c', ?_, a2, a3⟩
          have n1 : ¬ c' < c + q := fun z => hno (c' - c) i0 (by omega) (by rw [e1, show c + (c' - c) = c' by omega]; exact a3) ((hashAt i0 p0 h0).trans (congrArg (fun k => NestedKey.hash w k) hk0))
          have n2 : c' ≠ c + q := fun z => by
            rw [z] at a3
            have s0 := slot_live R.tab.ris a3
            rw [hsl] at s0
            injection s0 with s0
            rw [← s0, hp] at h0
            exact hkk ((congrArg Prod.snd (Option.some.inj h0)).trans hk0)
          omega
      by_cases hl : t.led = true
      · refine wp_if_neg (by simp [hl]) ?_
        try refine wpAny_bind (wpAny_pure ?_)
        exact rest
      · refine wp_if_pos (by simp [hl]) (wpAny_bind (search_unseen hx (fun y hy => ?_) ?_))
        · obtain ⟨e, he, ee⟩ := List.mem_map.mp hy
          have he2 : e ∈ es.toList := by
            have : e ∈ es ∧ e.1 = k.hash w := by simpa using he
            simpa using this.1
          rw [R.rows] at he2
          obtain ⟨p2, hp2, e2⟩ := List.mem_map.mp he2
          exact ⟨p2.2, p2.1, by rw [← ee, ← e2], R.key p2 hp2⟩
        · refine wp_if_neg (by decide) ?_
          try refine wpAny_bind (wpAny_pure ?_)
          exact rest
    · rw [start, hpr]
      dsimp only
      rw [e1, show c + (K - c) = K by omega]
      refine wpAny_pure (hout fun hm => ?_)
      obtain ⟨p0, h0, hk0⟩ := List.mem_map.mp hm
      obtain ⟨i0, hi0, e0⟩ := List.getElem_of_mem h0
      have h00 : L[i0]? = some p0 := by rw [List.getElem?_eq_getElem hi0, e0]
      obtain ⟨c', a1, a2, a3⟩ := hre i0 p0 h00 hk0
      exact hno (c' - c) i0 (by omega) (by rw [e1, show c + (c' - c) = c' by omega]; exact a3) ((hashAt i0 p0 h00).trans (congrArg (fun k => NestedKey.hash w k) hk0))
end
end LK
set_option Elab.async false
set_option linter.all false
set_option autoImplicit false
set_option maxRecDepth 100000
set_option maxHeartbeats 4000000
/-! LS2: one key more; the table laid anew. -/
namespace LK
open PySem PySem.Spec PyProof.Rows L2
section
variable {P : Program} {w : World} {A : Around} {E : Value → Shared → Prop} {s : Shared} {a : Addr} {L : List Row} {es : Array (Int × Value)} {ep : Nat} {t : SetTable}
theorem find_at (R : SetN w s.heap a L es ep t) {x : Addr} {k : NK} (hx : KeyAt s.heap k x) (hu : A.units + 8 < cLine) {Q : SetFound → Shared → Prop} (hin : k ∈ L.map (·.2) → Q (.there none) s)
    (hout : ∀ K, k ∉ L.map (·.2) → way t.mask (k.hash w) K ∉ t.place.toList → (∀ c, c < K → way t.mask (k.hash w) c ∈ t.place.toList) → Q (.free (way t.mask (k.hash w) K) false) s) : wpAny (model P w) A (setSearch a (.ref x) (k.hash w) true) Q E s := by
  have hroom := R.room
  obtain ⟨K, hKf, hK, hKb⟩ := R.tab.first (by rw [List.length_map]; omega) (k.hash w)
  have hbig : K < 100000 := by
    have : 10 * SetTable.turns t.mask ≤ 1420 := by
      unfold SetTable.turns
      rcases R.tab.mok with e | e | e <;> omega
    omega
  unfold setSearch
  refine find_key R hx hu hKf hK hKb hin (fun hn => hout K hn hK hKb) 100000 0 none rfl (Nat.zero_le _) (by omega) fun i p hp hk => ?_
  have hi : (hashesN w L)[i]? = some (k.hash w) := by rw [List.getElem?_map, hp, ← hk]; rfl
  have hil : i < t.place.toList.length := by
    have h1 := (List.getElem?_eq_some_iff.mp hp).1
    have h2 := R.tab.sz
    rw [List.length_map] at h2
    rw [Array.length_toList]
    omega
  obtain ⟨c, hc, e⟩ := R.tab.before hK hi (List.getElem?_eq_getElem hil)
  exact ⟨c, Nat.zero_le _, hc, by rw [List.getElem?_eq_getElem hil, e]⟩
/-- a key isn't the set -/
theorem KeyAt.but {h h' : Heap} {k : NK} {b : Addr} {o : Obj} (x : KeyAt h k b) (ho : h.get? a = some o) (hd : o.data = .set es ep t) (hs : Heap.SameBut a h h') : KeyAt h' k b :=
  x.keep fun c o' vs n e1 e2 => (hs.2 c fun e => by subst e; rw [ho] at e1; cases e1; rw [hd] at e2; cases e2).trans e1
theorem tab_plain {hs : List Int} {b : Bool} (T : TabOk t hs) : TabOk { t with plain := b } hs := ⟨T.ris, T.dm, T.sz, T.mok, T.bd, T.reach⟩
theorem rowsN_put (L : List Row) (p : Nat) (x : Addr) (k : NK) : rowsN w (L.take p ++ (x, k) :: L.drop p) = (rowsN w L).take p ++ (k.hash w, Value.ref x) :: (rowsN w L).drop p := by
  simp only [rowsN, List.map_append, List.map_cons, List.map_take, List.map_drop]
theorem order_rowsN (L : List Row) (es : Array (Int × Value)) (order : Array Nat) (hr : es.toList = rowsN w L) (hp : order.toList.Perm (List.range L.length)) :
    ∃ M, (order.filterMap (es[·]?)).toList = rowsN w M ∧ M.Perm L ∧ hashesN w M = order.toList.map fun i => (es.map (·.1)).getD i 0 := by
  have hsz : es.size = L.length := by rw [← Array.length_toList, hr, List.length_map]
  have ent : ∀ i (h : i < L.length), es[i]? = some ((L[i]).2.hash w, Value.ref (L[i]).1) := fun i h => by
    rw [← Array.getElem?_toList, hr, List.getElem?_map, List.getElem?_eq_getElem h]; rfl
  have key : ∀ l : List Nat, (∀ i ∈ l, i < L.length) → l.filterMap (fun i => es[i]?) = rowsN w (l.filterMap fun i => L[i]?) ∧ hashesN w (l.filterMap fun i => L[i]?) = l.map fun i => (es.map (·.1)).getD i 0 := by
    intro l
    induction l with
    | nil => exact fun _ => ⟨rfl, rfl⟩
    | cons i l ih =>
      intro hl
      have hi := hl i List.mem_cons_self
      obtain ⟨q1, q2⟩ := ih fun j hj => hl j (List.mem_cons_of_mem _ hj)
      have e5 : (es.map (·.1))[i]? = some ((L[i]).2.hash w) := by rw [Array.getElem?_map, ent i hi]; rfl
      refine ⟨?_, ?_⟩
      · rw [List.filterMap_cons_some (ent i hi), List.filterMap_cons_some (List.getElem?_eq_getElem hi), q1]; rfl
      · rw [List.filterMap_cons_some (List.getElem?_eq_getElem hi), List.map_cons, ← q2]
        simp [Array.getD_eq_getD_getElem?, e5]
  obtain ⟨q1, q2⟩ := key order.toList fun i hi => List.mem_range.mp (hp.mem_iff.mp hi)
  refine ⟨_, by simpa using q1, ?_, q2⟩
  have h1 := hp.filterMap fun i => L[i]?
  have h2 : (List.range L.length).filterMap (fun i => L[i]?) = L := by
    have go : ∀ n, n ≤ L.length → (List.range n).filterMap (fun i => L[i]?) = L.take n := by
      intro n
      induction n with
      | zero => exact fun _ => rfl
      | succ n ih =>
        intro hn
        rw [List.range_succ, List.filterMap_append, ih (by omega), List.take_succ, List.getElem?_eq_getElem hn, List.filterMap_cons_some (List.getElem?_eq_getElem hn)]
        rfl
    rw [go _ (Nat.le_refl _), List.take_length]
  rwa [h2] at h1
/-- laid anew -/
theorem relayN {o : Obj} (ho : s.heap.get? a = some o) (hex : o.ExactSet) (hd : o.data = .set es ep t) (hrows : es.toList = rowsN w L) (hsz : t.place.size = es.size) (hdm : t.dummies = #[]) (hfl : es.size ≤ t.mask) (nd : (L.map (·.2)).Nodup) (key : ∀ p ∈ L, KeyAt s.heap p.2 p.1)
    (ld : w.params.followText "set-order" = true ∨ t.led = true) (few : L.length < 64) {wanted M : Nat} (hw : SetTable.sizeAbove wanted - 1 = M) (hM : MaskOk M) (hw2 : SetTable.sizeAbove wanted ≤ 128) (hn : L.length * 5 < M * 3) {Q : Unit → Shared → Prop}
    (hQ : ∀ h' L' es' ep' t', Heap.SameBut a s.heap h' → SetN w h' a L' es' ep' t' → L'.Perm L → Q () { s with heap := h' }) : wpAny (model P w) A (setRelay a wanted) Q E s := by
  have hsl : es.size = L.length := by rw [← Array.length_toList, hrows, List.length_map]
  have hfits : t.fits es.size = true := by
    unfold SetTable.fits SetTable.fill
    rw [hdm]
    simp only [Array.size_empty, Nat.add_zero, Bool.and_eq_true, beq_iff_eq, decide_eq_true_eq]
    omega
  obtain ⟨t', order, e, hp, T, em, el, _, ed⟩ := relaid_ok t (hs := es.map (·.1)) (wanted := wanted) hw hM (by rw [Array.size_map, hsl]; omega)
  rw [Array.size_map, hsl] at hp
  obtain ⟨M2, r1, r2, r3⟩ := order_rowsN L es order hrows hp
  rw [← r3] at T
  have hs2 : (order.filterMap (es[·]?)).size = es.size := by rw [← Array.length_toList, r1, List.length_map, r2.length_eq, hsl]
  rw [setRelay_eq]
  refine wpAny_bind (wpAny_setState_of ho hd hfits ?_)
  dsimp only
  refine wp_if_neg (by rw [sizeLine_eq]; omega) ?_
  try refine wpAny_bind (wpAny_pure ?_)
  rw [e]
  dsimp only
  refine wpAny_bind (wp_if_neg (by rw [hs2]; simp) ?_)
  try refine wpAny_bind (wpAny_pure ?_)
  refine wpAny_pure ?_
  dsimp only
  refine wpAny_storeSet_of ho hd ?_ (by rw [hs2, hsl, sizeLine_eq]; omega)
  have sb : Heap.SameBut a s.heap (s.heap.update a (Obj.putSet (order.filterMap (es[·]?)) t')) := Heap.SameBut.update ..
  refine hQ _ M2 (order.filterMap (es[·]?)) (ep + 1) t' sb ⟨⟨_, store_at ho hd, ⟨hex.1, hex.2.1, hex.2.2⟩, rfl⟩, r1, T, (r2.map (·.2)).nodup_iff.mpr nd, fun p hpm => (key p (r2.mem_iff.mp hpm)).but ho hd sb, by rw [el]; exact ld, ?_, by rw [r2.length_eq]; exact few⟩ r2
  rw [r2.length_eq, em]
  exact hn
/-- one key more -/
theorem addN (R : SetN w s.heap a L es ep t) {x : Addr} {k : NK} (hx : KeyAt s.heap k x) (hu : A.units + 8 < cLine) (hfew : L.length + 1 < 64) {Q : Bool → Shared → Prop}
    (hQ : ∀ b h' L' es' ep' t', Heap.SameBut a s.heap h' → SetN w h' a L' es' ep' t' → (k ∈ L.map (·.2) → L' = L) → (k ∉ L.map (·.2) → L'.Perm ((x, k) :: L)) → Q b { s with heap := h' }) : wpAny (model P w) A (setAddHashed a (.ref x) (k.hash w)) Q E s := by
  obtain ⟨o, ho, hex, hd⟩ := R.ob
  have hsl := R.size
  have hroom := R.room
  unfold setAddHashed
  refine wpAny_holding ?_
  rw [show (100000 : Nat) = 99999 + 1 from rfl, setAddHashedIn_succ]
  refine wpAny_bind (wpAny_setState_of ho hd R.fits ?_)
  dsimp only
  refine wp_if_neg (by simp [byScan, Value.scannable]) ?_
  try refine wpAny_bind (wpAny_pure ?_)
  refine wpAny_bind (find_at R hx hu (fun hm => ?_) fun K hm hK hb => ?_)
  · dsimp only
    exact wpAny_pure (hQ false s.heap L es ep t (Heap.SameBut.refl a s.heap) R (fun _ => rfl) fun z => absurd hm z)
  · dsimp only
    refine wpAny_bind (wpAny_setState_of ho hd R.fits ?_)
    dsimp only
    obtain ⟨q1, q2, q3, q4, q5, _, _, _, q9⟩ := R.tab.put hK hb
    generalize hpt : t.put (way t.mask (k.hash w) K) = pt at q1 q3 q4 q5 q9 ⊢
    obtain ⟨t1, p⟩ := pt
    dsimp only at q1 q3 q4 q5 q9 ⊢
    subst q1
    have hin : (SetTable.insertAt es (SetTable.below t.place (way t.mask (k.hash w) K)) (k.hash w, Value.ref x)).toList = rowsN w (L.take (SetTable.below t.place (way t.mask (k.hash w) K)) ++ (x, k) :: L.drop (SetTable.below t.place (way t.mask (k.hash w) K))) := by
      rw [SetTable.toList_insertAt, rowsN_put, R.rows]
    generalize hpp : SetTable.below t.place (way t.mask (k.hash w) K) = p at q2 q3 hin ⊢
    have pm := put_perm L p (x, k)
    have hlen : (L.take p ++ (x, k) :: L.drop p).length = L.length + 1 := pm.length_eq
    have hhs : hashesN w (L.take p ++ (x, k) :: L.drop p) = (hashesN w L).take p ++ k.hash w :: (hashesN w L).drop p := by
      simp only [hashesN, List.map_append, List.map_cons, List.map_take, List.map_drop]
    rw [← hhs] at q3
    have nd1 : ((L.take p ++ (x, k) :: L.drop p).map (·.2)).Nodup := by
      refine (pm.map (·.2)).nodup_iff.mpr ?_
      rw [List.map_cons]
      exact List.nodup_cons.mpr ⟨hm, R.nd⟩
    have hes : (SetTable.insertAt es p (k.hash w, Value.ref x)).size = L.length + 1 := by rw [← Array.length_toList, hin, List.length_map, hlen]
    generalize SetTable.insertAt es p (k.hash w, Value.ref x) = es1 at hin hes ⊢
    generalize L.take p ++ (x, k) :: L.drop p = L1 at pm hlen q3 nd1 hin
    -- whatever is told of its hash
    have tail : ∀ t2 : SetTable, TabOk t2 (hashesN w L1) → t2.mask = t.mask → t2.led = t.led → t2.fill = (hashesN w L).length + 1 → wpAny (model P w) A (do
        storeSet a es1 t2
        if !false && t2.tooFull then setRelay a (SetTable.grown (es.size + 1))
        return true) Q E s := by
      intro t2 q3 q4 q5 q9
      refine wpAny_bind (wpAny_storeSet_of ho hd ?_ (by rw [hes, sizeLine_eq]; omega))
      have sb : Heap.SameBut a s.heap (s.heap.update a (Obj.putSet es1 t2)) := Heap.SameBut.update ..
      have ho1 := store_at (es' := es1) (t' := t2) ho hd
      generalize s.heap.update a (Obj.putSet es1 t2) = h1 at sb ho1 ⊢
      have key1 : ∀ p ∈ L1, KeyAt h1 p.2 p.1 := fun p hp => by
        rcases List.mem_cons.mp (pm.mem_iff.mp hp) with e | hp
        · rw [e]; exact hx.but ho hd sb
        · exact (R.key p hp).but ho hd sb
      have ld1 : w.params.followText "set-order" = true ∨ t2.led = true := by rw [q5]; exact R.led
      have hhl : (hashesN w L).length = L.length := List.length_map _
      by_cases hf : t2.tooFull = true
      · first
          | (refine wpAny_bind ?_; refine wp_if_pos (by simp [hf]) ?_)
          | (refine wp_if_pos (by simp [hf]) ?_; refine wpAny_bind ?_)
        have hfull : (L.length + 1) * 5 ≥ t2.mask * 3 := by
          have h := hf
          unfold SetTable.tooFull at h
          rw [decide_eq_true_eq, q9, hhl] at h
          exact h
        rw [hsl]
        have hsz1 : t2.place.size = es1.size := by
          have h := q3.sz
          rw [List.length_map, hlen] at h
          rw [h, hes]
        have two : (t.mask = 7 ∧ L.length = 4) ∨ (t.mask = 31 ∧ L.length = 18) := by
          rcases R.tab.mok with e | e | e <;> rw [q4, e] at hfull <;> rw [e] at hroom
          · exact .inl ⟨e, by omega⟩
          · exact .inr ⟨e, by omega⟩
          · omega
        have go : ∀ M, SetTable.sizeAbove (SetTable.grown (L.length + 1)) - 1 = M → MaskOk M → SetTable.sizeAbove (SetTable.grown (L.length + 1)) ≤ 128 → (L.length + 1) * 5 < M * 3 →
            wpAny (model P w) A (setRelay a (SetTable.grown (L.length + 1))) (fun _ s' => wpAny (model P w) A (pure true) Q E s') E { s with heap := h1 } := fun M g1 g2 g3 g4 => by
          refine relayN (s := { s with heap := h1 }) ho1 ⟨hex.1, hex.2.1, hex.2.2⟩ rfl hin hsz1 q3.dm (by rw [hes, q4]; rcases two with ⟨e, e2⟩ | ⟨e, e2⟩ <;> omega) nd1 key1 ld1 (by rw [hlen]; exact hfew) g1 g2 g3 (by rw [hlen]; exact g4) ?_
          intro h2 L2 es2 ep2 t2 sb2 R2 pm2
          exact wpAny_pure (hQ true h2 L2 es2 ep2 t2 (sb.trans sb2) R2 (fun z => absurd z hm) fun _ => pm2.trans pm)
        rcases two with ⟨_, e2⟩ | ⟨_, e2⟩
        · exact go 31 (by rw [e2, size_20]) (.inr (.inl rfl)) (by rw [e2, size_20]; decide) (by omega)
        · exact go 127 (by rw [e2, size_76]) (.inr (.inr rfl)) (by rw [e2, size_76]; decide) (by omega)
      · first
          | refine wp_if_neg (by simp [hf]) ?_
          | (refine wpAny_bind ?_; refine wp_if_neg (by simp [hf]) ?_; refine wpAny_pure ?_)
        refine wpAny_pure (hQ true h1 L1 es1 (ep + 1) t2 sb ⟨⟨_, ho1, ⟨hex.1, hex.2.1, hex.2.2⟩, rfl⟩, hin, q3, nd1, key1, ld1, ?_, by rw [hlen]; exact hfew⟩ (fun z => absurd z hm) fun _ => pm)
        have h := hf
        unfold SetTable.tooFull at h
        rw [decide_eq_true_eq, q9, hhl] at h
        rw [hlen]
        omega
    have both : ∀ b : Bool, wpAny (model P w) A (do
        storeSet a es1 (if b = true then t1 else { t1 with plain := false })
        if !false && (if b = true then t1 else { t1 with plain := false }).tooFull then setRelay a (SetTable.grown (es.size + 1))
        return true) Q E s := fun b => by
      cases b with
      | true => exact tail t1 q3 q4 q5 q9
      | false => exact tail { t1 with plain := false } (tab_plain q3) q4 q5 q9
    by_cases hpl : t1.plain = true
    · first
        | (refine wpAny_bind ?_; refine wp_if_pos hpl ?_; exact byValue_some 8 k _ _ hx.1 both)
        | exact wp_if_pos hpl (wpAny_bind (byValue_some 8 k _ _ hx.1 both))
    · first
        | (refine wpAny_bind ?_; refine wp_if_neg hpl ?_; exact wpAny_pure (both true))
        | exact wp_if_neg hpl (both true)
end
end LK
set_option Elab.async false
set_option linter.all false
set_option autoImplicit false
set_option maxRecDepth 100000
set_option maxHeartbeats 4000000
/-! LS3: sets of texts, by the scan; what a set is worth; set(xs). -/
namespace LK
open PySem PySem.Spec PyProof.Rows L2
def keyOfV : Value → Key
  | .int i _ => .inl i
  | .str x _ => .inr x
  | _ => .inl 0
def nkOf : Key → NK
  | .inl i => .num i
  | .inr x => .text x
theorem nk_hash (w : World) (k : Key) : (nkOf k).hash w = keyH w k := by cases k <;> rfl
theorem nk_inj {a b : Key} (h : nkOf a = nkOf b) : a = b := by
  cases a <;> cases b <;> simp [nkOf] at h <;> rw [h]
theorem keyOf_is {k : Key} {v : Value} (h : keyIs k v = true) : keyOfV v = k := by
  rcases keyIs_shape h with ⟨i, t, rfl, rfl⟩ | ⟨x, t, rfl, rfl⟩ <;> rfl
theorem key_scans {k : Key} {v : Value} (h : keyIs k v = true) : v.scannable = true := by
  rcases keyIs_shape h with ⟨i, t, rfl, rfl⟩ | ⟨x, t, rfl, rfl⟩ <;> rfl
section
variable {P : Program} {w : World} {A : Around} {E : Value → Shared → Prop} {s : Shared} {a : Addr} {es : Array (Int × Value)} {ep : Nat} {t : SetTable}
structure SetS (P : Program) (w : World) (h : Heap) (a : Addr) (es : Array (Int × Value)) (ep : Nat) (t : SetTable) : Prop where
  ob : ∃ o, h.get? a = some o ∧ o.ExactSet ∧ o.data = .set es ep t
  el : ElemsOf (mixKind P w) es.toList
  nd : (es.toList.map fun e => keyOfV e.2).Nodup
  fits : t.fits es.size = true
  ris : Ris t.place.toList
  led : w.params.followText "set-order" = true ∨ t.led = true
  few : es.size < 64
theorem endS {g : Bool → Sem Unit} (hg : ∀ (b : Bool) (s₁ : Shared) (Q' : Unit → Shared → Prop), Q' () s₁ → wpAny (model P w) A (g b) Q' E s₁) {o : Obj} (ho : s.heap.get? a = some o) (hex : o.ExactSet) (hd : o.data = .set es ep t) {es1 : Array (Int × Value)} {t2 : SetTable}
    (el : ElemsOf (mixKind P w) es1.toList) (nd : (es1.toList.map fun e => keyOfV e.2).Nodup) (few : es1.size < 64) (hf : t2.fits es1.size = true) (ris : Ris t2.place.toList) (led : w.params.followText "set-order" = true ∨ t2.led = true) {wd : Bool} {R : Option Bool → Shared → Prop}
    (hR : ∀ h' es' ep' t', Heap.SameBut a s.heap h' → SetS P w h' a es' ep' t' → es'.toList.Perm es1.toList → R (some true) { s with heap := h' }) :
    wpAny (model P w) A (do
        storeSet a es1 t2
        if (!wd && t2.tooFull) = true then do
            g (relayAll t2 es1 (SetTable.grown es1.size)).2.2
            storeSet a (relayAll t2 es1 (SetTable.grown es1.size)).1 (relayAll t2 es1 (SetTable.grown es1.size)).2.1
            pure (some true)
          else pure (some true)) R E s := by
  have few2 : ∀ n : Nat, n < 64 → n ≤ sizeLine := fun n h => by rw [sizeLine_eq]; omega
  refine wpAny_bind (wpAny_storeSet_of ho hd ?_ (few2 _ few))
  have ho1 := store_at (es' := es1) (t' := t2) ho hd
  have sb1 := Heap.SameBut.update s.heap a (Obj.putSet es1 t2)
  split
  · have pm := relayAll_perm t2 es1 (SetTable.grown es1.size)
    have hf3 := relayAll_fits t2 es1 (SetTable.grown es1.size)
    have hr3 := relayAll_ris t2 es1 (SetTable.grown es1.size)
    have hl3 := relayAll_led t2 es1 (SetTable.grown es1.size)
    generalize relayAll t2 es1 (SetTable.grown es1.size) = Z at pm hf3 hr3 hl3 ⊢
    obtain ⟨es2, t3, gave⟩ := Z
    dsimp only at pm hf3 hr3 hl3 ⊢
    have hsz : es2.size = es1.size := by rw [← Array.length_toList, pm.length_eq, Array.length_toList]
    refine wpAny_bind (hg _ _ _ (wpAny_bind (wpAny_storeSet_of ho1 rfl ?_ (few2 _ (by rw [hsz]; exact few)))))
    exact wpAny_pure (hR _ es2 _ t3 (sb1.trans (Heap.SameBut.update _ a _)) ⟨⟨_, store_at ho1 rfl, hex, rfl⟩, el.perm pm, (pm.map fun e => keyOfV e.2).nodup_iff.mpr nd, hf3, hr3, led.imp id fun z => by rw [hl3]; exact z, by rw [hsz]; exact few⟩ pm)
  · exact wpAny_pure (hR _ es1 _ t2 sb1 ⟨⟨_, ho1, hex, rfl⟩, el, nd, hf, ris, led, few⟩ (List.Perm.refl _))
theorem addS (R : SetS P w s.heap a es ep t) {x : Key} {v : Value} (hkey : keyIs x v = true) (room : es.size + 1 < 64) {Q : Bool → Shared → Prop}
    (hQ : ∀ b h' es' ep' t', Heap.SameBut a s.heap h' → SetS P w h' a es' ep' t' → (x ∈ es.toList.map (fun e => keyOfV e.2) → es'.toList = es.toList) → (x ∉ es.toList.map (fun e => keyOfV e.2) → es'.toList.Perm ((keyH w x, v) :: es.toList)) → Q b { s with heap := h' }) :
    wpAny (model P w) A (setAddHashed a v (keyH w x)) Q E s := by
  obtain ⟨o, ho, hex, hd⟩ := R.ob
  have hb : es.size < scanBound := by unfold scanBound; omega
  have mem : x ∈ es.toList.map (fun e => keyOfV e.2) ↔ ∃ e ∈ es.toList, (mixKind P w).is x e.2 = true := by
    constructor
    · intro h
      obtain ⟨e, he, q⟩ := List.mem_map.mp h
      obtain ⟨⟨y, hy, _⟩, _⟩ := R.el e he
      refine ⟨e, he, ?_⟩
      rw [← q, keyOf_is hy]
      exact hy
    · rintro ⟨e, he, q⟩
      exact List.mem_map.mpr ⟨e, he, keyOf_is q⟩
  unfold setAddHashed setAddHashedIn
  refine wpAny_holding (wpAny_bind (wpAny_setState_of ho hd R.fits ?_))
  dsimp only
  rw [byScan_of (knd := mixKind P w) (key_scans hkey) hb R.el]
  simp only [if_true]
  unfold setAddByScan
  refine wpAny_bind (wpAny_bind (wpAny_rule (wpAny_bind (wpAny_setScan_of (knd := mixKind P w) hkey ho hd R.fits R.el ?_))))
  cases hr : List.findIdx? (fun e => (mixKind P w).is x e.2) es.toList with
  | some j =>
    dsimp only
    obtain ⟨hj, hpj, _⟩ := List.findIdx?_eq_some_iff_getElem.mp hr
    have hm := mem.mpr ⟨_, List.getElem_mem hj, hpj⟩
    exact wpAny_pure (wpAny_pure (hQ false s.heap es ep t (Heap.SameBut.refl a s.heap) R (fun _ => rfl) fun z => absurd hm z))
  | none =>
    dsimp only
    have hm : x ∉ es.toList.map (fun e => keyOfV e.2) := fun h => by
      obtain ⟨e, he, q⟩ := mem.mp h
      have := List.findIdx?_eq_none_iff.mp hr e he
      rw [q] at this
      cases this
    have hg : ∀ (b : Bool) (s₁ : Shared) (Q' : Unit → Shared → Prop), Q' () s₁ → wpAny (model P w) A (match b with | true => rule "set.scan.the-table-gave-way" | false => pure ()) Q' E s₁ := fun b s₁ Q' hq => by
      cases b
      · exact wpAny_pure hq
      · exact wpAny_rule hq
    have pm := layNew_perm t es (keyH w x) v
    have hf := layNew_fits t es (keyH w x) v
    have hri := layNew_ris t es (keyH w x) v R.ris
    have hle := layNew_led t es (keyH w x) v
    show wpAny _ _ (match layNew t es (keyH w x) v with | (es, t, wasDummy, gave) => _) _ _ _
    generalize layNew t es (keyH w x) v = Z at pm hf hri hle ⊢
    obtain ⟨es1, t1, wd, gave⟩ := Z
    dsimp only at pm hf hri hle ⊢
    rw [Array.toList_push] at pm
    have el1 : ElemsOf (mixKind P w) es1.toList := (R.el.push hkey (key_scans hkey)).perm pm
    have nd1 : (es1.toList.map fun e => keyOfV e.2).Nodup := by
      refine (pm.map fun e => keyOfV e.2).nodup_iff.mpr ?_
      rw [List.map_append]
      refine List.nodup_append.mpr ⟨R.nd, by simp, fun y hy z hz e => ?_⟩
      rw [List.map_singleton, List.mem_singleton] at hz
      have h9 : y = x := e.trans (hz.trans (keyOf_is hkey))
      subst h9
      exact hm hy
    have sz1 : es1.size = es.size + 1 := by rw [← Array.length_toList, pm.length_eq, List.length_append, Array.length_toList]; rfl
    refine wpAny_bind (hg _ _ _ ?_)
    have fin : ∀ t2 : SetTable, t2.fits es1.size = true → Ris t2.place.toList → (w.params.followText "set-order" = true ∨ t2.led = true) → ∀ (Q1 : Option Bool → Shared → Prop), (∀ s', Q true s' → Q1 (some true) s') → wpAny (model P w) A (do
        storeSet a es1 t2
        if (!wd && t2.tooFull) = true then do
            (match (relayAll t2 es1 (SetTable.grown es1.size)).2.2 with | true => rule "set.scan.the-table-gave-way" | false => pure ())
            storeSet a (relayAll t2 es1 (SetTable.grown es1.size)).1 (relayAll t2 es1 (SetTable.grown es1.size)).2.1
            pure (some true)
          else pure (some true)) Q1 E s := fun t2 f1 f2 f3 Q1 hq1 =>
      endS (g := fun b => match b with | true => rule "set.scan.the-table-gave-way" | false => pure ()) hg ho hex hd el1 nd1 (by rw [sz1]; exact room) f1 f2 f3 fun h' es' ep' t' sb R' pm' =>
        hq1 _ (hQ true h' es' ep' t' sb R' (fun z => absurd z hm) fun _ => pm'.trans (pm.trans (List.perm_append_singleton _ _)))
    have led1 : w.params.followText "set-order" = true ∨ t1.led = true := R.led.imp id fun z => by rw [hle]; exact z
    split
    · refine wpAny_bind ?_
      rw [hashByValue_scannable 8 (key_scans hkey)]
      refine wpAny_pure ?_
      cases plainKind v with
      | false =>
        simp only [Bool.false_eq_true, if_false]
        exact fin _ (SetTable.fits_plain_off hf) hri led1 _ fun s' q => wpAny_pure q
      | true =>
        simp only [if_true]
        exact fin _ hf hri led1 _ fun s' q => wpAny_pure q
    · refine wpAny_bind (wpAny_pure ?_)
      simp only [if_true]
      exact fin _ hf hri led1 _ fun s' q => wpAny_pure q
end
end LK
set_option Elab.async false
set_option linter.all false
set_option autoImplicit false
set_option maxRecDepth 100000
set_option maxHeartbeats 4000000
/-! LS4: set(xs) of a list of keys, tuples or texts. -/
namespace LK
open PySem PySem.Spec PyProof.Rows L2
abbrev VRow := Value × NK
section
variable {P : Program} {w : World}
/-- p is a value and its key: a tuple (b), or a text -/
def ItemV (b : Bool) (h : Heap) (p : VRow) : Prop := if b then ∃ c, p.1 = .ref c ∧ KeyAt h p.2 c else ∃ x, keyIs x p.1 = true ∧ p.2 = nkOf x
/-- at a stands a set of these -/
def SetV (P : Program) (w : World) (b : Bool) (h : Heap) (a : Addr) (L : List VRow) : Prop :=
  if b then ∃ L0 es ep t, SetN w h a L0 es ep t ∧ L = L0.map fun p => (Value.ref p.1, p.2) else ∃ es ep t, SetS P w h a es ep t ∧ L = es.toList.map fun e => (e.2, nkOf (keyOfV e.2))
theorem ItemV.is {b : Bool} {h : Heap} {p : VRow} (x : ItemV b h p) : NestedIs h p.2 p.1 ∧ p.2.depth ≤ 8 := by
  cases b with
  | true =>
    obtain ⟨c, e, q⟩ := (show ∃ c, p.1 = .ref c ∧ KeyAt h p.2 c from x)
    rw [e]
    exact q
  | false =>
    obtain ⟨y, e, q⟩ := (show ∃ x, keyIs x p.1 = true ∧ p.2 = nkOf x from x)
    rw [q]
    rcases keyIs_shape e with ⟨i, t, rfl, e2⟩ | ⟨z, t, rfl, e2⟩ <;> rw [e2]
    · exact ⟨.int i t, by simp [nkOf, NestedKey.depth]⟩
    · exact ⟨.text z t, by simp [nkOf, NestedKey.depth]⟩
theorem ItemV.keep {b : Bool} {h h' : Heap} {p : VRow} (x : ItemV b h p) (hk : ∀ c o, h.get? c = some o → h'.get? c = some o) : ItemV b h' p := by
  cases b with
  | true =>
    obtain ⟨c, e, q⟩ := (show ∃ c, p.1 = .ref c ∧ KeyAt h p.2 c from x)
    exact (show ∃ c, p.1 = .ref c ∧ KeyAt h' p.2 c from ⟨c, e, q.keep fun d o _ _ e _ => hk d o e⟩)
  | false => exact x
theorem SetV.keep {b : Bool} {h h' : Heap} {a : Addr} {L : List VRow} (x : SetV P w b h a L) (ha : ∀ o, h.get? a = some o → h'.get? a = some o) (ht : ∀ p ∈ L, ItemV b h' p) : SetV P w b h' a L := by
  cases b with
  | true =>
    obtain ⟨L0, es, ep, t, R, e⟩ := (show ∃ L0 es ep t, SetN w h a L0 es ep t ∧ L = L0.map fun p => (Value.ref p.1, p.2) from x)
    obtain ⟨o, ho, r⟩ := R.ob
    refine (show ∃ L0 es ep t, SetN w h' a L0 es ep t ∧ L = L0.map fun p => (Value.ref p.1, p.2) from ⟨L0, es, ep, t, ⟨⟨o, ha o ho, r⟩, R.rows, R.tab, R.nd, fun p hp => ?_, R.led, R.room, R.few⟩, e⟩)
    obtain ⟨c, ec, q⟩ := (show ∃ c, Value.ref p.1 = .ref c ∧ KeyAt h' p.2 c from ht (.ref p.1, p.2) (by rw [e]; exact List.mem_map.mpr ⟨p, hp, rfl⟩))
    cases ec
    exact q
  | false =>
    obtain ⟨es, ep, t, R, e⟩ := (show ∃ es ep t, SetS P w h a es ep t ∧ L = es.toList.map fun e => (e.2, nkOf (keyOfV e.2)) from x)
    obtain ⟨o, ho, r⟩ := R.ob
    exact (show ∃ es ep t, SetS P w h' a es ep t ∧ L = es.toList.map fun e => (e.2, nkOf (keyOfV e.2)) from ⟨es, ep, t, ⟨⟨o, ha o ho, r⟩, R.el, R.nd, R.fits, R.ris, R.led, R.few⟩, e⟩)
/-- what a walk over a set wants -/
structure SetW (w : World) (h : Heap) (a : Addr) (L : List VRow) (es : Array (Int × Value)) (ep : Nat) (t : SetTable) : Prop where
  at_ : SetAt h a es ep t
  fits : t.fits es.size = true
  few : es.size < 64
  ris : Ris t.place.toList
  led : w.params.followText "set-order" = true ∨ t.led = true
  vals : es.toList.map (·.2) = L.map (·.1)
  nd : (L.map (·.2)).Nodup
  inj : ∀ p ∈ L, ∀ q ∈ L, p.1 = q.1 → p = q
theorem SetV.walk {b : Bool} {s : Shared} {a : Addr} {L : List VRow} (x : SetV P w b s.heap a L) : ∃ es ep t, SetW w s.heap a L es ep t := by
  cases b with
  | true =>
    obtain ⟨L0, es, ep, t, R, rfl⟩ := (show ∃ L0 es ep t, SetN w s.heap a L0 es ep t ∧ L = L0.map fun p => (Value.ref p.1, p.2) from x)
    obtain ⟨o, ho, hex, hd⟩ := R.ob
    refine ⟨es, ep, t, ⟨o, ho, hex.1, hd⟩, R.fits, by rw [R.size]; exact R.few, R.tab.ris, R.led, ?_, ?_, ?_⟩
    · rw [R.rows]; simp
    · have : ((L0.map fun p => (Value.ref p.1, p.2)).map (·.2)) = L0.map (·.2) := by simp
      rw [this]; exact R.nd
    · intro p hp q hq e
      obtain ⟨p0, hp0, rfl⟩ := List.mem_map.mp hp
      obtain ⟨q0, hq0, rfl⟩ := List.mem_map.mp hq
      simp only [Value.ref.injEq] at e
      have k1 := R.key p0 hp0
      have k2 := R.key q0 hq0
      rw [e] at k1
      simp only [e, k1.inj k2]
  | false =>
    obtain ⟨es, ep, t, R, rfl⟩ := (show ∃ es ep t, SetS P w s.heap a es ep t ∧ L = es.toList.map fun e => (e.2, nkOf (keyOfV e.2)) from x)
    obtain ⟨o, ho, hex, hd⟩ := R.ob
    refine ⟨es, ep, t, ⟨o, ho, hex.1, hd⟩, R.fits, R.few, R.ris, R.led, by simp, ?_, ?_⟩
    · have : ((es.toList.map fun e => (e.2, nkOf (keyOfV e.2))).map (·.2)) = (es.toList.map fun e => keyOfV e.2).map nkOf := by simp
      rw [this]
      exact List.pairwise_map.mpr (R.nd.imp fun h e => h (nk_inj e))
    · intro p hp q hq e
      obtain ⟨p0, hp0, rfl⟩ := List.mem_map.mp hp
      obtain ⟨q0, hq0, rfl⟩ := List.mem_map.mp hq
      simp only at e
      simp only [e]
theorem SetV.len {b : Bool} {s : Shared} {a : Addr} {L : List VRow} (x : SetV P w b s.heap a L) : L.length < 64 := by
  obtain ⟨es, ep, t, q⟩ := x.walk
  have := congrArg List.length q.vals
  simp at this
  have := q.few
  omega
variable {A : Around} {E : Value → Shared → Prop} {s : Shared}
theorem addV {b : Bool} {a : Addr} {L : List VRow} {p : VRow} (R : SetV P w b s.heap a L) (hx : ItemV b s.heap p) (hu : A.units + 8 < cLine) (room : L.length + 1 < 64) {Q : Bool → Shared → Prop}
    (hQ : ∀ c h' L', Heap.SameBut a s.heap h' → SetV P w b h' a L' → (p.2 ∈ L.map (·.2) → L' = L) → (p.2 ∉ L.map (·.2) → L'.Perm (p :: L)) → Q c { s with heap := h' }) : wpAny (model P w) A (setAddHashed a p.1 (p.2.hash w)) Q E s := by
  obtain ⟨v, k⟩ := p
  cases b with
  | true =>
    obtain ⟨L0, es, ep, t, R0, rfl⟩ := (show ∃ L0 es ep t, SetN w s.heap a L0 es ep t ∧ L = L0.map fun p => (Value.ref p.1, p.2) from R)
    obtain ⟨c, rfl, hk⟩ := (show ∃ c, v = .ref c ∧ KeyAt s.heap k c from hx)
    have e2 : (L0.map fun p => (Value.ref p.1, p.2)).map (·.2) = L0.map (·.2) := by simp
    rw [e2] at hQ
    refine addN R0 hk hu (by simpa using room) fun d h' L' es' ep' t' sb R' c1 c2 => hQ d h' (L'.map fun p => (Value.ref p.1, p.2)) sb ⟨L', es', ep', t', R', rfl⟩ (fun z => by rw [c1 z]) fun z => ?_
    exact (c2 z).map fun p => (Value.ref p.1, p.2)
  | false =>
    obtain ⟨es, ep, t, R0, rfl⟩ := (show ∃ es ep t, SetS P w s.heap a es ep t ∧ L = es.toList.map fun e => (e.2, nkOf (keyOfV e.2)) from R)
    obtain ⟨x, hkey, rfl⟩ := (show ∃ x, keyIs x v = true ∧ k = nkOf x from hx)
    have e2 : (es.toList.map fun e => (e.2, nkOf (keyOfV e.2))).map (·.2) = (es.toList.map fun e => keyOfV e.2).map nkOf := by simp
    have mem : nkOf x ∈ (es.toList.map fun e => (e.2, nkOf (keyOfV e.2))).map (·.2) ↔ x ∈ es.toList.map fun e => keyOfV e.2 := by
      rw [e2]
      constructor
      · intro h
        obtain ⟨y, hy, e⟩ := List.mem_map.mp h
        rw [← nk_inj e]; exact hy
      · exact fun h => List.mem_map.mpr ⟨x, h, rfl⟩
    show wpAny _ _ (setAddHashed a v ((nkOf x).hash w)) _ _ _
    rw [nk_hash]
    refine addS R0 hkey (by simpa using room) fun d h' es' ep' t' sb R' c1 c2 => hQ d h' (es'.toList.map fun e => (e.2, nkOf (keyOfV e.2))) sb ⟨es', ep', t', R', rfl⟩ (fun z => by rw [c1 (mem.mp z)]) fun z => ?_
    have := (c2 fun y => z (mem.mpr y)).map fun e => (e.2, nkOf (keyOfV e.2))
    rwa [List.map_cons, keyOf_is hkey] at this
/-- few keys, or few that differ -/
def FewK (ks : List VRow) : Prop := ks.length < 64 ∨ ∃ M : List NK, (∀ p ∈ ks, p.2 ∈ M) ∧ M.length + 1 < 64
/-- what the set has of the first i items -/
structure Has (ks : List VRow) (i : Nat) (L : List VRow) : Prop where
  sub : ∀ p ∈ L, p ∈ ks.take i
  all : ∀ p ∈ ks.take i, p.2 ∈ L.map (·.2)
  len : L.length ≤ i
theorem Has.step {ks L L' : List VRow} {i : Nat} {x : VRow} (g : Has ks i L) (h : ks[i]? = some x) (c1 : x.2 ∈ L.map (·.2) → L' = L) (c2 : x.2 ∉ L.map (·.2) → L'.Perm (x :: L)) : Has ks (i + 1) L' := by
  have tk : ks.take (i + 1) = ks.take i ++ [x] := take_next h
  by_cases hm : x.2 ∈ L.map (·.2)
  · rw [c1 hm]
    refine ⟨fun p hp => by rw [tk]; exact List.mem_append_left _ (g.sub p hp), fun p hp => ?_, Nat.le_succ_of_le g.len⟩
    rw [tk] at hp
    rcases List.mem_append.mp hp with z | z
    · exact g.all p z
    · rw [List.mem_singleton.mp z]; exact hm
  · have pm := c2 hm
    refine ⟨fun p hp => ?_, fun p hp => ?_, by rw [pm.length_eq]; exact Nat.succ_le_succ g.len⟩
    · rw [tk]
      rcases List.mem_cons.mp (pm.mem_iff.mp hp) with e | z
      · rw [e]; exact List.mem_append_right _ List.mem_cons_self
      · exact List.mem_append_left _ (g.sub p z)
    · rw [(pm.map (·.2)).mem_iff, List.map_cons]
      rw [tk] at hp
      rcases List.mem_append.mp hp with z | z
      · exact List.mem_cons_of_mem _ (g.all p z)
      · rw [List.mem_singleton.mp z]; exact List.mem_cons_self
theorem fill_set {b : Bool} {I : Addr} {fp wr : List Addr} {G : Array GenState → Array GenState → Prop} {n : Nat} {Pv : Nat → Value → Prop} {St : Nat → Shared → Prop} {R : Result → Shared → Prop} (W : WalksS P w A.in1 I fp wr G n Pv St) (S : Addr) (hSf : S ∉ fp) (ks : List VRow) (hn : n = ks.length) (hfew : FewK ks)
    (hval : ∀ i v, Pv i v → ∃ p, ks[i]? = some p ∧ v = p.1) (h0 : Heap) (hk : ∀ p ∈ ks, ItemV b h0 p) (hS0 : h0.get? S = none) (hw0 : ∀ c ∈ wr, h0.get? c = none) (hu : A.in1.units + 8 < cLine) :
    ∀ (k i : Nat) (s : Shared), n - i = k → i ≤ n → St i s → (∀ c o, h0.get? c = some o → s.heap.get? c = some o) → (∃ L, SetV P w b s.heap S L ∧ Has ks i L) →
      (∀ s' L, Moved (S :: wr) G s s' → SetV P w b s'.heap S L → Has ks n L → (∀ c o, h0.get? c = some o → s'.heap.get? c = some o) → R (.ok (.ret .none)) s') → codeAny (model P w) A (.builtin "set.update.loop" ⟨[.ref S, .ref I], []⟩) R s := by
  have hSw : S ∉ wr := fun h => hSf (W.sub _ h)
  have hsub : ∀ c ∈ wr, c ∈ S :: wr := fun c hc => List.mem_cons_of_mem _ hc
  have keepM : ∀ {s s' : Shared}, Moved wr G s s' → (∀ c o, h0.get? c = some o → s.heap.get? c = some o) → ∀ c o, h0.get? c = some o → s'.heap.get? c = some o := fun hm hkp c o e => hm.heap c o (fun hc => by rw [hw0 c hc] at e; cases e) (hkp c o e)
  intro k
  induction k with
  | zero =>
    intro i s hk' hi hst hkp ⟨L, hS, g⟩ hR
    have hin : i = n := by omega
    subst hin
    refine codeAny_builtin F.entry_set_update_loop ?_
    rw [Around.under_plainId F.plain_set_update_loop _]
    show wpAny _ A.in1 (pyNext (.ref I) >>= _) _ _ s
    refine wpAny_bind (W.done s _ _ hst fun s' hm => ?_)
    show wpAny _ A.in1 (ret Value.none) _ _ s'
    have hkp' := keepM hm hkp
    exact wpAny_pure (hR s' L (hm.mono hsub) (hS.keep (fun o e => hm.heap S o hSw e) fun p hp => (hk p (List.mem_of_mem_take (g.sub p hp))).keep hkp') g hkp')
  | succ k ih =>
    intro i s hk' hi hst hkp ⟨L, hS, g⟩ hR
    have hlt : i < n := by omega
    refine codeAny_builtin F.entry_set_update_loop ?_
    rw [Around.under_plainId F.plain_set_update_loop _]
    show wpAny _ A.in1 (pyNext (.ref I) >>= _) _ _ s
    refine wpAny_bind (W.item i s _ _ hlt hst fun v s' hP hst' hm => ?_)
    obtain ⟨p, hp, rfl⟩ := hval i v hP
    have hkp' := keepM hm hkp
    have hS' := hS.keep (h' := s'.heap) (fun o e => hm.heap S o hSw e) fun q hq => (hk q (List.mem_of_mem_take (g.sub q hq))).keep hkp'
    have hx : ItemV b s'.heap p := (hk p (List.mem_of_getElem? hp)).keep hkp'
    show wpAny _ A.in1 (holding [p.1] (setAdd S p.1) >>= _) _ _ s'
    refine wpAny_bind (wpAny_holding ?_)
    unfold setAdd
    refine wpAny_holding (wpAny_bind (pyHash_key p.2 p.1 _ _ _ hx.is.1 (by have := hx.is.2; omega) ?_))
    have hgl := g.len
    have hroom : L.length + 1 < 64 := by
      rcases hfew with hf | ⟨M, hM, hf⟩
      · omega
      · obtain ⟨_, _, _, W0⟩ := SetV.walk (s := s') hS'
        have h1 := List.Nodup.length_le_of_subset W0.nd (l₂ := M) fun y hy => by
          obtain ⟨q, hq, rfl⟩ := List.mem_map.mp hy
          exact hM q (List.mem_of_mem_take (g.sub q hq))
        rw [List.length_map] at h1
        omega
    refine addV (s := { s' with toks := s'.toks + p.2.draws }) hS' hx hu hroom fun c h' L' hsb hS2 c1 c2 => ?_
    have hkp2 : ∀ c o, h0.get? c = some o → h'.get? c = some o := fun c o e => (hsb.2 c (fun z => by rw [z, hS0] at e; cases e)).trans (hkp' c o e)
    refine wpAny_pure ⟨plainId_quiet F.plain_set_update_loop _, ih (i + 1) _ (by omega) hlt (W.frame _ s' _ _ hst' (Nat.le_add_right _ _) fun c hc o e => ?_) hkp2 ⟨L', hS2, g.step hp c1 c2⟩ fun s'' L2 hm'' hS'' g'' hkp'' => ?_⟩
    · rw [hsb.2 c (fun h : c = S => hSf (by rw [← h]; exact hc))]; exact e
    · refine hR s'' L2 (Moved.trans W.gtrans ((hm.mono hsub).then_heap (Nat.le_add_right _ _) fun c o hc e => ?_) hm'') hS'' g'' hkp''
      rw [hsb.2 c (fun h : c = S => hc (by rw [h]; exact List.mem_cons_self))]; exact e
theorem SetV.fresh {b : Bool} {h : Heap} {a : Addr} (ho : h.get? a = some { cls := .type "set", dict := none, data := .set #[] 0 (.fresh 0 0 (!w.params.followText "set-order")) }) : SetV P w b h a [] := by
  have led : w.params.followText "set-order" = true ∨ (SetTable.fresh 0 0 (!w.params.followText "set-order")).led = true := by
    show _ ∨ (!w.params.followText "set-order") = true
    cases w.params.followText "set-order"
    · exact .inr rfl
    · exact .inl rfl
  cases b with
  | true => exact (show ∃ L0 es ep t, SetN w h a L0 es ep t ∧ [] = L0.map fun p => (Value.ref p.1, p.2) from ⟨[], #[], 0, _, ⟨⟨_, ho, ⟨rfl, rfl, rfl⟩, rfl⟩, rfl, ⟨List.Pairwise.nil, rfl, rfl, .inl rfl, fun x hx => (by cases hx), fun i h j hi => (by simp at hi)⟩, List.nodup_nil, fun p hp => (by cases hp), led, by show 0 * 5 < 7 * 3; decide, by show 0 < 64; decide⟩, rfl⟩)
  | false => exact (show ∃ es ep t, SetS P w h a es ep t ∧ [] = es.toList.map fun e => (e.2, nkOf (keyOfV e.2)) from ⟨#[], 0, _, ⟨⟨_, ho, ⟨rfl, rfl, rfl⟩, rfl⟩, fun e he => (by simp at he), List.nodup_nil, rfl, List.Pairwise.nil, led, by show 0 < 64; decide⟩, rfl⟩)
end
end LK
set_option Elab.async false
set_option linter.all false
set_option autoImplicit false
set_option maxRecDepth 100000
set_option maxHeartbeats 4000000
/-! LS5: set(xs), sorted of it. -/
namespace LK
open PySem PySem.Spec PyProof.Rows L2
section
variable {P : Program} {w : World} {A : Around} {E : Value → Shared → Prop} {s : Shared}
theorem none_past {h : Heap} {c : Addr} (hc : h.objs.size ≤ c) : h.get? c = none := by
  cases q : h.get? c with
  | none => rfl
  | some o => exact absurd (Nat.lt_of_lt_of_le (Heap.lt_size q) hc) (Nat.lt_irrefl _)
theorem call_setV {b : Bool} {l : Addr} {items : Array Value} (ks : List VRow) {Q : Value → Shared → Prop} (hh : A.handled = none) (hl : s.heap.IsList l items ∨ s.heap.IsTuple l items) (hit : items.toList = ks.map (·.1)) (hk : ∀ p ∈ ks, ItemV b s.heap p) (hfew : FewK ks) (hu : A.units + 20 < cLine)
    (h : ∀ (h' : Heap) (tk : Nat) L, SetV P w b h' s.heap.objs.size L → Has ks ks.length L → (∀ c o, s.heap.get? c = some o → h'.get? c = some o) → Q (.ref s.heap.objs.size) { s with heap := h', toks := tk }) : wpAny (model P w) A (call (.type "set") [.ref l]) Q E s := by
  have hisz : items.size = ks.length := by rw [← Array.length_toList, hit, List.length_map]
  obtain ⟨c, tl, hmro⟩ := F.called_set.mro
  have hmade := F.called_set.made
  have hsub := F.called_set.sub
  refine wpAny_call (codeAny_of_tree ?_)
  show wpAny _ _ (callAny (.type "set") _) _ _ _
  refine wpAny_pure ⟨Code.quiet_builtin _ (by decide +kernel), codeAny_builtin F.entry_type_call ?_⟩
  rw [Around.under_plain (weight_type_call_type "set" [.ref l] []) rfl]
  have h1 := F.called_set.notType
  have h2 := F.called_set.canCreate
  have hct := F.typeCall_set_1 (.ref l)
  repeat (any_goals (first | assumption | wp_step))
  refine codeAny_mono (code_set_led1 (.ref l) (E := E) (Q₁ := fun obj t => obj = .ref s.heap.objs.size ∧ t = { s with heap := s.heap.push { cls := .type "set", dict := none, data := .set #[] 0 (.fresh 0 0 (!w.params.followText "set-order")) } }) ⟨rfl, rfl⟩) fun r t hr => ?_
  cases r with
  | error e => exact hr
  | ok fl =>
    cases fl with
    | ret obj =>
      obtain ⟨rfl, rfl⟩ := hr
      have hS : (s.heap.push { cls := .type "set", dict := none, data := .set #[] 0 (.fresh 0 0 (!w.params.followText "set-order")) }).get? s.heap.objs.size = some { cls := .type "set", dict := none, data := .set #[] 0 (.fresh 0 0 (!w.params.followText "set-order")) } := Heap.get?_push_size _ (by rfl)
      have hT : Shared.TypeIs { s with heap := s.heap.push { cls := .type "set", dict := none, data := .set #[] 0 (.fresh 0 0 (!w.params.followText "set-order")) } } (.ref s.heap.objs.size) "set" := ⟨_, hS, rfl⟩
      have hli := F.called_set.init.lookup
      have hbi := F.called_set.init.bind (.ref s.heap.objs.size)
      repeat (any_goals (first | assumption | wp_step))
      refine codeAny_mono (codeAny_call_builtin (R := wants (fun r t => r = .none ∧ ∃ h' tk L, t = { s with heap := h', toks := tk } ∧ SetV P w b h' s.heap.objs.size L ∧ Has ks ks.length L ∧ (∀ c o, s.heap.get? c = some o → h'.get? c = some o)) E) F.called_set.init.plain F.entry_set_init (check_set_init_1 hT ?_)) fun r t hr => ?_
      · rcases hl with hl | hl
        · obtain ⟨⟨lc, ld, ldata, lsl⟩, hol, hcl, nl, hdl⟩ := hl
          simp only at hcl hdl
          subst hcl
          subst hdl
          have hol' : (s.heap.push { cls := .type "set", dict := none, data := .set #[] 0 (.fresh 0 0 (!w.params.followText "set-order")) }).get? l = some { cls := .type "list", dict := ld, data := .seq items nl, slots := lsl } := Heap.get?_push_of_some _ hol
          have hsls := F.sub_list_set
          have hslf := F.sub_list_frozenset
          have hne : (Value.type "list" == Value.type "dict") = false := by decide
          have hl1 : (s.heap.push { cls := .type "set", dict := none, data := .set #[] 0 (.fresh 0 0 (!w.params.followText "set-order")) }).IsList l items := ⟨_, hol', rfl, nl, rfl⟩
          unfold Builtin.«set.__init__» noKeywords Builtin.Frozenset.updateFrom
          generalize hPI : pyIter = PI
          wp_walk
          subst hPI
          refine wpAny_pyIter_list hl1 ?_
          refine wpAny_bind (wpAny_runValue ?_)
          have hlS : l < s.heap.objs.size := Heap.lt_size hol
          have hh3 : A.in1.in1.in1.handled = none := by simp [hh]
          have hz1 : (s.heap.push { cls := .type "set", dict := none, data := .set #[] 0 (.fresh 0 0 (!w.params.followText "set-order")) }).objs.size = s.heap.objs.size + 1 := Heap.size_push ..
          have hneI : l ≠ (s.heap.push { cls := .type "set", dict := none, data := .set #[] 0 (.fresh 0 0 (!w.params.followText "set-order")) }).objs.size := by
            rw [Heap.size_push]
            exact Nat.ne_of_lt (Nat.lt_succ_of_lt hlS)
          have hSf : s.heap.objs.size ∉ [(s.heap.push { cls := .type "set", dict := none, data := .set #[] 0 (.fresh 0 0 (!w.params.followText "set-order")) }).objs.size, l] := by
            rw [Heap.size_push]
            simp only [List.mem_cons, List.not_mem_nil, or_false, not_or]
            exact ⟨Nat.ne_of_lt (Nat.lt_succ_self _), Nat.ne_of_gt hlS⟩
          have hval : ∀ (i : Nat) (v : Value), items[i]? = some v → ∃ p, ks[i]? = some p ∧ v = p.1 := fun i v hv => by
            rw [← Array.getElem?_toList, hit, List.getElem?_map] at hv
            cases hq : ks[i]? with
            | none => rw [hq] at hv; cases hv
            | some p => rw [hq] at hv; cases hv; exact ⟨p, rfl, rfl⟩
          refine fill_set (b := b) ((Walks.list hh3 _ l hneI items).toS) s.heap.objs.size hSf ks hisz hfew hval s.heap hk (none_past (Nat.le_refl _)) (fun c hc => none_past (by rw [List.mem_singleton.mp hc, Heap.size_push]; exact Nat.le_succ _)) (by simp only [in1_units]; omega) (items.size - 0) 0 _ (by omega) (Nat.zero_le _)
            ⟨⟨_, Heap.get?_push_size _ (by rfl), rfl, rfl⟩, (hl1.push _)⟩ (fun c o e => Heap.get?_push_of_some _ (Heap.get?_push_of_some _ e)) ?start ?done
          case start =>
            have hget : ((s.heap.push { cls := .type "set", dict := none, data := .set #[] 0 (.fresh 0 0 (!w.params.followText "set-order")) }).push { cls := .type "list_iterator", data := .fields #[.ref l, .int 0 0] }).get? s.heap.objs.size = some { cls := .type "set", dict := none, data := .set #[] 0 (.fresh 0 0 (!w.params.followText "set-order")) } := Heap.get?_push_of_some _ hS
            exact ⟨[], SetV.fresh hget, ⟨fun p h => (by cases h), fun p h => (by simp at h), Nat.le_refl _⟩⟩
          case done =>
            intro s' L hm hS' g' hkp
            obtain ⟨h', g2, d', tk', os'⟩ := s'
            have eg : g2 = s.gens := hm.gens
            have ed : d' = s.drawn := hm.drawn
            have eo : os' = s.os := hm.os
            subst eg
            subst ed
            subst eo
            show wpAny _ _ _ _ _ _
            refine wpAny_pure ?_
            show wpAny _ _ (ret Value.none) _ _ _
            rw [hisz] at g'
            exact wpAny_pure ⟨rfl, h', tk', L, rfl, hS', g', hkp⟩
        · obtain ⟨⟨lc, ld, ldata, lsl⟩, hol, hcl, nl, hdl⟩ := hl
          simp only at hcl hdl
          subst hcl
          subst hdl
          have hol' : (s.heap.push { cls := .type "set", dict := none, data := .set #[] 0 (.fresh 0 0 (!w.params.followText "set-order")) }).get? l = some { cls := .type "tuple", dict := ld, data := .seq items nl, slots := lsl } := Heap.get?_push_of_some _ hol
          have hsls := F.sub_tuple_set
          have hslf := F.sub_tuple_frozenset
          have hne : (Value.type "tuple" == Value.type "dict") = false := by decide
          have hl1 : (s.heap.push { cls := .type "set", dict := none, data := .set #[] 0 (.fresh 0 0 (!w.params.followText "set-order")) }).IsTuple l items := ⟨_, hol', rfl, nl, rfl⟩
          unfold Builtin.«set.__init__» noKeywords Builtin.Frozenset.updateFrom
          generalize hPI : pyIter = PI
          wp_walk
          subst hPI
          refine wpAny_pyIter_tuple hl1 ?_
          refine wpAny_bind (wpAny_runValue ?_)
          have hlS : l < s.heap.objs.size := Heap.lt_size hol
          have hh3 : A.in1.in1.in1.handled = none := by simp [hh]
          have hz1 : (s.heap.push { cls := .type "set", dict := none, data := .set #[] 0 (.fresh 0 0 (!w.params.followText "set-order")) }).objs.size = s.heap.objs.size + 1 := Heap.size_push ..
          have hneI : l ≠ (s.heap.push { cls := .type "set", dict := none, data := .set #[] 0 (.fresh 0 0 (!w.params.followText "set-order")) }).objs.size := by
            rw [Heap.size_push]
            exact Nat.ne_of_lt (Nat.lt_succ_of_lt hlS)
          have hSf : s.heap.objs.size ∉ [(s.heap.push { cls := .type "set", dict := none, data := .set #[] 0 (.fresh 0 0 (!w.params.followText "set-order")) }).objs.size, l] := by
            rw [Heap.size_push]
            simp only [List.mem_cons, List.not_mem_nil, or_false, not_or]
            exact ⟨Nat.ne_of_lt (Nat.lt_succ_self _), Nat.ne_of_gt hlS⟩
          have hval : ∀ (i : Nat) (v : Value), items[i]? = some v → ∃ p, ks[i]? = some p ∧ v = p.1 := fun i v hv => by
            rw [← Array.getElem?_toList, hit, List.getElem?_map] at hv
            cases hq : ks[i]? with
            | none => rw [hq] at hv; cases hv
            | some p => rw [hq] at hv; cases hv; exact ⟨p, rfl, rfl⟩
          refine fill_set (b := b) ((Walks.tuple hh3 _ l hneI items).toS) s.heap.objs.size hSf ks hisz hfew hval s.heap hk (none_past (Nat.le_refl _)) (fun c hc => none_past (by rw [List.mem_singleton.mp hc, Heap.size_push]; exact Nat.le_succ _)) (by simp only [in1_units]; omega) (items.size - 0) 0 _ (by omega) (Nat.zero_le _)
            ⟨⟨_, Heap.get?_push_size _ (by rfl), rfl, rfl⟩, (hl1.push _)⟩ (fun c o e => Heap.get?_push_of_some _ (Heap.get?_push_of_some _ e)) ?start ?done
          case start =>
            have hget : ((s.heap.push { cls := .type "set", dict := none, data := .set #[] 0 (.fresh 0 0 (!w.params.followText "set-order")) }).push { cls := .type "tuple_iterator", data := .fields #[.ref l, .int 0 0] }).get? s.heap.objs.size = some { cls := .type "set", dict := none, data := .set #[] 0 (.fresh 0 0 (!w.params.followText "set-order")) } := Heap.get?_push_of_some _ hS
            exact ⟨[], SetV.fresh hget, ⟨fun p h => (by cases h), fun p h => (by simp at h), Nat.le_refl _⟩⟩
          case done =>
            intro s' L hm hS' g' hkp
            obtain ⟨h', g2, d', tk', os'⟩ := s'
            have eg : g2 = s.gens := hm.gens
            have ed : d' = s.drawn := hm.drawn
            have eo : os' = s.os := hm.os
            subst eg
            subst ed
            subst eo
            show wpAny _ _ _ _ _ _
            refine wpAny_pure ?_
            show wpAny _ _ (ret Value.none) _ _ _
            rw [hisz] at g'
            exact wpAny_pure ⟨rfl, h', tk', L, rfl, hS', g', hkp⟩
      · cases r with
        | error e => exact hr
        | ok fl2 =>
          cases fl2 with
          | ret r =>
            obtain ⟨rfl, h', tk, L, rfl, hS', g', hk'⟩ := hr
            repeat (any_goals (first | assumption | wp_step))
            exact h _ _ _ hS' g' hk'
          | _ => exact hr.elim
    | _ => exact hr.elim
end
end LK
set_option Elab.async false
set_option linter.all false
set_option autoImplicit false
set_option maxRecDepth 100000
set_option maxHeartbeats 4000000
/-! LS6: sorted of a set of tuples or of texts. -/
namespace LK
open PySem PySem.Calls PySem.W PySem.SeqAt PyProof.Rows L2
theorem perm_back {α β : Type} {f : α → β} {vs ms : List β} (p : vs.Perm ms) : ∀ L : List α, ms = L.map f → ∃ L1 : List α, vs = L1.map f ∧ L1.Perm L := by
  induction p with
  | nil => intro L e; exact ⟨[], rfl, by cases L <;> simp at e ⊢⟩
  | cons x _ ih =>
    intro L e
    cases L with
    | nil => simp at e
    | cons y L =>
      simp at e
      obtain ⟨L1, e1, p1⟩ := ih L e.2
      exact ⟨y :: L1, by rw [List.map_cons, ← e1, e.1], p1.cons y⟩
  | swap x y l =>
    intro L e
    match L, e with
    | a :: b :: L, e =>
      simp at e
      exact ⟨b :: a :: L, by simp [e], List.Perm.swap a b L⟩
    | [_], e => simp at e
    | [], e => simp at e
  | trans _ _ ih1 ih2 =>
    intro L e
    obtain ⟨L2, e2, p2⟩ := ih2 L e
    obtain ⟨L1, e1, p1⟩ := ih1 L2 e2
    exact ⟨L1, e1, p1.trans p2⟩
theorem each_self {α : Type} {R : Value → α → Prop} {f : α → Value} : ∀ {l : List α}, (∀ x ∈ l, R (f x) x) → EachIs R (l.map f) l
  | [], _ => .nil
  | x :: l, h => .cons (h x (List.mem_cons_self ..)) (each_self fun y hy => h y (List.mem_cons_of_mem _ hy))
section
variable {P : Program} {w : World} {A : Around} {E : Value → Shared → Prop} {s : Shared}
/-- a value reads as data -/
def ReadsAs (h : Heap) (v : Value) (d : PyData) : Prop := ∃ as, Reads h v d as
theorem ReadsAs.keep {h h' : Heap} {v : Value} {d : PyData} (x : ReadsAs h v d) (hk : ∀ c o, h.get? c = some o → h'.get? c = some o) : ReadsAs h' v d := by
  obtain ⟨as, r⟩ := x
  exact ⟨as, PyProof.Rows.Reads.keeps (fun c o => hk c o) r⟩
theorem each_fst : ∀ {out : List Value} {bs : List VRow}, EachIs (fun u (p : VRow) => u = p.1) out bs → out = bs.map (·.1)
  | _, _, .nil => rfl
  | _, _, .cons h t => by rw [List.map_cons, ← h, ← each_fst t]
theorem sortedV {a : Addr} {L : List VRow} {enc : VRow → PyData} {es : Array (Int × Value)} {ep : Nat} {t : SetTable} {Q : Value → Shared → Prop} (R : SetW w s.heap a L es ep t) (hh : A.handled = none) (hu : A.units + 100 < cLine) (hr : ∀ p ∈ L, ReadsAs s.heap p.1 (enc p)) (hal : AllAlike (L.map enc))
    (hd : ∀ p ∈ L, (enc p).depth ≤ 30) (hkind : (∀ p ∈ L, ∃ xs, enc p = .tuple xs) ∨ Sortable (L.map enc))
    (hQ : ∀ s' p (out : Array Value) (c : Nat) (L' : List VRow), (∀ c o, s.heap.get? c = some o → s'.heap.get? c = some o) → s'.gens = s.gens → s'.os = s.os → s.heap.objs.size ≤ p → s'.heap.get? p = some (seqObj "list" out c) → out.toList = L'.map (·.1) → L'.Perm L →
      L'.Pairwise (fun q r => dataLt (enc r) (enc q) = false) → Q (.ref p) s') : wpAny (model P w) A (call (.builtin "sorted") [.ref a]) Q E s := by
  have hfew := R.few
  refine Calls.call_function_entry kind_sorted plain_sorted entry_sorted (args_sorted1 _) ?_
  unfold Builtin.«sorted»
  refine wpAny_bind (m := checkCount "sorted" 1 1 _) (wpAny_pure ?_)
  refine wpAny_bind (L2.collect_set (A := A.in1) hh R.at_ R.fits (by unfold scanBound; omega) R.ris R.led fun s1 vs k1 hz g1 o1 pm => ?_)
  obtain ⟨L1, hvs, p1⟩ := perm_back pm L R.vals
  have hvl : vs.length < 64 := by rw [pm.length_eq, List.length_map, Array.length_toList]; exact hfew
  refine wpAny_bind (wpAny_newList ?_ (by rw [sizeLine_eq]; omega))
  obtain ⟨hp, ehp⟩ : ∃ hp : Heap, hp = s1.heap.push (seqObj "list" vs.toArray 0) := ⟨_, rfl⟩
  obtain ⟨hs, ehs⟩ : ∃ hs : Heap, hs = sortingHeap hp s1.heap.objs.size vs := ⟨_, rfl⟩
  have hoL : hp.get? s1.heap.objs.size = some (seqObj "list" vs.toArray 0) := by rw [ehp]; exact Heap.get?_push_size _ rfl
  have keepS : ∀ c u, s.heap.get? c = some u → hs.get? c = some u := fun c u e => by
    rw [ehs]
    exact sortingHeap_old (Nat.ne_of_lt (Heap.lt_size (k1 c u e))) (by rw [ehp]; exact Heap.get?_push_of_some _ (k1 c u e))
  have er : EachIs (fun v (p : VRow) => ∃ as, Reads hs v (enc p) as) vs L1 := by
    rw [hvs]
    exact each_self (f := fun q : VRow => q.1) fun q hq => (hr q (p1.mem_iff.mp hq)).keep keepS
  have hAll : AllAlike (L1.map enc) := fun d h1 d' h2 => hal d ((p1.map enc).mem_iff.mp h1) d' ((p1.map enc).mem_iff.mp h2)
  have hdep : ∀ d ∈ L1.map enc, A.in1.in1.units + d.depth < cLine := fun d hd1 => by
    obtain ⟨q, hq, rfl⟩ := List.mem_map.mp hd1
    have := hd q (p1.mem_iff.mp hq)
    rw [in1_units]
    omega
  have S : SortsAt P w A.in1.in1 { s1 with heap := hs } (dataKind hs (L1.map enc)) vs := by
    have em := each_map (R := fun v d => ∃ as, Reads hs v d as) enc er
    rcases hkind with hk | hk
    · refine sortsAt_tups (s := { s1 with heap := hs }) em hAll (fun d hd1 => ?_) hdep
      obtain ⟨q, hq, rfl⟩ := List.mem_map.mp hd1
      exact hk q (p1.mem_iff.mp hq)
    · refine SortsAt.data (s := { s1 with heap := hs }) em hAll ?_ hdep
      rcases hk with hk | hk
      · exact .inl fun d hd1 => hk d ((p1.map enc).mem_iff.mp hd1)
      · exact .inr fun d hd1 => hk d ((p1.map enc).mem_iff.mp hd1)
  have e1 : EachIs (fun u (p : VRow) => u = p.1) vs L1 := by
    rw [hvs]
    exact each_self (f := fun q : VRow => q.1) fun q _ => rfl
  have eo := sortVals_data (R := fun u (p : VRow) => u = p.1) (enc := enc) false e1 er hAll
  have eo2 := each_fst eo
  obtain ⟨c, hc⟩ := sortedHeap_at (vs := vs) (out := (sortVals (dataKind hs (L1.map enc)) false vs vs).toArray) hoL
  show wpAny _ _ _ _ _ { s1 with heap := s1.heap.push (seqObj "list" vs.toArray 0) }
  rw [← ehp]
  refine wpAny_bind (wpAny_holding (wpAny_call_entry_kw slot_list_sort ⟨_, hoL, rfl⟩ entry_list_sort ?body (args_list_sort _)))
  case body =>
    show wpAny (model P w) A.in1.in1 (Builtin.«list.sort» ⟨[.ref s1.heap.objs.size], []⟩) _ _ _
    refine wpAny_mono (list_sort_vals (s := { s1 with heap := hp }) (κ := dataKind hs (L1.map enc)) (P := fun f s' => f = .done (.ret .none) ∧ Q (.ref s1.heap.objs.size) s') hoL (by rw [← ehs]; exact S) (by rw [sizeLine_eq]; omega) ⟨rfl, ?_⟩) (fun f s' hf => ?_) fun _ _ e => e
    · refine hQ _ s1.heap.objs.size _ c (L1.mergeSort (dataLe false enc)) (fun c u e => ?_) g1 o1 hz hc (by simpa using eo2) ((List.mergeSort_perm _ _).trans p1) ?_
      · have hlt := Heap.lt_size (k1 c u e)
        show (sortedHeap hp s1.heap.objs.size vs _).get? c = some u
        rw [sortedHeap_old (Nat.ne_of_lt hlt) (by rw [ehp, size_push']; exact Nat.lt_succ_of_lt hlt), ehp]
        exact Heap.get?_push_of_some _ (k1 c u e)
      · refine (sort_pairwise (sortLe_total (listOrd itemOrd) false fun p : VRow => keyToks (enc p)) L1).imp ?_
        intro b c hle
        have h9 : dataLe false enc b c = true := hle
        rw [dataLe_eq] at h9
        simpa using h9
    · obtain ⟨rfl, hq⟩ := hf
      exact ⟨_, rfl, wpAny_pure ⟨_, rfl, hq⟩⟩
end
end LK
set_option Elab.async false
set_option linter.all false
set_option autoImplicit false
set_option maxRecDepth 100000
set_option maxHeartbeats 2000000
/-! LK22: sorted(set(..)) as a rule. -/
namespace LK
open PySem PySem.Spec PyProof.Rows L2
variable [Tt]
/-! ### the plain law -/
abbrev Asc2 (l : List D) : Prop := l.Pairwise fun a b => D.lt a b = true
theorem lt_trans' {x y z : D} (hl : Likes [x, y, z]) (h1 : D.lt x y = true) (h2 : D.lt y z = true) : D.lt x z = true := by
  have mx : x ∈ [x, y, z] := by simp
  have my : y ∈ [x, y, z] := by simp
  have mz : z ∈ [x, y, z] := by simp
  cases h : D.lt x z with
  | true => rfl
  | false =>
    have e := le_trans (x := z) (y := x) (z := y) (hl.like x mx z mz) (hl.like y my x mx) (hl.like y my z mz) h (lt_asymm (hl.like x mx y my) (hl.like y my x mx) h1)
    rw [h2] at e
    cases e
theorem ins_mem {x : D} : ∀ {l : List D}, Likes (x :: l) → ∀ z, z ∈ ins x l ↔ z = x ∨ z ∈ l
  | [], _, z => by simp [ins]
  | y :: r, hl, z => by
    unfold ins
    have my : y ∈ x :: y :: r := by simp
    split
    · simp
    · split
      · rename_i e
        have : x = y := like_eqv_eq x y (hl.like x (by simp) y my) e
        subst this
        simp
      · rw [List.mem_cons, ins_mem (hl.sub fun w hw => by rcases List.mem_cons.mp hw with q | q <;> simp [q]) z]
        simp only [List.mem_cons]
        constructor
        · rintro (h | h | h)
          · exact .inr (.inl h)
          · exact .inl h
          · exact .inr (.inr h)
        · rintro (h | h | h)
          · exact .inr (.inl h)
          · exact .inl h
          · exact .inr (.inr h)
theorem ins_asc {x : D} : ∀ {l : List D}, Likes (x :: l) → Asc2 l → Asc2 (ins x l)
  | [], _, _ => List.pairwise_singleton _ _
  | y :: r, hl, h => by
    obtain ⟨h1, h2⟩ := List.pairwise_cons.mp h
    have mx : x ∈ x :: y :: r := by simp
    have my : y ∈ x :: y :: r := by simp
    have mr : ∀ z ∈ r, z ∈ x :: y :: r := fun z hz => by simp [hz]
    have hr : Likes (x :: r) := hl.sub fun w hw => by rcases List.mem_cons.mp hw with q | q <;> simp [q]
    unfold ins
    split
    · rename_i e
      refine List.pairwise_cons.mpr ⟨fun z hz => ?_, h⟩
      rcases List.mem_cons.mp hz with q | q
      · subst q; exact e
      · exact lt_trans' (hl.sub fun w hw => by simp at hw; rcases hw with w1 | w1 | w1 <;> subst w1; exact mx; exact my; exact mr _ q) e (h1 z q)
    · rename_i e
      split
      · exact h
      · rename_i e2
        have e' : D.lt x y = false := by simpa using e
        have hyx : D.lt y x = true := by
          cases h9 : D.lt y x with
          | true => rfl
          | false =>
            have := lt_antisym x y (hl.like x mx y my) (hl.pure x mx) (hl.pure y my) e' h9
            subst this
            exact absurd (eqv_refl x (hl.pure x mx)) e2
        refine List.pairwise_cons.mpr ⟨fun z hz => ?_, ins_asc hr h2⟩
        rcases (ins_mem hr z).mp hz with q | q
        · subst q; exact hyx
        · exact h1 z q
theorem sset_go : ∀ (l acc : List D), Likes (acc ++ l) → Asc2 acc → (∀ z, z ∈ l.foldl (fun acc x => ins x acc) acc ↔ z ∈ acc ∨ z ∈ l) ∧ Asc2 (l.foldl (fun acc x => ins x acc) acc)
  | [], acc, _, h => ⟨fun z => by simp, h⟩
  | x :: l, acc, hl, h => by
    have hsub : ∀ z ∈ x :: acc, z ∈ acc ++ x :: l := fun z hz => by
      rcases List.mem_cons.mp hz with q | q
      · subst q; simp
      · exact List.mem_append_left _ q
    have hx := hl.sub hsub
    have hm := ins_mem hx
    have hl' : Likes (ins x acc ++ l) := hl.sub fun z hz => by
      rcases List.mem_append.mp hz with q | q
      · rcases (hm z).mp q with q | q
        · subst q; simp
        · exact List.mem_append_left _ q
      · exact List.mem_append_right _ (List.mem_cons_of_mem _ q)
    obtain ⟨q1, q2⟩ := sset_go l (ins x acc) hl' (ins_asc hx h)
    refine ⟨fun z => ?_, q2⟩
    show z ∈ l.foldl (fun acc x => ins x acc) (ins x acc) ↔ _
    rw [q1 z, hm z, List.mem_cons]
    constructor
    · rintro ((h | h) | h)
      · exact .inr (.inl h)
      · exact .inl h
      · exact .inr (.inr h)
    · rintro (h | h | h)
      · exact .inl (.inr h)
      · exact .inl (.inl h)
      · exact .inr h
theorem sset_ok {l : List D} (hl : Likes l) : (∀ z, z ∈ sset l ↔ z ∈ l) ∧ Asc2 (sset l) := by
  have := sset_go l [] (by simpa using hl) List.Pairwise.nil
  unfold sset
  simpa using this
theorem asc2_asc {l : List D} (hl : Likes l) (h : Asc2 l) : Asc l ∧ l.Nodup := by
  refine ⟨List.Pairwise.imp_of_mem (fun {a b} ha hb h => lt_asymm (hl.like a ha b hb) (hl.like b hb a ha) h) h, List.Pairwise.imp_of_mem (fun {a b} ha hb h e => ?_) h⟩
  subst e
  have := lt_asymm (hl.like a ha a ha) (hl.like a ha a ha) h
  rw [h] at this
  cases this
theorem sset_eq {l m : List D} (hl : Likes l) (hm : ∀ z, z ∈ m ↔ z ∈ l) (hn : m.Nodup) (ha : Asc m) : m = sset l := by
  obtain ⟨q1, q2⟩ := sset_ok hl
  have hls : Likes (sset l) := hl.sub fun z hz => (q1 z).mp hz
  obtain ⟨a1, n1⟩ := asc2_asc hls q2
  exact asc_unique (hl.sub fun z hz => (hm z).mp hz) ((List.perm_ext_iff_of_nodup hn n1).mpr fun z => by rw [hm z, q1 z]) ha a1
/-! ### keys -/
mutual
def nkD : D → NK
  | .int i => .num i
  | .str s => .text (txt s)
  | .tup l => .tup (nkDs l)
  | _ => .none
def nkDs : List D → List NK
  | [] => []
  | d :: l => nkD d :: nkDs l
end
mutual
/-- a whole number, a text, or a tuple of such -/
def hk : D → Bool
  | .int _ => true
  | .str _ => true
  | .tup l => hks l
  | _ => false
def hks : List D → Bool
  | [] => true
  | d :: l => hk d && hks l
end
mutual
theorem hk_like : ∀ (d : D), D.like d d = true → hk d = true
  | .int _, _ => rfl
  | .str _, _ => rfl
  | .tup l, h => hks_like l (by simpa [D.like] using h)
  | .non, h => by simp [D.like] at h
  | .bl _, h => by simp [D.like] at h
  | .lst _, h => by simp [D.like] at h
  | .cell _, h => by simp [D.like] at h
theorem hks_like : ∀ (l : List D), D.likes l l = true → hks l = true
  | [], _ => rfl
  | d :: l, h => by
    simp only [D.likes, Bool.and_eq_true] at h
    simp only [hks, hk_like d h.1, hks_like l h.2, Bool.and_self]
end
mutual
theorem nk_data : ∀ (d : D), hk d = true → (nkD d).data = d.py
  | .int _, _ => rfl
  | .str _, _ => rfl
  | .tup l, h => by
    show PyData.tuple (NestedKey.datas (nkDs l)) = .tuple (D.pys l)
    rw [nks_data l h]
  | .non, h => by simp [hk] at h
  | .bl _, h => by simp [hk] at h
  | .lst _, h => by simp [hk] at h
  | .cell _, h => by simp [hk] at h
theorem nks_data : ∀ (l : List D), hks l = true → NestedKey.datas (nkDs l) = D.pys l
  | [], _ => rfl
  | d :: l, h => by
    simp only [hks, Bool.and_eq_true] at h
    show (nkD d).data :: NestedKey.datas (nkDs l) = d.py :: D.pys l
    rw [nk_data d h.1, nks_data l h.2]
end
theorem txt_inj {a b : List Nat} (h : txt a = txt b) : a = b := by
  have := congrArg (fun s : Str => s.cps.toList) h
  simpa [txt] using this
mutual
theorem nkD_inj : ∀ (a b : D), hk a = true → hk b = true → nkD a = nkD b → a = b
  | .int i, b, _, h, e => by cases b <;> simp [nkD, hk] at h e ⊢; exact e
  | .str s, b, _, h, e => by
    cases b <;> simp [nkD, hk] at h e ⊢
    first | exact txt_inj e | exact e
  | .tup l, b, ha, h, e => by
    cases b <;> simp [nkD, hk] at h e ⊢
    exact nkDs_inj _ _ ha h e
  | .non, _, h, _, _ => by simp [hk] at h
  | .bl _, _, h, _, _ => by simp [hk] at h
  | .lst _, _, h, _, _ => by simp [hk] at h
  | .cell _, _, h, _, _ => by simp [hk] at h
theorem nkDs_inj : ∀ (a b : List D), hks a = true → hks b = true → nkDs a = nkDs b → a = b
  | [], [], _, _, _ => rfl
  | [], _ :: _, _, _, e => by simp [nkDs] at e
  | _ :: _, [], _, _, e => by simp [nkDs] at e
  | x :: a, y :: b, ha, hb, e => by
    simp only [hks, Bool.and_eq_true] at ha hb
    simp only [nkDs, List.cons.injEq] at e
    rw [nkD_inj x y ha.1 hb.1 e.1, nkDs_inj a b ha.2 hb.2 e.2]
end
mutual
theorem nk_depth : ∀ (n : Nat) (d : D), D.shal n d = true → (nkD d).depth ≤ n
  | 0, .tup l, h => by simp [D.shal] at h
  | n + 1, .tup l, h => by
    show NestedKey.depthAll (nkDs l) + 1 ≤ n + 1
    exact Nat.succ_le_succ (nks_depth n l h)
  | n, .int _, _ => Nat.zero_le _
  | n, .str _, _ => Nat.zero_le _
  | n, .non, _ => Nat.zero_le _
  | n, .bl _, _ => Nat.zero_le _
  | n, .lst _, _ => Nat.zero_le _
  | n, .cell _, _ => Nat.zero_le _
theorem nks_depth : ∀ (n : Nat) (l : List D), D.shals n l = true → NestedKey.depthAll (nkDs l) ≤ n
  | n, [], _ => Nat.zero_le _
  | n, d :: l, h => by
    simp only [D.shals, Bool.and_eq_true] at h
    show max (nkD d).depth (NestedKey.depthAll (nkDs l)) ≤ n
    exact Nat.max_le.mpr ⟨nk_depth n d h.1, nks_depth n l h.2⟩
end
mutual
theorem reads_nested {h : Heap} : ∀ (k : NK) (v : Value) (as : List Addr), Reads h v k.data as → NestedIs h k v
  | .none, _, _, r => by cases r; exact .none
  | .num i, _, _, r => by cases r; exact .int _ _
  | .text x, _, _, r => by cases r; exact .text _ _
  | .tup ks, v, as, r => by
    cases r with
    | tuple h1 h2 h3 h4 => exact .tup h1 h2 h3 (reads_nesteds ks _ _ h4)
theorem reads_nesteds {h : Heap} : ∀ (ks : List NK) (vs : List Value) (as : List Addr), ReadsAll h vs (NestedKey.datas ks) as → NestedAll h ks vs
  | [], _, _, r => by cases r; exact .nil
  | k :: ks, _, _, r => by
    cases r with
    | cons r1 r2 => exact .cons (reads_nested k _ _ r1) (reads_nesteds ks _ _ r2)
end
end LK
set_option Elab.async false
set_option linter.all false
set_option autoImplicit false
set_option maxRecDepth 100000
set_option maxHeartbeats 4000000
/-! LK25: sorted(set(xs)) as a rule. -/
namespace LK
open PySem PySem.Spec PyProof.Rows L2
variable [Tt]
/-- a value, its key; as the layer sees it; as data -/
abbrev R3 := VRow × V × D
def SetV0 (P : Program) (w : World) (b : Bool) (h : Heap) (a : Addr) (L : List VRow) : Prop :=
  if b then ∃ (L0 : List Row) (es : Array (Int × Value)) (ep : Nat) (t : SetTable), (∃ o, h.get? a = some o ∧ o.ExactSet ∧ o.data = .set es ep t) ∧ es.toList = rowsN w L0 ∧ TabOk t (hashesN w L0) ∧ (L0.map (·.2)).Nodup ∧ (w.params.followText "set-order" = true ∨ t.led = true) ∧ L0.length * 5 < t.mask * 3 ∧ L0.length < 64 ∧ L = L0.map fun p => (Value.ref p.1, p.2)
  else ∃ es ep t, SetS P w h a es ep t ∧ L = es.toList.map fun e => (e.2, nkOf (keyOfV e.2))
theorem SetV.v0 {P : Program} {w : World} {b : Bool} {h : Heap} {a : Addr} {L : List VRow} (x : SetV P w b h a L) : SetV0 P w b h a L := by
  cases b with
  | true =>
    obtain ⟨L0, es, ep, t, R, e⟩ := (show ∃ L0 es ep t, SetN w h a L0 es ep t ∧ L = L0.map fun p => (Value.ref p.1, p.2) from x)
    exact (show ∃ (L0 : List Row) (es : Array (Int × Value)) (ep : Nat) (t : SetTable), _ from ⟨L0, es, ep, t, R.ob, R.rows, R.tab, R.nd, R.led, R.room, R.few, e⟩)
  | false => exact x
theorem SetV0.full {P : Program} {w : World} {b : Bool} {h : Heap} {a : Addr} {L : List VRow} (x : SetV0 P w b h a L) (ht : ∀ p ∈ L, ItemV b h p) : SetV P w b h a L := by
  cases b with
  | true =>
    obtain ⟨L0, es, ep, t, h1, h2, h3, h4, h5, h6, h7, e⟩ := (show ∃ (L0 : List Row) (es : Array (Int × Value)) (ep : Nat) (t : SetTable), _ from x)
    refine (show ∃ L0 es ep t, SetN w h a L0 es ep t ∧ L = L0.map fun p => (Value.ref p.1, p.2) from ⟨L0, es, ep, t, ⟨h1, h2, h3, h4, fun p hp => ?_, h5, h6, h7⟩, e⟩)
    obtain ⟨c, ec, q⟩ := (show ∃ c, Value.ref p.1 = .ref c ∧ KeyAt h p.2 c from ht (.ref p.1, p.2) (by rw [e]; exact List.mem_map.mpr ⟨p, hp, rfl⟩))
    cases ec
    exact q
  | false => exact x
theorem SetV0.at {P : Program} {w : World} {b : Bool} {h h' : Heap} {a : Addr} {L : List VRow} (x : SetV0 P w b h a L) (k : ∀ o, h.get? a = some o → h'.get? a = some o) : SetV0 P w b h' a L := by
  cases b with
  | true =>
    obtain ⟨L0, es, ep, t, ⟨o, ho, r⟩, q⟩ := (show ∃ (L0 : List Row) (es : Array (Int × Value)) (ep : Nat) (t : SetTable), _ from x)
    exact (show ∃ (L0 : List Row) (es : Array (Int × Value)) (ep : Nat) (t : SetTable), _ from ⟨L0, es, ep, t, ⟨o, k o ho, r⟩, q⟩)
  | false =>
    obtain ⟨es, ep, t, R, e⟩ := (show ∃ es ep t, SetS P w h a es ep t ∧ _ from x)
    obtain ⟨o, ho, r⟩ := R.ob
    exact (show ∃ es ep t, SetS P w h' a es ep t ∧ _ from ⟨es, ep, t, ⟨⟨o, k o ho, r⟩, R.el, R.nd, R.fits, R.ris, R.led, R.few⟩, e⟩)
theorem SetV0.ob {P : Program} {w : World} {b : Bool} {h : Heap} {a : Addr} {L : List VRow} (x : SetV0 P w b h a L) : ∃ o, h.get? a = some o := by
  cases b with
  | true =>
    obtain ⟨L0, es, ep, t, ⟨o, ho, r⟩, q⟩ := (show ∃ (L0 : List Row) (es : Array (Int × Value)) (ep : Nat) (t : SetTable), _ from x)
    exact ⟨o, ho⟩
  | false =>
    obtain ⟨es, ep, t, R, e⟩ := (show ∃ es ep t, SetS P w h a es ep t ∧ _ from x)
    obtain ⟨o, ho, r⟩ := R.ob
    exact ⟨o, ho⟩
def SetXO (P : Program) (w : World) (b : Bool) (a : Addr) (L : List VRow) : HO := .ext fun h => SetV0 P w b h a L
theorem setXO_new {P : Program} {w : World} {H : Hp} {b : Bool} {h : Heap} {a : Addr} {L : List VRow} (R : SetV0 P w b h a L) : ObjOk P w H h a (SetXO P w b a L) := ⟨R, R.ob, fun _ _ p k => SetV0.at p k⟩
theorem rows3 : ∀ {xs : List V} {l : List D} {its : List Value}, Vals xs its → xs.length = l.length → ∃ rows : List R3, rows.map (·.1.1) = its ∧ rows.map (·.2) = xs.zip l ∧ ∀ r ∈ rows, RelV r.2.1 r.1.1 ∧ r.1.2 = nkD r.2.2
  | [], [], _, .nil, _ => ⟨[], rfl, rfl, fun r h => (by cases h)⟩
  | [], _ :: _, _, _, h => by simp at h
  | _ :: _, [], _, _, h => by simp at h
  | x :: xs, d :: l, u :: _, .cons r t, h => by
    obtain ⟨rows, e1, e2, e3⟩ := rows3 t (by simpa using h)
    refine ⟨((u, nkD d), x, d) :: rows, by simp [e1], by simp [e2], fun q hq => ?_⟩
    rcases List.mem_cons.mp hq with e | e
    · rw [e]; exact ⟨r, rfl⟩
    · exact e3 q e
theorem dp_zip {K : PySem.W.Frag} {H : Hp} : ∀ {xs : List V} {l : List D}, DpAll K H xs (D.pys l) → ∀ p ∈ xs.zip l, Dp K H p.1 p.2.py
  | [], _, _, p, hp => by simp at hp
  | _ :: _, [], _, p, hp => by simp at hp
  | x :: xs, d :: l, h, p, hp => by
    simp only [D.pys] at h
    cases h with
    | cons h1 h2 =>
      rw [List.zip_cons_cons] at hp
      rcases List.mem_cons.mp hp with e | e
      · rw [e]; exact h1
      · exact dp_zip h2 p e
/-- what may stand in a set together -/
def sameSort (b : Bool) (d : D) : Prop := hk d = true ∧ D.shal 8 d = true ∧ (if b then isTup d else isAtom d) = true
section
variable {X : Cx} {pins : List (Addr × Obj)} {σ : L2.St} {H : Hp} {s : Shared}
theorem item_of (I : Inv X pins σ H s) {b : Bool} {r : R3} (h1 : RelV r.2.1 r.1.1) (h2 : r.1.2 = nkD r.2.2) (dp : Dp X.K H r.2.1 r.2.2.py) (hs : sameSort b r.2.2) : ItemV b s.heap r.1 := by
  obtain ⟨⟨u, k⟩, x, d⟩ := r
  simp only at h1 h2 dp hs
  subst h2
  obtain ⟨q1, q2, q3⟩ := hs
  obtain ⟨as, ra⟩ := Dp.reads I d.py x u dp h1
  rw [← nk_data d q1] at ra
  have hn := reads_nested _ _ _ ra
  cases b with
  | true =>
    cases d <;> simp [isTup] at q3
    simp only [D.py] at dp
    cases dp with
    | tup _ _ =>
      rename_i a xs _ _
      cases h1
      exact (show ∃ c, Value.ref a = .ref c ∧ KeyAt s.heap _ c from ⟨a, rfl, hn, nk_depth 8 _ q2⟩)
  | false =>
    cases d <;> simp [isAtom] at q3
    · rename_i i
      simp only [D.py] at dp
      cases dp
      obtain ⟨t, rfl⟩ := h1
      exact (show ∃ x, keyIs x (Value.int i t) = true ∧ NestedKey.num i = nkOf x from ⟨.inl i, keyIs_int i t, rfl⟩)
    · rename_i y
      simp only [D.py] at dp
      cases dp
      obtain ⟨t, rfl⟩ := h1
      exact (show ∃ x, keyIs x (Value.str (txt y) t) = true ∧ NestedKey.text (txt y) = nkOf x from ⟨.inr (txt y), keyIs_str _ t, rfl⟩)
def rSetD (K : PySem.W.Frag) (P : Program) (w : World) : List V → Hp → VK → Prop := fun vs H Q => ∃ (a : Addr) (xs : List V) (l : List D) (b : Bool), vs = [.ref a] ∧ (SqL K H a xs ∨ SqT K H a xs) ∧ xs.length = l.length ∧ DpAll K H xs (D.pys l) ∧ (l.length < 64 ∨ ∃ m : List D, (∀ d ∈ l, d ∈ m) ∧ m.length < 63) ∧ (∀ d ∈ l, sameSort b d) ∧
  ∀ (p : Addr) (rows : List R3), H p = none → (∀ r ∈ rows, r.2 ∈ xs.zip l ∧ RelV r.2.1 r.1.1 ∧ r.1.2 = nkD r.2.2) → (∀ d ∈ l, nkD d ∈ rows.map (·.1.2)) → Q (.ref p) (upd H p (SetXO P w b p (rows.map (·.1))))
theorem cr_setD (hc : X.calm = true) (hu : X.A.units + 64 < cLine) : CallR X (.type "set") (rSetD X.K X.prog X.w) := by
  intro pins s σ H vs us Q I r h
  obtain ⟨a, xs, l, b, rfl, hs, hlen, hd, hfew, hso, q⟩ := h
  rw [Vals.ref1 r]
  obtain ⟨its, rv, hl⟩ : ∃ its, L2.Vals xs its ∧ (s.heap.IsList a its.toArray ∨ s.heap.IsTuple a its.toArray) := by
    rcases hs with hs | hs
    · obtain ⟨its, rv, p, _⟩ := I.list hs
      exact ⟨its, rv, .inl p.isList⟩
    · obtain ⟨its, rv, p, _⟩ := I.tuple hs
      exact ⟨its, rv, .inr p⟩
  obtain ⟨rows, e1, e2, e3⟩ := rows3 rv hlen
  have hz : ∀ r ∈ rows, r.2 ∈ xs.zip l := fun r hr => by rw [← e2]; exact List.mem_map.mpr ⟨r, hr, rfl⟩
  have hn : H s.heap.objs.size = none := I.hok.fresh (Nat.le_refl _)
  have hrl : rows.length = l.length := by
    have := congrArg List.length e2
    simp at this
    omega
  refine call_setV (P := X.prog) (w := X.w) (b := b) (rows.map (·.1)) (I.ok.hd hc) hl (by rw [List.map_map]; exact e1.symm) (fun p hp => ?_) (by
    rcases hfew with hf | ⟨m, hm, hf⟩
    · exact .inl (by rw [List.length_map]; omega)
    · refine .inr ⟨m.map nkD, fun p hp => ?_, by rw [List.length_map]; omega⟩
      obtain ⟨r, hr, rfl⟩ := List.mem_map.mp hp
      rw [(e3 r hr).2]
      exact List.mem_map.mpr ⟨_, hm _ (List.of_mem_zip (hz r hr)).2, rfl⟩) (by omega) fun h' tk L R g k => ?_
  · obtain ⟨r, hr, rfl⟩ := List.mem_map.mp hp
    obtain ⟨f1, f2⟩ := e3 r hr
    exact item_of I f1 f2 (dp_zip hd _ (hz r hr)) (hso _ (List.of_mem_zip (hz r hr)).2)
  · obtain ⟨rows', eL, hsub⟩ : ∃ rows' : List R3, L = rows'.map (·.1) ∧ ∀ r ∈ rows', r ∈ rows := by
      have hm : ∀ p ∈ L, ∃ r ∈ rows, r.1 = p := fun p hp => by
        obtain ⟨r, hr, e⟩ := List.mem_map.mp (List.mem_of_mem_take (g.sub p hp))
        exact ⟨r, hr, e⟩
      clear g R q
      induction L with
      | nil => exact ⟨[], rfl, fun r h => (by cases h)⟩
      | cons p L ih =>
        obtain ⟨r, hr, e⟩ := hm p List.mem_cons_self
        obtain ⟨rs, e2, hs2⟩ := ih fun p hp => hm p (List.mem_cons_of_mem _ hp)
        refine ⟨r :: rs, by rw [List.map_cons, e, e2], fun x hx => ?_⟩
        rcases List.mem_cons.mp hx with z | z
        · rw [z]; exact hr
        · exact hs2 x z
    subst eL
    refine ⟨.ref s.heap.objs.size, upd H s.heap.objs.size (SetXO X.prog X.w b s.heap.objs.size (rows'.map (·.1))), I.laid (t' := tk) k (Nat.le_refl _) (setXO_new R.v0), rfl, q _ rows' hn (fun r hr => ⟨hz r (hsub r hr), e3 r (hsub r hr)⟩) fun d hdl => ?_⟩
    obtain ⟨i, hi, ed⟩ := List.mem_iff_getElem.mp hdl
    have hxi : i < xs.length := by omega
    have hmz : (xs[i], d) ∈ xs.zip l := by
      refine List.mem_iff_getElem.mpr ⟨i, by simp; omega, ?_⟩
      rw [List.getElem_zip, ed]
    rw [← e2] at hmz
    obtain ⟨r, hr, er⟩ := List.mem_map.mp hmz
    have hall := g.all r.1 (by rw [List.take_length]; exact List.mem_map.mpr ⟨r, hr, rfl⟩)
    rw [(e3 r hr).2, er] at hall
    simpa using hall
def rSortX (K : PySem.W.Frag) (P : Program) (w : World) : List V → Hp → VK → Prop := fun vs H Q => ∃ (a : Addr) (b : Bool) (rows : List R3), vs = [.ref a] ∧ H a = some (SetXO P w b a (rows.map (·.1))) ∧ (∀ r ∈ rows, RelV r.2.1 r.1.1 ∧ r.1.2 = nkD r.2.2 ∧ Dp K H r.2.1 r.2.2.py ∧ sameSort b r.2.2) ∧
  (∀ r ∈ rows, ∀ r' ∈ rows, D.like r.2.2 r'.2.2 = true) ∧ ∀ (rows' : List R3) (p : Addr), rows'.Perm rows → (rows'.map (·.2.2)).Nodup → rows'.Pairwise (fun q r => D.lt r.2.2 q.2.2 = false) → H p = none → Q (.ref p) (upd H p (.lst (rows'.map (·.2.1))))
theorem cr_sortX (hc : X.calm = true) (hu : X.A.units + 100 < cLine) : CallR X (.builtin "sorted") (rSortX X.K X.prog X.w) := by
  intro pins s σ H vs us Q I r h
  obtain ⟨a, b, rows, rfl, ha, hr, hlike, q⟩ := h
  have R0 : SetV0 X.prog X.w b s.heap a (rows.map (·.1)) := (I.hok a _ ha).1
  have hit : ∀ r ∈ rows, ItemV b s.heap r.1 := fun r hm => let ⟨f1, f2, f3, f4⟩ := hr r hm; item_of I f1 f2 f3 f4
  have R := R0.full fun p hp => by
    obtain ⟨r, hm, rfl⟩ := List.mem_map.mp hp
    exact hit r hm
  have hlen := R.len
  obtain ⟨es, ep, t, W⟩ := R.walk
  rw [Vals.ref1 r]
  have henc : ∀ r ∈ rows, r.1.2.data = r.2.2.py := fun r hm => by rw [(hr r hm).2.1, nk_data _ (hr r hm).2.2.2.1]
  refine sortedV (enc := fun p => p.2.data) W (I.ok.hd hc) hu (fun p hp => ?_) ?_ (fun p hp => ?_) ?_ fun s' p out c L' k g o hp hg hout pm pw => ?_
  · obtain ⟨r, hm, rfl⟩ := List.mem_map.mp hp
    obtain ⟨f1, f2, f3, f4⟩ := hr r hm
    obtain ⟨as, ra⟩ := Dp.reads I _ _ _ f3 f1
    rw [← henc r hm] at ra
    exact ⟨as, ra⟩
  · intro d h1 d' h2
    rw [List.map_map] at h1 h2
    obtain ⟨r, hm, rfl⟩ := List.mem_map.mp h1
    obtain ⟨r', hm', rfl⟩ := List.mem_map.mp h2
    simp only [Function.comp]
    rw [henc r hm, henc r' hm']
    exact py_like _ _ (hlike r hm r' hm')
  · obtain ⟨r, hm, rfl⟩ := List.mem_map.mp hp
    rw [henc r hm]
    have := py_depth 8 _ (hr r hm).2.2.2.2.1
    omega
  · cases b with
    | true =>
      refine .inl fun p hp => ?_
      obtain ⟨r, hm, rfl⟩ := List.mem_map.mp hp
      have h3 := (hr r hm).2.2.2.2.2
      rw [henc r hm]
      cases hd : r.2.2 <;> rw [hd] at h3 <;> simp [isTup] at h3
      exact ⟨_, rfl⟩
    | false =>
      refine .inr (.inr fun d hd => ?_)
      rw [List.map_map] at hd
      obtain ⟨r, hm, rfl⟩ := List.mem_map.mp hd
      simp only [Function.comp]
      rw [henc r hm]
      refine ⟨like_is_pure _ _ (hlike r hm r hm), fun ys e => ?_⟩
      have h3 := (hr r hm).2.2.2.2.2
      cases hd : r.2.2 <;> rw [hd] at h3 e <;> simp [isAtom, D.py] at h3 e
  · obtain ⟨rows', eL, p2⟩ := perm_back pm rows rfl
    subst eL
    have hin : ∀ r ∈ rows', r ∈ rows := fun r hm => p2.mem_iff.mp hm
    have hl2 : (rows'.map (·.2.1)).length ≤ sizeLine := by
      have := p2.length_eq
      rw [List.length_map] at hlen ⊢
      rw [sizeLine_eq]
      omega
    have hn : H p = none := I.hok.fresh hp
    have hv : Vals (rows'.map (·.2.1)) out.toList := by
      rw [hout]
      clear pm pw p2 hout q hl2
      induction rows' with
      | nil => exact .nil
      | cons r rows' ih => exact .cons (hr r (hin r List.mem_cons_self)).1 (ih fun x hx => hin x (List.mem_cons_of_mem _ hx))
    have J : Inv X pins σ (upd H p (.lst (rows'.map (·.2.1)))) { s with heap := s'.heap, gens := s'.gens, drawn := s'.drawn, toks := s'.toks } :=
      I.call (ch := []) (Un.laid k hp hn) (I.hok.laid k hp ⟨hl2, out.toList, c, hv, hg⟩) (by rw [g]; exact I.bare) (fun _ z => nomatch z)
    have e : s' = { s with heap := s'.heap, gens := s'.gens, drawn := s'.drawn, toks := s'.toks } := by
      cases s'
      cases s
      cases o
      rfl
    rw [e]
    refine ⟨.ref p, _, J, rfl, q rows' p p2 ?_ ?_ hn⟩
    · have nd := (p2.map fun r : R3 => r.1.2).nodup_iff.mpr (by have := W.nd; rwa [List.map_map] at this)
      have e2 : rows'.map (fun r : R3 => r.1.2) = (rows'.map (·.2.2)).map nkD := by
        rw [List.map_map]
        exact List.map_congr_left fun r hm => (hr r (hin r hm)).2.1
      rw [e2] at nd
      exact List.Pairwise.of_map nkD (fun _ _ hne e => hne (congrArg nkD e)) nd
    · refine List.Pairwise.imp_of_mem (fun {x y} hx hy h => ?_) (List.pairwise_map.mp pw)
      rw [henc x (hin x hx), henc y (hin y hy)] at h
      rw [← py_lt _ _ (hlike y (hin y hy) x (hin x hx))]
      exact h
end
end LK
namespace LK
open PySem PySem.Spec PyProof.Rows L2
variable [Tt] in
theorem de_sset {X : Cx} {W : WX} {a : Expr} {da : E} {C : Call} {p p2 q pos : Pos} (hc : X.calm = true) (hu : X.A.units + 100 < cLine) (hg : Gl X "sorted") (hm : X.mg "sorted" = none) (hg2 : Gl X "set") (hm2 : X.mg "set" = none) (ns : noStar a = true) (ha : DE X W a (den C da)) :
    DE X W (.Call (.Name "sorted" p) [.Call (.Name "set" p2) [a] [] q] [] pos) (den C (.un .sset da)) :=
  de_val ((pe_callB (cr_sortX hc hu) hg hm (by decide +kernel) (pa_cons (pe_callTy (cr_setD hc (by omega)) hg2 hm2 (by decide +kernel) (pa_cons ha.v pa_nil (star_plain ns _ _)) (by decide) (by decide) (star_plain ns _ _)) pa_nil rfl) (by decide) (by decide) rfl).weak fun σ H Q ⟨env, S, ρ, k, h⟩ =>
    ⟨env, S, ρ, k, RP.bind h k.s.live fun x S1 vx H1 ρ1 f1 g1 k1 r1 h1 => by
      obtain ⟨d, hd, qq⟩ := rp_of k1 h1
      simp only [unD, Option.bind_eq_some_iff] at hd
      obtain ⟨l, hl, hd⟩ := hd
      split at hd
      case isFalse => cases hd
      rename_i hcond
      cases hd
      simp only [Bool.and_eq_true, decide_eq_true_eq, List.all_eq_true, Bool.or_eq_true] at hcond
      obtain ⟨⟨⟨hfew, hal⟩, hsh⟩, hso⟩ := hcond
      have hL := allLike_likes hal
      replace hfew : l.length < 64 ∨ ∃ m : List D, (∀ d ∈ l, d ∈ m) ∧ m.length < 63 := hfew.imp id fun h => ⟨sset l, fun d hd => ((sset_ok hL).1 d).mpr hd, h⟩
      have hpure : D.pures l = true := by
        have : ∀ m : List D, (∀ d ∈ m, d.pure = true) → D.pures m = true := by
          intro m
          induction m with
          | nil => exact fun _ => rfl
          | cons y m ih => exact fun h => by simp [D.pures, h y List.mem_cons_self, ih fun z hz => h z (List.mem_cons_of_mem _ hz)]
        exact this l hL.pure
      obtain ⟨b, hb⟩ : ∃ b : Bool, ∀ d ∈ l, sameSort b d := by
        rcases hso with h | h
        · exact ⟨true, fun d hd => ⟨hk_like d (hL.like d hd d hd), hsh d hd, h d hd⟩⟩
        · exact ⟨false, fun d hd => ⟨hk_like d (hL.like d hd d hd), hsh d hd, h d hd⟩⟩
      obtain ⟨c, vs, rfl, hq, hz, rr⟩ := Rep.items (K := X.K) k1.s hl r1
      refine ⟨c, vs, l, b, rfl, hq, rr.length, Reps.dp l vs hpure rr, hfew, hb, fun a0 rows hn hrows hall => ?_⟩
      have s1 : Same H1 (upd H1 a0 (SetXO X.prog X.w b a0 (rows.map (·.1)))) := same_new hn
      have k2 := k1.same s1
      have rr2 : Reps ρ1 (upd H1 a0 (SetXO X.prog X.w b a0 (rows.map (·.1)))) l vs := Reps.mono (frm_of s1) (Grow.refl _ _) k1.s.live l vs rr
      have hrep : ∀ r ∈ rows, Rep ρ1 (upd H1 a0 (SetXO X.prog X.w b a0 (rows.map (·.1)))) r.2.2 r.2.1 := fun r hr => reps_zip rr2 r.2 (hrows r hr).1
      have hml : ∀ r ∈ rows, r.2.2 ∈ l := fun r hr => (List.of_mem_zip (hrows r hr).1).2
      refine ⟨a0, b, rows, rfl, upd_same, fun r hr => ⟨(hrows r hr).2.1, (hrows r hr).2.2, dp_zip (Reps.dp l vs hpure rr2) r.2 (hrows r hr).1, hb _ (hml r hr)⟩, fun r hr r' hr' => hL.like _ (hml r hr) _ (hml r' hr'), fun rows' p0 pm nd pw hp0 => ?_⟩
      have s2 : Same (upd H1 a0 (SetXO X.prog X.w b a0 (rows.map (·.1)))) (upd (upd H1 a0 (SetXO X.prog X.w b a0 (rows.map (·.1)))) p0 (.lst (rows'.map (·.2.1)))) := same_new hp0
      have hin : ∀ r ∈ rows', r ∈ rows := fun r hr => pm.mem_iff.mp hr
      have elist : rows'.map (·.2.2) = sset l := by
        refine sset_eq hL (fun z => ?_) nd (List.pairwise_map.mpr (pw.imp fun h => h))
        constructor
        · intro hz
          obtain ⟨r, hr, rfl⟩ := List.mem_map.mp hz
          exact hml r (hin r hr)
        · intro hz
          obtain ⟨r, hr, e⟩ := List.mem_map.mp (hall z hz)
          refine List.mem_map.mpr ⟨r, pm.mem_iff.mpr hr, ?_⟩
          rw [(hrows r hr).2.2] at e
          exact nkD_inj _ _ (hb _ (hml r hr)).1 (hb _ hz).1 e
      have rfin : Reps ρ1 (upd H1 a0 (SetXO X.prog X.w b a0 (rows.map (·.1)))) (rows'.map (·.2.2)) (rows'.map (·.2.1)) := by
        have := reps_of (bs := rows'.map (·.2)) fun c hc => by
          obtain ⟨r, hr, rfl⟩ := List.mem_map.mp hc
          exact hrep r (hin r hr)
        rw [List.map_map, List.map_map] at this
        exact this
      rw [elist] at rfin
      refine qq _ _ (fun b o e => s2 b o (s1 b o e)) (Rep.lst_new hp0 k2.s.live ?_ rfin)
      rw [← elist, List.length_map, pm.length_eq]
      have hle : rows.length ≤ l.length ∨ True := .inr trivial
      have nd2 : ((rows'.map (·.2.2))).length ≤ l.length := List.Nodup.length_le_of_subset nd fun z hz => by
        obtain ⟨r, hr, rfl⟩ := List.mem_map.mp hz
        exact hml r (hin r hr)
      rw [List.length_map, pm.length_eq] at nd2
      omega⟩) fun _ => rfl
end LK
set_option Elab.async false
set_option linter.all false
set_option autoImplicit false
set_option maxRecDepth 100000
set_option maxHeartbeats 4000000
/-! LK7t: tuple of a text. -/
namespace LK
open PySem PySem.Spec PyProof.Rows L2
variable [Tt]
section
variable {prog : Program} {w : World} {A : Around} {E : Value → Shared → Prop} {s : Shared}
theorem code_tup_str {Q₁ : Value → Shared → Prop} (hh : A.handled = none) (x : Str) (t : Tok) (hn : x.cps.size ≤ sizeLine)
    (h : ∀ (s' : Shared) (acc : Array Value), (∀ b o, s.heap.get? b = some o → s'.heap.get? b = some o) → s'.gens = s.gens → s'.drawn = s.drawn → s'.os = s.os → ItemsOf (SignAt x) acc x.cps.size → Q₁ (.ref s'.heap.objs.size) { s' with heap := s'.heap.push { cls := .type "tuple", data := .seq acc } }) :
    codeAny (model prog w) A (.call (.builtin "tuple.__new__") ⟨[.type "tuple", .str x t], []⟩) (wants Q₁ E) s := by
  refine codeAny_of_tree ?_
  show wpAny _ A.in1 (do checkBuiltinCall "tuple.__new__" ⟨[.type "tuple", .str x t], []⟩; again (.builtin "tuple.__new__" ⟨[.type "tuple", .str x t], []⟩)) _ _ s
  refine wpAny_bind (wpAny_of_eq (F.newCall_tuple_1 _) (wpAny_pure ⟨plainId_quiet F.plain_tuple_new _, codeAny_builtin F.entry_tuple_new ?_⟩))
  rw [Around.under_plainId F.plain_tuple_new _]
  have hsub := sub_tuple_self
  have hinit := init_tuple_lookup
  have hmh := madeHere_tuple
  have hh2 : A.in1.handled = none := by simp [hh]
  have hh3 : A.in1.in1.handled = none := by simp [hh]
  have hT : s.TypeIs (.str x t) "str" := rfl
  wp_walk using wpAny_typeOf hT, wpAny_collect_str (hn := hn) hh3, wpAny_collect_str (hn := hn) hh2, wpAny_collect_str (hn := hn) hh
  intro s' acc k g d o hacc
  show wpAny _ _ (Builtin.Tuple.tupleExact acc.toList.toArray >>= fun v => ret v) _ _ _
  unfold Builtin.Tuple.tupleExact
  refine wpAny_bind (wpAny_newObj_type ?_ (by show acc.toList.toArray.size ≤ sizeLine; simp only [Array.toArray_toList]; rw [hacc.1]; exact hn))
  refine wpAny_pure ?_
  have e : acc.toList.toArray = acc := by simp
  rw [e]
  exact h s' acc k g d o hacc
theorem call_tup_str {Q : Value → Shared → Prop} (hh : A.handled = none) (x : Str) (t : Tok) (hn : x.cps.size ≤ sizeLine)
    (hQ : ∀ (s' : Shared) (acc : Array Value), (∀ b o, s.heap.get? b = some o → s'.heap.get? b = some o) → s'.gens = s.gens → s'.drawn = s.drawn → s'.os = s.os → ItemsOf (SignAt x) acc x.cps.size → Q (.ref s'.heap.objs.size) { s' with heap := s'.heap.push { cls := .type "tuple", data := .seq acc } }) :
    wpAny (model prog w) A (call (.type "tuple") [.str x t]) Q E s := by
  refine callType_codes (Q₁ := fun obj s₁ => s₁.TypeIs obj "tuple" ∧ Q obj s₁) F.called_tuple (F.typeCall_tuple_1 _) F.entry_object_init
    (code_tup_str (by simpa using hh) x t hn fun s' acc k g d o hacc => ⟨⟨_, Heap.get?_push_size _ rfl, rfl⟩, hQ s' acc k g d o hacc⟩) fun obj s₁ h₁ => ?_
  exact ⟨h₁.1, F.args_object_init_2 obj _, object_init_meets F.called_tuple.init.lookup F.called_tuple.made (by decide) prog w A.in1 _ s₁ ⟨h₁.1, rfl, h₁.2⟩⟩
end
def signsV (z : Str) : List V := z.cps.toList.map fun c => V.str ⟨#[c]⟩
def rTup2 (K : PySem.W.Frag) : List V → Hp → VK → Prop := fun xs H Q => (∃ p ys, xs = [.ref p] ∧ ((SqL K H p ys ∧ ∀ l, H l = none → Q (.ref l) (upd H l (.tup ys))) ∨ (SqT K H p ys ∧ Q (.ref p) H))) ∨ ∃ z : Str, xs = [.str z] ∧ z.cps.size ≤ sizeLine ∧ ∀ l, H l = none → Q (.ref l) (upd H l (.tup (signsV z)))
theorem cr_tup2 {X : Cx} (hc : X.calm = true) : CallR X (.type "tuple") (rTup2 X.K) := by
  intro pins s σ H vs us Q I r h
  rcases h with h | ⟨z, rfl, hz, q⟩
  · exact call_tuple_of pins s σ H vs us Q I r h
  · cases r with
    | cons r rr =>
      cases rr
      obtain ⟨t, rfl⟩ := r
      refine call_tup_str (I.ok.hd hc) z t hz fun s' acc k g d o hacc => ?_
      have I1 : Inv X pins σ H { s with heap := s'.heap, toks := s'.toks } := I.kept (t' := s'.toks) k
      have es : s' = { s with heap := s'.heap, toks := s'.toks } := by
        cases s'
        cases s
        simp only at g d o
        rw [g, d, o]
      have hv : Vals (signsV z) acc.toList := by
        obtain ⟨h1, h2⟩ := hacc
        have go : ∀ (cs : List Nat) (vs : List Value), vs.length = cs.length → (∀ (j : Nat) v, vs[j]? = some v → ∃ c u, cs[j]? = some c ∧ v = .str ⟨#[c]⟩ u) → Vals (cs.map fun c => V.str ⟨#[c]⟩) vs := by
          intro cs
          induction cs with
          | nil =>
            intro vs hl _
            cases vs with
            | nil => exact .nil
            | cons _ _ => simp at hl
          | cons c cs ih =>
            intro vs hl hj
            cases vs with
            | nil => simp at hl
            | cons v vs =>
              refine .cons ?_ (ih vs (by simpa using hl) fun j v hv => by simpa using hj (j + 1) v (by simpa using hv))
              obtain ⟨c', u, e1, e2⟩ := hj 0 v rfl
              simp at e1
              rw [e2, ← e1]
              exact ⟨u, rfl⟩
        refine go z.cps.toList acc.toList (by simpa using h1) fun j v hv => ?_
        obtain ⟨c, u, e1, e2⟩ := h2 j v (by rw [← Array.getElem?_toList]; exact hv)
        exact ⟨c, u, by rw [Array.getElem?_toList]; exact e1, e2⟩
      have I2 : Inv X pins σ (upd H s'.heap.objs.size (.tup (signsV z))) { s with heap := s'.heap.push { cls := .type "tuple", data := .seq acc }, toks := s'.toks } :=
        I1.laid (t' := s'.toks) (fun b o e => Heap.get?_push_of_some _ e) (Nat.le_refl _) (show ObjOk X.prog X.w _ _ _ (.tup (signsV z)) from ⟨by simpa [signsV] using hz, acc.toList, hv, by simpa using IsTup.new s'.heap acc⟩)
      rw [es]
      exact ⟨.ref s'.heap.objs.size, _, I2, rfl, q _ (I1.hok.fresh (Nat.le_refl _))⟩
theorem us_tup2 {K : PySem.W.Frag} : UnS .tuple (rTup2 K) := by
  intro S ρ H x vx d Q s rx h q
  cases x with
  | str z =>
    simp only [unD, Option.some.injEq] at h
    subst h
    simp only [Rep] at rx
    obtain ⟨rfl, h1, h2⟩ := rx
    refine .inr ⟨txt z, rfl, (by simpa using h1 : (txt z).cps.size ≤ line), fun l hl => q _ _ (same_new hl) (Rep.tup_new hl s.live (by simpa using h1) ?_)⟩
    have go : ∀ cs : List Nat, cs.all (fun c => decide (c < 1114112)) = true → Reps ρ H (cs.map fun c => D.str [c]) (cs.map fun c => V.str ⟨#[c]⟩) := by
      intro cs
      induction cs with
      | nil => intro _; simp [Reps]
      | cons c cs ih =>
        intro hc
        simp only [List.all_cons, Bool.and_eq_true] at hc
        simp only [List.map_cons, Reps]
        exact ⟨_, _, rfl, Rep.str_of (s := [c]) (by show 1 ≤ 16777216; decide) (by simpa using hc.1), ih hc.2⟩
    have := go z h2
    simpa [signsV] using this
  | _ => exact .inl (tup_read (K := K) s rx (by simpa only [unD] using h) q)
end LK
set_option Elab.async false
set_option linter.all false
set_option autoImplicit false
set_option maxRecDepth 100000
set_option maxHeartbeats 1000000
/-! LK14: from the text to the little language. What is not known becomes .nil, which means nothing. -/
namespace LK
open PySem PySem.Spec PyProof.Rows L2
variable [Tt]
structure Ent where
  name : Str
  id : Nat
  ps : List Str
  muts : List Bool
  ret : Bool
  pats : List (Nat × List Str)
  deriving Inhabited
structure Ctx where
  N : List Str
  sc : Scope
  fn : Str → Bool
  G : List Ent
  B : List Str
  Cs : List (Str × D)
  /-- lambdas may be made here -/
  lam : Bool
  /-- own exceptions that may be named here -/
  Xs : List Nat := []
def permOf (ps : List Str) (n : Nat) (ks : List Str) : List Nat := (List.range ps.length).map fun i => if i < n then i else n + ks.idxOf (ps.getD i "")
def vis : Option NameKind → Bool
  | some .local => true
  | some .cell => true
  | some .free => true
  | _ => false
def slot (c : Ctx) (x : Str) : Option Nat :=
  if c.N[c.N.idxOf x]? = some x ∧ vis (c.sc.names.lookup x) = true ∧ (x == ("__debug__" : Str)) = false ∧ (x == ("__classdict__" : Str)) = false then some (c.N.idxOf x) else none
/-- a name that is stored to -/
def tslot (c : Ctx) (x : Str) : Option Nat :=
  if c.N[c.N.idxOf x]? = some x ∧ (c.sc.names.lookup x = some .local ∨ (c.sc.names.lookup x = some .cell ∧ c.fn x = true)) then some (c.N.idxOf x) else none
def cNames (c : Ctx) : List Expr → Option (List Nat)
  | [] => some []
  | .Name x _ :: r => (tslot c x).bind fun i => (cNames c r).map fun l => i :: l
  | _ => none
def cT (c : Ctx) : Expr → Option (Bool × List Nat)
  | .Name x _ => (tslot c x).map fun i => (false, [i])
  | .Tuple es _ _ => (cNames c es).map fun l => (true, l)
  | _ => none
def gl (c : Ctx) (x : Str) : Bool := decide (c.sc.names.lookup x = some .globalImplicit)
def blt (c : Ctx) (x : Str) : Bool := gl c x && c.B.contains x
/-- a name of the text's own that stands for a constant -/
def cGlob (c : Ctx) (x : Str) : E := if gl c x = true ∧ (x == ("__debug__" : Str)) = false then (match c.Cs.lookup x with | some d => .lit d | none => .nil) else .nil
def cConst : Const → E
  | .none => .lit .non
  | .bool b => .lit (.bl b)
  | .int i => .lit (.int i)
  | .str s => if s.cps.toList.length ≤ line ∧ (s.cps.toList.all fun c => decide (c < 1114112)) = true then .lit (.str s.cps.toList) else .nil
  | _ => .nil
def cOp : Operator → Option Op
  | .Add => some .add
  | .Sub => some .sub
  | .Mult => some .mul
  | .FloorDiv => some .fdiv
  | .Mod => some .mod
  | .Pow => some .pow
  | _ => none
def cCmp : CmpOp → Option Op
  | .Eq => some .eq
  | .NotEq => some .ne
  | .Lt => some .lt
  | .LtE => some .le
  | .Gt => some .gt
  | .GtE => some .ge
  | .In => some .mem
  | .NotIn => some .nmem
  | _ => none
def cTy (x : Str) : Option Ty :=
  if x = "int" then some .int else if x = "bool" then some .bool else if x = "str" then some .str else if x = "list" then some .list else if x = "tuple" then some .tuple else none
def cTys (c : Ctx) : List Expr → Option (List Ty)
  | [] => some []
  | .Name x _ :: r => if blt c x = true then (cTy x).bind fun t => (cTys c r).map fun l => t :: l else none
  | _ => none
def un1 (f : Str) : Option Un :=
  if f = "len" then some .len else if f = "abs" then some .abs else if f = "all" then some .all else if f = "any" then some .any
  else if f = "tuple" then some .tuple else if f = "list" then some .list else if f = "int" then some .int else if f = "sorted" then some .sorted
  else if f = "min" then some .min else if f = "max" then some .max else if f = "sum" then some .sum else none
/-- a call that hands back a new list -/
def isRetCall (c : Ctx) : Expr → Bool
  | .Call (.Name x _) _ _ _ => (c.G.find? (fun e => e.name = x)).any (·.ret)
  | _ => false
/-- such a call's list stays as it is -/
def cZ (f : Expr → E) (c : Ctx) (e : Expr) : E := if isRetCall c e = true then .fz (f e) else f e
section
variable (f : Expr → E)
def cL : List Expr → E
  | [] => .nil
  | .Starred e _ :: r => .star (f e) (cL r)
  | e :: r => .cons (f e) (cL r)
def cK : List Keyword → E
  | [] => .nil
  | k :: r => .cons (f k.value) (cK r)
/-- range's ends -/
def cRg (c : Ctx) : Expr → Option (E × E)
  | .Call (.Name x _) [a] [] _ => if x = "range" ∧ blt c x = true ∧ noStar a = true then some (.lit (.int 0), f a) else none
  | .Call (.Name x _) [a, b] [] _ => if x = "range" ∧ blt c x = true ∧ noStar a = true ∧ noStar b = true then some (f a, f b) else none
  | _ => none
def isTupE : Expr → Bool
  | .Tuple _ _ _ => true
  | _ => false
def cI (c : Ctx) (tg : Expr) (e : Expr) : E := match cRg f c e with
  | some (a, b) => .rng a b
  | none => match e with
    | .Call (.Name x _) [a] [] _ => if x = "enumerate" ∧ blt c x = true ∧ noStar a = true ∧ isTupE tg = true then .enum (f a) else f e
    | .Call (.Name x _) [a, b] [] _ => if x = "zip" ∧ blt c x = true ∧ noStar a = true ∧ noStar b = true ∧ isTupE tg = true then .zip (f a) (f b) else f e
    | _ => f e
def cAnd : List Expr → E
  | [] => .nil
  | [a] => f a
  | a :: r => .and (f a) (cAnd r)
def cOr : List Expr → E
  | [] => .nil
  | [a] => f a
  | a :: r => .or (f a) (cOr r)
def oNil : Option E → E
  | some e => e
  | none => .nil
def isSset (c : Ctx) (x : Str) (args : List Expr) (kws : List Keyword) : Option Expr := match args, kws with
  | [.Call (.Name s _) [b] [] _], [] => if x = "sorted" ∧ s = "set" ∧ blt c x = true ∧ blt c s = true ∧ noStar b = true then some b else none
  | _, _ => none
def cCall0 (f0 : Expr → E) (c : Ctx) (x : Str) (args : List Expr) (kws : List Keyword) : E :=
  if blt c x = true then (match args, kws with
    | [a], [] => if noStar a = true then (match cRg f c a with
        | some (p, q) => if x = "tuple" then .seqr true p q else if x = "list" then .seqr false p q else .nil
        | none => (match un1 x with | some o => .un o (f a) | none => .nil)) else .nil
    | [a, .Name t _], [] => if x = "isinstance" ∧ noStar a = true ∧ blt c t = true then (match cTy t with | some t => .un (.isT [t]) (f a) | none => .nil) else .nil
    | [a, .Tuple ts _ _], [] => if x = "isinstance" ∧ noStar a = true then (match cTys c ts with | some l => if l.length ≤ 5 then .un (.isT l) (f a) else .nil | none => .nil) else .nil
    | [a, b], [] => if noStar a = true ∧ noStar b = true then (if x = "max" then .bin .max2 (f a) (f b) else if x = "min" then .bin .min2 (f a) (f b) else .nil) else .nil
    | _, _ => .nil)
  else if gl c x = true ∧ (x == ("__debug__" : Str)) = false ∧ args.all noStar = true ∧ kws.all (fun k => k.arg.isSome) = true then (match c.G.find? (fun e => e.name = x) with
    | some e => if (args.length, kwNames kws) ∈ e.pats then .call e.id e.muts (permOf e.ps args.length (kwNames kws)) (cL f0 args) (cK f0 kws) else .nil
    | none => .nil)
  else .nil
/-- a lambda's body: names, lengths, tuples, items -/
def cKey : Nat → Ctx → Expr → E
  | 0, _, _ => .nil
  | n + 1, c, e => match e with
    | .Name x _ => (match slot c x with | some i => .var i | none => .nil)
    | .Constant k _ _ => cConst k
    | .UnaryOp .USub a _ => .un .neg (cKey n c a)
    | .Tuple es _ _ => .tup (cL (cKey n c) es)
    | .Subscript a s _ => if plainIx s = true then .bin .ix (cKey n c a) (cKey n c s) else .nil
    | .Call (.Name x _) [a] [] _ => if x = "len" ∧ blt c x = true ∧ noStar a = true then .un .len (cKey n c a) else .nil
    | _ => .nil
def keyCtx (c : Ctx) (y : Str) (scope : Scope) : Ctx := { c with N := [y], sc := scope, fn := fun _ => true, G := [], Cs := [], lam := false }
def fnScopeB (y : Str) (sc : Scope) : Bool := decide (sc.kind = .function) && !sc.isCoroutine && !sc.isGenerator && (decide (sc.names.lookup y = some .local) || decide (sc.names.lookup y = some .cell)) && sc.names.all fun z => !decide (z.2 = .free)
/-- sorted(xs, key=lambda y: body) -/
def isSortK (c : Ctx) (x : Str) (args : List Expr) (kws : List Keyword) : Option (Expr × Str × Scope × Expr) := match args, kws with
  | [a], [⟨some kw, .Lambda ⟨[], [⟨y, none, _⟩], none, [], [], none, []⟩ body scope _, _⟩] => if kw = "key" ∧ x = "sorted" ∧ blt c x = true ∧ noStar a = true ∧ okPar y = true ∧ c.lam = true ∧ fnScopeB y scope = true then some (a, y, scope, body) else none
  | _, _ => none
def cCall (f0 : Expr → E) (c : Ctx) (x : Str) (args : List Expr) (kws : List Keyword) : E := match isSset c x args kws with
  | some b => .un .sset (f b)
  | none => (match isSortK c x args kws with
    | some (a, y, scope, body) => .sortK (cKey 12 (keyCtx c y scope) body) (f a)
    | none => cCall0 f f0 c x args kws)
def cCompare (a : Expr) (ops : List CmpOp) (es : List Expr) : E := match ops, es with
  | [.Is], [.Constant .none _ _] => .bin .isN (f a) (.lit .non)
  | [.IsNot], [.Constant .none _ _] => .bin .notN (f a) (.lit .non)
  | [op], [b] => (match cCmp op with | some o => if behindInMarks op b = false then .bin o (f a) (f b) else .nil | none => .nil)
  | [op, op'], [b, d] => (match cCmp op, cCmp op' with | some o, some p => if lastMarks [op, op'] [b, d] = false then .chain o p (f a) (f b) (f d) else .nil | _, _ => .nil)
  | _, _ => .nil
def cBin (a : Expr) (op : Operator) (b : Expr) : E := match op, a with
  | .Mult, .List es _ => .rep (cL f es) (f b)
  | _, _ => (match cOp op with | some o => .bin o (f a) (f b) | none => .nil)
def cPart : Option Expr → Bool × E
  | none => (false, .lit .non)
  | some e => (true, f e)
def cSub (a s : Expr) : E := match s with
  | .Slice none none (some (.UnaryOp .USub (.Constant (.int 1) _ _) _)) _ => .un .rev (f a)
  | .Slice lo hi none _ => .sl (cPart f lo).1 (cPart f hi).1 (f a) (cPart f lo).2 (cPart f hi).2
  | s => if plainIx s = true then .bin .ix (f a) (f s) else .nil
end
def ownOf (N : List Str) (scope : Scope) : List (Str × Nat) := scope.names.filterMap fun y => if (y.2 = .local ∨ y.2 = .cell) ∧ y.1 ∈ N then some (y.1, N.idxOf y.1) else none
def notSet : Expr → Bool
  | .Set _ _ _ => false
  | _ => true
def inBlk (c : Ctx) (scope : Scope) : Ctx := { c with sc := relS scope c.sc, fn := fun x => scope.names.lookup x == some .cell, lam := false }
/-- a comprehension; f here, g within -/
def cLC (f g : Expr → E) (c : Ctx) (elt : Expr) (gs : List Comprehension) (scope : Scope) : E := match gs with
  | [⟨tg, it, ifs, 0⟩] => (match cT (inBlk c scope) tg with
    | some (tp, is) => if blkC c.N c.sc scope (ownOf c.N scope) = true ∧ (is.all fun i => decide (i ∈ (ownOf c.N scope).map (·.2))) = true ∧ notSet it = true then (match ifs with
        | [] => .lc ((ownOf c.N scope).map (·.2)) tp is (cI f c tg it) (.lit (.bl true)) (g elt)
        | [d] => .lc ((ownOf c.N scope).map (·.2)) tp is (cI f c tg it) (g d) (g elt)
        | _ => .nil) else .nil
    | none => .nil)
  | _ => .nil
def cTests (g : Expr → E) : List Expr → Option E
  | [] => some (.lit (.bl true))
  | [d] => some (g d)
  | _ => none
def cLC2 (f g : Expr → E) (c : Ctx) (elt : Expr) (gs : List Comprehension) (scope : Scope) : E := match gs with
  | [⟨tg, it, ifs, 0⟩, ⟨tg1, it1, ifs1, 0⟩] => (match cT (inBlk c scope) tg, cT (inBlk c scope) tg1, cTests g ifs, cTests g ifs1 with
    | some (tp, is), some (tp1, is1), some d, some d1 => if blkC c.N c.sc scope (ownOf c.N scope) = true ∧ (is.all fun i => decide (i ∈ (ownOf c.N scope).map (·.2))) = true ∧ (is1.all fun i => decide (i ∈ (ownOf c.N scope).map (·.2))) = true ∧ notSet it = true ∧ notSet it1 = true then
        .lc2 ((ownOf c.N scope).map (·.2)) tp is (cI f c tg it) d tp1 is1 (cI g (inBlk c scope) tg1 it1) d1 (g elt) else .nil
    | _, _, _, _ => .nil)
  | _ => .nil
def cE : Nat → Ctx → Expr → E
  | 0, _, _ => .nil
  | n + 1, c, e => match e with
    | .Name x _ => (match slot c x with | some i => .var i | none => cGlob c x)
    | .Constant k _ _ => cConst k
    | .BinOp a op b _ => cBin (cZ (cE n c) c) a op b
    | .UnaryOp .Not a _ => .not (cZ (cE n c) c a)
    | .UnaryOp .USub a _ => .un .neg (cZ (cE n c) c a)
    | .BoolOp .And (a :: b :: r) _ => cAnd (cZ (cE n c) c) (a :: b :: r)
    | .BoolOp .Or (a :: b :: r) _ => cOr (cZ (cE n c) c) (a :: b :: r)
    | .IfExp d a b _ => .ite (cZ (cE n c) c d) (cZ (cE n c) c a) (cZ (cE n c) c b)
    | .Compare a ops es _ => cCompare (cZ (cE n c) c) a ops es
    | .Tuple es _ _ => .tup (cL (cZ (cE n c) c) es)
    | .List es _ => .lst (cL (cZ (cE n c) c) es)
    | .Subscript a s _ => cSub (cZ (cE n c) c) a s
    | .Call (.Name x _) args kws _ => cCall (cZ (cE n c) c) (cE n c) c x args kws
    | .ListComp elt gs scope _ => if gs.length = 2 then cLC2 (cZ (cE n c) c) (cZ (cE n (inBlk c scope)) (inBlk c scope)) c elt gs scope else cLC (cZ (cE n c) c) (cZ (cE n (inBlk c scope)) (inBlk c scope)) c elt gs scope
    | _ => .nil
/-! ### it means what the text means -/
structure CtxOk (X : Cx) (W : WX) (c : Ctx) (T : Nat → Option Fn) (k : Nat) : Prop where
  N : X.N = c.N
  nd : X.N.Nodup
  sc : X.env.scope = c.sc
  fn : X.fn = c.fn
  calm : X.calm = true
  room : Room k X.A
  tk : Takes X W
  bl : ∀ x ∈ c.B, X.mg x = none
  gc : ∀ x d, c.Cs.lookup x = some d → ∃ v u, X.mg x = some u ∧ L2.RelV v u ∧ flatD d v
  cal : ∀ e ∈ c.G, ∀ p ∈ e.pats, Callee X T k e.name e.id p.1 p.2 (permOf e.ps p.1 p.2)
  lam : c.lam = true → LamOk X
section
variable {X : Cx} {W : WX} {c : Ctx} {T : Nat → Option Fn} {k : Nat}
theorem de_bad {e : Expr} {C : Call} : DE X W e (den C .nil) := ⟨⟨fun pins s σ H Q I ⟨env, S, ρ, k, h⟩ => h.elim⟩, ⟨fun pins s σ H Q I ⟨env, S, ρ, k, h⟩ => h.elim⟩, fun tg => ⟨fun pins s σ H R I ⟨env, S, ρ, k, h⟩ => h.elim⟩⟩
theorem CtxOk.gl (h : CtxOk X W c T k) {x : Str} (e : gl c x = true) : Gl X x := by
  unfold LK.gl at e
  unfold Gl Env.kindOf
  rw [h.sc]
  exact of_decide_eq_true e
theorem CtxOk.blt (h : CtxOk X W c T k) {x : Str} (e : blt c x = true) : Gl X x ∧ X.mg x = none := by
  unfold LK.blt at e
  simp only [Bool.and_eq_true] at e
  exact ⟨h.gl e.1, h.bl x (by simpa using e.2)⟩
theorem vis_ok {o : Option NameKind} (h : vis o = true) : o = some .local ∨ o = some .cell ∨ o = some .free := by
  cases o with
  | none => simp [vis] at h
  | some k => cases k <;> simp [vis] at h <;> simp
theorem slot_ok (h : CtxOk X W c T k) {x : Str} {i : Nat} (e : slot c x = some i) : X.N[i]? = some x ∧ Vis X.env.scope x ∧ (x == ("__debug__" : Str)) = false ∧ (x == ("__classdict__" : Str)) = false := by
  unfold slot at e
  split at e
  · rename_i q
    cases e
    rw [h.N]
    refine ⟨q.1, ?_, q.2.2.1, q.2.2.2⟩
    unfold Vis
    rw [h.sc]
    exact vis_ok q.2.1
  · cases e
theorem tslot_ok (h : CtxOk X W c T k) {x : Str} {i : Nat} (e : tslot c x = some i) : X.N[i]? = some x ∧ L2.Loc X.env.scope x ∧ (X.fn x = true ∨ X.env.scope.names.lookup x = some .local) := by
  unfold tslot at e
  split at e
  · rename_i q
    cases e
    rw [h.N, h.fn]
    unfold L2.Loc
    rw [h.sc]
    rcases q.2 with q2 | q2
    · exact ⟨q.1, .inl q2, .inr q2⟩
    · exact ⟨q.1, .inr q2.1, .inl q2.2⟩
  · cases e
theorem names_ok (h : CtxOk X W c T k) : ∀ {es : List Expr} {is : List Nat}, cNames c es = some is → PGs X es (gNs is) ∧ (assignEach es X.env).length = is.length ∧ (assignEach es X.env).findIdx? (·.1) = none
  | [], is, e => by
    simp [cNames] at e
    subst e
    exact ⟨pgs_nil, rfl, rfl⟩
  | .Name x p :: r, is, e => by
    simp only [cNames, Option.bind_eq_some_iff, Option.map_eq_some_iff] at e
    obtain ⟨i, hi, l, hl, rfl⟩ := e
    obtain ⟨q1, q2, q3⟩ := names_ok h hl
    obtain ⟨s1, s2, s3⟩ := tslot_ok h hi
    refine ⟨pgs_cons (pg_name h.nd s1 s2 s3) q1, ?_, ?_⟩
    · show (assignEach r X.env).length + 1 = l.length + 1
      rw [q2]
    · show ((false, assign (.Name x p) X.env) :: assignEach r X.env).findIdx? (·.1) = none
      rw [List.findIdx?_cons, q3]
      rfl
theorem target_ok (h : CtxOk X W c T k) {tg : Expr} {tp : Bool} {is : List Nat} (e : cT c tg = some (tp, is)) : PG X tg (gT X.K tp is) := by
  cases tg <;> simp only [cT] at e <;> first | (cases e; done) | skip
  · rename_i x p
    simp only [Option.map_eq_some_iff] at e
    obtain ⟨i, hi, e⟩ := e
    cases e
    obtain ⟨s1, s2, s3⟩ := tslot_ok h hi
    exact ⟨fun pins s σ H v u Q I r ⟨j, hj, hw⟩ => (pg_name h.nd s1 s2 s3).run pins s σ H v u Q I r (by cases hj; exact hw)⟩
  · rename_i es n p
    simp only [Option.map_eq_some_iff] at e
    obtain ⟨l, hl, e⟩ := e
    cases e
    obtain ⟨q1, q2, q3⟩ := names_ok h hl
    exact pg_tl h.calm q1 q2 q3
theorem txt_self (s : Str) : txt s.cps.toList = s := by
  cases s
  simp
theorem const_ok {kc : Const} {j : Nat} {p : Pos} {C : Call} : DE X W (.Constant kc j p) (den C (cConst kc)) := by
  cases kc <;> simp only [cConst] <;> try exact de_bad
  · exact de_lit (d := .non) pe_non (by simp [flatD]) (fun _ => rfl) C
  · exact de_lit (d := .bl _) pe_bl (by simp [flatD]) (fun _ => rfl) C
  · exact de_lit (d := .int _) pe_int (by simp [flatD]) (fun _ => rfl) C
  · split
    · rename_i s h
      exact de_lit (d := .str _) pe_str ⟨by rw [txt_self], h⟩ (fun _ => rfl) C
    · exact de_bad
theorem binop_ok {op : Operator} {o : Op} (h : cOp op = some o) : ∃ r, OpR X (binaryOp op) r ∧ OpS o r := by
  cases op <;> simp only [cOp] at h <;> cases h
  · exact ⟨_, or_add, ops_add⟩
  · exact ⟨_, op_sub, ops_sub⟩
  · exact ⟨_, (op_mul.or op_repU).or op_repL, ops_mul⟩
  · exact ⟨_, op_mod, ops_mod⟩
  · exact ⟨_, op_pow, ops_pow⟩
  · exact ⟨_, op_fdiv, ops_fdiv⟩
theorem CtxOk.un (h : CtxOk X W c T k) : X.A.units + 100 < cLine := by
  have := h.room.un
  omega
theorem cmpop_ok (h : CtxOk X W c T k) {op : CmpOp} {o : Op} (e : cCmp op = some o) : ∃ r, OpR X (compareOp op) r ∧ OpS o r ∧ cmpOp o = true := by
  have hu := h.un
  cases op <;> simp only [cCmp] at e <;> cases e
  · exact ⟨_, op_eqM hu, ops_eq, rfl⟩
  · exact ⟨_, op_neM hu, ops_ne, rfl⟩
  · exact ⟨_, op_ltM hu, ops_lt, rfl⟩
  · exact ⟨_, op_le, ops_le, rfl⟩
  · exact ⟨_, op_gt, ops_gt, rfl⟩
  · exact ⟨_, op_ge, ops_ge, rfl⟩
  · exact ⟨_, or_mem hu, ops_mem, rfl⟩
  · exact ⟨_, or_nmem hu, ops_nmem, rfl⟩
theorem ty_ok {x : Str} {t : Ty} (e : cTy x = some t) : bootBuiltins x = some (.type t.nm) ∧ x ≠ "__name__" ∧ (x == ("__debug__" : Str)) = false := by
  unfold cTy at e
  split at e
  · cases e; subst x; exact ⟨by decide +kernel, by decide, by decide⟩
  split at e
  · cases e; subst x; exact ⟨by decide +kernel, by decide, by decide⟩
  split at e
  · cases e; subst x; exact ⟨by decide +kernel, by decide, by decide⟩
  split at e
  · cases e; subst x; exact ⟨by decide +kernel, by decide, by decide⟩
  split at e
  · cases e; subst x; exact ⟨by decide +kernel, by decide, by decide⟩
  · cases e
theorem tys_ok (h : CtxOk X W c T k) : ∀ {es : List Expr} {ts : List Ty}, cTys c es = some ts → TyNames X es ts
  | [], ts, e => by simp [cTys] at e; subst e; exact .nil
  | e1 :: r, ts, e => by
    cases e1 <;> simp only [cTys] at e <;> first | (cases e; done) | skip
    split at e
    · rename_i hb
      simp only [Option.bind_eq_some_iff, Option.map_eq_some_iff] at e
      obtain ⟨t, ht, l, hl, rfl⟩ := e
      obtain ⟨g1, g2⟩ := h.blt hb
      obtain ⟨b1, b2, b3⟩ := ty_ok ht
      exact .cons g1 g2 b1 b2 b3 (tys_ok h hl)
    · cases e
theorem un1_ok (h : CtxOk X W c T k) {x : Str} {o : Un} (e : un1 x = some o) {a : Expr} {da : E} {C : Call} {p pos : Pos} (hb : blt c x = true) (ns : noStar a = true) (ha : DE X W a (den C da)) : DE X W (.Call (.Name x p) [a] [] pos) (den C (.un o da)) := by
  obtain ⟨hg, hm⟩ := h.blt hb
  unfold un1 at e
  split at e
  · cases e; subst x; exact de_callB call_len us_len hg hm (by decide +kernel) (by decide) (by decide) ns ha
  split at e
  · cases e; subst x; exact de_callB call_abs us_abs hg hm (by decide +kernel) (by decide) (by decide) ns ha
  split at e
  · cases e; subst x; exact de_callB (cr_all h.calm) us_all hg hm (by decide +kernel) (by decide) (by decide) ns ha
  split at e
  · cases e; subst x; exact de_callB (cr_any h.calm) us_any hg hm (by decide +kernel) (by decide) (by decide) ns ha
  split at e
  · cases e; subst x; exact de_callTy (cr_tup2 h.calm) us_tup2 hg hm (by decide +kernel) (by decide) (by decide) ns ha
  split at e
  · cases e; subst x; exact de_callTy call_list_of us_list hg hm (by decide +kernel) (by decide) (by decide) ns ha
  split at e
  · cases e; subst x; exact de_callTy call_int1 us_int hg hm (by decide +kernel) (by decide) (by decide) ns ha
  split at e
  · cases e; subst x; exact de_callB (cr_sortedD h.un) us_sorted hg hm (by decide +kernel) (by decide) (by decide) ns ha
  split at e
  · cases e; subst x; exact de_callB (cr_minD h.calm h.un) us_min hg hm (by decide +kernel) (by decide) (by decide) ns ha
  split at e
  · cases e; subst x; exact de_callB (cr_maxD h.calm h.un) us_max hg hm (by decide +kernel) (by decide) (by decide) ns ha
  split at e
  · cases e; subst x; exact de_callB (cr_sum h.calm) us_sum hg hm (by decide +kernel) (by decide) (by decide) ns ha
  · cases e
section
variable {C : Call} {f : Expr → E} (hf : ∀ e, DE X W e (den C (f e)))
include hf
theorem cL_ok : ∀ es : List Expr, PA X es (tLs X W (den C (cL f es)).l)
  | [] => da_nil
  | .Starred e p :: r => da_star (hf e) (cL_ok r)
  | .BoolOp .. :: r | .NamedExpr .. :: r | .BinOp .. :: r | .UnaryOp .. :: r | .Lambda .. :: r | .IfExp .. :: r | .Dict .. :: r | .Set .. :: r | .ListComp .. :: r | .SetComp .. :: r | .DictComp .. :: r | .GeneratorExp .. :: r | .Await .. :: r | .Yield .. :: r | .YieldFrom .. :: r | .Compare .. :: r | .Call .. :: r | .FormattedValue .. :: r | .JoinedStr .. :: r | .Constant .. :: r | .Attribute .. :: r | .Subscript .. :: r | .Name .. :: r | .List .. :: r | .Tuple .. :: r | .Slice .. :: r => da_cons (hf _) (cL_ok r) rfl
theorem cK_ok : ∀ kws : List Keyword, PK X kws (tLs X W (den C (cK f kws)).l)
  | [] => dk_nil
  | ⟨nm, e, p⟩ :: r => dk_cons (hf e) (cK_ok r)
theorem rg_ok (h : CtxOk X W c T k) {e : Expr} {a b : E} (er : cRg f c e = some (a, b)) : PRg X e (tRgD X W (den C a).v (den C b).v) ∧ ∀ tg, PI X tg e (tI X W (den C (.rng a b)).i) := by
  unfold cRg at er
  split at er
  · split at er
    · rename_i q
      obtain ⟨rfl, hb, ns⟩ := q
      cases er
      obtain ⟨hg, hm⟩ := h.blt hb
      exact ⟨prg1 hg hm ns (hf _), fun tg => di_rng1 hg hm ns (hf _)⟩
    · cases er
  · split at er
    · rename_i q
      obtain ⟨rfl, hb, ns, ns2⟩ := q
      cases er
      obtain ⟨hg, hm⟩ := h.blt hb
      exact ⟨prg2 hg hm ns ns2 (hf _) (hf _), fun tg => di_rng2 hg hm ns ns2 (hf _) (hf _)⟩
    · cases er
  · cases er
theorem cI_ok (h : CtxOk X W c T k) (tg e : Expr) : PI X tg e (tI X W (den C (cI f c tg e)).i) := by
  unfold cI
  split
  · rename_i a b er
    exact (rg_ok hf h er).2 tg
  · split
    · split
      · rename_i q
        obtain ⟨rfl, hb, ns, ht⟩ := q
        obtain ⟨hg, hm⟩ := h.blt hb
        cases tg <;> simp only [isTupE] at ht <;> first | (cases ht; done) | skip
        exact di_enum hg hm ns (hf _)
      · exact (hf _).i tg
    · split
      · rename_i q
        obtain ⟨rfl, hb, ns, ns2, ht⟩ := q
        obtain ⟨hg, hm⟩ := h.blt hb
        cases tg <;> simp only [isTupE] at ht <;> first | (cases ht; done) | skip
        exact di_zip hg hm ns ns2 (hf _) (hf _)
      · exact (hf _).i tg
    · exact (hf _).i tg
theorem cAnd_ok {p : Pos} : ∀ (a : Expr) (r : List Expr), PE X (.BoolOp .And (a :: r) p) (tD X W (den C (cAnd f (a :: r))).v) ∧ PW X (.BoolOp .And (a :: r) p) (tB X W (den C (cAnd f (a :: r))).t) ∧ (r ≠ [] → DE X W (.BoolOp .And (a :: r) p) (den C (cAnd f (a :: r))))
  | a, [] => ⟨(de_and1 (hf a)).1, (de_and1 (hf a)).2, fun h => absurd rfl h⟩
  | a, b :: r => by
    obtain ⟨q1, q2, _⟩ := cAnd_ok b r
    have q := de_and (hf a) q1 q2
    exact ⟨q.1.v, q.2, fun _ => q.1⟩
theorem cOr_ok {p : Pos} : ∀ (a : Expr) (r : List Expr), PE X (.BoolOp .Or (a :: r) p) (tD X W (den C (cOr f (a :: r))).v) ∧ PW X (.BoolOp .Or (a :: r) p) (tB X W (den C (cOr f (a :: r))).t) ∧ (r ≠ [] → DE X W (.BoolOp .Or (a :: r) p) (den C (cOr f (a :: r))))
  | a, [] => ⟨(de_or1 (hf a)).1, (de_or1 (hf a)).2, fun h => absurd rfl h⟩
  | a, b :: r => by
    obtain ⟨q1, q2, _⟩ := cOr_ok b r
    have q := de_or (hf a) q1 q2
    exact ⟨q.1.v, q.2, fun _ => q.1⟩
end
end
end LK
set_option Elab.async false
set_option linter.all false
set_option autoImplicit false
set_option maxRecDepth 100000
set_option maxHeartbeats 1000000
/-! LK15: expressions, all. -/
namespace LK
open PySem PySem.Spec PyProof.Rows L2
variable [Tt]
theorem lenE_cL (f : Expr → E) : ∀ {es : List Expr}, es.all noStar = true → lenE (cL f es) = some es.length
  | [], _ => rfl
  | e :: r, h => by
    simp only [List.all_cons, Bool.and_eq_true] at h
    have : cL f (e :: r) = .cons (f e) (cL f r) := by cases e <;> first | rfl | (simp [noStar] at h)
    rw [this]
    simp [lenE, lenE_cL f h.2]
theorem lenE_cK (f : Expr → E) : ∀ {kws : List Keyword}, lenE (cK f kws) = some kws.length
  | [] => rfl
  | k :: r => by simp [cK, lenE, lenE_cK f]
theorem kwNames_len : ∀ {kws : List Keyword}, kws.all (fun k => k.arg.isSome) = true → (kwNames kws).length = kws.length
  | [], _ => rfl
  | ⟨nm, e, p⟩ :: r, h => by
    simp only [List.all_cons, Bool.and_eq_true] at h
    cases nm with
    | none => simp at h
    | some x =>
      show (kwNames r).length + 1 = r.length + 1
      rw [kwNames_len h.2]
section
variable {X : Cx} {W : WX} {c : Ctx} {T : Nat → Option Fn} {k : Nat}
section
variable {f : Expr → E} (hf : ∀ e, DE X W e (den (callF T k) (f e)))
include hf
theorem cCall0_ok {f0 : Expr → E} (hf0 : ∀ e, DE X W e (den (callF T k) (f0 e))) (h : CtxOk X W c T k) (x : Str) (args : List Expr) (kws : List Keyword) (p pos : Pos) : DE X W (.Call (.Name x p) args kws pos) (den (callF T k) (cCall0 f f0 c x args kws)) := by
  unfold cCall0
  split
  · rename_i hb
    obtain ⟨hg, hm⟩ := h.blt hb
    split
    · rename_i a
      split
      · rename_i ns
        split
        · rename_i q1 q2 er
          have hp := (rg_ok hf h er).1
          split
          · rename_i e; subst e
            exact de_seqr (tp := true) h.calm hg hm ns hp
          · split
            · rename_i e; subst e
              exact de_seqr (tp := false) h.calm hg hm ns hp
            · exact de_bad
        · split
          · rename_i o ho
            exact un1_ok h ho hb ns (hf a)
          · exact de_bad
      · exact de_bad
    · split
      · rename_i q
        obtain ⟨rfl, ns, hb2⟩ := q
        obtain ⟨hg2, hm2⟩ := h.blt hb2
        split
        · rename_i t ht
          obtain ⟨b1, b2, b3⟩ := ty_ok ht
          exact de_isT1 hg hm hg2 hm2 b1 b2 b3 ns (hf _)
        · exact de_bad
      · exact de_bad
    · split
      · rename_i q
        obtain ⟨rfl, ns⟩ := q
        split
        · rename_i l hl
          split
          · rename_i hz
            exact de_isTs hg hm (tys_ok h hl) hz ns (hf _)
          · exact de_bad
        · exact de_bad
      · exact de_bad
    · split
      · rename_i q
        obtain ⟨na, nb⟩ := q
        split
        · rename_i e; subst e
          exact de_call2 (.inl rfl) (call_max2 h.calm) bs_max2 hg hm (by decide +kernel) (by decide) (by decide) na nb (hf _) (hf _)
        · split
          · rename_i e; subst e
            exact de_call2 (.inr rfl) (call_min2 h.calm) bs_min2 hg hm (by decide +kernel) (by decide) (by decide) na nb (hf _) (hf _)
          · exact de_bad
      · exact de_bad
    · exact de_bad
  · split
    · rename_i q
      obtain ⟨hg, hdb, hns, hks⟩ := q
      split
      · rename_i e he
        split
        · rename_i hp
          have hm := List.mem_of_find?_eq_some he
          have hn : e.name = x := by
            have := List.find?_some he
            simpa using this
          have cal := h.cal e hm _ hp
          rw [hn] at cal
          exact de_call h.room h.tk (h.gl hg) hdb cal hns hks (lenE_cL f0 hns) (by rw [lenE_cK, kwNames_len hks]) (fun e => by subst e; rfl) (cL_ok hf0 args) (cK_ok hf0 kws)
        · exact de_bad
      · exact de_bad
    · exact de_bad
end
theorem fnScopeB_ok {y : Str} {sc : Scope} (h : fnScopeB y sc = true) : FnScope [y] [y] sc := by
  unfold fnScopeB at h
  simp only [Bool.and_eq_true, Bool.or_eq_true, Bool.not_eq_true', decide_eq_true_eq, decide_eq_false_iff_not, List.all_eq_true] at h
  obtain ⟨⟨⟨⟨h1, h2⟩, h3⟩, h4⟩, h5⟩ := h
  exact ⟨h1, h2, h3, by simp, rfl, fun x hx => by rw [List.mem_singleton.mp hx]; exact h4, h5⟩
/-- where a lambda's body runs -/
structure CtxL (X : Cx) (c : Ctx) : Prop where
  N : X.N = c.N
  sc : X.env.scope = c.sc
  bl : ∀ x ∈ c.B, X.mg x = none
theorem cKey_ok {X : Cx} {W : WX} {C : Call} : ∀ (n : Nat) {c : Ctx}, CtxL X c → ∀ e, DE X W e (den C (cKey n c e))
  | 0, c, h, e => de_bad
  | n + 1, c, h, e => by
    have hf : ∀ e, DE X W e (den C (cKey n c e)) := cKey_ok n h
    unfold cKey
    split
    · split
      · rename_i i hi
        unfold slot at hi
        split at hi
        · rename_i q
          cases hi
          refine de_var (by rw [h.N]; exact q.1) ?_ q.2.2.1 q.2.2.2 _
          unfold Vis
          rw [h.sc]
          exact vis_ok q.2.1
        · cases hi
      · exact de_bad
    · exact const_ok
    · exact de_neg (hf _)
    · exact de_tup (cL_ok hf _)
    · split
      · rename_i hp
        exact de_ix (plainIx_ok hp) (hf _) (hf _)
      · exact de_bad
    · split
      · rename_i q
        obtain ⟨rfl, hb, ns⟩ := q
        unfold LK.blt LK.gl at hb
        simp only [Bool.and_eq_true] at hb
        refine de_callB call_len us_len ?_ (h.bl _ (by simpa using hb.2)) (by decide +kernel) (by decide) (by decide) ns (hf _)
        unfold Gl Env.kindOf
        rw [h.sc]
        exact of_decide_eq_true hb.1
      · exact de_bad
    · exact de_bad
section
variable {f : Expr → E} (hf : ∀ e, DE X W e (den (callF T k) (f e)))
include hf
theorem cCall_ok {f0 : Expr → E} (hf0 : ∀ e, DE X W e (den (callF T k) (f0 e))) (h : CtxOk X W c T k) (x : Str) (args : List Expr) (kws : List Keyword) (p pos : Pos) : DE X W (.Call (.Name x p) args kws pos) (den (callF T k) (cCall f f0 c x args kws)) := by
  unfold cCall
  split
  · rename_i b hb
    unfold isSset at hb
    split at hb
    · split at hb
      · rename_i q
        obtain ⟨rfl, rfl, q1, q2, q3⟩ := q
        cases hb
        obtain ⟨hg, hm⟩ := h.blt q1
        obtain ⟨hg2, hm2⟩ := h.blt q2
        exact de_sset h.calm h.un hg hm hg2 hm2 q3 (hf _)
      · cases hb
    · cases hb
  · split
    · rename_i a y scope body hb
      unfold isSortK at hb
      split at hb
      · split at hb
        · rename_i q
          obtain ⟨rfl, rfl, q1, q2, q3, q4, q5⟩ := q
          cases hb
          obtain ⟨hg, hm⟩ := h.blt q1
          refine de_sortK (h.lam q4) ⟨fnScopeB_ok q5, q3, h.room.hd, h.room.depth, ?_, fun f c' s H => (cKey_ok (X := lamX X X.A.in1.in1 y (X.env.qual ++ "<lambda>") scope f c' s H) (W := W0) 12 (c := keyCtx c y scope) ⟨rfl, rfl, h.bl⟩ body).v⟩ hg hm q2 (hf _)
          have := h.room.un
          rw [in1_units]
          omega
        · cases hb
      · cases hb
    · exact cCall0_ok hf hf0 h x args kws p pos
theorem cCompare_ok (h : CtxOk X W c T k) (a : Expr) (ops : List CmpOp) (es : List Expr) (pos : Pos) : DE X W (.Compare a ops es pos) (den (callF T k) (cCompare f a ops es)) := by
  unfold cCompare
  split
  · exact de_isN (hf a)
  · exact de_notN (hf a)
  · split
    · rename_i o ho
      obtain ⟨r, h1, h2, h3⟩ := cmpop_ok h ho
      split
      · rename_i hm
        exact de_cmp h1 h2 h3 hm (hf _) (hf _)
      · exact de_bad
    · exact de_bad
  · split
    · rename_i o p ho hp
      obtain ⟨r, h1, h2, h3⟩ := cmpop_ok h ho
      obtain ⟨r', h1', h2', h3'⟩ := cmpop_ok h hp
      split
      · rename_i hm
        exact de_chain h1 h1' h2 h2' h3 h3' hm (hf _) (hf _) (hf _)
      · exact de_bad
    · exact de_bad
  · exact de_bad
theorem cBin_ok (a : Expr) (op : Operator) (b : Expr) (pos : Pos) : DE X W (.BinOp a op b pos) (den (callF T k) (cBin f a op b)) := by
  unfold cBin
  split
  · exact de_rep (cL_ok hf _) (hf b)
  · split
    · rename_i o ho
      obtain ⟨r, h1, h2⟩ := binop_ok ho
      exact de_bin h1 h2 (hf a) (hf b)
    · exact de_bad
theorem cPart_ok (o : Option Expr) : PO X o (tPt X W (partF (cPart f o).1 (den (callF T k) (cPart f o).2).v)) := by
  cases o with
  | none => exact dpart_none
  | some e => exact dpart_some (hf e)
theorem cSub_ok (a s : Expr) (pos : Pos) : DE X W (.Subscript a s pos) (den (callF T k) (cSub f a s)) := by
  unfold cSub
  split
  · exact de_rev (hf a)
  · exact de_sl (hf a) (cPart_ok hf _) (cPart_ok hf _)
  · split
    · rename_i hp
      exact de_ix (plainIx_ok hp) (hf a) (hf s)
    · exact de_bad
end
theorem CtxOk.blk (h : CtxOk X W c T k) (scope : Scope) (s : Shared) (H : Hp) (C : Addr) (cl : List (Str × Addr)) (fp : List Addr) : CtxOk (X.blk s H scope (compEnvC scope cl C X.env) fp) W0 (inBlk c scope) T k where
  gc := h.gc
  N := h.N
  nd := h.nd
  sc := by
    show relS scope X.env.scope = relS scope c.sc
    rw [h.sc]
  fn := rfl
  calm := h.calm
  room := h.room
  tk := fun u s' ⟨a, B, sI, pins, σ, H, cls, d, e, I, nb, up, sky, na, os, ag, w⟩ => w.elim
  bl := h.bl
  cal := fun e he p hp => ⟨(h.cal e he p hp).ex⟩
  lam := fun e => by cases e
theorem notSet_ok {it : Expr} (h : notSet it = true) (env : PySem.Env) : ∀ x, foldedSetIterable it env x = pure x := by
  intro x
  cases it <;> first | rfl | (simp [notSet] at h)
/-- the parts of a comprehension -/
structure LcParts (X : Cx) (W : WX) (C : Call) (elt : Expr) (gs : List Comprehension) (scope : Scope) (own : List Nat) (tp : Bool) (is : List Nat) (src cnd x : E) : Prop where
  ex : ∃ tg it ifs ow, gs = [⟨tg, it, ifs, 0⟩] ∧ own = List.map (·.2) ow ∧ BlkOk X.N X.env.scope scope ow ∧ PI X tg it (tI X W (den C src).i) ∧ (∀ i ∈ is, i ∈ own) ∧ (∀ y, foldedSetIterable it X.env y = pure y) ∧
    (∀ (s : Shared) (H : Hp) (a : Addr) (cl : List (Str × Addr)) (fp : List Addr), PG (X.blk s H scope (compEnvC scope cl a X.env) fp) tg (gT X.K tp is)) ∧
    (∀ (s : Shared) (H : Hp) (a : Addr) (cl : List (Str × Addr)) (fp : List Addr), PTs (X.blk s H scope (compEnvC scope cl a X.env) fp) ifs (tB X W0 (den C cnd).t)) ∧
    (∀ (s : Shared) (H : Hp) (a : Addr) (cl : List (Str × Addr)) (fp : List Addr), PE (X.blk s H scope (compEnvC scope cl a X.env) fp) elt (tD X W0 (den C x).v))
theorem pts_weak {ifs : List Expr} {t t' : TT} (h : PTs X ifs t) (q : ∀ σ H Q, t' σ H Q → t σ H Q) : PTs X ifs t' := ⟨fun pins s σ H Q I hw => h.run pins s σ H Q I (q _ _ _ hw)⟩
theorem cLC_parts (h : CtxOk X W c T k) {f g : Expr → E} {scope : Scope} (hf : ∀ e, DE X W e (den (callF T k) (f e))) (hg : ∀ (X' : Cx), CtxOk X' W0 (inBlk c scope) T k → ∀ e, DE X' W0 e (den (callF T k) (g e))) (elt : Expr) (gs : List Comprehension) :
    cLC f g c elt gs scope = .nil ∨ ∃ own tp is src cnd x, cLC f g c elt gs scope = .lc own tp is src cnd x ∧ LcParts X W (callF T k) elt gs scope own tp is src cnd x := by
  unfold cLC
  split
  · rename_i tg it ifs
    split
    · rename_i tp is ht
      split
      · rename_i q
        obtain ⟨hb, hin, hs⟩ := q
        have bo : BlkOk X.N X.env.scope scope (ownOf c.N scope) := by
          rw [h.N, h.sc]
          exact blkOk_by hb
        have hin' : ∀ i ∈ is, i ∈ List.map (·.2) (ownOf c.N scope) := fun i hi => by
          rw [List.all_eq_true] at hin
          exact of_decide_eq_true (hin i hi)
        have kb := fun s H a cl fp => CtxOk.blk h scope s H a cl fp
        split
        · refine .inr ⟨_, _, _, _, _, _, rfl, ⟨tg, it, [], _, rfl, rfl, bo, cI_ok hf h tg it, hin', notSet_ok hs _, fun s H a cl fp => target_ok (kb s H a cl fp) ht, fun s H a cl fp => ?_, fun s H a cl fp => (hg _ (kb s H a cl fp) elt).v⟩⟩
          exact pts_weak pts_nil fun σ H Q ⟨env, S, ρ, ok, q⟩ => rpb_of (b := true) ok q
        · rename_i d
          exact .inr ⟨_, _, _, _, _, _, rfl, ⟨tg, it, [d], _, rfl, rfl, bo, cI_ok hf h tg it, hin', notSet_ok hs _, fun s H a cl fp => target_ok (kb s H a cl fp) ht, fun s H a cl fp => pts_one (hg _ (kb s H a cl fp) d).t, fun s H a cl fp => (hg _ (kb s H a cl fp) elt).v⟩⟩
        · exact .inl rfl
      · exact .inl rfl
    · exact .inl rfl
  · exact .inl rfl
theorem lc_pe (h : CtxOk X W c T k) {elt : Expr} {gs : List Comprehension} {scope : Scope} {own : List Nat} {tp : Bool} {is : List Nat} {src cnd x : E} {pos : Pos} (p : LcParts X W (callF T k) elt gs scope own tp is src cnd x) :
    PE X (.ListComp elt gs scope pos) (tLc (tI X W (den (callF T k) src).i) (gT X.K tp is) (tB X W0 (den (callF T k) cnd).t) (tD X W0 (den (callF T k) x).v) own) := by
  obtain ⟨tg, it, ifs, ow, rfl, rfl, p1, p2, p3, p4, p5, p6, p7⟩ := p.ex
  exact pe_lc h.calm h.nd p2 p1 p5 p6 p7 p4
theorem cLC_ok (h : CtxOk X W c T k) {f g : Expr → E} {scope : Scope} (hf : ∀ e, DE X W e (den (callF T k) (f e))) (hg : ∀ (X' : Cx), CtxOk X' W0 (inBlk c scope) T k → ∀ e, DE X' W0 e (den (callF T k) (g e))) (elt : Expr) (gs : List Comprehension) (pos : Pos) :
    DE X W (.ListComp elt gs scope pos) (den (callF T k) (cLC f g c elt gs scope)) := by
  rcases cLC_parts h hf hg elt gs with e | ⟨own, tp, is, src, cnd, x, e, p⟩
  · rw [e]; exact de_bad
  · rw [e]
    have hin : ∀ i ∈ is, i ∈ own := by
      obtain ⟨tg, it, ifs, ow, rfl, rfl, p1, p2, p3, p4, p5, p6, p7⟩ := p.ex
      exact p3
    exact de_val ((lc_pe h p).weak fun σ H Q q => lc_read hin q) fun _ => rfl
theorem cTests_ok {X : Cx} {g : Expr → E} (hg : ∀ e, DE X W0 e (den (callF T k) (g e))) : ∀ {ifs : List Expr} {d : E}, cTests g ifs = some d → PTs X ifs (tB X W0 (den (callF T k) d).t)
  | [], d, h => by
    simp only [cTests, Option.some.injEq] at h
    subst h
    exact pts_weak pts_nil fun σ H Q ⟨env, S, ρ, ok, q⟩ => rpb_of (b := true) ok q
  | [e], d, h => by
    simp only [cTests, Option.some.injEq] at h
    subst h
    exact pts_one (hg e).t
  | _ :: _ :: _, d, h => by simp [cTests] at h
/-- the parts of a comprehension with two fors -/
structure Lc2Parts (X : Cx) (W : WX) (C : Call) (elt : Expr) (gs : List Comprehension) (scope : Scope) (own : List Nat) (tp : Bool) (is : List Nat) (src cnd : E) (tp1 : Bool) (is1 : List Nat) (src1 cnd1 x : E) : Prop where
  ex : ∃ tg it ifs tg1 it1 ifs1 ow, gs = [⟨tg, it, ifs, 0⟩, ⟨tg1, it1, ifs1, 0⟩] ∧ own = List.map (·.2) ow ∧ BlkOk X.N X.env.scope scope ow ∧ PI X tg it (tI X W (den C src).i) ∧ (∀ i ∈ is, i ∈ own) ∧ (∀ i ∈ is1, i ∈ own) ∧ (∀ y, foldedSetIterable it X.env y = pure y) ∧ (∀ env y, foldedSetIterable it1 env y = pure y) ∧
    (∀ (s : Shared) (H : Hp) (a : Addr) (cl : List (Str × Addr)) (fp : List Addr), PG (X.blk s H scope (compEnvC scope cl a X.env) fp) tg (gT X.K tp is)) ∧
    (∀ (s : Shared) (H : Hp) (a : Addr) (cl : List (Str × Addr)) (fp : List Addr), PTs (X.blk s H scope (compEnvC scope cl a X.env) fp) ifs (tB X W0 (den C cnd).t)) ∧
    (∀ (s : Shared) (H : Hp) (a : Addr) (cl : List (Str × Addr)) (fp : List Addr), PI (X.blk s H scope (compEnvC scope cl a X.env) fp) tg1 it1 (tI X W0 (den C src1).i)) ∧
    (∀ (s : Shared) (H : Hp) (a : Addr) (cl : List (Str × Addr)) (fp : List Addr), PG (X.blk s H scope (compEnvC scope cl a X.env) fp) tg1 (gT X.K tp1 is1)) ∧
    (∀ (s : Shared) (H : Hp) (a : Addr) (cl : List (Str × Addr)) (fp : List Addr), PTs (X.blk s H scope (compEnvC scope cl a X.env) fp) ifs1 (tB X W0 (den C cnd1).t)) ∧
    (∀ (s : Shared) (H : Hp) (a : Addr) (cl : List (Str × Addr)) (fp : List Addr), PE (X.blk s H scope (compEnvC scope cl a X.env) fp) elt (tD X W0 (den C x).v))
theorem cLC2_parts (h : CtxOk X W c T k) {f g : Expr → E} {scope : Scope} (hf : ∀ e, DE X W e (den (callF T k) (f e))) (hg : ∀ (X' : Cx), CtxOk X' W0 (inBlk c scope) T k → ∀ e, DE X' W0 e (den (callF T k) (g e))) (elt : Expr) (gs : List Comprehension) :
    cLC2 f g c elt gs scope = .nil ∨ ∃ own tp is src cnd tp1 is1 src1 cnd1 x, cLC2 f g c elt gs scope = .lc2 own tp is src cnd tp1 is1 src1 cnd1 x ∧ Lc2Parts X W (callF T k) elt gs scope own tp is src cnd tp1 is1 src1 cnd1 x := by
  unfold cLC2
  split
  · rename_i tg it ifs tg1 it1 ifs1
    split
    · rename_i tp is tp1 is1 d d1 ht ht1 hd hd1
      split
      · rename_i q
        obtain ⟨hb, hin, hin1, hs, hs1⟩ := q
        have bo : BlkOk X.N X.env.scope scope (ownOf c.N scope) := by
          rw [h.N, h.sc]
          exact blkOk_by hb
        have hin' : ∀ i ∈ is, i ∈ List.map (·.2) (ownOf c.N scope) := fun i hi => by
          rw [List.all_eq_true] at hin
          exact of_decide_eq_true (hin i hi)
        have hin1' : ∀ i ∈ is1, i ∈ List.map (·.2) (ownOf c.N scope) := fun i hi => by
          rw [List.all_eq_true] at hin1
          exact of_decide_eq_true (hin1 i hi)
        have kb := fun s H a cl fp => CtxOk.blk h scope s H a cl fp
        exact .inr ⟨_, _, _, _, _, _, _, _, _, _, rfl, ⟨tg, it, ifs, tg1, it1, ifs1, _, rfl, rfl, bo, cI_ok hf h tg it, hin', hin1', notSet_ok hs _, notSet_ok hs1, fun s H a cl fp => target_ok (kb s H a cl fp) ht, fun s H a cl fp => cTests_ok (hg _ (kb s H a cl fp)) hd,
          fun s H a cl fp => cI_ok (hg _ (kb s H a cl fp)) (kb s H a cl fp) tg1 it1, fun s H a cl fp => target_ok (kb s H a cl fp) ht1, fun s H a cl fp => cTests_ok (hg _ (kb s H a cl fp)) hd1, fun s H a cl fp => (hg _ (kb s H a cl fp) elt).v⟩⟩
      · exact .inl rfl
    · exact .inl rfl
  · exact .inl rfl
theorem lc2_pe (h : CtxOk X W c T k) {elt : Expr} {gs : List Comprehension} {scope : Scope} {own : List Nat} {tp tp1 : Bool} {is is1 : List Nat} {src cnd src1 cnd1 x : E} {pos : Pos} (p : Lc2Parts X W (callF T k) elt gs scope own tp is src cnd tp1 is1 src1 cnd1 x) :
    PE X (.ListComp elt gs scope pos) (tLc2 (tI X W (den (callF T k) src).i) (gT X.K tp is) (tB X W0 (den (callF T k) cnd).t) (tI X W0 (den (callF T k) src1).i) (gT X.K tp1 is1) (tB X W0 (den (callF T k) cnd1).t) (tD X W0 (den (callF T k) x).v) own is1) := by
  obtain ⟨tg, it, ifs, tg1, it1, ifs1, ow, rfl, rfl, p1, p2, p3, p3b, p4, p4b, p5, p6, q1, q2, q3, p7⟩ := p.ex
  exact pe_lc2 h.calm h.nd p2 p1 p3b p5 p6 q1 q2 q3 p7 p4 p4b
theorem cLC2_ok (h : CtxOk X W c T k) {f g : Expr → E} {scope : Scope} (hf : ∀ e, DE X W e (den (callF T k) (f e))) (hg : ∀ (X' : Cx), CtxOk X' W0 (inBlk c scope) T k → ∀ e, DE X' W0 e (den (callF T k) (g e))) (elt : Expr) (gs : List Comprehension) (pos : Pos) :
    DE X W (.ListComp elt gs scope pos) (den (callF T k) (cLC2 f g c elt gs scope)) := by
  rcases cLC2_parts h hf hg elt gs with e | ⟨own, tp, is, src, cnd, tp1, is1, src1, cnd1, x, e, p⟩
  · rw [e]; exact de_bad
  · rw [e]
    have hin : ∀ i ∈ is, i ∈ own := by
      obtain ⟨tg, it, ifs, tg1, it1, ifs1, ow, rfl, rfl, p1, p2, p3, _⟩ := p.ex
      exact p3
    exact de_val ((lc2_pe h p).weak fun σ H Q q => lc2_read hin q) fun _ => rfl
theorem cGlob_ok (h : CtxOk X W c T k) {x : Str} {p : Pos} : DE X W (.Name x p) (den (callF T k) (cGlob c x)) := by
  unfold cGlob
  split
  · rename_i q
    split
    · rename_i d hd
      obtain ⟨v, u, hm, r, f⟩ := h.gc x d hd
      exact de_lit (pe_glob (h.gl q.1) hm r q.2) f (fun _ => rfl) _
    · exact de_bad
  · exact de_bad
theorem cZ_ok {X : Cx} {W : WX} {c : Ctx} {f : Expr → E} (hf : ∀ e, DE X W e (den (callF T k) (f e))) (e : Expr) : DE X W e (den (callF T k) (cZ f c e)) := by
  unfold cZ
  split
  · rename_i q
    unfold isRetCall at q
    split at q
    · exact de_fz (hf _) fun _ => rfl
    · cases q
  · exact hf e
theorem cE_ok : ∀ (n : Nat) {X : Cx} {W : WX} {c : Ctx}, CtxOk X W c T k → ∀ e, DE X W e (den (callF T k) (cE n c e))
  | 0, X, W, c, h, e => de_bad
  | n + 1, X, W, c, h, e => by
    have hf0 : ∀ e, DE X W e (den (callF T k) (cE n c e)) := cE_ok n h
    have hf : ∀ e, DE X W e (den (callF T k) (cZ (cE n c) c e)) := cZ_ok hf0
    unfold cE
    split
    · split
      · rename_i i hi
        obtain ⟨a, b, d1, d2⟩ := slot_ok h hi
        exact de_var a b d1 d2 _
      · exact cGlob_ok h
    · exact const_ok
    · exact cBin_ok hf _ _ _ _
    · exact de_not (hf _)
    · exact de_neg (hf _)
    · exact (cAnd_ok hf _ _).2.2 (by simp)
    · exact (cOr_ok hf _ _).2.2 (by simp)
    · exact de_ite (hf _) (hf _) (hf _)
    · exact cCompare_ok hf h _ _ _ _
    · exact de_tup (cL_ok hf _)
    · exact de_lst (cL_ok hf _)
    · exact cSub_ok hf _ _ _
    · exact cCall_ok hf hf0 h _ _ _ _ _
    · split
      · exact cLC2_ok h hf (fun X' h' => cZ_ok (cE_ok n h')) _ _ _
      · exact cLC_ok h hf (fun X' h' => cZ_ok (cE_ok n h')) _ _ _
    · exact de_bad
end
end LK
set_option Elab.async false
set_option linter.all false
set_option autoImplicit false
set_option maxRecDepth 100000
set_option maxHeartbeats 2000000
/-! LX1: an own exception over a built-in one, whose __init__ says super().__init__(x) and keeps x in one field: it is made. -/
namespace LX
open PySem PySem.W PySem.Calls PyProof.Rows PySem.HandSPX
open Builtin Builtin.ObjectAttr
/-- what stands in the text of such an __init__: self, x; super().__init__(x); self.f = x -/
structure InitTxt (st : Stmt) (x f : Str) : Prop where
  kd : (L2.defScope st).kind = .function
  gn : (L2.defScope st).isGenerator = false
  co : (L2.defScope st).isCoroutine = false
  kS : (L2.defScope st).names.lookup ("super" : Str) = some .globalImplicit
  kC : (L2.defScope st).names.lookup ("__class__" : Str) = some .free
  k0 : (L2.defScope st).names.lookup ("self" : Str) = some .local
  k1 : (L2.defScope st).names.lookup x = some .local
  nc : ∀ y ∈ (L2.defScope st).names, y.2 ≠ .cell
  ar : ∃ p0 p1, L2.defArgs st = { posonlyargs := [], args := [⟨"self", none, p0⟩, ⟨x, none, p1⟩], vararg := none, kwonlyargs := [], kw_defaults := [], kwarg := none, defaults := [] }
  ne : x ≠ "self"
  dx : (x == ("__debug__" : Str)) = false
  bd : ∃ (p1 p2 p3 p4 p5 p6 p7 p8 p9 p10 : Pos), (p3.endLine == p5.line) = true ∧ L2.defBody st = [.Expr (.Call (.Attribute (.Call (.Name "super" p1) [] [] p2) "__init__" p3) [.Name x p4] [] p5) p6, .Assign [.Attribute (.Name "self" p7) f p8] (.Name x p9) p10]
/-- what the written part says of the class at C and its __init__ at fI, B its built-in base -/
structure OwnX (prog : Program) (K : Frag) (C fI : Addr) (B newId initId : String) (bmB : List Value) (x f : Str) : Prop where
  FB : ExcBaseFacts B newId initId bmB
  SF : StoreFacts B bmB "object.__setattr__" "object"
  KF : KxsFacts B initId
  cls : excInitIn K C bmB newId = true
  over : excOver K C bmB = true
  hd : hasDictIn K C = true
  sa : findIn K (.ref C) "__setattr__" = some (some (.builtin "object.__setattr__"))
  tk : takerIn K C f = some none
  iC : findIn K (.ref C) "__init__" = some (some (.ref fI))
  fn : isFn K (.ref fI) = true
  sup : ks_superIn K C C "__init__" = some (some (.builtin initId))
  subB : subIn K (.ref C) (.type B) = some true
  opq : nsIn K cStatics "thirdparty.any" = some none
  mro : mroIn K C (.ref C) = some true
  txt : ∃ st qual, InitTxt st x f ∧ ∃ (kV doc pm ct oc ccl cl : Value) (an od cdd cld : Option Addr) (cda cc : Addr) (osl ccs csl : Array (Option Value)) (vs : Array Value) (file : Str) (tf : Tok),
    K.lookup fI = some ⟨oc, od, .func (ksFn "__init__" qual (L2.defArgs st) (L2.defBody st) (L2.defScope st) .none kV doc pm an (.ref cda) ct cc), osl⟩ ∧ codeIn K (.ref cda) qual = true ∧
    K.lookup cda = some ⟨ccl, cdd, .fields vs, ccs⟩ ∧ vs[2]? = some (.str file tf) ∧ ((prog.main.file : Str) == file) = true ∧ K.lookup cc = some ⟨cl, cld, .cell (some (.ref C)), csl⟩ ∧
    ∀ (s : Shared) (a b : Value), BindsTo s (ksFn "__init__" qual (L2.defArgs st) (L2.defBody st) (L2.defScope st) .none kV doc pm an (.ref cda) ct cc) ⟨[a, b], []⟩ [("self", a), (x, b)]
  top : (prog.main.scope.names.lookup ("super" : Str)).isSome = false
/-- what __init__ leaves of the exception at e -/
structure InitEnd (h h' : Heap) (e C dx t1 : Addr) (f : Str) (v : Value) : Prop where
  keep : ∀ b o, b ≠ e → h.get? b = some o → h'.get? b = some o
  obj : h'.get? e = some { cls := .ref C, dict := some dx, data := .fields #[.ref t1, .none, .none, .none, .bool false, .none] }
  big : h.objs.size ≤ dx
  ne : dx ≠ e
  ns : h'.Ns1 dx (fun y => if y = f then some v else none)
section
variable {prog : Program} {w : World} {A : Around} {E : Value → Shared → Prop} {R : Result → Shared → Prop} {K : Frag} {C fI : Addr} {B newId initId : String} {bmB : List Value} {x f : Str} {mg : Str → Option Value}
/-- self.f = v, the first field -/
theorem own_set {hp : Heap} {g : Array GenState} {d : Drawn} {t : Nat} {os : OsState} {e : Addr} {fv : Array Value} {v : Value} {Q : Unit → Shared → Prop} (T : OwnX prog K C fI B newId initId bmB x f) (X : K.In hp) (he : hp.get? e = some { cls := .ref C, data := .fields fv })
    (hq : ∀ h' tk' dx, (∀ b o, b ≠ e → hp.get? b = some o → h'.get? b = some o) → hp.objs.size ≤ dx → dx ≠ e → h'.get? e = some { cls := .ref C, dict := some dx, data := .fields fv } →
      h'.Ns1 dx (fun y => if y = f then some v else none) → Q () ⟨h', g, d, tk', os⟩) : wpAny (model prog w) A (setAttr (.ref e) f v) Q E ⟨hp, g, d, t, os⟩ := by
  have I : InstAt hp e { cls := .ref C, data := .fields fv } C none := ⟨he, rfl, rfl, trivial⟩
  refine set_plain X I T.sa (osa_openX T.SF X I T.over T.tk fun b => ?_)
  obtain ⟨cd, hc, hh⟩ := any_some T.hd
  have hcls : Looks (model prog w) hp (classData C) cd := looks_clsIn X hc
  have hes : e ≠ hp.objs.size := Nat.ne_of_lt (Heap.lt_size he)
  obtain ⟨nm, bs, mro, ns, qn, hd, sn, sb, ab, col, del⟩ := cd
  dsimp only at hh
  subst hh
  show wpAny _ _ (storeInOwnDict _ _ _ _ _ _) _ _ _
  unfold storeInOwnDict ownDictForStores
  repeat (first | with_reducible refine store_in_new ?_ ?_ | with_reducible refine wpAny_loadPart_at he ?_ | with_reducible refine hcls.at ?_ | wp_step)
  · exact ⟨_, #[], _, (Heap.get?_update_ne _ _ _ _ hes.symm).trans (Heap.get?_push_at rfl rfl), rfl, fun z hz => absurd hz (by simp), fun _ => rfl⟩
  · intro h' tk' hn' hs
    have he1 : (hp.push { cls := .type "dict", data := .dict #[] }).get? e = some { cls := .ref C, data := .fields fv } := Heap.get?_push_of_some _ he
    refine hq h' tk' hp.objs.size (fun b o hb ho => ?_) (Nat.le_refl _) hes.symm ?_ hn'
    · exact (hs.2 b (Nat.ne_of_lt (Heap.lt_size ho))).trans ((Heap.get?_update_ne _ _ _ _ hb).trans (Heap.get?_push_of_some _ ho))
    · exact (hs.2 e hes).trans (Heap.get?_update_self _ he1 rfl)
/-- the bound __init__ of the base is called: the args are laid anew -/
theorem mw_call {h : Heap} {g : Array GenState} {d : Drawn} {t : Nat} {os : OsState} {nm q : Str} {N : Addr} {bs bm : List Value} {hdct : Bool} {sn : List Str} {sub : List Value} {ab : Bool} {col : Option Bool} {dd : Option Addr} {k0 k1 k2 k3 k5 : Option Value}
    {u e t0 : Addr} {rest : List Value} {Q : Value → Shared → Prop} (FB : ExcBaseFacts B newId initId bmB) (hC : h.get? C = some (excClassObj nm q C N bs bm hdct sn sub ab col dd k0 k1 k2 k3 k5 newId))
    (he : h.get? e = some (excO C t0)) (hu : h.get? u = some (kxs_mw initId e)) (hz : rest.length ≤ sizeLine)
    (hq : ∀ h', (∀ b o, b ≠ e → h.get? b = some o → h'.get? b = some o) → h'.get? e = some (excO C h.objs.size) → Q .none ⟨h', g, d, t, os⟩) :
    wpAny (model prog w) A (call (.ref u) rest) Q E ⟨h, g, d, t, os⟩ := by
  refine wpAny_call (codeAny_of_tree ?_)
  show wpAny (model prog w) A.in1 (callAny (Value.ref u) ⟨rest, []⟩) _ _ _
  simp only [callAny]
  refine wpAny_bind (wpAny_load hu ?_)
  show wpAny _ _ (do checkBoundCall initId { pos := .ref e :: rest }; again (Code.builtin initId { pos := .ref e :: rest })) _ _ _
  refine wpAny_bind (check_bound_init FB.toExcCallFacts hC he rfl (wpAny_pure ⟨plainId_quiet FB.init.plain _, codeAny_builtin FB.initEntry ?_⟩))
  exact exc_init_tree (cls := .ref C) (t0 := t0) (dv := none) (c2 := .none) (c3 := .none) (b4 := .bool false) he hz fun h' k' e' _ => hq h' k' e'
/-- the call of __init__ -/
theorem own_init {s : Shared} {e t0 : Addr} {v : Value} (T : OwnX prog K C fI B newId initId bmB x f) (X : K.In s.heap) (hg : s.heap.Ns mainGlobals mg) (hns : mg "super" = none) (hb : ∃ mb, s.heap.Ns builtinsNs mb ∧ ∀ x : Str, x ≠ "__name__" → mb x = bootBuiltins x) (hlim : s.heap.NoLimit)
    (he : s.heap.get? e = some (excO C t0)) (hnx : K.lookup e = none) (hroom : A.depth < recursionLimit)
    (hq : ∀ h' tk dx t1, InitEnd s.heap h' e C dx t1 f v → R (.ok (.ret .none)) { s with heap := h', toks := tk }) :
    codeAny (model prog w) A (.call (.ref fI) ⟨[.ref e, v], []⟩) R s := by
  obtain ⟨st, qual, TX, kV, doc, pm, ct, oc, ccl, cl, an, od, cdd, cld, cda, cc, osl, ccs, csl, vs, file, tf, hfI, hcd, hcda, hvs, hfile, hcc, hbt⟩ := T.txt
  obtain ⟨p0, p1, har⟩ := TX.ar
  obtain ⟨q1, q2, q3, q4, q5, q6, q7, q8, q9, q10, hln, hbd⟩ := TX.bd
  refine ks_codeAny_call_defAt (fd := ksFn "__init__" qual (L2.defArgs st) (L2.defBody st) (L2.defScope st) .none kV doc pm an (.ref cda) ct cc) (body := L2.defBody st) (binds := [("self", .ref e), (x, v)]) hroom (X _ _ hfI) rfl hlim (codeRec_of X hcd) rfl (hbt _ _ _) TX.nc ?_ (fun h0 hn0 k0 => ?_) TX.co TX.gn TX.kd
  · intro y hy
    simp only [List.mem_cons, List.not_mem_nil, or_false] at hy
    rcases hy with rfl | rfl
    · exact TX.k0
    · exact TX.k1
  have X0 : K.In h0 := X.keeps k0
  have he0 := k0 _ _ he
  have hs0 : s.heap.objs.size ≠ e := Nat.ne_of_gt (Heap.lt_size he)
  obtain ⟨cd, hc, hdd⟩ := any_some T.hd
  obtain ⟨nm, N', qn, bs, bm, hdct, sn, sub, ab, col, dd, z0, z1, z2, z3, z5, hC, hT⟩ := excInit_of X T.cls
  have hC0 := k0 _ _ hC
  have vSelf : ([("self", Value.ref e), (x, v)] : List (Str × Value)).reverse.lookup ("self" : Str) = some (Value.ref e) := by
    show ([(x, v), ("self", Value.ref e)] : List (Str × Value)).lookup ("self" : Str) = _
    have : ((("self" : Str)) == x) = false := by simpa using fun h => TX.ne h.symm
    rw [List.lookup_cons, this]
    rfl
  have vX : ([("self", Value.ref e), (x, v)] : List (Str × Value)).reverse.lookup x = some v := by
    show ([(x, v), ("self", Value.ref e)] : List (Str × Value)).lookup x = _
    rw [List.lookup_cons]
    simp
  generalize hen : callEnv (ksFn "__init__" qual (L2.defArgs st) (L2.defBody st) (L2.defScope st) .none kV doc pm an (.ref cda) ct cc) s.heap.objs.size fI = env
  have e1 : env.scope = L2.defScope st := by rw [← hen]; rfl
  have e2 : env.locals = s.heap.objs.size := by rw [← hen]; rfl
  have e3 : env.func = some fI := by rw [← hen]; rfl
  have e4 : env.code = .ref cda := by rw [← hen]; rfl
  have e5 : env.globals = mainGlobals := by rw [← hen]; rfl
  have e6 : env.builtins = builtinsNs := by rw [← hen]; rfl
  have e7 : env.cells.lookup ("__class__" : Str) = some cc := by rw [← hen]; rfl
  have kk : env.scope.kind = .function := by rw [e1]; exact TX.kd
  have ks : env.kindOf "super" = some .globalImplicit := by unfold Env.kindOf; rw [e1]; exact TX.kS
  have kc : env.kindOf "__class__" = some .free := by unfold Env.kindOf; rw [e1]; exact TX.kC
  have kf : env.kindOf "self" = some .local := by unfold Env.kindOf; rw [e1]; exact TX.k0
  have kx : env.kindOf x = some .local := by unfold Env.kindOf; rw [e1]; exact TX.k1
  rw [hbd]
  refine ks_wpAt_execs_cons (ks_wpAt_Expr_any (ks_wpAt_MethodCall (pl := do return (← importBound (.Call (.Name "super" q1) [] [] q2) env).getD true) ?_ ?he) ?hi)
  case he =>
    have hm : ∀ ov : Value, methodCall (.Call (.Name "super" q1) [] [] q2) "__init__" q3 q5 env ov 1 (backTo q5 (starEach [.Name x q4] env)) [] = (do
        let (f, first) ← holding [ov] (getMethod ov "__init__" (do return (← importBound (.Call (.Name "super" q1) [] [] q2) env).getD true))
        callWith q5 f first (backTo q5 (starEach [.Name x q4] env)) []) := by
      intro ov
      unfold methodCall methodCallPos
      rw [show methodCallForm 1 (backTo q5 (starEach [.Name x q4] env)) [] = true from rfl, hln]
      rfl
    show (do let ov ← attributeBase (.Call (.Name "super" q1) [] [] q2) "__init__" env (eval (.Call (.Name "super" q1) [] [] q2) env); standAt q3.atName; methodCall (.Call (.Name "super" q1) [] [] q2) "__init__" q3 q5 env ov 1 (backTo q5 (starEach [.Name x q4] env)) []) = _
    simp only [hm]
  case hi =>
    unfold interactive
    rw [kk]
    rfl
  refine ks_wpAt_super_base ks kc rfl e3 (X0 _ _ hfI) rfl (by rw [har]; rfl) e4 (X0 _ _ hcda) rfl hvs hfile T.top ?_
  obtain ⟨mb, hmb, hbb⟩ := hb
  refine ks_loadName_global kk ks (loadGlobal_builtin (by rw [e5]; exact hg.keeps k0) hns (by rw [e6]; exact hmb.keeps k0) ((hbb _ (by decide +kernel)).trans (by first | rfl | kernel_rfl)) ⟨rfl, ?_⟩)
  refine wpAny_loadName_free kk kc e7 ⟨_, X0 _ _ hcc, rfl⟩ ?_
  refine wpAny_loadName_local kk kf (by rw [e2]; exact hn0) vSelf ?_
  refine ks_wpAny_isType_cls hC0 rfl ⟨rfl, ?_⟩
  refine ks_wpAny_call_super hC0 rfl he0 rfl (fun c z => by cases z) (looks_mroIn X0 T.mro) (fun h1 hso k1 => ?_)
  have X1 : K.In h1 := X0.keeps k1
  have he1 := k1 _ _ he0
  have hsup := T.sup
  unfold ks_superIn at hsup
  rw [hc] at hsup
  have I1 : InstAt h1 e (excO C t0) C none := ⟨he1, rfl, rfl, trivial⟩
  refine kxs_getMethod T.KF hso (looks_opaque X1 T.opq) (l₀ := cd.mro) (fun A Q E s k q => wpAny_bind ((looks_clsIn X1 hc) A _ E s k (wpAny_pure q))) rfl X1 hsup (I1.type.andThen (looks_subIn X1 T.subB)) (ks_ne X1 I1 hc) (by decide) ?_
  have k2 : ∀ b o, h1.get? b = some o → (h1.push (kxs_mw initId e)).get? b = some o := fun b o z => Heap.get?_push_of_some _ z
  have he2 := k2 _ _ he1
  have hu : (h1.push (kxs_mw initId e)).get? h1.objs.size = some (kxs_mw initId e) := Heap.get?_push_at rfl rfl
  have hn2 : (h1.push (kxs_mw initId e)).Ns env.locals (fun y => ([("self", Value.ref e), (x, v)] : List (Str × Value)).reverse.lookup y) := by
    rw [e2]
    exact (hn0.keeps k1).keeps k2
  have hC2 := k2 _ _ (k1 _ _ hC0)
  refine kxs_callWith (i := initId) (x := e) rfl ?_
  have hst : starEach [.Name x q4] env = [(false, eval (.Name x q4) env)] := rfl
  rw [hst]
  refine evalArgs_plain (spliced_cons (wpAny_Name (wpAny_loadName_local kk kx hn2 vX (spliced_nil ⟨hu, ?_⟩)) TX.dx))
  have X2 := X1.keeps k2
  have k02 : ∀ b o, s.heap.get? b = some o → (h1.push (kxs_mw initId e)).get? b = some o := fun b o z => k2 b o (k1 b o (k0 b o z))
  refine mw_call T.FB hC2 he2 hu (by rw [sizeLine_eq]; exact (by decide : 1 ≤ 16777216)) fun h3 k3 he3 => ?_
  have hnl : s.heap.objs.size ≠ e := hs0
  have hn3 : h3.Ns env.locals (fun y => ([("self", Value.ref e), (x, v)] : List (Str × Value)).reverse.lookup y) := by
    obtain ⟨o, es, ep, a, b⟩ := hn2
    exact ⟨o, es, ep, k3 _ _ (by rw [e2]; exact hnl) a, b⟩
  have X3 : K.In h3 := fun b o z => k3 b o (fun q => by rw [q, hnx] at z; cases z) (X2 b o z)
  refine wpAt_of_wpAny (wpAny_execs_cons (plainObj_wpAny_Assign_Attribute (wpAny_Name (wpAny_loadName_local kk kx hn3 vX (wpAny_Name (wpAny_loadName_local kk kf hn3 vSelf ?_))) TX.dx) rfl))
  refine own_set T X3 he3 fun h4 tk4 dx k4 dn dne he4 hn4 => ?_
  refine wpAny_execs_nil (hq h4 tk4 dx _ ⟨fun b o hb z => k4 b o hb (k3 b o hb (k02 b o z)), he4, ?_, dne, hn4⟩)
  have a1 : s.heap.objs.size < h3.objs.size := by
    have := hn3.lt
    rw [e2] at this
    exact this
  omega
/-- a made exception -/
structure Made (h h' : Heap) (e C d : Addr) (f : Str) (v : Value) : Prop where
  keep : ∀ b o, h.get? b = some o → h'.get? b = some o
  new : h.objs.size ≤ e
  obj : ∃ oe vs, h'.get? e = some oe ∧ oe.cls = .ref C ∧ oe.dict = some d ∧ oe.data = .fields vs ∧ vs[1]? = some .none
  big : h.objs.size ≤ d
  ne : d ≠ e
  ns : h'.Ns1 d (fun y => if y = f then some v else none)
theorem own_made {s : Shared} {v : Value} (T : OwnX prog K C fI B newId initId bmB x f) (X : K.In s.heap) (hg : s.heap.Ns mainGlobals mg) (hns : mg "super" = none) (hb : ∃ mb, s.heap.Ns builtinsNs mb ∧ ∀ x : Str, x ≠ "__name__" → mb x = bootBuiltins x) (hlim : s.heap.NoLimit) (hroom : A.depth + 1 < recursionLimit)
    (hq : ∀ h' tk e d, Made s.heap h' e C d f v → R (.ok (.ret (.ref e))) { s with heap := h', toks := tk }) :
    codeAny (model prog w) A (.call (.ref C) ⟨[v], []⟩) R s := by
  obtain ⟨nm, N', qn, bs, bm, hdct, sn, sub, ab, col, dd, z0, z1, z2, z3, z5, hC, hT⟩ := excInit_of X T.cls
  obtain ⟨oI, hoI, hcI⟩ : ∃ oI, s.heap.get? fI = some oI ∧ oI.cls = .type "function" := by
    obtain ⟨o, ho, hc⟩ := Option.map_eq_some_iff.mp (show (K.lookup fI).map (·.cls) = some (.type "function") from beq_iff_eq.mp T.fn)
    exact ⟨o, X _ _ ho, hc⟩
  obtain ⟨hp, g, dr, tk, os⟩ := s
  have k : ∀ b o, hp.get? b = some o → ((hp.push (kdv_tup [v])).push (excO C hp.objs.size)).get? b = some o := fun b o z => Heap.get?_push_of_some _ (Heap.get?_push_of_some _ z)
  have hget : ((hp.push (kdv_tup [v])).push (excO C hp.objs.size)).get? (hp.objs.size + 1) = some (excO C hp.objs.size) := by heap_get
  have hnx : K.lookup (hp.objs.size + 1) = none := by
    cases z : K.lookup (hp.objs.size + 1) with
    | none => rfl
    | some o => exact absurd (Nat.lt_of_succ_lt (Heap.lt_size (show hp.get? _ = some o from X _ _ z))) (Nat.lt_irrefl _)
  refine HandSPX.call_own T.FB hT hC (looks_findIn X T.iC) (fun self => exc_bind hoI hcI self) (by rw [sizeLine_eq]; exact (by decide : 1 ≤ 16777216)) ?_
  refine own_init (s := ⟨(hp.push (kdv_tup [v])).push (excO C hp.objs.size), g, dr, tk, os⟩) T (X.keeps k) (hg.keeps k) hns ?_ (hlim.keeps k) hget hnx hroom fun h' tk' dx t1 M => ?_
  · obtain ⟨mb, a, b⟩ := hb
    exact ⟨mb, a.keeps k, b⟩
  · have z : hp.objs.size + 1 + 1 ≤ dx := by
      have q := M.big
      simp only [Heap.size_push] at q
      exact q
    exact ⟨rfl, hq h' tk' (hp.objs.size + 1) dx ⟨fun b o q => M.keep b o (Nat.ne_of_lt (Nat.lt_succ_of_lt (Heap.lt_size q))) (k b o q), Nat.le_succ _, ⟨_, _, M.obj, rfl, rfl, rfl, rfl⟩, Nat.le_trans (Nat.le_trans (Nat.le_succ _) (Nat.le_succ _)) z, M.ne, M.ns⟩⟩
end
end LX
namespace LX
open PySem PySem.Spec PyProof.Rows L2
theorem relO_one {f g : Str} {v : V} {u : Value} (r : RelV v u) : RelO (([(f, v)] : List (Str × V)).lookup g) (if g = f then some u else none) := by
  by_cases h : g = f
  · subst h
    rw [if_pos rfl, List.lookup_cons, beq_self_eq_true]
    exact r
  · rw [if_neg h, List.lookup_cons, show (g == f) = false by simpa using h]
    trivial
section
variable {X : Cx} {C fI : Addr} {B newId initId : String} {bmB : List Value} {x f : Str}
/-- C(e), where the exception's dict is new -/
def tMk1 (C : Addr) (f : Str) (ta : TA) : L2.St → Hp → XK → Prop := fun σ H Q => ta σ H fun vs H1 => ∃ v, vs = [v] ∧ ∀ d, H1 d = none → Q (.ref C) (some d) (upd H1 d (.xd [(f, v)]))
theorem pmk_1 {n : Str} {a : Expr} {ta : TA} {p pos : Pos} {k : Nat} (T : OwnX X.prog X.K C fI B newId initId bmB x f) (gC : X.mg n = some (.ref C)) (hns : X.mg "super" = none) (kC : PySem.W.keepIn X.K (.ref C) = true) (r : Raises X (.ref C)) (hr : Room k X.A) (ha : PA X [a] ta) (hg : Gl X n) (hd : (n == ("__debug__" : Str)) = false)
    (he : starEach (a :: []) X.env = (false, eval a X.env) :: starEach [] X.env) : PMk X (.Call (.Name n p) [a] [] pos) (tMk1 C f ta) := by
  intro pins s σ H Q I h
  refine wpAny_Call_Name_kw (ld_glob I hg gC ?_ hd)
  refine PySem.W.callWith_K (h₀ := X.base) I.ok.mod.kin kC (thn (ha.run pos pins s σ H _ I h) fun us s1 hh => ?_) he rfl
  obtain ⟨vs, H1, I1, r1, v, ev, q1⟩ := hh
  subst ev
  refine ⟨I1.kIn, ?_⟩
  cases r1 with
  | @cons _ u _ us rv rn =>
    cases rn
    show wpAny _ _ (call (.ref C) [u]) _ _ _
    have hlim := I1.nolimit
    have glb := I1.ok.mod.glob.keeps I1.bk
    obtain ⟨mb, b1, b2⟩ := I1.ok.mod.blt
    have blt := b1.keeps I1.bk
    obtain ⟨hp, g, dr, tk, os⟩ := s1
    refine wpAny_call (own_made T I1.kIn glb hns ⟨mb, blt, b2⟩ hlim (by have := hr.dp; omega) fun h' tk' e d M => ?_)
    show MkP X pins σ Q (.ref e) ⟨h', g, dr, tk', os⟩
    obtain ⟨oe, fv, hoe, hc, hdi, hdat, h1⟩ := M.obj
    obtain ⟨G, g1, g2⟩ := restrict h' fun b => decide (b ≠ e)
    have gk : ∀ b, b ≠ e → G.get? b = h'.get? b := fun b hb => g1 b (decide_eq_true hb)
    have ge : G.get? e = none := g2 e (by simp)
    have old : ∀ b o, hp.get? b = some o → G.get? b = some o := fun b o q => (gk b (Nat.ne_of_lt (Nat.lt_of_lt_of_le (Heap.lt_size q) M.new))).trans (M.keep b o q)
    have ob : ObjOk X.prog X.w (upd H1 d (.xd [(f, v)])) G d (.xd [(f, v)]) := ⟨_, M.ns.at (fun o q => (gk d M.ne).trans q), fun y => relO_one rv⟩
    have J : Inv X pins σ (upd H1 d (.xd [(f, v)])) ⟨G, g, dr, tk', os⟩ := I1.laid (t' := tk') old M.big ob
    refine ⟨e, oe, fv, ⟨G, g, dr, tk', os⟩, _, .ref C, some d, rfl, J, fun b o q => ?_, ge, hoe, ⟨hc, hdi⟩, hdat, h1, ?_, rfl, I1.bare, r, q1 d (I1.hok.fresh M.big)⟩
    · by_cases hb : b = e
      · have q' : G.get? b = some o := q
        rw [hb, ge] at q'; cases q'
      · exact (gk b hb).symm.trans q
    · rw [upd_ne (Ne.symm M.ne)]
      exact I1.hok.fresh M.new
end
end LX
set_option Elab.async false
set_option linter.all false
set_option autoImplicit false
set_option maxRecDepth 100000
set_option maxHeartbeats 2000000
/-! LX2: an own exception without a field; several except clauses, with a name or without. -/
namespace LX
open PySem PySem.Spec PyProof.Rows L2
section
variable {X : Cx}
/-- C(), no own __init__ -/
theorem pmk_0 {C : Addr} {bmB : List Value} {B newId initId : String} {n : Str} {p pos : Pos} (F : ExcBaseFacts B newId initId bmB) (q : PySem.W.excIn X.K C bmB newId = true) (gC : X.mg n = some (.ref C)) (kC : PySem.W.keepIn X.K (.ref C) = true) (r : Raises X (.ref C)) (hg : Gl X n)
    (hd : (n == ("__debug__" : Str)) = false) : PMk X (.Call (.Name n p) [] [] pos) (fun _ H Q => Q (.ref C) none H) := by
  intro pins s σ H Q I h
  refine wpAny_Call_Name_kw (ld_glob I hg gC ?_ hd)
  refine PySem.W.callWith_K0 I.kIn kC ?_
  show wpAny _ _ (call (.ref C) []) _ _ _
  obtain ⟨bm, N, nm, qn, bs, hdct, sn, sub, ab, col, dd, k0, k1, k2, k3, k5, mN, hC, hN, hni, T⟩ := exc_obj I.kIn q
  obtain ⟨hp, g, d, t, os⟩ := s
  exact wpAny_call_exc_subT F T hC hN hni (fun h' e hm => mk_of I hm r h (I.hok.gone hm.new)) (Nat.zero_le _)
/-- what a clause is: its class, its name's slot, what its suite wishes -/
structure Cl3 where
  c : Value
  nm : Option Nat
  ts : Addr → Value → Option Addr → TS
def drop3 : Option Nat → L2.St → L2.St
  | none, σ => σ
  | some i, σ => σ.set i none
def bind3 (a : Addr) : Option Nat → L2.St → L2.St
  | none, σ => σ
  | some i, σ => σ.set i (some (.ref a))
/-- what the clauses wish of what the body raises -/
def wCl (K : PySem.W.Frag) (Wout : WX) (D : Ends) : List Cl3 → WX
  | [] => Wout
  | k :: r => fun cls d σ H => ∃ b, PySem.W.exmOne K cls k.c = some b ∧
      (b = true → ∀ a, H a = none → k.ts a cls d { nx := fun σ' H' => D.nx (drop3 k.nm σ') H', rt := D.rt, bk := fun σ' H' => D.bk (drop3 k.nm σ') H', ct := fun σ' H' => D.ct (drop3 k.nm σ') H' } (bind3 a k.nm σ) H) ∧
      (b = false → wCl K Wout D r cls d σ H)
/-- the clauses as they are written -/
inductive ClsOk (X : Cx) : List ExceptHandler → List Cl3 → Prop
  | nil : ClsOk X [] []
  | bare {x : Str} {c : Value} {ts : Addr → Value → Option Addr → TS} {b : Stmt} {suite : List Stmt} {np p : Pos} {hds : List ExceptHandler} {l : List Cl3} (hc : Names X x c)
      (hsu : ∀ (a : Addr) (oe : Obj) (cls : Value) (d : Option Addr) (pn : List (Addr × Obj)), Zc cls d oe → (∃ vs, oe.data = .fields vs) → PSs (X.suite a ((a, oe) :: pn)) (b :: suite) (ts a cls d)) (r : ClsOk X hds l) :
      ClsOk X (.ExceptHandler (some (.Name x np)) none (b :: suite) p :: hds) (⟨c, none, ts⟩ :: l)
  | named {x n : Str} {i : Nat} {c : Value} {ts : Addr → Value → Option Addr → TS} {b : Stmt} {suite : List Stmt} {np p : Pos} {hds : List ExceptHandler} {l : List Cl3} (hc : Names X x c) (hi : X.N[i]? = some n) (hl : X.env.kindOf n = some .local)
      (hsu : ∀ (a : Addr) (oe : Obj) (cls : Value) (d : Option Addr) (pn : List (Addr × Obj)), Zc cls d oe → (∃ vs, oe.data = .fields vs) → PSs (X.suite a ((a, oe) :: pn)) (b :: suite) (ts a cls d)) (r : ClsOk X hds l) :
      ClsOk X (.ExceptHandler (some (.Name x np)) (some n) (b :: suite) p :: hds) (⟨c, some i, ts⟩ :: l)
section
variable {pins : List (Addr × Obj)} {σ : L2.St} {H : Hp} {sI : Shared}
/-- a caught exception in hand: where it lies, what stands beside -/
structure Caught (X : Cx) (pins : List (Addr × Obj)) (σ : L2.St) (H : Hp) (a : Addr) (cls : Value) (d : Option Addr) (sI : Shared) (B : Heap) (s : Shared) : Prop where
  I : Inv X pins σ H sI
  nb : ∀ b o, sI.heap.get? b = some o → b ∉ frs X.stack → B.get? b = some o
  up : sI.heap.UpToSlots s.heap
  fl : HandSPX.FlyingZ B (X.env :: X.outer) a (Zc cls d) s.heap
  na : H a = none
  os : s.os = sI.os
  ag : AllBare s.gens
theorem Caught.inv {a : Addr} {cls : Value} {d : Option Addr} {B : Heap} {s : Shared} (k : Caught X pins σ H a cls d sI B s) : Inv X pins σ H s := k.I.landed k.nb k.fl.1 k.up k.os k.ag
theorem Caught.suite {a : Addr} {cls : Value} {d : Option Addr} {B : Heap} {s : Shared} (k : Caught X pins σ H a cls d sI B s) (hf : X.env.frame = some X.env.locals) : ∃ oe, Zc cls d oe ∧ (∃ vs, oe.data = .fields vs) ∧ s.heap.get? a = some oe ∧ Inv (X.suite a ((a, oe) :: (X.pn ++ pins))) [] σ H s := by
  obtain ⟨oe, vs, he, hz, hd⟩ := k.fl.there
  have nfr : a ∉ frs (X.env :: X.outer) := fun hm => by
    obtain ⟨_, o', e', hnf⟩ := k.fl.2.2.1.mem hm
    rw [he] at e'
    cases e'
    exact hnf _ hd
  refine ⟨oe, hz, ⟨vs, hd⟩, he, k.inv.suite he hd k.na (fun z => nfr (List.mem_filterMap.mpr ⟨X.env, List.mem_cons_self, by rw [hf, z]⟩)) fun hm => ?_⟩
  obtain ⟨e, he, q⟩ := List.mem_filterMap.mp hm
  exact nfr (List.mem_filterMap.mpr ⟨e, List.mem_cons_of_mem _ he, q⟩)
end
/-- the clauses, tried one after another -/
theorem clauses_ok {Wout : WX} {D : Ends} (hs : X.stack = X.env :: X.outer) (hf : X.env.frame = some X.env.locals) (hN : X.N.Nodup) (tk : Takes X Wout) {hds : List ExceptHandler} {l : List Cl3} (hk : ClsOk X hds l) {pins : List (Addr × Obj)} {σ : L2.St} {H : Hp} {a : Addr} {cls : Value} {d : Option Addr} {sI : Shared} {B : Heap} {s : Shared}
    (c : Caught X pins σ H a cls d sI B s) (w : wCl X.K Wout D l cls d σ H) : wpAny (model X.prog X.w) X.A (handleBy (.ref a) X.env hds) (SP X pins D) X.xe s := by
  induction hk with
  | nil =>
    refine wpAny_handleBy_nil ?_
    obtain ⟨_, _, _, oe, vs, T, oT, ts', he, hz, hd, h1, hr⟩ := id c.fl
    unfold PySem.passOn
    refine wpAny_bind (wpAny_field he hd h1 ?_)
    rw [if_neg (show ¬ ((Value.ref T == Value.none) = true) by simp)]
    have fin : wpAny (model X.prog X.w) X.A (setFlight (.ref a) X.env.frame) (fun _ s4 => wpAny (model X.prog X.w) X.A (throw (.ref a) : Sem Flow) (SP X pins D) X.xe s4) X.xe s := by
      rw [hf]
      exact HandSPX.setFlight_upZ c.fl fun h4 hh4 up4 => wpAny_throw (tk _ _ ⟨a, B, sI, pins, σ, H, cls, d, rfl, c.I, c.nb, c.up.trans up4, .inr (.inr (by rw [hs]; exact hh4)), c.na, c.os, c.ag, w⟩)
    first
      | exact wpAny_bind (wpAny_pure (wpAny_bind fin))
      | exact wpAny_bind fin
  | @bare x v ts b0 suite np p hds2 l2 hn hsu r ih =>
    obtain ⟨b, hb, hy, hno⟩ := w
    obtain ⟨oe, hz, hd, he, S⟩ := c.suite hf
    have LT : PySem.W.Looks (model X.prog X.w) s.heap (typeOf (.ref a)) cls := fun A Q E s k q => wpAny_typeOf_ref (k _ _ he) (by rw [hz.1]; exact q)
    have LM := PySem.W.exm_one (M := model X.prog X.w) S.kIn LT hb
    refine wpAny_handleBy_cons (codeAny_handlers_test ?_) (by intro q; cases q)
    have test : ∀ {Q : Value → Shared → Prop} {E : Value → Shared → Prop}, Q v s → wpAny (model X.prog X.w) (X.A.mark (some (.ref a))) (eval (.Name x np) X.env) Q E s := fun {Q E} q => by
      obtain ⟨hg, hdb, hm | ⟨hm, hv, hnn⟩⟩ := hn
      · exact ld_glob (X := X.suite a ((a, oe) :: (X.pn ++ pins))) S hg hm q hdb
      · exact ld_blt (X := X.suite a ((a, oe) :: (X.pn ++ pins))) S hg hm hv q hnn hdb
    refine test (LM.here ?_)
    cases b with
    | false =>
      show wpAny _ X.A (handleBy (.ref a) X.env hds2) _ _ _
      exact ih (hno rfl)
    | true =>
      refine codeAny_handlers_suite (HandSPX.lands_againZ c.fl fun h4 fl4 up4 => ?_)
      have c4 : Caught X pins σ H a cls d sI B { s with heap := h4 } := ⟨c.I, c.nb, c.up.trans up4, fl4, c.na, c.os, c.ag⟩
      obtain ⟨oe4, hz4, hd4, he4, S4⟩ := c4.suite hf
      refine wpAny_mono ((hsu a oe4 cls d (X.pn ++ pins) hz4 hd4).run [] _ _ H _ S4 (hy rfl a c.na)) (fun f s6 hsp => ?_) (fun _ _ z => False.elim z)
      cases f with
      | next => exact let ⟨σ6, H6, S6, q6⟩ := hsp; ⟨σ6, H6, S6.unsuite c.I.ok, q6⟩
      | brk => exact let ⟨σ6, H6, S6, q6⟩ := hsp; ⟨σ6, H6, S6.unsuite c.I.ok, q6⟩
      | cont => exact let ⟨σ6, H6, S6, q6⟩ := hsp; ⟨σ6, H6, S6.unsuite c.I.ok, q6⟩
      | ret u => exact let ⟨v6, σ6, H6, S6, r6, q6⟩ := hsp; ⟨v6, σ6, H6, S6.unsuite c.I.ok, r6, q6⟩
  | @named x n i v ts b0 suite np p hds2 l2 hn hi hl hsu r ih =>
    obtain ⟨b, hb, hy, hno⟩ := w
    obtain ⟨oe, hz, hd, he, S⟩ := c.suite hf
    have LT : PySem.W.Looks (model X.prog X.w) s.heap (typeOf (.ref a)) cls := fun A Q E s k q => wpAny_typeOf_ref (k _ _ he) (by rw [hz.1]; exact q)
    have LM := PySem.W.exm_one (M := model X.prog X.w) S.kIn LT hb
    refine wpAny_handleBy_cons (codeAny_handlers_test ?_) (by intro q; cases q)
    have test : ∀ {Q : Value → Shared → Prop} {E : Value → Shared → Prop}, Q v s → wpAny (model X.prog X.w) (X.A.mark (some (.ref a))) (eval (.Name x np) X.env) Q E s := fun {Q E} q => by
      obtain ⟨hg, hdb, hm | ⟨hm, hv, hnn⟩⟩ := hn
      · exact ld_glob (X := X.suite a ((a, oe) :: (X.pn ++ pins))) S hg hm q hdb
      · exact ld_blt (X := X.suite a ((a, oe) :: (X.pn ++ pins))) S hg hm hv q hnn hdb
    refine test (LM.here ?_)
    cases b with
    | false =>
      show wpAny _ X.A (handleBy (.ref a) X.env hds2) _ _ _
      exact ih (hno rfl)
    | true =>
      refine codeAny_handlers_suite_as (HandSPX.lands_againZ c.fl fun h4 fl4 up4 => ?_)
      have c4 : Caught X pins σ H a cls d sI B { s with heap := h4 } := ⟨c.I, c.nb, c.up.trans up4, fl4, c.na, c.os, c.ag⟩
      obtain ⟨oe4, hz4, hd4, he4, S4⟩ := c4.suite hf
      refine store_ok (X := X.suite a ((a, oe4) :: (X.pn ++ pins))) (v := .ref a) S4 hN hi (.inl hl) rfl (fun s5 S5 => ?_) (.inr hl)
      refine wpAny_mono ((hsu a oe4 cls d (X.pn ++ pins) hz4 hd4).run [] s5 _ H _ S5 (hy rfl a c.na)) (fun f s6 hsp => ?_) (fun _ _ z => False.elim z)
      have end_ : ∀ {σ6 : L2.St} {H6 : Hp} {Q : Shared → Prop}, Inv (X.suite a ((a, oe4) :: (X.pn ++ pins))) [] σ6 H6 s6 → (∀ s7, Inv X pins (σ6.set i none) H6 s7 → Q s7) →
          wpAny (model X.prog X.w) X.A (do bindName X.env n .none; unbindBehindTheSuite X.env n p) (fun _ s7 => Q s7) X.xe s6 := fun {σ6 H6 Q} S6 hq => gone_ok (S6.unsuite c.I.ok) hN hi hl hq
      cases f with
      | next => exact let ⟨σ6, H6, S6, q6⟩ := hsp; end_ S6 fun s7 J7 => ⟨_, _, J7, q6⟩
      | brk => exact let ⟨σ6, H6, S6, q6⟩ := hsp; end_ S6 fun s7 J7 => ⟨_, _, J7, q6⟩
      | cont => exact let ⟨σ6, H6, S6, q6⟩ := hsp; end_ S6 fun s7 J7 => ⟨_, _, J7, q6⟩
      | ret u => exact let ⟨v6, σ6, H6, S6, r6, q6⟩ := hsp; end_ S6 fun s7 J7 => ⟨_, _, _, J7, r6, q6⟩
/-- try: body, then the clauses -/
theorem ps_try {body : List Stmt} {h0 : ExceptHandler} {hds : List ExceptHandler} {l : List Cl3} {pos : Pos} {tb : WX → TS} {Wout : WX} (hs : X.stack = X.env :: X.outer) (hf : X.env.frame = some X.env.locals) (hN : X.N.Nodup) (tk : Takes X Wout)
    (hb : ∀ (W : WX) (pn : List (Addr × Obj)) (xe : Value → Shared → Prop), Takes (X.tr pn xe) W → PassesOwn (model X.prog X.w) X.A X.env xe → PSs (X.tr pn xe) body (tb W))
    (hh : ClsOk X (h0 :: hds) l) : PS X (.Try body (h0 :: hds) [] [] pos) (fun D σ H => tb (wCl X.K Wout D l) D σ H) := by
  refine ⟨fun pins s σ H D I h => wpAny_Try_except ?_⟩
  have ok := I.ok
  have hfr : X.A.frames = some (X.env :: X.outer) := by rw [ok.frames, hs]
  refine wpAny_mono ((hb (wCl X.K Wout D l) (X.pn ++ pins) (fun e s1 => wpAny (model X.prog X.w) X.A (noteFrame e X.env) (fun _ s2 => wpAny (model X.prog X.w) X.A (setFlight e none) (fun _ s3 => wpAny (model X.prog X.w) X.A (handleBy e X.env (h0 :: hds)) (SP X pins D) X.xe s3) X.xe s2) X.xe s1) (fun u s' xx => ?_) PassesOwn.looking).run [] s σ H D (I.toTry _) h) (fun f s1 hsp => ?_) (fun e s1 he => he)
  · obtain ⟨a, B, sI, pins', σ', H', cls, d, rfl, J', nb, up, sky, na, os, ag, w⟩ := xx
    show wpAny (model X.prog X.w) X.A (noteFrame (.ref a) X.env) _ _ _
    refine Sky.land Zc.steady hfr hf (by rw [← hs]; exact sky) fun h3 fl3 up3 => ?_
    exact clauses_ok hs hf hN tk hh ⟨J'.ofTry ok, nb, up.trans up3, fl3, na, os, ag⟩ w
  · cases f with
    | next => exact let ⟨σ', H', J', q⟩ := hsp; wpAny_execs_nil ⟨σ', H', J'.ofTry ok, q⟩
    | brk => exact let ⟨σ', H', J', q⟩ := hsp; ⟨σ', H', J'.ofTry ok, q⟩
    | cont => exact let ⟨σ', H', J', q⟩ := hsp; ⟨σ', H', J'.ofTry ok, q⟩
    | ret u => exact let ⟨v, σ', H', J', r, q⟩ := hsp; ⟨v, σ', H', J'.ofTry ok, r, q⟩
end
end LX
set_option Elab.async false
set_option linter.all false
set_option autoImplicit false
set_option maxRecDepth 100000
set_option maxHeartbeats 2000000
/-! LX3: raise and try in the little language. -/
namespace LK
open PySem PySem.Spec PyProof.Rows L2
variable [Tt]
/-! ### the classes -/
/-- what the written part says of the n-th class -/
structure XcOk (prog : Program) (K : PySem.W.Frag) (mg : Str → Option Value) (n : Nat) (C : Addr) : Prop where
  g : mg (xName n) = some (.ref C)
  kp : PySem.W.keepIn K (.ref C) = true
  ex : PySem.W.subIn K (.ref C) (.type "BaseException") = some true
  ty : PySem.W.typeIn K (.ref C) = some (.type "type")
  mkd : if xHas n = true then ∃ (fI : Addr) (B newId initId : String) (bmB : List Value) (p : Str), LX.OwnX prog K C fI B newId initId bmB p (xFld n) else ∃ (B newId initId : String) (bmB : List Value), ExcBaseFacts B newId initId bmB ∧ PySem.W.excIn K C bmB newId = true
  xf : XfC K C
  no : PySem.W.findIn K (.ref C) (xFld n) = some none
  ic : L2.ExcC K C
  l1 : PySem.W.kitOne K (.ref C) (.type "LookupError") = some (xLook n)
  l2 : PySem.W.kitOne K (.ref C) (.type "ValueError") = some (!xLook n)
structure XsOk (prog : Program) (K : PySem.W.Frag) (mg : Str → Option Value) (Xs : List (Nat × Addr)) : Prop where
  at_ : ∀ p ∈ Xs, XcOk prog K mg p.1 p.2
  no : ∀ n, n < 10 → (∃ C, (n, C) ∈ Xs) ∨ mg (xName n) = none
  pr : ∀ p ∈ Xs, ∀ q ∈ Xs, PySem.W.exmOne K (.ref p.2) (.ref q.2) = some (p.1 == q.1)
  su : mg "super" = none
theorem XRep.mono {K : PySem.W.Frag} {mg : Str → Option Value} {ρ ρ' : Rho} {H H' : Hp} {x : XV} {c : Value} {dx : Option Addr} (f : Frm ρ H H') (g : Grow ρ ρ' H) (lv : Live ρ H) (r : XRep K mg ρ H x c dx) : XRep K mg ρ' H' x c dx :=
  ⟨r.cls, r.args.imp id fun ⟨d, v, a, e1, e2, e3, e4⟩ => ⟨d, v, a, e1, e2, f.get e3 (fun hm => by
    obtain ⟨vs, q⟩ := lv a (.inl hm)
    rw [e3] at q
    cases q), Rep.mono f g lv d v e4⟩⟩
/-! ### raise -/
section
variable {X : Cx} {W : WX} {k : Nat}
theorem ds_raise1 {n : Nat} {C0 fI : Addr} {B newId initId : String} {bmB : List Value} {p : Str} {a : Expr} {da : E} {C : Call} {p1 p2 p3 : Pos} (hc : X.calm = true) (tk : Takes X W) (hr : Room k X.A) (T : LX.OwnX X.prog X.K C0 fI B newId initId bmB p (xFld n)) (o : XcOk X.prog X.K X.mg n C0) (hh : xHas n = true) (hs : X.mg "super" = none) (hg : Gl X (xName n)) (hd : (xName n == ("__debug__" : Str)) = false) (ns : noStar a = true)
    (ha : DE X W a (den C da)) : PS X (.Raise (some (.Call (.Name (xName n) p1) [a] [] p2)) none p3) (tS X W (sden C (.raise_ n (.cons da .nil)))) :=
  (ps_raise hc tk (LX.pmk_1 T o.g hs o.kp (raises_own o.ex o.ty) hr (da_cons ha da_nil (star_plain ns _ _)) hg hd (star_plain ns _ _))).weak fun Q0 σ H ⟨env, S, ρ, k, h⟩ =>
    ⟨env, S, ρ, k, SRP.st h k.s.live fun xs S1 vs H1 ρ1 f1 g1 k1 r1 h1 => by
      rw [hh] at h1
      by_cases hl : xs.length = 1
      · rw [if_pos (by simpa using hl)] at h1
        match xs, hl with
        | [y], _ =>
          simp only [Reps] at r1
          obtain ⟨v, r, rfl, ry, rfl⟩ := r1
          refine ⟨v, rfl, fun d hd0 => h1 _ _ σ _ ρ1 (frm_of (same_new hd0)) (Grow.refl _ _) (k1.same (same_new hd0)) ⟨o.g, .inr ⟨y, v, d, rfl, rfl, upd_same, Rep.mono (frm_of (same_new hd0)) (Grow.refl _ _) k1.s.live y v ry⟩⟩⟩
      · rw [if_neg (by simpa using hl)] at h1
        exact h1.elim⟩
theorem ds_raise0 {n : Nat} {C0 : Addr} {B newId initId : String} {bmB : List Value} {C : Call} {p1 p2 p3 : Pos} (hc : X.calm = true) (tk : Takes X W) (F : ExcBaseFacts B newId initId bmB) (q : PySem.W.excIn X.K C0 bmB newId = true) (o : XcOk X.prog X.K X.mg n C0) (hh : xHas n = false) (hg : Gl X (xName n)) (hd : (xName n == ("__debug__" : Str)) = false) :
    PS X (.Raise (some (.Call (.Name (xName n) p1) [] [] p2)) none p3) (tS X W (sden C (.raise_ n .nil))) :=
  (ps_raise hc tk (LX.pmk_0 F q o.g o.kp (raises_own o.ex o.ty) hg hd)).weak fun Q0 σ H ⟨env, S, ρ, k, h⟩ => by
    replace h : SRP X W ρ H (if ([] : List D).length = (if xHas n then 1 else 0) then .exc ⟨n, []⟩ env S else .bad) Q0 := h
    rw [hh, if_pos (by simp)] at h
    exact h _ _ σ H ρ (Frm.refl _ _) (Grow.refl _ _) k ⟨o.g, .inl ⟨rfl, rfl⟩⟩
/-! ### what a suite tells -/
/-- the exception that a suite holds -/
structure HeldX (X : Cx) (i : Option Nat) (a : Addr) (cls : Value) (d : Option Addr) (n : Nat) (x : XV) (ρ : Rho) (σ : L2.St) (H : Hp) : Prop where
  sl : ∀ j, i = some j → σ[j]? = some (some (.ref a))
  is : x.cls = n
  xr : XRep X.K X.mg ρ H x cls d
theorem HeldX.mono {i : Option Nat} {a : Addr} {cls : Value} {d : Option Addr} {n : Nat} {x : XV} {ρ ρ' : Rho} {σ : L2.St} {H H' : Hp} (f : Frm ρ H H') (g : Grow ρ ρ' H) (lv : Live ρ H) (h : HeldX X i a cls d n x ρ σ H) : HeldX X i a cls d n x ρ' σ H' := ⟨h.sl, h.is, h.xr.mono f g lv⟩
def tX (X : Cx) (i : Option Nat) (a : Addr) (cls : Value) (d : Option Addr) (n : Nat) (g : XV → Option D) : TE := fun σ H Q => ∃ env S ρ x, Ok ρ env S σ H ∧ HeldX X i a cls d n x ρ σ H ∧ ∃ y, g x = some y ∧ ∀ v H' ρ', Frm ρ H H' → Grow ρ ρ' H → Ok ρ' env S σ H' → Rep ρ' H' y v → Q v H'
def tXs (X : Cx) (i : Option Nat) (a : Addr) (cls : Value) (d : Option Addr) (n : Nat) (g : XV → Option (List D)) : TA := fun σ H Q => ∃ env S ρ x, Ok ρ env S σ H ∧ HeldX X i a cls d n x ρ σ H ∧ ∃ y, g x = some y ∧ ∀ v H' ρ', Frm ρ H H' → Grow ρ ρ' H → Ok ρ' env S σ H' → Reps ρ' H' y v → Q v H'
section
variable {i : Option Nat} {a : Addr} {oe : Obj} {cls : Value} {d : Option Addr} {n : Nat} {pn : List (Addr × Obj)}
theorem dx_lit {X' : Cx} {e : Expr} {y : D} {v : V} (hv : PE X' e (tC v)) (hf : flatD y v) : PE X' e (tX X i a cls d n fun _ => some y) :=
  hv.weak fun σ H Q ⟨env, S, ρ, x, k, hx, y', e1, q⟩ => by
    cases e1
    exact q v H ρ (Frm.refl _ _) (Grow.refl _ _) k (flat_rep hf)
theorem dxs_nil {X' : Cx} : PA X' [] (tXs X i a cls d n fun _ => some []) := pa_nil.weak fun σ H Q ⟨env, S, ρ, x, k, hx, y, e1, q⟩ => by
  cases e1
  exact q [] H ρ (Frm.refl _ _) (Grow.refl _ _) k (by simp [Reps])
theorem dxs_cons {X' : Cx} {e : Expr} {es : List Expr} {g : XV → Option D} {gs : XV → Option (List D)} (he : PE X' e (tX X i a cls d n g)) (hs : PA X' es (tXs X i a cls d n gs)) (h : starEach (e :: es) X'.env = (false, eval e X'.env) :: starEach es X'.env) :
    PA X' (e :: es) (tXs X i a cls d n fun x => (g x).bind fun y => (gs x).map fun ys => y :: ys) :=
  (pa_cons he hs h).weak fun σ H Q ⟨env, S, ρ, x, k, hx, y, e1, q⟩ => by
    simp only [Option.bind_eq_some_iff, Option.map_eq_some_iff] at e1
    obtain ⟨y1, ey, ys, eys, rfl⟩ := e1
    refine ⟨env, S, ρ, x, k, hx, y1, ey, fun v H1 ρ1 f1 g1 k1 r1 => ?_⟩
    refine ⟨env, S, ρ1, x, k1, hx.mono f1 g1 k.s.live, ys, eys, fun vs H2 ρ2 f2 g2 k2 r2 => ?_⟩
    refine q _ H2 ρ2 (f1.trans g1 f2) (g1.trans f1 k.s.live g2 k1.s.live) k2 ?_
    simp only [Reps]
    exact ⟨v, vs, rfl, Rep.mono f2 g2 k1.s.live y1 v r1, r2⟩
theorem dx_lst {X' : Cx} {es : List Expr} {pos : Pos} {gs : XV → Option (List D)} (hs : PA X' es (tXs X i a cls d n gs)) : PE X' (.List es pos) (tX X i a cls d n fun x => ((gs x).bind okLen).map .lst) :=
  (pe_lst hs).weak fun σ H Q ⟨env, S, ρ, x, k, hx, y, e1, q⟩ => by
    simp only [Option.bind_eq_some_iff, Option.map_eq_some_iff] at e1
    obtain ⟨m, ⟨ys, eys, hm⟩, rfl⟩ := e1
    obtain ⟨hm0, hz⟩ := okLen_some hm
    subst hm0
    refine ⟨env, S, ρ, x, k, hx, _, eys, fun vs H1 ρ1 f1 g1 k1 r1 => ?_⟩
    refine ⟨by rw [r1.length, ← line_eq]; exact hz, fun p hp => q _ _ ρ1 (f1.trans g1 (frm_of (same_new hp))) (g1.trans f1 k.s.live (Grow.refl _ _) k1.s.live) (k1.same (same_new hp)) (Rep.lst_new hp k1.s.live hz r1)⟩
/-- error.f -/
theorem dx_fld {j : Nat} {C0 : Addr} {m : Str} {p1 p2 : Pos} (hi : i = some j) (hN : X.N[j]? = some m) (hv : Vis X.env.scope m) (hd1 : (m == ("__debug__" : Str)) = false) (hd2 : (m == ("__classdict__" : Str)) = false) (o : XcOk X.prog X.K X.mg n C0)
    (hz : Zc cls d oe) (hf : ∃ vs, oe.data = .fields vs) : PE (X.suite a ((a, oe) :: pn)) (.Attribute (.Name m p1) (xFld n) p2) (tX X i a cls d n fun x => match x.args with | [y] => some y | _ => none) :=
  (pe_xf (X := X) o.xf o.no hz hf (pe_var (X := X.suite a ((a, oe) :: pn)) hN hv hd1 hd2)).weak fun σ H Q ⟨env, S, ρ, x, k, hx, y, e1, q⟩ => by
    have hc : cls = .ref C0 := by
      have := hx.xr.cls
      rw [hx.is, o.g] at this
      exact (Option.some.inj this).symm
    refine ⟨.ref a, hx.sl j hi, rfl, hc, ?_⟩
    rcases hx.xr.args with ⟨e2, _⟩ | ⟨y', v, dd, e2, e3, e4, r⟩
    · simp only [e2] at e1
      cases e1
    · simp only [e2] at e1
      cases e1
      rw [hx.is] at e4
      exact ⟨dd, _, v, e3, e4, by rw [List.lookup_cons, beq_self_eq_true], q v H ρ (Frm.refl _ _) (Grow.refl _ _) k r⟩
/-- isinstance(e, c), its dict made or not -/
def rIsX (K : PySem.W.Frag) (C0 : Addr) (cls : Value) (d : Option Addr) (a : Addr) : List V → Hp → VK → Prop := fun xs H Q => ∃ (c : V) (cv : Value) (b : Bool), xs = [.ref a, c] ∧ cls = .ref C0 ∧ (∀ u, RelV c u → u = cv) ∧ PySem.W.kitOne K cls cv = some b ∧ (d = none ∨ ∃ dd fs, d = some dd ∧ H dd = some (.xd fs)) ∧ Q (.bl b) H
theorem call_isX {C0 : Addr} (c : L2.ExcC X.K C0) (hz : Zc cls d oe) (hf : ∃ vs, oe.data = .fields vs) : CallR (X.suite a ((a, oe) :: pn)) (.builtin "isinstance") (rIsX X.K C0 cls d a) := by
  intro pins s σ H xs us Q I r h
  obtain ⟨c2, cv, b, rfl, hcl, hcv, e, hd, q⟩ := h
  subst hcl
  cases r with
  | cons rx rr =>
    cases rr with
    | cons rt rr =>
      cases rr
      cases rx
      have ec := hcv _ rt
      subst ec
      obtain ⟨hget, _⟩ := I.pin (a, oe) (List.mem_append.mpr (.inl List.mem_cons_self))
      obtain ⟨vs, hv⟩ := hf
      have key : ∃ od, PySem.W.InstAt s.heap a oe C0 od := by
        rcases hd with rfl | ⟨dd, fs, rfl, ed⟩
        · exact ⟨none, hget, hz.1, by unfold PySem.W.notCls; rw [hv], by rw [hz.2]; trivial⟩
        · have ho : ObjOk X.prog X.w H s.heap dd (.xd fs) := I.hok dd _ ed
          obtain ⟨mA, hns, _⟩ := ho
          obtain ⟨o, es, ep, e1, _⟩ := hns
          exact ⟨some o, hget, hz.1, by unfold PySem.W.notCls; rw [hv], by rw [hz.2]; exact e1⟩
      obtain ⟨od, J⟩ := key
      obtain ⟨cd, hcd, _⟩ := PySem.W.any_some c.hd
      exact PySem.W.kia_one (PySem.W.kitx_exc (od := od) (by rw [hcd]; rfl) c.hg c.hk c.hs c.ha c.hn c.ht c.hm) I.kIn J e (fun z => nomatch z) fun tk => ⟨.bl b, H, I.kept (t' := tk) fun _ _ z => z, rfl, q⟩
theorem dx_isB {j : Nat} {C0 : Addr} {m B : Str} {t : String} {lk : Bool} {p1 p2 p3 pos : Pos} (hi : i = some j) (hN : X.N[j]? = some m) (hv : Vis X.env.scope m) (hd1 : (m == ("__debug__" : Str)) = false) (hd2 : (m == ("__classdict__" : Str)) = false) (o : XcOk X.prog X.K X.mg n C0)
    (hz : Zc cls d oe) (hf : ∃ vs, oe.data = .fields vs) (hg : Gl X "isinstance") (hm : X.mg "isinstance" = none) (hg2 : Gl X B) (hm2 : X.mg B = none) (hv2 : bootBuiltins B = some (.type t)) (hn2 : B ≠ "__name__") (hdb2 : (B == ("__debug__" : Str)) = false)
    (hk : PySem.W.kitOne X.K (.ref C0) (.type t) = some (xLook n == lk)) :
    PE (X.suite a ((a, oe) :: pn)) (.Call (.Name "isinstance" p1) [.Name m p2, .Name B p3] [] pos) (tX X i a cls d n fun x => some (.bl (xLook x.cls == lk))) :=
  (pe_callB (X := X.suite a ((a, oe) :: pn)) (call_isX o.ic hz hf) hg hm (by decide +kernel) (pa_cons (pe_var (X := X.suite a ((a, oe) :: pn)) hN hv hd1 hd2) (pa_cons (pe_bltn (X := X.suite a ((a, oe) :: pn)) (v := .ty t) hg2 hm2 hv2 rfl hn2 hdb2) pa_nil rfl) rfl) (by decide) (by decide) rfl).weak fun σ H Q ⟨env, S, ρ, x, k, hx, y, e1, q⟩ => by
    cases e1
    have hcl : cls = .ref C0 := by
      have := hx.xr.cls
      rw [hx.is, o.g] at this
      exact (Option.some.inj this).symm
    refine ⟨.ref a, hx.sl j hi, .ty t, .type t, (xLook n == lk), rfl, hcl, fun u hu => hu, by rw [hcl]; exact hk, ?_, ?_⟩
    · rcases hx.xr.args with ⟨_, e⟩ | ⟨y', v, dd, e2, e3, e4, r⟩
      · exact .inl e
      · exact .inr ⟨dd, _, e3, e4⟩
    · rw [← hx.is]
      exact q _ H ρ (Frm.refl _ _) (Grow.refl _ _) k (by simp [Rep])
end
end
end LK
set_option Elab.async false
set_option linter.all false
set_option autoImplicit false
set_option maxRecDepth 100000
set_option maxHeartbeats 2000000
/-! LX4: except clauses, from the text. -/
namespace LK
open PySem PySem.Spec PyProof.Rows L2
variable [Tt]
omit [Tt] in
def xOf (x : Str) : Option Nat := (List.range 10).find? fun n => decide (xName n = x)
omit [Tt] in
theorem xOf_some {x : Str} {n : Nat} (h : xOf x = some n) : xName n = x ∧ n < 10 := by
  unfold xOf at h
  have h1 := List.find?_some h
  have h2 := List.mem_of_find?_eq_some h
  exact ⟨of_decide_eq_true h1, List.mem_range.mp h2⟩
def cHl (f : Expr → HX) : List Expr → HX
  | [] => .nil
  | e :: r => if noStar e = true then .cons (f e) (cHl f r) else .fld
/-- what a suite tells of its exception, of class n, by the name er -/
def cH (c : Ctx) (n : Nat) (er : Option Str) : Nat → Expr → HX
  | 0, _ => .nil
  | k + 1, e => match e with
    | .Constant kc _ _ => (match cConst kc with
      | .lit d => .lit d
      | _ => .nil)
    | .Attribute (.Name m _) f _ => if er = some m ∧ f = xFld n ∧ (slot c m).isSome = true then .fld else .nil
    | .Call (.Name g _) [.Name m _, .Name B _] [] _ => if g = "isinstance" ∧ er = some m ∧ (slot c m).isSome = true ∧ blt c g = true ∧ blt c B = true then (if B = "LookupError" then .isB true else if B = "ValueError" then .isB false else .nil) else .nil
    | .List es _ => .lst (cHl (cH c n er k) es)
    | _ => .nil
/-- the slot of a clause's name -/
def nmSlot (c : Ctx) : Option Str → Option (Option Nat)
  | none => some none
  | some m => if c.N[c.N.idxOf m]? = some m ∧ c.sc.names.lookup m = some .local then some (some (c.N.idxOf m)) else none
def noComp : Expr → Bool
  | .ListComp _ _ _ _ => false
  | .SetComp _ _ _ _ => false
  | .DictComp _ _ _ _ _ => false
  | _ => true
theorem noComp_sw {e : Expr} (h : noComp e = true) (t : Option Expr) (l : Nat) (env : PySem.Env) : swapsWith e t l env = pure false := by
  cases e <;> first | rfl | (simp [noComp] at h)
def cHd1 (c : Ctx) (n : Nat) (er : Option Str) (j : Option Nat) (r : S) : Stmt → Option S
  | .Assign [.Name y p] e _ => (match tslot c y with
    | some i => if noComp e = true ∧ j ≠ some i then some (.hd n j false i (cH c n er 12 e) r) else none
    | none => none)
  | .Return (some e) _ => some (.hd n j true 0 (cH c n er 12 e) r)
  | _ => none
def cHds (c : Ctx) : List ExceptHandler → Option S
  | [] => some .skip
  | .ExceptHandler (some (.Name x _)) er [st] _ :: r => (match xOf x, nmSlot c er, cHds c r with
    | some n, some j, some hr => if n ∈ c.Xs ∧ gl c x = true ∧ (x == ("__debug__" : Str)) = false then cHd1 c n er j hr st else none
    | _, _, _ => none)
  | _ => none
section
variable {X : Cx} {W : WX} {c : Ctx} {T : Nat → Option Fn} {k : Nat}
theorem flat_const {kc : Const} {d : D} (h : cConst kc = .lit d) {Y : Cx} {j : Nat} {p : Pos} : ∃ v, PE Y (.Constant kc j p) (tC v) ∧ flatD d v := by
  cases kc <;> simp only [cConst] at h <;> first | (cases h; done) | skip
  · cases h
    exact ⟨.non, pe_non, by simp [flatD]⟩
  · cases h
    exact ⟨.bl _, pe_bl, by simp [flatD]⟩
  · cases h
    exact ⟨.int _, pe_int, by simp [flatD]⟩
  · split at h
    · rename_i s q
      cases h
      exact ⟨.str _, pe_str, ⟨by rw [txt_self], q⟩⟩
    · cases h
theorem dx_bad {i : Option Nat} {a : Addr} {cls : Value} {d : Option Addr} {n : Nat} {Y : Cx} {e : Expr} : PE Y e (tX X i a cls d n fun x => hv x .nil) := ⟨fun pins s σ H Q I ⟨env, S, ρ, x, k, hx, y, e1, q⟩ => by simp [hv] at e1⟩
theorem dxs_bad {i : Option Nat} {a : Addr} {cls : Value} {d : Option Addr} {n : Nat} {Y : Cx} {e : List Expr} : PA Y e (tXs X i a cls d n fun x => hvs x .fld) := ⟨fun pos pins s σ H Q I ⟨env, S, ρ, x, k, hx, y, e1, q⟩ => by simp [hvs] at e1⟩
theorem cHl_ok {i : Option Nat} {a : Addr} {cls : Value} {d : Option Addr} {n : Nat} {Y : Cx} {f : Expr → HX} (hf : ∀ e, PE Y e (tX X i a cls d n fun x => hv x (f e))) : ∀ es, PA Y es (tXs X i a cls d n fun x => hvs x (cHl f es))
  | [] => by
    simp only [cHl, hvs]
    exact dxs_nil
  | e :: es => by
    unfold cHl
    split
    · rename_i ns
      simp only [hvs]
      exact dxs_cons (hf e) (cHl_ok hf es) (star_plain ns _ _)
    · exact dxs_bad
theorem cH_ok (h : CtxOk X W c T k) {n : Nat} {C0 : Addr} (o : XcOk X.prog X.K X.mg n C0) {a : Addr} {oe : Obj} {cls : Value} {d : Option Addr} {pn : List (Addr × Obj)} (hz : Zc cls d oe) (hf : ∃ vs, oe.data = .fields vs) {er : Option Str} {j : Option Nat} (hj : ∀ m, er = some m → j = some (c.N.idxOf m)) :
    ∀ (q : Nat) (e : Expr), PE (X.suite a ((a, oe) :: pn)) e (tX X j a cls d n fun x => hv x (cH c n er q e))
  | 0, e => dx_bad
  | q + 1, e => by
    have ih := cH_ok h o (a := a) (pn := pn) hz hf hj q
    unfold cH
    split
    · split
      · rename_i d0 hd0
        obtain ⟨v, p1, p2⟩ := flat_const hd0
        simp only [hv]
        exact dx_lit p1 p2
      · exact dx_bad
    · split
      · rename_i m _ f _ z
        obtain ⟨z1, rfl, z3⟩ := z
        obtain ⟨i, hi⟩ := Option.isSome_iff_exists.mp z3
        obtain ⟨s1, s2, s3, s4⟩ := slot_ok h hi
        have ei : i = c.N.idxOf m := by
          unfold slot at hi
          split at hi
          · cases hi; rfl
          · cases hi
        subst ei
        simp only [hv]
        exact dx_fld (hj m z1) s1 s2 s3 s4 o hz hf
      · exact dx_bad
    · split
      · rename_i g _ m _ B _ _ z
        obtain ⟨rfl, z1, z3, zb1, zb2⟩ := z
        obtain ⟨i, hi⟩ := Option.isSome_iff_exists.mp z3
        obtain ⟨s1, s2, s3, s4⟩ := slot_ok h hi
        have ei : i = c.N.idxOf m := by
          unfold slot at hi
          split at hi
          · cases hi; rfl
          · cases hi
        subst ei
        obtain ⟨g1, g2⟩ := h.blt zb1
        obtain ⟨b1, b2⟩ := h.blt zb2
        split
        · rename_i eb
          subst eb
          simp only [hv]
          exact dx_isB (t := "LookupError") (lk := true) (hj m z1) s1 s2 s3 s4 o hz hf g1 g2 b1 b2 (by decide +kernel) (by decide) (by decide) (by rw [o.l1]; cases xLook n <;> rfl)
        · split
          · rename_i eb
            subst eb
            simp only [hv]
            exact dx_isB (t := "ValueError") (lk := false) (hj m z1) s1 s2 s3 s4 o hz hf g1 g2 b1 b2 (by decide +kernel) (by decide) (by decide) (by rw [o.l2]; cases xLook n <;> rfl)
          · exact dx_bad
      · exact dx_bad
    · simp only [hv]
      exact dx_lst (cHl_ok ih _)
    · exact dx_bad
/-! ### a suite -/
/-- name i = .. or return .. -/
def tHd (X : Cx) (j : Option Nat) (n : Nat) (ret : Bool) (i : Nat) (h : HX) (a : Addr) (cls : Value) (d : Option Addr) : TS := fun D σ H => ∃ env S ρ x, Ok ρ env S σ H ∧ HeldX X j a cls d n x ρ σ H ∧ ∃ y, hv x h = some y ∧
  ∀ v H' ρ', Frm ρ H H' → Grow ρ ρ' H → Ok ρ' env S σ H' → Rep ρ' H' y v → if ret = true then D.rt v H' else D.nx (σ.set i (some v)) H'
theorem suite_set {Y : Cx} {j : Option Nat} {n i : Nat} {y : Str} {e : Expr} {h : HX} {a : Addr} {cls : Value} {d : Option Addr} {p pos : Pos} (hN : Y.N.Nodup) (hi : Y.N[i]? = some y) (hl : L2.Loc Y.env.scope y) (hf : Y.fn y = true ∨ Y.env.scope.names.lookup y = some .local)
    (he : PE Y e (tX X j a cls d n fun x => hv x h)) (hs : swapsWith e (some (.Name y p)) pos.line Y.env = pure false) : PSs Y [.Assign [.Name y p] e pos] (tHd X j n false i h a cls d) :=
  (pss_one (ps_set hN hi hl he hs hf)).weak fun D σ H ⟨env, S, ρ, x, k, hx, z, e1, q⟩ => ⟨env, S, ρ, x, k, hx, z, e1, fun v H' ρ' f g k' r => q v H' ρ' f g k' r⟩
theorem suite_ret {Y : Cx} {j : Option Nat} {n i : Nat} {e : Expr} {h : HX} {a : Addr} {cls : Value} {d : Option Addr} {pos : Pos} (he : PE Y e (tX X j a cls d n fun x => hv x h)) : PSs Y [.Return (some e) pos] (tHd X j n true i h a cls d) :=
  (pss_one (ps_ret he)).weak fun D σ H ⟨env, S, ρ, x, k, hx, z, e1, q⟩ => ⟨env, S, ρ, x, k, hx, z, e1, fun v H' ρ' f g k' r => q v H' ρ' f g k' r⟩
theorem ERep.drop {ρ : Rho} {env : Env} {σ : L2.St} {H : Hp} (e : ERep ρ env σ H) (j : Nat) (o : Option V) : ERep ρ (env.set j none) (σ.set j o) H := by
  refine ⟨by rw [List.length_set, List.length_set]; exact e.len, fun t d h => ?_⟩
  by_cases ht : j = t
  · subst ht
    by_cases hl : j < env.length
    · rw [List.getElem?_set_self hl] at h
      cases h
    · rw [List.getElem?_eq_none (by simpa using hl)] at h
      cases h
  · rw [List.getElem?_set_ne ht] at h ⊢
    exact e.at_ t d h
theorem ERep.drop2 {ρ : Rho} {env : Env} {σ : L2.St} {H : Hp} (j : Nat) (hn : ∀ d, env[j]? ≠ some (some d)) (e : ERep ρ env σ H) : ERep ρ env (σ.set j none) H := by
  refine ⟨by rw [List.length_set]; exact e.len, fun t d h => ?_⟩
  by_cases ht : j = t
  · subst ht
    exact absurd h (hn d)
  · rw [List.getElem?_set_ne ht]
    exact e.at_ t d h
/-- the clauses of a text -/
structure HdsOk (X : Cx) (W : WX) (hds : List ExceptHandler) (hS : S) (l : List LX.Cl3) : Prop where
  cl : LX.ClsOk X hds l
  rd : ∀ (D : Ends) (x : XV) (env : Env) (S : Store) (ρ : Rho) (σ : L2.St) (H : Hp) (cls : Value) (dx : Option Addr), x.cls < 10 → SRP X W ρ H (hden hS x env S) D → Ok ρ env S σ H → XRep X.K X.mg ρ H x cls dx → LX.wCl X.K W D l cls dx σ H
theorem hd_one {Xa : List (Nat × Addr)} (xs : XsOk X.prog X.K X.mg Xa) {n : Nat} {C0 : Addr} (hn : (n, C0) ∈ Xa) {j : Option Nat} {ret : Bool} {i : Nat} {h : HX} {r : S} {l : List LX.Cl3} (hij : ret = false → j ≠ some i)
    (rd : ∀ (D : Ends) (x : XV) (env : Env) (S : Store) (ρ : Rho) (σ : L2.St) (H : Hp) (cls : Value) (dx : Option Addr), x.cls < 10 → SRP X W ρ H (hden r x env S) D → Ok ρ env S σ H → XRep X.K X.mg ρ H x cls dx → LX.wCl X.K W D l cls dx σ H)
    (D : Ends) (x : XV) (env : Env) (S : Store) (ρ : Rho) (σ : L2.St) (H : Hp) (cls : Value) (dx : Option Addr) (hx : x.cls < 10) (q : SRP X W ρ H (hden (.hd n j ret i h r) x env S) D) (ok : Ok ρ env S σ H) (xr : XRep X.K X.mg ρ H x cls dx) :
    LX.wCl X.K W D (⟨.ref C0, j, tHd X j n ret i h⟩ :: l) cls dx σ H := by
  obtain ⟨C1, h1⟩ : ∃ C1, (x.cls, C1) ∈ Xa := by
    rcases xs.no x.cls hx with z | z
    · exact z
    · have := xr.cls
      rw [z] at this
      cases this
  have ec : cls = .ref C1 := by
    have := xr.cls
    rw [(xs.at_ _ h1).g] at this
    exact (Option.some.inj this).symm
  refine ⟨x.cls == n, by rw [ec]; exact xs.pr _ h1 _ hn, fun hb a na => ?_, fun hb => ?_⟩
  · have e0 : x.cls = n := by simpa using hb
    simp only [hden, e0, if_true] at q
    cases hy : hv x h with
    | none => rw [hy] at q; simp only at q; exact q.elim
    | some y =>
      rw [hy] at q
      cases j with
      | none =>
        simp only [dropN] at q
        refine ⟨env, S, ρ, x, ok, ⟨fun j hj => (by cases hj), e0, xr⟩, y, hy, fun v H' ρ' f g k' r' => ?_⟩
        cases ret with
        | true => exact q v H' ρ' f g k'.s r'
        | false => exact q _ H' ρ' f g ⟨k'.e.put r', k'.s⟩
      | some j =>
        simp only [dropN] at q
        by_cases hl : j < env.length
        · rw [if_pos hl] at q
          simp only at q
          refine ⟨env.set j none, S, ρ, x, ⟨ok.e.drop j _, ok.s⟩, ⟨fun t ht => ?_, e0, xr⟩, y, hy, fun v H' ρ' f g k' r' => ?_⟩
          · cases ht
            exact List.getElem?_set_self (by rw [← ok.e.len]; exact hl)
          · cases ret with
            | true => exact q v H' ρ' f g k'.s r'
            | false =>
              refine q _ H' ρ' f g ⟨ERep.drop2 j (fun dd hd => ?_) (k'.e.put r'), k'.s⟩
              have hne : i ≠ j := fun z => hij rfl (by rw [z])
              unfold put1 at hd
              rw [List.getElem?_set_ne hne] at hd
              have := List.getElem?_set_self (l := env) (a := none) hl
              rw [this] at hd
              cases hd
        · rw [if_neg hl] at q
          exact q.elim
  · have e0 : ¬ x.cls = n := by simpa using hb
    simp only [hden, e0, if_false] at q
    exact rd D x env S ρ σ H cls dx hx q ok xr
theorem nmSlot_ok {er : Option Str} {j : Option Nat} (h : nmSlot c er = some j) : (∀ m, er = some m → j = some (c.N.idxOf m) ∧ c.N[c.N.idxOf m]? = some m ∧ c.sc.names.lookup m = some .local) ∧ (er = none → j = none) := by
  cases er with
  | none =>
    simp only [nmSlot] at h
    cases h
    exact ⟨fun m e => (by cases e), fun _ => rfl⟩
  | some m =>
    simp only [nmSlot] at h
    split at h
    · rename_i q
      cases h
      exact ⟨fun m' e => by cases e; exact ⟨rfl, q.1, q.2⟩, fun e => by cases e⟩
    · cases h
theorem cHds_ok (h : CtxOk X W c T k) {Xa : List (Nat × Addr)} (xs : XsOk X.prog X.K X.mg Xa) (hXs : ∀ n ∈ c.Xs, ∃ C, (n, C) ∈ Xa) : ∀ {hds : List ExceptHandler} {hS : S}, cHds c hds = some hS → ∃ l, HdsOk X W hds hS l
  | [], hS, e => by
    simp only [cHds] at e
    cases e
    exact ⟨[], .nil, fun D x env S ρ σ H cls dx hx q ok xr => q cls dx σ H ρ (Frm.refl _ _) (Grow.refl _ _) ok xr⟩
  | .ExceptHandler ty er body pos :: r, hS, e => by
    unfold cHds at e
    split at e
    · rename_i eq
      cases eq
    · rename_i x px er' st pos' r' eq
      cases eq
      split at e
      case h_2 => cases e
      rename_i n j hr hx hj hhr
      split at e
      case isFalse => cases e
      rename_i q
      obtain ⟨q1, q2, q3⟩ := q
      obtain ⟨C0, hn⟩ := hXs n q1
      have o := xs.at_ _ hn
      obtain ⟨exn, hlt⟩ := xOf_some hx
      subst exn
      obtain ⟨l, L⟩ := cHds_ok h xs hXs hhr
      obtain ⟨j1, j2⟩ := nmSlot_ok hj
      have hnm : Names X (xName n) (.ref C0) := ⟨h.gl q2, q3, .inl o.g⟩
      have mk : ∀ {ret : Bool} {i : Nat} {hx : HX}, (ret = false → j ≠ some i) → (∀ (a : Addr) (oe : Obj) (cls : Value) (d : Option Addr) (pn : List (Addr × Obj)), Zc cls d oe → (∃ vs, oe.data = .fields vs) → PSs (X.suite a ((a, oe) :: pn)) [st] (tHd X j n ret i hx a cls d)) →
          ∃ l, HdsOk X W (.ExceptHandler (some (.Name (xName n) px)) er [st] pos :: r) (.hd n j ret i hx hr) l := by
        intro ret i hx hij hsu
        refine ⟨⟨.ref C0, j, tHd X j n ret i hx⟩ :: l, ?_, hd_one xs hn hij L.rd⟩
        cases er with
        | none =>
          have := j2 rfl
          subst this
          exact .bare hnm hsu L.cl
        | some m =>
          obtain ⟨ej, b1, b2⟩ := j1 m rfl
          subst ej
          exact .named hnm (by rw [h.N]; exact b1) (by unfold Env.kindOf; rw [h.sc]; exact b2) hsu L.cl
      have hjj : ∀ m, er = some m → j = some (c.N.idxOf m) := fun m e => (j1 m e).1
      unfold cHd1 at e
      split at e
      · split at e
        · rename_i i hi
          split at e
          · rename_i z
            cases e
            obtain ⟨t1, t2, t3⟩ := tslot_ok h hi
            refine mk (fun _ => z.2) fun a oe cls d pn hz hf => suite_set h.nd t1 t2 t3 (cH_ok h o hz hf hjj 12 _) (noComp_sw z.1 _ _ _)
          · cases e
        · cases e
      · cases e
        exact mk (fun z => by cases z) fun a oe cls d pn hz hf => suite_ret (cH_ok h o hz hf hjj 12 _)
      · cases e
    · cases e
end
end LK
set_option Elab.async false
set_option linter.all false
set_option autoImplicit false
set_option maxRecDepth 100000
set_option maxHeartbeats 2000000
/-! LK12s: sorted(..) hands a new list. -/
namespace LK
open PySem PySem.Calls PySem.W PySem.SeqAt PySem.Spec PyProof.Rows L2
variable [Tt]
section
variable {X : Cx} {W : WX}
theorem df_sorted {a : Expr} {da : E} {C : Call} {p pos : Pos} (hu : X.A.units + 100 < cLine) (hg : Gl X "sorted") (hm : X.mg "sorted" = none) (hv : bootBuiltins "sorted" = some (.builtin "sorted")) (hn : ("sorted" : Str) ≠ "__name__") (hd : (("sorted" : Str) == ("__debug__" : Str)) = false)
    (ns : noStar a = true) (ha : DE X W a (den C da)) : PE X (.Call (.Name "sorted" p) [a] [] pos) (tF X W (den C (.un .sorted da)).v) :=
  (pe_callB (cr_sortedD hu) hg hm hv (pa_cons ha.v pa_nil (star_plain ns _ _)) hn hd (star_plain ns _ _)).weak fun σ H Q ⟨env, S, ρ, k, h⟩ => ⟨env, S, ρ, k, FP.bind h k.s.live fun x S1 vx H1 ρ1 f1 g1 k1 r1 h1 => by
    cases hd : unD S1 .sorted x with
    | none => rw [hd] at h1; exact h1.elim
    | some d =>
      rw [hd] at h1
      simp only [unD, Option.bind_eq_some_iff] at hd
      obtain ⟨l, hl, k', hk, hd⟩ := hd
      split at hd
      case isFalse => cases hd
      rename_i hc
      cases hd
      rw [Bool.and_eq_true, List.all_eq_true] at hc
      have hL := allLike_likes hc.1
      obtain ⟨a, vs, rfl, hq, hz, r1⟩ := Rep.items (K := X.K) k1.s hl r1
      have r2 := Reps.thaw k1.s l k' vs hk r1
      have r3 : Reps ρ1 H1 k' vs := Reps.flat k' vs (flats_of fun y hy => (like_flat y (hL.like y hy y hy)).1) r2
      refine ⟨a, vs, k', rfl, hq, r2.length, Reps.dp k' vs (thaws_pure S1 l k' hk) r2, hc.1, tup_or hL, fun y hy => ?_, fun bs p hp ha hf => ?_⟩
      · have := shal2_depth (a := y) (b := y) (by unfold shal2; rw [hc.2 y hy]; rfl)
        omega
      · have e1 : (vs.zip k').map (·.2) = k' := by
          rw [List.map_snd_zip]
          rw [r2.length]
          exact Nat.le_refl _
        have hperm : (bs.map (·.2)).Perm k' := by
          have := hp.map (·.2)
          rwa [e1] at this
        obtain ⟨s1, s2⟩ := sorted_ok hL
        have e2 : bs.map (·.2) = sorted k' := asc_unique (hL.sub fun y hy => hperm.mem_iff.mp hy) (hperm.trans s1.symm) (List.pairwise_map.mpr ha) s2
        have rr := reps_of (bs := bs) fun b hb => reps_zip r3 b (hp.mem_iff.mp hb)
        rw [e2] at rr
        exact h1 p _ H1 ρ1 (Frm.refl _ _) (Grow.refl _ _) k1 rr (by
          rw [s1.length_eq, ← r2.length, r1.length]
          exact hz) hf⟩
end
end LK
set_option Elab.async false
set_option linter.all false
set_option autoImplicit false
set_option maxRecDepth 100000
set_option maxHeartbeats 2000000
/-! LK25s: sorted(set(..)) hands a new list. -/
namespace LK
open PySem PySem.Spec PyProof.Rows L2
variable [Tt] in
theorem df_sset {X : Cx} {W : WX} {a : Expr} {da : E} {C : Call} {p p2 q pos : Pos} (hc : X.calm = true) (hu : X.A.units + 100 < cLine) (hg : Gl X "sorted") (hm : X.mg "sorted" = none) (hg2 : Gl X "set") (hm2 : X.mg "set" = none) (ns : noStar a = true) (ha : DE X W a (den C da)) :
    PE X (.Call (.Name "sorted" p) [.Call (.Name "set" p2) [a] [] q] [] pos) (tF X W (den C (.un .sset da)).v) :=
  (pe_callB (cr_sortX hc hu) hg hm (by decide +kernel) (pa_cons (pe_callTy (cr_setD hc (by omega)) hg2 hm2 (by decide +kernel) (pa_cons ha.v pa_nil (star_plain ns _ _)) (by decide) (by decide) (star_plain ns _ _)) pa_nil rfl) (by decide) (by decide) rfl).weak fun σ H Q ⟨env, S, ρ, k, h⟩ =>
    ⟨env, S, ρ, k, FP.bind h k.s.live fun x S1 vx H1 ρ1 f1 g1 k1 r1 h1 => by
      cases hd : unD S1 .sset x with
      | none => rw [hd] at h1; exact h1.elim
      | some d =>
      rw [hd] at h1
      simp only [unD, Option.bind_eq_some_iff] at hd
      obtain ⟨l, hl, hd⟩ := hd
      split at hd
      case isFalse => cases hd
      rename_i hcond
      cases hd
      simp only [Bool.and_eq_true, decide_eq_true_eq, List.all_eq_true, Bool.or_eq_true] at hcond
      obtain ⟨⟨⟨hfew, hal⟩, hsh⟩, hso⟩ := hcond
      have hL := allLike_likes hal
      replace hfew : l.length < 64 ∨ ∃ m : List D, (∀ d ∈ l, d ∈ m) ∧ m.length < 63 := hfew.imp id fun h => ⟨sset l, fun d hd => ((sset_ok hL).1 d).mpr hd, h⟩
      have hpure : D.pures l = true := by
        have : ∀ m : List D, (∀ d ∈ m, d.pure = true) → D.pures m = true := by
          intro m
          induction m with
          | nil => exact fun _ => rfl
          | cons y m ih => exact fun h => by simp [D.pures, h y List.mem_cons_self, ih fun z hz => h z (List.mem_cons_of_mem _ hz)]
        exact this l hL.pure
      obtain ⟨b, hb⟩ : ∃ b : Bool, ∀ d ∈ l, sameSort b d := by
        rcases hso with h | h
        · exact ⟨true, fun d hd => ⟨hk_like d (hL.like d hd d hd), hsh d hd, h d hd⟩⟩
        · exact ⟨false, fun d hd => ⟨hk_like d (hL.like d hd d hd), hsh d hd, h d hd⟩⟩
      obtain ⟨c, vs, rfl, hq, hz, rr⟩ := Rep.items (K := X.K) k1.s hl r1
      refine ⟨c, vs, l, b, rfl, hq, rr.length, Reps.dp l vs hpure rr, hfew, hb, fun a0 rows hn hrows hall => ?_⟩
      have s1 : Same H1 (upd H1 a0 (SetXO X.prog X.w b a0 (rows.map (·.1)))) := same_new hn
      have k2 := k1.same s1
      have rr2 : Reps ρ1 (upd H1 a0 (SetXO X.prog X.w b a0 (rows.map (·.1)))) l vs := Reps.mono (frm_of s1) (Grow.refl _ _) k1.s.live l vs rr
      have hrep : ∀ r ∈ rows, Rep ρ1 (upd H1 a0 (SetXO X.prog X.w b a0 (rows.map (·.1)))) r.2.2 r.2.1 := fun r hr => reps_zip rr2 r.2 (hrows r hr).1
      have hml : ∀ r ∈ rows, r.2.2 ∈ l := fun r hr => (List.of_mem_zip (hrows r hr).1).2
      refine ⟨a0, b, rows, rfl, upd_same, fun r hr => ⟨(hrows r hr).2.1, (hrows r hr).2.2, dp_zip (Reps.dp l vs hpure rr2) r.2 (hrows r hr).1, hb _ (hml r hr)⟩, fun r hr r' hr' => hL.like _ (hml r hr) _ (hml r' hr'), fun rows' p0 pm nd pw hp0 => ?_⟩
      have s2 : Same (upd H1 a0 (SetXO X.prog X.w b a0 (rows.map (·.1)))) (upd (upd H1 a0 (SetXO X.prog X.w b a0 (rows.map (·.1)))) p0 (.lst (rows'.map (·.2.1)))) := same_new hp0
      have hin : ∀ r ∈ rows', r ∈ rows := fun r hr => pm.mem_iff.mp hr
      have elist : rows'.map (·.2.2) = sset l := by
        refine sset_eq hL (fun z => ?_) nd (List.pairwise_map.mpr (pw.imp fun h => h))
        constructor
        · intro hz
          obtain ⟨r, hr, rfl⟩ := List.mem_map.mp hz
          exact hml r (hin r hr)
        · intro hz
          obtain ⟨r, hr, e⟩ := List.mem_map.mp (hall z hz)
          refine List.mem_map.mpr ⟨r, pm.mem_iff.mpr hr, ?_⟩
          rw [(hrows r hr).2.2] at e
          exact nkD_inj _ _ (hb _ (hml r hr)).1 (hb _ hz).1 e
      have rfin : Reps ρ1 (upd H1 a0 (SetXO X.prog X.w b a0 (rows.map (·.1)))) (rows'.map (·.2.2)) (rows'.map (·.2.1)) := by
        have := reps_of (bs := rows'.map (·.2)) fun c hc => by
          obtain ⟨r, hr, rfl⟩ := List.mem_map.mp hc
          exact hrep r (hin r hr)
        rw [List.map_map, List.map_map] at this
        exact this
      rw [elist] at rfin
      refine h1 p0 _ _ ρ1 (frm_of s1) (Grow.refl _ _) k2 rfin ?_ hp0
      rw [← elist, List.length_map, pm.length_eq]
      have hle : rows.length ≤ l.length ∨ True := .inr trivial
      have nd2 : ((rows'.map (·.2.2))).length ≤ l.length := List.Nodup.length_le_of_subset nd fun z hz => by
        obtain ⟨r, hr, rfl⟩ := List.mem_map.mp hz
        exact hml r (hin r hr)
      rw [List.length_map, pm.length_eq] at nd2
      omega⟩
end LK
set_option Elab.async false
set_option linter.all false
set_option autoImplicit false
set_option maxRecDepth 100000
set_option maxHeartbeats 1000000
/-! LK16: statements, all. -/
namespace LK
open PySem PySem.Spec PyProof.Rows L2
variable [Tt]
/-- new lists -/
def cF : Nat → Ctx → Expr → E
  | 0, _, _ => .nil
  | n + 1, c, e => match e with
    | .List es _ => .lst (cL (cZ (cE n c) c) es)
    | .ListComp elt gs scope _ => cLC (cZ (cE n c) c) (cZ (cE n (inBlk c scope)) (inBlk c scope)) c elt gs scope
    | .Call (.Name x _) [a] [] _ => match isSset c x [a] [] with
      | some b => .un .sset (cZ (cE n c) c b)
      | none => if x = "list" ∧ blt c x = true ∧ noStar a = true then .un .list (cZ (cE n c) c a) else if x = "sorted" ∧ blt c x = true ∧ noStar a = true then .un .sorted (cZ (cE n c) c a) else .nil
    | .BinOp a .Add b _ => .bin .add (cZ (cE n c) c a) (cZ (cE n c) c b)
    | .BoolOp .Or [a, b] _ => .or (cF n c a) (cF n c b)
    | _ => .nil
def cMk (n : Nat) (c : Ctx) (e : Expr) : E := if isRetCall c e = true then cE n c e else .mk (cF n c e)
/-- a value for a name -/
def cVal (n : Nat) (c : Ctx) (M : List Str) (x : Str) (e : Expr) : E := if x ∈ M then cMk n c e else cZ (cE n c) c e
def isComp : Expr → Bool
  | .ListComp _ _ _ _ => true
  | .SetComp _ _ _ _ => true
  | .DictComp _ _ _ _ _ => true
  | _ => false
/-- name = [..] on a line -/
def swapOk (c : Ctx) (x : Str) (py : Pos) : Expr → Bool
  | .ListComp _ _ scope pos => decide (c.sc.kind = .function) && decide (c.sc.names.lookup x = some .local) && (py.line == pos.line) && !(scope.names.any fun (n, k) => n == x && (k == .local || k == .cell))
  | _ => false
/-- a comprehension for a name that is captured -/
def plainComp (c : Ctx) (x : Str) : Expr → Bool
  | .ListComp _ _ _ _ => decide (c.sc.names.lookup x ≠ some .local)
  | _ => false
def isTup2 : Expr → Bool
  | .Tuple _ _ _ => true
  | _ => false
def cSs (f : Stmt → S) : List Stmt → S
  | [] => .skip
  | s :: r => .seq (f s) (cSs f r)
def cPair (n : Nat) (c : Ctx) (M : List Str) (x y : Str) (px py : Pos) (a b e : Expr) : S :=
  if c.sc.kind = .function ∧ c.N[c.N.idxOf x]? = some x ∧ c.N[c.N.idxOf y]? = some y ∧ c.N.idxOf x ≠ c.N.idxOf y ∧ (x == y) = false ∧ c.sc.names.lookup x = some .local ∧ c.sc.names.lookup y = some .local ∧ (py.line == px.line) = true ∧ noStar a = true ∧ noStar b = true ∧
      (foldedForSure 8 a && foldedForSure 8 b) = false ∧ (constantsAlone 8 a && constantsAlone 8 b) = false then .pasg (c.N.idxOf x) (c.N.idxOf y) (cVal n c M x a) (cVal n c M y b)
  else if ¬ (c.sc.names.lookup x = some .local ∧ c.sc.names.lookup y = some .local) then (match cNames c [.Name x px, .Name y py] with | some l => (if noStar a = true ∧ noStar b = true then .tasg l (.tup (.cons (cVal n c M x a) (.cons (cVal n c M y b) .nil))) else .stop) | none => .stop)
  else if (foldedForSure 8 a && foldedForSure 8 b) = true ∧ noStar a = true ∧ noStar b = true then (match cNames c [.Name x px, .Name y py] with | some l => .tasg l (.tup (.cons (cVal n c M x a) (.cons (cVal n c M y b) .nil))) | none => .stop) else .stop
def cS : Nat → Ctx → List Str → Bool → Stmt → S
  | 0, _, _, _, _ => .stop
  | n' + 1, c, M, ret, st => match st with
    | .Assign [.Name x p] e _ => (match tslot c x with
      | some i => if isComp e = false ∨ swapOk c x p e = true ∨ plainComp c x e = true then .asg i (cVal n' c M x e) else .stop
      | none => .stop)
    | .Assign [.Tuple [.Name x px, .Name y py] _ _] (.Tuple [a, b] k2 pt2) _ => cPair n' c M x y px py a b (.Tuple [a, b] k2 pt2)
    | .Assign [.Tuple es _ _] e _ => if isTup2 e = false then (match cNames c es with | some l => .tasg l (cZ (cE n' c) c e) | none => .stop) else .stop
    | .Assign [.Subscript o i _] e _ => if plainIx i = true ∧ isComp e = false then .setix (cZ (cE n' c) c o) (cZ (cE n' c) c i) (cZ (cE n' c) c e) else .stop
    | .Expr (.Constant (.str _) _ _) _ => .skip
    | .Expr (.Call (.Attribute o a apos) [e] [] cpos) _ => if a = "append" ∧ notSuper o = true ∧ (apos.endLine == cpos.line) = true ∧ noStar e = true then .app (cZ (cE n' c) c o) (cZ (cE n' c) c e) else if a = "extend" ∧ notSuper o = true ∧ (apos.endLine == cpos.line) = true ∧ noStar e = true then .ext (cZ (cE n' c) c o) (cZ (cE n' c) c e) else .stop
    | .Expr e _ => if isComp e = false then .ex (cZ (cE n' c) c e) else .stop
    | .Return none _ => .ret (.lit .non)
    | .Return (some e) _ => .ret (if ret = true then cMk n' c e else cZ (cE n' c) c e)
    | .If d a b _ => .ite (cZ (cE n' c) c d) (cSs (cS n' c M ret) a) (cSs (cS n' c M ret) b)
    | .For tg it body [] _ => (match cT c tg with
      | some (tp, is) => if notSet it = true then .for_ tp is (cI (cZ (cE n' c) c) c tg it) (cSs (cS n' c M ret) body) else .stop
      | none => .stop)
    | .While d body [] _ => .while_ (cZ (cE n' c) c d) (cSs (cS n' c M ret) body)
    | .Pass _ => .skip
    | .Raise (some (.Call (.Name x _) args [] _)) none _ => (match xOf x with
      | some n => if n ∈ c.Xs ∧ gl c x = true ∧ (x == ("__debug__" : Str)) = false then (match args with
          | [] => if xHas n = false then .raise_ n .nil else .stop
          | [a] => if xHas n = true ∧ noStar a = true then .raise_ n (.cons (cZ (cE n' c) c a) .nil) else .stop
          | _ => .stop) else .stop
      | none => .stop)
    | .Try body (h0 :: hds) [] [] _ => (match cHds c (h0 :: hds) with
      | some h => .try_ (cSs (cS n' c M ret) body) h
      | none => .stop)
    | _ => .stop
section
variable {X : Cx} {W : WX} {c : Ctx} {T : Nat → Option Fn} {k : Nat}
theorem pf_bad {e : Expr} {C : Call} : PE X e (tF X W (den C .nil).v) := ⟨fun pins s σ H Q I ⟨env, S, ρ, k, h⟩ => h.elim⟩
theorem cF_ok : ∀ (n : Nat), CtxOk X W c T k → ∀ e, PE X e (tF X W (den (callF T k) (cF n c e)).v)
  | 0, h, e => pf_bad
  | n + 1, h, e => by
    have hf : ∀ e, DE X W e (den (callF T k) (cZ (cE n c) c e)) := cZ_ok (cE_ok n h)
    unfold cF
    split
    · exact df_lst (cL_ok hf _)
    · rename_i elt gs scope pos
      rcases cLC_parts h hf (fun X' h' => cZ_ok (cE_ok n h')) elt gs (g := cZ (cE n (inBlk c scope)) (inBlk c scope)) (scope := scope) with e | ⟨own, tp, is, src, cnd, x, e, p⟩
      · rw [e]; exact pf_bad
      · rw [e]
        have hin : ∀ i ∈ is, i ∈ own := by
          obtain ⟨tg, it, ifs, ow, rfl, rfl, p1, p2, p3, p4, p5, p6, p7⟩ := p.ex
          exact p3
        exact (lc_pe h p).weak fun σ H Q q => lc_readF hin q
    · split
      · rename_i b hb
        unfold isSset at hb
        split at hb
        · rename_i heq _
          injection heq with e1 e2
          subst e1
          split at hb
          · rename_i q
            obtain ⟨rfl, rfl, q1, q2, q3⟩ := q
            cases hb
            obtain ⟨hg, hm⟩ := h.blt q1
            obtain ⟨hg2, hm2⟩ := h.blt q2
            exact df_sset h.calm h.un hg hm hg2 hm2 q3 (hf _)
          · cases hb
        · cases hb
      split
      · rename_i q
        obtain ⟨rfl, hb, ns⟩ := q
        obtain ⟨hg, hm⟩ := h.blt hb
        exact df_list call_list_of hg hm (by decide +kernel) (by decide) (by decide) ns (hf _)
      split
      · rename_i q
        obtain ⟨rfl, hb, ns⟩ := q
        obtain ⟨hg, hm⟩ := h.blt hb
        exact df_sorted h.un hg hm (by decide +kernel) (by decide) (by decide) ns (hf _)
      · exact pf_bad
    · exact df_cat (hf _) (hf _)
    · exact df_or (cF_ok n h _) (cF_ok n h _)
    · exact pf_bad
theorem cMk_ok (h : CtxOk X W c T k) (n : Nat) (e : Expr) : PE X e (tD X W (den (callF T k) (cMk n c e)).v) := by
  unfold cMk
  split
  · exact (cE_ok n h e).v
  · exact (cF_ok n h e).weak fun σ H Q q => mk_read q
theorem cVal_ok (h : CtxOk X W c T k) (n : Nat) (M : List Str) (x : Str) (e : Expr) : PE X e (tD X W (den (callF T k) (cVal n c M x e)).v) := by
  unfold cVal
  split
  · exact cMk_ok h n e
  · exact (cZ_ok (cE_ok n h) e).v
theorem sw_plain {e : Expr} (h : isComp e = false) (t : Option Expr) (l : Nat) (env : PySem.Env) : swapsWith e t l env = pure false := by
  cases e <;> first | rfl | (simp [isComp] at h)
theorem sw_cell {c : Ctx} {x : Str} {p : Pos} {e : Expr} {l : Nat} {env : PySem.Env} (hs : env.scope = c.sc) (h : plainComp c x e = true) : swapsWith e (some (.Name x p)) l env = pure false := by
  cases e <;> simp only [plainComp] at h <;> first | (cases h; done) | skip
  have hk : (env.kindOf x == some NameKind.local) = false := by
    unfold Env.kindOf
    rw [hs]
    simpa using h
  unfold swapsWith
  simp only [pure_bind, hk, Bool.and_false, Bool.false_and]
theorem sole_plain {e : Expr} (h : isComp e = false) (t : Expr) (l : Nat) (env : PySem.Env) : swapsWithSole [t] e l env = pure false := by
  cases e <;> first | rfl | (simp [isComp] at h)
theorem tup_sw {e : Expr} (h : isTup2 e = false) (es : List Expr) (kt : Nat) (pt : Pos) (l : Nat) (env : PySem.Env) : swapsWithSole [.Tuple es kt pt] e l env = pure false ∧ swappedStores [.Tuple es kt pt] e env = pure none := by
  cases e <;> first | exact ⟨rfl, rfl⟩ | (simp [isTup2] at h)
theorem ps_bad {st : Stmt} {C : Call} : PS X st (tS X W (sden C .stop)) := ⟨fun pins s σ H D I ⟨env, S, ρ, k, h⟩ => h.elim⟩
theorem sw_pair {env : PySem.Env} {x y : Str} {px py pt : Pos} {kt k2 : Nat} {pt2 : Pos} {a b : Expr} (hk : env.scope.kind = .function) (hxy : (x == y) = false) (hx : env.scope.names.lookup x = some .local) (hy : env.scope.names.lookup y = some .local) (hl : (py.line == px.line) = true)
    (na : noStar a = true) (nb : noStar b = true) (h1 : (foldedForSure 8 a && foldedForSure 8 b) = false) (h2 : (constantsAlone 8 a && constantsAlone 8 b) = false) :
    swappedStores [.Tuple [.Name x px, .Name y py] kt pt] (.Tuple [a, b] k2 pt2) env = pure (some [x, y]) := by
  have hb : env.blockKind = .function := by unfold Env.blockKind; rw [hk]; rfl
  have kx : env.kindOf x = some .local := hx
  have ky : env.kindOf y = some .local := hy
  have st : ([a, b].any fun | .Starred .. => true | _ => false) = false := by
    cases a <;> cases b <;> first | rfl | (simp [noStar] at na nb)
  have h1' : [a, b].all (foldedForSure 8) = false := by simpa using h1
  have h2' : [a, b].all (constantsAlone 8) = false := by simpa using h2
  have hne : ¬ y = x := fun e => by subst e; simp at hxy
  unfold swappedStores
  simp only [pure_bind, List.length_cons, List.length_nil]
  rw [hb]
  simp only [st, h1', h2', List.filterMap_cons, List.filterMap_nil, kx, ky, List.head?_cons, Option.map_some, Option.getD_some, Expr.pos, hl, beq_self_eq_true, Bool.and_self, Bool.true_and, if_true]
  have he : [x, y].eraseDups = [x, y] := by
    have hne2 : (!(y == x)) = true := by simpa using hne
    simp [List.eraseDups_cons, hne]
  rw [if_neg (by decide), if_neg (fun e => absurd (e.symm.trans st) (by decide)), he, if_neg (by simp), if_neg (by decide), if_neg (by decide)]
theorem sw_pair_none {env : PySem.Env} {x y : Str} {px py pt : Pos} {kt k2 : Nat} {pt2 : Pos} {a b : Expr} (hn : ¬ (env.scope.names.lookup x = some .local ∧ env.scope.names.lookup y = some .local)) :
    swappedStores [.Tuple [.Name x px, .Name y py] kt pt] (.Tuple [a, b] k2 pt2) env = pure none := by
  have kx : env.kindOf x = env.scope.names.lookup x := rfl
  have ky : env.kindOf y = env.scope.names.lookup y := rfl
  have hlen : ([Expr.Name x px, Expr.Name y py].filterMap fun | .Name id pos => if (env.kindOf id == some .local && pos.line == ((([Expr.Name x px, Expr.Name y py].head?).map (·.pos.line)).getD 0)) = true then some id else none | _ => none).length ≠ 2 := by
    simp only [List.filterMap_cons, List.filterMap_nil, kx, ky]
    by_cases h1 : env.scope.names.lookup x = some .local
    · have h2 : ¬ env.scope.names.lookup y = some .local := fun h2 => hn ⟨h1, h2⟩
      have e2 : (env.scope.names.lookup y == some NameKind.local) = false := by simpa using h2
      rw [e2]
      simp only [Bool.false_and, Bool.false_eq_true, if_false]
      split <;> simp
    · have e1 : (env.scope.names.lookup x == some NameKind.local) = false := by simpa using h1
      rw [e1]
      simp only [Bool.false_and, Bool.false_eq_true, if_false]
      split <;> simp
  unfold swappedStores
  simp only [pure_bind]
  split
  · rfl
  · split
    · rfl
    · split
      · rfl
      · rename_i h1 h2 h3
        exfalso
        simp only [Bool.or_eq_true, bne_iff_ne, ne_eq, not_or, Decidable.not_not] at h3
        exact hlen h3.1
theorem sw_pair_fold {env : PySem.Env} {x y : Str} {px py pt : Pos} {kt k2 : Nat} {pt2 : Pos} {a b : Expr} (hf : (foldedForSure 8 a && foldedForSure 8 b) = true) :
    swappedStores [.Tuple [.Name x px, .Name y py] kt pt] (.Tuple [a, b] k2 pt2) env = pure none := by
  have h1 : [a, b].all (foldedForSure 8) = true := by simpa using hf
  unfold swappedStores
  simp only [pure_bind]
  split
  · rfl
  · split
    · rfl
    · split
      · rfl
      · simp only [h1, if_true]
/-- where a def's body runs -/
structure BodyOk (X : Cx) (W : WX) (c : Ctx) (T : Nat → Option Fn) (k : Nat) : Prop where
  cx : CtxOk X W c T k
  po : PassesOwn (model X.prog X.w) X.A X.env X.xe
  st : X.stack = X.env :: X.outer
  fr : X.env.frame = some X.env.locals
  xs : c.Xs ≠ [] → ∃ Xa, XsOk X.prog X.K X.mg Xa ∧ ∀ n ∈ c.Xs, ∃ C, (n, C) ∈ Xa
theorem BodyOk.tr {X : Cx} {W W' : WX} {c : Ctx} {T : Nat → Option Fn} {k : Nat} (b : BodyOk X W c T k) {pn : List (Addr × Obj)} {xe : Value → Shared → Prop} (tk : Takes (X.tr pn xe) W') (po : PassesOwn (model X.prog X.w) X.A X.env xe) : BodyOk (X.tr pn xe) W' c T k :=
  ⟨⟨b.cx.N, b.cx.nd, b.cx.sc, b.cx.fn, b.cx.calm, b.cx.room, tk, b.cx.bl, b.cx.gc, fun e he p hp => ⟨(b.cx.cal e he p hp).ex⟩, fun e => ⟨(b.cx.lam e).ex⟩⟩, po, b.st, b.fr, b.xs⟩
theorem cHds_ne {c : Ctx} {h0 : ExceptHandler} {hds : List ExceptHandler} {h : S} (e : cHds c (h0 :: hds) = some h) : c.Xs ≠ [] := by
  intro z
  unfold cHds at e
  split at e
  · rename_i eq
    cases eq
  · rename_i eq
    cases eq
    split at e
    · split at e
      · rename_i q
        rw [z] at q
        cases q.1
      · cases e
    · cases e
  · cases e
theorem ds_try {X : Cx} {W : WX} {c : Ctx} {T : Nat → Option Fn} {k : Nat} (b : BodyOk X W c T k) {body : List Stmt} {h0 : ExceptHandler} {hds : List ExceptHandler} {db dh : S} {pos : Pos} (eh : cHds c (h0 :: hds) = some dh)
    (hb : ∀ {X' : Cx} {W' : WX}, BodyOk X' W' c T k → PSs X' body (tS X' W' (sden (callF T k) db))) : PS X (.Try body (h0 :: hds) [] [] pos) (tS X W (sden (callF T k) (.try_ db dh))) := by
  obtain ⟨Xa, xs, hXs⟩ := b.xs (cHds_ne eh)
  obtain ⟨l, L⟩ := cHds_ok b.cx xs hXs eh
  refine (LX.ps_try (tb := fun W' => tS X W' (sden (callF T k) db)) b.st b.fr b.cx.nd b.cx.tk (fun W' pn xe tk po => hb (b.tr tk po)) L.cl).weak fun D σ H ⟨env, S, ρ, ok, h⟩ => ⟨env, S, ρ, ok, ?_⟩
  replace h : SRP X W ρ H (match sden (callF T k) db env S with
    | .exc x env S => if x.cls < 10 then hden dh x env S else .bad
    | r => r) D := h
  cases hd : sden (callF T k) db env S with
  | nx e S' => rw [hd] at h; exact h
  | rt d S' => rw [hd] at h; exact h
  | bad => rw [hd] at h; exact h.elim
  | exc x e S' =>
    rw [hd] at h
    simp only at h
    split at h
    · rename_i hx
      intro cls dx σ' H' ρ' f g k' xr
      exact L.rd D x e S' ρ' σ' H' cls dx hx (SRP.weak h f g ok.s.live k'.s.live) k' xr
    · exact h.elim
theorem cSs_ok {C : Call} {f : Stmt → S} (hf : ∀ s, PS X s (tS X W (sden C (f s)))) : ∀ l : List Stmt, PSs X l (tS X W (sden C (cSs f l)))
  | [] => dss_nil
  | s :: r => dss_cons (hf s) (cSs_ok hf r)
theorem asg_comp (h : CtxOk X W c T k) {n : Nat} {M : List Str} {x : Str} {p pos : Pos} {e : Expr} {i : Nat} (hi : tslot c x = some i) (hs : swapOk c x p e = true) : PS X (.Assign [.Name x p] e pos) (tS X W (sden (callF T k) (.asg i (cVal n c M x e)))) := by
  cases e <;> simp only [swapOk] at hs <;> first | (cases hs; done) | skip
  rename_i elt gs scope cpos
  simp only [Bool.and_eq_true, decide_eq_true_eq, Bool.not_eq_true'] at hs
  obtain ⟨⟨⟨s1, s2⟩, s3⟩, s4⟩ := hs
  obtain ⟨t1, t2, t3⟩ := tslot_ok h hi
  have hloc : X.env.scope.names.lookup x = some .local := by rw [h.sc]; exact s2
  have hkind : X.env.scope.kind = .function := by rw [h.sc]; exact s1
  have main : ∀ {own : List Nat} {tp : Bool} {is : List Nat} {src cnd xx : E} {t : TE}, LcParts X W (callF T k) elt gs scope own tp is src cnd xx → (∀ σ H Q, t σ H Q → tLc (tI X W (den (callF T k) src).i) (gT X.K tp is) (tB X W0 (den (callF T k) cnd).t) (tD X W0 (den (callF T k) xx).v) own σ H Q) →
      PS X (.Assign [.Name x p] (.ListComp elt gs scope cpos) pos) (tAsg t (gName i)) := by
    intro own tp is src cnd xx t p ht
    obtain ⟨tg, it, ifs, ow, rfl, rfl, p1, p2, p3, p4, p5, p6, p7⟩ := p.ex
    exact (ps_setLc h.calm h.nd t1 hloc (sw_true hkind hloc s3 s4) p2 p1 p5 p6 p7 p4).weak fun D σ H q => ht σ H _ q
  have bad : PS X (.Assign [.Name x p] (.ListComp elt gs scope cpos) pos) (tAsg (tD X W badV) (gName i)) := ⟨fun pins s σ H D I ⟨env, S, ρ, k, h⟩ => h.elim⟩
  suffices PS X (.Assign [.Name x p] (.ListComp elt gs scope cpos) pos) (tAsg (tD X W (den (callF T k) (cVal n c M x (.ListComp elt gs scope cpos))).v) (gName i)) from this.weak fun D σ H q => asg_read q
  have hin : ∀ {own : List Nat} {tp : Bool} {is : List Nat} {src cnd xx : E}, LcParts X W (callF T k) elt gs scope own tp is src cnd xx → ∀ i ∈ is, i ∈ own := by
    intro own tp is src cnd xx p
    obtain ⟨tg, it, ifs, ow, rfl, rfl, p1, p2, p3, p4, p5, p6, p7⟩ := p.ex
    exact p3
  unfold cVal
  split
  · unfold cMk
    rw [if_neg (by simp [isRetCall])]
    cases n with
    | zero => exact ⟨fun pins s σ H D I ⟨env, S, ρ, k, h⟩ => h.elim⟩
    | succ n =>
      simp only [cF]
      rcases cLC_parts h (cZ_ok (cE_ok n h)) (fun X' h' => cZ_ok (cE_ok n h')) elt gs (g := cZ (cE n (inBlk c scope)) (inBlk c scope)) (scope := scope) with e | ⟨own, tp, is, src, cnd, xx, e, p⟩
      · rw [e]; exact ⟨fun pins s σ H D I ⟨env, S, ρ, k, h⟩ => h.elim⟩
      · rw [e]
        exact main p fun σ H Q q => lc_readF (hin p) (mk_read q)
  · cases n with
    | zero => exact ⟨fun pins s σ H D I ⟨env, S, ρ, k, h⟩ => h.elim⟩
    | succ n =>
      simp only [cZ, isRetCall, Bool.false_eq_true, if_false, cE]
      split
      · rcases cLC2_parts h (cZ_ok (cE_ok n h)) (fun X' h' => cZ_ok (cE_ok n h')) elt gs (g := cZ (cE n (inBlk c scope)) (inBlk c scope)) (scope := scope) with e | ⟨own, tp, is, src, cnd, tp1, is1, src1, cnd1, xx, e, p⟩
        · rw [e]; exact bad
        · rw [e]
          obtain ⟨tg, it, ifs, tg1, it1, ifs1, ow, rfl, rfl, p1, p2, p3, p3b, p4, p4b, p5, p6, q1, q2, q3, p7⟩ := p.ex
          exact (ps_setLc2 h.calm h.nd t1 hloc (sw_true hkind hloc s3 s4) p2 p1 p3b p5 p6 q1 q2 q3 p7 p4 p4b).weak fun D σ H q => lc2_read p3 q
      rcases cLC_parts h (cZ_ok (cE_ok n h)) (fun X' h' => cZ_ok (cE_ok n h')) elt gs (g := cZ (cE n (inBlk c scope)) (inBlk c scope)) (scope := scope) with e | ⟨own, tp, is, src, cnd, xx, e, p⟩
      · rw [e]; exact bad
      · rw [e]
        exact main p fun σ H Q q => lc_read (hin p) q
theorem da_consV {e : Expr} {es : List Expr} {de dr : E} {C : Call} (he : PE X e (tD X W (den C de).v)) (hr : PA X es (tLs X W (den C dr).l)) (hs : starEach (e :: es) X.env = (false, eval e X.env) :: starEach es X.env) : PA X (e :: es) (tLs X W (den C (.cons de dr)).l) :=
  (pa_cons he hr hs).weak fun σ H Q ⟨env, S, ρ, k, h⟩ => by
    refine ⟨env, S, ρ, k, RP.bind h k.s.live fun x S1 vx H1 ρ1 f1 g1 k1 r1 h1 => ?_⟩
    refine ⟨env, S1, ρ1, k1, RP.bind h1 k1.s.live fun y S2 vy H2 ρ2 f2 g2 k2 r2 h2 => ?_⟩
    refine h2 _ H2 ρ2 (Frm.refl _ _) (Grow.refl _ _) k2 ?_
    simp only [Reps]
    exact ⟨vx, vy, rfl, Rep.mono f2 g2 k1.s.live x vx r1, r2⟩
theorem cPair_ok (h : CtxOk X W c T k) {n : Nat} {M : List Str} {x y : Str} {px py pt pos : Pos} {kt k2 : Nat} {pt2 : Pos} {a b : Expr} : PS X (.Assign [.Tuple [.Name x px, .Name y py] kt pt] (.Tuple [a, b] k2 pt2) pos) (tS X W (sden (callF T k) (cPair n c M x y px py a b (.Tuple [a, b] k2 pt2)))) := by
  unfold cPair
  split
  · rename_i q
    obtain ⟨q1, q2, q3, q4, q5, q6, q7, q8, q9, q10, q11, q12⟩ := q
    rw [← h.sc] at q1 q6 q7
    exact ds_pasg h.calm h.nd (by rw [h.N]; exact q2) (by rw [h.N]; exact q3) q4 q6 q7 q10 q9 (cVal_ok h n M x a) (cVal_ok h n M y b) (sw_pair q1 q5 q6 q7 q8 q9 q10 q11 q12)
  · split
    · rename_i q
      split
      · rename_i l hl
        rw [← h.sc] at q
        split
        · rename_i qs
          exact ds_tasg (pg_tl h.calm (names_ok h hl).1 (names_ok h hl).2.1 (names_ok h hl).2.2) (de_tup (da_consV (cVal_ok h n M x a) (da_consV (cVal_ok h n M y b) da_nil (star_plain qs.2 _ _)) (star_plain qs.1 _ _))).v rfl (sw_pair_none q) rfl
        · exact ps_bad
      · exact ps_bad
    · split
      · rename_i q
        split
        · rename_i l hl
          exact ds_tasg (pg_tl h.calm (names_ok h hl).1 (names_ok h hl).2.1 (names_ok h hl).2.2) (de_tup (da_consV (cVal_ok h n M x a) (da_consV (cVal_ok h n M y b) da_nil (star_plain q.2.2 _ _)) (star_plain q.2.1 _ _))).v rfl (sw_pair_fold q.1) rfl
        · exact ps_bad
      · exact ps_bad
theorem cS_ok (M : List Str) (ret : Bool) : ∀ (n : Nat) {X : Cx} {W : WX} (b : BodyOk X W c T k) (st : Stmt), PS X st (tS X W (sden (callF T k) (cS n c M ret st)))
  | 0, X, W, b, st => ps_bad
  | n + 1, X, W, b, st => by
    have h := b.cx
    have hf : ∀ e, DE X W e (den (callF T k) (cZ (cE n c) c e)) := cZ_ok (cE_ok n h)
    have hs : ∀ l, PSs X l (tS X W (sden (callF T k) (cSs (cS n c M ret) l))) := cSs_ok (cS_ok M ret n b)
    unfold cS
    split
    · split
      · rename_i i hi
        obtain ⟨t1, t2, t3⟩ := tslot_ok h hi
        split
        · rename_i q
          rcases q with q | q | q
          · exact ds_asg h.nd t1 t2 t3 (cVal_ok h n M _ _) (sw_plain q _ _ _)
          · exact asg_comp h hi q
          · exact ds_asg h.nd t1 t2 t3 (cVal_ok h n M _ _) (sw_cell h.sc q)
        · exact ps_bad
      · exact ps_bad
    · exact cPair_ok h
    · split
      · rename_i q
        split
        · rename_i l hl
          exact ds_tasg (pg_tl h.calm (names_ok h hl).1 (names_ok h hl).2.1 (names_ok h hl).2.2) (hf _).v (tup_sw q _ _ _ _ _).1 (tup_sw q _ _ _ 0 _).2 rfl
        · exact ps_bad
      · exact ps_bad
    · split
      · rename_i q
        exact ds_setix q.1 (sole_plain q.2 _ _ _) (hf _) (hf _) (hf _)
      · exact ps_bad
    · exact ds_doc
    · split
      · rename_i q
        obtain ⟨rfl, q2, q3, q4⟩ := q
        exact ds_app q2 q3 q4 (hf _) (hf _)
      · split
        · rename_i q
          obtain ⟨rfl, q2, q3, q4⟩ := q
          exact ds_ext q2 q3 q4 (hf _) (hf _)
        · exact ps_bad
    · split
      · rename_i q
        exact ds_ex (hf _).v (sw_plain q _ _ _)
      · exact ps_bad
    · exact ds_retN
    · split
      · exact ds_ret (cMk_ok h n _)
      · exact ds_ret (hf _).v
    · exact ds_if (hf _) (hs _) (hs _)
    · split
      · rename_i tp is ht
        split
        · rename_i q
          exact ds_for b.po h.calm (cI_ok hf h _ _) (target_ok h ht) (hs _) (notSet_ok q _)
        · exact ps_bad
      · exact ps_bad
    · exact ds_while b.po (hf _) (hs _)
    · exact ds_pass
    · split
      · rename_i m hm
        obtain ⟨em, _⟩ := xOf_some hm
        subst em
        split
        · rename_i q
          obtain ⟨q1, q2, q3⟩ := q
          obtain ⟨Xa, xs, hXs⟩ := b.xs (List.ne_nil_of_mem q1)
          obtain ⟨C0, hC⟩ := hXs _ q1
          have o := xs.at_ _ hC
          have om := o.mkd
          split
          · split
            · rename_i hh
              rw [if_neg (by simp [hh])] at om
              obtain ⟨B, nI, iI, bm, F, e⟩ := om
              exact ds_raise0 h.calm h.tk F e o hh (h.gl q2) q3
            · exact ps_bad
          · split
            · rename_i hh
              rw [if_pos hh.1] at om
              obtain ⟨fI, B, nI, iI, bm, p, T⟩ := om
              exact ds_raise1 h.calm h.tk h.room T o hh.1 xs.su (h.gl q2) q3 hh.2 (hf _)
            · exact ps_bad
          · exact ps_bad
        · exact ps_bad
      · exact ps_bad
    · split
      · rename_i dh hd
        exact ds_try b hd fun {X' W'} b' => cSs_ok (cS_ok M ret n b') _
      · exact ps_bad
    · exact ps_bad
end
end LK
set_option Elab.async false
set_option linter.all false
set_option autoImplicit false
set_option maxRecDepth 100000
set_option maxHeartbeats 1000000
/-! LK17: defs. -/
namespace LK
open PySem PySem.Spec PyProof.Rows L2
variable [Tt]
/-- a def: its entry, its names, those that hold lists that change -/
structure Df where
  ent : Ent
  st : Stmt
  N : List Str
  M : List Str
  lam : Bool
  xs : List Nat
def ctxOf (G : List Ent) (B : List Str) (Cs : List (Str × D)) (d : Df) : Ctx := { N := d.N, sc := defScope d.st, fn := fun _ => true, G := G, B := B, Cs := Cs, lam := d.lam, Xs := d.xs }
/-- a constant of the text -/
def CstAt (mg : Str → Option Value) (p : Str × D) : Prop := ∃ v u, mg p.1 = some u ∧ RelV v u ∧ flatD p.2 v
theorem cst_look {mg : Str → Option Value} : ∀ {Cs : List (Str × D)}, (∀ p ∈ Cs, CstAt mg p) → ∀ x d, Cs.lookup x = some d → ∃ v u, mg x = some u ∧ RelV v u ∧ flatD d v
  | [], _, x, d, h => by simp at h
  | (y, e) :: Cs, hc, x, d, h => by
    rw [List.lookup_cons] at h
    split at h
    · rename_i q
      cases h
      rw [eq_of_beq q]
      exact hc _ List.mem_cons_self
    · exact cst_look (fun p hp => hc p (List.mem_cons_of_mem _ hp)) x d h
theorem erep_start {ρ : Rho} {H : Hp} {ds : List D} {vs : List V} {fn : Fn} {N : List Str} (r : Reps ρ H ds vs) (hn : fn.ns = N.length) (hl : vs.length ≤ N.length) : ERep ρ (env0 fn ds) (L2.start N vs) H := by
  have hlen := r.length
  refine ⟨?_, fun i d h => ?_⟩
  · unfold env0 L2.start
    simp only [List.length_append, List.length_map, List.length_replicate]
    omega
  · unfold env0 at h
    by_cases hi : i < ds.length
    · rw [List.getElem?_append_left (by simpa using hi), List.getElem?_map] at h
      cases hd : ds[i]? with
      | none => rw [hd] at h; cases h
      | some x =>
        rw [hd] at h
        cases h
        obtain ⟨v, hv, rv⟩ := r.get hd
        refine ⟨v, ?_, rv⟩
        unfold L2.start
        rw [List.getElem?_append_left (by simp; omega), List.getElem?_map, hv]
        rfl
    · rw [List.getElem?_append_right (by simp; omega), List.getElem?_replicate] at h
      split at h <;> cases h
theorem xrep_melt {K : PySem.W.Frag} {mg : Str → Option Value} {ρ : Rho} {n : Nat} {S : Store} {H : Hp} {x : XV} {a : List D} {c : Value} {dx : Option Addr} (s : SRep ρ S H) (hm : D.melts n S x.args = some a) (r : XRep K mg ρ H x c dx) : XRep K mg ⟨ρ.c.take n, ρ.h⟩ H ⟨x.cls, a⟩ c dx := by
  refine ⟨r.cls, ?_⟩
  rcases r.args with ⟨e1, e2⟩ | ⟨d, v, p, e1, e2, e3, rr⟩
  · rw [e1] at hm
    simp [D.melts] at hm
    exact .inl ⟨hm, e2⟩
  · rw [e1] at hm
    simp only [D.melts, Option.bind_eq_some_iff, Option.map_eq_some_iff] at hm
    obtain ⟨y, hy, z, hz, e⟩ := hm
    cases hz
    exact .inr ⟨y, v, p, e.symm, e2, e3, (Rep.melt s d y v hy rr).1⟩
section
variable {P : Program} {w : World} {K : PySem.W.Frag} {mg : Str → Option Value} {base : Heap}
theorem fin_read {X : Cx} {ret : Bool} {r : SR} {ρ : Rho} {S : Store} {H : Hp} {Q : VK} {E : XK} (s : SRep ρ S H) (h : CP X.K X.mg ρ H (fin ret S.length r) Q E) : SRP X (fun cls d _ H => E cls d H) ρ H r { nx := fun _ H' => Q .non H', rt := Q } := by
  cases r with
  | bad => exact h
  | nx env' S' =>
    unfold fin at h
    cases ret with
    | true => exact h.elim
    | false =>
      simp only [Bool.false_eq_true, if_false] at h
      split at h
      · rename_i hp
        intro σ' H' ρ' f g k
        obtain ⟨s2, e⟩ := srep_leave s g k.s hp
        exact h .non H' ρ f (Grow.refl _ _) s2 (by simp [Rep])
      · exact h.elim
  | exc x env' S' =>
    unfold fin at h
    simp only at h
    split at h
    · rename_i hp
      split at h
      · rename_i a ha
        intro c dx σ' H' ρ' f g k xr
        obtain ⟨s2, e⟩ := srep_leave s g k.s hp
        have q := xrep_melt k.s ha xr
        rw [e] at q
        exact h c dx H' ρ f (Grow.refl _ _) s2 q
      · exact h.elim
    · exact h.elim
  | rt d S' =>
    unfold fin at h
    dsimp only at h
    split at h
    case isFalse => exact h.elim
    rename_i hp
    cases ret with
    | false =>
      simp only [Bool.false_eq_true, if_false] at h
      split at h
      · rename_i x hx
        intro v H' ρ' f g s' rv
        obtain ⟨s2, e⟩ := srep_leave s g s' hp
        have q := (Rep.melt s' d x v hx rv).1
        rw [e] at q
        exact h v H' ρ f (Grow.refl _ _) s2 q
      · exact h.elim
    | true =>
      simp only [if_true] at h
      cases d <;> first | (exact h.elim) | skip
      rename_i k
      dsimp only at h
      split at h
      case isFalse => exact h.elim
      rename_i hnk
      split at h
      case h_2 => exact h.elim
      rename_i l hl
      split at h
      case isFalse => exact h.elim
      rename_i hpl
      intro v H' ρ' f g s' rv
      obtain ⟨s2, e⟩ := srep_leave s g s' hp
      simp only [Rep] at rv
      obtain ⟨a, ha, rfl⟩ := rv
      obtain ⟨vs, ev, hz, rl⟩ := s'.at_ k l a hl ha
      obtain ⟨more, rfl, hm⟩ := g
      have ham : a ∈ more := by
        have ha' : (ρ.c ++ more)[k]? = some a := ha
        rw [List.getElem?_append_right (by rw [s.len]; exact hnk)] at ha'
        exact List.mem_of_getElem? ha'
      have hH : NoO (H a) := hm a ham
      have hn : a ∉ ρ := fun z => by
        obtain ⟨ws, q⟩ := s.live a z
        obtain ⟨ps, z⟩ := hH _ q
        cases z
      have sub : ∀ b, b ∈ (⟨ρ.c ++ [a], ρ.h⟩ : Rho) → b ∈ (⟨ρ.c ++ more, ρ.h⟩ : Rho) := fun b hb => by
        rcases hb with hb | hb
        · rcases List.mem_append.mp hb with q | q
          · exact .inl (List.mem_append_left _ q)
          · simp at q; subst q; exact .inl (List.mem_append_right _ ham)
        · exact .inr hb
      have hlen : (S'.take S.length).length = S.length := by rw [← s2.len, s.len]
      refine h (.ref a) H' ⟨ρ.c ++ [a], ρ.h⟩ f ⟨[a], rfl, fun b hb => by simp at hb; subst hb; exact hH⟩ ⟨?_, ?_, fun b hb => ?_, fun m l' b h1 h2 => ?_, s'.tb⟩ ?_
      · rw [List.length_append, List.length_append, hlen, s.len]; rfl
      · show (ρ.c ++ [a]).Nodup
        refine List.nodup_append.mpr ⟨s.nd, List.nodup_cons.mpr ⟨by simp, List.nodup_nil⟩, fun x hx y hy e => ?_⟩
        simp at hy
        subst hy
        subst e
        exact hn (.inl hx)
      · refine ⟨fun z => ?_, (s2.hid b hb).2⟩
        rcases List.mem_append.mp z with q | q
        · exact (s2.hid b hb).1 q
        · simp at q
          subst q
          exact hn (.inr hb)
      · have h2 : (ρ.c ++ [a])[m]? = some b := h2
        by_cases hmS : m < S.length
        · rw [List.getElem?_append_left (by rw [hlen]; exact hmS)] at h1
          have h1' := h1
          rw [List.getElem?_take_of_lt hmS] at h1'
          rw [List.getElem?_append_left (by rw [s.len]; exact hmS)] at h2
          obtain ⟨ws, q, z, r'⟩ := s'.at_ m l' b h1' (by
            show (ρ.c ++ more)[m]? = some b
            rw [List.getElem?_append_left (by rw [s.len]; exact hmS)]
            exact h2)
          exact ⟨ws, q, z, Reps.sets sub l' ws (pures_all hp h1) r'⟩
        · rw [List.getElem?_append_right (by rw [hlen]; omega), hlen] at h1
          rw [List.getElem?_append_right (by rw [s.len]; omega), s.len] at h2
          have hm0 : m - S.length = 0 := by
            obtain ⟨q, _⟩ := List.getElem?_eq_some_iff.mp h2
            simp at q
            exact q
          rw [hm0] at h1 h2
          simp at h1 h2
          subst h1 h2
          exact ⟨vs, ev, hz, Reps.sets sub _ vs hpl rl⟩
      · simp only [Rep]
        refine ⟨a, ?_, rfl⟩
        show (ρ.c ++ [a])[S.length]? = some a
        rw [← s.len]
        simp
/-- a def that may be called, at its level -/
structure CalK (P : Program) (w : World) (K : PySem.W.Frag) (mg : Str → Option Value) (base : Heap) (T : Nat → Option Fn) (k : Nat) (x : Str) (f : Nat) (n : Nat) (ks : List Str) (perm : List Nat) : Prop where
  ex : ∃ (fa : Addr) (fd : FuncData) (ps : List Str), FnOk P w K mg base (L2.CX P w) k fa fd ps (spOf T k K mg f) ∧ mg x = some (.ref fa) ∧ PySem.W.keepIn K (.ref fa) = true ∧ PatOk K fd ps n ks perm
theorem sp_len {T : Nat → Option Fn} {k f : Nat} {fn : Fn} (hT : T f = some fn) {vs : List V} {H : Hp} {Q : VK} {E : XK} (h : spOf T k K mg f vs H Q E) : vs.length = fn.np := by
  obtain ⟨fn', h1, h2, _⟩ := h
  rw [hT] at h1
  cases h1
  exact h2
theorem callF_succ {T : Nat → Option Fn} {k f : Nat} {fn : Fn} {ds : List D} {S : Store} (hT : T f = some fn) (hl : ds.length = fn.np) : callF T (k + 1) f ds S = fin fn.ret S.length (sden (callF T k) fn.body (env0 fn ds) S) := by
  have e : callF T (k + 1) f ds S = (match T f with
    | none => .bad
    | some fn => if ds.length = fn.np then fin fn.ret S.length (sden (callF T k) fn.body (env0 fn ds) S) else .bad) := rfl
  rw [e, hT]
  dsimp only
  rw [if_pos hl]
/-- where a def's lambdas are written down -/
structure LamD (q : Str) (fd : FuncData) : Prop where
  ex : ∃ c P, fd.code = .ref c ∧ (c, P) ∈ Tt.cs ∧ (P, q) ∈ Tt.l ∧ ∀ p ∈ Tt.l, p.1 = P → p.2 = q
/-- fn is what d's text means -/
structure FnIs (G : List Ent) (B : List Str) (Cs : List (Str × D)) (d : Df) (fn : Fn) : Prop where
  np : fn.np = d.ent.ps.length
  ns : fn.ns = d.N.length
  ret : fn.ret = d.ent.ret
  body : fn.body = cSs (cS 40 (ctxOf G B Cs d) d.M d.ent.ret) (defBody d.st)
theorem def_ok {T : Nat → Option Fn} {k : Nat} {G : List Ent} {B : List Str} {Cs : List (Str × D)} {d : Df} {fn : Fn} {fa : Addr} {fd : FuncData} (F : Fun K d.ent.name d.ent.name d.st fa fd) (S : FnScope d.N d.ent.ps (defScope d.st)) (hT : T d.ent.id = some fn) (hfn : FnIs G B Cs d fn)
    (hB : ∀ x ∈ B, mg x = none) (hC : ∀ p ∈ Cs, CstAt mg p) (hG : ∀ e ∈ G, ∀ p ∈ e.pats, CalK P w K mg base T k e.name e.id p.1 p.2 (permOf e.ps p.1 p.2)) (hLm : d.lam = true → LamD (d.ent.name ++ ".<locals>." ++ "<lambda>") fd) (hTB : ∀ p ∈ Tt.cs, LamX.TabB base mg p.1 p.2) (hX : d.xs ≠ [] → ∃ Xa, XsOk P K mg Xa ∧ ∀ n ∈ d.xs, ∃ C, (n, C) ∈ Xa) : FnOk P w K mg base (L2.CX P w) (k + 1) fa fd d.ent.ps (spOf T (k + 1) K mg d.ent.id) := by
  obtain ⟨oc, od, kV, doc, pm, an, cdv, ct, osl, efd, lk, hcd⟩ := F.ex
  subst efd
  refine fn_of lk hcd S (fun vs H Q E h => (sp_len hT h).trans hfn.np) (fun A outer s H vs Q E hr h => ?_)
  refine ⟨_, cSs_ok (cS_ok (X := cxOf (L2.CX P w) P w K mg base d.N d.ent.name (defScope d.st) fa cdv A outer s H E) (W := fun cls d _ H => E cls d H) (T := T) (k := k) (c := ctxOf G B Cs d) d.M d.ent.ret 40 ⟨⟨rfl, S.nd, rfl, rfl, rfl, hr, takes_of rfl rfl rfl rfl, hB, cst_look hC, fun e he p hp => ⟨(hG e he p hp).ex⟩, fun e => ⟨let ⟨c, P, q1, q2, q3, q4⟩ := (hLm e).ex; ⟨c, P, hTB _ q2, q1, q3, q4⟩⟩⟩, passes_of rfl, rfl, rfl, hX⟩) (defBody d.st), ?_⟩
  have hl := sp_len hT h
  obtain ⟨fn', hT', hnp, ds, St, ρ, rd, sr, cp⟩ := h
  have hnp := hfn.np
  have hlN : vs.length ≤ d.N.length := by
    have := congrArg List.length S.pre
    rw [List.length_take] at this
    omega
  rw [callF_succ hT (by rw [← rd.length]; exact hl), hfn.ret, hfn.body] at cp
  exact ⟨env0 fn ds, St, ρ, ⟨erep_start rd hfn.ns hlN, sr⟩, fin_read (ret := d.ent.ret) sr cp⟩
/-- the defs of a text -/
structure DefAt (K : PySem.W.Frag) (mg : Str → Option Value) (d : Df) : Prop where
  ex : ∃ (fa : Addr) (fd : FuncData), Fun K d.ent.name d.ent.name d.st fa fd ∧ mg d.ent.name = some (.ref fa) ∧ PySem.W.keepIn K (.ref fa) = true ∧ (∀ p ∈ d.ent.pats, PatOk K fd d.ent.ps p.1 p.2 (permOf d.ent.ps p.1 p.2)) ∧ (d.lam = true → LamD (d.ent.name ++ ".<locals>." ++ "<lambda>") fd)
theorem all_ok {T : Nat → Option Fn} {G : List Ent} {B : List Str} {Cs : List (Str × D)} {ds : List Df} (hD : ∀ d ∈ ds, DefAt K mg d) (hS : ∀ d ∈ ds, FnScope d.N d.ent.ps (defScope d.st)) (hG : ∀ e ∈ G, ∃ d ∈ ds, d.ent = e) (hT : ∀ d ∈ ds, ∃ fn, T d.ent.id = some fn ∧ FnIs G B Cs d fn) (hB : ∀ x ∈ B, mg x = none) (hC : ∀ p ∈ Cs, CstAt mg p) (hTB : ∀ p ∈ Tt.cs, LamX.TabB base mg p.1 p.2) (hX : ∀ d ∈ ds, d.xs ≠ [] → ∃ Xa, XsOk P K mg Xa ∧ ∀ n ∈ d.xs, ∃ C, (n, C) ∈ Xa)
    (k : Nat) : ∀ d ∈ ds, ∀ (fa : Addr) (fd : FuncData), Fun K d.ent.name d.ent.name d.st fa fd → (d.lam = true → LamD (d.ent.name ++ ".<locals>." ++ "<lambda>") fd) → FnOk P w K mg base (L2.CX P w) k fa fd d.ent.ps (spOf T k K mg d.ent.id) := by
  induction k with
  | zero =>
    intro d hd fa fd F _
    obtain ⟨fn, h1, h2⟩ := hT d hd
    refine ⟨fun vs H Q E h => (sp_len h1 h).trans h2.np, fun A outer s H args us vs Q E _ _ _ _ h => ?_⟩
    obtain ⟨_, _, _, _, _, _, _, _, cp⟩ := h
    exact False.elim cp
  | succ k ih =>
    intro d hd fa fd F lm
    obtain ⟨fn, h1, h2⟩ := hT d hd
    refine def_ok F (hS d hd) h1 h2 hB hC (fun e he p hp => ?_) lm hTB (hX d hd)
    obtain ⟨d', hd', rfl⟩ := hG e he
    obtain ⟨fa', fd', F', q1, q2, q3, q4⟩ := (hD d' hd').ex
    exact ⟨fa', fd', d'.ent.ps, ih d' hd' fa' fd' F' q4, q1, q2, q3 p hp⟩
end
end LK
set_option Elab.async false
set_option linter.all false
set_option maxRecDepth 100000
set_option maxHeartbeats 0
namespace Lk60
open LK PySem
def topS (i : Nat) : PySem.Stmt := PySem.Challenge.pw_locksforsome_k60_the_greatest_set_within.main.body.getD i (.Pass ⟨0, 0, 0, 0⟩)
def e1 : Ent := ⟨"tupled", 1, ["thing"], [false], false, [(1, [])]⟩
def e2 : Ent := ⟨"set_of", 19, ["row"], [false], false, [(1, [])]⟩
def e3 : Ent := ⟨"unlike", 2, ["some", "others"], [false, false], false, [(2, [])]⟩
def e5 : Ent := ⟨"held_by", 34, ["house", "some"], [false, false], false, [(2, [])]⟩
def e7 : Ent := ⟨"rests", 21, ["house", "bands", "some"], [false, false, false], false, [(3, [])]⟩
def e9 : Ent := ⟨"barred_readers", 35, ["house", "bands", "some"], [false, false, false], false, [(3, [])]⟩
def e10 : Ent := ⟨"can_reach", 36, ["house", "bands", "some"], [false, false, false], false, [(3, [])]⟩
def e11 : Ent := ⟨"out_rounds", 60, ["house", "bands", "some"], [false, false, false], false, [(3, []), (0, ["some", "bands", "house"])]⟩
def e12 : Ent := ⟨"greatest_within", 61, ["house", "bands", "some"], [false, false, false], false, [(3, []), (0, ["some", "bands", "house"])]⟩
def e14 : Ent := ⟨"_law_box", 6, ["_law_script", "_law_k"], [false, false], true, [(2, [])]⟩
def e15 : Ent := ⟨"_law_take", 7, ["_law_box_here", "_law_below_so"], [true, false], false, [(2, [])]⟩
def e16 : Ent := ⟨"_law_cells", 8, ["_law_script", "_law_top_so"], [false, false], false, [(2, [])]⟩
def e17 : Ent := ⟨"_law_same", 9, ["_law_got", "_law_due"], [false, false], false, [(2, [])]⟩
def e18 : Ent := ⟨"_law_lists", 10, ["_law_matter_so"], [false], false, [(1, [])]⟩
def e19 : Ent := ⟨"_law_hall", 37, ["_law_box_here", "_law_folk_so", "_law_most_so"], [true, false, false], false, [(3, [])]⟩
def e20 : Ent := ⟨"_law_gangs", 26, ["_law_box_here", "_law_hall_so", "_law_most_so"], [true, false, false], false, [(3, [])]⟩
def e21 : Ent := ⟨"_law_sets", 38, ["_law_bits_so"], [false], false, [(1, [])]⟩
def e22 : Ent := ⟨"_law_rests", 29, ["_law_gangs_so", "_law_few_so"], [false, false], false, [(2, [])]⟩
def e23 : Ent := ⟨"_law_holds", 39, ["_law_hall_so", "_law_few_so", "_law_spots_so"], [false, false, false], false, [(3, [])]⟩
def e24 : Ent := ⟨"_law_is_barred", 40, ["_law_hall_so", "_law_gangs_so", "_law_few_so", "_law_tag"], [false, false, false, false], false, [(4, [])]⟩
def e25 : Ent := ⟨"_law_is_safe", 62, ["_law_hall_so", "_law_gangs_so", "_law_few_so"], [false, false, false], false, [(3, [])]⟩
def e26 : Ent := ⟨"_law_two", 41, [], [], false, [(0, [])]⟩
def e27 : Ent := ⟨"_law_rounds", 63, ["_law_hall_so", "_law_gangs_so", "_law_few_so"], [false, false, false], false, [(3, [])]⟩
def e28 : Ent := ⟨"_law_case_right", 16, ["_law_hall_so", "_law_gangs_so"], [false, false], false, [(2, [])]⟩
def e29 : Ent := ⟨"_law_by_hand_right", 15, [], [], false, [(0, [])]⟩
def e30 : Ent := ⟨"_law_right", 17, ["_law_box_here"], [true], false, [(1, [])]⟩
def e31 : Ent := ⟨"law", 18, ["_law_script"], [false], false, []⟩
def d1 : Df := ⟨e1, topS 1, ["thing", "part"], [], false, []⟩
def d2 : Df := ⟨e2, topS 2, ["row"], [], false, []⟩
def d3 : Df := ⟨e3, topS 3, ["some", "others", "own"], [], false, []⟩
def d5 : Df := ⟨e5, topS 5, ["house", "some", "place", "key", "name"], [], false, []⟩
def d7 : Df := ⟨e7, topS 7, ["house", "bands", "some", "band"], [], false, []⟩
def d9 : Df := ⟨e9, topS 9, ["house", "bands", "some", "lots", "found", "name", "own", "others", "lot"], ["found"], false, []⟩
def d10 : Df := ⟨e10, topS 10, ["house", "bands", "some"], [], false, []⟩
def d11 : Df := ⟨e11, topS 11, ["house", "bands", "some", "found", "left"], ["found"], false, []⟩
def d12 : Df := ⟨e12, topS 12, ["house", "bands", "some", "gone", "lot", "name"], [], false, []⟩
def d14 : Df := ⟨e14, topS 14, ["_law_script", "_law_k", "_law_cell"], [], false, []⟩
def d15 : Df := ⟨e15, topS 15, ["_law_box_here", "_law_below_so", "_law_once", "_law_far", "_law_twice", "_law_drawn"], [], false, []⟩
def d16 : Df := ⟨e16, topS 16, ["_law_script", "_law_top_so", "_law_cells_so", "_law_k", "_law_cell", "_law_at_so"], ["_law_cells_so"], false, []⟩
def d17 : Df := ⟨e17, topS 17, ["_law_got", "_law_due", "_law_mine", "_law_its"], [], false, []⟩
def d18 : Df := ⟨e18, topS 18, ["_law_matter_so", "_law_bit"], [], false, []⟩
def d19 : Df := ⟨e19, topS 19, ["_law_box_here", "_law_folk_so", "_law_most_so", "_law_tags_so", "_law_found", "_law_turn", "_law_tag"], ["_law_found"], false, []⟩
def d20 : Df := ⟨e20, topS 20, ["_law_box_here", "_law_hall_so", "_law_most_so", "_law_found", "_law_turn", "_law_tag", "_law_own"], ["_law_found"], false, []⟩
def d21 : Df := ⟨e21, topS 21, ["_law_bits_so", "_law_found", "_law_bit", "_law_own"], [], false, []⟩
def d22 : Df := ⟨e22, topS 22, ["_law_gangs_so", "_law_few_so", "_law_found", "_law_own", "_law_tag"], [], false, []⟩
def d23 : Df := ⟨e23, topS 23, ["_law_hall_so", "_law_few_so", "_law_spots_so", "_law_spot", "_law_tag"], [], false, []⟩
def d24 : Df := ⟨e24, topS 24, ["_law_hall_so", "_law_gangs_so", "_law_few_so", "_law_tag", "_law_mine", "_law_spot", "_law_own"], [], false, []⟩
def d25 : Df := ⟨e25, topS 25, ["_law_hall_so", "_law_gangs_so", "_law_few_so", "_law_tag"], [], false, []⟩
def d26 : Df := ⟨e26, topS 26, ["_law_row_so", "_law_fall_so"], [], false, []⟩
def d27 : Df := ⟨e27, topS 27, ["_law_hall_so", "_law_gangs_so", "_law_few_so", "_law_found", "_law_left_so", "_law_gone_so", "_law_tag"], ["_law_found"], false, []⟩
def d28 : Df := ⟨e28, topS 28, ["_law_hall_so", "_law_gangs_so", "_law_soft", "_law_every_so", "_law_fine", "_law_few_so", "_law_within_so", "_law_due", "_law_mixed_so", "_law_tops_so", "_law_got", "_law_own", "_law_tag", "_law_far"], [], false, []⟩
def d29 : Df := ⟨e29, topS 29, ["_law_row_so", "_law_gangs_so", "_law_fall_so", "_law_mobs_so", "_law_lots_so", "_law_got", "_law_due", "_law_long_so", "_law_nets_so", "_law_tags_so", "_law_mixed_so", "_law_bent_so", "_law_own"], ["_law_due", "_law_got"], false, []⟩
def d30 : Df := ⟨e30, topS 30, ["_law_box_here", "_law_turn", "_law_hall_so"], [], false, []⟩
def d31 : Df := ⟨e31, topS 31, ["_law_script", "_law_cells_so", "_law_k"], [], false, []⟩
def G : List Ent := [e1, e2, e3, e5, e7, e9, e10, e11, e12, e14, e15, e16, e17, e18, e19, e20, e21, e22, e23, e24, e25, e26, e27, e28, e29, e30, e31]
def B : List PySem.Str := ["isinstance", "tuple", "list", "sorted", "set", "enumerate", "any", "len", "abs", "int", "all", "bool", "str", "zip", "range"]
def Cs : List (PySem.Str × D) := []
def f1 : Fn := { np := 1, ns := 2, ret := false, body := LK.S.seq (LK.S.ret (LK.E.ite (LK.E.un (LK.Un.isT [LK.Ty.list, LK.Ty.tuple]) (LK.E.var 0)) (LK.E.un (LK.Un.tuple) (LK.E.lc [1] false [1] (LK.E.var 0) (LK.E.lit (LK.D.bl true)) (LK.E.call 1 [false] [0] (LK.E.cons (LK.E.var 1) (LK.E.nil)) (LK.E.nil)))) (LK.E.var 0))) (LK.S.skip) }
def f2 : Fn := { np := 1, ns := 1, ret := false, body := LK.S.seq (LK.S.ret (LK.E.un (LK.Un.tuple) (LK.E.un (LK.Un.sset) (LK.E.var 0)))) (LK.S.skip) }
def f3 : Fn := { np := 2, ns := 3, ret := false, body := LK.S.seq (LK.S.ret (LK.E.un (LK.Un.tuple) (LK.E.lc [2] false [2] (LK.E.var 0) (LK.E.bin (LK.Op.nmem) (LK.E.var 2) (LK.E.var 1)) (LK.E.var 2)))) (LK.S.skip) }
def f5 : Fn := { np := 2, ns := 5, ret := false, body := LK.S.seq (LK.S.ret (LK.E.un (LK.Un.tuple) (LK.E.lc [2, 3] true [2, 3] (LK.E.enum (LK.E.bin (LK.Op.ix) (LK.E.var 0) (LK.E.lit (LK.D.int 1)))) (LK.E.un (LK.Un.any) (LK.E.lc [4] false [4] (LK.E.var 1) (LK.E.lit (LK.D.bl true)) (LK.E.bin (LK.Op.mem) (LK.E.var 4) (LK.E.var 3)))) (LK.E.var 2)))) (LK.S.skip) }
def f7 : Fn := { np := 3, ns := 4, ret := false, body := LK.S.seq (LK.S.ret (LK.E.call 19 [false] [0] (LK.E.cons (LK.E.lc [3] false [3] (LK.E.var 1) (LK.E.bin (LK.Op.gt) (LK.E.un (LK.Un.len) (LK.E.call 2 [false, false] [0, 1] (LK.E.cons (LK.E.var 3) (LK.E.cons (LK.E.var 2) (LK.E.nil))) (LK.E.nil))) (LK.E.lit (LK.D.int 0))) (LK.E.call 2 [false, false] [0, 1] (LK.E.cons (LK.E.call 1 [false] [0] (LK.E.cons (LK.E.var 3) (LK.E.nil)) (LK.E.nil)) (LK.E.cons (LK.E.var 2) (LK.E.nil))) (LK.E.nil))) (LK.E.nil)) (LK.E.nil))) (LK.S.skip) }
def f9 : Fn := { np := 3, ns := 9, ret := false, body := LK.S.seq (LK.S.asg 3 (LK.E.lc [7] false [7] (LK.E.call 21 [false, false, false] [0, 1, 2] (LK.E.cons (LK.E.var 0) (LK.E.cons (LK.E.var 1) (LK.E.cons (LK.E.var 2) (LK.E.nil)))) (LK.E.nil)) (LK.E.lit (LK.D.bl true)) (LK.E.call 34 [false, false] [0, 1] (LK.E.cons (LK.E.var 0) (LK.E.cons (LK.E.var 7) (LK.E.nil))) (LK.E.nil)))) (LK.S.seq (LK.S.asg 4 (LK.E.mk (LK.E.lst (LK.E.nil)))) (LK.S.seq (LK.S.for_ false [5] (LK.E.var 2) (LK.S.seq (LK.S.asg 6 (LK.E.call 34 [false, false] [0, 1] (LK.E.cons (LK.E.var 0) (LK.E.cons (LK.E.tup (LK.E.cons (LK.E.var 5) (LK.E.nil))) (LK.E.nil))) (LK.E.nil))) (LK.S.seq (LK.S.ite (LK.E.un (LK.Un.any) (LK.E.lc [8] false [8] (LK.E.var 3) (LK.E.lit (LK.D.bl true)) (LK.E.bin (LK.Op.eq) (LK.E.un (LK.Un.len) (LK.E.call 2 [false, false] [0, 1] (LK.E.cons (LK.E.var 6) (LK.E.cons (LK.E.var 8) (LK.E.nil))) (LK.E.nil))) (LK.E.lit (LK.D.int 0))))) (LK.S.seq (LK.S.app (LK.E.var 4) (LK.E.var 5)) (LK.S.skip)) (LK.S.skip)) (LK.S.skip)))) (LK.S.seq (LK.S.ret (LK.E.un (LK.Un.tuple) (LK.E.var 4))) (LK.S.skip)))) }
def f10 : Fn := { np := 3, ns := 3, ret := false, body := LK.S.seq (LK.S.ret (LK.E.bin (LK.Op.eq) (LK.E.un (LK.Un.len) (LK.E.call 35 [false, false, false] [0, 1, 2] (LK.E.cons (LK.E.var 0) (LK.E.cons (LK.E.var 1) (LK.E.cons (LK.E.var 2) (LK.E.nil)))) (LK.E.nil))) (LK.E.lit (LK.D.int 0)))) (LK.S.skip) }
def f11 : Fn := { np := 3, ns := 5, ret := false, body := LK.S.seq (LK.S.pasg 3 4 (LK.E.mk (LK.E.lst (LK.E.nil))) (LK.E.call 1 [false] [0] (LK.E.cons (LK.E.var 2) (LK.E.nil)) (LK.E.nil))) (LK.S.seq (LK.S.while_ (LK.E.not (LK.E.call 36 [false, false, false] [0, 1, 2] (LK.E.cons (LK.E.var 0) (LK.E.cons (LK.E.var 1) (LK.E.cons (LK.E.var 4) (LK.E.nil)))) (LK.E.nil))) (LK.S.seq (LK.S.app (LK.E.var 3) (LK.E.call 35 [false, false, false] [0, 1, 2] (LK.E.cons (LK.E.var 0) (LK.E.cons (LK.E.var 1) (LK.E.cons (LK.E.var 4) (LK.E.nil)))) (LK.E.nil))) (LK.S.seq (LK.S.asg 4 (LK.E.call 2 [false, false] [0, 1] (LK.E.cons (LK.E.var 4) (LK.E.cons (LK.E.bin (LK.Op.ix) (LK.E.var 3) (LK.E.un (LK.Un.neg) (LK.E.lit (LK.D.int 1)))) (LK.E.nil))) (LK.E.nil))) (LK.S.skip)))) (LK.S.seq (LK.S.ret (LK.E.un (LK.Un.tuple) (LK.E.var 3))) (LK.S.skip))) }
def f12 : Fn := { np := 3, ns := 6, ret := false, body := LK.S.seq (LK.S.asg 3 (LK.E.lc2 [4, 5] false [4] (LK.E.call 60 [false, false, false] [0, 1, 2] (LK.E.cons (LK.E.var 0) (LK.E.cons (LK.E.var 1) (LK.E.cons (LK.E.var 2) (LK.E.nil)))) (LK.E.nil)) (LK.E.lit (LK.D.bl true)) false [5] (LK.E.var 4) (LK.E.lit (LK.D.bl true)) (LK.E.var 5))) (LK.S.seq (LK.S.ret (LK.E.un (LK.Un.tuple) (LK.E.call 2 [false, false] [0, 1] (LK.E.cons (LK.E.var 2) (LK.E.cons (LK.E.var 3) (LK.E.nil))) (LK.E.nil)))) (LK.S.skip)) }
def f14 : Fn := { np := 2, ns := 3, ret := true, body := LK.S.seq (LK.S.asg 2 (LK.E.ite (LK.E.bin (LK.Op.lt) (LK.E.var 1) (LK.E.un (LK.Un.len) (LK.E.var 0))) (LK.E.bin (LK.Op.ix) (LK.E.var 0) (LK.E.var 1)) (LK.E.lit (LK.D.int 0)))) (LK.S.seq (LK.S.ret (LK.E.mk (LK.E.lst (LK.E.cons (LK.E.bin (LK.Op.mul) (LK.E.un (LK.Un.abs) (LK.E.var 2)) (LK.E.un (LK.Un.int) (LK.E.bin (LK.Op.ge) (LK.E.un (LK.Un.abs) (LK.E.var 2)) (LK.E.bin (LK.Op.pow) (LK.E.lit (LK.D.int 10)) (LK.E.lit (LK.D.int 18)))))) (LK.E.cons (LK.E.bin (LK.Op.add) (LK.E.bin (LK.Op.add) (LK.E.bin (LK.Op.mod) (LK.E.un (LK.Un.int) (LK.E.var 2)) (LK.E.lit (LK.D.int 2305843009213693951))) (LK.E.bin (LK.Op.mul) (LK.E.lit (LK.D.int 39373)) (LK.E.var 1))) (LK.E.lit (LK.D.int 1057460))) (LK.E.cons (LK.E.lit (LK.D.int 0)) (LK.E.nil))))))) (LK.S.skip)) }
def f15 : Fn := { np := 2, ns := 6, ret := false, body := LK.S.seq (LK.S.ite (LK.E.bin (LK.Op.gt) (LK.E.bin (LK.Op.ix) (LK.E.var 0) (LK.E.lit (LK.D.int 0))) (LK.E.lit (LK.D.int 0))) (LK.S.seq (LK.S.asg 5 (LK.E.bin (LK.Op.mod) (LK.E.un (LK.Un.int) (LK.E.bin (LK.Op.ix) (LK.E.var 0) (LK.E.lit (LK.D.int 0)))) (LK.E.var 1))) (LK.S.seq (LK.S.setix (LK.E.var 0) (LK.E.lit (LK.D.int 0)) (LK.E.bin (LK.Op.fdiv) (LK.E.bin (LK.Op.ix) (LK.E.var 0) (LK.E.lit (LK.D.int 0))) (LK.E.var 1))) (LK.S.seq (LK.S.ret (LK.E.var 5)) (LK.S.skip)))) (LK.S.skip)) (LK.S.seq (LK.S.setix (LK.E.var 0) (LK.E.lit (LK.D.int 2)) (LK.E.bin (LK.Op.add) (LK.E.bin (LK.Op.ix) (LK.E.var 0) (LK.E.lit (LK.D.int 2))) (LK.E.lit (LK.D.int 1)))) (LK.S.seq (LK.S.asg 2 (LK.E.bin (LK.Op.mod) (LK.E.un (LK.Un.int) (LK.E.bin (LK.Op.mul) (LK.E.bin (LK.Op.add) (LK.E.bin (LK.Op.ix) (LK.E.var 0) (LK.E.lit (LK.D.int 1))) (LK.E.bin (LK.Op.mul) (LK.E.lit (LK.D.int 48271)) (LK.E.bin (LK.Op.ix) (LK.E.var 0) (LK.E.lit (LK.D.int 2))))) (LK.E.bin (LK.Op.add) (LK.E.lit (LK.D.int 39373)) (LK.E.bin (LK.Op.ix) (LK.E.var 0) (LK.E.lit (LK.D.int 2)))))) (LK.E.lit (LK.D.int 2147483647)))) (LK.S.seq (LK.S.asg 3 (LK.E.bin (LK.Op.add) (LK.E.bin (LK.Op.mod) (LK.E.un (LK.Un.int) (LK.E.var 2)) (LK.E.lit (LK.D.int 40009))) (LK.E.lit (LK.D.int 7)))) (LK.S.seq (LK.S.asg 4 (LK.E.bin (LK.Op.mod) (LK.E.un (LK.Un.int) (LK.E.bin (LK.Op.mul) (LK.E.bin (LK.Op.add) (LK.E.bin (LK.Op.add) (LK.E.var 2) (LK.E.bin (LK.Op.ix) (LK.E.var 0) (LK.E.lit (LK.D.int 2)))) (LK.E.bin (LK.Op.fdiv) (LK.E.bin (LK.Op.ix) (LK.E.var 0) (LK.E.lit (LK.D.int 1))) (LK.E.lit (LK.D.int 1000003)))) (LK.E.var 3))) (LK.E.lit (LK.D.int 2147483629)))) (LK.S.seq (LK.S.ret (LK.E.bin (LK.Op.mod) (LK.E.un (LK.Un.int) (LK.E.bin (LK.Op.fdiv) (LK.E.bin (LK.Op.mod) (LK.E.un (LK.Un.int) (LK.E.bin (LK.Op.add) (LK.E.bin (LK.Op.mul) (LK.E.var 4) (LK.E.lit (LK.D.int 48271))) (LK.E.var 2))) (LK.E.lit (LK.D.int 2147483587))) (LK.E.lit (LK.D.int 64)))) (LK.E.var 1))) (LK.S.skip)))))) }
def f16 : Fn := { np := 2, ns := 6, ret := false, body := LK.S.seq (LK.S.asg 2 (LK.E.mk (LK.E.or (LK.E.un (LK.Un.list) (LK.E.sl false true (LK.E.var 0) (LK.E.lit (LK.D.non)) (LK.E.var 1))) (LK.E.lst (LK.E.cons (LK.E.lit (LK.D.int 0)) (LK.E.nil)))))) (LK.S.seq (LK.S.for_ true [3, 4] (LK.E.enum (LK.E.sl true true (LK.E.var 0) (LK.E.var 1) (LK.E.lit (LK.D.int 63)))) (LK.S.seq (LK.S.asg 5 (LK.E.bin (LK.Op.mod) (LK.E.un (LK.Un.int) (LK.E.var 3)) (LK.E.var 1))) (LK.S.seq (LK.S.setix (LK.E.var 2) (LK.E.var 5) (LK.E.bin (LK.Op.add) (LK.E.bin (LK.Op.ix) (LK.E.var 2) (LK.E.var 5)) (LK.E.bin (LK.Op.mul) (LK.E.var 4) (LK.E.bin (LK.Op.add) (LK.E.var 3) (LK.E.lit (LK.D.int 2)))))) (LK.S.skip)))) (LK.S.seq (LK.S.ret (LK.E.var 2)) (LK.S.skip))) }
def f17 : Fn := { np := 2, ns := 4, ret := false, body := LK.S.seq (LK.S.ite (LK.E.un (LK.Un.isT [LK.Ty.list, LK.Ty.tuple]) (LK.E.var 1)) (LK.S.seq (LK.S.ite (LK.E.or (LK.E.bin (LK.Op.ne) (LK.E.un (LK.Un.isT [LK.Ty.list]) (LK.E.var 0)) (LK.E.un (LK.Un.isT [LK.Ty.list]) (LK.E.var 1))) (LK.E.bin (LK.Op.ne) (LK.E.un (LK.Un.isT [LK.Ty.tuple]) (LK.E.var 0)) (LK.E.un (LK.Un.isT [LK.Ty.tuple]) (LK.E.var 1)))) (LK.S.seq (LK.S.ret (LK.E.lit (LK.D.bl false))) (LK.S.skip)) (LK.S.skip)) (LK.S.seq (LK.S.ret (LK.E.and (LK.E.bin (LK.Op.eq) (LK.E.un (LK.Un.len) (LK.E.var 0)) (LK.E.un (LK.Un.len) (LK.E.var 1))) (LK.E.un (LK.Un.all) (LK.E.lc [2, 3] true [2, 3] (LK.E.zip (LK.E.var 0) (LK.E.var 1)) (LK.E.lit (LK.D.bl true)) (LK.E.call 9 [false, false] [0, 1] (LK.E.cons (LK.E.var 2) (LK.E.cons (LK.E.var 3) (LK.E.nil))) (LK.E.nil)))))) (LK.S.skip))) (LK.S.skip)) (LK.S.seq (LK.S.ite (LK.E.or (LK.E.bin (LK.Op.isN) (LK.E.var 1) (LK.E.lit (LK.D.non))) (LK.E.un (LK.Un.isT [LK.Ty.bool, LK.Ty.str]) (LK.E.var 1))) (LK.S.seq (LK.S.ret (LK.E.and (LK.E.bin (LK.Op.eq) (LK.E.var 0) (LK.E.var 1)) (LK.E.and (LK.E.bin (LK.Op.eq) (LK.E.un (LK.Un.isT [LK.Ty.bool]) (LK.E.var 0)) (LK.E.un (LK.Un.isT [LK.Ty.bool]) (LK.E.var 1))) (LK.E.bin (LK.Op.eq) (LK.E.bin (LK.Op.isN) (LK.E.var 0) (LK.E.lit (LK.D.non))) (LK.E.bin (LK.Op.isN) (LK.E.var 1) (LK.E.lit (LK.D.non))))))) (LK.S.skip)) (LK.S.skip)) (LK.S.seq (LK.S.ret (LK.E.and (LK.E.un (LK.Un.isT [LK.Ty.int]) (LK.E.var 0)) (LK.E.and (LK.E.not (LK.E.un (LK.Un.isT [LK.Ty.bool]) (LK.E.var 0))) (LK.E.bin (LK.Op.eq) (LK.E.var 0) (LK.E.var 1))))) (LK.S.skip))) }
def f18 : Fn := { np := 1, ns := 2, ret := false, body := LK.S.seq (LK.S.ret (LK.E.ite (LK.E.un (LK.Un.isT [LK.Ty.list, LK.Ty.tuple]) (LK.E.var 0)) (LK.E.lc [1] false [1] (LK.E.var 0) (LK.E.lit (LK.D.bl true)) (LK.E.call 10 [false] [0] (LK.E.cons (LK.E.var 1) (LK.E.nil)) (LK.E.nil))) (LK.E.var 0))) (LK.S.skip) }
def f19 : Fn := { np := 3, ns := 7, ret := false, body := LK.S.seq (LK.S.asg 3 (LK.E.sl false true (LK.E.lst (LK.E.cons (LK.E.lit (LK.D.str [97])) (LK.E.cons (LK.E.lit (LK.D.str [97, 98])) (LK.E.cons (LK.E.lit (LK.D.str [98])) (LK.E.cons (LK.E.lit (LK.D.str [99])) (LK.E.cons (LK.E.lit (LK.D.str [122, 122])) (LK.E.nil))))))) (LK.E.lit (LK.D.non)) (LK.E.call 7 [true, false] [0, 1] (LK.E.cons (LK.E.var 0) (LK.E.cons (LK.E.bin (LK.Op.add) (LK.E.var 1) (LK.E.lit (LK.D.int 1))) (LK.E.nil))) (LK.E.nil)))) (LK.S.seq (LK.S.asg 4 (LK.E.mk (LK.E.lst (LK.E.nil)))) (LK.S.seq (LK.S.for_ false [5] (LK.E.rng (LK.E.lit (LK.D.int 0)) (LK.E.call 7 [true, false] [0, 1] (LK.E.cons (LK.E.var 0) (LK.E.cons (LK.E.bin (LK.Op.add) (LK.E.var 2) (LK.E.lit (LK.D.int 1))) (LK.E.nil))) (LK.E.nil))) (LK.S.seq (LK.S.app (LK.E.var 4) (LK.E.un (LK.Un.tuple) (LK.E.lc [6] false [6] (LK.E.var 3) (LK.E.bin (LK.Op.gt) (LK.E.call 7 [true, false] [0, 1] (LK.E.cons (LK.E.var 0) (LK.E.cons (LK.E.lit (LK.D.int 5)) (LK.E.nil))) (LK.E.nil)) (LK.E.lit (LK.D.int 1))) (LK.E.var 6)))) (LK.S.skip))) (LK.S.seq (LK.S.ret (LK.E.tup (LK.E.cons (LK.E.un (LK.Un.tuple) (LK.E.var 3)) (LK.E.cons (LK.E.un (LK.Un.tuple) (LK.E.var 4)) (LK.E.nil))))) (LK.S.skip)))) }
def f20 : Fn := { np := 3, ns := 7, ret := false, body := LK.S.seq (LK.S.asg 3 (LK.E.mk (LK.E.lst (LK.E.nil)))) (LK.S.seq (LK.S.for_ false [4] (LK.E.rng (LK.E.lit (LK.D.int 0)) (LK.E.call 7 [true, false] [0, 1] (LK.E.cons (LK.E.var 0) (LK.E.cons (LK.E.bin (LK.Op.add) (LK.E.var 2) (LK.E.lit (LK.D.int 1))) (LK.E.nil))) (LK.E.nil))) (LK.S.seq (LK.S.app (LK.E.var 3) (LK.E.un (LK.Un.tuple) (LK.E.lc [5] false [5] (LK.E.bin (LK.Op.ix) (LK.E.var 1) (LK.E.lit (LK.D.int 0))) (LK.E.bin (LK.Op.eq) (LK.E.call 7 [true, false] [0, 1] (LK.E.cons (LK.E.var 0) (LK.E.cons (LK.E.lit (LK.D.int 2)) (LK.E.nil))) (LK.E.nil)) (LK.E.lit (LK.D.int 0))) (LK.E.var 5)))) (LK.S.skip))) (LK.S.seq (LK.S.asg 3 (LK.E.mk (LK.E.lc [6] false [6] (LK.E.var 3) (LK.E.bin (LK.Op.ne) (LK.E.var 6) (LK.E.tup (LK.E.nil))) (LK.E.var 6)))) (LK.S.seq (LK.S.for_ false [5] (LK.E.bin (LK.Op.ix) (LK.E.var 1) (LK.E.lit (LK.D.int 0))) (LK.S.seq (LK.S.ite (LK.E.bin (LK.Op.eq) (LK.E.lc [6] false [6] (LK.E.var 3) (LK.E.bin (LK.Op.mem) (LK.E.var 5) (LK.E.var 6)) (LK.E.var 6)) (LK.E.lst (LK.E.nil))) (LK.S.seq (LK.S.app (LK.E.var 3) (LK.E.tup (LK.E.cons (LK.E.var 5) (LK.E.nil)))) (LK.S.skip)) (LK.S.skip)) (LK.S.skip))) (LK.S.seq (LK.S.ret (LK.E.un (LK.Un.tuple) (LK.E.un (LK.Un.sset) (LK.E.var 3)))) (LK.S.skip))))) }
def f21 : Fn := { np := 1, ns := 4, ret := false, body := LK.S.seq (LK.S.asg 1 (LK.E.lst (LK.E.cons (LK.E.tup (LK.E.nil)) (LK.E.nil)))) (LK.S.seq (LK.S.for_ false [2] (LK.E.var 0) (LK.S.seq (LK.S.asg 1 (LK.E.bin (LK.Op.add) (LK.E.var 1) (LK.E.lc [3] false [3] (LK.E.var 1) (LK.E.lit (LK.D.bl true)) (LK.E.bin (LK.Op.add) (LK.E.var 3) (LK.E.tup (LK.E.cons (LK.E.var 2) (LK.E.nil))))))) (LK.S.skip))) (LK.S.seq (LK.S.ret (LK.E.un (LK.Un.sorted) (LK.E.var 1))) (LK.S.skip))) }
def f22 : Fn := { np := 2, ns := 5, ret := false, body := LK.S.seq (LK.S.asg 2 (LK.E.lc [3] false [3] (LK.E.var 0) (LK.E.lit (LK.D.bl true)) (LK.E.un (LK.Un.tuple) (LK.E.lc [4] false [4] (LK.E.var 3) (LK.E.bin (LK.Op.nmem) (LK.E.var 4) (LK.E.var 1)) (LK.E.var 4))))) (LK.S.seq (LK.S.ret (LK.E.lc [3] false [3] (LK.E.var 2) (LK.E.bin (LK.Op.ne) (LK.E.var 3) (LK.E.tup (LK.E.nil))) (LK.E.var 3))) (LK.S.skip)) }
def f23 : Fn := { np := 3, ns := 5, ret := false, body := LK.S.seq (LK.S.for_ false [3] (LK.E.var 2) (LK.S.seq (LK.S.ite (LK.E.bin (LK.Op.eq) (LK.E.lc [4] false [4] (LK.E.var 1) (LK.E.bin (LK.Op.mem) (LK.E.var 4) (LK.E.bin (LK.Op.ix) (LK.E.bin (LK.Op.ix) (LK.E.var 0) (LK.E.lit (LK.D.int 1))) (LK.E.var 3))) (LK.E.var 4)) (LK.E.lst (LK.E.nil))) (LK.S.seq (LK.S.ret (LK.E.lit (LK.D.bl false))) (LK.S.skip)) (LK.S.skip)) (LK.S.skip))) (LK.S.seq (LK.S.ret (LK.E.lit (LK.D.bl true))) (LK.S.skip)) }
def f24 : Fn := { np := 4, ns := 7, ret := false, body := LK.S.seq (LK.S.asg 4 (LK.E.lc [5] false [5] (LK.E.rng (LK.E.lit (LK.D.int 0)) (LK.E.un (LK.Un.len) (LK.E.bin (LK.Op.ix) (LK.E.var 0) (LK.E.lit (LK.D.int 1))))) (LK.E.bin (LK.Op.mem) (LK.E.var 3) (LK.E.bin (LK.Op.ix) (LK.E.bin (LK.Op.ix) (LK.E.var 0) (LK.E.lit (LK.D.int 1))) (LK.E.var 5))) (LK.E.var 5))) (LK.S.seq (LK.S.ret (LK.E.bin (LK.Op.ne) (LK.E.lc [6] false [6] (LK.E.call 29 [false, false] [0, 1] (LK.E.cons (LK.E.var 1) (LK.E.cons (LK.E.var 2) (LK.E.nil))) (LK.E.nil)) (LK.E.call 39 [false, false, false] [0, 1, 2] (LK.E.cons (LK.E.var 0) (LK.E.cons (LK.E.var 6) (LK.E.cons (LK.E.var 4) (LK.E.nil)))) (LK.E.nil)) (LK.E.var 6)) (LK.E.lst (LK.E.nil)))) (LK.S.skip)) }
def f25 : Fn := { np := 3, ns := 4, ret := false, body := LK.S.seq (LK.S.ret (LK.E.bin (LK.Op.eq) (LK.E.lc [3] false [3] (LK.E.var 2) (LK.E.call 40 [false, false, false, false] [0, 1, 2, 3] (LK.E.cons (LK.E.var 0) (LK.E.cons (LK.E.var 1) (LK.E.cons (LK.E.var 2) (LK.E.cons (LK.E.var 3) (LK.E.nil))))) (LK.E.nil)) (LK.E.var 3)) (LK.E.lst (LK.E.nil)))) (LK.S.skip) }
def f26 : Fn := { np := 0, ns := 2, ret := false, body := LK.S.seq (LK.S.asg 0 (LK.E.tup (LK.E.cons (LK.E.tup (LK.E.cons (LK.E.lit (LK.D.str [97])) (LK.E.cons (LK.E.lit (LK.D.str [98])) (LK.E.cons (LK.E.lit (LK.D.str [99])) (LK.E.cons (LK.E.lit (LK.D.str [100])) (LK.E.nil)))))) (LK.E.cons (LK.E.tup (LK.E.cons (LK.E.tup (LK.E.cons (LK.E.lit (LK.D.str [97])) (LK.E.cons (LK.E.lit (LK.D.str [98])) (LK.E.nil)))) (LK.E.cons (LK.E.tup (LK.E.cons (LK.E.lit (LK.D.str [98])) (LK.E.cons (LK.E.lit (LK.D.str [99])) (LK.E.nil)))) (LK.E.cons (LK.E.tup (LK.E.cons (LK.E.lit (LK.D.str [99])) (LK.E.cons (LK.E.lit (LK.D.str [100])) (LK.E.nil)))) (LK.E.nil))))) (LK.E.nil))))) (LK.S.seq (LK.S.asg 1 (LK.E.tup (LK.E.cons (LK.E.tup (LK.E.cons (LK.E.lit (LK.D.str [97])) (LK.E.cons (LK.E.lit (LK.D.str [98])) (LK.E.cons (LK.E.lit (LK.D.str [99])) (LK.E.cons (LK.E.lit (LK.D.str [100])) (LK.E.cons (LK.E.lit (LK.D.str [101])) (LK.E.nil))))))) (LK.E.cons (LK.E.tup (LK.E.cons (LK.E.tup (LK.E.cons (LK.E.lit (LK.D.str [97])) (LK.E.cons (LK.E.lit (LK.D.str [98])) (LK.E.cons (LK.E.lit (LK.D.str [100])) (LK.E.nil))))) (LK.E.cons (LK.E.tup (LK.E.cons (LK.E.lit (LK.D.str [98])) (LK.E.cons (LK.E.lit (LK.D.str [101])) (LK.E.nil)))) (LK.E.cons (LK.E.tup (LK.E.cons (LK.E.lit (LK.D.str [99])) (LK.E.nil))) (LK.E.nil))))) (LK.E.nil))))) (LK.S.seq (LK.S.ret (LK.E.lst (LK.E.cons (LK.E.tup (LK.E.cons (LK.E.var 0) (LK.E.cons (LK.E.tup (LK.E.cons (LK.E.tup (LK.E.cons (LK.E.lit (LK.D.str [97])) (LK.E.nil))) (LK.E.cons (LK.E.tup (LK.E.cons (LK.E.lit (LK.D.str [98])) (LK.E.cons (LK.E.lit (LK.D.str [100])) (LK.E.nil)))) (LK.E.cons (LK.E.tup (LK.E.cons (LK.E.lit (LK.D.str [99])) (LK.E.nil))) (LK.E.nil))))) (LK.E.nil)))) (LK.E.cons (LK.E.tup (LK.E.cons (LK.E.var 1) (LK.E.cons (LK.E.tup (LK.E.cons (LK.E.tup (LK.E.cons (LK.E.lit (LK.D.str [97])) (LK.E.cons (LK.E.lit (LK.D.str [101])) (LK.E.nil)))) (LK.E.cons (LK.E.tup (LK.E.cons (LK.E.lit (LK.D.str [98])) (LK.E.nil))) (LK.E.cons (LK.E.tup (LK.E.cons (LK.E.lit (LK.D.str [99])) (LK.E.nil))) (LK.E.cons (LK.E.tup (LK.E.cons (LK.E.lit (LK.D.str [100])) (LK.E.nil))) (LK.E.nil)))))) (LK.E.nil)))) (LK.E.nil))))) (LK.S.skip))) }
def f27 : Fn := { np := 3, ns := 7, ret := false, body := LK.S.seq (LK.S.tasg [3, 4] (LK.E.tup (LK.E.cons (LK.E.mk (LK.E.lst (LK.E.nil))) (LK.E.cons (LK.E.var 2) (LK.E.nil))))) (LK.S.seq (LK.S.while_ (LK.E.not (LK.E.call 62 [false, false, false] [0, 1, 2] (LK.E.cons (LK.E.var 0) (LK.E.cons (LK.E.var 1) (LK.E.cons (LK.E.var 4) (LK.E.nil)))) (LK.E.nil))) (LK.S.seq (LK.S.asg 5 (LK.E.un (LK.Un.tuple) (LK.E.lc [6] false [6] (LK.E.var 4) (LK.E.call 40 [false, false, false, false] [0, 1, 2, 3] (LK.E.cons (LK.E.var 0) (LK.E.cons (LK.E.var 1) (LK.E.cons (LK.E.var 4) (LK.E.cons (LK.E.var 6) (LK.E.nil))))) (LK.E.nil)) (LK.E.var 6)))) (LK.S.seq (LK.S.app (LK.E.var 3) (LK.E.var 5)) (LK.S.seq (LK.S.asg 4 (LK.E.un (LK.Un.tuple) (LK.E.lc [6] false [6] (LK.E.var 4) (LK.E.bin (LK.Op.nmem) (LK.E.var 6) (LK.E.var 5)) (LK.E.var 6)))) (LK.S.skip))))) (LK.S.seq (LK.S.ret (LK.E.lst (LK.E.cons (LK.E.un (LK.Un.tuple) (LK.E.var 3)) (LK.E.cons (LK.E.var 4) (LK.E.nil))))) (LK.S.skip))) }
def f28 : Fn := { np := 2, ns := 14, ret := false, body := LK.S.seq (LK.S.pasg 2 3 (LK.E.lst (LK.E.cons (LK.E.call 10 [false] [0] (LK.E.cons (LK.E.var 0) (LK.E.nil)) (LK.E.nil)) (LK.E.cons (LK.E.call 10 [false] [0] (LK.E.cons (LK.E.var 1) (LK.E.nil)) (LK.E.nil)) (LK.E.nil)))) (LK.E.call 38 [false] [0] (LK.E.cons (LK.E.bin (LK.Op.ix) (LK.E.var 0) (LK.E.lit (LK.D.int 0))) (LK.E.nil)) (LK.E.nil))) (LK.S.seq (LK.S.asg 4 (LK.E.lc [11] false [11] (LK.E.var 3) (LK.E.call 62 [false, false, false] [0, 1, 2] (LK.E.cons (LK.E.var 0) (LK.E.cons (LK.E.var 1) (LK.E.cons (LK.E.var 11) (LK.E.nil)))) (LK.E.nil)) (LK.E.var 11))) (LK.S.seq (LK.S.for_ false [5] (LK.E.var 3) (LK.S.seq (LK.S.asg 6 (LK.E.lc [11] false [11] (LK.E.var 4) (LK.E.bin (LK.Op.eq) (LK.E.lc [12] false [12] (LK.E.var 11) (LK.E.bin (LK.Op.nmem) (LK.E.var 12) (LK.E.var 5)) (LK.E.var 12)) (LK.E.lst (LK.E.nil))) (LK.E.var 11))) (LK.S.seq (LK.S.asg 7 (LK.E.call 63 [false, false, false] [0, 1, 2] (LK.E.cons (LK.E.var 0) (LK.E.cons (LK.E.var 1) (LK.E.cons (LK.E.var 5) (LK.E.nil)))) (LK.E.nil))) (LK.S.seq (LK.S.asg 8 (LK.E.lc [12] false [12] (LK.E.var 5) (LK.E.bin (LK.Op.ne) (LK.E.lc [13] false [13] (LK.E.var 6) (LK.E.bin (LK.Op.mem) (LK.E.var 12) (LK.E.var 13)) (LK.E.var 13)) (LK.E.lst (LK.E.nil))) (LK.E.var 12))) (LK.S.seq (LK.S.asg 9 (LK.E.lc [11] false [11] (LK.E.var 6) (LK.E.bin (LK.Op.eq) (LK.E.lc [12] false [12] (LK.E.var 8) (LK.E.bin (LK.Op.nmem) (LK.E.var 12) (LK.E.var 11)) (LK.E.var 12)) (LK.E.lst (LK.E.nil))) (LK.E.var 11))) (LK.S.seq (LK.S.asg 10 (LK.E.lst (LK.E.cons (LK.E.call 60 [false, false, false] [0, 1, 2] (LK.E.cons (LK.E.var 0) (LK.E.cons (LK.E.var 1) (LK.E.cons (LK.E.var 5) (LK.E.nil)))) (LK.E.nil)) (LK.E.cons (LK.E.call 61 [false, false, false] [0, 1, 2] (LK.E.cons (LK.E.var 0) (LK.E.cons (LK.E.var 1) (LK.E.cons (LK.E.var 5) (LK.E.nil)))) (LK.E.nil)) (LK.E.cons (LK.E.var 9) (LK.E.nil)))))) (LK.S.seq (LK.S.asg 10 (LK.E.bin (LK.Op.add) (LK.E.var 10) (LK.E.lst (LK.E.cons (LK.E.call 60 [false, false, false] [0, 1, 2] (LK.E.cons (LK.E.bin (LK.Op.ix) (LK.E.var 2) (LK.E.lit (LK.D.int 0))) (LK.E.cons (LK.E.bin (LK.Op.ix) (LK.E.var 2) (LK.E.lit (LK.D.int 1))) (LK.E.cons (LK.E.un (LK.Un.list) (LK.E.var 5)) (LK.E.nil)))) (LK.E.nil)) (LK.E.cons (LK.E.call 61 [false, false, false] [0, 1, 2] (LK.E.cons (LK.E.bin (LK.Op.ix) (LK.E.var 2) (LK.E.lit (LK.D.int 0))) (LK.E.cons (LK.E.bin (LK.Op.ix) (LK.E.var 2) (LK.E.lit (LK.D.int 1))) (LK.E.cons (LK.E.un (LK.Un.list) (LK.E.var 5)) (LK.E.nil)))) (LK.E.nil)) (LK.E.nil)))))) (LK.S.seq (LK.S.ite (LK.E.not (LK.E.call 9 [false, false] [0, 1] (LK.E.cons (LK.E.var 10) (LK.E.cons (LK.E.bin (LK.Op.add) (LK.E.bin (LK.Op.add) (LK.E.var 7) (LK.E.lst (LK.E.cons (LK.E.lst (LK.E.cons (LK.E.bin (LK.Op.ix) (LK.E.var 7) (LK.E.lit (LK.D.int 1))) (LK.E.nil))) (LK.E.nil)))) (LK.E.var 7)) (LK.E.nil))) (LK.E.nil))) (LK.S.seq (LK.S.ret (LK.E.lit (LK.D.bl false))) (LK.S.skip)) (LK.S.skip)) (LK.S.skip))))))))) (LK.S.seq (LK.S.ret (LK.E.call 9 [false, false] [0, 1] (LK.E.cons (LK.E.var 2) (LK.E.cons (LK.E.lst (LK.E.cons (LK.E.call 10 [false] [0] (LK.E.cons (LK.E.var 0) (LK.E.nil)) (LK.E.nil)) (LK.E.cons (LK.E.call 10 [false] [0] (LK.E.cons (LK.E.var 1) (LK.E.nil)) (LK.E.nil)) (LK.E.nil)))) (LK.E.nil))) (LK.E.nil))) (LK.S.skip)))) }
def f29 : Fn := { np := 0, ns := 13, ret := false, body := LK.S.seq (LK.S.tasg [0, 1] (LK.E.bin (LK.Op.ix) (LK.E.call 41 [] [] (LK.E.nil) (LK.E.nil)) (LK.E.lit (LK.D.int 0)))) (LK.S.seq (LK.S.tasg [2, 3] (LK.E.bin (LK.Op.ix) (LK.E.call 41 [] [] (LK.E.nil) (LK.E.nil)) (LK.E.lit (LK.D.int 1)))) (LK.S.seq (LK.S.asg 4 (LK.E.lst (LK.E.cons (LK.E.lit (LK.D.str [])) (LK.E.cons (LK.E.lit (LK.D.str [97])) (LK.E.cons (LK.E.lit (LK.D.str [100])) (LK.E.cons (LK.E.lit (LK.D.str [97, 99])) (LK.E.cons (LK.E.lit (LK.D.str [97, 100])) (LK.E.cons (LK.E.lit (LK.D.str [98, 100])) (LK.E.cons (LK.E.lit (LK.D.str [97, 98, 100])) (LK.E.cons (LK.E.lit (LK.D.str [97, 99, 100])) (LK.E.cons (LK.E.lit (LK.D.str [97, 98, 99, 100])) (LK.E.cons (LK.E.lit (LK.D.str [99, 100])) (LK.E.nil))))))))))))) (LK.S.seq (LK.S.asg 5 (LK.E.mk (LK.E.lst (LK.E.cons (LK.E.lc [12] false [12] (LK.E.var 4) (LK.E.lit (LK.D.bl true)) (LK.E.call 61 [false, false, false] [0, 1, 2] (LK.E.cons (LK.E.var 0) (LK.E.cons (LK.E.var 1) (LK.E.cons (LK.E.un (LK.Un.tuple) (LK.E.var 12)) (LK.E.nil)))) (LK.E.nil))) (LK.E.nil))))) (LK.S.seq (LK.S.app (LK.E.var 5) (LK.E.lc [12] false [12] (LK.E.var 4) (LK.E.lit (LK.D.bl true)) (LK.E.call 60 [false, false, false] [0, 1, 2] (LK.E.cons (LK.E.var 0) (LK.E.cons (LK.E.var 1) (LK.E.cons (LK.E.un (LK.Un.tuple) (LK.E.var 12)) (LK.E.nil)))) (LK.E.nil)))) (LK.S.seq (LK.S.asg 6 (LK.E.mk (LK.E.lst (LK.E.cons (LK.E.lc [12] false [12] (LK.E.tup (LK.E.cons (LK.E.lit (LK.D.str [])) (LK.E.cons (LK.E.lit (LK.D.str [])) (LK.E.cons (LK.E.lit (LK.D.str [])) (LK.E.cons (LK.E.lit (LK.D.str [])) (LK.E.cons (LK.E.lit (LK.D.str [])) (LK.E.cons (LK.E.lit (LK.D.str [98])) (LK.E.cons (LK.E.lit (LK.D.str [97, 98])) (LK.E.cons (LK.E.lit (LK.D.str [99, 100])) (LK.E.cons (LK.E.lit (LK.D.str [97, 98, 99, 100])) (LK.E.cons (LK.E.lit (LK.D.str [99, 100])) (LK.E.nil)))))))))))) (LK.E.lit (LK.D.bl true)) (LK.E.un (LK.Un.tuple) (LK.E.var 12))) (LK.E.nil))))) (LK.S.seq (LK.S.app (LK.E.var 6) (LK.E.lst (LK.E.cons (LK.E.tup (LK.E.nil)) (LK.E.cons (LK.E.tup (LK.E.cons (LK.E.tup (LK.E.cons (LK.E.lit (LK.D.str [97])) (LK.E.nil))) (LK.E.nil))) (LK.E.cons (LK.E.tup (LK.E.cons (LK.E.tup (LK.E.cons (LK.E.lit (LK.D.str [100])) (LK.E.nil))) (LK.E.nil))) (LK.E.cons (LK.E.tup (LK.E.cons (LK.E.tup (LK.E.cons (LK.E.lit (LK.D.str [97])) (LK.E.cons (LK.E.lit (LK.D.str [99])) (LK.E.nil)))) (LK.E.nil))) (LK.E.cons (LK.E.tup (LK.E.cons (LK.E.tup (LK.E.cons (LK.E.lit (LK.D.str [97])) (LK.E.cons (LK.E.lit (LK.D.str [100])) (LK.E.nil)))) (LK.E.nil))) (LK.E.cons (LK.E.tup (LK.E.cons (LK.E.tup (LK.E.cons (LK.E.lit (LK.D.str [100])) (LK.E.nil))) (LK.E.nil))) (LK.E.cons (LK.E.tup (LK.E.cons (LK.E.tup (LK.E.cons (LK.E.lit (LK.D.str [100])) (LK.E.nil))) (LK.E.nil))) (LK.E.cons (LK.E.tup (LK.E.cons (LK.E.tup (LK.E.cons (LK.E.lit (LK.D.str [97])) (LK.E.nil))) (LK.E.nil))) (LK.E.cons (LK.E.tup (LK.E.nil)) (LK.E.cons (LK.E.tup (LK.E.nil)) (LK.E.nil))))))))))))) (LK.S.seq (LK.S.asg 4 (LK.E.lst (LK.E.cons (LK.E.lit (LK.D.str [97, 98])) (LK.E.cons (LK.E.lit (LK.D.str [97, 98, 99])) (LK.E.cons (LK.E.lit (LK.D.str [98])) (LK.E.cons (LK.E.lit (LK.D.str [98, 99])) (LK.E.cons (LK.E.lit (LK.D.str [97, 98, 99, 100, 101])) (LK.E.cons (LK.E.lit (LK.D.str [97, 98, 100])) (LK.E.cons (LK.E.lit (LK.D.str [98, 99, 101])) (LK.E.nil)))))))))) (LK.S.seq (LK.S.app (LK.E.var 5) (LK.E.lc [12] false [12] (LK.E.var 4) (LK.E.lit (LK.D.bl true)) (LK.E.call 60 [false, false, false] [0, 1, 2] (LK.E.cons (LK.E.var 2) (LK.E.cons (LK.E.var 3) (LK.E.cons (LK.E.un (LK.Un.tuple) (LK.E.var 12)) (LK.E.nil)))) (LK.E.nil)))) (LK.S.seq (LK.S.app (LK.E.var 5) (LK.E.lc [12] false [12] (LK.E.var 4) (LK.E.lit (LK.D.bl true)) (LK.E.call 61 [false, false, false] [0, 1, 2] (LK.E.cons (LK.E.var 2) (LK.E.cons (LK.E.var 3) (LK.E.cons (LK.E.un (LK.Un.tuple) (LK.E.var 12)) (LK.E.nil)))) (LK.E.nil)))) (LK.S.seq (LK.S.app (LK.E.var 6) (LK.E.lst (LK.E.cons (LK.E.tup (LK.E.cons (LK.E.tup (LK.E.cons (LK.E.lit (LK.D.str [97])) (LK.E.nil))) (LK.E.cons (LK.E.tup (LK.E.cons (LK.E.lit (LK.D.str [98])) (LK.E.nil))) (LK.E.nil)))) (LK.E.cons (LK.E.tup (LK.E.cons (LK.E.tup (LK.E.cons (LK.E.lit (LK.D.str [97])) (LK.E.nil))) (LK.E.cons (LK.E.tup (LK.E.cons (LK.E.lit (LK.D.str [98])) (LK.E.nil))) (LK.E.nil)))) (LK.E.cons (LK.E.tup (LK.E.cons (LK.E.tup (LK.E.cons (LK.E.lit (LK.D.str [98])) (LK.E.nil))) (LK.E.nil))) (LK.E.cons (LK.E.tup (LK.E.cons (LK.E.tup (LK.E.cons (LK.E.lit (LK.D.str [98])) (LK.E.nil))) (LK.E.nil))) (LK.E.cons (LK.E.tup (LK.E.nil)) (LK.E.cons (LK.E.tup (LK.E.nil)) (LK.E.cons (LK.E.tup (LK.E.nil)) (LK.E.nil)))))))))) (LK.S.seq (LK.S.app (LK.E.var 6) (LK.E.lst (LK.E.cons (LK.E.tup (LK.E.nil)) (LK.E.cons (LK.E.tup (LK.E.cons (LK.E.lit (LK.D.str [99])) (LK.E.nil))) (LK.E.cons (LK.E.tup (LK.E.nil)) (LK.E.cons (LK.E.tup (LK.E.cons (LK.E.lit (LK.D.str [99])) (LK.E.nil))) (LK.E.cons (LK.E.un (LK.Un.tuple) (LK.E.lit (LK.D.str [97, 98, 99, 100, 101]))) (LK.E.cons (LK.E.tup (LK.E.cons (LK.E.lit (LK.D.str [97])) (LK.E.cons (LK.E.lit (LK.D.str [98])) (LK.E.cons (LK.E.lit (LK.D.str [100])) (LK.E.nil))))) (LK.E.cons (LK.E.tup (LK.E.cons (LK.E.lit (LK.D.str [98])) (LK.E.cons (LK.E.lit (LK.D.str [99])) (LK.E.cons (LK.E.lit (LK.D.str [101])) (LK.E.nil))))) (LK.E.nil)))))))))) (LK.S.seq (LK.S.asg 7 (LK.E.tup (LK.E.cons (LK.E.un (LK.Un.tuple) (LK.E.lit (LK.D.str [97, 98, 99, 100, 101, 102]))) (LK.E.cons (LK.E.tup (LK.E.cons (LK.E.tup (LK.E.cons (LK.E.lit (LK.D.str [97])) (LK.E.cons (LK.E.lit (LK.D.str [98])) (LK.E.cons (LK.E.lit (LK.D.str [99])) (LK.E.cons (LK.E.lit (LK.D.str [100])) (LK.E.nil)))))) (LK.E.cons (LK.E.tup (LK.E.cons (LK.E.lit (LK.D.str [98])) (LK.E.cons (LK.E.lit (LK.D.str [101])) (LK.E.nil)))) (LK.E.cons (LK.E.tup (LK.E.cons (LK.E.lit (LK.D.str [99])) (LK.E.cons (LK.E.lit (LK.D.str [102])) (LK.E.nil)))) (LK.E.nil))))) (LK.E.nil))))) (LK.S.seq (LK.S.asg 8 (LK.E.tup (LK.E.cons (LK.E.tup (LK.E.cons (LK.E.lit (LK.D.str [97])) (LK.E.cons (LK.E.lit (LK.D.str [101])) (LK.E.nil)))) (LK.E.cons (LK.E.tup (LK.E.cons (LK.E.lit (LK.D.str [98])) (LK.E.cons (LK.E.lit (LK.D.str [102])) (LK.E.nil)))) (LK.E.cons (LK.E.tup (LK.E.cons (LK.E.lit (LK.D.str [99])) (LK.E.nil))) (LK.E.cons (LK.E.tup (LK.E.cons (LK.E.lit (LK.D.str [100])) (LK.E.nil))) (LK.E.nil))))))) (LK.S.seq (LK.S.asg 5 (LK.E.mk (LK.E.bin (LK.Op.add) (LK.E.var 5) (LK.E.lst (LK.E.cons (LK.E.call 60 [false, false, false] [0, 1, 2] (LK.E.cons (LK.E.var 7) (LK.E.cons (LK.E.var 8) (LK.E.cons (LK.E.tup (LK.E.cons (LK.E.lit (LK.D.str [97])) (LK.E.cons (LK.E.lit (LK.D.str [98])) (LK.E.cons (LK.E.lit (LK.D.str [99])) (LK.E.nil))))) (LK.E.nil)))) (LK.E.nil)) (LK.E.cons (LK.E.call 61 [false, false, false] [0, 1, 2] (LK.E.cons (LK.E.var 7) (LK.E.cons (LK.E.var 8) (LK.E.cons (LK.E.tup (LK.E.cons (LK.E.lit (LK.D.str [97])) (LK.E.cons (LK.E.lit (LK.D.str [98])) (LK.E.cons (LK.E.lit (LK.D.str [99])) (LK.E.nil))))) (LK.E.nil)))) (LK.E.nil)) (LK.E.nil))))))) (LK.S.seq (LK.S.asg 6 (LK.E.mk (LK.E.bin (LK.Op.add) (LK.E.var 6) (LK.E.lst (LK.E.cons (LK.E.tup (LK.E.cons (LK.E.tup (LK.E.cons (LK.E.lit (LK.D.str [97])) (LK.E.nil))) (LK.E.cons (LK.E.tup (LK.E.cons (LK.E.lit (LK.D.str [98])) (LK.E.nil))) (LK.E.cons (LK.E.tup (LK.E.cons (LK.E.lit (LK.D.str [99])) (LK.E.nil))) (LK.E.nil))))) (LK.E.cons (LK.E.tup (LK.E.nil)) (LK.E.nil))))))) (LK.S.seq (LK.S.asg 5 (LK.E.mk (LK.E.bin (LK.Op.add) (LK.E.var 5) (LK.E.lst (LK.E.cons (LK.E.call 61 [false, false, false] [0, 1, 2] (LK.E.cons (LK.E.tup (LK.E.cons (LK.E.tup (LK.E.nil)) (LK.E.cons (LK.E.tup (LK.E.nil)) (LK.E.nil)))) (LK.E.cons (LK.E.tup (LK.E.nil)) (LK.E.cons (LK.E.tup (LK.E.nil)) (LK.E.nil)))) (LK.E.nil)) (LK.E.cons (LK.E.call 60 [false, false, false] [0, 1, 2] (LK.E.cons (LK.E.tup (LK.E.cons (LK.E.tup (LK.E.nil)) (LK.E.cons (LK.E.tup (LK.E.cons (LK.E.tup (LK.E.nil)) (LK.E.nil))) (LK.E.nil)))) (LK.E.cons (LK.E.tup (LK.E.nil)) (LK.E.cons (LK.E.tup (LK.E.nil)) (LK.E.nil)))) (LK.E.nil)) (LK.E.nil))))))) (LK.S.seq (LK.S.asg 9 (LK.E.un (LK.Un.tuple) (LK.E.lit (LK.D.str [97, 98, 99, 100, 101, 102, 103, 104])))) (LK.S.seq (LK.S.asg 5 (LK.E.mk (LK.E.bin (LK.Op.add) (LK.E.var 5) (LK.E.lst (LK.E.cons (LK.E.call 60 [false, false, false] [0, 1, 2] (LK.E.cons (LK.E.tup (LK.E.cons (LK.E.var 9) (LK.E.cons (LK.E.tup (LK.E.nil)) (LK.E.nil)))) (LK.E.cons (LK.E.tup (LK.E.cons (LK.E.var 9) (LK.E.nil))) (LK.E.cons (LK.E.sl true false (LK.E.var 9) (LK.E.lit (LK.D.int 1)) (LK.E.lit (LK.D.non))) (LK.E.nil)))) (LK.E.nil)) (LK.E.cons (LK.E.call 60 [false, false, false] [0, 1, 2] (LK.E.cons (LK.E.tup (LK.E.cons (LK.E.var 9) (LK.E.cons (LK.E.tup (LK.E.nil)) (LK.E.nil)))) (LK.E.cons (LK.E.tup (LK.E.cons (LK.E.var 9) (LK.E.nil))) (LK.E.cons (LK.E.var 9) (LK.E.nil)))) (LK.E.nil)) (LK.E.nil))))))) (LK.S.seq (LK.S.asg 5 (LK.E.mk (LK.E.bin (LK.Op.add) (LK.E.var 5) (LK.E.lst (LK.E.cons (LK.E.call 61 [false, false, false] [0, 1, 2] (LK.E.cons (LK.E.tup (LK.E.cons (LK.E.var 9) (LK.E.cons (LK.E.tup (LK.E.cons (LK.E.sl true false (LK.E.var 9) (LK.E.lit (LK.D.int 1)) (LK.E.lit (LK.D.non))) (LK.E.cons (LK.E.sl true true (LK.E.var 9) (LK.E.lit (LK.D.int 2)) (LK.E.lit (LK.D.int 4))) (LK.E.nil)))) (LK.E.nil)))) (LK.E.cons (LK.E.tup (LK.E.cons (LK.E.var 9) (LK.E.nil))) (LK.E.cons (LK.E.sl true false (LK.E.var 9) (LK.E.lit (LK.D.int 2)) (LK.E.lit (LK.D.non))) (LK.E.nil)))) (LK.E.nil)) (LK.E.nil)))))) (LK.S.seq (LK.S.app (LK.E.var 5) (LK.E.call 61 [false, false, false] [0, 1, 2] (LK.E.cons (LK.E.tup (LK.E.cons (LK.E.var 9) (LK.E.cons (LK.E.tup (LK.E.cons (LK.E.sl true false (LK.E.var 9) (LK.E.lit (LK.D.int 1)) (LK.E.lit (LK.D.non))) (LK.E.cons (LK.E.sl true true (LK.E.var 9) (LK.E.lit (LK.D.int 2)) (LK.E.lit (LK.D.int 4))) (LK.E.nil)))) (LK.E.nil)))) (LK.E.cons (LK.E.tup (LK.E.cons (LK.E.var 9) (LK.E.nil))) (LK.E.cons (LK.E.sl true false (LK.E.var 9) (LK.E.lit (LK.D.int 1)) (LK.E.lit (LK.D.non))) (LK.E.nil)))) (LK.E.nil))) (LK.S.seq (LK.S.asg 6 (LK.E.mk (LK.E.bin (LK.Op.add) (LK.E.var 6) (LK.E.lst (LK.E.cons (LK.E.tup (LK.E.nil)) (LK.E.cons (LK.E.tup (LK.E.nil)) (LK.E.cons (LK.E.tup (LK.E.cons (LK.E.sl true false (LK.E.var 9) (LK.E.lit (LK.D.int 1)) (LK.E.lit (LK.D.non))) (LK.E.nil))) (LK.E.cons (LK.E.tup (LK.E.nil)) (LK.E.cons (LK.E.tup (LK.E.cons (LK.E.lit (LK.D.str [99])) (LK.E.cons (LK.E.lit (LK.D.str [100])) (LK.E.nil)))) (LK.E.cons (LK.E.sl true false (LK.E.var 9) (LK.E.lit (LK.D.int 1)) (LK.E.lit (LK.D.non))) (LK.E.nil))))))))))) (LK.S.seq (LK.S.app (LK.E.var 5) (LK.E.call 61 [false, false, false] [2, 1, 0] (LK.E.nil) (LK.E.cons (LK.E.lst (LK.E.cons (LK.E.lit (LK.D.str [97])) (LK.E.cons (LK.E.lit (LK.D.str [99])) (LK.E.cons (LK.E.lit (LK.D.str [100])) (LK.E.nil))))) (LK.E.cons (LK.E.call 10 [false] [0] (LK.E.cons (LK.E.var 1) (LK.E.nil)) (LK.E.nil)) (LK.E.cons (LK.E.call 10 [false] [0] (LK.E.cons (LK.E.var 0) (LK.E.nil)) (LK.E.nil)) (LK.E.nil)))))) (LK.S.seq (LK.S.app (LK.E.var 5) (LK.E.call 60 [false, false, false] [2, 1, 0] (LK.E.nil) (LK.E.cons (LK.E.lst (LK.E.cons (LK.E.lit (LK.D.str [97])) (LK.E.cons (LK.E.lit (LK.D.str [99])) (LK.E.cons (LK.E.lit (LK.D.str [100])) (LK.E.nil))))) (LK.E.cons (LK.E.call 10 [false] [0] (LK.E.cons (LK.E.var 1) (LK.E.nil)) (LK.E.nil)) (LK.E.cons (LK.E.call 10 [false] [0] (LK.E.cons (LK.E.var 0) (LK.E.nil)) (LK.E.nil)) (LK.E.nil)))))) (LK.S.seq (LK.S.pasg 10 11 (LK.E.tup (LK.E.cons (LK.E.bin (LK.Op.ix) (LK.E.var 0) (LK.E.lit (LK.D.int 0))) (LK.E.cons (LK.E.lst (LK.E.cons (LK.E.lst (LK.E.cons (LK.E.lit (LK.D.str [97])) (LK.E.cons (LK.E.lit (LK.D.str [98])) (LK.E.nil)))) (LK.E.cons (LK.E.tup (LK.E.cons (LK.E.lit (LK.D.str [98])) (LK.E.cons (LK.E.lit (LK.D.str [99])) (LK.E.nil)))) (LK.E.cons (LK.E.lst (LK.E.cons (LK.E.lit (LK.D.str [99])) (LK.E.cons (LK.E.lit (LK.D.str [100])) (LK.E.nil)))) (LK.E.nil))))) (LK.E.nil)))) (LK.E.tup (LK.E.cons (LK.E.lst (LK.E.cons (LK.E.lit (LK.D.str [97])) (LK.E.nil))) (LK.E.cons (LK.E.tup (LK.E.cons (LK.E.lit (LK.D.str [98])) (LK.E.cons (LK.E.lit (LK.D.str [100])) (LK.E.nil)))) (LK.E.cons (LK.E.lst (LK.E.cons (LK.E.lit (LK.D.str [99])) (LK.E.nil))) (LK.E.nil)))))) (LK.S.seq (LK.S.asg 5 (LK.E.mk (LK.E.bin (LK.Op.add) (LK.E.var 5) (LK.E.lst (LK.E.cons (LK.E.call 61 [false, false, false] [0, 1, 2] (LK.E.cons (LK.E.var 10) (LK.E.cons (LK.E.var 11) (LK.E.cons (LK.E.lst (LK.E.cons (LK.E.lit (LK.D.str [97])) (LK.E.cons (LK.E.lit (LK.D.str [99])) (LK.E.cons (LK.E.lit (LK.D.str [100])) (LK.E.nil))))) (LK.E.nil)))) (LK.E.nil)) (LK.E.cons (LK.E.call 60 [false, false, false] [0, 1, 2] (LK.E.cons (LK.E.var 10) (LK.E.cons (LK.E.var 11) (LK.E.cons (LK.E.lst (LK.E.cons (LK.E.lit (LK.D.str [97])) (LK.E.cons (LK.E.lit (LK.D.str [99])) (LK.E.cons (LK.E.lit (LK.D.str [100])) (LK.E.nil))))) (LK.E.nil)))) (LK.E.nil)) (LK.E.nil))))))) (LK.S.seq (LK.S.ite (LK.E.not (LK.E.call 9 [false, false] [0, 1] (LK.E.cons (LK.E.var 5) (LK.E.cons (LK.E.bin (LK.Op.add) (LK.E.var 6) (LK.E.rep (LK.E.cons (LK.E.tup (LK.E.cons (LK.E.lit (LK.D.str [99])) (LK.E.cons (LK.E.lit (LK.D.str [100])) (LK.E.nil)))) (LK.E.cons (LK.E.tup (LK.E.cons (LK.E.tup (LK.E.cons (LK.E.lit (LK.D.str [97])) (LK.E.nil))) (LK.E.nil))) (LK.E.nil))) (LK.E.lit (LK.D.int 2)))) (LK.E.nil))) (LK.E.nil))) (LK.S.seq (LK.S.ret (LK.E.lit (LK.D.bl false))) (LK.S.skip)) (LK.S.skip)) (LK.S.seq (LK.S.ret (LK.E.un (LK.Un.all) (LK.E.lc [12] false [12] (LK.E.call 41 [] [] (LK.E.nil) (LK.E.nil)) (LK.E.lit (LK.D.bl true)) (LK.E.call 16 [false, false] [0, 1] (LK.E.cons (LK.E.bin (LK.Op.ix) (LK.E.var 12) (LK.E.lit (LK.D.int 0))) (LK.E.cons (LK.E.bin (LK.Op.ix) (LK.E.var 12) (LK.E.lit (LK.D.int 1))) (LK.E.nil))) (LK.E.nil))))) (LK.S.skip)))))))))))))))))))))))))))) }
def f30 : Fn := { np := 1, ns := 3, ret := false, body := LK.S.seq (LK.S.for_ false [1] (LK.E.rng (LK.E.lit (LK.D.int 0)) (LK.E.lit (LK.D.int 6))) (LK.S.seq (LK.S.asg 2 (LK.E.call 37 [true, false, false] [0, 1, 2] (LK.E.cons (LK.E.var 0) (LK.E.cons (LK.E.lit (LK.D.int 5)) (LK.E.cons (LK.E.lit (LK.D.int 5)) (LK.E.nil)))) (LK.E.nil))) (LK.S.seq (LK.S.ite (LK.E.not (LK.E.call 16 [false, false] [0, 1] (LK.E.cons (LK.E.var 2) (LK.E.cons (LK.E.call 26 [true, false, false] [0, 1, 2] (LK.E.cons (LK.E.var 0) (LK.E.cons (LK.E.var 2) (LK.E.cons (LK.E.lit (LK.D.int 4)) (LK.E.nil)))) (LK.E.nil)) (LK.E.nil))) (LK.E.nil))) (LK.S.seq (LK.S.ret (LK.E.lit (LK.D.bl false))) (LK.S.skip)) (LK.S.skip)) (LK.S.skip)))) (LK.S.seq (LK.S.ret (LK.E.lit (LK.D.bl true))) (LK.S.skip)) }
def f31 : Fn := { np := 1, ns := 3, ret := false, body := LK.S.seq (LK.S.ite (LK.E.not (LK.E.call 15 [] [] (LK.E.nil) (LK.E.nil))) (LK.S.seq (LK.S.ret (LK.E.lit (LK.D.bl false))) (LK.S.skip)) (LK.S.skip)) (LK.S.seq (LK.S.asg 1 (LK.E.call 8 [false, false] [0, 1] (LK.E.cons (LK.E.var 0) (LK.E.cons (LK.E.lit (LK.D.int 3)) (LK.E.nil))) (LK.E.nil))) (LK.S.seq (LK.S.ret (LK.E.un (LK.Un.all) (LK.E.lc [2] false [2] (LK.E.rng (LK.E.lit (LK.D.int 0)) (LK.E.un (LK.Un.len) (LK.E.var 1))) (LK.E.lit (LK.D.bl true)) (LK.E.call 17 [true] [0] (LK.E.cons (LK.E.call 6 [false, false] [0, 1] (LK.E.cons (LK.E.var 1) (LK.E.cons (LK.E.var 2) (LK.E.nil))) (LK.E.nil)) (LK.E.nil)) (LK.E.nil))))) (LK.S.skip))) }
def T : Nat → Option Fn := fun n => match n with
  | 1 => some f1
  | 19 => some f2
  | 2 => some f3
  | 34 => some f5
  | 21 => some f7
  | 35 => some f9
  | 36 => some f10
  | 60 => some f11
  | 61 => some f12
  | 6 => some f14
  | 7 => some f15
  | 8 => some f16
  | 9 => some f17
  | 10 => some f18
  | 37 => some f19
  | 26 => some f20
  | 38 => some f21
  | 29 => some f22
  | 39 => some f23
  | 40 => some f24
  | 62 => some f25
  | 41 => some f26
  | 63 => some f27
  | 16 => some f28
  | 15 => some f29
  | 17 => some f30
  | 18 => some f31
  | _ => none
def ds : List Df := [d1, d2, d3, d5, d7, d9, d10, d11, d12, d14, d15, d16, d17, d18, d19, d20, d21, d22, d23, d24, d25, d26, d27, d28, d29, d30, d31]
theorem is1 : FnIs G B Cs d1 f1 := ⟨rfl, rfl, rfl, by decide +kernel⟩
theorem sc1 : L2.FnScope d1.N d1.ent.ps (L2.defScope d1.st) := ⟨rfl, rfl, rfl, by decide +kernel, rfl, by decide +kernel, by decide +kernel⟩
theorem is2 : FnIs G B Cs d2 f2 := ⟨rfl, rfl, rfl, by decide +kernel⟩
theorem sc2 : L2.FnScope d2.N d2.ent.ps (L2.defScope d2.st) := ⟨rfl, rfl, rfl, by decide +kernel, rfl, by decide +kernel, by decide +kernel⟩
theorem is3 : FnIs G B Cs d3 f3 := ⟨rfl, rfl, rfl, by decide +kernel⟩
theorem sc3 : L2.FnScope d3.N d3.ent.ps (L2.defScope d3.st) := ⟨rfl, rfl, rfl, by decide +kernel, rfl, by decide +kernel, by decide +kernel⟩
theorem is5 : FnIs G B Cs d5 f5 := ⟨rfl, rfl, rfl, by decide +kernel⟩
theorem sc5 : L2.FnScope d5.N d5.ent.ps (L2.defScope d5.st) := ⟨rfl, rfl, rfl, by decide +kernel, rfl, by decide +kernel, by decide +kernel⟩
theorem is7 : FnIs G B Cs d7 f7 := ⟨rfl, rfl, rfl, by decide +kernel⟩
theorem sc7 : L2.FnScope d7.N d7.ent.ps (L2.defScope d7.st) := ⟨rfl, rfl, rfl, by decide +kernel, rfl, by decide +kernel, by decide +kernel⟩
theorem is9 : FnIs G B Cs d9 f9 := ⟨rfl, rfl, rfl, by decide +kernel⟩
theorem sc9 : L2.FnScope d9.N d9.ent.ps (L2.defScope d9.st) := ⟨rfl, rfl, rfl, by decide +kernel, rfl, by decide +kernel, by decide +kernel⟩
theorem is10 : FnIs G B Cs d10 f10 := ⟨rfl, rfl, rfl, by decide +kernel⟩
theorem sc10 : L2.FnScope d10.N d10.ent.ps (L2.defScope d10.st) := ⟨rfl, rfl, rfl, by decide +kernel, rfl, by decide +kernel, by decide +kernel⟩
theorem is11 : FnIs G B Cs d11 f11 := ⟨rfl, rfl, rfl, by decide +kernel⟩
theorem sc11 : L2.FnScope d11.N d11.ent.ps (L2.defScope d11.st) := ⟨rfl, rfl, rfl, by decide +kernel, rfl, by decide +kernel, by decide +kernel⟩
theorem is12 : FnIs G B Cs d12 f12 := ⟨rfl, rfl, rfl, by decide +kernel⟩
theorem sc12 : L2.FnScope d12.N d12.ent.ps (L2.defScope d12.st) := ⟨rfl, rfl, rfl, by decide +kernel, rfl, by decide +kernel, by decide +kernel⟩
theorem is14 : FnIs G B Cs d14 f14 := ⟨rfl, rfl, rfl, by decide +kernel⟩
theorem sc14 : L2.FnScope d14.N d14.ent.ps (L2.defScope d14.st) := ⟨rfl, rfl, rfl, by decide +kernel, rfl, by decide +kernel, by decide +kernel⟩
theorem is15 : FnIs G B Cs d15 f15 := ⟨rfl, rfl, rfl, by decide +kernel⟩
theorem sc15 : L2.FnScope d15.N d15.ent.ps (L2.defScope d15.st) := ⟨rfl, rfl, rfl, by decide +kernel, rfl, by decide +kernel, by decide +kernel⟩
theorem is16 : FnIs G B Cs d16 f16 := ⟨rfl, rfl, rfl, by decide +kernel⟩
theorem sc16 : L2.FnScope d16.N d16.ent.ps (L2.defScope d16.st) := ⟨rfl, rfl, rfl, by decide +kernel, rfl, by decide +kernel, by decide +kernel⟩
theorem is17 : FnIs G B Cs d17 f17 := ⟨rfl, rfl, rfl, by decide +kernel⟩
theorem sc17 : L2.FnScope d17.N d17.ent.ps (L2.defScope d17.st) := ⟨rfl, rfl, rfl, by decide +kernel, rfl, by decide +kernel, by decide +kernel⟩
theorem is18 : FnIs G B Cs d18 f18 := ⟨rfl, rfl, rfl, by decide +kernel⟩
theorem sc18 : L2.FnScope d18.N d18.ent.ps (L2.defScope d18.st) := ⟨rfl, rfl, rfl, by decide +kernel, rfl, by decide +kernel, by decide +kernel⟩
theorem is19 : FnIs G B Cs d19 f19 := ⟨rfl, rfl, rfl, by decide +kernel⟩
theorem sc19 : L2.FnScope d19.N d19.ent.ps (L2.defScope d19.st) := ⟨rfl, rfl, rfl, by decide +kernel, rfl, by decide +kernel, by decide +kernel⟩
theorem is20 : FnIs G B Cs d20 f20 := ⟨rfl, rfl, rfl, by decide +kernel⟩
theorem sc20 : L2.FnScope d20.N d20.ent.ps (L2.defScope d20.st) := ⟨rfl, rfl, rfl, by decide +kernel, rfl, by decide +kernel, by decide +kernel⟩
theorem is21 : FnIs G B Cs d21 f21 := ⟨rfl, rfl, rfl, by decide +kernel⟩
theorem sc21 : L2.FnScope d21.N d21.ent.ps (L2.defScope d21.st) := ⟨rfl, rfl, rfl, by decide +kernel, rfl, by decide +kernel, by decide +kernel⟩
theorem is22 : FnIs G B Cs d22 f22 := ⟨rfl, rfl, rfl, by decide +kernel⟩
theorem sc22 : L2.FnScope d22.N d22.ent.ps (L2.defScope d22.st) := ⟨rfl, rfl, rfl, by decide +kernel, rfl, by decide +kernel, by decide +kernel⟩
theorem is23 : FnIs G B Cs d23 f23 := ⟨rfl, rfl, rfl, by decide +kernel⟩
theorem sc23 : L2.FnScope d23.N d23.ent.ps (L2.defScope d23.st) := ⟨rfl, rfl, rfl, by decide +kernel, rfl, by decide +kernel, by decide +kernel⟩
theorem is24 : FnIs G B Cs d24 f24 := ⟨rfl, rfl, rfl, by decide +kernel⟩
theorem sc24 : L2.FnScope d24.N d24.ent.ps (L2.defScope d24.st) := ⟨rfl, rfl, rfl, by decide +kernel, rfl, by decide +kernel, by decide +kernel⟩
theorem is25 : FnIs G B Cs d25 f25 := ⟨rfl, rfl, rfl, by decide +kernel⟩
theorem sc25 : L2.FnScope d25.N d25.ent.ps (L2.defScope d25.st) := ⟨rfl, rfl, rfl, by decide +kernel, rfl, by decide +kernel, by decide +kernel⟩
theorem is26 : FnIs G B Cs d26 f26 := ⟨rfl, rfl, rfl, by decide +kernel⟩
theorem sc26 : L2.FnScope d26.N d26.ent.ps (L2.defScope d26.st) := ⟨rfl, rfl, rfl, by decide +kernel, rfl, by decide +kernel, by decide +kernel⟩
theorem is27 : FnIs G B Cs d27 f27 := ⟨rfl, rfl, rfl, by decide +kernel⟩
theorem sc27 : L2.FnScope d27.N d27.ent.ps (L2.defScope d27.st) := ⟨rfl, rfl, rfl, by decide +kernel, rfl, by decide +kernel, by decide +kernel⟩
theorem is28 : FnIs G B Cs d28 f28 := ⟨rfl, rfl, rfl, by decide +kernel⟩
theorem sc28 : L2.FnScope d28.N d28.ent.ps (L2.defScope d28.st) := ⟨rfl, rfl, rfl, by decide +kernel, rfl, by decide +kernel, by decide +kernel⟩
theorem is29 : FnIs G B Cs d29 f29 := ⟨rfl, rfl, rfl, by decide +kernel⟩
theorem sc29 : L2.FnScope d29.N d29.ent.ps (L2.defScope d29.st) := ⟨rfl, rfl, rfl, by decide +kernel, rfl, by decide +kernel, by decide +kernel⟩
theorem is30 : FnIs G B Cs d30 f30 := ⟨rfl, rfl, rfl, by decide +kernel⟩
theorem sc30 : L2.FnScope d30.N d30.ent.ps (L2.defScope d30.st) := ⟨rfl, rfl, rfl, by decide +kernel, rfl, by decide +kernel, by decide +kernel⟩
theorem is31 : FnIs G B Cs d31 f31 := ⟨rfl, rfl, rfl, by decide +kernel⟩
theorem sc31 : L2.FnScope d31.N d31.ent.ps (L2.defScope d31.st) := ⟨rfl, rfl, rfl, by decide +kernel, rfl, by decide +kernel, by decide +kernel⟩
end Lk60
set_option Elab.async false
set_option linter.all false
set_option autoImplicit false
set_option maxRecDepth 100000
/-! LK23: at the law's door. -/
namespace LK
open PySem PySem.Spec PyProof.Rows L2
variable [Tt]
/-- the written part holds no list -/
def noList (K : PySem.W.Frag) : Bool := K.all fun p => match p.2.cls with
  | .type t => !(t == "list")
  | _ => true
theorem lAt_of {K : PySem.W.Frag} {H : Hp} {a : Addr} {xs : List V} (h : noList K = true) (s : SqL K H a xs) : LAt H a xs := by
  rcases s with s | ⟨o, its, n, hk, hc, _⟩
  · exact s
  · exfalso
    have hm : (a, o) ∈ K := by
      clear h hc
      induction K with
      | nil => simp at hk
      | cons p K ih =>
        obtain ⟨b, u⟩ := p
        rw [List.lookup_cons] at hk
        split at hk
        · rename_i e
          cases hk
          rw [eq_of_beq e]
          exact List.mem_cons_self ..
        · exact List.mem_cons_of_mem _ (ih hk)
    unfold noList at h
    rw [List.all_eq_true] at h
    have := h _ hm
    rw [hc] at this
    simp at this
/-- the whole numbers of a script -/
theorem script_rep {K : PySem.W.Frag} {H : Hp} {a : Addr} {ns : List Int} (h : noList K = true) (s : SqL K H a (ns.map V.int)) (hl : ns.length ≤ 63) : Reps ⟨[], []⟩ H [.lst (ns.map D.int)] [.ref a] := by
  have ha := lAt_of h s
  have hr : ∀ k : List Int, Reps ⟨[], []⟩ H (k.map D.int) (k.map V.int) := by
    intro k
    induction k with
    | nil => simp [Reps]
    | cons x k ih =>
      simp only [List.map_cons, Reps]
      exact ⟨_, _, rfl, by simp only [Rep], ih⟩
  simp only [Reps, Rep]
  refine ⟨_, [], rfl, ⟨a, _, rfl, ha, nobar a, ?_, hr ns⟩, rfl⟩
  rw [List.length_map]
  show _ ≤ 16777216
  omega
theorem srep_none {H : Hp} (t : LamX.Tabs Tt.l H) : SRep ⟨[], []⟩ [] H := ⟨rfl, List.nodup_nil, fun a ha => absurd (show a ∈ ([] : List Addr) from ha) (by simp), fun n l a h _ => by simp at h, t⟩
end LK
set_option Elab.async false
set_option linter.all false
set_option autoImplicit false
set_option maxRecDepth 100000
/-! LK24: the end. -/
namespace LK
open PySem PySem.Spec PyProof.Rows L2
/-! ### the defs -/
theorem keep_of {K : PySem.W.Frag} {f : Addr} {oc : Value} {od : Option Addr} {fd : FuncData} {sl : Array (Option Value)} (h : K.lookup f = some ⟨oc, od, .func fd, sl⟩) : PySem.W.keepIn K (.ref f) = true := by
  unfold PySem.W.keepIn
  dsimp only
  rw [h]
/-- where a def stands -/
structure DefFor (K : PySem.W.Frag) (mg : Str → Option Value) (d : Df) (cd : Value) : Prop where
  ex : ∃ (fa : Addr) (fd : FuncData), Fun K d.ent.name d.ent.name d.st fa fd ∧ mg d.ent.name = some (.ref fa) ∧ PySem.W.keepIn K (.ref fa) = true ∧ (∀ p ∈ d.ent.pats, PatOk K fd d.ent.ps p.1 p.2 (permOf d.ent.ps p.1 p.2)) ∧ fd.code = cd
theorem defFor_mk {K : PySem.W.Frag} {h : Heap} {mg : Str → Option Value} (d : Df) {f : Addr} {oc : Value} {od an : Option Addr} {sl : Array (Option Value)} {kV dc pm cd ct : Value} (X : K.In h) (G : h.Ns mainGlobals mg) (a : PySem.W.nsIn K mainGlobals d.ent.name = some (some (.ref f)))
    (l : K.lookup f = some ⟨oc, od, .func (PySem.W.fnOf d.ent.name d.ent.name (defArgs d.st) (defBody d.st) (defScope d.st) .none kV dc pm an cd ct), sl⟩) (c : PySem.W.codeIn K cd d.ent.name = true)
    (hp : ∀ p ∈ d.ent.pats, PatOk K (PySem.W.fnOf d.ent.name d.ent.name (defArgs d.st) (defBody d.st) (defScope d.st) .none kV dc pm an cd ct) d.ent.ps p.1 p.2 (permOf d.ent.ps p.1 p.2)) : DefFor K mg d cd :=
  ⟨f, _, fun_mk l c (keep_of l), PySem.W.mg_of X G a, keep_of l, hp, rfl⟩
/-- a code object and its table, at the head -/
structure TabFor (K : PySem.W.Frag) (h : Heap) (c P : Addr) : Prop where
  hd : PySem.W.CodeHd h c P
  tab : h.get? P = some { cls := .none, data := .fields #[] }
  none : K.lookup P = none
theorem tabFor_km {K : PySem.W.Frag} {h : Heap} {c P : Addr} (X : K.In h) (e : PySem.W.codeHdIn K c P = true) (t : h.get? P = some (PySem.W.tabObj #[])) (n : K.lookup P = none) : TabFor K h c P :=
  ⟨PySem.W.codeHd_of_K X e, t, n⟩
abbrev DefForX {K : PySem.W.Frag} {h : Heap} (_ : K.In h) (mg : Str → Option Value) (d : Df) (cd : Value) : Prop := DefFor K mg d cd
abbrev TabForX {K : PySem.W.Frag} {h : Heap} (_ : K.In h) (c P : Addr) : Prop := TabFor K h c P
section
variable [Tt]
theorem defAt_of {K : PySem.W.Frag} {mg : Str → Option Value} {d : Df} {cd : Value} (F : DefFor K mg d cd) (hl : d.lam = false) : DefAt K mg d :=
  let ⟨fa, fd, h1, h2, h3, h4, _⟩ := F.ex; ⟨fa, fd, h1, h2, h3, h4, fun e => by rw [hl] at e; cases e⟩
theorem defAt_lam {K : PySem.W.Frag} {mg : Str → Option Value} {d : Df} {c P : Addr} (F : DefFor K mg d (.ref c)) (h1 : (c, P) ∈ Tt.cs) (h2 : (P, (d.ent.name ++ ".<locals>." ++ "<lambda>" : Str)) ∈ Tt.l) (h3 : ∀ p ∈ Tt.l, p.1 = P → p.2 = (d.ent.name ++ ".<locals>." ++ "<lambda>" : Str)) : DefAt K mg d :=
  let ⟨fa, fd, q1, q2, q3, q4, q5⟩ := F.ex; ⟨fa, fd, q1, q2, q3, q4, fun _ => ⟨c, P, q5, h1, h2, h3⟩⟩
def spLaw (K : PySem.W.Frag) : Sp := fun vs H Q _ => ∃ (a : Addr) (ns : List Int), vs = [.ref a] ∧ SqL K H a (ns.map V.int) ∧ ns.length ≤ 63 ∧ LamX.Tabs Tt.l H ∧ ∀ H', Q (.bl true) H'
theorem law_sp2 {T : Nat → Option Fn} {k f : Nat} {fn : Fn} {K : PySem.W.Frag} {mg : Str → Option Value} {H : Hp} {a : Addr} {ns : List Int} {Q : VK} (h : noList K = true) (s : SqL K H a (ns.map V.int)) (hl : ns.length ≤ 63) (hT : T f = some fn) (hnp : fn.np = 1) (E : XK) (tb : LamX.Tabs Tt.l H)
    (plain : ∃ S', callF T k f [.lst (ns.map D.int)] [] = .ok (.bl true) S') (hQ : ∀ H', Q (.bl true) H') : spOf T k K mg f [.ref a] H Q E := by
  obtain ⟨S', e⟩ := plain
  refine ⟨fn, hT, by rw [hnp]; rfl, _, [], ⟨[], []⟩, script_rep h s hl, srep_none tb, ?_⟩
  rw [e]
  intro v H' ρ' _ _ _ rv
  have : v = .bl true := by simpa [Rep] using rv
  rw [this]
  exact hQ H'
theorem cst_int {mg : Str → Option Value} {x : Str} {i : Int} {t : Tok} (h : mg x = some (.int i t)) : CstAt mg (x, .int i) := ⟨.int i, _, h, ⟨t, rfl⟩, by simp [flatD]⟩
theorem cst_str {mg : Str → Option Value} {x : Str} {s : List Nat} {t : Tok} (h : mg x = some (.str (txt s) t)) (h1 : s.length ≤ line) (h2 : s.all (fun c => decide (c < 1114112)) = true) : CstAt mg (x, .str s) := ⟨.str (txt s), _, h, ⟨t, rfl⟩, by simp only [flatD]; exact ⟨trivial, h1, h2⟩⟩
theorem cx_no {P : Program} {w : World} {H : Hp} {s s' : Shared} {e : Value} (h : L2.CX P w [] H s (fun _ _ _ => False) e s') : False := cx_none h
abbrev DefAtX {K : PySem.W.Frag} {h : Heap} (_ : K.In h) (mg : Str → Option Value) (d : Df) : Prop := DefAt K mg d
/-- the law's own def -/
theorem law_end {l : PySem.W.OpenLaw} {w : World} {K0 : PySem.W.Frag} {h : Heap} {mg : Str → Option Value} {fa : Addr} {T : Nat → Option Fn} {G : List Ent} {B : List Str} {Cs : List (Str × D)} {ds : List Df} {dL : Df} {fL : Fn} {x : Str} {k : Nat}
    (hK : noList K0 = true) (hfa : mg dL.ent.name = some (.ref fa)) (hL : dL ∈ ds) (hx : dL.ent.ps = [x]) (hTL : T dL.ent.id = some fL) (hnp : fL.np = 1)
    (hD : ∀ d ∈ ds, DefAt K0 mg d) (hS : ∀ d ∈ ds, FnScope d.N d.ent.ps (defScope d.st)) (hG : ∀ e ∈ G, ∃ d ∈ ds, d.ent = e) (hT : ∀ d ∈ ds, ∃ fn, T d.ent.id = some fn ∧ FnIs G B Cs d fn) (hB : ∀ x ∈ B, mg x = none) (hC : ∀ p ∈ Cs, CstAt mg p)
    (hb : ∀ (kV doc pm cdv ct : Value) (an : Option Addr) (s : Shared) (v : Value), BindsTo s (PySem.W.fnOf dL.ent.name dL.ent.name (defArgs dL.st) (defBody dL.st) (defScope dL.st) .none kV doc pm an cdv ct) ⟨[v], []⟩ [(x, v)])
    (hcs : ∀ p ∈ Tt.cs, TabFor K0 h p.1 p.2) (hlc : ∀ q ∈ Tt.l, ∃ p ∈ Tt.cs, p.2 = q.1) (hX : ∀ d ∈ ds, d.xs ≠ [] → ∃ Xa, XsOk l.prog K0 mg Xa ∧ ∀ n ∈ d.xs, ∃ C, (n, C) ∈ Xa)
    (plain : ∀ ns : List Int, ns.length ≤ 63 → ∃ S', callF T k dL.ent.id [.lst (ns.map D.int)] [] = .ok (.bl true) S') :
    LamX.LawAtS l w K0 (L2.CX l.prog w) k 63 x mg fa h := by
  obtain ⟨f, fd, F, h1, h2, h3, h4⟩ := (hD dL hL).ex
  rw [hfa] at h1
  cases h1
  refine ⟨fd, Tt.cs, spLaw K0, fun p hp => (hcs p hp).tab, fun p hp => (hcs p hp).none, fun p hp => (hcs p hp).hd, fun s v => ?_, fun H a ns hl _ ht hq => ?_, fun base _ _ hTB => ?_⟩
  · obtain ⟨oc, od, kV, doc, pm, an, cdv, ct, osl, rfl, _, _⟩ := F.ex
    exact hb kV doc pm cdv ct an s v
  · refine ⟨a, ns, rfl, hq, hl, fun q hq => ?_, fun _ => rfl⟩
    obtain ⟨p, hp, e⟩ := hlc q hq
    rw [← e]
    exact LamX.TabS.nil (ht p hp)
  · have q := all_ok (P := l.prog) (w := w) (base := base) hD hS hG hT hB hC hTB hX k dL hL fa fd F h4
    rw [hx] at q
    refine q.imp fun vs H Q E hv => ?_
    obtain ⟨a, ns, rfl, s, hl, tb, hQ⟩ := hv
    exact law_sp2 hK s hl hTL hnp E tb (plain ns hl) hQ
end
end LK
set_option autoImplicit false
set_option linter.all false
set_option maxRecDepth 100000
/-! LP1: reckoning with the little language. No heap here. -/
namespace LK
open PySem
section
variable {α β : Type} {C : Call} {env : Env} {S S1 S2 : Store}
/-- as Res.bind, closed -/
def Res.bd (r : Res α) (f : α → Store → Res β) : Res β := match r with
  | .ok a S => f a S
  | .exc x S => .exc x S
  | .bad => .bad
@[simp] theorem rb_ok {a : α} {f : α → Store → Res β} : (Res.ok a S).bd f = f a S := rfl
@[simp] theorem rb_exc {x : XV} {f : α → Store → Res β} : (Res.exc x S).bd f = .exc x S := rfl
@[simp] theorem of_some {a : α} : Res.of S (some a) = .ok a S := rfl
@[simp] theorem calm_ok {a : α} : (Res.ok a S).calm = .ok a S := rfl
@[simp] theorem st_ok {a : α} {f : α → Store → SR} : (Res.ok a S).st env f = f a S := rfl
@[simp] theorem sb_nx {f : Env → Store → SR} : (SR.nx env S).bind f = f env S := rfl
@[simp] theorem sb_rt {d : D} {f : Env → Store → SR} : (SR.rt d S).bind f = .rt d S := rfl
def getV (S : Store) : Option (Option D) → Res D
  | some (some d) => .ok d S
  | _ => .bad
@[simp] theorem getV_some {d : D} : getV S (some (some d)) = .ok d S := rfl
@[simp] theorem v_var {i : Nat} : (den C (.var i)).v env S = getV S env[i]? := by
  show (match env[i]? with | some (some d) => Res.ok d S | _ => Res.bad) = _
  cases h : env[i]? with
  | none => rfl
  | some o => cases o <;> rfl
@[simp] theorem v_lit {d : D} : (den C (.lit d)).v env S = .ok d S := rfl
@[simp] theorem v_bin {o : Op} {a b : E} : (den C (.bin o a b)).v env S = ((den C a).v env S).bd fun x S => ((den C b).v env S).bd fun y S => .of S (binD S o x y) := rfl
@[simp] theorem v_un {o : Un} {a : E} : (den C (.un o a)).v env S = ((den C a).v env S).bd fun x S => .of S (unD S o x) := rfl
@[simp] theorem v_not {a : E} : (den C (.not a)).v env S = ((den C a).v env S).bd fun d S => .of S ((truth S d).map fun b => .bl (!b)) := rfl
@[simp] theorem t_not {a : E} : (den C (.not a)).t env S = ((den C a).t env S).bd fun b S => .ok (!b) S := rfl
@[simp] theorem t_and {a b : E} : (den C (.and a b)).t env S = ((den C a).t env S).bd fun c S => if c then (den C b).t env S else .ok false S := rfl
@[simp] theorem t_or {a b : E} : (den C (.or a b)).t env S = ((den C a).t env S).bd fun c S => if c then .ok true S else (den C b).t env S := rfl
@[simp] theorem t_ite {c a b : E} : (den C (.ite c a b)).t env S = ((den C c).t env S).bd fun k S => if k then (den C a).t env S else (den C b).t env S := rfl
@[simp] theorem v_ite {c a b : E} : (den C (.ite c a b)).v env S = ((den C c).t env S).bd fun k S => if k then (den C a).v env S else (den C b).v env S := rfl
def andV (S : Store) (d : D) (o : Option Bool) (k : Res D) : Res D := match o with | none => .bad | some true => k | some false => .ok d S
def orV (S : Store) (d : D) (o : Option Bool) (k : Res D) : Res D := match o with | none => .bad | some true => .ok d S | some false => k
@[simp] theorem andV_t {d : D} {k : Res D} : andV S d (some true) k = k := rfl
@[simp] theorem andV_f {d : D} {k : Res D} : andV S d (some false) k = .ok d S := rfl
@[simp] theorem orV_t {d : D} {k : Res D} : orV S d (some true) k = .ok d S := rfl
@[simp] theorem orV_f {d : D} {k : Res D} : orV S d (some false) k = k := rfl
theorem andV_b {b : Bool} {d : D} {k : Res D} : andV S d (some b) k = if b then k else .ok d S := by cases b <;> rfl
theorem orV_b {b : Bool} {d : D} {k : Res D} : orV S d (some b) k = if b then .ok d S else k := by cases b <;> rfl
@[simp] theorem v_and {a b : E} : (den C (.and a b)).v env S = ((den C a).v env S).bd fun d S => andV S d (truth S d) ((den C b).v env S) := rfl
@[simp] theorem v_or {a b : E} : (den C (.or a b)).v env S = ((den C a).v env S).bd fun d S => orV S d (truth S d) ((den C b).v env S) := rfl
/-- a test's value -/
def tv (S : Store) (d : D) : Res Bool := .of S (truth S d)
@[simp] theorem t_var {i : Nat} : (den C (.var i)).t env S = ((den C (.var i)).v env S).bd fun d S => tv S d := rfl
@[simp] theorem t_lit {d : D} : (den C (.lit d)).t env S = tv S d := rfl
@[simp] theorem t_bin {o : Op} {a b : E} : (den C (.bin o a b)).t env S = ((den C (.bin o a b)).v env S).bd fun d S => tv S d := rfl
@[simp] theorem t_un {o : Un} {a : E} : (den C (.un o a)).t env S = ((den C (.un o a)).v env S).bd fun d S => tv S d := rfl
@[simp] theorem t_call {f : Nat} {m : List Bool} {p : List Nat} {l k : E} : (den C (.call f m p l k)).t env S = ((den C (.call f m p l k)).v env S).bd fun d S => tv S d := rfl
theorem t_lc {own tg : List Nat} {tp : Bool} {src c x : E} : (den C (.lc own tp tg src c x)).t env S = ((den C (.lc own tp tg src c x)).v env S).bd fun d S => tv S d := rfl
@[simp] theorem tv_bl {b : Bool} : tv S (.bl b) = .ok b S := rfl
@[simp] theorem tv_int {i : Int} : tv S (.int i) = .ok (i != 0) S := rfl
@[simp] theorem tv_lst {l : List D} : tv S (.lst l) = .ok (!l.isEmpty) S := rfl
@[simp] theorem tv_tup {l : List D} : tv S (.tup l) = .ok (!l.isEmpty) S := rfl
@[simp] theorem tv_str {l : List Nat} : tv S (.str l) = .ok (!l.isEmpty) S := rfl
@[simp] theorem tv_non : tv S .non = .ok false S := rfl
@[simp] theorem truth_bl {b : Bool} : truth S (.bl b) = some b := rfl
@[simp] theorem truth_lst {l : List D} : truth S (.lst l) = some (!l.isEmpty) := rfl
@[simp] theorem truth_tup {l : List D} : truth S (.tup l) = some (!l.isEmpty) := rfl
@[simp] theorem truth_int {i : Int} : truth S (.int i) = some (i != 0) := rfl
@[simp] theorem truth_str {i : List Nat} : truth S (.str i) = some (!i.isEmpty) := rfl
@[simp] theorem truth_non : truth S .non = some false := rfl
def chainK (p : Op) (y : D) (S : Store) (k : Res D) : Option D → Res D
  | some (.bl true) => k.bd fun z S => .of S (binD S p y z)
  | some (.bl false) => .ok (.bl false) S
  | _ => .bad
@[simp] theorem v_chain {o p : Op} {a b c : E} : (den C (.chain o p a b c)).v env S = ((den C a).v env S).bd fun x S => ((den C b).v env S).bd fun y S => chainK p y S ((den C c).v env S) (binD S o x y) := by
  rfl
@[simp] theorem t_chain {o p : Op} {a b c : E} : (den C (.chain o p a b c)).t env S = ((den C (.chain o p a b c)).v env S).bd fun d S => match d with | .bl b => .ok b S | _ => .bad := rfl
theorem chainK_b {p : Op} {y : D} {k : Res D} {b : Bool} : chainK p y S k (some (.bl b)) = if b then (k.bd fun z S => .of S (binD S p y z)) else .ok (.bl false) S := by cases b <;> rfl
def pk (S : Store) : Bool → D → Res D
  | false, .non => .ok .non S
  | true, .int i => .ok (.int i) S
  | _, _ => .bad
theorem part_def {w : Bool} {f : Env → Store → Res D} : partF w f env S = (f env S).bd fun d S => pk S w d := by
  unfold partF
  cases f env S with
  | ok d S => cases d <;> cases w <;> rfl
  | exc => rfl
  | bad => rfl
@[simp] theorem pk_f : pk S false .non = .ok .non S := rfl
@[simp] theorem pk_t {i : Int} : pk S true (.int i) = .ok (.int i) S := rfl
@[simp] theorem v_sl {wl wh : Bool} {a lo hi : E} : (den C (.sl wl wh a lo hi)).v env S = ((den C a).v env S).bd fun x S => (((den C lo).v env S).bd fun d S => pk S wl d).bd fun y S => (((den C hi).v env S).bd fun d S => pk S wh d).bd fun z S => .of S (sliceD S x y z) := by
  have e : (den C (.sl wl wh a lo hi)).v env S = ((den C a).v env S).bd fun x S => (partF wl (den C lo).v env S).bd fun y S => (partF wh (den C hi).v env S).bd fun z S => .of S (sliceD S x y z) := rfl
  rw [e]
  simp only [part_def]
@[simp] theorem endOf_non {n d : Nat} : endOf n d .non = some d := rfl
@[simp] theorem endOf_int {n d : Nat} {i : Int} : endOf n d (.int i) = some (clip n i) := rfl
@[simp] theorem slice_l {l : List D} {lo hi : D} : sliceD S (.lst l) lo hi = (endOf l.length 0 lo).bind fun a => (endOf l.length l.length hi).map fun b => .lst (cut l a b) := rfl
@[simp] theorem slice_t {l : List D} {lo hi : D} : sliceD S (.tup l) lo hi = (endOf l.length 0 lo).bind fun a => (endOf l.length l.length hi).map fun b => .tup (cut l a b) := rfl
@[simp] theorem slice_c {n : Nat} {lo hi : D} : sliceD S (.cell n) lo hi = (S[n]?).bind fun l => (endOf l.length 0 lo).bind fun a => (endOf l.length l.length hi).map fun b => .lst (cut l a b) := rfl
@[simp] theorem clip_nat {n i : Nat} : clip n (i : Int) = min i n := by
  unfold clip
  rw [if_pos (by omega)]
  simp
@[simp] theorem clip_succ {n i : Nat} : clip n ((i : Int) + 1) = min (i + 1) n := clip_nat (i := i + 1)
@[simp] theorem clip_lit {n i : Nat} : clip n (OfNat.ofNat i : Int) = min i n := clip_nat
def tupK (S : Store) (l : List D) : Res D := .of S ((okLen l).map .tup)
def lstK (S : Store) (l : List D) : Res D := .of S ((okLen l).map .lst)
@[simp] theorem v_tup {l : E} : (den C (.tup l)).v env S = ((den C l).l env S).bd fun xs S => tupK S xs := rfl
@[simp] theorem v_lst {l : E} : (den C (.lst l)).v env S = ((den C l).l env S).bd fun xs S => lstK S xs := rfl
theorem okLen_le {l : List α} (h : l.length ≤ line) : okLen l = some l := by unfold okLen; rw [if_pos h]
theorem tupK_le {l : List D} (h : l.length ≤ line) : tupK S l = .ok (.tup l) S := by unfold tupK; rw [okLen_le h]; rfl
theorem lstK_le {l : List D} (h : l.length ≤ line) : lstK S l = .ok (.lst l) S := by unfold lstK; rw [okLen_le h]; rfl
@[simp] theorem tupK_0 : tupK S [] = .ok (.tup []) S := rfl
@[simp] theorem tupK_1 {a : D} : tupK S [a] = .ok (.tup [a]) S := tupK_le (by decide +kernel : (1 : Nat) ≤ line)
@[simp] theorem tupK_2 {a b : D} : tupK S [a, b] = .ok (.tup [a, b]) S := tupK_le (by decide +kernel : (2 : Nat) ≤ line)
@[simp] theorem tupK_3 {a b c : D} : tupK S [a, b, c] = .ok (.tup [a, b, c]) S := tupK_le (by decide +kernel : (3 : Nat) ≤ line)
@[simp] theorem tupK_4 {a b c d : D} : tupK S [a, b, c, d] = .ok (.tup [a, b, c, d]) S := tupK_le (by decide +kernel : (4 : Nat) ≤ line)
@[simp] theorem lstK_0 : lstK S [] = .ok (.lst []) S := rfl
@[simp] theorem lstK_1 {a : D} : lstK S [a] = .ok (.lst [a]) S := lstK_le (by decide +kernel : (1 : Nat) ≤ line)
@[simp] theorem lstK_2 {a b : D} : lstK S [a, b] = .ok (.lst [a, b]) S := lstK_le (by decide +kernel : (2 : Nat) ≤ line)
@[simp] theorem lstK_3 {a b c : D} : lstK S [a, b, c] = .ok (.lst [a, b, c]) S := lstK_le (by decide +kernel : (3 : Nat) ≤ line)
@[simp] theorem lstK_4 {a b c d : D} : lstK S [a, b, c, d] = .ok (.lst [a, b, c, d]) S := lstK_le (by decide +kernel : (4 : Nat) ≤ line)
@[simp] theorem lstK_5 {a b c d e : D} : lstK S [a, b, c, d, e] = .ok (.lst [a, b, c, d, e]) S := lstK_le (by decide +kernel : (5 : Nat) ≤ line)
@[simp] theorem l_nil : (den C .nil).l env S = .ok [] S := rfl
@[simp] theorem l_cons {a r : E} : (den C (.cons a r)).l env S = ((den C a).v env S).bd fun x S => ((den C r).l env S).bd fun xs S => .ok (x :: xs) S := rfl
def starK (S : Store) (x : D) (k : Res (List D)) : Res (List D) := match items S x with
  | some ys => k.bd fun xs S => .ok (ys ++ xs) S
  | none => .bad
@[simp] theorem l_star {a r : E} : (den C (.star a r)).l env S = ((den C a).v env S).bd fun x S => starK S x ((den C r).l env S) := rfl
@[simp] theorem starK_tup {l : List D} {k : Res (List D)} : starK S (.tup l) k = k.bd fun xs S => .ok (l ++ xs) S := rfl
@[simp] theorem starK_lst {l : List D} {k : Res (List D)} : starK S (.lst l) k = k.bd fun xs S => .ok (l ++ xs) S := rfl
def repK (S : Store) (xs : List D) (k : Res D) : Res D := if xs.length ≤ 1000 then k.bd fun k S => (match k with
    | .int k => if k ≤ 1000 ∧ -1000 ≤ k then .ok (.lst (repList xs k.toNat)) S else .bad
    | _ => .bad) else .bad
@[simp] theorem v_rep {l n : E} : (den C (.rep l n)).v env S = ((den C l).l env S).bd fun xs S => repK S xs ((den C n).v env S) := rfl
theorem repK_ok {xs : List D} {n : Nat} (h : xs.length ≤ 1000) (hn : n ≤ 1000) : repK S xs (.ok (.int n) S1) = .ok (.lst (repList xs n)) S1 := by
  unfold repK
  rw [if_pos h]
  show (if _ then _ else _) = _
  rw [if_pos (by omega)]
  simp
def mkK (S : Store) : D → Res D
  | .lst l => .ok (.cell S.length) (S ++ [l])
  | _ => .bad
@[simp] theorem v_mk {a : E} : (den C (.mk a)).v env S = ((den C a).v env S).bd fun x S => mkK S x := by
  rfl
@[simp] theorem mkK_lst {l : List D} : mkK S (.lst l) = .ok (.cell S.length) (S ++ [l]) := rfl
def callK (C : Call) (f : Nat) (m : List Bool) (S : Store) : Option (List D) → Res D
  | some ds => callD C f m ds S
  | none => .bad
@[simp] theorem callK_some {f : Nat} {m : List Bool} {ds : List D} : callK C f m S (some ds) = callD C f m ds S := rfl
@[simp] theorem v_call {f : Nat} {m : List Bool} {p : List Nat} {l k : E} : (den C (.call f m p l k)).v env S = ((den C l).l env S).bd fun xs S => ((den C k).l env S).bd fun ys S => callK C f m S (pick (xs ++ ys) p) := by
  rfl
@[simp] theorem pick_nil {l : List α} : pick l [] = some [] := rfl
@[simp] theorem pick_cons {l : List α} {n : Nat} {ns : List Nat} : pick l (n :: ns) = (l[n]?).bind fun x => (pick l ns).map fun r => x :: r := rfl
/-! ### what is walked -/
@[simp] theorem i_lc {own tg : List Nat} {tp : Bool} {src c x : E} : (den C (.lc own tp tg src c x)).i env S = ((den C (.lc own tp tg src c x)).v env S).bd fun d S => .of S ((walked S d).map fun l => (l, asCell d)) := rfl
def iv (S : Store) (d : D) : Res (List D × Option Nat) := .of S ((walked S d).map fun l => (l, asCell d))
@[simp] theorem i_var {i : Nat} : (den C (.var i)).i env S = ((den C (.var i)).v env S).bd fun d S => iv S d := rfl
@[simp] theorem i_lit {d : D} : (den C (.lit d)).i env S = iv S d := rfl
@[simp] theorem i_bin {o : Op} {a b : E} : (den C (.bin o a b)).i env S = ((den C (.bin o a b)).v env S).bd fun d S => iv S d := rfl
@[simp] theorem i_un {o : Un} {a : E} : (den C (.un o a)).i env S = ((den C (.un o a)).v env S).bd fun d S => iv S d := rfl
@[simp] theorem i_sl {wl wh : Bool} {a lo hi : E} : (den C (.sl wl wh a lo hi)).i env S = ((den C (.sl wl wh a lo hi)).v env S).bd fun d S => iv S d := rfl
@[simp] theorem i_call {f : Nat} {m : List Bool} {p : List Nat} {l k : E} : (den C (.call f m p l k)).i env S = ((den C (.call f m p l k)).v env S).bd fun d S => iv S d := rfl
@[simp] theorem v_fz {a : E} : (den C (.fz a)).v env S = ((den C a).v env S).bd fun d S1 => fzR S d S1 := rfl
@[simp] theorem t_fz {a : E} : (den C (.fz a)).t env S = ((den C (.fz a)).v env S).bd fun d S => tv S d := rfl
@[simp] theorem i_fz {a : E} : (den C (.fz a)).i env S = ((den C (.fz a)).v env S).bd fun d S => iv S d := rfl
theorem fzR_new {l : List D} (hs : S.all D.pures = true) (h : D.pures l = true) : fzR S (.cell S.length) (S ++ [l]) = .ok (.lst l) S := by
  unfold fzR
  rw [if_pos ⟨rfl, by simp, by simpa using hs⟩]
  simp [h]
@[simp] theorem fzR_0 {l : List D} : fzR [] (.cell 0) [l] = if D.pures l = true then .ok (.lst l) [] else .bad := by
  simp [fzR]
@[simp] theorem fzR_1 {a b l : List D} : fzR [a] (.cell 1) [b, l] = if D.pures b = true then (if D.pures l = true then .ok (.lst l) [b] else .bad) else .bad := by
  simp [fzR]
@[simp] theorem fzR_2 {a a2 b b2 l : List D} : fzR [a, a2] (.cell 2) [b, b2, l] = if D.pures b = true ∧ D.pures b2 = true then (if D.pures l = true then .ok (.lst l) [b, b2] else .bad) else .bad := by
  simp [fzR]
@[simp] theorem i_tup {l : E} : (den C (.tup l)).i env S = ((den C (.tup l)).v env S).bd fun d S => iv S d := rfl
@[simp] theorem i_lst {l : E} : (den C (.lst l)).i env S = ((den C (.lst l)).v env S).bd fun d S => iv S d := rfl
@[simp] theorem i_seqr {tp : Bool} {a b : E} : (den C (.seqr tp a b)).i env S = ((den C (.seqr tp a b)).v env S).bd fun d S => iv S d := rfl
@[simp] theorem iv_tup {l : List D} : iv S (.tup l) = .ok (l, none) S := rfl
@[simp] theorem iv_lst {l : List D} : iv S (.lst l) = .ok (l, none) S := rfl
@[simp] theorem iv_str {l : List Nat} : iv S (.str l) = .ok (l.map fun c => .str [c], none) S := rfl
theorem iv_cell {n : Nat} {l : List D} (h : S[n]? = some l) : iv S (.cell n) = .ok (l, some n) S := by
  show Res.of S (((S[n]?)).map _) = _
  rw [h]; rfl
def rngK (S : Store) (x y : D) : Res (List D) := match x, y with
  | .int i, .int j => if (-1000000 ≤ i ∧ i ≤ 1000000 ∧ -1000000 ≤ j ∧ j ≤ 1000000) then .ok (nums i (j - i).toNat) S else .bad
  | _, _ => .bad
@[simp] theorem i_rng {a b : E} : (den C (.rng a b)).i env S = (((den C a).v env S).bd fun x S => ((den C b).v env S).bd fun y S => rngK S x y).bd fun l S => .ok (l, none) S := by
  rfl
theorem rngK_n {n : Nat} (h : n ≤ 1000000) : rngK S (.int 0) (.int n) = .ok (nums 0 n) S := by
  show (if _ then _ else _) = _
  rw [if_pos (by omega)]
  simp
theorem rngK_ok {i j : Int} (h : -1000000 ≤ i ∧ i ≤ 1000000 ∧ -1000000 ≤ j ∧ j ≤ 1000000) : rngK S (.int i) (.int j) = .ok (nums i (j - i).toNat) S := by
  show (if _ then _ else _) = _
  rw [if_pos h]
def seqrK (S : Store) (tp : Bool) (x y : D) : Res D := (rngK S x y).bd fun l S => .ok (if tp then .tup l else .lst l) S
@[simp] theorem v_seqr {tp : Bool} {a b : E} : (den C (.seqr tp a b)).v env S = ((den C a).v env S).bd fun x S => ((den C b).v env S).bd fun y S => seqrK S tp x y := by
  show Res.bd _ _ = _
  refine congrArg _ (funext fun x => funext fun S => ?_)
  refine congrArg _ (funext fun y => funext fun S => ?_)
  cases x <;> cases y <;> try rfl
  show (if _ then _ else _) = Res.bd (if _ then _ else _) _
  split <;> rfl
@[simp] theorem seqrK_n {tp : Bool} {n : Nat} (h : n ≤ 1000000) : seqrK S tp (.int 0) (.int n) = .ok (if tp then .tup (nums 0 n) else .lst (nums 0 n)) S := by
  unfold seqrK; rw [rngK_n h]; rfl
def enumK (S : Store) : D → Res (List D)
  | .lst l => .ok (pairs (nums 0 l.length) l) S
  | .tup l => .ok (pairs (nums 0 l.length) l) S
  | _ => .bad
@[simp] theorem i_enum {a : E} : (den C (.enum a)).i env S = (((den C a).v env S).bd fun x S => enumK S x).bd fun l S => .ok (l, none) S := by
  rfl
@[simp] theorem enumK_tup {l : List D} : enumK S (.tup l) = .ok (pairs (nums 0 l.length) l) S := rfl
@[simp] theorem enumK_lst {l : List D} : enumK S (.lst l) = .ok (pairs (nums 0 l.length) l) S := rfl
def zipK (S : Store) : D → D → Res (List D)
  | .lst l, .lst k => .ok (pairs l k) S
  | .tup l, .tup k => .ok (pairs l k) S
  | _, _ => .bad
@[simp] theorem i_zip {a b : E} : (den C (.zip a b)).i env S = (((den C a).v env S).bd fun x S => ((den C b).v env S).bd fun y S => zipK S x y).bd fun l S => .ok (l, none) S := by
  rfl
@[simp] theorem zipK_lst {l k : List D} : zipK S (.lst l) (.lst k) = .ok (pairs l k) S := rfl
@[simp] theorem zipK_tup {l k : List D} : zipK S (.tup l) (.tup k) = .ok (pairs l k) S := rfl
/-! ### operations -/
@[simp] theorem thaw_int {i : Int} : D.thaw S (.int i) = some (.int i) := rfl
@[simp] theorem thaw_bl {i : Bool} : D.thaw S (.bl i) = some (.bl i) := rfl
@[simp] theorem thaw_str {i : List Nat} : D.thaw S (.str i) = some (.str i) := rfl
@[simp] theorem thaw_non : D.thaw S .non = some .non := rfl
mutual
theorem p_thaw (S : Store) : ∀ (d : D), d.pure = true → D.thaw S d = some d
  | .non, _ => rfl
  | .bl _, _ => rfl
  | .int _, _ => rfl
  | .str _, _ => rfl
  | .lst l, h => by
    show (D.thaws S l).map _ = _
    rw [p_thaws S l h]; rfl
  | .tup l, h => by
    show (D.thaws S l).map _ = _
    rw [p_thaws S l h]; rfl
  | .cell _, h => by simp [D.pure] at h
theorem p_thaws (S : Store) : ∀ (l : List D), D.pures l = true → D.thaws S l = some l
  | [], _ => rfl
  | d :: l, h => by
    simp only [D.pures, Bool.and_eq_true] at h
    show (D.thaw S d).bind _ = _
    rw [p_thaw S d h.1, p_thaws S l h.2]; rfl
end
@[simp] theorem bin_add {a b : Int} : binD S .add (.int a) (.int b) = some (.int (a + b)) := rfl
@[simp] theorem bin_sub {a b : Int} : binD S .sub (.int a) (.int b) = some (.int (a - b)) := rfl
theorem bin_addt {a b : List D} (h : a.length + b.length ≤ line) : binD S .add (.tup a) (.tup b) = some (.tup (a ++ b)) := by
  show (okLen (a ++ b)).map _ = _
  rw [okLen_le (by simpa using h)]; rfl
theorem bin_addl {a b : List D} (h : a.length + b.length ≤ line) : binD S .add (.lst a) (.lst b) = some (.lst (a ++ b)) := by
  show (okLen (a ++ b)).map _ = _
  rw [okLen_le (by simpa using h)]; rfl
theorem bin_mul {a b : Int} (h : (smallI a || smallI b) = true) : binD S .mul (.int a) (.int b) = some (.int (a * b)) := by
  show (if _ then _ else _) = _
  rw [if_pos h]
theorem bin_mod {a b : Int} (h : 0 < b) : binD S .mod (.int a) (.int b) = some (.int (a % b)) := by
  show (if _ then _ else _) = _
  rw [if_pos h]
theorem bin_fdiv {a b : Int} (h : 0 < b ∧ b < 1073741824) : binD S .fdiv (.int a) (.int b) = some (.int (a / b)) := by
  show (if _ then _ else _) = _
  rw [if_pos h]
@[simp] theorem bin_lt {a b : Int} : binD S .lt (.int a) (.int b) = some (.bl (decide (a < b))) := by
  simp [binD, D.ltO, D.like, D.pure, shal2, D.shal, D.lt]
@[simp] theorem bin_gt {a b : Int} : binD S .gt (.int a) (.int b) = some (.bl (decide (b < a))) := rfl
@[simp] theorem bin_le {a b : Int} : binD S .le (.int a) (.int b) = some (.bl (decide (a ≤ b))) := rfl
@[simp] theorem bin_ge {a b : Int} : binD S .ge (.int a) (.int b) = some (.bl (decide (b ≤ a))) := rfl
theorem bin_eq {x y : D} : binD S .eq x y = (x.thaw S).bind fun a => (y.thaw S).bind fun b => (D.eqvO a b).map .bl := rfl
theorem bin_ne {x y : D} : binD S .ne x y = (x.thaw S).bind fun a => (y.thaw S).bind fun b => (D.eqvO a b).map fun k => .bl (!k) := rfl
@[simp] theorem bin_isN {x y : D} : binD S .isN x y = some (.bl (match x with | .non => true | _ => false)) := rfl
@[simp] theorem bin_notN {x y : D} : binD S .notN x y = some (.bl (match x with | .non => false | _ => true)) := rfl
theorem bin_mem {x y : D} : binD S .mem x y = (memD S x y).map .bl := rfl
theorem bin_nmem {x y : D} : binD S .nmem x y = (memD S x y).map fun k => .bl (!k) := rfl
def ixD (S : Store) (x : D) (i : Int) : Option D := match x with
    | .str s => (ixOf s.length i).bind fun k => (s[k]?).map fun c => .str [c]
    | x => (items S x).bind fun l => (ixOf l.length i).bind fun k => l[k]?
@[simp] theorem bin_ix {x : D} {i : Int} : binD S .ix x (.int i) = ixD S x i := by cases x <;> rfl
@[simp] theorem ixD_cell {n : Nat} {i : Int} : ixD S (.cell n) i = (S[n]?).bind fun l => (ixOf l.length i).bind fun k => l[k]? := rfl
@[simp] theorem ixD_tup {l : List D} {i : Int} : ixD S (.tup l) i = (ixOf l.length i).bind fun k => l[k]? := rfl
@[simp] theorem ixD_lst {l : List D} {i : Int} : ixD S (.lst l) i = (ixOf l.length i).bind fun k => l[k]? := rfl
theorem ixOf_nat {n i : Nat} (h : i < n) : ixOf n (i : Int) = some i := by
  unfold ixOf
  rw [if_pos (by omega), if_pos (by simpa using h)]; simp
theorem ix_tup {l : List D} {i : Nat} {d : D} (h : l[i]? = some d) : ixD S (.tup l) (i : Int) = some d := by
  show ((ixOf l.length i).bind fun k => l[k]?) = _
  obtain ⟨h1, _⟩ := List.getElem?_eq_some_iff.mp h
  rw [ixOf_nat h1]; exact h
theorem ix_lst {l : List D} {i : Nat} {d : D} (h : l[i]? = some d) : ixD S (.lst l) (i : Int) = some d := by
  show ((ixOf l.length i).bind fun k => l[k]?) = _
  obtain ⟨h1, _⟩ := List.getElem?_eq_some_iff.mp h
  rw [ixOf_nat h1]; exact h
theorem ix_cell {l : List D} {n i : Nat} {d : D} (hn : S[n]? = some l) (h : l[i]? = some d) : ixD S (.cell n) (i : Int) = some d := by
  show ((S[n]?).bind fun l => (ixOf l.length i).bind fun k => l[k]?) = _
  obtain ⟨h1, _⟩ := List.getElem?_eq_some_iff.mp h
  rw [hn]
  show ((ixOf l.length i).bind fun k => l[k]?) = _
  rw [ixOf_nat h1]; exact h
@[simp] theorem un_len_cell {n : Nat} : unD S .len (.cell n) = (S[n]?).map fun l => .int l.length := rfl
@[simp] theorem un_tup_cell {n : Nat} : unD S .tuple (.cell n) = (S[n]?).map .tup := rfl
@[simp] theorem un_lst_cell {n : Nat} : unD S .list (.cell n) = (S[n]?).map .lst := rfl
@[simp] theorem iv_cell' {n : Nat} : iv S (.cell n) = Res.of S ((S[n]?).map fun l => (l, some n)) := rfl
@[simp] theorem repK_2 {d : D} : repK S [d] (.ok (.int 2) S1) = .ok (.lst [d, d]) S1 := repK_ok (n := 2) (by simp) (by decide)
@[simp] theorem un_neg {a : Int} : unD S .neg (.int a) = some (.int (-a)) := rfl
@[simp] theorem un_len_t {l : List D} : unD S .len (.tup l) = some (.int l.length) := rfl
@[simp] theorem un_len_l {l : List D} : unD S .len (.lst l) = some (.int l.length) := rfl
@[simp] theorem un_len_s {l : List Nat} : unD S .len (.str l) = some (.int l.length) := rfl
theorem un_len_c {n : Nat} {l : List D} (h : S[n]? = some l) : unD S .len (.cell n) = some (.int l.length) := by
  show (S[n]?).map _ = _
  rw [h]; rfl
@[simp] theorem un_tup_t {l : List D} : unD S .tuple (.tup l) = some (.tup l) := rfl
@[simp] theorem un_tup_s {l : List Nat} : unD S .tuple (.str l) = some (.tup (l.map fun c => .str [c])) := rfl
@[simp] theorem un_tup_l {l : List D} : unD S .tuple (.lst l) = some (.tup l) := rfl
theorem un_tup_c {n : Nat} {l : List D} (h : S[n]? = some l) : unD S .tuple (.cell n) = some (.tup l) := by
  show (S[n]?).map _ = _
  rw [h]; rfl
@[simp] theorem un_lst_t {l : List D} : unD S .list (.tup l) = some (.lst l) := rfl
@[simp] theorem un_lst_l {l : List D} : unD S .list (.lst l) = some (.lst l) := rfl
theorem un_lst_c {n : Nat} {l : List D} (h : S[n]? = some l) : unD S .list (.cell n) = some (.lst l) := by
  show (S[n]?).map _ = _
  rw [h]; rfl
@[simp] theorem un_int_i {a : Int} : unD S .int (.int a) = some (.int a) := rfl
@[simp] theorem un_int_b {a : Bool} : unD S .int (.bl a) = some (.int (b2i a)) := rfl
@[simp] theorem un_abs {a : Int} : unD S .abs (.int a) = some (.int (if a < 0 then -a else a)) := rfl
theorem allBool_map (l : List Bool) : allBool (l.map .bl) = some l := by
  induction l with
  | nil => rfl
  | cons b l ih => simp [allBool, ih]
@[simp] theorem un_all {l : List Bool} : unD S .all (.lst (l.map .bl)) = some (.bl (l.all id)) := by
  show ((allBool (l.map .bl)).map fun l => D.bl (l.all id)) = _
  rw [allBool_map]; rfl
@[simp] theorem un_any {l : List Bool} : unD S .any (.lst (l.map .bl)) = some (.bl (l.any id)) := by
  show ((allBool (l.map .bl)).map fun l => D.bl (l.any id)) = _
  rw [allBool_map]; rfl
theorem un_allF {l : List D} {F : D → Bool} : unD S .all (.lst (l.map fun d => .bl (F d))) = some (.bl (l.all F)) := by
  have e : (l.map fun d => D.bl (F d)) = (l.map F).map D.bl := by simp
  rw [e, un_all, List.all_map]; rfl
theorem un_anyF {l : List D} {F : D → Bool} : unD S .any (.lst (l.map fun d => .bl (F d))) = some (.bl (l.any F)) := by
  have e : (l.map fun d => D.bl (F d)) = (l.map F).map D.bl := by simp
  rw [e, un_any, List.any_map]; rfl
@[simp] theorem un_isT {ts : List Ty} {d : D} : unD S (.isT ts) d = some (.bl (ts.any fun t => isTy t d)) := by cases d <;> rfl
/-! ### statements -/
@[simp] theorem s_skip : sden C .skip env S = .nx env S := rfl
theorem s_seq {a b : LK.S} : sden C (.seq a b) env S = (sden C a env S).bind (sden C b) := rfl
@[simp] theorem s_seq_asg {i : Nat} {e : E} {b : LK.S} : sden C (.seq (.asg i e) b) env S = ((den C e).v env S).st env fun d S => sden C b (put1 env i d) S := by
  rw [s_seq]
  show (((den C e).v env S).st env _).bind _ = _
  cases (den C e).v env S <;> rfl
@[simp] theorem s_seq_ret {e : E} {b : LK.S} : sden C (.seq (.ret e) b) env S = ((den C e).v env S).st env fun d S => .rt d S := by
  rw [s_seq]
  show (((den C e).v env S).st env _).bind _ = _
  cases (den C e).v env S <;> rfl
@[simp] theorem s_seq_ex {e : E} {b : LK.S} : sden C (.seq (.ex e) b) env S = ((den C e).v env S).st env fun _ S => sden C b env S := by
  rw [s_seq]
  show (((den C e).v env S).st env _).bind _ = _
  cases (den C e).v env S <;> rfl
@[simp] theorem s_seq_skip {b : LK.S} : sden C (.seq .skip b) env S = sden C b env S := rfl
@[simp] theorem s_seq_seq {a b c : LK.S} : sden C (.seq (.seq a b) c) env S = sden C (.seq a (.seq b c)) env S := by
  simp only [s_seq]
  show ((sden C a env S).bind (sden C b)).bind (sden C c) = (sden C a env S).bind fun e S => (sden C b e S).bind (sden C c)
  cases sden C a env S <;> rfl
@[simp] theorem s_seq_ite {e : E} {a b c : LK.S} : sden C (.seq (.ite e a b) c) env S = ((den C e).t env S).st env fun k S => if k then sden C (.seq a c) env S else sden C (.seq b c) env S := by
  rw [s_seq]
  show (((den C e).t env S).st env _).bind _ = _
  cases (den C e).t env S with
  | ok k S => cases k <;> rfl
  | exc => rfl
  | bad => rfl
@[simp] theorem put1_def {i : Nat} {d : D} : put1 env i d = env.set i (some d) := rfl
def tasgK (env : Env) (S : Store) (tg : List Nat) (k : Env → Store → SR) (d : D) : SR := match bindT true tg env d with
  | some env => k env S
  | none => .bad
@[simp] theorem tasgK_tup {tg : List Nat} {k : Env → Store → SR} {l : List D} {e1 : Env} (h : puts env tg l = some e1) : tasgK env S tg k (.tup l) = k e1 S := by
  show (match puts env tg l with | some env => k env S | none => .bad) = _
  rw [h]
@[simp] theorem s_seq_tasg {tg : List Nat} {e : E} {b : LK.S} : sden C (.seq (.tasg tg e) b) env S = ((den C e).v env S).st env fun d S => tasgK env S tg (sden C b) d := by
  rw [s_seq]
  show (((den C e).v env S).st env _).bind _ = _
  cases (den C e).v env S with
  | ok d S =>
    show SR.bind (match bindT true tg env d with | some env => SR.nx env S | none => SR.bad) _ = (match bindT true tg env d with | some env => sden C b env S | none => SR.bad)
    cases bindT true tg env d <;> rfl
  | exc => rfl
  | bad => rfl
@[simp] theorem s_seq_pasg {i j : Nat} {a b : E} {c : LK.S} : sden C (.seq (.pasg i j a b) c) env S = ((den C a).v env S).st env fun x S => ((den C b).v env S).st env fun y S => sden C c (put1 (put1 env i x) j y) S := by
  rw [s_seq]
  show (((den C a).v env S).st env _).bind _ = _
  cases (den C a).v env S with
  | ok d S1 =>
    show (((den C b).v env S1).st env _).bind _ = ((den C b).v env S1).st env _
    cases (den C b).v env S1 <;> rfl
  | exc => rfl
  | bad => rfl
def appK (env : Env) (S : Store) (k : Env → Store → SR) (y : D) : D → SR
  | .cell n => (match (S[n]?).bind fun l => okLen (l ++ [y]) with | some l => k env (S.set n l) | none => .bad)
  | _ => .bad
theorem appK_ok {k : Env → Store → SR} {y : D} {n : Nat} {l : List D} (h : S[n]? = some l) (hl : l.length < line) : appK env S k y (.cell n) = k env (S.set n (l ++ [y])) := by
  show (match (S[n]?).bind fun l => okLen (l ++ [y]) with | some l => k env (S.set n l) | none => .bad) = _
  rw [h]
  show (match okLen (l ++ [y]) with | some l => k env (S.set n l) | none => .bad) = _
  rw [okLen_le (by simp; omega)]
def setK (env : Env) (S : Store) (k : Env → Store → SR) (y i : D) : D → SR
  | .cell n => (match i with
    | .int j => (match setAt S n j y with | some S => k env S | none => .bad)
    | _ => .bad)
  | _ => .bad
@[simp] theorem s_seq_setix {o i e : E} {c : LK.S} : sden C (.seq (.setix o i e) c) env S = ((den C e).v env S).st env fun y S => ((den C o).v env S).st env fun x S => ((den C i).v env S).st env fun j S => setK env S (sden C c) y j x := by
  rw [s_seq]
  show (((den C e).v env S).st env _).bind _ = _
  cases (den C e).v env S with
  | ok y S1 =>
    show (((den C o).v env S1).st env _).bind _ = ((den C o).v env S1).st env _
    cases (den C o).v env S1 with
    | ok x S2 =>
      show (((den C i).v env S2).st env _).bind _ = ((den C i).v env S2).st env _
      cases (den C i).v env S2 with
      | ok j S3 =>
        cases x <;> cases j <;> try rfl
        rename_i n j
        show SR.bind (match setAt S3 n j y with | some S => SR.nx env S | none => SR.bad) _ = (match setAt S3 n j y with | some S => sden C c env S | none => SR.bad)
        cases setAt S3 n j y <;> rfl
      | exc => rfl
      | bad => rfl
    | exc => rfl
    | bad => rfl
  | exc => rfl
  | bad => rfl
theorem setK_ok {k : Env → Store → SR} {y : D} {n i : Nat} {l : List D} (h : S[n]? = some l) (hi : i < l.length) : setK env S k y (.int i) (.cell n) = k env (S.set n (l.set i y)) := by
  show (match setAt S n i y with | some S => k env S | none => .bad) = _
  unfold setAt
  rw [h]
  show (match (ixOf l.length i).map fun k => S.set n (l.set k y) with | some S => k env S | none => .bad) = _
  rw [ixOf_nat hi]; rfl
def appKK (env : Env) (k : Env → Store → SR) (f : Env → Store → Res D) (x : D) (S : Store) : SR := match x with
  | .cell _ => (f env S).st env fun y S => appK env S k y x
  | _ => .bad
@[simp] theorem appKK_cell {k : Env → Store → SR} {f : Env → Store → Res D} {n : Nat} : appKK env k f (.cell n) S = (f env S).st env fun y S => appK env S k y (.cell n) := rfl
@[simp] theorem s_seq_app {o e : E} {c : LK.S} : sden C (.seq (.app o e) c) env S = ((den C o).v env S).st env fun x S => appKK env (sden C c) (den C e).v x S := by
  rw [s_seq]
  show (((den C o).v env S).st env _).bind _ = _
  cases (den C o).v env S with
  | ok x S1 =>
    cases x <;> try rfl
    rename_i n
    show (((den C e).v env S1).st env _).bind _ = ((den C e).v env S1).st env _
    cases (den C e).v env S1 with
    | ok y S2 =>
      show SR.bind (match (S2[n]?).bind fun l => okLen (l ++ [y]) with | some l => SR.nx env (S2.set n l) | none => SR.bad) _ = (match (S2[n]?).bind fun l => okLen (l ++ [y]) with | some l => sden C c env (S2.set n l) | none => SR.bad)
      cases (S2[n]?).bind fun l => okLen (l ++ [y]) <;> rfl
    | exc => rfl
    | bad => rfl
  | exc => rfl
  | bad => rfl
def forK (C : Call) (tp : Bool) (tg : List Nat) (body : LK.S) (g : Option Nat) (l : List D) (env : Env) (S : Store) : SR := forRun (fun env d => bindT tp tg env d) (sden C body) g l env S
@[simp] theorem s_seq_for {tp : Bool} {tg : List Nat} {src : E} {body c : LK.S} : sden C (.seq (.for_ tp tg src body) c) env S = ((den C src).i env S).st env fun p S => (forK C tp tg body p.2 p.1 env S).bind (sden C c) := by
  rw [s_seq]
  show (((den C src).i env S).st env _).bind _ = _
  cases (den C src).i env S <;> rfl
@[simp] theorem s_seq_while {e : E} {body c : LK.S} : sden C (.seq (.while_ e body) c) env S = (whileRun (den C e).t (sden C body) 4096 env S).bind (sden C c) := rfl
end
end LK
set_option autoImplicit false
set_option linter.all false
set_option maxRecDepth 100000
/-! LP2: comprehensions, loops, calls, plain data. -/
namespace LK
open PySem
section
variable {α β : Type} {C : Call} {env : Env} {S S1 S2 : Store}
/-! ### comprehensions -/
theorem stays_same {g : Option Nat} : stays g S S = true := by cases g <;> simp [stays]
theorem stays_none : stays none S S1 = true := rfl
theorem stays_some {n : Nat} (h : S1[n]? = S[n]?) : stays (some n) S S1 = true := by simp [stays, h]
theorem lcRun_cons {bnd : D → Option Env} {c : Env → Store → Res Bool} {x : Env → Store → Res D} {g : Option Nat} {d : D} {r : List D} {e : Env} (h : bnd d = some e) : lcRun bnd c x g (d :: r) S = (c e S).bd fun b S1 => if b then (x e S1).bd fun y S2 => if stays g S S2 then (lcRun bnd c x g r S2).bd fun ys S3 => .ok (y :: ys) S3 else .bad
      else if stays g S S1 then lcRun bnd c x g r S1 else .bad := by
  conv => lhs; unfold lcRun
  rw [h]; rfl
theorem lcRun_pure {bnd : D → Option Env} {c : Env → Store → Res Bool} {x : Env → Store → Res D} {g : Option Nat} (P : D → Bool) (F : D → D) : ∀ (l : List D), (∀ d ∈ l, ∃ e, bnd d = some e ∧ c e S = .ok (P d) S ∧ (P d = true → x e S = .ok (F d) S)) → lcRun bnd c x g l S = .ok ((l.filter P).map F) S
  | [], _ => rfl
  | d :: l, h => by
    have ih := lcRun_pure (g := g) P F l fun d hd => h d (List.mem_cons_of_mem _ hd)
    obtain ⟨e, h1, h2, h3⟩ := h d List.mem_cons_self
    rw [lcRun_cons h1]
    simp only [h2, rb_ok]
    by_cases hp : P d = true
    · rw [if_pos hp, h3 hp]
      simp only [rb_ok, stays_same, if_true, ih]
      rw [List.filter_cons, if_pos hp]
      rfl
    · rw [if_neg hp, List.filter_cons, if_neg hp]
      simp only [stays_same, if_true, ih]
theorem lc_pure {own tg : List Nat} {tp : Bool} {src c x : E} {l : List D} {g : Option Nat} (hi : (den C src).i env S = .ok (l, g) S1) (P : D → Bool) (F : D → D)
    (h : ∀ d ∈ l, ∃ e, bindT tp tg (wipeE env own) d = some e ∧ (den C c).t e S1 = .ok (P d) S1 ∧ (P d = true → (den C x).v e S1 = .ok (F d) S1)) : (den C (.lc own tp tg src c x)).v env S = .ok (.lst ((l.filter P).map F)) S1 := by
  show ((den C src).i env S).bd _ = _
  rw [hi]
  show (lcRun _ _ _ g l S1).bd _ = _
  rw [lcRun_pure P F l fun d hd => by
    obtain ⟨e, h1, h2, h3⟩ := h d hd
    exact ⟨e, h1, by rw [h2]; rfl, fun hp => by rw [h3 hp]; rfl⟩]
  rfl
/-- no condition -/
theorem lc_map {own tg : List Nat} {tp : Bool} {src x : E} {l : List D} {g : Option Nat} (hi : (den C src).i env S = .ok (l, g) S1) (F : D → D)
    (h : ∀ d ∈ l, ∃ e, bindT tp tg (wipeE env own) d = some e ∧ (den C x).v e S1 = .ok (F d) S1) : (den C (.lc own tp tg src (.lit (.bl true)) x)).v env S = .ok (.lst (l.map F)) S1 := by
  rw [lc_pure hi (fun _ => true) F fun d hd => ?_]
  · rw [List.filter_eq_self.mpr (fun _ _ => rfl)]
  · obtain ⟨e, h1, h2⟩ := h d hd
    exact ⟨e, h1, rfl, fun _ => h2⟩
/-- with a state that goes on -/
theorem lcRun_inv {bnd : D → Option Env} {c : Env → Store → Res Bool} {x : Env → Store → Res D} {g : Option Nat} (I : Nat → Store → Prop) (R : D → D → Prop) : ∀ (l : List D) (n : Nat) (S : Store), I (n + l.length) S →
    (∀ d ∈ l, ∀ (m : Nat) (S : Store), I (m + 1) S → ∃ e b S1, bnd d = some e ∧ c e S = .ok b S1 ∧ (b = false → I m S1 ∧ stays g S S1 = true) ∧ (b = true → ∃ y S2, x e S1 = .ok y S2 ∧ I m S2 ∧ R d y ∧ stays g S S2 = true)) →
    ∃ ys S', lcRun bnd c x g l S = .ok ys S' ∧ I n S' ∧ ∃ sub : List (D × D), (sub.map (·.1)).Sublist l ∧ ys = sub.map (·.2) ∧ ∀ p ∈ sub, R p.1 p.2
  | [], n, S, hI, _ => ⟨[], S, rfl, hI, [], List.nil_sublist _, rfl, by simp⟩
  | d :: l, n, S, hI, h => by
    obtain ⟨e, b, S1, h1, h2, h3, h4⟩ := h d List.mem_cons_self (n + l.length) S (by simpa [Nat.add_assoc] using hI)
    have hr : ∀ d ∈ l, _ := fun d hd => h d (List.mem_cons_of_mem _ hd)
    rw [lcRun_cons h1]
    simp only [h2, rb_ok]
    cases b with
    | false =>
      obtain ⟨q1, q2⟩ := h3 rfl
      obtain ⟨ys, S', e1, e2, sub, s1, s2, s3⟩ := lcRun_inv (g := g) I R l n S1 q1 hr
      refine ⟨ys, S', ?_, e2, sub, s1.cons _, s2, s3⟩
      simp only [Bool.false_eq_true, if_false, q2, if_true, e1]
    | true =>
      obtain ⟨y, S2, q1, q2, q3, q4⟩ := h4 rfl
      obtain ⟨ys, S', e1, e2, sub, s1, s2, s3⟩ := lcRun_inv (g := g) I R l n S2 q2 hr
      refine ⟨y :: ys, S', ?_, e2, (d, y) :: sub, s1.cons₂ _, by rw [s2]; rfl, ?_⟩
      · simp only [if_true, q1, rb_ok, q4, e1]
      · intro p hp
        rcases List.mem_cons.mp hp with rfl | hp
        · exact q3
        · exact s3 p hp
theorem lc_inv {own tg : List Nat} {tp : Bool} {src c x : E} {l : List D} {g : Option Nat} (hi : (den C src).i env S = .ok (l, g) S1) (I : Nat → Store → Prop) (R : D → D → Prop) (n : Nat) (h0 : I (n + l.length) S1)
    (h : ∀ d ∈ l, ∀ (m : Nat) (S : Store), I (m + 1) S → ∃ e b S1, bindT tp tg (wipeE env own) d = some e ∧ (den C c).t e S = .ok b S1 ∧ (b = false → I m S1 ∧ stays g S S1 = true) ∧ (b = true → ∃ y S2, (den C x).v e S1 = .ok y S2 ∧ I m S2 ∧ R d y ∧ stays g S S2 = true)) :
    ∃ ys S', (den C (.lc own tp tg src c x)).v env S = .ok (.lst ys) S' ∧ I n S' ∧ ∃ sub : List (D × D), (sub.map (·.1)).Sublist l ∧ ys = sub.map (·.2) ∧ ∀ p ∈ sub, R p.1 p.2 := by
  obtain ⟨ys, S', e1, e2, e3⟩ := lcRun_inv (bnd := bindT tp tg (wipeE env own)) (c := fun e S => ((den C c).t e S).calm) (x := fun e S => ((den C x).v e S).calm) (g := g) I R l n S1 h0 (fun d hd m S hI => by
    obtain ⟨e, b, S1, h1, h2, h3, h4⟩ := h d hd m S hI
    refine ⟨e, b, S1, h1, by rw [h2]; rfl, h3, fun hb => ?_⟩
    obtain ⟨y, S2, q1, q2⟩ := h4 hb
    exact ⟨y, S2, by rw [q1]; rfl, q2⟩)
  refine ⟨ys, S', ?_, e2, e3⟩
  show ((den C src).i env S).bd _ = _
  rw [hi]
  show (lcRun _ _ _ g l S1).bd _ = _
  rw [e1]
  rfl
/-- each item, one behind another, no condition -/
theorem lc_each {own tg : List Nat} {tp : Bool} {src x : E} {l : List D} {g : Option Nat} (hi : (den C src).i env S = .ok (l, g) S1) (I : Nat → Store → Prop) (R : D → D → Prop) (n : Nat) (h0 : I (n + l.length) S1)
    (h : ∀ d ∈ l, ∀ (m : Nat) (S : Store), I (m + 1) S → ∃ e, bindT tp tg (wipeE env own) d = some e ∧ ∃ y S2, (den C x).v e S = .ok y S2 ∧ I m S2 ∧ R d y ∧ stays g S S2 = true) :
    ∃ ys S', (den C (.lc own tp tg src (.lit (.bl true)) x)).v env S = .ok (.lst ys) S' ∧ I n S' ∧ ∃ sub : List (D × D), (sub.map (·.1)) = l ∧ ys = sub.map (·.2) ∧ ∀ p ∈ sub, R p.1 p.2 := by
  have go : ∀ (l : List D) (n : Nat) (S : Store), I (n + l.length) S → (∀ d ∈ l, ∀ (m : Nat) (S : Store), I (m + 1) S → ∃ e, bindT tp tg (wipeE env own) d = some e ∧ ∃ y S2, (den C x).v e S = .ok y S2 ∧ I m S2 ∧ R d y ∧ stays g S S2 = true) →
      ∃ ys S', lcRun (bindT tp tg (wipeE env own)) (fun e S => ((den C (.lit (.bl true))).t e S).calm) (fun e S => ((den C x).v e S).calm) g l S = .ok ys S' ∧ I n S' ∧ ∃ sub : List (D × D), (sub.map (·.1)) = l ∧ ys = sub.map (·.2) ∧ ∀ p ∈ sub, R p.1 p.2 := by
    intro l
    induction l with
    | nil => exact fun n S hI _ => ⟨[], S, rfl, hI, [], rfl, rfl, by simp⟩
    | cons d l ih =>
      intro n S hI h
      obtain ⟨e, h1, y, S2, q1, q2, q3, q4⟩ := h d List.mem_cons_self (n + l.length) S (by simpa [Nat.add_assoc] using hI)
      obtain ⟨ys, S', e1, e2, sub, s1, s2, s3⟩ := ih n S2 q2 fun d hd => h d (List.mem_cons_of_mem _ hd)
      refine ⟨y :: ys, S', ?_, e2, (d, y) :: sub, by rw [List.map_cons, s1], by rw [s2]; rfl, ?_⟩
      · rw [lcRun_cons h1]
        show ((den C x).v e S).calm.bd _ = _
        rw [q1]
        simp only [calm_ok, rb_ok, q4, if_true]
        rw [e1]
        rfl
      · intro p hp
        rcases List.mem_cons.mp hp with rfl | hp
        · exact q3
        · exact s3 p hp
  obtain ⟨ys, S', e1, e2, e3⟩ := go l n S1 h0 h
  refine ⟨ys, S', ?_, e2, e3⟩
  show ((den C src).i env S).bd _ = _
  rw [hi]
  show (lcRun _ _ _ g l S1).bd _ = _
  rw [e1]
  rfl
@[simp] theorem bind1 {i : Nat} {d : D} : bindT false [i] env d = some (env.set i (some d)) := rfl
theorem bind_l {is : List Nat} {l : List D} : bindT true is env (.lst l) = puts env is l := rfl
theorem bind_t {is : List Nat} {l : List D} : bindT true is env (.tup l) = puts env is l := rfl
@[simp] theorem puts_nil : puts env [] [] = some env := rfl
@[simp] theorem puts_cons {i : Nat} {is : List Nat} {d : D} {ds : List D} : puts env (i :: is) (d :: ds) = puts (env.set i (some d)) is ds := rfl
/-! ### loops -/
/-- a loop that only looks, and may hand back -/
theorem for_look {bnd : Env → D → Option Env} {body : Env → Store → SR} {g : Option Nat} (J : Env → Prop) (P : D → Bool) (r : D → D) : ∀ (l : List D) (env : Env), J env → (∀ d ∈ l, ∀ env, J env → ∃ e, bnd env d = some e ∧ (P d = true → body e S = .rt (r d) S) ∧ (P d = false → ∃ e2, body e S = .nx e2 S ∧ J e2)) →
    (∃ d, l.find? P = some d ∧ forRun bnd body g l env S = .rt (r d) S) ∨ (l.find? P = none ∧ ∃ e, forRun bnd body g l env S = .nx e S ∧ J e)
  | [], env, hJ, _ => .inr ⟨rfl, env, rfl, hJ⟩
  | d :: l, env, hJ, h => by
    obtain ⟨e, h1, h2, h3⟩ := h d List.mem_cons_self env hJ
    cases hp : P d with
    | true =>
      refine .inl ⟨d, by rw [List.find?_cons, hp], ?_⟩
      unfold forRun
      rw [h1]
      simp only [h2 hp]
    | false =>
      obtain ⟨e2, q1, q2⟩ := h3 hp
      have e0 : forRun bnd body g (d :: l) env S = forRun bnd body g l e2 S := by
        conv => lhs; unfold forRun
        rw [h1]
        simp only [q1, stays_same, if_true]
      rw [e0, List.find?_cons, hp]
      exact for_look J P r l e2 q2 fun d hd => h d (List.mem_cons_of_mem _ hd)
/-- a loop by its invariant -/
theorem for_inv {bnd : Env → D → Option Env} {body : Env → Store → SR} {g : Option Nat} (J : List D → Env → Store → Prop) (L : List D) (env : Env) (S : Store) (h0 : J [] env S)
    (h : ∀ pre d post env S, L = pre ++ d :: post → J pre env S → ∃ e e2 S2, bnd env d = some e ∧ body e S = .nx e2 S2 ∧ stays g S S2 = true ∧ J (pre ++ [d]) e2 S2) : ∃ env' S', forRun bnd body g L env S = .nx env' S' ∧ J L env' S' := by
  have go : ∀ (l pre : List D) (env : Env) (S : Store), L = pre ++ l → J pre env S → ∃ env' S', forRun bnd body g l env S = .nx env' S' ∧ J L env' S' := by
    intro l
    induction l with
    | nil => exact fun pre env S e hJ => ⟨env, S, rfl, by rw [e]; simpa using hJ⟩
    | cons d l ih =>
      intro pre env S e hJ
      obtain ⟨e1, e2, S2, h1, h2, h3, h4⟩ := h pre d l env S e hJ
      obtain ⟨env', S', q1, q2⟩ := ih (pre ++ [d]) e2 S2 (by simpa using e) h4
      refine ⟨env', S', ?_, q2⟩
      unfold forRun
      rw [h1]
      simp only [h2, h3, if_true]
      exact q1
  exact go L [] env S rfl h0
theorem forK_inv {tp : Bool} {tg : List Nat} {body : LK.S} {g : Option Nat} {L : List D} {r : SR} (hr : forK C tp tg body g L env S = r) (J : List D → Env → Store → Prop) (h0 : J [] env S)
    (h : ∀ pre d post env S, L = pre ++ d :: post → J pre env S → ∃ e, bindT tp tg env d = some e ∧ ∃ e2 S2, sden C body e S = .nx e2 S2 ∧ stays g S S2 = true ∧ J (pre ++ [d]) e2 S2) : ∃ env' S', r = .nx env' S' ∧ J L env' S' := by
  subst hr
  exact for_inv J L env S h0 fun pre d post env S e hJ => let ⟨e1, h1, e2, S2, h2⟩ := h pre d post env S e hJ; ⟨e1, e2, S2, h1, h2⟩
theorem forK_look {tp : Bool} {tg : List Nat} {body : LK.S} {g : Option Nat} {L : List D} {r : SR} (hr : forK C tp tg body g L env S = r) (J : Env → Prop) (P : D → Bool) (R : D → D) (h0 : J env)
    (h : ∀ d ∈ L, ∀ env, J env → ∃ e, bindT tp tg env d = some e ∧ (P d = true → sden C body e S = .rt (R d) S) ∧ (P d = false → ∃ e2, sden C body e S = .nx e2 S ∧ J e2)) :
    (∃ d, L.find? P = some d ∧ r = .rt (R d) S) ∨ (L.find? P = none ∧ ∃ e, r = .nx e S ∧ J e) := by
  subst hr
  exact for_look J P R L env h0 h
/-- a loop that stores nothing and may hand back false -/
theorem lc_invR {own tg : List Nat} {tp : Bool} {src c x : E} {l : List D} {g : Option Nat} {r : Res D} (hr : (den C (.lc own tp tg src c x)).v env S = r) (hi : (den C src).i env S = .ok (l, g) S1) (I : Nat → Store → Prop) (R : D → D → Prop) (n : Nat) (h0 : I (n + l.length) S1)
    (h : ∀ d ∈ l, ∀ (m : Nat) (S : Store), I (m + 1) S → ∃ e b S1, bindT tp tg (wipeE env own) d = some e ∧ (den C c).t e S = .ok b S1 ∧ (b = false → I m S1 ∧ stays g S S1 = true) ∧ (b = true → ∃ y S2, (den C x).v e S1 = .ok y S2 ∧ I m S2 ∧ R d y ∧ stays g S S2 = true)) :
    ∃ ys S', r = .ok (.lst ys) S' ∧ I n S' ∧ ∃ sub : List (D × D), (sub.map (·.1)).Sublist l ∧ ys = sub.map (·.2) ∧ ∀ p ∈ sub, R p.1 p.2 := by
  subst hr
  exact lc_inv hi I R n h0 h
theorem lc_eachR {own tg : List Nat} {tp : Bool} {src x : E} {l : List D} {g : Option Nat} {r : Res D} (hr : (den C (.lc own tp tg src (.lit (.bl true)) x)).v env S = r) (hi : (den C src).i env S = .ok (l, g) S1) (I : Nat → Store → Prop) (R : D → D → Prop) (n : Nat) (h0 : I (n + l.length) S1)
    (h : ∀ d ∈ l, ∀ (m : Nat) (S : Store), I (m + 1) S → ∃ e, bindT tp tg (wipeE env own) d = some e ∧ ∃ y S2, (den C x).v e S = .ok y S2 ∧ I m S2 ∧ R d y ∧ stays g S S2 = true) :
    ∃ ys S', r = .ok (.lst ys) S' ∧ I n S' ∧ ∃ sub : List (D × D), (sub.map (·.1)) = l ∧ ys = sub.map (·.2) ∧ ∀ p ∈ sub, R p.1 p.2 := by
  subst hr
  exact lc_each hi I R n h0 h
/-! ### calls -/
theorem p_call {T : Nat → Option Fn} {k f : Nat} {fn : Fn} {ds : List D} (hT : T f = some fn) (hl : ds.length = fn.np) : callF T (k + 1) f ds S = fin fn.ret S.length (sden (callF T k) fn.body (env0 fn ds) S) := by
  have e : callF T (k + 1) f ds S = (match T f with
    | none => .bad
    | some fn => if ds.length = fn.np then fin fn.ret S.length (sden (callF T k) fn.body (env0 fn ds) S) else .bad) := rfl
  rw [e, hT]
  dsimp only
  rw [if_pos hl]
mutual
theorem p_melt (n : Nat) (S : Store) : ∀ (d : D), d.pure = true → D.melt n S d = some d
  | .non, _ => rfl
  | .bl _, _ => rfl
  | .int _, _ => rfl
  | .str _, _ => rfl
  | .lst l, h => by
    show (D.melts n S l).map _ = _
    rw [p_melts n S l h]; rfl
  | .tup l, h => by
    show (D.melts n S l).map _ = _
    rw [p_melts n S l h]; rfl
  | .cell _, h => by simp [D.pure] at h
theorem p_melts (n : Nat) (S : Store) : ∀ (l : List D), D.pures l = true → D.melts n S l = some l
  | [], _ => rfl
  | d :: l, h => by
    simp only [D.pures, Bool.and_eq_true] at h
    show (D.melt n S d).bind _ = _
    rw [p_melt n S d h.1, p_melts n S l h.2]; rfl
end
theorem fin_v {n : Nat} {d : D} (hp : (S.take n).all D.pures = true) (hd : d.pure = true) : fin false n (.rt d S) = .ok d (S.take n) := by
  unfold fin
  simp only [hp, if_true, p_melt n S d hd, Bool.false_eq_true, if_false]
theorem fin_v0 {d : D} (hd : d.pure = true) : fin false 0 (.rt d S) = .ok d [] := by
  rw [fin_v (by simp) hd]; rfl
theorem fin_m {n : Nat} {d x : D} (hp : (S.take n).all D.pures = true) (hd : d.melt n S = some x) : fin false n (.rt d S) = .ok x (S.take n) := by
  unfold fin
  simp only [hp, if_true, hd, Bool.false_eq_true, if_false]
theorem melt_cell {n k : Nat} {l : List D} (h : n ≤ k) (hS : S[k]? = some l) (hl : D.pures l = true) : D.melt n S (.cell k) = some (.lst l) := by
  simp only [D.melt, h, if_true, hS, hl]
theorem fin_r {n k : Nat} {l : List D} (hp : (S.take n).all D.pures = true) (h : n ≤ k) (hS : S[k]? = some l) (hl : D.pures l = true) : fin true n (.rt (.cell k) S) = .ok (.cell n) (S.take n ++ [l]) := by
  unfold fin
  simp only [hp, if_true, h, hS, hl]
theorem handed_no : ∀ {ms : List Bool} {ds : List D}, ms.all (!·) = true → ms.length = ds.length → handed ms ds = some []
  | [], [], _, _ => rfl
  | false :: ms, d :: ds, h, hl => by
    show handed ms ds = _
    exact handed_no (by simpa using h) (by simpa using hl)
  | true :: ms, _, h, _ => by simp at h
  | [], _ :: _, _, h => by simp at h
  | false :: _, [], _, h => by simp at h
theorem over_no : ∀ {ms : List Bool} {ds ds' : List D} {k : Nat}, ms.all (!·) = true → ms.length = ds.length → D.thaws S ds = some ds' → handOver S ms k ds = some ds'
  | [], [], ds', _, _, _, h => by simpa [D.thaws, handOver] using h
  | false :: ms, d :: ds, ds', k, h, hl, ht => by
    simp only [D.thaws, Option.bind_eq_some_iff, Option.map_eq_some_iff] at ht
    obtain ⟨x, hx, xs, hxs, rfl⟩ := ht
    show (d.thaw S).bind _ = _
    rw [hx]
    show (handOver S ms k ds).map _ = _
    rw [over_no (by simpa using h) (by simpa using hl) hxs]; rfl
  | true :: ms, _, _, _, h, _, _ => by simp at h
  | [], _ :: _, _, _, _, h, _ => by simp at h
  | false :: _, [], _, _, _, h, _ => by simp at h
theorem plain_pure : ∀ {ms : List Bool} {ds : List D}, D.pures ds = true → plainArgs ms ds = true
  | [], ds, _ => by unfold plainArgs; rfl
  | b :: _, [], _ => by cases b <;> (unfold plainArgs; rfl)
  | true :: ms, d :: ds, h => by
    simp only [D.pures, Bool.and_eq_true] at h
    show plainArgs ms ds = true
    exact plain_pure h.2
  | false :: ms, d :: ds, h => by
    simp only [D.pures, Bool.and_eq_true] at h
    show (d.pure && plainArgs ms ds) = true
    rw [h.1, plain_pure h.2]; rfl
theorem cd_plain {f : Nat} {ms : List Bool} {ds : List D} {d : D} (hm : ms.all (!·) = true) (hl : ms.length = ds.length) (hp : D.pures ds = true) (h : C f ds [] = .ok d []) : callD C f ms ds S = .ok d S := by
  unfold callD
  rw [handed_no hm hl]
  dsimp only
  rw [over_no hm hl (p_thaws S ds hp)]
  show (if _ then _ else _) = _
  rw [if_pos (by simp), if_pos (plain_pure hp), h]
  rfl
theorem cd_thaw {f : Nat} {ms : List Bool} {ds ds' : List D} {d : D} (hm : ms.all (!·) = true) (hl : ms.length = ds.length) (ht : D.thaws S ds = some ds') (h : C f ds' [] = .ok d []) (hf : d.flat = true) : callD C f ms ds S = .ok d S := by
  unfold callD
  rw [handed_no hm hl]
  dsimp only
  rw [over_no hm hl ht]
  show (if _ then _ else _) = _
  rw [if_pos (by simp), h]
  split
  · rfl
  · rw [if_pos rfl]
    show (if _ then _ else _) = _
    rw [if_pos ⟨rfl, hf⟩]
theorem cd_ret {f : Nat} {ms : List Bool} {ds : List D} {l : List D} (hm : ms.all (!·) = true) (hl : ms.length = ds.length) (hp : D.pures ds = true) (h : C f ds [] = .ok (.cell 0) [l]) : callD C f ms ds S = .ok (.cell S.length) (S ++ [l]) := by
  unfold callD
  rw [handed_no hm hl]
  dsimp only
  rw [over_no hm hl (p_thaws S ds hp)]
  show (if _ then _ else _) = _
  rw [if_pos (by simp), if_pos (plain_pure hp), h]
  rfl
theorem cd_mut1 {f n : Nat} {ms : List Bool} {ds : List D} {d : D} {l l' : List D} (hm : ms.all (!·) = true) (hl : ms.length = ds.length) (hp : D.pures ds = true) (hS : S[n]? = some l) (hpl : D.pures l = true) (h : C f (.cell 0 :: ds) [l] = .ok d [l']) : callD C f (true :: ms) (.cell n :: ds) S = .ok d (S.set n l') := by
  unfold callD
  have e1 : handed (true :: ms) (.cell n :: ds) = some [n] := by
    show (handed ms ds).map _ = _
    rw [handed_no hm hl]; rfl
  have e2 : pick S [n] = some [l] := by simp [hS]
  have e3 : handOver S (true :: ms) 0 (.cell n :: ds) = some (.cell 0 :: ds) := by
    show (handOver S ms 1 ds).map _ = _
    rw [over_no hm hl (p_thaws S ds hp)]; rfl
  rw [e1]
  dsimp only
  rw [e2, e3]
  show (if _ then _ else _) = _
  rw [if_pos ⟨List.nodup_cons.mpr ⟨by simp, List.nodup_nil⟩, by simp [hpl]⟩, if_pos (show plainArgs (true :: ms) (.cell n :: ds) = true from plain_pure (ms := ms) hp), h]
  rfl
/-! ### plain data: no bools, no cells, at most n deep -/
mutual
def D.cln : D → Bool
  | .cell _ => false
  | .bl _ => false
  | .lst l => D.clns l
  | .tup l => D.clns l
  | _ => true
def D.clns : List D → Bool
  | [] => true
  | d :: r => D.cln d && D.clns r
end
theorem clns_iff {l : List D} : D.clns l = true ↔ ∀ d ∈ l, D.cln d = true := by
  induction l with
  | nil => simp [D.clns]
  | cons d l ih => simp [D.clns, ih]
theorem pures_iff {l : List D} : D.pures l = true ↔ ∀ d ∈ l, D.pure d = true := by
  induction l with
  | nil => simp [D.pures]
  | cons d l ih => simp [D.pures, ih]
theorem shals_iff {n : Nat} {l : List D} : D.shals n l = true ↔ ∀ d ∈ l, D.shal n d = true := by
  induction l with
  | nil => simp [D.shals]
  | cons d l ih => simp [D.shals, ih]
theorem thaws_iff {l l' : List D} : D.thaws S l = some l' ↔ l.length = l'.length ∧ ∀ (i : Nat) d d', l[i]? = some d → l'[i]? = some d' → D.thaw S d = some d' := by
  induction l generalizing l' with
  | nil => cases l' <;> simp [D.thaws]
  | cons d l ih =>
    simp only [D.thaws, Option.bind_eq_some_iff, Option.map_eq_some_iff]
    constructor
    · rintro ⟨x, hx, xs, hxs, rfl⟩
      obtain ⟨q1, q2⟩ := ih.mp hxs
      refine ⟨by simp [q1], fun i a b h1 h2 => ?_⟩
      cases i with
      | zero => simp at h1 h2; subst h1 h2; exact hx
      | succ i => exact q2 i a b (by simpa using h1) (by simpa using h2)
    · rintro ⟨q1, q2⟩
      cases l' with
      | nil => simp at q1
      | cons x xs => exact ⟨x, q2 0 d x rfl rfl, xs, ih.mpr ⟨by simpa using q1, fun i a b h1 h2 => q2 (i + 1) a b (by simpa using h1) (by simpa using h2)⟩, rfl⟩
mutual
theorem cln_pure : ∀ {d : D}, d.cln = true → d.pure = true
  | .non, _ => rfl
  | .int _, _ => rfl
  | .str _, _ => rfl
  | .lst l, h => by
    show D.pures l = true
    exact clns_pures h
  | .tup l, h => by
    show D.pures l = true
    exact clns_pures h
  | .bl _, h => by simp [D.cln] at h
  | .cell _, h => by simp [D.cln] at h
theorem clns_pures : ∀ {l : List D}, D.clns l = true → D.pures l = true
  | [], _ => rfl
  | d :: l, h => by
    simp only [D.clns, Bool.and_eq_true] at h
    simp only [D.pures, cln_pure h.1, clns_pures h.2, Bool.and_self]
end
mutual
theorem eqv_cln : ∀ {a b : D}, a.cln = true → b.cln = true → D.eqv a b = decide (a = b)
  | .non, b, _, h => by cases b <;> simp [D.eqv]
  | .int i, b, _, h => by cases b <;> simp [D.eqv, D.cln, Bool.beq_eq_decide_eq] at h ⊢
  | .str i, b, _, h => by cases b <;> simp [D.eqv, Bool.beq_eq_decide_eq]
  | .lst l, .lst k, h1, h2 => by
    show D.eqvs l k = _
    rw [eqvs_cln h1 h2]; simp
  | .tup l, .tup k, h1, h2 => by
    show D.eqvs l k = _
    rw [eqvs_cln h1 h2]; simp
  | .lst l, .non, _, _ => by simp [D.eqv]
  | .lst l, .int _, _, _ => by simp [D.eqv]
  | .lst l, .str _, _, _ => by simp [D.eqv]
  | .lst l, .tup _, _, _ => by simp [D.eqv]
  | .lst l, .bl _, _, _ => by simp [D.eqv]
  | .lst l, .cell _, _, _ => by simp [D.eqv]
  | .tup l, .non, _, _ => by simp [D.eqv]
  | .tup l, .int _, _, _ => by simp [D.eqv]
  | .tup l, .str _, _, _ => by simp [D.eqv]
  | .tup l, .lst _, _, _ => by simp [D.eqv]
  | .tup l, .bl _, _, _ => by simp [D.eqv]
  | .tup l, .cell _, _, _ => by simp [D.eqv]
  | .bl _, _, h, _ => by simp [D.cln] at h
  | .cell _, _, h, _ => by simp [D.cln] at h
theorem eqvs_cln : ∀ {a b : List D}, D.clns a = true → D.clns b = true → D.eqvs a b = decide (a = b)
  | [], [], _, _ => by simp [D.eqvs]
  | [], _ :: _, _, _ => by simp [D.eqvs]
  | _ :: _, [], _, _ => by simp [D.eqvs]
  | x :: r, y :: s, h1, h2 => by
    simp only [D.clns, Bool.and_eq_true] at h1 h2
    simp only [D.eqvs, eqv_cln h1.1 h2.1, eqvs_cln h1.2 h2.2]
    simp
end
/-- plain data, at most n deep -/
structure Cl (n : Nat) (d : D) : Prop where
  c : d.cln = true
  s : D.shal n d = true
theorem Cl.int {n : Nat} {i : Int} : Cl n (.int i) := ⟨rfl, by cases n <;> rfl⟩
theorem Cl.str {n : Nat} {i : List Nat} : Cl n (.str i) := ⟨rfl, by cases n <;> rfl⟩
theorem Cl.non {n : Nat} : Cl n .non := ⟨rfl, by cases n <;> rfl⟩
theorem Cl.tup {n : Nat} {l : List D} (h : ∀ d ∈ l, Cl n d) : Cl (n + 1) (.tup l) := ⟨clns_iff.mpr fun d hd => (h d hd).c, shals_iff.mpr fun d hd => (h d hd).s⟩
theorem Cl.lst {n : Nat} {l : List D} (h : ∀ d ∈ l, Cl n d) : Cl (n + 1) (.lst l) := ⟨clns_iff.mpr fun d hd => (h d hd).c, shals_iff.mpr fun d hd => (h d hd).s⟩
theorem Cl.of_tup {n : Nat} {l : List D} (h : Cl (n + 1) (.tup l)) : ∀ d ∈ l, Cl n d := fun d hd => ⟨clns_iff.mp h.c d hd, shals_iff.mp h.s d hd⟩
theorem Cl.of_lst {n : Nat} {l : List D} (h : Cl (n + 1) (.lst l)) : ∀ d ∈ l, Cl n d := fun d hd => ⟨clns_iff.mp h.c d hd, shals_iff.mp h.s d hd⟩
theorem shal_up : ∀ {n m : Nat} {d : D}, n ≤ m → D.shal n d = true → D.shal m d = true
  | n, m, .non, _, _ => by cases m <;> rfl
  | n, m, .bl _, _, _ => by cases m <;> rfl
  | n, m, .int _, _, _ => by cases m <;> rfl
  | n, m, .str _, _, _ => by cases m <;> rfl
  | n, m, .cell _, _, _ => by cases m <;> rfl
  | 0, m, .lst _, _, h => by simp [D.shal] at h
  | 0, m, .tup _, _, h => by simp [D.shal] at h
  | n + 1, 0, _, h, _ => by omega
  | n + 1, m + 1, .lst l, h, hs => shals_iff.mpr fun d hd => shal_up (n := n) (m := m) (by omega) (shals_iff.mp hs d hd)
  | n + 1, m + 1, .tup l, h, hs => shals_iff.mpr fun d hd => shal_up (n := n) (m := m) (by omega) (shals_iff.mp hs d hd)
theorem Cl.up {n m : Nat} {d : D} (h : Cl n d) (hm : n ≤ m) : Cl m d := ⟨h.c, shal_up hm h.s⟩
theorem Cl.pure {n : Nat} {d : D} (h : Cl n d) : d.pure = true := cln_pure h.c
theorem Cl.pures {n : Nat} {l : List D} (h : ∀ d ∈ l, Cl n d) : D.pures l = true := pures_iff.mpr fun d hd => (h d hd).pure
theorem eq_cl {n : Nat} {a b : D} (ha : Cl n a) (hb : Cl n b) (hn : n ≤ 30) : binD S .eq a b = some (.bl (decide (a = b))) := by
  rw [bin_eq, p_thaw S a ha.pure, p_thaw S b hb.pure]
  show (D.eqvO a b).map _ = _
  unfold D.eqvO shal2
  rw [(ha.up hn).s, eqv_cln ha.c hb.c]; rfl
theorem ne_cl {n : Nat} {a b : D} (ha : Cl n a) (hb : Cl n b) (hn : n ≤ 30) : binD S .ne a b = some (.bl (!decide (a = b))) := by
  rw [bin_ne, p_thaw S a ha.pure, p_thaw S b hb.pure]
  show (D.eqvO a b).map _ = _
  unfold D.eqvO shal2
  rw [(ha.up hn).s, eqv_cln ha.c hb.c]; rfl
theorem any_eqv {n : Nat} {a : D} {l : List D} (ha : Cl n a) (hl : ∀ d ∈ l, Cl n d) : (l.any fun z => D.eqv z a) = decide (a ∈ l) := by
  induction l with
  | nil => simp
  | cons x l ih =>
    rw [List.any_cons, ih fun d hd => hl d (List.mem_cons_of_mem _ hd), eqv_cln (hl x List.mem_cons_self).c ha.c]
    by_cases h : x = a
    · subst h; simp
    · have : ¬ a = x := fun e => h e.symm
      simp [h, this]
theorem memO_cl {n : Nat} {a : D} {l : List D} (ha : Cl n a) (hl : ∀ d ∈ l, Cl n d) (hn : n ≤ 30) : D.memO a l = some (decide (a ∈ l)) := by
  unfold D.memO shal2
  rw [(ha.up hn).s, any_eqv ha hl]; rfl
theorem memD_seq {x y : D} {l : List D} (hx : x.pure = true) (hy : y = .tup l ∨ y = .lst l) (hl : D.pures l = true) : memD S x y = D.memO x l := by
  have e : memD S x y = ((x.thaw S).bind fun a => (items S y).bind fun l => (D.thaws S l).bind fun l => D.memO a l) := by
    rcases hy with rfl | rfl <;> (unfold memD; split <;> first | rfl | (rename_i h; cases h))
  rw [e, p_thaw S x hx]
  rcases hy with rfl | rfl <;> (show ((D.thaws S l).bind fun l => D.memO x l) = _; rw [p_thaws S l hl]; rfl)
theorem mem_cl {n : Nat} {x y : D} {l : List D} (hy : y = .tup l ∨ y = .lst l) (hx : Cl n x) (hl : ∀ d ∈ l, Cl n d) (hn : n ≤ 30) : binD S .mem x y = some (.bl (decide (x ∈ l))) := by
  rw [bin_mem, memD_seq hx.pure hy (Cl.pures hl), memO_cl hx hl hn]; rfl
theorem nmem_cl {n : Nat} {x y : D} {l : List D} (hy : y = .tup l ∨ y = .lst l) (hx : Cl n x) (hl : ∀ d ∈ l, Cl n d) (hn : n ≤ 30) : binD S .nmem x y = some (.bl (!decide (x ∈ l))) := by
  rw [bin_nmem, memD_seq hx.pure hy (Cl.pures hl), memO_cl hx hl hn]; rfl
@[simp] theorem eq_int {a b : Int} : binD S .eq (.int a) (.int b) = some (.bl (decide (a = b))) := by
  rw [eq_cl (n := 0) Cl.int Cl.int (by omega)]; simp
@[simp] theorem ne_int {a b : Int} : binD S .ne (.int a) (.int b) = some (.bl (!decide (a = b))) := by
  rw [ne_cl (n := 0) Cl.int Cl.int (by omega)]; simp
@[simp] theorem eq_str {a b : List Nat} : binD S .eq (.str a) (.str b) = some (.bl (decide (a = b))) := by
  rw [eq_cl (n := 0) Cl.str Cl.str (by omega)]; simp
@[simp] theorem ne_str {a b : List Nat} : binD S .ne (.str a) (.str b) = some (.bl (!decide (a = b))) := by
  rw [ne_cl (n := 0) Cl.str Cl.str (by omega)]; simp
end
end LK
set_option autoImplicit false
set_option linter.all false
set_option maxRecDepth 100000
set_option maxHeartbeats 2000000
/-! LP3: defs that many laws share. -/
namespace LK
open PySem
def fTupled : Fn := { np := 1, ns := 2, ret := false, body := LK.S.seq (LK.S.ret (E.ite (E.un (Un.isT [Ty.list, Ty.tuple]) (E.var 0)) (E.un (Un.tuple) (E.lc [1] false [1] (E.var 0) (E.lit (D.bl true)) (E.call 1 [false] [0] (E.cons (E.var 1) (E.nil)) (E.nil)))) (E.var 0))) (LK.S.skip) }
def fUnlike : Fn := { np := 2, ns := 3, ret := false, body := LK.S.seq (LK.S.ret (E.un (Un.tuple) (E.lc [2] false [2] (E.var 0) (E.bin (Op.nmem) (E.var 2) (E.var 1)) (E.var 2)))) (LK.S.skip) }
def fIsOpen : Fn := { np := 2, ns := 3, ret := false, body := LK.S.seq (LK.S.ret (E.un (Un.any) (E.lc [2] false [2] (E.var 0) (E.lit (D.bl true)) (E.bin (Op.eq) (E.un (Un.len) (E.call 2 [false, false] [0, 1] (E.cons (E.var 2) (E.cons (E.var 1) (E.nil))) (E.nil))) (E.lit (D.int 0)))))) (LK.S.skip) }
def fNever : Fn := { np := 2, ns := 3, ret := false, body := LK.S.seq (LK.S.ret (E.un (Un.all) (E.lc [2] false [2] (E.var 0) (E.lit (D.bl true)) (E.call 3 [false, false] [0, 1] (E.cons (E.var 1) (E.cons (E.var 2) (E.nil))) (E.nil))))) (LK.S.skip) }
def fShort : Fn := { np := 1, ns := 3, ret := false, body := LK.S.seq (LK.S.asg 1 (E.call 1 [false] [0] (E.cons (E.var 0) (E.nil)) (E.nil))) (LK.S.seq (LK.S.ret (E.un (Un.tuple) (E.lc [2] false [2] (E.var 1) (E.not (E.call 3 [false, false] [0, 1] (E.cons (E.call 2 [false, false] [0, 1] (E.cons (E.var 1) (E.cons (E.tup (E.cons (E.var 2) (E.nil))) (E.nil))) (E.nil)) (E.cons (E.var 2) (E.nil))) (E.nil))) (E.var 2)))) (LK.S.skip)) }
def fTake : Fn := { np := 2, ns := 6, ret := false, body := LK.S.seq (LK.S.ite (E.bin (Op.gt) (E.bin (Op.ix) (E.var 0) (E.lit (D.int 0))) (E.lit (D.int 0))) (LK.S.seq (LK.S.asg 5 (E.bin (Op.mod) (E.un (Un.int) (E.bin (Op.ix) (E.var 0) (E.lit (D.int 0)))) (E.var 1))) (LK.S.seq (LK.S.setix (E.var 0) (E.lit (D.int 0)) (E.bin (Op.fdiv) (E.bin (Op.ix) (E.var 0) (E.lit (D.int 0))) (E.var 1))) (LK.S.seq (LK.S.ret (E.var 5)) (LK.S.skip)))) (LK.S.skip)) (LK.S.seq (LK.S.setix (E.var 0) (E.lit (D.int 2)) (E.bin (Op.add) (E.bin (Op.ix) (E.var 0) (E.lit (D.int 2))) (E.lit (D.int 1)))) (LK.S.seq (LK.S.asg 2 (E.bin (Op.mod) (E.un (Un.int) (E.bin (Op.mul) (E.bin (Op.add) (E.bin (Op.ix) (E.var 0) (E.lit (D.int 1))) (E.bin (Op.mul) (E.lit (D.int 48271)) (E.bin (Op.ix) (E.var 0) (E.lit (D.int 2))))) (E.bin (Op.add) (E.lit (D.int 39373)) (E.bin (Op.ix) (E.var 0) (E.lit (D.int 2)))))) (E.lit (D.int 2147483647)))) (LK.S.seq (LK.S.asg 3 (E.bin (Op.add) (E.bin (Op.mod) (E.un (Un.int) (E.var 2)) (E.lit (D.int 40009))) (E.lit (D.int 7)))) (LK.S.seq (LK.S.asg 4 (E.bin (Op.mod) (E.un (Un.int) (E.bin (Op.mul) (E.bin (Op.add) (E.bin (Op.add) (E.var 2) (E.bin (Op.ix) (E.var 0) (E.lit (D.int 2)))) (E.bin (Op.fdiv) (E.bin (Op.ix) (E.var 0) (E.lit (D.int 1))) (E.lit (D.int 1000003)))) (E.var 3))) (E.lit (D.int 2147483629)))) (LK.S.seq (LK.S.ret (E.bin (Op.mod) (E.un (Un.int) (E.bin (Op.fdiv) (E.bin (Op.mod) (E.un (Un.int) (E.bin (Op.add) (E.bin (Op.mul) (E.var 4) (E.lit (D.int 48271))) (E.var 2))) (E.lit (D.int 2147483587))) (E.lit (D.int 64)))) (E.var 1))) (LK.S.skip)))))) }
def fCells : Fn := { np := 2, ns := 6, ret := false, body := LK.S.seq (LK.S.asg 2 (E.mk (E.or (E.un (Un.list) (E.sl false true (E.var 0) (E.lit (D.non)) (E.var 1))) (E.lst (E.cons (E.lit (D.int 0)) (E.nil)))))) (LK.S.seq (LK.S.for_ true [3, 4] (E.enum (E.sl true true (E.var 0) (E.var 1) (E.lit (D.int 63)))) (LK.S.seq (LK.S.asg 5 (E.bin (Op.mod) (E.un (Un.int) (E.var 3)) (E.var 1))) (LK.S.seq (LK.S.setix (E.var 2) (E.var 5) (E.bin (Op.add) (E.bin (Op.ix) (E.var 2) (E.var 5)) (E.bin (Op.mul) (E.var 4) (E.bin (Op.add) (E.var 3) (E.lit (D.int 2)))))) (LK.S.skip)))) (LK.S.seq (LK.S.ret (E.var 2)) (LK.S.skip))) }
def fSame : Fn := { np := 2, ns := 4, ret := false, body := LK.S.seq (LK.S.ite (E.un (Un.isT [Ty.list, Ty.tuple]) (E.var 1)) (LK.S.seq (LK.S.ite (E.or (E.bin (Op.ne) (E.un (Un.isT [Ty.list]) (E.var 0)) (E.un (Un.isT [Ty.list]) (E.var 1))) (E.bin (Op.ne) (E.un (Un.isT [Ty.tuple]) (E.var 0)) (E.un (Un.isT [Ty.tuple]) (E.var 1)))) (LK.S.seq (LK.S.ret (E.lit (D.bl false))) (LK.S.skip)) (LK.S.skip)) (LK.S.seq (LK.S.ret (E.and (E.bin (Op.eq) (E.un (Un.len) (E.var 0)) (E.un (Un.len) (E.var 1))) (E.un (Un.all) (E.lc [2, 3] true [2, 3] (E.zip (E.var 0) (E.var 1)) (E.lit (D.bl true)) (E.call 9 [false, false] [0, 1] (E.cons (E.var 2) (E.cons (E.var 3) (E.nil))) (E.nil)))))) (LK.S.skip))) (LK.S.skip)) (LK.S.seq (LK.S.ite (E.or (E.bin (Op.isN) (E.var 1) (E.lit (D.non))) (E.un (Un.isT [Ty.bool, Ty.str]) (E.var 1))) (LK.S.seq (LK.S.ret (E.and (E.bin (Op.eq) (E.var 0) (E.var 1)) (E.and (E.bin (Op.eq) (E.un (Un.isT [Ty.bool]) (E.var 0)) (E.un (Un.isT [Ty.bool]) (E.var 1))) (E.bin (Op.eq) (E.bin (Op.isN) (E.var 0) (E.lit (D.non))) (E.bin (Op.isN) (E.var 1) (E.lit (D.non))))))) (LK.S.skip)) (LK.S.skip)) (LK.S.seq (LK.S.ret (E.and (E.un (Un.isT [Ty.int]) (E.var 0)) (E.and (E.not (E.un (Un.isT [Ty.bool]) (E.var 0))) (E.bin (Op.eq) (E.var 0) (E.var 1))))) (LK.S.skip))) }
def fLists : Fn := { np := 1, ns := 2, ret := false, body := LK.S.seq (LK.S.ret (E.ite (E.un (Un.isT [Ty.list, Ty.tuple]) (E.var 0)) (E.lc [1] false [1] (E.var 0) (E.lit (D.bl true)) (E.call 10 [false] [0] (E.cons (E.var 1) (E.nil)) (E.nil))) (E.var 0))) (LK.S.skip) }
def fAll : Fn := { np := 1, ns := 4, ret := false, body := LK.S.seq (LK.S.asg 1 (E.lst (E.cons (E.tup (E.nil)) (E.nil)))) (LK.S.seq (LK.S.for_ false [2] (E.var 0) (LK.S.seq (LK.S.asg 1 (E.bin (Op.add) (E.var 1) (E.lc [3] false [3] (E.var 1) (E.lit (D.bl true)) (E.bin (Op.add) (E.var 3) (E.tup (E.cons (E.var 2) (E.nil))))))) (LK.S.skip))) (LK.S.seq (LK.S.ret (E.var 1)) (LK.S.skip))) }
def fBox (c : Int) : Fn := { np := 2, ns := 3, ret := true, body := LK.S.seq (LK.S.asg 2 (E.ite (E.bin (Op.lt) (E.var 1) (E.un (Un.len) (E.var 0))) (E.bin (Op.ix) (E.var 0) (E.var 1)) (E.lit (D.int 0)))) (LK.S.seq (LK.S.ret (E.mk (E.lst (E.cons (E.bin (Op.mul) (E.un (Un.abs) (E.var 2)) (E.un (Un.int) (E.bin (Op.ge) (E.un (Un.abs) (E.var 2)) (E.bin (Op.pow) (E.lit (D.int 10)) (E.lit (D.int 18)))))) (E.cons (E.bin (Op.add) (E.bin (Op.add) (E.bin (Op.mod) (E.un (Un.int) (E.var 2)) (E.lit (D.int 2305843009213693951))) (E.bin (Op.mul) (E.lit (D.int 39373)) (E.var 1))) (E.lit (D.int c))) (E.cons (E.lit (D.int 0)) (E.nil))))))) (LK.S.skip)) }
section
variable {T : Nat → Option Fn} {k : Nat}
/-- a source of draws that has at least n draws left -/
def BoxOk (n : Nat) (l : List D) : Prop := ∃ a b c : Int, l = [.int a, .int b, .int c] ∧ 0 ≤ a ∧ 0 ≤ b ∧ b < 4611686018427387904 ∧ 0 ≤ c ∧ c + n ≤ 1099511627776
theorem BoxOk.pures {n : Nat} {l : List D} (h : BoxOk n l) : D.pures l = true := by
  obtain ⟨a, b, c, rfl, _⟩ := h
  rfl
theorem BoxOk.le {n m : Nat} {l : List D} (h : BoxOk n l) (hm : m ≤ n) : BoxOk m l := by
  obtain ⟨a, b, c, e, h1, h2, h3, h4, h5⟩ := h
  exact ⟨a, b, c, e, h1, h2, h3, h4, by omega⟩
theorem take_ok (hT : T 7 = some fTake) {n m : Nat} {l : List D} (h1 : 1 ≤ m) (h2 : m ≤ 1000) (h : BoxOk (n + 1) l) :
    ∃ (r : Nat) (l' : List D), callF T (k + 1) 7 [.cell 0, .int m] [l] = .ok (.int r) [l'] ∧ r < m ∧ BoxOk n l' := by
  obtain ⟨a, b, c, rfl, ha, hb, hb2, hc, hn⟩ := h
  have hm : (0 : Int) < m := by omega
  have hm2 : (0 : Int) < m ∧ (m : Int) < 1073741824 := by omega
  by_cases h0 : 0 < a
  · obtain ⟨r, hr⟩ := Int.eq_ofNat_of_zero_le (Int.emod_nonneg a (show (m : Int) ≠ 0 by omega))
    have hlt := Int.emod_lt_of_pos a hm
    refine ⟨r, [.int (a / m), .int b, .int c], ?_, by omega, a / m, b, c, rfl, Int.ediv_nonneg ha (by omega), hb, hb2, hc, by omega⟩
    rw [p_call hT rfl]
    simp [fTake, env0, ixOf, h0, bin_mod hm, bin_fdiv hm2, put1, setK, setAt, hr]
    rw [fin_v rfl rfl]
    rfl
  · have ha0 : a = 0 := by omega
    subst ha0
    have s1 : smallI (39373 + (c + 1)) = true := by unfold smallI; simp; omega
    have s2 : smallI 48271 = true := by decide
    have q1 : ∀ x : Int, smallI (x % 40009 + 7) = true := fun x => by unfold smallI; simp; omega
    have hu : ∀ x : Int, ∃ r : Nat, x % m = r ∧ r < m := fun x => by
      obtain ⟨r, hr⟩ := Int.eq_ofNat_of_zero_le (Int.emod_nonneg x (show (m : Int) ≠ 0 by omega))
      have hlt := Int.emod_lt_of_pos x hm
      exact ⟨r, hr, by omega⟩
    rw [p_call hT rfl]
    simp [fTake, env0, ixOf, bin_mod, bin_mod hm, bin_fdiv, put1, setK, setAt, bin_mul, s1, s2, q1]
    rw [fin_v rfl rfl]
    generalize hx : _ / (64 : Int) = x
    obtain ⟨r, e, hr⟩ := hu x
    exact ⟨r, [.int 0, .int b, .int (c + 1)], by rw [e]; rfl, hr, 0, b, c + 1, rfl, by omega, hb, hb2, by omega, by omega⟩
theorem box_ok {c : Int} (hT : T 6 = some (fBox c)) (h0 : 0 ≤ c) (h1 : c ≤ 1000000000) (xs : List Int) (j : Nat) (hj : j ≤ 1000) :
    ∃ l : List D, callF T (k + 1) 6 [.lst (xs.map .int), .int j] [] = .ok (.cell 0) [l] ∧ BoxOk 1000000000 l := by
  have s1 : ∀ b : Bool, smallI (b2i b) = true := fun b => by cases b <;> decide
  have s2 : smallI 39373 = true := by decide
  have s3 : smallI 10 = true := by decide
  have s4 : binD [] .pow (.int 10) (.int 18) = some (.int 1000000000000000000) := by decide +kernel
  have key : ∀ x : Int, ∃ l : List D, BoxOk 1000000000 l ∧ l = [.int ((if x < 0 then -x else x) * b2i (decide (1000000000000000000 ≤ if x < 0 then -x else x))), .int (x % 2305843009213693951 + 39373 * j + c), .int 0] := by
    intro x
    refine ⟨_, ⟨_, _, _, rfl, ?_, ?_, ?_, by omega, by omega⟩, rfl⟩
    · refine Int.mul_nonneg (by split <;> omega) ?_
      unfold b2i; split <;> omega
    · have := Int.emod_nonneg x (show (2305843009213693951 : Int) ≠ 0 by omega)
      omega
    · have := Int.emod_lt_of_pos x (show (0 : Int) < 2305843009213693951 by omega)
      omega
  rw [p_call hT rfl]
  by_cases hl : j < xs.length
  · obtain ⟨l, h2, e⟩ := key xs[j]
    refine ⟨l, ?_, h2⟩
    simp [fBox, env0, put1, hl, ixOf_nat, s4, bin_mul, s1, s2, bin_mod]
    rw [fin_r (n := 0) rfl (Nat.le_refl 0) rfl rfl]
    subst e
    rfl
  · obtain ⟨l, h2, e⟩ := key 0
    refine ⟨l, ?_, h2⟩
    have e' : l = [.int 0, .int (39373 * j + c), .int 0] := by simpa using e
    simp [fBox, env0, put1, hl, s4, bin_mul, s1, s2, bin_mod]
    rw [fin_r (n := 0) rfl (Nat.le_refl 0) rfl rfl, e']
    rfl
theorem p_nums_get : ∀ (n : Nat) (a : Int) (i : Nat), i < n → (nums a n)[i]? = some (.int (a + i))
  | 0, a, i, h => by omega
  | n + 1, a, 0, h => by simp [nums]
  | n + 1, a, i + 1, h => by
    simp only [nums, List.getElem?_cons_succ]
    rw [p_nums_get n (a + 1) i (by omega)]
    congr 2
    omega
@[simp] theorem p_nums_len : ∀ (n : Nat) (a : Int), (nums a n).length = n
  | 0, a => rfl
  | n + 1, a => by simp [nums, p_nums_len n]
theorem nums_eq (n : Nat) : nums 0 n = (List.range n).map fun i => .int i := by
  apply List.ext_getElem?
  intro i
  by_cases h : i < n
  · rw [p_nums_get n 0 i h]; simp [h]
  · rw [List.getElem?_eq_none (by simpa using h), List.getElem?_eq_none (by simpa using h)]
theorem enum_mem {l : List D} {d : D} (h : d ∈ pairs (nums 0 l.length) l) : ∃ (i : Nat) (x : D), l[i]? = some x ∧ d = .tup [.int i, x] := by
  unfold pairs at h
  obtain ⟨⟨a, b⟩, h1, rfl⟩ := List.mem_map.mp h
  obtain ⟨i, hi, e⟩ := List.mem_iff_getElem.mp h1
  simp at hi
  rw [List.getElem_zip] at e
  cases e
  refine ⟨i, l[i], by simp [hi], ?_⟩
  have := p_nums_get l.length 0 i hi
  rw [List.getElem?_eq_getElem (by simpa using hi)] at this
  simp only [Option.some.injEq] at this
  rw [this]
  simp
theorem ints_get {xs : List Int} {i : Nat} {d : D} (h : (xs.map D.int)[i]? = some d) : ∃ x, xs[i]? = some x ∧ d = .int x := by
  rw [List.getElem?_map] at h
  cases hx : xs[i]? with
  | none => rw [hx] at h; cases h
  | some x => rw [hx] at h; cases h; exact ⟨x, rfl, rfl⟩
theorem pures_ints (xs : List Int) : D.pures (xs.map .int) = true := by
  induction xs with
  | nil => rfl
  | cons x xs ih => simp [D.pures, D.pure, ih]
theorem pairs_mem {l m : List D} {d : D} (h : d ∈ pairs l m) : ∃ x ∈ l, ∃ y ∈ m, d = .tup [x, y] := by
  unfold pairs at h
  obtain ⟨⟨a, b⟩, h1, rfl⟩ := List.mem_map.mp h
  have := List.of_mem_zip h1
  exact ⟨a, this.1, b, this.2, rfl⟩
theorem nums_mem {n : Nat} {d : D} (h : d ∈ nums 0 n) : ∃ i : Nat, i < n ∧ d = .int i := by
  rw [nums_eq] at h
  obtain ⟨i, hi, rfl⟩ := List.mem_map.mp h
  exact ⟨i, List.mem_range.mp hi, rfl⟩
theorem cells_ok (hT : T 8 = some fCells) (xs : List Int) (m : Nat) (h1 : 1 ≤ m) (h2 : m ≤ 10) (hx : xs.length ≤ 63) :
    ∃ ys : List Int, callF T (k + 1) 8 [.lst (xs.map .int), .int m] [] = .ok (.lst (ys.map .int)) [] ∧ 1 ≤ ys.length ∧ ys.length ≤ m := by
  have hm : (0 : Int) < m := by omega
  rw [p_call hT rfl]
  simp [fCells, env0, put1, cut]
  obtain ⟨zs, hz, h3⟩ : ∃ zs : List Int, orV [] (D.lst (List.take (min m xs.length) (List.map D.int xs))) (some !(List.take (min m xs.length) (List.map D.int xs)).isEmpty) (Res.ok (D.lst [D.int 0]) []) = .ok (.lst (zs.map .int)) [] ∧ 1 ≤ zs.length ∧ zs.length ≤ m ∧ (m < xs.length → zs.length = m) := by
    cases xs with
    | nil => exact ⟨[0], by simp, by simp, by simpa using h1, by simp⟩
    | cons x xs =>
      refine ⟨(x :: xs).take m, ?_, ?_, ?_, ?_⟩
      · rw [show min m (x :: xs).length = (min m (x :: xs).length - 1) + 1 by simp; omega]
        simp only [List.map_cons, List.take_succ_cons, List.isEmpty_cons, Bool.not_false, orV_t]
        congr 2
        rw [show m = (m - 1) + 1 by omega]
        simp only [List.take_succ_cons, List.map_cons, List.map_take]
        congr 1
        rw [List.length_cons, show min (m - 1 + 1) (xs.length + 1) - 1 = min (m - 1) xs.length by omega]
        simp
      · rw [List.length_take]; simp; omega
      · rw [List.length_take]; omega
      · intro h; rw [List.length_take]; omega
  obtain ⟨h3, h4, h5⟩ := h3
  rw [hz]
  simp only [rb_ok, mkK_lst, st_ok, List.length_nil, List.nil_append]
  generalize hl : pairs _ _ = l
  have hmem : ∀ d ∈ l, ∃ (i : Nat) (c : Int), d = .tup [.int i, .int c] ∧ i < 1000 ∧ zs.length = m := by
    intro d hd
    rw [← hl] at hd
    obtain ⟨x, hx1, y, hy1, rfl⟩ := pairs_mem hd
    obtain ⟨i, hi, rfl⟩ := nums_mem hx1
    obtain ⟨c, _, rfl⟩ : ∃ c, c ∈ xs ∧ D.int c = y := by
      have := List.mem_of_mem_drop (List.mem_of_mem_take hy1)
      simpa using this
    exact ⟨i, c, rfl, by omega, h5 (by omega)⟩
  generalize hr : forK _ _ _ _ _ _ _ _ = r
  obtain ⟨env', S', e1, x3, x4, x5, ws, rfl, rfl, hw⟩ := forK_inv hr (fun _ env S => ∃ (x3 x4 x5 : Option D) (ws : List Int), env = [some (.lst (xs.map .int)), some (.int m), some (.cell 0), x3, x4, x5] ∧ S = [ws.map .int] ∧ ws.length = zs.length) ⟨none, none, none, zs, rfl, rfl, rfl⟩ (by
    rintro pre d post env S hpd ⟨x3, x4, x5, ws, rfl, rfl, hw⟩
    have hd : d ∈ l := by rw [hpd]; simp
    obtain ⟨i, c, rfl, hi, hzm⟩ := hmem d hd
    obtain ⟨r, hr⟩ := Int.eq_ofNat_of_zero_le (Int.emod_nonneg (i : Int) (show (m : Int) ≠ 0 by omega))
    have hlt := Int.emod_lt_of_pos (i : Int) hm
    have hrw : r < ws.length := by omega
    have s1 : smallI ((i : Int) + 2) = true := by unfold smallI; simp; omega
    refine ⟨_, rfl, [some (.lst (xs.map .int)), some (.int m), some (.cell 0), some (.int i), some (.int c), some (.int r)], [(ws.set r (ws[r] + c * (i + 2))).map .int], ?_, rfl, _, _, _, _, rfl, rfl, by simpa using hw⟩
    simp [put1, bin_mod hm, hr, ixOf_nat, hrw, bin_mul, s1, setK, setAt, List.map_set])
  rw [e1]
  simp only [sb_nx]
  simp
  refine ⟨ws, ?_, by omega, by omega⟩
  rw [fin_m (by rfl) (melt_cell (Nat.zero_le _) rfl (pures_ints ws))]
  rfl
end
end LK
set_option autoImplicit false
set_option linter.all false
set_option maxRecDepth 100000
set_option maxHeartbeats 2000000
/-! LP4: same, lists, tupled, unlike, is_open. -/
namespace LK
open PySem
section
variable {T : Nat → Option Fn} {k : Nat}
theorem pairs_self {l : List D} {d : D} (h : d ∈ pairs l l) : ∃ x ∈ l, d = .tup [x, x] := by
  unfold pairs at h
  obtain ⟨⟨a, b⟩, h1, rfl⟩ := List.mem_map.mp h
  obtain ⟨i, hi, e⟩ := List.mem_iff_getElem.mp h1
  rw [List.getElem_zip] at e
  cases e
  exact ⟨_, List.getElem_mem _, rfl⟩
theorem same_ok (hT : T 9 = some fSame) : ∀ (n k : Nat) (d : D), d.pure = true → D.shal n d = true → n ≤ k → callF T (k + 1) 9 [d, d] [] = .ok (.bl true) [] := by
  have eqs : ∀ (d : D), d.pure = true → D.eqv d d = true → D.shal 30 d = true → binD [] .eq d d = some (.bl true) := by
    intro d h1 h2 h3
    rw [bin_eq, p_thaw [] d h1]
    show (D.eqvO d d).map _ = _
    unfold D.eqvO shal2
    rw [h3, h2]; rfl
  have bb : ∀ b : Bool, binD [] .eq (.bl b) (.bl b) = some (.bl true) := fun b => eqs _ rfl (by simp [D.eqv]) rfl
  have bn : ∀ b : Bool, binD [] .ne (.bl b) (.bl b) = some (.bl false) := fun b => by cases b <;> decide +kernel
  have bo : binD [] .eq .non .non = some (.bl true) := by decide +kernel
  have leaf : ∀ (k : Nat) (d : D), d.pure = true → D.shal 0 d = true → callF T (k + 1) 9 [d, d] [] = .ok (.bl true) [] := by
    intro k d h1 h2
    rw [p_call hT rfl]
    cases d with
    | non => simp [fSame, env0, isTy, bb, bn, bo]; exact fin_v0 rfl
    | bl b => simp [fSame, env0, isTy, bb, bn, bo]; exact fin_v0 rfl
    | int i => simp [fSame, env0, isTy, bb, bn, bo]; exact fin_v0 rfl
    | str s => simp [fSame, env0, isTy, bb, bn, bo]; exact fin_v0 rfl
    | lst l => simp [D.shal] at h2
    | tup l => simp [D.shal] at h2
    | cell n => simp [D.pure] at h1
  intro n
  induction n with
  | zero => exact fun k d h1 h2 _ => leaf k d h1 h2
  | succ n ih =>
    intro k d h1 h2 hk
    obtain ⟨k, rfl⟩ : ∃ j, k = j + 1 := ⟨k - 1, by omega⟩
    have item : ∀ l : List D, D.pures l = true → D.shals n l = true → ∀ (tp : Bool), callF T (k + 2) 9 [if tp then .tup l else .lst l, if tp then .tup l else .lst l] [] = .ok (.bl true) [] := by
      intro l hp hs tp
      rw [p_call hT rfl]
      have step : ∀ x ∈ l, ∀ (C : Call) (S : Store), C = callF T (k + 1) → callD C 9 [false, false] [x, x] S = .ok (.bl true) S := by
        intro x hx C S hC
        subst hC
        have p := pures_iff.mp hp x hx
        exact cd_plain rfl rfl (by simp [D.pures, p]) (ih k x p (shals_iff.mp hs x hx) (by omega))
      cases tp with
      | false =>
        simp [fSame, env0, isTy, bb, bn, bo]
        rw [lc_map (l := pairs l l) (g := none) (S1 := []) ?hi (fun _ => .bl true) ?h]
        case hi => simp
        case h =>
          intro d hd
          obtain ⟨x, hx, rfl⟩ := pairs_self hd
          refine ⟨_, rfl, ?_⟩
          simp [wipeE, step x hx]
        simp [un_allF]
        rw [fin_v0 rfl, show ((pairs l l).all fun _ => true) = true by simp]
      | true =>
        simp [fSame, env0, isTy, bb, bn, bo]
        rw [lc_map (l := pairs l l) (g := none) (S1 := []) ?hi (fun _ => .bl true) ?h]
        case hi => simp
        case h =>
          intro d hd
          obtain ⟨x, hx, rfl⟩ := pairs_self hd
          refine ⟨_, rfl, ?_⟩
          simp [wipeE, step x hx]
        simp [un_allF]
        rw [fin_v0 rfl, show ((pairs l l).all fun _ => true) = true by simp]
    cases d with
    | lst l => exact item l h1 h2 false
    | tup l => exact item l h1 h2 true
    | non => exact leaf _ _ rfl rfl
    | bl b => exact leaf _ _ rfl rfl
    | int i => exact leaf _ _ rfl rfl
    | str s => exact leaf _ _ rfl rfl
    | cell n => simp [D.pure] at h1
/-! lists in the place of tuples -/
mutual
def D.soft : D → D
  | .lst l => .lst (D.softs l)
  | .tup l => .lst (D.softs l)
  | d => d
def D.softs : List D → List D
  | [] => []
  | d :: r => D.soft d :: D.softs r
end
theorem softs_map (l : List D) : D.softs l = l.map D.soft := by
  induction l with
  | nil => rfl
  | cons d l ih => simp [D.softs, ih]
/-! tuples in the place of lists -/
mutual
def D.hard : D → D
  | .lst l => .tup (D.hards l)
  | .tup l => .tup (D.hards l)
  | d => d
def D.hards : List D → List D
  | [] => []
  | d :: r => D.hard d :: D.hards r
end
theorem hards_map (l : List D) : D.hards l = l.map D.hard := by
  induction l with
  | nil => rfl
  | cons d l ih => simp [D.hards, ih]
mutual
theorem soft_pure : ∀ {d : D}, d.pure = true → d.soft.pure = true
  | .lst l, h => by simpa [D.soft, D.pure] using softs_pure h
  | .tup l, h => by simpa [D.soft, D.pure] using softs_pure h
  | .non, _ => rfl
  | .bl _, _ => rfl
  | .int _, _ => rfl
  | .str _, _ => rfl
  | .cell _, h => by simp [D.pure] at h
theorem softs_pure : ∀ {l : List D}, D.pures l = true → D.pures (D.softs l) = true
  | [], _ => rfl
  | d :: l, h => by
    simp only [D.pures, Bool.and_eq_true] at h
    simp [D.softs, D.pures, soft_pure h.1, softs_pure h.2]
theorem hard_pure : ∀ {d : D}, d.pure = true → d.hard.pure = true
  | .lst l, h => by simpa [D.hard, D.pure] using hards_pure h
  | .tup l, h => by simpa [D.hard, D.pure] using hards_pure h
  | .non, _ => rfl
  | .bl _, _ => rfl
  | .int _, _ => rfl
  | .str _, _ => rfl
  | .cell _, h => by simp [D.pure] at h
theorem hards_pure : ∀ {l : List D}, D.pures l = true → D.pures (D.hards l) = true
  | [], _ => rfl
  | d :: l, h => by
    simp only [D.pures, Bool.and_eq_true] at h
    simp [D.hards, D.pures, hard_pure h.1, hards_pure h.2]
end
theorem lists_ok (hT : T 10 = some fLists) : ∀ (n k : Nat) (d : D), d.pure = true → D.shal n d = true → n ≤ k → callF T (k + 1) 10 [d] [] = .ok d.soft [] := by
  have leaf : ∀ (k : Nat) (d : D), d.pure = true → D.shal 0 d = true → callF T (k + 1) 10 [d] [] = .ok d.soft [] := by
    intro k d h1 h2
    rw [p_call hT rfl]
    cases d with
    | non => simp [fLists, env0, isTy]; exact fin_v0 rfl
    | bl b => simp [fLists, env0, isTy]; exact fin_v0 rfl
    | int i => simp [fLists, env0, isTy]; exact fin_v0 rfl
    | str s => simp [fLists, env0, isTy]; exact fin_v0 rfl
    | lst l => simp [D.shal] at h2
    | tup l => simp [D.shal] at h2
    | cell n => simp [D.pure] at h1
  intro n
  induction n with
  | zero => exact fun k d h1 h2 _ => leaf k d h1 h2
  | succ n ih =>
    intro k d h1 h2 hk
    obtain ⟨k, rfl⟩ : ∃ j, k = j + 1 := ⟨k - 1, by omega⟩
    have step : ∀ (l : List D), D.pures l = true → D.shals n l = true → ∀ x ∈ l, ∀ (S : Store), callD (callF T (k + 1)) 10 [false] [x] S = .ok x.soft S := by
      intro l hp hs x hx S
      have p := pures_iff.mp hp x hx
      exact cd_plain rfl rfl (by simp [D.pures, p]) (ih k x p (shals_iff.mp hs x hx) (by omega))
    rw [p_call hT rfl]
    cases d with
    | lst l =>
      simp [fLists, env0, isTy]
      rw [lc_map (l := l) (g := none) (S1 := []) ?hi D.soft ?h]
      case hi => simp
      case h => exact fun x hx => ⟨_, rfl, by simp [wipeE, step l h1 h2 x hx]⟩
      simp only [st_ok, D.soft, softs_map]
      exact fin_v0 (by rw [← softs_map]; exact softs_pure h1)
    | tup l =>
      simp [fLists, env0, isTy]
      rw [lc_map (l := l) (g := none) (S1 := []) ?hi D.soft ?h]
      case hi => simp
      case h => exact fun x hx => ⟨_, rfl, by simp [wipeE, step l h1 h2 x hx]⟩
      simp only [st_ok, D.soft, softs_map]
      exact fin_v0 (by rw [← softs_map]; exact softs_pure h1)
    | non => rw [← p_call hT rfl]; exact leaf _ _ rfl rfl
    | bl b => rw [← p_call hT rfl]; exact leaf _ _ rfl rfl
    | int i => rw [← p_call hT rfl]; exact leaf _ _ rfl rfl
    | str s => rw [← p_call hT rfl]; exact leaf _ _ rfl rfl
    | cell n => simp [D.pure] at h1
theorem tupled_ok (hT : T 1 = some fTupled) : ∀ (n k : Nat) (d : D), d.pure = true → D.shal n d = true → n ≤ k → callF T (k + 1) 1 [d] [] = .ok d.hard [] := by
  have leaf : ∀ (k : Nat) (d : D), d.pure = true → D.shal 0 d = true → callF T (k + 1) 1 [d] [] = .ok d.hard [] := by
    intro k d h1 h2
    rw [p_call hT rfl]
    cases d with
    | non => simp [fTupled, env0, isTy]; exact fin_v0 rfl
    | bl b => simp [fTupled, env0, isTy]; exact fin_v0 rfl
    | int i => simp [fTupled, env0, isTy]; exact fin_v0 rfl
    | str s => simp [fTupled, env0, isTy]; exact fin_v0 rfl
    | lst l => simp [D.shal] at h2
    | tup l => simp [D.shal] at h2
    | cell n => simp [D.pure] at h1
  intro n
  induction n with
  | zero => exact fun k d h1 h2 _ => leaf k d h1 h2
  | succ n ih =>
    intro k d h1 h2 hk
    obtain ⟨k, rfl⟩ : ∃ j, k = j + 1 := ⟨k - 1, by omega⟩
    have step : ∀ (l : List D), D.pures l = true → D.shals n l = true → ∀ x ∈ l, ∀ (S : Store), callD (callF T (k + 1)) 1 [false] [x] S = .ok x.hard S := by
      intro l hp hs x hx S
      have p := pures_iff.mp hp x hx
      exact cd_plain rfl rfl (by simp [D.pures, p]) (ih k x p (shals_iff.mp hs x hx) (by omega))
    rw [p_call hT rfl]
    cases d with
    | lst l =>
      simp [fTupled, env0, isTy]
      rw [lc_map (l := l) (g := none) (S1 := []) ?hi D.hard ?h]
      case hi => simp
      case h => exact fun x hx => ⟨_, rfl, by simp [wipeE, step l h1 h2 x hx]⟩
      simp only [rb_ok, un_tup_l, of_some, st_ok, D.hard, hards_map]
      exact fin_v0 (by rw [← hards_map]; exact hards_pure h1)
    | tup l =>
      simp [fTupled, env0, isTy]
      rw [lc_map (l := l) (g := none) (S1 := []) ?hi D.hard ?h]
      case hi => simp
      case h => exact fun x hx => ⟨_, rfl, by simp [wipeE, step l h1 h2 x hx]⟩
      simp only [rb_ok, un_tup_l, of_some, st_ok, D.hard, hards_map]
      exact fin_v0 (by rw [← hards_map]; exact hards_pure h1)
    | non => rw [← p_call hT rfl]; exact leaf _ _ rfl rfl
    | bl b => rw [← p_call hT rfl]; exact leaf _ _ rfl rfl
    | int i => rw [← p_call hT rfl]; exact leaf _ _ rfl rfl
    | str s => rw [← p_call hT rfl]; exact leaf _ _ rfl rfl
    | cell n => simp [D.pure] at h1
/-- d's items are l -/
def Sq (d : D) (l : List D) : Prop := d = .tup l ∨ d = .lst l
theorem Sq.t {l : List D} : Sq (.tup l) l := .inl rfl
theorem Sq.l {l : List D} : Sq (.lst l) l := .inr rfl
theorem Sq.iv {d : D} {l : List D} {S : Store} (h : Sq d l) : iv S d = .ok (l, none) S := by rcases h with rfl | rfl <;> rfl
theorem Sq.pure {d : D} {l : List D} (h : Sq d l) (p : D.pures l = true) : d.pure = true := by rcases h with rfl | rfl <;> exact p
theorem Sq.len {d : D} {l : List D} {S : Store} (h : Sq d l) : unD S .len d = some (.int l.length) := by rcases h with rfl | rfl <;> rfl
theorem unlike_ok {f : Nat} (hT : T f = some fUnlike) {a b : D} {l m : List D} (ha : Sq a l) (hb : Sq b m) {n : Nat} (hn : n ≤ 30) (hl : ∀ d ∈ l, Cl n d) (hm : ∀ d ∈ m, Cl n d) : callF T (k + 1) f [a, b] [] = .ok (.tup (l.filter fun d => !decide (d ∈ m))) [] := by
  rw [p_call hT rfl]
  simp [fUnlike, env0]
  rw [lc_pure (l := l) (g := none) (S1 := []) ?hi (fun d => !decide (d ∈ m)) id ?h]
  case hi => simp [ha.iv]
  case h => exact fun x hx => ⟨_, rfl, by simp [wipeE, nmem_cl hb (hl x hx) hm hn], fun _ => by simp [wipeE]⟩
  simp only [rb_ok, un_tup_l, of_some, st_ok, List.map_id]
  exact fin_v0 (Cl.pures fun d hd => hl d (List.mem_filter.mp hd).1)
/-- all of l stand in m -/
def subs (l m : List D) : Bool := l.all fun d => decide (d ∈ m)
theorem subs_iff {l m : List D} : subs l m = true ↔ ∀ d ∈ l, d ∈ m := by simp [subs]
theorem filter_subs {l m : List D} : decide ((l.filter fun d => !decide (d ∈ m)).length = 0) = subs l m := by
  rw [Bool.eq_iff_iff, subs_iff]
  simp
/-- whether the places open the letter -/
def openB (ls : List (List D)) (m : List D) : Bool := ls.any fun l => subs l m
theorem isOpen_ok (h2 : T 2 = some fUnlike) (h3 : T 3 = some fIsOpen) {a b : D} {la m : List D} {f : D → List D} (ha : Sq a la) (hb : Sq b m) {n : Nat} (hn : n ≤ 30) (hl : ∀ x ∈ la, Sq x (f x) ∧ ∀ d ∈ f x, Cl n d) (hm : ∀ d ∈ m, Cl n d) : callF T (k + 2) 3 [a, b] [] = .ok (.bl (la.any fun x => subs (f x) m)) [] := by
  rw [p_call h3 rfl]
  simp [fIsOpen, env0]
  have hcall : ∀ x ∈ la, ∀ (S : Store), callD (callF T (k + 1)) 2 [false, false] [x, b] S = .ok (.tup ((f x).filter fun d => !decide (d ∈ m))) S := by
    intro x hx S
    obtain ⟨q1, q2⟩ := hl x hx
    exact cd_plain rfl rfl (by simp [D.pures, q1.pure (Cl.pures q2), hb.pure (Cl.pures hm)]) (unlike_ok h2 q1 hb hn q2 hm)
  rw [lc_map (l := la) (g := none) (S1 := []) ?hi (fun x => .bl (subs (f x) m)) ?h]
  case hi => simp [ha.iv]
  case h =>
    intro x hx
    refine ⟨_, rfl, ?_⟩
    simp only [← filter_subs]
    simp [wipeE, hcall x hx]
  simp only [rb_ok, un_anyF, of_some, st_ok]
  exact fin_v0 rfl
theorem never_ok (h2 : T 2 = some fUnlike) (h3 : T 3 = some fIsOpen) (h4 : T 4 = some fNever) {a b : D} {la lb : List D} {f : D → List D} (ha : Sq a la) (hb : Sq b lb) {n : Nat} (hn : n ≤ 30) (hl : ∀ x ∈ la, Sq x (f x) ∧ ∀ d ∈ f x, Cl n d) (hm : ∀ x ∈ lb, Sq x (f x) ∧ ∀ d ∈ f x, Cl n d) :
    callF T (k + 3) 4 [a, b] [] = .ok (.bl (la.all fun y => lb.any fun x => subs (f x) (f y))) [] := by
  rw [p_call h4 rfl]
  simp [fNever, env0]
  have hcall : ∀ y ∈ la, ∀ (S : Store), callD (callF T (k + 2)) 3 [false, false] [b, y] S = .ok (.bl (lb.any fun x => subs (f x) (f y))) S := by
    intro y hy S
    obtain ⟨q1, q2⟩ := hl y hy
    have pb : b.pure = true := hb.pure (pures_iff.mpr fun x hx => (hm x hx).1.pure (Cl.pures (hm x hx).2))
    exact cd_plain rfl rfl (by simp [D.pures, q1.pure (Cl.pures q2), pb]) (isOpen_ok h2 h3 hb q1 hn hm q2)
  rw [lc_map (l := la) (g := none) (S1 := []) ?hi (fun y => .bl (lb.any fun x => subs (f x) (f y))) ?h]
  case hi => simp [ha.iv]
  case h => exact fun y hy => ⟨_, rfl, by simp [wipeE, hcall y hy]⟩
  simp only [rb_ok, un_allF, of_some, st_ok]
  exact fin_v0 rfl
mutual
theorem hard_flat : ∀ {d : D}, d.flat = true → d.hard = d
  | .tup l, h => by
    show D.tup (D.hards l) = _
    rw [hards_flat h]
  | .non, _ => rfl
  | .bl _, _ => rfl
  | .int _, _ => rfl
  | .str _, _ => rfl
  | .lst _, h => by simp [D.flat] at h
  | .cell _, h => by simp [D.flat] at h
theorem hards_flat : ∀ {l : List D}, D.flats l = true → D.hards l = l
  | [], _ => rfl
  | d :: l, h => by
    simp only [D.flats, Bool.and_eq_true] at h
    simp [D.hards, hard_flat h.1, hards_flat h.2]
end
mutual
theorem hard_soft : ∀ (d : D), d.soft.hard = d.hard
  | .tup l => by simp [D.soft, D.hard, hards_softs l]
  | .lst l => by simp [D.soft, D.hard, hards_softs l]
  | .non => rfl
  | .bl _ => rfl
  | .int _ => rfl
  | .str _ => rfl
  | .cell _ => rfl
theorem hards_softs : ∀ (l : List D), D.hards (D.softs l) = D.hards l
  | [] => rfl
  | d :: l => by simp [D.hards, D.softs, hard_soft d, hards_softs l]
end
mutual
theorem soft_shal : ∀ {n : Nat} {d : D}, D.shal n d = true → D.shal n d.soft = true
  | n + 1, .tup l, h => by
    show D.shals n (D.softs l) = true
    exact softs_shal h
  | n + 1, .lst l, h => by
    show D.shals n (D.softs l) = true
    exact softs_shal h
  | 0, .tup _, h => by simp [D.shal] at h
  | 0, .lst _, h => by simp [D.shal] at h
  | n, .non, _ => by cases n <;> rfl
  | n, .bl _, _ => by cases n <;> rfl
  | n, .int _, _ => by cases n <;> rfl
  | n, .str _, _ => by cases n <;> rfl
  | n, .cell _, _ => by cases n <;> rfl
theorem softs_shal : ∀ {n : Nat} {l : List D}, D.shals n l = true → D.shals n (D.softs l) = true
  | n, [], _ => rfl
  | n, d :: l, h => by
    simp only [D.shals, Bool.and_eq_true] at h
    simp [D.softs, D.shals, soft_shal h.1, softs_shal h.2]
end
theorem flats_iff {l : List D} : D.flats l = true ↔ ∀ d ∈ l, D.flat d = true := by
  induction l with
  | nil => simp [D.flats]
  | cons d l ih => simp [D.flats, ih]
/-- the items of a tuple or list -/
def its : D → List D
  | .tup l => l
  | .lst l => l
  | _ => []
/-- those that have not all of another one -/
def shortL (ls : List D) : List D := ls.filter fun x => !((ls.filter fun d => !decide (d ∈ [x])).any fun y => subs (its y) (its x))
theorem short_ok (h1 : T 1 = some fTupled) (h2 : T 2 = some fUnlike) (h3 : T 3 = some fIsOpen) (h5 : T 5 = some fShort) {a : D} {ls : List D} (ha : a.hard = .tup ls) (hp : a.pure = true) {m : Nat} (hs : D.shal m a = true) (hmk : m ≤ k) {n : Nat} (hn : n + 1 ≤ 30) (hl : ∀ x ∈ ls, x = .tup (its x) ∧ ∀ d ∈ its x, Cl n d) :
    callF T (k + 3) 5 [a] [] = .ok (.tup (shortL ls)) [] := by
  have hcl : ∀ x ∈ ls, Cl (n + 1) x := fun x hx => by
    obtain ⟨q1, q2⟩ := hl x hx
    rw [q1]; exact Cl.tup q2
  have hc1 : ∀ (S : Store), callD (callF T (k + 2)) 1 [false] [a] S = .ok (.tup ls) S := fun S =>
    cd_plain rfl rfl (by simp [D.pures, hp]) (by rw [← ha]; exact tupled_ok h1 m (k + 1) a hp hs (by omega))
  have hc2 : ∀ x ∈ ls, ∀ (S : Store), callD (callF T (k + 2)) 2 [false, false] [.tup ls, .tup [x]] S = .ok (.tup (ls.filter fun d => !decide (d ∈ [x]))) S := fun x hx S =>
    cd_plain rfl rfl (by simp [D.pures, D.pure, (hcl x hx).pure, Cl.pures hcl]) (unlike_ok h2 .t .t (n := n + 1) hn hcl (by simpa using hcl x hx))
  have hc3 : ∀ x ∈ ls, ∀ (S : Store), callD (callF T (k + 2)) 3 [false, false] [.tup (ls.filter fun d => !decide (d ∈ [x])), x] S = .ok (.bl ((ls.filter fun d => !decide (d ∈ [x])).any fun y => subs (its y) (its x))) S := fun x hx S => by
    obtain ⟨q1, q2⟩ := hl x hx
    refine cd_plain rfl rfl ?_ (isOpen_ok h2 h3 (f := its) .t (m := its x) (n := n) ?_ (by omega) (fun y hy => ?_) q2)
    · simp only [D.pures, D.pure, (hcl x hx).pure, Bool.and_true]
      exact Cl.pures fun d hd => hcl d (List.mem_filter.mp hd).1
    · exact .inl q1
    · obtain ⟨p1, p2⟩ := hl y (List.mem_filter.mp hy).1
      exact ⟨.inl p1, p2⟩
  rw [p_call h5 rfl]
  simp [fShort, env0, hc1]
  rw [lc_pure (l := ls) (g := none) (S1 := []) ?hi (fun x => !((ls.filter fun d => !decide (d ∈ [x])).any fun y => subs (its y) (its x))) id ?h]
  case hi => simp
  case h =>
    intro x hx
    have c2 := hc2 x hx
    have c3 := hc3 x hx
    refine ⟨_, rfl, ?_, fun _ => by simp [wipeE]⟩
    simp [wipeE] at c2 c3 ⊢
    simp [c2, c3]
  simp only [rb_ok, un_tup_l, of_some, st_ok, List.map_id]
  exact fin_v0 (Cl.pures fun d hd => hcl d (List.mem_filter.mp hd).1)
end
end LK
set_option autoImplicit false
set_option linter.all false
set_option maxRecDepth 100000
set_option maxHeartbeats 2000000
/-! LP5: all sets, open, drawn sets; the law's frame. -/
namespace LK
open PySem
def fOpenL : Fn := { np := 2, ns := 4, ret := false, body := LK.S.seq (LK.S.ret (E.bin (Op.ne) (E.lc [2] false [2] (E.var 0) (E.bin (Op.eq) (E.lc [3] false [3] (E.var 2) (E.bin (Op.nmem) (E.var 3) (E.var 1)) (E.var 3)) (E.lst (E.nil))) (E.var 2)) (E.lst (E.nil)))) (LK.S.skip) }
def fRight10 : Fn := { np := 1, ns := 2, ret := false, body := LK.S.seq (LK.S.ret (E.un (Un.all) (E.lc [1] false [1] (E.rng (E.lit (D.int 0)) (E.lit (D.int 10))) (E.lit (D.bl true)) (E.call 16 [true] [0] (E.cons (E.var 0) (E.nil)) (E.nil))))) (LK.S.skip) }
def fLaw : Fn := { np := 1, ns := 3, ret := false, body := LK.S.seq (LK.S.ite (E.not (E.call 15 [] [] (E.nil) (E.nil))) (LK.S.seq (LK.S.ret (E.lit (D.bl false))) (LK.S.skip)) (LK.S.skip)) (LK.S.seq (LK.S.asg 1 (E.call 8 [false, false] [0, 1] (E.cons (E.var 0) (E.cons (E.lit (D.int 3)) (E.nil))) (E.nil))) (LK.S.seq (LK.S.ret (E.un (Un.all) (E.lc [2] false [2] (E.rng (E.lit (D.int 0)) (E.un (Un.len) (E.var 1))) (E.lit (D.bl true)) (E.call 17 [true] [0] (E.cons (E.call 6 [false, false] [0, 1] (E.cons (E.var 1) (E.cons (E.var 2) (E.nil))) (E.nil)) (E.nil)) (E.nil))))) (LK.S.skip))) }
section
variable {T : Nat → Option Fn} {k : Nat}
/-- all sets of some things -/
def allS (l : List D) : List (List D) := l.foldl (fun acc x => acc ++ acc.map (· ++ [x])) [[]]
theorem allS_snoc (l : List D) (x : D) : allS (l ++ [x]) = allS l ++ (allS l).map (· ++ [x]) := by
  unfold allS
  rw [List.foldl_append]; rfl
theorem allS_go : ∀ (l : List D) (acc : List (List D)) (y : List D), y ∈ l.foldl (fun acc x => acc ++ acc.map (· ++ [x])) acc ↔ ∃ a ∈ acc, ∃ s, s.Sublist l ∧ y = a ++ s
  | [], acc, y => by
    simp only [List.foldl_nil]
    constructor
    · exact fun h => ⟨y, h, [], List.nil_sublist _, by simp⟩
    · rintro ⟨a, ha, s, hs, rfl⟩
      have : s = [] := List.eq_nil_of_sublist_nil hs
      simpa [this] using ha
  | x :: l, acc, y => by
    rw [List.foldl_cons, allS_go l]
    constructor
    · rintro ⟨a, ha, s, hs, rfl⟩
      rcases List.mem_append.mp ha with h | h
      · exact ⟨a, h, s, hs.cons _, rfl⟩
      · obtain ⟨b, hb, rfl⟩ := List.mem_map.mp h
        exact ⟨b, hb, x :: s, hs.cons₂ _, by simp⟩
    · rintro ⟨a, ha, s, hs, rfl⟩
      rcases List.sublist_cons_iff.mp hs with h | ⟨r, rfl, h⟩
      · exact ⟨a, List.mem_append_left _ ha, s, h, rfl⟩
      · exact ⟨a ++ [x], List.mem_append_right _ (List.mem_map.mpr ⟨a, ha, rfl⟩), r, h, by simp⟩
theorem mem_allS {l y : List D} : y ∈ allS l ↔ y.Sublist l := by
  unfold allS
  rw [allS_go]
  constructor
  · rintro ⟨a, ha, s, hs, rfl⟩
    simp at ha
    subst ha
    simpa using hs
  · exact fun h => ⟨[], by simp, y, h, by simp⟩
theorem allS_len (l : List D) : (allS l).length = 2 ^ l.length := by
  have go : ∀ (l : List D) (acc : List (List D)), (l.foldl (fun acc x => acc ++ acc.map (· ++ [x])) acc).length = acc.length * 2 ^ l.length := by
    intro l
    induction l with
    | nil => intro acc; simp
    | cons x l ih =>
      intro acc
      rw [List.foldl_cons, ih]
      simp only [List.length_append, List.length_map, List.length_cons, Nat.pow_succ]
      rw [← Nat.mul_two, Nat.mul_assoc, Nat.mul_comm 2]
  unfold allS
  rw [go]; simp
theorem alls_ok (hT : T 11 = some fAll) {a : D} {l : List D} (ha : Sq a l) (hl : l.length ≤ 20) (hp : D.pures l = true) : callF T (k + 1) 11 [a] [] = .ok (.lst ((allS l).map .tup)) [] := by
  rw [p_call hT rfl]
  simp [fAll, env0, ha.iv]
  generalize hr : forK _ _ _ _ _ _ _ _ = r
  obtain ⟨env', S', rfl, x2, x3, rfl, rfl⟩ := forK_inv hr (fun pre env S => ∃ x2 x3 : Option D, env = [some a, some (.lst ((allS pre).map .tup)), x2, x3] ∧ S = []) ⟨none, none, rfl, rfl⟩ (by
    rintro pre d post env S hpd ⟨x2, x3, rfl, rfl⟩
    have hpl : pre.length < 20 := by rw [hpd] at hl; simp at hl; omega
    have hpre : ∀ ws ∈ allS pre, ws.length ≤ pre.length := fun ws h => (mem_allS.mp h).length_le
    have h20 : 2 ^ pre.length ≤ 2 ^ 19 := Nat.pow_le_pow_right (by omega) (by omega)
    have hline : line = 16777216 := rfl
    refine ⟨_, rfl, ?_⟩
    simp
    rw [lc_map (l := (allS pre).map .tup) (g := none) (S1 := []) ?hi (fun y => .tup (its y ++ [d])) ?h]
    case hi => simp
    case h =>
      intro y hy
      obtain ⟨ws, hws, rfl⟩ := List.mem_map.mp hy
      refine ⟨_, rfl, ?_⟩
      have := hpre ws hws
      simp [wipeE, its]
      rw [bin_addt (by simp; omega)]
      rfl
    simp
    rw [bin_addl (by simp [allS_len]; omega)]
    simp [allS_snoc, its, stays_none])
  simp
  rw [fin_v0]
  refine pures_iff.mpr fun x hx => ?_
  obtain ⟨ws, hws, rfl⟩ := List.mem_map.mp hx
  exact pures_iff.mpr fun d hd => pures_iff.mp hp d ((mem_allS.mp hws).subset hd)
end
end LK
set_option autoImplicit false
set_option linter.all false
set_option maxRecDepth 100000
set_option maxHeartbeats 2000000
/-! LP6: sorted sets; open; the law's frame. -/
namespace LK
open PySem
theorem isI_iff {d : D} : isI d = true ↔ ∃ i, d = .int i := by cases d <;> simp [isI]
theorem like_ints : ∀ {l m : List D}, l.all isI = true → m.all isI = true → D.likes l m = true
  | [], _, _, _ => by simp [D.likes]
  | _ :: _, [], _, _ => by simp [D.likes]
  | x :: l, y :: m, h1, h2 => by
    simp only [List.all_cons, Bool.and_eq_true] at h1 h2
    obtain ⟨i, rfl⟩ := isI_iff.mp h1.1
    obtain ⟨j, rfl⟩ := isI_iff.mp h2.1
    simp only [D.likes, D.like, Bool.true_and]
    exact like_ints h1.2 h2.2
theorem likes_ti {l : List D} (h : l.all isTI = true) : Likes l := by
  rw [List.all_eq_true] at h
  refine ⟨fun x hx y hy => ?_, fun x hx => ?_⟩
  · have h1 := h x hx
    have h2 := h y hy
    cases x <;> simp [isTI] at h1
    cases y <;> simp [isTI] at h2
    simp only [D.like]
    exact like_ints (by simpa using h1) (by simpa using h2)
  · have h1 := h x hx
    cases x <;> simp [isTI] at h1
    simp only [D.pure]
    refine pures_iff.mpr fun d hd => ?_
    obtain ⟨i, rfl⟩ := isI_iff.mp (h1 d hd)
    rfl
theorem un_ssetW {S : Store} {d : D} {l : List D} (hd : items S d = some l) (h1 : l.length < 64 ∨ (sset l).length < 63) (h2 : allLike l = true) (h3 : l.all (D.shal 8) = true) (h4 : (l.all isTup || l.all isAtom) = true) : unD S .sset d = some (.lst (sset l)) := by
  have e : unD S .sset d = ((items S d).bind fun l => if (decide (l.length < 64) || decide ((sset l).length < 63)) && allLike l && l.all (D.shal 8) && (l.all isTup || l.all isAtom) then some (D.lst (sset l)) else none) := by cases d <;> rfl
  rw [e, hd]
  simp only [Option.bind_some]
  rw [if_pos]
  simp only [Bool.and_eq_true, Bool.or_eq_true, decide_eq_true_eq] at h4 ⊢
  exact ⟨⟨⟨h1, h2⟩, h3⟩, h4⟩
theorem un_sset {S : Store} {d : D} {l : List D} (hd : items S d = some l) (h1 : l.length < 64) (h2 : allLike l = true) (h3 : l.all (D.shal 8) = true) (h4 : (l.all isTup || l.all isAtom) = true) : unD S .sset d = some (.lst (sset l)) := un_ssetW hd (.inl h1) h2 h3 h4
theorem likes_all {l : List D} (h : Likes l) : allLike l = true := by
  unfold allLike
  rw [Bool.or_eq_true]
  refine .inr ?_
  unfold slowLike
  rw [List.all_eq_true]
  intro x hx
  rw [List.all_eq_true]
  exact fun y hy => h.like x hx y hy
theorem un_sset_ti {S : Store} {d : D} {l : List D} (hd : items S d = some l) (h1 : l.length < 64) (h2 : l.all isTI = true) : unD S .sset d = some (.lst (sset l)) := by
  refine un_sset hd h1 (likes_all (likes_ti h2)) ?_ ?_
  · rw [List.all_eq_true] at h2 ⊢
    intro x hx
    have h := h2 x hx
    cases x <;> simp [isTI] at h
    rename_i k
    show D.shals 7 k = true
    refine shals_iff.mpr fun d hd => ?_
    obtain ⟨i, rfl⟩ := isI_iff.mp (h d hd)
    rfl
  · rw [Bool.or_eq_true]
    refine .inl ?_
    rw [List.all_eq_true] at h2 ⊢
    intro x hx
    have h := h2 x hx
    cases x <;> simp [isTI] at h
    rfl
theorem sset_mem {l : List D} (h : l.all isTI = true) {z : D} : z ∈ sset l ↔ z ∈ l := (sset_ok (likes_ti h)).1 z
theorem sset_nodup {l : List D} (h : l.all isTI = true) : (sset l).Nodup := by
  have hl := likes_ti h
  obtain ⟨q1, q2⟩ := sset_ok hl
  exact (asc2_asc (hl.sub fun z hz => (q1 z).mp hz) q2).2
section
variable {T : Nat → Option Fn} {k : Nat}
theorem sub_nil {n : Nat} {S : Store} {x m : List D} (hn : n < 30) (hx : ∀ d ∈ x, Cl n d) : binD S .eq (.lst (x.filter fun d => !decide (d ∈ m))) (.lst []) = some (.bl (subs x m)) := by
  rw [eq_cl (n := n + 1) (Cl.lst fun d hd => hx d (List.mem_filter.mp hd).1) (Cl.lst (by simp)) (by omega)]
  congr 2
  rw [Bool.eq_iff_iff, subs_iff]
  simp
theorem openL_ok (hT : T 12 = some fOpenL) {a b : D} {la m : List D} (ha : Sq a la) (hb : Sq b m) {n : Nat} (hn : n + 2 ≤ 30) (hl : ∀ x ∈ la, x = .tup (its x) ∧ ∀ d ∈ its x, Cl n d) (hm : ∀ d ∈ m, Cl n d) : callF T (k + 1) 12 [a, b] [] = .ok (.bl (la.any fun x => subs (its x) m)) [] := by
  rw [p_call hT rfl]
  simp [fOpenL, env0]
  rw [lc_pure (l := la) (g := none) (S1 := []) ?hi (fun x => subs (its x) m) id ?h]
  case hi => simp [ha.iv]
  case h =>
    intro x hx
    obtain ⟨q1, q2⟩ := hl x hx
    refine ⟨_, rfl, ?_, fun _ => by simp [wipeE]⟩
    simp [wipeE]
    rw [lc_pure (l := its x) (g := none) (S1 := []) ?hi2 (fun d => !decide (d ∈ m)) id ?h2]
    case hi2 => simp [Sq.iv (.inl q1)]
    case h2 => exact fun d hd => ⟨_, rfl, by simp [wipeE, nmem_cl hb (q2 d hd) hm (show n ≤ 30 by omega)], fun _ => by simp [wipeE]⟩
    simp [sub_nil (show n < 30 by omega) q2]
  simp only [rb_ok, List.map_id]
  rw [ne_cl (n := n + 2) (Cl.lst fun d hd => by rw [(hl d (List.mem_filter.mp hd).1).1]; exact Cl.tup (hl d (List.mem_filter.mp hd).1).2) (Cl.lst (by simp)) hn]
  simp only [of_some, st_ok]
  rw [fin_v0 rfl]
  congr 2
  rw [Bool.eq_iff_iff]
  simp
end
end LK
set_option autoImplicit false
set_option linter.all false
set_option maxRecDepth 100000
set_option maxHeartbeats 2000000
/-! LP7: the law's frame. -/
namespace LK
open PySem
section
variable {T : Nat → Option Fn} {k : Nat}
theorem all_true {S : Store} {ys : List D} (h : ∀ y ∈ ys, y = .bl true) : unD S .all (.lst ys) = some (.bl true) := by
  have e : ys = ys.map fun d => D.bl ((fun _ => true) d) := by
    conv => lhs; rw [← List.map_id ys]
    exact List.map_congr_left fun y hy => h y hy
  rw [e, un_allF]
  simp
/-- all numbers of the script, one behind another -/
theorem law_frame {c : Int} {N : Nat} (t6 : T 6 = some (fBox c)) (t8 : T 8 = some fCells) (t18 : T 18 = some fLaw) (h0 : 0 ≤ c) (h1 : c ≤ 1000000000) (hN : N ≤ 1000000000)
    (hand : callF T (k + 1) 15 [] [] = .ok (.bl true) []) (right : ∀ b, BoxOk N b → ∃ b', callF T (k + 1) 17 [.cell 0] [b] = .ok (.bl true) [b']) (ns : List Int) (hn : ns.length ≤ 63) :
    ∃ S', callF T (k + 2) 18 [.lst (ns.map .int)] [] = .ok (.bl true) S' := by
  rw [p_call t18 rfl]
  have e15 : ∀ S : Store, callD (callF T (k + 1)) 15 [] [] S = .ok (.bl true) S := fun S => cd_plain rfl rfl rfl hand
  obtain ⟨ys, ey, hy1, hy2⟩ := cells_ok (k := k) t8 ns 3 (by omega) (by omega) hn
  have e8 : ∀ S : Store, callD (callF T (k + 1)) 8 [false, false] [.lst (ns.map .int), .int 3] S = .ok (.lst (ys.map .int)) S := fun S => cd_plain rfl rfl (by simp [D.pures, D.pure, pures_ints]) ey
  simp [fLaw, env0, e15, e8]
  generalize hr : (den _ (E.lc _ _ _ _ _ _)).v _ _ = q
  obtain ⟨zs, S', rfl, _, sub, s1, s2, s3⟩ := lc_eachR (l := nums 0 ys.length) (g := none) (S1 := []) hr (by simp [rngK_n (show ys.length ≤ 1000000 by omega)]) (fun _ _ => True) (fun _ y => y = .bl true) 0 trivial (by
    rintro d hd m S _
    obtain ⟨i, hi, rfl⟩ := nums_mem hd
    obtain ⟨l, e6, hb⟩ := box_ok (k := k) t6 h0 h1 ys i (by omega)
    have q6 : callD (callF T (k + 1)) 6 [false, false] [.lst (ys.map .int), .int i] S = .ok (.cell S.length) (S ++ [l]) := cd_ret rfl rfl (by simp [D.pures, D.pure, pures_ints]) e6
    obtain ⟨b', e17⟩ := right l (hb.le hN)
    have q17 : callD (callF T (k + 1)) 17 [true] [.cell S.length] (S ++ [l]) = .ok (.bl true) ((S ++ [l]).set S.length b') := cd_mut1 (ds := []) (ms := []) rfl rfl rfl (by simp) hb.pures e17
    refine ⟨_, rfl, .bl true, (S ++ [l]).set S.length b', ?_, trivial, rfl, rfl⟩
    simp [wipeE, q6, q17])
  have hz : ∀ z ∈ zs, z = .bl true := fun z hz => by
    rw [s2] at hz
    obtain ⟨p, hp, rfl⟩ := List.mem_map.mp hz
    exact s3 p hp
  simp [all_true hz]
  exact ⟨[], fin_v0 rfl⟩
end
end LK
set_option autoImplicit false
set_option linter.all false
set_option maxRecDepth 100000
set_option maxHeartbeats 4000000
/-! LP8: names; houses; bands; what can be reached. -/
namespace LK
open PySem
def fSetOf : Fn := { np := 1, ns := 1, ret := false, body := LK.S.seq (LK.S.ret (E.un (Un.tuple) (E.un (Un.sset) (E.var 0)))) (LK.S.skip) }
def fHeldBy : Fn := { np := 2, ns := 5, ret := false, body := LK.S.seq (LK.S.ret (E.un (Un.tuple) (E.lc [2, 3] true [2, 3] (E.enum (E.bin (Op.ix) (E.var 0) (E.lit (D.int 1)))) (E.un (Un.any) (E.lc [4] false [4] (E.var 1) (E.lit (D.bl true)) (E.bin (Op.mem) (E.var 4) (E.var 3)))) (E.var 2)))) (LK.S.skip) }
def fRests : Fn := { np := 3, ns := 4, ret := false, body := LK.S.seq (LK.S.ret (E.call 19 [false] [0] (E.cons (E.lc [3] false [3] (E.var 1) (E.bin (Op.gt) (E.un (Un.len) (E.call 2 [false, false] [0, 1] (E.cons (E.var 3) (E.cons (E.var 2) (E.nil))) (E.nil))) (E.lit (D.int 0))) (E.call 2 [false, false] [0, 1] (E.cons (E.call 1 [false] [0] (E.cons (E.var 3) (E.nil)) (E.nil)) (E.cons (E.var 2) (E.nil))) (E.nil))) (E.nil)) (E.nil))) (LK.S.skip) }
def fBarred : Fn := { np := 3, ns := 9, ret := false, body := LK.S.seq (LK.S.asg 3 (E.lc [7] false [7] (E.call 21 [false, false, false] [0, 1, 2] (E.cons (E.var 0) (E.cons (E.var 1) (E.cons (E.var 2) (E.nil)))) (E.nil)) (E.lit (D.bl true)) (E.call 34 [false, false] [0, 1] (E.cons (E.var 0) (E.cons (E.var 7) (E.nil))) (E.nil)))) (LK.S.seq (LK.S.asg 4 (E.mk (E.lst (E.nil)))) (LK.S.seq (LK.S.for_ false [5] (E.var 2) (LK.S.seq (LK.S.asg 6 (E.call 34 [false, false] [0, 1] (E.cons (E.var 0) (E.cons (E.tup (E.cons (E.var 5) (E.nil))) (E.nil))) (E.nil))) (LK.S.seq (LK.S.ite (E.un (Un.any) (E.lc [8] false [8] (E.var 3) (E.lit (D.bl true)) (E.bin (Op.eq) (E.un (Un.len) (E.call 2 [false, false] [0, 1] (E.cons (E.var 6) (E.cons (E.var 8) (E.nil))) (E.nil))) (E.lit (D.int 0))))) (LK.S.seq (LK.S.app (E.var 4) (E.var 5)) (LK.S.skip)) (LK.S.skip)) (LK.S.skip)))) (LK.S.seq (LK.S.ret (E.un (Un.tuple) (E.var 4))) (LK.S.skip)))) }
def fCan : Fn := { np := 3, ns := 3, ret := false, body := LK.S.seq (LK.S.ret (E.bin (Op.eq) (E.un (Un.len) (E.call 35 [false, false, false] [0, 1, 2] (E.cons (E.var 0) (E.cons (E.var 1) (E.cons (E.var 2) (E.nil)))) (E.nil))) (E.lit (D.int 0)))) (LK.S.skip) }
/-! ### sets of names -/
def isS : D → Bool
  | .str _ => true
  | _ => false
theorem isS_iff {d : D} : isS d = true ↔ ∃ s, d = .str s := by cases d <;> simp [isS]
/-- a tuple of texts -/
def isTS : D → Bool
  | .tup k => k.all isS
  | _ => false
theorem like_strs : ∀ {l m : List D}, l.all isS = true → m.all isS = true → D.likes l m = true
  | [], _, _, _ => by simp [D.likes]
  | _ :: _, [], _, _ => by simp [D.likes]
  | x :: l, y :: m, h1, h2 => by
    simp only [List.all_cons, Bool.and_eq_true] at h1 h2
    obtain ⟨i, rfl⟩ := isS_iff.mp h1.1
    obtain ⟨j, rfl⟩ := isS_iff.mp h2.1
    simp only [D.likes, D.like, Bool.true_and]
    exact like_strs h1.2 h2.2
theorem likes_ts {l : List D} (h : l.all isTS = true) : Likes l := by
  rw [List.all_eq_true] at h
  refine ⟨fun x hx y hy => ?_, fun x hx => ?_⟩
  · have h1 := h x hx
    have h2 := h y hy
    cases x <;> simp [isTS] at h1
    cases y <;> simp [isTS] at h2
    simp only [D.like]
    exact like_strs (by simpa using h1) (by simpa using h2)
  · have h1 := h x hx
    cases x <;> simp [isTS] at h1
    simp only [D.pure]
    refine pures_iff.mpr fun d hd => ?_
    obtain ⟨i, rfl⟩ := isS_iff.mp (h1 d hd)
    rfl
theorem ts_shal {l : List D} (h : l.all isTS = true) : l.all (D.shal 8) = true := by
  rw [List.all_eq_true] at h ⊢
  intro x hx
  have h1 := h x hx
  cases x <;> simp [isTS] at h1
  rename_i k
  show D.shals 7 k = true
  refine shals_iff.mpr fun d hd => ?_
  obtain ⟨i, rfl⟩ := isS_iff.mp (h1 d hd)
  rfl
theorem ts_tup {l : List D} (h : l.all isTS = true) : l.all isTup = true := by
  rw [List.all_eq_true] at h ⊢
  intro x hx
  have h1 := h x hx
  cases x <;> simp [isTS] at h1
  rfl
theorem un_sset_ts {S : Store} {d : D} {l : List D} (hd : items S d = some l) (h1 : l.length < 64) (h2 : l.all isTS = true) : unD S .sset d = some (.lst (sset l)) :=
  un_sset hd h1 (likes_all (likes_ts h2)) (ts_shal h2) (by rw [ts_tup h2]; rfl)
theorem sset_mem_ts {l : List D} (h : l.all isTS = true) {z : D} : z ∈ sset l ↔ z ∈ l := (sset_ok (likes_ts h)).1 z
theorem sset_len {l : List D} (h : Likes l) : (sset l).length ≤ l.length := by
  obtain ⟨q1, q2⟩ := sset_ok h
  exact List.Nodup.length_le_of_subset (asc2_asc (h.sub fun z hz => (q1 z).mp hz) q2).2 fun z hz => (q1 z).mp hz
theorem un_sorted {S : Store} {d : D} {l : List D} (hd : items S d = some l) (hl : Likes l) (hs : ∀ x ∈ l, D.shal 30 x = true) : unD S .sorted d = some (.lst (sorted l)) := by
  have e : unD S .sorted d = ((items S d).bind fun l => (D.thaws S l).bind fun l => if allLike l && l.all (D.shal 30) then some (D.lst (sorted l)) else none) := by cases d <;> rfl
  rw [e, hd]
  simp only [Option.bind_some]
  rw [p_thaws S l (pures_iff.mpr hl.pure)]
  simp only [Option.bind_some]
  rw [if_pos]
  rw [Bool.and_eq_true, List.all_eq_true]
  exact ⟨likes_all hl, hs⟩
section
variable {T : Nat → Option Fn} {k : Nat}
theorem setOf_ok (hT : T 19 = some fSetOf) {a : D} {l : List D} (ha : Sq a l) (h1 : l.length < 64) (h2 : l.all isTS = true) : callF T (k + 1) 19 [a] [] = .ok (.tup (sset l)) [] := by
  rw [p_call hT rfl]
  simp [fSetOf, env0]
  rw [un_sset_ts (l := l) (by rcases ha with rfl | rfl <;> rfl) h1 h2]
  simp
  exact fin_v0 (pures_iff.mpr fun x hx => (likes_ts h2).pure x ((sset_mem_ts h2).mp hx))
/-! ### houses -/
/-- names: texts -/
def Nms (l : List D) : Prop := ∀ x ∈ l, isS x = true
theorem Nms.cl {l : List D} (h : Nms l) : ∀ x ∈ l, Cl 0 x := fun x hx => by
  obtain ⟨s, rfl⟩ := isS_iff.mp (h x hx)
  exact Cl.str
/-- rows of names, as tuples or lists -/
structure Rws (d : D) (rows : List (List D)) : Prop where
  ex : ∃ l, Sq d l ∧ (∀ x ∈ l, Sq x (its x)) ∧ l.map its = rows
  nm : ∀ r ∈ rows, Nms r
structure House (h : D) (rs : List D) (ks : List (List D)) : Prop where
  ex : ∃ r kd, Sq h [r, kd] ∧ Sq r rs ∧ Rws kd ks
  nm : Nms rs
theorem Rws.pure {d : D} {rows : List (List D)} (h : Rws d rows) : d.pure = true := by
  obtain ⟨l, h1, h2, h3⟩ := h.ex
  refine h1.pure (pures_iff.mpr fun x hx => (h2 x hx).pure (Cl.pures (h.nm (its x) ?_).cl))
  rw [← h3]
  exact List.mem_map.mpr ⟨x, hx, rfl⟩
theorem House.pure {h : D} {rs : List D} {ks : List (List D)} (H : House h rs ks) : h.pure = true := by
  obtain ⟨r, kd, h1, h2, h3⟩ := H.ex
  exact h1.pure (by simp [D.pures, h2.pure (Cl.pures H.nm.cl), h3.pure])
theorem House.ix1 {h : D} {rs : List D} {ks : List (List D)} (H : House h rs ks) : ∃ kd, Rws kd ks ∧ ∀ S, ixD S h 1 = some kd := by
  obtain ⟨r, kd, h1, h2, h3⟩ := H.ex
  refine ⟨kd, h3, fun S => ?_⟩
  rcases h1 with rfl | rfl <;> rfl
theorem House.ix0 {h : D} {rs : List D} {ks : List (List D)} (H : House h rs ks) : ∃ r, Sq r rs ∧ ∀ S, ixD S h 0 = some r := by
  obtain ⟨r, kd, h1, h2, h3⟩ := H.ex
  refine ⟨r, h2, fun S => ?_⟩
  rcases h1 with rfl | rfl <;> rfl
/-- the i-th key -/
def keyAt (ks : List (List D)) (i : Nat) : List D := ks.getD i []
/-- the places of the keys that some hold together -/
def held (ks : List (List D)) (ms : List D) : List Nat := (List.range ks.length).filter fun i => ms.any fun n => decide (n ∈ keyAt ks i)
def intsD (l : List Nat) : List D := l.map fun i : Nat => D.int i
theorem intsD_mem {l : List Nat} {i : Nat} : D.int i ∈ intsD l ↔ i ∈ l := by
  unfold intsD
  constructor
  · intro h
    obtain ⟨j, hj, e⟩ := List.mem_map.mp h
    simp at e
    have : j = i := by omega
    rw [← this]; exact hj
  · exact fun h => List.mem_map.mpr ⟨i, h, rfl⟩
theorem intsD_cl {l : List Nat} : ∀ d ∈ intsD l, Cl 0 d := fun d hd => by
  obtain ⟨i, _, rfl⟩ := List.mem_map.mp hd
  exact Cl.int
theorem pairs_nums (l : List D) : pairs (nums 0 l.length) l = (List.range l.length).map fun i : Nat => .tup [.int i, l.getD i .non] := by
  unfold pairs
  apply List.ext_getElem
  · simp
  · intro i h1 h2
    have hi : i < l.length := by simpa using h2
    have h3 := p_nums_get l.length 0 i hi
    rw [List.getElem?_eq_getElem (by simpa using hi)] at h3
    simp only [Option.some.injEq] at h3
    rw [List.getElem_map, List.getElem_zip, List.getElem_map, h3]
    simp [hi]
theorem heldBy_ok (hT : T 34 = some fHeldBy) {h sm : D} {rs : List D} {ks : List (List D)} {ms : List D} (H : House h rs ks) (hs : Sq sm ms) (hm : Nms ms) : callF T (k + 1) 34 [h, sm] [] = .ok (.tup (intsD (held ks ms))) [] := by
  obtain ⟨kd, hk, hix⟩ := H.ix1
  obtain ⟨kl, q1, q2, q3⟩ := hk.ex
  have hen : ∀ S, enumK S kd = .ok (pairs (nums 0 kl.length) kl) S := fun S => by rcases q1 with rfl | rfl <;> rfl
  have hka : ∀ i, i < kl.length → its (kl.getD i .non) = keyAt ks i ∧ Sq (kl.getD i .non) (its (kl.getD i .non)) ∧ Nms (its (kl.getD i .non)) := fun i hi => by
    have e : kl.getD i .non = kl[i] := by simp [hi]
    rw [e]
    have hmem : its kl[i] ∈ ks := by rw [← q3]; exact List.mem_map.mpr ⟨_, List.getElem_mem hi, rfl⟩
    refine ⟨?_, q2 _ (List.getElem_mem hi), hk.nm _ hmem⟩
    unfold keyAt
    rw [← q3]
    simp [hi]
  rw [p_call hT rfl]
  simp [fHeldBy, env0]
  rw [lc_pure (l := pairs (nums 0 kl.length) kl) (g := none) (S1 := []) ?hi (fun p => match p with | .tup [_, d] => ms.any fun n => decide (n ∈ its d) | _ => false) (fun p => match p with | .tup [i, _] => i | _ => .non) ?h]
  case hi => simp [hix, hen]
  case h =>
    intro p hp
    rw [pairs_nums] at hp
    obtain ⟨i, hi, rfl⟩ := List.mem_map.mp hp
    obtain ⟨a1, a2, a3⟩ := hka i (List.mem_range.mp hi)
    refine ⟨_, rfl, ?_, fun _ => by simp [wipeE]⟩
    simp [wipeE]
    rw [lc_map (l := ms) (g := none) (S1 := []) ?hi2 (fun n => .bl (decide (n ∈ its (kl.getD i .non)))) ?h2]
    case hi2 => simp [hs.iv]
    case h2 =>
      intro n hn
      refine ⟨_, rfl, ?_⟩
      have := mem_cl (S := []) a2 (hm.cl n hn) a3.cl (show 0 ≤ 30 by omega)
      simp at this
      simp [wipeE, this]
    simp [un_anyF]
  simp only [rb_ok, un_tup_l, of_some, st_ok]
  rw [fin_v0 ?_]
  · congr 2
    rw [pairs_nums, List.filter_map, List.map_map]
    unfold held intsD
    have hl : ks.length = kl.length := by rw [← q3]; simp
    rw [hl]
    have e1 : (List.range kl.length).filter ((fun p : D => match p with | .tup [_, d] => ms.any fun n => decide (n ∈ its d) | _ => false) ∘ fun i : Nat => D.tup [.int i, kl.getD i .non]) = (List.range kl.length).filter fun i => ms.any fun n => decide (n ∈ keyAt ks i) := by
      refine List.filter_congr fun i hi => ?_
      simp only [Function.comp]
      rw [(hka i (List.mem_range.mp hi)).1]
    rw [e1]
    rfl
  · refine pures_iff.mpr fun d hd => ?_
    obtain ⟨p, hp, rfl⟩ := List.mem_map.mp hd
    have := (List.mem_filter.mp hp).1
    rw [pairs_nums] at this
    obtain ⟨i, hi, rfl⟩ := List.mem_map.mp this
    rfl
end
end LK
set_option autoImplicit false
set_option linter.all false
set_option maxRecDepth 100000
set_option maxHeartbeats 4000000
/-! LP9: rests; barred readers. -/
namespace LK
open PySem
section
variable {T : Nat → Option Fn} {k : Nat}
theorem its_t {l : List D} : its (.tup l) = l := rfl
theorem its_l {l : List D} : its (.lst l) = l := rfl
def less (b ms : List D) : List D := b.filter fun d => !decide (d ∈ ms)
def restL (bs : List (List D)) (ms : List D) : List (List D) := (bs.map fun b => less b ms).filter fun r => !decide (r = [])
theorem hards_nms : ∀ {l : List D}, Nms l → D.hards l = l
  | [], _ => rfl
  | d :: l, h => by
    obtain ⟨s, rfl⟩ := isS_iff.mp (h d List.mem_cons_self)
    simp only [D.hards, D.hard, hards_nms fun d hd => h d (List.mem_cons_of_mem _ hd)]
theorem softs_nms : ∀ {l : List D}, Nms l → D.softs l = l
  | [], _ => rfl
  | d :: l, h => by
    obtain ⟨s, rfl⟩ := isS_iff.mp (h d List.mem_cons_self)
    simp only [D.softs, D.soft, softs_nms fun d hd => h d (List.mem_cons_of_mem _ hd)]
theorem Sq.hard {d : D} {l : List D} (h : Sq d l) : d.hard = .tup (D.hards l) := by rcases h with rfl | rfl <;> rfl
theorem Sq.soft {d : D} {l : List D} (h : Sq d l) : d.soft = .lst (D.softs l) := by rcases h with rfl | rfl <;> rfl
theorem Sq.its {d : D} {l : List D} (h : Sq d l) : LK.its d = l := by rcases h with rfl | rfl <;> rfl
theorem Sq.shal {d : D} {l : List D} {n : Nat} (h : Sq d l) (hs : D.shals n l = true) : D.shal (n + 1) d = true := by rcases h with rfl | rfl <;> exact hs
theorem Nms.less {b ms : List D} (h : Nms b) : Nms (less b ms) := fun x hx => h x (List.mem_filter.mp hx).1
theorem Nms.pures {l : List D} (h : Nms l) : D.pures l = true := Cl.pures (n := 0) h.cl
theorem Nms.shals {l : List D} (h : Nms l) {n : Nat} : D.shals n l = true := shals_iff.mpr fun d hd => ((h.cl d hd).up (Nat.zero_le n)).s
theorem Nms.ts {l : List D} (h : Nms l) : isTS (.tup l) = true := List.all_eq_true.mpr h
theorem restL_nms {bs : List (List D)} {ms : List D} (h : ∀ b ∈ bs, Nms b) : ∀ r ∈ restL bs ms, Nms r := fun r hr => by
  obtain ⟨b, hb, rfl⟩ := List.mem_map.mp (List.mem_filter.mp hr).1
  exact (h b hb).less
theorem tups_ts {rs : List (List D)} (h : ∀ r ∈ rs, Nms r) : (rs.map D.tup).all isTS = true := by
  rw [List.all_eq_true]
  intro x hx
  obtain ⟨r, hr, rfl⟩ := List.mem_map.mp hx
  exact (h r hr).ts
theorem tups_pures {rs : List (List D)} (h : ∀ r ∈ rs, Nms r) : D.pures (rs.map D.tup) = true := pures_iff.mpr fun x hx => by
  obtain ⟨r, hr, rfl⟩ := List.mem_map.mp hx
  exact (h r hr).pures
theorem cd_tupled1 (h1 : T 1 = some fTupled) {x : D} {l : List D} (hx : Sq x l) (hl : Nms l) (S : Store) : callD (callF T (k + 2)) 1 [false] [x] S = .ok (.tup l) S := by
  refine cd_plain rfl rfl (by simp [D.pures, hx.pure hl.pures]) ?_
  have := tupled_ok (T := T) h1 1 (k + 1) x (hx.pure hl.pures) (hx.shal hl.shals) (by omega)
  rw [hx.hard, hards_nms hl] at this
  exact this
theorem cd_unlike {f : Nat} (h2 : T f = some fUnlike) {a b : D} {l m : List D} (ha : Sq a l) (hb : Sq b m) (hl : Nms l) (hm : Nms m) (S : Store) : callD (callF T (k + 1)) f [false, false] [a, b] S = .ok (.tup (less l m)) S :=
  cd_plain rfl rfl (by simp [D.pures, ha.pure hl.pures, hb.pure hm.pures]) (unlike_ok h2 ha hb (n := 0) (by omega) hl.cl hm.cl)
theorem rests_ok (h1 : T 1 = some fTupled) (h2 : T 2 = some fUnlike) (h19 : T 19 = some fSetOf) (h21 : T 21 = some fRests) {h a sm : D} {bs : List (List D)} {ms : List D} (ha : Rws a bs) (hn : bs.length < 64) (hs : Sq sm ms) (hm : Nms ms) :
    callF T (k + 3) 21 [h, a, sm] [] = .ok (.tup (sset ((restL bs ms).map .tup))) [] := by
  obtain ⟨l, q1, q2, q3⟩ := ha.ex
  have hx : ∀ x ∈ l, Sq x (its x) ∧ Nms (its x) := fun x hx => ⟨q2 x hx, ha.nm _ (by rw [← q3]; exact List.mem_map.mpr ⟨x, hx, rfl⟩)⟩
  rw [p_call h21 rfl]
  simp [fRests, env0]
  rw [lc_pure (l := l) (g := none) (S1 := []) ?hi (fun x => !decide (less (its x) ms = [])) (fun x => .tup (less (its x) ms)) ?h]
  case hi => simp [q1.iv]
  case h =>
    intro x hxl
    obtain ⟨a1, a2⟩ := hx x hxl
    refine ⟨_, rfl, ?_, fun _ => ?_⟩
    · simp [wipeE, cd_unlike h2 a1 hs a2 hm]
      cases hq : less (its x) ms <;> simp
    · simp [wipeE, cd_tupled1 (k := k) h1 a1 a2, cd_unlike h2 .t hs a2 hm]
  have hl : (l.filter fun x => !decide (less (its x) ms = [])).map (fun x => D.tup (less (its x) ms)) = (restL bs ms).map .tup := by
    unfold restL
    rw [← q3, List.map_map, List.filter_map, List.map_map]
    rfl
  rw [hl]
  have hlen : ((restL bs ms).map D.tup).length < 64 := by
    rw [List.length_map]
    refine Nat.lt_of_le_of_lt (List.length_filter_le ..) ?_
    simpa using hn
  have hnm := restL_nms (ms := ms) ha.nm
  have c19 : ∀ S : Store, callD (callF T (k + 2)) 19 [false] [.lst ((restL bs ms).map .tup)] S = .ok (.tup (sset ((restL bs ms).map .tup))) S := fun S =>
    cd_plain rfl rfl (by simp [D.pures, D.pure, tups_pures hnm]) (setOf_ok h19 .l hlen (tups_ts hnm))
  simp [c19]
  refine fin_v0 (pures_iff.mpr fun x hx => ?_)
  exact pures_iff.mp (tups_pures hnm) x ((sset_mem_ts (tups_ts hnm)).mp hx)
theorem tups_mem {rs : List (List D)} (h : ∀ r ∈ rs, Nms r) {x : D} (hx : x ∈ sset (rs.map D.tup)) : x = .tup (its x) ∧ its x ∈ rs := by
  obtain ⟨r, hr, rfl⟩ := List.mem_map.mp ((sset_mem_ts (tups_ts h)).mp hx)
  exact ⟨rfl, hr⟩
theorem any_sset {rs : List (List D)} (h : ∀ r ∈ rs, Nms r) (f : List D → Bool) : ((sset (rs.map D.tup)).any fun x => f (its x)) = rs.any f := by
  rw [Bool.eq_iff_iff, List.any_eq_true, List.any_eq_true]
  constructor
  · rintro ⟨x, hx, hf⟩
    exact ⟨_, (tups_mem h hx).2, hf⟩
  · rintro ⟨r, hr, hf⟩
    exact ⟨.tup r, (sset_mem_ts (tups_ts h)).mpr (List.mem_map.mpr ⟨r, hr, rfl⟩), hf⟩
/-- whether the rest of some band holds all that this one holds -/
def barB (ks bs : List (List D)) (ms : List D) (x : D) : Bool := (restL bs ms).any fun r => subs (intsD (held ks [x])) (intsD (held ks r))
theorem intsD_pures {l : List Nat} : D.pures (intsD l) = true := Cl.pures (n := 0) intsD_cl
theorem barred_ok (h1 : T 1 = some fTupled) (h2 : T 2 = some fUnlike) (h19 : T 19 = some fSetOf) (h21 : T 21 = some fRests) (h34 : T 34 = some fHeldBy) (h35 : T 35 = some fBarred) {h a sm : D} {rs : List D} {ks bs : List (List D)} {ms : List D} (H : House h rs ks) (ha : Rws a bs) (hn : bs.length < 64) (hs : Sq sm ms) (hm : Nms ms) (hml : ms.length ≤ 1000) :
    callF T (k + 4) 35 [h, a, sm] [] = .ok (.tup (ms.filter (barB ks bs ms))) [] := by
  have hnm := restL_nms (ms := ms) ha.nm
  have c21 : ∀ S : Store, callD (callF T (k + 3)) 21 [false, false, false] [h, a, sm] S = .ok (.tup (sset ((restL bs ms).map .tup))) S := fun S =>
    cd_plain rfl rfl (by simp [D.pures, H.pure, ha.pure, hs.pure hm.pures]) (rests_ok h1 h2 h19 h21 ha hn hs hm)
  have c34 : ∀ {r : D} {l : List D}, Sq r l → Nms l → ∀ S : Store, callD (callF T (k + 3)) 34 [false, false] [h, r] S = .ok (.tup (intsD (held ks l))) S := fun hr hl S =>
    cd_plain rfl rfl (by simp [D.pures, H.pure, hr.pure hl.pures]) (heldBy_ok h34 H hr hl)
  have c2 : ∀ (a b : List Nat) (S : Store), callD (callF T (k + 3)) 2 [false, false] [.tup (intsD a), .tup (intsD b)] S = .ok (.tup ((intsD a).filter fun d => !decide (d ∈ intsD b))) S := fun a b S =>
    cd_plain rfl rfl (by simp [D.pures, D.pure, intsD_pures]) (unlike_ok h2 .t .t (n := 0) (by omega) intsD_cl intsD_cl)
  rw [p_call h35 rfl]
  simp [fBarred, env0, c21]
  rw [lc_map (l := sset ((restL bs ms).map .tup)) (g := none) (S1 := []) ?hi (fun r => .tup (intsD (held ks (its r)))) ?h]
  case hi => simp [c21]
  case h =>
    intro x hx
    obtain ⟨e1, e2⟩ := tups_mem hnm hx
    refine ⟨_, rfl, ?_⟩
    simp [wipeE, c34 (.inl e1) (hnm _ e2)]
  simp [hs.iv]
  generalize hr : forK _ _ _ _ _ _ _ _ = q
  obtain ⟨env', S', rfl, x5, x6, rfl, rfl⟩ := forK_inv hr (fun pre env S => ∃ x5 x6 : Option D, env = [some h, some a, some sm, some (.lst ((sset ((restL bs ms).map .tup)).map fun r => .tup (intsD (held ks (its r))))), some (.cell 0), x5, x6, none, none] ∧ S = [pre.filter (barB ks bs ms)])
    ⟨none, none, rfl, rfl⟩ (by
    rintro pre d post env S hpd ⟨x5, x6, rfl, rfl⟩
    have hd : d ∈ ms := by rw [hpd]; simp
    have hlen : pre.length < 1000 := by rw [hpd] at hml; simp at hml; omega
    have hfl : (pre.filter (barB ks bs ms)).length ≤ pre.length := List.length_filter_le ..
    have hd1 : Nms [d] := fun x hx => by simp at hx; rw [hx]; exact hm d hd
    refine ⟨_, rfl, ?_⟩
    simp [c34 (r := .tup [d]) .t hd1]
    rw [lc_map (l := (sset ((restL bs ms).map .tup)).map fun r => .tup (intsD (held ks (its r)))) (g := none) (S1 := [pre.filter (barB ks bs ms)]) ?hi2 (fun r => .bl (subs (intsD (held ks [d])) (its r))) ?h2]
    case hi2 => simp
    case h2 =>
      intro x hx
      obtain ⟨y, hy, rfl⟩ := List.mem_map.mp hx
      refine ⟨_, rfl, ?_⟩
      simp only [← filter_subs]
      simp [wipeE, c2, its_t]
      exact forall_congr' fun a => forall_congr' fun _ => decide_eq_true_iff.symm
    simp only [st_ok, rb_ok, un_anyF, of_some, List.any_map, Function.comp_def, its_t]
    rw [any_sset hnm fun r => subs (intsD (held ks [d])) (intsD (held ks r))]
    have hb : ((restL bs ms).any fun r => subs (intsD (held ks [d])) (intsD (held ks r))) = barB ks bs ms d := rfl
    rw [hb]
    cases hsc : barB ks bs ms d with
    | true =>
      simp
      rw [appK_ok (l := pre.filter (barB ks bs ms)) rfl (by show _ < 16777216; omega)]
      simp [hsc, stays_none]
    | false => simp [hsc, stays_none])
  simp
  exact fin_v0 (Nms.pures fun x hx => hm x (List.mem_filter.mp hx).1)
theorem can_ok (h1 : T 1 = some fTupled) (h2 : T 2 = some fUnlike) (h19 : T 19 = some fSetOf) (h21 : T 21 = some fRests) (h34 : T 34 = some fHeldBy) (h35 : T 35 = some fBarred) (h36 : T 36 = some fCan) {h a sm : D} {rs : List D} {ks bs : List (List D)} {ms : List D} (H : House h rs ks) (ha : Rws a bs) (hn : bs.length < 64) (hs : Sq sm ms) (hm : Nms ms) (hml : ms.length ≤ 1000) :
    callF T (k + 5) 36 [h, a, sm] [] = .ok (.bl (decide (ms.filter (barB ks bs ms) = []))) [] := by
  have c35 : ∀ S : Store, callD (callF T (k + 4)) 35 [false, false, false] [h, a, sm] S = .ok (.tup (ms.filter (barB ks bs ms))) S := fun S =>
    cd_plain rfl rfl (by simp [D.pures, H.pure, ha.pure, hs.pure hm.pures]) (barred_ok h1 h2 h19 h21 h34 h35 H ha hn hs hm hml)
  rw [p_call h36 rfl]
  simp [fCan, env0, c35]
  rw [fin_v0 rfl]
end
end LK
set_option autoImplicit false
set_option linter.all false
set_option maxRecDepth 100000
set_option maxHeartbeats 4000000
/-! LP10: the law's own helpers for houses. -/
namespace LK
open PySem
def fHall : Fn := { np := 3, ns := 7, ret := false, body := LK.S.seq (LK.S.asg 3 (E.sl false true (E.lst (E.cons (E.lit (D.str [97])) (E.cons (E.lit (D.str [97, 98])) (E.cons (E.lit (D.str [98])) (E.cons (E.lit (D.str [99])) (E.cons (E.lit (D.str [122, 122])) (E.nil))))))) (E.lit (D.non)) (E.call 7 [true, false] [0, 1] (E.cons (E.var 0) (E.cons (E.bin (Op.add) (E.var 1) (E.lit (D.int 1))) (E.nil))) (E.nil)))) (LK.S.seq (LK.S.asg 4 (E.mk (E.lst (E.nil)))) (LK.S.seq (LK.S.for_ false [5] (E.rng (E.lit (D.int 0)) (E.call 7 [true, false] [0, 1] (E.cons (E.var 0) (E.cons (E.bin (Op.add) (E.var 2) (E.lit (D.int 1))) (E.nil))) (E.nil))) (LK.S.seq (LK.S.app (E.var 4) (E.un (Un.tuple) (E.lc [6] false [6] (E.var 3) (E.bin (Op.gt) (E.call 7 [true, false] [0, 1] (E.cons (E.var 0) (E.cons (E.lit (D.int 5)) (E.nil))) (E.nil)) (E.lit (D.int 1))) (E.var 6)))) (LK.S.skip))) (LK.S.seq (LK.S.ret (E.tup (E.cons (E.un (Un.tuple) (E.var 3)) (E.cons (E.un (Un.tuple) (E.var 4)) (E.nil))))) (LK.S.skip)))) }
def fGangs : Fn := { np := 3, ns := 7, ret := false, body := LK.S.seq (LK.S.asg 3 (E.mk (E.lst (E.nil)))) (LK.S.seq (LK.S.for_ false [4] (E.rng (E.lit (D.int 0)) (E.call 7 [true, false] [0, 1] (E.cons (E.var 0) (E.cons (E.bin (Op.add) (E.var 2) (E.lit (D.int 1))) (E.nil))) (E.nil))) (LK.S.seq (LK.S.app (E.var 3) (E.un (Un.tuple) (E.lc [5] false [5] (E.bin (Op.ix) (E.var 1) (E.lit (D.int 0))) (E.bin (Op.eq) (E.call 7 [true, false] [0, 1] (E.cons (E.var 0) (E.cons (E.lit (D.int 2)) (E.nil))) (E.nil)) (E.lit (D.int 0))) (E.var 5)))) (LK.S.skip))) (LK.S.seq (LK.S.asg 3 (E.mk (E.lc [6] false [6] (E.var 3) (E.bin (Op.ne) (E.var 6) (E.tup (E.nil))) (E.var 6)))) (LK.S.seq (LK.S.for_ false [5] (E.bin (Op.ix) (E.var 1) (E.lit (D.int 0))) (LK.S.seq (LK.S.ite (E.bin (Op.eq) (E.lc [6] false [6] (E.var 3) (E.bin (Op.mem) (E.var 5) (E.var 6)) (E.var 6)) (E.lst (E.nil))) (LK.S.seq (LK.S.app (E.var 3) (E.tup (E.cons (E.var 5) (E.nil)))) (LK.S.skip)) (LK.S.skip)) (LK.S.skip))) (LK.S.seq (LK.S.ret (E.un (Un.tuple) (E.un (Un.sset) (E.var 3)))) (LK.S.skip))))) }
def fSets : Fn := { np := 1, ns := 4, ret := false, body := LK.S.seq (LK.S.asg 1 (E.lst (E.cons (E.tup (E.nil)) (E.nil)))) (LK.S.seq (LK.S.for_ false [2] (E.var 0) (LK.S.seq (LK.S.asg 1 (E.bin (Op.add) (E.var 1) (E.lc [3] false [3] (E.var 1) (E.lit (D.bl true)) (E.bin (Op.add) (E.var 3) (E.tup (E.cons (E.var 2) (E.nil))))))) (LK.S.skip))) (LK.S.seq (LK.S.ret (E.un (Un.sorted) (E.var 1))) (LK.S.skip))) }
def fLRests : Fn := { np := 2, ns := 5, ret := false, body := LK.S.seq (LK.S.asg 2 (E.lc [3] false [3] (E.var 0) (E.lit (D.bl true)) (E.un (Un.tuple) (E.lc [4] false [4] (E.var 3) (E.bin (Op.nmem) (E.var 4) (E.var 1)) (E.var 4))))) (LK.S.seq (LK.S.ret (E.lc [3] false [3] (E.var 2) (E.bin (Op.ne) (E.var 3) (E.tup (E.nil))) (E.var 3))) (LK.S.skip)) }
def fHolds : Fn := { np := 3, ns := 5, ret := false, body := LK.S.seq (LK.S.for_ false [3] (E.var 2) (LK.S.seq (LK.S.ite (E.bin (Op.eq) (E.lc [4] false [4] (E.var 1) (E.bin (Op.mem) (E.var 4) (E.bin (Op.ix) (E.bin (Op.ix) (E.var 0) (E.lit (D.int 1))) (E.var 3))) (E.var 4)) (E.lst (E.nil))) (LK.S.seq (LK.S.ret (E.lit (D.bl false))) (LK.S.skip)) (LK.S.skip)) (LK.S.skip))) (LK.S.seq (LK.S.ret (E.lit (D.bl true))) (LK.S.skip)) }
section
variable {T : Nat → Option Fn} {k : Nat}
theorem cd_take (t7 : T 7 = some fTake) {n m i : Nat} {b : List D} {S : Store} (h1 : 1 ≤ m) (h2 : m ≤ 1000) (hS : S[i]? = some b) (h : BoxOk (n + 1) b) :
    ∃ (r : Nat) (b' : List D), callD (callF T (k + 1)) 7 [true, false] [.cell i, .int m] S = .ok (.int r) (S.set i b') ∧ r < m ∧ BoxOk n b' := by
  obtain ⟨r, b', e, hr, hb⟩ := take_ok (T := T) (k := k) t7 h1 h2 h
  exact ⟨r, b', cd_mut1 rfl rfl rfl hS h.pures e, hr, hb⟩
def nm5 : List D := [.str [97], .str [97, 98], .str [98], .str [99], .str [122, 122]]
theorem nm5_nms : Nms nm5 := fun x hx => by
  simp [nm5] at hx
  rcases hx with rfl | rfl | rfl | rfl | rfl <;> rfl
theorem Nms.sub {l m : List D} (h : Nms l) (s : m.Sublist l) : Nms m := fun x hx => h x (s.subset hx)
/-- a drawn house -/
structure Hall (folk most : Nat) (rs : List D) (ks : List (List D)) : Prop where
  fl : ∃ r, r ≤ folk ∧ rs = nm5.take r
  keys : ∀ q ∈ ks, List.Sublist q rs
  len : ks.length ≤ most
theorem Hall.sub {folk most : Nat} {rs : List D} {ks : List (List D)} (h : Hall folk most rs ks) : rs.Sublist nm5 := by
  obtain ⟨r, _, e⟩ := h.fl
  rw [e]; exact List.take_sublist ..
theorem Hall.nms {folk most : Nat} {rs : List D} {ks : List (List D)} (h : Hall folk most rs ks) : Nms rs := nm5_nms.sub h.sub
theorem Hall.le {folk most : Nat} {rs : List D} {ks : List (List D)} (h : Hall folk most rs ks) : rs.length ≤ 5 := h.sub.length_le
theorem rws_tups {rows : List (List D)} (h : ∀ r ∈ rows, Nms r) : Rws (.tup (rows.map .tup)) rows := by
  refine ⟨⟨rows.map .tup, .t, fun x hx => ?_, ?_⟩, h⟩
  · obtain ⟨r, hr, rfl⟩ := List.mem_map.mp hx
    exact .t
  · rw [List.map_map]; exact List.map_id rows
theorem rws_softs {rows : List (List D)} (h : ∀ r ∈ rows, Nms r) : Rws (.lst (rows.map .lst)) rows := by
  refine ⟨⟨rows.map .lst, .l, fun x hx => ?_, ?_⟩, h⟩
  · obtain ⟨r, hr, rfl⟩ := List.mem_map.mp hx
    exact .l
  · rw [List.map_map]; exact List.map_id rows
theorem softs_tups {rows : List (List D)} (h : ∀ r ∈ rows, Nms r) : D.softs (rows.map .tup) = rows.map .lst := by
  rw [softs_map, List.map_map]
  refine List.map_congr_left fun r hr => ?_
  show D.lst (D.softs r) = _
  rw [softs_nms (h r hr)]
def houseT (rs : List D) (ks : List (List D)) : D := .tup [.tup rs, .tup (ks.map .tup)]
def houseS (rs : List D) (ks : List (List D)) : D := .lst [.lst rs, .lst (ks.map .lst)]
theorem houseT_ok {rs : List D} {ks : List (List D)} (h1 : Nms rs) (h2 : ∀ r ∈ ks, Nms r) : House (houseT rs ks) rs ks := ⟨⟨_, _, .t, .t, rws_tups h2⟩, h1⟩
theorem houseS_ok {rs : List D} {ks : List (List D)} (h1 : Nms rs) (h2 : ∀ r ∈ ks, Nms r) : House (houseS rs ks) rs ks := ⟨⟨_, _, .l, .l, rws_softs h2⟩, h1⟩
theorem houseT_soft {rs : List D} {ks : List (List D)} (h1 : Nms rs) (h2 : ∀ r ∈ ks, Nms r) : (houseT rs ks).soft = houseS rs ks := by
  show D.lst [D.lst (D.softs rs), D.lst (D.softs (ks.map .tup))] = _
  rw [softs_nms h1, softs_tups h2]; rfl
theorem houseT_shal {rs : List D} {ks : List (List D)} (h1 : Nms rs) (h2 : ∀ r ∈ ks, Nms r) : D.shal 3 (houseT rs ks) = true := by
  show (D.shals 1 rs && (D.shals 1 (ks.map .tup) && true)) = true
  rw [Nms.shals h1, Bool.true_and, Bool.and_true]
  refine shals_iff.mpr fun x hx => ?_
  obtain ⟨r, hr, rfl⟩ := List.mem_map.mp hx
  exact (h2 r hr).shals
theorem sub_nms {rs : List D} {rows : List (List D)} (h : Nms rs) (hs : ∀ r ∈ rows, r.Sublist rs) : ∀ r ∈ rows, Nms r := fun r hr => h.sub (hs r hr)
/-- what some draws pick -/
theorem pick_sub {ys l : List D} {sub : List (D × D)} (s1 : (sub.map (·.1)).Sublist l) (s2 : ys = sub.map (·.2)) (s3 : ∀ p ∈ sub, p.2 = p.1) : ys.Sublist l := by
  have : ys = sub.map (·.1) := by
    rw [s2]
    exact List.map_congr_left fun p hp => s3 p hp
  rw [this]; exact s1
theorem hall_ok (t7 : T 7 = some fTake) (t37 : T 37 = some fHall) {n folk most : Nat} {b : List D} (hf : folk ≤ 900) (hm : most ≤ 900) (h : BoxOk (n + 2 + 5 * most) b) :
    ∃ (rs : List D) (ks : List (List D)) (b' : List D), callF T (k + 2) 37 [.cell 0, .int folk, .int most] [b] = .ok (houseT rs ks) [b'] ∧ Hall folk most rs ks ∧ BoxOk n b' := by
  rw [p_call t37 rfl]
  obtain ⟨r, b1, e1, hr1, hb1⟩ := cd_take (k := k) t7 (n := n + 1 + 5 * most) (m := folk + 1) (i := 0) (b := b) (S := [b]) (by omega) (by omega) rfl (h.le (by omega))
  obtain ⟨r2, b2, e2, hr2, hb2⟩ := cd_take (k := k) t7 (n := n + 5 * most) (m := most + 1) (i := 0) (b := b1) (S := [b1] ++ [[]]) (by omega) (by omega) rfl (hb1.le (by omega))
  have ef : ((folk + 1 : Nat) : Int) = (folk : Int) + 1 := by omega
  have em : ((most + 1 : Nat) : Int) = (most : Int) + 1 := by omega
  rw [ef] at e1
  rw [em] at e2
  simp at e1 e2
  simp [fHall, env0]
  simp [e1, endOf, cut]
  generalize htag : List.take (min r 5) _ = rs
  have hsub : rs.Sublist nm5 := by rw [← htag]; exact List.take_sublist ..
  have hrl : rs.length ≤ 5 := hsub.length_le
  have hnm : Nms rs := nm5_nms.sub hsub
  simp [e2, rngK_n (show r2 ≤ 1000000 by omega)]
  generalize hr : forK _ _ _ _ _ _ _ _ = q
  obtain ⟨env', S', rfl, x5, b3, fs, rfl, rfl, hb3, hl, hfs⟩ := forK_inv hr (fun pre env S => ∃ (x5 : Option D) (b : List D) (fs : List (List D)), env = [some (.cell 0), some (.int folk), some (.int most), some (.lst rs), some (.cell 1), x5, none] ∧ S = [b, fs.map .tup] ∧ BoxOk (n + 5 * (most - pre.length)) b ∧ fs.length = pre.length ∧ ∀ x ∈ fs, List.Sublist x rs)
    ⟨none, b2, [], rfl, rfl, hb2.le (by simp), rfl, by simp⟩ (by
    rintro pre d post env S hpd ⟨x5, b, fs, rfl, rfl, hb, hl, hfs⟩
    have hlen : pre.length < r2 := by
      have := congrArg List.length hpd
      simp at this
      omega
    refine ⟨_, rfl, ?_⟩
    simp
    generalize hr : (den _ (E.lc _ _ _ _ _ _)).v _ _ = q
    obtain ⟨ys, S', rfl, ⟨b3, rfl, hb3⟩, sub, s1, s2, s3⟩ := lc_invR (l := rs) (g := none) (S1 := [b, fs.map .tup]) hr (by simp) (fun m S => ∃ b, S = [b, fs.map .tup] ∧ BoxOk (n + 5 * (most - (pre.length + 1)) + m) b) (fun x y => y = x) 0
      ⟨b, rfl, hb.le (by omega)⟩ (by
      rintro d hd m S ⟨b, rfl, hb⟩
      obtain ⟨r, b', e, hr, hb'⟩ := cd_take (k := k) t7 (n := n + 5 * (most - (pre.length + 1)) + m) (m := 5) (i := 0) (b := b) (S := [b, fs.map .tup]) (by omega) (by omega) rfl (hb.le (by omega))
      simp at e
      refine ⟨_, decide (1 < r), [b', fs.map .tup], rfl, ?_, fun _ => ⟨⟨b', rfl, hb'⟩, rfl⟩, fun _ => ⟨d, [b', fs.map .tup], by simp [wipeE], ⟨b', rfl, hb'⟩, rfl, rfl⟩⟩
      simp [wipeE, e]
      omega)
    have hys := pick_sub s1 s2 s3
    simp
    rw [appK_ok (l := fs.map .tup) rfl (by simp; show _ < 16777216; omega)]
    refine ⟨_, _, rfl, rfl, ⟨_, rfl⟩, b3, fs ++ [ys], by simp, by simpa using hb3, by simp [hl], ?_⟩
    intro x hx
    rcases List.mem_append.mp hx with h | h
    · exact hfs x h
    · simp at h; rw [h]; exact hys)
  have hlen : fs.length ≤ most := by simp at hl; omega
  simp
  refine ⟨rs, fs, b3, ?_, ⟨⟨min r 5, by omega, htag.symm⟩, hfs, hlen⟩, hb3.le (by omega)⟩
  rw [fin_v (by simp [hb3.pures]) ?_]
  · rfl
  · simp [D.pure, D.pures, hnm.pures, tups_pures (sub_nms hnm hfs)]
/-- drawn bands -/
structure Gangs (most : Nat) (rs : List D) (gs : List (List D)) : Prop where
  sub : ∀ g ∈ gs, List.Sublist g rs
  ne : ∀ g ∈ gs, g ≠ []
  cov : ∀ x ∈ rs, ∃ g ∈ gs, x ∈ g
  len : gs.length ≤ most + 5
  asc : Asc2 (gs.map .tup)
theorem Gangs.nms {most : Nat} {rs : List D} {gs : List (List D)} (h : Gangs most rs gs) (hr : Nms rs) : ∀ r ∈ gs, Nms r := sub_nms hr h.sub
theorem filter_empty {α : Type} {p : α → Bool} {l : List α} : l.filter p = [] ↔ l.any p = false := by
  rw [List.filter_eq_nil_iff, ← Bool.not_eq_true, List.any_eq_true]
  simp
theorem gangs_ok (t7 : T 7 = some fTake) (t26 : T 26 = some fGangs) {n most : Nat} {h : D} {rs : List D} {ks : List (List D)} {b : List D} (H : House h rs ks) (hrl : rs.length ≤ 5) (hm : most ≤ 50) (hb0 : BoxOk (n + 1 + 5 * most) b) :
    ∃ (gs : List (List D)) (b' : List D), callF T (k + 2) 26 [.cell 0, h, .int most] [b] = .ok (.tup (gs.map .tup)) [b'] ∧ Gangs most rs gs ∧ BoxOk n b' := by
  obtain ⟨rd, hrd, hix⟩ := H.ix0
  have hnm := H.nm
  rw [p_call t26 rfl]
  obtain ⟨r2, b2, e2, hr2, hb2⟩ := cd_take (k := k) t7 (n := n + 5 * most) (m := most + 1) (i := 0) (b := b) (S := [b] ++ [[]]) (by omega) (by omega) rfl (hb0.le (by omega))
  have em : ((most + 1 : Nat) : Int) = (most : Int) + 1 := by omega
  rw [em] at e2
  simp at e2
  simp [fGangs, env0, e2, rngK_n (show r2 ≤ 1000000 by omega)]
  generalize hr : forK _ _ _ _ _ _ _ _ = q
  obtain ⟨env', S', rfl, x4, b3, fs, rfl, rfl, hb3, hl, hfs⟩ := forK_inv hr (fun pre env S => ∃ (x4 : Option D) (b : List D) (fs : List (List D)), env = [some (.cell 0), some h, some (.int most), some (.cell 1), x4, none, none] ∧ S = [b, fs.map .tup] ∧ BoxOk (n + 5 * (most - pre.length)) b ∧ fs.length = pre.length ∧ ∀ x ∈ fs, List.Sublist x rs)
    ⟨none, b2, [], rfl, rfl, hb2.le (by simp), rfl, by simp⟩ (by
    rintro pre d post env S hpd ⟨x4, b, fs, rfl, rfl, hb, hl, hfs⟩
    have hlen : pre.length < r2 := by
      have := congrArg List.length hpd
      simp at this
      omega
    refine ⟨_, rfl, ?_⟩
    simp
    generalize hr : (den _ (E.lc _ _ _ _ _ _)).v _ _ = q
    obtain ⟨ys, S', rfl, ⟨b3, rfl, hb3⟩, sub, s1, s2, s3⟩ := lc_invR (l := rs) (g := none) (S1 := [b, fs.map .tup]) hr (by simp [hix, hrd.iv]) (fun m S => ∃ b, S = [b, fs.map .tup] ∧ BoxOk (n + 5 * (most - (pre.length + 1)) + m) b) (fun x y => y = x) 0
      ⟨b, rfl, hb.le (by omega)⟩ (by
      rintro d hd m S ⟨b, rfl, hb⟩
      obtain ⟨r, b', e, hr, hb'⟩ := cd_take (k := k) t7 (n := n + 5 * (most - (pre.length + 1)) + m) (m := 2) (i := 0) (b := b) (S := [b, fs.map .tup]) (by omega) (by omega) rfl (hb.le (by omega))
      simp at e
      refine ⟨_, decide (r = 0), [b', fs.map .tup], rfl, ?_, fun _ => ⟨⟨b', rfl, hb'⟩, rfl⟩, fun _ => ⟨d, [b', fs.map .tup], by simp [wipeE], ⟨b', rfl, hb'⟩, rfl, rfl⟩⟩
      simp [wipeE, e])
    have hys := pick_sub s1 s2 s3
    simp
    rw [appK_ok (l := fs.map .tup) rfl (by simp; show _ < 16777216; omega)]
    refine ⟨_, _, rfl, rfl, ⟨_, rfl⟩, b3, fs ++ [ys], by simp, by simpa using hb3, by simp [hl], ?_⟩
    intro x hx
    rcases List.mem_append.mp hx with h | h
    · exact hfs x h
    · simp at h; rw [h]; exact hys)
  have hlen : fs.length ≤ most := by simp at hl; omega
  simp
  rw [lc_pure (l := fs.map .tup) (g := some 1) (S1 := [b3, fs.map .tup]) ?hi (fun y => !decide (its y = [])) id ?h]
  case hi => simp
  case h =>
    intro y hy
    obtain ⟨z, hz, rfl⟩ := List.mem_map.mp hy
    refine ⟨_, rfl, ?_, fun _ => by simp [wipeE]⟩
    simp [wipeE, ne_cl (n := 1) (a := .tup z) (b := .tup []) (Cl.tup (hnm.sub (hfs z hz)).cl) (Cl.tup (by simp)) (by omega), its_t]
    exact decide_eq_decide.mpr Iff.rfl
  have hfm : ((fs.map D.tup).filter fun y => !decide (its y = [])).map id = (fs.filter fun z => !decide (z = [])).map .tup := by
    rw [List.map_id, List.filter_map]
    rfl
  rw [hfm]
  have hfl : (fs.filter fun z => !decide (z = [])).length ≤ fs.length := List.length_filter_le ..
  simp [hix, hrd.iv]
  generalize hr : forK _ _ _ _ _ _ _ _ = q
  obtain ⟨env', S', rfl, x4, x5, gl, rfl, rfl, g1, g2, g3, g4⟩ := forK_inv hr (fun pre env S => ∃ (x4 x5 : Option D) (gl : List (List D)), env = [some (.cell 0), some h, some (.int most), some (.cell 2), x4, x5, none] ∧ S = [b3, fs.map .tup, gl.map .tup] ∧ (∀ g ∈ gl, List.Sublist g rs) ∧ (∀ g ∈ gl, g ≠ []) ∧ (∀ x ∈ pre, ∃ g ∈ gl, x ∈ g) ∧ gl.length ≤ most + pre.length)
    ⟨x4, none, fs.filter fun z => !decide (z = []), rfl, rfl, fun g hg => hfs g (List.mem_filter.mp hg).1, fun g hg => by simpa using (List.mem_filter.mp hg).2, by simp, by simp; omega⟩ (by
    rintro pre d post env S hpd ⟨x4, x5, gl, rfl, rfl, g1, g2, g3, g4⟩
    have hd : d ∈ rs := by rw [hpd]; simp
    have hlen : pre.length < 5 := by rw [hpd] at hrl; simp at hrl; omega
    refine ⟨_, rfl, ?_⟩
    simp
    rw [lc_pure (l := gl.map .tup) (g := some 2) (S1 := [b3, fs.map .tup, gl.map .tup]) ?hi3 (fun y => decide (d ∈ its y)) id ?h3]
    case hi3 => simp
    case h3 =>
      intro y hy
      obtain ⟨z, hz, rfl⟩ := List.mem_map.mp hy
      refine ⟨_, rfl, ?_, fun _ => by simp [wipeE]⟩
      have := mem_cl (S := [b3, fs.map .tup, gl.map .tup]) (y := .tup z) (l := z) (.inl rfl) (hnm.cl d hd) (hnm.sub (g1 z hz)).cl (show 0 ≤ 30 by omega)
      try simp at this
      simp [wipeE, this, its_t]
      exact decide_eq_decide.mpr Iff.rfl
    simp only [rb_ok, List.map_id]
    rw [eq_cl (n := 2) (Cl.lst fun y hy => by
      obtain ⟨z, hz, rfl⟩ := List.mem_map.mp (List.mem_filter.mp hy).1
      exact Cl.tup (hnm.sub (g1 z hz)).cl) (Cl.lst (by simp)) (by omega)]
    have hcond : decide (D.lst ((gl.map D.tup).filter fun y => decide (d ∈ its y)) = .lst []) = !gl.any fun z => decide (d ∈ z) := by
      rw [Bool.eq_iff_iff, decide_eq_true_iff, Bool.not_eq_true', ← Bool.not_eq_true]
      rw [show (D.lst ((gl.map D.tup).filter fun y => decide (d ∈ its y)) = .lst []) ↔ ((gl.map D.tup).filter fun y => decide (d ∈ its y)) = [] from ⟨fun h => by injection h, fun h => by rw [h]⟩]
      rw [filter_empty, List.any_map, ← Bool.not_eq_true]
      rfl
    rw [hcond]
    cases hsc : gl.any fun z => decide (d ∈ z) with
    | true =>
      obtain ⟨z, hz, hdz⟩ := List.any_eq_true.mp hsc
      simp
      refine ⟨_, _, ⟨rfl, rfl⟩, stays_none, ⟨_, _, rfl⟩, gl, rfl, g1, g2, ?_, by first | omega | (simp; omega)⟩
      intro x hx
      rcases hx with hx | rfl
      · exact g3 x hx
      · exact ⟨z, hz, by simpa using hdz⟩
    | false =>
      simp
      rw [appK_ok (l := gl.map .tup) rfl (by simp; show _ < 16777216; omega)]
      refine ⟨_, _, rfl, rfl, ⟨_, _, rfl⟩, gl ++ [[d]], by simp, ?_, ?_, ?_, by simp; omega⟩
      · intro g hg
        rcases List.mem_append.mp hg with h | h
        · exact g1 g h
        · simp at h; rw [h]; exact List.singleton_sublist.mpr hd
      · intro g hg
        rcases List.mem_append.mp hg with h | h
        · exact g2 g h
        · simp at h; rw [h]; simp
      · intro x hx
        rcases hx with hx | rfl
        · obtain ⟨g, hg, hxg⟩ := g3 x hx
          exact ⟨g, by simp [hg], hxg⟩
        · exact ⟨[x], by simp, by simp⟩)
  have hgn : ∀ g ∈ gl, Nms g := sub_nms hnm g1
  have hts := tups_ts hgn
  have hls : ((gl.map D.tup).length) < 64 := by simp; omega
  have hmap : ((sset (gl.map D.tup)).map its).map .tup = sset (gl.map D.tup) := by
    rw [List.map_map]
    conv => rhs; rw [← List.map_id (sset (gl.map D.tup))]
    exact List.map_congr_left fun x hx => (tups_mem hgn hx).1.symm
  simp
  rw [un_sset_ts (l := gl.map .tup) rfl hls hts]
  simp
  refine ⟨(sset (gl.map D.tup)).map its, b3, ?_, ⟨?_, ?_, ?_, ?_, ?_⟩, hb3.le (by omega)⟩
  · rw [hmap, fin_v (by simp [hb3.pures]) ?_]
    · rfl
    · exact pures_iff.mpr fun x hx => pures_iff.mp (tups_pures hgn) x ((sset_mem_ts hts).mp hx)
  · intro g hg
    obtain ⟨x, hx, rfl⟩ := List.mem_map.mp hg
    exact g1 _ (tups_mem hgn hx).2
  · intro g hg
    obtain ⟨x, hx, rfl⟩ := List.mem_map.mp hg
    exact g2 _ (tups_mem hgn hx).2
  · intro x hx
    obtain ⟨g, hg, hxg⟩ := g3 x hx
    exact ⟨g, List.mem_map.mpr ⟨.tup g, (sset_mem_ts hts).mpr (List.mem_map.mpr ⟨g, hg, rfl⟩), rfl⟩, hxg⟩
  · have := sset_len (likes_ts hts)
    simp at this
    simp; omega
  · rw [hmap]; exact (sset_ok (likes_ts hts)).2
theorem sets_ok {f : Nat} (hT : T f = some fSets) {a : D} {l : List D} (ha : Sq a l) (hl : l.length ≤ 20) (hp : ∀ d ∈ l, Cl 0 d) (hk : Likes ((allS l).map .tup)) : callF T (k + 1) f [a] [] = .ok (.lst (sorted ((allS l).map .tup))) [] := by
  rw [p_call hT rfl]
  simp [fSets, env0, ha.iv]
  generalize hr : forK _ _ _ _ _ _ _ _ = r
  obtain ⟨env', S', rfl, x2, x3, rfl, rfl⟩ := forK_inv hr (fun pre env S => ∃ x2 x3 : Option D, env = [some a, some (.lst ((allS pre).map .tup)), x2, x3] ∧ S = []) ⟨none, none, rfl, rfl⟩ (by
    rintro pre d post env S hpd ⟨x2, x3, rfl, rfl⟩
    have hpl : pre.length < 20 := by rw [hpd] at hl; simp at hl; omega
    have hpre : ∀ ws ∈ allS pre, ws.length ≤ pre.length := fun ws h => (mem_allS.mp h).length_le
    have h20 : 2 ^ pre.length ≤ 2 ^ 19 := Nat.pow_le_pow_right (by omega) (by omega)
    have hline : line = 16777216 := rfl
    refine ⟨_, rfl, ?_⟩
    simp
    rw [lc_map (l := (allS pre).map .tup) (g := none) (S1 := []) ?hi (fun y => .tup (its y ++ [d])) ?h]
    case hi => simp
    case h =>
      intro y hy
      obtain ⟨ws, hws, rfl⟩ := List.mem_map.mp hy
      refine ⟨_, rfl, ?_⟩
      have := hpre ws hws
      simp [wipeE, its]
      rw [bin_addt (by simp; omega)]
      rfl
    simp
    rw [bin_addl (by simp [allS_len]; omega)]
    simp [allS_snoc, its, stays_none])
  simp
  have hcl : ∀ x ∈ (allS l).map D.tup, Cl 1 x := fun x hx => by
    obtain ⟨ws, hws, rfl⟩ := List.mem_map.mp hx
    exact Cl.tup fun d hd => hp d ((mem_allS.mp hws).subset hd)
  rw [un_sorted (l := (allS l).map .tup) rfl hk fun x hx => ((hcl x hx).up (by omega)).s]
  simp
  rw [fin_v0]
  exact Cl.pures fun x hx => hcl x ((sorted_ok hk).1.mem_iff.mp hx)
theorem mem_sets {l : List D} (hk : Likes ((allS l).map .tup)) {x : D} (hx : x ∈ sorted ((allS l).map .tup)) : x = .tup (its x) ∧ (its x).Sublist l := by
  obtain ⟨ws, hws, rfl⟩ := List.mem_map.mp ((sorted_ok hk).1.mem_iff.mp hx)
  exact ⟨rfl, mem_allS.mp hws⟩
theorem sets_mem {l ws : List D} (hk : Likes ((allS l).map .tup)) (h : ws.Sublist l) : .tup ws ∈ sorted ((allS l).map .tup) :=
  (sorted_ok hk).1.mem_iff.mpr (List.mem_map.mpr ⟨ws, mem_allS.mpr h, rfl⟩)
theorem lrests_ok (h29 : T 29 = some fLRests) {a sm : D} {bs : List (List D)} {ms : List D} (ha : Rws a bs) (hs : Sq sm ms) (hm : Nms ms) : callF T (k + 1) 29 [a, sm] [] = .ok (.lst ((restL bs ms).map .tup)) [] := by
  obtain ⟨l, q1, q2, q3⟩ := ha.ex
  have hx : ∀ x ∈ l, Sq x (its x) ∧ Nms (its x) := fun x hx => ⟨q2 x hx, ha.nm _ (by rw [← q3]; exact List.mem_map.mpr ⟨x, hx, rfl⟩)⟩
  rw [p_call h29 rfl]
  simp [fLRests, env0]
  rw [lc_map (l := l) (g := none) (S1 := []) ?hi (fun x => .tup (less (its x) ms)) ?h]
  case hi => simp [q1.iv]
  case h =>
    intro x hxl
    obtain ⟨a1, a2⟩ := hx x hxl
    refine ⟨_, rfl, ?_⟩
    simp [wipeE]
    rw [lc_pure (l := its x) (g := none) (S1 := []) ?hi2 (fun d => !decide (d ∈ ms)) id ?h2]
    case hi2 => simp [a1.iv]
    case h2 => exact fun z hz => ⟨_, rfl, by simp [wipeE, nmem_cl hs (a2.cl z hz) hm.cl (show 0 ≤ 30 by omega)], fun _ => by simp [wipeE]⟩
    simp [less]
  simp
  rw [lc_pure (l := l.map fun x => .tup (less (its x) ms)) (g := none) (S1 := []) ?hi3 (fun y => !decide (its y = [])) id ?h3]
  case hi3 => simp
  case h3 =>
    intro y hy
    obtain ⟨z, hz, rfl⟩ := List.mem_map.mp hy
    refine ⟨_, rfl, ?_, fun _ => by simp [wipeE]⟩
    simp [wipeE, ne_cl (n := 1) (a := .tup (less (its z) ms)) (b := .tup []) (Cl.tup (hx z hz).2.less.cl) (Cl.tup (by simp)) (by omega), its_t]
    exact decide_eq_decide.mpr Iff.rfl
  have hl : ((l.map fun x => D.tup (less (its x) ms)).filter fun y => !decide (its y = [])).map id = (restL bs ms).map .tup := by
    unfold restL
    rw [List.map_id, ← q3, List.map_map, List.filter_map, List.filter_map, List.map_map]
    rfl
  rw [hl]
  simp
  exact fin_v0 (tups_pures (restL_nms ha.nm))
/-- whether these open all these spots -/
def holdsB (ks : List (List D)) (ms : List D) (is : List Nat) : Bool := is.all fun i => ms.any fun n => decide (n ∈ keyAt ks i)
theorem holds_ok (h39 : T 39 = some fHolds) {h sm sp : D} {rs : List D} {ks : List (List D)} {ms : List D} {is : List Nat} (H : House h rs ks) (hs : Sq sm ms) (hm : Nms ms) (hp : Sq sp (intsD is)) (hi : ∀ i ∈ is, i < ks.length) :
    callF T (k + 1) 39 [h, sm, sp] [] = .ok (.bl (holdsB ks ms is)) [] := by
  obtain ⟨kd, hk, hix⟩ := H.ix1
  obtain ⟨kl, q1, q2, q3⟩ := hk.ex
  have hlen : ks.length = kl.length := by rw [← q3]; simp
  have hka : ∀ i (hi : i < kl.length), its kl[i] = keyAt ks i ∧ Sq kl[i] (keyAt ks i) ∧ Nms (keyAt ks i) := fun i hi => by
    have hmem : its kl[i] ∈ ks := by rw [← q3]; exact List.mem_map.mpr ⟨_, List.getElem_mem hi, rfl⟩
    have e : its kl[i] = keyAt ks i := by
      unfold keyAt
      rw [← q3]
      simp [hi]
    rw [← e]
    exact ⟨rfl, q2 _ (List.getElem_mem hi), hk.nm _ hmem⟩
  have hix2 : ∀ (S : Store) (i : Nat) (hi : i < kl.length), ixD S kd i = some kl[i] := fun S i hi => by
    have e : kl[i]? = some kl[i] := by simp [hi]
    rcases q1 with rfl | rfl
    · exact ix_tup e
    · exact ix_lst e
  rw [p_call h39 rfl]
  simp [fHolds, env0, hp.iv]
  generalize hr : forK _ _ _ _ _ _ _ _ = q
  have := forK_look hr (fun env => ∃ x3, env = [some h, some sm, some sp, x3, none]) (fun d => match d with | .int i => !(ms.any fun n => decide (n ∈ keyAt ks i.toNat)) | _ => false) (fun _ => .bl false) ⟨_, rfl⟩ (by
    rintro d hd env ⟨x3, rfl⟩
    obtain ⟨i, hi', rfl⟩ := List.mem_map.mp hd
    have hik : i < kl.length := by have := hi i hi'; omega
    obtain ⟨a1, a2, a3⟩ := hka i hik
    have key : (den (callF T k) (E.bin Op.eq (E.lc [4] false [4] (E.var 1) (E.bin (Op.mem) (E.var 4) (E.bin (Op.ix) (E.bin (Op.ix) (E.var 0) (E.lit (D.int 1))) (E.var 3))) (E.var 4)) (E.lst (E.nil)))).t [some h, some sm, some sp, some (.int i), none] [] = .ok (!(ms.any fun n => decide (n ∈ keyAt ks i))) [] := by
      simp
      rw [lc_pure (l := ms) (g := none) (S1 := []) ?hi (fun n => decide (n ∈ keyAt ks i)) id ?h]
      case hi => simp [hs.iv]
      case h =>
        intro n hn
        refine ⟨_, rfl, ?_, fun _ => by simp [wipeE]⟩
        have := mem_cl (S := []) a2 (hm.cl n hn) a3.cl (show 0 ≤ 30 by omega)
        try simp at this
        simp [wipeE, hix, hix2 _ i hik, this]
      simp only [rb_ok, List.map_id]
      rw [eq_cl (n := 1) (Cl.lst fun y hy => hm.cl y (List.mem_filter.mp hy).1) (Cl.lst (by simp)) (by omega)]
      have hcond : decide (D.lst (ms.filter fun n => decide (n ∈ keyAt ks i)) = .lst []) = !ms.any fun n => decide (n ∈ keyAt ks i) := by
        rw [Bool.eq_iff_iff, decide_eq_true_iff, Bool.not_eq_true', ← filter_empty]
        exact ⟨fun h => by injection h, fun h => by rw [h]⟩
      rw [hcond]
      rfl
    refine ⟨[some h, some sm, some sp, some (.int i), none], rfl, ?_, ?_⟩
    · intro hq
      simp only [Int.toNat_natCast] at hq
      rw [s_seq_ite, key, hq]
      simp
    · intro hq
      simp only [Int.toNat_natCast] at hq
      rw [s_seq_ite, key, hq]
      simp)
  have hb : holdsB ks ms is = ((intsD is).find? fun d => match d with | .int i => !(ms.any fun n => decide (n ∈ keyAt ks i.toNat)) | _ => false).isNone := by
    rw [Bool.eq_iff_iff]
    simp [holdsB, intsD]
  rcases this with ⟨d, hf, rfl⟩ | ⟨hf, env', rfl, x3, rfl⟩
  · rw [hb, hf]
    simp
    exact fin_v0 rfl
  · rw [hb, hf]
    simp
    exact fin_v0 rfl
end
end LK
set_option autoImplicit false
set_option linter.all false
set_option maxRecDepth 100000
set_option maxHeartbeats 4000000
/-! LP11: facts on houses. -/
namespace LK
open PySem
theorem House.key {h : D} {rs : List D} {ks : List (List D)} (H : House h rs ks) : ∃ kd, kd.pure = true ∧ (∀ S, ixD S h 1 = some kd) ∧ (∀ S, unD S .len kd = some (.int ks.length)) ∧ ∀ i, i < ks.length → ∃ d, (∀ S, ixD S kd i = some d) ∧ Sq d (keyAt ks i) ∧ Nms (keyAt ks i) := by
  obtain ⟨kd, hk, hix⟩ := H.ix1
  obtain ⟨kl, q1, q2, q3⟩ := hk.ex
  have hlen : ks.length = kl.length := by rw [← q3]; simp
  refine ⟨kd, hk.pure, hix, fun S => by rw [q1.len, hlen], fun i hi' => ?_⟩
  have hi : i < kl.length := by omega
  have hmem : its kl[i] ∈ ks := by rw [← q3]; exact List.mem_map.mpr ⟨_, List.getElem_mem hi, rfl⟩
  have e : its kl[i] = keyAt ks i := by
    unfold keyAt
    rw [← q3]
    simp [hi]
  refine ⟨kl[i], fun S => ?_, ?_, ?_⟩
  · have e : kl[i]? = some kl[i] := by simp [hi]
    rcases q1 with rfl | rfl
    · exact ix_tup e
    · exact ix_lst e
  · rw [← e]; exact q2 _ (List.getElem_mem hi)
  · rw [← e]; exact hk.nm _ hmem
theorem nums_ints (n : Nat) : nums 0 n = intsD (List.range n) := nums_eq n
theorem sub_ints {l : List Nat} {ws : List D} (h : ws.Sublist (intsD l)) : ∃ is : List Nat, is.Sublist l ∧ ws = intsD is := by
  obtain ⟨is, h1, h2⟩ := List.sublist_map_iff.mp h
  exact ⟨is, h1, h2⟩
def nats : D → List Nat
  | .tup l => l.map fun d => match d with | .int i => i.toNat | _ => 0
  | _ => []
theorem nats_ints (is : List Nat) : nats (.tup (intsD is)) = is := by
  show ((is.map fun i : Nat => D.int i).map fun d => match d with | .int i => i.toNat | _ => 0) = is
  rw [List.map_map]
  exact List.map_id is
theorem held_lt {ks : List (List D)} {ms : List D} : ∀ i ∈ held ks ms, i < ks.length := fun i hi => List.mem_range.mp (List.mem_filter.mp hi).1
theorem mem_held {ks : List (List D)} {ms : List D} {i : Nat} : i ∈ held ks ms ↔ i < ks.length ∧ ∃ n ∈ ms, n ∈ keyAt ks i := by
  unfold held
  simp
theorem subs_held {ks : List (List D)} {ms : List D} {is : List Nat} (hi : ∀ i ∈ is, i < ks.length) : subs (intsD is) (intsD (held ks ms)) = holdsB ks ms is := by
  rw [Bool.eq_iff_iff, subs_iff]
  unfold holdsB
  rw [List.all_eq_true]
  constructor
  · intro h i hm
    have := intsD_mem.mp (h _ (intsD_mem.mpr hm))
    obtain ⟨_, n, hn, hk⟩ := mem_held.mp this
    exact List.any_eq_true.mpr ⟨n, hn, by simpa using hk⟩
  · intro h d hd
    obtain ⟨i, hm, rfl⟩ := List.mem_map.mp hd
    obtain ⟨n, hn, hk⟩ := List.any_eq_true.mp (h i hm)
    exact intsD_mem.mpr (mem_held.mpr ⟨hi i hm, n, hn, by simpa using hk⟩)
theorem barB_holds {ks bs : List (List D)} {ms : List D} {x : D} : barB ks bs ms x = (restL bs ms).any fun r => holdsB ks r (held ks [x]) := by
  unfold barB
  congr 1
  funext r
  exact subs_held held_lt
theorem likes_names {l : List D} (h : Nms l) : Likes ((allS l).map .tup) := likes_ts (tups_ts fun r hr => h.sub (mem_allS.mp hr))
theorem likes_ints {n : Nat} : Likes ((allS (nums 0 n)).map .tup) := by
  refine likes_ti (List.all_eq_true.mpr fun x hx => ?_)
  obtain ⟨ws, hws, rfl⟩ := List.mem_map.mp hx
  show ws.all isI = true
  rw [List.all_eq_true]
  intro d hd
  obtain ⟨i, _, rfl⟩ := nums_mem ((mem_allS.mp hws).subset hd)
  rfl
theorem lst_nil {l : List D} : decide (D.lst l = .lst []) = decide (l = []) := by
  rw [Bool.eq_iff_iff]
  simp
theorem dec_filter {α : Type} [DecidableEq α] {p : α → Bool} {l : List α} : decide (l.filter p = []) = !l.any p := by
  rw [Bool.eq_iff_iff, decide_eq_true_iff, filter_empty]
  simp
/-- some lock that this one opens and no rest does -/
def metB (ks bs : List (List D)) (ms : List D) (x : D) : Bool := (sorted ((allS (nums 0 ks.length)).map .tup)).any fun d => holdsB ks [x] (nats d) && !((restL bs ms).any fun r => holdsB ks r (nats d))
theorem met_bar {ks bs : List (List D)} {ms : List D} {x : D} : metB ks bs ms x = !barB ks bs ms x := by
  rw [barB_holds, Bool.eq_iff_iff]
  unfold metB
  rw [List.any_eq_true]
  simp only [Bool.and_eq_true, Bool.not_eq_true']
  constructor
  · rintro ⟨d, hd, h1, h2⟩
    obtain ⟨e1, e2⟩ := mem_sets likes_ints hd
    rw [nums_ints] at e2
    obtain ⟨is, q1, q2⟩ := sub_ints e2
    rw [e1, q2, nats_ints] at h1 h2
    rw [← Bool.not_eq_true] at h2 ⊢
    intro h3
    apply h2
    obtain ⟨r, hr, h4⟩ := List.any_eq_true.mp h3
    refine List.any_eq_true.mpr ⟨r, hr, ?_⟩
    unfold holdsB at h4 h1 ⊢
    rw [List.all_eq_true] at h4 h1 ⊢
    intro i hi
    obtain ⟨n, hn, hk⟩ := List.any_eq_true.mp (h1 i hi)
    exact h4 i (mem_held.mpr ⟨List.mem_range.mp (q1.subset hi), n, hn, by simpa using hk⟩)
  · intro h
    refine ⟨.tup (intsD (held ks [x])), sets_mem likes_ints ?_, ?_, ?_⟩
    · rw [nums_ints]
      exact List.Sublist.map _ List.filter_sublist
    · rw [nats_ints]
      unfold holdsB
      rw [List.all_eq_true]
      intro i hi
      obtain ⟨_, n, hn, hk⟩ := mem_held.mp hi
      exact List.any_eq_true.mpr ⟨n, hn, by simpa using hk⟩
    · rw [nats_ints]; exact h
end LK
set_option autoImplicit false
set_option linter.all false
set_option maxRecDepth 100000
set_option maxHeartbeats 4000000
/-! LP12: two-for comprehensions; while; rounds. -/
namespace LK
open PySem
section
variable {C : Call} {env : Env} {S S1 : Store}
theorem lcRun2_pure {bnd : D → Option Env} {c : Env → Store → Res Bool} {x : Env → Store → Res (List D)} {g : Option Nat} (G : D → List D) : ∀ (l : List D), (∀ d ∈ l, ∃ e, bnd d = some e ∧ c e S = .ok true S ∧ x e S = .ok (G d) S) → (l.flatMap G).length ≤ line → lcRun2 bnd c x g l S = .ok (l.flatMap G) S
  | [], _, _ => rfl
  | d :: r, h, hl => by
    obtain ⟨e, h1, h2, h3⟩ := h d List.mem_cons_self
    have hr : (r.flatMap G).length ≤ line := by
      rw [List.flatMap_cons, List.length_append] at hl
      omega
    have ih := lcRun2_pure (c := c) (x := x) (g := g) (bnd := bnd) G r (fun d hd => h d (List.mem_cons_of_mem _ hd)) hr
    simp only [lcRun2]
    rw [h1]
    show (c e S).bind _ = _
    rw [h2]
    show (if true = true then (x e S).bind _ else _) = _
    rw [if_pos rfl, h3]
    show (if stays g S S = true then _ else _) = _
    rw [if_pos stays_same, ih]
    show Res.of S (okLen (G d ++ r.flatMap G)) = _
    rw [okLen_le (by rw [List.flatMap_cons] at hl; exact hl)]
    rfl
theorem lc2_flat {own tg tg1 : List Nat} {tp tp1 : Bool} {src c src1 c1 x : E} {l : List D} {g : Option Nat} (hi : (den C src).i env S = .ok (l, g) S1) (G : D → List D)
    (h : ∀ d ∈ l, ∃ e l1 g1, bindT tp tg (wipeE env own) d = some e ∧ (den C c).t e S1 = .ok true S1 ∧ (den C src1).i e S1 = .ok (l1, g1) S1 ∧ lcRun (bindT tp1 tg1 (wipeE e tg1)) (fun e S => ((den C c1).t e S).calm) (fun e S => ((den C x).v e S).calm) g1 l1 S1 = .ok (G d) S1) (hl : (l.flatMap G).length ≤ line) :
    (den C (.lc2 own tp tg src c tp1 tg1 src1 c1 x)).v env S = .ok (.lst (l.flatMap G)) S1 := by
  show ((den C src).i env S).bind _ = _
  rw [hi]
  show (lcRun2 _ _ _ g l S1).bind _ = _
  rw [lcRun2_pure G l (fun d hd => ?_) hl]
  obtain ⟨e, l1, g1, h1, h2, h3, h4⟩ := h d hd
  refine ⟨e, h1, by rw [h2]; rfl, ?_⟩
  rw [h3]
  exact h4
end
/-! ### rounds of those who must go out -/
def gn (ks bs : List (List D)) (left : List D) : List D := left.filter (barB ks bs left)
def rnd (ks bs : List (List D)) : Nat → List D → List (List D) → List (List D) × List D
  | 0, left, acc => (acc, left)
  | n + 1, left, acc => if gn ks bs left = [] then (acc, left) else rnd ks bs n (less left (gn ks bs left)) (acc ++ [gn ks bs left])
theorem less_lt {ks bs : List (List D)} {left : List D} (h : gn ks bs left ≠ []) : (less left (gn ks bs left)).length < left.length := by
  obtain ⟨x, hx⟩ := List.exists_mem_of_ne_nil _ h
  have hxl := (List.mem_filter.mp hx).1
  unfold less
  refine Nat.lt_of_le_of_ne (List.length_filter_le ..) fun e => ?_
  have := (List.length_filter_eq_length_iff.mp e) x hxl
  simp [hx] at this
theorem while_rnd {ks bs : List (List D)} {c : Env → Store → Res Bool} {body : Env → Store → SR} (J : List D → List (List D) → Env → Store → Prop)
    (h : ∀ left acc e S, J left acc e S → c e S = .ok (!decide (gn ks bs left = [])) S ∧ (gn ks bs left ≠ [] → ∃ e' S', body e S = .nx e' S' ∧ J (less left (gn ks bs left)) (acc ++ [gn ks bs left]) e' S')) :
    ∀ (n : Nat) (left : List D) (acc : List (List D)) (e : Env) (S : Store) (m : Nat), left.length ≤ n → n ≤ m → J left acc e S → ∃ e' S', whileRun c body (m + 1) e S = .nx e' S' ∧ J (rnd ks bs n left acc).2 (rnd ks bs n left acc).1 e' S'
  | 0, left, acc, e, S, m, hl, hm, hJ => by
    have h0 : left = [] := List.length_eq_zero_iff.mp (by omega)
    have hg : gn ks bs left = [] := by rw [h0]; rfl
    refine ⟨e, S, ?_, hJ⟩
    have := (h left acc e S hJ).1
    simp only [whileRun]
    rw [this, hg]
    rfl
  | n + 1, left, acc, e, S, m, hl, hm, hJ => by
    obtain ⟨q1, q2⟩ := h left acc e S hJ
    simp only [rnd, whileRun]
    rw [q1]
    by_cases hg : gn ks bs left = []
    · rw [if_pos hg, hg]
      exact ⟨e, S, rfl, hJ⟩
    · rw [if_neg hg]
      obtain ⟨e', S', b1, b2⟩ := q2 hg
      obtain ⟨m', rfl⟩ : ∃ m', m = m' + 1 := ⟨m - 1, by omega⟩
      have hlt := less_lt hg
      obtain ⟨e2, S2, w1, w2⟩ := while_rnd J h n _ _ e' S' m' (by omega) (by omega) b2
      refine ⟨e2, S2, ?_, w2⟩
      show (if (!decide (gn ks bs left = [])) = true then (body e S).bind _ else _) = _
      rw [if_pos (by simp [hg]), b1]
      exact w1
/-- how the rounds end -/
theorem rnd_end {ks bs : List (List D)} : ∀ (n : Nat) (left : List D) (acc : List (List D)), left.length ≤ n → gn ks bs (rnd ks bs n left acc).2 = []
  | 0, left, acc, h => by
    have h0 : left = [] := List.length_eq_zero_iff.mp (by omega)
    rw [h0]; rfl
  | n + 1, left, acc, h => by
    simp only [rnd]
    split
    · rename_i hg; exact hg
    · rename_i hg
      exact rnd_end n _ _ (by have := less_lt hg; omega)
theorem rnd_sub {ks bs : List (List D)} : ∀ (n : Nat) (left : List D) (acc : List (List D)), (rnd ks bs n left acc).2.Sublist left
  | 0, left, acc => List.Sublist.refl _
  | n + 1, left, acc => by
    simp only [rnd]
    split
    · exact List.Sublist.refl _
    · exact (rnd_sub n _ _).trans List.filter_sublist
theorem rnd_len {ks bs : List (List D)} : ∀ (n : Nat) (left : List D) (acc : List (List D)), (rnd ks bs n left acc).1.length ≤ acc.length + n
  | 0, left, acc => Nat.le_refl _
  | n + 1, left, acc => by
    simp only [rnd]
    split
    · simp
    · have := rnd_len (ks := ks) (bs := bs) n (less left (gn ks bs left)) (acc ++ [gn ks bs left])
      simp at this
      omega
theorem rnd_rows {ks bs : List (List D)} {top : List D} : ∀ (n : Nat) (left : List D) (acc : List (List D)), left.Sublist top → (∀ r ∈ acc, List.Sublist r top) → ∀ r ∈ (rnd ks bs n left acc).1, List.Sublist r top
  | 0, left, acc, _, h => h
  | n + 1, left, acc, hl, h => by
    simp only [rnd]
    split
    · exact h
    · refine rnd_rows n _ _ (List.Sublist.trans List.filter_sublist hl) fun r hr => ?_
      rcases List.mem_append.mp hr with q | q
      · exact h r q
      · simp at q; rw [q]; exact List.Sublist.trans List.filter_sublist hl
/-- what is left is what did not go -/
theorem rnd_less {ks bs : List (List D)} {ms : List D} : ∀ (n : Nat) (left : List D) (acc : List (List D)), left = less ms acc.flatten → (rnd ks bs n left acc).2 = less ms (rnd ks bs n left acc).1.flatten
  | 0, left, acc, h => h
  | n + 1, left, acc, h => by
    simp only [rnd]
    split
    · exact h
    · refine rnd_less n _ _ ?_
      generalize gn ks bs left = G
      rw [List.flatten_append]
      conv => lhs; rw [h]
      unfold less
      rw [List.filter_filter]
      refine List.filter_congr fun x hx => ?_
      rw [Bool.eq_iff_iff]
      simp
      constructor
      · rintro ⟨a, b⟩; exact ⟨b, a⟩
      · rintro ⟨a, b⟩; exact ⟨b, a⟩
/-- a safe set within stays within -/
theorem bar_mono {ks bs : List (List D)} {own left : List D} {x : D} (hs : ∀ d ∈ own, d ∈ left) (h : barB ks bs left x = true) : barB ks bs own x = true := by
  unfold barB at h ⊢
  obtain ⟨r, hr, q⟩ := List.any_eq_true.mp h
  obtain ⟨hr1, hr2⟩ := List.mem_filter.mp hr
  obtain ⟨b, hb, rfl⟩ := List.mem_map.mp hr1
  have hsub : ∀ d ∈ less b left, d ∈ less b own := fun d hd => by
    obtain ⟨h1, h2⟩ := List.mem_filter.mp hd
    refine List.mem_filter.mpr ⟨h1, ?_⟩
    simp at h2 ⊢
    exact fun h => h2 (hs d h)
  refine List.any_eq_true.mpr ⟨less b own, List.mem_filter.mpr ⟨List.mem_map.mpr ⟨b, hb, rfl⟩, ?_⟩, ?_⟩
  · simp at hr2 ⊢
    obtain ⟨d, hd⟩ := List.exists_mem_of_ne_nil _ hr2
    exact List.ne_nil_of_mem (hsub d hd)
  · refine subs_iff.mpr fun d hd => ?_
    obtain ⟨i, hi, rfl⟩ := List.mem_map.mp (subs_iff.mp q d hd)
    obtain ⟨q1, n, hn, hk⟩ := mem_held.mp hi
    exact intsD_mem.mpr (mem_held.mpr ⟨q1, n, hsub n hn, hk⟩)
theorem rnd_max {ks bs : List (List D)} {own : List D} (hsafe : gn ks bs own = []) : ∀ (n : Nat) (left : List D) (acc : List (List D)), (∀ d ∈ own, d ∈ left) → ∀ d ∈ own, d ∈ (rnd ks bs n left acc).2
  | 0, left, acc, h => h
  | n + 1, left, acc, h => by
    simp only [rnd]
    split
    · exact h
    · refine rnd_max hsafe n _ _ fun d hd => List.mem_filter.mpr ⟨h d hd, ?_⟩
      simp
      intro hg
      have hb := bar_mono h (List.mem_filter.mp hg).2
      have : d ∈ gn ks bs own := List.mem_filter.mpr ⟨hd, hb⟩
      rw [hsafe] at this
      cases this
theorem allS_nodup : ∀ (l : List D), l.Nodup → (allS l).Nodup := by
  have go : ∀ (n : Nat) (l : List D), l.length = n → l.Nodup → (allS l).Nodup := by
    intro n
    induction n with
    | zero =>
      intro l h _
      rw [List.length_eq_zero_iff.mp h]
      decide
    | succ n ih =>
      intro l h hn
      have hne : l ≠ [] := fun e => by rw [e] at h; cases h
      obtain ⟨a, x, rfl⟩ : ∃ a x, l = a ++ [x] := ⟨l.dropLast, l.getLast hne, (List.dropLast_concat_getLast hne).symm⟩
      rw [allS_snoc]
      have hn2 := List.nodup_append.mp hn
      have ha := ih a (by simp at h; omega) hn2.1
      refine List.nodup_append.mpr ⟨ha, ?_, ?_⟩
      · refine List.pairwise_map.mpr (List.Pairwise.imp ?_ ha)
        intro p q hpq e
        exact hpq (List.append_cancel_right e)
      · intro p hp q hq e
        obtain ⟨r, hr, rfl⟩ := List.mem_map.mp hq
        have : x ∈ p := by rw [e]; simp
        exact hn2.2.2 x ((mem_allS.mp hp).subset this) x (by simp) rfl
  exact fun l h => go l.length l rfl h
end LK
set_option maxRecDepth 100000
namespace Lk60
open LK PySem
def isOk : Res D → D → Bool
  | .ok d [], e => decide (d = e)
  | _, _ => false
theorem of_isOk {r : Res D} {e : D} (h : isOk r e = true) : r = .ok e [] := by
  unfold isOk at h
  split at h
  · rw [of_decide_eq_true h]
  · cases h
theorem hand : callF T 13 15 [] [] = .ok (.bl true) [] := of_isOk (by decide +kernel)
end Lk60
set_option Elab.async false
set_option linter.all false
set_option autoImplicit false
set_option maxRecDepth 100000
set_option maxHeartbeats 4000000
/-! K60: the plain law. -/
namespace Lk60
open LK PySem
theorem t1 : T 1 = some fTupled := rfl
theorem t2 : T 2 = some fUnlike := rfl
theorem t6 : T 6 = some (fBox 1057460) := rfl
theorem t7 : T 7 = some fTake := rfl
theorem t8 : T 8 = some fCells := rfl
theorem t9 : T 9 = some fSame := rfl
theorem t10 : T 10 = some fLists := rfl
theorem t19 : T 19 = some fSetOf := rfl
theorem t34 : T 34 = some fHeldBy := rfl
theorem t21 : T 21 = some fRests := rfl
theorem t35 : T 35 = some fBarred := rfl
theorem t36 : T 36 = some fCan := rfl
theorem t37 : T 37 = some fHall := rfl
theorem t26 : T 26 = some fGangs := rfl
theorem t38 : T 38 = some fSets := rfl
theorem t29 : T 29 = some fLRests := rfl
theorem t39 : T 39 = some fHolds := rfl
section
variable {k : Nat}
theorem c39 {h sm sp : D} {rs : List D} {ks : List (List D)} {ms : List D} {is : List Nat} (H : House h rs ks) (hs : Sq sm ms) (hm : Nms ms) (hp : Sq sp (intsD is)) (hi : ∀ i ∈ is, i < ks.length) (S : Store) :
    callD (callF T (k + 1)) 39 [false, false, false] [h, sm, sp] S = .ok (.bl (holdsB ks ms is)) S :=
  cd_plain rfl rfl (by simp [D.pures, H.pure, hs.pure hm.pures, hp.pure intsD_pures]) (holds_ok t39 H hs hm hp hi)
theorem c29 {a sm : D} {bs : List (List D)} {ms : List D} (ha : Rws a bs) (hs : Sq sm ms) (hm : Nms ms) (S : Store) : callD (callF T (k + 1)) 29 [false, false] [a, sm] S = .ok (.lst ((restL bs ms).map .tup)) S :=
  cd_plain rfl rfl (by simp [D.pures, ha.pure, hs.pure hm.pures]) (lrests_ok t29 ha hs hm)
theorem isbar_ok {h a sm x : D} {rs : List D} {ks bs : List (List D)} {ms : List D} (H : House h rs ks) (hkl : ks.length ≤ 1000) (ha : Rws a bs) (hs : Sq sm ms) (hm : Nms ms) (hx : isS x = true) :
    callF T (k + 2) 40 [h, a, sm, x] [] = .ok (.bl (barB ks bs ms x)) [] := by
  obtain ⟨kd, hkp, hix, hlen, hkey⟩ := H.key
  have hx1 : Nms [x] := fun y hy => by simp at hy; rw [hy]; exact hx
  rw [p_call (T := T) (f := 40) (fn := f24) rfl rfl]
  simp [f24, env0]
  rw [lc_pure (l := nums 0 ks.length) (g := none) (S1 := []) ?hi (fun d => match d with | .int i => decide (x ∈ keyAt ks i.toNat) | _ => false) id ?h]
  case hi => simp [hix, hlen, rngK_n (show ks.length ≤ 1000000 by omega)]
  case h =>
    intro d hd
    obtain ⟨i, hi, rfl⟩ := nums_mem hd
    obtain ⟨d, e1, e2, e3⟩ := hkey i hi
    refine ⟨_, rfl, ?_, fun _ => by simp [wipeE]⟩
    have := mem_cl (S := []) e2 (hx1.cl x (by simp)) e3.cl (show 0 ≤ 30 by omega)
    try simp at this
    simp [wipeE, hix, e1, this]
  have hmine : ((nums 0 ks.length).filter fun d => match d with | .int i => decide (x ∈ keyAt ks i.toNat) | _ => false).map id = intsD (held ks [x]) := by
    rw [List.map_id, nums_ints]
    unfold intsD held
    rw [List.filter_map]
    congr 2
    funext i
    simp
  rw [hmine]
  simp
  rw [lc_pure (l := (restL bs ms).map .tup) (g := none) (S1 := []) ?hi2 (fun y => holdsB ks (its y) (held ks [x])) id ?h2]
  case hi2 => simp [c29 ha hs hm]
  case h2 =>
    intro y hy
    obtain ⟨r, hr, rfl⟩ := List.mem_map.mp hy
    refine ⟨_, rfl, ?_, fun _ => by simp [wipeE]⟩
    simp [wipeE, c39 H (sm := .tup r) .t (restL_nms ha.nm r hr) (sp := .lst (intsD (held ks [x]))) .l held_lt, its_t]
  simp only [rb_ok, List.map_id]
  rw [ne_cl (n := 2) (Cl.lst fun y hy => by
    obtain ⟨r, hr, rfl⟩ := List.mem_map.mp (List.mem_filter.mp hy).1
    exact Cl.tup (restL_nms ha.nm r hr).cl) (Cl.lst (by simp)) (by omega)]
  rw [lst_nil, dec_filter, Bool.not_not, List.any_map]
  simp
  rw [fin_v0 rfl, barB_holds]
  rfl

theorem c40 {h a sm x : D} {rs : List D} {ks bs : List (List D)} {ms : List D} (H : House h rs ks) (hkl : ks.length ≤ 20) (ha : Rws a bs) (hs : Sq sm ms) (hm : Nms ms) (hx : isS x = true) (S : Store) :
    callD (callF T (k + 2)) 40 [false, false, false, false] [h, a, sm, x] S = .ok (.bl (barB ks bs ms x)) S := by
  obtain ⟨s, rfl⟩ := isS_iff.mp hx
  exact cd_plain rfl rfl (by simp [D.pures, D.pure, H.pure, ha.pure, hs.pure hm.pures]) (isbar_ok H (by omega) ha hs hm hx)
theorem safe_ok {h a sm : D} {rs : List D} {ks bs : List (List D)} {ms : List D} (H : House h rs ks) (hkl : ks.length ≤ 20) (ha : Rws a bs) (hs : Sq sm ms) (hm : Nms ms) : callF T (k + 3) 62 [h, a, sm] [] = .ok (.bl (decide (gn ks bs ms = []))) [] := by
  rw [p_call (T := T) (f := 62) (fn := f25) rfl rfl]
  simp [f25, env0]
  rw [lc_pure (l := ms) (g := none) (S1 := []) ?hi (barB ks bs ms) id ?h]
  case hi => simp [hs.iv]
  case h => exact fun x hx => ⟨_, rfl, by simp [wipeE, c40 H hkl ha hs hm (hm x hx)], fun _ => by simp [wipeE]⟩
  simp only [rb_ok, List.map_id]
  rw [eq_cl (n := 1) (Cl.lst fun y hy => hm.cl y (List.mem_filter.mp hy).1) (Cl.lst (by simp)) (by omega), lst_nil]
  exact fin_v0 rfl
theorem bar_less {ks bs : List (List D)} {ms : List D} : ms.filter (fun d => !decide (d ∈ gn ks bs ms)) = less ms (gn ks bs ms) := rfl
def J63 (h a sm : D) (top : List D) (left : List D) (acc : List (List D)) (e : LK.Env) (S : Store) : Prop := ∃ x5 : Option D, e = [some h, some a, some sm, some (.cell 0), some (.tup left), x5, none] ∧ S = [acc.map .tup] ∧ left.Sublist top ∧ acc.length + left.length ≤ 1000
theorem rounds_ok {h a : D} {rs : List D} {ks bs : List (List D)} {ms : List D} (H : House h rs ks) (hkl : ks.length ≤ 20) (ha : Rws a bs) (hm : Nms ms) (hml : ms.length ≤ 1000) : callF T (k + 4) 63 [h, a, .tup ms] [] = .ok (.lst [.tup ((rnd ks bs ms.length ms []).1.map .tup), .tup (rnd ks bs ms.length ms []).2]) [] := by
  have c62 : ∀ {l : List D}, Nms l → ∀ S : Store, callD (callF T (k + 3)) 62 [false, false, false] [h, a, .tup l] S = .ok (.bl (decide (gn ks bs l = []))) S := fun hl S =>
    cd_plain rfl rfl (by simp [D.pures, D.pure, H.pure, ha.pure, hl.pures]) (safe_ok H hkl ha .t hl)
  rw [p_call (T := T) (f := 63) (fn := f27) rfl rfl]
  simp [f27, env0, puts]
  generalize hw : whileRun _ _ _ _ _ = q
  obtain ⟨e', S', w1, x5, rfl, rfl, hl1, hl2⟩ := while_rnd (ks := ks) (bs := bs) (c := (den (callF T (k + 3)) (E.not (E.call 62 [false, false, false] [0, 1, 2] (E.cons (E.var 0) (E.cons (E.var 1) (E.cons (E.var 4) E.nil))) E.nil))).t) (body := sden (callF T (k + 3)) (LK.S.seq (LK.S.asg 5 (E.un (Un.tuple) (E.lc [6] false [6] (E.var 4) (E.call 40 [false, false, false, false] [0, 1, 2, 3] (E.cons (E.var 0) (E.cons (E.var 1) (E.cons (E.var 4) (E.cons (E.var 6) E.nil)))) E.nil) (E.var 6)))) (LK.S.seq (LK.S.app (E.var 3) (E.var 5)) (LK.S.seq (LK.S.asg 4 (E.un (Un.tuple) (E.lc [6] false [6] (E.var 4) (E.bin (Op.nmem) (E.var 6) (E.var 5)) (E.var 6)))) LK.S.skip)))) (J63 h a (.tup ms) ms) (by
    rintro left acc e S ⟨x5, rfl, rfl, hsub, hlen⟩
    have hlm := hm.sub hsub
    have hgm : Nms (gn ks bs left) := fun x hx => hlm x (List.mem_filter.mp hx).1
    refine ⟨by simp [c62 hlm], fun hg => ?_⟩
    simp
    rw [lc_pure (l := left) (g := none) (S1 := [acc.map .tup]) ?hi (barB ks bs left) id ?h]
    case hi => simp
    case h => exact fun x hx => ⟨_, rfl, by simp [wipeE, c40 (k := k + 1) H hkl ha (sm := .tup left) .t hlm (hlm x hx)], fun _ => by simp [wipeE]⟩
    simp only [rb_ok, un_tup_l, of_some, st_ok, List.map_id]
    have hgg : left.filter (barB ks bs left) = gn ks bs left := rfl
    rw [hgg]
    have hlt := less_lt hg
    rw [appK_ok (l := acc.map .tup) rfl (by simp; show _ < 16777216; omega)]
    simp
    rw [lc_pure (l := left) (g := none) (S1 := [acc.map .tup ++ [.tup (gn ks bs left)]]) ?hi2 (fun d => !decide (d ∈ gn ks bs left)) id ?h2]
    case hi2 => simp
    case h2 => exact fun z hz => ⟨_, rfl, by simp [wipeE, nmem_cl (.inl rfl) (hlm.cl z hz) hgm.cl (show 0 ≤ 30 by omega)], fun _ => by simp [wipeE]⟩
    simp only [rb_ok, un_tup_l, of_some, st_ok, List.map_id, bar_less]
    exact ⟨_, _, rfl, _, rfl, by simp, List.Sublist.trans List.filter_sublist hsub, by simp; omega⟩) ms.length ms [] [some h, some a, some (.tup ms), some (.cell 0), some (.tup ms), none, none] [[]] 4095 (Nat.le_refl _) (by omega) ⟨none, rfl, rfl, List.Sublist.refl _, by simpa using hml⟩
  rw [w1] at hw
  subst hw
  have hrows := rnd_rows (ks := ks) (bs := bs) (top := ms) ms.length ms [] (List.Sublist.refl _) (by simp)
  simp
  exact fin_v0 (by simp [D.pure, D.pures, tups_pures (sub_nms hm hrows), (hm.sub hl1).pures])
end
end Lk60
set_option Elab.async false
set_option linter.all false
set_option autoImplicit false
set_option maxRecDepth 100000
set_option maxHeartbeats 4000000
namespace Lk60
open LK PySem
theorem sub_eq : ∀ {l m r : List D}, r.Nodup → l.Sublist r → m.Sublist r → (∀ d ∈ l, d ∈ m) → l.length = m.length → l = m := fun {l m r} hr hl hm hs he => by
  have p : ∀ {l r : List D}, r.Nodup → l.Sublist r → r.filter (fun d => decide (d ∈ l)) = l := by
    intro l r hr h
    induction h with
    | slnil => rfl
    | @cons l r a h ih =>
      have ha : a ∉ l := fun hh => (List.nodup_cons.mp hr).1 (h.subset hh)
      rw [List.filter_cons_of_neg (by simpa using ha)]
      exact ih (List.nodup_cons.mp hr).2
    | @cons_cons l r a h ih =>
      have ha : a ∉ r := (List.nodup_cons.mp hr).1
      rw [List.filter_cons_of_pos (by simp)]
      congr 1
      rw [← ih (List.nodup_cons.mp hr).2]
      refine List.filter_congr fun d hd => ?_
      rw [ih (List.nodup_cons.mp hr).2]
      have : d ≠ a := fun e => ha (e ▸ hd)
      simp [this]
  have hln : l.Nodup := hl.nodup hr
  have hmn : m.Nodup := hm.nodup hr
  have hp : ∀ d, d ∈ l ↔ d ∈ m := fun d => by
    refine ⟨hs d, fun hd => Classical.byContradiction fun hn => ?_⟩
    have : (d :: l).length ≤ m.length := List.Nodup.length_le_of_subset (List.nodup_cons.mpr ⟨hn, hln⟩) (by
      intro z hz
      rcases List.mem_cons.mp hz with rfl | hz
      · exact hd
      · exact hs z hz)
    simp at this
    omega
  rw [← p hr hl, ← p hr hm]
  refine List.filter_congr fun d _ => ?_
  rw [Bool.eq_iff_iff]
  simp [hp d]
theorem filter_one {l : List D} {a : D} (hn : l.Nodup) (ha : a ∈ l) : l.filter (fun x => decide (x = a)) = [a] := by
  induction l with
  | nil => cases ha
  | cons b l ih =>
    have hn2 := List.nodup_cons.mp hn
    by_cases hb : b = a
    · subst hb
      rw [List.filter_cons_of_pos (by simp)]
      congr 1
      rw [List.filter_eq_nil_iff]
      intro x hx
      simp
      rintro rfl
      exact hn2.1 hx
    · rw [List.filter_cons_of_neg (by simpa using hb)]
      rcases List.mem_cons.mp ha with h | h
      · exact absurd h.symm hb
      · exact ih hn2.2 h
def withinL (ks bs : List (List D)) (E : List D) (ws : List D) : List D := (E.filter fun x => decide (gn ks bs (its x) = [])).filter fun x => subs (its x) ws
def mixedL (W ws : List D) : List D := ws.filter fun t => W.any fun x => decide (t ∈ its x)
theorem tops_eq {ks bs : List (List D)} {rs ws E : List D} (hnd : rs.Nodup) (hE : ∀ x, x ∈ E ↔ ∃ s, List.Sublist s rs ∧ x = .tup s) (hEn : E.Nodup) (hws : ws.Sublist rs) :
    (withinL ks bs E ws).filter (fun x => subs (mixedL (withinL ks bs E ws) ws) (its x)) = [.tup (rnd ks bs ws.length ws []).2] := by
  have hls := rnd_sub (ks := ks) (bs := bs) ws.length ws []
  have hle := rnd_end (ks := ks) (bs := bs) ws.length ws [] (Nat.le_refl _)
  have hmax : ∀ own, gn ks bs own = [] → (∀ d ∈ own, d ∈ ws) → ∀ d ∈ own, d ∈ (rnd ks bs ws.length ws []).2 := fun own h1 h2 => rnd_max h1 ws.length ws [] h2
  generalize (rnd ks bs ws.length ws []).2 = left at *
  have hlw : D.tup left ∈ withinL ks bs E ws := List.mem_filter.mpr ⟨List.mem_filter.mpr ⟨(hE _).mpr ⟨left, hls.trans hws, rfl⟩, decide_eq_true hle⟩, subs_iff.mpr fun d hd => hls.subset hd⟩
  have hW : ∀ x ∈ withinL ks bs E ws, ∃ s, List.Sublist s rs ∧ x = .tup s ∧ gn ks bs s = [] ∧ ∀ d ∈ s, d ∈ ws := fun x hx => by
    obtain ⟨h1, h2⟩ := List.mem_filter.mp hx
    obtain ⟨h3, h4⟩ := List.mem_filter.mp h1
    obtain ⟨s, hs, rfl⟩ := (hE x).mp h3
    exact ⟨s, hs, rfl, of_decide_eq_true h4, subs_iff.mp h2⟩
  have hWn : (withinL ks bs E ws).Nodup := (hEn.filter _).filter _
  rw [← filter_one hWn hlw]
  refine List.filter_congr fun x hx => ?_
  obtain ⟨s, hs, rfl, hsafe, hsw⟩ := hW x hx
  rw [Bool.eq_iff_iff, subs_iff, decide_eq_true_iff]
  constructor
  · intro h
    have h1 : ∀ d ∈ left, d ∈ s := fun d hd => h d (List.mem_filter.mpr ⟨hls.subset hd, List.any_eq_true.mpr ⟨_, hlw, decide_eq_true hd⟩⟩)
    have h2 := hmax s hsafe hsw
    have hn1 : s.Nodup := hs.nodup hnd
    have hn2 : left.Nodup := (hls.trans hws).nodup hnd
    have e1 := List.Nodup.length_le_of_subset hn1 h2
    have e2 := List.Nodup.length_le_of_subset hn2 h1
    rw [sub_eq hnd hs (hls.trans hws) h2 (by omega)]
  · intro e
    injection e with e
    subst e
    intro d hd
    obtain ⟨h1, h2⟩ := List.mem_filter.mp hd
    obtain ⟨y, hy, hdy⟩ := List.any_eq_true.mp h2
    obtain ⟨t, ht, rfl, htsafe, htw⟩ := hW y hy
    exact hmax t htsafe htw d (of_decide_eq_true hdy)
theorem flat_len {m : Nat} : ∀ {rows : List (List D)}, (∀ r ∈ rows, r.length ≤ m) → rows.flatten.length ≤ rows.length * m
  | [], _ => by simp
  | r :: rows, h => by
    have h1 := h r List.mem_cons_self
    have h2 := flat_len fun x hx => h x (List.mem_cons_of_mem r hx)
    rw [List.flatten_cons, List.length_append, List.length_cons, Nat.add_mul]
    omega
section
variable {k : Nat}
theorem ix_last {l : List D} {y : D} {S : Store} {n : Nat} (h : S[n]? = some (l ++ [y])) : ixD S (.cell n) (-1) = some y := by
  show (S[n]?).bind _ = _
  rw [h]
  show (ixOf (l ++ [y]).length (-1)).bind _ = _
  have : ixOf (l ++ [y]).length (-1) = some l.length := by
    unfold ixOf
    simp
    omega
  rw [this]
  simp
def J60 (h a sm : D) (top : List D) (left : List D) (acc : List (List D)) (e : LK.Env) (S : Store) : Prop := e = [some h, some a, some sm, some (.cell 0), some (.tup left)] ∧ S = [acc.map .tup] ∧ left.Sublist top ∧ acc.length + left.length ≤ 1000
theorem out_ok {h a sm : D} {rs : List D} {ks bs : List (List D)} {ms : List D} (H : House h rs ks) (ha : Rws a bs) (hn : bs.length < 64) (hs : Sq sm ms) (hm : Nms ms) (hml : ms.length ≤ 1000) : callF T (k + 6) 60 [h, a, sm] [] = .ok (.tup ((rnd ks bs ms.length ms []).1.map .tup)) [] := by
  have c36 : ∀ {l : List D}, Nms l → l.length ≤ 1000 → ∀ S : Store, callD (callF T (k + 5)) 36 [false, false, false] [h, a, .tup l] S = .ok (.bl (decide (gn ks bs l = []))) S := fun hl hll S =>
    cd_plain rfl rfl (by simp [D.pures, D.pure, H.pure, ha.pure, hl.pures]) (can_ok t1 t2 t19 t21 t34 t35 t36 H ha hn .t hl hll)
  have c35 : ∀ {l : List D}, Nms l → l.length ≤ 1000 → ∀ S : Store, callD (callF T (k + 5)) 35 [false, false, false] [h, a, .tup l] S = .ok (.tup (gn ks bs l)) S := fun hl hll S =>
    cd_plain rfl rfl (by simp [D.pures, D.pure, H.pure, ha.pure, hl.pures]) (barred_ok (k := k + 1) t1 t2 t19 t21 t34 t35 H ha hn .t hl hll)
  rw [p_call (T := T) (f := 60) (fn := f11) rfl rfl]
  simp [f11, env0, cd_tupled1 (k := k + 3) t1 hs hm]
  generalize hw : whileRun _ _ _ _ _ = q
  obtain ⟨e', S', w1, rfl, rfl, hl1, hl2⟩ := while_rnd (ks := ks) (bs := bs) (c := (den (callF T (k + 5)) (E.not (E.call 36 [false, false, false] [0, 1, 2] (E.cons (E.var 0) (E.cons (E.var 1) (E.cons (E.var 4) E.nil))) E.nil))).t) (body := sden (callF T (k + 5)) (LK.S.seq (LK.S.app (E.var 3) (E.call 35 [false, false, false] [0, 1, 2] (E.cons (E.var 0) (E.cons (E.var 1) (E.cons (E.var 4) E.nil))) E.nil)) (LK.S.seq (LK.S.asg 4 (E.call 2 [false, false] [0, 1] (E.cons (E.var 4) (E.cons (E.bin (Op.ix) (E.var 3) (E.un (Un.neg) (E.lit (D.int 1)))) E.nil)) E.nil)) LK.S.skip))) (J60 h a sm ms) (by
    rintro left acc e S ⟨rfl, rfl, hsub, hlen⟩
    have hlm := hm.sub hsub
    have hll : left.length ≤ 1000 := by omega
    have hgm : Nms (gn ks bs left) := fun x hx => hlm x (List.mem_filter.mp hx).1
    refine ⟨by simp [c36 hlm hll], fun hg => ?_⟩
    have hlt := less_lt hg
    have w2 := fun S => cd_unlike (T := T) (k := k + 4) (f := 2) t2 (a := .tup left) (b := .tup (gn ks bs left)) .t .t hlm hgm S
    have w3 : ixOf (acc.length + 1) (-1) = some acc.length := by
      unfold ixOf
      simp
      omega
    have w4 : (acc.map D.tup ++ [.tup (gn ks bs left)])[acc.length]? = some (.tup (gn ks bs left)) := by
      rw [List.getElem?_append_right (by simp)]
      simp
    simp [c35 hlm hll]
    rw [appK_ok (l := acc.map .tup) rfl (by simp; show _ < 16777216; omega)]
    simp [w3, w4, w2]
    exact ⟨_, _, ⟨rfl, rfl⟩, rfl, by simp, List.Sublist.trans List.filter_sublist hsub, by simp; omega⟩) ms.length ms [] [some h, some a, some sm, some (.cell 0), some (.tup ms)] [[]] 4095 (Nat.le_refl _) (by omega) ⟨rfl, rfl, List.Sublist.refl _, by simpa using hml⟩
  rw [w1] at hw
  subst hw
  have hrows := rnd_rows (ks := ks) (bs := bs) (top := ms) ms.length ms [] (List.Sublist.refl _) (by simp)
  simp
  exact fin_v0 (tups_pures (sub_nms hm hrows))
theorem great_ok {h a sm : D} {rs : List D} {ks bs : List (List D)} {ms : List D} (H : House h rs ks) (ha : Rws a bs) (hn : bs.length < 64) (hs : Sq sm ms) (hm : Nms ms) (hml : ms.length ≤ 1000) : callF T (k + 7) 61 [h, a, sm] [] = .ok (.tup (rnd ks bs ms.length ms []).2) [] := by
  have c60 : ∀ S : Store, callD (callF T (k + 6)) 60 [false, false, false] [h, a, sm] S = .ok (.tup ((rnd ks bs ms.length ms []).1.map .tup)) S := fun S =>
    cd_plain rfl rfl (by simp [D.pures, H.pure, ha.pure, hs.pure hm.pures]) (out_ok H ha hn hs hm hml)
  have hrows := rnd_rows (ks := ks) (bs := bs) (top := ms) ms.length ms [] (List.Sublist.refl _) (by simp)
  have hrl := rnd_len (ks := ks) (bs := bs) ms.length ms []
  have hless := rnd_less (ks := ks) (bs := bs) (ms := ms) ms.length ms [] (by
    unfold less
    rw [List.filter_eq_self.mpr (by simp)])
  rw [hless]
  generalize (rnd ks bs ms.length ms []).1 = rows at *
  have hfn : Nms rows.flatten := fun x hx => by
    obtain ⟨r, hr, hxr⟩ := List.mem_flatten.mp hx
    exact hm x ((hrows r hr).subset hxr)
  have hfl : rows.flatten.length ≤ 1000 * 1000 := by
    refine Nat.le_trans (flat_len (m := 1000) fun r hr => Nat.le_trans (hrows r hr).length_le hml) ?_
    simp at hrl
    exact Nat.mul_le_mul_right _ (by omega)
  have hfm : (rows.map D.tup).flatMap its = rows.flatten := by
    rw [List.flatMap_def, List.map_map]
    congr 1
    exact List.map_id rows
  have c2 : ∀ S : Store, callD (callF T (k + 6)) 2 [false, false] [sm, .lst rows.flatten] S = .ok (.tup (less ms rows.flatten)) S := fun S => cd_unlike (T := T) (k := k + 5) (f := 2) t2 hs .l hm hfn S
  rw [p_call (T := T) (f := 61) (fn := f12) rfl rfl]
  simp [f12, env0]
  rw [lc2_flat (l := rows.map .tup) (g := none) (S1 := []) ?hi its ?h ?hl]
  case hi => simp [c60]
  case hl => rw [hfm]; show _ ≤ 16777216; omega
  case h =>
    intro d hd
    obtain ⟨r, hr, rfl⟩ := List.mem_map.mp hd
    refine ⟨_, r, none, rfl, by simp [wipeE], by simp [wipeE], ?_⟩
    refine (lcRun_pure (fun _ => true) id r (fun z hz => ⟨_, rfl, by simp [Res.calm], fun _ => by simp [wipeE, Res.calm]⟩)).trans ?_
    simp [its_t]
  rw [hfm]
  simp [c2]
  exact fin_v0 hm.less.pures
end
end Lk60
set_option Elab.async false
set_option linter.all false
set_option autoImplicit false
set_option maxRecDepth 100000
set_option maxHeartbeats 4000000
namespace Lk60
open LK PySem
section
variable {k : Nat}
theorem c10h {rs : List D} {ks : List (List D)} (h1 : Nms rs) (h2 : ∀ r ∈ ks, Nms r) (S : Store) : callD (callF T (k + 8)) 10 [false] [houseT rs ks] S = .ok (houseS rs ks) S := by
  have hp : (houseT rs ks).pure = true := (houseT_ok h1 h2).pure
  refine cd_plain rfl rfl (by simp [D.pures, hp]) ?_
  have := lists_ok (T := T) t10 3 (k + 7) (houseT rs ks) hp (houseT_shal h1 h2) (by omega)
  rw [houseT_soft h1 h2] at this
  exact this
theorem c10b {bs : List (List D)} (h2 : ∀ r ∈ bs, Nms r) (S : Store) : callD (callF T (k + 8)) 10 [false] [.tup (bs.map .tup)] S = .ok (.lst (bs.map .lst)) S := by
  refine cd_plain rfl rfl (by simp [D.pures, D.pure, tups_pures h2]) ?_
  have := lists_ok (T := T) t10 2 (k + 7) (.tup (bs.map .tup)) (tups_pures h2) (shals_iff.mpr fun x hx => by
    obtain ⟨r, hr, rfl⟩ := List.mem_map.mp hx
    exact (h2 r hr).shals) (by omega)
  rw [show (D.tup (bs.map .tup)).soft = .lst (bs.map .lst) from congrArg D.lst (softs_tups h2)] at this
  exact this
/-- same, of things that are the same when thawed -/
theorem c9 {n : Nat} {x y d : D} {S : Store} (hx : x.thaw S = some d) (hy : y.thaw S = some d) (hp : d.pure = true) (hs : D.shal n d = true) (hn : n ≤ k + 7) : callD (callF T (k + 8)) 9 [false, false] [x, y] S = .ok (.bl true) S := by
  refine cd_thaw rfl rfl ?_ (same_ok t9 n (k + 7) d hp hs hn) rfl
  simp [D.thaws, hx, hy]
theorem eq_nil1 {S : Store} {l : List D} (h : ∀ x ∈ l, Cl 1 x) : binD S .eq (.lst l) (.lst []) = some (.bl (decide (l = []))) := by
  rw [eq_cl (n := 2) (Cl.lst h) (Cl.lst (by simp)) (by omega), lst_nil]
theorem ne_nil1 {S : Store} {l : List D} (h : ∀ x ∈ l, Cl 1 x) : binD S .ne (.lst l) (.lst []) = some (.bl (!decide (l = []))) := by
  rw [ne_cl (n := 2) (Cl.lst h) (Cl.lst (by simp)) (by omega), lst_nil]
/-- [d in l if d not in m] == [] -/
theorem subs_dec {l m : List D} : decide (l.filter (fun d => !decide (d ∈ m)) = []) = subs l m := by
  rw [Bool.eq_iff_iff, decide_eq_true_iff, List.filter_eq_nil_iff, subs_iff]
  simp
theorem case_ok {rs : List D} {ks bs : List (List D)} (hh : Hall 5 5 rs ks) (hg : Gangs 4 rs bs) : callF T (k + 9) 16 [houseT rs ks, .tup (bs.map .tup)] [] = .ok (.bl true) [] := by
  have hr := hh.nms
  have hk := sub_nms hr hh.keys
  have hb := hg.nms hr
  have H := houseT_ok hr hk
  have HS := houseS_ok hr hk
  have A := rws_tups hb
  have AS := rws_softs hb
  have hkl : ks.length ≤ 20 := by have := hh.len; omega
  have hbl : bs.length < 64 := by have := hg.len; omega
  have hrl := hh.le
  have hnd : rs.Nodup := hh.sub.nodup (by decide)
  have ix0 : ∀ S, ixD S (houseT rs ks) 0 = some (.tup rs) := fun S => rfl
  have hlk := likes_names hr
  have c38 : ∀ S : Store, callD (callF T (k + 8)) 38 [false] [.tup rs] S = .ok (.lst (sorted ((allS rs).map .tup))) S := fun S =>
    cd_plain rfl rfl (by simp [D.pures, D.pure, hr.pures]) (sets_ok t38 .t (by omega) hr.cl hlk)
  have hE1 : ∀ x, x ∈ sorted ((allS rs).map .tup) ↔ ∃ s, List.Sublist s rs ∧ x = .tup s := fun x => by
    constructor
    · intro hx
      obtain ⟨e1, e2⟩ := mem_sets hlk hx
      exact ⟨_, e2, e1⟩
    · rintro ⟨s, hs, rfl⟩
      exact sets_mem hlk hs
  have hE2 : (sorted ((allS rs).map .tup)).Nodup := by
    rw [(sorted_ok hlk).1.nodup_iff]
    refine List.pairwise_map.mpr (List.Pairwise.imp ?_ (allS_nodup rs hnd))
    intro p q hpq e
    injection e with e
    exact hpq e
  generalize sorted ((allS rs).map D.tup) = EE at *
  have c62 : ∀ {l : List D}, Nms l → ∀ S : Store, callD (callF T (k + 8)) 62 [false, false, false] [houseT rs ks, .tup (bs.map .tup), .tup l] S = .ok (.bl (decide (gn ks bs l = []))) S := fun hl S =>
    cd_plain rfl rfl (by simp [D.pures, D.pure, H.pure, tups_pures hb, hl.pures]) (safe_ok (k := k + 5) H hkl A .t hl)
  rw [p_call (T := T) (f := 16) (fn := f28) rfl rfl]
  simp [f28, env0, c10h hr hk, c10b hb, ix0, c38]
  rw [lc_pure (l := EE) (g := none) (S1 := []) ?hi (fun x => decide (gn ks bs (its x) = [])) id ?h]
  case hi => simp
  case h =>
    intro x hx
    obtain ⟨s, hs, rfl⟩ := (hE1 x).mp hx
    exact ⟨_, rfl, by simp [wipeE, c62 (hr.sub hs), its_t]; exact decide_eq_decide.mpr Iff.rfl, fun _ => by simp [wipeE]⟩
  simp only [rb_ok, st_ok, List.map_id]
  generalize hq : forK _ _ _ _ _ _ _ _ = q
  obtain ⟨env', S', rfl, x5, x6, x7, x8, x9, x10, rfl, rfl⟩ := forK_inv hq (fun pre env S => ∃ x5 x6 x7 x8 x9 x10 : Option D, env = [some (houseT rs ks), some (.tup (bs.map .tup)), some (.lst [houseS rs ks, .lst (bs.map .lst)]), some (.lst EE), some (.lst (EE.filter fun x => decide (gn ks bs (its x) = []))), x5, x6, x7, x8, x9, x10, none, none, none] ∧ S = [])
    ⟨none, none, none, none, none, none, rfl, rfl⟩ (by
    rintro pre d post env S hpd ⟨x5, x6, x7, x8, x9, x10, rfl, rfl⟩
    have hd : d ∈ EE := by rw [hpd]; simp
    obtain ⟨ws, hws, rfl⟩ := (hE1 d).mp hd
    have hm : Nms ws := hr.sub hws
    have hml : ws.length ≤ 1000 := by have := hws.length_le; omega
    have hcl1 : ∀ x ∈ EE, Cl 1 x := fun x hx => by
      obtain ⟨s, hs, rfl⟩ := (hE1 x).mp hx
      exact Cl.tup (hr.sub hs).cl
    refine ⟨_, rfl, ?_⟩
    simp
    rw [lc_pure (l := EE.filter fun x => decide (gn ks bs (its x) = [])) (g := none) (S1 := []) ?hi2 (fun x => subs (its x) ws) id ?h2]
    case hi2 => simp
    case h2 =>
      intro x hx
      obtain ⟨s, hs, rfl⟩ := (hE1 x).mp (List.mem_filter.mp hx).1
      refine ⟨_, rfl, ?_, fun _ => by simp [wipeE]⟩
      simp [wipeE]
      rw [lc_pure (l := s) (g := none) (S1 := []) ?hi3 (fun d => !decide (d ∈ ws)) id ?h3]
      case hi3 => simp
      case h3 => exact fun z hz => ⟨_, rfl, by simp [wipeE, nmem_cl (.inl rfl) ((hr.sub hs).cl z hz) hm.cl (show 0 ≤ 30 by omega)], fun _ => by simp [wipeE]⟩
      simp only [rb_ok, List.map_id]
      rw [eq_nil1 fun y hy => ((hr.sub hs).cl y (List.mem_filter.mp hy).1).up (by omega), subs_dec]
      rfl
    simp only [rb_ok, st_ok, List.map_id]
    have hWW : ((EE.filter fun x => decide (gn ks bs (its x) = [])).filter fun x => subs (its x) ws) = withinL ks bs EE ws := rfl
    rw [hWW]
    have hWm : ∀ x ∈ withinL ks bs EE ws, ∃ s, List.Sublist s rs ∧ x = .tup s := fun x hx => (hE1 x).mp (List.mem_filter.mp (List.mem_filter.mp hx).1).1
    have htops := tops_eq (ks := ks) (bs := bs) hnd hE1 hE2 hws
    generalize withinL ks bs EE ws = W at *
    have c63 : ∀ S : Store, callD (callF T (k + 8)) 63 [false, false, false] [houseT rs ks, .tup (bs.map .tup), .tup ws] S = .ok (.lst [.tup ((rnd ks bs ws.length ws []).1.map .tup), .tup (rnd ks bs ws.length ws []).2]) S := fun S =>
      cd_plain rfl rfl (by simp [D.pures, D.pure, H.pure, tups_pures hb, hm.pures]) (rounds_ok (k := k + 4) H hkl A hm hml)
    have c60 : ∀ S : Store, callD (callF T (k + 8)) 60 [false, false, false] [houseT rs ks, .tup (bs.map .tup), .tup ws] S = .ok (.tup ((rnd ks bs ws.length ws []).1.map .tup)) S := fun S =>
      cd_plain rfl rfl (by simp [D.pures, D.pure, H.pure, tups_pures hb, hm.pures]) (out_ok (k := k + 2) H A hbl .t hm hml)
    have c60s : ∀ S : Store, callD (callF T (k + 8)) 60 [false, false, false] [houseS rs ks, .lst (bs.map .lst), .lst ws] S = .ok (.tup ((rnd ks bs ws.length ws []).1.map .tup)) S := fun S =>
      cd_plain rfl rfl (by simp [D.pures, D.pure, HS.pure, hm.pures]; exact AS.pure) (out_ok (k := k + 2) HS AS hbl .l hm hml)
    have c61 : ∀ S : Store, callD (callF T (k + 8)) 61 [false, false, false] [houseT rs ks, .tup (bs.map .tup), .tup ws] S = .ok (.tup (rnd ks bs ws.length ws []).2) S := fun S =>
      cd_plain rfl rfl (by simp [D.pures, D.pure, H.pure, tups_pures hb, hm.pures]) (great_ok (k := k + 1) H A hbl .t hm hml)
    have c61s : ∀ S : Store, callD (callF T (k + 8)) 61 [false, false, false] [houseS rs ks, .lst (bs.map .lst), .lst ws] S = .ok (.tup (rnd ks bs ws.length ws []).2) S := fun S =>
      cd_plain rfl rfl (by simp [D.pures, D.pure, HS.pure, hm.pures]; exact AS.pure) (great_ok (k := k + 1) HS AS hbl .l hm hml)
    have hrows := rnd_rows (ks := ks) (bs := bs) (top := ws) ws.length ws [] (List.Sublist.refl _) (by simp)
    have hleft : Nms (rnd ks bs ws.length ws []).2 := hm.sub (rnd_sub ws.length ws [])
    have hRn := sub_nms hm hrows
    have hRp := tups_pures hRn
    have hRs : D.shals 1 ((rnd ks bs ws.length ws []).1.map .tup) = true := shals_iff.mpr fun x hx => by
      obtain ⟨r, hr, rfl⟩ := List.mem_map.mp hx
      exact (hRn r hr).shals
    generalize (rnd ks bs ws.length ws []).1.map D.tup = R at *
    generalize (rnd ks bs ws.length ws []).2 = L at *
    simp [c63]
    rw [lc_pure (l := ws) (g := none) (S1 := []) ?hi4 (fun t => W.any fun x => decide (t ∈ its x)) id ?h4]
    case hi4 => simp
    case h4 =>
      intro t ht
      refine ⟨_, rfl, ?_, fun _ => by simp [wipeE]⟩
      simp [wipeE]
      rw [lc_pure (l := W) (g := none) (S1 := []) ?hi5 (fun x => decide (t ∈ its x)) id ?h5]
      case hi5 => simp
      case h5 =>
        intro x hx
        obtain ⟨s, hs, rfl⟩ := hWm x hx
        refine ⟨_, rfl, ?_, fun _ => by simp [wipeE]⟩
        have := mem_cl (S := []) (y := .tup s) (l := s) (.inl rfl) (hm.cl t ht) (hr.sub hs).cl (show 0 ≤ 30 by omega)
        try simp at this
        simp [wipeE, this, its_t]
        exact decide_eq_decide.mpr Iff.rfl
      simp only [rb_ok, List.map_id]
      rw [ne_nil1 (fun y hy => by
        obtain ⟨s, hs, rfl⟩ := hWm y (List.mem_filter.mp hy).1
        exact Cl.tup (hr.sub hs).cl), dec_filter, Bool.not_not]
      rfl
    simp only [rb_ok, st_ok, List.map_id]
    have hMM : (ws.filter fun t => W.any fun x => decide (t ∈ its x)) = mixedL W ws := rfl
    rw [hMM]
    have hMn : Nms (mixedL W ws) := fun x hx => hm x (List.mem_filter.mp hx).1
    rw [lc_pure (l := W) (g := none) (S1 := []) ?hi6 (fun x => subs (mixedL W ws) (its x)) id ?h6]
    case hi6 => simp
    case h6 =>
      intro x hx
      obtain ⟨s, hs, rfl⟩ := hWm x hx
      refine ⟨_, rfl, ?_, fun _ => by simp [wipeE]⟩
      simp [wipeE]
      rw [lc_pure (l := mixedL W ws) (g := none) (S1 := []) ?hi7 (fun d => !decide (d ∈ s)) id ?h7]
      case hi7 => simp
      case h7 => exact fun z hz => ⟨_, rfl, by simp [wipeE, nmem_cl (.inl rfl) (hMn.cl z hz) (hr.sub hs).cl (show 0 ≤ 30 by omega)], fun _ => by simp [wipeE]⟩
      simp only [rb_ok, List.map_id]
      rw [eq_nil1 fun y hy => (hMn.cl y (List.mem_filter.mp hy).1).up (by omega), subs_dec]
      rfl
    simp only [rb_ok, st_ok, List.map_id]
    rw [htops]
    have i0 : ixOf 2 0 = some 0 := rfl
    have i1 : ixOf 2 1 = some 1 := rfl
    have add32 : ∀ {S : Store} {a b c d e : D}, binD S .add (.lst [a, b, c]) (.lst [d, e]) = some (.lst [a, b, c, d, e]) := fun {S a b c d e} => bin_addl (by simp; show _ ≤ 16777216; omega)
    have add21 : ∀ {S : Store} {a b c : D}, binD S .add (.lst [a, b]) (.lst [c]) = some (.lst [a, b, c]) := fun {S a b c} => bin_addl (by simp; show _ ≤ 16777216; omega)
    have hLp := hleft.pures
    simp [c60, c60s, c61, c61s, i0, i1, add32, add21]
    rw [c9 (k := k) (n := 3) (d := .lst [.tup R, .tup L, .lst [.tup L], .tup R, .tup L]) (by simp [D.thaw, D.thaws, p_thaws _ _ hRp, p_thaws _ _ hLp]) (by simp [D.thaw, D.thaws, p_thaws _ _ hRp, p_thaws _ _ hLp]) (by simp [D.pure, D.pures, hRp, hLp]) (by simp [D.shal, D.shals, hRs, hleft.shals]) (by omega)]
    simp [stays_none])
  have hsp : D.pures [houseS rs ks, .lst (bs.map .lst)] = true := by simp [D.pures, HS.pure, AS.pure]
  simp [c10h hr hk, c10b hb]
  rw [c9 (k := k) (n := 4) (d := .lst [houseS rs ks, .lst (bs.map .lst)]) (by simp [D.thaw, p_thaws _ _ hsp]) (by simp [D.thaw, p_thaws _ _ hsp]) hsp ?_ (by omega)]
  · simp
    exact fin_v0 rfl
  · have q1 := soft_shal (houseT_shal hr hk)
    rw [houseT_soft hr hk] at q1
    have q2 : D.shal 3 (.lst (bs.map .lst)) = true := by
      refine shals_iff.mpr fun x hx => ?_
      obtain ⟨r, hr, rfl⟩ := List.mem_map.mp hx
      exact (hb r hr).shals
    show D.shals 3 [_, _] = true
    simp [D.shals, q1, q2]
theorem right_ok {b : List D} (h : BoxOk 2000 b) : ∃ b' : List D, callF T (k + 10) 17 [.cell 0] [b] = .ok (.bl true) [b'] := by
  rw [p_call (T := T) (f := 17) (fn := f30) rfl rfl]
  have r6 : ∀ S : Store, rngK S (.int 0) (.int 6) = .ok (nums 0 6) S := fun S => rngK_n (n := 6) (by decide)
  simp [f30, env0, r6]
  generalize hq : forK _ _ _ _ _ _ _ _ = q
  obtain ⟨env', S', rfl, x1, x2, b', rfl, rfl, hb'⟩ := forK_inv hq (fun pre env S => ∃ (x1 x2 : Option D) (b : List D), env = [some (.cell 0), x1, x2] ∧ S = [b] ∧ BoxOk (60 * (10 - pre.length)) b)
    ⟨none, none, b, rfl, rfl, h.le (by simp)⟩ (by
    rintro pre d post env S hpd ⟨x1, x2, b, rfl, rfl, hb⟩
    have hlen : pre.length < 6 := by
      have := congrArg List.length hpd
      simp at this
      omega
    obtain ⟨rs, ks, b1, e1, hh, hb1⟩ := hall_ok (T := T) (k := k + 7) t7 t37 (n := 60 * (10 - (pre.length + 1)) + 28) (folk := 5) (most := 5) (b := b) (by omega) (by omega) (hb.le (by omega))
    have q1 : callD (callF T (k + 9)) 37 [true, false, false] [.cell 0, .int 5, .int 5] [b] = .ok (houseT rs ks) [b1] := cd_mut1 (ds := [.int 5, .int 5]) (ms := [false, false]) rfl rfl rfl rfl hb.pures e1
    have H := houseT_ok hh.nms (sub_nms hh.nms hh.keys)
    obtain ⟨bs, b2, e2, hg, hb2⟩ := gangs_ok (T := T) (k := k + 7) t7 t26 (n := 60 * (10 - (pre.length + 1))) (most := 4) (b := b1) H hh.le (by omega) (hb1.le (by omega))
    have q2 : callD (callF T (k + 9)) 26 [true, false, false] [.cell 0, houseT rs ks, .int 4] [b1] = .ok (.tup (bs.map .tup)) [b2] := cd_mut1 (ds := [houseT rs ks, .int 4]) (ms := [false, false]) rfl rfl (by simp [D.pures, D.pure, H.pure]) rfl hb1.pures e2
    have q3 : ∀ S : Store, callD (callF T (k + 9)) 16 [false, false] [houseT rs ks, .tup (bs.map .tup)] S = .ok (.bl true) S := fun S =>
      cd_plain rfl rfl (by simp [D.pures, D.pure, H.pure, tups_pures (hg.nms hh.nms)]) (case_ok hh hg)
    refine ⟨_, rfl, ?_⟩
    simp [q1, q2, q3, stays_none]
    exact ⟨_, _, ⟨rfl, rfl⟩, ⟨_, _, rfl⟩, b2, rfl, hb2.le (by omega)⟩)
  simp
  rw [fin_v (by simp [hb'.pures]) rfl]
  exact ⟨b', rfl⟩
theorem plain : ∀ ns : List Int, ns.length ≤ 63 → ∃ S', callF T 14 18 [.lst (ns.map D.int)] [] = .ok (.bl true) S' :=
  law_frame (k := 12) t6 t8 rfl (by decide) (by decide) (show 2000 ≤ 1000000000 by decide) hand fun b h => right_ok (k := 3) h
end
end Lk60
set_option Elab.async false
set_option linter.all false
set_option autoImplicit false
set_option maxRecDepth 100000
/-! LX5: the classes, at the end. -/
namespace LK
open PySem PySem.Spec PyProof.Rows L2
/-- the built-in base -/
def xBase (n : Nat) : String := if xLook n then "LookupError" else "ValueError"
def xNew (n : Nat) : String := if xLook n then "LookupError.__new__" else "ValueError.__new__"
def xIni (n : Nat) : String := if xLook n then "LookupError.__init__" else "ValueError.__init__"
def xMro (n : Nat) : List Value := [.type (xBase n), .type "Exception", .type "BaseException", .type "object"]
theorem x_fb (n : Nat) : ExcBaseFacts (xBase n) (xNew n) (xIni n) (xMro n) := by
  unfold xMro xBase xNew xIni
  cases xLook n
  · exact F.excBase_ValueError
  · exact F.excBase_LookupError
theorem x_sf (n : Nat) : StoreFacts (xBase n) (xMro n) "object.__setattr__" "object" := by
  unfold xMro xBase
  cases xLook n
  · exact F.store_ValueError
  · exact F.store_LookupError
theorem x_kf (n : Nat) : PySem.W.KxsFacts (xBase n) (xIni n) := by
  unfold xBase xIni
  cases xLook n
  · exact PySem.W.kxs_ValueError
  · exact PySem.W.kxs_LookupError
open PySem.W in
/-- what all of them say -/
def xcB (K : Frag) (n : Nat) (C : Addr) : Bool :=
  keepIn K (.ref C) && (decide (subIn K (.ref C) (.type "BaseException") = some true) && (decide (typeIn K (.ref C) = some (.type "type")) && (xfB K C && (decide (findIn K (.ref C) (xFld n) = some none) &&
  (decide (findIn K (.ref C) "__class__" = some (some (.builtin "object.__class__"))) && (decide (specialIn K (.builtin "object.__class__") "__get__" = some (some (.builtin "getset_descriptor.__get__"))) && (decide (takesIn K (.builtin "object.__class__") = some true) && (decide (mroIn K C (.type "object") = some true) &&
  (decide (kitOne K (.ref C) (.type "LookupError") = some (xLook n)) && decide (kitOne K (.ref C) (.type "ValueError") = some (!xLook n)))))))))))
open PySem.W in
/-- and those with a field -/
def xcF (K : Frag) (n : Nat) (C fI : Addr) : Bool :=
  excInitIn K C (xMro n) (xNew n) && (excOver K C (xMro n) && (hasDictIn K C && (decide (findIn K (.ref C) "__setattr__" = some (some (.builtin "object.__setattr__"))) && (decide (takerIn K C (xFld n) = some none) && (decide (findIn K (.ref C) "__init__" = some (some (.ref fI))) && (isFn K (.ref fI) &&
  (decide (ks_superIn K C C "__init__" = some (some (.builtin (xIni n)))) && (decide (subIn K (.ref C) (.type (xBase n)) = some true) && (decide (nsIn K cStatics "thirdparty.any" = some none) && decide (mroIn K C (.ref C) = some true))))))))))
theorem and_iff {a b : Bool} : (a && b) = true ↔ a = true ∧ b = true := Bool.and_eq_true_iff
theorem xc_mk {prog : Program} {K : PySem.W.Frag} {mg : Str → Option Value} {n : Nat} {C : Addr} (g : mg (xName n) = some (.ref C)) (b : xcB K n C = true)
    (m : if xHas n = true then ∃ (fI : Addr) (B newId initId : String) (bmB : List Value) (p : Str), LX.OwnX prog K C fI B newId initId bmB p (xFld n) else ∃ (B newId initId : String) (bmB : List Value), ExcBaseFacts B newId initId bmB ∧ PySem.W.excIn K C bmB newId = true) : XcOk prog K mg n C := by
  unfold xcB at b
  simp only [and_iff, decide_eq_true_eq] at b
  obtain ⟨b1, b2, b3, b4, b5, b6, b7, b8, b9, b10, b11⟩ := b
  have x := xfB_ok b4
  exact ⟨g, b1, b2, b3, m, x, b5, ⟨x.ga, x.gg, x.exC, x.hdC, b6, b7, b8, b9⟩, b10, b11⟩
abbrev XcOkX {K : PySem.W.Frag} {h : Heap} (_ : K.In h) (prog : Program) (mg : Str → Option Value) (n : Nat) (C : Addr) : Prop := XcOk prog K mg n C
theorem xc_1 {prog : Program} {K : PySem.W.Frag} {h : Heap} {mg : Str → Option Value} (n : Nat) {C fI : Addr} {p : Str} {st : Stmt} {qual : Str} {kV doc pm ct oc ccl cl : Value} {an od cdd cld : Option Addr} {cda cc : Addr} {osl ccs csl : Array (Option Value)} {vs : Array Value} {file : Str} {tf : Tok} (X : K.In h) (G : h.Ns mainGlobals mg)
    (a : PySem.W.nsIn K mainGlobals (xName n) = some (some (.ref C))) (i : PySem.W.findIn K (.ref C) "__init__" = some (some (.ref fI)))
    (l : K.lookup fI = some ⟨oc, od, .func (PySem.W.ksFn "__init__" qual (defArgs st) (defBody st) (defScope st) .none kV doc pm an (.ref cda) ct cc), osl⟩) (c : PySem.W.codeIn K (.ref cda) qual = true) (d : K.lookup cda = some ⟨ccl, cdd, .fields vs, ccs⟩) (v : vs[2]? = some (.str file tf)) (e : ((prog.main.file : Str) == file) = true)
    (u : K.lookup cc = some ⟨cl, cld, .cell (some (.ref C)), csl⟩) (b : xcB K n C = true) (f : xcF K n C fI = true) (hh : xHas n = true) (TX : LX.InitTxt st p (xFld n)) (top : (prog.main.scope.names.lookup ("super" : Str)).isSome = false)
    (bt : ∀ (s : Shared) (a b : Value), BindsTo s (PySem.W.ksFn "__init__" qual (defArgs st) (defBody st) (defScope st) .none kV doc pm an (.ref cda) ct cc) ⟨[a, b], []⟩ [("self", a), (p, b)]) : XcOk prog K mg n C := by
  refine xc_mk (PySem.W.mg_of X G a) b ?_
  rw [if_pos hh]
  unfold xcF at f
  simp only [and_iff, decide_eq_true_eq] at f
  obtain ⟨f1, f2, f3, f4, f5, f6, f7, f8, f9, f10, f11⟩ := f
  exact ⟨fI, xBase n, xNew n, xIni n, xMro n, p, x_fb n, x_sf n, x_kf n, f1, f2, f3, f4, f5, f6, f7, f8, f9, f10, f11, ⟨st, qual, TX, kV, doc, pm, ct, oc, ccl, cl, an, od, cdd, cld, cda, cc, osl, ccs, csl, vs, file, tf, l, c, d, v, e, u, bt⟩, top⟩
theorem xc_0 {prog : Program} {K : PySem.W.Frag} {h : Heap} {mg : Str → Option Value} (n : Nat) {C : Addr} (X : K.In h) (G : h.Ns mainGlobals mg) (a : PySem.W.nsIn K mainGlobals (xName n) = some (some (.ref C))) (b : xcB K n C = true) (hh : xHas n = false) (q : PySem.W.excIn K C (xMro n) (xNew n) = true) : XcOk prog K mg n C := by
  refine xc_mk (PySem.W.mg_of X G a) b ?_
  rw [if_neg (by simp [hh])]
  exact ⟨xBase n, xNew n, xIni n, xMro n, x_fb n, q⟩
/-- the pairs -/
def xPr (K : PySem.W.Frag) (Xa : List (Nat × Addr)) : Bool := Xa.all fun p => Xa.all fun q => decide (PySem.W.exmOne K (.ref p.2) (.ref q.2) = some (p.1 == q.1))
/-- those that are not in the text -/
def xNo (K : PySem.W.Frag) (Xa : List (Nat × Addr)) : Bool := (List.range 10).all fun n => (Xa.any fun p => p.1 == n) || decide (PySem.W.nsIn K mainGlobals (xName n) = some none)
/-- each class of the list -/
def AllXc (prog : Program) (K : PySem.W.Frag) (mg : Str → Option Value) : List (Nat × Addr) → Prop
  | [] => True
  | (n, C) :: r => XcOk prog K mg n C ∧ AllXc prog K mg r
theorem allXc {prog : Program} {K : PySem.W.Frag} {mg : Str → Option Value} : ∀ {Xa : List (Nat × Addr)}, AllXc prog K mg Xa → ∀ p ∈ Xa, XcOk prog K mg p.1 p.2
  | [], _, p, hp => by cases hp
  | (n, C) :: r, h, p, hp => by
    rcases List.mem_cons.mp hp with rfl | hp
    · exact h.1
    · exact allXc h.2 p hp
theorem xs_mk {prog : Program} {K : PySem.W.Frag} {h : Heap} {mg : Str → Option Value} {Xa : List (Nat × Addr)} (X : K.In h) (G : h.Ns mainGlobals mg) (a0 : AllXc prog K mg Xa) (p : xPr K Xa = true) (q : xNo K Xa = true) (s : PySem.W.nsIn K mainGlobals "super" = some none) : XsOk prog K mg Xa := by
  refine ⟨allXc a0, fun n hn => ?_, fun u hu v hv => ?_, PySem.W.mg_none_of X G s⟩
  · unfold xNo at q
    rw [List.all_eq_true] at q
    have := q n (List.mem_range.mpr hn)
    rw [Bool.or_eq_true] at this
    rcases this with z | z
    · obtain ⟨p, hp, e⟩ := List.any_eq_true.mp z
      have e : p.1 = n := by simpa using e
      subst e
      exact .inl ⟨p.2, hp⟩
    · exact .inr (PySem.W.mg_none_of X G (of_decide_eq_true z))
  · unfold xPr at p
    rw [List.all_eq_true] at p
    have := p u hu
    rw [List.all_eq_true] at this
    exact of_decide_eq_true (this v hv)
abbrev XsOkX {K : PySem.W.Frag} {h : Heap} (_ : K.In h) (prog : Program) (mg : Str → Option Value) (Xa : List (Nat × Addr)) : Prop := XsOk prog K mg Xa
theorem xs_for {prog : Program} {K : PySem.W.Frag} {mg : Str → Option Value} {Xa : List (Nat × Addr)} {ids : List Nat} {ds : List Df} (h : XsOk prog K mg Xa) (e : Xa.map (·.1) = ids) (q : (ds.all fun d => d.xs.all fun n => ids.contains n) = true) : ∀ d ∈ ds, d.xs ≠ [] → ∃ Xa, XsOk prog K mg Xa ∧ ∀ n ∈ d.xs, ∃ C, (n, C) ∈ Xa := fun d hd _ => ⟨Xa, h, fun n hn => by
  rw [List.all_eq_true] at q
  have := q d hd
  rw [List.all_eq_true] at this
  have := this n hn
  rw [← e] at this
  have hm : n ∈ Xa.map (·.1) := by simpa using this
  obtain ⟨p, hp, rfl⟩ := List.mem_map.mp hm
  exact ⟨p.2, hp⟩⟩
theorem xs_none {prog : Program} {K : PySem.W.Frag} {mg : Str → Option Value} {ds : List Df} (q : (ds.all fun d => d.xs.isEmpty) = true) : ∀ d ∈ ds, d.xs ≠ [] → ∃ Xa, XsOk prog K mg Xa ∧ ∀ n ∈ d.xs, ∃ C, (n, C) ∈ Xa := fun d hd hne => by
  rw [List.all_eq_true] at q
  exact absurd (List.isEmpty_iff.mp (q d hd)) hne
end LK
set_option Elab.async false
set_option linter.all false
set_option maxRecDepth 100000
set_option maxHeartbeats 0
namespace Lk60
open LK PySem L2
theorem pat1_0 {K : PySem.W.Frag} {kV doc pm cdv ct : Value} {an : Option Addr} : PatOk K (PySem.W.fnOf d1.ent.name d1.ent.name (L2.defArgs d1.st) (L2.defBody d1.st) (L2.defScope d1.st) .none kV doc pm an cdv ct) d1.ent.ps 1 [] (permOf d1.ent.ps 1 []) := by
  intro s us ws zs _ h1 h2 h3 h4
  match us, ws, h1, h2 with
  | [a0], [], _, _ =>
    have e : zs = [a0] := (Option.some.inj h3).symm
    subst e
    exact .of_eq rfl
theorem pats1 {K : PySem.W.Frag} {kV doc pm cdv ct : Value} {an : Option Addr} : ∀ p ∈ d1.ent.pats, PatOk K (PySem.W.fnOf d1.ent.name d1.ent.name (L2.defArgs d1.st) (L2.defBody d1.st) (L2.defScope d1.st) .none kV doc pm an cdv ct) d1.ent.ps p.1 p.2 (permOf d1.ent.ps p.1 p.2) := List.forall_mem_cons.mpr ⟨pat1_0, fun _ h => absurd h List.not_mem_nil⟩
theorem pat2_0 {K : PySem.W.Frag} {kV doc pm cdv ct : Value} {an : Option Addr} : PatOk K (PySem.W.fnOf d2.ent.name d2.ent.name (L2.defArgs d2.st) (L2.defBody d2.st) (L2.defScope d2.st) .none kV doc pm an cdv ct) d2.ent.ps 1 [] (permOf d2.ent.ps 1 []) := by
  intro s us ws zs _ h1 h2 h3 h4
  match us, ws, h1, h2 with
  | [a0], [], _, _ =>
    have e : zs = [a0] := (Option.some.inj h3).symm
    subst e
    exact .of_eq rfl
theorem pats2 {K : PySem.W.Frag} {kV doc pm cdv ct : Value} {an : Option Addr} : ∀ p ∈ d2.ent.pats, PatOk K (PySem.W.fnOf d2.ent.name d2.ent.name (L2.defArgs d2.st) (L2.defBody d2.st) (L2.defScope d2.st) .none kV doc pm an cdv ct) d2.ent.ps p.1 p.2 (permOf d2.ent.ps p.1 p.2) := List.forall_mem_cons.mpr ⟨pat2_0, fun _ h => absurd h List.not_mem_nil⟩
theorem pat3_0 {K : PySem.W.Frag} {kV doc pm cdv ct : Value} {an : Option Addr} : PatOk K (PySem.W.fnOf d3.ent.name d3.ent.name (L2.defArgs d3.st) (L2.defBody d3.st) (L2.defScope d3.st) .none kV doc pm an cdv ct) d3.ent.ps 2 [] (permOf d3.ent.ps 2 []) := by
  intro s us ws zs _ h1 h2 h3 h4
  match us, ws, h1, h2 with
  | [a0, a1], [], _, _ =>
    have e : zs = [a0, a1] := (Option.some.inj h3).symm
    subst e
    exact .of_eq rfl
theorem pats3 {K : PySem.W.Frag} {kV doc pm cdv ct : Value} {an : Option Addr} : ∀ p ∈ d3.ent.pats, PatOk K (PySem.W.fnOf d3.ent.name d3.ent.name (L2.defArgs d3.st) (L2.defBody d3.st) (L2.defScope d3.st) .none kV doc pm an cdv ct) d3.ent.ps p.1 p.2 (permOf d3.ent.ps p.1 p.2) := List.forall_mem_cons.mpr ⟨pat3_0, fun _ h => absurd h List.not_mem_nil⟩
theorem pat5_0 {K : PySem.W.Frag} {kV doc pm cdv ct : Value} {an : Option Addr} : PatOk K (PySem.W.fnOf d5.ent.name d5.ent.name (L2.defArgs d5.st) (L2.defBody d5.st) (L2.defScope d5.st) .none kV doc pm an cdv ct) d5.ent.ps 2 [] (permOf d5.ent.ps 2 []) := by
  intro s us ws zs _ h1 h2 h3 h4
  match us, ws, h1, h2 with
  | [a0, a1], [], _, _ =>
    have e : zs = [a0, a1] := (Option.some.inj h3).symm
    subst e
    exact .of_eq rfl
theorem pats5 {K : PySem.W.Frag} {kV doc pm cdv ct : Value} {an : Option Addr} : ∀ p ∈ d5.ent.pats, PatOk K (PySem.W.fnOf d5.ent.name d5.ent.name (L2.defArgs d5.st) (L2.defBody d5.st) (L2.defScope d5.st) .none kV doc pm an cdv ct) d5.ent.ps p.1 p.2 (permOf d5.ent.ps p.1 p.2) := List.forall_mem_cons.mpr ⟨pat5_0, fun _ h => absurd h List.not_mem_nil⟩
theorem pat7_0 {K : PySem.W.Frag} {kV doc pm cdv ct : Value} {an : Option Addr} : PatOk K (PySem.W.fnOf d7.ent.name d7.ent.name (L2.defArgs d7.st) (L2.defBody d7.st) (L2.defScope d7.st) .none kV doc pm an cdv ct) d7.ent.ps 3 [] (permOf d7.ent.ps 3 []) := by
  intro s us ws zs _ h1 h2 h3 h4
  match us, ws, h1, h2 with
  | [a0, a1, a2], [], _, _ =>
    have e : zs = [a0, a1, a2] := (Option.some.inj h3).symm
    subst e
    exact .of_eq rfl
theorem pats7 {K : PySem.W.Frag} {kV doc pm cdv ct : Value} {an : Option Addr} : ∀ p ∈ d7.ent.pats, PatOk K (PySem.W.fnOf d7.ent.name d7.ent.name (L2.defArgs d7.st) (L2.defBody d7.st) (L2.defScope d7.st) .none kV doc pm an cdv ct) d7.ent.ps p.1 p.2 (permOf d7.ent.ps p.1 p.2) := List.forall_mem_cons.mpr ⟨pat7_0, fun _ h => absurd h List.not_mem_nil⟩
theorem pat9_0 {K : PySem.W.Frag} {kV doc pm cdv ct : Value} {an : Option Addr} : PatOk K (PySem.W.fnOf d9.ent.name d9.ent.name (L2.defArgs d9.st) (L2.defBody d9.st) (L2.defScope d9.st) .none kV doc pm an cdv ct) d9.ent.ps 3 [] (permOf d9.ent.ps 3 []) := by
  intro s us ws zs _ h1 h2 h3 h4
  match us, ws, h1, h2 with
  | [a0, a1, a2], [], _, _ =>
    have e : zs = [a0, a1, a2] := (Option.some.inj h3).symm
    subst e
    exact .of_eq rfl
theorem pats9 {K : PySem.W.Frag} {kV doc pm cdv ct : Value} {an : Option Addr} : ∀ p ∈ d9.ent.pats, PatOk K (PySem.W.fnOf d9.ent.name d9.ent.name (L2.defArgs d9.st) (L2.defBody d9.st) (L2.defScope d9.st) .none kV doc pm an cdv ct) d9.ent.ps p.1 p.2 (permOf d9.ent.ps p.1 p.2) := List.forall_mem_cons.mpr ⟨pat9_0, fun _ h => absurd h List.not_mem_nil⟩
theorem pat10_0 {K : PySem.W.Frag} {kV doc pm cdv ct : Value} {an : Option Addr} : PatOk K (PySem.W.fnOf d10.ent.name d10.ent.name (L2.defArgs d10.st) (L2.defBody d10.st) (L2.defScope d10.st) .none kV doc pm an cdv ct) d10.ent.ps 3 [] (permOf d10.ent.ps 3 []) := by
  intro s us ws zs _ h1 h2 h3 h4
  match us, ws, h1, h2 with
  | [a0, a1, a2], [], _, _ =>
    have e : zs = [a0, a1, a2] := (Option.some.inj h3).symm
    subst e
    exact .of_eq rfl
theorem pats10 {K : PySem.W.Frag} {kV doc pm cdv ct : Value} {an : Option Addr} : ∀ p ∈ d10.ent.pats, PatOk K (PySem.W.fnOf d10.ent.name d10.ent.name (L2.defArgs d10.st) (L2.defBody d10.st) (L2.defScope d10.st) .none kV doc pm an cdv ct) d10.ent.ps p.1 p.2 (permOf d10.ent.ps p.1 p.2) := List.forall_mem_cons.mpr ⟨pat10_0, fun _ h => absurd h List.not_mem_nil⟩
theorem pat11_0 {K : PySem.W.Frag} {kV doc pm cdv ct : Value} {an : Option Addr} : PatOk K (PySem.W.fnOf d11.ent.name d11.ent.name (L2.defArgs d11.st) (L2.defBody d11.st) (L2.defScope d11.st) .none kV doc pm an cdv ct) d11.ent.ps 3 [] (permOf d11.ent.ps 3 []) := by
  intro s us ws zs _ h1 h2 h3 h4
  match us, ws, h1, h2 with
  | [a0, a1, a2], [], _, _ =>
    have e : zs = [a0, a1, a2] := (Option.some.inj h3).symm
    subst e
    exact .of_eq rfl
theorem pat11_1 {K : PySem.W.Frag} {kV doc pm cdv ct : Value} {an : Option Addr} : PatOk K (PySem.W.fnOf d11.ent.name d11.ent.name (L2.defArgs d11.st) (L2.defBody d11.st) (L2.defScope d11.st) .none kV doc pm an cdv ct) d11.ent.ps 0 ["some", "bands", "house"] (permOf d11.ent.ps 0 ["some", "bands", "house"]) := by
  intro s us ws zs _ h1 h2 h3 h4
  match us, ws, h1, h2 with
  | [], [b0, b1, b2], _, _ =>
    have e : zs = [b2, b1, b0] := (Option.some.inj h3).symm
    subst e
    exact .of_eq rfl
theorem pats11 {K : PySem.W.Frag} {kV doc pm cdv ct : Value} {an : Option Addr} : ∀ p ∈ d11.ent.pats, PatOk K (PySem.W.fnOf d11.ent.name d11.ent.name (L2.defArgs d11.st) (L2.defBody d11.st) (L2.defScope d11.st) .none kV doc pm an cdv ct) d11.ent.ps p.1 p.2 (permOf d11.ent.ps p.1 p.2) := List.forall_mem_cons.mpr ⟨pat11_0, List.forall_mem_cons.mpr ⟨pat11_1, fun _ h => absurd h List.not_mem_nil⟩⟩
theorem pat12_0 {K : PySem.W.Frag} {kV doc pm cdv ct : Value} {an : Option Addr} : PatOk K (PySem.W.fnOf d12.ent.name d12.ent.name (L2.defArgs d12.st) (L2.defBody d12.st) (L2.defScope d12.st) .none kV doc pm an cdv ct) d12.ent.ps 3 [] (permOf d12.ent.ps 3 []) := by
  intro s us ws zs _ h1 h2 h3 h4
  match us, ws, h1, h2 with
  | [a0, a1, a2], [], _, _ =>
    have e : zs = [a0, a1, a2] := (Option.some.inj h3).symm
    subst e
    exact .of_eq rfl
theorem pat12_1 {K : PySem.W.Frag} {kV doc pm cdv ct : Value} {an : Option Addr} : PatOk K (PySem.W.fnOf d12.ent.name d12.ent.name (L2.defArgs d12.st) (L2.defBody d12.st) (L2.defScope d12.st) .none kV doc pm an cdv ct) d12.ent.ps 0 ["some", "bands", "house"] (permOf d12.ent.ps 0 ["some", "bands", "house"]) := by
  intro s us ws zs _ h1 h2 h3 h4
  match us, ws, h1, h2 with
  | [], [b0, b1, b2], _, _ =>
    have e : zs = [b2, b1, b0] := (Option.some.inj h3).symm
    subst e
    exact .of_eq rfl
theorem pats12 {K : PySem.W.Frag} {kV doc pm cdv ct : Value} {an : Option Addr} : ∀ p ∈ d12.ent.pats, PatOk K (PySem.W.fnOf d12.ent.name d12.ent.name (L2.defArgs d12.st) (L2.defBody d12.st) (L2.defScope d12.st) .none kV doc pm an cdv ct) d12.ent.ps p.1 p.2 (permOf d12.ent.ps p.1 p.2) := List.forall_mem_cons.mpr ⟨pat12_0, List.forall_mem_cons.mpr ⟨pat12_1, fun _ h => absurd h List.not_mem_nil⟩⟩
theorem pat14_0 {K : PySem.W.Frag} {kV doc pm cdv ct : Value} {an : Option Addr} : PatOk K (PySem.W.fnOf d14.ent.name d14.ent.name (L2.defArgs d14.st) (L2.defBody d14.st) (L2.defScope d14.st) .none kV doc pm an cdv ct) d14.ent.ps 2 [] (permOf d14.ent.ps 2 []) := by
  intro s us ws zs _ h1 h2 h3 h4
  match us, ws, h1, h2 with
  | [a0, a1], [], _, _ =>
    have e : zs = [a0, a1] := (Option.some.inj h3).symm
    subst e
    exact .of_eq rfl
theorem pats14 {K : PySem.W.Frag} {kV doc pm cdv ct : Value} {an : Option Addr} : ∀ p ∈ d14.ent.pats, PatOk K (PySem.W.fnOf d14.ent.name d14.ent.name (L2.defArgs d14.st) (L2.defBody d14.st) (L2.defScope d14.st) .none kV doc pm an cdv ct) d14.ent.ps p.1 p.2 (permOf d14.ent.ps p.1 p.2) := List.forall_mem_cons.mpr ⟨pat14_0, fun _ h => absurd h List.not_mem_nil⟩
theorem pat15_0 {K : PySem.W.Frag} {kV doc pm cdv ct : Value} {an : Option Addr} : PatOk K (PySem.W.fnOf d15.ent.name d15.ent.name (L2.defArgs d15.st) (L2.defBody d15.st) (L2.defScope d15.st) .none kV doc pm an cdv ct) d15.ent.ps 2 [] (permOf d15.ent.ps 2 []) := by
  intro s us ws zs _ h1 h2 h3 h4
  match us, ws, h1, h2 with
  | [a0, a1], [], _, _ =>
    have e : zs = [a0, a1] := (Option.some.inj h3).symm
    subst e
    exact .of_eq rfl
theorem pats15 {K : PySem.W.Frag} {kV doc pm cdv ct : Value} {an : Option Addr} : ∀ p ∈ d15.ent.pats, PatOk K (PySem.W.fnOf d15.ent.name d15.ent.name (L2.defArgs d15.st) (L2.defBody d15.st) (L2.defScope d15.st) .none kV doc pm an cdv ct) d15.ent.ps p.1 p.2 (permOf d15.ent.ps p.1 p.2) := List.forall_mem_cons.mpr ⟨pat15_0, fun _ h => absurd h List.not_mem_nil⟩
theorem pat16_0 {K : PySem.W.Frag} {kV doc pm cdv ct : Value} {an : Option Addr} : PatOk K (PySem.W.fnOf d16.ent.name d16.ent.name (L2.defArgs d16.st) (L2.defBody d16.st) (L2.defScope d16.st) .none kV doc pm an cdv ct) d16.ent.ps 2 [] (permOf d16.ent.ps 2 []) := by
  intro s us ws zs _ h1 h2 h3 h4
  match us, ws, h1, h2 with
  | [a0, a1], [], _, _ =>
    have e : zs = [a0, a1] := (Option.some.inj h3).symm
    subst e
    exact .of_eq rfl
theorem pats16 {K : PySem.W.Frag} {kV doc pm cdv ct : Value} {an : Option Addr} : ∀ p ∈ d16.ent.pats, PatOk K (PySem.W.fnOf d16.ent.name d16.ent.name (L2.defArgs d16.st) (L2.defBody d16.st) (L2.defScope d16.st) .none kV doc pm an cdv ct) d16.ent.ps p.1 p.2 (permOf d16.ent.ps p.1 p.2) := List.forall_mem_cons.mpr ⟨pat16_0, fun _ h => absurd h List.not_mem_nil⟩
theorem pat17_0 {K : PySem.W.Frag} {kV doc pm cdv ct : Value} {an : Option Addr} : PatOk K (PySem.W.fnOf d17.ent.name d17.ent.name (L2.defArgs d17.st) (L2.defBody d17.st) (L2.defScope d17.st) .none kV doc pm an cdv ct) d17.ent.ps 2 [] (permOf d17.ent.ps 2 []) := by
  intro s us ws zs _ h1 h2 h3 h4
  match us, ws, h1, h2 with
  | [a0, a1], [], _, _ =>
    have e : zs = [a0, a1] := (Option.some.inj h3).symm
    subst e
    exact .of_eq rfl
theorem pats17 {K : PySem.W.Frag} {kV doc pm cdv ct : Value} {an : Option Addr} : ∀ p ∈ d17.ent.pats, PatOk K (PySem.W.fnOf d17.ent.name d17.ent.name (L2.defArgs d17.st) (L2.defBody d17.st) (L2.defScope d17.st) .none kV doc pm an cdv ct) d17.ent.ps p.1 p.2 (permOf d17.ent.ps p.1 p.2) := List.forall_mem_cons.mpr ⟨pat17_0, fun _ h => absurd h List.not_mem_nil⟩
theorem pat18_0 {K : PySem.W.Frag} {kV doc pm cdv ct : Value} {an : Option Addr} : PatOk K (PySem.W.fnOf d18.ent.name d18.ent.name (L2.defArgs d18.st) (L2.defBody d18.st) (L2.defScope d18.st) .none kV doc pm an cdv ct) d18.ent.ps 1 [] (permOf d18.ent.ps 1 []) := by
  intro s us ws zs _ h1 h2 h3 h4
  match us, ws, h1, h2 with
  | [a0], [], _, _ =>
    have e : zs = [a0] := (Option.some.inj h3).symm
    subst e
    exact .of_eq rfl
theorem pats18 {K : PySem.W.Frag} {kV doc pm cdv ct : Value} {an : Option Addr} : ∀ p ∈ d18.ent.pats, PatOk K (PySem.W.fnOf d18.ent.name d18.ent.name (L2.defArgs d18.st) (L2.defBody d18.st) (L2.defScope d18.st) .none kV doc pm an cdv ct) d18.ent.ps p.1 p.2 (permOf d18.ent.ps p.1 p.2) := List.forall_mem_cons.mpr ⟨pat18_0, fun _ h => absurd h List.not_mem_nil⟩
theorem pat19_0 {K : PySem.W.Frag} {kV doc pm cdv ct : Value} {an : Option Addr} : PatOk K (PySem.W.fnOf d19.ent.name d19.ent.name (L2.defArgs d19.st) (L2.defBody d19.st) (L2.defScope d19.st) .none kV doc pm an cdv ct) d19.ent.ps 3 [] (permOf d19.ent.ps 3 []) := by
  intro s us ws zs _ h1 h2 h3 h4
  match us, ws, h1, h2 with
  | [a0, a1, a2], [], _, _ =>
    have e : zs = [a0, a1, a2] := (Option.some.inj h3).symm
    subst e
    exact .of_eq rfl
theorem pats19 {K : PySem.W.Frag} {kV doc pm cdv ct : Value} {an : Option Addr} : ∀ p ∈ d19.ent.pats, PatOk K (PySem.W.fnOf d19.ent.name d19.ent.name (L2.defArgs d19.st) (L2.defBody d19.st) (L2.defScope d19.st) .none kV doc pm an cdv ct) d19.ent.ps p.1 p.2 (permOf d19.ent.ps p.1 p.2) := List.forall_mem_cons.mpr ⟨pat19_0, fun _ h => absurd h List.not_mem_nil⟩
theorem pat20_0 {K : PySem.W.Frag} {kV doc pm cdv ct : Value} {an : Option Addr} : PatOk K (PySem.W.fnOf d20.ent.name d20.ent.name (L2.defArgs d20.st) (L2.defBody d20.st) (L2.defScope d20.st) .none kV doc pm an cdv ct) d20.ent.ps 3 [] (permOf d20.ent.ps 3 []) := by
  intro s us ws zs _ h1 h2 h3 h4
  match us, ws, h1, h2 with
  | [a0, a1, a2], [], _, _ =>
    have e : zs = [a0, a1, a2] := (Option.some.inj h3).symm
    subst e
    exact .of_eq rfl
theorem pats20 {K : PySem.W.Frag} {kV doc pm cdv ct : Value} {an : Option Addr} : ∀ p ∈ d20.ent.pats, PatOk K (PySem.W.fnOf d20.ent.name d20.ent.name (L2.defArgs d20.st) (L2.defBody d20.st) (L2.defScope d20.st) .none kV doc pm an cdv ct) d20.ent.ps p.1 p.2 (permOf d20.ent.ps p.1 p.2) := List.forall_mem_cons.mpr ⟨pat20_0, fun _ h => absurd h List.not_mem_nil⟩
theorem pat21_0 {K : PySem.W.Frag} {kV doc pm cdv ct : Value} {an : Option Addr} : PatOk K (PySem.W.fnOf d21.ent.name d21.ent.name (L2.defArgs d21.st) (L2.defBody d21.st) (L2.defScope d21.st) .none kV doc pm an cdv ct) d21.ent.ps 1 [] (permOf d21.ent.ps 1 []) := by
  intro s us ws zs _ h1 h2 h3 h4
  match us, ws, h1, h2 with
  | [a0], [], _, _ =>
    have e : zs = [a0] := (Option.some.inj h3).symm
    subst e
    exact .of_eq rfl
theorem pats21 {K : PySem.W.Frag} {kV doc pm cdv ct : Value} {an : Option Addr} : ∀ p ∈ d21.ent.pats, PatOk K (PySem.W.fnOf d21.ent.name d21.ent.name (L2.defArgs d21.st) (L2.defBody d21.st) (L2.defScope d21.st) .none kV doc pm an cdv ct) d21.ent.ps p.1 p.2 (permOf d21.ent.ps p.1 p.2) := List.forall_mem_cons.mpr ⟨pat21_0, fun _ h => absurd h List.not_mem_nil⟩
theorem pat22_0 {K : PySem.W.Frag} {kV doc pm cdv ct : Value} {an : Option Addr} : PatOk K (PySem.W.fnOf d22.ent.name d22.ent.name (L2.defArgs d22.st) (L2.defBody d22.st) (L2.defScope d22.st) .none kV doc pm an cdv ct) d22.ent.ps 2 [] (permOf d22.ent.ps 2 []) := by
  intro s us ws zs _ h1 h2 h3 h4
  match us, ws, h1, h2 with
  | [a0, a1], [], _, _ =>
    have e : zs = [a0, a1] := (Option.some.inj h3).symm
    subst e
    exact .of_eq rfl
theorem pats22 {K : PySem.W.Frag} {kV doc pm cdv ct : Value} {an : Option Addr} : ∀ p ∈ d22.ent.pats, PatOk K (PySem.W.fnOf d22.ent.name d22.ent.name (L2.defArgs d22.st) (L2.defBody d22.st) (L2.defScope d22.st) .none kV doc pm an cdv ct) d22.ent.ps p.1 p.2 (permOf d22.ent.ps p.1 p.2) := List.forall_mem_cons.mpr ⟨pat22_0, fun _ h => absurd h List.not_mem_nil⟩
theorem pat23_0 {K : PySem.W.Frag} {kV doc pm cdv ct : Value} {an : Option Addr} : PatOk K (PySem.W.fnOf d23.ent.name d23.ent.name (L2.defArgs d23.st) (L2.defBody d23.st) (L2.defScope d23.st) .none kV doc pm an cdv ct) d23.ent.ps 3 [] (permOf d23.ent.ps 3 []) := by
  intro s us ws zs _ h1 h2 h3 h4
  match us, ws, h1, h2 with
  | [a0, a1, a2], [], _, _ =>
    have e : zs = [a0, a1, a2] := (Option.some.inj h3).symm
    subst e
    exact .of_eq rfl
theorem pats23 {K : PySem.W.Frag} {kV doc pm cdv ct : Value} {an : Option Addr} : ∀ p ∈ d23.ent.pats, PatOk K (PySem.W.fnOf d23.ent.name d23.ent.name (L2.defArgs d23.st) (L2.defBody d23.st) (L2.defScope d23.st) .none kV doc pm an cdv ct) d23.ent.ps p.1 p.2 (permOf d23.ent.ps p.1 p.2) := List.forall_mem_cons.mpr ⟨pat23_0, fun _ h => absurd h List.not_mem_nil⟩
theorem pat24_0 {K : PySem.W.Frag} {kV doc pm cdv ct : Value} {an : Option Addr} : PatOk K (PySem.W.fnOf d24.ent.name d24.ent.name (L2.defArgs d24.st) (L2.defBody d24.st) (L2.defScope d24.st) .none kV doc pm an cdv ct) d24.ent.ps 4 [] (permOf d24.ent.ps 4 []) := by
  intro s us ws zs _ h1 h2 h3 h4
  match us, ws, h1, h2 with
  | [a0, a1, a2, a3], [], _, _ =>
    have e : zs = [a0, a1, a2, a3] := (Option.some.inj h3).symm
    subst e
    exact .of_eq rfl
theorem pats24 {K : PySem.W.Frag} {kV doc pm cdv ct : Value} {an : Option Addr} : ∀ p ∈ d24.ent.pats, PatOk K (PySem.W.fnOf d24.ent.name d24.ent.name (L2.defArgs d24.st) (L2.defBody d24.st) (L2.defScope d24.st) .none kV doc pm an cdv ct) d24.ent.ps p.1 p.2 (permOf d24.ent.ps p.1 p.2) := List.forall_mem_cons.mpr ⟨pat24_0, fun _ h => absurd h List.not_mem_nil⟩
theorem pat25_0 {K : PySem.W.Frag} {kV doc pm cdv ct : Value} {an : Option Addr} : PatOk K (PySem.W.fnOf d25.ent.name d25.ent.name (L2.defArgs d25.st) (L2.defBody d25.st) (L2.defScope d25.st) .none kV doc pm an cdv ct) d25.ent.ps 3 [] (permOf d25.ent.ps 3 []) := by
  intro s us ws zs _ h1 h2 h3 h4
  match us, ws, h1, h2 with
  | [a0, a1, a2], [], _, _ =>
    have e : zs = [a0, a1, a2] := (Option.some.inj h3).symm
    subst e
    exact .of_eq rfl
theorem pats25 {K : PySem.W.Frag} {kV doc pm cdv ct : Value} {an : Option Addr} : ∀ p ∈ d25.ent.pats, PatOk K (PySem.W.fnOf d25.ent.name d25.ent.name (L2.defArgs d25.st) (L2.defBody d25.st) (L2.defScope d25.st) .none kV doc pm an cdv ct) d25.ent.ps p.1 p.2 (permOf d25.ent.ps p.1 p.2) := List.forall_mem_cons.mpr ⟨pat25_0, fun _ h => absurd h List.not_mem_nil⟩
theorem pat26_0 {K : PySem.W.Frag} {kV doc pm cdv ct : Value} {an : Option Addr} : PatOk K (PySem.W.fnOf d26.ent.name d26.ent.name (L2.defArgs d26.st) (L2.defBody d26.st) (L2.defScope d26.st) .none kV doc pm an cdv ct) d26.ent.ps 0 [] (permOf d26.ent.ps 0 []) := by
  intro s us ws zs _ h1 h2 h3 h4
  match us, ws, h1, h2 with
  | [], [], _, _ =>
    have e : zs = [] := (Option.some.inj h3).symm
    subst e
    exact .of_eq rfl
theorem pats26 {K : PySem.W.Frag} {kV doc pm cdv ct : Value} {an : Option Addr} : ∀ p ∈ d26.ent.pats, PatOk K (PySem.W.fnOf d26.ent.name d26.ent.name (L2.defArgs d26.st) (L2.defBody d26.st) (L2.defScope d26.st) .none kV doc pm an cdv ct) d26.ent.ps p.1 p.2 (permOf d26.ent.ps p.1 p.2) := List.forall_mem_cons.mpr ⟨pat26_0, fun _ h => absurd h List.not_mem_nil⟩
theorem pat27_0 {K : PySem.W.Frag} {kV doc pm cdv ct : Value} {an : Option Addr} : PatOk K (PySem.W.fnOf d27.ent.name d27.ent.name (L2.defArgs d27.st) (L2.defBody d27.st) (L2.defScope d27.st) .none kV doc pm an cdv ct) d27.ent.ps 3 [] (permOf d27.ent.ps 3 []) := by
  intro s us ws zs _ h1 h2 h3 h4
  match us, ws, h1, h2 with
  | [a0, a1, a2], [], _, _ =>
    have e : zs = [a0, a1, a2] := (Option.some.inj h3).symm
    subst e
    exact .of_eq rfl
theorem pats27 {K : PySem.W.Frag} {kV doc pm cdv ct : Value} {an : Option Addr} : ∀ p ∈ d27.ent.pats, PatOk K (PySem.W.fnOf d27.ent.name d27.ent.name (L2.defArgs d27.st) (L2.defBody d27.st) (L2.defScope d27.st) .none kV doc pm an cdv ct) d27.ent.ps p.1 p.2 (permOf d27.ent.ps p.1 p.2) := List.forall_mem_cons.mpr ⟨pat27_0, fun _ h => absurd h List.not_mem_nil⟩
theorem pat28_0 {K : PySem.W.Frag} {kV doc pm cdv ct : Value} {an : Option Addr} : PatOk K (PySem.W.fnOf d28.ent.name d28.ent.name (L2.defArgs d28.st) (L2.defBody d28.st) (L2.defScope d28.st) .none kV doc pm an cdv ct) d28.ent.ps 2 [] (permOf d28.ent.ps 2 []) := by
  intro s us ws zs _ h1 h2 h3 h4
  match us, ws, h1, h2 with
  | [a0, a1], [], _, _ =>
    have e : zs = [a0, a1] := (Option.some.inj h3).symm
    subst e
    exact .of_eq rfl
theorem pats28 {K : PySem.W.Frag} {kV doc pm cdv ct : Value} {an : Option Addr} : ∀ p ∈ d28.ent.pats, PatOk K (PySem.W.fnOf d28.ent.name d28.ent.name (L2.defArgs d28.st) (L2.defBody d28.st) (L2.defScope d28.st) .none kV doc pm an cdv ct) d28.ent.ps p.1 p.2 (permOf d28.ent.ps p.1 p.2) := List.forall_mem_cons.mpr ⟨pat28_0, fun _ h => absurd h List.not_mem_nil⟩
theorem pat29_0 {K : PySem.W.Frag} {kV doc pm cdv ct : Value} {an : Option Addr} : PatOk K (PySem.W.fnOf d29.ent.name d29.ent.name (L2.defArgs d29.st) (L2.defBody d29.st) (L2.defScope d29.st) .none kV doc pm an cdv ct) d29.ent.ps 0 [] (permOf d29.ent.ps 0 []) := by
  intro s us ws zs _ h1 h2 h3 h4
  match us, ws, h1, h2 with
  | [], [], _, _ =>
    have e : zs = [] := (Option.some.inj h3).symm
    subst e
    exact .of_eq rfl
theorem pats29 {K : PySem.W.Frag} {kV doc pm cdv ct : Value} {an : Option Addr} : ∀ p ∈ d29.ent.pats, PatOk K (PySem.W.fnOf d29.ent.name d29.ent.name (L2.defArgs d29.st) (L2.defBody d29.st) (L2.defScope d29.st) .none kV doc pm an cdv ct) d29.ent.ps p.1 p.2 (permOf d29.ent.ps p.1 p.2) := List.forall_mem_cons.mpr ⟨pat29_0, fun _ h => absurd h List.not_mem_nil⟩
theorem pat30_0 {K : PySem.W.Frag} {kV doc pm cdv ct : Value} {an : Option Addr} : PatOk K (PySem.W.fnOf d30.ent.name d30.ent.name (L2.defArgs d30.st) (L2.defBody d30.st) (L2.defScope d30.st) .none kV doc pm an cdv ct) d30.ent.ps 1 [] (permOf d30.ent.ps 1 []) := by
  intro s us ws zs _ h1 h2 h3 h4
  match us, ws, h1, h2 with
  | [a0], [], _, _ =>
    have e : zs = [a0] := (Option.some.inj h3).symm
    subst e
    exact .of_eq rfl
theorem pats30 {K : PySem.W.Frag} {kV doc pm cdv ct : Value} {an : Option Addr} : ∀ p ∈ d30.ent.pats, PatOk K (PySem.W.fnOf d30.ent.name d30.ent.name (L2.defArgs d30.st) (L2.defBody d30.st) (L2.defScope d30.st) .none kV doc pm an cdv ct) d30.ent.ps p.1 p.2 (permOf d30.ent.ps p.1 p.2) := List.forall_mem_cons.mpr ⟨pat30_0, fun _ h => absurd h List.not_mem_nil⟩
theorem pats31 {K : PySem.W.Frag} {kV doc pm cdv ct : Value} {an : Option Addr} : ∀ p ∈ d31.ent.pats, PatOk K (PySem.W.fnOf d31.ent.name d31.ent.name (L2.defArgs d31.st) (L2.defBody d31.st) (L2.defScope d31.st) .none kV doc pm an cdv ct) d31.ent.ps p.1 p.2 (permOf d31.ent.ps p.1 p.2) := fun _ h => absurd h List.not_mem_nil
theorem endS : ∀ d ∈ ds, L2.FnScope d.N d.ent.ps (L2.defScope d.st) := List.forall_mem_cons.mpr ⟨sc1, List.forall_mem_cons.mpr ⟨sc2, List.forall_mem_cons.mpr ⟨sc3, List.forall_mem_cons.mpr ⟨sc5, List.forall_mem_cons.mpr ⟨sc7, List.forall_mem_cons.mpr ⟨sc9, List.forall_mem_cons.mpr ⟨sc10, List.forall_mem_cons.mpr ⟨sc11, List.forall_mem_cons.mpr ⟨sc12, List.forall_mem_cons.mpr ⟨sc14, List.forall_mem_cons.mpr ⟨sc15, List.forall_mem_cons.mpr ⟨sc16, List.forall_mem_cons.mpr ⟨sc17, List.forall_mem_cons.mpr ⟨sc18, List.forall_mem_cons.mpr ⟨sc19, List.forall_mem_cons.mpr ⟨sc20, List.forall_mem_cons.mpr ⟨sc21, List.forall_mem_cons.mpr ⟨sc22, List.forall_mem_cons.mpr ⟨sc23, List.forall_mem_cons.mpr ⟨sc24, List.forall_mem_cons.mpr ⟨sc25, List.forall_mem_cons.mpr ⟨sc26, List.forall_mem_cons.mpr ⟨sc27, List.forall_mem_cons.mpr ⟨sc28, List.forall_mem_cons.mpr ⟨sc29, List.forall_mem_cons.mpr ⟨sc30, List.forall_mem_cons.mpr ⟨sc31, fun _ h => absurd h List.not_mem_nil⟩⟩⟩⟩⟩⟩⟩⟩⟩⟩⟩⟩⟩⟩⟩⟩⟩⟩⟩⟩⟩⟩⟩⟩⟩⟩⟩
theorem endT : ∀ d ∈ ds, ∃ fn, T d.ent.id = some fn ∧ FnIs G B Cs d fn := List.forall_mem_cons.mpr ⟨⟨f1, rfl, is1⟩, List.forall_mem_cons.mpr ⟨⟨f2, rfl, is2⟩, List.forall_mem_cons.mpr ⟨⟨f3, rfl, is3⟩, List.forall_mem_cons.mpr ⟨⟨f5, rfl, is5⟩, List.forall_mem_cons.mpr ⟨⟨f7, rfl, is7⟩, List.forall_mem_cons.mpr ⟨⟨f9, rfl, is9⟩, List.forall_mem_cons.mpr ⟨⟨f10, rfl, is10⟩, List.forall_mem_cons.mpr ⟨⟨f11, rfl, is11⟩, List.forall_mem_cons.mpr ⟨⟨f12, rfl, is12⟩, List.forall_mem_cons.mpr ⟨⟨f14, rfl, is14⟩, List.forall_mem_cons.mpr ⟨⟨f15, rfl, is15⟩, List.forall_mem_cons.mpr ⟨⟨f16, rfl, is16⟩, List.forall_mem_cons.mpr ⟨⟨f17, rfl, is17⟩, List.forall_mem_cons.mpr ⟨⟨f18, rfl, is18⟩, List.forall_mem_cons.mpr ⟨⟨f19, rfl, is19⟩, List.forall_mem_cons.mpr ⟨⟨f20, rfl, is20⟩, List.forall_mem_cons.mpr ⟨⟨f21, rfl, is21⟩, List.forall_mem_cons.mpr ⟨⟨f22, rfl, is22⟩, List.forall_mem_cons.mpr ⟨⟨f23, rfl, is23⟩, List.forall_mem_cons.mpr ⟨⟨f24, rfl, is24⟩, List.forall_mem_cons.mpr ⟨⟨f25, rfl, is25⟩, List.forall_mem_cons.mpr ⟨⟨f26, rfl, is26⟩, List.forall_mem_cons.mpr ⟨⟨f27, rfl, is27⟩, List.forall_mem_cons.mpr ⟨⟨f28, rfl, is28⟩, List.forall_mem_cons.mpr ⟨⟨f29, rfl, is29⟩, List.forall_mem_cons.mpr ⟨⟨f30, rfl, is30⟩, List.forall_mem_cons.mpr ⟨⟨f31, rfl, is31⟩, fun _ h => absurd h List.not_mem_nil⟩⟩⟩⟩⟩⟩⟩⟩⟩⟩⟩⟩⟩⟩⟩⟩⟩⟩⟩⟩⟩⟩⟩⟩⟩⟩⟩
theorem endG : ∀ e ∈ G, ∃ d ∈ ds, d.ent = e := List.forall_mem_cons.mpr ⟨⟨d1, List.mem_of_getElem? (i := 0) rfl, rfl⟩, List.forall_mem_cons.mpr ⟨⟨d2, List.mem_of_getElem? (i := 1) rfl, rfl⟩, List.forall_mem_cons.mpr ⟨⟨d3, List.mem_of_getElem? (i := 2) rfl, rfl⟩, List.forall_mem_cons.mpr ⟨⟨d5, List.mem_of_getElem? (i := 3) rfl, rfl⟩, List.forall_mem_cons.mpr ⟨⟨d7, List.mem_of_getElem? (i := 4) rfl, rfl⟩, List.forall_mem_cons.mpr ⟨⟨d9, List.mem_of_getElem? (i := 5) rfl, rfl⟩, List.forall_mem_cons.mpr ⟨⟨d10, List.mem_of_getElem? (i := 6) rfl, rfl⟩, List.forall_mem_cons.mpr ⟨⟨d11, List.mem_of_getElem? (i := 7) rfl, rfl⟩, List.forall_mem_cons.mpr ⟨⟨d12, List.mem_of_getElem? (i := 8) rfl, rfl⟩, List.forall_mem_cons.mpr ⟨⟨d14, List.mem_of_getElem? (i := 9) rfl, rfl⟩, List.forall_mem_cons.mpr ⟨⟨d15, List.mem_of_getElem? (i := 10) rfl, rfl⟩, List.forall_mem_cons.mpr ⟨⟨d16, List.mem_of_getElem? (i := 11) rfl, rfl⟩, List.forall_mem_cons.mpr ⟨⟨d17, List.mem_of_getElem? (i := 12) rfl, rfl⟩, List.forall_mem_cons.mpr ⟨⟨d18, List.mem_of_getElem? (i := 13) rfl, rfl⟩, List.forall_mem_cons.mpr ⟨⟨d19, List.mem_of_getElem? (i := 14) rfl, rfl⟩, List.forall_mem_cons.mpr ⟨⟨d20, List.mem_of_getElem? (i := 15) rfl, rfl⟩, List.forall_mem_cons.mpr ⟨⟨d21, List.mem_of_getElem? (i := 16) rfl, rfl⟩, List.forall_mem_cons.mpr ⟨⟨d22, List.mem_of_getElem? (i := 17) rfl, rfl⟩, List.forall_mem_cons.mpr ⟨⟨d23, List.mem_of_getElem? (i := 18) rfl, rfl⟩, List.forall_mem_cons.mpr ⟨⟨d24, List.mem_of_getElem? (i := 19) rfl, rfl⟩, List.forall_mem_cons.mpr ⟨⟨d25, List.mem_of_getElem? (i := 20) rfl, rfl⟩, List.forall_mem_cons.mpr ⟨⟨d26, List.mem_of_getElem? (i := 21) rfl, rfl⟩, List.forall_mem_cons.mpr ⟨⟨d27, List.mem_of_getElem? (i := 22) rfl, rfl⟩, List.forall_mem_cons.mpr ⟨⟨d28, List.mem_of_getElem? (i := 23) rfl, rfl⟩, List.forall_mem_cons.mpr ⟨⟨d29, List.mem_of_getElem? (i := 24) rfl, rfl⟩, List.forall_mem_cons.mpr ⟨⟨d30, List.mem_of_getElem? (i := 25) rfl, rfl⟩, List.forall_mem_cons.mpr ⟨⟨d31, List.mem_of_getElem? (i := 26) rfl, rfl⟩, fun _ h => absurd h List.not_mem_nil⟩⟩⟩⟩⟩⟩⟩⟩⟩⟩⟩⟩⟩⟩⟩⟩⟩⟩⟩⟩⟩⟩⟩⟩⟩⟩⟩
theorem endB : ∀ (kV doc pm cdv ct : Value) (an : Option Addr) (s : Shared) (v : Value), BindsTo s (PySem.W.fnOf d31.ent.name d31.ent.name (L2.defArgs d31.st) (L2.defBody d31.st) (L2.defScope d31.st) .none kV doc pm an cdv ct) ⟨[v], []⟩ [("_law_script", v)] := fun _ _ _ _ _ _ _ _ => .of_eq rfl
end Lk60
set_option Elab.async false
set_option linter.all false
set_option maxRecDepth 100000
set_option maxHeartbeats 0
open PySem PySem.W PyProof.Rows
set_option maxHeartbeats 0 in
theorem PySem.Challenge.cw_locksforsome_k60_the_greatest_set_within_holds : PySem.Challenge.rw_locksforsome_k60_the_greatest_set_within.Holds := by
  w_on; o_law; k_head; (case hw => w_witness2)
  k_fill
  refine LamX.walk_ofTs (l := PySem.Challenge.rw_locksforsome_k60_the_greatest_set_within) (n := 63) (k := 14) (x := "_law_script") (CX := fun w => L2.CX PySem.Challenge.rw_locksforsome_k60_the_greatest_set_within.prog w) rfl (by decide) rfl ⟨rfl, by decide, by decide⟩ (fun w h Y => PySem.W.kIn_of Y) ?F (fun _ _ _ _ _ h => LK.cx_none h)
  case F =>
    intro w mg fa h Y _ G hmg
    have KX := PySem.W.kIn_of Y
    letI : LK.Tt := ⟨[], []⟩
    have D1 : LK.DefAtX KX mg Lk60.d1 := by
      refine' LK.defAt_of (LK.defFor_mk Lk60.d1 KX G ?a ?l ?c Lk60.pats1) rfl
      (case a => k_is); (case l => k_is); (case c => k_is)
    have D2 : LK.DefAtX KX mg Lk60.d2 := by
      refine' LK.defAt_of (LK.defFor_mk Lk60.d2 KX G ?a ?l ?c Lk60.pats2) rfl
      (case a => k_is); (case l => k_is); (case c => k_is)
    have D3 : LK.DefAtX KX mg Lk60.d3 := by
      refine' LK.defAt_of (LK.defFor_mk Lk60.d3 KX G ?a ?l ?c Lk60.pats3) rfl
      (case a => k_is); (case l => k_is); (case c => k_is)
    have D5 : LK.DefAtX KX mg Lk60.d5 := by
      refine' LK.defAt_of (LK.defFor_mk Lk60.d5 KX G ?a ?l ?c Lk60.pats5) rfl
      (case a => k_is); (case l => k_is); (case c => k_is)
    have D7 : LK.DefAtX KX mg Lk60.d7 := by
      refine' LK.defAt_of (LK.defFor_mk Lk60.d7 KX G ?a ?l ?c Lk60.pats7) rfl
      (case a => k_is); (case l => k_is); (case c => k_is)
    have D9 : LK.DefAtX KX mg Lk60.d9 := by
      refine' LK.defAt_of (LK.defFor_mk Lk60.d9 KX G ?a ?l ?c Lk60.pats9) rfl
      (case a => k_is); (case l => k_is); (case c => k_is)
    have D10 : LK.DefAtX KX mg Lk60.d10 := by
      refine' LK.defAt_of (LK.defFor_mk Lk60.d10 KX G ?a ?l ?c Lk60.pats10) rfl
      (case a => k_is); (case l => k_is); (case c => k_is)
    have D11 : LK.DefAtX KX mg Lk60.d11 := by
      refine' LK.defAt_of (LK.defFor_mk Lk60.d11 KX G ?a ?l ?c Lk60.pats11) rfl
      (case a => k_is); (case l => k_is); (case c => k_is)
    have D12 : LK.DefAtX KX mg Lk60.d12 := by
      refine' LK.defAt_of (LK.defFor_mk Lk60.d12 KX G ?a ?l ?c Lk60.pats12) rfl
      (case a => k_is); (case l => k_is); (case c => k_is)
    have D14 : LK.DefAtX KX mg Lk60.d14 := by
      refine' LK.defAt_of (LK.defFor_mk Lk60.d14 KX G ?a ?l ?c Lk60.pats14) rfl
      (case a => k_is); (case l => k_is); (case c => k_is)
    have D15 : LK.DefAtX KX mg Lk60.d15 := by
      refine' LK.defAt_of (LK.defFor_mk Lk60.d15 KX G ?a ?l ?c Lk60.pats15) rfl
      (case a => k_is); (case l => k_is); (case c => k_is)
    have D16 : LK.DefAtX KX mg Lk60.d16 := by
      refine' LK.defAt_of (LK.defFor_mk Lk60.d16 KX G ?a ?l ?c Lk60.pats16) rfl
      (case a => k_is); (case l => k_is); (case c => k_is)
    have D17 : LK.DefAtX KX mg Lk60.d17 := by
      refine' LK.defAt_of (LK.defFor_mk Lk60.d17 KX G ?a ?l ?c Lk60.pats17) rfl
      (case a => k_is); (case l => k_is); (case c => k_is)
    have D18 : LK.DefAtX KX mg Lk60.d18 := by
      refine' LK.defAt_of (LK.defFor_mk Lk60.d18 KX G ?a ?l ?c Lk60.pats18) rfl
      (case a => k_is); (case l => k_is); (case c => k_is)
    have D19 : LK.DefAtX KX mg Lk60.d19 := by
      refine' LK.defAt_of (LK.defFor_mk Lk60.d19 KX G ?a ?l ?c Lk60.pats19) rfl
      (case a => k_is); (case l => k_is); (case c => k_is)
    have D20 : LK.DefAtX KX mg Lk60.d20 := by
      refine' LK.defAt_of (LK.defFor_mk Lk60.d20 KX G ?a ?l ?c Lk60.pats20) rfl
      (case a => k_is); (case l => k_is); (case c => k_is)
    have D21 : LK.DefAtX KX mg Lk60.d21 := by
      refine' LK.defAt_of (LK.defFor_mk Lk60.d21 KX G ?a ?l ?c Lk60.pats21) rfl
      (case a => k_is); (case l => k_is); (case c => k_is)
    have D22 : LK.DefAtX KX mg Lk60.d22 := by
      refine' LK.defAt_of (LK.defFor_mk Lk60.d22 KX G ?a ?l ?c Lk60.pats22) rfl
      (case a => k_is); (case l => k_is); (case c => k_is)
    have D23 : LK.DefAtX KX mg Lk60.d23 := by
      refine' LK.defAt_of (LK.defFor_mk Lk60.d23 KX G ?a ?l ?c Lk60.pats23) rfl
      (case a => k_is); (case l => k_is); (case c => k_is)
    have D24 : LK.DefAtX KX mg Lk60.d24 := by
      refine' LK.defAt_of (LK.defFor_mk Lk60.d24 KX G ?a ?l ?c Lk60.pats24) rfl
      (case a => k_is); (case l => k_is); (case c => k_is)
    have D25 : LK.DefAtX KX mg Lk60.d25 := by
      refine' LK.defAt_of (LK.defFor_mk Lk60.d25 KX G ?a ?l ?c Lk60.pats25) rfl
      (case a => k_is); (case l => k_is); (case c => k_is)
    have D26 : LK.DefAtX KX mg Lk60.d26 := by
      refine' LK.defAt_of (LK.defFor_mk Lk60.d26 KX G ?a ?l ?c Lk60.pats26) rfl
      (case a => k_is); (case l => k_is); (case c => k_is)
    have D27 : LK.DefAtX KX mg Lk60.d27 := by
      refine' LK.defAt_of (LK.defFor_mk Lk60.d27 KX G ?a ?l ?c Lk60.pats27) rfl
      (case a => k_is); (case l => k_is); (case c => k_is)
    have D28 : LK.DefAtX KX mg Lk60.d28 := by
      refine' LK.defAt_of (LK.defFor_mk Lk60.d28 KX G ?a ?l ?c Lk60.pats28) rfl
      (case a => k_is); (case l => k_is); (case c => k_is)
    have D29 : LK.DefAtX KX mg Lk60.d29 := by
      refine' LK.defAt_of (LK.defFor_mk Lk60.d29 KX G ?a ?l ?c Lk60.pats29) rfl
      (case a => k_is); (case l => k_is); (case c => k_is)
    have D30 : LK.DefAtX KX mg Lk60.d30 := by
      refine' LK.defAt_of (LK.defFor_mk Lk60.d30 KX G ?a ?l ?c Lk60.pats30) rfl
      (case a => k_is); (case l => k_is); (case c => k_is)
    have D31 : LK.DefAtX KX mg Lk60.d31 := by
      refine' LK.defAt_of (LK.defFor_mk Lk60.d31 KX G ?a ?l ?c Lk60.pats31) rfl
      (case a => k_is); (case l => k_is); (case c => k_is)
    have z0 : mg "isinstance" = none := by
      refine' PySem.W.mg_none_of KX G ?z
      (case z => k_is)
    have z1 : mg "tuple" = none := by
      refine' PySem.W.mg_none_of KX G ?z
      (case z => k_is)
    have z2 : mg "list" = none := by
      refine' PySem.W.mg_none_of KX G ?z
      (case z => k_is)
    have z3 : mg "sorted" = none := by
      refine' PySem.W.mg_none_of KX G ?z
      (case z => k_is)
    have z4 : mg "set" = none := by
      refine' PySem.W.mg_none_of KX G ?z
      (case z => k_is)
    have z5 : mg "enumerate" = none := by
      refine' PySem.W.mg_none_of KX G ?z
      (case z => k_is)
    have z6 : mg "any" = none := by
      refine' PySem.W.mg_none_of KX G ?z
      (case z => k_is)
    have z7 : mg "len" = none := by
      refine' PySem.W.mg_none_of KX G ?z
      (case z => k_is)
    have z8 : mg "abs" = none := by
      refine' PySem.W.mg_none_of KX G ?z
      (case z => k_is)
    have z9 : mg "int" = none := by
      refine' PySem.W.mg_none_of KX G ?z
      (case z => k_is)
    have z10 : mg "all" = none := by
      refine' PySem.W.mg_none_of KX G ?z
      (case z => k_is)
    have z11 : mg "bool" = none := by
      refine' PySem.W.mg_none_of KX G ?z
      (case z => k_is)
    have z12 : mg "str" = none := by
      refine' PySem.W.mg_none_of KX G ?z
      (case z => k_is)
    have z13 : mg "zip" = none := by
      refine' PySem.W.mg_none_of KX G ?z
      (case z => k_is)
    have z14 : mg "range" = none := by
      refine' PySem.W.mg_none_of KX G ?z
      (case z => k_is)
    exact LK.law_end (l := PySem.Challenge.rw_locksforsome_k60_the_greatest_set_within) (T := Lk60.T) (G := Lk60.G) (B := Lk60.B) (Cs := Lk60.Cs) (ds := Lk60.ds) (dL := Lk60.d31) (fL := Lk60.f31) (k := 14) (by kernel_rfl) hmg (List.mem_of_getElem? (i := 26) rfl) rfl rfl rfl (List.forall_mem_cons.mpr ⟨D1, List.forall_mem_cons.mpr ⟨D2, List.forall_mem_cons.mpr ⟨D3, List.forall_mem_cons.mpr ⟨D5, List.forall_mem_cons.mpr ⟨D7, List.forall_mem_cons.mpr ⟨D9, List.forall_mem_cons.mpr ⟨D10, List.forall_mem_cons.mpr ⟨D11, List.forall_mem_cons.mpr ⟨D12, List.forall_mem_cons.mpr ⟨D14, List.forall_mem_cons.mpr ⟨D15, List.forall_mem_cons.mpr ⟨D16, List.forall_mem_cons.mpr ⟨D17, List.forall_mem_cons.mpr ⟨D18, List.forall_mem_cons.mpr ⟨D19, List.forall_mem_cons.mpr ⟨D20, List.forall_mem_cons.mpr ⟨D21, List.forall_mem_cons.mpr ⟨D22, List.forall_mem_cons.mpr ⟨D23, List.forall_mem_cons.mpr ⟨D24, List.forall_mem_cons.mpr ⟨D25, List.forall_mem_cons.mpr ⟨D26, List.forall_mem_cons.mpr ⟨D27, List.forall_mem_cons.mpr ⟨D28, List.forall_mem_cons.mpr ⟨D29, List.forall_mem_cons.mpr ⟨D30, List.forall_mem_cons.mpr ⟨D31, fun _ h => absurd h List.not_mem_nil⟩⟩⟩⟩⟩⟩⟩⟩⟩⟩⟩⟩⟩⟩⟩⟩⟩⟩⟩⟩⟩⟩⟩⟩⟩⟩⟩) Lk60.endS Lk60.endG Lk60.endT (List.forall_mem_cons.mpr ⟨z0, List.forall_mem_cons.mpr ⟨z1, List.forall_mem_cons.mpr ⟨z2, List.forall_mem_cons.mpr ⟨z3, List.forall_mem_cons.mpr ⟨z4, List.forall_mem_cons.mpr ⟨z5, List.forall_mem_cons.mpr ⟨z6, List.forall_mem_cons.mpr ⟨z7, List.forall_mem_cons.mpr ⟨z8, List.forall_mem_cons.mpr ⟨z9, List.forall_mem_cons.mpr ⟨z10, List.forall_mem_cons.mpr ⟨z11, List.forall_mem_cons.mpr ⟨z12, List.forall_mem_cons.mpr ⟨z13, List.forall_mem_cons.mpr ⟨z14, fun _ h => absurd h List.not_mem_nil⟩⟩⟩⟩⟩⟩⟩⟩⟩⟩⟩⟩⟩⟩⟩) (fun _ h => absurd h List.not_mem_nil) Lk60.endB (fun _ h => absurd h List.not_mem_nil) (fun _ h => absurd h List.not_mem_nil) (LK.xs_none (by decide +kernel)) Lk60.plain
