import PyProof.Rows.All
import Wide.All
import OpenK.AllK
import Wide.FinOn
import HandS.ForMost
import HandS.Star
import HandS.Wide
import HandS.TupAny
import HandS.Conv
import HandS.Deep
import KE.KDictKeyed
import KE.KDictDisplayH
import HandS.EndTab
import HandS.AnyAll
import KE.SortData
import HandS.List
import HandS.IsInst
import HandS.TupMul
import HandS.TupSets
import HandS.Set
import KE.KDictCopyH
import KE.SortKeyHeap
import KE.GoesNew
import HandS.Zip
import HandS.Iter
import HandS.Flow
import HandS.Style
import HandS.Codes
import HandS.GenBody
import HandS.GenList
import HandS.SetFor
import HandS.Strs
import KE.DataMinMax
import KE.KDictWalk
import HandS.Defaults
import KE.KNest
import HandS.HeadWalk
import HandS.Head0
import HandS.Head1
import HandS.Head2
import HandS.HeadEnd
import HandS.HeadHook1
import HandS.HeadHook2
import HandS.Words
import PySem.Challenge.RW_groupdeeds_k51_across_likings
set_option Elab.async false
set_option linter.all false
set_option maxRecDepth 100000
set_option maxHeartbeats 4000000
/-! An evaluator of a pure part of Python, over plain data: the values, the syntax, what each piece yields. -/
namespace Ev
open PySem
abbrev D := PyData

/-! ### ints, order, equality -/
def iEq : Int → Int → Bool
  | .ofNat a, .ofNat b => Nat.beq a b
  | .negSucc a, .negSucc b => Nat.beq a b
  | .ofNat _, .negSucc _ => false
  | .negSucc _, .ofNat _ => false
def iLt : Int → Int → Bool
  | .ofNat a, .ofNat b => Nat.blt a b
  | .negSucc a, .negSucc b => Nat.blt b a
  | .ofNat _, .negSucc _ => false
  | .negSucc _, .ofNat _ => true
theorem nbeq (m n : Nat) : Nat.beq m n = decide (m = n) := by
  cases h : Nat.beq m n with
  | true => rw [decide_eq_true (Nat.eq_of_beq_eq_true h)]
  | false => rw [decide_eq_false (Nat.ne_of_beq_eq_false h)]
theorem nblt (m n : Nat) : Nat.blt m n = decide (m < n) := by
  cases h : Nat.blt m n with
  | true => rw [decide_eq_true (by rw [← Nat.blt_eq]; exact h)]
  | false => rw [decide_eq_false (fun z => by rw [← Nat.blt_eq, h] at z; cases z)]
theorem iEq_iff (a b : Int) : iEq a b = decide (a = b) := by
  cases a with
  | ofNat m => cases b with
    | ofNat n =>
      show Nat.beq m n = _
      rw [nbeq]
      exact decide_eq_decide.mpr ⟨fun h => by rw [h], fun h => Int.ofNat.inj h⟩
    | negSucc n => rw [decide_eq_false (fun z => Int.noConfusion z)]; rfl
  | negSucc m => cases b with
    | ofNat n => rw [decide_eq_false (fun z => Int.noConfusion z)]; rfl
    | negSucc n =>
      show Nat.beq m n = _
      rw [nbeq]
      exact decide_eq_decide.mpr ⟨fun h => by rw [h], fun h => Int.negSucc.inj h⟩
theorem iLt_iff (a b : Int) : iLt a b = decide (a < b) := by
  cases a with
  | ofNat m => cases b with
    | ofNat n =>
      show Nat.blt m n = _
      rw [nblt]
      exact decide_eq_decide.mpr ⟨fun h => Int.ofNat_lt.mpr h, fun h => Int.ofNat_lt.mp h⟩
    | negSucc n =>
      rw [decide_eq_false (fun z => by rw [Int.ofNat_eq_natCast, Int.negSucc_eq] at z; omega)]; rfl
  | negSucc m => cases b with
    | ofNat n => rw [decide_eq_true (by rw [Int.ofNat_eq_natCast, Int.negSucc_eq]; omega)]; rfl
    | negSucc n =>
      show Nat.blt n m = _
      rw [nblt]
      exact decide_eq_decide.mpr ⟨fun h => by rw [Int.negSucc_eq, Int.negSucc_eq]; omega, fun h => by rw [Int.negSucc_eq, Int.negSucc_eq] at h; omega⟩
def iLe (a b : Int) : Bool := !iLt b a
theorem iLe_iff (a b : Int) : iLe a b = decide (a ≤ b) := by
  unfold iLe
  rw [iLt_iff]
  by_cases h : b < a
  · rw [decide_eq_true h, decide_eq_false (by omega)]; rfl
  · rw [decide_eq_false h, decide_eq_true (by omega)]; rfl

mutual
/-- the same datum (ints and bools apart) -/
def eqD : D → D → Bool
  | .none, y => match y with | .none => true | _ => false
  | .bool a, y => match y with | .bool b => (match a, b with | true, true => true | false, false => true | _, _ => false) | _ => false
  | .int a, y => match y with | .int b => iEq a b | _ => false
  | .str a, y => match y with | .str b => a == b | _ => false
  | .list a, y => match y with | .list b => eqDs a b | _ => false
  | .tuple a, y => match y with | .tuple b => eqDs a b | _ => false
  | .dict _, _ => false
def eqDs : List D → List D → Bool
  | [], y => match y with | [] => true | _ :: _ => false
  | x :: xs, y => match y with | [] => false | z :: zs => match eqD x z with | true => eqDs xs zs | false => false
end
mutual
/-- no bool and nothing but ints, None, texts, lists, tuples, to a depth -/
def okD : Nat → D → Bool
  | _, .none => true
  | _, .bool _ => false
  | _, .int _ => true
  | _, .str _ => false
  | 0, .list _ => false
  | n + 1, .list a => okDs n a
  | 0, .tuple _ => false
  | n + 1, .tuple a => okDs n a
  | _, .dict _ => false
def okDs : Nat → List D → Bool
  | _, [] => true
  | n, x :: xs => match okD n x with | true => okDs n xs | false => false
end
mutual
/-- less, as Python has it, for ints and tuples of such -/
def ltD : D → D → Bool
  | .int a, y => match y with | .int b => iLt a b | _ => false
  | .tuple a, y => match y with | .tuple b => ltDs a b | _ => false
  | .none, _ => false
  | .bool _, _ => false
  | .str _, _ => false
  | .list _, _ => false
  | .dict _, _ => false
def ltDs : List D → List D → Bool
  | [], y => match y with | [] => false | _ :: _ => true
  | x :: xs, y => match y with | [] => false | z :: zs => match eqD x z with | true => ltDs xs zs | false => ltD x z
end
mutual
/-- ints under so many tuples -/
def unif : Nat → D → Bool
  | 0, .int _ => true
  | _ + 1, .int _ => false
  | 0, .tuple _ => false
  | n + 1, .tuple a => unifs n a
  | _, .none => false
  | _, .bool _ => false
  | _, .str _ => false
  | _, .list _ => false
  | _, .dict _ => false
def unifs : Nat → List D → Bool
  | _, [] => true
  | n, x :: xs => match unif n x with | true => unifs n xs | false => false
end
/-- y's ahead of x go first -/
def mgo (x : D) (f : List D → List D) : List D → List D
  | [] => x :: f []
  | y :: ys => match ltD y x with | true => y :: mgo x f ys | false => x :: f (y :: ys)
def mrgD : List D → List D → List D
  | [], ys => ys
  | x :: xs, ys => mgo x (mrgD xs) ys
def mpair : List (List D) → List (List D)
  | a :: b :: r => mrgD a b :: mpair r
  | r => r
def mall : Nat → List (List D) → List D
  | 0, l => l.foldr mrgD []
  | n + 1, l => match l with
    | [] => []
    | [a] => a
    | a :: b :: r => mall n (mpair (a :: b :: r))
def sortD (xs : List D) : List D := mall 20 (xs.map fun x => [x])
/-- a tuple with an item -/
def tupNe : D → Bool
  | .tuple (_ :: _) => true
  | _ => false
def allTupNe : List D → Bool
  | [] => true
  | x :: xs => match tupNe x with | true => allTupNe xs | false => false
/-- of one kind -/
def kindly (xs : List D) : Bool := match unifs 0 xs with
  | true => true
  | false => match allTupNe xs with
    | false => false
    | true => match unifs 1 xs with
      | true => true
      | false => match unifs 2 xs with
        | true => true
        | false => match unifs 3 xs with
          | true => true
          | false => unifs 4 xs

/-! ### results with draws -/
inductive R (α : Type) where
  | ok (a : α)
  | stuck
  | draw (m : Nat) (k : Nat → R α)
namespace R
def bind {α β : Type} : R α → (α → R β) → R β
  | .ok a, f => f a
  | .stuck, _ => .stuck
  | .draw m k, f => .draw m fun v => (k v).bind f
/-- every way out is good -/
def Post {α : Type} : R α → (α → Prop) → Prop
  | .ok a, Q => Q a
  | .stuck, _ => False
  | .draw m k, Q => 0 < m ∧ ∀ v, v < m → (k v).Post Q
theorem post_bind {α β : Type} : ∀ {r : R α} {f : α → R β} {Q : β → Prop}, (r.bind f).Post Q → r.Post fun a => (f a).Post Q
  | .ok _, _, _, h => h
  | .stuck, _, _, h => h
  | .draw _ _, _, _, h => ⟨h.1, fun v hv => post_bind (h.2 v hv)⟩
theorem post_bind' {α β : Type} : ∀ {r : R α} {f : α → R β} {Q : β → Prop}, (r.Post fun a => (f a).Post Q) → (r.bind f).Post Q
  | .ok _, _, _, h => h
  | .stuck, _, _, h => h
  | .draw _ _, _, _, h => ⟨h.1, fun v hv => post_bind' (h.2 v hv)⟩
theorem Post.mono {α : Type} : ∀ {r : R α} {Q Q' : α → Prop}, r.Post Q → (∀ a, Q a → Q' a) → r.Post Q'
  | .ok _, _, _, h, f => f _ h
  | .stuck, _, _, h, _ => h.elim
  | .draw _ _, _, _, h, f => ⟨h.1, fun v hv => (h.2 v hv).mono f⟩
end R

/-! ### values -/
inductive Val where
  | d (x : D)
  | dct (kvs : List (D × D))
  | kd (kvs : List (Int × D))
  | row
/-- a value; a new list or dict that nothing else holds; the one that stands in slot i and nowhere else -/
inductive RV where
  | v (x : Val)
  | o (x : Val)
  | b (i : Nat) (x : Val)
inductive Slot where
  | no
  | v (x : Val)
  | o (x : Val)
abbrev Env := List Slot
inductive Out where
  | nx (e : Env)
  | rt (r : RV)
  | bk (e : Env)
/-- what is to be read -/
def RV.rd : RV → Val
  | .v x => x
  | .o x => x
  | .b _ x => x
/-- given away for good -/
def RV.fz : RV → R Val
  | .v x => .ok x
  | .o x => .ok x
  | .b _ _ => .stuck
def Val.dat : Val → R D
  | .d x => .ok x
  | .dct _ => .stuck
  | .kd _ => .stuck
  | .row => .stuck
def slotAt : Env → Nat → Slot
  | [], _ => .no
  | s :: _, 0 => s
  | _ :: r, i + 1 => slotAt r i
def setAt : Env → Nat → Slot → Env
  | [], _, _ => []
  | _ :: r, 0, x => x :: r
  | s :: r, i + 1, x => s :: setAt r i x
/-- at most so many -/
def few {α : Type} : List α → Nat → Bool
  | [], _ => true
  | _ :: _, 0 => false
  | _ :: xs, n + 1 => few xs n
def lim : Nat := 100000

/-! ### the syntax -/
inductive Op where
  | add | sub | mul | fdiv | mod
inductive Cm where
  | eq | ne | lt | le | gt | ge | isin | notin
inductive B1 where
  | len | sorted | tuple | list | sum | max | min | abs | int
inductive Ty where
  | int | bool | tuple | list | str | tupleOrList
inductive Tg where
  | name (i : Nat)
  | tup (is : List Nat)
inductive Gk where
  | all | any | sum
inductive Ex where
  | var (i : Nat) | int (i : Int) | bl (b : Bool) | non
  | glob (x : Str) (i : Int)
  | bin (op : Op) (a b : Ex) | neg (a : Ex)
  | cmp (c : Cm) (a b : Ex) | isN (no : Bool) (a : Ex) | isB (no : Bool) (a : Ex) (v : Bool) | chain (c c' : Cm) (a b d : Ex)
  | and (a b : Ex) | or (a b : Ex) | not (a : Ex) | ite (c a b : Ex) | tst (a : Ex)
  | tup (es : Ex) | lst (es : Ex)
  | ix (a i : Ex) | sl (a lo hi : Ex)
  | call (f : Nat) (es : Ex) | b1 (b : B1) (a : Ex) | isI (a : Ex) (t : Ty)
  | mx2 (least : Bool) (a b : Ex) | lrg1 (tp : Bool) (a : Ex) | lrg2 (tp : Bool) (a b : Ex)
  | lc (own : List Nat) (tg : Tg) (it elt : Ex) | lcIf (own : List Nat) (tg : Tg) (it elt cond : Ex)
  | gx (k : Gk) (own : List Nat) (tg : Tg) (it elt : Ex)
  | noE
  | nil | cons (e es : Ex) | star (e es : Ex)
  | irng1 (a : Ex) | irng2 (a b : Ex) | iseq (a : Ex) | ienum (a : Ex) | izip (a b : Ex)
  | asg (tg : Tg) (e : Ex) | par (is : List Nat) (es : Ex) | app (i : Nat) (e : Ex) | seti (i : Nat) (ix e : Ex)
  | ex (e : Ex) | ret (e : Ex) | retN | ifS (c a b : Ex) | forS (tg : Tg) (it body : Ex) | whl (n : Nat) (c body : Ex) | brk
  | frz (is : List Nat) (rest : Ex)
  | dnew | dnew1 (k v : Ex) | dget (d k x : Ex) | dix (d k : Ex) | din (no : Bool) (k d : Ex) | dput (i : Nat) (k v : Ex) | ikeys (d : Ex)
  | knew | kix (d k : Ex) | kput (i : Nat) (k v : Ex) | klist (d : Ex) | cnt (a x : Ex)
  | mnp (least : Bool) (a : Ex) | minv (d : Ex) | tset (a : Ex)
  | srtset (a : Ex) | index (a x : Ex) | irng3 (a b : Ex)
  | snil | scons (s rest : Ex)

/-! ### operations on values -/
def big : Nat := 2 ^ 4000
def iAbs : Int → Nat
  | .ofNat a => a
  | .negSucc a => a + 1
/-- so many times -/
def repL (a : List D) : Nat → List D
  | 0 => []
  | n + 1 => a ++ repL a n
def binV : Op → Val → Val → R RV
  | .add, .d (.int a), .d (.int b) => .ok (.v (.d (.int (a + b))))
  | .sub, .d (.int a), .d (.int b) => .ok (.v (.d (.int (a - b))))
  | .mul, .d (.int a), .d (.int b) => match Nat.blt (iAbs a) big, Nat.blt (iAbs b) big with
    | true, true => .ok (.v (.d (.int (a * b))))
    | _, _ => .stuck
  | .fdiv, .d (.int a), .d (.int b) => match iLt 0 b, Nat.blt (iAbs b) big with
    | true, true => .ok (.v (.d (.int (a / b))))
    | _, _ => .stuck
  | .mod, .d (.int a), .d (.int b) => match iLt 0 b with
    | true => .ok (.v (.d (.int (a % b))))
    | _ => .stuck
  | .add, .d (.list a), .d (.list b) => match few (a ++ b) lim with
    | true => .ok (.o (.d (.list (a ++ b))))
    | false => .stuck
  | .add, .d (.tuple a), .d (.tuple b) => match few (a ++ b) lim with
    | true => .ok (.v (.d (.tuple (a ++ b))))
    | false => .stuck
  | .mul, .d (.list a), .d (.int b) => match iEq b 0 with
    | true => .ok (.o (.d (.list [])))
    | false => match iEq b 1, few a lim with
      | true, true => .ok (.o (.d (.list a)))
      | _, _ => .stuck
  | .mul, .d (.tuple a), .d (.int b) => match iLe 0 b, iLe b 1000, few a 1000 with
    | true, true, true => .ok (.v (.d (.tuple (repL a b.toNat))))
    | _, _, _ => .stuck
  | _, _, _ => .stuck
def cmpV : Cm → Val → Val → R Bool
  | .eq, .d a, .d b => match okD 8 a, okD 8 b with
    | true, true => .ok (eqD a b)
    | _, _ => match a, b with
      | .bool x, .bool y => .ok (match x, y with | true, true => true | false, false => true | _, _ => false)
      | _, _ => .stuck
  | .ne, .d a, .d b => match okD 8 a, okD 8 b with
    | true, true => .ok (!eqD a b)
    | _, _ => match a, b with
      | .bool x, .bool y => .ok (match x, y with | true, true => false | false, false => false | _, _ => true)
      | _, _ => .stuck
  | .lt, .d (.int a), .d (.int b) => .ok (iLt a b)
  | .le, .d (.int a), .d (.int b) => .ok (iLe a b)
  | .gt, .d (.int a), .d (.int b) => .ok (iLt b a)
  | .ge, .d (.int a), .d (.int b) => .ok (iLe b a)
  | .lt, .d (.tuple a), .d (.tuple b) => match unif 1 (.tuple a) && unif 1 (.tuple b) || unif 2 (.tuple a) && unif 2 (.tuple b) || unif 3 (.tuple a) && unif 3 (.tuple b) || unif 4 (.tuple a) && unif 4 (.tuple b) with
    | true => .ok (ltDs a b)
    | false => .stuck
  | .isin, .d a, .d (.list b) => match okD 8 a, okDs 8 b with
    | true, true => .ok (b.any fun z => eqD z a)
    | _, _ => .stuck
  | .isin, .d a, .d (.tuple b) => match okD 8 a, okDs 8 b with
    | true, true => .ok (b.any fun z => eqD z a)
    | _, _ => .stuck
  | .notin, .d a, .d (.list b) => match okD 8 a, okDs 8 b with
    | true, true => .ok (!b.any fun z => eqD z a)
    | _, _ => .stuck
  | .notin, .d a, .d (.tuple b) => match okD 8 a, okDs 8 b with
    | true, true => .ok (!b.any fun z => eqD z a)
    | _, _ => .stuck
  | _, _, _ => .stuck
def truV : Val → R Bool
  | .d .none => .ok false
  | .d (.bool b) => .ok b
  | .d (.int i) => .ok (!iEq i 0)
  | .d (.list l) => .ok (match l with | [] => false | _ :: _ => true)
  | .d (.tuple l) => .ok (match l with | [] => false | _ :: _ => true)
  | _ => .stuck
def isBV (v : Bool) : Val → R Bool
  | .d (.bool y) => .ok (match v, y with | true, true => true | false, false => true | _, _ => false)
  | _ => .stuck
def isNV : Val → R Bool
  | .d .none => .ok true
  | .d _ => .ok false
  | _ => .stuck
def ints? : List D → Option (List Int)
  | [] => some []
  | .int i :: r => match ints? r with
    | some l => some (i :: l)
    | none => none
  | _ :: _ => none
def isum : List Int → Int
  | [] => 0
  | i :: r => i + isum r
def imax : Int → List Int → Int
  | m, [] => m
  | m, i :: r => match iLt m i with | true => imax i r | false => imax m r
def imin : Int → List Int → Int
  | m, [] => m
  | m, i :: r => match iLt i m with | true => imin i r | false => imin m r
/-- the index in a sequence of n things -/
def pyIx (n : Nat) (i : Int) : Option Nat := match i with
  | .ofNat k => match Nat.blt k n with | true => some k | false => none
  | .negSucc k => match Nat.blt k n with | true => some (n - (k + 1)) | false => none
def nth : List D → Nat → R D
  | [], _ => .stuck
  | x :: _, 0 => .ok x
  | _ :: r, i + 1 => nth r i
def ixV : Val → Val → R RV
  | .d (.list l), .d (.int i) => match pyIx l.length i with
    | some k => (nth l k).bind fun x => .ok (.v (.d x))
    | none => .stuck
  | .d (.tuple l), .d (.int i) => match pyIx l.length i with
    | some k => (nth l k).bind fun x => .ok (.v (.d x))
    | none => .stuck
  | _, _ => .stuck
/-- a slice's end -/
def cut1 (n dflt : Nat) : Option Int → Nat
  | none => dflt
  | some (.ofNat k) => match Nat.blt k n with | true => k | false => n
  | some (.negSucc k) => n - (k + 1)
def slL (l : List D) (lo hi : Option Int) : List D :=
  let n := l.length
  let a := cut1 n 0 lo
  (l.drop a).take (cut1 n n hi - a)
def slV : Val → Option Int → Option Int → R RV
  | .d (.list l), lo, hi => .ok (.o (.d (.list (slL l lo hi))))
  | .d (.tuple l), lo, hi => .ok (.v (.d (.tuple (slL l lo hi))))
  | _, _, _ => .stuck
def keysD : List (D × D) → List D
  | [] => []
  | (k, _) :: r => k :: keysD r
def b1V : B1 → Val → R RV
  | .len, .d (.list l) => .ok (.v (.d (.int l.length)))
  | .len, .d (.tuple l) => .ok (.v (.d (.int l.length)))
  | .sorted, .d (.list l) => match kindly l with
    | true => .ok (.o (.d (.list (sortD l))))
    | false => .stuck
  | .sorted, .dct l => match kindly (keysD l) with
    | true => .ok (.o (.d (.list (sortD (keysD l)))))
    | false => .stuck
  | .tuple, .d (.list l) => .ok (.v (.d (.tuple l)))
  | .tuple, .d (.tuple l) => .ok (.v (.d (.tuple l)))
  | .list, .d (.list l) => .ok (.o (.d (.list l)))
  | .list, .d (.tuple l) => .ok (.o (.d (.list l)))
  | .list, .dct l => .ok (.o (.d (.list (keysD l))))
  | .sum, .d (.list l) => match ints? l with
    | some is => .ok (.v (.d (.int (isum is))))
    | none => .stuck
  | .sum, .d (.tuple l) => match ints? l with
    | some is => .ok (.v (.d (.int (isum is))))
    | none => .stuck
  | .max, .d (.tuple l) => match ints? l with
    | some (i :: r) => .ok (.v (.d (.int (imax i r))))
    | _ => .stuck
  | .min, .d (.tuple l) => match ints? l with
    | some (i :: r) => .ok (.v (.d (.int (imin i r))))
    | _ => .stuck
  | .max, .d (.list l) => match ints? l with
    | some (i :: r) => .ok (.v (.d (.int (imax i r))))
    | _ => .stuck
  | .min, .d (.list l) => match ints? l with
    | some (i :: r) => .ok (.v (.d (.int (imin i r))))
    | _ => .stuck
  | .abs, .d (.int i) => .ok (.v (.d (.int (match iLt i 0 with | true => -i | false => i))))
  | .int, .d (.int i) => .ok (.v (.d (.int i)))
  | .int, .d (.bool b) => .ok (.v (.d (.int (match b with | true => 1 | false => 0))))
  | _, _ => .stuck
def isTy : Ty → D → Bool
  | .int, .int _ => true
  | .int, .bool _ => true
  | .bool, .bool _ => true
  | .tuple, .tuple _ => true
  | .list, .list _ => true
  | .str, .str _ => true
  | .tupleOrList, .tuple _ => true
  | .tupleOrList, .list _ => true
  | _, _ => false
def rngFrom (i : Int) : Nat → List D
  | 0 => []
  | n + 1 => .int i :: rngFrom (i + 1) n
def enumFrom (i : Int) : List D → List D
  | [] => []
  | x :: r => .tuple [.int i, x] :: enumFrom (i + 1) r
def zipD : List D → List D → List D
  | x :: r, y :: s => .tuple [x, y] :: zipD r s
  | _, _ => []
def seqV : Val → R (List D)
  | .d (.list l) => .ok l
  | .d (.tuple l) => .ok l
  | _ => .stuck
def intV : Val → R Int
  | .d (.int i) => .ok i
  | _ => .stuck
def natOf : Int → Nat
  | .ofNat n => n
  | .negSucc _ => 0
def smallI (i : Int) : Bool := Nat.blt (iAbs i) 1000000
def setAll : Env → List Nat → List D → R Env
  | e, [], [] => .ok e
  | e, i :: is, x :: xs => setAll (setAt e i (.v (.d x))) is xs
  | _, _, _ => .stuck
def setTg (e : Env) : Tg → D → R Env
  | .name i, x => .ok (setAt e i (.v (.d x)))
  | .tup is, .tuple xs => setAll e is xs
  | .tup _, _ => .stuck
/-- a name's store -/
def RV.slot : RV → R Slot
  | .v x => .ok (.v x)
  | .o x => .ok (.o x)
  | .b _ _ => .stuck
def setVals : Env → List Nat → List RV → R Env
  | e, [], [] => .ok e
  | e, i :: is, x :: xs => x.slot.bind fun s => setVals (setAt e i s) is xs
  | _, _, _ => .stuck
def freeze1 (e : Env) (i : Nat) : Env := match slotAt e i with
  | .o x => setAt e i (.v x)
  | _ => e
def freeze : Env → List Nat → Env
  | e, [] => e
  | e, i :: is => freeze (freeze1 e i) is
def wipeE (e : Env) : List Nat → Env
  | [] => e
  | i :: is => setAt (wipeE e is) i .no
def loopL (items : List D) (tg : Tg) (e0 : Env) (elt : Env → R D) : R (List D) := match items with
  | [] => .ok []
  | x :: xs => (setTg e0 tg x).bind fun e => (elt e).bind fun y => (loopL xs tg e0 elt).bind fun ys => .ok (y :: ys)
def loopIf (items : List D) (tg : Tg) (e0 : Env) (elt : Env → R D) (c : Env → R Bool) : R (List D) := match items with
  | [] => .ok []
  | x :: xs => (setTg e0 tg x).bind fun e => (c e).bind fun b => match b with
    | true => (elt e).bind fun y => (loopIf xs tg e0 elt c).bind fun ys => .ok (y :: ys)
    | false => loopIf xs tg e0 elt c
def loopAll (items : List D) (tg : Tg) (e0 : Env) (c : Env → R Bool) : R Bool := match items with
  | [] => .ok true
  | x :: xs => (setTg e0 tg x).bind fun e => (c e).bind fun b => match b with
    | true => loopAll xs tg e0 c
    | false => .ok false
def loopAny (items : List D) (tg : Tg) (e0 : Env) (c : Env → R Bool) : R Bool := match items with
  | [] => .ok false
  | x :: xs => (setTg e0 tg x).bind fun e => (c e).bind fun b => match b with
    | true => .ok true
    | false => loopAny xs tg e0 c
def loopSum (acc : Int) (items : List D) (tg : Tg) (e0 : Env) (c : Env → R Int) : R Int := match items with
  | [] => .ok acc
  | x :: xs => (setTg e0 tg x).bind fun e => (c e).bind fun b => loopSum (acc + b) xs tg e0 c
def loopFor (items : List D) (tg : Tg) (body : Env → R Out) (e : Env) : R Out := match items with
  | [] => .ok (.nx e)
  | x :: xs => (setTg e tg x).bind fun e1 => (body e1).bind fun o => match o with
    | .nx e2 => loopFor xs tg body e2
    | .bk e2 => .ok (.nx e2)
    | .rt r => .ok (.rt r)
def loopWh (n : Nat) (c : Env → R Bool) (body : Env → R Out) (e : Env) : R Out := match n with
  | 0 => .stuck
  | n + 1 => (c e).bind fun b => match b with
    | true => (body e).bind fun o => match o with
      | .nx e2 => loopWh n c body e2
      | .bk e2 => .ok (.nx e2)
      | .rt r => .ok (.rt r)
    | false => .ok (.nx e)
/-- list(range(..)), tuple(range(..)) -/
def rgR (tp : Bool) (l : List D) : R RV := match tp with
  | true => .ok (.v (.d (.tuple l)))
  | false => .ok (.o (.d (.list l)))
def newL (l : List D) : R RV := match few l lim with
  | true => .ok (.o (.d (.list l)))
  | false => .stuck
def newT (l : List D) : R RV := match few l lim with
  | true => .ok (.v (.d (.tuple l)))
  | false => .stuck
def fzD (r : RV) : R D := r.fz.bind Val.dat
def boolV (b : Bool) : R RV := .ok (.v (.d (.bool b)))
/-- a list that a slot alone holds grows -/
def appV (e : Env) (i : Nat) (x : D) : R Out := match slotAt e i with
  | .o (.d (.list l)) => match few l lim with
    | true => .ok (.nx (setAt e i (.o (.d (.list (l ++ [x]))))))
    | false => .stuck
  | _ => .stuck
def setNth : List D → Nat → D → List D
  | [], _, _ => []
  | _ :: r, 0, x => x :: r
  | y :: r, i + 1, x => y :: setNth r i x
def setiV (e : Env) (i : Nat) (k : Int) (x : D) : R Out := match slotAt e i with
  | .o (.d (.list l)) => match pyIx l.length k with
    | some j => .ok (.nx (setAt e i (.o (.d (.list (setNth l j x))))))
    | none => .stuck
  | _ => .stuck

/-! ### dicts with tuples as keys -/
mutual
/-- what may be within a key -/
def keyD : Nat → D → Bool
  | _, .none => true
  | _, .bool _ => false
  | _, .int _ => true
  | _, .str _ => false
  | _, .list _ => false
  | 0, .tuple _ => false
  | n + 1, .tuple a => keyDs n a
  | _, .dict _ => false
def keyDs : Nat → List D → Bool
  | _, [] => true
  | n, x :: xs => match keyD n x with | true => keyDs n xs | false => false
end
/-- a key: a tuple -/
def keyT : D → Bool
  | .tuple a => keyDs 7 a
  | _ => false
def look : List (D × D) → D → Option D
  | [], _ => none
  | (k, v) :: r, x => match eqD k x with | true => some v | false => look r x
def putD : List (D × D) → D → D → List (D × D)
  | [], x, y => [(x, y)]
  | (k, v) :: r, x, y => match eqD k x with | true => (k, y) :: r | false => (k, v) :: putD r x y
def dctV : Val → R (List (D × D))
  | .dct l => .ok l
  | _ => .stuck
def keyV : Val → R D
  | .d x => match keyT x with | true => .ok x | false => .stuck
  | _ => .stuck
def dputV (e : Env) (i : Nat) (k x : D) : R Out := match slotAt e i with
  | .o (.dct l) => match few l lim with
    | true => .ok (.nx (setAt e i (.o (.dct (putD l k x)))))
    | false => .stuck
  | _ => .stuck
/-- sorted, each once -/
def insI (i : Int) : List Int → List Int
  | [] => [i]
  | j :: r => match iLt i j with
    | true => i :: j :: r
    | false => match iEq i j with
      | true => j :: r
      | false => j :: insI i r
def srtI : List Int → List Int
  | [] => []
  | i :: r => insI i (srtI r)
def mkIs : List Int → List D
  | [] => []
  | i :: r => .int i :: mkIs r
/-! dicts with int keys -/
def lookI : List (Int × D) → Int → Option D
  | [], _ => none
  | (k, v) :: r, x => match iEq k x with | true => some v | false => lookI r x
def hasI : List (Int × D) → Int → Bool
  | [], _ => false
  | (k, _) :: r, x => match iEq k x with | true => true | false => hasI r x
def swapI : List (Int × D) → Int → D → List (Int × D)
  | [], _, _ => []
  | (k, v) :: r, x, y => match iEq k x with | true => (k, y) :: swapI r x y | false => (k, v) :: swapI r x y
def putI (l : List (Int × D)) (x : Int) (y : D) : List (Int × D) := match hasI l x with
  | true => swapI l x y
  | false => l ++ [(x, y)]
def cntN (k : Int) : List Int → Nat
  | [] => 0
  | i :: r => match iEq i k with | true => cntN k r + 1 | false => cntN k r
def cntV : Val → Int → R RV
  | .d (.list l), k => match ints? l with
    | some is => .ok (.v (.d (.int (.ofNat (cntN k is)))))
    | none => .stuck
  | _, _ => .stuck
/-- (int, tuples of tuples of ints) -/
def pairU : D → Bool
  | .tuple l => match l with
    | .int _ :: q => match q with
      | [] => false
      | g :: r => match r with
        | [] => unif 2 g
        | _ :: _ => false
    | _ => false
  | _ => false
def allPU : List D → Bool
  | [] => true
  | x :: r => match pairU x with | true => allPU r | false => false
def bestP (least : Bool) (x : D) : List D → D
  | [] => x
  | y :: r => match (match least with | true => ltD y x | false => ltD x y) with | true => bestP least y r | false => bestP least x r
def mnpV (least : Bool) : Val → R RV
  | .d (.list l) => match allPU l with
    | true => match l with
      | [] => .stuck
      | x :: r => .ok (.v (.d (bestP least x r)))
    | false => .stuck
  | _ => .stuck
/-- pairs of small ints, sorted, each once -/
def smI (i : Int) : Bool := iLe 0 i && iLt i 64
def pairI : D → Bool
  | .tuple l => match l with
    | .int a :: q => match q with
      | .int b :: r => match r with
        | [] => smI a && smI b
        | _ :: _ => false
      | _ => false
    | _ => false
  | _ => false
def allPI : List D → Bool
  | [] => true
  | x :: r => match pairI x with | true => allPI r | false => false
def codeP : D → Int
  | .tuple l => match l with
    | .int a :: q => match q with
      | .int b :: _ => a * 64 + b
      | _ => 0
    | _ => 0
  | _ => 0
def decP (c : Int) : D := .tuple [.int (c / 64), .int (c % 64)]
def codesP : List D → List Int
  | [] => []
  | x :: r => codeP x :: codesP r
def tsetV : Val → R RV
  | .d (.tuple l) => match allPI l, few l 60 with
    | true, true => .ok (.o (.d (.list ((srtI (codesP l)).map decP))))
    | _, _ => .stuck
  | _ => .stuck
def valsD : List (D × D) → List D
  | [] => []
  | (_, v) :: r => v :: valsD r
def minvV (l : List (D × D)) : R RV := match ints? (valsD l) with
  | some (i :: r) => .ok (.v (.d (.int (imin i r))))
  | _ => .stuck
def kdV : Val → R (List (Int × D))
  | .kd l => .ok l
  | _ => .stuck
def kputV (e : Env) (i : Nat) (k : Int) (x : D) : R Out := match slotAt e i with
  | .o (.kd l) => match few l lim with
    | true => .ok (.nx (setAt e i (.o (.kd (putI l k x)))))
    | false => .stuck
  | _ => .stuck
def keysI : List (Int × D) → List D
  | [] => []
  | (k, _) :: r => .int k :: keysI r
def srtsetV : Val → R RV
  | .d (.list l) => match ints? l, few l 60 with
    | some is, true => .ok (.o (.d (.list (mkIs (srtI is)))))
    | _, _ => .stuck
  | _ => .stuck
def indexL (x : D) : List D → Nat → Option Nat
  | [], _ => none
  | y :: r, n => match eqD y x with | true => some n | false => indexL x r (n + 1)
def indexV : Val → D → R RV
  | .d (.list l), x => match okDs 8 l, okD 8 x, indexL x l 0 with
    | true, true, some n => .ok (.v (.d (.int n)))
    | _, _, _ => .stuck
  | _, _ => .stuck
/-- down by one -/
def rngDown (i : Int) : Nat → List D
  | 0 => []
  | n + 1 => .int i :: rngDown (i - 1) n

/-! ### what the pieces yield; cf: the defs -/
section
variable (cf : Nat → List Val → R RV)
mutual
def dE : Ex → Env → R RV
  | .var i, e => match slotAt e i with
    | .no => .stuck
    | .v x => .ok (.v x)
    | .o x => .ok (.b i x)
  | .int i, _ => .ok (.v (.d (.int i)))
  | .bl b, _ => .ok (.v (.d (.bool b)))
  | .non, _ => .ok (.v (.d .none))
  | .glob _ i, _ => .ok (.v (.d (.int i)))
  | .bin op a b, e => (dE a e).bind fun x => (dE b e).bind fun y => binV op x.rd y.rd
  | .neg a, e => (dE a e).bind fun x => (intV x.rd).bind fun i => .ok (.v (.d (.int (-i))))
  | .cmp c a b, e => (dE a e).bind fun x => (dE b e).bind fun y => (cmpV c x.rd y.rd).bind boolV
  | .isN no a, e => (dE a e).bind fun x => (isNV x.rd).bind fun b => boolV (match no with | true => !b | false => b)
  | .isB no a v, e => (dE a e).bind fun x => (isBV v x.rd).bind fun b => boolV (match no with | true => !b | false => b)
  | .chain c c' a b d, e => (dE a e).bind fun x => (dE b e).bind fun y => (cmpV c x.rd y.rd).bind fun k => match k with
    | true => (dE d e).bind fun z => (cmpV c' y.rd z.rd).bind boolV
    | false => boolV false
  | .and a b, e => (dE a e).bind fun x => match x with
    | .v (.d (.bool true)) => dE b e
    | .v (.d (.bool false)) => boolV false
    | _ => .stuck
  | .or a b, e => (dE a e).bind fun x => match x with
    | .v (.d (.bool true)) => boolV true
    | .v (.d (.bool false)) => dE b e
    | _ => .stuck
  | .not a, e => (dE a e).bind fun x => (truV x.rd).bind fun b => boolV (!b)
  | .ite c a b, e => (dT c e).bind fun k => match k with
    | true => dE a e
    | false => dE b e
  | .tup es, e => (dD es e).bind newT
  | .lst es, e => (dD es e).bind newL
  | .ix a i, e => (dE a e).bind fun x => (dE i e).bind fun y => ixV x.rd y.rd
  | .sl a lo hi, e => (dE a e).bind fun x => (dO lo e).bind fun l => (dO hi e).bind fun h => slV x.rd l h
  | .call f es, e => (dL es e).bind fun xs => cf f xs
  | .b1 b a, e => (dE a e).bind fun x => b1V b x.rd
  | .isI a t, e => (dE a e).bind fun x => (x.rd.dat).bind fun d => boolV (isTy t d)
  | .mx2 least a b, e => (dE a e).bind fun x => (dE b e).bind fun y => (intV x.rd).bind fun i => (intV y.rd).bind fun j =>
      .ok (.v (.d (.int (match least with | true => (match iLt j i with | true => j | false => i) | false => (match iLt i j with | true => j | false => i)))))
  | .lrg1 tp a, e => (dE a e).bind fun x => (intV x.rd).bind fun i => match smallI i with
    | true => rgR tp (rngFrom 0 (natOf i))
    | false => .stuck
  | .lrg2 tp a b, e => (dE a e).bind fun x => (dE b e).bind fun y => (intV x.rd).bind fun i => (intV y.rd).bind fun j => match smallI i, smallI j with
    | true, true => rgR tp (rngFrom i (natOf (j - i)))
    | _, _ => .stuck
  | .lc own tg it elt, e => (dI it e).bind fun xs => (loopL xs tg (wipeE e own) fun e1 => (dE elt e1).bind fzD).bind newL
  | .lcIf own tg it elt c, e => (dI it e).bind fun xs => (loopIf xs tg (wipeE e own) (fun e1 => (dE elt e1).bind fzD) fun e1 => dT c e1).bind newL
  | .gx .all own tg it elt, e => (dI it e).bind fun xs => (loopAll xs tg (wipeE e own) fun e1 => (dE elt e1).bind fun x => truV x.rd).bind boolV
  | .gx .any own tg it elt, e => (dI it e).bind fun xs => (loopAny xs tg (wipeE e own) fun e1 => (dE elt e1).bind fun x => truV x.rd).bind boolV
  | .gx .sum own tg it elt, e => (dI it e).bind fun xs => (loopSum 0 xs tg (wipeE e own) fun e1 => (dE elt e1).bind fun x => intV x.rd).bind fun i => .ok (.v (.d (.int i)))
  | .dnew, _ => .ok (.o (.dct []))
  | .dnew1 k v, e => (dE k e).bind fun x => (keyV x.rd).bind fun kd => (dE v e).bind fun y => (fzD y).bind fun vd => .ok (.o (.dct [(kd, vd)]))
  | .dget d k x, e => (dE d e).bind fun a => (dctV a.rd).bind fun l => (dE k e).bind fun y => (keyV y.rd).bind fun kd => (dE x e).bind fun z => (fzD z).bind fun zd =>
      .ok (.v (.d (match look l kd with | some r => r | none => zd)))
  | .dix d k, e => (dE d e).bind fun a => (dctV a.rd).bind fun l => (dE k e).bind fun y => (keyV y.rd).bind fun kd => match look l kd with
    | some r => .ok (.v (.d r))
    | none => .stuck
  | .din no k d, e => (dE k e).bind fun y => (keyV y.rd).bind fun kd => (dE d e).bind fun a => (dctV a.rd).bind fun l => boolV (match look l kd with | some _ => !no | none => no)
  | .srtset a, e => (dE a e).bind fun x => srtsetV x.rd
  | .knew, _ => .ok (.o (.kd []))
  | .mnp least a, e => (dE a e).bind fun x => mnpV least x.rd
  | .tset a, e => (dE a e).bind fun x => tsetV x.rd
  | .minv d, e => (dE d e).bind fun a => (dctV a.rd).bind fun l => minvV l
  | .cnt a x, e => (dE a e).bind fun y => (dE x e).bind fun z => (intV z.rd).bind fun k => cntV y.rd k
  | .kix d k, e => (dE d e).bind fun a => (kdV a.rd).bind fun l => (dE k e).bind fun y => (intV y.rd).bind fun i => match lookI l i with
    | some r => .ok (.v (.d r))
    | none => .stuck
  | .klist d, e => (dE d e).bind fun a => (kdV a.rd).bind fun l => .ok (.o (.d (.list (keysI l))))
  | .index a x, e => (dE a e).bind fun y => (dE x e).bind fun z => z.rd.dat.bind fun d => indexV y.rd d
  | _, _ => .stuck
/-- a test -/
def dT : Ex → Env → R Bool
  | .not a, e => (dT a e).bind fun b => .ok (!b)
  | .and a b, e => (dT a e).bind fun k => match k with
    | true => dT b e
    | false => .ok false
  | .or a b, e => (dT a e).bind fun k => match k with
    | true => .ok true
    | false => dT b e
  | .cmp c a b, e => (dE a e).bind fun x => (dE b e).bind fun y => cmpV c x.rd y.rd
  | .isN no a, e => (dE a e).bind fun x => (isNV x.rd).bind fun b => .ok (match no with | true => !b | false => b)
  | .isB no a v, e => (dE a e).bind fun x => (isBV v x.rd).bind fun b => .ok (match no with | true => !b | false => b)
  | .chain c c' a b d, e => (dE a e).bind fun x => (dE b e).bind fun y => (cmpV c x.rd y.rd).bind fun k => match k with
    | true => (dE d e).bind fun z => cmpV c' y.rd z.rd
    | false => .ok false
  | .tst a, e => (dE a e).bind fun x => truV x.rd
  | .din no k d, e => (dE k e).bind fun y => (keyV y.rd).bind fun kd => (dE d e).bind fun a => (dctV a.rd).bind fun l => .ok (match look l kd with | some _ => !no | none => no)
  | _, _ => .stuck
/-- arguments, given away -/
def dL : Ex → Env → R (List Val)
  | .nil, _ => .ok []
  | .cons a es, e => (dE a e).bind fun x => x.fz.bind fun v => (dL es e).bind fun vs => .ok (v :: vs)
  | _, _ => .stuck
/-- items, given away; stars -/
def dD : Ex → Env → R (List D)
  | .nil, _ => .ok []
  | .cons a es, e => (dE a e).bind fun x => (fzD x).bind fun v => (dD es e).bind fun vs => .ok (v :: vs)
  | .star a es, e => (dE a e).bind fun x => (seqV x.rd).bind fun v => (dD es e).bind fun vs => .ok (v ++ vs)
  | _, _ => .stuck
/-- what a name may take, one by one -/
def dR : Ex → Env → R (List RV)
  | .nil, _ => .ok []
  | .cons a es, e => (dE a e).bind fun x => (dR es e).bind fun vs => .ok (x :: vs)
  | _, _ => .stuck
def dO : Ex → Env → R (Option Int)
  | .noE, _ => .ok none
  | .cons a _, e => (dE a e).bind fun x => (intV x.rd).bind fun i => .ok (some i)
  | _, _ => .stuck
/-- what is walked -/
def dI : Ex → Env → R (List D)
  | .irng1 a, e => (dE a e).bind fun x => (intV x.rd).bind fun i => match smallI i with
    | true => .ok (rngFrom 0 (natOf i))
    | false => .stuck
  | .irng2 a b, e => (dE a e).bind fun x => (dE b e).bind fun y => (intV x.rd).bind fun i => (intV y.rd).bind fun j => match smallI i, smallI j with
    | true, true => .ok (rngFrom i (natOf (j - i)))
    | _, _ => .stuck
  | .iseq a, e => (dE a e).bind fun x => x.fz.bind seqV
  | .ikeys a, e => (dE a e).bind fun x => x.fz.bind fun v => (dctV v).bind fun l => .ok (keysD l)
  | .irng3 a b, e => (dE a e).bind fun x => (dE b e).bind fun y => (intV x.rd).bind fun i => (intV y.rd).bind fun j => match smallI i, smallI j with
    | true, true => .ok (rngDown i (natOf (i - j)))
    | _, _ => .stuck
  | .ienum a, e => (dE a e).bind fun x => x.fz.bind fun v => (seqV v).bind fun l => .ok (enumFrom 0 l)
  | .izip a b, e => (dE a e).bind fun x => x.fz.bind fun v => (dE b e).bind fun y => y.fz.bind fun u => (seqV v).bind fun l => (seqV u).bind fun m => .ok (zipD l m)
  | _, _ => .stuck
/-- statements, blocks -/
def dS : Ex → Env → R Out
  | .asg (.name i) a, e => (dE a e).bind fun x => x.slot.bind fun s => .ok (.nx (setAt e i s))
  | .asg (.tup is) a, e => (dE a e).bind fun x => (fzD x).bind fun d => (setTg e (.tup is) d).bind fun e1 => .ok (.nx e1)
  | .par is es, e => (dR es e).bind fun xs => (setVals e is xs).bind fun e1 => .ok (.nx e1)
  | .app i a, e => (dE a e).bind fun x => (fzD x).bind fun d => appV e i d
  | .seti i k a, e => (dE a e).bind fun x => (fzD x).bind fun d => (dE k e).bind fun y => (intV y.rd).bind fun j => setiV e i j d
  | .kput i k a, e => (dE a e).bind fun x => (fzD x).bind fun d => (dE k e).bind fun y => (intV y.rd).bind fun j => kputV e i j d
  | .dput i k a, e => (dE a e).bind fun x => (fzD x).bind fun d => (dE k e).bind fun y => (keyV y.rd).bind fun kd => dputV e i kd d
  | .ex a, e => (dE a e).bind fun _ => .ok (.nx e)
  | .ret a, e => (dE a e).bind fun x => .ok (.rt x)
  | .retN, _ => .ok (.rt (.v (.d .none)))
  | .ifS c a b, e => (dT c e).bind fun k => match k with
    | true => dS a e
    | false => dS b e
  | .forS tg it body, e => (dI it e).bind fun xs => loopFor xs tg (fun e1 => dS body e1) e
  | .whl n c body, e => loopWh n (fun e1 => dT c e1) (fun e1 => dS body e1) e
  | .brk, e => .ok (.bk e)
  | .frz is rest, e => dS rest (freeze e is)
  | .snil, e => .ok (.nx e)
  | .scons s rest, e => (dS s e).bind fun o => match o with
    | .nx e1 => dS rest e1
    | .bk e1 => .ok (.bk e1)
    | .rt r => .ok (.rt r)
  | _, _ => .stuck
end
end
/-- a def: how many names it has, its body -/
structure Def where
  ar : Nat
  slots : Nat
  body : Ex
  tk : Bool := false
/-- a draw below the number given -/
def takeV : List Val → R RV
  | [.row, .d (.int m)] => match iLt 0 m, Nat.blt (iAbs m) big with
    | true, true => .draw (natOf m) fun v => .ok (.v (.d (.int v)))
    | _, _ => .stuck
  | _ => .stuck
def env0 : Nat → List Val → R Env
  | n, [] => .ok (List.replicate n .no)
  | n + 1, x :: xs => (env0 n xs).bind fun e => .ok (.v x :: e)
  | 0, _ :: _ => .stuck
def RV.out : RV → RV
  | .b _ x => .o x
  | r => r
def runDef (cf : Nat → List Val → R RV) (df : Def) (args : List Val) : R RV := match Nat.beq args.length df.ar with
  | true => (env0 df.slots args).bind fun e => (dS cf df.body e).bind fun o => match o with
    | .rt r => .ok r.out
    | .nx _ => .ok (.v (.d .none))
    | .bk _ => .stuck
  | false => .stuck
def find : List Def → Nat → Option Def
  | [], _ => none
  | d :: _, 0 => some d
  | _ :: r, i + 1 => find r i
def cfN (T : List Def) : Nat → Nat → List Val → R RV
  | 0, _, _ => .stuck
  | k + 1, f, args => match find T f with
    | some df => match df.tk with
      | true => takeV args
      | false => runDef (cfN T k) df args
    | none => .stuck
end Ev

/-! The evaluator's values over the hand layer's heap. -/
namespace Ev
open PySem PySem.Spec PyProof.Rows L2

/-- what is fixed: the written part, the tables of code objects -/
structure Cf where
  K : PySem.W.Frag
  ts : List Addr
  w : World
def Le (F H : Hp) : Prop := ∀ a o, F a = some o → H a = some o
theorem Le.refl (F : Hp) : Le F F := fun _ _ h => h
theorem Le.trans {F G H : Hp} (a : Le F G) (b : Le G H) : Le F H := fun x o h => b x o (a x o h)
theorem le_upd {F : Hp} {a : Addr} {o : HO} (h : F a = none) : Le F (upd F a o) := fun b u e => by
  rw [upd_ne (ne_of_none e h)]
  exact e
theorem Le.none {F H : Hp} {a : Addr} (l : Le F H) (h : H a = none) : F a = none := by
  cases e : F a with
  | none => rfl
  | some o => rw [l a o e] at h; cases h
def Spc (c : Cf) (dr : Option Addr) (a : Addr) : Prop := dr = some a ∨ a ∈ c.ts
/-- the row of draws: the script, how many were taken, the mixed number, a great cell's rest -/
def RowOk (c : Cf) (F H : Hp) (a : Addr) : Prop := ∃ (sc : Addr) (ns : List Int) (n s r : Int), H a = some (.lst [.ref sc, .int n, .int s, .int r]) ∧ SqL c.K F sc (ns.map V.int) ∧ ns.length ≤ 63 ∧ (∀ z ∈ ns, Builtin.Int.intBits z ≤ 1048576) ∧ 0 ≤ n ∧ 0 ≤ s ∧ s < 2147483647 ∧ 0 ≤ r
/-- a code object: its table at P -/
def CodeOb (o : Obj) (c P : Addr) : Prop := ∃ vs file tf flags tg inF text tt, o.cls = .type "code" ∧ o.data = .fields vs ∧ vs[11]? = some (.ref P) ∧ vs.getD 11 .none = .ref P ∧ vs.getD 18 .none = .str file tf ∧
    vs.getD 7 .none = .int flags tg ∧ vs.getD 9 .none = .bool inF ∧ vs.getD 10 .none = .int text tt ∧ c ≠ P
/-- a code object that is tracked, with its table -/
def CodeIn (ts : List Addr) (H : Hp) (cv : Value) : Prop := ∃ c P o, cv = .ref c ∧ H c = some (.frz o (.own c)) ∧ CodeOb o c P ∧ P ∉ ts ∧ GxR.TabG H P
/-- a def's table: its code objects are tracked -/
def TabW (ts : List Addr) (H : Hp) (p : Addr) : Prop := ∃ ps : Array Value, H p = some (.tbl ps) ∧ TriplesOk ps.toList ∧ ∀ pos cv, codeAmong pos ps.toList = some cv → CodeIn ts H cv
structure Wd (c : Cf) (dr : Option Addr) (F H : Hp) : Prop where
  row : ∀ a, dr = some a → RowOk c F H a
  tab : ∀ p ∈ c.ts, TabW c.ts H p
  nf : ∀ a ps, F a ≠ some (.tbl ps)
theorem Wd.some {c : Cf} {dr : Option Addr} {F H : Hp} (w : Wd c dr F H) {a : Addr} (h : Spc c dr a) : H a ≠ none := by
  rcases h with h | h
  · obtain ⟨_, _, _, _, _, e, _⟩ := w.row a h
    rw [e]
    exact fun z => nomatch z
  · obtain ⟨ps, e, _⟩ := w.tab a h
    rw [e]
    exact fun z => nomatch z
/-- no table -/
abbrev NTb (o : HO) : Prop := ∀ ps, o ≠ .tbl ps
/-- what was there is there; tables grow -/
structure Ext (c : Cf) (dr : Option Addr) (H H' : Hp) : Prop where
  at' : ∀ a o, H a = some o → ¬ Spc c dr a → NTb o → H' a = some o
  tb : ∀ a ps, H a = some (.tbl ps) → ∃ ps', H' a = some (.tbl ps')
section
variable {c : Cf} {dr : Option Addr} {H H1 H2 F F1 F2 H0 : Hp}
theorem Ext.refl : Ext c dr H H := ⟨fun _ _ h _ _ => h, fun _ ps h => ⟨ps, h⟩⟩
theorem Ext.trans (a : Ext c dr H H1) (b : Ext c dr H1 H2) : Ext c dr H H2 := ⟨fun x o h n t => b.at' x o (a.at' x o h n t) n t, fun x ps h => by
  obtain ⟨ps', h'⟩ := a.tb x ps h
  exact b.tb x ps' h'⟩
theorem ext_upd {p : Addr} {o : HO} (h : H p = none) : Ext c dr H (upd H p o) := ⟨fun b u e _ _ => le_upd h b u e, fun b ps e => ⟨ps, le_upd h b _ e⟩⟩
theorem Ext.there (x : Ext c dr H H1) {a : Addr} {o : HO} (h : H a = some o) (n : ¬ Spc c dr a) : ∃ o', H1 a = some o' := by
  cases o with
  | tbl ps =>
    obtain ⟨ps', h'⟩ := x.tb a ps h
    exact ⟨_, h'⟩
  | _ => exact ⟨_, x.at' a _ h n (fun _ z => nomatch z)⟩
/-- from (F, H) on to (F', H'): F the part that never changes any more -/
structure Gr (c : Cf) (dr : Option Addr) (F H F' H' : Hp) : Prop where
  le : Le F F'
  ext : Ext c dr H H'
  nw : ∀ a, (H a ≠ none ∨ Spc c dr a) → F a = none → F' a = none
theorem Gr.refl : Gr c dr F H F H := ⟨Le.refl _, Ext.refl, fun _ _ h => h⟩
theorem Gr.trans (a : Gr c dr F H F1 H1) (b : Gr c dr F1 H1 F2 H2) : Gr c dr F H F2 H2 :=
  ⟨a.le.trans b.le, a.ext.trans b.ext, fun x h n => b.nw x (by
    rcases h with h | h
    · by_cases s : Spc c dr x
      · exact .inr s
      · cases e : H x with
        | none => exact absurd e h
        | some o =>
          obtain ⟨o', e'⟩ := a.ext.there e s
          rw [e']
          exact .inl fun z => nomatch z
    · exact .inr h) (a.nw x h n)⟩

end
mutual
/-- the datum that is to be read at a value: tracked lists and tuples -/
inductive Rp (F : Hp) : V → D → Prop
  | non : Rp F .non .none
  | bl (b : Bool) : Rp F (.bl b) (.bool b)
  | int (i : Int) : Rp F (.int i) (.int i)
  | str (x : Str) : Rp F (.str x) (.str x)
  | lst {a : Addr} {xs : List V} {ds : List D} : F a = some (.lst xs) → Rps F xs ds → Rp F (.ref a) (.list ds)
  | tup {a : Addr} {xs : List V} {ds : List D} : F a = some (.tup xs) → Rps F xs ds → Rp F (.ref a) (.tuple ds)
inductive Rps (F : Hp) : List V → List D → Prop
  | nil : Rps F [] []
  | cons {v : V} {vs : List V} {d : D} {ds : List D} : Rp F v d → Rps F vs ds → Rps F (v :: vs) (d :: ds)
end
section
variable {c : Cf} {dr : Option Addr} {H H1 H2 F F1 F2 H0 : Hp}
mutual
theorem dp_mono (l : Le F H) : ∀ (d : D) (v : V), Rp F v d → Rp H v d
  | .none, _, h => by cases h; exact .non
  | .bool _, _, h => by cases h; exact .bl _
  | .int _, _, h => by cases h; exact .int _
  | .str _, _, h => by cases h; exact .str _
  | .list ds, _, h => by
    cases h with
    | lst hs ha => exact .lst (l _ _ hs) (dps_mono l ds _ ha)
  | .tuple ds, _, h => by
    cases h with
    | tup hs ha => exact .tup (l _ _ hs) (dps_mono l ds _ ha)
  | .dict _, _, h => by cases h
theorem dps_mono (l : Le F H) : ∀ (ds : List D) (vs : List V), Rps F vs ds → Rps H vs ds
  | [], _, h => by cases h; exact .nil
  | d :: ds, _, h => by
    cases h with
    | cons h1 h2 => exact .cons (dp_mono l d _ h1) (dps_mono l ds _ h2)
end
mutual
/-- .. as the layer has it -/
theorem Rp.dp {K : PySem.W.Frag} : ∀ (d : D) (v : V), Rp F v d → Dp K F v d
  | .none, _, h => by cases h; exact .non
  | .bool _, _, h => by cases h; exact .bl _
  | .int _, _, h => by cases h; exact .int _
  | .str _, _, h => by cases h; exact .str _
  | .list ds, _, h => by
    cases h with
    | lst hs ha => exact .lst (.inl (.inl hs)) (Rps.dp ds _ ha)
  | .tuple ds, _, h => by
    cases h with
    | tup hs ha => exact .tup (.inl (.inl hs)) (Rps.dp ds _ ha)
  | .dict _, _, h => by cases h
theorem Rps.dp {K : PySem.W.Frag} : ∀ (ds : List D) (vs : List V), Rps F vs ds → DpAll K F vs ds
  | [], _, h => by cases h; exact .nil
  | d :: ds, _, h => by
    cases h with
    | cons h1 h2 => exact .cons (Rp.dp d _ h1) (Rps.dp ds _ h2)
end
theorem dps_len : ∀ {vs : List V} {ds : List D}, Rps F vs ds → vs.length = ds.length
  | _, [], h => by cases h; rfl
  | _, _ :: ds, h => by
    cases h with
    | cons _ h2 => simp [dps_len h2]
theorem dps_app : ∀ {vs ws : List V} {ds es : List D}, Rps F vs ds → Rps F ws es → Rps F (vs ++ ws) (ds ++ es)
  | _, _, [], _, h, k => by cases h; exact k
  | _, _, _ :: ds, _, h, k => by
    cases h with
    | cons h1 h2 => exact .cons h1 (dps_app h2 k)
theorem dps_get : ∀ {vs : List V} {ds : List D} {i : Nat} {d : D}, Rps F vs ds → ds[i]? = some d → ∃ v, vs[i]? = some v ∧ Rp F v d
  | _, [], _, _, _, e => by simp at e
  | _, _ :: ds, 0, d, h, e => by
    cases h with
    | cons h1 _ =>
      simp at e
      subst e
      exact ⟨_, rfl, h1⟩
  | _, _ :: ds, i + 1, d, h, e => by
    cases h with
    | cons _ h2 =>
      obtain ⟨v, e1, h1⟩ := dps_get (i := i) h2 (by simpa using e)
      exact ⟨v, by simpa using e1, h1⟩
theorem dps_take : ∀ {vs : List V} {ds : List D} (n : Nat), Rps F vs ds → Rps F (vs.take n) (ds.take n)
  | _, [], n, h => by cases h; simpa using Rps.nil
  | _, _ :: _, 0, _ => .nil
  | _, _ :: ds, n + 1, h => by
    cases h with
    | cons h1 h2 => exact .cons h1 (dps_take n h2)
theorem dps_drop : ∀ {vs : List V} {ds : List D} (n : Nat), Rps F vs ds → Rps F (vs.drop n) (ds.drop n)
  | _, [], n, h => by cases h; simpa using Rps.nil
  | _, _ :: _, 0, h => h
  | _, _ :: ds, n + 1, h => by
    cases h with
    | cons _ h2 => exact dps_drop n h2

/-! ### dicts -/
mutual
def nkD : D → NestedKey
  | .none => .none
  | .int i => .num i
  | .tuple a => .tup (nkDs a)
  | .bool _ => .none
  | .str _ => .none
  | .list _ => .none
  | .dict _ => .none
def nkDs : List D → List NestedKey
  | [] => []
  | x :: xs => nkD x :: nkDs xs
end
/-- the dict at a is this object -/
def dnO (a : Addr) (o : Obj) : HO := .ext fun h => h.get? a = some o
inductive Ents (F : Hp) : List (D × D) → List (NestedKey × Addr × Value) → Prop
  | nil : Ents F [] []
  | cons {k d : D} {b : Addr} {u : Value} {v : V} {kvs : List (D × D)} {xs : List (NestedKey × Addr × Value)} : keyT k = true → Rp F (.ref b) k → RelV v u → Rp F v d → Ents F kvs xs → Ents F ((k, d) :: kvs) ((nkD k, b, u) :: xs)
def entN (w : World) (x : NestedKey × Addr × Value) : DictEntry := ⟨x.1.hash w, .ref x.2.1, x.2.2⟩
def DN (w : World) (F : Hp) (a : Addr) (o : Obj) (kvs : List (D × D)) : Prop := (a == sysModules) = false ∧ o.ExactDict ∧ ∃ (es : Array DictEntry) (ep : Nat) (xs : List (NestedKey × Addr × Value)), o.data = .dict es ep ∧ es.toList = xs.map (entN w) ∧ (xs.map (·.1)).Nodup ∧ xs.length ≤ sizeLine ∧ Ents F kvs xs
theorem ents_mono (l : Le F H) : ∀ {kvs : List (D × D)} {xs : List (NestedKey × Addr × Value)}, Ents F kvs xs → Ents H kvs xs
  | _, _, .nil => .nil
  | _, _, .cons h1 h2 h3 h4 h5 => .cons h1 (dp_mono l _ _ h2) h3 (dp_mono l _ _ h4) (ents_mono l h5)
theorem dn_mono {w : World} {a : Addr} {o : Obj} {kvs : List (D × D)} (l : Le F H) (h : DN w F a o kvs) : DN w H a o kvs := by
  obtain ⟨h1, h2, es, ep, xs, h3, h4, h5, h6, h7⟩ := h
  exact ⟨h1, h2, es, ep, xs, h3, h4, h5, h6, ents_mono l h7⟩
/-! ### dicts with int keys -/
inductive KRep (F : Hp) : List (Key × V) → List (Int × D) → Prop
  | nil : KRep F [] []
  | cons {k : Int} {v : V} {d : D} {kvs : List (Key × V)} {l : List (Int × D)} : Rp F v d → KRep F kvs l → KRep F ((.inl k, v) :: kvs) ((k, d) :: l)
theorem krep_mono (l : Le F H) : ∀ {kvs : List (Key × V)} {x : List (Int × D)}, KRep F kvs x → KRep H kvs x
  | _, _, .nil => .nil
  | _, _, .cons h1 h2 => .cons (dp_mono l _ _ h1) (krep_mono l h2)
/-! ### values, slots -/
def VRep (c : Cf) (dr : Option Addr) (F : Hp) : Val → V → Prop
  | .d x, v => Rp F v x
  | .dct kvs, v => ∃ a o, v = .ref a ∧ F a = some (dnO a o) ∧ DN c.w F a o kvs
  | .kd l, v => ∃ a kvs, v = .ref a ∧ F a = some (.dK kvs) ∧ KRep F kvs l
  | .row, v => ∃ a, dr = some a ∧ v = .ref a
def VReps (c : Cf) (dr : Option Addr) (F : Hp) : List Val → List V → Prop
  | [], [] => True
  | x :: xs, v :: vs => VRep c dr F x v ∧ VReps c dr F xs vs
  | _, _ => False
/-- a list at a, its items in the part that stays -/
def ORep (c : Cf) (F H : Hp) : Val → Addr → Prop
  | .d x, a => ∃ ds xs, x = .list ds ∧ H a = some (.lst xs) ∧ Rps F xs ds
  | .dct kvs, a => ∃ o, H a = some (dnO a o) ∧ DN c.w F a o kvs
  | .kd l, a => ∃ kvs, H a = some (.dK kvs) ∧ KRep F kvs l
  | .row, _ => False
theorem vrep_mono {x : Val} {v : V} (l : Le F F1) (h : VRep c dr F x v) : VRep c dr F1 x v := by
  cases x with
  | d x => exact dp_mono l x v h
  | dct _ =>
    obtain ⟨a, o, h1, h2, h3⟩ := h
    exact ⟨a, o, h1, l _ _ h2, dn_mono l h3⟩
  | kd _ =>
    obtain ⟨a, kvs, h1, h2, h3⟩ := h
    exact ⟨a, kvs, h1, l _ _ h2, krep_mono l h3⟩
  | row => exact h
theorem vreps_mono (l : Le F F1) : ∀ {xs : List Val} {vs : List V}, VReps c dr F xs vs → VReps c dr F1 xs vs
  | [], [], _ => trivial
  | _ :: _, _ :: _, h => ⟨vrep_mono l h.1, vreps_mono l h.2⟩
  | [], _ :: _, h => h.elim
  | _ :: _, [], h => h.elim
theorem orep_mono {x : Val} {a : Addr} (l : Le F F1) (h : ORep c F H x a) (e : H1 a = H a) : ORep c F1 H1 x a := by
  cases x with
  | d x =>
    obtain ⟨ds, xs, r, h1, h2⟩ := h
    exact ⟨ds, xs, r, by rw [e]; exact h1, dps_mono l ds xs h2⟩
  | dct _ =>
    obtain ⟨o, h1, h2⟩ := h
    exact ⟨o, by rw [e]; exact h1, dn_mono l h2⟩
  | kd _ =>
    obtain ⟨kvs, h1, h2⟩ := h
    exact ⟨kvs, by rw [e]; exact h1, krep_mono l h2⟩
  | row => exact h
theorem orep_some {x : Val} {a : Addr} (h : ORep c F H x a) : ∃ o, H a = some o := by
  cases x with
  | d x =>
    obtain ⟨ds, xs, r, h1, _⟩ := h
    exact ⟨_, h1⟩
  | dct _ =>
    obtain ⟨o, h1, _⟩ := h
    exact ⟨_, h1⟩
  | kd _ =>
    obtain ⟨o, h1, _⟩ := h
    exact ⟨_, h1⟩
  | row => exact h.elim

structure StOk (c : Cf) (dr : Option Addr) (H0 F H : Hp) (e : Env) (σ : L2.St) : Prop where
  le : Le F H
  nsp : ∀ a, Spc c dr a → F a = none
  ext : Ext c dr H0 H
  wd : Wd c dr F H
  len : e.length = σ.length
  val : ∀ i x, slotAt e i = .v x → ∃ v, σ[i]? = some (some v) ∧ VRep c dr F x v
  own : ∀ i x, slotAt e i = .o x → ∃ a, σ[i]? = some (some (.ref a)) ∧ F a = none ∧ ¬ Spc c dr a ∧ H0 a = none ∧ ORep c F H x a
  inj : ∀ i j x y a, slotAt e i = .o x → slotAt e j = .o y → σ[i]? = some (some (V.ref a)) → σ[j]? = some (some (V.ref a)) → i = j
/-- an operand -/
def Opd (c : Cf) (dr : Option Addr) (F : Hp) (e : Env) (σ : L2.St) (x : Val) (v : V) : Prop := VRep c dr F x v ∨ ∃ i, slotAt e i = .o x ∧ σ[i]? = some (some v)
/-- a result of what began at the heap Hs -/
def RRep (c : Cf) (dr : Option Addr) (Hs F H : Hp) (e : Env) (σ : L2.St) : RV → V → Prop
  | .v x, v => VRep c dr F x v
  | .o x, v => ∃ a, v = .ref a ∧ F a = none ∧ ¬ Spc c dr a ∧ Hs a = none ∧ ORep c F H x a ∧ ∀ i y, slotAt e i = .o y → σ[i]? ≠ some (some (.ref a))
  | .b i x, v => slotAt e i = .o x ∧ σ[i]? = some (some v)

variable {e : Env} {σ : L2.St}
theorem StOk.fnone (st : StOk c dr H0 F H e σ) {p : Addr} (h : H p = none) : F p = none := st.le.none h
theorem StOk.nspc (st : StOk c dr H0 F H e σ) {p : Addr} (h : H p = none) : ¬ Spc c dr p := fun z => st.wd.some z h
theorem StOk.h0none (st : StOk c dr H0 F H e σ) {p : Addr} (h : H p = none) : H0 p = none := by
  cases q : H0 p with
  | none => rfl
  | some o =>
    obtain ⟨o', e'⟩ := st.ext.there q (st.nspc h)
    rw [e'] at h
    cases h
theorem StOk.ownlt (st : StOk c dr H0 F H e σ) {p : Addr} (h : H p = none) : ∀ i y, slotAt e i = .o y → σ[i]? ≠ some (some (.ref p)) := fun i y h1 h2 => by
  obtain ⟨a, e1, _, _, _, h3⟩ := st.own i y h1
  rw [h2] at e1
  cases e1
  obtain ⟨o, h4⟩ := orep_some h3
  rw [h] at h4
  cases h4
theorem sql_mono {K : PySem.W.Frag} {a : Addr} {xs : List V} (l : Le F F1) (h : SqL K F a xs) : SqL K F1 a xs := by
  rcases h with (h | ⟨o, h⟩) | h
  · exact .inl (.inl (l _ _ h))
  · exact .inl (.inr ⟨o, l _ _ h⟩)
  · exact .inr h
theorem Wd.mono (w : Wd c dr F H) (l : Le F F1) (nf : ∀ a ps, F1 a ≠ Option.some (HO.tbl ps)) : Wd c dr F1 H :=
  ⟨fun a e => by
    obtain ⟨sc, ns, n, s, r, h1, h2, h3⟩ := w.row a e
    exact ⟨sc, ns, n, s, r, h1, sql_mono l h2, h3⟩, w.tab, nf⟩
theorem nf_upd {p : Addr} {o : HO} (nf : ∀ a ps, F a ≠ some (HO.tbl ps)) (t : NTb o) : ∀ a ps, upd F p o a ≠ some (HO.tbl ps) := fun a ps z => by
  by_cases q : a = p
  · rw [q, upd_same] at z
    exact t ps (Option.some.inj z)
  · rw [upd_ne q] at z
    exact nf a ps z
/-- neither a table nor a code object -/
def Chg (H : Hp) (p : Addr) : Prop := ∀ o, H p = some o → NTb o ∧ ∀ ob u, o ≠ .frz ob u
theorem chg_none {p : Addr} (h : H p = none) : Chg H p := fun o z => by rw [h] at z; cases z
theorem chg_lst {p : Addr} {xs : List V} (h : H p = some (.lst xs)) : Chg H p := fun o z => by
  rw [h] at z
  cases z
  exact ⟨(fun _ z => nomatch z), (fun _ _ z => nomatch z)⟩
theorem chg_dK {p : Addr} {kvs : List (Key × V)} (h : H p = some (.dK kvs)) : Chg H p := fun o z => by
  rw [h] at z
  cases z
  exact ⟨(fun _ z => nomatch z), (fun _ _ z => nomatch z)⟩
theorem chg_dn {p : Addr} {ob : Obj} (h : H p = some (dnO p ob)) : Chg H p := fun o z => by
  rw [h] at z
  cases z
  exact ⟨(fun _ z => nomatch z), (fun _ _ z => nomatch z)⟩
theorem tabG_upd {p q : Addr} {o : HO} (ch : Chg H p) (t : GxR.TabG H q) : GxR.TabG (upd H p o) q := by
  obtain ⟨ps, h1, h2⟩ := t
  refine ⟨ps, ?_, h2⟩
  rw [upd_ne (fun z : q = p => (ch _ (by rw [← z]; exact h1)).1 ps rfl)]
  exact h1
theorem codeIn_upd {ts : List Addr} {p : Addr} {o : HO} {cv : Value} (ch : Chg H p) (t : CodeIn ts H cv) : CodeIn ts (upd H p o) cv := by
  obtain ⟨c', P', ob, h1, h2, h3, h5, h4⟩ := t
  refine ⟨c', P', ob, h1, ?_, h3, h5, tabG_upd ch h4⟩
  rw [upd_ne (fun z : c' = p => (ch _ (by rw [← z]; exact h2)).2 _ _ rfl)]
  exact h2
theorem wd_upd (w : Wd c dr F H) {p : Addr} {o : HO} (h : ¬ Spc c dr p) (ch : Chg H p) : Wd c dr F (upd H p o) :=
  ⟨fun a e => by
    have ne : a ≠ p := fun z => h (.inl (by rw [← z]; exact e))
    obtain ⟨sc, ns, n, s, r, h1, h2⟩ := w.row a e
    exact ⟨sc, ns, n, s, r, by rw [upd_ne ne]; exact h1, h2⟩,
   fun a m => by
    have ne : a ≠ p := fun z => h (.inr (by rw [← z]; exact m))
    obtain ⟨ps, q, r, t⟩ := w.tab a m
    exact ⟨ps, by rw [upd_ne ne]; exact q, r, fun pos cv e => codeIn_upd ch (t pos cv e)⟩, w.nf⟩
theorem orep_at {x : Val} {a : Addr} (e : Ext c dr H H1) (h : ORep c F H x a) (n : ¬ Spc c dr a) : H1 a = H a := by
  cases x with
  | d x =>
    obtain ⟨ds, xs, r, h1, _⟩ := h
    rw [h1]
    exact e.at' a _ h1 n (fun _ z => nomatch z)
  | dct _ =>
    obtain ⟨o, h1, _⟩ := h
    rw [h1]
    exact e.at' a _ h1 n (fun _ z => nomatch z)
  | kd _ =>
    obtain ⟨o, h1, _⟩ := h
    rw [h1]
    exact e.at' a _ h1 n (fun _ z => nomatch z)
  | row => exact h.elim
theorem orep_chg {x : Val} {a : Addr} (h : ORep c F H x a) : Chg H a := by
  cases x with
  | d x =>
    obtain ⟨ds, xs, r, h1, _⟩ := h
    exact chg_lst h1
  | dct _ =>
    obtain ⟨o, h1, _⟩ := h
    exact chg_dn h1
  | kd _ =>
    obtain ⟨o, h1, _⟩ := h
    exact chg_dK h1
  | row => exact h.elim
theorem le_upd2 {o : HO} {p : Addr} (l : Le F H) : Le (upd F p o) (upd H p o) := fun a u h => by
  by_cases z : a = p
  · subst z
    rw [upd_same] at h ⊢
    exact h
  · rw [upd_ne z] at h ⊢
    exact l a u h
/-- a new object that stays as it is -/
theorem StOk.newF (st : StOk c dr H0 F H e σ) {p : Addr} {o : HO} (h : H p = none) (t : NTb o) : StOk c dr H0 (upd F p o) (upd H p o) e σ ∧ Gr c dr F H (upd F p o) (upd H p o) := by
  have fp := st.fnone h
  have np := st.nspc h
  refine ⟨⟨le_upd2 st.le, fun a s => ?_, st.ext.trans (ext_upd h), (wd_upd st.wd np (chg_none h)).mono (le_upd fp) (nf_upd st.wd.nf t), st.len, fun i x q => ?_, fun i x q => ?_, st.inj⟩, ⟨le_upd fp, ext_upd h, fun a s n => ?_⟩⟩
  · rw [upd_ne (fun z => np (by rw [← z]; exact s))]
    exact st.nsp a s
  · obtain ⟨v, h1, h2⟩ := st.val i x q
    exact ⟨v, h1, vrep_mono (le_upd fp) h2⟩
  · obtain ⟨a, h1, h2, h3, h4, h5⟩ := st.own i x q
    have ne : a ≠ p := fun z => st.ownlt h i x q (by rw [h1, z])
    exact ⟨a, h1, by rw [upd_ne ne]; exact h2, h3, h4, orep_mono (le_upd fp) h5 (upd_ne ne)⟩
  · rw [upd_ne (fun z => by
      rcases s with s | s
      · exact s (by rw [z]; exact h)
      · exact np (by rw [← z]; exact s))]
    exact n
/-- a new object that nothing else holds -/
theorem StOk.newO (st : StOk c dr H0 F H e σ) {p : Addr} {o : HO} (h : H p = none) : StOk c dr H0 F (upd H p o) e σ ∧ Gr c dr F H F (upd H p o) := by
  have np := st.nspc h
  refine ⟨⟨st.le.trans (le_upd h), st.nsp, st.ext.trans (ext_upd h), wd_upd st.wd np (chg_none h), st.len, st.val, fun i x q => ?_, st.inj⟩, ⟨Le.refl _, ext_upd h, fun a _ n => n⟩⟩
  obtain ⟨a, h1, h2, h3, h4, h5⟩ := st.own i x q
  have ne : a ≠ p := fun z => st.ownlt h i x q (by rw [h1, z])
  exact ⟨a, h1, h2, h3, h4, orep_mono (Le.refl _) h5 (upd_ne ne)⟩
theorem StOk.newL (st : StOk c dr H0 F H e σ) {p : Addr} {xs : List V} {ds : List D} (h : H p = none) (r : Rps F xs ds) :
    StOk c dr H0 F (upd H p (.lst xs)) e σ ∧ Gr c dr F H F (upd H p (.lst xs)) ∧ RRep c dr H F (upd H p (.lst xs)) e σ (.o (.d (.list ds))) (.ref p) :=
  ⟨(st.newO h).1, (st.newO h).2, p, rfl, st.fnone h, st.nspc h, h, ⟨ds, xs, rfl, upd_same, r⟩, st.ownlt h⟩
theorem StOk.newT (st : StOk c dr H0 F H e σ) {p : Addr} {xs : List V} {ds : List D} (h : H p = none) (r : Rps F xs ds) :
    StOk c dr H0 (upd F p (.tup xs)) (upd H p (.tup xs)) e σ ∧ Gr c dr F H (upd F p (.tup xs)) (upd H p (.tup xs)) ∧ RRep c dr H (upd F p (.tup xs)) (upd H p (.tup xs)) e σ (.v (.d (.tuple ds))) (.ref p) :=
  ⟨(st.newF (o := .tup xs) h (fun _ z => nomatch z)).1, (st.newF (o := .tup xs) h (fun _ z => nomatch z)).2, .tup upd_same (dps_mono (le_upd (st.fnone h)) ds xs r)⟩
/-- a new object is given to the part that stays -/
theorem StOk.frzH {Hs Fs : Hp} (st : StOk c dr H0 F H e σ) (g : Gr c dr Fs Hs F H) {a : Addr} {ho : HO} (fa : F a = none) (na : ¬ Spc c dr a) (ha : Hs a = none) (h1 : H a = some ho) (t : NTb ho) (ns : ∀ i y, slotAt e i = .o y → σ[i]? ≠ some (some (V.ref a))) :
    Gr c dr Fs Hs (upd F a ho) H ∧ Le F (upd F a ho) ∧ StOk c dr H0 (upd F a ho) H e σ := by
  refine ⟨⟨g.le.trans (le_upd fa), g.ext, fun b s n => ?_⟩, le_upd fa, ⟨?_, ?_, st.ext, st.wd.mono (le_upd fa) (nf_upd st.wd.nf t), st.len, fun i x q => ?_, fun i x q => ?_, st.inj⟩⟩
  · rw [upd_ne (fun z => by
      rcases s with s | s
      · exact s (by rw [z]; exact ha)
      · exact na (by rw [← z]; exact s))]
    exact g.nw b s n
  · intro b o hb
    by_cases z : b = a
    · subst z
      rw [upd_same] at hb
      rw [h1]
      exact hb
    · rw [upd_ne z] at hb
      exact st.le b o hb
  · intro b s
    rw [upd_ne (fun z => na (by rw [← z]; exact s))]
    exact st.nsp b s
  · obtain ⟨v, e1, e2⟩ := st.val i x q
    exact ⟨v, e1, vrep_mono (le_upd fa) e2⟩
  · obtain ⟨b, e1, e2, e3, e4, e5⟩ := st.own i x q
    have ne : b ≠ a := fun z => ns i x q (by rw [e1, z])
    exact ⟨b, e1, by rw [upd_ne ne]; exact e2, e3, e4, orep_mono (le_upd fa) e5 rfl⟩
/-- a new list or dict is given to the part that stays -/
theorem StOk.frzO {Hs Fs : Hp} (st : StOk c dr H0 F H e σ) (g : Gr c dr Fs Hs F H) {x : Val} {v : V} (h : RRep c dr Hs F H e σ (.o x) v) : ∃ F', Gr c dr Fs Hs F' H ∧ Le F F' ∧ StOk c dr H0 F' H e σ ∧ VRep c dr F' x v := by
  obtain ⟨a, rfl, fa, na, ha, r, ns⟩ := h
  cases x with
  | d x =>
    obtain ⟨ds, xs, rfl, h1, h2⟩ := r
    obtain ⟨z1, z2, z3⟩ := st.frzH g fa na ha h1 (fun _ z => nomatch z) ns
    exact ⟨_, z1, z2, z3, .lst upd_same (dps_mono z2 ds xs h2)⟩
  | dct kvs =>
    obtain ⟨o, h1, h2⟩ := r
    obtain ⟨z1, z2, z3⟩ := st.frzH g fa na ha h1 (fun _ z => nomatch z) ns
    exact ⟨_, z1, z2, z3, a, o, rfl, upd_same, dn_mono z2 h2⟩
  | kd l =>
    obtain ⟨kvs, h1, h2⟩ := r
    obtain ⟨z1, z2, z3⟩ := st.frzH g fa na ha h1 (fun _ z => nomatch z) ns
    exact ⟨_, z1, z2, z3, a, kvs, rfl, upd_same, krep_mono z2 h2⟩
  | row => exact r.elim
/-- what was given away stands -/
theorem StOk.fz {Hs Fs : Hp} (st : StOk c dr H0 F H e σ) (g : Gr c dr Fs Hs F H) {r : RV} {v : V} {x : Val} (h : RRep c dr Hs F H e σ r v) {Q : Val → Prop} (q : r.fz.Post Q) : ∃ F' x, Gr c dr Fs Hs F' H ∧ Le F F' ∧ StOk c dr H0 F' H e σ ∧ VRep c dr F' x v ∧ Q x := by
  cases r with
  | v x => exact ⟨F, x, g, Le.refl _, st, h, q⟩
  | o x =>
    obtain ⟨F', g', l, st', h'⟩ := st.frzO g h
    exact ⟨F', x, g', l, st', h', q⟩
  | b i x => exact q.elim
theorem StOk.rd {Hs Fs : Hp} (st : StOk c dr H0 F H e σ) (g : Gr c dr Fs Hs F H) {r : RV} {v : V} (h : RRep c dr Hs F H e σ r v) : ∃ F', Gr c dr Fs Hs F' H ∧ Le F F' ∧ StOk c dr H0 F' H e σ ∧ Opd c dr F' e σ r.rd v := by
  cases r with
  | v x => exact ⟨F, g, Le.refl _, st, .inl h⟩
  | o x =>
    obtain ⟨F', g', l, st', h'⟩ := st.frzO g h
    exact ⟨F', g', l, st', .inl h'⟩
  | b i x => exact ⟨F, g, Le.refl _, st, .inr ⟨i, h.1, h.2⟩⟩
theorem Opd.mono {x : Val} {v : V} (h : Opd c dr F e σ x v) (l : Le F F1) : Opd c dr F1 e σ x v := by
  rcases h with h | h
  · exact .inl (vrep_mono l h)
  · exact .inr h
theorem RRep.back {Hs : Hp} {r : RV} {v : V} (h : RRep c dr H1 F H e σ r v) (x : Ext c dr Hs H1) : RRep c dr Hs F H e σ r v := by
  cases r with
  | v _ => exact h
  | b _ _ => exact h
  | o y =>
    obtain ⟨a, rfl, fa, na, ha, r⟩ := h
    refine ⟨a, rfl, fa, na, ?_, r⟩
    cases q : Hs a with
    | none => rfl
    | some o =>
      obtain ⟨o', e'⟩ := x.there q na
      rw [e'] at ha
      cases ha
/-- what an operand is, in the whole heap -/
theorem Opd.rp (st : StOk c dr H0 F H e σ) {d : D} {v : V} (h : Opd c dr F e σ (.d d) v) : Rp H v d := by
  rcases h with h | ⟨i, h1, h2⟩
  · exact dp_mono st.le d v h
  · obtain ⟨a, e1, _, _, _, ds, xs, rfl, e2, e3⟩ := st.own i _ h1
    rw [h2] at e1
    cases e1
    exact .lst e2 (dps_mono st.le ds xs e3)
theorem Opd.list (st : StOk c dr H0 F H e σ) {ds : List D} {v : V} (h : Opd c dr F e σ (.d (.list ds)) v) : ∃ a xs, v = .ref a ∧ H a = some (.lst xs) ∧ Rps F xs ds := by
  rcases h with h | ⟨i, h1, h2⟩
  · have h : Rp F v (.list ds) := h
    cases h with
    | lst hs ha => exact ⟨_, _, rfl, st.le _ _ hs, ha⟩
  · obtain ⟨a, e1, _, _, _, es, xs, q, e2, e3⟩ := st.own i _ h1
    cases q
    rw [h2] at e1
    cases e1
    exact ⟨a, xs, rfl, e2, e3⟩
theorem Opd.tup (st : StOk c dr H0 F H e σ) {ds : List D} {v : V} (h : Opd c dr F e σ (.d (.tuple ds)) v) : ∃ a xs, v = .ref a ∧ F a = some (.tup xs) ∧ H a = some (.tup xs) ∧ Rps F xs ds := by
  rcases h with h | ⟨i, h1, h2⟩
  · have h : Rp F v (.tuple ds) := h
    cases h with
    | tup hs ha => exact ⟨_, _, rfl, hs, st.le _ _ hs, ha⟩
  · obtain ⟨a, e1, _, _, _, es, xs, q, e2, e3⟩ := st.own i _ h1
    cases q
theorem Opd.dct (st : StOk c dr H0 F H e σ) {kvs : List (D × D)} {v : V} (h : Opd c dr F e σ (.dct kvs) v) : ∃ a o, v = .ref a ∧ H a = some (dnO a o) ∧ DN c.w F a o kvs := by
  rcases h with h | ⟨i, h1, h2⟩
  · obtain ⟨a, o, h1, h2, h3⟩ := h
    exact ⟨a, o, h1, st.le _ _ h2, h3⟩
  · obtain ⟨a, e1, _, _, _, o, e2, e3⟩ := st.own i _ h1
    rw [h2] at e1
    cases e1
    exact ⟨a, o, rfl, e2, e3⟩
theorem Opd.kd (st : StOk c dr H0 F H e σ) {l : List (Int × D)} {v : V} (h : Opd c dr F e σ (.kd l) v) : ∃ a kvs, v = .ref a ∧ H a = some (.dK kvs) ∧ KRep F kvs l := by
  rcases h with h | ⟨i, h1, h2⟩
  · obtain ⟨a, o, h1, h2, h3⟩ := h
    exact ⟨a, o, h1, st.le _ _ h2, h3⟩
  · obtain ⟨a, e1, _, _, _, o, e2, e3⟩ := st.own i _ h1
    rw [h2] at e1
    cases e1
    exact ⟨a, o, rfl, e2, e3⟩
/-- a key is frozen -/
theorem Opd.key (st : StOk c dr H0 F H e σ) {k : D} {v : V} (hk : keyT k = true) (h : Opd c dr F e σ (.d k) v) : ∃ b, v = .ref b ∧ Rp F (.ref b) k := by
  cases k with
  | tuple ds =>
    obtain ⟨a, xs, h1, h2, _, h3⟩ := h.tup st
    exact ⟨a, h1, .tup h2 h3⟩
  | _ => exact (Bool.false_ne_true hk).elim
theorem Opd.int (st : StOk c dr H0 F H e σ) {i : Int} {v : V} (h : Opd c dr F e σ (.d (.int i)) v) : v = .int i := by
  have h := h.rp st
  cases h
  rfl
theorem Opd.bl (st : StOk c dr H0 F H e σ) {i : Bool} {v : V} (h : Opd c dr F e σ (.d (.bool i)) v) : v = .bl i := by
  have h := h.rp st
  cases h
  rfl
theorem Opd.non (st : StOk c dr H0 F H e σ) {v : V} (h : Opd c dr F e σ (.d .none) v) : v = .non := by
  have h := h.rp st
  cases h
  rfl
end
end Ev

/-! Plain data: equality, order, sorting. -/
namespace Ev
open PySem

mutual
theorem okD_lay : ∀ (d : D) (n : Nat), okD n d = true → d.canLay0 = true ∧ d.depth ≤ n
  | .none, n, _ => by cases n <;> exact ⟨by simp [PyData.canLay0], by simp [PyData.depth]⟩
  | .bool _, n, h => by cases n <;> simp [okD] at h
  | .int _, n, _ => by cases n <;> exact ⟨by simp [PyData.canLay0], by simp [PyData.depth]⟩
  | .str _, n, h => by cases n <;> simp [okD] at h
  | .list a, 0, h => by simp [okD] at h
  | .list a, n + 1, h => by
    have h : okDs n a = true := h
    obtain ⟨h1, h2⟩ := okDs_lay a n h
    exact ⟨by simpa [PyData.canLay0] using h1, by simp [PyData.depth]; omega⟩
  | .tuple a, 0, h => by simp [okD] at h
  | .tuple a, n + 1, h => by
    have h : okDs n a = true := h
    obtain ⟨h1, h2⟩ := okDs_lay a n h
    exact ⟨by simpa [PyData.canLay0] using h1, by simp [PyData.depth]; omega⟩
  | .dict _, n, h => by cases n <;> simp [okD] at h
theorem okDs_lay : ∀ (ds : List D) (n : Nat), okDs n ds = true → PyData.canLayAll0 ds = true ∧ PyData.depthAll ds ≤ n
  | [], n, _ => ⟨by simp [PyData.canLayAll0], by simp [PyData.depthAll]⟩
  | x :: xs, n, h => by
    have h : (match okD n x with | true => okDs n xs | false => false) = true := h
    cases q : okD n x with
    | false => rw [q] at h; cases h
    | true =>
      rw [q] at h
      obtain ⟨a1, a2⟩ := okD_lay x n q
      obtain ⟨b1, b2⟩ := okDs_lay xs n h
      exact ⟨by simp [PyData.canLayAll0, a1, b1], by simp only [PyData.depthAll]; omega⟩
end
theorem okD_shaped {d : D} (h : okD 8 d = true) : SeqAt.shaped d = true := by
  obtain ⟨h1, h2⟩ := okD_lay d 8 h
  unfold SeqAt.shaped
  rw [h1, decide_eq_true (by omega)]
  rfl
theorem okDs_shaped {ds : List D} (h : okDs 8 ds = true) : SeqAt.shaped (.list ds) = true ∧ SeqAt.shaped (.tuple ds) = true := by
  obtain ⟨h1, h2⟩ := okDs_lay ds 8 h
  exact ⟨Bool.and_eq_true_iff.mpr ⟨by simpa [PyData.canLay0] using h1, decide_eq_true (by simp only [PyData.depth]; omega)⟩,
    Bool.and_eq_true_iff.mpr ⟨by simpa [PyData.canLay0] using h1, decide_eq_true (by simp only [PyData.depth]; omega)⟩⟩

theorem iEq_beq (a b : Int) : iEq a b = (a == b) := by rw [iEq_iff, Bool.beq_eq_decide_eq]
mutual
theorem eqD_eqv : ∀ (x y : D) (n : Nat), okD n x = true → okD n y = true → eqD x y = PyData.eqv x y
  | .none, y, n, _, hy => by cases y <;> simp [eqD, PyData.eqv]
  | .bool _, y, n, hx, _ => by cases n <;> simp [okD] at hx
  | .int a, y, n, _, hy => by
    cases y with
    | bool b => cases n <;> simp [okD] at hy
    | _ => simp [eqD, PyData.eqv, iEq_beq]
  | .str _, y, n, hx, _ => by cases n <;> simp [okD] at hx
  | .list a, y, n, hx, hy => by
    cases n with
    | zero => simp [okD] at hx
    | succ n =>
      cases y with
      | list b => simp only [eqD, PyData.eqv]; exact eqDs_eqv a b n hx hy
      | _ => simp [eqD, PyData.eqv]
  | .tuple a, y, n, hx, hy => by
    cases n with
    | zero => simp [okD] at hx
    | succ n =>
      cases y with
      | tuple b => simp only [eqD, PyData.eqv]; exact eqDs_eqv a b n hx hy
      | _ => simp [eqD, PyData.eqv]
  | .dict _, y, n, hx, _ => by cases n <;> simp [okD] at hx
theorem eqDs_eqv : ∀ (xs ys : List D) (n : Nat), okDs n xs = true → okDs n ys = true → eqDs xs ys = PyData.eqvAll xs ys
  | [], ys, n, _, _ => by cases ys <;> simp [eqDs, PyData.eqvAll]
  | x :: xs, [], n, _, _ => by simp [eqDs, PyData.eqvAll]
  | x :: xs, y :: ys, n, hx, hy => by
    have hx : (match okD n x with | true => okDs n xs | false => false) = true := hx
    have hy : (match okD n y with | true => okDs n ys | false => false) = true := hy
    cases qx : okD n x with
    | false => rw [qx] at hx; cases hx
    | true =>
      cases qy : okD n y with
      | false => rw [qy] at hy; cases hy
      | true =>
        rw [qx] at hx
        rw [qy] at hy
        simp only [eqDs, PyData.eqvAll]
        rw [eqD_eqv x y n qx qy]
        cases PyData.eqv x y with
        | true => simpa using eqDs_eqv xs ys n hx hy
        | false => rfl
end
theorem okDs_mem : ∀ {ds : List D} {n : Nat}, okDs n ds = true → ∀ z ∈ ds, okD n z = true
  | [], _, _, _, h => by cases h
  | x :: xs, n, h, z, hz => by
    have h : (match okD n x with | true => okDs n xs | false => false) = true := h
    cases q : okD n x with
    | false => rw [q] at h; cases h
    | true =>
      rw [q] at h
      rcases List.mem_cons.mp hz with rfl | hz
      · exact q
      · exact okDs_mem h z hz
theorem any_eqv {a : D} {n : Nat} (ha : okD n a = true) : ∀ {ds : List D}, okDs n ds = true → (ds.any fun z => eqD z a) = ds.any fun z => PyData.eqv z a := fun {ds} h => by
  have q : ∀ l : List D, (∀ z ∈ l, okD n z = true) → (l.any fun z => eqD z a) = l.any fun z => PyData.eqv z a := by
    intro l
    induction l with
    | nil => intro _; rfl
    | cons x xs ih =>
      intro hl
      rw [List.any_cons, List.any_cons, ih fun z hz => hl z (List.mem_cons_of_mem _ hz), eqD_eqv x a n (hl x List.mem_cons_self) ha]
  exact q ds (okDs_mem h)

/-! ### ints under tuples -/
mutual
theorem unif_alike : ∀ (x y : D) (n : Nat), unif n x = true → unif n y = true → W.alike x y = true
  | .int _, y, n, hx, hy => by
    cases n with
    | zero => cases y <;> simp [unif] at hy <;> simp [W.alike]
    | succ n => simp [unif] at hx
  | .tuple a, y, n, hx, hy => by
    cases n with
    | zero => simp [unif] at hx
    | succ n =>
      cases y with
      | tuple b => simp only [W.alike]; exact unifs_alike a b n hx hy
      | _ => simp [unif] at hy
  | .none, _, n, hx, _ => by cases n <;> simp [unif] at hx
  | .bool _, _, n, hx, _ => by cases n <;> simp [unif] at hx
  | .str _, _, n, hx, _ => by cases n <;> simp [unif] at hx
  | .list _, _, n, hx, _ => by cases n <;> simp [unif] at hx
  | .dict _, _, n, hx, _ => by cases n <;> simp [unif] at hx
theorem unifs_alike : ∀ (xs ys : List D) (n : Nat), unifs n xs = true → unifs n ys = true → W.alikeAll xs ys = true
  | [], ys, n, _, _ => by simp [W.alikeAll]
  | x :: xs, [], n, _, _ => by simp [W.alikeAll]
  | x :: xs, y :: ys, n, hx, hy => by
    have hx : (match unif n x with | true => unifs n xs | false => false) = true := hx
    have hy : (match unif n y with | true => unifs n ys | false => false) = true := hy
    cases qx : unif n x with
    | false => rw [qx] at hx; cases hx
    | true =>
      cases qy : unif n y with
      | false => rw [qy] at hy; cases hy
      | true =>
        rw [qx] at hx
        rw [qy] at hy
        simp only [W.alikeAll]
        rw [unif_alike x y n qx qy, unifs_alike xs ys n hx hy]
        rfl
end
theorem unifs_cons {n : Nat} {x : D} {xs : List D} : unifs n (x :: xs) = true ↔ unif n x = true ∧ unifs n xs = true := by
  show (match unif n x with | true => unifs n xs | false => false) = true ↔ _
  cases unif n x <;> simp
theorem unifs_mem {n : Nat} : ∀ {ds : List D}, unifs n ds = true ↔ ∀ z ∈ ds, unif n z = true
  | [] => Iff.intro (fun _ z hz => absurd hz (by simp)) (fun _ => rfl)
  | x :: xs => by
    rw [unifs_cons, unifs_mem (ds := xs)]
    simp
mutual
theorem unif_ok : ∀ (x : D) (n : Nat), unif n x = true → okD n x = true
  | .int _, n, _ => by cases n <;> rfl
  | .tuple a, n, hx => by
    cases n with
    | zero => simp [unif] at hx
    | succ n => exact unifs_ok a n hx
  | .none, n, hx => by cases n <;> simp [unif] at hx
  | .bool _, n, hx => by cases n <;> simp [unif] at hx
  | .str _, n, hx => by cases n <;> simp [unif] at hx
  | .list _, n, hx => by cases n <;> simp [unif] at hx
  | .dict _, n, hx => by cases n <;> simp [unif] at hx
theorem unifs_ok : ∀ (xs : List D) (n : Nat), unifs n xs = true → okDs n xs = true
  | [], n, _ => rfl
  | x :: xs, n, h => by
    obtain ⟨h1, h2⟩ := unifs_cons.mp h
    show (match okD n x with | true => okDs n xs | false => false) = true
    rw [unif_ok x n h1]
    exact unifs_ok xs n h2
end
mutual
theorem ltD_data : ∀ (x y : D) (n : Nat), unif n x = true → unif n y = true → ltD x y = W.dataLt x y
  | .int a, y, n, hx, hy => by
    cases n with
    | zero =>
      cases y with
      | int b => simp only [ltD]; rw [W.dataLt_int, iLt_iff]
      | _ => simp [unif] at hy
    | succ n => simp [unif] at hx
  | .tuple a, y, n, hx, hy => by
    cases n with
    | zero => simp [unif] at hx
    | succ n =>
      cases y with
      | tuple b => simp only [ltD]; rw [W.dataLt_tuple]; exact ltDs_data a b n hx hy
      | _ => simp [unif] at hy
  | .none, _, n, hx, _ => by cases n <;> simp [unif] at hx
  | .bool _, _, n, hx, _ => by cases n <;> simp [unif] at hx
  | .str _, _, n, hx, _ => by cases n <;> simp [unif] at hx
  | .list _, _, n, hx, _ => by cases n <;> simp [unif] at hx
  | .dict _, _, n, hx, _ => by cases n <;> simp [unif] at hx
theorem ltDs_data : ∀ (xs ys : List D) (n : Nat), unifs n xs = true → unifs n ys = true → ltDs xs ys = PyProof.Rows.lexLt PyProof.Rows.itemOrd (W.keyToksAll xs) (W.keyToksAll ys)
  | [], [], n, _, _ => by simp [ltDs, W.keyToksAll]; rfl
  | [], y :: ys, n, _, _ => by simp [ltDs, W.keyToksAll]; rfl
  | x :: xs, [], n, _, _ => by simp [ltDs, W.keyToksAll]; rfl
  | x :: xs, y :: ys, n, hx, hy => by
    obtain ⟨x1, x2⟩ := unifs_cons.mp hx
    obtain ⟨y1, y2⟩ := unifs_cons.mp hy
    have al := unif_alike x y n x1 y1
    rw [W.dataLt_cons al]
    simp only [ltDs]
    rw [eqD_eqv x y n (unif_ok x n x1) (unif_ok y n y1)]
    cases PyData.eqv x y with
    | true => simpa using ltDs_data xs ys n x2 y2
    | false => simpa using ltD_data x y n x1 y1
end
end Ev

/-! The evaluator's sort is the one stable sort. -/
namespace Ev
open PySem

/-- the order of alike data, none less -/
def leD : D → D → Bool := W.dataLe false id
theorem leD_total : W.TotalLe leD := by
  unfold leD W.dataLe
  exact W.sortLe_total _ _ _
theorem lex_ir (l : List (Int ⊕ List Nat)) : PyProof.Rows.lexLt PyProof.Rows.itemOrd l l = false := by
  have h := (PyProof.Rows.listOrd PyProof.Rows.itemOrd).irrefl l
  exact h
theorem leD_not (a b : D) : leD a b = !W.dataLt b a := rfl
theorem leD_of_lt {a b : D} (h : W.dataLt a b = true) : leD a b = true := by
  rcases leD_total.total a b with q | q
  · exact q
  · rw [leD_not, h] at q
    cases q

mutual
/-- neither is less: they are one -/
theorem unif_tri : ∀ (x y : D) (n : Nat), unif n x = true → unif n y = true → ltD x y = false → ltD y x = false → x = y ∧ eqD x y = true
  | .int a, y, n, hx, hy, h1, h2 => by
    cases n with
    | succ n => simp [unif] at hx
    | zero =>
      cases y with
      | int b =>
        simp only [ltD, iLt_iff, decide_eq_false_iff_not] at h1 h2
        have e : a = b := by omega
        subst e
        exact ⟨rfl, by simp only [eqD, iEq_iff, decide_true]⟩
      | _ => simp [unif] at hy
  | .tuple a, y, n, hx, hy, h1, h2 => by
    cases n with
    | zero => simp [unif] at hx
    | succ n =>
      cases y with
      | tuple b =>
        simp only [ltD] at h1 h2
        obtain ⟨e, q⟩ := unifs_tri a b n hx hy h1 h2
        exact ⟨by rw [e], by simp only [eqD]; exact q⟩
      | _ => simp [unif] at hy
  | .none, _, n, hx, _, _, _ => by cases n <;> simp [unif] at hx
  | .bool _, _, n, hx, _, _, _ => by cases n <;> simp [unif] at hx
  | .str _, _, n, hx, _, _, _ => by cases n <;> simp [unif] at hx
  | .list _, _, n, hx, _, _, _ => by cases n <;> simp [unif] at hx
  | .dict _, _, n, hx, _, _, _ => by cases n <;> simp [unif] at hx
theorem unifs_tri : ∀ (xs ys : List D) (n : Nat), unifs n xs = true → unifs n ys = true → ltDs xs ys = false → ltDs ys xs = false → xs = ys ∧ eqDs xs ys = true
  | [], [], n, _, _, _, _ => ⟨rfl, rfl⟩
  | [], y :: ys, n, _, _, h1, _ => by simp [ltDs] at h1
  | x :: xs, [], n, _, _, _, h2 => by simp [ltDs] at h2
  | x :: xs, y :: ys, n, hx, hy, h1, h2 => by
    obtain ⟨x1, x2⟩ := unifs_cons.mp hx
    obtain ⟨y1, y2⟩ := unifs_cons.mp hy
    simp only [ltDs] at h1 h2
    have sym : eqD y x = eqD x y := by
      rw [eqD_eqv y x n (unif_ok y n y1) (unif_ok x n x1), eqD_eqv x y n (unif_ok x n x1) (unif_ok y n y1)]
      cases q : PyData.eqv x y with
      | true =>
        have h := (W.toks_eqv x y (unif_alike x y n x1 y1)).1 q
        cases p : PyData.eqv y x with
        | true => rfl
        | false =>
          have z := (W.toks_eqv y x (unif_alike y x n y1 x1)).2 p
          exfalso
          have l1 : W.dataLt x y = false := by unfold W.dataLt; rw [h]; exact lex_ir _
          have l2 : W.dataLt y x = false := by unfold W.dataLt; rw [h]; exact lex_ir _
          rw [← ltD_data x y n x1 y1] at l1
          rw [← ltD_data y x n y1 x1] at l2
          obtain ⟨e, _⟩ := unif_tri x y n x1 y1 l1 l2
          subst e
          rw [q] at p
          cases p
      | false =>
        cases p : PyData.eqv y x with
        | false => rfl
        | true =>
          have h := (W.toks_eqv y x (unif_alike y x n y1 x1)).1 p
          exfalso
          have l1 : W.dataLt x y = false := by unfold W.dataLt; rw [h]; exact lex_ir _
          have l2 : W.dataLt y x = false := by unfold W.dataLt; rw [h]; exact lex_ir _
          rw [← ltD_data x y n x1 y1] at l1
          rw [← ltD_data y x n y1 x1] at l2
          obtain ⟨e, _⟩ := unif_tri x y n x1 y1 l1 l2
          subst e
          rw [q] at p
          cases p
    rw [sym] at h2
    cases q : eqD x y with
    | true =>
      rw [q] at h1 h2
      obtain ⟨e, r⟩ := unifs_tri xs ys n x2 y2 h1 h2
      have l1 : W.dataLt x y = false := by
        rw [eqD_eqv x y n (unif_ok x n x1) (unif_ok y n y1)] at q
        have h := (W.toks_eqv x y (unif_alike x y n x1 y1)).1 q
        unfold W.dataLt; rw [h]; exact lex_ir _
      have l2 : W.dataLt y x = false := by
        rw [eqD_eqv x y n (unif_ok x n x1) (unif_ok y n y1)] at q
        have h := (W.toks_eqv x y (unif_alike x y n x1 y1)).1 q
        unfold W.dataLt; rw [h]; exact lex_ir _
      rw [← ltD_data x y n x1 y1] at l1
      rw [← ltD_data y x n y1 x1] at l2
      obtain ⟨e2, _⟩ := unif_tri x y n x1 y1 l1 l2
      subst e2 e
      exact ⟨rfl, by simp only [eqDs]; rw [q]; exact r⟩
    | false =>
      rw [q] at h1 h2
      obtain ⟨e2, r⟩ := unif_tri x y n x1 y1 h1 h2
      rw [q] at r
      cases r
end

/-! ### the merge sort -/
theorem mgo_perm (x : D) (f : List D → List D) (xs : List D) (hf : ∀ ys, (f ys).Perm (xs ++ ys)) : ∀ ys, (mgo x f ys).Perm ((x :: xs) ++ ys)
  | [] => (hf []).cons x
  | y :: ys => by
    unfold mgo
    cases ltD y x with
    | true =>
      refine ((mgo_perm x f xs hf ys).cons y).trans ?_
      exact List.perm_middle.symm
    | false => exact (hf (y :: ys)).cons x
theorem mrgD_perm : ∀ (xs ys : List D), (mrgD xs ys).Perm (xs ++ ys)
  | [], ys => List.Perm.refl _
  | x :: xs, ys => mgo_perm x (mrgD xs) xs (mrgD_perm xs) ys
theorem mpair_perm : ∀ l : List (List D), (mpair l).flatten.Perm l.flatten
  | [] => List.Perm.refl _
  | [a] => List.Perm.refl _
  | a :: b :: r => by
    show (mrgD a b ++ (mpair r).flatten).Perm (a ++ (b ++ r.flatten))
    rw [← List.append_assoc]
    exact (mrgD_perm a b).append (mpair_perm r)
theorem foldr_perm : ∀ l : List (List D), (l.foldr mrgD []).Perm l.flatten
  | [] => List.Perm.refl _
  | a :: r => (mrgD_perm a _).trans ((foldr_perm r).append_left a)
theorem mall_perm : ∀ (n : Nat) (l : List (List D)), (mall n l).Perm l.flatten
  | 0, l => foldr_perm l
  | n + 1, [] => List.Perm.refl _
  | n + 1, [a] => by
    show a.Perm (a ++ [])
    rw [List.append_nil]
  | n + 1, a :: b :: r => (mall_perm n _).trans (mpair_perm _)
theorem sortD_perm (xs : List D) : (sortD xs).Perm xs := by
  refine (mall_perm 20 _).trans ?_
  have e : (xs.map fun x => [x]).flatten = xs := by
    induction xs with
    | nil => rfl
    | cons x xs ih => simp [ih]
  rw [e]
abbrev Up (l : List D) : Prop := l.Pairwise fun a b => leD a b = true
section
variable {n : Nat}
theorem mgo_up {x : D} {f : List D → List D} {xs : List D} (hx : ∀ z ∈ x :: xs, unif n z = true) (ux : Up (x :: xs)) (hp : ∀ ys, (f ys).Perm (xs ++ ys)) (hf : ∀ ys, (∀ z ∈ ys, unif n z = true) → Up ys → Up (f ys)) :
    ∀ ys, (∀ z ∈ ys, unif n z = true) → Up ys → Up (mgo x f ys)
  | [], _, _ => by
    refine List.pairwise_cons.mpr ⟨fun z hz => ?_, hf [] (fun z hz => by cases hz) .nil⟩
    have hz : z ∈ xs ++ [] := (hp []).mem_iff.mp hz
    rw [List.append_nil] at hz
    exact (List.pairwise_cons.mp ux).1 z hz
  | y :: ys, hy, uy => by
    unfold mgo
    have e : ltD y x = W.dataLt y x := ltD_data y x n (hy y List.mem_cons_self) (hx x List.mem_cons_self)
    have xx : ∀ z ∈ xs, leD x z = true := (List.pairwise_cons.mp ux).1
    have yy : ∀ z ∈ ys, leD y z = true := (List.pairwise_cons.mp uy).1
    cases q : ltD y x with
    | true =>
      rw [q] at e
      have l := leD_of_lt e.symm
      refine List.pairwise_cons.mpr ⟨fun z hz => ?_, mgo_up hx ux hp hf ys (fun z hz => hy z (List.mem_cons_of_mem _ hz)) (List.pairwise_cons.mp uy).2⟩
      rcases List.mem_append.mp ((mgo_perm x f xs hp ys).mem_iff.mp hz) with h | h
      · rcases List.mem_cons.mp h with rfl | h
        · exact l
        · exact leD_total.trans _ _ _ l (xx z h)
      · exact yy z h
    | false =>
      rw [q] at e
      have l : leD x y = true := by rw [leD_not, ← e]; rfl
      refine List.pairwise_cons.mpr ⟨fun z hz => ?_, hf _ hy uy⟩
      rcases List.mem_append.mp ((hp (y :: ys)).mem_iff.mp hz) with h | h
      · exact xx z h
      · rcases List.mem_cons.mp h with rfl | h
        · exact l
        · exact leD_total.trans _ _ _ l (yy z h)
theorem mrgD_up : ∀ {xs : List D}, (∀ z ∈ xs, unif n z = true) → Up xs → ∀ ys, (∀ z ∈ ys, unif n z = true) → Up ys → Up (mrgD xs ys)
  | [], _, _, ys, _, u => u
  | x :: xs, hx, ux, ys, hy, uy => mgo_up hx ux (mrgD_perm xs) (mrgD_up (fun z hz => hx z (List.mem_cons_of_mem _ hz)) (List.pairwise_cons.mp ux).2) ys hy uy
theorem mpair_up : ∀ {l : List (List D)}, (∀ a ∈ l, (∀ z ∈ a, unif n z = true) ∧ Up a) → ∀ a ∈ mpair l, (∀ z ∈ a, unif n z = true) ∧ Up a
  | [], _, _, h => by cases h
  | [a], h, b, hb => h b hb
  | a :: b :: r, h, c, hc => by
    obtain ⟨a1, a2⟩ := h a List.mem_cons_self
    obtain ⟨b1, b2⟩ := h b (List.mem_cons_of_mem _ List.mem_cons_self)
    rcases List.mem_cons.mp hc with rfl | hc
    · refine ⟨fun z hz => ?_, mrgD_up a1 a2 b b1 b2⟩
      rcases List.mem_append.mp ((mrgD_perm a b).mem_iff.mp hz) with h | h
      · exact a1 z h
      · exact b1 z h
    · exact mpair_up (fun a ha => h a (List.mem_cons_of_mem _ (List.mem_cons_of_mem _ ha))) c hc
theorem foldr_up : ∀ {l : List (List D)}, (∀ a ∈ l, (∀ z ∈ a, unif n z = true) ∧ Up a) → (∀ z ∈ l.foldr mrgD [], unif n z = true) ∧ Up (l.foldr mrgD [])
  | [], _ => ⟨fun z hz => absurd hz (by simp), List.Pairwise.nil⟩
  | a :: r, h => by
    obtain ⟨a1, a2⟩ := h a List.mem_cons_self
    obtain ⟨b1, b2⟩ := foldr_up fun b hb => h b (List.mem_cons_of_mem _ hb)
    refine ⟨fun z hz => ?_, mrgD_up a1 a2 _ b1 b2⟩
    rcases List.mem_append.mp ((mrgD_perm a _).mem_iff.mp hz) with h | h
    · exact a1 z h
    · exact b1 z h
theorem mall_up : ∀ (k : Nat) {l : List (List D)}, (∀ a ∈ l, (∀ z ∈ a, unif n z = true) ∧ Up a) → Up (mall k l)
  | 0, l, h => (foldr_up h).2
  | k + 1, [], _ => .nil
  | k + 1, [a], h => (h a List.mem_cons_self).2
  | k + 1, a :: b :: r, h => mall_up k (mpair_up h)
theorem sortD_up {xs : List D} (h : ∀ z ∈ xs, unif n z = true) : Up (sortD xs) := by
  refine mall_up (n := n) 20 fun a ha => ?_
  obtain ⟨x, hx, rfl⟩ := List.mem_map.mp ha
  exact ⟨fun z hz => by rw [List.mem_singleton.mp hz]; exact h x hx, List.pairwise_singleton _ _⟩
theorem all_one {α : Type} : ∀ {l m : List α}, l.Perm m → (∀ a ∈ l, ∀ b ∈ l, a = b) → l = m := by
  intro l m p h
  cases l with
  | nil => exact (List.Perm.eq_nil p.symm).symm
  | cons x r =>
    have e1 : x :: r = List.replicate (x :: r).length x := List.eq_replicate_iff.mpr ⟨rfl, fun b hb => (h b hb x List.mem_cons_self)⟩
    have e2 : m = List.replicate m.length x := List.eq_replicate_iff.mpr ⟨rfl, fun b hb => (h b (p.mem_iff.mpr hb) x List.mem_cons_self)⟩
    rw [e1, e2, p.length_eq]
theorem sortD_eq {xs : List D} (h : ∀ z ∈ xs, unif n z = true) : sortD xs = xs.mergeSort (W.dataLe false id) := by
  refine W.sort_unique leD_total (sortD_up h) fun c => all_one ((sortD_perm xs).filter _) fun a ha b hb => ?_
  obtain ⟨a1, a2⟩ := List.mem_filter.mp ha
  obtain ⟨b1, b2⟩ := List.mem_filter.mp hb
  have a1 := h a ((sortD_perm xs).mem_iff.mp a1)
  have b1 := h b ((sortD_perm xs).mem_iff.mp b1)
  obtain ⟨ca, ac⟩ := Bool.and_eq_true_iff.mp a2
  obtain ⟨cb, bc⟩ := Bool.and_eq_true_iff.mp b2
  have ab : leD a b = true := leD_total.trans _ _ _ ac cb
  have ba : leD b a = true := leD_total.trans _ _ _ bc ca
  rw [leD_not, ← ltD_data b a n b1 a1] at ab
  rw [leD_not, ← ltD_data a b n a1 b1] at ba
  exact (unif_tri a b n a1 b1 (by simpa using ba) (by simpa using ab)).1
end
theorem kindly_sorts {l : List D} (h : kindly l = true) : sortD l = l.mergeSort (W.dataLe false id) ∧ W.AllAlike l ∧ W.Sortable l ∧ ∀ d ∈ l, d.depth ≤ 4 := by
  have core : ∀ n, n ≤ 4 → unifs n l = true → sortD l = l.mergeSort (W.dataLe false id) ∧ W.AllAlike l ∧ ∀ d ∈ l, d.depth ≤ 4 := fun n hn h => by
    have hm := unifs_mem.mp h
    exact ⟨sortD_eq hm, fun d hd d' hd' => unif_alike d d' n (hm d hd) (hm d' hd'), fun d hd => Nat.le_trans (okD_lay d n (unif_ok d n (hm d hd))).2 hn⟩
  have tn : ∀ m : List D, allTupNe m = true → ∀ d ∈ m, ∃ x r, d = .tuple (x :: r) := by
    intro m
    induction m with
    | nil => intro _ d hd; cases hd
    | cons x xs ih =>
      intro h d hd
      have h : (match tupNe x with | true => allTupNe xs | false => false) = true := h
      cases q : tupNe x with
      | false => rw [q] at h; cases h
      | true =>
        rw [q] at h
        rcases List.mem_cons.mp hd with rfl | hd
        · unfold tupNe at q
          split at q
          · exact ⟨_, _, rfl⟩
          · cases q
        · exact ih h d hd
  unfold kindly at h
  cases q0 : unifs 0 l with
  | true =>
    obtain ⟨a, b, c⟩ := core 0 (by omega) q0
    refine ⟨a, b, .inr fun d hd => ?_, c⟩
    have z := unifs_mem.mp q0 d hd
    cases d <;> simp [unif] at z <;> exact ⟨by simp, by simp⟩
  | false =>
    rw [q0] at h
    simp only at h
    cases qt : allTupNe l with
    | false => rw [qt] at h; cases h
    | true =>
      rw [qt] at h
      simp only at h
      have fin : ∀ n, n ≤ 4 → unifs n l = true → sortD l = l.mergeSort (W.dataLe false id) ∧ W.AllAlike l ∧ W.Sortable l ∧ ∀ d ∈ l, d.depth ≤ 4 := fun n hn hu => by
        obtain ⟨a, b, c⟩ := core n hn hu
        exact ⟨a, b, .inl (tn l qt), c⟩
      split at h
      · exact fin 1 (by omega) (by assumption)
      · split at h
        · exact fin 2 (by omega) (by assumption)
        · split at h
          · exact fin 3 (by omega) (by assumption)
          · exact fin 4 (by omega) h
end Ev

/-! sum, max, min of a tuple of ints. -/
namespace Ev
open PySem PySem.Spec PyProof.Rows L2
section
variable {prog : Program} {w : World} {A : Around} {E : Value → Shared → Prop} {s : Shared} {l : Addr} {xs : Array (Int × Tok)}
theorem iter_tup {Q : Value → Shared → Prop} (hl : s.heap.IsTuple l (intItems xs))
    (h : ∀ s₂ : Shared, s₂ = { s with heap := s.heap.push { cls := .type "tuple_iterator", data := .fields #[.ref l, .int 0 0] } } →
      (s₂.heap.IsTupleIter s.heap.objs.size l 0 ∧ s₂.heap.IsTuple l (intItems xs)) → (∀ b ∈ [s.heap.objs.size, l], b < s₂.heap.objs.size) → l ≠ s.heap.objs.size → Q (.ref s.heap.objs.size) s₂) :
    wpAny (model prog w) A (pyIter (.ref l)) Q E s := by
  have hlt : l < s.heap.objs.size := by obtain ⟨_, e, _⟩ := hl; exact Heap.lt_size e
  have hk : (s.heap.push { cls := .type "tuple_iterator", data := .fields #[.ref l, .int 0 0] }).IsTuple l (intItems xs) := by
    obtain ⟨o, e, r⟩ := hl
    exact ⟨o, Heap.get?_push_of_some _ e, r⟩
  refine wpAny_pyIter_tuple hl (h _ rfl ⟨⟨_, Heap.get?_push_size _ rfl, rfl, rfl⟩, hk⟩ (fun b hb => ?_) (Nat.ne_of_lt hlt))
  show b < (s.heap.push _).objs.size
  rw [Heap.size_push]
  rcases List.mem_cons.mp hb with rfl | hb
  · exact Nat.lt_succ_self _
  · rcases List.mem_cons.mp hb with rfl | hb
    · exact Nat.lt_succ_of_lt hlt
    · cases hb
theorem old_kept' {o : Obj} {h' : Heap} (hk : ∀ b ob, b ∉ [s.heap.objs.size] → (s.heap.push o).get? b = some ob → h'.get? b = some ob) :
    ∀ b ob, s.heap.get? b = some ob → h'.get? b = some ob := fun b ob e => by
  refine hk b ob (fun hm => ?_) (Heap.get?_push_of_some _ e)
  rcases List.mem_cons.mp hm with e1 | hm
  · exact absurd (e1 ▸ Heap.lt_size e) (Nat.lt_irrefl _)
  · cases hm
theorem sum_tupG {Q : Value → Shared → Prop} (hh : A.handled = none) (hl : s.heap.IsTuple l (intItems xs))
    (h : ∀ h' tk t', (∀ b o, s.heap.get? b = some o → h'.get? b = some o) → Q (.int (preSum (numAt xs) xs.size) t') { s with heap := h', toks := tk }) :
    wpAny (model prog w) A (call (.builtin "sum") [.ref l]) Q E s := by
  refine call_sum_walkG (iter_tup hl fun s₂ e st hfp hlI => ?_)
  subst e
  refine ⟨_, _, _, _, _, _, numAt xs, rfl, Walks.tuple (A := A.in1) hh _ l hlI (intItems xs), st, hfp, (fun _ _ => intItems_at), fun h' tk t' hk => ?_⟩
  have := h h' tk t' (old_kept' hk)
  simpa [intItems] using this
theorem max_tup {Q : Value → Shared → Prop} (hh : A.handled = none) (hl : s.heap.IsTuple l (intItems xs)) (hne : 0 < xs.size)
    (h : ∀ v h' tk, (intItems xs)[argBest (fun i j => decide (numAt xs i > numAt xs j)) (xs.size - 1)]? = some v → (∀ b o, s.heap.get? b = some o → h'.get? b = some o) → Q v { s with heap := h', toks := tk }) :
    wpAny (model prog w) A (call (.builtin "max") [.ref l]) Q E s := by
  refine call_max_walk (iter_tup hl fun s₂ e st hfp hlI => ?_)
  subst e
  refine ⟨_, _, _, _, _, _, _, rfl, Walks.tuple (A := A.in1) hh _ l hlI (intItems xs), st, hfp, by simpa [intItems] using hne, CmpOf.ints_gt (numAt xs) (fun _ _ => intItems_at), fun v h' tk hP hk => ?_⟩
  exact h v h' tk (by simpa [intItems] using hP) (old_kept' hk)
theorem min_tup {Q : Value → Shared → Prop} (hh : A.handled = none) (hl : s.heap.IsTuple l (intItems xs)) (hne : 0 < xs.size)
    (h : ∀ v h' tk, (intItems xs)[argBest (fun i j => decide (numAt xs i < numAt xs j)) (xs.size - 1)]? = some v → (∀ b o, s.heap.get? b = some o → h'.get? b = some o) → Q v { s with heap := h', toks := tk }) :
    wpAny (model prog w) A (call (.builtin "min") [.ref l]) Q E s := by
  refine call_min_walk (iter_tup hl fun s₂ e st hfp hlI => ?_)
  subst e
  refine ⟨_, _, _, _, _, _, _, rfl, Walks.tuple (A := A.in1) hh _ l hlI (intItems xs), st, hfp, by simpa [intItems] using hne, CmpOf.ints_lt (numAt xs) (fun _ _ => intItems_at), fun v h' tk hP hk => ?_⟩
  exact h v h' tk (by simpa [intItems] using hP) (old_kept' hk)
variable {its : List Value} {ns : List Int} {Q : Value → Shared → Prop}
theorem sum_rawT (hh : A.handled = none) (hl : s.heap.IsTuple l its.toArray) (hi : IntsAre its ns)
    (h : ∀ h' tk t', (∀ b o, s.heap.get? b = some o → h'.get? b = some o) → Q (.int ns.sum t') { s with heap := h', toks := tk }) : wpAny (model prog w) A (call (.builtin "sum") [.ref l]) Q E s := by
  obtain ⟨xs, e⟩ := hi.allInts.items
  have hn : numsOf (intItems xs).toList = ns := by rw [← e]; exact hi.numsOf
  rw [nums_intItems] at hn
  rw [e] at hl
  refine sum_tupG hh hl fun h' tk t' hk => ?_
  have := h h' tk t' hk
  rw [preSum_eq, List.take_of_length_le (by simp), hn]; exact this
theorem max_rawT (hh : A.handled = none) (hl : s.heap.IsTuple l its.toArray) (hi : IntsAre its ns) (hne : 0 < ns.length)
    (h : ∀ h' tk M t', (∀ b o, s.heap.get? b = some o → h'.get? b = some o) → M ∈ ns → (∀ a, a ∈ ns → a ≤ M) → Q (.int M t') { s with heap := h', toks := tk }) : wpAny (model prog w) A (call (.builtin "max") [.ref l]) Q E s := by
  obtain ⟨xs, e⟩ := hi.allInts.items
  have hn : numsOf (intItems xs).toList = ns := by rw [← e]; exact hi.numsOf
  rw [nums_intItems] at hn
  subst hn
  rw [e] at hl
  have hsz : 0 < xs.size := by simpa using hne
  refine max_tup hh hl hsz fun v h' tk hv hk => ?_
  obtain ⟨t, rfl⟩ := intItems_at hv
  obtain ⟨h1, h2⟩ := argBest_gt (numAt xs) (xs.size - 1)
  refine h h' tk _ t hk ?_ fun a ha => ?_
  · rw [numAt_eq]; exact PySem.getD_mem (by rw [List.length_map, Array.length_toList]; omega)
  · obtain ⟨j, hj, rfl⟩ := mem_getD ha
    rw [List.length_map, Array.length_toList] at hj
    rw [← numAt_eq]; exact h2 j (by omega)
theorem min_rawT (hh : A.handled = none) (hl : s.heap.IsTuple l its.toArray) (hi : IntsAre its ns) (hne : 0 < ns.length)
    (h : ∀ h' tk M t', (∀ b o, s.heap.get? b = some o → h'.get? b = some o) → M ∈ ns → (∀ a, a ∈ ns → M ≤ a) → Q (.int M t') { s with heap := h', toks := tk }) : wpAny (model prog w) A (call (.builtin "min") [.ref l]) Q E s := by
  obtain ⟨xs, e⟩ := hi.allInts.items
  have hn : numsOf (intItems xs).toList = ns := by rw [← e]; exact hi.numsOf
  rw [nums_intItems] at hn
  subst hn
  rw [e] at hl
  have hsz : 0 < xs.size := by simpa using hne
  refine min_tup hh hl hsz fun v h' tk hv hk => ?_
  obtain ⟨t, rfl⟩ := intItems_at hv
  obtain ⟨h1, h2⟩ := argBest_lt (numAt xs) (xs.size - 1)
  refine h h' tk _ t hk ?_ fun a ha => ?_
  · rw [numAt_eq]; exact PySem.getD_mem (by rw [List.length_map, Array.length_toList]; omega)
  · obtain ⟨j, hj, rfl⟩ := mem_getD ha
    rw [List.length_map, Array.length_toList] at hj
    rw [← numAt_eq]; exact h2 j (by omega)
end
section
variable {X : Cx}
def rInT (K : PySem.W.Frag) (P : List Int → Hp → VK → Prop) : List V → Hp → VK → Prop := fun vs H Q => ∃ (a : Addr) (ns : List Int), vs = [V.ref a] ∧ SqT K H a (ns.map V.int) ∧ P ns H Q
theorem istup' {h : Heap} {a : Addr} {its : Array Value} (t : IsTup h a its) : h.IsTuple a its := by
  obtain ⟨o, e, c, n, d⟩ := t
  exact ⟨o, e, c, n, d⟩
theorem cr_sumT (hc : X.calm = true) : CallR X (.builtin "sum") (rInT X.K fun ns H Q => Q (.int ns.sum) H) := by
  intro pins s σ H vs us Q I r h
  obtain ⟨a, ns, rfl, hs, q⟩ := h
  obtain ⟨its, rv, hl, _⟩ := I.tuple hs
  rw [Vals.ref1 r]
  exact sum_rawT (I.ok.hd hc) (istup' hl) rv.ints fun h' tk t' hk => ⟨.int _, H, I.kept hk, ⟨_, rfl⟩, q⟩
theorem cr_maxT (hc : X.calm = true) : CallR X (.builtin "max") (rInT X.K fun ns H Q => 0 < ns.length ∧ ∀ m, m ∈ ns → (∀ a, a ∈ ns → a ≤ m) → Q (.int m) H) := by
  intro pins s σ H vs us Q I r h
  obtain ⟨a, ns, rfl, hs, hne, q⟩ := h
  obtain ⟨its, rv, hl, _⟩ := I.tuple hs
  rw [Vals.ref1 r]
  exact max_rawT (I.ok.hd hc) (istup' hl) rv.ints hne fun h' tk m t' hk h1 h2 => ⟨.int _, H, I.kept hk, ⟨_, rfl⟩, q m h1 h2⟩
theorem cr_minT (hc : X.calm = true) : CallR X (.builtin "min") (rInT X.K fun ns H Q => 0 < ns.length ∧ ∀ m, m ∈ ns → (∀ a, a ∈ ns → m ≤ a) → Q (.int m) H) := by
  intro pins s σ H vs us Q I r h
  obtain ⟨a, ns, rfl, hs, hne, q⟩ := h
  obtain ⟨its, rv, hl, _⟩ := I.tuple hs
  rw [Vals.ref1 r]
  exact min_rawT (I.ok.hd hc) (istup' hl) rv.ints hne fun h' tk m t' hk h1 h2 => ⟨.int _, H, I.kept hk, ⟨_, rfl⟩, q m h1 h2⟩
end
end Ev

/-! sorted(d), list(d) of a dict; a tuple times 0 or 1. -/
namespace Ev
open PySem PySem.Spec PyProof.Rows L2
section
variable {prog : Program} {w : World} {A : Around} {E : Value → Shared → Prop} {s : Shared} {d : Addr} {es : Array DictEntry} {ep : Nat}
theorem iadd_dict {R : Result → Shared → Prop} {S : Addr} (hh : A.handled = none) (lo : (d == sysModules) = false) (raw : s.heap.DictRaw d es ep) (hn : es.size ≤ sizeLine) (hSd : S ≠ d) (hS : s.heap.get? S = some { cls := .type "list", data := .seq #[] 0 })
    (hR : ∀ h' tk acc' c', (∀ b o, b ≠ S → s.heap.get? b = some o → h'.get? b = some o) → h'.get? S = some { cls := .type "list", dict := none, data := .seq acc' c', slots := #[] } → ItemsOf (fun i v => ∃ hi : i < es.size, v = es[i].key) acc' es.size → R (.ok (.ret (.ref S))) { s with heap := h', toks := tk }) :
    codeAny (model prog w) A (.builtin "list.__iadd__" ⟨[.ref S, .ref d], []⟩) R s := by
  refine codeAny_builtin F.entry_list_iadd ?_
  rw [Around.under_plainId F.plain_list_iadd _]
  have z := W.kdl_extend (R := R) (KdlSrc.rawDict (prog := prog) (w := w) (es := es) (ep := ep) lo) hh raw S hSd hSd (.ref S) 0 hS hR hn
  show wpAny (model prog w) A.in1 (Builtin.List.listExtendWith (.ref S) (.ref d) (.ref S)) _ _ s
  refine wpAny_mono z (fun fin s' h => ?_) fun e s' h => h
  cases fin with
  | done f => exact h
  | again c' => exact h
/-- the keys, gathered into a list -/
theorem collect_dict {Q : List Value → Shared → Prop} (hh : A.handled = none) (lo : (d == sysModules) = false) (raw : s.heap.DictRaw d es ep) (hn : es.size ≤ sizeLine)
    (hQ : ∀ h' tk out, (∀ b o, s.heap.get? b = some o → h'.get? b = some o) → s.heap.objs.size ≤ h'.objs.size → out = es.toList.map (·.key) → Q out { s with heap := h', toks := tk }) : wpAny (model prog w) A (collect (.ref d)) Q E s := by
  have hlt := raw.lt_size
  have hS : (s.heap.push { cls := .type "list", data := .seq ([] : List Value).toArray }).get? s.heap.objs.size = some { cls := .type "list", data := .seq #[] 0 } := Heap.get?_push_size _ rfl
  unfold collect
  refine wpAny_bind (wpAny_runValue (codeAny_builtin F.entry_proto_collect ?_))
  rw [Around.under_plainId F.plain_proto_collect _]
  show wpAny _ A.in1 (newList [] >>= fun l => again (.builtin "list.__iadd__" ⟨[l, .ref d], []⟩)) _ _ s
  refine wpAny_bind (wpAny_newObj_type ?_)
  refine wpAny_pure ⟨plainId_quiet F.plain_list_iadd _, iadd_dict (s := { s with heap := s.heap.push { cls := .type "list", data := .seq ([] : List Value).toArray } }) hh lo (raw.push _) hn (Nat.ne_of_gt hlt) hS fun h' tk acc' c' hk hS' hacc => ?_⟩
  show wpAny _ A (load s.heap.objs.size >>= _) _ _ _
  refine wpAny_bind (wpAny_load hS' ?_)
  refine wpAny_pure ?_
  refine hQ h' tk acc'.toList (fun b o e => hk b o (Nat.ne_of_lt (Heap.lt_size e)) (Heap.get?_push_of_some _ e)) (Nat.le_of_lt (Heap.lt_size hS')) ?_
  refine items_out (out := es.toList.map (·.key)) (by rw [List.length_map, Array.length_toList]; exact hacc) fun j v hv => ?_
  obtain ⟨hi, e⟩ := hv
  rw [List.getElem?_map, Array.getElem?_toList, Array.getElem?_eq_getElem hi, e]
  rfl
/-- sorted(d) -/
theorem sorted_dict {β : Type} {R : Value → β → Prop} {enc : β → PyData} {bs : List β} {Q : Value → Shared → Prop} (hh : A.handled = none) (lo : (d == sysModules) = false) (raw : s.heap.DictRaw d es ep) (hn : es.size ≤ sizeLine) (e : W.EachIs R (es.toList.map (·.key)) bs)
    (er : W.EachIs (fun v b => ∃ as, Reads s.heap v (enc b) as) (es.toList.map (·.key)) bs) (hal : W.AllAlike (bs.map enc)) (hk : W.Sortable (bs.map enc)) (hu : ∀ b, b ∈ bs → A.units + 3 + (enc b).depth < cLine)
    (h : ∀ D out c h' tk, (∀ b o, s.heap.get? b = some o → h'.get? b = some o) → s.heap.objs.size ≤ D → h'.get? D = some (seqObj "list" (List.toArray out) c) → out.length = bs.length → W.EachIs R out (bs.mergeSort (W.dataLe false enc)) → Q (.ref D) { s with heap := h', toks := tk }) :
    wpAny (model prog w) A (call (.builtin "sorted") [.ref d]) Q E s := by
  refine Calls.call_function_entry kind_sorted plain_sorted entry_sorted (args_sorted1 _) ?_
  unfold Builtin.«sorted»
  refine wpAny_bind (m := checkCount "sorted" 1 1 _) (wpAny_pure ?_)
  have hL : (es.toList.map (·.key)).length ≤ sizeLine := by rw [List.length_map, Array.length_toList]; exact hn
  refine wpAny_bind (collect_dict (A := A.in1) (by first | exact hh | simpa using hh) lo raw hn fun h1 tk out kp hsz eo => ?_)
  subst eo
  refine wpAny_bind (wpAny_newList ?_ hL)
  have hoL : (h1.push (seqObj "list" (es.toList.map (·.key)).toArray 0)).get? h1.objs.size = some (seqObj "list" (es.toList.map (·.key)).toArray 0) := Heap.get?_push_size _ rfl
  have kp1 : ∀ b o, s.heap.get? b = some o → (h1.push (seqObj "list" (es.toList.map (·.key)).toArray 0)).get? b = some o := fun b o q => Heap.get?_push_of_some _ (kp b o q)
  have kp2 : ∀ b o, s.heap.get? b = some o → (W.sortingHeap (h1.push (seqObj "list" (es.toList.map (·.key)).toArray 0)) h1.objs.size (es.toList.map (·.key))).get? b = some o := fun b o q => W.sortingHeap_old (Nat.ne_of_lt (Nat.lt_of_lt_of_le (Heap.lt_size q) hsz)) (kp1 b o q)
  have er' : W.EachIs (fun v b => ∃ as, Reads (W.sortingHeap (h1.push (seqObj "list" (es.toList.map (·.key)).toArray 0)) h1.objs.size (es.toList.map (·.key))) v (enc b) as) (es.toList.map (·.key)) bs := er.mono fun _ _ ⟨as, r⟩ => ⟨as, PyProof.Rows.Reads.keeps kp2 r⟩
  show wpAny _ _ _ _ _ { s with heap := h1.push (seqObj "list" (es.toList.map (·.key)).toArray 0), toks := tk }
  refine wpAny_bind (wpAny_holding (wpAny_call_entry slot_list_sort ⟨_, hoL, rfl⟩ entry_list_sort (W.list_sort_vals (s := { s with heap := h1.push (seqObj "list" (es.toList.map (·.key)).toArray 0), toks := tk }) hoL
    (W.SortsAt.data (s := { s with heap := W.sortingHeap (h1.push (seqObj "list" (es.toList.map (·.key)).toArray 0)) h1.objs.size (es.toList.map (·.key)), toks := tk }) (W.each_map (R := fun v d => ∃ as, Reads (W.sortingHeap (h1.push (seqObj "list" (es.toList.map (·.key)).toArray 0)) h1.objs.size (es.toList.map (·.key))) v d as) enc er') hal hk (W.bound_map (A := A.in1.in1) fun b hb => by
      have z := hu b hb
      show A.units + 2 + (enc b).depth < cLine
      omega)) hL ⟨_, rfl, ?_⟩) (args_list_sort _)))
  refine wpAny_pure ⟨_, rfl, ?_⟩
  have out_len : (W.sortVals (W.dataKind (W.sortingHeap (h1.push (seqObj "list" (es.toList.map (·.key)).toArray 0)) h1.objs.size (es.toList.map (·.key))) (bs.map enc)) false (es.toList.map (·.key)) (es.toList.map (·.key))).length = bs.length := by
    rw [W.sortVals_length false rfl]
    exact e.length
  have hlt1 : h1.objs.size < (h1.push (seqObj "list" (es.toList.map (·.key)).toArray 0)).objs.size := Heap.lt_size hoL
  have sh : ∀ out : Array Value, (∃ c, (sortedHeap (h1.push (seqObj "list" (es.toList.map (·.key)).toArray 0)) h1.objs.size (es.toList.map (·.key)) out).get? h1.objs.size = some (seqObj "list" out c)) ∧ ∀ b o, s.heap.get? b = some o → (sortedHeap (h1.push (seqObj "list" (es.toList.map (·.key)).toArray 0)) h1.objs.size (es.toList.map (·.key)) out).get? b = some o := fun out => by
    obtain ⟨c1, q1⟩ : ∃ c1, ((h1.push (seqObj "list" (es.toList.map (·.key)).toArray 0)).update h1.objs.size (Obj.mapSeq fun _ => (#[] : Array Value))).get? h1.objs.size = some (seqObj "list" #[] c1) := ⟨_, get?_update_seq hoL fun _ => #[]⟩
    unfold sortedHeap
    refine ⟨⟨_, get?_update_seq (Heap.get?_push_of_some _ (Heap.get?_push_of_some _ q1)) fun _ => out⟩, fun b o q => ?_⟩
    rw [Heap.get?_update_ne _ _ _ _ (Nat.ne_of_lt (Nat.lt_of_lt_of_le (Heap.lt_size q) hsz))]
    have z := W.sortingHeap_old (vs := es.toList.map (·.key)) (Nat.ne_of_lt (Nat.lt_of_lt_of_le (Heap.lt_size q) hsz)) (kp1 b o q)
    unfold W.sortingHeap at z
    exact z
  obtain ⟨⟨c, hc⟩, kp3⟩ := sh (W.sortVals (W.dataKind (W.sortingHeap (h1.push (seqObj "list" (es.toList.map (·.key)).toArray 0)) h1.objs.size (es.toList.map (·.key))) (bs.map enc)) false (es.toList.map (·.key)) (es.toList.map (·.key))).toArray
  have e4 := W.sortVals_data false e er' hal
  have e5 := h h1.objs.size _ c _ tk kp3 hsz hc out_len e4
  exact e5
theorem tuple_mulS (l : Addr) (items : Array Value) (n : Nat) (dd : Option Addr) (sl : Array (Option Value)) (x : Int) (u : Tok) (c0 : (decide (x < -(2 ^ 63)) || decide (x ≥ 2 ^ 63)) = false) (c1 : (items.isEmpty || x == 1) = true) :
    Meets (Builtin.«tuple.__mul__» ⟨[.ref l, .int x u], []⟩) (fun _ R s => s.heap.get? l = some { cls := .type "tuple", dict := dd, data := .seq items n, slots := sl } ∧ R (.ok (.ret (Value.ref l))) s) :=
  .of_wp fun prog w A R s h => by
    obtain ⟨hp, g, d, tk, os⟩ := s
    obtain ⟨hl, h⟩ := h
    have f1 := AutoSeq1.idx_int
    wp_walk using wpAny_loadPart' hl
    repeat (first
      | (refine wpAny_ite_false (decide_eq_false (by rw [c0]; exact Bool.false_ne_true)) ?_; wp_walk using wpAny_loadPart' hl)
      | (refine wpAny_ite_true (decide_eq_true (by rw [c1])) ?_; wp_walk using wpAny_loadPart' hl))
    exact ⟨_, rfl, h⟩
theorem tuple_mul0 (l : Addr) (items : Array Value) (n : Nat) (dd : Option Addr) (sl : Array (Option Value)) (u : Tok) (c1 : (items.isEmpty || (0 : Int) == 1) = false) (c2 : (decide ((0 : Int) ≤ 0) || items.isEmpty) = true) :
    Meets (Builtin.«tuple.__mul__» ⟨[.ref l, .int 0 u], []⟩) (fun _ R s => s.heap.get? l = some { cls := .type "tuple", dict := dd, data := .seq items n, slots := sl } ∧
      R (.ok (.ret (Value.ref s.heap.objs.size))) { s with heap := s.heap.push { cls := Value.type "tuple", data := Data.seq #[] }, toks := s.toks }) :=
  .of_wp fun prog w A R s h => by
    obtain ⟨hp, g, d, tk, os⟩ := s
    obtain ⟨hl, h⟩ := h
    have f1 := AutoSeq1.idx_int
    have c0 : (decide ((0 : Int) < -(2 ^ 63)) || decide ((0 : Int) ≥ 2 ^ 63)) = false := by decide
    wp_walk using wpAny_loadPart' hl
    repeat (first
      | (refine wpAny_ite_false (decide_eq_false (by rw [c0]; exact Bool.false_ne_true)) ?_; wp_walk using wpAny_loadPart' hl)
      | (refine wpAny_ite_false (decide_eq_false (by rw [c1]; exact Bool.false_ne_true)) ?_; wp_walk using wpAny_loadPart' hl)
      | (refine wpAny_ite_true (decide_eq_true (by rw [c2])) ?_; wp_walk using wpAny_loadPart' hl))
    exact ⟨_, rfl, h⟩
end
def rMulT (K : PySem.W.Frag) : R2 := fun x y H Q => ∃ l k xs, x = .ref l ∧ y = .int k ∧ SqT K H l xs ∧ 0 ≤ k ∧ k ≤ 1000 ∧ xs.length ≤ 1000 ∧ (k = 1 ∨ xs = [] → Q (.ref l) H) ∧ (¬ (k = 1 ∨ xs = []) → ∀ p, H p = none → Q (.ref p) (upd H p (.tup (List.replicate k.toNat xs).flatten)))
theorem op_mulT {X : Cx} : OpR X (binaryOp .Mult) (rMulT X.K) := by
  intro pins s σ H x y v u Q I rx ry h
  obtain ⟨l, k, xs, ex, ey, hT, k0, k1, hz, q1, q2⟩ := h
  by_cases hs : k = 1 ∨ xs = []
  · have q := q1 hs
    subst ex ey
    cases rx
    obtain ⟨t, rfl⟩ := ry
    obtain ⟨its, r, ⟨⟨cls, dd, data, sl⟩, ho, hc, n, hd⟩, _⟩ := I.tuple hT
    simp only at hc hd
    subst hc hd
    have c0 : (decide (k < -(2 ^ 63)) || decide (k ≥ 2 ^ 63)) = false := by
      rw [decide_eq_false (by omega), decide_eq_false (by omega)] <;> rfl
    have c1 : (its.toArray.isEmpty || k == 1) = true := by
      rcases hs with e | e
      · subst e
        simp
      · subst e
        cases r
        rfl
    exact wpAny_binaryOp_repeat_ref (T := "tuple") (U := "int") (by decide) ⟨_, ho, rfl⟩ (fun s' => typeIs_int s' k t) noFill_tuple_mul F.fills_int_mul F.slot_int_rmul repeat_tuple F.slot_int_index.lookup
      (call_meets F.slot_int_rmul (typeIs_int s k t) F.entry_int_rmul (F.args_int_rmul_2 _ _) (int_rmul_tuple k t l its.toArray n dd sl)
        ⟨ho, rfl, ⟨_, ho, rfl⟩, call_meets F.slot_tuple_mul ⟨_, ho, rfl⟩ F.entry_tuple_mul (F.args_tuple_mul_2 _ _) (tuple_mulS l its.toArray n dd sl k t c0 c1) ⟨ho, ⟨.ref l, H, I, rfl, q⟩⟩⟩)
  · have q := q2 hs
    have h1 : k ≠ 1 := fun e => hs (.inl e)
    have h2 : xs ≠ [] := fun e => hs (.inr e)
    by_cases k2 : 2 ≤ k
    · exact op_repT pins s σ H x y v u Q I rx ry ⟨l, k, xs, ex, ey, hT, h2, k2, k1, hz, q⟩
    · have e0 : k = 0 := by omega
      subst e0
      subst ex ey
      cases rx
      obtain ⟨t, rfl⟩ := ry
      obtain ⟨its, r, ⟨⟨cls, dd, data, sl⟩, ho, hc, n, hd⟩, _⟩ := I.tuple hT
      simp only at hc hd
      subst hc hd
      have c1 : (its.toArray.isEmpty || (0 : Int) == 1) = false := by
        cases r with
        | nil => exact absurd rfl h2
        | cons _ _ => rfl
      refine wpAny_binaryOp_repeat_ref (T := "tuple") (U := "int") (by decide) ⟨_, ho, rfl⟩ (fun s' => typeIs_int s' 0 t) noFill_tuple_mul F.fills_int_mul F.slot_int_rmul repeat_tuple F.slot_int_index.lookup
        (call_meets F.slot_int_rmul (typeIs_int s 0 t) F.entry_int_rmul (F.args_int_rmul_2 _ _) (int_rmul_tuple 0 t l its.toArray n dd sl)
          ⟨ho, rfl, ⟨_, ho, rfl⟩, call_meets F.slot_tuple_mul ⟨_, ho, rfl⟩ F.entry_tuple_mul (F.args_tuple_mul_2 _ _) (tuple_mul0 l its.toArray n dd sl t c1 rfl) ⟨ho, ?_⟩⟩)
      refine ⟨.ref s.heap.objs.size, _, I.laid (t' := s.toks) (o := .tup []) (fun b ob q => Heap.get?_push_of_some _ q) (Nat.le_refl _) ?_, rfl, q _ (I.hok.fresh (Nat.le_refl _))⟩
      exact ⟨Nat.zero_le _, _, .nil, IsTup.new _ _⟩
end Ev

/-! The evaluator's operations are the model's. -/
namespace Ev
open PySem PySem.Spec PyProof.Rows L2

theorem few_len {α : Type} : ∀ {l : List α} {n : Nat}, few l n = true → l.length ≤ n
  | [], _, _ => Nat.zero_le _
  | _ :: _, 0, h => by cases h
  | _ :: xs, n + 1, h => Nat.succ_le_succ (few_len (l := xs) h)
theorem lim_line : lim < sizeLine := by decide
theorem _root_.L2.PE.imp {X : Cx} {e : Expr} {t t' : TE} (h : PE X e t) (q : ∀ σ H Q, t' σ H Q → t σ H Q) : PE X e t' := ⟨fun pins s σ H Q I w => h.run pins s σ H Q I (q σ H Q w)⟩
theorem _root_.L2.PT.imp {X : Cx} {e : Expr} {t t' : TT} (h : PT X e t) (q : ∀ σ H Q, t' σ H Q → t σ H Q) : PT X e t' := ⟨fun pins s σ H Q I w => h.run pins s σ H Q I (q σ H Q w)⟩
theorem _root_.L2.PA.imp {X : Cx} {e : List Expr} {t t' : TA} (h : PA X e t) (q : ∀ σ H Q, t' σ H Q → t σ H Q) : PA X e t' := ⟨fun pos pins s σ H Q I w => h.run pos pins s σ H Q I (q σ H Q w)⟩
theorem _root_.L2.PS.imp {X : Cx} {e : Stmt} {t t' : TS} (h : PS X e t) (q : ∀ D σ H, t' D σ H → t D σ H) : PS X e t' := ⟨fun pins s σ H D I w => h.run pins s σ H D I (q D σ H w)⟩
theorem _root_.L2.PSs.imp {X : Cx} {e : List Stmt} {t t' : TS} (h : PSs X e t) (q : ∀ D σ H, t' D σ H → t D σ H) : PSs X e t' := ⟨fun pins s σ H D I w => h.run pins s σ H D I (q D σ H w)⟩

section
variable (c : Cf) (dr : Option Addr) (H0 : Hp)
/-- what follows a result that began at F, H -/
def Then (F H : Hp) (e : Env) (σ : L2.St) (Q : VK) (r : RV) : Prop := ∀ F' H' v, Gr c dr F H F' H' → StOk c dr H0 F' H' e σ → RRep c dr H F' H' e σ r v → Q v H'
def rV1 (g : Val → R RV) : V → Hp → VK → Prop := fun x H Q => ∃ F e σ a, StOk c dr H0 F H e σ ∧ Opd c dr F e σ a x ∧ (g a).Post (Then c dr H0 F H e σ Q)
def rV2 (g : Val → Val → R RV) : R2 := fun x y H Q => ∃ F e σ a b, StOk c dr H0 F H e σ ∧ Opd c dr F e σ a x ∧ Opd c dr F e σ b y ∧ (g a b).Post (Then c dr H0 F H e σ Q)
def rB2 (g : Val → Val → R Bool) : R2 := fun x y H Q => ∃ F e σ a b, StOk c dr H0 F H e σ ∧ Opd c dr F e σ a x ∧ Opd c dr F e σ b y ∧ (g a b).Post fun k => Q (.bl k) H
def rC1 (g : Val → R RV) : List V → Hp → VK → Prop := fun xs H Q => ∃ x, xs = [x] ∧ rV1 c dr H0 g x H Q
end
section
variable {c : Cf} {dr : Option Addr} {H0 F H F' H' : Hp} {e : Env} {σ : L2.St} {Q : VK} {X : Cx}
theorem Then.v {x : Val} {v : V} (st : StOk c dr H0 F H e σ) (r : VRep c dr F x v) (h : Then c dr H0 F H e σ Q (.v x)) : Q v H := h F H v Gr.refl st r
theorem Then.int {i : Int} (st : StOk c dr H0 F H e σ) (h : Then c dr H0 F H e σ Q (.v (.d (.int i)))) : Q (.int i) H := h.v (x := .d (.int i)) st (Rp.int i)
theorem Then.bl {i : Bool} (st : StOk c dr H0 F H e σ) (h : Then c dr H0 F H e σ Q (.v (.d (.bool i)))) : Q (.bl i) H := h.v (x := .d (.bool i)) st (Rp.bl i)
theorem Then.lst {p : Addr} {xs : List V} {ds : List D} (st : StOk c dr H0 F H e σ) (n : H p = none) (r : Rps F xs ds) (h : Then c dr H0 F H e σ Q (.o (.d (.list ds)))) : Q (.ref p) (upd H p (.lst xs)) := by
  obtain ⟨a, b, d⟩ := st.newL n r
  exact h _ _ _ b a d
theorem Then.tup {p : Addr} {xs : List V} {ds : List D} (st : StOk c dr H0 F H e σ) (n : H p = none) (r : Rps F xs ds) (h : Then c dr H0 F H e σ Q (.v (.d (.tuple ds)))) : Q (.ref p) (upd H p (.tup xs)) := by
  obtain ⟨a, b, d⟩ := st.newT n r
  exact h _ _ _ b a d
theorem pow_big {a : Int} (h : Nat.blt (iAbs a) big = true) : a.natAbs < 2 ^ 4000 := by
  rw [nblt] at h
  have h := of_decide_eq_true h
  have e : iAbs a = a.natAbs := by
    cases a with
    | ofNat n => rfl
    | negSucc n => rfl
  rw [e] at h
  exact h

def Op.model : Op → Operator
  | .add => .Add
  | .sub => .Sub
  | .mul => .Mult
  | .fdiv => .FloorDiv
  | .mod => .Mod
theorem rps_rep {vs : List V} {ds : List D} (r : Rps F vs ds) : ∀ n : Nat, Rps F (List.replicate n vs).flatten (repL ds n)
  | 0 => .nil
  | n + 1 => by
    rw [List.replicate_succ, List.flatten_cons]
    exact dps_app r (rps_rep r n)
theorem repL_nil : ∀ n : Nat, repL [] n = []
  | 0 => rfl
  | n + 1 => repL_nil n
theorem op_ok (op : Op) : OpR X (binaryOp op.model) (rV2 c dr H0 (binV op)) := by
  intro pins s σ' H x y v u Q I rx ry h
  obtain ⟨F, e, σ, a, b, st, oa, ob, p⟩ := h
  unfold binV at p
  split at p
  · rw [oa.int st] at rx
    rw [ob.int st] at ry
    exact op_add pins s σ' H _ _ v u Q I rx ry ⟨_, _, rfl, rfl, Then.int st p⟩
  · rw [oa.int st] at rx
    rw [ob.int st] at ry
    exact op_sub pins s σ' H _ _ v u Q I rx ry ⟨_, _, rfl, rfl, Then.int st p⟩
  · rw [oa.int st] at rx
    rw [ob.int st] at ry
    split at p
    · rename_i h1 h2
      exact op_mulW pins s σ' H _ _ v u Q I rx ry ⟨_, _, rfl, rfl, wide_mul (pow_big h1) (pow_big h2) (by decide) (by decide) (by decide), Then.int st p⟩
    · exact p.elim
  · rw [oa.int st] at rx
    rw [ob.int st] at ry
    split at p
    · rename_i h1 h2
      rw [iLt_iff] at h1
      exact op_fdivW pins s σ' H _ _ v u Q I rx ry ⟨_, _, rfl, rfl, wide_div (of_decide_eq_true h1) (pow_big h2) (by decide) (by decide), Then.int st p⟩
    · exact p.elim
  · rw [oa.int st] at rx
    rw [ob.int st] at ry
    split at p
    · rename_i h1
      rw [iLt_iff] at h1
      exact op_mod pins s σ' H _ _ v u Q I rx ry ⟨_, _, rfl, rfl, of_decide_eq_true h1, Then.int st p⟩
    · exact p.elim
  · obtain ⟨a1, xs, rfl, h1, r1⟩ := oa.list st
    obtain ⟨a2, ys, rfl, h2, r2⟩ := ob.list st
    split at p
    · rename_i hf
      have hl := few_len hf
      rw [List.length_append, ← dps_len r1, ← dps_len r2] at hl
      exact op_cat pins s σ' H _ _ v u Q I rx ry ⟨_, _, _, _, rfl, rfl, h1, h2, Nat.le_trans hl (Nat.le_of_lt lim_line), fun q nq => Then.lst st nq (dps_app r1 r2) p⟩
    · exact p.elim
  · obtain ⟨a1, xs, rfl, f1, h1, r1⟩ := oa.tup st
    obtain ⟨a2, ys, rfl, f2, h2, r2⟩ := ob.tup st
    split at p
    · rename_i hf
      have hl := few_len hf
      rw [List.length_append, ← dps_len r1, ← dps_len r2] at hl
      have r3 := dps_app r1 r2
      refine op_catA pins s σ' H _ _ v u Q I rx ry ⟨_, _, xs, ys, rfl, rfl, .inl (.inl h1), .inl (.inl h2), Nat.le_trans hl (Nat.le_of_lt lim_line), fun z => ?_, fun _ z => ?_, fun _ _ q nq => Then.tup st nq r3 p⟩
      · subst z
        exact Then.v (x := .d (.tuple _)) st (Rp.tup f2 r3) p
      · subst z
        rw [List.append_nil] at r3
        exact Then.v (x := .d (.tuple _)) st (Rp.tup f1 r3) p
    · exact p.elim
  · obtain ⟨a1, xs, rfl, h1, r1⟩ := oa.list st
    rw [ob.int st] at ry
    split at p
    · rename_i hb
      rw [iEq_iff] at hb
      have hb := of_decide_eq_true hb
      subst hb
      exact op_rep pins s σ' H _ _ v u Q I rx ry ⟨_, _, _, rfl, rfl, h1, by decide, by decide, Nat.zero_le _, fun q nq => Then.lst st nq .nil p⟩
    · split at p
      · rename_i hb hf
        rw [iEq_iff] at hb
        have hb := of_decide_eq_true hb
        subst hb
        have hl := few_len hf
        rw [← dps_len r1] at hl
        refine op_rep pins s σ' H _ _ v u Q I rx ry ⟨_, _, _, rfl, rfl, h1, by decide, by decide, by rw [show (1 : Int).toNat = 1 from rfl, Nat.mul_one]; exact Nat.le_trans hl (Nat.le_of_lt lim_line), fun q nq => ?_⟩
        have e : (List.replicate (1 : Int).toNat xs).flatten = xs := by show ([xs] : List (List V)).flatten = xs; simp
        rw [e]
        exact Then.lst st nq r1 p
      · exact p.elim
  · obtain ⟨a1, xs, rfl, f1, h1, r1⟩ := oa.tup st
    rw [ob.int st] at ry
    split at p
    · rename_i b0 b1 hf
      rw [iLe_iff] at b0 b1
      have b0 := of_decide_eq_true b0
      have b1 := of_decide_eq_true b1
      have hl := few_len hf
      rw [← dps_len r1] at hl
      refine op_mulT pins s σ' H _ _ v u Q I rx ry ⟨_, _, xs, rfl, rfl, .inl (.inl h1), b0, b1, hl, fun z => ?_, fun _ q nq => Then.tup st nq (rps_rep r1 _) p⟩
      rcases z with z | z
      · rw [z] at p
        have r3 := rps_rep r1 (1 : Int).toNat
        have e : (List.replicate (1 : Int).toNat xs).flatten = xs := by show ([xs] : List (List V)).flatten = xs; simp
        rw [e] at r3
        exact Then.v (x := .d (.tuple _)) st (Rp.tup f1 r3) p
      · subst z
        cases r1
        rw [repL_nil] at p
        exact Then.v (x := .d (.tuple _)) st (Rp.tup f1 .nil) p
    · exact p.elim
  · exact p.elim

def Cm.model : Cm → CmpOp
  | .eq => .Eq
  | .ne => .NotEq
  | .lt => .Lt
  | .le => .LtE
  | .gt => .Gt
  | .ge => .GtE
  | .isin => .In
  | .notin => .NotIn
theorem lt_data {d d' : D} {x y : V} {u v : Value} {pins : List (Addr × Obj)} {s : Shared} {σ' : L2.St} {n : Nat} (hn : n ≤ 8) (hu : X.A.units + 64 < cLine) (I : Inv X pins σ' H s) (rx : RelV x v) (ry : RelV y u) (r1 : Rp H x d) (r2 : Rp H y d') (u1 : unif n d = true) (u2 : unif n d' = true) (q : Q (.bl (ltD d d')) H) :
    wpAny (model X.prog X.w) X.A (compareOp .Lt v u) (EP X pins σ' Q) X.xe s := by
  obtain ⟨as, q1⟩ := Dp.reads I d x v (Rp.dp d x r1) rx
  obtain ⟨bs, q2⟩ := Dp.reads I d' y u (Rp.dp d' y r2) ry
  have al := unif_alike d d' n u1 u2
  have nn : d ≠ .none := by
    intro z
    subst z
    cases n <;> simp [unif] at u1
  have dep := (okD_lay d n (unif_ok d n u1)).2
  have m : min d.depth d'.depth ≤ d.depth := Nat.min_le_left _ _
  have h := W.rcLt_alike d d' X.A s v u as bs q1 q2 al nn (by omega)
  rw [ltD_data d d' n u1 u2] at q
  exact h X.prog X.w X.xe _ ⟨.bl _, H, I, rfl, q⟩
theorem cmp_ok (hu : X.A.units + 100 < cLine) (op : Cm) : OpR X (compareOp op.model) (rB2 c dr H0 (cmpV op)) := by
  intro pins s σ' H x y v u Q I rx ry h
  obtain ⟨F, e, σ, a, b, st, oa, ob, p⟩ := h
  unfold cmpV at p
  split at p
  · have ra := oa.rp st
    have rb := ob.rp st
    split at p
    · rename_i h1 h2
      rw [eqD_eqv _ _ 8 h1 h2] at p
      exact op_eqD (by omega) pins s σ' H _ _ v u Q I rx ry ⟨_, _, Rp.dp _ _ ra, Rp.dp _ _ rb, okD_shaped h1, okD_shaped h2, p⟩
    · split at p
      · rename_i k1 k2 _
        rw [oa.bl st] at rx
        rw [ob.bl st] at ry
        refine op_eq pins s σ' H _ _ v u Q I rx ry ⟨rfl, ?_⟩
        cases k1 <;> cases k2 <;> exact p
      · exact p.elim
  · have ra := oa.rp st
    have rb := ob.rp st
    split at p
    · rename_i h1 h2
      rw [eqD_eqv _ _ 8 h1 h2] at p
      exact op_neD (by omega) pins s σ' H _ _ v u Q I rx ry ⟨_, _, Rp.dp _ _ ra, Rp.dp _ _ rb, okD_shaped h1, okD_shaped h2, p⟩
    · split at p
      · rename_i k1 k2 _
        rw [oa.bl st] at rx
        rw [ob.bl st] at ry
        refine op_ne pins s σ' H _ _ v u Q I rx ry ⟨rfl, ?_⟩
        cases k1 <;> cases k2 <;> exact p
      · exact p.elim
  · rw [oa.int st] at rx
    rw [ob.int st] at ry
    rw [iLt_iff] at p
    exact op_lt pins s σ' H _ _ v u Q I rx ry ⟨_, _, rfl, rfl, p⟩
  · rw [oa.int st] at rx
    rw [ob.int st] at ry
    rw [iLe_iff] at p
    exact op_le pins s σ' H _ _ v u Q I rx ry ⟨_, _, rfl, rfl, p⟩
  · rw [oa.int st] at rx
    rw [ob.int st] at ry
    rw [iLt_iff] at p
    exact op_gt pins s σ' H _ _ v u Q I rx ry ⟨_, _, rfl, rfl, p⟩
  · rw [oa.int st] at rx
    rw [ob.int st] at ry
    rw [iLe_iff] at p
    exact op_ge pins s σ' H _ _ v u Q I rx ry ⟨_, _, rfl, rfl, p⟩
  · have ra := oa.rp st
    have rb := ob.rp st
    split at p
    · rename_i hk
      simp only [Bool.or_eq_true, Bool.and_eq_true] at hk
      rcases hk with ((hk | hk) | hk) | hk
      · exact lt_data (n := 1) (by omega) (by omega) I rx ry ra rb hk.1 hk.2 p
      · exact lt_data (n := 2) (by omega) (by omega) I rx ry ra rb hk.1 hk.2 p
      · exact lt_data (n := 3) (by omega) (by omega) I rx ry ra rb hk.1 hk.2 p
      · exact lt_data (n := 4) (by omega) (by omega) I rx ry ra rb hk.1 hk.2 p
    · exact p.elim
  · have ra := oa.rp st
    have rb := ob.rp st
    split at p
    · rename_i h1 h2
      rw [any_eqv h1 h2] at p
      obtain ⟨as, q1⟩ := Dp.reads I _ x v (Rp.dp _ _ ra) rx
      obtain ⟨bs, q2⟩ := Dp.reads I _ y u (Rp.dp _ _ rb) ry
      exact SeqAt.in_list_reads q2 q1 (SeqAt.canLay_of_shaped (okDs_shaped h2).1) (SeqAt.canLay_of_shaped (okD_shaped h1)) (room_in_shaped (okD_shaped h1) (by omega)) ⟨.bl _, H, I, rfl, p⟩
    · exact p.elim
  · have ra := oa.rp st
    have rb := ob.rp st
    split at p
    · rename_i h1 h2
      rw [any_eqv h1 h2] at p
      obtain ⟨as, q1⟩ := Dp.reads I _ x v (Rp.dp _ _ ra) rx
      obtain ⟨bs, q2⟩ := Dp.reads I _ y u (Rp.dp _ _ rb) ry
      exact SeqAt.in_tuple_reads q2 q1 (SeqAt.canLay_of_shaped (okDs_shaped h2).1) (SeqAt.canLay_of_shaped (okD_shaped h1)) (room_in_shaped (okD_shaped h1) (by omega)) ⟨.bl _, H, I, rfl, p⟩
    · exact p.elim
  · have ra := oa.rp st
    have rb := ob.rp st
    split at p
    · rename_i h1 h2
      rw [any_eqv h1 h2] at p
      obtain ⟨as, q1⟩ := Dp.reads I _ x v (Rp.dp _ _ ra) rx
      obtain ⟨bs, q2⟩ := Dp.reads I _ y u (Rp.dp _ _ rb) ry
      exact SeqAt.notIn_list_reads q2 q1 (SeqAt.canLay_of_shaped (okDs_shaped h2).1) (SeqAt.canLay_of_shaped (okD_shaped h1)) (room_in_shaped (okD_shaped h1) (by omega)) ⟨.bl _, H, I, rfl, p⟩
    · exact p.elim
  · have ra := oa.rp st
    have rb := ob.rp st
    split at p
    · rename_i h1 h2
      rw [any_eqv h1 h2] at p
      obtain ⟨as, q1⟩ := Dp.reads I _ x v (Rp.dp _ _ ra) rx
      obtain ⟨bs, q2⟩ := Dp.reads I _ y u (Rp.dp _ _ rb) ry
      exact SeqAt.notIn_tuple_reads q2 q1 (SeqAt.canLay_of_shaped (okDs_shaped h2).1) (SeqAt.canLay_of_shaped (okD_shaped h1)) (room_in_shaped (okD_shaped h1) (by omega)) ⟨.bl _, H, I, rfl, p⟩
    · exact p.elim
  · exact p.elim

/-! ### items, slices -/
theorem pyIx_ixN (n : Nat) (i : Int) : pyIx n i = ixN n i := by
  unfold pyIx ixN
  cases i with
  | ofNat k =>
    simp only [nblt]
    rw [if_pos (show (0 : Int) ≤ Int.ofNat k from Int.natCast_nonneg k)]
    by_cases h : k < n
    · rw [decide_eq_true h, if_pos (show (Int.ofNat k) < (n : Int) from Int.ofNat_lt.mpr h)]
      rfl
    · rw [decide_eq_false h, if_neg (show ¬ (Int.ofNat k) < (n : Int) from fun z => h (Int.ofNat_lt.mp z))]
  | negSucc k =>
    simp only [nblt]
    rw [if_neg (by omega)]
    by_cases h : k < n
    · rw [decide_eq_true h, if_pos (by omega)]
      simp only [Option.some.injEq]
      omega
    · rw [decide_eq_false h, if_neg (by omega)]
theorem nth_post : ∀ {l : List D} {k : Nat} {P : D → Prop}, (nth l k).Post P → ∃ d, l[k]? = some d ∧ P d
  | [], _, _, h => h.elim
  | x :: _, 0, _, h => ⟨x, rfl, h⟩
  | _ :: r, k + 1, _, h => by
    obtain ⟨d, e, p⟩ := nth_post (l := r) (k := k) h
    exact ⟨d, by simpa using e, p⟩
theorem at_get {xs : List V} {ds : List D} {i : Int} {k : Nat} {d : D} (r : Rps F xs ds) (h : pyIx ds.length i = some k) (hd : ds[k]? = some d) : ∃ v, atI xs i = some v ∧ Rp F v d := by
  obtain ⟨v, e, rv⟩ := dps_get r hd
  refine ⟨v, ?_, rv⟩
  unfold atI
  rw [dps_len r, ← pyIx_ixN, h]
  exact e
theorem ix_ok : IxR X (rV2 c dr H0 ixV) := by
  intro value slice pins s σ' H x y v u Q I rx ry h hs
  obtain ⟨F, e, σ, a, b, st, oa, ob, p⟩ := h
  unfold ixV at p
  split at p
  · obtain ⟨a1, xs, rfl, h1, r1⟩ := oa.list st
    rw [ob.int st] at ry
    split at p
    · rename_i k hk
      obtain ⟨d, hd, p⟩ := nth_post (R.post_bind p)
      obtain ⟨z, hz, rz⟩ := at_get r1 hk hd
      exact ix_list value slice pins s σ' H _ _ v u Q I rx ry ⟨_, xs, _, z, rfl, rfl, .inl (.inl h1), hz, Then.v (x := .d d) st rz p⟩ hs
    · exact p.elim
  · obtain ⟨a1, xs, rfl, _, h1, r1⟩ := oa.tup st
    rw [ob.int st] at ry
    split at p
    · rename_i k hk
      obtain ⟨d, hd, p⟩ := nth_post (R.post_bind p)
      obtain ⟨z, hz, rz⟩ := at_get r1 hk hd
      exact ix_tup value slice pins s σ' H _ _ v u Q I rx ry ⟨_, xs, _, z, rfl, rfl, .inl (.inl h1), hz, Then.v (x := .d d) st rz p⟩ hs
    · exact p.elim
  · exact p.elim
theorem cut1_sIx (n d : Nat) (hd : d ≤ n) (o : Option Int) : cut1 n d o = HT.sIx n d o := by
  cases o with
  | none => rfl
  | some i =>
    cases i with
    | ofNat k =>
      show (match Nat.blt k n with | true => k | false => n) = HT.sIx n d (some (k : Int))
      rw [HT.sIx_nat, nblt]
      by_cases h : k < n
      · rw [decide_eq_true h]
        exact (Nat.min_eq_left (Nat.le_of_lt h)).symm
      · rw [decide_eq_false h]
        exact (Nat.min_eq_right (Nat.le_of_not_lt h)).symm
    | negSucc k =>
      show n - (k + 1) = (if Int.negSucc k < 0 then (Int.negSucc k + (n : Int)).toNat else _)
      rw [if_pos (by omega)]
      omega
theorem cut_ok {xs : List V} {ds : List D} (r : Rps F xs ds) (lo hi : Option Int) : Rps F (cutV xs lo hi) (slL ds lo hi) := by
  unfold cutV slL
  simp only
  rw [cut1_sIx _ 0 (Nat.zero_le _), cut1_sIx _ _ (Nat.le_refl _), dps_len r]
  exact dps_take _ (dps_drop _ r)
theorem sl_ok : SlR X (fun x lo hi H Q => rV1 c dr H0 (fun a => slV a lo hi) x H Q) := by
  intro pins s σ' H x v vl vu lo hi sl Q I rx hs pl pu h
  obtain ⟨F, e, σ, a, st, oa, p⟩ := h
  have p : (slV a lo hi).Post (Then c dr H0 F H e σ Q) := p
  unfold slV at p
  split at p
  · obtain ⟨a1, xs, rfl, h1, r1⟩ := oa.list st
    exact sl_list pins s σ' H _ v vl vu _ _ sl Q I rx hs pl pu ⟨_, xs, rfl, .inl (.inl h1), fun q nq => Then.lst st nq (cut_ok r1 _ _) p⟩
  · obtain ⟨a1, xs, rfl, f1, h1, r1⟩ := oa.tup st
    refine sl_tupA pins s σ' H _ v vl vu _ _ sl Q I rx hs pl pu ⟨_, xs, rfl, .inl (.inl h1), fun w => ?_, fun _ q nq => Then.tup st nq (cut_ok r1 _ _) p⟩
    have r2 := cut_ok r1 lo hi
    have e : cutV xs lo hi = xs := by
      unfold cutV
      rw [w.1, w.2]
      simp
    rw [e] at r2
    exact Then.v (x := .d (.tuple _)) st (Rp.tup f1 r2) p
  · exact p.elim

/-! ### built-ins -/
theorem ints_rps : ∀ {xs : List V} {ds : List D} {is : List Int}, Rps F xs ds → ints? ds = some is → xs = is.map V.int
  | _, [], is, r, h => by
    cases r
    cases h
    rfl
  | _, d :: ds, is, r, h => by
    cases r with
    | cons r1 r2 =>
      cases d with
      | int i =>
        have h : (match ints? ds with | some l => some (i :: l) | none => none) = some is := h
        cases q : ints? ds with
        | none => rw [q] at h; cases h
        | some l =>
          rw [q] at h
          cases h
          cases r1
          rw [ints_rps r2 q]
          rfl
      | _ => cases h
theorem isum_sum : ∀ l : List Int, isum l = l.sum
  | [] => rfl
  | i :: r => by
    show i + isum r = _
    rw [isum_sum r, List.sum_cons]
theorem imax_ok : ∀ (l : List Int) (m : Int), imax m l ∈ m :: l ∧ ∀ y ∈ m :: l, y ≤ imax m l
  | [], m => ⟨List.mem_cons_self, fun y hy => by rw [List.mem_singleton.mp hy]; exact Int.le_refl _⟩
  | i :: r, m => by
    unfold imax
    rw [iLt_iff]
    by_cases h : m < i
    · rw [decide_eq_true h]
      obtain ⟨h1, h2⟩ := imax_ok r i
      refine ⟨List.mem_cons_of_mem _ h1, fun y hy => ?_⟩
      rcases List.mem_cons.mp hy with rfl | hy
      · exact Int.le_trans (Int.le_of_lt h) (h2 i List.mem_cons_self)
      · exact h2 y hy
    · rw [decide_eq_false h]
      obtain ⟨h1, h2⟩ := imax_ok r m
      refine ⟨?_, fun y hy => ?_⟩
      · rcases List.mem_cons.mp h1 with h1 | h1
        · exact List.mem_cons.mpr (.inl h1)
        · exact List.mem_cons_of_mem _ (List.mem_cons_of_mem _ h1)
      · rcases List.mem_cons.mp hy with rfl | hy
        · exact h2 y List.mem_cons_self
        · rcases List.mem_cons.mp hy with rfl | hy
          · exact Int.le_trans (Int.not_lt.mp h) (h2 m List.mem_cons_self)
          · exact h2 y (List.mem_cons_of_mem _ hy)
theorem imin_ok : ∀ (l : List Int) (m : Int), imin m l ∈ m :: l ∧ ∀ y ∈ m :: l, imin m l ≤ y
  | [], m => ⟨List.mem_cons_self, fun y hy => by rw [List.mem_singleton.mp hy]; exact Int.le_refl _⟩
  | i :: r, m => by
    unfold imin
    rw [iLt_iff]
    by_cases h : i < m
    · rw [decide_eq_true h]
      obtain ⟨h1, h2⟩ := imin_ok r i
      refine ⟨List.mem_cons_of_mem _ h1, fun y hy => ?_⟩
      rcases List.mem_cons.mp hy with rfl | hy
      · exact Int.le_trans (h2 i List.mem_cons_self) (Int.le_of_lt h)
      · exact h2 y hy
    · rw [decide_eq_false h]
      obtain ⟨h1, h2⟩ := imin_ok r m
      refine ⟨?_, fun y hy => ?_⟩
      · rcases List.mem_cons.mp h1 with h1 | h1
        · exact List.mem_cons.mpr (.inl h1)
        · exact List.mem_cons_of_mem _ (List.mem_cons_of_mem _ h1)
      · rcases List.mem_cons.mp hy with rfl | hy
        · exact h2 y List.mem_cons_self
        · rcases List.mem_cons.mp hy with rfl | hy
          · exact Int.le_trans (h2 m List.mem_cons_self) (Int.not_lt.mp h)
          · exact h2 y (List.mem_cons_of_mem _ hy)
theorem each_of {its : List Value} : ∀ {xs : List V} {ds : List D}, Vals xs its → Rps F xs ds → W.EachIs (fun v d => ∃ x, RelV x v ∧ Rp F x d) its ds := by
  intro xs ds r p
  induction r generalizing ds with
  | nil => cases p; exact .nil
  | cons r1 _ ih =>
    cases p with
    | cons p1 p2 => exact .cons ⟨_, r1, p1⟩ (ih p2)
theorem each_back : ∀ {its : List Value} {ds : List D}, W.EachIs (fun v d => ∃ x, RelV x v ∧ Rp F x d) its ds → ∃ xs, Vals xs its ∧ Rps F xs ds
  | _, _, .nil => ⟨[], .nil, .nil⟩
  | _, _, .cons ⟨x, r, p⟩ t => by
    obtain ⟨xs, h1, h2⟩ := each_back t
    exact ⟨x :: xs, .cons r h1, .cons p h2⟩
theorem each_reads {pins : List (Addr × Obj)} {σ' : L2.St} {s : Shared} (I : Inv X pins σ' H s) (l : Le F H) : ∀ {its : List Value} {ds : List D}, W.EachIs (fun v d => ∃ x, RelV x v ∧ Rp F x d) its ds → W.EachIs (fun v d => ∃ as, Reads s.heap v d as) its ds
  | _, _, .nil => .nil
  | _, _, .cons ⟨x, r, p⟩ t => .cons (Dp.reads I _ _ _ (Rp.dp _ _ (dp_mono l _ _ p)) r) (each_reads I l t)
theorem sorted_ok (hu : X.A.units + 100 < cLine) {pins : List (Addr × Obj)} {σ' : L2.St} {s : Shared} (I : Inv X pins σ' H s) (st : StOk c dr H0 F H e σ) {a : Addr} {xs : List V} {ds : List D} (h1 : H a = some (.lst xs)) (r : Rps F xs ds) (hk : kindly ds = true) (p : Then c dr H0 F H e σ Q (.o (.d (.list (sortD ds))))) :
    wpAny (model X.prog X.w) X.A (call (.builtin "sorted") [.ref a]) (EP X pins σ' Q) X.xe s := by
  obtain ⟨k1, k2, k3, k4⟩ := kindly_sorts hk
  obtain ⟨hz, its, n, rv, eo⟩ := (show ObjOk X.prog X.w H s.heap a (.lst xs) from I.hok a _ h1)
  have hl : s.heap.IsList a its.toArray := ⟨_, eo, rfl, _, rfl⟩
  have hE := each_of rv r
  refine W.sorted_data (R := fun v d => ∃ x, RelV x v ∧ Rp F x d) (enc := id) (bs := ds) hl hE (each_reads I st.le hE) (by rw [List.map_id]; exact k2) (by rw [List.map_id]; exact k3) (by rw [← dps_len r]; exact hz) (fun d hd => by have := k4 d hd; show X.A.units + 2 + d.depth < cLine; omega) fun out ho hE => ?_
  rw [← k1] at hE
  obtain ⟨ys, rv2, r2⟩ := each_back hE
  obtain ⟨ep, he'⟩ := PyProof.Rows.sortedAll_at s.heap its out.toArray
  have hlen : ys.length ≤ sizeLine := by rw [rv2.length, ho, ← dps_len r]; exact hz
  exact ⟨.ref _, upd H (s.heap.objs.size + 1) (.lst ys), I.laid (t' := s.toks) (fun _ _ => PyProof.Rows.sortedAll_old) (Nat.le_succ _) ⟨hlen, out, ep, rv2, he'⟩, rfl, Then.lst st (I.hok.fresh (Nat.le_succ _)) r2 p⟩
theorem keys_each {w : World} : ∀ {kvs : List (D × D)} {xs : List (NestedKey × Addr × Value)}, Ents F kvs xs → W.EachIs (fun v d => ∃ x, RelV x v ∧ Rp F x d) ((xs.map (entN w)).map (·.key)) (keysD kvs)
  | _, _, .nil => .nil
  | _, _, .cons h1 h2 h3 h4 h5 => .cons ⟨V.ref _, (show RelV (V.ref _) (Value.ref _) from rfl), h2⟩ (keys_each h5)
theorem sortedD_ok {w : World} (hc : X.calm = true) (hu : X.A.units + 100 < cLine) {pins : List (Addr × Obj)} {σ' : L2.St} {s : Shared} (I : Inv X pins σ' H s) (st : StOk c dr H0 F H e σ) {a : Addr} {ob : Obj} {kvs : List (D × D)} (h1 : H a = some (dnO a ob)) (dn : DN w F a ob kvs) (hk : kindly (keysD kvs) = true) (p : Then c dr H0 F H e σ Q (.o (.d (.list (sortD (keysD kvs)))))) :
    wpAny (model X.prog X.w) X.A (call (.builtin "sorted") [.ref a]) (EP X pins σ' Q) X.xe s := by
  obtain ⟨k1, k2, k3, k4⟩ := kindly_sorts hk
  obtain ⟨hsys, hex, es, ep, xs, hdt, hes, hnd, hsz, hE⟩ := dn
  have go := (I.hok a _ h1).1
  have raw : s.heap.DictRaw a es ep := ⟨ob, go, hex, hdt⟩
  have hn : es.size ≤ sizeLine := by
    rw [← Array.length_toList, hes, List.length_map]
    exact hsz
  have hE' : W.EachIs (fun v d => ∃ x, RelV x v ∧ Rp F x d) (es.toList.map (·.key)) (keysD kvs) := by
    rw [hes]
    exact keys_each hE
  refine sorted_dict (R := fun v d => ∃ x, RelV x v ∧ Rp F x d) (enc := id) (bs := keysD kvs) (I.ok.hd hc) hsys raw hn hE' (each_reads I st.le hE') (by rw [List.map_id]; exact k2) (by rw [List.map_id]; exact k3) (fun d hd => by have := k4 d hd; show X.A.units + 3 + d.depth < cLine; omega) fun D out cc h' tk kp hD hg hlen hE2 => ?_
  rw [← k1] at hE2
  obtain ⟨ys, rv2, r2⟩ := each_back hE2
  have hl : ys.length ≤ sizeLine := by
    rw [rv2.length, hlen, ← hE'.length, List.length_map, Array.length_toList]
    exact hn
  exact ⟨.ref D, upd H D (.lst ys), I.laid (t' := tk) kp hD ⟨hl, out, cc, rv2, hg⟩, rfl, Then.lst st (I.hok.fresh hD) r2 p⟩
theorem listD_ok {w : World} (hc : X.calm = true) {pins : List (Addr × Obj)} {σ' : L2.St} {s : Shared} (I : Inv X pins σ' H s) (st : StOk c dr H0 F H e σ) {a : Addr} {ob : Obj} {kvs : List (D × D)} (h1 : H a = some (dnO a ob)) (dn : DN w F a ob kvs) (p : Then c dr H0 F H e σ Q (.o (.d (.list (keysD kvs))))) :
    wpAny (model X.prog X.w) X.A (call (.type "list") [.ref a]) (EP X pins σ' Q) X.xe s := by
  obtain ⟨hsys, hex, es, ep, xs, hdt, hes, hnd, hsz, hE⟩ := dn
  have go := (I.hok a _ h1).1
  have raw : s.heap.DictRaw a es ep := ⟨ob, go, hex, hdt⟩
  have hn : es.size ≤ sizeLine := by
    rw [← Array.length_toList, hes, List.length_map]
    exact hsz
  have hE' : W.EachIs (fun v d => ∃ x, RelV x v ∧ Rp F x d) (es.toList.map (·.key)) (keysD kvs) := by
    rw [hes]
    exact keys_each hE
  refine W.kdl_call (KdlSrc.rawDict (es := es) (ep := ep) hsys) (I.ok.hd hc) raw hn fun h' tk acc' c' kp hg hacc => ?_
  have eo : acc'.toList = es.toList.map (·.key) := items_out (out := es.toList.map (·.key)) (by rw [List.length_map, Array.length_toList]; exact hacc) fun j v hv => by
    obtain ⟨hi, e⟩ := hv
    rw [List.getElem?_map, Array.getElem?_toList, Array.getElem?_eq_getElem hi, e]
    rfl
  obtain ⟨ys, rv2, r2⟩ := each_back hE'
  have hl : ys.length ≤ sizeLine := by
    rw [rv2.length, List.length_map, Array.length_toList]
    exact hn
  have hg : h'.get? s.heap.objs.size = some (seqObj "list" (es.toList.map (·.key)).toArray c') := by
    rw [hg, ← eo, Array.toArray_toList]
  exact ⟨.ref _, upd H s.heap.objs.size (.lst ys), I.laid (t' := tk) kp (Nat.le_refl _) ⟨hl, _, c', rv2, hg⟩, rfl, Then.lst st (I.hok.fresh (Nat.le_refl _)) r2 p⟩
def B1.model : B1 → Value
  | .len => .builtin "len"
  | .sorted => .builtin "sorted"
  | .tuple => .type "tuple"
  | .list => .type "list"
  | .sum => .builtin "sum"
  | .max => .builtin "max"
  | .min => .builtin "min"
  | .abs => .builtin "abs"
  | .int => .type "int"
theorem b1_ok (hc : X.calm = true) (hu : X.A.units + 100 < cLine) (b : B1) : CallR X b.model (rC1 c dr H0 (b1V b)) := by
  intro pins s σ' H xs us Q I r h
  obtain ⟨x, rfl, F, e, σ, a, st, oa, p⟩ := h
  unfold b1V at p
  split at p
  · obtain ⟨a1, xs, rfl, h1, r1⟩ := oa.list st
    refine call_len_seq pins s σ' H _ us Q I r ⟨_, xs, rfl, .inl (.inl (.inl h1)), ?_⟩
    rw [dps_len r1]
    exact Then.int st p
  · obtain ⟨a1, xs, rfl, _, h1, r1⟩ := oa.tup st
    refine call_len_seq pins s σ' H _ us Q I r ⟨_, xs, rfl, .inr (.inl (.inl h1)), ?_⟩
    rw [dps_len r1]
    exact Then.int st p
  · obtain ⟨a1, xs, rfl, h1, r1⟩ := oa.list st
    split at p
    · rename_i hk
      rw [Vals.ref1 r]
      exact sorted_ok hu I st h1 r1 hk p
    · exact p.elim
  · obtain ⟨a1, ob, rfl, h1, dn⟩ := oa.dct st
    split at p
    · rename_i hk
      rw [Vals.ref1 r]
      exact sortedD_ok hc hu I st h1 dn hk p
    · exact p.elim
  · obtain ⟨a1, xs, rfl, h1, r1⟩ := oa.list st
    exact call_tuple_of pins s σ' H _ us Q I r ⟨_, xs, rfl, .inl ⟨.inl (.inl h1), fun q nq => Then.tup st nq r1 p⟩⟩
  · obtain ⟨a1, xs, rfl, f1, h1, r1⟩ := oa.tup st
    exact call_tuple_of pins s σ' H _ us Q I r ⟨_, xs, rfl, .inr ⟨.inl (.inl h1), Then.v (x := .d (.tuple _)) st (Rp.tup f1 r1) p⟩⟩
  · obtain ⟨a1, xs, rfl, h1, r1⟩ := oa.list st
    exact call_list_of pins s σ' H _ us Q I r ⟨_, xs, rfl, .inl (.inl (.inl h1)), fun q nq => Then.lst st nq r1 p⟩
  · obtain ⟨a1, xs, rfl, _, h1, r1⟩ := oa.tup st
    exact call_list_of pins s σ' H _ us Q I r ⟨_, xs, rfl, .inr (.inl (.inl h1)), fun q nq => Then.lst st nq r1 p⟩
  · obtain ⟨a1, ob, rfl, h1, dn⟩ := oa.dct st
    rw [Vals.ref1 r]
    exact listD_ok hc I st h1 dn p
  · obtain ⟨a1, xs, rfl, h1, r1⟩ := oa.list st
    split at p
    · rename_i is hi
      have hx := ints_rps r1 hi
      subst hx
      refine cr_sum hc pins s σ' H _ us Q I r ⟨_, is, rfl, .inl (.inl h1), ?_⟩
      rw [← isum_sum]
      exact Then.int st p
    · exact p.elim
  · obtain ⟨a1, xs, rfl, _, h1, r1⟩ := oa.tup st
    split at p
    · rename_i is hi
      have hx := ints_rps r1 hi
      subst hx
      refine cr_sumT hc pins s σ' H _ us Q I r ⟨_, is, rfl, .inl (.inl h1), ?_⟩
      show Q (.int is.sum) H
      rw [← isum_sum]
      exact Then.int st p
    · exact p.elim
  · obtain ⟨a1, xs, rfl, _, h1, r1⟩ := oa.tup st
    split at p
    · rename_i i is hi
      have hx := ints_rps r1 hi
      subst hx
      obtain ⟨m1, m2⟩ := imax_ok is i
      refine cr_maxT hc pins s σ' H _ us Q I r ⟨_, i :: is, rfl, .inl (.inl h1), by simp, fun m hm hle => ?_⟩
      have em : imax i is = m := Int.le_antisymm (hle _ m1) (m2 _ hm)
      rw [em] at p
      exact Then.int st p
    · exact p.elim
  · obtain ⟨a1, xs, rfl, _, h1, r1⟩ := oa.tup st
    split at p
    · rename_i i is hi
      have hx := ints_rps r1 hi
      subst hx
      obtain ⟨m1, m2⟩ := imin_ok is i
      refine cr_minT hc pins s σ' H _ us Q I r ⟨_, i :: is, rfl, .inl (.inl h1), by simp, fun m hm hle => ?_⟩
      have em : imin i is = m := Int.le_antisymm (m2 _ hm) (hle _ m1)
      rw [em] at p
      exact Then.int st p
    · exact p.elim
  · obtain ⟨a1, xs, rfl, h1, r1⟩ := oa.list st
    split at p
    · rename_i i is hi
      have hx := ints_rps r1 hi
      subst hx
      obtain ⟨m1, m2⟩ := imax_ok is i
      refine cr_max hc pins s σ' H _ us Q I r ⟨_, i :: is, rfl, .inl (.inl h1), by simp, fun m hm hle => ?_⟩
      have em : imax i is = m := Int.le_antisymm (hle _ m1) (m2 _ hm)
      rw [em] at p
      exact Then.int st p
    · exact p.elim
  · obtain ⟨a1, xs, rfl, h1, r1⟩ := oa.list st
    split at p
    · rename_i i is hi
      have hx := ints_rps r1 hi
      subst hx
      obtain ⟨m1, m2⟩ := imin_ok is i
      refine cr_min hc pins s σ' H _ us Q I r ⟨_, i :: is, rfl, .inl (.inl h1), by simp, fun m hm hle => ?_⟩
      have em : imin i is = m := Int.le_antisymm (m2 _ hm) (hle _ m1)
      rw [em] at p
      exact Then.int st p
    · exact p.elim
  · rw [oa.int st] at r
    refine call_abs pins s σ' H _ us Q I r ⟨_, rfl, ?_⟩
    have p := Then.int st p
    rw [iLt_iff] at p
    split
    · rename_i hlt
      rw [decide_eq_true hlt] at p
      exact p
    · rename_i hlt
      rw [decide_eq_false hlt] at p
      exact p
  · rw [oa.int st] at r
    exact call_int1 pins s σ' H _ us Q I r (.inl ⟨_, rfl, Then.int st p⟩)
  · rename_i b
    rw [oa.bl st] at r
    have p := Then.int st p
    refine call_int1 pins s σ' H _ us Q I r (.inr ⟨_, rfl, ?_⟩)
    cases b <;> exact p
  · exact p.elim
/-- max(a, b), min(a, b) -/
theorem mx_ok (hc : X.calm = true) (least : Bool) : CallR X (.builtin (match least with | true => "min" | false => "max")) (fun xs H Q => ∃ i j, xs = [.int i, .int j] ∧ Q (.int (match least with | true => (match iLt j i with | true => j | false => i) | false => (match iLt i j with | true => j | false => i))) H) := by
  intro pins s σ' H xs us Q I r h
  obtain ⟨i, j, rfl, p⟩ := h
  cases least with
  | true =>
    refine call_min2 hc pins s σ' H _ us Q I r ⟨i, j, rfl, ?_⟩
    simp only [iLt_iff] at p
    split
    · rename_i hlt
      rw [decide_eq_true hlt] at p
      exact p
    · rename_i hlt
      rw [decide_eq_false hlt] at p
      exact p
  | false =>
    refine call_max2 hc pins s σ' H _ us Q I r ⟨i, j, rfl, ?_⟩
    simp only [iLt_iff] at p
    split
    · rename_i hlt
      rw [decide_eq_true (by omega)] at p
      exact p
    · rename_i hlt
      rw [decide_eq_false (by omega)] at p
      exact p
/-- the class of a datum -/
def tyD : D → String
  | .none => "NoneType"
  | .bool _ => "bool"
  | .int _ => "int"
  | .str _ => "str"
  | .list _ => "list"
  | .tuple _ => "tuple"
  | .dict _ => "dict"
theorem ty_ok {d : D} {x : V} {K : PySem.W.Frag} (h : Rp H x d) : TyX K H x (.type (tyD d)) := by
  cases h with
  | non => exact .base .non
  | bl b => exact .base (.bl b)
  | int i => exact .base (.int i)
  | str i => exact .base (.str i)
  | lst e _ => exact .base (.lst e)
  | tup e _ => exact .base (.tup e)
def Ty.names : Ty → List String
  | .int => ["int"]
  | .bool => ["bool"]
  | .tuple => ["tuple"]
  | .list => ["list"]
  | .str => ["str"]
  | .tupleOrList => ["tuple", "list"]
theorem isi_ok {K : PySem.W.Frag} {n : String} {t : Ty} (ht : t.names = [n]) (d : D) (hd : ∀ l, d ≠ .dict l) : PySem.W.kitOne K (.type (tyD d)) (.type n) = some (isTy t d) := by
  cases t with
  | tupleOrList => simp [Ty.names] at ht
  | int => cases ht; cases d <;> first | exact absurd rfl (hd _) | (simp only [tyD, isTy]; exact kit_ty (by decide +kernel))
  | bool => cases ht; cases d <;> first | exact absurd rfl (hd _) | (simp only [tyD, isTy]; exact kit_ty (by decide +kernel))
  | tuple => cases ht; cases d <;> first | exact absurd rfl (hd _) | (simp only [tyD, isTy]; exact kit_ty (by decide +kernel))
  | list => cases ht; cases d <;> first | exact absurd rfl (hd _) | (simp only [tyD, isTy]; exact kit_ty (by decide +kernel))
  | str => cases ht; cases d <;> first | exact absurd rfl (hd _) | (simp only [tyD, isTy]; exact kit_ty (by decide +kernel))
theorem isi2_ok {K : PySem.W.Frag} (d : D) (hd : ∀ l, d ≠ .dict l) : PySem.W.kitAny K (.type (tyD d)) [.type "tuple", .type "list"] = some (isTy .tupleOrList d) := by
  have h1 := isi_ok (K := K) (t := .tuple) rfl d hd
  have h2 := isi_ok (K := K) (t := .list) rfl d hd
  cases q : isTy .tuple d with
  | true =>
    rw [q] at h1
    refine kitAny_cons h1 (fun z => nomatch z) fun _ => ?_
    cases d <;> simp [isTy] at q ⊢
  | false =>
    rw [q] at h1
    refine kitAny_cons h1 (fun _ => ?_) fun z => nomatch z
    cases q2 : isTy .list d with
    | true =>
      rw [q2] at h2
      refine kitAny_cons h2 (fun z => nomatch z) fun _ => ?_
      cases d <;> simp [isTy] at q2 ⊢
    | false =>
      rw [q2] at h2
      refine kitAny_cons h2 (fun _ => ?_) fun z => nomatch z
      rw [kitAny_nil]
      cases d <;> simp [isTy] at q q2 ⊢
theorem rp_nodict {d : D} {x : V} (h : Rp H x d) : ∀ l, d ≠ .dict l := fun l z => by
  subst z
  cases h
/-- truth -/
theorem tru_val {a : Val} {x : V} {P : Bool → Prop} (st : StOk c dr H0 F H e σ) (o : Opd c dr F e σ a x) (h : (truV a).Post P) (K : PySem.W.Frag) : ∃ k, TruV K x H k ∧ P k := by
  unfold truV at h
  split at h
  · rw [o.non st]
    exact ⟨false, rfl, h⟩
  · rw [o.bl st]
    exact ⟨_, rfl, h⟩
  · rw [o.int st]
    rename_i i
    refine ⟨!iEq i 0, ?_, h⟩
    show (!iEq i 0) = (i != 0)
    rw [iEq_beq]
    rfl
  · obtain ⟨a1, xs, rfl, h1, r1⟩ := o.list st
    refine ⟨_, .inl ⟨xs, .inl (.inl h1), rfl⟩, ?_⟩
    cases r1 with
    | nil => exact h
    | cons _ _ => exact h
  · obtain ⟨a1, xs, rfl, _, h1, r1⟩ := o.tup st
    refine ⟨_, .inr (.inl ⟨xs, .inl (.inl h1), rfl⟩), ?_⟩
    cases r1 with
    | nil => exact h
    | cons _ _ => exact h
  · exact h.elim
theorem isN_val {a : Val} {x : V} {P : Bool → Prop} (st : StOk c dr H0 F H e σ) (o : Opd c dr F e σ a x) (h : (isNV a).Post P) : P (decide (x = .non)) := by
  unfold isNV at h
  split at h
  · rw [o.non st]
    exact h
  · rename_i d hd
    have r := o.rp st
    have ne : x ≠ .non := fun z => by
      subst z
      cases r
      exact hd rfl
    rw [decide_eq_false ne]
    exact h
  · exact h.elim
end
end Ev

/-! What a loop walks, by data. -/
namespace Ev
open PySem PySem.Spec PyProof.Rows L2

inductive Kd where
  | l | t
/-- a list or a tuple at a -/
def Sq (H : Hp) : Kd → Addr → List V → Prop
  | .l, a, xs => H a = some (.lst xs)
  | .t, a, xs => H a = some (.tup xs)
def AtIt (h : Heap) (it a : Addr) (i : Nat) : Kd → Prop
  | .l => h.IsListIter it a i
  | .t => h.IsTupleIter it a i
def IsSq (h : Heap) (a : Addr) (its : Array Value) : Kd → Prop
  | .l => h.IsList a its
  | .t => h.IsTuple a its
theorem AtIt.at' {h h' : Heap} {it a : Addr} {i : Nat} : ∀ {k : Kd}, AtIt h it a i k → (∀ o, h.get? it = some o → h'.get? it = some o) → AtIt h' it a i k
  | .l, st, k => Heap.IsListIter.at st k
  | .t, st, k => Heap.IsTupleIter.at st k
theorem AtIt.some {h : Heap} {it a : Addr} {i : Nat} : ∀ {k : Kd}, AtIt h it a i k → ∃ o, h.get? it = some o ∧ ∀ v, o.data ≠ .cell v
  | .l, ⟨o, e, _, d⟩ => ⟨o, e, fun v z => by rw [d] at z; cases z⟩
  | .t, ⟨o, e, _, d⟩ => ⟨o, e, fun v z => by rw [d] at z; cases z⟩
section
variable {X : Cx} {pins : List (Addr × Obj)} {σ : L2.St} {H : Hp} {s : Shared}
theorem sq_items (I : Inv X pins σ H s) {a : Addr} {xs : List V} : ∀ {k : Kd}, Sq H k a xs → ∃ its : List Value, Vals xs its ∧ IsSq s.heap a its.toArray k ∧ xs.length ≤ sizeLine
  | .l, h => by
    obtain ⟨hz, its, n, rv, eo⟩ := (show ObjOk X.prog X.w H s.heap a (.lst xs) from I.hok a _ h)
    exact ⟨its, rv, ⟨_, eo, rfl, _, rfl⟩, hz⟩
  | .t, h => by
    obtain ⟨hz, its, rv, o, h1, h2, n, h3⟩ := (show ObjOk X.prog X.w H s.heap a (.tup xs) from I.hok a _ h)
    exact ⟨its, rv, ⟨o, h1, h2, n, h3⟩, hz⟩
theorem sq_lt {h : Heap} {a : Addr} {its : Array Value} : ∀ {k : Kd}, IsSq h a its k → a < h.objs.size
  | .l, ⟨_, e, _⟩ => Heap.lt_size e
  | .t, ⟨_, e, _⟩ => Heap.lt_size e
theorem sq_draws {prog : Program} {w : World} {A : Around} (hh : A.handled = none) (it a : Addr) (hne : a ≠ it) (items : Array Value) : ∀ k : Kd, Draws prog w A it [it, a] items.size (fun i v => items[i]? = some v) (fun i h => AtIt h it a i k ∧ IsSq h a items k)
  | .l => Draws.list hh it a hne items
  | .t => Draws.tuple hh it a hne items
def itO (a : Addr) : Kd → Obj
  | .l => { cls := .type "list_iterator", data := .fields #[.ref a, .int 0 0] }
  | .t => { cls := .type "tuple_iterator", data := .fields #[.ref a, .int 0 0] }
theorem sq_begins (a : Addr) (items : Array Value) : ∀ k : Kd, Begins (.ref a) (itO a k) fun h => IsSq h a items k
  | .l => begins_list a items
  | .t => begins_tuple a items
theorem sq_at0 {h : Heap} {it a : Addr} : ∀ {k : Kd}, h.get? it = some (itO a k) → AtIt h it a 0 k
  | .l, e => ⟨_, e, rfl, rfl⟩
  | .t, e => ⟨_, e, rfl, rfl⟩
end
/-- what a turn hands out: a datum, or a new tuple of data -/
def Yl (F H : Hp) (v : V) (H' : Hp) (d : D) : Prop := (H' = H ∧ Rp F v d) ∨ ∃ p ts ds, v = .ref p ∧ H p = none ∧ H' = upd H p (.tup ts) ∧ d = .tuple ds ∧ Rps F ts ds
/-- J walks the data ds as long as the part F0 stands -/
def Walk (F0 : Hp) (J : It) (ds : List D) : Prop := ∀ (i : Nat) (H : Hp), Le F0 H → (∀ d, ds[i]? = some d → J.go i H ∧ ∀ v H', J.yld i H v H' → Yl F0 H v H' d) ∧ (ds.length = i → J.stop i H)
section
variable {F : Hp} {K : PySem.W.Frag} {a : Addr} {xs : List V} {ds : List D}
theorem nextOf {F : Hp} : ∀ {xs : List V} {ds : List D} {i : Nat} {d : D}, Rps F xs ds → ds[i]? = some d → ∃ v, xs[i]? = some v ∧ Rp F v d := fun r h => dps_get r h
theorem walk_list (h : F a = some (.lst xs)) (r : Rps F xs ds) : Walk F (Itl K a) ds := fun i H l => ⟨fun d hd => by
    obtain ⟨v, e, rv⟩ := dps_get r hd
    have hs : SqL K H a xs := .inl (.inl (l _ _ h))
    refine ⟨⟨xs, v, hs, e⟩, fun u H' y => .inl ⟨y.1, ?_⟩⟩
    have e2 := y.2 xs hs
    rw [e] at e2
    cases e2
    exact rv, fun hl => ⟨xs, .inl (.inl (l _ _ h)), by rw [dps_len r, hl]; exact Nat.le_refl _⟩⟩
theorem walk_tup (h : F a = some (.tup xs)) (r : Rps F xs ds) : Walk F (Itt K a) ds := fun i H l => ⟨fun d hd => by
    obtain ⟨v, e, rv⟩ := dps_get r hd
    have hs : SqT K H a xs := .inl (.inl (l _ _ h))
    refine ⟨⟨xs, v, hs, e⟩, fun u H' y => .inl ⟨y.1, ?_⟩⟩
    have e2 := y.2 xs hs
    rw [e] at e2
    cases e2
    exact rv, fun hl => ⟨xs, .inl (.inl (l _ _ h)), by rw [dps_len r, hl]; exact Nat.le_refl _⟩⟩
theorem rng_get : ∀ (n : Nat) (lo : Int) (i : Nat) (d : D), (rngFrom lo n)[i]? = some d → i < n ∧ d = .int (lo + i)
  | 0, _, i, _, h => by simp [rngFrom] at h
  | n + 1, lo, 0, d, h => by
    have h : some (PyData.int lo) = some d := h
    cases h
    exact ⟨Nat.succ_pos _, by simp⟩
  | n + 1, lo, i + 1, d, h => by
    obtain ⟨h1, h2⟩ := rng_get n (lo + 1) i d (by simpa [rngFrom] using h)
    refine ⟨by omega, ?_⟩
    rw [h2]
    congr 1
    omega
theorem rng_len : ∀ (n : Nat) (lo : Int), (rngFrom lo n).length = n
  | 0, _ => rfl
  | n + 1, lo => by simp [rngFrom, rng_len n]
theorem walk_rng (lo : Int) (n : Nat) : Walk F (Itr lo n) (rngFrom lo n) := fun i H _ => ⟨fun d hd => by
    obtain ⟨h1, h2⟩ := rng_get n lo i d hd
    refine ⟨h1, fun v H' y => .inl ⟨y.1, ?_⟩⟩
    rw [h2, y.2]
    exact .int _, fun hl => by rw [rng_len] at hl; exact Nat.le_of_eq hl⟩
end
/-- a list or a tuple, walked -/
theorem pi_seq {X : Cx} {tg l : Expr} {tl : TE} (hl : PE X l tl) : PI X tg l (fun σ H R => tl σ H fun x H1 => ∃ a, x = .ref a ∧ ((∃ xs, H1 a = some (.lst xs)) ∧ R (Itl X.K a) H1 ∨ (∃ xs, H1 a = some (.tup xs)) ∧ R (Itt X.K a) H1)) := by
  refine ⟨fun pins s σ H R I h => ?_⟩
  refine thn (hl.run pins s σ H _ I h) fun v s1 ⟨x, H1, I1, r1, q1⟩ => ?_
  have new : ∀ b ∈ [s1.heap.objs.size], FpOk X pins H1 b := fun b hb => by
    have e : b = s1.heap.objs.size := List.mem_singleton.mp hb
    rw [e]
    exact I1.fpOk (Nat.le_refl _) (I1.hok.fresh (Nat.le_refl _))
  obtain ⟨a, rfl, q⟩ := q1
  cases r1
  rcases q with ⟨⟨xs, hq⟩, q⟩ | ⟨⟨xs, hq⟩, q⟩
  · obtain ⟨its, rv, p, _⟩ := sq_items (k := .l) I1 hq
    exact wpAny_pyIter_list p ⟨_, [s1.heap.objs.size], _, _, H1, rfl, I1.kept (t' := s1.toks) fun b o e => Heap.get?_push_of_some _ e, turn_list a _, ⟨_, Heap.get?_push_size _ rfl, rfl, rfl⟩, new, q⟩
  · obtain ⟨its, rv, p, _⟩ := sq_items (k := .t) I1 hq
    exact wpAny_pyIter_tuple p ⟨_, [s1.heap.objs.size], _, _, H1, rfl, I1.kept (t' := s1.toks) fun b o e => Heap.get?_push_of_some _ e, turn_tuple a _, ⟨_, Heap.get?_push_size _ rfl, rfl, rfl⟩, new, q⟩

/-! ### enumerate -/
/-- the items xs, each in a new pair -/
def JEnum (k : Kd) (a : Addr) (xs : List V) : It :=
  ⟨fun i H => i < xs.length ∧ Sq H k a xs, fun i H v H' => ∃ T x, v = .ref T ∧ H T = none ∧ H' = upd H T (.tup [.int (i : Nat), x]) ∧ xs[i]? = some x, fun i H => xs.length = i ∧ Sq H k a xs⟩
theorem turn_enumK {P : Program} {w : World} {K : PySem.W.Frag} {elts : List Expr} {kk : Nat} {tpos : Pos} (k : Kd) (a : Addr) (xs : List V) (e it : Addr) (hai : a ≠ it) (hae : e ≠ a) :
    Turn P w K (.Tuple elts kk tpos) (JEnum k a xs) [e, it] e (fun i h => (∃ old, IsEnum h e it ((i : Nat) : Int) old) ∧ AtIt h it a i k ∧ e ≠ it) where
  mem := by simp
  obj := fun i h st b hb => by
    obtain ⟨⟨old, he⟩, hi, _⟩ := st
    have e' : b = e ∨ b = it := by simpa using hb
    rcases e' with z | z
    · rw [z]; exact ⟨_, he, fun v q => nomatch q⟩
    · rw [z]; exact hi.some
  keep := fun i h h' st kp => ⟨st.1.imp fun _ he => kp e (by simp) _ he, st.2.1.at' fun o q => kp it (by simp) o q, st.2.2⟩
  item := by
    intro X hP hw hK hc i pins s σ H E I hf st hg
    subst hP hw hK
    obtain ⟨⟨old, he⟩, hit, hne⟩ := st
    obtain ⟨hi, hq⟩ := hg
    obtain ⟨its, rv, p, hz⟩ := sq_items I hq
    have hl := rv.length
    have G := GoesN.enumFrom (prog := X.prog) (w := X.w) (A := X.A) (elts := elts) (x1 := kk) (pos := tpos) 0 (sq_draws (A := X.A.in1) (I.ok.hd hc) it a hai its.toArray k) e hne (by simp [hne, hae]) (by simp)
    refine G.goes i s (fun u s2 => ∃ x H', Inv X pins σ H' s2 ∧ RelV x u ∧ (JEnum k a xs).yld i H x H' ∧ ((∃ old, IsEnum s2.heap e it ((i + 1 : Nat) : Int) old) ∧ AtIt s2.heap it a (i + 1) k ∧ e ≠ it) ∧ ∀ b ∈ [e, it], H' b = none) E (by rw [List.size_toArray, ← hl]; exact hi) ⟨⟨old, by rw [Int.zero_add]; exact he⟩, hit, p⟩ fun v h' tk hY hst hk _ => ?_
    obtain ⟨T, t, x, rfl, hT, hx, hTup⟩ := hY
    obtain ⟨⟨old', he'⟩, hit', _⟩ := hst
    have hx' : its[i]? = some x := by simpa using hx
    have hlt : i < xs.length := hi
    obtain ⟨x0, hx0⟩ : ∃ x0, xs[i]? = some x0 := ⟨xs[i], List.getElem?_eq_getElem hlt⟩
    obtain ⟨u, hu, ru⟩ := rv.get hx0
    rw [hx'] at hu
    cases hu
    have new : ObjOk X.prog X.w (upd H T (.tup [.int (i : Nat), x0])) h' T (.tup [.int (i : Nat), x0]) := by
      refine ⟨by show 2 ≤ sizeLine; decide, [.int (0 + (i : Int)) t, x], .cons ⟨_, by rw [Int.zero_add]⟩ (.cons ru .nil), ?_⟩
      exact hTup
    have I1 : Inv X pins σ (upd H T (.tup [.int (i : Nat), x0])) { s with heap := h', toks := tk } := I.turnedNew (ch := [e, it]) hk hf hT new
    refine ⟨.ref T, _, I1, rfl, ⟨T, x0, rfl, I.hok.fresh hT, rfl, hx0⟩, ⟨⟨old', ?_⟩, hit', hne⟩, fun b hb => ?_⟩
    · have e1 : ((i + 1 : Nat) : Int) = 0 + ((i + 1 : Nat) : Int) := by omega
      rw [e1]; exact he'
    · have hb' : b < s.heap.objs.size := by
        have e' : b = e ∨ b = it := by simpa using hb
        rcases e' with z | z
        · rw [z]; exact Heap.lt_size he
        · rw [z]
          obtain ⟨o, q, _⟩ := hit.some
          exact Heap.lt_size q
      rw [upd_ne (Nat.ne_of_lt (Nat.lt_of_lt_of_le hb' hT))]
      exact (hf b hb).1
  done := by
    intro X hP hw hK hc i pins s σ H E I hf st hg
    subst hP hw hK
    obtain ⟨⟨old, he⟩, hit, hne⟩ := st
    obtain ⟨rfl, hq⟩ := hg
    obtain ⟨its, rv, p, hz⟩ := sq_items I hq
    have hl := rv.length
    have G := GoesN.enumFrom (prog := X.prog) (w := X.w) (A := X.A) (elts := elts) (x1 := kk) (pos := tpos) 0 (sq_draws (A := X.A.in1) (I.ok.hd hc) it a hai its.toArray k) e hne (by simp [hne, hae]) (by simp)
    have hn : its.toArray.size = xs.length := by rw [List.size_toArray]; exact hl.symm
    refine G.stops s (fun s1 => Inv X pins σ H s1) E ?_ fun h' tk hk _ => I.turnedL (ch := [e, it]) hk hf
    rw [hn]
    exact ⟨⟨old, by rw [Int.zero_add]; exact he⟩, hit, p⟩
  self := fun A i s Q E st h => let ⟨⟨_, he⟩, _⟩ := st; wpAny_pyIter_enum he h

theorem enum_new1 {v : Value} {o : Obj} {H : Heap → Prop} (B : Begins v o H) :
    Meets (Builtin.«enumerate.__new__» ⟨[.type "enumerate", v], []⟩) (fun _ R s => H s.heap ∧
      R (.ok (.ret (.ref (s.heap.push o).objs.size))) { s with heap := (s.heap.push o).push { cls := .type "enumerate", data := .fields #[.none, .bool false, .ref s.heap.objs.size, rawInt 0, .none, .none] } }) :=
  .of_wp fun prog w A R s h => by
    obtain ⟨hp, g, d, tk, os⟩ := s; obtain ⟨h1, h⟩ := h
    have hsub := sub_enumerate
    have q1 : ∀ {A' : Around} {E : Value → Shared → Prop} {Q : Value → Shared → Prop}, Q (.ref hp.objs.size) ⟨hp.push o, g, d, tk, os⟩ → wpAny (model prog w) A' (pyIter v) Q E ⟨hp, g, d, tk, os⟩ :=
      fun q => B.iter prog w _ _ ⟨hp, g, d, tk, os⟩ _ h1 q
    wp_walk using q1
    refine wpAny_stack_any fun st => wpAny_pure ?_
    split
    · rename_i c _ _ _ _ _
      cases (c == Value.type "enumerate")
      · wp_walk using q1
        exact ⟨_, rfl, h⟩
      · wp_walk using q1
        exact ⟨_, rfl, h⟩
    · wp_walk using q1
      exact ⟨_, rfl, h⟩

section
variable {prog : Program} {w : World} {A : Around} {E : Value → Shared → Prop} {s : Shared}
theorem enum_begins1 {v : Value} {o : Obj} {H : Heap → Prop} {Q : Value → Shared → Prop} (B : Begins v o H) (h1 : H s.heap)
    (h : ∀ h', IsEnum h' (s.heap.objs.size + 1) s.heap.objs.size 0 .none → h'.get? s.heap.objs.size = some o → (∀ b u, s.heap.get? b = some u → h'.get? b = some u) → Q (.ref (s.heap.objs.size + 1)) { s with heap := h' }) :
    wpAny (model prog w) A (call (.type "enumerate") [v]) Q E s := by
  refine callType_new F.called_enumerate (by decide) (F.typeCall_enumerate_1 _) (F.newCall_enumerate_1 _) (fun obj => F.args_object_init_2 obj _) F.entry_enumerate_new (enum_new1 B) ⟨h1, ?_⟩
  have hz : (s.heap.push o).objs.size = s.heap.objs.size + 1 := Heap.size_push ..
  show _ ∧ _
  rw [hz]
  generalize hob : ({ cls := .type "enumerate", data := .fields #[.none, .bool false, .ref s.heap.objs.size, rawInt 0, .none, .none] } : Obj) = ob
  have he : ((s.heap.push o).push ob).get? (s.heap.objs.size + 1) = some ob := by
    rw [← hz]
    exact Heap.get?_push_size _ (by rw [← hob]; rfl)
  rw [← hob] at he ⊢
  exact ⟨⟨_, he, rfl⟩, h _ he (Heap.get?_push_of_some _ (Heap.get?_push_size _ B.free)) fun b u x => Heap.get?_push_of_some _ (Heap.get?_push_of_some _ x)⟩
end
/-- enumerate(e), e a list or a tuple -/
theorem pi_enumK {X : Cx} {e : Expr} {te : TE} {p pos tpos : Pos} {elts : List Expr} {kk : Nat} (hg : Gl X "enumerate") (hm : X.mg "enumerate" = none) (he : PE X e te) (hs : starEach [e] X.env = [(false, eval e X.env)]) :
    PI X (.Tuple elts kk tpos) (.Call (.Name "enumerate" p) [e] [] pos) (fun σ H R => te σ H fun x H1 => ∃ k a xs, x = .ref a ∧ Sq H1 k a xs ∧ R (JEnum k a xs) H1) := by
  refine ⟨fun pins s σ H R I h => ?_⟩
  have ha : PA X [e] (tCons te tNil) := pa_cons he pa_nil (by rw [hs]; rfl)
  refine Call_ (ld_blt I hg hm boot_enumerate (PyProof.Rows.callWith_type1 (thn (ha.run pos pins s σ H (fun vs H1 => match vs with | [x] => ∃ k a xs, x = V.ref a ∧ Sq H1 k a xs ∧ R (JEnum k a xs) H1 | _ => False) I ?_) fun us s1 ⟨vs, H1, I1, r1, q1⟩ => ?_) hs rfl))
  · exact h
  · obtain ⟨x0, rfl⟩ : ∃ x0, vs = [x0] := by
      match vs, q1 with
      | [x0], _ => exact ⟨x0, rfl⟩
      | [], q => exact q.elim
      | _ :: _ :: _, q => exact q.elim
    obtain ⟨k, a, xs, rfl, hq, q⟩ := q1
    obtain ⟨u, rfl, ru⟩ := vals1 r1
    cases ru
    obtain ⟨its, rv, p', hz⟩ := sq_items I1 hq
    have hlt := sq_lt p'
    refine enum_begins1 (sq_begins a its.toArray k) p' fun h' hE hit hk => wpAny_pyIter_enum hE ?_
    have I2 : Inv X pins σ H1 { s1 with heap := h' } := I1.kept (t' := s1.toks) hk
    refine ⟨s1.heap.objs.size + 1, [s1.heap.objs.size + 1, s1.heap.objs.size], _, _, H1, rfl, I2, turn_enumK k a xs (s1.heap.objs.size + 1) s1.heap.objs.size (Nat.ne_of_lt hlt) (Nat.ne_of_gt (Nat.lt_succ_of_lt hlt)), ⟨⟨.none, hE⟩, sq_at0 hit, Nat.succ_ne_self _⟩, fun b hb => ?_, q⟩
    have hle : s1.heap.objs.size ≤ b := by
      rcases List.mem_cons.mp hb with z | z
      · rw [z]; exact Nat.le_succ _
      · rw [List.mem_singleton.mp z]; exact Nat.le_refl _
    exact I1.fpOk hle (I1.hok.fresh hle)
theorem enum_get : ∀ (ds : List D) (lo : Int) (i : Nat) (d : D), (enumFrom lo ds)[i]? = some d → ∃ x, ds[i]? = some x ∧ d = .tuple [.int (lo + i), x]
  | [], _, i, _, h => by simp [enumFrom] at h
  | x :: r, lo, 0, d, h => by
    have h : some (PyData.tuple [.int lo, x]) = some d := h
    cases h
    exact ⟨x, rfl, by simp⟩
  | x :: r, lo, i + 1, d, h => by
    obtain ⟨y, h1, h2⟩ := enum_get r (lo + 1) i d (by simpa [enumFrom] using h)
    refine ⟨y, by simpa using h1, ?_⟩
    rw [h2]
    congr 3
    omega
theorem enum_len : ∀ (ds : List D) (lo : Int), (enumFrom lo ds).length = ds.length
  | [], _ => rfl
  | x :: r, lo => by simp [enumFrom, enum_len r]
theorem walk_enum {F : Hp} {k : Kd} {a : Addr} {xs : List V} {ds : List D} (h : Sq F k a xs) (r : Rps F xs ds) : Walk F (JEnum k a xs) (enumFrom 0 ds) := fun i H l => by
  have hH : Sq H k a xs := by
    cases k with
    | l => exact l _ _ h
    | t => exact l _ _ h
  refine ⟨fun d hd => ?_, fun hl => ⟨by rw [enum_len] at hl; rw [dps_len r]; exact hl, hH⟩⟩
  obtain ⟨x, h1, h2⟩ := enum_get ds 0 i d hd
  obtain ⟨v, e, rv⟩ := dps_get r h1
  refine ⟨⟨(List.getElem?_eq_some_iff.mp e).1, hH⟩, fun u H' ⟨T, y, e1, e2, e3, e4⟩ => .inr ⟨T, _, _, e1, e2, e3, h2, ?_⟩⟩
  rw [e] at e4
  cases e4
  rw [Int.zero_add]
  exact .cons (.int _) (.cons rv .nil)

/-! ### zip -/
def JZip (k j : Kd) (a b : Addr) (xs ys : List V) : It :=
  ⟨fun i H => i < xs.length ∧ i < ys.length ∧ Sq H k a xs ∧ Sq H j b ys, fun i H v H' => ∃ T x y, v = .ref T ∧ H T = none ∧ H' = upd H T (.tup [x, y]) ∧ xs[i]? = some x ∧ ys[i]? = some y, fun i H => min xs.length ys.length = i ∧ Sq H k a xs ∧ Sq H j b ys⟩
theorem turn_zipK {P : Program} {w : World} {K : PySem.W.Frag} {elts : List Expr} {kk : Nat} {tpos : Pos} (k j : Kd) (a b : Addr) (xs ys : List V) {z TI TO i1 i2 : Addr} (S : ZipSep2 z TI TO i1 i2 [i1, a] [i2, b]) (ha : a ≠ i1) (hb : b ≠ i2) :
    Turn P w K (.Tuple elts kk tpos) (JZip k j a b xs ys) [z, TI, TO, i1, i2] z (fun i h => IsZip h z TI TO .none ∧ IsTupOf2 h TI (.ref i1) (.ref i2) ∧ (∃ a1 a2, IsTupOf2 h TO a1 a2) ∧ AtIt h i1 a i k ∧ AtIt h i2 b i j) where
  mem := by simp
  obj := fun i h st q hq => by
    obtain ⟨hz, hTI, ⟨x, y, hTO⟩, h1, h2⟩ := st
    have e' : q = z ∨ q = TI ∨ q = TO ∨ q = i1 ∨ q = i2 := by simpa using hq
    rcases e' with e | e | e | e | e <;> rw [e]
    · exact ⟨_, hz, fun v q => nomatch q⟩
    · exact ⟨_, hTI, fun v q => nomatch q⟩
    · exact ⟨_, hTO, fun v q => nomatch q⟩
    · exact h1.some
    · exact h2.some
  keep := fun i h h' st kp => by
    obtain ⟨hz, hTI, ⟨x, y, hTO⟩, h1, h2⟩ := st
    exact ⟨kp z (by simp) _ hz, kp TI (by simp) _ hTI, ⟨x, y, kp TO (by simp) _ hTO⟩, h1.at' fun o q => kp i1 (by simp) o q, h2.at' fun o q => kp i2 (by simp) o q⟩
  item := by
    intro X hP hw hK hc i pins s σ H E I hf st hg
    subst hP hw hK
    have live : ∀ q ∈ [z, TI, TO, i1, i2], q < s.heap.objs.size := fun q hq => by
      obtain ⟨hz, hTI, ⟨x, y, hTO⟩, h1, h2⟩ := st
      have e' : q = z ∨ q = TI ∨ q = TO ∨ q = i1 ∨ q = i2 := by simpa using hq
      rcases e' with e | e | e | e | e <;> rw [e]
      · exact Heap.lt_size hz
      · exact Heap.lt_size hTI
      · exact Heap.lt_size hTO
      · obtain ⟨o, q, _⟩ := h1.some
        exact Heap.lt_size q
      · obtain ⟨o, q, _⟩ := h2.some
        exact Heap.lt_size q
    obtain ⟨hi, hj, hq1, hq2⟩ := hg
    obtain ⟨its, rv, p1, _⟩ := sq_items I hq1
    obtain ⟨jts, rw', p2, _⟩ := sq_items I hq2
    have hl := rv.length
    have hm := rw'.length
    have G := GoesN.zip2 (prog := X.prog) (w := X.w) (A := X.A) (elts := elts) (x1 := kk) (pos := tpos) S (sq_draws (A := X.A.in1) (I.ok.hd hc) i1 a ha its.toArray k) (sq_draws (A := X.A.in1) (I.ok.hd hc) i2 b hb jts.toArray j)
    have wr : ∀ q, q ∉ [z, TI, TO, i1, i2] → q ∉ [z, TO, i1, i2] := fun q hq hm => hq (by
      have e' : q = z ∨ q = TO ∨ q = i1 ∨ q = i2 := by simpa using hm
      rcases e' with e | e | e | e <;> simp [e])
    refine G.goes i s (fun u s2 => ∃ x H', Inv X pins σ H' s2 ∧ RelV x u ∧ (JZip k j a b xs ys).yld i H x H' ∧ (IsZip s2.heap z TI TO .none ∧ IsTupOf2 s2.heap TI (.ref i1) (.ref i2) ∧ (∃ a1 a2, IsTupOf2 s2.heap TO a1 a2) ∧ AtIt s2.heap i1 a (i + 1) k ∧ AtIt s2.heap i2 b (i + 1) j) ∧ ∀ q ∈ [z, TI, TO, i1, i2], H' q = none) E
      (by rw [List.size_toArray, List.size_toArray, ← hl, ← hm]; omega) ⟨st.1, st.2.1, st.2.2.1, ⟨st.2.2.2.1, p1⟩, ⟨st.2.2.2.2, p2⟩⟩ fun v h' tk hY hst hk _ => ?_
    obtain ⟨T, x, y, rfl, hT, hx, hy, hTup⟩ := hY
    have hx' : its[i]? = some x := by simpa using hx
    have hy' : jts[i]? = some y := by simpa using hy
    have ex : xs[i]? = some xs[i] := List.getElem?_eq_getElem hi
    have ey : ys[i]? = some ys[i] := List.getElem?_eq_getElem hj
    obtain ⟨u1, hu1, r1⟩ := rv.get ex
    obtain ⟨u2, hu2, r2⟩ := rw'.get ey
    rw [hx'] at hu1
    cases hu1
    rw [hy'] at hu2
    cases hu2
    have new : ObjOk X.prog X.w (upd H T (.tup [xs[i], ys[i]])) h' T (.tup [xs[i], ys[i]]) :=
      ⟨by show 2 ≤ sizeLine; decide, [x, y], .cons r1 (.cons r2 .nil), hTup⟩
    have I1 : Inv X pins σ (upd H T (.tup [xs[i], ys[i]])) { s with heap := h', toks := tk } := I.turnedNew (ch := [z, TI, TO, i1, i2]) (fun b o hb e => hk b o (wr b hb) e) hf hT new
    refine ⟨.ref T, _, I1, rfl, ⟨T, _, _, rfl, I.hok.fresh hT, rfl, ex, ey⟩, ⟨hst.1, hst.2.1, hst.2.2.1, hst.2.2.2.1.1, hst.2.2.2.2.1⟩, fun q hq => ?_⟩
    rw [upd_ne (Nat.ne_of_lt (Nat.lt_of_lt_of_le (live q hq) hT))]
    exact (hf q hq).1
  done := by
    intro X hP hw hK hc i pins s σ H E I hf st hg
    subst hP hw hK
    obtain ⟨rfl, hq1, hq2⟩ := hg
    obtain ⟨its, rv, p1, _⟩ := sq_items I hq1
    obtain ⟨jts, rw', p2, _⟩ := sq_items I hq2
    have hl := rv.length
    have hm := rw'.length
    have G := GoesN.zip2 (prog := X.prog) (w := X.w) (A := X.A) (elts := elts) (x1 := kk) (pos := tpos) S (sq_draws (A := X.A.in1) (I.ok.hd hc) i1 a ha its.toArray k) (sq_draws (A := X.A.in1) (I.ok.hd hc) i2 b hb jts.toArray j)
    have wr : ∀ q, q ∉ [z, TI, TO, i1, i2] → q ∉ [z, TO, i1, i2] := fun q hq hm => hq (by
      have e' : q = z ∨ q = TO ∨ q = i1 ∨ q = i2 := by simpa using hm
      rcases e' with e | e | e | e <;> simp [e])
    have hn : min its.toArray.size jts.toArray.size = min xs.length ys.length := by rw [List.size_toArray, List.size_toArray, ← hl, ← hm]
    refine G.stops s (fun s1 => Inv X pins σ H s1) E ?_ fun h' tk hk _ => I.turnedL (ch := [z, TI, TO, i1, i2]) (fun b o hb e => hk b o (wr b hb) e) hf
    rw [hn]
    exact ⟨st.1, st.2.1, st.2.2.1, ⟨st.2.2.2.1, p1⟩, ⟨st.2.2.2.2, p2⟩⟩
  self := fun A i s Q E st h => wpAny_pyIter_zip st.1 h
/-- zip(e, f) of lists, of tuples, of both -/
theorem pi_zipK {X : Cx} {e f : Expr} {te : TE} {tf : TE} {p pos tpos : Pos} {elts : List Expr} {kk : Nat} (hg : Gl X "zip") (hm : X.mg "zip" = none) (he : PE X e te) (hf : PE X f tf)
    (hs : starEach [e, f] X.env = (false, eval e X.env) :: starEach [f] X.env) (hs2 : starEach [f] X.env = [(false, eval f X.env)]) :
    PI X (.Tuple elts kk tpos) (.Call (.Name "zip" p) [e, f] [] pos) (fun σ H R => te σ H fun x H1 => tf σ H1 fun y H2 => ∃ k j a b xs ys, x = .ref a ∧ y = .ref b ∧ Sq H2 k a xs ∧ Sq H2 j b ys ∧ R (JZip k j a b xs ys) H2) := by
  refine ⟨fun pins s σ H R I h => ?_⟩
  have ha : PA X [e, f] (tCons te (tCons tf tNil)) := pa_cons he (pa_cons hf pa_nil (by rw [hs2]; rfl)) hs
  refine Call_ (ld_blt I hg hm boot_zip (PyProof.Rows.callWith_type1 (thn (ha.run pos pins s σ H (fun vs H2 => match vs with | [x, y] => ∃ k j a b xs ys, x = .ref a ∧ y = .ref b ∧ Sq H2 k a xs ∧ Sq H2 j b ys ∧ R (JZip k j a b xs ys) H2 | _ => False) I ?_) fun us s1 ⟨vs, H1, I1, r1, q1⟩ => ?_) hs (by rw [hs2]; rfl)))
  · exact h
  · obtain ⟨x0, y0, rfl⟩ : ∃ x0 y0, vs = [x0, y0] := by
      match vs, q1 with
      | [x0, y0], _ => exact ⟨x0, y0, rfl⟩
      | [], q => exact q.elim
      | [_], q => exact q.elim
      | _ :: _ :: _ :: _, q => exact q.elim
    obtain ⟨k, j, a, b, xs, ys, rfl, rfl, hq1, hq2, q⟩ := q1
    obtain ⟨u1, u2, rfl, r1, r2⟩ := vals2 r1
    cases r1
    cases r2
    obtain ⟨its, rv, p1, _⟩ := sq_items I1 hq1
    obtain ⟨jts, rw', p2, _⟩ := sq_items I1 hq2
    have hla := sq_lt p1
    have hlb := sq_lt p2
    refine zip_begins2 (sq_begins a its.toArray k) (sq_begins b jts.toArray j) p1 p2 fun h' hz hTI hTO h1 h2 hsz hk => wpAny_pyIter_zip hz ?_
    have I2 : Inv X pins σ H1 { s1 with heap := h' } := I1.kept (t' := s1.toks) hk
    have S : ZipSep2 (s1.heap.objs.size + 4) (s1.heap.objs.size + 2) (s1.heap.objs.size + 3) s1.heap.objs.size (s1.heap.objs.size + 1) [s1.heap.objs.size, a] [s1.heap.objs.size + 1, b] :=
      zip_sep2 (fp1 := [a]) (fp2 := [b]) (fun q hq => by rw [List.mem_singleton.mp hq]; exact hla) (fun q hq => by rw [List.mem_singleton.mp hq]; exact hlb)
    refine ⟨s1.heap.objs.size + 4, [s1.heap.objs.size + 4, s1.heap.objs.size + 2, s1.heap.objs.size + 3, s1.heap.objs.size, s1.heap.objs.size + 1], _, _, H1, rfl, I2, turn_zipK k j a b xs ys S (Nat.ne_of_lt hla) (Nat.ne_of_lt (Nat.lt_succ_of_lt hlb)), ⟨hz, hTI, ⟨_, _, hTO⟩, sq_at0 h1, sq_at0 h2⟩, fun c hc => ?_, q⟩
    have hle : s1.heap.objs.size ≤ c := by
      have e' : c = s1.heap.objs.size + 4 ∨ c = s1.heap.objs.size + 2 ∨ c = s1.heap.objs.size + 3 ∨ c = s1.heap.objs.size ∨ c = s1.heap.objs.size + 1 := by simpa using hc
      rcases e' with z | z | z | z | z <;> rw [z] <;> first | exact Nat.le_refl _ | exact Nat.le_add_right _ _
    exact I1.fpOk hle (I1.hok.fresh hle)
theorem zip_get : ∀ (ds es : List D) (i : Nat) (d : D), (zipD ds es)[i]? = some d → ∃ x y, ds[i]? = some x ∧ es[i]? = some y ∧ d = .tuple [x, y]
  | [], _, i, _, h => by simp [zipD] at h
  | _ :: _, [], i, _, h => by simp [zipD] at h
  | x :: r, y :: s, 0, d, h => by
    have h : some (PyData.tuple [x, y]) = some d := h
    cases h
    exact ⟨x, y, rfl, rfl, rfl⟩
  | x :: r, y :: s, i + 1, d, h => by
    obtain ⟨a, b, h1, h2, h3⟩ := zip_get r s i d (by simpa [zipD] using h)
    exact ⟨a, b, by simpa using h1, by simpa using h2, h3⟩
theorem zip_len : ∀ (ds es : List D), (zipD ds es).length = min ds.length es.length
  | [], _ => by simp [zipD]
  | _ :: _, [] => by simp [zipD]
  | x :: r, y :: s => by simp [zipD, zip_len r s]
theorem walk_zip {F : Hp} {k j : Kd} {a b : Addr} {xs ys : List V} {ds es : List D} (h : Sq F k a xs) (h' : Sq F j b ys) (r : Rps F xs ds) (r' : Rps F ys es) : Walk F (JZip k j a b xs ys) (zipD ds es) := fun i H l => by
  have hH : ∀ {k : Kd} {a : Addr} {xs : List V}, Sq F k a xs → Sq H k a xs := fun {k a xs} h => by
    cases k with
    | l => exact l _ _ h
    | t => exact l _ _ h
  refine ⟨fun d hd => ?_, fun hl => ⟨by rw [zip_len, ← dps_len r, ← dps_len r'] at hl; exact hl, hH h, hH h'⟩⟩
  obtain ⟨x, y, h1, h2, h3⟩ := zip_get ds es i d hd
  obtain ⟨v, e, rv⟩ := dps_get r h1
  obtain ⟨v', e', rv'⟩ := dps_get r' h2
  refine ⟨⟨(List.getElem?_eq_some_iff.mp e).1, (List.getElem?_eq_some_iff.mp e').1, hH h, hH h'⟩, fun u H' ⟨T, y1, y2, e1, e2, e3, e4, e5⟩ => .inr ⟨T, _, _, e1, e2, e3, h3, ?_⟩⟩
  rw [e] at e4
  cases e4
  rw [e'] at e5
  cases e5
  exact .cons rv (.cons rv' .nil)
end Ev

/-! Slots stored, frozen, grown; the readings. -/
namespace Ev
open PySem PySem.Spec PyProof.Rows L2

theorem slot_set : ∀ (e : Env) (i j : Nat) (s : Slot), i < e.length → slotAt (setAt e i s) j = if j = i then s else slotAt e j
  | [], i, _, _, h => by simp at h
  | _ :: r, 0, 0, s, _ => rfl
  | _ :: r, 0, j + 1, s, _ => rfl
  | t :: r, i + 1, 0, s, _ => rfl
  | t :: r, i + 1, j + 1, s, h => by
    show slotAt (setAt r i s) j = _
    rw [slot_set r i j s (by simpa using h)]
    by_cases q : j = i
    · rw [if_pos q, if_pos (by omega)]
    · rw [if_neg q, if_neg (by omega)]
      rfl
theorem set_out : ∀ (e : Env) (i : Nat) (s : Slot), e.length ≤ i → setAt e i s = e
  | [], _, _, _ => rfl
  | _ :: _, 0, _, h => by simp at h
  | t :: r, i + 1, s, h => by
    show t :: setAt r i s = _
    rw [set_out r i s (by simpa using h)]
theorem set_len : ∀ (e : Env) (i : Nat) (s : Slot), (setAt e i s).length = e.length
  | [], _, _ => rfl
  | _ :: _, 0, _ => rfl
  | t :: r, i + 1, s => by simp [setAt, set_len r i s]
theorem slot_lt : ∀ {e : Env} {i : Nat}, slotAt e i ≠ .no → i < e.length
  | [], _, h => absurd rfl h
  | _ :: _, 0, _ => Nat.succ_pos _
  | _ :: r, i + 1, h => Nat.succ_lt_succ (slot_lt (e := r) h)

section
variable {c : Cf} {dr : Option Addr} {H H1 H' F F' H0 : Hp} {e : Env} {σ : L2.St}
theorem sget {σ : L2.St} {i j : Nat} {v : Option V} (h : i < σ.length) : (σ.set i v)[j]? = if j = i then some v else σ[j]? := by
  by_cases q : j = i
  · rw [if_pos q, q, List.getElem?_set_self h]
  · rw [if_neg q, List.getElem?_set_ne (Ne.symm q)]
/-- a store of a value -/
theorem StOk.setV (st : StOk c dr H0 F H e σ) {i : Nat} {x : Val} {v : V} (hi : i < σ.length) (r : VRep c dr F x v) : StOk c dr H0 F H (setAt e i (.v x)) (σ.set i (some v)) := by
  have hi' : i < e.length := by rw [st.len]; exact hi
  refine ⟨st.le, st.nsp, st.ext, st.wd, by rw [set_len, List.length_set]; exact st.len, fun j y h => ?_, fun j y h => ?_, fun j k y z a h1 h2 h3 h4 => ?_⟩
  · rw [slot_set e i j _ hi'] at h
    rw [sget hi]
    by_cases q : j = i
    · rw [if_pos q] at h
      cases h
      exact ⟨v, by rw [if_pos q], r⟩
    · rw [if_neg q] at h
      rw [if_neg q]
      exact st.val j y h
  · rw [slot_set e i j _ hi'] at h
    rw [sget hi]
    by_cases q : j = i
    · rw [if_pos q] at h
      cases h
    · rw [if_neg q] at h
      rw [if_neg q]
      exact st.own j y h
  · rw [slot_set e i _ _ hi'] at h1 h2
    rw [sget hi] at h3 h4
    by_cases q : j = i
    · rw [if_pos q] at h1
      cases h1
    · by_cases p : k = i
      · rw [if_pos p] at h2
        cases h2
      · rw [if_neg q] at h1 h3
        rw [if_neg p] at h2 h4
        exact st.inj j k y z a h1 h2 h3 h4
/-- a store of a new list -/
theorem StOk.setO (st : StOk c dr H0 F H e σ) {Hs : Hp} {i : Nat} {x : Val} {v : V} (hi : i < σ.length) (x0 : Ext c dr H0 Hs) (r : RRep c dr Hs F H e σ (.o x) v) : StOk c dr H0 F H (setAt e i (.o x)) (σ.set i (some v)) := by
  have r := r.back x0
  obtain ⟨a, rfl, fa, na, ha, r, ns⟩ := r
  have hi' : i < e.length := by rw [st.len]; exact hi
  refine ⟨st.le, st.nsp, st.ext, st.wd, by rw [set_len, List.length_set]; exact st.len, fun j y h => ?_, fun j y h => ?_, fun j k y z b h1 h2 h3 h4 => ?_⟩
  · rw [slot_set e i j _ hi'] at h
    rw [sget hi]
    by_cases q : j = i
    · rw [if_pos q] at h
      cases h
    · rw [if_neg q] at h
      rw [if_neg q]
      exact st.val j y h
  · rw [slot_set e i j _ hi'] at h
    rw [sget hi]
    by_cases q : j = i
    · rw [if_pos q] at h
      cases h
      exact ⟨a, by rw [if_pos q], fa, na, ha, r⟩
    · rw [if_neg q] at h
      rw [if_neg q]
      exact st.own j y h
  · rw [slot_set e i _ _ hi'] at h1 h2
    rw [sget hi] at h3 h4
    by_cases q : j = i
    · by_cases p : k = i
      · rw [q, p]
      · rw [if_neg p] at h2 h4
        rw [if_pos q] at h3
        cases h3
        exact absurd h4 (ns k z h2)
    · rw [if_neg q] at h1 h3
      by_cases p : k = i
      · rw [if_pos p] at h4
        cases h4
        exact absurd h3 (ns j y h1)
      · rw [if_neg p] at h2 h4
        exact st.inj j k y z b h1 h2 h3 h4
/-- a slot forgotten -/
theorem StOk.setN (st : StOk c dr H0 F H e σ) (i : Nat) (v : Option V) : StOk c dr H0 F H (setAt e i .no) (σ.set i v) := by
  by_cases hi : i < σ.length
  · have hi' : i < e.length := by rw [st.len]; exact hi
    refine ⟨st.le, st.nsp, st.ext, st.wd, by rw [set_len, List.length_set]; exact st.len, fun j y h => ?_, fun j y h => ?_, fun j k y z b h1 h2 h3 h4 => ?_⟩
    · rw [slot_set e i j _ hi'] at h
      rw [sget hi]
      by_cases q : j = i
      · rw [if_pos q] at h
        cases h
      · rw [if_neg q] at h
        rw [if_neg q]
        exact st.val j y h
    · rw [slot_set e i j _ hi'] at h
      rw [sget hi]
      by_cases q : j = i
      · rw [if_pos q] at h
        cases h
      · rw [if_neg q] at h
        rw [if_neg q]
        exact st.own j y h
    · rw [slot_set e i _ _ hi'] at h1 h2
      rw [sget hi] at h3 h4
      by_cases q : j = i
      · rw [if_pos q] at h1
        cases h1
      · by_cases p : k = i
        · rw [if_pos p] at h2
          cases h2
        · rw [if_neg q] at h1 h3
          rw [if_neg p] at h2 h4
          exact st.inj j k y z b h1 h2 h3 h4
  · rw [set_out e i _ (by rw [st.len]; omega), List.set_eq_of_length_le (by omega)]
    exact st
theorem StOk.wipe (st : StOk c dr H0 F H e σ) : ∀ own : List Nat, StOk c dr H0 F H (wipeE e own) (L2.wipe σ own)
  | [] => st
  | i :: is => (st.wipe is).setN i none
theorem StOk.frzS (st : StOk c dr H0 F H e σ) {i : Nat} {x : Val} {a : Addr} {ho : HO} (hx : slotAt e i = .o x) (h1 : σ[i]? = some (some (.ref a))) (h2 : F a = none) (h3 : ¬ Spc c dr a) (h4 : H0 a = none) (e1 : H a = some ho) (t : NTb ho) (rp : VRep c dr (upd F a ho) x (.ref a)) :
    ∃ F', Le F F' ∧ (∀ b, (H0 b ≠ none ∨ Spc c dr b) → F' b = F b) ∧ StOk c dr H0 F' H (setAt e i (.v x)) σ := by
  have hi : i < e.length := slot_lt (by rw [hx]; exact fun z => nomatch z)
  have ni : ∀ b, (H0 b ≠ none ∨ Spc c dr b) → b ≠ a := fun b hb z => by
    rcases hb with hb | hb
    · exact hb (by rw [z]; exact h4)
    · exact h3 (by rw [← z]; exact hb)
  refine ⟨upd F a ho, le_upd h2, fun b hb => upd_ne (ni b hb), ?_, ?_, st.ext, st.wd.mono (le_upd h2) (nf_upd st.wd.nf t), by rw [set_len]; exact st.len, fun j y h => ?_, fun j y h => ?_, fun j k y z b k1 k2 k3 k4 => ?_⟩
  · intro b o hb
    by_cases z : b = a
    · subst z
      rw [upd_same] at hb
      rw [e1]
      exact hb
    · rw [upd_ne z] at hb
      exact st.le b o hb
  · intro b s
    rw [upd_ne (fun z => h3 (by rw [← z]; exact s))]
    exact st.nsp b s
  · rw [slot_set e i j _ hi] at h
    by_cases q : j = i
    · rw [if_pos q] at h
      cases h
      exact ⟨.ref a, by rw [q]; exact h1, rp⟩
    · rw [if_neg q] at h
      obtain ⟨v, k1, k2⟩ := st.val j y h
      exact ⟨v, k1, vrep_mono (le_upd h2) k2⟩
  · rw [slot_set e i j _ hi] at h
    by_cases q : j = i
    · rw [if_pos q] at h
      cases h
    · rw [if_neg q] at h
      obtain ⟨b, k1, k2, k3, k4, k5⟩ := st.own j y h
      have ne : b ≠ a := fun z => q (st.inj j i y _ a h hx (by rw [k1, z]) h1)
      exact ⟨b, k1, by rw [upd_ne ne]; exact k2, k3, k4, orep_mono (le_upd h2) k5 rfl⟩
  · rw [slot_set e i _ _ hi] at k1 k2
    by_cases q : j = i
    · rw [if_pos q] at k1
      cases k1
    · by_cases p : k = i
      · rw [if_pos p] at k2
        cases k2
      · rw [if_neg q] at k1
        rw [if_neg p] at k2
        exact st.inj j k y z b k1 k2 k3 k4
/-- what a slot alone held is given to the part that stays -/
theorem StOk.freeze1 (st : StOk c dr H0 F H e σ) (i : Nat) : ∃ F', Le F F' ∧ (∀ b, (H0 b ≠ none ∨ Spc c dr b) → F' b = F b) ∧ StOk c dr H0 F' H (freeze1 e i) σ := by
  unfold Ev.freeze1
  split
  · rename_i x hx
    obtain ⟨a, h1, h2, h3, h4, h5⟩ := st.own i x hx
    cases x with
    | d x =>
      obtain ⟨ds, xs, rfl, e1, e2⟩ := h5
      exact st.frzS hx h1 h2 h3 h4 e1 (fun _ z => nomatch z) (Rp.lst upd_same (dps_mono (le_upd h2) _ _ e2))
    | dct kvs =>
      obtain ⟨o, e1, e2⟩ := h5
      exact st.frzS hx h1 h2 h3 h4 e1 (fun _ z => nomatch z) ⟨a, o, rfl, upd_same, dn_mono (le_upd h2) e2⟩
    | kd l =>
      obtain ⟨o, e1, e2⟩ := h5
      exact st.frzS hx h1 h2 h3 h4 e1 (fun _ z => nomatch z) ⟨a, o, rfl, upd_same, krep_mono (le_upd h2) e2⟩
    | row => exact h5.elim
  · exact ⟨F, Le.refl _, fun _ _ => rfl, st⟩
theorem StOk.freeze : ∀ (is : List Nat) {F : Hp} {e : Env} (st : StOk c dr H0 F H e σ), ∃ F', Le F F' ∧ (∀ b, (H0 b ≠ none ∨ Spc c dr b) → F' b = F b) ∧ StOk c dr H0 F' H (freeze e is) σ
  | [], F, _, st => ⟨F, Le.refl _, fun _ _ => rfl, st⟩
  | i :: is, _, _, st => by
    obtain ⟨F1, l1, n1, st1⟩ := st.freeze1 i
    obtain ⟨F2, l2, n2, st2⟩ := StOk.freeze is st1
    exact ⟨F2, l1.trans l2, fun b hb => (n2 b hb).trans (n1 b hb), st2⟩
/-- what a slot alone holds is changed in place -/
theorem StOk.putH (st : StOk c dr H0 F H e σ) {i : Nat} {x x' : Val} {a : Addr} {ho : HO} (hi : slotAt e i = .o x) (ha : σ[i]? = some (some (.ref a))) (r : ORep c F (upd H a ho) x' a) : StOk c dr H0 F (upd H a ho) (setAt e i (.o x')) σ := by
  obtain ⟨b, h1, h2, h3, h4, h5⟩ := st.own i _ hi
  rw [ha] at h1
  cases h1
  have hl : i < e.length := slot_lt (by rw [hi]; exact fun z => nomatch z)
  refine ⟨fun b o hb => ?_, st.nsp, ⟨fun b o hb n t => ?_, fun b ps hb => ?_⟩, wd_upd st.wd h3 (orep_chg h5), by rw [set_len]; exact st.len, fun j y h => ?_, fun j y h => ?_, fun j k y z b k1 k2 k3 k4 => ?_⟩
  · rw [upd_ne (ne_of_none hb h2)]
    exact st.le b o hb
  · rw [upd_ne (ne_of_none hb h4)]
    exact st.ext.at' b o hb n t
  · rw [upd_ne (ne_of_none hb h4)]
    exact st.ext.tb b ps hb
  · rw [slot_set e i j _ hl] at h
    by_cases q : j = i
    · rw [if_pos q] at h
      cases h
    · rw [if_neg q] at h
      exact st.val j y h
  · rw [slot_set e i j _ hl] at h
    by_cases q : j = i
    · rw [if_pos q] at h
      cases h
      exact ⟨a, by rw [q]; exact ha, h2, h3, h4, r⟩
    · rw [if_neg q] at h
      obtain ⟨b, k1, k2, k3, k4, k5⟩ := st.own j y h
      have ne : b ≠ a := fun z => q (st.inj j i y _ a h hi (by rw [k1, z]) ha)
      exact ⟨b, k1, k2, k3, k4, orep_mono (Le.refl _) k5 (upd_ne ne)⟩
  · rw [slot_set e i _ _ hl] at k1 k2
    have own' : ∀ j y, (if j = i then Slot.o x' else slotAt e j) = .o y → ∃ y', slotAt e j = .o y' := fun j y h => by
      by_cases q : j = i
      · rw [q]
        exact ⟨_, hi⟩
      · rw [if_neg q] at h
        exact ⟨_, h⟩
    obtain ⟨y', k1⟩ := own' j y k1
    obtain ⟨z', k2⟩ := own' k z k2
    exact st.inj j k y' z' b k1 k2 k3 k4
theorem StOk.put (st : StOk c dr H0 F H e σ) {i : Nat} {l l' : List D} {a : Addr} {ys : List V} (hi : slotAt e i = .o (.d (.list l))) (ha : σ[i]? = some (some (.ref a))) (r : Rps F ys l') : StOk c dr H0 F (upd H a (.lst ys)) (setAt e i (.o (.d (.list l')))) σ :=
  st.putH hi ha ⟨_, _, rfl, upd_same, r⟩
end

/-! ### the readings -/
section
variable (c : Cf) (dr : Option Addr) (H0 : Hp)
def tE (f : Env → R RV) : TE := fun σ H Q => ∃ F e, StOk c dr H0 F H e σ ∧ (f e).Post (Then c dr H0 F H e σ Q)
def tT (f : Env → R Bool) : TT := fun σ H Q => ∃ F e, StOk c dr H0 F H e σ ∧ (f e).Post fun b => ∀ F' H', Gr c dr F H F' H' → StOk c dr H0 F' H' e σ → Q b H'
def tL (f : Env → R (List Val)) : TA := fun σ H Q => ∃ F e, StOk c dr H0 F H e σ ∧ (f e).Post fun xs => ∀ F' H' vs, Gr c dr F H F' H' → StOk c dr H0 F' H' e σ → VReps c dr F' xs vs → Q vs H'
def tD (f : Env → R (List D)) : TA := fun σ H Q => ∃ F e, StOk c dr H0 F H e σ ∧ (f e).Post fun xs => ∀ F' H' vs, Gr c dr F H F' H' → StOk c dr H0 F' H' e σ → Rps F' vs xs → Q vs H'
def tO (f : Env → R (Option Int)) : TO := fun σ H Q => ∃ F e, StOk c dr H0 F H e σ ∧ (f e).Post fun o => ∀ F' H', Gr c dr F H F' H' → StOk c dr H0 F' H' e σ → Q o H'
def tI (f : Env → R (List D)) : TI := fun σ H R => ∃ F e, StOk c dr H0 F H e σ ∧ (f e).Post fun ds => ∀ F' H' J, Gr c dr F H F' H' → StOk c dr H0 F' H' e σ → Walk F' J ds → R J H'
/-- what may be stored -/
def Sto (Hs F H : Hp) (e : Env) (σ : L2.St) : RV → V → Prop
  | .v x, v => VRep c dr F x v
  | .o x, v => RRep c dr Hs F H e σ (.o x) v
  | .b _ _, _ => True
/-- .. one by one -/
def Stores (Hs F H : Hp) (e : Env) (σ : L2.St) : List RV → List V → Prop
  | [], [] => True
  | r :: rs, v :: vs => Sto c dr Hs F H e σ r v ∧ (∀ x a, r = .o x → v = .ref a → ∀ (k : Nat) (y : Val), rs[k]? = some (.o y) → vs[k]? ≠ some (.ref a)) ∧ Stores Hs F H e σ rs vs
  | _, _ => False
def tR (f : Env → R (List RV)) : TA := fun σ H Q => ∃ F e, StOk c dr H0 F H e σ ∧ (f e).Post fun rs => ∀ F' H' vs, Gr c dr F H F' H' → StOk c dr H0 F' H' e σ → Stores c dr H F' H' e σ rs vs → Q vs H'
/-- what is wanted behind a statement that began at the part F -/
def PostS (F0 F : Hp) (D : Ends) : Out → Prop
  | .nx e' => ∀ F' H' σ', Le F F' → StOk c dr H0 F' H' e' σ' → Gr c dr F0 H0 F' H' → D.nx σ' H'
  | .bk e' => ∀ F' H' σ', Le F F' → StOk c dr H0 F' H' e' σ' → Gr c dr F0 H0 F' H' → D.bk σ' H'
  | .rt r => ∀ F' H' σ' e' v, Le F F' → StOk c dr H0 F' H' e' σ' → Gr c dr F0 H0 F' H' → RRep c dr H0 F' H' e' σ' r v → D.rt v H'
def tS (F0 : Hp) (f : Env → R Out) : TS := fun D σ H => ∃ F e, StOk c dr H0 F H e σ ∧ Gr c dr F0 H0 F H ∧ (f e).Post (PostS c dr H0 F0 F D)
end
end Ev

/-! The checker: this piece of the evaluator's syntax is that piece of the model's. -/
namespace Ev
open PySem PySem.Spec PyProof.Rows L2

/-- names by slot, the scope, which names' cells are the block's own; the defs' names, the constants -/
structure CC where
  N : List Str
  sc : Scope
  fn : Str → Bool
  fs : List Str
  gl : List (Str × Int)
  gd : Nat
def CC.blk (cc : CC) (scope : Scope) : CC := { cc with sc := relS scope cc.sc, fn := fun x => scope.names.lookup x == some .cell, gd := match cc.gd with | 2 => 2 | _ => 0 }
/-- a generator expression's own scope -/
def CC.gblk (cc : CC) (scope : Scope) : CC := { cc with sc := scope, fn := fun x => scope.names.lookup x == some .cell, gd := cc.gd - 1 }
/-- no name is captured from without and held for within -/
def apart (ns : List (Str × NameKind)) : Bool := ns.all fun p => !(p.2 == .free) || ns.all fun q => !(q.2 == .cell && q.1 == p.1)
def gscope (scope : Scope) : Bool := !scope.isCoroutine && apart scope.names && (match scope.names.lookup (".0" : Str) with | some .local => true | _ => false)
def Gk.name : Gk → Str
  | .all => "all"
  | .any => "any"
  | .sum => "sum"
def noLst : Expr → Bool
  | .List .. => false
  | _ => true
def dbg (x : Str) : Bool := x == ("__debug__" : Str) || x == ("__classdict__" : Str) || x == ("__name__" : Str)
def CC.isVar (cc : CC) (i : Nat) (x : Str) : Bool := decide (cc.N[i]? = some x) && (match cc.sc.names.lookup x with | some .local => true | some .cell => true | some .free => true | _ => false) && !dbg x
def CC.isLoc (cc : CC) (i : Nat) (x : Str) : Bool := decide (cc.N[i]? = some x) && (match cc.sc.names.lookup x with | some .local => true | some .cell => cc.fn x | _ => false)
def CC.isGl (cc : CC) (x : Str) : Bool := (match cc.sc.names.lookup x with | some .globalImplicit => true | _ => false) && !dbg x
def noStar : Expr → Bool
  | .Starred .. => false
  | _ => true
def plainIx : Expr → Bool
  | .Slice .. => false
  | .Tuple .. => false
  | .Starred .. => false
  | _ => true
def noSet : Expr → Bool
  | .Set .. => false
  | _ => true
def plainT : Expr → Bool
  | .UnaryOp .Not _ _ => false
  | .BoolOp .. => false
  | .IfExp .. => false
  | .Compare .. => false
  | _ => true
def noComp : Expr → Bool
  | .ListComp .. => false
  | .SetComp .. => false
  | .DictComp .. => false
  | _ => true
def isTup : Expr → Bool
  | .Tuple .. => true
  | _ => false
def opB : Op → Operator → Bool
  | .add, .Add => true
  | .sub, .Sub => true
  | .mul, .Mult => true
  | .fdiv, .FloorDiv => true
  | .mod, .Mod => true
  | _, _ => false
def cmB : Cm → CmpOp → Bool
  | .eq, .Eq => true
  | .ne, .NotEq => true
  | .lt, .Lt => true
  | .le, .LtE => true
  | .gt, .Gt => true
  | .ge, .GtE => true
  | .isin, .In => true
  | .notin, .NotIn => true
  | _, _ => false
def B1.name : B1 → Str
  | .len => "len"
  | .sorted => "sorted"
  | .tuple => "tuple"
  | .list => "list"
  | .sum => "sum"
  | .max => "max"
  | .min => "min"
  | .abs => "abs"
  | .int => "int"
def tyName : Ty → Str
  | .int => "int"
  | .bool => "bool"
  | .tuple => "tuple"
  | .list => "list"
  | .str => "str"
  | .tupleOrList => ""
def CC.tgNames (cc : CC) : List Nat → List Expr → Bool
  | [], [] => true
  | i :: is, e :: es => match e with
    | .Name x _ => cc.isLoc i x && cc.tgNames is es
    | _ => false
  | _, _ => false
def CC.tg (cc : CC) : Tg → Expr → Bool
  | .name i, .Name x _ => cc.isLoc i x
  | .tup is, .Tuple es _ _ => cc.tgNames is es
  | _, _ => false
def ownOf (N : List Str) (own : List Nat) : List (Str × Nat) := own.map fun i => (N.getD i "", i)
def inOwn (own : List Nat) : Tg → Bool
  | .name i => own.contains i
  | .tup is => is.all own.contains
/-- x = [..] is stored from within -/
def swB (cc : CC) (x : Str) (p : Pos) (e : Expr) : Bool := match e with
  | .ListComp _ _ scope p2 => (match cc.sc.names.lookup x with | some .local => true | _ => false) && p.line == p2.line && !(scope.names.any fun (n, k) => n == x && (k == .local || k == .cell))
  | _ => false
/-- how a, b = x, y is stored: some: swapped -/
def swpB (cc : CC) (ts vs : List Expr) : Option (Option (List Str)) :=
  if !(ts.length == 2 || ts.length == 3) || vs.length != ts.length then some none
  else if !vs.all noStar then none
  else
    let line := (ts.head?.map (·.pos.line)).getD 0
    let names := ts.filterMap fun
      | .Name id pos => if (cc.sc.names.lookup id == some .local) && pos.line == line then some id else none
      | _ => none
    if names.length != ts.length || names.eraseDups.length != names.length then some none
    else if vs.all (foldedForSure 8) then some none
    else if vs.all (constantsAlone 8) then none
    else some (some names)
/-- a method's receiver that is no super() -/
def mBase : Expr → Bool
  | .Name _ _ => true
  | .Call (.Name _ _) (_ :: _) [] _ => true
  | _ => false
mutual
def chkE (cc : CC) : Ex → Expr → Bool
  | .var i, e => match e with | .Name x _ => cc.isVar i x | _ => false
  | .int i, e => match e with | .Constant (.int j) _ _ => iEq i j | _ => false
  | .bl b, e => match e with | .Constant (.bool j) _ _ => b == j | _ => false
  | .non, e => match e with | .Constant .none _ _ => true | _ => false
  | .glob y i, e => match e with | .Name x _ => x == y && cc.isGl x && cc.gl.any (fun p => p.1 == x && iEq p.2 i) | _ => false
  | .bin op a b, e => match e with | .BinOp x o y _ => opB op o && chkE cc a x && chkE cc b y | _ => false
  | .neg a, e => match e with | .UnaryOp .USub x _ => chkE cc a x | _ => false
  | .cmp c a b, e => match e with | .Compare x [o] [y] _ => cmB c o && noSet y && chkE cc a x && chkE cc b y | _ => false
  | .isN no a, e => match e with
    | .Compare x [.Is] [.Constant .none _ _] _ => !no && chkE cc a x
    | .Compare x [.IsNot] [.Constant .none _ _] _ => no && chkE cc a x
    | _ => false
  | .isB no a v, e => match e with
    | .Compare x [.Is] [.Constant (.bool w) _ _] _ => !no && v == w && chkE cc a x
    | .Compare x [.IsNot] [.Constant (.bool w) _ _] _ => no && v == w && chkE cc a x
    | _ => false
  | .chain c c' a b d, e => match e with | .Compare x [o, o'] [y, z] _ => cmB c o && cmB c' o' && noSet y && noSet z && chkE cc a x && chkE cc b y && chkE cc d z | _ => false
  | .and a b, e => match e with
    | .BoolOp .And (x :: y :: r) pos => chkE cc a x && (match r with | [] => chkE cc b y | _ :: _ => chkE cc b (.BoolOp .And (y :: r) pos))
    | _ => false
  | .or a b, e => match e with
    | .BoolOp .Or (x :: y :: r) pos => chkE cc a x && (match r with | [] => chkE cc b y | _ :: _ => chkE cc b (.BoolOp .Or (y :: r) pos))
    | _ => false
  | .not a, e => match e with | .UnaryOp .Not x _ => chkE cc a x | _ => false
  | .ite c a b, e => match e with | .IfExp t x y _ => chkT cc c t && chkE cc a x && chkE cc b y | _ => false
  | .tup es, e => match e with | .Tuple xs _ _ => chkD cc es xs | _ => false
  | .lst es, e => match e with | .List xs _ => chkD cc es xs | _ => false
  | .ix a i, e => match e with | .Subscript x y _ => plainIx y && chkE cc a x && chkE cc i y | _ => false
  | .sl a lo hi, e => match e with | .Subscript x (.Slice l h none _) _ => chkE cc a x && chkO cc lo l && chkO cc hi h | _ => false
  | .call f es, e => match e with | .Call (.Name x _) xs [] _ => decide (cc.fs[f]? = some x) && cc.isGl x && xs.all noStar && chkL cc es xs | _ => false
  | .b1 b a, e => match e with | .Call (.Name x _) [y] [] _ => x == b.name && cc.isGl x && noStar y && chkE cc a y | _ => false
  | .isI a t, e => match e with
    | .Call (.Name x _) [y, .Name n _] [] _ => x == "isinstance" && cc.isGl x && noStar y && chkE cc a y && (match t with | .tupleOrList => false | _ => true) && n == tyName t && cc.isGl n
    | .Call (.Name x _) [y, .Tuple [.Name n _, .Name m _] _ _] [] _ => x == "isinstance" && cc.isGl x && noStar y && chkE cc a y && (match t with | .tupleOrList => true | _ => false) && n == "tuple" && m == "list" && cc.isGl n && cc.isGl m
    | _ => false
  | .mx2 least a b, e => match e with | .Call (.Name x _) [y, z] [] _ => x == (match least with | true => "min" | false => "max") && cc.isGl x && noStar y && noStar z && chkE cc a y && chkE cc b z | _ => false
  | .lrg1 tp a, e => match e with
    | .Call (.Name x _) [.Call (.Name y _) [z] [] _] [] _ => x == (match tp with | true => "tuple" | false => "list") && cc.isGl x && y == "range" && cc.isGl y && noStar z && chkE cc a z
    | _ => false
  | .lrg2 tp a b, e => match e with
    | .Call (.Name x _) [.Call (.Name y _) [z, u] [] _] [] _ => x == (match tp with | true => "tuple" | false => "list") && cc.isGl x && y == "range" && cc.isGl y && noStar z && noStar u && chkE cc a z && chkE cc b u
    | _ => false
  | .lc own tg it elt, e => match e with
    | .ListComp x [⟨t, i, [], 0⟩] scope _ => blkC cc.N cc.sc scope (ownOf cc.N own) && inOwn own tg && noSet i && (cc.blk scope).tg tg t && chkI cc it t i && chkE (cc.blk scope) elt x
    | _ => false
  | .lcIf own tg it elt c, e => match e with
    | .ListComp x [⟨t, i, [k], 0⟩] scope _ => blkC cc.N cc.sc scope (ownOf cc.N own) && inOwn own tg && noSet i && (cc.blk scope).tg tg t && chkI cc it t i && chkE (cc.blk scope) elt x && chkT (cc.blk scope) c k
    | _ => false
  | .gx k own tg it elt, e => match e with
    | .Call (.Name x _) [.GeneratorExp y [⟨t, i, [], 0⟩] scope _] [] _ => x == k.name && cc.isGl x && Nat.blt 0 cc.gd && blkC cc.N cc.sc scope (ownOf cc.N own) && inOwn own tg && gscope scope && noSet i && noLst i && (cc.gblk scope).tg tg t && chkI cc it t i && chkE (cc.gblk scope) elt y
    | _ => false
  | .dnew, e => match e with | .Dict [] [] _ => true | _ => false
  | .knew, e => match e with | .Dict [] [] _ => true | _ => false
  | .kix d k, e => match e with | .Subscript x y _ => plainIx y && chkE cc d x && chkE cc k y | _ => false
  | .cnt a k, e => match e with
    | .Call (.Attribute z y ap) [b] [] cp => y == "count" && noStar b && ap.endLine == cp.line && mBase z && chkE cc a z && chkE cc k b
    | _ => false
  | .mnp least a, e => match e with
    | .Call (.Name x _) [y] [] _ => x == (match least with | true => "min" | false => "max") && cc.isGl x && noStar y && chkE cc a y
    | _ => false
  | .tset a, e => match e with
    | .Call (.Name x _) [.Call (.Name y _) [z] [] _] [] _ => x == "sorted" && cc.isGl x && y == "set" && cc.isGl y && noStar z && chkE cc a z
    | _ => false
  | .minv a, e => match e with
    | .Call (.Name x _) [.Call (.Attribute z y ap) [] [] cp] [] _ => x == "min" && cc.isGl x && y == "values" && ap.endLine == cp.line && mBase z && chkE cc a z
    | _ => false
  | .klist a, e => match e with
    | .Call (.Name x _) [z] [] _ => x == "list" && cc.isGl x && noStar z && chkE cc a z
    | _ => false
  | .dnew1 k v, e => match e with | .Dict [some x] [y] _ => chkE cc k x && chkE cc v y | _ => false
  | .dget d k x, e => match e with
    | .Call (.Attribute (.Name n q) y ap) [a, b] [] cp => y == "get" && noStar a && noStar b && ap.endLine == cp.line && chkE cc d (.Name n q) && chkE cc k a && chkE cc x b
    | _ => false
  | .dix d k, e => match e with | .Subscript x y _ => plainIx y && chkE cc d x && chkE cc k y | _ => false
  | .din no k d, e => match e with | .Compare x [o] [y] _ => cmB (match no with | true => .notin | false => .isin) o && noSet y && chkE cc k x && chkE cc d y | _ => false
  | .index a k, e => match e with
    | .Call (.Attribute z y ap) [b] [] cp => y == "index" && noStar b && ap.endLine == cp.line && mBase z && chkE cc a z && chkE cc k b
    | _ => false
  | .srtset a, e => match e with
    | .Call (.Name x _) [.Call (.Name y _) [z] [] _] [] _ => x == "sorted" && cc.isGl x && y == "set" && cc.isGl y && noStar z && chkE cc a z
    | _ => false
  | _, _ => false
def chkT (cc : CC) : Ex → Expr → Bool
  | .not a, e => match e with | .UnaryOp .Not x _ => chkT cc a x | _ => false
  | .and a b, e => match e with
    | .BoolOp .And (x :: y :: r) pos => chkT cc a x && (match r with | [] => chkT cc b y | _ :: _ => chkT cc b (.BoolOp .And (y :: r) pos))
    | _ => false
  | .or a b, e => match e with
    | .BoolOp .Or (x :: y :: r) pos => chkT cc a x && (match r with | [] => chkT cc b y | _ :: _ => chkT cc b (.BoolOp .Or (y :: r) pos))
    | _ => false
  | .cmp c a b, e => match e with | .Compare x [o] [y] _ => cmB c o && noSet y && chkE cc a x && chkE cc b y | _ => false
  | .isN no a, e => match e with
    | .Compare x [.Is] [.Constant .none _ _] _ => !no && chkE cc a x
    | .Compare x [.IsNot] [.Constant .none _ _] _ => no && chkE cc a x
    | _ => false
  | .isB no a v, e => match e with
    | .Compare x [.Is] [.Constant (.bool w) _ _] _ => !no && v == w && chkE cc a x
    | .Compare x [.IsNot] [.Constant (.bool w) _ _] _ => no && v == w && chkE cc a x
    | _ => false
  | .chain c c' a b d, e => match e with | .Compare x [o, o'] [y, z] _ => cmB c o && cmB c' o' && noSet y && noSet z && chkE cc a x && chkE cc b y && chkE cc d z | _ => false
  | .tst a, e => plainT e && chkE cc a e
  | .din no k d, e => match e with | .Compare x [o] [y] _ => cmB (match no with | true => .notin | false => .isin) o && noSet y && chkE cc k x && chkE cc d y | _ => false
  | _, _ => false
def chkL (cc : CC) : Ex → List Expr → Bool
  | .nil, es => match es with | [] => true | _ => false
  | .cons a r, es => match es with | x :: xs => noStar x && chkE cc a x && chkL cc r xs | _ => false
  | _, _ => false
def chkD (cc : CC) : Ex → List Expr → Bool
  | .nil, es => match es with | [] => true | _ => false
  | .cons a r, es => match es with | x :: xs => noStar x && chkE cc a x && chkD cc r xs | _ => false
  | .star a r, es => match es with | .Starred x _ :: xs => chkE cc a x && chkD cc r xs | _ => false
  | _, _ => false
def chkR (cc : CC) : Ex → List Expr → Bool
  | .nil, es => match es with | [] => true | _ => false
  | .cons a r, es => match es with | x :: xs => noStar x && chkE cc a x && chkR cc r xs | _ => false
  | _, _ => false
def chkO (cc : CC) : Ex → Option Expr → Bool
  | .noE, o => match o with | none => true | some _ => false
  | .cons a _, o => match o with | some x => chkE cc a x | none => false
  | _, _ => false
def chkI (cc : CC) : Ex → Expr → Expr → Bool
  | .irng1 a, _, e => match e with | .Call (.Name x _) [y] [] _ => x == "range" && cc.isGl x && noStar y && chkE cc a y | _ => false
  | .irng2 a b, _, e => match e with | .Call (.Name x _) [y, z] [] _ => x == "range" && cc.isGl x && noStar y && noStar z && chkE cc a y && chkE cc b z | _ => false
  | .iseq a, _, e => chkE cc a e
  | .ikeys a, _, e => chkE cc a e
  | .irng3 a b, _, e => match e with
    | .Call (.Name x _) [y, z, .UnaryOp .USub (.Constant (.int i) _ _) _] [] _ => x == "range" && cc.isGl x && noStar y && noStar z && iEq i 1 && chkE cc a y && chkE cc b z
    | _ => false
  | .ienum a, t, e => match e with | .Call (.Name x _) [y] [] _ => isTup t && x == "enumerate" && cc.isGl x && noStar y && chkE cc a y | _ => false
  | .izip a b, t, e => match e with | .Call (.Name x _) [y, z] [] _ => isTup t && x == "zip" && cc.isGl x && noStar y && noStar z && chkE cc a y && chkE cc b z | _ => false
  | _, _, _ => false
def chkS (cc : CC) : Ex → Stmt → Bool
  | .noE, _ => true
  | .asg tg a, st => match st with
    | .Assign [t] e _ => cc.tg tg t && chkE cc a e && (noComp e || match e with | .ListComp .. => true | _ => false) && (match tg with | .tup _ => noComp e && !isTup e | .name _ => true)
    | _ => false
  | .par is es, st => match st with
    | .Assign [.Tuple ts _ _] (.Tuple vs _ _) _ => cc.tgNames is ts && chkR cc es vs && (swpB cc ts vs).isSome && decide is.Nodup && few is lim
    | _ => false
  | .app i a, st => match st with
    | .Expr (.Call (.Attribute (.Name x _) y ap) [e] [] cp) _ => cc.isVar i x && y == "append" && noStar e && ap.endLine == cp.line && chkE cc a e
    | _ => false
  | .seti i k a, st => match st with
    | .Assign [.Subscript (.Name x _) j _] e _ => cc.isVar i x && plainIx j && noComp e && chkE cc k j && chkE cc a e
    | _ => false
  | .kput i k a, st => match st with
    | .Assign [.Subscript (.Name x _) j _] e _ => cc.isVar i x && plainIx j && noComp e && chkE cc k j && chkE cc a e
    | _ => false
  | .dput i k a, st => match st with
    | .Assign [.Subscript (.Name x _) j _] e _ => cc.isVar i x && plainIx j && noComp e && chkE cc k j && chkE cc a e
    | _ => false
  | .ex a, st => match st with | .Expr e _ => noComp e && chkE cc a e | _ => false
  | .ret a, st => match st with | .Return (some e) _ => chkE cc a e | _ => false
  | .retN, st => match st with | .Return none _ => true | _ => false
  | .ifS c a b, st => match st with | .If t x y _ => chkT cc c t && chkB cc a x && chkB cc b y | _ => false
  | .forS tg it body, st => match st with | .For t i b [] _ => noSet i && cc.tg tg t && chkI cc it t i && chkB cc body b | _ => false
  | .whl _ c body, st => match st with | .While t b [] _ => chkT cc c t && chkB cc body b | _ => false
  | .brk, st => match st with | .Break _ => true | _ => false
  | _, _ => false
def chkB (cc : CC) : Ex → List Stmt → Bool
  | .noE, _ => true
  | .snil, ss => match ss with | [] => true | _ => false
  | .scons s r, ss => match ss with | x :: xs => chkS cc s x && chkB cc r xs | _ => false
  | .frz _ r, ss => chkB cc r ss
  | _, _ => false
end
end Ev

/-! The evaluator is sound: the context, values, expressions, tests, arguments. -/
namespace Ev
open PySem PySem.Spec PyProof.Rows L2

structure Fin (c : Cf) (dr : Option Addr) (F H : Hp) : Prop where
  le : Le F H
  nsp : ∀ a, Spc c dr a → F a = none
  wd : Wd c dr F H
/-- what a def promises: that it answers as g does -/
def spF (c : Cf) (g : List Val → R RV) : Sp := fun vs H Q _ => ∃ dr F args, VReps c dr F args vs ∧ Fin c dr F H ∧ (g args).Post fun r => ∀ F' H' v, Gr c dr F H F' H' → Fin c dr F' H' → RRep c dr H F' H' [] [] r v → Q v H'
def bltNames : List Str := ["len", "sorted", "tuple", "list", "sum", "max", "min", "abs", "int", "bool", "str", "isinstance", "range", "enumerate", "zip", "all", "any", "dict", "set"]
/-- a generator's own code object, its table: by what was held when it began -/
def AtH (c : Cf) (H : Hp) (cd P : Addr) : Prop := ∃ o Pd ps pos, H cd = some (.frz o (.own cd)) ∧ CodeOb o cd P ∧ P ∉ c.ts ∧ GxR.TabG H P ∧ Pd ∈ c.ts ∧ H Pd = some (.tbl ps) ∧ codeAmong pos ps.toList = some (.ref cd)
structure Good (c : Cf) (cf : Nat → List Val → R RV) (k : Nat) (cc : CC) (X : Cx) : Prop where
  K : X.K = c.K
  w : X.w = c.w
  N : X.N = cc.N
  nd : X.N.Nodup
  sc : X.env.scope = cc.sc
  kind : X.env.scope.kind = .function
  fn : X.fn = cc.fn
  calm : X.calm = true
  room : Room (k + cc.gd) X.A
  gle : cc.gd ≤ 2
  tab : cc.gd ≠ 0 → ∃ cd P, X.env.code = .ref cd ∧ X.base.BuiltinsAt X.mg P ∧ mainGlobals ≠ P ∧ ((P ∈ c.ts ∧ PySem.W.CodeHd X.base cd P) ∨ (cc.gd = 1 ∧ AtH c X.H_0 cd P))
  xe : X.xe = fun _ _ => False
  blt : ∀ x ∈ bltNames, X.mg x = none
  gl : ∀ x i, (x, i) ∈ cc.gl → ∃ t, X.mg x = some (.int i t)
  fs : ∀ (f : Nat) x, cc.fs[f]? = some x → ∃ a fd ps, X.mg x = some (.ref a) ∧ PySem.W.keepIn X.K (.ref a) = true ∧ Binds X.K fd ps [] ∧ FnOk X.prog X.w X.K X.mg X.base C8.CX0 k a fd ps (spF c (cf f))

theorem Good.hu {c : Cf} {cf : Nat → List Val → R RV} {k : Nat} {cc : CC} {X : Cx} (G : Good c cf k cc X) : X.A.units + 100 < cLine := by
  have := G.room.un
  omega
theorem Good.roomk {c : Cf} {cf : Nat → List Val → R RV} {k : Nat} {cc : CC} {X : Cx} (G : Good c cf k cc X) : Room k X.A := G.room.mono (Nat.le_add_right _ _)
section
variable {c : Cf} {dr : Option Addr} {H0 F H F' H' F1 H1 Hs : Hp} {e : Env} {σ : L2.St} {Q : VK}
theorem StOk.fin (st : StOk c dr H0 F H e σ) : Fin c dr F H := ⟨st.le, st.nsp, st.wd⟩
theorem StOk.grow (st : StOk c dr H0 F H e σ) (g : Gr c dr F H F' H') (f : Fin c dr F' H') : StOk c dr H0 F' H' e σ :=
  ⟨f.le, f.nsp, st.ext.trans g.ext, f.wd, st.len, fun i x h => by
    obtain ⟨v, h1, h2⟩ := st.val i x h
    exact ⟨v, h1, vrep_mono g.le h2⟩, fun i x h => by
    obtain ⟨a, h1, h2, h3, h4, h5⟩ := st.own i x h
    obtain ⟨o, ho⟩ := orep_some h5
    exact ⟨a, h1, g.nw a (.inl (by rw [ho]; exact fun z => nomatch z)) h2, h3, h4, orep_mono g.le h5 (orep_at g.ext h5 h3)⟩, st.inj⟩
theorem Then.go {r : RV} (g : Gr c dr F H F1 H1) (q : Then c dr H0 F H e σ Q r) : Then c dr H0 F1 H1 e σ Q r := fun F3 H3 v g3 st3 r3 => q F3 H3 v (g.trans g3) st3 (r3.back g.ext)
/-- a subexpression that is read -/
theorem rdE {f : Env → R RV} {α : Type} {k : RV → R α} {P : α → Prop} {W : VK} (st : StOk c dr H0 F H e σ) (p : ((f e).bind k).Post P)
    (cont : ∀ F1 H1 v x, Gr c dr F H F1 H1 → StOk c dr H0 F1 H1 e σ → Opd c dr F1 e σ x.rd v → (k x).Post P → W v H1) : tE c dr H0 f σ H W :=
  ⟨F, e, st, (R.post_bind p).mono fun x p F1 H1 v g1 st1 r1 => by
    obtain ⟨F2, g2, _, st2, o⟩ := st1.rd g1 r1
    exact cont F2 H1 v x g2 st2 o p⟩
theorem fz_ex {r : RV} {α : Type} {k : Val → R α} {P : α → Prop} (p : (r.fz.bind k).Post P) : ∃ x, r.fz = .ok x ∧ (k x).Post P := by
  cases r with
  | v x => exact ⟨x, rfl, p⟩
  | o x => exact ⟨x, rfl, p⟩
  | b i x => exact p.elim
/-- .. that is given away -/
theorem fzE {f : Env → R RV} {α : Type} {k : Val → R α} {P : α → Prop} {W : VK} (st : StOk c dr H0 F H e σ) (p : ((f e).bind fun x => x.fz.bind k).Post P)
    (cont : ∀ F1 H1 v x, Gr c dr F H F1 H1 → StOk c dr H0 F1 H1 e σ → VRep c dr F1 x v → (k x).Post P → W v H1) : tE c dr H0 f σ H W :=
  ⟨F, e, st, (R.post_bind p).mono fun x p F1 H1 v g1 st1 r1 => by
    obtain ⟨y, e1, p⟩ := fz_ex p
    obtain ⟨F2, x2, g2, _, st2, o, q⟩ := st1.fz (x := y) g1 r1 (Q := fun z => z = y) (by rw [e1]; exact rfl)
    subst q
    exact cont F2 H1 v x2 g2 st2 o p⟩
theorem dat_ex {x : Val} {α : Type} {k : D → R α} {P : α → Prop} (p : (x.dat.bind k).Post P) : ∃ d, x = .d d ∧ (k d).Post P := by
  cases x with
  | d x => exact ⟨x, rfl, p⟩
  | dct _ => exact p.elim
  | kd _ => exact p.elim
  | row => exact p.elim
theorem fzD_ex {r : RV} {α : Type} {k : D → R α} {P : α → Prop} (p : ((fzD r).bind k).Post P) : (r.fz.bind fun x => x.dat.bind k).Post P := by
  cases r with
  | v x => exact p
  | o x => exact p
  | b i x => exact p.elim
theorem fzdE {f : Env → R RV} {α : Type} {k : D → R α} {P : α → Prop} {W : VK} (st : StOk c dr H0 F H e σ) (p : ((f e).bind fun x => (fzD x).bind k).Post P)
    (cont : ∀ F1 H1 v x, Gr c dr F H F1 H1 → StOk c dr H0 F1 H1 e σ → Rp F1 v x → (k x).Post P → W v H1) : tE c dr H0 f σ H W :=
  fzE st (R.post_bind' ((R.post_bind p).mono fun x p => fzD_ex p)) fun F1 H1 v x g1 st1 r p => by
    obtain ⟨d, rfl, p⟩ := dat_ex p
    exact cont F1 H1 v d g1 st1 r p
theorem int_ex {x : Val} {α : Type} {k : Int → R α} {P : α → Prop} (p : ((intV x).bind k).Post P) : ∃ i, x = .d (.int i) ∧ (k i).Post P := by
  cases x with
  | d x => cases x with
    | int i => exact ⟨i, rfl, p⟩
    | _ => exact p.elim
  | dct _ => exact p.elim
  | kd _ => exact p.elim
  | row => exact p.elim
end

section
variable (c : Cf) (cf : Nat → List Val → R RV) (k : Nat)
def SE (x : Ex) : Prop := ∀ cc X, Good c cf k cc X → ∀ e, chkE cc x e = true → ∀ dr H0, PE X e (tE c dr H0 (dE cf x))
def ST (x : Ex) : Prop := ∀ cc X, Good c cf k cc X → ∀ e, chkT cc x e = true → ∀ dr H0, PT X e (tT c dr H0 (dT cf x))
def SL (x : Ex) : Prop := ∀ cc X, Good c cf k cc X → ∀ es, chkL cc x es = true → ∀ dr H0, PA X es (tL c dr H0 (dL cf x))
def SD (x : Ex) : Prop := ∀ cc X, Good c cf k cc X → ∀ es, chkD cc x es = true → ∀ dr H0, PA X es (tD c dr H0 (dD cf x))
def SR (x : Ex) : Prop := ∀ cc X, Good c cf k cc X → ∀ es, chkR cc x es = true → ∀ dr H0, PA X es (tR c dr H0 (dR cf x))
def SO (x : Ex) : Prop := ∀ cc X, Good c cf k cc X → ∀ o, chkO cc x o = true → ∀ dr H0, PO X o (tO c dr H0 (dO cf x))
def SI (x : Ex) : Prop := ∀ cc X, Good c cf k cc X → ∀ t e, chkI cc x t e = true → ∀ dr H0, PI X t e (tI c dr H0 (dI cf x))
def SS (x : Ex) : Prop := ∀ cc X, Good c cf k cc X → ∀ e, chkS cc x e = true → ∀ dr H0 F0, PS X e (tS c dr H0 F0 (dS cf x))
def SB (x : Ex) : Prop := ∀ cc X, Good c cf k cc X → ∀ e, chkB cc x e = true → ∀ dr H0 F0, PSs X e (tS c dr H0 F0 (dS cf x))
end
theorem and2 {a b : Bool} (h : (a && b) = true) : a = true ∧ b = true := by cases a <;> cases b <;> simp_all
section
variable {c : Cf} {cf : Nat → List Val → R RV} {k : Nat} {cc : CC} {X : Cx}
theorem Good.gls (G : Good c cf k cc X) {x : Str} (h : cc.isGl x = true) : Gl X x ∧ dbg x = false := by
  obtain ⟨h1, h2⟩ := and2 h
  refine ⟨?_, by simpa using h2⟩
  show X.env.scope.names.lookup x = _
  rw [G.sc]
  split at h1
  · assumption
  · cases h1
theorem dbg_ne {x : Str} (h : dbg x = false) : (x == ("__debug__" : Str)) = false ∧ (x == ("__classdict__" : Str)) = false ∧ x ≠ "__name__" := by
  unfold dbg at h
  simp only [Bool.or_eq_false_iff] at h
  exact ⟨h.1.1, h.1.2, fun z => by rw [z] at h; exact absurd h.2 (by decide)⟩
theorem Good.var (G : Good c cf k cc X) {i : Nat} {x : Str} (h : cc.isVar i x = true) : X.N[i]? = some x ∧ Vis X.env.scope x ∧ dbg x = false := by
  obtain ⟨h1, h3⟩ := and2 h
  obtain ⟨h1, h2⟩ := and2 h1
  refine ⟨by rw [G.N]; exact of_decide_eq_true h1, ?_, by simpa using h3⟩
  rw [G.sc]
  split at h2
  · exact .inl (by assumption)
  · exact .inr (.inl (by assumption))
  · exact .inr (.inr (by assumption))
  · cases h2
theorem se_var (i : Nat) : SE c cf k (.var i) := fun cc X G e h dr H0 => by
  cases e with
  | Name x p =>
    obtain ⟨h1, h2, h3⟩ := G.var (i := i) (x := x) h
    refine (pe_var h1 h2 (dbg_ne h3).1 (dbg_ne h3).2.1).imp fun σ H Q ⟨F, e, st, p⟩ => ?_
    have p : (match slotAt e i with | .no => (R.stuck : R RV) | .v x => R.ok (RV.v x) | .o x => R.ok (RV.b i x)).Post (Then c dr H0 F H e σ Q) := p
    cases q : slotAt e i with
    | no => rw [q] at p; exact p.elim
    | v x =>
      rw [q] at p
      obtain ⟨v, e1, r⟩ := st.val i x q
      exact ⟨v, e1, Then.v st r p⟩
    | o x =>
      rw [q] at p
      obtain ⟨a, e1, _⟩ := st.own i x q
      exact ⟨_, e1, p F H _ Gr.refl st ⟨q, e1⟩⟩
  | _ => exact (Bool.false_ne_true h).elim
theorem se_int (i : Int) : SE c cf k (.int i) := fun cc X G e h dr H0 => by
  cases e with
  | Constant a b p => cases a with
    | int j =>
      have h : iEq i j = true := h
      rw [iEq_iff] at h
      cases of_decide_eq_true h
      exact pe_int.imp fun σ H Q ⟨F, e, st, p⟩ => Then.int st p
    | _ => exact (Bool.false_ne_true h).elim
  | _ => exact (Bool.false_ne_true h).elim
theorem se_bl (i : Bool) : SE c cf k (.bl i) := fun cc X G e h dr H0 => by
  cases e with
  | Constant a b p => cases a with
    | bool j =>
      have h : (i == j) = true := h
      cases (by simpa using h : i = j)
      exact pe_bl.imp fun σ H Q ⟨F, e, st, p⟩ => Then.bl st p
    | _ => exact (Bool.false_ne_true h).elim
  | _ => exact (Bool.false_ne_true h).elim
theorem se_non : SE c cf k .non := fun cc X G e h dr H0 => by
  cases e with
  | Constant a b p => cases a with
    | none => exact pe_non.imp fun σ H Q ⟨F, e, st, p⟩ => Then.v (x := .d .none) st Rp.non p
    | _ => exact (Bool.false_ne_true h).elim
  | _ => exact (Bool.false_ne_true h).elim
theorem se_glob (y : Str) (i : Int) : SE c cf k (.glob y i) := fun cc X G e h dr H0 => by
  cases e with
  | Name x p =>
    obtain ⟨h1, h3⟩ := and2 (show ((x == y && cc.isGl x) && cc.gl.any (fun p => p.1 == x && iEq p.2 i)) = true from h)
    obtain ⟨_, h2⟩ := and2 h1
    obtain ⟨⟨z, j⟩, hm, hz⟩ := List.any_eq_true.mp h3
    obtain ⟨z1, z2⟩ := and2 hz
    have z1 : z = x := by simpa using z1
    rw [iEq_iff] at z2
    have z2 : j = i := of_decide_eq_true z2
    subst z1 z2
    obtain ⟨t, hg⟩ := G.gl _ _ hm
    obtain ⟨g1, g2⟩ := G.gls h2
    exact (pe_glob (v := .int j) g1 hg ⟨t, rfl⟩ (dbg_ne g2).1).imp fun σ H Q ⟨F, e, st, p⟩ => Then.int st p
  | _ => exact (Bool.false_ne_true h).elim
theorem opB_eq {op : Op} {o : Operator} (h : opB op o = true) : o = op.model := by
  cases op <;> cases o <;> first | rfl | exact (Bool.false_ne_true h).elim
theorem cmB_eq {op : Cm} {o : CmpOp} (h : cmB op o = true) : o = op.model := by
  cases op <;> cases o <;> first | rfl | exact (Bool.false_ne_true h).elim
theorem se_bin (op : Op) {a b : Ex} (ha : SE c cf k a) (hb : SE c cf k b) : SE c cf k (.bin op a b) := fun cc X G e h dr H0 => by
  cases e with
  | BinOp x o y p =>
    obtain ⟨h1, h3⟩ := and2 (show ((opB op o && chkE cc a x) && chkE cc b y) = true from h)
    obtain ⟨h1, h2⟩ := and2 h1
    cases opB_eq h1
    refine (pe_op (op_ok (c := c) (dr := dr) (H0 := H0) op) (ha cc X G x h2 dr H0) (hb cc X G y h3 dr H0)).imp fun σ H Q ⟨F, e, st, p⟩ => ?_
    exact rdE st p fun F1 H1 v x g1 st1 o1 p => rdE st1 p fun F2 H2 w y g2 st2 o2 p =>
      ⟨F2, e, σ, _, _, st2, o1.mono g2.le, o2, p.mono fun r q => q.go (g1.trans g2)⟩
  | _ => exact (Bool.false_ne_true h).elim
theorem se_neg {a : Ex} (ha : SE c cf k a) : SE c cf k (.neg a) := fun cc X G e h dr H0 => by
  cases e with
  | UnaryOp o x p => cases o with
    | USub =>
      refine (pe_un un_neg (ha cc X G x h dr H0)).imp fun σ H Q ⟨F, e, st, p⟩ => ?_
      refine rdE st p fun F1 H1 v x g1 st1 o1 p => ?_
      obtain ⟨i, e1, p⟩ := int_ex p
      rw [e1] at o1
      exact ⟨i, o1.int st1, Then.int st1 (Then.go g1 p)⟩
    | _ => exact (Bool.false_ne_true h).elim
  | _ => exact (Bool.false_ne_true h).elim
theorem noset {op : CmpOp} {y : Expr} (h : noSet y = true) : behindInMarks op y = false := by
  cases y <;> first | rfl | exact (Bool.false_ne_true h).elim
theorem bool_end {dr : Option Addr} {H0 F H : Hp} {e : Env} {σ : L2.St} {Q : VK} {F1 H1 : Hp} {b : Bool} (st : StOk c dr H0 F1 H1 e σ) (g : Gr c dr F H F1 H1) (p : (boolV b).Post (Then c dr H0 F H e σ Q)) : Q (.bl b) H1 := Then.bl st (Then.go g p)
theorem se_cmp (op : Cm) {a b : Ex} (ha : SE c cf k a) (hb : SE c cf k b) : SE c cf k (.cmp op a b) := fun cc X G e h dr H0 => by
  cases e with
  | Compare x os ys p => match os, ys, h with
    | [o], [y], h =>
      obtain ⟨h1, h4⟩ := and2 (show (((cmB op o && noSet y) && chkE cc a x) && chkE cc b y) = true from h)
      obtain ⟨h1, h3⟩ := and2 h1
      obtain ⟨h1, h2⟩ := and2 h1
      cases cmB_eq h1
      refine (pe_cmpR (cmp_ok (c := c) (dr := dr) (H0 := H0) G.hu op) (ha cc X G x h3 dr H0) (hb cc X G y h4 dr H0) (noset h2)).imp fun σ H Q ⟨F, e, st, p⟩ => ?_
      exact rdE st p fun F1 H1 v x g1 st1 o1 p => rdE st1 p fun F2 H2 w y g2 st2 o2 p =>
        ⟨F2, e, σ, _, _, st2, o1.mono g2.le, o2, (R.post_bind p).mono fun r q => bool_end st2 (g1.trans g2) q⟩
    | [], _, h => exact (Bool.false_ne_true h).elim
    | _ :: _ :: _, _, h => exact (Bool.false_ne_true h).elim
    | [_], [], h => exact (Bool.false_ne_true h).elim
    | [_], _ :: _ :: _, h => exact (Bool.false_ne_true h).elim
  | _ => exact (Bool.false_ne_true h).elim
/-- x is None, x is not None -/
theorem isN_shape {no : Bool} {a : Ex} {e : Expr} (h : chkE cc (.isN no a) e = true) : ∃ x j q p, e = .Compare x [match no with | true => .IsNot | false => .Is] [.Constant .none j q] p ∧ chkE cc a x = true := by
  unfold chkE at h
  split at h
  · obtain ⟨h1, h2⟩ := and2 h
    cases no with
    | true => cases h1
    | false => exact ⟨_, _, _, _, rfl, h2⟩
  · obtain ⟨h1, h2⟩ := and2 h
    cases no with
    | false => cases h1
    | true => exact ⟨_, _, _, _, rfl, h2⟩
  · cases h
theorem se_isN (no : Bool) {a : Ex} (ha : SE c cf k a) : SE c cf k (.isN no a) := fun cc X G e h dr H0 => by
  obtain ⟨x, j, q, p, rfl, h⟩ := isN_shape h
  cases no with
  | false =>
    refine (pe_cmpR op_isN (ha cc X G x h dr H0) pe_non (nomark _)).imp fun σ H Q ⟨F, e, st, p⟩ => ?_
    refine rdE st p fun F1 H1 v x g1 st1 o1 p => ?_
    exact ⟨rfl, bool_end st1 g1 (isN_val st1 o1 (R.post_bind p))⟩
  | true =>
    refine (pe_cmpR op_notN (ha cc X G x h dr H0) pe_non (nomark _)).imp fun σ H Q ⟨F, e, st, p⟩ => ?_
    refine rdE st p fun F1 H1 v x g1 st1 o1 p => ?_
    exact ⟨rfl, bool_end st1 g1 (isN_val st1 o1 (R.post_bind p))⟩
/-- x is True, x is not False .. -/
theorem isB_shape {no : Bool} {a : Ex} {v : Bool} {e : Expr} (h : chkE cc (.isB no a v) e = true) : ∃ x j q p, e = .Compare x [match no with | true => .IsNot | false => .Is] [.Constant (.bool v) j q] p ∧ chkE cc a x = true := by
  unfold chkE at h
  split at h
  · obtain ⟨h1, h2⟩ := and2 h
    obtain ⟨h1, h3⟩ := and2 h1
    have e := eq_of_beq h3
    subst e
    cases no with
    | true => cases h1
    | false => exact ⟨_, _, _, _, rfl, h2⟩
  · obtain ⟨h1, h2⟩ := and2 h
    obtain ⟨h1, h3⟩ := and2 h1
    have e := eq_of_beq h3
    subst e
    cases no with
    | false => cases h1
    | true => exact ⟨_, _, _, _, rfl, h2⟩
  · cases h
theorem isB_val {v : Bool} {a : Val} {x : V} {P : Bool → Prop} {dr : Option Addr} {H0 F H : Hp} {e : Env} {σ : L2.St} (st : StOk c dr H0 F H e σ) (o : Opd c dr F e σ a x) (h : (isBV v a).Post P) : ∃ y, x = .bl y ∧ P (decide (y = v)) := by
  unfold isBV at h
  split at h
  · rename_i y
    refine ⟨y, o.bl st, ?_⟩
    cases v <;> cases y <;> exact h
  · exact h.elim
theorem se_isB (no : Bool) (v : Bool) {a : Ex} (ha : SE c cf k a) : SE c cf k (.isB no a v) := fun cc X G e h dr H0 => by
  obtain ⟨x, j, q, p, ee, hh⟩ := isB_shape h
  subst ee
  cases no with
  | false =>
    refine (pe_cmpR op_isBl (ha cc X G x hh dr H0) pe_bl (nomark _)).imp fun σ H Q ⟨F, e, st, p⟩ => ?_
    refine rdE st p fun F1 H1 w x g1 st1 o1 p => ?_
    obtain ⟨y, e1, q⟩ := isB_val st1 o1 (R.post_bind p)
    exact ⟨y, v, e1, rfl, bool_end st1 g1 q⟩
  | true =>
    refine (pe_cmpR op_notBl (ha cc X G x hh dr H0) pe_bl (nomark _)).imp fun σ H Q ⟨F, e, st, p⟩ => ?_
    refine rdE st p fun F1 H1 w x g1 st1 o1 p => ?_
    obtain ⟨y, e1, q⟩ := isB_val st1 o1 (R.post_bind p)
    exact ⟨y, v, e1, rfl, bool_end st1 g1 q⟩
theorem chain_shape {op op' : Cm} {a b d : Ex} {e : Expr} (h : chkE cc (.chain op op' a b d) e = true) : ∃ x y z p, e = .Compare x [op.model, op'.model] [y, z] p ∧ noSet z = true ∧ chkE cc a x = true ∧ chkE cc b y = true ∧ chkE cc d z = true := by
  unfold chkE at h
  split at h
  · obtain ⟨h1, h7⟩ := and2 h
    obtain ⟨h1, h6⟩ := and2 h1
    obtain ⟨h1, h5⟩ := and2 h1
    obtain ⟨h1, h4⟩ := and2 h1
    obtain ⟨h1, h3⟩ := and2 h1
    obtain ⟨h1, h2⟩ := and2 h1
    cases cmB_eq h1
    cases cmB_eq h2
    exact ⟨_, _, _, _, rfl, h4, h5, h6, h7⟩
  · cases h
theorem se_chain (op op' : Cm) {a b d : Ex} (ha : SE c cf k a) (hb : SE c cf k b) (hd : SE c cf k d) : SE c cf k (.chain op op' a b d) := fun cc X G e h dr H0 => by
  obtain ⟨x, y, z, p, rfl, h0, h1, h2, h3⟩ := chain_shape h
  refine (pe_chain (cmp_ok (c := c) (dr := dr) (H0 := H0) G.hu op) (cmp_ok (c := c) (dr := dr) (H0 := H0) G.hu op') (ha cc X G x h1 dr H0) (hb cc X G y h2 dr H0) (hd cc X G z h3 dr H0) (noset h0)).imp fun σ H Q ⟨F, e, st, p⟩ => ?_
  refine rdE st p fun F1 H1 v x g1 st1 o1 p => rdE st1 p fun F2 H2 w y g2 st2 o2 p =>
    ⟨F2, e, σ, _, _, st2, o1.mono g2.le, o2, (R.post_bind p).mono fun r q => ⟨r, rfl, ?_⟩⟩
  cases r with
  | false => exact bool_end st2 (g1.trans g2) q
  | true =>
    exact rdE st2 q fun F3 H3 u z g3 st3 o3 p =>
      ⟨F3, e, σ, _, _, st3, o2.mono g3.le, o3, (R.post_bind p).mono fun r q => bool_end st3 ((g1.trans g2).trans g3) q⟩
theorem and_shape {a b : Ex} {e : Expr} (h : chkE cc (.and a b) e = true) : ∃ x y r p, e = .BoolOp .And (x :: y :: r) p ∧ chkE cc a x = true ∧ ((r = [] ∧ chkE cc b y = true) ∨ chkE cc b (.BoolOp .And (y :: r) p) = true) := by
  unfold chkE at h
  split at h
  · rename_i x y r p
    obtain ⟨h1, h2⟩ := and2 h
    refine ⟨x, y, r, p, rfl, h1, ?_⟩
    cases r with
    | nil => exact .inl ⟨rfl, h2⟩
    | cons _ _ => exact .inr h2
  · cases h
theorem or_shape {a b : Ex} {e : Expr} (h : chkE cc (.or a b) e = true) : ∃ x y r p, e = .BoolOp .Or (x :: y :: r) p ∧ chkE cc a x = true ∧ ((r = [] ∧ chkE cc b y = true) ∨ chkE cc b (.BoolOp .Or (y :: r) p) = true) := by
  unfold chkE at h
  split at h
  · rename_i x y r p
    obtain ⟨h1, h2⟩ := and2 h
    refine ⟨x, y, r, p, rfl, h1, ?_⟩
    cases r with
    | nil => exact .inl ⟨rfl, h2⟩
    | cons _ _ => exact .inr h2
  · cases h
theorem andT_shape {a b : Ex} {e : Expr} (h : chkT cc (.and a b) e = true) : ∃ x y r p, e = .BoolOp .And (x :: y :: r) p ∧ chkT cc a x = true ∧ ((r = [] ∧ chkT cc b y = true) ∨ chkT cc b (.BoolOp .And (y :: r) p) = true) := by
  unfold chkT at h
  split at h
  · rename_i x y r p
    obtain ⟨h1, h2⟩ := and2 h
    refine ⟨x, y, r, p, rfl, h1, ?_⟩
    cases r with
    | nil => exact .inl ⟨rfl, h2⟩
    | cons _ _ => exact .inr h2
  · cases h
theorem orT_shape {a b : Ex} {e : Expr} (h : chkT cc (.or a b) e = true) : ∃ x y r p, e = .BoolOp .Or (x :: y :: r) p ∧ chkT cc a x = true ∧ ((r = [] ∧ chkT cc b y = true) ∨ chkT cc b (.BoolOp .Or (y :: r) p) = true) := by
  unfold chkT at h
  split at h
  · rename_i x y r p
    obtain ⟨h1, h2⟩ := and2 h
    refine ⟨x, y, r, p, rfl, h1, ?_⟩
    cases r with
    | nil => exact .inl ⟨rfl, h2⟩
    | cons _ _ => exact .inr h2
  · cases h
theorem bool_ex {x : RV} {m n : R RV} {P : RV → Prop} (p : (match x with | .v (.d (.bool true)) => m | .v (.d (.bool false)) => n | _ => R.stuck).Post P) : ∃ b, x = .v (.d (.bool b)) ∧ (if b = true then m else n).Post P := by
  split at p
  · exact ⟨true, rfl, p⟩
  · exact ⟨false, rfl, p⟩
  · exact p.elim
theorem se_and {a b : Ex} (ha : SE c cf k a) (hb : SE c cf k b) : SE c cf k (.and a b) := fun cc X G e h dr H0 => by
  obtain ⟨x, y, r, p, rfl, h1, h2⟩ := and_shape h
  have hb : PE X (.BoolOp .And (y :: r) p) (tE c dr H0 (dE cf b)) := by
    rcases h2 with ⟨rfl, h2⟩ | h2
    · exact pe_one (hb cc X G y h2 dr H0)
    · exact hb cc X G _ h2 dr H0
  refine (pe_and (ha cc X G x h1 dr H0) hb).imp fun σ H Q ⟨F, e, st, p⟩ => ?_
  refine ⟨F, e, st, (R.post_bind p).mono fun x p F1 H1 v g1 st1 r1 => ?_⟩
  obtain ⟨b', rfl, p⟩ := bool_ex p
  cases (show Rp F1 v (.bool b') from r1)
  refine ⟨b', rfl, ?_⟩
  cases b' with
  | true => exact ⟨F1, e, st1, R.Post.mono p fun r q => q.go g1⟩
  | false => exact bool_end st1 g1 p
theorem se_or {a b : Ex} (ha : SE c cf k a) (hb : SE c cf k b) : SE c cf k (.or a b) := fun cc X G e h dr H0 => by
  obtain ⟨x, y, r, p, rfl, h1, h2⟩ := or_shape h
  have hb : PE X (.BoolOp .Or (y :: r) p) (tE c dr H0 (dE cf b)) := by
    rcases h2 with ⟨rfl, h2⟩ | h2
    · exact pe_one (hb cc X G y h2 dr H0)
    · exact hb cc X G _ h2 dr H0
  refine (pe_or (ha cc X G x h1 dr H0) hb).imp fun σ H Q ⟨F, e, st, p⟩ => ?_
  refine ⟨F, e, st, (R.post_bind p).mono fun x p F1 H1 v g1 st1 r1 => ?_⟩
  obtain ⟨b', rfl, p⟩ := bool_ex p
  cases (show Rp F1 v (.bool b') from r1)
  refine ⟨b', rfl, ?_⟩
  cases b' with
  | true => exact bool_end st1 g1 p
  | false => exact ⟨F1, e, st1, R.Post.mono p fun r q => q.go g1⟩
theorem se_not {a : Ex} (ha : SE c cf k a) : SE c cf k (.not a) := fun cc X G e h dr H0 => by
  cases e with
  | UnaryOp o x p => cases o with
    | Not =>
      refine (pe_notT (ha cc X G x h dr H0)).imp fun σ H Q ⟨F, e, st, p⟩ => ?_
      refine rdE st p fun F1 H1 v x g1 st1 o1 p => ?_
      obtain ⟨k', t, p⟩ := tru_val st1 o1 (R.post_bind p) X.K
      exact ⟨k', t, bool_end st1 g1 p⟩
    | _ => exact (Bool.false_ne_true h).elim
  | _ => exact (Bool.false_ne_true h).elim
theorem se_ite {t a b : Ex} (ht : ST c cf k t) (ha : SE c cf k a) (hb : SE c cf k b) : SE c cf k (.ite t a b) := fun cc X G e h dr H0 => by
  cases e with
  | IfExp u x y p =>
    obtain ⟨h1, h3⟩ := and2 (show ((chkT cc t u && chkE cc a x) && chkE cc b y) = true from h)
    obtain ⟨h1, h2⟩ := and2 h1
    refine (pe_ifExp (ht cc X G u h1 dr H0) (ha cc X G x h2 dr H0) (hb cc X G y h3 dr H0)).imp fun σ H Q ⟨F, e, st, p⟩ => ?_
    refine ⟨F, e, st, (R.post_bind p).mono fun b' p F1 H1 g1 st1 => ?_⟩
    cases b' with
    | true => exact ⟨F1, e, st1, R.Post.mono p fun r q => q.go g1⟩
    | false => exact ⟨F1, e, st1, R.Post.mono p fun r q => q.go g1⟩
  | _ => exact (Bool.false_ne_true h).elim
theorem few_ex {α β : Type} {l : List α} {m : R β} {P : β → Prop} (p : (match few l lim with | true => m | false => .stuck).Post P) : l.length ≤ lim ∧ m.Post P := by
  cases q : few l lim with
  | true => rw [q] at p; exact ⟨few_len q, p⟩
  | false => rw [q] at p; exact p.elim
theorem se_tup {es : Ex} (ha : SD c cf k es) : SE c cf k (.tup es) := fun cc X G e h dr H0 => by
  cases e with
  | Tuple xs n p =>
    refine (pe_tup (ha cc X G xs h dr H0)).imp fun σ H Q ⟨F, e, st, p⟩ => ?_
    refine ⟨F, e, st, (R.post_bind p).mono fun ds p F1 H1 vs g1 st1 r1 => ?_⟩
    obtain ⟨hl, p⟩ := few_ex p
    exact ⟨by have := dps_len r1; have := lim_line; omega, fun q hq => Then.tup st1 hq r1 (Then.go g1 p)⟩
  | _ => exact (Bool.false_ne_true h).elim
theorem se_lst {es : Ex} (ha : SD c cf k es) : SE c cf k (.lst es) := fun cc X G e h dr H0 => by
  cases e with
  | List xs p =>
    refine (pe_lst (ha cc X G xs h dr H0)).imp fun σ H Q ⟨F, e, st, p⟩ => ?_
    refine ⟨F, e, st, (R.post_bind p).mono fun ds p F1 H1 vs g1 st1 r1 => ?_⟩
    obtain ⟨hl, p⟩ := few_ex p
    exact ⟨by have := dps_len r1; have := lim_line; omega, fun q hq => Then.lst st1 hq r1 (Then.go g1 p)⟩
  | _ => exact (Bool.false_ne_true h).elim
theorem plainix {y : Expr} (h : plainIx y = true) : PlainIx y := by
  intro o i
  cases y <;> first | rfl | exact (Bool.false_ne_true h).elim
theorem se_ix {a b : Ex} (ha : SE c cf k a) (hb : SE c cf k b) : SE c cf k (.ix a b) := fun cc X G e h dr H0 => by
  cases e with
  | Subscript x y p =>
    obtain ⟨h1, h3⟩ := and2 (show ((plainIx y && chkE cc a x) && chkE cc b y) = true from h)
    obtain ⟨h1, h2⟩ := and2 h1
    refine (pe_ix (ix_ok (c := c) (dr := dr) (H0 := H0)) (ha cc X G x h2 dr H0) (hb cc X G y h3 dr H0) (plainix h1)).imp fun σ H Q ⟨F, e, st, p⟩ => ?_
    exact rdE st p fun F1 H1 v x g1 st1 o1 p => rdE st1 p fun F2 H2 w y g2 st2 o2 p =>
      ⟨F2, e, σ, _, _, st2, o1.mono g2.le, o2, p.mono fun r q => q.go (g1.trans g2)⟩
  | _ => exact (Bool.false_ne_true h).elim
theorem se_sl {a lo hi : Ex} (ha : SE c cf k a) (hl : SO c cf k lo) (hh : SO c cf k hi) : SE c cf k (.sl a lo hi) := fun cc X G e h dr H0 => by
  cases e with
  | Subscript x y p => cases y with
    | Slice l u s p2 => cases s with
      | none =>
        obtain ⟨h1, h3⟩ := and2 (show ((chkE cc a x && chkO cc lo l) && chkO cc hi u) = true from h)
        obtain ⟨h1, h2⟩ := and2 h1
        refine (pe_slice (sl_ok (c := c) (dr := dr) (H0 := H0)) (ha cc X G x h1 dr H0) (hl cc X G l h2 dr H0) (hh cc X G u h3 dr H0)).imp fun σ H Q ⟨F, e, st, p⟩ => ?_
        refine rdE st p fun F1 H1 v x g1 st1 o1 p => ⟨F1, e, st1, (R.post_bind p).mono fun l p F2 H2 g2 st2 => ⟨F2, e, st2, (R.post_bind p).mono fun u p F3 H3 g3 st3 => ?_⟩⟩
        exact ⟨F3, e, σ, _, st3, (o1.mono g2.le).mono g3.le, p.mono fun r q => q.go ((g1.trans g2).trans g3)⟩
      | some _ => exact (Bool.false_ne_true h).elim
    | _ => exact (Bool.false_ne_true h).elim
  | _ => exact (Bool.false_ne_true h).elim
/-! ### lists of expressions -/
theorem starE {x : Expr} {xs : List Expr} {env : PySem.Env} (h : noStar x = true) : starEach (x :: xs) env = (false, eval x env) :: starEach xs env := by
  cases x <;> first | rfl | exact (Bool.false_ne_true h).elim
theorem plainB {pos : Pos} {env : PySem.Env} : ∀ {xs : List Expr}, xs.all noStar = true → (backTo pos (starEach xs env)).any (·.1) = false
  | [], _ => rfl
  | x :: xs, h => by
    obtain ⟨h1, h2⟩ := and2 (show (noStar x && xs.all noStar) = true from h)
    rw [starE h1]
    show (false || (backTo pos (starEach xs env)).any (·.1)) = false
    rw [plainB h2]
    rfl
theorem sl_nil : SL c cf k .nil := fun cc X G e h dr H0 => by
  cases e with
  | nil => exact pa_nil.imp fun σ H Q ⟨F, e, st, p⟩ => p F H [] Gr.refl st trivial
  | cons _ _ => exact (Bool.false_ne_true h).elim
theorem sl_cons {a es : Ex} (ha : SE c cf k a) (hr : SL c cf k es) : SL c cf k (.cons a es) := fun cc X G e h dr H0 => by
  cases e with
  | nil => exact (Bool.false_ne_true h).elim
  | cons x xs =>
    obtain ⟨h1, h3⟩ := and2 (show ((noStar x && chkE cc a x) && chkL cc es xs) = true from h)
    obtain ⟨h1, h2⟩ := and2 h1
    refine (pa_cons (ha cc X G x h2 dr H0) (hr cc X G xs h3 dr H0) (starE h1)).imp fun σ H Q ⟨F, e, st, p⟩ => ?_
    refine fzE st p fun F1 H1 v x g1 st1 r1 p => ⟨F1, e, st1, (R.post_bind p).mono fun xs p F2 H2 vs g2 st2 r2 => ?_⟩
    exact p F2 H2 (v :: vs) (g1.trans g2) st2 ⟨vrep_mono g2.le r1, r2⟩
theorem sd_nil : SD c cf k .nil := fun cc X G e h dr H0 => by
  cases e with
  | nil => exact pa_nil.imp fun σ H Q ⟨F, e, st, p⟩ => p F H [] Gr.refl st .nil
  | cons _ _ => exact (Bool.false_ne_true h).elim
theorem sd_cons {a es : Ex} (ha : SE c cf k a) (hr : SD c cf k es) : SD c cf k (.cons a es) := fun cc X G e h dr H0 => by
  cases e with
  | nil => exact (Bool.false_ne_true h).elim
  | cons x xs =>
    obtain ⟨h1, h3⟩ := and2 (show ((noStar x && chkE cc a x) && chkD cc es xs) = true from h)
    obtain ⟨h1, h2⟩ := and2 h1
    refine (pa_cons (ha cc X G x h2 dr H0) (hr cc X G xs h3 dr H0) (starE h1)).imp fun σ H Q ⟨F, e, st, p⟩ => ?_
    refine fzdE st p fun F1 H1 v x g1 st1 r1 p => ⟨F1, e, st1, (R.post_bind p).mono fun xs p F2 H2 vs g2 st2 r2 => ?_⟩
    exact p F2 H2 (v :: vs) (g1.trans g2) st2 (.cons (dp_mono g2.le _ _ r1) r2)
theorem seq_ex {x : Val} {α : Type} {k : List D → R α} {P : α → Prop} (p : ((seqV x).bind k).Post P) : ∃ l, (x = .d (.list l) ∨ x = .d (.tuple l)) ∧ (k l).Post P := by
  cases x with
  | d x => cases x with
    | list l => exact ⟨l, .inl rfl, p⟩
    | tuple l => exact ⟨l, .inr rfl, p⟩
    | _ => exact p.elim
  | dct _ => exact p.elim
  | kd _ => exact p.elim
  | row => exact p.elim
theorem sd_star {a es : Ex} (ha : SE c cf k a) (hr : SD c cf k es) : SD c cf k (.star a es) := fun cc X G e h dr H0 => by
  cases e with
  | nil => exact (Bool.false_ne_true h).elim
  | cons x xs => cases x with
    | Starred x p =>
      obtain ⟨h2, h3⟩ := and2 (show (chkE cc a x && chkD cc es xs) = true from h)
      refine (StX.pa_star (ha cc X G x h2 dr H0) (hr cc X G xs h3 dr H0) rfl).imp fun σ H Q ⟨F, e, st, p⟩ => ?_
      refine rdE st p fun F1 H1 v x g1 st1 o1 p => ?_
      obtain ⟨l, hx, p⟩ := seq_ex p
      rcases hx with hx | hx <;> rw [hx] at o1
      · obtain ⟨a, xs, rfl, h1, r1⟩ := o1.list st1
        refine ⟨a, xs, rfl, .inr (.inl (.inl h1)), F1, e, st1, (R.post_bind p).mono fun ys p F2 H2 vs g2 st2 r2 => ?_⟩
        exact p F2 H2 (xs ++ vs) (g1.trans g2) st2 (dps_app (dps_mono g2.le _ _ r1) r2)
      · obtain ⟨a, xs, rfl, h0, h1, r1⟩ := o1.tup st1
        refine ⟨a, xs, rfl, .inl (.inl (.inl h1)), F1, e, st1, (R.post_bind p).mono fun ys p F2 H2 vs g2 st2 r2 => ?_⟩
        exact p F2 H2 (xs ++ vs) (g1.trans g2) st2 (dps_app (dps_mono g2.le _ _ r1) r2)
    | _ => exact (Bool.false_ne_true h).elim
theorem so_noE : SO c cf k .noE := fun cc X G e h dr H0 => by
  cases e with
  | none => exact ⟨fun pins s σ H Q I ⟨F, e, st, p⟩ => po_none.run pins s σ H Q I (p F H Gr.refl st)⟩
  | some _ => exact (Bool.false_ne_true h).elim
theorem so_cons {a es : Ex} (ha : SE c cf k a) : SO c cf k (.cons a es) := fun cc X G e h dr H0 => by
  cases e with
  | none => exact (Bool.false_ne_true h).elim
  | some x =>
    refine ⟨fun pins s σ H Q I ⟨F, e, st, p⟩ => (po_some (ha cc X G x h dr H0)).run pins s σ H Q I ?_⟩
    refine rdE st p fun F1 H1 v x g1 st1 o1 p => ?_
    obtain ⟨i, e1, p⟩ := int_ex p
    rw [e1] at o1
    exact ⟨i, o1.int st1, p F1 H1 g1 st1⟩
/-! ### tests -/
theorem st_not {a : Ex} (ha : ST c cf k a) : ST c cf k (.not a) := fun cc X G e h dr H0 => by
  cases e with
  | UnaryOp o x p => cases o with
    | Not =>
      refine (pt_not (ha cc X G x h dr H0)).imp fun σ H Q ⟨F, e, st, p⟩ => ?_
      exact ⟨F, e, st, (R.post_bind p).mono fun b p => p⟩
    | _ => exact (Bool.false_ne_true h).elim
  | _ => exact (Bool.false_ne_true h).elim
end
end Ev

/-! The evaluator is sound: calls, tests, targets, walks, comprehensions. -/
namespace Ev
open PySem PySem.Spec PyProof.Rows L2

section
variable {c : Cf} {cf : Nat → List Val → R RV} {k : Nat} {cc : CC} {X : Cx}
variable {dr : Option Addr} {H0 F H F' H' F1 H1 Hs : Hp} {e : Env} {σ : L2.St} {Q : VK}
/-- a callee's result, at the caller -/
theorem RRep.lift {F2 H2 : Hp} (st : StOk c dr H0 F1 H1 e σ) {r : RV} {v : V} (h : RRep c dr H1 F2 H2 [] [] r v) : RRep c dr H1 F2 H2 e σ r v := by
  cases r with
  | v _ => exact h
  | b i _ =>
    have z : slotAt [] i = Slot.o _ := h.1
    cases i <;> cases z
  | o x =>
    obtain ⟨a, rfl, h1, h2, h3, h4, _⟩ := h
    exact ⟨a, rfl, h1, h2, h3, h4, st.ownlt h3⟩
theorem se_call (f : Nat) {es : Ex} (ha : SL c cf k es) : SE c cf k (.call f es) := fun cc X G e h dr H0 => by
  unfold chkE at h
  split at h
  · rename_i x p xs pos
    obtain ⟨h1, h4⟩ := and2 h
    obtain ⟨h1, h3⟩ := and2 h1
    obtain ⟨h1, h2⟩ := and2 h1
    obtain ⟨a, fd, ps, hm, hk, hb, Fn⟩ := G.fs f x (of_decide_eq_true h1)
    obtain ⟨hg, hd⟩ := G.gls h2
    have hA := ha cc X G xs h4 dr H0
    have fin : ∀ σ H Q, tE c dr H0 (dE cf (.call f es)) σ H Q → tCall (spF c (cf f)) [] C8.E0 (tL c dr H0 (dL cf es)) σ H Q := fun σ H Q ⟨F, e, st, p⟩ =>
      ⟨F, e, st, (R.post_bind p).mono fun xs p F1 H1 vs g1 st1 r1 => by
        show spF c (cf f) (vs ++ []) H1 Q C8.E0
        rw [List.append_nil]
        exact ⟨dr, F1, xs, r1, st1.fin, p.mono fun r q F2 H2 v g2 f2 r2 => q F2 H2 v (g1.trans g2) (st1.grow g2 f2) ((RRep.lift st1 r2).back g1.ext)⟩⟩
    cases xs with
    | nil =>
      refine (pe_call0 (dvs := []) (E := C8.E0) Fn G.roomk hg hm hk hb .nil C8.pass0 (dbg_ne hd).1).imp fun σ H Q w => ?_
      have w := fin σ H Q w
      cases es with
      | nil =>
        obtain ⟨F, e, st, p⟩ := w
        exact p F H [] Gr.refl st trivial
      | _ => exact (Bool.false_ne_true h4).elim
    | cons x xs =>
      obtain ⟨h5, h6⟩ := and2 (show (noStar x && xs.all noStar) = true from h3)
      exact (pe_call (dvs := []) (E := C8.E0) Fn G.roomk hg hm hk hb .nil C8.pass0 hA (dbg_ne hd).1 (starE h5) (plainB h6)).imp fin
  · cases h
theorem one_arg' {x : Expr} {te : TE} (h : noStar x = true) (he : PE X x te) : PA X [x] (tCons te tNil) := pa_cons he pa_nil (starE h)
theorem two_args {x y : Expr} {te tf : TE} (h : noStar x = true) (h' : noStar y = true) (he : PE X x te) (hf : PE X y tf) : PA X [x, y] (tCons te (tCons tf tNil)) := pa_cons he (one_arg' h' hf) (starE h)
theorem se_b1 (b : B1) {a : Ex} (ha : SE c cf k a) : SE c cf k (.b1 b a) := fun cc X G e h dr H0 => by
  unfold chkE at h
  split at h
  · rename_i x p y pos
    obtain ⟨h1, h4⟩ := and2 h
    obtain ⟨h1, h3⟩ := and2 h1
    obtain ⟨h1, h2⟩ := and2 h1
    have h1 : x = b.name := by simpa using h1
    obtain ⟨hg, hd⟩ := G.gls h2
    have hm : X.mg x = none := G.blt x (by rw [h1]; cases b <;> decide)
    have hA := one_arg' h3 (ha cc X G y h4 dr H0)
    have hB := b1_ok (c := c) (dr := dr) (H0 := H0) G.calm G.hu b
    have fin : ∀ σ H Q, tE c dr H0 (dE cf (.b1 b a)) σ H Q → tCB (rC1 c dr H0 (b1V b)) (tCons (tE c dr H0 (dE cf a)) tNil) σ H Q := fun σ H Q ⟨F, e, st, p⟩ =>
      rdE st p fun F1 H1 v x g1 st1 o1 p => ⟨v, rfl, F1, e, σ, _, st1, o1, p.mono fun r q => q.go g1⟩
    cases b with
    | len => exact (pe_callB hB hg hm (by rw [h1]; decide +kernel) hA (dbg_ne hd).2.2 (dbg_ne hd).1 (starE h3) rfl).imp fin
    | sorted => exact (pe_callB hB hg hm (by rw [h1]; decide +kernel) hA (dbg_ne hd).2.2 (dbg_ne hd).1 (starE h3) rfl).imp fin
    | sum => exact (pe_callB hB hg hm (by rw [h1]; decide +kernel) hA (dbg_ne hd).2.2 (dbg_ne hd).1 (starE h3) rfl).imp fin
    | max => exact (pe_callB hB hg hm (by rw [h1]; decide +kernel) hA (dbg_ne hd).2.2 (dbg_ne hd).1 (starE h3) rfl).imp fin
    | min => exact (pe_callB hB hg hm (by rw [h1]; decide +kernel) hA (dbg_ne hd).2.2 (dbg_ne hd).1 (starE h3) rfl).imp fin
    | abs => exact (pe_callB hB hg hm (by rw [h1]; decide +kernel) hA (dbg_ne hd).2.2 (dbg_ne hd).1 (starE h3) rfl).imp fin
    | tuple => exact (pe_callTy hB hg hm (by rw [h1]; decide +kernel) hA (dbg_ne hd).2.2 (dbg_ne hd).1 (starE h3) rfl).imp fin
    | list => exact (pe_callTy hB hg hm (by rw [h1]; decide +kernel) hA (dbg_ne hd).2.2 (dbg_ne hd).1 (starE h3) rfl).imp fin
    | int => exact (pe_callTy hB hg hm (by rw [h1]; decide +kernel) hA (dbg_ne hd).2.2 (dbg_ne hd).1 (starE h3) rfl).imp fin
  · cases h
theorem se_mx2 (least : Bool) {a b : Ex} (ha : SE c cf k a) (hb : SE c cf k b) : SE c cf k (.mx2 least a b) := fun cc X G e h dr H0 => by
  unfold chkE at h
  split at h
  · rename_i x p y z pos
    obtain ⟨h1, h6⟩ := and2 h
    obtain ⟨h1, h5⟩ := and2 h1
    obtain ⟨h1, h4⟩ := and2 h1
    obtain ⟨h1, h3⟩ := and2 h1
    obtain ⟨h1, h2⟩ := and2 h1
    obtain ⟨hg, hd⟩ := G.gls h2
    have hA := two_args h3 h4 (ha cc X G y h5 dr H0) (hb cc X G z h6 dr H0)
    have h7 : [z].all noStar = true := by show (noStar z && true) = true; rw [h4]; rfl
    cases least with
    | true =>
      have hx : x = ("min" : Str) := by simpa using h1
      have hm : X.mg x = none := G.blt x (by rw [hx]; decide)
      refine (pe_callB (mx_ok G.calm true) hg hm (by rw [hx]; decide +kernel) hA (dbg_ne hd).2.2 (dbg_ne hd).1 (starE h3) (plainB h7)).imp fun σ H Q ⟨F, e, st, p⟩ => ?_
      refine rdE st p fun F1 H1 v x g1 st1 o1 p => rdE st1 p fun F2 H2 w y g2 st2 o2 p => ?_
      obtain ⟨i, e1, p⟩ := int_ex p
      obtain ⟨j, e2, p⟩ := int_ex p
      rw [e1] at o1
      rw [e2] at o2
      exact ⟨i, j, by rw [o1.int st1, o2.int st2], Then.int st2 (Then.go (g1.trans g2) p)⟩
    | false =>
      have hx : x = ("max" : Str) := by simpa using h1
      have hm : X.mg x = none := G.blt x (by rw [hx]; decide)
      refine (pe_callB (mx_ok G.calm false) hg hm (by rw [hx]; decide +kernel) hA (dbg_ne hd).2.2 (dbg_ne hd).1 (starE h3) (plainB h7)).imp fun σ H Q ⟨F, e, st, p⟩ => ?_
      refine rdE st p fun F1 H1 v x g1 st1 o1 p => rdE st1 p fun F2 H2 w y g2 st2 o2 p => ?_
      obtain ⟨i, e1, p⟩ := int_ex p
      obtain ⟨j, e2, p⟩ := int_ex p
      rw [e1] at o1
      rw [e2] at o2
      exact ⟨i, j, by rw [o1.int st1, o2.int st2], Then.int st2 (Then.go (g1.trans g2) p)⟩
  · cases h
theorem dat_val {x : Val} {v : V} (st : StOk c dr H0 F H e σ) (o : Opd c dr F e σ x v) {α : Type} {kk : D → R α} {P : α → Prop} (p : (x.dat.bind kk).Post P) : ∃ d, Rp H v d ∧ (∀ l, d ≠ .dict l) ∧ (kk d).Post P := by
  obtain ⟨d, rfl, p⟩ := dat_ex p
  have r := o.rp st
  exact ⟨d, r, rp_nodict r, p⟩
theorem se_isI {a : Ex} (t : Ty) (ha : SE c cf k a) : SE c cf k (.isI a t) := fun cc X G e h dr H0 => by
  unfold chkE at h
  split at h
  · rename_i x p y n p2 pos
    obtain ⟨h1, h7⟩ := and2 h
    obtain ⟨h1, h6⟩ := and2 h1
    obtain ⟨h1, h5⟩ := and2 h1
    obtain ⟨h1, h4⟩ := and2 h1
    obtain ⟨h1, h3⟩ := and2 h1
    obtain ⟨h1, h2⟩ := and2 h1
    have hx : x = ("isinstance" : Str) := by simpa using h1
    have hn : n = tyName t := by simpa using h6
    obtain ⟨hg, hd⟩ := G.gls h2
    obtain ⟨hg', hd'⟩ := G.gls h7
    have hm : X.mg x = none := G.blt x (by rw [hx]; decide)
    have hm' : X.mg n = none := G.blt n (by rw [hn]; cases t <;> first | decide | exact (Bool.false_ne_true h5).elim)
    obtain ⟨T, hT, hv⟩ : ∃ T, t.names = [T] ∧ bootBuiltins n = some (.type T) := by
      rw [hn]
      cases t with
      | int => exact ⟨"int", rfl, by decide +kernel⟩
      | bool => exact ⟨"bool", rfl, by decide +kernel⟩
      | tuple => exact ⟨"tuple", rfl, by decide +kernel⟩
      | list => exact ⟨"list", rfl, by decide +kernel⟩
      | str => exact ⟨"str", rfl, by decide +kernel⟩
      | tupleOrList => exact (Bool.false_ne_true h5).elim
    have hT' : PE X (.Name n p2) (tC (.ty T)) := pe_bltn (v := .ty T) hg' hm' hv rfl (dbg_ne hd').2.2 (dbg_ne hd').1
    refine (pe_callB call_isi hg hm (by rw [hx]; exact boot_isinstance) (two_args h3 rfl (ha cc X G y h4 dr H0) hT') (dbg_ne hd).2.2 (dbg_ne hd).1 (starE h3) rfl).imp fun σ H Q ⟨F, e, st, p⟩ => ?_
    refine rdE st p fun F1 H1 v x g1 st1 o1 p => ?_
    obtain ⟨d, r, nd, p⟩ := dat_val st1 o1 p
    exact ⟨v, .ty T, _, _, _, rfl, .ty T, ty_ok r, isi_ok hT d nd, bool_end st1 g1 p⟩
  · rename_i x p y n p2 m p3 k4 p4 pos
    obtain ⟨h1, h9⟩ := and2 h
    obtain ⟨h1, h8⟩ := and2 h1
    obtain ⟨h1, h7⟩ := and2 h1
    obtain ⟨h1, h6⟩ := and2 h1
    obtain ⟨h1, h5⟩ := and2 h1
    obtain ⟨h1, h4⟩ := and2 h1
    obtain ⟨h1, h3⟩ := and2 h1
    obtain ⟨h1, h2⟩ := and2 h1
    have hx : x = ("isinstance" : Str) := by simpa using h1
    have hn : n = ("tuple" : Str) := by simpa using h6
    have hk : m = ("list" : Str) := by simpa using h7
    have h5 : t = .tupleOrList := by cases t <;> first | rfl | exact (Bool.false_ne_true h5).elim
    subst h5
    obtain ⟨hg, hd⟩ := G.gls h2
    obtain ⟨hg1, hd1⟩ := G.gls h8
    obtain ⟨hg2, hd2⟩ := G.gls h9
    have hm : X.mg x = none := G.blt x (by rw [hx]; decide)
    have hm1 : X.mg n = none := G.blt n (by rw [hn]; decide)
    have hm2 : X.mg m = none := G.blt m (by rw [hk]; decide)
    have e1 : PE X (.Name n p2) (tC (.ty "tuple")) := pe_bltn (v := .ty "tuple") hg1 hm1 (by rw [hn]; decide +kernel) rfl (dbg_ne hd1).2.2 (dbg_ne hd1).1
    have e2 : PE X (.Name m p3) (tC (.ty "list")) := pe_bltn (v := .ty "list") hg2 hm2 (by rw [hk]; decide +kernel) rfl (dbg_ne hd2).2.2 (dbg_ne hd2).1
    refine (pe_callB call_isiT hg hm (by rw [hx]; exact boot_isinstance) (two_args h3 rfl (ha cc X G y h4 dr H0) (pe_tup (two_args rfl rfl e1 e2))) (dbg_ne hd).2.2 (dbg_ne hd).1 (starE h3) rfl).imp fun σ H Q ⟨F, e, st, p⟩ => ?_
    refine rdE st p fun F1 H1 v x g1 st1 o1 p => ⟨by decide, fun q hq => ?_⟩
    obtain ⟨st2, g2⟩ := st1.newF (o := .tup [.ty "tuple", .ty "list"]) hq (fun _ z => nomatch z)
    obtain ⟨d, r, nd, p⟩ := dat_val st2 (o1.mono g2.le) p
    exact ⟨v, q, [.ty "tuple", .ty "list"], _, [.type "tuple", .type "list"], _, rfl, upd_same, .cons (.ty _) (.cons (.ty _) .nil), ty_ok r, isi2_ok d nd, bool_end st2 (g1.trans g2) p⟩
  · cases h

/-! ### tests -/
theorem pw_of {op : BoolOp} {vs : List Expr} {p : Pos} {t : TT} (h : PT X (.BoolOp op vs p) t) : PW X (.BoolOp op vs p) t := ⟨fun _ pins s σ H Q I w => h.run pins s σ H Q I w⟩
theorem st_and {a b : Ex} (ha : ST c cf k a) (hb : ST c cf k b) : ST c cf k (.and a b) := fun cc X G e h dr H0 => by
  obtain ⟨x, y, r, p, rfl, h1, h2⟩ := andT_shape h
  have fin : ∀ σ H Q, tT c dr H0 (dT cf (.and a b)) σ H Q → tAnd (tT c dr H0 (dT cf a)) (tT c dr H0 (dT cf b)) σ H Q := fun σ H Q ⟨F, e, st, p⟩ => by
    refine ⟨F, e, st, (R.post_bind p).mono fun b' p F1 H1 g1 st1 => ?_⟩
    cases b' with
    | true => exact ⟨F1, e, st1, R.Post.mono p fun b' q F2 H2 g2 st2 => q F2 H2 (g1.trans g2) st2⟩
    | false => exact p F1 H1 g1 st1
  rcases h2 with ⟨rfl, h2⟩ | h2
  · exact (pw_and (ha cc X G x h1 dr H0) (pw_and1 (hb cc X G y h2 dr H0))).pt.imp fin
  · exact (pw_and (ha cc X G x h1 dr H0) (pw_of (hb cc X G _ h2 dr H0))).pt.imp fin
theorem st_or {a b : Ex} (ha : ST c cf k a) (hb : ST c cf k b) : ST c cf k (.or a b) := fun cc X G e h dr H0 => by
  obtain ⟨x, y, r, p, rfl, h1, h2⟩ := orT_shape h
  have fin : ∀ σ H Q, tT c dr H0 (dT cf (.or a b)) σ H Q → tOr (tT c dr H0 (dT cf a)) (tT c dr H0 (dT cf b)) σ H Q := fun σ H Q ⟨F, e, st, p⟩ => by
    refine ⟨F, e, st, (R.post_bind p).mono fun b' p F1 H1 g1 st1 => ?_⟩
    cases b' with
    | false => exact ⟨F1, e, st1, R.Post.mono p fun b' q F2 H2 g2 st2 => q F2 H2 (g1.trans g2) st2⟩
    | true => exact p F1 H1 g1 st1
  rcases h2 with ⟨rfl, h2⟩ | h2
  · exact (pw_or (ha cc X G x h1 dr H0) (pw_or1 (hb cc X G y h2 dr H0))).pt.imp fin
  · exact (pw_or (ha cc X G x h1 dr H0) (pw_of (hb cc X G _ h2 dr H0))).pt.imp fin
theorem st_cmp (op : Cm) {a b : Ex} (ha : SE c cf k a) (hb : SE c cf k b) : ST c cf k (.cmp op a b) := fun cc X G e h dr H0 => by
  cases e with
  | Compare x os ys p => match os, ys, h with
    | [o], [y], h =>
      obtain ⟨h1, h4⟩ := and2 (show (((cmB op o && noSet y) && chkE cc a x) && chkE cc b y) = true from h)
      obtain ⟨h1, h3⟩ := and2 h1
      obtain ⟨h1, h2⟩ := and2 h1
      cases cmB_eq h1
      refine (pt_cmpR (cmp_ok (c := c) (dr := dr) (H0 := H0) G.hu op) (ha cc X G x h3 dr H0) (hb cc X G y h4 dr H0) (noset h2)).imp fun σ H Q ⟨F, e, st, p⟩ => ?_
      exact rdE st p fun F1 H1 v x g1 st1 o1 p => rdE st1 p fun F2 H2 w y g2 st2 o2 p =>
        ⟨F2, e, σ, _, _, st2, o1.mono g2.le, o2, p.mono fun r q => ⟨r, rfl, q F2 H2 (g1.trans g2) st2⟩⟩
    | [], _, h => exact (Bool.false_ne_true h).elim
    | _ :: _ :: _, _, h => exact (Bool.false_ne_true h).elim
    | [_], [], h => exact (Bool.false_ne_true h).elim
    | [_], _ :: _ :: _, h => exact (Bool.false_ne_true h).elim
  | _ => exact (Bool.false_ne_true h).elim
theorem st_isN (no : Bool) {a : Ex} (ha : SE c cf k a) : ST c cf k (.isN no a) := fun cc X G e h dr H0 => by
  have h : chkE cc (.isN no a) e = true := h
  obtain ⟨x, j, q, p, rfl, h⟩ := isN_shape h
  cases no with
  | false =>
    refine (pt_cmpR op_isN (ha cc X G x h dr H0) pe_non (nomark _)).imp fun σ H Q ⟨F, e, st, p⟩ => ?_
    refine rdE st p fun F1 H1 v x g1 st1 o1 p => ?_
    exact ⟨rfl, _, rfl, isN_val st1 o1 (R.post_bind p) F1 H1 g1 st1⟩
  | true =>
    refine (pt_cmpR op_notN (ha cc X G x h dr H0) pe_non (nomark _)).imp fun σ H Q ⟨F, e, st, p⟩ => ?_
    refine rdE st p fun F1 H1 v x g1 st1 o1 p => ?_
    exact ⟨rfl, _, rfl, isN_val st1 o1 (R.post_bind p) F1 H1 g1 st1⟩
theorem st_isB (no : Bool) (v : Bool) {a : Ex} (ha : SE c cf k a) : ST c cf k (.isB no a v) := fun cc X G e h dr H0 => by
  have h : chkE cc (.isB no a v) e = true := h
  obtain ⟨x, j, q, p, ee, hh⟩ := isB_shape h
  subst ee
  cases no with
  | false =>
    refine (pt_cmpR op_isBl (ha cc X G x hh dr H0) pe_bl (nomark _)).imp fun σ H Q ⟨F, e, st, p⟩ => ?_
    refine rdE st p fun F1 H1 w x g1 st1 o1 p => ?_
    obtain ⟨y, e1, q⟩ := isB_val st1 o1 (R.post_bind p)
    exact ⟨y, v, e1, rfl, _, rfl, q F1 H1 g1 st1⟩
  | true =>
    refine (pt_cmpR op_notBl (ha cc X G x hh dr H0) pe_bl (nomark _)).imp fun σ H Q ⟨F, e, st, p⟩ => ?_
    refine rdE st p fun F1 H1 w x g1 st1 o1 p => ?_
    obtain ⟨y, e1, q⟩ := isB_val st1 o1 (R.post_bind p)
    exact ⟨y, v, e1, rfl, _, rfl, q F1 H1 g1 st1⟩
theorem st_chain (op op' : Cm) {a b d : Ex} (ha : SE c cf k a) (hb : SE c cf k b) (hd : SE c cf k d) : ST c cf k (.chain op op' a b d) := fun cc X G e h dr H0 => by
  have h : chkE cc (.chain op op' a b d) e = true := h
  obtain ⟨x, y, z, p, rfl, h0, h1, h2, h3⟩ := chain_shape h
  refine (pt_chain (cmp_ok (c := c) (dr := dr) (H0 := H0) G.hu op) (cmp_ok (c := c) (dr := dr) (H0 := H0) G.hu op') (ha cc X G x h1 dr H0) (hb cc X G y h2 dr H0) (hd cc X G z h3 dr H0) (noset h0)).imp fun σ H Q ⟨F, e, st, p⟩ => ?_
  refine rdE st p fun F1 H1 v x g1 st1 o1 p => rdE st1 p fun F2 H2 w y g2 st2 o2 p =>
    ⟨F2, e, σ, _, _, st2, o1.mono g2.le, o2, (R.post_bind p).mono fun r q => ⟨r, rfl, ?_⟩⟩
  cases r with
  | false => exact ⟨false, rfl, q F2 H2 (g1.trans g2) st2⟩
  | true =>
    exact rdE st2 q fun F3 H3 u z g3 st3 o3 p =>
      ⟨F3, e, σ, _, _, st3, o2.mono g3.le, o3, p.mono fun r q => ⟨r, rfl, q F3 H3 ((g1.trans g2).trans g3) st3⟩⟩
theorem st_tst {a : Ex} (ha : SE c cf k a) : ST c cf k (.tst a) := fun cc X G e h dr H0 => by
  obtain ⟨h1, h2⟩ := and2 (show (plainT e && chkE cc a e) = true from h)
  refine (pt_truth (ha cc X G e h2 dr H0) (fun wh => ?_)).imp fun σ H Q ⟨F, e, st, p⟩ => ?_
  · cases e with
    | UnaryOp o x p => cases o <;> first | rfl | exact (Bool.false_ne_true h1).elim
    | _ => first | rfl | exact (Bool.false_ne_true h1).elim
  · refine rdE st p fun F1 H1 v x g1 st1 o1 p => ?_
    obtain ⟨k', t, p⟩ := tru_val st1 o1 p X.K
    exact ⟨k', t, p F1 H1 g1 st1⟩

/-! ### targets -/
theorem Good.loc (G : Good c cf k cc X) {i : Nat} {x : Str} (h : cc.isLoc i x = true) : X.N[i]? = some x ∧ Loc X.env.scope x ∧ (X.fn x = true ∨ X.env.scope.names.lookup x = some .local) := by
  obtain ⟨h1, h2⟩ := and2 h
  have h1 : cc.N[i]? = some x := of_decide_eq_true h1
  rw [← G.N] at h1
  rw [G.fn, G.sc]
  split at h2
  · rename_i z
    exact ⟨h1, .inl z, .inr z⟩
  · rename_i z
    exact ⟨h1, .inr z, .inl h2⟩
  · cases h2
def gNames : List Nat → TGs
  | [] => gNil
  | i :: is => gCons (gName i) (gNames is)
def gTg (K : PySem.W.Frag) : Tg → TG
  | .name i => gName i
  | .tup is => gTup K is.length (gNames is)
def tgIx : Tg → List Nat
  | .name i => [i]
  | .tup is => is
theorem pgs_names (G : Good c cf k cc X) : ∀ {is : List Nat} {es : List Expr}, cc.tgNames is es = true → PGs X es (gNames is) ∧ (assignEach es X.env).length = is.length ∧ (assignEach es X.env).findIdx? (·.1) = none
  | [], [], _ => ⟨pgs_nil, rfl, rfl⟩
  | [], _ :: _, h => (Bool.false_ne_true h).elim
  | _ :: _, [], h => (Bool.false_ne_true h).elim
  | i :: is, e :: es, h => by
    cases e with
    | Name x p =>
      obtain ⟨h1, h2⟩ := and2 (show (cc.isLoc i x && cc.tgNames is es) = true from h)
      obtain ⟨l1, l2, l3⟩ := G.loc h1
      obtain ⟨i1, i2, i3⟩ := pgs_names G h2
      refine ⟨pgs_cons (pg_name G.nd l1 l2 l3) i1 rfl, congrArg Nat.succ i2, ?_⟩
      show ((false, assign (.Name x p) X.env) :: assignEach es X.env).findIdx? (·.1) = none
      rw [List.findIdx?_cons, i3]
      rfl
    | _ => exact (Bool.false_ne_true h).elim
theorem pg_tg (G : Good c cf k cc X) {tg : Tg} {t : Expr} (h : cc.tg tg t = true) : PG X t (gTg X.K tg) := by
  cases tg with
  | name i => cases t with
    | Name x p =>
      obtain ⟨l1, l2, l3⟩ := G.loc (i := i) (x := x) h
      exact pg_name G.nd l1 l2 l3
    | _ => exact (Bool.false_ne_true h).elim
  | tup is => cases t with
    | Tuple es n p =>
      obtain ⟨i1, i2, i3⟩ := pgs_names G (show cc.tgNames is es = true from h)
      exact pg_tup G.calm i1 i2 i3
    | _ => exact (Bool.false_ne_true h).elim
theorem StOk.setV' (st : StOk c dr H0 F H e σ) (i : Nat) {x : Val} {v : V} (r : VRep c dr F x v) : StOk c dr H0 F H (setAt e i (.v x)) (σ.set i (some v)) := by
  by_cases hi : i < σ.length
  · exact st.setV hi r
  · rw [set_out e i _ (by rw [st.len]; omega), List.set_eq_of_length_le (by omega)]
    exact st
def setMany : L2.St → List Nat → List V → L2.St
  | σ, i :: is, v :: vs => setMany (σ.set i (some v)) is vs
  | σ, _, _ => σ
theorem setMany_len : ∀ (is : List Nat) (vs : List V) (σ : L2.St), (setMany σ is vs).length = σ.length
  | [], _, _ => rfl
  | _ :: _, [], _ => rfl
  | i :: is, v :: vs, σ => by
    show (setMany (σ.set i (some v)) is vs).length = _
    rw [setMany_len is vs, List.length_set]
theorem setMany_out : ∀ (is : List Nat) (vs : List V) (σ : L2.St) (j : Nat), j ∉ is → (setMany σ is vs)[j]? = σ[j]?
  | [], _, _, _, _ => rfl
  | _ :: _, [], _, _, _ => rfl
  | i :: is, v :: vs, σ, j, h => by
    show (setMany (σ.set i (some v)) is vs)[j]? = _
    rw [setMany_out is vs _ j (fun z => h (List.mem_cons_of_mem _ z)), List.getElem?_set_ne (fun z => h (by rw [z]; exact List.mem_cons_self))]
theorem gNames_run : ∀ (is : List Nat) (vs : List V) (σ : L2.St) (H : Hp) (W : L2.St → Hp → Prop), is.length = vs.length → W (setMany σ is vs) H → gNames is vs σ H W
  | [], [], _, _, _, _, w => ⟨rfl, w⟩
  | [], _ :: _, _, _, _, h, _ => by cases h
  | _ :: _, [], _, _, _, h, _ => by cases h
  | i :: is, v :: vs, σ, H, W, h, w => ⟨v, vs, rfl, gNames_run is vs (σ.set i (some v)) H W (Nat.succ.inj h) w⟩
theorem setAll_ok : ∀ (is : List Nat) (ds : List D) (vs : List V) {e : Env} {σ : L2.St} {P : Env → Prop}, StOk c dr H0 F H e σ → Rps F vs ds → (setAll e is ds).Post P → ∃ e', StOk c dr H0 F H e' (setMany σ is vs) ∧ P e' ∧ is.length = vs.length
  | [], [], _, e, σ, P, st, r, p => by
    cases r
    exact ⟨e, st, p, rfl⟩
  | [], _ :: _, _, _, _, _, _, _, p => p.elim
  | _ :: _, [], _, _, _, _, _, _, p => p.elim
  | i :: is, d :: ds, _, e, σ, P, st, r, p => by
    cases r with
    | cons r1 r2 =>
      obtain ⟨e', h1, h2, h3⟩ := setAll_ok is ds _ (st.setV' i (x := .d d) r1) r2 p
      exact ⟨e', h1, h2, congrArg Nat.succ h3⟩
theorem tg_ok {K : PySem.W.Frag} {tg : Tg} {v : V} {d : D} {P : Env → Prop} {W : L2.St → Hp → Prop} (st : StOk c dr H0 F H e σ) (y : Yl F H v H' d) (p : (setTg e tg d).Post P)
    (cont : ∀ F' e' σ', StOk c dr H0 F' H' e' σ' → Gr c dr F H F' H' → P e' → (∀ j, j ∉ tgIx tg → σ'[j]? = σ[j]?) → σ'.length = σ.length → W σ' H') : gTg K tg v σ H' W := by
  have one : ∀ {F' : Hp}, StOk c dr H0 F' H' e σ → Gr c dr F H F' H' → Rp F' v d → gTg K tg v σ H' W := fun {F'} st' g r => by
    cases tg with
    | name i => exact cont F' _ _ (st'.setV' i (x := .d d) r) g p (fun j hj => List.getElem?_set_ne (fun z => hj (by rw [z]; exact List.mem_cons_self))) List.length_set
    | tup is =>
      cases d with
      | tuple ds =>
        cases r with
        | @tup a xs _ h1 h2 =>
          obtain ⟨e', h3, h4, h5⟩ := setAll_ok is ds xs st' h2 p
          exact ⟨a, xs, rfl, .inl (.inl (st'.le _ _ h1)), h5.symm, gNames_run is xs σ H' W h5 (cont F' e' _ h3 g h4 (setMany_out is xs σ) (setMany_len is xs σ))⟩
      | _ => exact p.elim
  rcases y with ⟨rfl, r⟩ | ⟨q, ts, ds, rfl, hq, rfl, rfl, r⟩
  · exact one st Gr.refl r
  · obtain ⟨st', g⟩ := st.newF (o := .tup ts) hq (fun _ z => nomatch z)
    exact one st' g (.tup upd_same (dps_mono g.le _ _ r))
end
end Ev

/-! The evaluator is sound: what is walked; comprehensions. -/
namespace Ev
open PySem PySem.Spec PyProof.Rows L2

theorem R.Post.ex {α : Type} : ∀ {r : R α} {P : α → Prop}, r.Post P → ∃ a, P a
  | .ok a, _, h => ⟨a, h⟩
  | .stuck, _, h => h.elim
  | .draw m k, _, h => (h.2 0 h.1).ex
section
variable {c : Cf} {cf : Nat → List Val → R RV} {k : Nat} {cc : CC} {X : Cx}
variable {dr : Option Addr} {H0 F H F' H' F1 H1 Hs : Hp} {e : Env} {σ : L2.St} {Q : VK}
theorem _root_.L2.PI.imp {X : Cx} {t e : Expr} {w w' : TI} (h : PI X t e w) (q : ∀ σ H R, w' σ H R → w σ H R) : PI X t e w' := ⟨fun pins s σ H R I z => h.run pins s σ H R I (q σ H R z)⟩
theorem small_ex {i : Int} {α : Type} {m : R α} {P : α → Prop} (p : (match smallI i with | true => m | false => .stuck).Post P) : -(2 ^ 62) ≤ i ∧ i < 2 ^ 62 ∧ m.Post P := by
  cases q : smallI i with
  | false => rw [q] at p; exact p.elim
  | true =>
    rw [q] at p
    unfold smallI at q
    rw [nblt] at q
    have q := of_decide_eq_true q
    cases i with
    | ofNat n =>
      have : n < 1000000 := q
      refine ⟨?_, ?_, p⟩ <;> rw [Int.ofNat_eq_natCast] <;> omega
    | negSucc n =>
      have : n + 1 < 1000000 := q
      refine ⟨?_, ?_, p⟩ <;> rw [Int.negSucc_eq] <;> omega
theorem small2_ex {i j : Int} {α : Type} {m : R α} {P : α → Prop} (p : (match smallI i, smallI j with | true, true => m | _, _ => .stuck).Post P) : -(2 ^ 62) ≤ i ∧ i < 2 ^ 62 ∧ -(2 ^ 62) ≤ j ∧ j < 2 ^ 62 ∧ m.Post P := by
  cases q : smallI i with
  | false => rw [q] at p; exact p.elim
  | true =>
    cases q' : smallI j with
    | false => rw [q, q'] at p; exact p.elim
    | true =>
      rw [q, q'] at p
      obtain ⟨l1, l2, _⟩ := small_ex (i := i) (m := m) (P := P) (by rw [q]; exact p)
      obtain ⟨l3, l4, _⟩ := small_ex (i := j) (m := m) (P := P) (by rw [q']; exact p)
      exact ⟨l1, l2, l3, l4, p⟩
theorem natOf_toNat (i : Int) : natOf i = i.toNat := by cases i <;> rfl
theorem si_irng1 {a : Ex} (ha : SE c cf k a) : SI c cf k (.irng1 a) := fun cc X G t e h dr H0 => by
  unfold chkI at h
  split at h
  · rename_i x p y pos
    obtain ⟨h1, h4⟩ := and2 h
    obtain ⟨h1, h3⟩ := and2 h1
    obtain ⟨h1, h2⟩ := and2 h1
    have hx : x = ("range" : Str) := by simpa using h1
    subst hx
    obtain ⟨hg, _⟩ := G.gls h2
    refine (pi_range1 hg (G.blt _ (by decide)) (one_arg' h3 (ha cc X G y h4 dr H0)) (starE h3)).imp fun σ H R' ⟨F, e, st, p⟩ => ?_
    refine rdE st p fun F1 H1 v x g1 st1 o1 p => ?_
    obtain ⟨i, e1, p⟩ := int_ex p
    rw [e1] at o1
    obtain ⟨l1, l2, p⟩ := small_ex p
    refine ⟨i, by rw [o1.int st1], l1, l2, p F1 H1 _ g1 st1 ?_⟩
    rw [natOf_toNat]
    exact walk_rng 0 _
  · cases h
theorem si_irng2 {a b : Ex} (ha : SE c cf k a) (hb : SE c cf k b) : SI c cf k (.irng2 a b) := fun cc X G t e h dr H0 => by
  unfold chkI at h
  split at h
  · rename_i x p y z pos
    obtain ⟨h1, h6⟩ := and2 h
    obtain ⟨h1, h5⟩ := and2 h1
    obtain ⟨h1, h4⟩ := and2 h1
    obtain ⟨h1, h3⟩ := and2 h1
    obtain ⟨h1, h2⟩ := and2 h1
    have hx : x = ("range" : Str) := by simpa using h1
    subst hx
    obtain ⟨hg, _⟩ := G.gls h2
    refine (pi_range2 hg (G.blt _ (by decide)) (two_args h3 h4 (ha cc X G y h5 dr H0) (hb cc X G z h6 dr H0)) (by rw [starE h3, starE h4]; rfl) (starE h4)).imp fun σ H R' ⟨F, e, st, p⟩ => ?_
    refine rdE st p fun F1 H1 v x g1 st1 o1 p => rdE st1 p fun F2 H2 w y g2 st2 o2 p => ?_
    obtain ⟨i, e1, p⟩ := int_ex p
    obtain ⟨j, e2, p⟩ := int_ex p
    rw [e1] at o1
    rw [e2] at o2
    obtain ⟨l1, l2, l3, l4, p⟩ := small2_ex p
    refine ⟨i, j, by rw [o1.int st1, o2.int st2], ⟨l1, l2, l3, l4⟩, p F2 H2 _ (g1.trans g2) st2 ?_⟩
    rw [natOf_toNat]
    exact walk_rng i _
  · cases h
/-- a sequence that was given away -/
theorem seq_val {x : Val} {v : V} (st : StOk c dr H0 F H e σ) (r : VRep c dr F x v) {α : Type} {kk : List D → R α} {P : α → Prop} (p : ((seqV x).bind kk).Post P) : ∃ l kd a xs, v = .ref a ∧ Sq F kd a xs ∧ Sq H kd a xs ∧ Rps F xs l ∧ (kk l).Post P := by
  obtain ⟨l, hx, p⟩ := seq_ex p
  rcases hx with hx | hx <;> subst hx
  · cases (show Rp F v (.list l) from r) with
    | @lst a xs _ h1 h2 => exact ⟨l, .l, a, xs, rfl, h1, st.le _ _ h1, h2, p⟩
  · cases (show Rp F v (.tuple l) from r) with
    | @tup a xs _ h1 h2 => exact ⟨l, .t, a, xs, rfl, h1, st.le _ _ h1, h2, p⟩
theorem sq_mono {kd : Kd} {a : Addr} {xs : List V} (l : Le F F1) (h : Sq F kd a xs) : Sq F1 kd a xs := by
  cases kd <;> exact l _ _ h
theorem R.bind_ok {α : Type} : ∀ (r : R α), r.bind .ok = r
  | .ok _ => rfl
  | .stuck => rfl
  | .draw m f => by
    show R.draw m (fun v => (f v).bind .ok) = _
    congr 1
    funext v
    exact R.bind_ok (f v)
theorem si_iseq {a : Ex} (ha : SE c cf k a) : SI c cf k (.iseq a) := fun cc X G t e h dr H0 => by
  refine (pi_seq (ha cc X G e h dr H0)).imp fun σ H R' ⟨F, e, st, p⟩ => ?_
  refine fzE st p fun F1 H1 v x g1 st1 r1 p => ?_
  rw [← R.bind_ok (seqV x)] at p
  obtain ⟨l, kd, a, xs, rfl, h0, h1, h2, p⟩ := seq_val st1 r1 p
  refine ⟨a, rfl, ?_⟩
  cases kd with
  | l => exact .inl ⟨⟨xs, h1⟩, p F1 H1 _ g1 st1 (walk_list h0 h2)⟩
  | t => exact .inr ⟨⟨xs, h1⟩, p F1 H1 _ g1 st1 (walk_tup h0 h2)⟩
theorem istup {t : Expr} (h : isTup t = true) : ∃ es n p, t = .Tuple es n p := by
  cases t <;> first | exact ⟨_, _, _, rfl⟩ | exact (Bool.false_ne_true h).elim
theorem si_ienum {a : Ex} (ha : SE c cf k a) : SI c cf k (.ienum a) := fun cc X G t e h dr H0 => by
  unfold chkI at h
  split at h
  · rename_i x p y pos
    obtain ⟨h1, h5⟩ := and2 h
    obtain ⟨h1, h4⟩ := and2 h1
    obtain ⟨h1, h3⟩ := and2 h1
    obtain ⟨h1, h2⟩ := and2 h1
    have ht := istup h1
    have hx : x = ("enumerate" : Str) := by simpa using h2
    subst hx
    obtain ⟨es, n, p', rfl⟩ := ht
    obtain ⟨hg, _⟩ := G.gls h3
    refine (pi_enumK hg (G.blt _ (by decide)) (ha cc X G y h5 dr H0) (starE h4)).imp fun σ H R' ⟨F, e, st, p⟩ => ?_
    refine fzE st p fun F1 H1 v x g1 st1 r1 p => ?_
    obtain ⟨l, kd, a, xs, rfl, h0, h1, h2, p⟩ := seq_val st1 r1 p
    exact ⟨kd, a, xs, rfl, h1, p F1 H1 _ g1 st1 (walk_enum h0 h2)⟩
  · cases h
theorem si_izip {a b : Ex} (ha : SE c cf k a) (hb : SE c cf k b) : SI c cf k (.izip a b) := fun cc X G t e h dr H0 => by
  unfold chkI at h
  split at h
  · rename_i x p y z pos
    obtain ⟨h1, h7⟩ := and2 h
    obtain ⟨h1, h6⟩ := and2 h1
    obtain ⟨h1, h5⟩ := and2 h1
    obtain ⟨h1, h4⟩ := and2 h1
    obtain ⟨h1, h3⟩ := and2 h1
    obtain ⟨h1, h2⟩ := and2 h1
    have ht := istup h1
    have hx : x = ("zip" : Str) := by simpa using h2
    subst hx
    obtain ⟨es, n, p', rfl⟩ := ht
    obtain ⟨hg, _⟩ := G.gls h3
    refine (pi_zipK hg (G.blt _ (by decide)) (ha cc X G y h6 dr H0) (hb cc X G z h7 dr H0) (starE h4) (starE h5)).imp fun σ H R' ⟨F, e, st, p⟩ => ?_
    refine fzE st p fun F1 H1 v x g1 st1 r1 p => fzE st1 p fun F2 H2 w y g2 st2 r2 p => ?_
    obtain ⟨l, kd, a, xs, rfl, h0, h1, h2, p⟩ := seq_val st2 (vrep_mono g2.le r1) p
    obtain ⟨l', kd', a', xs', rfl, h0', h1', h2', p⟩ := seq_val st2 r2 p
    exact ⟨kd, kd', a, a', xs, xs', rfl, rfl, h1, h1', p F2 H2 _ (g1.trans g2) st2 (walk_zip h0 h0' h2 h2')⟩
  · cases h

/-! ### comprehensions -/
theorem loopL_if : ∀ (xs : List D) (tg : Tg) (e0 : Env) (elt : Env → R D), loopL xs tg e0 elt = loopIf xs tg e0 elt fun _ => .ok true
  | [], _, _, _ => rfl
  | x :: xs, tg, e0, elt => by
    unfold loopL loopIf
    congr 1
    funext e
    show _ = (elt e).bind _
    congr 1
    funext y
    rw [loopL_if xs]
theorem wipe_in {σ : L2.St} {i : Nat} : ∀ {vs : List Nat}, i ∈ vs → i < σ.length → (L2.wipe σ vs)[i]? = some none
  | [], h, _ => by simp at h
  | v :: vs, h, hl => by
    show ((L2.wipe σ vs).set v none)[i]? = _
    by_cases hv : i = v
    · rw [hv]
      exact List.getElem?_set_self (by rw [wipe_length, ← hv]; exact hl)
    · rw [List.getElem?_set_ne (Ne.symm hv)]
      exact wipe_in ((List.mem_cons.mp h).resolve_left hv) hl
theorem wipe_same {σ σ' : L2.St} {vs : List Nat} (h : ∀ j, j ∉ vs → σ'[j]? = σ[j]?) (l : σ'.length = σ.length) : L2.wipe σ' vs = L2.wipe σ vs := by
  apply List.ext_getElem?
  intro j
  by_cases hj : j ∈ vs
  · by_cases hl : j < σ.length
    · rw [wipe_in hj hl, wipe_in hj (by rw [l]; exact hl)]
    · rw [List.getElem?_eq_none (by rw [wipe_length]; omega), List.getElem?_eq_none (by rw [wipe_length]; omega)]
  · rw [wipe_out hj, wipe_out hj, h j hj]
theorem wipe_twice (σ : L2.St) (vs : List Nat) : L2.wipe (L2.wipe σ vs) vs = L2.wipe σ vs := wipe_same (fun j hj => wipe_out hj) (wipe_length σ vs)
theorem inOwn_mem {own : List Nat} {tg : Tg} (h : inOwn own tg = true) : ∀ j, j ∉ own → j ∉ tgIx tg := fun j hj z => by
  cases tg with
  | name i =>
    have h : own.contains i = true := h
    rw [List.mem_singleton.mp z] at hj
    exact hj (by simpa using h)
  | tup is =>
    have h : is.all own.contains = true := h
    exact hj (by simpa using List.all_eq_true.mp h j z)
theorem Fin.put {D : Addr} {xs ys : List V} (f : Fin c dr F H) (g : Gr c dr F1 H1 F H) (h1 : H1 D = none) (hn : ¬ Spc c dr D) (fd : F D = none) (ch : Chg H D) : Fin c dr F (upd H D (.lst ys)) ∧ Gr c dr F1 H1 F (upd H D (.lst ys)) := by
  refine ⟨⟨fun b o hb => ?_, f.nsp, wd_upd f.wd hn ch⟩, ⟨g.le, ⟨fun b o hb n t => ?_, fun b ps hb => ?_⟩, g.nw⟩⟩
  · rw [upd_ne (ne_of_none hb fd)]
    exact f.le b o hb
  · rw [upd_ne (ne_of_none hb h1)]
    exact g.ext.at' b o hb n t
  · rw [upd_ne (ne_of_none hb h1)]
    exact g.ext.tb b ps hb
/-- the comprehension's loop -/
theorem lc_ok {K : PySem.W.Frag} {tt : TT} {own : List Nat} {tg : Tg} {f : Env → R (List D)} {elt : Env → R RV} {cnd : Env → R Bool} (htt : ∀ σ H R', tT c dr H0 cnd σ H R' → tt σ H R') (ho : inOwn own tg = true) (st : StOk c dr H0 F H e σ)
    (p : ((f e).bind fun xs => (loopIf xs tg (wipeE e own) (fun e1 => (elt e1).bind fzD) cnd).bind newL).Post (Then c dr H0 F H e σ Q)) : tLc (tI c dr H0 f) (gTg K tg) tt (tE c dr H0 elt) own σ H Q := by
  refine ⟨F, e, st, (R.post_bind p).mono fun ds p F1 H1 J g1 st1 wk D hD => ?_⟩
  have p := R.post_bind p
  have stw := st1.wipe own
  have nD := st1.nspc hD
  have fD := st1.fnone hD
  have hDs : H D = none := by
    cases q : H D with
    | none => rfl
    | some o =>
      obtain ⟨o', e'⟩ := g1.ext.there q nD
      rw [e'] at hD
      cases hD
  refine ⟨fun i m H2 => m = ds.length - i ∧ i ≤ ds.length ∧ ∃ F2 acc dacc, Gr c dr F1 H1 F2 H2 ∧ Fin c dr F2 H2 ∧ F2 D = none ∧ H2 D = some (.lst acc) ∧ Rps F2 acc dacc ∧
    (loopIf (ds.drop i) tg (wipeE e own) (fun e1 => (elt e1).bind fzD) cnd).Post fun ys => (newL (dacc ++ ys)).Post (Then c dr H0 F H e σ Q), ⟨ds.length, by simp, Nat.zero_le _, F1, [], [], ?_, ?_, fD, upd_same, .nil, p⟩, ?_⟩
  · exact (st1.newO hD).2
  · exact (st1.newO hD).1.fin
  · rintro i m H2 ⟨rfl, hi, F2, acc, dacc, g2, f2, fd, hd, r2, p⟩
    by_cases hlt : i < ds.length
    · refine .inr ?_
      rw [List.drop_eq_getElem_cons hlt] at p
      have wk := (wk i H2 (g2.le.trans f2.le)).1 ds[i] (by simp [hlt])
      refine ⟨wk.1, fun H' => ds.length - (i + 1) = ds.length - (i + 1) ∧ i + 1 ≤ ds.length ∧ ∃ F2 acc dacc, Gr c dr F1 H1 F2 H' ∧ Fin c dr F2 H' ∧ F2 D = none ∧ H' D = some (.lst acc) ∧ Rps F2 acc dacc ∧
        (loopIf (ds.drop (i + 1)) tg (wipeE e own) (fun e1 => (elt e1).bind fzD) cnd).Post fun ys => (newL (dacc ++ ys)).Post (Then c dr H0 F H e σ Q), fun H' h => ⟨ds.length - (i + 1), by omega, h⟩, fun x H3 y => ?_⟩
      have y := wk.2 x H3 y
      have y : Yl F2 H2 x H3 ds[i] := by
        rcases y with ⟨h1, h2⟩ | ⟨q, ts, es, h1, h2, h3, h4, h5⟩
        · exact .inl ⟨h1, dp_mono g2.le _ _ h2⟩
        · exact .inr ⟨q, ts, es, h1, h2, h3, h4, dps_mono g2.le _ _ h5⟩
      have st2 := stw.grow g2 f2
      refine tg_ok st2 y (R.post_bind p) fun F3 e3 σ3 st3 g3 p hw hl => ⟨(wipe_same (fun j hj => hw j (inOwn_mem ho j hj)) hl).trans (wipe_twice _ _), htt _ _ _ ⟨F3, e3, st3, (R.post_bind p).mono fun b p F4 H4 g4 st4 => ?_⟩⟩
      have g24 := g3.trans g4
      cases b with
      | false =>
        have hd4 := g24.ext.at' D _ hd nD (fun _ z => nomatch z)
        have fd4 := g24.nw D (.inl (by rw [hd]; exact fun z => nomatch z)) fd
        exact ⟨rfl, hlt, F4, acc, dacc, g2.trans g24, st4.fin, fd4, hd4, dps_mono g24.le _ _ r2, p⟩
      | true =>
        have p : ((elt e3).bind fun x => (fzD x).bind fun y => (loopIf (ds.drop (i + 1)) tg (wipeE e own) (fun e1 => (elt e1).bind fzD) cnd).bind fun ys => .ok (y :: ys)).Post _ :=
          R.post_bind' ((R.post_bind (R.post_bind p)).mono fun x p => R.post_bind' p)
        refine fzdE st4 p fun F5 H5 v y g5 st5 r5 p => ?_
        have g25 := g24.trans g5
        have hd5 := g25.ext.at' D _ hd nD (fun _ z => nomatch z)
        have fd5 := g25.nw D (.inl (by rw [hd]; exact fun z => nomatch z)) fd
        have p := R.post_bind p
        obtain ⟨ys, q⟩ := p.ex
        have q := (few_ex (l := dacc ++ y :: ys) (m := R.ok (RV.o (.d (.list (dacc ++ y :: ys))))) q).1
        have hz : acc.length < sizeLine := by
          have h1 := dps_len r2
          have h2 := lim_line
          rw [List.length_append, List.length_cons] at q
          omega
        obtain ⟨f6, g6⟩ := st5.fin.put (ys := acc ++ [v]) (xs := acc) (g2.trans g25) hD nD fd5 (chg_lst hd5)
        refine ⟨acc, hd5, hz, rfl, hlt, F5, acc ++ [v], dacc ++ [y], g6, f6, fd5, upd_same, dps_app (dps_mono g25.le _ _ r2) (.cons r5 .nil), p.mono fun ys q => ?_⟩
        rw [List.append_assoc]
        exact q
    · have e1 : i = ds.length := by omega
      subst e1
      refine .inl ⟨(wk _ H2 (g2.le.trans f2.le)).2 rfl, ?_⟩
      rw [List.drop_length] at p
      have p : (newL (dacc ++ [])).Post _ := p
      rw [List.append_nil] at p
      obtain ⟨_, p⟩ := few_ex p
      exact p F2 H2 (.ref D) (g1.trans g2) (st1.grow g2 f2) ⟨D, rfl, fd, nD, hDs, ⟨dacc, acc, rfl, hd, r2⟩, st1.ownlt hD⟩
theorem Good.blk (G : Good c cf k cc X) {scope : Scope} (hk : scope.kind = .function) (s : Shared) (H : Hp) (C : Addr) (cl : List (Str × Addr)) (fp : List Addr) : Good c cf k (cc.blk scope) (X.blk s H scope (compEnvC scope cl C X.env) fp) := by
  have hs : (compEnvC scope cl C X.env).scope = relS scope X.env.scope := rfl
  have gd : (cc.blk scope).gd = 2 ∧ cc.gd = 2 ∨ (cc.blk scope).gd = 0 := by
    show (match cc.gd with | 2 => 2 | _ => 0) = 2 ∧ cc.gd = 2 ∨ (match cc.gd with | 2 => 2 | _ => 0) = 0
    split
    · rename_i q
      exact .inl ⟨rfl, q⟩
    · exact .inr rfl
  refine ⟨G.K, G.w, G.N, G.nd, by show (compEnvC scope cl C X.env).scope = relS scope cc.sc; rw [hs, G.sc], hk, rfl, G.calm, G.room.mono ?_, by rcases gd with ⟨q, _⟩ | q <;> rw [q] <;> decide, fun z => ?_, rfl, G.blt, G.gl, G.fs⟩
  · rcases gd with ⟨q1, q2⟩ | q
    · rw [q1, q2]
      exact Nat.le_refl _
    · rw [q]
      exact Nat.le_add_right _ _
  · rcases gd with ⟨q1, q2⟩ | q
    · obtain ⟨cd, P, h1, h2, h3, h4⟩ := G.tab (by rw [q2]; decide)
      refine ⟨cd, P, h1, h2, h3, .inl ?_⟩
      rcases h4 with h4 | ⟨h4, _⟩
      · exact h4
      · rw [q2] at h4
        cases h4
    · exact absurd q z
theorem own_ix (N : List Str) : ∀ own : List Nat, (ownOf N own).map (·.2) = own
  | [] => rfl
  | i :: is => by
    show i :: (ownOf N is).map (·.2) = _
    rw [own_ix N is]
theorem set_iter {e : Expr} (h : noSet e = true) (env : PySem.Env) (x : Value) : foldedSetIterable e env x = pure x := by
  cases e <;> first | rfl | exact (Bool.false_ne_true h).elim
theorem lc_shape {own : List Nat} {tg : Tg} {it elt : Ex} {e : Expr} (h : chkE cc (.lc own tg it elt) e = true) : ∃ x t i scope p, e = .ListComp x [⟨t, i, [], 0⟩] scope p ∧ blkC cc.N cc.sc scope (ownOf cc.N own) = true ∧ inOwn own tg = true ∧ noSet i = true ∧
    (cc.blk scope).tg tg t = true ∧ chkI cc it t i = true ∧ chkE (cc.blk scope) elt x = true := by
  unfold chkE at h
  split at h
  · obtain ⟨h1, h6⟩ := and2 h
    obtain ⟨h1, h5⟩ := and2 h1
    obtain ⟨h1, h4⟩ := and2 h1
    obtain ⟨h1, h3⟩ := and2 h1
    obtain ⟨h1, h2⟩ := and2 h1
    exact ⟨_, _, _, _, _, rfl, h1, h2, h3, h4, h5, h6⟩
  · cases h
theorem lcIf_shape {own : List Nat} {tg : Tg} {it elt cn : Ex} {e : Expr} (h : chkE cc (.lcIf own tg it elt cn) e = true) : ∃ x t i cx scope p, e = .ListComp x [⟨t, i, [cx], 0⟩] scope p ∧ blkC cc.N cc.sc scope (ownOf cc.N own) = true ∧ inOwn own tg = true ∧ noSet i = true ∧
    (cc.blk scope).tg tg t = true ∧ chkI cc it t i = true ∧ chkE (cc.blk scope) elt x = true ∧ chkT (cc.blk scope) cn cx = true := by
  unfold chkE at h
  split at h
  · obtain ⟨h1, h7⟩ := and2 h
    obtain ⟨h1, h6⟩ := and2 h1
    obtain ⟨h1, h5⟩ := and2 h1
    obtain ⟨h1, h4⟩ := and2 h1
    obtain ⟨h1, h3⟩ := and2 h1
    obtain ⟨h1, h2⟩ := and2 h1
    exact ⟨_, _, _, _, _, _, rfl, h1, h2, h3, h4, h5, h6, h7⟩
  · cases h
/-- the comprehension's parts, for the rules -/
structure LcP (X : Cx) (tg : Tg) (x t i : Expr) (ifs : List Expr) (scope : Scope) (own : List (Str × Nat)) (wi : TI) (tt : TT) (te : TE) : Prop where
  it : PI X t i wi
  ok : BlkOk X.N X.env.scope scope own
  g : ∀ (s : Shared) (H : Hp) (C : Addr) (cl : List (Str × Addr)) (fp : List Addr), PG (X.blk s H scope (compEnvC scope cl C X.env) fp) t (gTg X.K tg)
  t : ∀ (s : Shared) (H : Hp) (C : Addr) (cl : List (Str × Addr)) (fp : List Addr), PTs (X.blk s H scope (compEnvC scope cl C X.env) fp) ifs tt
  e : ∀ (s : Shared) (H : Hp) (C : Addr) (cl : List (Str × Addr)) (fp : List Addr), PE (X.blk s H scope (compEnvC scope cl C X.env) fp) x te
  s : ∀ z, foldedSetIterable i X.env z = pure z
theorem lc_parts {own : List Nat} {tg : Tg} {it elt : Ex} (hi : SI c cf k it) (he : SE c cf k elt) (G : Good c cf k cc X) (dr : Option Addr) (H0 : Hp) {x t i : Expr} {scope : Scope} (h1 : blkC cc.N cc.sc scope (ownOf cc.N own) = true) (h3 : noSet i = true)
    (h4 : (cc.blk scope).tg tg t = true) (h5 : chkI cc it t i = true) (h6 : chkE (cc.blk scope) elt x = true) : LcP X tg x t i [] scope (ownOf cc.N own) (tI c dr H0 (dI cf it)) tYes (tE c dr H0 (dE cf elt)) := by
  have ok := blkOk_by h1
  rw [← G.N, ← G.sc] at ok
  refine ⟨hi cc X G t i h5 dr H0, by rw [← G.N]; exact ok, fun s H C cl fp => pg_tg (G.blk ok.kind s H C cl fp) h4, fun s H C cl fp => pts_nil, fun s H C cl fp => he _ _ (G.blk ok.kind s H C cl fp) x h6 dr H0, set_iter h3 _⟩
theorem lcIf_parts {own : List Nat} {tg : Tg} {it elt cn : Ex} (hi : SI c cf k it) (he : SE c cf k elt) (hc : ST c cf k cn) (G : Good c cf k cc X) (dr : Option Addr) (H0 : Hp) {x t i cx : Expr} {scope : Scope} (h1 : blkC cc.N cc.sc scope (ownOf cc.N own) = true) (h3 : noSet i = true)
    (h4 : (cc.blk scope).tg tg t = true) (h5 : chkI cc it t i = true) (h6 : chkE (cc.blk scope) elt x = true) (h7 : chkT (cc.blk scope) cn cx = true) : LcP X tg x t i [cx] scope (ownOf cc.N own) (tI c dr H0 (dI cf it)) (tT c dr H0 (dT cf cn)) (tE c dr H0 (dE cf elt)) := by
  have ok := blkOk_by h1
  rw [← G.N, ← G.sc] at ok
  refine ⟨hi cc X G t i h5 dr H0, by rw [← G.N]; exact ok, fun s H C cl fp => pg_tg (G.blk ok.kind s H C cl fp) h4, fun s H C cl fp => pts_one (hc _ _ (G.blk ok.kind s H C cl fp) cx h7 dr H0), fun s H C cl fp => he _ _ (G.blk ok.kind s H C cl fp) x h6 dr H0, set_iter h3 _⟩
theorem lc_read {own : List Nat} {tg : Tg} {it elt : Ex} (ho : inOwn own tg = true) : ∀ σ H Q, tE c dr H0 (dE cf (.lc own tg it elt)) σ H Q → tLc (tI c dr H0 (dI cf it)) (gTg X.K tg) tYes (tE c dr H0 (dE cf elt)) ((ownOf cc.N own).map (·.2)) σ H Q := fun σ H Q ⟨F, e, st, p⟩ => by
  rw [own_ix]
  refine lc_ok (f := dI cf it) (elt := dE cf elt) (cnd := fun _ => .ok true) (fun σ H R' ⟨F, e, st, p⟩ => p F H Gr.refl st) ho st ?_
  have p : ((dI cf it e).bind fun xs => (loopL xs tg (wipeE e own) fun e1 => (dE cf elt e1).bind fzD).bind newL).Post _ := p
  have e1 : (fun xs => (loopL xs tg (wipeE e own) fun e1 => (dE cf elt e1).bind fzD).bind newL) = fun xs => (loopIf xs tg (wipeE e own) (fun e1 => (dE cf elt e1).bind fzD) fun _ => .ok true).bind newL := by
    funext xs
    rw [loopL_if]
  rw [e1] at p
  exact p
theorem lcIf_read {own : List Nat} {tg : Tg} {it elt cn : Ex} (ho : inOwn own tg = true) : ∀ σ H Q, tE c dr H0 (dE cf (.lcIf own tg it elt cn)) σ H Q → tLc (tI c dr H0 (dI cf it)) (gTg X.K tg) (tT c dr H0 (dT cf cn)) (tE c dr H0 (dE cf elt)) ((ownOf cc.N own).map (·.2)) σ H Q := fun σ H Q ⟨F, e, st, p⟩ => by
  rw [own_ix]
  exact lc_ok (f := dI cf it) (elt := dE cf elt) (cnd := fun e1 => dT cf cn e1) (fun σ H R' h => h) ho st p
theorem se_lc (own : List Nat) (tg : Tg) {it elt : Ex} (hi : SI c cf k it) (he : SE c cf k elt) : SE c cf k (.lc own tg it elt) := fun cc X G e h dr H0 => by
  obtain ⟨x, t, i, scope, p, rfl, h1, h2, h3, h4, h5, h6⟩ := lc_shape h
  have P := lc_parts hi he G dr H0 h1 h3 h4 h5 h6
  exact (pe_lc G.calm G.nd P.it P.ok P.g P.t P.e P.s).imp (lc_read (X := X) h2)
theorem se_lcIf (own : List Nat) (tg : Tg) {it elt cn : Ex} (hi : SI c cf k it) (he : SE c cf k elt) (hc : ST c cf k cn) : SE c cf k (.lcIf own tg it elt cn) := fun cc X G e h dr H0 => by
  obtain ⟨x, t, i, cx, scope, p, rfl, h1, h2, h3, h4, h5, h6, h7⟩ := lcIf_shape h
  have P := lcIf_parts hi he hc G dr H0 h1 h3 h4 h5 h6 h7
  exact (pe_lc G.calm G.nd P.it P.ok P.g P.t P.e P.s).imp (lcIf_read (X := X) h2)
end
end Ev

/-! The evaluator is sound: statements, blocks. -/
namespace Ev
open PySem PySem.Spec PyProof.Rows L2

section
variable {c : Cf} {cf : Nat → List Val → R RV} {k : Nat} {cc : CC} {X : Cx}
variable {dr : Option Addr} {H0 F H F' H' F0 F1 H1 Hs : Hp} {e : Env} {σ : L2.St} {Q : VK} {D : Ends}
theorem PostS.mono {o : Out} (l : Le F F1) (h : PostS c dr H0 F0 F D o) : PostS c dr H0 F0 F1 D o := by
  cases o with
  | nx e' => exact fun F' H' σ' l' => h F' H' σ' (l.trans l')
  | bk e' => exact fun F' H' σ' l' => h F' H' σ' (l.trans l')
  | rt r => exact fun F' H' σ' e' v l' => h F' H' σ' e' v (l.trans l')
theorem StOk.setO' (st : StOk c dr H0 F H e σ) (i : Nat) {x : Val} {v : V} (x0 : Ext c dr H0 Hs) (r : RRep c dr Hs F H e σ (.o x) v) : StOk c dr H0 F H (setAt e i (.o x)) (σ.set i (some v)) := by
  by_cases hi : i < σ.length
  · exact st.setO hi x0 r
  · rw [set_out e i _ (by rw [st.len]; omega), List.set_eq_of_length_le (by omega)]
    exact st
/-! ### one name -/
theorem asg_read (i : Nat) {a : Ex} : ∀ D σ H, tS c dr H0 F0 (dS cf (.asg (.name i) a)) D σ H → tAsg (tE c dr H0 (dE cf a)) (gName i) D σ H := fun D σ H ⟨F, e, st, g, p⟩ =>
  ⟨F, e, st, (R.post_bind p).mono fun r p F1 H1 v g1 st1 r1 => by
    cases r with
    | v x => exact p F1 H1 _ g1.le (st1.setV' i r1) (g.trans g1)
    | o x => exact p F1 H1 _ g1.le (st1.setO' i st.ext r1) (g.trans g1)
    | b j x => exact p.elim⟩
theorem sw_no {e : Expr} (h : noComp e = true) (t : Option Expr) (l : Nat) (env : PySem.Env) : swapsWith e t l env = pure false := by
  cases e <;> first | rfl | exact (Bool.false_ne_true h).elim
theorem sw_lc (G : Good c cf k cc X) {x : Expr} {gs : List Comprehension} {scope : Scope} {p py : Pos} {y : Str} (l : Nat) (h : swB cc y py (.ListComp x gs scope p) = false) : swapsWith (.ListComp x gs scope p) (some (.Name y py)) l X.env = pure false := by
  have hb : X.env.blockKind = .function := by unfold Env.blockKind; rw [G.kind]; rfl
  have ky : X.env.kindOf y = cc.sc.names.lookup y := by unfold Env.kindOf; rw [G.sc]
  unfold swapsWith
  have h : ((match cc.sc.names.lookup y with | some .local => true | _ => false) && py.line == p.line && !(scope.names.any fun (n, k) => n == y && (k == .local || k == .cell))) = false := h
  simp only [hb, ky, Expr.pos]
  show (pure _ : Sem Bool) = pure false
  congr 1
  split at h
  · rename_i z
    rw [z]
    simpa using h
  · rename_i z
    cases q : cc.sc.names.lookup y with
    | none => rfl
    | some kk => cases kk <;> first | rfl | exact absurd q z
theorem ss_asg1 (i : Nat) {a : Ex} (ha : SE c cf k a) (hlc : ∀ own tg it elt, a = .lc own tg it elt → SI c cf k it ∧ SE c cf k elt) (hlf : ∀ own tg it elt cn, a = .lcIf own tg it elt cn → SI c cf k it ∧ SE c cf k elt ∧ ST c cf k cn) : SS c cf k (.asg (.name i) a) := fun cc X G e h dr H0 F0 => by
  unfold chkS at h
  split at h
  · rename_i t e pos
    obtain ⟨h1, _⟩ := and2 h
    obtain ⟨h1, h3⟩ := and2 h1
    obtain ⟨h1, h2⟩ := and2 h1
    cases t with
    | Name x p =>
      obtain ⟨l1, l2, l3⟩ := G.loc (i := i) (x := x) h1
      by_cases hn : noComp e = true
      · exact (ps_set G.nd l1 l2 (ha cc X G e h2 dr H0) (sw_no hn _ _ _) l3).imp (asg_read i)
      · have hn : noComp e = false := by simpa using hn
        rw [hn] at h3
        cases e with
        | ListComp y gs scope p2 =>
          cases hs : swB cc x p (.ListComp y gs scope p2) with
          | false => exact (ps_set G.nd l1 l2 (ha cc X G _ h2 dr H0) (sw_lc G _ hs) l3).imp (asg_read i)
          | true =>
            unfold swB at hs
            obtain ⟨s1, s3⟩ := and2 hs
            obtain ⟨s1, s2⟩ := and2 s1
            have hy : X.env.scope.names.lookup x = some .local := by
              rw [G.sc]
              split at s1
              · assumption
              · cases s1
            have sw := sw_true (elt := y) (gs := gs) (l := pos.line) (env := X.env) G.kind hy s2 (by simpa using s3)
            cases a with
            | lc own tg it elt =>
              obtain ⟨hi, he⟩ := hlc own tg it elt rfl
              obtain ⟨x', t, i', scope', p', q, k1, k2, k3, k4, k5, k6⟩ := lc_shape h2
              cases q
              have P := lc_parts hi he G dr H0 k1 k3 k4 k5 k6
              exact (ps_setLc G.calm G.nd l1 hy sw P.it P.ok P.g P.t P.e P.s).imp fun D σ H w => lc_read (X := X) k2 _ _ _ (asg_read i D σ H w)
            | lcIf own tg it elt cn =>
              obtain ⟨hi, he, hc⟩ := hlf own tg it elt cn rfl
              obtain ⟨x', t, i', cx, scope', p', q, k1, k2, k3, k4, k5, k6, k7⟩ := lcIf_shape h2
              cases q
              have P := lcIf_parts hi he hc G dr H0 k1 k3 k4 k5 k6 k7
              exact (ps_setLc G.calm G.nd l1 hy sw P.it P.ok P.g P.t P.e P.s).imp fun D σ H w => lcIf_read (X := X) k2 _ _ _ (asg_read i D σ H w)
            | isN no a => obtain ⟨_, _, _, _, q, _⟩ := isN_shape h2; cases q
            | isB no a v => obtain ⟨_, _, _, _, q, _⟩ := isB_shape h2; cases q
            | isI a t =>
              unfold chkE at h2
              split at h2
              · rename_i q; cases q
              · rename_i q; cases q
              · cases h2
            | _ => exact (Bool.false_ne_true h2).elim
        | _ => exact (Bool.false_ne_true h3).elim
    | _ => exact (Bool.false_ne_true h1).elim
  · cases h
/-- (a, b) = e -/
theorem sw_none {ts : List Expr} {n : Nat} {p : Pos} {e : Expr} (h : isTup e = false) (env : PySem.Env) : swappedStores [.Tuple ts n p] e env = pure none := by
  cases e <;> first | rfl | exact (Bool.false_ne_true h.symm).elim
theorem ss_asgT (is : List Nat) {a : Ex} (ha : SE c cf k a) : SS c cf k (.asg (.tup is) a) := fun cc X G e h dr H0 F0 => by
  unfold chkS at h
  split at h
  · rename_i t e pos
    obtain ⟨h1, h4⟩ := and2 h
    obtain ⟨h1, _⟩ := and2 h1
    obtain ⟨h1, h2⟩ := and2 h1
    obtain ⟨h4, h5⟩ := and2 h4
    cases t with
    | Tuple es n p =>
      refine (ps_asg (ha cc X G e h2 dr H0) (pg_tg G h1) (by unfold swapsWithSole; exact sw_no h4 _ _ _) (sw_none (by simpa using h5) _)).imp fun D σ H ⟨F, e, st, g, p⟩ => ?_
      refine fzdE st p fun F1 H1 v x g1 st1 r1 p => ?_
      exact tg_ok st1 (.inl ⟨rfl, r1⟩) (R.post_bind p) fun F2 e2 σ2 st2 g2 p _ _ => p F2 H1 σ2 (g1.le.trans g2.le) st2 ((g.trans g1).trans g2)
    | _ => exact (Bool.false_ne_true h1).elim
  · cases h
/-! ### several names at once -/
theorem sr_nil : SR c cf k .nil := fun cc X G e h dr H0 => by
  cases e with
  | nil => exact pa_nil.imp fun σ H Q ⟨F, e, st, p⟩ => p F H [] Gr.refl st trivial
  | cons _ _ => exact (Bool.false_ne_true h).elim
theorem Sto.back {r : RV} {v : V} (h : Sto c dr H1 F H e σ r v) (x : Ext c dr Hs H1) : Sto c dr Hs F H e σ r v := by
  cases r with
  | v _ => exact h
  | o y => exact RRep.back (r := .o y) h x
  | b _ _ => exact h
theorem Stores.back : ∀ {rs : List RV} {vs : List V}, Stores c dr H1 F H e σ rs vs → Ext c dr Hs H1 → Stores c dr Hs F H e σ rs vs
  | [], [], _, _ => trivial
  | _ :: _, _ :: _, h, x => ⟨h.1.back x, h.2.1, Stores.back h.2.2 x⟩
  | [], _ :: _, h, _ => h.elim
  | _ :: _, [], h, _ => h.elim
theorem Stores.new : ∀ {rs : List RV} {vs : List V}, Stores c dr Hs F H e σ rs vs → ∀ (j : Nat) (y : Val) (a : Addr), rs[j]? = some (.o y) → vs[j]? = some (.ref a) → Hs a = none
  | [], _, _, j, _, _, h, _ => by simp at h
  | _ :: _, [], h, _, _, _, _, _ => h.elim
  | r :: rs, v :: vs, h, 0, y, a, h1, h2 => by
    simp at h1 h2
    subst h1 h2
    obtain ⟨b, e1, _, _, h3, _⟩ := h.1
    cases e1
    exact h3
  | _ :: _, _ :: _, h, j + 1, y, a, h1, h2 => Stores.new h.2.2 j y a (by simpa using h1) (by simpa using h2)
theorem sr_cons {a es : Ex} (ha : SE c cf k a) (hr : SR c cf k es) : SR c cf k (.cons a es) := fun cc X G e h dr H0 => by
  cases e with
  | nil => exact (Bool.false_ne_true h).elim
  | cons x xs =>
    obtain ⟨h1, h3⟩ := and2 (show ((noStar x && chkE cc a x) && chkR cc es xs) = true from h)
    obtain ⟨h1, h2⟩ := and2 h1
    refine (pa_cons (ha cc X G x h2 dr H0) (hr cc X G xs h3 dr H0) (starE h1)).imp fun σ H Q ⟨F, e, st, p⟩ => ?_
    refine ⟨F, e, st, (R.post_bind p).mono fun r p F1 H1 v g1 st1 r1 => ⟨F1, e, st1, (R.post_bind p).mono fun rs p F2 H2 vs g2 st2 r2 => ?_⟩⟩
    have own : ∀ x a, r = .o x → v = .ref a → ∃ o, H1 a = some o ∧ ¬ Spc c dr a := fun x a e1 e2 => by
      subst e1 e2
      obtain ⟨b, e1, _, ns, _, o, _⟩ := r1
      cases e1
      obtain ⟨ob, ho⟩ := orep_some o
      exact ⟨ob, ho, ns⟩
    refine p F2 H2 (v :: vs) (g1.trans g2) st2 ⟨?_, fun x a e1 e2 j y h1 h2 => ?_, r2.back g1.ext⟩
    · cases r with
      | v x => exact vrep_mono (c := c) g2.le r1
      | b i x => exact trivial
      | o x =>
        obtain ⟨b, rfl, f1, ns, h1, o, no⟩ := r1
        obtain ⟨ob, ho⟩ := orep_some o
        exact ⟨b, rfl, g2.nw b (.inl (by rw [ho]; exact fun z => nomatch z)) f1, ns, h1, orep_mono g2.le o (orep_at g2.ext o ns), no⟩
    · obtain ⟨o, ho, ns⟩ := own x a e1 e2
      have z := Stores.new r2 j y a h1 h2
      rw [ho] at z
      cases z
theorem setVals_ok : ∀ (is : List Nat) (rs : List RV) (vs : List V) {e : Env} {σ : L2.St} {P : Env → Prop}, StOk c dr H0 F H e σ → Ext c dr H0 Hs → Stores c dr Hs F H e σ rs vs → (setVals e is rs).Post P → ∃ e', StOk c dr H0 F H e' (setMany σ is vs) ∧ P e' ∧ is.length = vs.length
  | [], [], [], e, σ, P, st, _, r, p => ⟨e, st, p, rfl⟩
  | [], [], _ :: _, _, _, _, _, _, r, _ => r.elim
  | [], _ :: _, _, _, _, _, _, _, _, p => p.elim
  | _ :: _, [], _, _, _, _, _, _, _, p => p.elim
  | i :: is, r :: rs, [], _, _, _, _, _, h, _ => h.elim
  | i :: is, r :: rs, v :: vs, e, σ, P, st, x0, h, p => by
    have go : ∀ (s : Slot), StOk c dr H0 F H (setAt e i s) (σ.set i (some v)) → (∀ y, s = .o y → ∃ a, v = .ref a ∧ r = .o y) → (setVals (setAt e i s) is rs).Post P → ∃ e', StOk c dr H0 F H e' (setMany σ (i :: is) (v :: vs)) ∧ P e' ∧ (i :: is).length = (v :: vs).length := fun s st' hs p => by
      have hh : Stores c dr Hs F H (setAt e i s) (σ.set i (some v)) rs vs := by
        have key : ∀ (rs' : List RV) (vs' : List V), (∀ (y : Val) (a : Addr), s = .o y → v = .ref a → ∀ (j : Nat) (y' : Val), rs'[j]? = some (.o y') → vs'[j]? ≠ some (.ref a)) → Stores c dr Hs F H e σ rs' vs' → Stores c dr Hs F H (setAt e i s) (σ.set i (some v)) rs' vs' := by
          intro rs'
          induction rs' with
          | nil =>
            intro vs' _ h
            cases vs' with
            | nil => trivial
            | cons _ _ => exact h.elim
          | cons r' rs' ih =>
            intro vs' hd h
            cases vs' with
            | nil => exact h.elim
            | cons v' vs' =>
              refine ⟨?_, h.2.1, ih vs' (fun y a e1 e2 j y' h1 h2 => hd y a e1 e2 (j + 1) y' (by simpa using h1) (by simpa using h2)) h.2.2⟩
              have h1 := h.1
              cases r' with
              | v x => exact h1
              | b _ _ => exact trivial
              | o x =>
                obtain ⟨b, rfl, f1, ns, hb, o, no⟩ := h1
                refine ⟨b, rfl, f1, ns, hb, o, fun j y q1 q2 => ?_⟩
                by_cases hi : i < e.length
                · rw [slot_set e i j s hi] at q1
                  rw [sget (by rw [← st.len]; exact hi)] at q2
                  by_cases hj : j = i
                  · rw [if_pos hj] at q1 q2
                    cases q2
                    exact hd y b q1 rfl 0 x rfl rfl
                  · rw [if_neg hj] at q1 q2
                    exact no j y q1 q2
                · rw [set_out e i s (by omega)] at q1
                  rw [List.set_eq_of_length_le (by rw [← st.len]; omega)] at q2
                  exact no j y q1 q2
        refine key rs vs (fun y a e1 e2 j y' h1 h2 => ?_) h.2.2
        obtain ⟨_, _, er⟩ := hs y e1
        exact h.2.1 y a er e2 j y' h1 h2
      obtain ⟨e', q1, q2, q3⟩ := setVals_ok is rs vs st' x0 hh p
      exact ⟨e', q1, q2, congrArg Nat.succ q3⟩
    cases r with
    | v x => exact go (.v x) (st.setV' i h.1) (fun y z => nomatch z) p
    | o x =>
      refine go (.o x) (st.setO' i x0 h.1) (fun y z => ?_) p
      cases z
      obtain ⟨a, e1, _⟩ := h.1
      exact ⟨a, e1, rfl⟩
    | b j x => exact p.elim
/-- names by slot, all plain locals -/
inductive NmOk (X : Cx) : List Nat → List Str → Prop
  | nil : NmOk X [] []
  | cons {i : Nat} {is : List Nat} {x : Str} {xs : List Str} : X.N[i]? = some x → X.env.scope.names.lookup x = some .local → NmOk X is xs → NmOk X (i :: is) (x :: xs)
theorem NmOk.app : ∀ {is js : List Nat} {xs ys : List Str}, NmOk X is xs → NmOk X js ys → NmOk X (is ++ js) (xs ++ ys)
  | _, _, _, _, .nil, h => h
  | _, _, _, _, .cons a b r, h => .cons a b (r.app h)
theorem NmOk.rev : ∀ {is : List Nat} {xs : List Str}, NmOk X is xs → NmOk X is.reverse xs.reverse
  | _, _, .nil => .nil
  | _, _, .cons a b r => by
    rw [List.reverse_cons, List.reverse_cons]
    exact r.rev.app (.cons a b .nil)
theorem NmOk.len : ∀ {is : List Nat} {xs : List Str}, NmOk X is xs → is.length = xs.length
  | _, _, .nil => rfl
  | _, _, .cons _ _ r => congrArg Nat.succ r.len
theorem stores_run {pins : List (Addr × Obj)} {Q : Unit → Shared → Prop} (G : Good c cf k cc X) : ∀ {is : List Nat} {ns : List Str} {vs : List V} {us : List Value} {s : Shared} {σ : L2.St}, NmOk X is ns → Vals vs us → is.length = vs.length → Inv X pins σ H s →
    (∀ s', Inv X pins (setMany σ is vs) H s' → Q () s') → wpAny (model X.prog X.w) X.A (assignInOrder (ns.map fun n => bindName X.env n) us) Q X.xe s
  | _, _, _, _, s, σ, .nil, .nil, _, I, q => assignInOrder_nil (q s I)
  | _, _, _, _, _, _, .nil, .cons _ _, h, _, _ => by cases h
  | _, _, _, _, _, _, .cons _ _ _, .nil, h, _, _ => by cases h
  | _, _, _, _, s, σ, .cons a b r, .cons rv rr, h, I, q =>
    assignInOrder_cons (wpAny_bindName (store_ok I G.nd a (.inl b) rv (fun s2 I2 => stores_run G r rr (Nat.succ.inj h) I2 q) (.inr b)))
theorem setMany_comm : ∀ (is : List Nat) (vs : List V) (σ : L2.St) (i : Nat) (v : Option V), i ∉ is → setMany (σ.set i v) is vs = (setMany σ is vs).set i v
  | [], _, _, _, _, _ => rfl
  | _ :: _, [], _, _, _, _ => rfl
  | j :: is, w :: vs, σ, i, v, h => by
    show setMany ((σ.set i v).set j (some w)) is vs = (setMany (σ.set j (some w)) is vs).set i v
    rw [List.set_comm _ _ (fun z => h (by rw [z]; exact List.mem_cons_self)), setMany_comm is vs _ i v (fun z => h (List.mem_cons_of_mem _ z))]
theorem setMany_snoc : ∀ (is : List Nat) (vs : List V) (σ : L2.St) (i : Nat) (v : V), is.length = vs.length → setMany σ (is ++ [i]) (vs ++ [v]) = (setMany σ is vs).set i (some v)
  | [], [], _, _, _, _ => rfl
  | [], _ :: _, _, _, _, h => by cases h
  | _ :: _, [], _, _, _, h => by cases h
  | j :: is, w :: vs, σ, i, v, h => setMany_snoc is vs (σ.set j (some w)) i v (Nat.succ.inj h)
theorem setMany_rev : ∀ (is : List Nat) (vs : List V) (σ : L2.St), is.Nodup → is.length = vs.length → setMany σ is.reverse vs.reverse = setMany σ is vs
  | [], [], _, _, _ => rfl
  | [], _ :: _, _, _, h => by cases h
  | _ :: _, [], _, _, h => by cases h
  | i :: is, v :: vs, σ, hn, h => by
    obtain ⟨h1, h2⟩ := List.nodup_cons.mp hn
    rw [List.reverse_cons, List.reverse_cons, setMany_snoc _ _ _ _ _ (by simpa using Nat.succ.inj h), setMany_rev is vs σ h2 (Nat.succ.inj h)]
    exact (setMany_comm is vs σ i (some v) h1).symm
/-- a, b, .. = x, y, .. stored from the right -/
theorem ps_parN (G : Good c cf k cc X) {is : List Nat} {names : List Str} {ts vs : List Expr} {ta : TA} {pos pt : Pos} {kt k2 pt2} (hn : NmOk X is names) (hd : is.Nodup) (ha : PA X vs ta)
    (hw : swappedStores [.Tuple ts kt pt] (.Tuple vs k2 pt2) X.env = pure (some names)) :
    PS X (.Assign [.Tuple ts kt pt] (.Tuple vs k2 pt2) pos) (fun D σ H => ta σ H fun xs H1 => xs.length = is.length ∧ xs.length ≤ sizeLine ∧ D.nx (setMany σ is xs) H1) := by
  refine ⟨fun pins s σ H D I h => ?_⟩
  rw [exec_Assign_arm]
  refine wpAny_bind (wpAny_standAt ?_)
  have hs : swapsWithSole [.Tuple ts kt pt] (.Tuple vs k2 pt2) pos.line X.env = pure false := rfl
  rw [hs]
  refine wpAny_bind (wpAny_pure ?_)
  rw [if_neg (by decide)]
  refine wpAny_bind (Tuple_ (thn (ha.run _ pins s σ H _ I h) fun us s1 ⟨xs, H1, I1, r1, hl, hz, q1⟩ => ?_))
  refine wpAny_newObj_type ?_ (by show us.toArray.size ≤ sizeLine; rw [List.size_toArray, ← r1.length]; exact hz)
  have I2 : Inv X pins σ H1 { s1 with heap := s1.heap.push { cls := .type "tuple", data := .seq us.toArray } } := I1.kept (t' := s1.toks) fun b o e => Heap.get?_push_of_some _ e
  rw [hw]
  refine wpAny_bind (wpAny_pure ?_)
  show wpAny (model X.prog X.w) X.A (do rule "assign.swapped-stores"; let items ← unpackItems (.ref s1.heap.objs.size) names.length none; assignInOrder (names.reverse.map fun n => bindName X.env n) items.reverse; pure Flow.next) _ _ _
  have hln : names.length = us.toArray.size := by rw [← hn.len, ← hl, r1.length]; simp
  rw [hln]
  refine wpAny_bind (wpAny_rule (wpAny_bind (unpackItems_tuple (items := us.toArray) (I.ok.hd G.calm) (IsTup.new s1.heap _) fun h' hx' => ?_)))
  have I3 := I2.kept (h' := h') (t' := s1.toks) fun b o e => hx' b o (Nat.ne_of_lt (Heap.lt_size e)) e
  refine wpAny_bind (stores_run G hn.rev (by simpa using Vals.reverse r1) (by simpa using hl.symm) I3 fun s2 I4 => wpAny_pure ?_)
  rw [setMany_rev is xs σ hd hl.symm] at I4
  exact ⟨_, H1, I4, q1⟩
end
end Ev

/-! The evaluator is sound: pairs of names, lists grown, control, blocks; the whole. -/
namespace Ev
open PySem PySem.Spec PyProof.Rows L2

section
variable {c : Cf} {cf : Nat → List Val → R RV} {k : Nat} {cc : CC} {X : Cx}
variable {dr : Option Addr} {H0 F H F' H' F0 F1 H1 Hs : Hp} {e : Env} {σ : L2.St} {Q : VK}
def nmF (sc : Scope) (line : Nat) : Expr → Option Str
  | .Name id pos => if (sc.names.lookup id == some .local) && pos.line == line then some id else none
  | _ => none
theorem nm_len (sc : Scope) (line : Nat) : ∀ ts : List Expr, (ts.filterMap (nmF sc line)).length ≤ ts.length
  | [] => Nat.le_refl _
  | t :: ts => by
    rw [List.filterMap_cons]
    have := nm_len sc line ts
    cases nmF sc line t with
    | none => exact Nat.le_succ_of_le this
    | some x => exact Nat.succ_le_succ this
theorem nm_ok (G : Good c cf k cc X) (line : Nat) : ∀ {is : List Nat} {ts : List Expr}, cc.tgNames is ts = true → (ts.filterMap (nmF cc.sc line)).length = ts.length → NmOk X is (ts.filterMap (nmF cc.sc line))
  | [], [], _, _ => .nil
  | [], _ :: _, h, _ => (Bool.false_ne_true h).elim
  | _ :: _, [], h, _ => (Bool.false_ne_true h).elim
  | i :: is, t :: ts, h, hl => by
    cases t with
    | Name x p =>
      obtain ⟨h1, h2⟩ := and2 (show (cc.isLoc i x && cc.tgNames is ts) = true from h)
      rw [List.filterMap_cons] at hl ⊢
      cases q : nmF cc.sc line (.Name x p) with
      | none =>
        rw [q] at hl
        have := nm_len cc.sc line ts
        simp at hl
        omega
      | some y =>
        rw [q] at hl
        have q' : (if ((cc.sc.names.lookup x == some .local) && p.line == line) = true then some x else none) = some y := q
        split at q'
        · rename_i z
          cases q'
          obtain ⟨z1, _⟩ := and2 z
          exact .cons (G.loc h1).1 (by rw [G.sc]; simpa using z1) (nm_ok G line h2 (by simpa using hl))
        · cases q'
    | _ => exact (Bool.false_ne_true h).elim
theorem any_star : ∀ vs : List Expr, (vs.any fun | .Starred .. => true | _ => false) = !vs.all noStar
  | [] => rfl
  | v :: vs => by
    rw [List.any_cons, List.all_cons, any_star vs]
    cases v <;> first | rfl | (simp [noStar])
theorem swp_ok (G : Good c cf k cc X) {ts vs : List Expr} {r : Option (List Str)} (h : swpB cc ts vs = some r) {kt k2 : Nat} {p p2 : Pos} : swappedStores [.Tuple ts kt p] (.Tuple vs k2 p2) X.env = pure r := by
  have hb : X.env.blockKind = .function := by unfold Env.blockKind; rw [G.kind]; rfl
  have ky : ∀ y, X.env.kindOf y = cc.sc.names.lookup y := fun y => by unfold Env.kindOf; rw [G.sc]
  unfold swpB at h
  unfold swappedStores
  simp only [hb, ky, any_star, pure_bind]
  have hbb : (ScopeKind.function != ScopeKind.function) = false := rfl
  by_cases c1 : (!(ts.length == 2 || ts.length == 3) || vs.length != ts.length) = true
  · rw [if_pos c1] at h
    cases h
    rw [if_pos (by rw [c1]; rfl)]
  · rw [if_neg c1] at h
    rw [if_neg (by rw [hbb, Bool.or_false]; exact c1)]
    by_cases c2 : (!vs.all noStar) = true
    · rw [if_pos c2] at h
      cases h
    · rw [if_neg c2] at h
      refine (if_neg (fun z => c2 ((any_star vs).symm.trans z))).trans ?_
      have key : ∀ names : List Str, (if (names.length != ts.length || names.eraseDups.length != names.length) = true then (some none : Option (Option (List Str))) else if vs.all (foldedForSure 8) = true then some none else if vs.all (constantsAlone 8) = true then none else some (some names)) = some r →
          (if (names.length != ts.length || names.eraseDups.length != names.length) = true then (pure none : Sem (Option (List Str))) else if vs.all (foldedForSure 8) = true then pure none else if vs.all (constantsAlone 8) = true then (do unsupported "assign.tuple-of-constant-expressions:order-of-the-stores"; pure (some names)) else pure (some names)) = pure r := by
        intro names h
        split at h
        · rename_i z
          cases h
          exact if_pos z
        · rename_i z
          refine (if_neg z).trans ?_
          split at h
          · rename_i z
            cases h
            exact if_pos z
          · rename_i z
            refine (if_neg z).trans ?_
            split at h
            · cases h
            · rename_i z
              cases h
              exact if_neg z
      exact key _ h
/-- what swapped names are -/
theorem swp_names (G : Good c cf k cc X) {is : List Nat} {ts vs : List Expr} {names : List Str} (h : swpB cc ts vs = some (some names)) (ht : cc.tgNames is ts = true) : NmOk X is names := by
  unfold swpB at h
  split at h
  · cases h
  · split at h
    · cases h
    · have key : ∀ names' : List Str, names' = ts.filterMap (nmF cc.sc ((ts.head?.map (·.pos.line)).getD 0)) → (if (names'.length != ts.length || names'.eraseDups.length != names'.length) = true then (some none : Option (Option (List Str))) else if vs.all (foldedForSure 8) = true then some none else if vs.all (constantsAlone 8) = true then none else some (some names')) = some (some names) → NmOk X is names := by
        intro names' e h
        split at h
        · cases h
        · rename_i z
          split at h
          · cases h
          · split at h
            · cases h
            · cases h
              rw [e] at z ⊢
              have z : ((ts.filterMap (nmF cc.sc ((ts.head?.map (·.pos.line)).getD 0))).length != ts.length) = false := by
                cases q : ((ts.filterMap (nmF cc.sc ((ts.head?.map (·.pos.line)).getD 0))).length != ts.length) with
                | false => rfl
                | true => rw [q] at z; exact (z rfl).elim
              exact nm_ok G _ ht (by simpa using z)
      exact key _ rfl h
theorem ss_par (is : List Nat) {es : Ex} (hr : SR c cf k es) : SS c cf k (.par is es) := fun cc X G e h dr H0 F0 => by
  unfold chkS at h
  split at h
  · rename_i ts k1 p1 vs k2 p2 pos
    obtain ⟨h1, h5⟩ := and2 h
    obtain ⟨h1, h4⟩ := and2 h1
    obtain ⟨h1, h3⟩ := and2 h1
    obtain ⟨h1, h2⟩ := and2 h1
    have hz : is.length ≤ sizeLine := by
      have q1 := few_len h5
      have q2 := lim_line
      omega
    have hA := hr cc X G vs h2 dr H0
    have rd : ∀ D σ H, tS c dr H0 F0 (dS cf (.par is es)) D σ H → tR c dr H0 (dR cf es) σ H fun xs H1 => is.length = xs.length ∧ (∀ H2, Ext c dr H1 H2 → Fin c dr H1 H1 ∨ True → True) ∧ ∃ F1 e', StOk c dr H0 F1 H1 e' (setMany σ is xs) ∧ Gr c dr F0 H0 F1 H1 ∧ ∀ H2, StOk c dr H0 F1 H2 e' (setMany σ is xs) → Gr c dr F0 H0 F1 H2 → D.nx (setMany σ is xs) H2 := fun D σ H ⟨F, e, st, g, p⟩ =>
      ⟨F, e, st, (R.post_bind p).mono fun rs p F1 H1 xs g1 st1 r1 => by
        obtain ⟨e', q1, q2, q3⟩ := setVals_ok is rs xs st1 st.ext r1 (R.post_bind p)
        exact ⟨q3, fun _ _ _ => trivial, F1, e', q1, g.trans g1, fun H2 st2 g2 => q2 F1 H2 _ g1.le st2 g2⟩⟩
    cases hs : swpB cc ts vs with
    | none => rw [hs] at h3; cases h3
    | some r => cases r with
      | none =>
        refine (ps_asg (pe_tup hA) (pg_tg G (tg := .tup is) (t := .Tuple ts k1 p1) h1) rfl (swp_ok G hs)).imp fun D σ H w => ?_
        obtain ⟨F, e, st, w⟩ := rd D σ H w
        refine ⟨F, e, st, w.mono fun rs w F' H' vs' g' st' r' => ?_⟩
        obtain ⟨q3, _, F1, e', st1, g1, q⟩ := w F' H' vs' g' st' r'
        refine ⟨by rw [← q3]; exact hz, fun pp hp => ⟨pp, vs', rfl, .inl (.inl upd_same), q3.symm, gNames_run is vs' σ _ _ q3 ?_⟩⟩
        obtain ⟨st2, g2⟩ := st1.newO (o := .tup vs') hp
        exact q _ st2 (g1.trans g2)
      | some names =>
        refine (ps_parN G (swp_names G hs h1) (of_decide_eq_true h4) hA (swp_ok G hs)).imp fun D σ H w => ?_
        obtain ⟨F, e, st, w⟩ := rd D σ H w
        refine ⟨F, e, st, w.mono fun rs w F' H' vs' g' st' r' => ?_⟩
        obtain ⟨q3, _, F1, e', st1, g1, q⟩ := w F' H' vs' g' st' r'
        exact ⟨q3.symm, by rw [← q3]; exact hz, q _ st1 g1⟩
  · cases h
/-! ### lists grown and written -/
theorem app_ex {i : Nat} {d : D} {P : Out → Prop} (p : (appV e i d).Post P) : ∃ l, slotAt e i = .o (.d (.list l)) ∧ l.length ≤ lim ∧ P (.nx (setAt e i (.o (.d (.list (l ++ [d])))))) := by
  unfold appV at p
  split at p
  · rename_i l q
    obtain ⟨h1, p⟩ := few_ex p
    exact ⟨l, q, h1, p⟩
  · exact p.elim
theorem ss_app (i : Nat) {a : Ex} (ha : SE c cf k a) : SS c cf k (.app i a) := fun cc X G e h dr H0 F0 => by
  unfold chkS at h
  split at h
  · rename_i x p y ap e cp pos
    obtain ⟨h1, h5⟩ := and2 h
    obtain ⟨h1, h4⟩ := and2 h1
    obtain ⟨h1, h3⟩ := and2 h1
    obtain ⟨h1, h2⟩ := and2 h1
    obtain ⟨v1, v2, v3⟩ := G.var (i := i) (x := x) h1
    have hy : y = ("append" : Str) := by simpa using h2
    subst hy
    have hA := one_arg' h3 (ha cc X G e h5 dr H0)
    have hst : starEach [e] X.env = [(false, eval e X.env)] := starE h3
    refine (ps_expr (pe_bm PySem.F.plainAttrs_list PySem.F.slot_list_append PySem.F.type_list_append mt_append (pe_var v1 v2 (dbg_ne v3).1 (dbg_ne v3).2.1) hA rfl (by rw [hst]; rfl) h4 hst rfl) rfl).imp fun D σ H ⟨F, e, st, g, p⟩ => ?_
    have p : ((dE cf a e).bind fun x => (fzD x).bind fun d => appV e i d).Post (PostS c dr H0 F0 F D) := p
    obtain ⟨l, hl, _⟩ : ∃ l, slotAt e i = .o (.d (.list l)) ∧ True := by
      obtain ⟨r, p⟩ := (R.post_bind p).ex
      obtain ⟨d, p⟩ := (R.post_bind p).ex
      obtain ⟨l, h, _⟩ := app_ex p
      exact ⟨l, h, trivial⟩
    obtain ⟨a0, e1, f1, ns, h0, ds, xs, e2, e3, r0⟩ := st.own i _ hl
    cases e2
    refine ⟨_, e1, .inl ⟨rfl, xs, .inl (.inl e3)⟩, ?_⟩
    refine fzdE st p fun F1 H1 v d g1 st1 r1 p => ?_
    obtain ⟨l', hl', hz, p⟩ := app_ex p
    rw [hl] at hl'
    cases hl'
    have e4 : H1 a0 = some (.lst xs) := g1.ext.at' a0 _ e3 ns (fun _ z => nomatch z)
    have hlen := dps_len r0
    have st2 := st1.put (ys := xs ++ [v]) (l' := l ++ [d]) hl e1 (dps_app (dps_mono g1.le _ _ r0) (.cons r1 .nil))
    refine ⟨a0, xs, v, rfl, rfl, e4, by have := lim_line; omega, p F1 _ σ g1.le st2 ⟨g.le.trans g1.le, st2.ext, (g.trans g1).nw⟩⟩
  · cases h
theorem seti_ex {i : Nat} {j : Int} {d : D} {P : Out → Prop} (p : (setiV e i j d).Post P) : ∃ l n, slotAt e i = .o (.d (.list l)) ∧ pyIx l.length j = some n ∧ P (.nx (setAt e i (.o (.d (.list (setNth l n d)))))) := by
  unfold setiV at p
  split at p
  · rename_i l q
    split at p
    · rename_i n q'
      exact ⟨l, n, q, q', p⟩
    · exact p.elim
  · exact p.elim
theorem rps_set : ∀ {xs : List V} {ds : List D} {n : Nat} {v : V} {d : D}, Rps F xs ds → Rp F v d → Rps F (xs.set n v) (setNth ds n d)
  | _, [], _, _, _, h, _ => by cases h; exact .nil
  | _, _ :: _, 0, _, _, h, r => by
    cases h with
    | cons _ h2 => exact .cons r h2
  | _, _ :: ds, n + 1, _, _, h, r => by
    cases h with
    | cons h1 h2 => exact .cons h1 (rps_set h2 r)
theorem ss_seti (i : Nat) {kx a : Ex} (hk : SE c cf k kx) (ha : SE c cf k a) : SS c cf k (.seti i kx a) := fun cc X G e h dr H0 F0 => by
  unfold chkS at h
  split at h
  · rename_i x p j p2 e pos
    obtain ⟨h1, h5⟩ := and2 h
    obtain ⟨h1, h4⟩ := and2 h1
    obtain ⟨h1, h3⟩ := and2 h1
    obtain ⟨h1, h2⟩ := and2 h1
    obtain ⟨v1, v2, v3⟩ := G.var (i := i) (x := x) h1
    refine (ps_asg (ha cc X G e h5 dr H0) (pg_sub (pe_var v1 v2 (dbg_ne v3).1 (dbg_ne v3).2.1) (hk cc X G j h4 dr H0) set_list (fun v => by cases j <;> first | rfl | exact (Bool.false_ne_true h2).elim)) (by unfold swapsWithSole; exact sw_no h3 _ _ _) (by cases e <;> rfl)).imp fun D σ H ⟨F, e, st, g, p⟩ => ?_
    have p : ((dE cf a e).bind fun x => (fzD x).bind fun d => (dE cf kx e).bind fun y => (intV y.rd).bind fun j => setiV e i j d).Post (PostS c dr H0 F0 F D) := p
    refine fzdE st p fun F1 H1 v d g1 st1 r1 p => ?_
    obtain ⟨l, hl, _⟩ : ∃ l, slotAt e i = .o (.d (.list l)) ∧ True := by
      obtain ⟨r, p⟩ := (R.post_bind p).ex
      obtain ⟨j, p⟩ := (R.post_bind p).ex
      obtain ⟨l, _, h, _⟩ := seti_ex p
      exact ⟨l, h, trivial⟩
    obtain ⟨a0, e1, f1, ns, h0, ds, xs, e2, e3, r0⟩ := st1.own i _ hl
    cases e2
    refine ⟨_, e1, ?_⟩
    refine rdE st1 p fun F2 H2 w y g2 st2 o2 p => ?_
    obtain ⟨jj, e5, p⟩ := int_ex p
    rw [e5] at o2
    obtain ⟨l', n, hl', hn, p⟩ := seti_ex p
    rw [hl] at hl'
    cases hl'
    have e4 : H2 a0 = some (.lst xs) := g2.ext.at' a0 _ e3 ns (fun _ z => nomatch z)
    have st3 := st2.put (ys := xs.set n v) (l' := setNth l n d) hl e1 (rps_set (dps_mono g2.le _ _ r0) (dp_mono g2.le _ _ r1))
    refine ⟨a0, xs, jj, n, rfl, o2.int st2, e4, by rw [← pyIx_ixN, dps_len r0]; exact hn, p F2 _ σ (g1.le.trans g2.le) st3 ⟨(g.le.trans g1.le).trans g2.le, st3.ext, ((g.trans g1).trans g2).nw⟩⟩
  · cases h
/-! ### the rest -/
theorem ss_ex {a : Ex} (ha : SE c cf k a) : SS c cf k (.ex a) := fun cc X G e h dr H0 F0 => by
  unfold chkS at h
  split at h
  · rename_i e pos
    obtain ⟨h1, h2⟩ := and2 h
    exact (ps_expr (ha cc X G e h2 dr H0) (sw_no h1 _ _ _)).imp fun D σ H ⟨F, e, st, g, p⟩ => ⟨F, e, st, (R.post_bind p).mono fun r p F1 H1 v g1 st1 r1 => p F1 H1 σ g1.le st1 (g.trans g1)⟩
  · cases h
theorem ss_ret {a : Ex} (ha : SE c cf k a) : SS c cf k (.ret a) := fun cc X G e h dr H0 F0 => by
  unfold chkS at h
  split at h
  · rename_i e pos
    exact (ps_ret (ha cc X G e h dr H0)).imp fun D σ H ⟨F, e, st, g, p⟩ => ⟨F, e, st, (R.post_bind p).mono fun r p F1 H1 v g1 st1 r1 => p F1 H1 σ e v g1.le st1 (g.trans g1) (r1.back st.ext)⟩
  · cases h
theorem ss_retN : SS c cf k .retN := fun cc X G e h dr H0 F0 => by
  unfold chkS at h
  split at h
  · exact ps_retN.imp fun D σ H ⟨F, e, st, g, p⟩ => p F H σ e .non (Le.refl _) st g Rp.non
  · cases h
theorem ss_brk : SS c cf k .brk := fun cc X G e h dr H0 F0 => by
  unfold chkS at h
  split at h
  · exact ps_break.imp fun D σ H ⟨F, e, st, g, p⟩ => p F H σ (Le.refl _) st g
  · cases h
theorem ss_noE : SS c cf k .noE := fun cc X G e h dr H0 F0 => ps_never.imp fun D σ H ⟨F, e, st, g, p⟩ => p
theorem ss_if {t a b : Ex} (ht : ST c cf k t) (ha : SB c cf k a) (hb : SB c cf k b) : SS c cf k (.ifS t a b) := fun cc X G e h dr H0 F0 => by
  unfold chkS at h
  split at h
  · rename_i u x y pos
    obtain ⟨h1, h3⟩ := and2 h
    obtain ⟨h1, h2⟩ := and2 h1
    refine (ps_if (ht cc X G u h1 dr H0) (ha cc X G x h2 dr H0 F0) (hb cc X G y h3 dr H0 F0)).imp fun D σ H ⟨F, e, st, g, p⟩ => ?_
    refine ⟨F, e, st, (R.post_bind p).mono fun b' p F1 H1 g1 st1 => ?_⟩
    cases b' with
    | true => exact ⟨F1, e, st1, g.trans g1, R.Post.mono p fun o q => q.mono g1.le⟩
    | false => exact ⟨F1, e, st1, g.trans g1, R.Post.mono p fun o q => q.mono g1.le⟩
  · cases h
theorem ss_for (tg : Tg) {it body : Ex} (hi : SI c cf k it) (hb : SB c cf k body) : SS c cf k (.forS tg it body) := fun cc X G e h dr H0 F0 => by
  unfold chkS at h
  split at h
  · rename_i t i b pos
    obtain ⟨h1, h4⟩ := and2 h
    obtain ⟨h1, h3⟩ := and2 h1
    obtain ⟨h1, h2⟩ := and2 h1
    refine (ps_for (by rw [G.xe]; exact PassesOwn.never) G.calm (hi cc X G t i h3 dr H0) (pg_tg G h2) (hb cc X G b h4 dr H0 F0) (set_iter h1 _)).imp fun D σ H ⟨F, e, st, g, p⟩ => ?_
    refine ⟨F, e, st, (R.post_bind p).mono fun ds p F1 H1 J g1 st1 wk => ?_⟩
    refine ⟨fun i m σ H2 => m = ds.length - i ∧ i ≤ ds.length ∧ ∃ F2 e2, StOk c dr H0 F2 H2 e2 σ ∧ Gr c dr F0 H0 F2 H2 ∧ Le F1 F2 ∧ (loopFor (ds.drop i) tg (fun e1 => dS cf body e1) e2).Post (PostS c dr H0 F0 F D),
      ⟨ds.length, by simp, Nat.zero_le _, F1, e, st1, g.trans g1, Le.refl _, p⟩, ?_⟩
    rintro i m σ2 H2 ⟨rfl, hi, F2, e2, st2, g2, l2, p⟩
    by_cases hlt : i < ds.length
    · refine .inr ?_
      rw [List.drop_eq_getElem_cons hlt] at p
      have wk := (wk i H2 (l2.trans st2.le)).1 ds[i] (by simp [hlt])
      refine ⟨wk.1, fun σ' H' => ∃ F2 e2, StOk c dr H0 F2 H' e2 σ' ∧ Gr c dr F0 H0 F2 H' ∧ Le F1 F2 ∧ (loopFor (ds.drop (i + 1)) tg (fun e1 => dS cf body e1) e2).Post (PostS c dr H0 F0 F D), fun σ' H' h => ⟨ds.length - (i + 1), by omega, rfl, hlt, h⟩, fun x H3 y => ?_⟩
      have y := wk.2 x H3 y
      have y : Yl F2 H2 x H3 ds[i] := by
        rcases y with ⟨h1, h2⟩ | ⟨q, ts, es, h1, h2, h3, h4, h5⟩
        · exact .inl ⟨h1, dp_mono l2 _ _ h2⟩
        · exact .inr ⟨q, ts, es, h1, h2, h3, h4, dps_mono l2 _ _ h5⟩
      refine tg_ok st2 y (R.post_bind p) fun F3 e3 σ3 st3 g3 p _ _ => ⟨F3, e3, st3, g2.trans g3, (R.post_bind p).mono fun o p => ?_⟩
      have l3 : Le F F3 := (g1.le.trans l2).trans g3.le
      cases o with
      | nx e4 => exact fun F' H' σ' l st' g' => ⟨F', e4, st', g', (l2.trans g3.le).trans l, p⟩
      | bk e4 => exact fun F' H' σ' l st' g' => p F' H' σ' (l3.trans l) st' g'
      | rt r => exact fun F' H' σ' e' v l st' g' r' => p F' H' σ' e' v (l3.trans l) st' g' r'
    · have e1 : i = ds.length := by omega
      subst e1
      rw [List.drop_length] at p
      exact .inl ⟨(wk _ H2 (l2.trans st2.le)).2 rfl, p F2 H2 σ2 (g1.le.trans l2) st2 g2⟩
  · cases h
theorem ss_whl (n : Nat) {t body : Ex} (ht : ST c cf k t) (hb : SB c cf k body) : SS c cf k (.whl n t body) := fun cc X G e h dr H0 F0 => by
  unfold chkS at h
  split at h
  · rename_i u b pos
    obtain ⟨h1, h2⟩ := and2 h
    refine (ps_while (by rw [G.xe]; exact PassesOwn.never) (ht cc X G u h1 dr H0) (hb cc X G b h2 dr H0 F0)).imp fun D σ H ⟨F, e, st, g, p⟩ => ?_
    refine ⟨fun m σ H2 => ∃ F2 e2, StOk c dr H0 F2 H2 e2 σ ∧ Gr c dr F0 H0 F2 H2 ∧ Le F F2 ∧ (loopWh m (fun e1 => dT cf t e1) (fun e1 => dS cf body e1) e2).Post (PostS c dr H0 F0 F D), ⟨n, F, e, st, g, Le.refl _, p⟩, ?_⟩
    rintro m σ2 H2 ⟨F2, e2, st2, g2, l2, p⟩
    cases m with
    | zero => exact p.elim
    | succ m =>
      refine ⟨F2, e2, st2, (R.post_bind p).mono fun b' p F3 H3 g3 st3 => ?_⟩
      have l3 := l2.trans g3.le
      cases b' with
      | false => exact p F3 H3 σ2 l3 st3 (g2.trans g3)
      | true =>
        refine ⟨fun σ' H' => ∃ F2 e2, StOk c dr H0 F2 H' e2 σ' ∧ Gr c dr F0 H0 F2 H' ∧ Le F F2 ∧ (loopWh m (fun e1 => dT cf t e1) (fun e1 => dS cf body e1) e2).Post (PostS c dr H0 F0 F D), fun σ' H' h => ⟨m, Nat.lt_succ_self _, h⟩, F3, e2, st3, g2.trans g3, (R.post_bind p).mono fun o p => ?_⟩
        cases o with
        | nx e4 => exact fun F' H' σ' l st' g' => ⟨F', e4, st', g', l3.trans l, p⟩
        | bk e4 => exact fun F' H' σ' l st' g' => p F' H' σ' (l3.trans l) st' g'
        | rt r => exact fun F' H' σ' e' v l st' g' r' => p F' H' σ' e' v (l3.trans l) st' g' r'
  · cases h
theorem sb_noE : SB c cf k .noE := fun cc X G e h dr H0 F0 => pss_never.imp fun D σ H ⟨F, e, st, g, p⟩ => p
theorem sb_nil : SB c cf k .snil := fun cc X G e h dr H0 F0 => by
  cases e with
  | nil => exact pss_nil.imp fun D σ H ⟨F, e, st, g, p⟩ => p F H σ (Le.refl _) st g
  | cons _ _ => exact (Bool.false_ne_true h).elim
theorem sb_cons {s r : Ex} (hs : SS c cf k s) (hr : SB c cf k r) : SB c cf k (.scons s r) := fun cc X G e h dr H0 F0 => by
  cases e with
  | nil => exact (Bool.false_ne_true h).elim
  | cons x xs =>
    obtain ⟨h1, h2⟩ := and2 (show (chkS cc s x && chkB cc r xs) = true from h)
    refine (pss_cons (hs cc X G x h1 dr H0 F0) (hr cc X G xs h2 dr H0 F0)).imp fun D σ H ⟨F, e, st, g, p⟩ => ?_
    refine ⟨F, e, st, g, (R.post_bind p).mono fun o p => ?_⟩
    cases o with
    | nx e1 => exact fun F' H' σ' l st' g' => ⟨F', e1, st', g', R.Post.mono p fun o q => q.mono l⟩
    | bk e1 => exact p
    | rt r => exact p
theorem sb_frz (is : List Nat) {r : Ex} (hr : SB c cf k r) : SB c cf k (.frz is r) := fun cc X G e h dr H0 F0 => by
  refine (hr cc X G e h dr H0 F0).imp fun D σ H ⟨F, e, st, g, p⟩ => ?_
  obtain ⟨F', l, n, st'⟩ := st.freeze is
  exact ⟨F', Ev.freeze e is, st', ⟨g.le.trans l, g.ext, fun a h1 h2 => (n a h1).trans (g.nw a h1 h2)⟩, R.Post.mono p fun o q => q.mono l⟩
end
end Ev

/-! list(range(..)), tuple(range(..)). -/
namespace Ev
open PySem PySem.Spec PyProof.Rows L2

theorem rg_rps (F : Hp) : ∀ (n : Nat) (a : Int), Rps F ((List.range n).map fun i => V.int (a + (i : Nat))) (rngFrom a n)
  | 0, _ => .nil
  | n + 1, a => by
    rw [List.range_succ_eq_map, List.map_cons, List.map_map]
    refine .cons (by simpa using Rp.int (F := F) a) ?_
    have e : ((fun i => V.int (a + (i : Nat))) ∘ Nat.succ) = fun i : Nat => V.int ((a + 1) + (i : Nat)) := by
      funext i
      show V.int (a + ((i + 1 : Nat) : Int)) = V.int (a + 1 + (i : Nat))
      congr 1
      omega
    rw [e]
    exact rg_rps F n (a + 1)
theorem small3_ex {i : Int} (q : smallI i = true) : -1000000 < i ∧ i < 1000000 := by
  unfold smallI at q
  rw [nblt] at q
  have q := of_decide_eq_true q
  cases i with
  | ofNat n =>
    have : n < 1000000 := q
    constructor <;> rw [Int.ofNat_eq_natCast] <;> omega
  | negSucc n =>
    have : n + 1 < 1000000 := q
    constructor <;> rw [Int.negSucc_eq] <;> omega
theorem rg_small {i : Int} {α : Type} {m : R α} {P : α → Prop} (p : (match smallI i with | true => m | false => .stuck).Post P) : (-1000000 < i ∧ i < 1000000) ∧ m.Post P := by
  cases q : smallI i with
  | false => rw [q] at p; exact p.elim
  | true => rw [q] at p; exact ⟨small3_ex q, p⟩
theorem rg_small2 {i j : Int} {α : Type} {m : R α} {P : α → Prop} (p : (match smallI i, smallI j with | true, true => m | _, _ => .stuck).Post P) : (-1000000 < i ∧ i < 1000000) ∧ (-1000000 < j ∧ j < 1000000) ∧ m.Post P := by
  cases q : smallI i with
  | false => rw [q] at p; exact p.elim
  | true =>
    cases q2 : smallI j with
    | false => rw [q, q2] at p; exact p.elim
    | true => rw [q, q2] at p; exact ⟨small3_ex q, small3_ex q2, p⟩
section
variable {c : Cf} {cf : Nat → List Val → R RV} {k : Nat}
variable {dr : Option Addr} {H0 F H F1 H1 : Hp} {e : Env} {σ : L2.St} {Q : VK}
theorem rg_fin {tp : Bool} {a b : Int} (st : StOk c dr H0 F1 H1 e σ) (g : Gr c dr F H F1 H1) (p : (rgR tp (rngFrom a (natOf (b - a)))).Post (Then c dr H0 F H e σ Q)) : ∀ q, H1 q = none → Q (.ref q) (upd H1 q (match tp with | true => .tup (rgV a b) | false => .lst (rgV a b))) := fun q hq => by
  have r := rg_rps F1 (b - a).toNat a
  rw [natOf_toNat] at p
  cases tp with
  | true => exact Then.tup st hq r (Then.go g p)
  | false => exact Then.lst st hq r (Then.go g p)
theorem se_lrg1 (tp : Bool) {a : Ex} (ha : SE c cf k a) : SE c cf k (.lrg1 tp a) := fun cc X G e h dr H0 => by
  unfold chkE at h
  split at h
  · rename_i x p1 y p2 z p3 p4
    obtain ⟨h1, h6⟩ := and2 h
    obtain ⟨h1, h5⟩ := and2 h1
    obtain ⟨h1, h4⟩ := and2 h1
    obtain ⟨h1, h3⟩ := and2 h1
    obtain ⟨hq, h2⟩ := and2 h1
    obtain ⟨hg, hd⟩ := G.gls h2
    obtain ⟨hg', hd'⟩ := G.gls h4
    have hy : y = ("range" : Str) := by simpa using h3
    subst hy
    have prg := prg_1 (X := X) (p := p2) (pos := p3) hg' (G.blt _ (by decide)) (ha cc X G z h6 dr H0) (starE h5)
    have ok : ∀ {i : Int}, -1000000 < i → i < 1000000 → RgOk 0 i := fun {i} l1 l2 => ⟨by omega, by omega, by omega, by omega, by omega⟩
    cases tp with
    | true =>
      have hx : x = ("tuple" : Str) := by simpa using hq
      subst hx
      refine (pe_tupRg G.calm hg (G.blt _ (by decide)) prg).imp fun σ H Q ⟨F, e, st, p⟩ => ?_
      refine rdE st p fun F1 H1 v x g1 st1 o1 p => ?_
      obtain ⟨i, e1, p⟩ := int_ex p
      rw [e1] at o1
      obtain ⟨l, p⟩ := rg_small p
      rw [show i = i - 0 by omega] at p
      exact ⟨i, o1.int st1, ok l.1 l.2, rg_fin (tp := true) st1 g1 p⟩
    | false =>
      have hx : x = ("list" : Str) := by simpa using hq
      subst hx
      refine (pe_listRg G.calm hg (G.blt _ (by decide)) prg).imp fun σ H Q ⟨F, e, st, p⟩ => ?_
      refine rdE st p fun F1 H1 v x g1 st1 o1 p => ?_
      obtain ⟨i, e1, p⟩ := int_ex p
      rw [e1] at o1
      obtain ⟨l, p⟩ := rg_small p
      rw [show i = i - 0 by omega] at p
      exact ⟨i, o1.int st1, ok l.1 l.2, rg_fin (tp := false) st1 g1 p⟩
  · cases h
theorem se_lrg2 (tp : Bool) {a b : Ex} (ha : SE c cf k a) (hb : SE c cf k b) : SE c cf k (.lrg2 tp a b) := fun cc X G e h dr H0 => by
  unfold chkE at h
  split at h
  · rename_i x p1 y p2 z u p3 p4
    obtain ⟨h1, h8⟩ := and2 h
    obtain ⟨h1, h7⟩ := and2 h1
    obtain ⟨h1, h6⟩ := and2 h1
    obtain ⟨h1, h5⟩ := and2 h1
    obtain ⟨h1, h4⟩ := and2 h1
    obtain ⟨h1, h3⟩ := and2 h1
    obtain ⟨hq, h2⟩ := and2 h1
    obtain ⟨hg, hd⟩ := G.gls h2
    obtain ⟨hg', hd'⟩ := G.gls h4
    have hy : y = ("range" : Str) := by simpa using h3
    subst hy
    have h9 : [u].all noStar = true := by show (noStar u && true) = true; rw [h6]; rfl
    have prg := prg_2 (X := X) (p := p2) (pos := p3) hg' (G.blt _ (by decide)) (ha cc X G z h7 dr H0) (hb cc X G u h8 dr H0) (starE h5) (starE h6) (plainB h9)
    have ok : ∀ {i j : Int}, -1000000 < i → i < 1000000 → -1000000 < j → j < 1000000 → RgOk i j := fun {i j} l1 l2 l3 l4 => ⟨by omega, by omega, by omega, by omega, by omega⟩
    cases tp with
    | true =>
      have hx : x = ("tuple" : Str) := by simpa using hq
      subst hx
      refine (pe_tupRg G.calm hg (G.blt _ (by decide)) prg).imp fun σ H Q ⟨F, e, st, p⟩ => ?_
      refine rdE st p fun F1 H1 v x g1 st1 o1 p => rdE st1 p fun F2 H2 w y g2 st2 o2 p => ?_
      obtain ⟨i, e1, p⟩ := int_ex p
      obtain ⟨j, e2, p⟩ := int_ex p
      rw [e1] at o1
      rw [e2] at o2
      obtain ⟨l, l', p⟩ := rg_small2 p
      exact ⟨i, j, o1.int st1, o2.int st2, ok l.1 l.2 l'.1 l'.2, rg_fin (tp := true) st2 (g1.trans g2) p⟩
    | false =>
      have hx : x = ("list" : Str) := by simpa using hq
      subst hx
      refine (pe_listRg G.calm hg (G.blt _ (by decide)) prg).imp fun σ H Q ⟨F, e, st, p⟩ => ?_
      refine rdE st p fun F1 H1 v x g1 st1 o1 p => rdE st1 p fun F2 H2 w y g2 st2 o2 p => ?_
      obtain ⟨i, e1, p⟩ := int_ex p
      obtain ⟨j, e2, p⟩ := int_ex p
      rw [e1] at o1
      rw [e2] at o2
      obtain ⟨l, l', p⟩ := rg_small2 p
      exact ⟨i, j, o1.int st1, o2.int st2, ok l.1 l.2 l'.1 l'.2, rg_fin (tp := false) st2 (g1.trans g2) p⟩
  · cases h
end
end Ev

/-! A generator's frame with cells of its own. -/
namespace Ev
open PySem PySem.Spec PyProof.Rows L2 GenW GxR

theorem cf_mem : ∀ (names : List (Str × NameKind)) (n : Nat) (acc : List (Str × Addr)) {y : Str} {c : Addr}, (y, c) ∈ cellsFrom n names acc → (y, c) ∈ acc ∨ ((y, NameKind.cell) ∈ names ∧ n ≤ c)
  | [], n, acc, y, c, h => .inl h
  | (x, k) :: r, n, acc, y, c, h => by
    unfold cellsFrom at h
    split at h
    · rename_i hk
      have hk : k = .cell := by simpa using hk
      rcases cf_mem r (n + 1) _ h with h | ⟨h1, h2⟩
      · rcases List.mem_cons.mp h with e | h
        · cases e
          exact .inr ⟨by rw [hk]; exact List.mem_cons_self .., Nat.le_refl _⟩
        · exact .inl h
      · exact .inr ⟨List.mem_cons_of_mem _ h1, Nat.le_of_succ_le h2⟩
    · rcases cf_mem r n acc h with h | ⟨h1, h2⟩
      · exact .inl h
      · exact .inr ⟨List.mem_cons_of_mem _ h1, h2⟩
theorem cf_sub : ∀ (names : List (Str × NameKind)) (n : Nat) (acc : List (Str × Addr)) {p : Str × Addr}, p ∈ acc → p ∈ cellsFrom n names acc
  | [], n, acc, p, h => h
  | (x, k) :: r, n, acc, p, h => by
    unfold cellsFrom
    split
    · exact cf_sub r (n + 1) _ (List.mem_cons_of_mem _ h)
    · exact cf_sub r n acc h
theorem cf_has : ∀ (names : List (Str × NameKind)) (n : Nat) (acc : List (Str × Addr)) {y : Str}, (y, NameKind.cell) ∈ names → ∃ c, (y, c) ∈ cellsFrom n names acc
  | [], n, acc, y, h => nomatch h
  | (x, k) :: r, n, acc, y, h => by
    unfold cellsFrom
    rcases List.mem_cons.mp h with e | h
    · cases e
      rw [if_pos (by rfl)]
      exact ⟨n, cf_sub r (n + 1) _ (List.mem_cons_self ..)⟩
    · split
      · exact cf_has r (n + 1) _ h
      · exact cf_has r n acc h
theorem cf_look : ∀ (names : List (Str × NameKind)) (n : Nat) (acc : List (Str × Addr)) {y : Str}, (y, NameKind.cell) ∉ names → (cellsFrom n names acc).lookup y = acc.lookup y
  | [], n, acc, y, h => rfl
  | (x, k) :: r, n, acc, y, h => by
    have hr : (y, NameKind.cell) ∉ r := fun z => h (List.mem_cons_of_mem _ z)
    unfold cellsFrom
    split
    · rename_i hk
      have hk : k = .cell := by simpa using hk
      rw [cf_look r (n + 1) _ hr]
      have ne : (y == x) = false := beq_eq_false_iff_ne.mpr fun z => h (by rw [z, hk]; exact List.mem_cons_self ..)
      rw [List.lookup_cons, ne]
    · exact cf_look r n acc hr
theorem cf_inj : ∀ (names : List (Str × NameKind)) (n : Nat) (acc : List (Str × Addr)), (∀ p ∈ acc, p.2 < n) → (∀ x y c, (x, c) ∈ acc → (y, c) ∈ acc → x = y) → ∀ x y c, (x, c) ∈ cellsFrom n names acc → (y, c) ∈ cellsFrom n names acc → x = y
  | [], n, acc, _, hi => hi
  | (z, k) :: r, n, acc, hl, hi => by
    unfold cellsFrom
    split
    · refine cf_inj r (n + 1) _ (fun p hp => ?_) fun x y c h1 h2 => ?_
      · rcases List.mem_cons.mp hp with e | hp
        · rw [e]
          exact Nat.lt_succ_self n
        · exact Nat.lt_succ_of_lt (hl p hp)
      · rcases List.mem_cons.mp h1 with e1 | h1 <;> rcases List.mem_cons.mp h2 with e2 | h2
        · cases e1
          cases e2
          rfl
        · cases e1
          exact absurd (hl _ h2) (Nat.lt_irrefl _)
        · cases e2
          exact absurd (hl _ h1) (Nat.lt_irrefl _)
        · exact hi x y c h1 h2
    · exact cf_inj r n acc hl hi
theorem cf_cell : ∀ (names : List (Str × NameKind)) (h : Heap) (acc : List (Str × Addr)) {y : Str} {c : Addr}, (y, c) ∈ cellsFrom h.objs.size names acc → (y, c) ∈ acc ∨ (pushCells h names).IsCell c none
  | [], h, acc, y, c, m => .inl m
  | (x, k) :: r, h, acc, y, c, m => by
    unfold cellsFrom at m
    unfold pushCells
    split at m
    · rename_i hk
      rw [if_pos hk]
      have m : (y, c) ∈ cellsFrom (h.push { cls := .type "cell", data := .cell none }).objs.size r ((x, h.objs.size) :: acc) := by
        rw [Heap.size_push]
        exact m
      rcases cf_cell r _ _ m with m | m
      · rcases List.mem_cons.mp m with e | m
        · cases e
          exact .inr ⟨_, pushCells_keeps r _ _ _ (Heap.get?_push_size _ rfl), rfl⟩
        · exact .inl m
      · exact .inr m
    · rename_i hk
      rw [if_neg hk]
      exact cf_cell r h acc m
theorem pushCells_size : ∀ (names : List (Str × NameKind)) (h : Heap), h.objs.size ≤ (pushCells h names).objs.size
  | [], h => Nat.le_refl _
  | (_, k) :: r, h => by
    unfold pushCells
    split
    · exact Nat.le_trans (by rw [Heap.size_push]; exact Nat.le_succ _) (pushCells_size r _)
    · exact pushCells_size r h
section
variable {M : Model} {A : Around} {E : Value → Shared → Prop} {s : Shared}
theorem env_gen {scope : Scope} {globals : Addr} {closure : List (Str × Addr)} {v : Value} {qual : Str} {func : Option Addr} {code : Value} {builtins : Addr} {Q : PySem.Env → Shared → Prop} (hk : scope.kind = .function) (h0 : scope.names.lookup (".0" : Str) = some NameKind.local)
    (hQ : ∀ h', h'.Ns s.heap.objs.size (fun x => if x = ".0" then some v else none) → Heap.SameBut s.heap.objs.size (pushCells (s.heap.push { cls := .type "frame", data := .dict #[] }) scope.names) h' →
      Q (newEnv scope s.heap.objs.size globals (cellsFrom (s.heap.objs.size + 1) scope.names closure) qual func code none builtins) { s with heap := h', toks := s.toks + 1 }) :
    wpAny M A (newFunctionEnv scope globals closure [(".0", v)] qual func code none builtins) Q E s := by
  simp only [newFunctionEnv, Option.isSome_none, Bool.false_eq_true, if_false]
  refine wpAny_bind (wpAny_alloc (wpAny_bind (wpAny_layCells _ (fun name kind cells => by cases q : kind == NameKind.cell <;> simp [q]) _ _ _ _ ?_)))
  rw [show ({ s with heap := s.heap.push { cls := .type "frame", data := .dict #[] } } : Shared).heap.objs.size = s.heap.objs.size + 1 from Heap.size_push ..]
  have hk' : PySem.Env.kindOf (newEnv scope s.heap.objs.size globals (cellsFrom (s.heap.objs.size + 1) scope.names closure) qual func code none builtins) ".0" = some .local := h0
  have hp : ((newEnv scope s.heap.objs.size globals (cellsFrom (s.heap.objs.size + 1) scope.names closure) qual func code none builtins).scope.kind == .class || ((newEnv scope s.heap.objs.size globals (cellsFrom (s.heap.objs.size + 1) scope.names closure) qual func code none builtins).scope.kind == .module &&
      (newEnv scope s.heap.objs.size globals (cellsFrom (s.heap.objs.size + 1) scope.names closure) qual func code none builtins).locals != (newEnv scope s.heap.objs.size globals (cellsFrom (s.heap.objs.size + 1) scope.names closure) qual func code none builtins).globals)) = false := by
    show (scope.kind == .class || (scope.kind == .module && _)) = false
    rw [hk]
    rfl
  refine wpAny_bind ?_
  rw [List.forIn_cons]
  show wpAny _ _ ((storeName (newEnv scope s.heap.objs.size globals (cellsFrom (s.heap.objs.size + 1) scope.names closure) qual func code none builtins) ".0" v >>= _) >>= _) _ _ _
  rw [storeName_local hk' hp]
  refine wpAny_bind (wpAny_bind (wpAny_nsSet (m := fun _ => none) ((Heap.Ns.new s.heap (.type "frame")).keeps (pushCells_keeps _ _)) fun h' hn hs => ?_))
  refine wpAny_pure ?_
  show wpAny _ _ (forIn ([] : List (Str × Value)) _ _) _ _ _
  rw [List.forIn_nil]
  exact wpAny_pure (wpAny_pure (hQ h' hn hs))
end
end Ev

/-! Generator expressions: the block as it runs. -/
namespace Ev
open PySem PySem.Spec PyProof.Rows L2 GenW

/-- the block's environment -/
abbrev gCl (X : Cx) (scope : Scope) : List (Str × Addr) := cloFrom X.env.cells scope.names []
abbrev gCells (X : Cx) (scope : Scope) (C : Addr) : List (Str × Addr) := cellsFrom (C + 1) scope.names (gCl X scope)
abbrev gEnv (X : Cx) (scope : Scope) (C : Addr) (code : Value) : PySem.Env := genEnv scope (gCells X scope C) C code builtinsNs X.env
abbrev gCode (elt t i : Expr) (scope : Scope) (pos : Pos) (it : Addr) (env : PySem.Env) : Code := .compLoop (.GeneratorExp elt [⟨t, i, [], 0⟩] scope pos) 0 (.ref it) .none env
abbrev gA (X : Cx) (c : Code) : Around := X.A.in1.in1.over c []
/-- the block's context -/
abbrev gCx (X : Cx) (s : Shared) (H : Hp) (genv : PySem.Env) (fp : List Addr) (A : Around) : Cx :=
  { X with A := A, s_0 := s, H_0 := H, env := genv, outer := X.stack, stack := genv :: X.stack, ex := fp, fn := fun x => genv.scope.names.lookup x == some .cell, pn := [], xe := fun _ _ => False }
section
variable {X : Cx} {elt t i : Expr} {scope : Scope} {pos : Pos} {it C : Addr} {code : Value}
theorem gA_hd {env : PySem.Env} : (gA X (gCode elt t i scope pos it env)).handled = X.A.handled := rfl
theorem gA_dp {env : PySem.Env} : (gA X (gCode elt t i scope pos it env)).depth = X.A.depth + 1 := rfl
theorem gA_un {env : PySem.Env} : (gA X (gCode elt t i scope pos it env)).units = X.A.units + 5 := rfl
theorem gA_fr (h : X.A.frames = some X.stack) : (gA X (gCode elt t i scope pos it (gEnv X scope C code))).frames = some (gEnv X scope C code :: X.stack) := by
  show pushEnvs [gEnv X scope C code] (pushEnvs [] X.A.frames) = _
  rw [h]
  rfl
theorem gen_inv {pins : List (Addr × Obj)} {σ : L2.St} {H : Hp} {s4 : Shared} {own : List (Str × Nat)} {fp : List Addr} {m0 : Str → Option Value} (hN : X.N.Nodup) (ok : BlkOk X.N X.env.scope scope own) (hfc : ∀ y, (y, NameKind.free) ∈ scope.names → (y, NameKind.cell) ∉ scope.names) (hc : X.calm = true)
    (I : Inv X pins σ H s4) (hfp : ∀ b ∈ fp, FpOk X pins H b ∧ b < s4.heap.objs.size) {A : Around} (hA1 : A.handled = X.A.handled) (hA2 : A.frames = some (gEnv X scope s4.heap.objs.size code :: X.stack)) {s6 : Shared}
    (kp : ∀ b o, s4.heap.get? b = some o → s6.heap.get? b = some o) (ho : s6.os = s4.os) (hb : AllBare s6.gens) (hn : s6.heap.Ns s4.heap.objs.size m0) (hcl : ∀ y c, (y, c) ∈ gCells X scope s4.heap.objs.size → (y, c) ∈ gCl X scope ∨ ∃ v, s6.heap.IsCell c v) {gp : List (Addr × Obj)}
    (hgp : ∀ p ∈ gp, s6.heap.get? p.1 = some p.2 ∧ s4.heap.objs.size < p.1 ∧ ∀ v, p.2.data ≠ .cell v) :
    Inv (gCx X s4 H (gEnv X scope s4.heap.objs.size code) fp A) gp (wipe σ (own.map (·.2))) H s6 := by
  have hfree : ∀ y ∈ scope.names, y.2 = .free → ∃ c, X.env.cells.lookup y.1 = some c := fun y hy e => by
    rcases ok.free y hy e with k | k
    · exact I.ok.has _ (.inl k)
    · exact I.ok.has _ (.inr k)
  have cm : ∀ {y c}, (y, c) ∈ gCl X scope → X.env.cells.lookup y = some c ∧ c < s4.heap.objs.size ∧ (y, NameKind.free) ∈ scope.names := fun {y c} hm => by
    rcases cloFrom_mem hm with hm | ⟨h1, rfl⟩
    · cases hm
    · obtain ⟨c, hc⟩ := hfree _ h1 rfl
      rw [hc]
      obtain ⟨w, z⟩ := I.cell _ _ hc
      exact ⟨rfl, z.lt, h1⟩
  -- a cell: the def's, or a new one
  have cs : ∀ {y c}, (y, c) ∈ gCells X scope s4.heap.objs.size → (X.env.cells.lookup y = some c ∧ c < s4.heap.objs.size ∧ (y, NameKind.free) ∈ scope.names) ∨ ((y, NameKind.cell) ∈ scope.names ∧ s4.heap.objs.size + 1 ≤ c) := fun {y c} hm => by
    rcases cf_mem _ _ _ hm with hm | hm
    · exact .inl (cm hm)
    · exact .inr hm
  have look : ∀ {y}, scope.names.lookup y = some .free → ∃ c, (gCells X scope s4.heap.objs.size).lookup y = some c ∧ X.env.cells.lookup y = some c := fun {y} hl => by
    have hy : (y, NameKind.free) ∈ scope.names := PySem.mem_of_lookup hl
    obtain ⟨c', e'⟩ := mem_lookup (cloFrom_has (cells := X.env.cells) (acc := []) hy)
    exact ⟨c', by rw [cf_look _ _ _ (hfc y hy)]; exact e', (cm (PySem.mem_of_lookup e')).1⟩
  have okG : (gCx X s4 H (gEnv X scope s4.heap.objs.size code) fp A).Ok := by
    refine ⟨I.ok.mod, ok.kind, I.ok.glob, rfl, Nat.le_refl _, fun y z c e1 e2 => ?_, fun y hy => ?_, fun y c z e => ?_, fun h => by rw [hA1]; exact I.ok.hd h, hA2, .inr ⟨rfl, rfl⟩, fun b hb' => ⟨?_, fun y c e z => ?_⟩, I.bs, Nat.le_trans I.ok.bsz I.sz, fun b o e hb' => ?_, fun b hb' z => ?_, I.stack, I.stkFree⟩
    · exact cf_inj scope.names (s4.heap.objs.size + 1) (gCl X scope) (fun p hp => Nat.lt_succ_of_lt (cm (y := p.1) (c := p.2) hp).2.1) (fun x y c h1 h2 => I.ok.inj x y c (cm h1).1 (cm h2).1) y z c (PySem.mem_of_lookup e1) (PySem.mem_of_lookup e2)
    · rcases hy with hy | hy
      · obtain ⟨c, hm⟩ := cf_has scope.names (s4.heap.objs.size + 1) (gCl X scope) (PySem.mem_of_lookup (show scope.names.lookup y = some .cell from hy))
        exact mem_lookup hm
      · obtain ⟨c, h1, _⟩ := look hy
        exact ⟨c, h1⟩
    · have z : (scope.names.lookup y == some NameKind.cell) = true := z
      have z : scope.names.lookup y = some .cell := by simpa using z
      rcases cs (PySem.mem_of_lookup (show (gCells X scope s4.heap.objs.size).lookup y = some c from e)) with q | q
      · exact absurd (PySem.mem_of_lookup z) (hfc y q.2.2)
      · exact Nat.le_of_succ_le q.2
    · exact Nat.ne_of_lt (hfp b hb').2
    · rcases cs (PySem.mem_of_lookup (show (gCells X scope s4.heap.objs.size).lookup y = some c from e)) with q | q
      · exact (hfp b hb').1.2.2.2.2.1 y c q.1 z
      · have l := (hfp b hb').2
        rw [← z] at l
        exact absurd (Nat.lt_of_lt_of_le l (Nat.le_of_succ_le q.2)) (Nat.lt_irrefl _)
    · rcases (hfp b hb').1.2.2.2.1 with z | z
      · exact I.ok.noex b o e z
      · exact absurd (Nat.lt_of_lt_of_le (Heap.lt_size e) (Nat.le_trans I.ok.bsz z)) (Nat.lt_irrefl _)
    · rcases List.mem_cons.mp (I.stkSub b z) with z | z
      · exact (hfp b hb').1.2.1 z
      · exact (hfp b hb').1.2.2.1 z
  refine ⟨okG, ho, hb, Un.kept kp, ⟨m0, hn, fun i y av e1 e2 e3 => ?_⟩, fun y c e => ?_, I.hok.fresh (Nat.le_refl _), fun y c e => ?_, fun p hp => ?_, I.hok.kept kp, by rw [wipe_length]; exact I.len⟩
  · obtain ⟨e2, hne⟩ := wipe_some e2
    have hfr : scope.names.lookup y = some .free := by
      have key : ∀ k, scope.names.lookup y = some k → k = .local ∨ k = .cell ∨ k = .free → scope.names.lookup y = some .free := fun k e hk' => by
        have no : ¬ (k = .local ∨ k = .cell) := fun hh => by
          rcases ok.own _ (PySem.mem_of_lookup e) hh with e' | e'
          · obtain ⟨p, hp, hpy⟩ := List.mem_map.mp e'
            have e3 := ok.ix p hp
            have : p.1 = y := hpy
            rw [this] at e3
            exact hne (List.mem_map.mpr ⟨p, hp, nodup_ix hN e3 e1⟩)
          · exact e' (List.mem_of_getElem? e1)
        rcases hk' with rfl | rfl | rfl
        · exact absurd (.inl rfl) no
        · exact absurd (.inr rfl) no
        · exact e
      rcases e3 with e3 | e3 | e3
      · exact key _ e3 (.inl rfl)
      · exact key _ e3 (.inr (.inl rfl))
      · exact key _ e3 (.inr (.inr rfl))
    obtain ⟨m, hn', hl⟩ := I.loc
    have hvis : Vis X.env.scope y := (ok.free _ (PySem.mem_of_lookup hfr) rfl).elim (fun k => .inr (.inl k)) (fun k => .inr (.inr k))
    obtain ⟨w, r, q⟩ := hl i y av e1 e2 hvis
    obtain ⟨c, h1, h2⟩ := look hfr
    refine ⟨w, r, .inr ⟨.inr hfr, c, h1, ?_⟩⟩
    rcases q with ⟨k, _⟩ | ⟨_, c', e', z⟩
    · have k : X.env.scope.names.lookup y = some .local := k
      rcases ok.free _ (PySem.mem_of_lookup hfr) rfl with k' | k' <;> rw [show X.env.scope.names.lookup y = _ from k'] at k <;> cases k
    · rw [h2] at e'; cases e'
      exact z.keeps kp
  · rcases hcl y c (PySem.mem_of_lookup e) with q | q
    · obtain ⟨w, z⟩ := I.cell y c (cm q).1
      exact ⟨w, z.keeps kp⟩
    · exact q
  · rcases cs (PySem.mem_of_lookup (show (gCells X scope s4.heap.objs.size).lookup y = some c from e)) with q | q
    · exact I.freeC y c q.1
    · exact I.hok.fresh (Nat.le_of_succ_le q.2)
  · have hp : p ∈ gp := by
      rcases List.mem_append.mp (show p ∈ ([] : List (Addr × Obj)) ++ gp from hp) with z | z
      · cases z
      · exact z
    obtain ⟨h1, h2, h3⟩ := hgp p hp
    refine ⟨h1, I.hok.fresh (Nat.le_of_lt h2), Nat.ne_of_gt h2, fun z => ?_, h3⟩
    rcases List.mem_cons.mp (I.stkSub _ z) with q | q
    · have := I.lt
      rw [← q] at this
      exact absurd (Nat.lt_trans this h2) (Nat.lt_irrefl _)
    · exact I.nofs (Nat.le_of_lt h2) q
end

/-! ### the run -/
section
variable {X : Cx} {elt t i : Expr} {scope : Scope} {pos : Pos}
/-- between two turns: j of the items are out, the consumer's state is acc -/
def AtG (Xg : Cx) (σw : L2.St) (fp : List Addr) (tn : Nat → Heap → Prop) (SK : Int → List (Addr × Obj) → Prop) (j : Nat) (acc : Int) (H : Hp) (s : Shared) : Prop :=
  ∃ gp, SK acc gp ∧ Inv Xg gp σw H s ∧ tn j s.heap ∧ ∀ b ∈ fp, H b = none
def Sunk (SK : Int → List (Addr × Obj) → Prop) (acc : Int) (s : Shared) : Prop := ∃ gp, SK acc gp ∧ ∀ p ∈ gp, s.heap.get? p.1 = some p.2
theorem AtG.sunk {Xg : Cx} {σw : L2.St} {fp : List Addr} {tn : Nat → Heap → Prop} {SK : Int → List (Addr × Obj) → Prop} {j : Nat} {acc : Int} {H : Hp} {s : Shared} (h : AtG Xg σw fp tn SK j acc H s) : Sunk SK acc s := by
  obtain ⟨gp, h1, I, _⟩ := h
  exact ⟨gp, h1, fun p hp => (I.pin p (List.mem_append_right _ hp)).1⟩
/-- an item goes out -/
def GYp (Xg : Cx) (σw : L2.St) (fp : List Addr) (tn : Nat → Heap → Prop) (SK : Int → List (Addr × Obj) → Prop) (N : Nat) (W : Nat → Int → Hp → Prop) (St : Nat → Int → V → Hp → Prop) : Protocol := fun n s₀ v s kap =>
  ∃ i acc y H, (n + i = N ∧ i < N) ∧ RelV y v ∧ Sunk SK acc s₀ ∧ AtG Xg σw fp tn SK (i + 1) acc H s ∧ St i acc y H ∧ ∀ acc' s'', W (i + 1) acc' H → AtG Xg σw fp tn SK (i + 1) acc' H s'' → kap (.send .none) s''
def InG (Xg : Cx) (σw : L2.St) (SK : Int → List (Addr × Obj) → Prop) (acc : Int) (H : Hp) (s : Shared) : Prop := ∃ gp, SK acc gp ∧ Inv Xg gp σw H s
theorem AtG.inG {Xg : Cx} {σw : L2.St} {fp : List Addr} {tn : Nat → Heap → Prop} {SK : Int → List (Addr × Obj) → Prop} {j : Nat} {acc : Int} {H : Hp} {s : Shared} (h : AtG Xg σw fp tn SK j acc H s) : InG Xg σw SK acc H s := by
  obtain ⟨gp, h1, I, _⟩ := h
  exact ⟨gp, h1, I⟩
def GRp (Xg : Cx) (σw : L2.St) (SK : Int → List (Addr × Obj) → Prop) (N : Nat) (W : Nat → Int → Hp → Prop) : GenEnd := fun n s₀ r s =>
  r = .ok .next ∧ ∃ acc H, Sunk SK acc s₀ ∧ InG Xg σw SK acc H s ∧ W N acc H
/-- what is known of each turn -/
def TurnsG (J : It) (g : TG) (te : TE) (σw : L2.St) (vs : List Nat) (N : Nat) (W : Nat → Int → Hp → Prop) (St : Nat → Int → V → Hp → Prop) : Prop :=
  ∀ j acc H, W j acc H → (j = N ∧ J.stop j H) ∨ (j < N ∧ J.go j H ∧ ∀ x H', J.yld j H x H' → g x σw H' fun σ2 H2 => wipe σ2 vs = σw ∧ te σ2 H2 fun y H3 => St j acc y H3)
theorem gen_seg {Xg : Cx} {fp : List Addr} {tn : Nat → Heap → Prop} {SK : Int → List (Addr × Obj) → Prop} {N : Nat} {W : Nat → Int → Hp → Prop} {St : Nat → Int → V → Hp → Prop} {J : It} {g : TG} {te : TE} {σw : L2.St} {vs : List Nat} {it : Addr} {B : Around}
    (hA : B.over (gCode elt t i scope pos it Xg.env) [] = Xg.A) (hx : Xg.xe = fun _ _ => False) (hpn : Xg.pn = []) (hco : Xg.env.scope.isCoroutine = false) (hc : Xg.calm = true) (T : Turn Xg.prog Xg.w Xg.K t J fp it tn) (hg : PG Xg t g) (he : PE Xg elt te)
    (hf : ∀ (gp : List (Addr × Obj)) (acc : Int), SK acc gp → ∀ (H : Hp) (b : Addr), b ∈ fp → H b = none → FpOk Xg gp H b)
    (turns : TurnsG J g te σw vs N W St) :
    ∀ (n j : Nat) (acc : Int) (H : Hp) (s₀ s : Shared), n + j = N + 1 → W j acc H → AtG Xg σw fp tn SK j acc H s → Sunk SK acc s₀ →
      Seg (model Xg.prog Xg.w) B (GRp Xg σw SK N W) (GYp Xg σw fp tn SK N W St) n s₀ (gCode elt t i scope pos it Xg.env) ((model Xg.prog Xg.w).den (gCode elt t i scope pos it Xg.env)) [] s := by
  intro n
  induction n with
  | zero =>
    intro j acc H s₀ s hj w at_ sk
    rcases turns j acc H w with ⟨e, stop⟩ | ⟨lt, _⟩ <;> omega
  | succ n ih =>
    intro j acc H s₀ s hj w at_ sk
    obtain ⟨gp, hgp, I, st, fr⟩ := at_
    rcases turns j acc H w with ⟨e, stop⟩ | ⟨lt, go, step⟩
    · show Seg _ B _ _ _ s₀ _ ((compTurn (.GeneratorExp elt [⟨t, i, [], 0⟩] scope pos) 0 (.ref it) .none Xg.env).onRaise (leaving Xg.env)) [] s
      rw [compTurn_gen, Sem.onRaise_eq_wrap]
      refine seg_bind_wrap (wpAny_standAt ?_)
      refine seg_bind_wrap ?_
      rw [hA]
      refine thnF (T.done Xg rfl rfl rfl hc j gp s σw H (fun _ _ => False) I (fun b hb => hf gp acc hgp H b hb (fr b hb)) st stop) fun r s' ⟨hr, I'⟩ => ?_
      subst hr
      have e0 : j = N := e
      subst e0
      exact seg_end (.ok .next) ⟨rfl, acc, H, sk, ⟨gp, hgp, I'⟩, w⟩
    show Seg _ B _ _ _ s₀ _ ((compTurn (.GeneratorExp elt [⟨t, i, [], 0⟩] scope pos) 0 (.ref it) .none Xg.env).onRaise (leaving Xg.env)) [] s
    rw [compTurn_gen, Sem.onRaise_eq_wrap]
    refine seg_bind_wrap (wpAny_standAt ?_)
    refine seg_bind_wrap ?_
    rw [hA]
    refine thnF (T.item Xg rfl rfl rfl hc j gp s σw H (fun _ _ => False) I (fun b hb => hf gp acc hgp H b hb (fr b hb)) st go) fun r s1 ⟨u, hr, h1⟩ => ?_
    subst hr
    refine seg_bind_wrap ?_
    rw [hA]
    refine thnF h1 fun _ s2 ⟨x, H2, I2, r2, y2, st2, fr2⟩ => ?_
    have I2' := I2.pinned (fun b hb => hf gp acc hgp H2 b hb (fr2 b hb)) (T.obj _ _ st2)
    refine seg_bind_wrap ?_
    rw [hA]
    have hg' := hg.run _ s2 σw H2 x u _ I2' r2 (step x H2 y2)
    rw [hx] at hg'
    refine thnF hg' fun _ s3 ⟨σ3, H3, I3, hw3, q3⟩ => ?_
    refine seg_bind_wrap (wpAny_of_eq (a := true) rfl ?_)
    simp only [if_true]
    have hy : ∀ v, yieldOut Xg.env v = yieldValue v := fun v => by simp only [yieldOut, hco, Bool.false_eq_true, if_false]
    simp only [hy]
    rw [Sem.bind_eq_wrap', Sem.bind_eq_wrap', Sem.wrap_wrap, Sem.wrap_wrap]
    refine seg_wrap ?_
    rw [hA]
    have he' := he.run _ s3 σ3 H3 _ I3 q3
    rw [hx] at he'
    refine thnF he' fun v s4 ⟨y, H4, I4, r4, q4⟩ => ?_
    have pin' : ∀ b ∈ fp, ∀ o, s2.heap.get? b = some o → s4.heap.get? b = some o ∧ H4 b = none := fun b hb o e =>
      let z := I4.pin (b, o) (List.mem_append_right _ (List.mem_append_right _ (mem_pinsAt hb e)))
      ⟨z.1, z.2.1⟩
    have hl : σw.length = σ3.length := by rw [← hw3, wipe_length]
    have at4 : AtG Xg σw fp tn SK (j + 1) acc H4 s4 := by
      refine ⟨gp, hgp, (I4.unpinned (pins := gp)).weak hl (fun i v e => ?_), T.keep _ _ _ st2 fun b hb o e => (pin' b hb o e).1, fun b hb => ?_⟩
      · rw [← hw3] at e
        exact (wipe_some e).1
      · obtain ⟨o, e, _⟩ := T.obj _ _ st2 b hb
        exact (pin' b hb o e).2
    refine seg_at (seg_yield rfl rfl rfl ⟨j, acc, y, H4, by omega, r4, sk, at4, q4, fun acc' s'' w' at' => ?_⟩)
    exact seg_again rfl (ih (j + 1) acc' H4 s'' s'' (by omega) w' at' at'.sunk)
end
end Ev

/-! Generator expressions: all, any, sum over them. -/
namespace Ev
open PySem PySem.Spec PyProof.Rows L2 GenW

/-- a value's truth, nothing but counters moved -/
theorem tru_exact {X : Cx} {pins : List (Addr × Obj)} {σ : L2.St} {H : Hp} {s : Shared} {A : Around} {E : Value → Shared → Prop} {x : V} {v : Value} {k : Bool} {Q : Bool → Shared → Prop} (I : Inv X pins σ H s) (rx : RelV x v) (e : TruV X.K x H k) (q : ∀ tk, Q k { s with toks := tk }) :
    wpAny (model X.prog X.w) A (truthy v) Q E s := by
  have hl := line63
  have hs : sizeLine = 16777216 := sizeLine_eq
  cases x with
  | non =>
    cases rx
    have e' : k = false := e
    subst e'
    exact truthy_none (q s.toks)
  | bl b =>
    cases rx
    have e' : k = b := e
    subst e'
    exact wpAny_truthy_bool (q s.toks)
  | int i =>
    obtain ⟨t, rfl⟩ := rx
    have e' : k = (i != 0) := e
    subst e'
    exact PySem.P.truthy_int (q s.toks)
  | str y =>
    obtain ⟨t, rfl⟩ := rx
    obtain ⟨hy, e'⟩ : y.length ≤ sizeLine ∧ k = ((y.length : Int) != 0) := e
    subst e'
    exact PySem.P.truthy_str (by omega) (q _)
  | byt y =>
    obtain ⟨t, rfl⟩ := rx
    obtain ⟨hy, e'⟩ : y.size ≤ sizeLine ∧ k = ((y.size : Int) != 0) := e
    subst e'
    exact PySem.W.truthy_bytes (by omega) (q _)
  | ref p =>
    cases rx
    have e' : (∃ xs, SqL X.K H p xs ∧ k = !xs.isEmpty) ∨ (∃ xs, SqT X.K H p xs ∧ k = !xs.isEmpty) ∨ ∃ kvs, H p = some (.dK kvs) ∧ k = !kvs.isEmpty := e
    rcases e' with ⟨xs, hx, e'⟩ | ⟨xs, hx, e'⟩ | ⟨kvs, hx, e'⟩
    · subst e'
      obtain ⟨its, r, pl, hz⟩ := I.list hx
      have hlen := r.length
      exact wpAny_truthy_list pl.isList (by simp only [List.size_toArray]; omega) (by rw [isEmpty_of r]; exact q _)
    · subst e'
      obtain ⟨its, r, pl, hz⟩ := I.tuple hx
      have hlen := r.length
      exact truthy_tuple pl (by simp only [List.size_toArray]; omega) (by rw [isEmpty_of r]; exact q _)
    · subst e'
      obtain ⟨hz, hS, vs, r, m⟩ : kvs.length ≤ sizeLine ∧ (p == sysModules) = false ∧ ∃ vs, KV kvs vs ∧ s.heap.DictOf (mixKind X.prog X.w) p vs := I.hok p _ hx
      have hlen : kvs.length = vs.length := Paired.length r
      exact wpAny_truthy_dict hS m (by omega) (by rw [isEmpty_kv r]; exact q _)
  | _ => exact (show False from e).elim

theorem inv_same {X : Cx} {pins : List (Addr × Obj)} {σ : L2.St} {H : Hp} {s s' : Shared} (I : Inv X pins σ H s) (ho : s'.os = s.os) (k : ∀ b o, s.heap.get? b = some o → s'.heap.get? b = some o) (hg : AllBare s'.gens) : Inv X pins σ H s' :=
  I.call' (ch := []) ho (Un.kept k) (I.hok.kept k) hg fun b hb => absurd hb (by simp)
section
variable {Xg : Cx} {σw : L2.St} {fp : List Addr} {tn : Nat → Heap → Prop} {it : Addr} {J : It} {t : Expr} {SK : Int → List (Addr × Obj) → Prop} {j : Nat} {acc : Int} {H : Hp} {s s' : Shared}
theorem AtG.same (T : Turn Xg.prog Xg.w Xg.K t J fp it tn) (h : AtG Xg σw fp tn SK j acc H s) (ho : s'.os = s.os) (k : ∀ b o, s.heap.get? b = some o → s'.heap.get? b = some o) (hg : AllBare s'.gens) : AtG Xg σw fp tn SK j acc H s' := by
  obtain ⟨gp, h1, I, st, fr⟩ := h
  exact ⟨gp, h1, inv_same I ho k hg, T.keep _ _ _ st fun b _ o e => k b o e, fr⟩
theorem InG.same (h : InG Xg σw SK acc H s) (ho : s'.os = s.os) (k : ∀ b o, s.heap.get? b = some o → s'.heap.get? b = some o) (hg : AllBare s'.gens) : InG Xg σw SK acc H s' := by
  obtain ⟨gp, h1, I⟩ := h
  exact ⟨gp, h1, inv_same I ho k hg⟩
end
/-- the generator object -/
def IsGO (g : Nat) (o : Obj) : Prop := ∃ nm qn, o.cls = .type "generator" ∧ o.data = .fields #[.int g 0, nm, qn] ∧ o.slots = #[]
section
variable {X Xg : Cx} {σw : L2.St} {fp : List Addr} {tn : Nat → Heap → Prop} {it : Addr} {J : It} {t : Expr} {SK : Int → List (Addr × Obj) → Prop} {N : Nat} {W : Nat → Int → Hp → Prop} {St : Nat → Int → V → Hp → Prop} {a : Addr} {g : Nat}
/-- the generator stands ready: m items are still to come -/
def RdyG (X Xg : Cx) (σw : L2.St) (fp : List Addr) (tn : Nat → Heap → Prop) (SK : Int → List (Addr × Obj) → Prop) (N : Nat) (W : Nat → Int → Hp → Prop) (St : Nat → Int → V → Hp → Prop) (g : Nat) (m : Nat) (s : Shared) : Prop :=
  ∃ gs, s.gens[g]? = some gs ∧ gs.Goes (model X.prog X.w) X.A.in1.in1 (GRp Xg σw SK N W) (GYp Xg σw fp tn SK N W St) m (.send .none) (s.setGen g .running)
/-- one step: what next gives -/
theorem next_g {A : Around} {E : Value → Shared → Prop} {Q : Option Value → Shared → Prop} {m j : Nat} {acc : Int} {H : Hp} {s : Shared} (hA : A = X.A.in1) (hh : X.A.handled = none) (hd : X.A.depth < recursionLimit) (hP : Xg.prog = X.prog) (hw : Xg.w = X.w)
    (T : Turn Xg.prog Xg.w Xg.K t J fp it tn) (hm : m + j = N + 1) (hj : j ≤ N) (hSK : ∀ acc gp, SK acc gp → ∃ o, (a, o) ∈ gp ∧ IsGO g o) (at_ : AtG Xg σw fp tn SK j acc H s) (rdy : RdyG X Xg σw fp tn SK N W St g m s)
    (hY : ∀ i acc' y v H' s' m', m = m' + 1 → (m' + i = N ∧ i < N) → RelV y v → Sunk SK acc' s → AtG Xg σw fp tn SK (i + 1) acc' H' s' → St i acc' y H' →
      (∀ acc'' s'', s''.gens = s'.gens → W (i + 1) acc'' H' → AtG Xg σw fp tn SK (i + 1) acc'' H' s'' → RdyG X Xg σw fp tn SK N W St g m' s'') → Q (some v) s')
    (hN : ∀ acc' H' s', Sunk SK acc' s → InG Xg σw SK acc' H' s' → W N acc' H' → Q none s') : wpAny (model X.prog X.w) A (pyNext (.ref a)) Q E s := by
  obtain ⟨gs, hgs, hgo⟩ := rdy
  have hgl : g < s.gens.size := (Array.getElem?_eq_some_iff.mp hgs).1
  obtain ⟨gp, hgp, I, st, fr⟩ := id at_
  obtain ⟨o, ho, nm, qn, o1, o2, o3⟩ := hSK acc gp hgp
  have hg : s.heap.IsGen a g := ⟨o, nm, qn, (I.pin (a, o) (List.mem_append_right _ ho)).1, o1, o2, o3⟩
  subst hA
  refine wpAny_gsz (n := g + 1) hgl (wpAny_pyNext_genexpQ (A := X.A.in1) hh I.nolimit hd hg hgs (P := fun n s₀ s₁ => ∃ acc H, Sunk SK acc s₀ ∧ InG Xg σw SK acc H s₁ ∧ W N acc H) hgo (fun v s₁ gs' hb hv => ?_) (fun s₁ hp h' hk => ?_))
  · intro hsz
    have hsz1 : g < s₁.gens.size := by
      have q : (s₁.setGen g gs').gens.size = s₁.gens.size := setGen_size _ _ _
      have hsz' : g + 1 ≤ (s₁.setGen g gs').gens.size := hsz
      omega
    obtain ⟨i, acc', y, H', hi, ry, sk, at', stp, kap⟩ := hv
    cases m with
    | zero => omega
    | succ m' =>
      obtain ⟨_, _, I', _⟩ := id at'
      refine hY i acc' y v H' _ m' rfl (by simpa using hi) ry sk (at'.same T rfl (fun _ _ e => e) (allBare_setGen I'.bare hb)) stp fun acc'' s'' hgens w'' at'' => ?_
      refine ⟨gs', by rw [hgens]; exact setGen_at hsz1, ?_⟩
      obtain ⟨_, _, I'', _⟩ := id at''
      exact kap acc'' _ w'' (at''.same T rfl (fun _ _ e => e) (allBare_setGen I''.bare rfl))
  · intro _
    obtain ⟨acc', H', sk, ing, w⟩ := hp
    obtain ⟨_, _, I'⟩ := id ing
    exact hN acc' H' _ sk (ing.same rfl hk (allBare_setGen I'.bare rfl)) w

/-- all -/
theorem all_loop {R' : Result → Shared → Prop} {Fn : Bool → Hp → Prop} (hh : X.A.handled = none) (hd : X.A.depth < recursionLimit) (hP : Xg.prog = X.prog) (hw : Xg.w = X.w)
    (T : Turn Xg.prog Xg.w Xg.K t J fp it tn) (hSK : ∀ acc gp, SK acc gp → ∃ o, (a, o) ∈ gp ∧ IsGO g o) (hSa : ∀ acc acc' gp, SK acc gp → SK acc' gp)
    (hst : ∀ j acc y H, St j acc y H → ∃ k, TruV Xg.K y H k ∧ if k = true then W (j + 1) acc H else Fn false H) (hend : ∀ acc H, W N acc H → Fn true H) (hR : ∀ b acc H s, InG Xg σw SK acc H s → Fn b H → R' (.ok (.ret (.bool b))) s) :
    ∀ (m j : Nat) (acc : Int) (H : Hp) (s : Shared), m + j = N + 1 → j ≤ N → AtG Xg σw fp tn SK j acc H s → RdyG X Xg σw fp tn SK N W St g m s → codeAny (model X.prog X.w) X.A (.builtin "all.loop" ⟨[.ref a], []⟩) R' s := by
  intro m
  induction m with
  | zero => intro j acc H s h1 h2; omega
  | succ m ih =>
    intro j acc H s hm hj at_ rdy
    refine codeAny_builtin F.entry_all_loop ?_
    rw [Around.under_plainId F.plain_all_loop _]
    show wpAny _ X.A.in1 (pyNext (.ref a) >>= _) _ _ s
    refine wpAny_bind (next_g rfl hh hd hP hw T hm hj hSK at_ rdy (fun i acc' y v H' s' m' e1 e2 ry sk at' stp kap => ?_) (fun acc' H' s' sk ing w => ?_))
    · obtain ⟨k, tv, q⟩ := hst i acc' y H' stp
      obtain ⟨gp, hgp, I', _⟩ := id at'
      rw [← hP, ← hw]
      refine wpAny_bind (wpAny_holding (tru_exact I' ry tv fun tk => ?_))
      refine wpAny_bind (wpAny_letGo ?_)
      have at2 : AtG Xg σw fp tn SK (i + 1) acc' H' { s' with toks := tk } := at'.same T rfl (fun _ _ e => e) I'.bare
      cases k with
      | true =>
        simp only [if_true] at q ⊢
        cases e1
        rw [hP, hw]
        exact wpAny_pure ⟨plainId_quiet F.plain_all_loop _, ih (i + 1) acc' H' _ (by omega) (by omega) at2 (kap acc' _ rfl q at2)⟩
      | false =>
        simp only [Bool.false_eq_true, if_false] at q ⊢
        exact wpAny_bind (wpAny_rule (wpAny_pure (hR false acc' H' _ at2.inG q)))
    · exact wpAny_bind (wpAny_rule (wpAny_pure (hR true acc' H' s' ing (hend acc' H' w))))
/-- any -/
theorem any_loop {R' : Result → Shared → Prop} {Fn : Bool → Hp → Prop} (hh : X.A.handled = none) (hd : X.A.depth < recursionLimit) (hP : Xg.prog = X.prog) (hw : Xg.w = X.w)
    (T : Turn Xg.prog Xg.w Xg.K t J fp it tn) (hSK : ∀ acc gp, SK acc gp → ∃ o, (a, o) ∈ gp ∧ IsGO g o)
    (hst : ∀ j acc y H, St j acc y H → ∃ k, TruV Xg.K y H k ∧ if k = true then Fn true H else W (j + 1) acc H) (hend : ∀ acc H, W N acc H → Fn false H) (hR : ∀ b acc H s, InG Xg σw SK acc H s → Fn b H → R' (.ok (.ret (.bool b))) s) :
    ∀ (m j : Nat) (acc : Int) (H : Hp) (s : Shared), m + j = N + 1 → j ≤ N → AtG Xg σw fp tn SK j acc H s → RdyG X Xg σw fp tn SK N W St g m s → codeAny (model X.prog X.w) X.A (.builtin "any.loop" ⟨[.ref a], []⟩) R' s := by
  intro m
  induction m with
  | zero => intro j acc H s h1 h2; omega
  | succ m ih =>
    intro j acc H s hm hj at_ rdy
    refine codeAny_builtin F.entry_any_loop ?_
    rw [Around.under_plainId F.plain_any_loop _]
    show wpAny _ X.A.in1 (pyNext (.ref a) >>= _) _ _ s
    refine wpAny_bind (next_g rfl hh hd hP hw T hm hj hSK at_ rdy (fun i acc' y v H' s' m' e1 e2 ry sk at' stp kap => ?_) (fun acc' H' s' sk ing w => ?_))
    · obtain ⟨k, tv, q⟩ := hst i acc' y H' stp
      obtain ⟨gp, hgp, I', _⟩ := id at'
      rw [← hP, ← hw]
      refine wpAny_bind (wpAny_holding (tru_exact I' ry tv fun tk => ?_))
      refine wpAny_bind (wpAny_letGo ?_)
      have at2 : AtG Xg σw fp tn SK (i + 1) acc' H' { s' with toks := tk } := at'.same T rfl (fun _ _ e => e) I'.bare
      cases k with
      | false =>
        simp only [Bool.false_eq_true, if_false] at q ⊢
        cases e1
        rw [hP, hw]
        exact wpAny_pure ⟨plainId_quiet F.plain_any_loop _, ih (i + 1) acc' H' _ (by omega) (by omega) at2 (kap acc' _ rfl q at2)⟩
      | true =>
        simp only [if_true] at q ⊢
        exact wpAny_bind (wpAny_rule (wpAny_pure (hR true acc' H' _ at2.inG q)))
    · exact wpAny_bind (wpAny_rule (wpAny_pure (hR false acc' H' s' ing (hend acc' H' w))))
/-- the running sum's object -/
def sumO (acc : Int) (tk : Tok) (c : Nat) : Obj := { cls := .type "list", dict := none, data := .seq #[.int acc tk] c, slots := #[] }
def SKs (a S : Addr) (g : Nat) : Int → List (Addr × Obj) → Prop := fun acc gp => ∃ o tk c, gp = [(a, o), (S, sumO acc tk c)] ∧ IsGO g o
theorem skS_mem {a S : Addr} {g : Nat} (acc : Int) (gp : List (Addr × Obj)) (h : SKs a S g acc gp) : ∃ o, (a, o) ∈ gp ∧ IsGO g o := by
  obtain ⟨o, tk, c, rfl, h⟩ := h
  exact ⟨o, List.mem_cons_self, h⟩
theorem sunkS {a S : Addr} {g : Nat} {acc : Int} {s : Shared} (h : Sunk (SKs a S g) acc s) : ∃ tk c, s.heap.get? S = some (sumO acc tk c) := by
  obtain ⟨gp, ⟨o, tk, c, rfl, _⟩, h⟩ := h
  exact ⟨tk, c, h (S, sumO acc tk c) (by simp)⟩
theorem AtG.put {a S : Addr} {g j : Nat} {acc acc' : Int} {H : Hp} {s s' : Shared} {tk' : Tok} {c' : Nat} (T : Turn Xg.prog Xg.w Xg.K t J fp it tn) (hpn : Xg.pn = []) (haS : a ≠ S) (hSf : S ∉ fp) (h : AtG Xg σw fp tn (SKs a S g) j acc H s) (hS : Xg.s_0.heap.objs.size ≤ S) (hSc : ∀ x c, Xg.env.cells.lookup x = some c → c ≠ S)
    (ho : s'.os = s.os) (k : ∀ b o, b ≠ S → s.heap.get? b = some o → s'.heap.get? b = some o) (eS : s'.heap.get? S = some (sumO acc' tk' c')) (hg : AllBare s'.gens) : AtG Xg σw fp tn (SKs a S g) j acc' H s' := by
  obtain ⟨gp, ⟨o, tk, c, rfl, go⟩, I, st, fr⟩ := h
  obtain ⟨p1, hS0, hSL, hSf', _⟩ := I.pin (S, sumO acc tk c) (List.mem_append_right _ (by simp))
  have hS0 : H S = none := hS0
  have hSL : S ≠ Xg.env.locals := hSL
  have I0 : Inv Xg [(a, o)] σw H s := I.pins_of fun p hp => I.pin p (by
    rw [List.mem_singleton.mp hp]
    exact List.mem_append_right _ List.mem_cons_self)
  have nt : ∀ b u, H b = some u → b ≠ S := fun b u q hb => by rw [hb, hS0] at q; cases q
  have nc : ∀ b, b ∉ [S] → b ≠ S := fun b hb e => hb (by rw [e]; exact List.mem_singleton.mpr rfl)
  obtain ⟨hh, gg, d, tt, os⟩ := s'
  have ho : os = s.os := ho
  subst ho
  have Jn : Inv Xg [(a, o)] σw H { s with heap := hh, gens := gg, drawn := d, toks := tt } := by
    refine I0.step (g' := gg) (t' := tt) (d' := d) (ch := [S]) (fun b hb => ?_)
      (fun b ob _ _ hc q _ => k b ob (nc b hc) q) (fun b ob _ _ hc q _ => ⟨ob.slots, k b ob (nc b hc) q⟩) (fun _ _ _ _ n => n) (fun b ob hc q => ⟨ob, k b ob (nc b hc) q⟩)
      (fun _ _ q => q) (fun _ _ _ q => q) (fun b ps q => ⟨#[], by rw [q]; simp⟩) (fun m hm => ?_) (fun b u q => ?_) hg
    · rw [List.mem_singleton.mp hb]
      refine ⟨.inr hS, hSL, hSc, fun p hp => ?_⟩
      rw [hpn] at hp
      rw [List.mem_singleton.mp hp]
      exact haS
    · obtain ⟨ob, es, ep, ho, r⟩ := hm
      exact ⟨ob, es, ep, k _ ob (Ne.symm hSL) ho, r⟩
    · refine (I0.hok b u q).stay (fun c v hc y => k c v ?_ y) (fun _ y => y) fun _ _ y => y
      rcases hc with y | y
      · rw [y]; exact nt b u q
      · exact nt c _ y
  refine ⟨_, ⟨o, tk', c', rfl, go⟩, Jn.pins_of fun p hp => ?_, T.keep _ _ _ st fun b hb o e => k b o (fun z => hSf (by rw [← z]; exact hb)) e, fr⟩
  rcases List.mem_cons.mp hp with hp | hp
  · exact Jn.pin p (List.mem_append_right _ (by rw [hp]; exact List.mem_singleton.mpr rfl))
  · rw [List.mem_singleton.mp hp]
    exact ⟨eS, hS0, hSL, hSf', fun v q => by cases q⟩
/-- sum -/
theorem sum_loop {R' : Result → Shared → Prop} {Fn : Int → Hp → Prop} {S : Addr} (hh : X.A.handled = none) (hd : X.A.depth < recursionLimit) (hP : Xg.prog = X.prog) (hw : Xg.w = X.w)
    (T : Turn Xg.prog Xg.w Xg.K t J fp it tn) (hpn : Xg.pn = []) (haS : a ≠ S) (hSf : S ∉ fp) (hS : Xg.s_0.heap.objs.size ≤ S) (hSc : ∀ x c, Xg.env.cells.lookup x = some c → c ≠ S)
    (hst : ∀ j acc y H, St j acc y H → ∃ i, y = .int i ∧ W (j + 1) (acc + i) H) (hend : ∀ acc H, W N acc H → Fn acc H) (hR : ∀ acc tk H s, InG Xg σw (SKs a S g) acc H s → Fn acc H → R' (.ok (.ret (.int acc tk))) s) :
    ∀ (m j stg cmp : Nat) (acc : Int) (H : Hp) (s : Shared), (stg = 0 ∨ stg = 2) → m + j = N + 1 → j ≤ N → AtG Xg σw fp tn (SKs a S g) j acc H s → RdyG X Xg σw fp tn (SKs a S g) N W St g m s → codeAny (model X.prog X.w) X.A (.builtin "sum.loop" ⟨[.ref a, .ref S, rawInt stg, rawInt cmp], []⟩) R' s := by
  intro m
  induction m with
  | zero => intro j stg cmp acc H s _ h1 h2; omega
  | succ m ih =>
    intro j stg cmp acc H s hstg hm hj at_ rdy
    obtain ⟨tk0, c0, eS0⟩ := sunkS at_.sunk
    refine codeAny_builtin F.entry_sum_loop ?_
    rw [Around.under_plainId F.plain_sum_loop _]
    show wpAny _ X.A.in1 (seqItems? (.ref S) >>= _) _ _ s
    refine wpAny_bind (wpAny_seqItems eS0 rfl ?_)
    show wpAny _ X.A.in1 (tryCatch (pyNext (.ref a)) _ >>= _) _ _ s
    refine wpAny_bind (wpAny_tryCatch (next_g rfl hh hd hP hw T hm hj skS_mem at_ rdy (fun i acc' y v H' s' m' e1 e2 ry sk at' stp kap => ?_) (fun acc' H' s' sk ing w => ?_)))
    · obtain ⟨tk1, c1, eS1⟩ := sunkS sk
      rw [eS0] at eS1
      have ea : acc = acc' := by
        have q : (Data.seq #[Value.int acc tk0] c0) = Data.seq #[Value.int acc' tk1] c1 := congrArg Obj.data (Option.some.inj eS1)
        simp only [Data.seq.injEq, Array.mk.injEq, List.cons.injEq, Value.int.injEq, and_true] at q
        exact q.1.1
      subst ea
      obtain ⟨ii, rfl, wn⟩ := hst i acc y H' stp
      obtain ⟨t', rfl⟩ := ry
      obtain ⟨tk2, c2, eS2⟩ := sunkS at'.sunk
      obtain ⟨gp, hgp, I', _⟩ := id at'
      cases e1
      have go : ∀ (s4 : Shared) (stg' cmp' : Nat) (tk : Tok) (c : Nat), (stg' = 0 ∨ stg' = 2) → s4.os = s'.os → s4.gens = s'.gens → (∀ b o, b ≠ S → s'.heap.get? b = some o → s4.heap.get? b = some o) → s4.heap.get? S = some (sumO (acc + ii) tk c) →
          codeAny (model X.prog X.w) X.A (.builtin "sum.loop" ⟨[.ref a, .ref S, rawInt stg', rawInt cmp'], []⟩) R' s4 := fun s4 stg' cmp' tk c h1 h2 h3 h4 h5 => by
        have at4 := at'.put T hpn haS hSf hS hSc h2 h4 h5 (by rw [h3]; exact I'.bare)
        exact ih (i + 1) stg' cmp' (acc + ii) H' s4 h1 (by omega) (by omega) at4 (kap (acc + ii) s4 h3 wn at4)
      have keepU : ∀ (h : Heap) (f : Array Value → Array Value) b o, b ≠ S → h.get? b = some o → (h.update S (Obj.mapSeq f)).get? b = some o := fun h f b o hb e => (Heap.get?_update_other _ _ (Ne.symm hb)).trans e
      have selfU : ∀ (h : Heap) (ac : Int) (tk tk' : Tok) (c : Nat), h.get? S = some (sumO ac tk c) → ∃ c', (h.update S (Obj.mapSeq fun _ => #[.int (acc + ii) tk'])).get? S = some (sumO (acc + ii) tk' c') := fun h ac tk tk' c e => ⟨_, Heap.get?_update_self _ e rfl⟩
      have plain : ∀ (s3 : Shared) (hs : s3.os = s'.os ∧ s3.gens = s'.gens ∧ s3.heap = s'.heap) (nx : Value → Int) (Rr : PySem.Fin → Shared → Prop), (∀ tk, nx (.int (acc + ii) tk) = 2) → (∀ s4, codeAny (model X.prog X.w) X.A (.builtin "sum.loop" ⟨[.ref a, .ref S, rawInt (2 : Nat), rawInt (0 : Nat)], []⟩) R' s4 → Rr (.again (.builtin "sum.loop" ⟨[.ref a, .ref S, rawInt (2 : Nat), rawInt (0 : Nat)], []⟩)) s4) →
          wpAny (model X.prog X.w) X.A.in1 (do
            match ← (holding [Value.int ii t'] (binaryOp .Add (.int acc tk0) (.int ii t'))).attempt with
            | .ok r => updateSeq S (fun _ => #[r]); letGo [.int acc tk0, .int ii t']; (do updateSeq S (fun _ => #[r]); again (.builtin "sum.loop" ⟨[.ref a, .ref S, rawInt (nx r), rawInt 0], []⟩))
            | .error e => updateSeq S (fun _ => #[]); letGo [.int acc tk0, .int ii t'] [e]; throw e) Rr (fun e s => R' (.error e) s) s3 := by
        rintro s3 ⟨h1, h2, h3⟩ nx Rr hnx hRr
        refine wpAny_bind (wpAny_attempt (wpAny_holding (wpAny_add_int ?_)))
        show wpAny _ _ (updateSeq S (fun _ => #[.int (acc + ii) s3.toks]) >>= _) _ _ _
        refine wpAny_bind (wpAny_updateSeq (o := sumO acc tk2 c2) (by show s3.heap.get? S = _; rw [h3]; exact eS2) rfl ?_)
        refine wpAny_bind (wpAny_letGo ?_)
        obtain ⟨c3, e3⟩ := selfU s3.heap acc tk2 s3.toks c2 (by rw [h3]; exact eS2)
        refine wpAny_bind (wpAny_updateSeq (o := sumO (acc + ii) s3.toks c3) e3 rfl ?_)
        rw [hnx]
        obtain ⟨c4, e4⟩ := selfU _ _ _ s3.toks _ e3
        refine wpAny_pure (hRr _ ?_)
        refine go _ 2 0 s3.toks c4 (.inr rfl) h1 h2 (fun b o hb e => ?_) e4
        refine keepU _ _ b o hb (keepU _ _ b o hb ?_)
        rw [← h3] at e
        exact e
      rcases hstg with rfl | rfl
      · show wpAny _ X.A.in1 (if (_ : Bool) = true then (mkInt (acc + ii) >>= _) else _) _ _ _
        split
        · refine wpAny_bind (wpAny_mkInt ?_)
          show wpAny _ X.A.in1 (updateSeq S (fun _ => #[.int (acc + ii) s'.toks]) >>= _) _ _ _
          obtain ⟨c3, e3⟩ := selfU s'.heap acc tk2 s'.toks c2 eS2
          exact wpAny_bind (wpAny_updateSeq eS2 rfl (wpAny_pure ⟨plainId_quiet F.plain_sum_loop _, go _ 0 0 s'.toks c3 (.inl rfl) rfl rfl (fun b o hb e => keepU _ _ b o hb e) e3⟩))
        · refine wpAny_bind (wpAny_rule ?_)
          exact plain s' ⟨rfl, rfl, rfl⟩ _ _ (fun _ => rfl) fun s4 h => ⟨plainId_quiet F.plain_sum_loop _, h⟩
      · exact plain s' ⟨rfl, rfl, rfl⟩ _ _ (fun _ => rfl) fun s4 h => ⟨plainId_quiet F.plain_sum_loop _, h⟩
    · obtain ⟨tk1, c1, eS1⟩ := sunkS sk
      rw [eS0] at eS1
      have ea : acc = acc' := by
        have q : (Data.seq #[Value.int acc tk0] c0) = Data.seq #[Value.int acc' tk1] c1 := congrArg Obj.data (Option.some.inj eS1)
        simp only [Data.seq.injEq, Array.mk.injEq, List.cons.injEq, Value.int.injEq, and_true] at q
        exact q.1.1
      subst ea
      exact wpAny_pure (hR acc tk0 H' s' ing (hend acc H' w))
end
end Ev

/-! Generator expressions: made, begun, ended; the rules. -/
namespace Ev
open PySem PySem.Spec PyProof.Rows L2 GenW GxR

section
variable {X : Cx} {elt t i : Expr} {scope : Scope} {gpos : Pos} {pins : List (Addr × Obj)} {σ : L2.St}
/-- a generator has been made: its walked thing, its frame, its object at a, its number g -/
structure GMd (X : Cx) (pins : List (Addr × Obj)) (σ : L2.St) (elt t i : Expr) (scope : Scope) (gpos : Pos) (J : It) (it : Addr) (fp : List Addr) (tn : Nat → Heap → Prop) (H4 : Hp) (s4 s5 : Shared) (code : Value) (a : Addr) (g : Nat) : Prop where
  inv : Inv X pins σ H4 s4
  T : Turn X.prog X.w X.K t J fp it tn
  st : tn 0 s4.heap
  fp : ∀ b ∈ fp, FpOk X pins H4 b ∧ b < s4.heap.objs.size
  keep : ∀ b o, s4.heap.get? b = some o → s5.heap.get? b = some o
  os : s5.os = s4.os
  gens : s5.gens = s4.gens.push (.fresh (.compStart (.GeneratorExp elt [⟨t, i, [], 0⟩] scope gpos) 0 (.ref it) .none (gEnv X scope s4.heap.objs.size code)))
  num : g = s4.gens.size
  ns : ∃ m0, s5.heap.Ns s4.heap.objs.size m0
  obj : ∃ o, s5.heap.get? a = some o ∧ IsGO g o
  lt : s4.heap.objs.size < a
  cells : ∀ y c, (y, c) ∈ gCells X scope s4.heap.objs.size → (y, c) ∈ gCl X scope ∨ ∃ v, s5.heap.IsCell c v
abbrev GMd.cx (X : Cx) (elt t i : Expr) (scope : Scope) (gpos : Pos) (it : Addr) (fp : List Addr) (H4 : Hp) (s4 : Shared) (code : Value) : Cx := gCx X s4 H4 (gEnv X scope s4.heap.objs.size code) fp (gA X (gCode elt t i scope gpos it (gEnv X scope s4.heap.objs.size code)))
theorem GMd.isgen {J : It} {it : Addr} {fp : List Addr} {tn : Nat → Heap → Prop} {H4 : Hp} {s4 s5 : Shared} {code : Value} {a : Addr} {g : Nat} (M : GMd X pins σ elt t i scope gpos J it fp tn H4 s4 s5 code a g) : s5.heap.IsGen a g := by
  obtain ⟨o, h, nm, qn, h1, h2, h3⟩ := M.obj
  exact ⟨o, nm, qn, h, h1, h2, h3⟩
/-- it begins -/
theorem GMd.start {J : It} {it : Addr} {fp : List Addr} {tn : Nat → Heap → Prop} {H4 : Hp} {s4 s5 s6 : Shared} {code : Value} {a : Addr} {g : Nat} {own : List (Str × Nat)} {vs : List Nat} (hvs : own.map (·.2) = vs) {SK : Int → List (Addr × Obj) → Prop} {gp : List (Addr × Obj)} {acc : Int} {N : Nat} {W : Nat → Int → Hp → Prop} {St : Nat → Int → V → Hp → Prop} {gt : TG} {te : TE}
    (M : GMd X pins σ elt t i scope gpos J it fp tn H4 s4 s5 code a g) (hN : X.N.Nodup) (ok : BlkOk X.N X.env.scope scope own) (hfc : ∀ y, (y, NameKind.free) ∈ scope.names → (y, NameKind.cell) ∉ scope.names) (hco : scope.isCoroutine = false) (hc : X.calm = true)
    (hgt : PG (GMd.cx X elt t i scope gpos it fp H4 s4 code) t gt) (hte : PE (GMd.cx X elt t i scope gpos it fp H4 s4 code) elt te)
    (h1 : s6.os = s5.os) (h2 : s6.gens = s5.gens) (h3 : ∀ b o, s5.heap.get? b = some o → s6.heap.get? b = some o) (hgp : SK acc gp) (hgp2 : ∀ p ∈ gp, s6.heap.get? p.1 = some p.2 ∧ s4.heap.objs.size < p.1 ∧ ∀ v, p.2.data ≠ .cell v)
    (hSKf : ∀ acc gp, SK acc gp → ∀ p ∈ gp, s4.heap.objs.size < p.1) (w : W 0 acc H4) (turns : TurnsG J gt te (L2.wipe σ vs) vs N W St) :
    AtG (GMd.cx X elt t i scope gpos it fp H4 s4 code) (L2.wipe σ vs) fp tn SK 0 acc H4 s6 ∧ RdyG X (GMd.cx X elt t i scope gpos it fp H4 s4 code) (L2.wipe σ vs) fp tn SK N W St g (N + 1) s6 := by
  subst hvs
  have kp : ∀ b o, s4.heap.get? b = some o → s6.heap.get? b = some o := fun b o e => h3 b o (M.keep b o e)
  have bare5 : AllBare s5.gens := by rw [M.gens]; exact AllBare.push M.inv.bare rfl
  obtain ⟨m0, hns⟩ := M.ns
  have mk : ∀ s : Shared, s.os = s6.os → s.heap = s6.heap → AllBare s.gens → AtG (GMd.cx X elt t i scope gpos it fp H4 s4 code) (L2.wipe σ (own.map (·.2))) fp tn SK 0 acc H4 s := fun s q1 q2 q3 =>
    ⟨gp, hgp, gen_inv hN ok hfc hc M.inv M.fp gA_hd (gA_fr M.inv.ok.frames) (by rw [q2]; exact kp) (by rw [q1, h1, M.os]) q3 (by rw [q2]; exact hns.keeps h3) (fun y c hm => by
      rw [q2]
      exact (M.cells y c hm).imp id fun ⟨v, z⟩ => ⟨v, z.keeps h3⟩) (by rw [q2]; exact hgp2), by rw [q2]; exact M.T.keep _ _ _ M.st fun b _ o e => kp b o e, fun b hb => (M.fp b hb).1.1⟩
  have at6 := mk s6 rfl rfl (by rw [h2]; exact bare5)
  have hgs : s6.gens[g]? = some (.fresh (.compStart (.GeneratorExp elt [⟨t, i, [], 0⟩] scope gpos) 0 (.ref it) .none (gEnv X scope s4.heap.objs.size code))) := by
    rw [h2, M.gens, M.num]
    exact Array.getElem?_push_size ..
  refine ⟨at6, _, hgs, rfl, ?_⟩
  have at7 := mk (s6.setGen g .running) rfl rfl (allBare_setGen (by rw [h2]; exact bare5) rfl)
  have loop := gen_seg (elt := elt) (t := t) (i := i) (scope := scope) (pos := gpos) (B := X.A.in1.in1) (Xg := GMd.cx X elt t i scope gpos it fp H4 s4 code) (it := it) rfl rfl rfl hco hc M.T hgt hte (fun gp' acc' hgp' H b hb hn => by
    obtain ⟨f0, f1, f2, f3, f4, f5⟩ := (M.fp b hb).1
    have hlt := (M.fp b hb).2
    refine ⟨hn, Nat.ne_of_lt hlt, fun z => ?_, .inl hb, fun x c e z => ?_, fun p hp z => ?_⟩
    · rcases List.mem_cons.mp (M.inv.stkSub _ z) with q | q
      · exact f1 q
      · exact f2 q
    · rcases cf_mem _ _ _ (PySem.mem_of_lookup (show (gCells X scope s4.heap.objs.size).lookup x = some c from e)) with hm | ⟨_, hm⟩
      · rcases cloFrom_mem hm with hm | ⟨q1, q2⟩
        · cases hm
        · have hfree : ∃ c', X.env.cells.lookup x = some c' := by
            rcases ok.free _ q1 rfl with k | k
            · exact M.inv.ok.has _ (.inl k)
            · exact M.inv.ok.has _ (.inr k)
          obtain ⟨c', e'⟩ := hfree
          exact f4 x c (by rw [q2, e']; rfl) z
      · rw [← z] at hlt
        exact absurd (Nat.lt_of_lt_of_le hlt (Nat.le_of_succ_le hm)) (Nat.lt_irrefl _)
    · have hp : p ∈ gp' := by
        rcases List.mem_append.mp (show p ∈ ([] : List (Addr × Obj)) ++ gp' from hp) with q | q
        · cases q
        · exact q
      have q := hSKf acc' gp' hgp' p hp
      have this : p.1 = b := z
      rw [this] at q
      exact absurd (Nat.lt_trans q hlt) (Nat.lt_irrefl _)) turns (N + 1) 0 acc H4 (s6.setGen g .running) (s6.setGen g .running) (by omega) w at7 at7.sunk
  show Seg _ X.A.in1.in1 _ _ _ _ _ ((compStart (.GeneratorExp elt [⟨t, i, [], 0⟩] scope gpos) 0 (.ref it) .none (gEnv X scope s4.heap.objs.size code)).onRaise (leaving (gEnv X scope s4.heap.objs.size code))) [] _
  unfold compStart
  rw [Sem.onRaise_eq_wrap]
  show Seg _ X.A.in1.in1 _ _ _ _ _ ((ask >>= _).wrap _ _ _ _) [] _
  refine seg_bind_wrap (wpAny_askSetting ?_)
  split
  · exact seg_again rfl loop
  · refine seg_bind_wrap (wpAny_rule ?_)
    show Seg _ X.A.in1.in1 _ _ _ _ _ ((standAt i.pos >>= _).wrap _ _ _ _) [] _
    refine seg_bind_wrap (wpAny_standAt (seg_bind_wrap (M.T.self _ 0 _ _ _ ?_ (seg_again rfl loop))))
    exact M.T.keep _ _ _ M.st fun b _ o e => kp b o e
/-- it has ended -/
theorem GMd.done {J : It} {it : Addr} {fp : List Addr} {tn : Nat → Heap → Prop} {H4 H : Hp} {s4 s5 s : Shared} {code : Value} {a : Addr} {g : Nat} {SK : Int → List (Addr × Obj) → Prop} {acc : Int} {σw : L2.St}
    (M : GMd X pins σ elt t i scope gpos J it fp tn H4 s4 s5 code a g) (h : InG (GMd.cx X elt t i scope gpos it fp H4 s4 code) σw SK acc H s) : Inv X pins σ H s := by
  obtain ⟨gp, _, I⟩ := h
  exact M.inv.call' (ch := fp) I.os I.base I.hok I.bare fun b hb => by
    obtain ⟨f0, f1, f2, f3, f4, f5⟩ := (M.fp b hb).1
    exact ⟨f3, f1, f4, f5⟩

theorem make_gen {M : Model} {A : Around} {E : Value → Shared → Prop} {s : Shared} {env : PySem.Env} {elt target iter : Expr} {scope : Scope} {cl : List (Str × Addr)} {pos : Pos} {Q : Value → Shared → Prop} (hco : scope.isCoroutine = false) (hclos : closureFor scope env = pure cl) (h0 : scope.names.lookup (".0" : Str) = some NameKind.local) (hkind : scope.kind = .function) (hroom : A.depth < recursionLimit)
    (h : wpAny M A (eval iter env) (fun xv s₁ => wpAny M A (pyIter xv) (fun it s₂ => s₂.heap.NoLimit ∧ wpAny M A (genexprCode env pos (env.qual ++ "<genexpr>") scope) (fun code s₃ => wpAny M A (builtinsFor env.globals env.builtins) (fun bi s₄ =>
        ∀ h', h'.Ns s₄.heap.objs.size (fun y => if y = ".0" then some it else none) → Heap.SameBut s₄.heap.objs.size (pushCells (s₄.heap.push { cls := .type "frame", data := .dict #[] }) scope.names) h' →
          Q (.ref h'.objs.size) { s₄ with
            gens := s₄.gens.push (.fresh (.compStart (.GeneratorExp elt [⟨target, iter, [], 0⟩] scope pos) 0 it .none (genEnv scope (cellsFrom (s₄.heap.objs.size + 1) scope.names cl) s₄.heap.objs.size code bi env))),
            toks := s₄.toks + 1 + 1 + 1,
            heap := h'.push { cls := .type "generator", data := .fields #[.int s₄.gens.size 0, .str "<genexpr>" (s₄.toks + 1), .str (env.qual ++ "<genexpr>") (s₄.toks + 1 + 1)] } }) E s₃) E s₂) E s₁) E s)
    (hs : ∀ x, genFold iter env x = pure x) : wpAny M A (eval (.GeneratorExp elt [⟨target, iter, [], 0⟩] scope pos) env) Q E s := by
  rw [eval_GeneratorExp1 _ _ _ _ _ _ _ hco, hclos]
  refine wpAny_bind (wpAny_mono h (fun xv s₁ h₁ => wpAny_bind (wpAny_standAt (wpAny_bind (wpAny_of_eq (hs xv) (wpAny_bind (wpAny_holding (wpAny_mono h₁ (fun it s₂ h₂ => ?_) fun _ _ e => e))))))) fun _ _ e => e)
  refine wpAny_bind (wpAny_enterFrame h₂.1 hroom (wpAny_bind (wpAny_pure (wpAny_bind (wpAny_mono h₂.2 (fun code s₃ h₃ => wpAny_bind (wpAny_mono h₃ (fun bi s₄ h₄ => ?_) fun _ _ e => e)) fun _ _ e => e)))))
  refine wpAny_bind (env_gen hkind h0 fun h' hn' hs' => ?_)
  simp only [newGenerator, newFields]
  exact wpAny_bind (wpAny_newGen (wpAny_bind (wpAny_mkText (wpAny_bind (wpAny_mkText (wpAny_newObj_type (h₄ h' hn' hs') (by size_fits)))))))
/-- the table at P has a further code object c', its own table at P1: both are tracked -/
theorem inv_code {P c' P1 : Addr} {ps more : Array Value} {h' : Heap} {t' : Nat} {o : Obj} {s : Shared} {H : Hp} (I : Inv X pins σ H s) (hP : H P = some (.tbl ps)) (k : ∀ b u, b ≠ P → s.heap.get? b = some u → h'.get? b = some u) (hm : h'.get? P = some { cls := .none, data := .fields (ps ++ more) })
    (n1 : s.heap.objs.size ≤ c') (n2 : s.heap.objs.size ≤ P1) (ne : c' ≠ P1) (ho : h'.get? c' = some o) (h1 : h'.get? P1 = some { cls := .none, data := .fields #[] }) :
    Inv X pins σ (upd (upd (upd H P (.tbl (ps ++ more))) c' (.frz o (.own c'))) P1 (.tbl #[])) { s with heap := h', toks := t' } := by
  have lP : P < s.heap.objs.size := I.hok.lt hP
  have f1 : H c' = none := I.hok.fresh n1
  have f2 : H P1 = none := I.hok.fresh n2
  have at3 : ∀ b, b ≠ P → b ≠ c' → b ≠ P1 → upd (upd (upd H P (.tbl (ps ++ more))) c' (.frz o (.own c'))) P1 (.tbl #[]) b = H b := fun b a1 a2 a3 => by rw [upd_ne a3, upd_ne a2, upd_ne a1]
  have old : ∀ b u, s.heap.get? b = some u → b ≠ c' ∧ b ≠ P1 := fun b u e => ⟨Nat.ne_of_lt (Nat.lt_of_lt_of_le (Heap.lt_size e) n1), Nat.ne_of_lt (Nat.lt_of_lt_of_le (Heap.lt_size e) n2)⟩
  have trk : ∀ b u, H b = some u → b ≠ c' ∧ b ≠ P1 := fun b u e => ⟨Nat.ne_of_lt (Nat.lt_of_lt_of_le (I.hok.lt e) n1), Nat.ne_of_lt (Nat.lt_of_lt_of_le (I.hok.lt e) n2)⟩
  have atP : upd (upd (upd H P (.tbl (ps ++ more))) c' (.frz o (.own c'))) P1 (.tbl #[]) P = some (.tbl (ps ++ more)) := by rw [upd_ne (trk P _ hP).2, upd_ne (trk P _ hP).1, upd_same]
  have keepH : ∀ b u, H b = some u → (∀ q, u ≠ .tbl q) → upd (upd (upd H P (.tbl (ps ++ more))) c' (.frz o (.own c'))) P1 (.tbl #[]) b = some u := fun b u e q => by
    rw [at3 b (fun z => q ps (by rw [z, hP] at e; exact (Option.some.inj e).symm)) (trk b u e).1 (trk b u e).2]
    exact e
  have nN : ∀ b, H b = none → b ≠ P := fun b e z => by rw [z, hP] at e; cases e
  refine I.step (g' := s.gens) (d' := s.drawn) (ch := []) (fun b hb => nomatch hb) (fun b u _ _ _ e n => k b u (nN b n) e) (fun b u _ _ _ e n => ⟨u.slots, k b u (nN b n) e⟩)
    (fun b u _ e n => by rw [at3 b (nN b n) (old b u e).1 (old b u e).2]; exact n) (fun b u _ e => ?_) (fun b xs e => keepH b _ e fun _ z => nomatch z) (fun b ob u e => keepH b _ e fun _ z => nomatch z) (fun b qs e => ?_) (fun m hn => ?_) (fun b u e => ?_) I.bare
  · by_cases hb : b = P
    · rw [hb]; exact ⟨_, hm⟩
    · exact ⟨u, k b u hb e⟩
  · by_cases hb : b = P
    · rw [hb, hP] at e
      cases e
      rw [hb]
      exact ⟨more, atP⟩
    · exact ⟨#[], by rw [at3 b hb (trk b _ e).1 (trk b _ e).2, e]; simp⟩
  · obtain ⟨ob, es, ep, q, r⟩ := hn
    exact ⟨ob, es, ep, k _ ob (nN _ I.free) q, r⟩
  · by_cases b1 : b = P1
    · rw [b1, upd_same] at e
      cases e
      rw [b1]
      exact h1
    · rw [upd_ne b1] at e
      by_cases b2 : b = c'
      · rw [b2, upd_same] at e
        cases e
        rw [b2]
        exact ⟨ho, o, ho⟩
      · rw [upd_ne b2] at e
        by_cases b3 : b = P
        · rw [b3, upd_same] at e
          cases e
          rw [b3]
          exact hm
        · rw [upd_ne b3] at e
          refine (I.hok b u e).stay (fun d v hd q => k d v ?_ q) (fun d q => keepH d _ q fun _ z => nomatch z) fun d xs q => keepH d _ q fun _ z => nomatch z
          rcases hd with z | z
          · rw [z]; exact b3
          · intro zz
            rw [zz, hP] at z
            cases z
/-! ### code objects in tables -/
theorem among_app {pos : Pos} {cv : Value} : ∀ {l : List Value} (m : List Value), codeAmong pos l = some cv → codeAmong pos (l ++ m) = some cv := fun {l} m h => by
  fun_induction codeAmong pos l with
  | case1 line t col t2 c rest hh =>
    cases h
    show (if _ then _ else _) = _
    rw [if_pos hh]
  | case2 line t col t2 c rest hh ih =>
    show (if _ then _ else codeAmong pos (rest ++ m)) = _
    rw [if_neg hh]
    exact ih h
  | case3 => cases h
theorem among_new {pos : Pos} {cv c : Value} {p2 : Pos} : ∀ {l : List Value}, TriplesOk l → codeAmong pos (l ++ [rawInt p2.line, rawInt p2.col, c]) = some cv → codeAmong pos l = some cv ∨ cv = c := fun {l} ht h => by
  fun_induction TriplesOk l with
  | case1 =>
    have h : (if (_ : Bool) = true then some c else none) = some cv := h
    split at h
    · exact .inr (Option.some.inj h).symm
    · cases h
  | case2 line t col t2 x rest ih =>
    have h : (if (_ : Bool) = true then some x else codeAmong pos (rest ++ [rawInt p2.line, rawInt p2.col, c])) = some cv := h
    show (if (_ : Bool) = true then some x else codeAmong pos rest) = some cv ∨ _
    split at h
    · rename_i q
      rw [if_pos q]
      exact .inl h
    · rename_i q
      rw [if_neg q]
      exact ih ht h
  | case3 => exact ht.elim
theorem codeOb_hd {h : Heap} {c P : Addr} {o : Obj} (e : h.get? c = some o) (k : CodeOb o c P) : PySem.W.CodeHd h c P := by
  obtain ⟨vs, file, tf, flags, tg, inF, text, tt, r⟩ := k
  exact ⟨o, vs, file, tf, flags, tg, inF, text, tt, e, r⟩
theorem codeHd_ob {h : Heap} {c P : Addr} (k : PySem.W.CodeHd h c P) : ∃ o, h.get? c = some o ∧ CodeOb o c P := by
  obtain ⟨o, vs, file, tf, flags, tg, inF, text, tt, e, r⟩ := k
  exact ⟨o, e, vs, file, tf, flags, tg, inF, text, tt, r⟩
theorem codeOb_one {o : Obj} {c P P' : Addr} (a : CodeOb o c P) (b : CodeOb o c P') : P' = P := by
  obtain ⟨vs, file, tf, flags, tg, inF, text, tt, h1, h2, h3, _⟩ := a
  obtain ⟨vs', file', tf', flags', tg', inF', text', tt', k1, k2, k3, _⟩ := b
  rw [h2] at k2
  cases k2
  rw [h3] at k3
  cases k3
  rfl
/-- from H on to H': the table at P has grown (by a tracked code object), the generator's code is cv -/
structure TbG (ts : List Addr) (P : Addr) (pos : Pos) (H H' : Hp) (cv : Value) : Prop where
  was : ∃ ps, H P = some (.tbl ps)
  tab : TabG H' P
  old : ∀ b o, b ≠ P → H b = some o → H' b = some o
  hit : ∃ ps', H' P = some (.tbl ps') ∧ codeAmong pos ps'.toList = some cv
  def_ : TabW ts H P → TabW ts H' P
theorem codeIn_grow {ts : List Addr} {P : Addr} {H H' : Hp} {cv : Value} (hP : ∃ ps, H P = some (.tbl ps)) (t : TabG H' P) (old : ∀ b o, b ≠ P → H b = some o → H' b = some o) (k : CodeIn ts H cv) : CodeIn ts H' cv := by
  obtain ⟨c', P', ob, h1, h2, h3, h4, ps, h5, h6⟩ := k
  obtain ⟨qs, hq⟩ := hP
  refine ⟨c', P', ob, h1, old c' _ (fun z => by rw [z, hq] at h2; cases h2) h2, h3, h4, ?_⟩
  by_cases z : P' = P
  · rw [z]
    exact t
  · exact ⟨ps, old P' _ z h5, h6⟩
theorem gen_make {ts : List Addr} {c P : Addr} {wi : TI} {Q' : Value → Shared → Prop} {s : Shared} {H : Hp} {R : It → Hp → Prop} (hd : X.A.depth < recursionLimit) (bm : X.base.BuiltinsAt X.mg P) (gP : mainGlobals ≠ P) (hcode : X.env.code = .ref c)
    (hco : scope.isCoroutine = false) (hdot : scope.names.lookup (".0" : Str) = some NameKind.local) (hkind : scope.kind = .function) (hfree : ∀ y ∈ scope.names, y.2 = .free → ∃ c, X.env.cells.lookup y.1 = some c)
    (hi : PI X t i wi) (hs : ∀ v, genFold i X.env v = pure v) (I : Inv X pins σ H s) (h : wi σ H fun J H1 => (∀ {pins' s'}, Inv X pins' σ H1 s' → PySem.W.CodeHd s'.heap c P ∧ TabG H1 P) ∧ (∀ p ∈ ts, H1 p ≠ none) ∧ R J H1)
    (hQ : ∀ J it fp tn H1 H4 s4 s5 code a g, R J H1 → TbG ts P gpos H1 H4 code → GMd X pins σ elt t i scope gpos J it fp tn H4 s4 s5 code a g → Q' (.ref a) s5) :
    wpAny (model X.prog X.w) X.A (eval (.GeneratorExp elt [⟨t, i, [], 0⟩] scope gpos) X.env) Q' X.xe s := by
  refine make_gen hco (closure_ok hfree) hdot hkind hd (thn (hi.run pins s σ H _ I h) fun xv s1 h1 => thn h1 fun itv s2 h2 => ?_) hs
  obtain ⟨it, fp, tn, J, H2, e, I2, T, st2, f2, pr, hts, r⟩ := h2
  subst e
  obtain ⟨cd, ps, hP, ht⟩ := pr I2
  refine ⟨I2.nolimit, ?_⟩
  have hP2 : s2.heap.get? P = some { cls := .none, data := .fields ps } := I2.hok P _ hP
  have cont : ∀ (code : Value) (h3 : Heap) (tk : Nat) (H4 : Hp), (∀ b u, b ≠ P → s2.heap.get? b = some u → h3.get? b = some u) → s2.heap.objs.size ≤ h3.objs.size → Inv X pins σ H4 { s2 with heap := h3, toks := tk } → TbG ts P gpos H2 H4 code → (∀ b ∈ fp, H4 b = none) →
      wpAny (model X.prog X.w) X.A (builtinsFor X.env.globals X.env.builtins) (fun bi s₄ =>
        ∀ h', h'.Ns s₄.heap.objs.size (fun y => if y = ".0" then some (Value.ref it) else none) → Heap.SameBut s₄.heap.objs.size (pushCells (s₄.heap.push { cls := .type "frame", data := .dict #[] }) scope.names) h' →
          Q' (.ref h'.objs.size) { s₄ with
            gens := s₄.gens.push (.fresh (.compStart (.GeneratorExp elt [⟨t, i, [], 0⟩] scope gpos) 0 (.ref it) .none (genEnv scope (cellsFrom (s₄.heap.objs.size + 1) scope.names (cloFrom X.env.cells scope.names [])) s₄.heap.objs.size code bi X.env))),
            toks := s₄.toks + 1 + 1 + 1,
            heap := h'.push { cls := .type "generator", data := .fields #[.int s₄.gens.size 0, .str "<genexpr>" (s₄.toks + 1), .str (X.env.qual ++ "<genexpr>") (s₄.toks + 1 + 1)] } }) X.xe { s2 with heap := h3, toks := tk } := by
    intro code h3 tk H4 kp hsz I4 tb hfn
    obtain ⟨b, ob, e1, e2, e3, e4, e5, e6, e7, e8⟩ := bm
    refine wpAny_builtinsFor (m := X.mg) (by
        rw [I2.ok.glob]
        obtain ⟨o, es, ep, g1, g2⟩ := I2.mod.glob.keeps I2.bk
        exact ⟨o, es, ep, kp _ _ gP g1, g2⟩) e1 e2 (kp _ _ e4 (I2.bk _ _ e5)) e6 e7 e8 ?_
    intro h' hn' hs'
    have pk : ∀ b u, h3.get? b = some u → (pushCells (h3.push { cls := .type "frame", data := .dict #[] }) scope.names).get? b = some u := fun b u e => pushCells_keeps _ _ b u (Heap.get?_push_of_some _ e)
    have lz : h3.objs.size < h'.objs.size := by
      rw [hs'.1]
      exact Nat.lt_of_lt_of_le (by rw [Heap.size_push]; exact Nat.lt_succ_self _) (pushCells_size _ _)
    refine hQ J it fp tn H2 H4 { s2 with heap := h3, toks := tk } _ code _ s2.gens.size r tb ⟨I4, T, T.keep _ _ _ st2 fun b hb o e => kp b o (fun z => by
        have q := (f2 b hb).1
        rw [z, hP] at q
        cases q) e, fun b hb => ?_, fun b o e => ?_, rfl, rfl, rfl, ⟨_, hn'.push _⟩, ⟨_, Heap.get?_push_size _ rfl, _, _, rfl, rfl, rfl⟩, lz, fun y c hm => ?_⟩
    · obtain ⟨f0, fr⟩ := f2 b hb
      refine ⟨⟨hfn b hb, fr⟩, ?_⟩
      obtain ⟨o, eo, _⟩ := T.obj _ _ st2 b hb
      exact Nat.lt_of_lt_of_le (Heap.lt_size eo) hsz
    · exact Heap.get?_push_of_some _ (hs'.extBut b o (Nat.ne_of_lt (Heap.lt_size e)) (pk b o e))
    · have hm : (y, c) ∈ cellsFrom (h3.push { cls := .type "frame", data := .dict #[] }).objs.size scope.names (gCl X scope) := by
        rw [Heap.size_push]
        exact hm
      rcases cf_cell _ _ _ hm with q | q
      · exact .inl q
      · rcases cf_mem _ _ _ hm with q2 | ⟨_, q2⟩
        · exact .inl q2
        · rw [Heap.size_push] at q2
          obtain ⟨o, h1, h2⟩ := q
          exact .inr ⟨none, o, Heap.get?_push_of_some _ (hs'.extBut c o (Nat.ne_of_gt q2) h1), h2⟩
  have nfp : ∀ b ∈ fp, b ≠ P := fun b hb z => by
    have q := (f2 b hb).1
    rw [z, hP] at q
    cases q
  cases hf : codeAmong gpos ps.toList with
  | none =>
    refine wpAny_genexprCodeX hcode (cd.code hP2 ht) (cd.tab hP2) hf fun c' h' tk hx hge hlt hco' _ htab' ⟨P1, hP1, ic, tc⟩ => ?_
    have hd1 := PySem.W.CodeHd.of ic tc
    obtain ⟨o1, ho1, ob1⟩ := codeHd_ob hd1
    have ne1 : c' ≠ P1 := by
      obtain ⟨_, _, _, _, _, _, _, _, _, _, _, _, _, _, _, _, q⟩ := ob1
      exact q
    obtain ⟨_, vs, f1, tf, fl, tg, inF, tx, tt, op, _, _, _, _, _, _, _, _, _, htr, _⟩ := hco'
    have I4 := inv_code (t' := tk) (more := #[rawInt gpos.line, rawInt gpos.col, .ref c']) I2 hP (fun b u hb e => hx b u hb e) htab'.2 hge hP1 ne1 ho1 tc.2
    have nP1 : P ≠ c' ∧ P ≠ P1 := ⟨Nat.ne_of_lt (Nat.lt_of_lt_of_le (Heap.lt_size hP2) hge), Nat.ne_of_lt (Nat.lt_of_lt_of_le (Heap.lt_size hP2) hP1)⟩
    have trk : ∀ b u, H2 b = some u → b ≠ c' ∧ b ≠ P1 := fun b u e => ⟨Nat.ne_of_lt (Nat.lt_of_lt_of_le (I2.hok.lt e) hge), Nat.ne_of_lt (Nat.lt_of_lt_of_le (I2.hok.lt e) hP1)⟩
    have atP : upd (upd (upd H2 P (.tbl (ps ++ #[rawInt gpos.line, rawInt gpos.col, .ref c']))) c' (.frz o1 (.own c'))) P1 (.tbl #[]) P = some (.tbl (ps ++ #[rawInt gpos.line, rawInt gpos.col, .ref c'])) := by rw [upd_ne nP1.2, upd_ne nP1.1, upd_same]
    have old : ∀ b o, b ≠ P → H2 b = some o → upd (upd (upd H2 P (.tbl (ps ++ #[rawInt gpos.line, rawInt gpos.col, .ref c']))) c' (.frz o1 (.own c'))) P1 (.tbl #[]) b = some o := fun b o hb e => by
      rw [upd_ne (trk b o e).2, upd_ne (trk b o e).1, upd_ne hb]
      exact e
    have hl : (ps ++ #[rawInt gpos.line, rawInt gpos.col, Value.ref c']).toList = ps.toList ++ [rawInt gpos.line, rawInt gpos.col, .ref c'] := by simp
    have tabg : TabG (upd (upd (upd H2 P (.tbl (ps ++ #[rawInt gpos.line, rawInt gpos.col, .ref c']))) c' (.frz o1 (.own c'))) P1 (.tbl #[])) P := ⟨_, atP, htr⟩
    refine cont _ h' tk _ (fun b u hb e => hx b u hb e) (Nat.le_trans hge (Nat.le_of_lt hlt)) I4 ⟨⟨_, hP⟩, tabg, old, ⟨_, atP, by rw [hl]; exact codeAmong_snoc _ ht hf⟩, fun ⟨qs, w1, w2, w3⟩ => ⟨_, atP, htr, fun pos cv hcv => ?_⟩⟩ fun b hb => ?_
    · rw [hP] at w1
      cases w1
      rw [hl] at hcv
      rcases among_new ht hcv with q | q
      · exact codeIn_grow ⟨_, hP⟩ tabg old (w3 pos cv q)
      · refine ⟨c', P1, o1, q, by rw [upd_ne ne1, upd_same], ob1, fun z => hts P1 z (I2.hok.fresh hP1), #[], upd_same, trivial⟩
    · obtain ⟨o, eo, _⟩ := T.obj _ _ st2 b hb
      have lb := Heap.lt_size eo
      rw [upd_ne (Nat.ne_of_lt (Nat.lt_of_lt_of_le lb hP1)), upd_ne (Nat.ne_of_lt (Nat.lt_of_lt_of_le lb hge)), upd_ne (nfp b hb)]
      exact (f2 b hb).1
  | some cv =>
    refine wpAny_genexprCode_hit hcode (cd.code hP2 ht) hf ?_
    exact cont cv s2.heap s2.toks H2 (fun b u _ e => e) (Nat.le_refl _) I2 ⟨⟨_, hP⟩, ⟨ps, hP, ht⟩, fun _ _ _ e => e, ⟨ps, hP, hf⟩, id⟩ fun b hb => (f2 b hb).1
end
end Ev

/-! Generator expressions: all, any, sum of them are as the evaluator says. -/
namespace Ev
open PySem PySem.Spec PyProof.Rows L2 GenW GxR

section
variable {c : Cf} {cf : Nat → List Val → R RV} {k : Nat} {cc : CC} {X : Cx}
variable {dr : Option Addr} {H0 F H F' H' F1 H1 Hs : Hp} {e : Env} {σ : L2.St} {Q : VK}
/-- the tables have grown -/
theorem Fin.tabbed {P : Addr} {pos : Pos} {cv : Value} {H4 : Hp} (f : Fin c dr F H) (t : TbG c.ts P pos H H4 cv) : Fin c dr F H4 ∧ Gr c dr F H F H4 := by
  obtain ⟨qs, hP⟩ := t.was
  have nF : F P = none := by
    cases q : F P with
    | none => rfl
    | some o =>
      have z := f.le P o q
      rw [hP] at z
      cases z
      exact absurd q (f.wd.nf P qs)
  have nR : ∀ a, dr = some a → a ≠ P := fun a e z => by
    obtain ⟨sc, ns, n, s, r, h1, _⟩ := f.wd.row a e
    rw [z, hP] at h1
    cases h1
  refine ⟨⟨fun b o hb => t.old b o (ne_of_none hb nF) (f.le b o hb), f.nsp, ⟨fun a e => ?_, fun p hp => ?_, f.wd.nf⟩⟩, ⟨Le.refl _, ⟨fun b o hb n nt => t.old b o (fun z => nt qs (by rw [z, hP] at hb; exact (Option.some.inj hb).symm)) hb, fun b ps hb => ?_⟩, fun _ _ n => n⟩⟩
  · obtain ⟨sc, ns, n, s, r, h1, h2⟩ := f.wd.row a e
    exact ⟨sc, ns, n, s, r, t.old a _ (nR a e) h1, h2⟩
  · by_cases z : p = P
    · subst z
      exact t.def_ (f.wd.tab p hp)
    · obtain ⟨ps, h1, h2, h3⟩ := f.wd.tab p hp
      exact ⟨ps, t.old p _ z h1, h2, fun pos cv e => codeIn_grow t.was t.tab t.old (h3 pos cv e)⟩
  · by_cases z : b = P
    · subst z
      obtain ⟨ps', h1, _⟩ := t.hit
      exact ⟨ps', h1⟩
    · exact ⟨ps, t.old b _ z hb⟩
/-- what is known of the running code object's table -/
theorem Good.pre (G : Good c cf k cc X) (hg : cc.gd ≠ 0) : ∃ cd P, X.env.code = .ref cd ∧ X.base.BuiltinsAt X.mg P ∧ mainGlobals ≠ P ∧ (∀ {dr : Option Addr} {H0 F H : Hp} {e : Env} {σ : L2.St}, StOk c dr H0 F H e σ → ∀ {pins : List (Addr × Obj)} {σ' : L2.St} {s : Shared}, Inv X pins σ' H s → PySem.W.CodeHd s.heap cd P ∧ TabG H P) ∧ (cc.gd ≠ 1 → P ∈ c.ts) := by
  obtain ⟨cd, P, h1, h2, h3, h4⟩ := G.tab hg
  refine ⟨cd, P, h1, h2, h3, fun {dr H0 F H e σ} st {pins σ' s} I => ?_, fun z => ?_⟩
  · rcases h4 with ⟨hP, hc⟩ | ⟨_, o, Pd, ps, pos, a1, a2, a3, a4, a5, a6, a7⟩
    · obtain ⟨ps, b1, b2, _⟩ := st.wd.tab P hP
      exact ⟨hc.keeps fun b u e => I.bk b u e, ps, b1, b2⟩
    · have b1 := I.base.frzs cd o _ a1
      have b2 : s.heap.get? cd = some o := (I.hok cd _ b1).1
      obtain ⟨more, b3⟩ := I.base.tbls Pd ps a6
      obtain ⟨qs, w1, w2, w3⟩ := st.wd.tab Pd a5
      rw [b3] at w1
      cases w1
      obtain ⟨c', P', o', v1, v2, v3, v4, v5⟩ := w3 pos (.ref cd) (by rw [Array.toList_append]; exact among_app _ a7)
      cases v1
      rw [b1] at v2
      cases v2
      rw [codeOb_one a2 v3] at v5
      exact ⟨codeOb_hd b2 a2, v5⟩
  · rcases h4 with ⟨hP, _⟩ | ⟨q, _⟩
    · exact hP
    · exact absurd q z
theorem Good.gblk (G : Good c cf k cc X) (hg : cc.gd ≠ 0) {elt t i : Expr} {scope : Scope} {gpos : Pos} {it : Addr} {fp : List Addr} {H4 : Hp} {s4 : Shared} {code : Value} (hk : scope.kind = .function) {P : Addr} {H1 : Hp} {pins : List (Addr × Obj)} {σ : L2.St} (I4 : Inv X pins σ H4 s4) (w4 : ∀ p ∈ c.ts, TabW c.ts H4 p) (t4 : TbG c.ts P gpos H1 H4 code) (hP : cc.gd ≠ 1 → P ∈ c.ts) (bm : X.base.BuiltinsAt X.mg P) :
    Good c cf k (cc.gblk scope) (GMd.cx X elt t i scope gpos it fp H4 s4 code) := by
  have r := G.room
  have gl := G.gle
  have e0 : cc.gd = (cc.gd - 1) + 1 := by omega
  rw [e0] at r
  refine ⟨G.K, G.w, G.N, G.nd, rfl, hk, rfl, G.calm, ⟨by rw [gA_hd]; exact r.hd, ?_, ?_⟩, (by show cc.gd - 1 ≤ 2; omega), fun z => ?_, rfl, G.blt, G.gl, G.fs⟩
  · have q : X.A.depth + 3 * (k + ((cc.gd - 1) + 1)) + 5 < recursionLimit := r.dp
    have e : (gA X (gCode elt t i scope gpos it (gEnv X scope s4.heap.objs.size code))).depth = X.A.depth + 1 := gA_dp
    show (gA X (gCode elt t i scope gpos it (gEnv X scope s4.heap.objs.size code))).depth + 3 * (k + (cc.gd - 1)) + 5 < recursionLimit
    rw [e]
    omega
  · have q : X.A.units + 16 * (k + ((cc.gd - 1) + 1)) + 200 < cLine := r.un
    have e : (gA X (gCode elt t i scope gpos it (gEnv X scope s4.heap.objs.size code))).units = X.A.units + 5 := gA_un
    show (gA X (gCode elt t i scope gpos it (gEnv X scope s4.heap.objs.size code))).units + 16 * (k + (cc.gd - 1)) + 200 < cLine
    rw [e]
    omega
  · have z : cc.gd - 1 ≠ 0 := z
    have hP := hP (by omega)
    obtain ⟨ps', h1, h2⟩ := t4.hit
    obtain ⟨qs, w1, w2, w3⟩ := w4 P hP
    rw [h1] at w1
    cases w1
    obtain ⟨c1, P1, o, v1, v2, v3, v4, v5⟩ := w3 gpos code h2
    obtain ⟨rs, v6, v7⟩ := id v5
    have nb : ∀ b u, X.base.get? b = some u → b ≠ P1 := fun b u e q => by
      have n := (I4.bs b u e).2
      rw [q, v6] at n
      cases n
    refine ⟨c1, P1, v1, ?_, ?_, .inr ⟨by show cc.gd - 1 = 1; omega, o, P, ps', gpos, v2, v3, v4, v5, hP, h1, v1 ▸ h2⟩⟩
    · obtain ⟨b, ob, e1, e2, e3, e4, e5, e6⟩ := bm
      exact ⟨b, ob, e1, e2, e3, nb _ _ e5, e5, e6⟩
    · obtain ⟨o', es, ep, g1, _⟩ := I4.mod.glob
      exact nb _ _ g1
theorem gen_fold {i : Expr} (h : noSet i = true) (h2 : noLst i = true) (env : PySem.Env) (v : Value) : genFold i env v = pure v := by
  cases i <;> first | rfl | exact (Bool.false_ne_true h).elim | exact (Bool.false_ne_true h2).elim
/-- the walk of a generator expression: f the loop's result from the items that are left and what is out so far -/
theorem gx_turns {K : PySem.W.Frag} {own : List Nat} {tg : Tg} {elt : Env → R RV} {J : It} {ds : List D} {ew : Env} {H4 : Hp} {α : Type} (lp : Int → List D → R α) (nxt : Int → RV → List D → R α) (Pt : α → Prop) (ok : V → Hp → Int → RV → Prop)
    (ho : inOwn own tg = true) (st1 : StOk c dr H0 F1 H4 ew (L2.wipe σ own)) (wk : Walk F1 J ds)
    (hlp : ∀ acc x xs P, (lp acc (x :: xs)).Post P → (setTg ew tg x).Post fun e1 => (elt e1).Post fun r => (nxt acc r xs).Post P)
    (hok : ∀ {F2 H2 : Hp} {e2 : Env} {σ2 : L2.St} {v : V} {r : RV} {acc : Int} {xs : List D} {P : α → Prop}, StOk c dr H0 F2 H2 e2 σ2 → Opd c dr F2 e2 σ2 r.rd v → (nxt acc r xs).Post P → ok v H2 acc r) :
    TurnsG J (gTg K tg) (tE c dr H0 elt) (L2.wipe σ own) own ds.length
      (fun j acc H' => j ≤ ds.length ∧ ∃ F2, Gr c dr F1 H4 F2 H' ∧ Fin c dr F2 H' ∧ (lp acc (ds.drop j)).Post Pt)
      (fun j acc y H' => j < ds.length ∧ ∃ F2 r, Gr c dr F1 H4 F2 H' ∧ Fin c dr F2 H' ∧ ok y H' acc r ∧ (nxt acc r (ds.drop (j + 1))).Post Pt) := by
  rintro j acc H2 ⟨hj, F2, g2, f2, p⟩
  by_cases hlt : j < ds.length
  · refine .inr ⟨hlt, ?_⟩
    rw [List.drop_eq_getElem_cons hlt] at p
    have wk := (wk j H2 (g2.le.trans f2.le)).1 ds[j] (by simp [hlt])
    refine ⟨wk.1, fun x H3 y => ?_⟩
    have y := wk.2 x H3 y
    have y : Yl F2 H2 x H3 ds[j] := by
      rcases y with ⟨h1, h2⟩ | ⟨q, ts, es, h1, h2, h3, h4, h5⟩
      · exact .inl ⟨h1, dp_mono g2.le _ _ h2⟩
      · exact .inr ⟨q, ts, es, h1, h2, h3, h4, dps_mono g2.le _ _ h5⟩
    have st2 := st1.grow g2 f2
    refine tg_ok st2 y (hlp _ _ _ _ p) fun F3 e3 σ3 st3 g3 p hw hl => ⟨(wipe_same (fun j hj => hw j (inOwn_mem ho j hj)) hl).trans (wipe_twice _ _), ?_⟩
    refine ⟨F3, e3, st3, p.mono fun r p F4 H5 v g4 st4 r4 => ?_⟩
    obtain ⟨F5, g5, _, st5, o5⟩ := st4.rd g4 r4
    exact ⟨hlt, F5, r, g2.trans (g3.trans g5), st5.fin, hok st5 o5 p, p⟩
  · have e1 : j = ds.length := by omega
    subst e1
    exact .inl ⟨rfl, (wk _ H2 (g2.le.trans f2.le)).2 rfl⟩
def SK1 (a : Addr) (g : Nat) : Int → List (Addr × Obj) → Prop := fun _ gp => ∃ o, gp = [(a, o)] ∧ IsGO g o
theorem gx_shape {kk : Gk} {own : List Nat} {tg : Tg} {it elt : Ex} {e : Expr} (h : chkE cc (.gx kk own tg it elt) e = true) : ∃ x p y t i scope gpos pos, e = .Call (.Name x p) [.GeneratorExp y [⟨t, i, [], 0⟩] scope gpos] [] pos ∧ x = kk.name ∧ cc.isGl x = true ∧ cc.gd ≠ 0 ∧
    blkC cc.N cc.sc scope (ownOf cc.N own) = true ∧ inOwn own tg = true ∧ gscope scope = true ∧ noSet i = true ∧ noLst i = true ∧ (cc.gblk scope).tg tg t = true ∧ chkI cc it t i = true ∧ chkE (cc.gblk scope) elt y = true := by
  unfold chkE at h
  split at h
  · obtain ⟨h1, h11⟩ := and2 h
    obtain ⟨h1, h10⟩ := and2 h1
    obtain ⟨h1, h9⟩ := and2 h1
    obtain ⟨h1, h8⟩ := and2 h1
    obtain ⟨h1, h7⟩ := and2 h1
    obtain ⟨h1, h6⟩ := and2 h1
    obtain ⟨h1, h5⟩ := and2 h1
    obtain ⟨h1, h4⟩ := and2 h1
    obtain ⟨h1, h3⟩ := and2 h1
    obtain ⟨h1, h2⟩ := and2 h1
    exact ⟨_, _, _, _, _, _, _, _, rfl, by simpa using h1, h2, (fun z => by rw [z] at h3; exact Bool.false_ne_true h3), h4, h5, h6, h7, h8, h9, h10, h11⟩
  · cases h
theorem gscope_ok {scope : Scope} (h : gscope scope = true) : scope.isCoroutine = false ∧ (∀ y, (y, NameKind.free) ∈ scope.names → (y, NameKind.cell) ∉ scope.names) ∧ scope.names.lookup (".0" : Str) = some NameKind.local := by
  obtain ⟨h1, h3⟩ := and2 h
  obtain ⟨h1, h2⟩ := and2 h1
  refine ⟨by simpa using h1, fun y hy z => ?_, ?_⟩
  · have q := List.all_eq_true.mp h2 (y, .free) hy
    have q : (!(NameKind.free == NameKind.free) || scope.names.all fun q => !(q.2 == .cell && q.1 == y)) = true := q
    have q : (scope.names.all fun q => !(q.2 == .cell && q.1 == y)) = true := q
    have q := List.all_eq_true.mp q (y, .cell) z
    have q : (!(NameKind.cell == NameKind.cell && y == y)) = true := q
    simp at q
  · split at h3
    · assumption
    · cases h3
theorem loopAll_cons {x : D} {xs : List D} {tg : Tg} {e0 : Env} {c : Env → R Bool} {P : Bool → Prop} (p : (loopAll (x :: xs) tg e0 c).Post P) : (setTg e0 tg x).Post fun e1 => (c e1).Post fun b => ((match b with | true => loopAll xs tg e0 c | false => .ok false : R Bool)).Post P :=
  (R.post_bind p).mono fun e1 p => (R.post_bind p).mono fun b p => by cases b <;> exact p
theorem loopAny_cons {x : D} {xs : List D} {tg : Tg} {e0 : Env} {c : Env → R Bool} {P : Bool → Prop} (p : (loopAny (x :: xs) tg e0 c).Post P) : (setTg e0 tg x).Post fun e1 => (c e1).Post fun b => ((match b with | true => .ok true | false => loopAny xs tg e0 c : R Bool)).Post P :=
  (R.post_bind p).mono fun e1 p => (R.post_bind p).mono fun b p => by cases b <;> exact p
theorem loopSum_cons {acc : Int} {x : D} {xs : List D} {tg : Tg} {e0 : Env} {c : Env → R Int} {P : Int → Prop} (p : (loopSum acc (x :: xs) tg e0 c).Post P) : (setTg e0 tg x).Post fun e1 => (c e1).Post fun b => (loopSum (acc + b) xs tg e0 c).Post P :=
  (R.post_bind p).mono fun e1 p => R.post_bind p
theorem boot_all' : bootBuiltins "all" = some (.builtin "all") := by decide +kernel
theorem boot_any' : bootBuiltins "any" = some (.builtin "any") := by decide +kernel
theorem boot_sum' : bootBuiltins "sum" = some (.builtin "sum") := by decide +kernel
/-- what the iterable's walk leaves for the generator -/
def GxPre (c : Cf) (dr : Option Addr) (H0 F H : Hp) (e : Env) (σ : L2.St) (Post : List D → Prop) (J : It) (H1 : Hp) : Prop := ∃ F1 ds, StOk c dr H0 F1 H1 e σ ∧ Gr c dr F H F1 H1 ∧ Walk F1 J ds ∧ Post ds
theorem gx_pre {f : Env → R (List D)} {Pp : List D → Prop} {P cd : Addr} (pr : ∀ {dr : Option Addr} {H0 F H : Hp} {e : Env} {σ : L2.St}, StOk c dr H0 F H e σ → ∀ {pins : List (Addr × Obj)} {σ' : L2.St} {s : Shared}, Inv X pins σ' H s → PySem.W.CodeHd s.heap cd P ∧ TabG H P) (st : StOk c dr H0 F H e σ) (p : (f e).Post Pp) :
    tI c dr H0 f σ H fun J H1 => (∀ {pins' : List (Addr × Obj)} {s' : Shared}, Inv X pins' σ H1 s' → PySem.W.CodeHd s'.heap cd P ∧ TabG H1 P) ∧ (∀ p ∈ c.ts, H1 p ≠ none) ∧ GxPre c dr H0 F H e σ Pp J H1 :=
  ⟨F, e, st, p.mono fun ds p F1 H1 J g1 st1 wk => ⟨fun I => pr st1 I, fun p hp => st1.wd.some (.inr hp), F1, ds, st1, g1, wk, p⟩⟩
theorem se_gx_all (own : List Nat) (tg : Tg) {it elt : Ex} (hi : SI c cf k it) (he : SE c cf k elt) : SE c cf k (.gx .all own tg it elt) := fun cc X G e h dr H0 => by
  obtain ⟨x, p, y, t, i, scope, gpos, pos, rfl, hx, h2, h3, h4, h5, h6, h7, h8, h9, h10, h11⟩ := gx_shape h
  obtain ⟨hg, hd⟩ := G.gls h2
  obtain ⟨g1, g2, g3⟩ := gscope_ok h6
  obtain ⟨cd, P, hcode, bm, gP, pr, hP⟩ := G.pre h3
  have hm : X.mg x = none := G.blt x (by rw [hx]; decide)
  have ok := blkOk_by h4
  rw [← G.N, ← G.sc] at ok
  refine ⟨fun pins s σ H Q I ⟨F, e, st, p⟩ => ?_⟩
  have hstar : starEach [Expr.GeneratorExp y [⟨t, i, [], 0⟩] scope gpos] X.env = (false, eval (.GeneratorExp y [⟨t, i, [], 0⟩] scope gpos) X.env) :: starEach [] X.env := rfl
  refine wpAny_Call_Name_kw (ld_blt I hg hm (by rw [hx]; exact boot_all') ?_ (dbg_ne hd).2.2 (dbg_ne hd).1)
  refine PyProof.Rows.callWith_builtin1 ?_ hstar (by rfl)
  rw [hstar]
  show wpAny _ _ (spliced ((false, eval (.GeneratorExp y [⟨t, i, [], 0⟩] scope gpos) X.env) :: backTo pos (starEach [] X.env))) _ _ s
  have p : ((dI cf it e).bind fun xs => (loopAll xs tg (wipeE e own) fun e1 => (dE cf elt e1).bind fun x => truV x.rd).bind boolV).Post (Then c dr H0 F H e σ Q) := p
  have hdep : X.A.depth < recursionLimit := G.room.depth
  refine Calls.spliced_cons (gen_make (ts := c.ts) hdep bm gP hcode g1 g3 ok.kind (fun y hy e => by
    rcases ok.free y hy e with z | z
    · exact I.ok.has _ (.inl z)
    · exact I.ok.has _ (.inr z)) (hi cc X G t i h10 dr H0) (gen_fold h7 h8 _) I (gx_pre (fun {dr H0 F H e σ} st {pins σ' s} I => pr st I) st (R.post_bind p)) fun J itr fp tn H1 H4 s4 s5 code a g ⟨F1, ds, st1, gr1, wk, p⟩ tb M => ?_)
  refine Calls.spliced_nil ?_
  obtain ⟨f4, gr4⟩ := st1.fin.tabbed tb
  have st4 := st1.grow gr4 f4
  have p := R.post_bind p
  have turns := gx_turns (K := X.K) (σ := σ) (own := own) (tg := tg) (elt := dE cf elt) (J := J) (ds := ds) (ew := wipeE e own) (H4 := H4) (H0 := H0) (dr := dr) (c := c)
    (fun _ xs => loopAll xs tg (wipeE e own) fun e1 => (dE cf elt e1).bind fun x => truV x.rd) (fun _ r xs => (truV r.rd).bind fun b => match b with | true => loopAll xs tg (wipeE e own) fun e1 => (dE cf elt e1).bind fun x => truV x.rd | false => .ok false)
    (fun b => (boolV b).Post (Then c dr H0 F H e σ Q)) (fun v H' _ r => ∀ Pb : Bool → Prop, (truV r.rd).Post Pb → ∃ kb, TruV X.K v H' kb ∧ Pb kb) h5 (st4.wipe own) wk
    (fun acc x xs P p => (loopAll_cons p).mono fun e1 p => (R.post_bind p).mono fun r p => R.post_bind' (p.mono fun b p => by cases b <;> exact p))
    (fun {F2 H2 e2 σ2 v r acc xs P} st2 o2 p Pb pb => tru_val st2 o2 pb X.K)
  obtain ⟨o, ho, hgo⟩ := M.obj
  have w0 : (0 : Nat) ≤ ds.length ∧ ∃ F2, Gr c dr F1 H4 F2 H4 ∧ Fin c dr F2 H4 ∧ (loopAll (ds.drop 0) tg (wipeE e own) fun e1 => (dE cf elt e1).bind fun x => truV x.rd).Post fun b => (boolV b).Post (Then c dr H0 F H e σ Q) := ⟨Nat.zero_le _, F1, Gr.refl, f4, p⟩
  obtain ⟨at0, rdy⟩ := M.start (own := ownOf X.N own) (own_ix X.N own) (SK := SK1 a g) (gp := [(a, o)]) (acc := 0) (s6 := s5) G.nd ok g2 g1 G.calm (pg_tg (G.gblk h3 ok.kind M.inv f4.wd.tab tb hP bm) h9) (he _ _ (G.gblk h3 ok.kind M.inv f4.wd.tab tb hP bm) y h11 dr H0) rfl rfl (fun _ _ e => e) ⟨o, rfl, hgo⟩
    (fun q hq => by
      rw [List.mem_singleton.mp hq]
      refine ⟨ho, M.lt, fun v z => ?_⟩
      obtain ⟨_, _, _, hd', _⟩ := hgo
      rw [hd'] at z
      cases z)
    (fun acc gp hgp q hq => by
      obtain ⟨o', rfl, _⟩ := hgp
      rw [List.mem_singleton.mp hq]
      exact M.lt) w0 turns
  refine PySem.call_function_tree PySem.F.kind_all PySem.F.plain_all PySem.F.entry_all (PySem.F.args_all1 _) ?_
  unfold Builtin.«all»
  refine wpAny_bind (m := oneArg "all" _) (wpAny_pure ?_)
  refine wpAny_bind (wpAny_pyIter_gen M.isgen ?_)
  have fin : ∀ {H' : Hp} {F2 : Hp} {b : Bool}, Gr c dr F1 H4 F2 H' → Fin c dr F2 H' → (boolV b).Post (Then c dr H0 F H e σ Q) → Q (.bl b) H' := fun g2 f2 p => bool_end (st4.grow g2 f2) ((gr1.trans gr4).trans g2) p
  refine wpAny_pure ⟨plainId_quiet PySem.F.plain_all_loop _, all_loop (X := X) (Xg := GMd.cx X y t i scope gpos itr fp H4 s4 code) (SK := SK1 a g) (Fn := fun b H' => Q (.bl b) H') (I.ok.hd G.calm) hdep rfl rfl M.T (fun acc gp hgp => ?_) (fun _ _ _ h => h) (fun j acc y H' hst => ?_) (fun acc H' w => ?_) (fun b acc H' s' ing q => ?_) (ds.length + 1) 0 0 H4 s5 rfl (Nat.zero_le _) at0 rdy⟩
  · obtain ⟨o', rfl, q⟩ := hgp
    exact ⟨o', List.mem_cons_self, q⟩
  · obtain ⟨hlt, F2, r, gg, ff, hk, p⟩ := hst
    obtain ⟨kb, t, p⟩ := hk _ (R.post_bind p)
    refine ⟨kb, t, ?_⟩
    cases kb with
    | true => exact ⟨hlt, F2, gg, ff, p⟩
    | false => exact fin gg ff p
  · obtain ⟨_, F2, gg, ff, p⟩ := w
    rw [List.drop_length] at p
    exact fin gg ff p
  · exact ⟨.bl b, H', M.done ing, rfl, q⟩
theorem se_gx_any (own : List Nat) (tg : Tg) {it elt : Ex} (hi : SI c cf k it) (he : SE c cf k elt) : SE c cf k (.gx .any own tg it elt) := fun cc X G e h dr H0 => by
  obtain ⟨x, p, y, t, i, scope, gpos, pos, rfl, hx, h2, h3, h4, h5, h6, h7, h8, h9, h10, h11⟩ := gx_shape h
  obtain ⟨hg, hd⟩ := G.gls h2
  obtain ⟨g1, g2, g3⟩ := gscope_ok h6
  obtain ⟨cd, P, hcode, bm, gP, pr, hP⟩ := G.pre h3
  have hm : X.mg x = none := G.blt x (by rw [hx]; decide)
  have ok := blkOk_by h4
  rw [← G.N, ← G.sc] at ok
  refine ⟨fun pins s σ H Q I ⟨F, e, st, p⟩ => ?_⟩
  have hstar : starEach [Expr.GeneratorExp y [⟨t, i, [], 0⟩] scope gpos] X.env = (false, eval (.GeneratorExp y [⟨t, i, [], 0⟩] scope gpos) X.env) :: starEach [] X.env := rfl
  refine wpAny_Call_Name_kw (ld_blt I hg hm (by rw [hx]; exact boot_any') ?_ (dbg_ne hd).2.2 (dbg_ne hd).1)
  refine PyProof.Rows.callWith_builtin1 ?_ hstar (by rfl)
  rw [hstar]
  show wpAny _ _ (spliced ((false, eval (.GeneratorExp y [⟨t, i, [], 0⟩] scope gpos) X.env) :: backTo pos (starEach [] X.env))) _ _ s
  have p : ((dI cf it e).bind fun xs => (loopAny xs tg (wipeE e own) fun e1 => (dE cf elt e1).bind fun x => truV x.rd).bind boolV).Post (Then c dr H0 F H e σ Q) := p
  have hdep : X.A.depth < recursionLimit := G.room.depth
  refine Calls.spliced_cons (gen_make (ts := c.ts) hdep bm gP hcode g1 g3 ok.kind (fun y hy e => by
    rcases ok.free y hy e with z | z
    · exact I.ok.has _ (.inl z)
    · exact I.ok.has _ (.inr z)) (hi cc X G t i h10 dr H0) (gen_fold h7 h8 _) I (gx_pre (fun {dr H0 F H e σ} st {pins σ' s} I => pr st I) st (R.post_bind p)) fun J itr fp tn H1 H4 s4 s5 code a g ⟨F1, ds, st1, gr1, wk, p⟩ tb M => ?_)
  refine Calls.spliced_nil ?_
  obtain ⟨f4, gr4⟩ := st1.fin.tabbed tb
  have st4 := st1.grow gr4 f4
  have p := R.post_bind p
  have turns := gx_turns (K := X.K) (σ := σ) (own := own) (tg := tg) (elt := dE cf elt) (J := J) (ds := ds) (ew := wipeE e own) (H4 := H4) (H0 := H0) (dr := dr) (c := c)
    (fun _ xs => loopAny xs tg (wipeE e own) fun e1 => (dE cf elt e1).bind fun x => truV x.rd) (fun _ r xs => (truV r.rd).bind fun b => match b with | true => .ok true | false => loopAny xs tg (wipeE e own) fun e1 => (dE cf elt e1).bind fun x => truV x.rd)
    (fun b => (boolV b).Post (Then c dr H0 F H e σ Q)) (fun v H' _ r => ∀ Pb : Bool → Prop, (truV r.rd).Post Pb → ∃ kb, TruV X.K v H' kb ∧ Pb kb) h5 (st4.wipe own) wk
    (fun acc x xs P p => (loopAny_cons p).mono fun e1 p => (R.post_bind p).mono fun r p => R.post_bind' (p.mono fun b p => by cases b <;> exact p))
    (fun {F2 H2 e2 σ2 v r acc xs P} st2 o2 p Pb pb => tru_val st2 o2 pb X.K)
  obtain ⟨o, ho, hgo⟩ := M.obj
  have w0 : (0 : Nat) ≤ ds.length ∧ ∃ F2, Gr c dr F1 H4 F2 H4 ∧ Fin c dr F2 H4 ∧ (loopAny (ds.drop 0) tg (wipeE e own) fun e1 => (dE cf elt e1).bind fun x => truV x.rd).Post fun b => (boolV b).Post (Then c dr H0 F H e σ Q) := ⟨Nat.zero_le _, F1, Gr.refl, f4, p⟩
  obtain ⟨at0, rdy⟩ := M.start (own := ownOf X.N own) (own_ix X.N own) (SK := SK1 a g) (gp := [(a, o)]) (acc := 0) (s6 := s5) G.nd ok g2 g1 G.calm (pg_tg (G.gblk h3 ok.kind M.inv f4.wd.tab tb hP bm) h9) (he _ _ (G.gblk h3 ok.kind M.inv f4.wd.tab tb hP bm) y h11 dr H0) rfl rfl (fun _ _ e => e) ⟨o, rfl, hgo⟩
    (fun q hq => by
      rw [List.mem_singleton.mp hq]
      refine ⟨ho, M.lt, fun v z => ?_⟩
      obtain ⟨_, _, _, hd', _⟩ := hgo
      rw [hd'] at z
      cases z)
    (fun acc gp hgp q hq => by
      obtain ⟨o', rfl, _⟩ := hgp
      rw [List.mem_singleton.mp hq]
      exact M.lt) w0 turns
  refine PySem.call_function_tree PySem.F.kind_any PySem.F.plain_any PySem.F.entry_any (PySem.F.args_any1 _) ?_
  unfold Builtin.«any»
  refine wpAny_bind (m := oneArg "any" _) (wpAny_pure ?_)
  refine wpAny_bind (wpAny_pyIter_gen M.isgen ?_)
  have fin : ∀ {H' : Hp} {F2 : Hp} {b : Bool}, Gr c dr F1 H4 F2 H' → Fin c dr F2 H' → (boolV b).Post (Then c dr H0 F H e σ Q) → Q (.bl b) H' := fun g2 f2 p => bool_end (st4.grow g2 f2) ((gr1.trans gr4).trans g2) p
  refine wpAny_pure ⟨plainId_quiet PySem.F.plain_any_loop _, any_loop (X := X) (Xg := GMd.cx X y t i scope gpos itr fp H4 s4 code) (SK := SK1 a g) (Fn := fun b H' => Q (.bl b) H') (I.ok.hd G.calm) hdep rfl rfl M.T (fun acc gp hgp => ?_) (fun j acc y H' hst => ?_) (fun acc H' w => ?_) (fun b acc H' s' ing q => ?_) (ds.length + 1) 0 0 H4 s5 rfl (Nat.zero_le _) at0 rdy⟩
  · obtain ⟨o', rfl, q⟩ := hgp
    exact ⟨o', List.mem_cons_self, q⟩
  · obtain ⟨hlt, F2, r, gg, ff, hk, p⟩ := hst
    obtain ⟨kb, t, p⟩ := hk _ (R.post_bind p)
    refine ⟨kb, t, ?_⟩
    cases kb with
    | true => exact fin gg ff p
    | false => exact ⟨hlt, F2, gg, ff, p⟩
  · obtain ⟨_, F2, gg, ff, p⟩ := w
    rw [List.drop_length] at p
    exact fin gg ff p
  · exact ⟨.bl b, H', M.done ing, rfl, q⟩
theorem se_gx_sum (own : List Nat) (tg : Tg) {it elt : Ex} (hi : SI c cf k it) (he : SE c cf k elt) : SE c cf k (.gx .sum own tg it elt) := fun cc X G e h dr H0 => by
  obtain ⟨x, p, y, t, i, scope, gpos, pos, rfl, hx, h2, h3, h4, h5, h6, h7, h8, h9, h10, h11⟩ := gx_shape h
  obtain ⟨hg, hd⟩ := G.gls h2
  obtain ⟨g1, g2, g3⟩ := gscope_ok h6
  obtain ⟨cd, P, hcode, bm, gP, pr, hP⟩ := G.pre h3
  have hm : X.mg x = none := G.blt x (by rw [hx]; decide)
  have ok := blkOk_by h4
  rw [← G.N, ← G.sc] at ok
  refine ⟨fun pins s σ H Q I ⟨F, e, st, p⟩ => ?_⟩
  have hstar : starEach [Expr.GeneratorExp y [⟨t, i, [], 0⟩] scope gpos] X.env = (false, eval (.GeneratorExp y [⟨t, i, [], 0⟩] scope gpos) X.env) :: starEach [] X.env := rfl
  refine wpAny_Call_Name_kw (ld_blt I hg hm (by rw [hx]; exact boot_sum') ?_ (dbg_ne hd).2.2 (dbg_ne hd).1)
  refine PyProof.Rows.callWith_builtin1 ?_ hstar (by rfl)
  rw [hstar]
  show wpAny _ _ (spliced ((false, eval (.GeneratorExp y [⟨t, i, [], 0⟩] scope gpos) X.env) :: backTo pos (starEach [] X.env))) _ _ s
  have p : ((dI cf it e).bind fun xs => (loopSum 0 xs tg (wipeE e own) fun e1 => (dE cf elt e1).bind fun x => intV x.rd).bind fun i => .ok (.v (.d (.int i)))).Post (Then c dr H0 F H e σ Q) := p
  have hdep : X.A.depth < recursionLimit := G.room.depth
  refine Calls.spliced_cons (gen_make (ts := c.ts) hdep bm gP hcode g1 g3 ok.kind (fun y hy e => by
    rcases ok.free y hy e with z | z
    · exact I.ok.has _ (.inl z)
    · exact I.ok.has _ (.inr z)) (hi cc X G t i h10 dr H0) (gen_fold h7 h8 _) I (gx_pre (fun {dr H0 F H e σ} st {pins σ' s} I => pr st I) st (R.post_bind p)) fun J itr fp tn H1 H4 s4 s5 code a g ⟨F1, ds, st1, gr1, wk, p⟩ tb M => ?_)
  refine Calls.spliced_nil ?_
  obtain ⟨f4, gr4⟩ := st1.fin.tabbed tb
  have st4 := st1.grow gr4 f4
  have p := R.post_bind p
  have turns := gx_turns (K := X.K) (σ := σ) (own := own) (tg := tg) (elt := dE cf elt) (J := J) (ds := ds) (ew := wipeE e own) (H4 := H4) (H0 := H0) (dr := dr) (c := c)
    (fun acc xs => loopSum acc xs tg (wipeE e own) fun e1 => (dE cf elt e1).bind fun x => intV x.rd) (fun acc r xs => (intV r.rd).bind fun b => loopSum (acc + b) xs tg (wipeE e own) fun e1 => (dE cf elt e1).bind fun x => intV x.rd)
    (fun b => (R.ok (RV.v (.d (.int b)))).Post (Then c dr H0 F H e σ Q)) (fun v H' _ r => ∀ Pb : Int → Prop, (intV r.rd).Post Pb → ∃ kb, v = .int kb ∧ Pb kb) h5 (st4.wipe own) wk
    (fun acc x xs P p => (loopSum_cons p).mono fun e1 p => (R.post_bind p).mono fun r p => R.post_bind' p)
    (fun {F2 H2 e2 σ2 v r acc xs P} st2 o2 p Pb pb => by
      rw [← R.bind_ok (intV r.rd)] at pb
      obtain ⟨ii, e1, pb⟩ := int_ex pb
      rw [e1] at o2
      exact ⟨ii, o2.int st2, pb⟩)
  obtain ⟨o, ho, hgo⟩ := M.obj
  have w0 : (0 : Nat) ≤ ds.length ∧ ∃ F2, Gr c dr F1 H4 F2 H4 ∧ Fin c dr F2 H4 ∧ (loopSum 0 (ds.drop 0) tg (wipeE e own) fun e1 => (dE cf elt e1).bind fun x => intV x.rd).Post fun b => (R.ok (RV.v (.d (.int b)))).Post (Then c dr H0 F H e σ Q) := ⟨Nat.zero_le _, F1, Gr.refl, f4, p⟩
  have hS5 : s4.heap.objs.size < s5.heap.objs.size := Nat.lt_trans M.lt (Heap.lt_size ho)
  have haS : a ≠ s5.heap.objs.size := Nat.ne_of_lt (Heap.lt_size ho)
  obtain ⟨at0, rdy⟩ := M.start (own := ownOf X.N own) (own_ix X.N own) (SK := SKs a s5.heap.objs.size g) (gp := [(a, o), (s5.heap.objs.size, sumO 0 s5.toks 0)]) (acc := 0) (s6 := { s5 with heap := s5.heap.push (sumO 0 s5.toks 0), toks := s5.toks + 1 }) G.nd ok g2 g1 G.calm (pg_tg (G.gblk h3 ok.kind M.inv f4.wd.tab tb hP bm) h9) (he _ _ (G.gblk h3 ok.kind M.inv f4.wd.tab tb hP bm) y h11 dr H0) rfl rfl (fun b u e => Heap.get?_push_of_some _ e) ⟨o, s5.toks, 0, rfl, hgo⟩
    (fun q hq => by
      rcases List.mem_cons.mp hq with hq | hq
      · rw [hq]
        refine ⟨Heap.get?_push_of_some _ ho, M.lt, fun v z => ?_⟩
        obtain ⟨_, _, _, hd', _⟩ := hgo
        rw [hd'] at z
        cases z
      · rw [List.mem_singleton.mp hq]
        exact ⟨Heap.get?_push_size _ rfl, hS5, fun v z => by cases z⟩)
    (fun acc gp hgp q hq => by
      obtain ⟨o', tk, cx, rfl, _⟩ := hgp
      rcases List.mem_cons.mp hq with hq | hq
      · rw [hq]
        exact M.lt
      · rw [List.mem_singleton.mp hq]
        exact hS5) w0 turns
  refine PySem.call_function_tree PySem.F.kind_sum PySem.F.plain_sum PySem.F.entry_sum (PySem.F.args_sum1 _) ?_
  unfold Builtin.«sum»
  simp only [List.length_cons, List.length_nil]
  rw [if_neg (by decide)]
  refine wpAny_bind (wpAny_of_eq (show Builtin.Builtins.bindParams "sum" ["start"] 0 { } = pure [none] from rfl) ?_)
  refine wpAny_bind (wpAny_pyIter_gen M.isgen ?_)
  refine wpAny_bind (wpAny_mkInt ?_)
  refine wpAny_bind (wpAny_pure ?_)
  simp only [List.forIn_cons, List.forIn_nil]
  refine wpAny_bind (wpAny_bind (wpAny_bind (wpAny_isInstance (T := "int") (b := false) (typeIs_int _ _ _) PyProof.Rows.sub_int_str ?_)))
  simp only [Bool.false_eq_true, if_false]
  refine wpAny_pure (wpAny_bind (wpAny_bind (wpAny_isInstance (T := "int") (b := false) (typeIs_int _ _ _) PySem.sub_int_bytes ?_)))
  simp only [Bool.false_eq_true, if_false]
  refine wpAny_pure (wpAny_bind (wpAny_bind (wpAny_isInstance (T := "int") (b := false) (typeIs_int _ _ _) PySem.sub_int_bytearray ?_)))
  simp only [Bool.false_eq_true, if_false]
  refine wpAny_pure (wpAny_pure ?_)
  refine wpAny_bind (wpAny_newObj_type ?_)
  have fin : ∀ {H' : Hp} {F2 : Hp} {b : Int}, Gr c dr F1 H4 F2 H' → Fin c dr F2 H' → (R.ok (RV.v (.d (.int b)))).Post (Then c dr H0 F H e σ Q) → Q (.int b) H' := fun g2 f2 p => Then.int (st4.grow g2 f2) (Then.go ((gr1.trans gr4).trans g2) p)
  refine wpAny_pure ⟨plainId_quiet PySem.F.plain_sum_loop _, sum_loop (X := X) (Xg := GMd.cx X y t i scope gpos itr fp H4 s4 code) (S := s5.heap.objs.size) (Fn := fun b H' => Q (.int b) H') (I.ok.hd G.calm) hdep rfl rfl M.T rfl haS (fun z => Nat.lt_irrefl _ (Nat.lt_trans (M.fp _ z).2 hS5)) (Nat.le_of_lt hS5) (fun x cx ex => ?_) (fun j acc y H' hst => ?_) (fun acc H' w => ?_) (fun b tk H' s' ing q => ?_) (ds.length + 1) 0 0 0 0 H4 _ (.inl rfl) rfl (Nat.zero_le _) at0 rdy⟩
  · obtain ⟨_, _, I0, _⟩ := id at0
    obtain ⟨w, z⟩ := I0.cell x cx ex
    rcases M.cells x cx (PySem.mem_of_lookup ex) with hm | ⟨w5, z5⟩
    rcases cloFrom_mem hm with hm | ⟨q1, q2⟩
    · cases hm
    · have hfree : ∃ c', X.env.cells.lookup x = some c' := by
        rcases ok.free _ q1 rfl with k | k
        · exact M.inv.ok.has _ (.inl k)
        · exact M.inv.ok.has _ (.inr k)
      obtain ⟨c', e'⟩ := hfree
      obtain ⟨w', z'⟩ := M.inv.cell x c' e'
      rw [q2, e']
      exact Nat.ne_of_lt (Nat.lt_trans z'.lt hS5)
    · exact Nat.ne_of_lt z5.lt
  · obtain ⟨hlt, F2, r, gg, ff, hk, p⟩ := hst
    obtain ⟨kb, t, p⟩ := hk _ (R.post_bind p)
    exact ⟨kb, t, hlt, F2, gg, ff, p⟩
  · obtain ⟨_, F2, gg, ff, p⟩ := w
    rw [List.drop_length] at p
    exact fin gg ff p
  · exact ⟨.int b, H', M.done ing, ⟨tk, rfl⟩, q⟩
theorem se_gx (kk : Gk) (own : List Nat) (tg : Tg) {it elt : Ex} (hi : SI c cf k it) (he : SE c cf k elt) : SE c cf k (.gx kk own tg it elt) := by
  cases kk with
  | all => exact se_gx_all own tg hi he
  | any => exact se_gx_any own tg hi he
  | sum => exact se_gx_sum own tg hi he
end
end Ev

/-! Dicts whose keys are nested tuples: what stands on the heap, the operations. -/
namespace Ev
open PySem PySem.Spec PyProof.Rows L2

section
variable {P : Program} {w : World} {H F : Hp} {h : Heap}
mutual
theorem nk_is (ok : HOk P w H h) : ∀ (d : D) (n : Nat) (v : V) (u : Value), keyD n d = true → Rp H v d → RelV v u → NestedIs h (nkD d) u ∧ (nkD d).depth ≤ n
  | .none, n, _, _, _, r, q => by
    cases r
    cases q
    exact ⟨.none, Nat.zero_le _⟩
  | .int i, n, _, _, _, r, q => by
    cases r
    obtain ⟨t, rfl⟩ := q
    exact ⟨.int i t, Nat.zero_le _⟩
  | .tuple ds, n, _, _, hk, r, q => by
    cases n with
    | zero => exact (Bool.false_ne_true hk).elim
    | succ n =>
      cases r with
      | tup hs ha =>
        cases q
        obtain ⟨_, its, rv, o, h1, h2, m, h3⟩ := (show ObjOk P w H h _ (.tup _) from ok _ _ hs)
        obtain ⟨a1, a2⟩ := nks_is ok ds n _ its hk ha rv
        exact ⟨.tup h1 h2 h3 (by simpa using a1), Nat.succ_le_succ a2⟩
  | .bool _, n, _, _, hk, _, _ => by cases n <;> exact (Bool.false_ne_true hk).elim
  | .str _, n, _, _, hk, _, _ => by cases n <;> exact (Bool.false_ne_true hk).elim
  | .list _, n, _, _, hk, _, _ => by cases n <;> exact (Bool.false_ne_true hk).elim
  | .dict _, n, _, _, hk, _, _ => by cases n <;> exact (Bool.false_ne_true hk).elim
theorem nks_is (ok : HOk P w H h) : ∀ (ds : List D) (n : Nat) (vs : List V) (us : List Value), keyDs n ds = true → Rps H vs ds → Vals vs us → NestedAll h (nkDs ds) us ∧ NestedKey.depthAll (nkDs ds) ≤ n
  | [], n, _, _, _, r, q => by
    cases r
    cases q
    exact ⟨.nil, Nat.zero_le _⟩
  | d :: ds, n, _, _, hk, r, q => by
    cases r with
    | cons r1 r2 =>
      cases q with
      | cons q1 q2 =>
        cases z : keyD n d with
        | false =>
          have hk : (match keyD n d with | true => keyDs n ds | false => false) = true := by
            cases n <;> exact hk
          rw [z] at hk
          exact (Bool.false_ne_true hk).elim
        | true =>
          have hk : (match keyD n d with | true => keyDs n ds | false => false) = true := by
            cases n <;> exact hk
          rw [z] at hk
          obtain ⟨a1, a2⟩ := nk_is ok d n _ _ z r1 q1
          obtain ⟨b1, b2⟩ := nks_is ok ds n _ _ hk r2 q2
          exact ⟨.cons a1 b1, Nat.max_le.mpr ⟨a2, b2⟩⟩
end
theorem key_is (ok : HOk P w H h) {k : D} {b : Addr} (hk : keyT k = true) (r : Rp H (.ref b) k) : (nestedKind P w).is h (nkD k) b := by
  cases k with
  | tuple ds =>
    obtain ⟨h1, h2⟩ := nk_is ok (.tuple ds) 8 (.ref b) (.ref b) hk r rfl
    exact ⟨h1, h2⟩
  | _ => exact (Bool.false_ne_true hk).elim
end
theorem keyDs_cons {n : Nat} {d : D} {ds : List D} (h : keyDs n (d :: ds) = true) : keyD n d = true ∧ keyDs n ds = true := by
  have h : (match keyD n d with | true => keyDs n ds | false => false) = true := by
    cases n <;> exact h
  cases z : keyD n d with
  | false => rw [z] at h; exact (Bool.false_ne_true h).elim
  | true => rw [z] at h; exact ⟨rfl, h⟩
mutual
theorem eqD_nk : ∀ (a b : D) (n m : Nat), keyD n a = true → keyD m b = true → (eqD a b = true ↔ nkD a = nkD b)
  | .none, .none, _, _, _, _ => ⟨fun _ => rfl, fun _ => rfl⟩
  | .none, .int _, _, _, _, _ => ⟨fun z => (Bool.false_ne_true z).elim, fun z => nomatch z⟩
  | .none, .tuple _, _, _, _, _ => ⟨fun z => (Bool.false_ne_true z).elim, fun z => nomatch z⟩
  | .int _, .none, _, _, _, _ => ⟨fun z => (Bool.false_ne_true z).elim, fun z => nomatch z⟩
  | .int a, .int b, _, _, _, _ => by
    show iEq a b = true ↔ NestedKey.num a = NestedKey.num b
    rw [iEq_iff, decide_eq_true_iff]
    exact ⟨fun z => by rw [z], fun z => NestedKey.num.inj z⟩
  | .int _, .tuple _, _, _, _, _ => ⟨fun z => (Bool.false_ne_true z).elim, fun z => nomatch z⟩
  | .tuple _, .none, _, _, _, _ => ⟨fun z => (Bool.false_ne_true z).elim, fun z => nomatch z⟩
  | .tuple _, .int _, _, _, _, _ => ⟨fun z => (Bool.false_ne_true z).elim, fun z => nomatch z⟩
  | .tuple a, .tuple b, n, m, ha, hb => by
    cases n with
    | zero => exact (Bool.false_ne_true ha).elim
    | succ n =>
      cases m with
      | zero => exact (Bool.false_ne_true hb).elim
      | succ m =>
        show eqDs a b = true ↔ NestedKey.tup (nkDs a) = NestedKey.tup (nkDs b)
        rw [eqDs_nk a b n m ha hb]
        exact ⟨fun z => by rw [z], fun z => NestedKey.tup.inj z⟩
  | .bool _, _, n, _, h, _ => by cases n <;> exact (Bool.false_ne_true h).elim
  | .str _, _, n, _, h, _ => by cases n <;> exact (Bool.false_ne_true h).elim
  | .list _, _, n, _, h, _ => by cases n <;> exact (Bool.false_ne_true h).elim
  | .dict _, _, n, _, h, _ => by cases n <;> exact (Bool.false_ne_true h).elim
  | _, .bool _, _, m, _, h => by cases m <;> exact (Bool.false_ne_true h).elim
  | _, .str _, _, m, _, h => by cases m <;> exact (Bool.false_ne_true h).elim
  | _, .list _, _, m, _, h => by cases m <;> exact (Bool.false_ne_true h).elim
  | _, .dict _, _, m, _, h => by cases m <;> exact (Bool.false_ne_true h).elim
theorem eqDs_nk : ∀ (a b : List D) (n m : Nat), keyDs n a = true → keyDs m b = true → (eqDs a b = true ↔ nkDs a = nkDs b)
  | [], [], _, _, _, _ => ⟨fun _ => rfl, fun _ => rfl⟩
  | [], _ :: _, _, _, _, _ => ⟨fun z => (Bool.false_ne_true z).elim, fun z => nomatch z⟩
  | _ :: _, [], _, _, _, _ => ⟨fun z => (Bool.false_ne_true z).elim, fun z => nomatch z⟩
  | x :: xs, y :: ys, n, m, ha, hb => by
    obtain ⟨a1, a2⟩ := keyDs_cons ha
    obtain ⟨b1, b2⟩ := keyDs_cons hb
    have i1 := eqD_nk x y n m a1 b1
    have i2 := eqDs_nk xs ys n m a2 b2
    show (match eqD x y with | true => eqDs xs ys | false => false) = true ↔ nkD x :: nkDs xs = nkD y :: nkDs ys
    cases z : eqD x y with
    | true =>
      rw [List.cons.injEq, ← i1, ← i2, z]
      exact ⟨fun q => ⟨rfl, q⟩, fun q => q.2⟩
    | false =>
      rw [List.cons.injEq, ← i1, z]
      exact ⟨fun q => (Bool.false_ne_true q).elim, fun q => (Bool.false_ne_true q.1).elim⟩
end
theorem eqT_nk {a b : D} (ha : keyT a = true) (hb : keyT b = true) : eqD a b = true ↔ nkD a = nkD b := by
  cases a with
  | tuple as =>
    cases b with
    | tuple bs => exact eqD_nk (.tuple as) (.tuple bs) 8 8 ha hb
    | _ => exact (Bool.false_ne_true hb).elim
  | _ => exact (Bool.false_ne_true ha).elim
section
variable {F : Hp}
theorem at_pos {p : NestedKey × Addr × Value} {xs : List (NestedKey × Addr × Value)} {k : NestedKey} (e : p.1 = k) : atKey (p :: xs) k = some p.2 := by simp [atKey, List.find?_cons, e]
theorem at_neg {p : NestedKey × Addr × Value} {xs : List (NestedKey × Addr × Value)} {k : NestedKey} (e : ¬ p.1 = k) : atKey (p :: xs) k = atKey xs k := by simp [atKey, List.find?_cons, e]
theorem look_at {x : D} (hx : keyT x = true) : ∀ {kvs : List (D × D)} {xs : List (NestedKey × Addr × Value)}, Ents F kvs xs →
    (look kvs x = none ∧ atKey xs (nkD x) = none) ∨ ∃ r b u v, look kvs x = some r ∧ atKey xs (nkD x) = some (b, u) ∧ RelV v u ∧ Rp F v r
  | _, _, .nil => .inl ⟨rfl, rfl⟩
  | _, _, .cons (k := k) (d := d) (b := b) (u := u) (v := v) (kvs := kvs) (xs := xs) h1 h2 h3 h4 h5 => by
    have q := eqT_nk h1 hx
    show ((match eqD k x with | true => some d | false => look kvs x) = none ∧ _) ∨ ∃ r b' u' v', (match eqD k x with | true => some d | false => look kvs x) = some r ∧ _
    cases z : eqD k x with
    | true => exact .inr ⟨d, b, u, v, rfl, at_pos (q.mp z), h3, h4⟩
    | false =>
      have ne : ¬ nkD k = nkD x := fun e => by rw [q.mpr e] at z; cases z
      rw [at_neg (p := (nkD k, b, u)) ne]
      exact look_at hx h5
theorem ents_len : ∀ {kvs : List (D × D)} {xs : List (NestedKey × Addr × Value)}, Ents F kvs xs → kvs.length = xs.length
  | _, _, .nil => rfl
  | _, _, .cons _ _ _ _ h => congrArg Nat.succ (ents_len h)
theorem st_pos {p : NestedKey × Addr × Value} {xs : List (NestedKey × Addr × Value)} {b : Addr} {u : Value} (hn : p.1 ∉ xs.map (·.1)) : storedH (p :: xs) p.1 b u = (p.1, p.2.1, u) :: xs := by
  unfold storedH
  rw [at_pos rfl, if_pos (show (some p.2).isSome = true from rfl), List.map_cons, map_putAt_of_not_mem xs _ u hn]
  unfold putAt
  rw [if_pos rfl]
theorem st_neg {p : NestedKey × Addr × Value} {xs : List (NestedKey × Addr × Value)} {k : NestedKey} {b : Addr} {u : Value} (e : ¬ p.1 = k) : storedH (p :: xs) k b u = p :: storedH xs k b u := by
  unfold storedH
  rw [at_neg e]
  by_cases z : (atKey xs k).isSome = true
  · rw [if_pos z, if_pos z, List.map_cons]
    congr 1
    unfold putAt
    rw [if_neg e]
  · rw [if_neg z, if_neg z]
    rfl
theorem ents_put {x y : D} {b : Addr} {u : Value} {v : V} (hx : keyT x = true) (rb : Rp F (.ref b) x) (rv : RelV v u) (rp : Rp F v y) : ∀ {kvs : List (D × D)} {xs : List (NestedKey × Addr × Value)}, Ents F kvs xs → (xs.map (·.1)).Nodup → Ents F (putD kvs x y) (storedH xs (nkD x) b u)
  | _, _, .nil, _ => .cons hx rb rv rp .nil
  | _, _, .cons (k := k) (d := d) (b := b') (u := u') (v := v') (kvs := kvs) (xs := xs) h1 h2 h3 h4 h5, nd => by
    have q := eqT_nk h1 hx
    have nd := List.nodup_cons.mp nd
    show Ents F (match eqD k x with | true => (k, y) :: kvs | false => (k, d) :: putD kvs x y) _
    cases z : eqD k x with
    | true =>
      rw [← q.mp z, st_pos (p := (nkD k, b', u')) nd.1]
      exact .cons h1 h2 rv rp h5
    | false =>
      have ne : ¬ nkD k = nkD x := fun e => by rw [q.mpr e] at z; cases z
      rw [st_neg (p := (nkD k, b', u')) ne]
      exact .cons h1 h2 h3 h4 (ents_put hx rb rv rp h5 nd.2)
theorem ents_get : ∀ {kvs : List (D × D)} {xs : List (NestedKey × Addr × Value)} {i : Nat} {k : D}, Ents F kvs xs → (keysD kvs)[i]? = some k → ∃ x, xs[i]? = some x ∧ Rp F (.ref x.2.1) k
  | _, _, i, k, .nil, e => by simp [keysD] at e
  | _, _, 0, k, .cons h1 h2 h3 h4 h5, e => by
    simp [keysD] at e
    subst e
    exact ⟨_, rfl, h2⟩
  | _, _, i + 1, k, .cons h1 h2 h3 h4 h5, e => by
    obtain ⟨x, e1, e2⟩ := ents_get (i := i) h5 (by simpa [keysD] using e)
    exact ⟨x, by simpa using e1, e2⟩
theorem keys_len : ∀ (kvs : List (D × D)), (keysD kvs).length = kvs.length
  | [] => rfl
  | (_, _) :: r => congrArg Nat.succ (keys_len r)
theorem put_len (x y : D) : ∀ (kvs : List (D × D)), (putD kvs x y).length ≤ kvs.length + 1
  | [] => Nat.le_refl _
  | (k, d) :: r => by
    show (match eqD k x with | true => (k, y) :: r | false => (k, d) :: putD r x y).length ≤ _
    cases eqD k x with
    | true => exact Nat.le_succ _
    | false => exact Nat.succ_le_succ (put_len x y r)
end
section
variable {P : Program} {w : World} {H F : Hp} {h : Heap} {a : Addr} {o : Obj} {kvs : List (D × D)}
theorem dn_get (ok : HOk P w H h) (e : H a = some (dnO a o)) : h.get? a = some o := (ok a _ e).1
theorem ents_is (ok : HOk P w H h) (l : Le F H) : ∀ {kvs : List (D × D)} {xs : List (NestedKey × Addr × Value)}, Ents F kvs xs → ∀ x ∈ xs, (nestedKind P w).is h x.1 x.2.1
  | _, _, .nil, x, m => nomatch m
  | _, _, .cons h1 h2 h3 h4 h5, x, m => by
    rcases List.mem_cons.mp m with e | m
    · subst e
      exact key_is ok h1 (dp_mono l _ _ h2)
    · exact ents_is ok l h5 x m
theorem dn_h (ok : HOk P w H h) (l : Le F H) (e : H a = some (dnO a o)) (d : DN w F a o kvs) : ∃ xs, h.DictOfH (nestedKind P w) a xs ∧ Ents F kvs xs ∧ xs.length ≤ sizeLine ∧ (xs.map (·.1)).Nodup := by
  obtain ⟨_, hx, es, ep, xs, h1, h2, h3, h4, h5⟩ := d
  exact ⟨xs, ⟨o, es, ep, dn_get ok e, hx, h1, h2, ents_is ok l h5, h3⟩, h5, h4, h3⟩
theorem dn_obj {H' : Hp} (g : h.get? a = some o) : ObjOk P w H' h a (dnO a o) := ⟨g, ⟨o, g⟩, fun h1 h2 p k => k o p⟩
theorem dn_new (hd : (a == sysModules) = false) : DN w F a { cls := .type "dict", data := .dict #[] } [] := ⟨hd, ⟨rfl, rfl, rfl⟩, #[], 0, [], rfl, rfl, List.nodup_nil, Nat.zero_le _, .nil⟩
theorem dn_of {xs : List (NestedKey × Addr × Value)} (hd : (a == sysModules) = false) (z : xs.length ≤ sizeLine) (E : Ents F kvs xs) (d : h.DictOfH (nestedKind P w) a xs) : ∃ o, h.get? a = some o ∧ DN w F a o kvs := by
  obtain ⟨o, es, ep, h1, h2, h3, h4, _, h5⟩ := d
  exact ⟨o, h1, hd, h2, es, ep, xs, h3, h4, h5, z, E⟩
end
/-! ### the pieces -/
section
variable {X : Cx} {o i e value : Expr} {pos pos' tpos apos cpos : Pos} {td ty tv tx : TE}
def tDixN (w : World) (td ty : TE) : TE := fun σ H Q => td σ H fun x H1 => ty σ H1 fun y H2 => ∃ F a ob kvs b k r, x = .ref a ∧ Le F H2 ∧ H2 a = some (dnO a ob) ∧ DN w F a ob kvs ∧ y = .ref b ∧ Rp F (.ref b) k ∧ keyT k = true ∧ look kvs k = some r ∧ ∀ v, Rp F v r → Q v H2
theorem pe_dixN (hu : X.A.units + 100 < cLine) (ho : PE X o td) (hi : PE X i ty) (hs : NoSl i) : PE X (.Subscript o i pos) (tDixN X.w td ty) := by
  refine ⟨fun pins s σ H Q I h => ?_⟩
  refine subD_of PySem.F.slot_dict_getitem.lookup hs (thn (ho.run pins s σ H _ I h) fun u s1 ⟨x, H1, I1, rx, q1⟩ => thn (hi.run pins s1 σ H1 _ I1 q1) fun iv s2 ⟨y, H2, I2, ry, F, a, ob, kvs, b, k, r, ex, l, e1, dn, ey, rb, hk, lk, q2⟩ => ?_)
  subst ex ey
  obtain rfl : u = Value.ref a := rx
  obtain rfl : iv = Value.ref b := ry
  obtain ⟨xs, dd, E, _, _⟩ := dn_h I2.hok l e1 dn
  rcases look_at hk E with ⟨z, _⟩ | ⟨r', b', u', v', z1, z2, z3, z4⟩
  · rw [lk] at z
    cases z
  · rw [lk] at z1
    cases z1
    refine ⟨dd.typeIs, wpAny_getItem_heap ?_ (key_is I2.hok hk (dp_mono l _ _ rb)) dd z2 ⟨v', H2, I2.tok _, z3, q2 v' z4⟩⟩
    show X.A.units + 1 + 8 < cLine
    omega
def tDgetN (w : World) (td ty tx : TE) : TE := fun σ H Q => td σ H fun x H1 => ∃ a ob, x = .ref a ∧ H1 a = some (dnO a ob) ∧ ob.ExactDict ∧ ty σ H1 fun y H2 => tx σ H2 fun z H3 => ∃ F ob' kvs b k, Le F H3 ∧ H3 a = some (dnO a ob') ∧ DN w F a ob' kvs ∧ y = .ref b ∧ Rp F (.ref b) k ∧ keyT k = true ∧
  (look kvs k = none → Q z H3) ∧ ∀ r v, look kvs k = some r → Rp F v r → Q v H3
theorem pe_dgetN {e f : Expr} (hu : X.A.units + 100 < cLine) (ho : PE X o td) (he : PE X e ty) (hf : PE X f tx) (m : M2 X o "get" apos e f cpos) : PE X (.Call (.Attribute o "get" apos) [e, f] [] cpos) (tDgetN X.w td ty tx) := by
  refine ⟨fun pins s σ H Q I h => ?_⟩
  refine wpAny_Call_method m.base m.few m.line PySem.F.plainAttrs_dict PySem.F.slot_dict_get PySem.F.type_dict_get (thn (ho.run pins s σ H _ I h) fun u s1 ⟨x, H1, I1, rx, a, ob, ex, e1, xd, q1⟩ => ?_)
  subst ex
  obtain rfl : u = Value.ref a := rx
  have g1 := dn_get I1.hok e1
  refine ⟨⟨ob, g1, xd.1⟩, fun b q => (by cases q; exact ⟨ob, g1, xd.2.1⟩), ?_⟩
  rw [m.trees]
  refine Calls.callWith_builtin rfl (Calls.evalArgs_plain (Calls.spliced_cons (thn (he.run pins s1 σ H1 _ I1 q1) fun iv s2 ⟨y, H2, I2, ry, q2⟩ =>
    Calls.spliced_cons (thn (hf.run pins s2 σ H2 _ I2 q2) fun fv s3 ⟨z, H3, I3, rz, F, ob', kvs, b, k, l, e3, dn, ey, rb, hk, qn, qs⟩ => Calls.spliced_nil ?_))))
  subst ey
  obtain rfl : iv = Value.ref b := ry
  obtain ⟨xs, dd, E, _, _⟩ := dn_h I3.hok l e3 dn
  have ru : (nestedKind X.prog X.w).room X.A.in1 := by
    show X.A.units + 1 + 8 < cLine
    omega
  refine call_meetsIn PySem.F.slot_dict_get dd.typeIs PySem.F.entry_dict_get (PySem.F.args_dict_get_3 _ _ _) (meetsH_dict_get_default (nestedKind X.prog X.w) a b dn.1 fv) ⟨ru, nkD k, xs, key_is I3.hok hk (dp_mono l _ _ rb), dd, ?_⟩
  rcases look_at hk E with ⟨z1, z2⟩ | ⟨r', b', u', v', z1, z2, z3, z4⟩
  · rw [z2]
    exact ⟨z, H3, I3.tok _, rz, qn z1⟩
  · rw [z2]
    exact ⟨v', H3, I3.tok _, z3, qs r' v' z1 z4⟩
def tDinN (w : World) (no : Bool) (ty td : TE) : TE := fun σ H Q => ty σ H fun y H1 => td σ H1 fun x H2 => ∃ F a ob kvs b k, x = .ref a ∧ Le F H2 ∧ H2 a = some (dnO a ob) ∧ DN w F a ob kvs ∧ y = .ref b ∧ Rp F (.ref b) k ∧ keyT k = true ∧ Q (.bl (match look kvs k with | some _ => !no | none => no)) H2
theorem pc_dinN (hu : X.A.units + 100 < cLine) (hi : PE X i ty) (ho : PE X o td) : PC X .In i o (tDinN X.w false ty td) := by
  refine ⟨fun pins s σ H Q I h => ?_⟩
  refine thn (hi.run pins s σ H _ I h) fun iv s1 ⟨y, H1, I1, ry, q1⟩ => thn (ho.run pins s1 σ H1 _ I1 q1) fun u s2 ⟨x, H2, I2, rx, F, a, ob, kvs, b, k, ex, l, e1, dn, ey, rb, hk, q2⟩ => ?_
  subst ex ey
  obtain rfl : u = Value.ref a := rx
  obtain rfl : iv = Value.ref b := ry
  obtain ⟨xs, dd, E, _, _⟩ := dn_h I2.hok l e1 dn
  refine wpAny_in_heap (by show X.A.units + 1 + 8 < cLine; omega) (key_is I2.hok hk (dp_mono l _ _ rb)) dn.1 dd ⟨_, H2, I2.tok _, ?_, q2⟩
  rcases look_at hk E with ⟨z1, z2⟩ | ⟨r', b', u', v', z1, z2, z3, z4⟩
  · rw [z1, z2]
    rfl
  · rw [z1, z2]
    rfl
theorem pc_dnotinN (hu : X.A.units + 100 < cLine) (hi : PE X i ty) (ho : PE X o td) : PC X .NotIn i o (tDinN X.w true ty td) := by
  refine ⟨fun pins s σ H Q I h => ?_⟩
  refine thn (hi.run pins s σ H _ I h) fun iv s1 ⟨y, H1, I1, ry, q1⟩ => thn (ho.run pins s1 σ H1 _ I1 q1) fun u s2 ⟨x, H2, I2, rx, F, a, ob, kvs, b, k, ex, l, e1, dn, ey, rb, hk, q2⟩ => ?_
  subst ex ey
  obtain rfl : u = Value.ref a := rx
  obtain rfl : iv = Value.ref b := ry
  obtain ⟨xs, dd, E, _, _⟩ := dn_h I2.hok l e1 dn
  refine notIn_keyed (by show X.A.units + 1 + 8 < cLine; omega) (key_is I2.hok hk (dp_mono l _ _ rb)) dn.1 ⟨xs, dd, rfl⟩ ⟨_, H2, I2.tok _, ?_, q2⟩
  rw [valueAt_pairsH]
  rcases look_at hk E with ⟨z1, z2⟩ | ⟨r', b', u', v', z1, z2, z3, z4⟩
  · rw [z1, z2]
    rfl
  · rw [z1, z2]
    rfl
def sDputN (w : World) (td ty tv : TE) : TS := fun D σ H => tv σ H fun v H1 => td σ H1 fun x H2 => ty σ H2 fun y H3 => ∃ F a ob kvs b k d, x = .ref a ∧ Le F H3 ∧ H3 a = some (dnO a ob) ∧ DN w F a ob kvs ∧ y = .ref b ∧ Rp F (.ref b) k ∧ keyT k = true ∧ Rp F v d ∧ kvs.length < sizeLine ∧
  ∀ ob', DN w F a ob' (putD kvs k d) → D.nx σ (upd H3 a (dnO a ob'))
theorem ps_dputN (hu : X.A.units + 100 < cLine) (ho : PE X o td) (hi : PE X i ty) (hv : PE X value tv) (hs : swapsWith value (some (.Subscript o i pos')) pos.line X.env = pure false) :
    PS X (.Assign [.Subscript o i pos'] value pos) (sDputN X.w td ty tv) := by
  refine ⟨fun pins s σ H D I h => ?_⟩
  refine wpAny_Assign_Subscript (thn (hv.run pins s σ H _ I h) fun r s1 ⟨v, H1, I1, rv, q1⟩ => thn (ho.run pins s1 σ H1 _ I1 q1) fun u s2 ⟨x, H2, I2, rx, q2⟩ => thn (hi.run pins s2 σ H2 _ I2 q2) fun iv s3 ⟨y, H3, I3, ry, F, a, ob, kvs, b, k, d, ex, l, e3, dn, ey, rb, hk, rp, hlt, q3⟩ => ?_) hs
  subst ex ey
  obtain rfl : u = Value.ref a := rx
  obtain rfl : iv = Value.ref b := ry
  obtain ⟨xs, dd, E, hz, nd⟩ := dn_h I3.hok l e3 dn
  refine wpAny_setItem_heap (hsz := hz) (by show X.A.units + 1 + 8 < cLine; omega) (key_is I3.hok hk (dp_mono l _ _ rb)) dd fun h' dd' sb => ?_
  have E' := ents_put hk rb rv rp E nd
  have hz' : (storedH xs (nkD k) b r).length ≤ sizeLine := by
    rw [← ents_len E']
    have := put_len k d kvs
    omega
  obtain ⟨ob', g', dn'⟩ := dn_of dn.1 hz' E' dd'
  exact ⟨σ, _, d_write I3 (by rw [e3]; exact True.intro) sb ⟨ob', g'⟩ (dn_obj g'), q3 ob' dn'⟩
def tDnewN (w : World) : TE := fun _ H Q => ∀ p ob F, H p = none → DN w F p ob [] → Q (.ref p) (upd H p (dnO p ob))
theorem big_ne {pins : List (Addr × Obj)} {σ : L2.St} {H : Hp} {s : Shared} (I : Inv X pins σ H s) : (s.heap.objs.size == sysModules) = false := beq_eq_false_iff_ne.mpr (Ne.symm (Nat.ne_of_lt I.big))
theorem pe_dnewN : PE X (.Dict [] [] pos) (tDnewN X.w) := ⟨fun pins s σ H Q I h => by
  refine wpAny_Dict_empty ⟨.ref s.heap.objs.size, _, I.laid (a := s.heap.objs.size) (o := dnO s.heap.objs.size { cls := .type "dict", data := .dict #[] }) (t' := s.toks) (fun _ _ q => Heap.get?_push_of_some _ q) (Nat.le_refl _) (dn_obj (Heap.get?_push_size _ rfl)), rfl, h _ _ (fun _ => none) (I.hok.fresh (Nat.le_refl _)) (dn_new (big_ne I))⟩⟩
def tDnew1N (w : World) (tk tv : TE) : TE := fun σ H Q => ∀ p ob, H p = none → (p == sysModules) = false → tk σ (upd H p (dnO p ob)) fun y H1 => tv σ H1 fun z H2 => H2 p = some (dnO p ob) ∧ ∃ F b k d, Le F H2 ∧ y = .ref b ∧ Rp F (.ref b) k ∧ keyT k = true ∧ Rp F z d ∧
  ∀ ob', DN w F p ob' [(k, d)] → Q (.ref p) (upd H2 p (dnO p ob'))
theorem pe_dnew1N {kx vx : Expr} (hu : X.A.units + 100 < cLine) (hk : PE X kx ty) (hv : PE X vx tv) : PE X (.Dict [some kx] [vx] pos) (tDnew1N X.w ty tv) := by
  refine ⟨fun pins s σ H Q I h => ?_⟩
  have hn := I.hok.fresh (Nat.le_refl s.heap.objs.size)
  have I1 := I.laid (a := s.heap.objs.size) (o := dnO s.heap.objs.size { cls := .type "dict", data := .dict #[] }) (h' := s.heap.push { cls := .type "dict", data := .dict #[] }) (t' := s.toks) (fun _ _ q => Heap.get?_push_of_some _ q) (Nat.le_refl _) (dn_obj (Heap.get?_push_size _ rfl))
  have z := zip_pairTrees [some kx] [vx] X.env pos rfl rfl
  rw [arm_eval_Dict, z, dictDisplay_pairs (pairTrees [some kx] [vx] X.env pos) (fun q => by cases q) (by rw [pairTrees_length _ _ _ _ rfl rfl]; exact (by decide : (1 : Nat) < 17))]
  refine wpAny_bind (wpAny_standAt (wpAny_bind (wpAny_subDictH (knd := nestedKind X.prog X.w) (by show X.A.units + 8 < cLine; omega) (by rw [pairTrees_length _ _ _ _ rfl rfl]; exact (by decide : (1 : Nat) ≤ 15)) ?_)))
  refine thn ((pps_cons hk hv pps_nil).run pins _ σ _ (fun ps H2 => match ps with | [(y, z)] => H2 s.heap.objs.size = some (dnO s.heap.objs.size { cls := .type "dict", data := .dict #[] }) ∧ ∃ F b k d, Le F H2 ∧ y = .ref b ∧ Rp F (.ref b) k ∧ keyT k = true ∧ Rp F z d ∧ ∀ ob', DN X.w F s.heap.objs.size ob' [(k, d)] → Q (.ref s.heap.objs.size) (upd H2 s.heap.objs.size (dnO s.heap.objs.size ob')) | _ => False) I1 (h _ _ hn (big_ne I))) fun ws s2 ⟨ps, H2, I2, rel, q⟩ => ?_
  match ps, rel, q with
  | [(y, z)], .cons (b := (u1, u2)) r1 .nil, ⟨e2, F, b, k, d, l, ey, rb, hkk, rp, q2⟩ =>
    have r1 : RelV y u1 ∧ RelV z u2 := r1
    subst ey
    obtain rfl : u1 = Value.ref b := r1.1
    obtain ⟨xs, dd, E, _, _⟩ := dn_h I2.hok l e2 (dn_new (big_ne I))
    cases E
    refine ⟨[(nkD k, b, u2)], ⟨rfl, rfl, key_is I2.hok hkk (dp_mono l _ _ rb), trivial⟩, dd, fun h' tk dd' sb => wpAny_pure ?_⟩
    obtain ⟨ob', g', dn'⟩ := dn_of (kvs := [(k, d)]) (big_ne I) (by show 1 ≤ sizeLine; decide) (.cons hkk rb r1.2 rp .nil) dd'
    exact ⟨.ref s.heap.objs.size, _, d_write I2 (by rw [e2]; exact True.intro) sb ⟨ob', g'⟩ (dn_obj g'), rfl, q2 ob' dn'⟩
/-! ### for k in d -/
def Itn (a : Addr) (ob : Obj) (es : Array DictEntry) : It :=
  ⟨fun i H => H a = some (dnO a ob) ∧ i < es.size, fun i H x H' => H' = H ∧ ∃ en q, es[i]? = some en ∧ en.key = .ref q ∧ x = .ref q, fun i H => H a = some (dnO a ob) ∧ es.size ≤ i⟩
theorem turn_keysN {P : Program} {w : World} {K : PySem.W.Frag} {tg : Expr} {a : Addr} {ob : Obj} {es : Array DictEntry} {ep : Nat} (hdt : ob.data = .dict es ep) (rf : ∀ (i : Nat) en, es[i]? = some en → ∃ q, en.key = .ref q) (it : Addr) : Turn P w K tg (Itn a ob es) [it] it (fun i h => h.IsKeyIter it a i es.size ep) where
  mem := by simp
  obj := fun i h st b hb => by
    obtain rfl : b = it := by simpa using hb
    obtain ⟨oi, e, c, dd⟩ := st
    exact ⟨oi, e, fun v z => (by rw [dd] at z; cases z)⟩
  keep := fun i h h' st k => st.at fun oi e => k it (by simp) oi e
  item := by
    intro X hP hw hK hc i pins s σ H E I hf st ⟨hd, hi⟩
    subst hP hw hK
    obtain ⟨f0, f1, f2, f3, f4, f5⟩ := hf it (by simp)
    have hen : es[i]? = some es[i] := Array.getElem?_eq_getElem hi
    obtain ⟨q, hq⟩ := rf i _ hen
    refine next_key_item st (dn_get I.hok hd) hdt rfl hen fun h' st' sb => ?_
    have I1 : Inv X pins σ H { s with heap := h' } := I.turned (t' := s.toks) (fun b ob hb e => (sb.2 b hb).trans e) f0 f1 f3 f4 f5
    obtain ⟨oi, e, c, dd⟩ := id st'
    exact ⟨_, rfl, go_of (s := { s with heap := h' }) e c dd (by decide) ⟨.ref q, H, I1, hq, ⟨rfl, _, q, hen, hq, rfl⟩, st', fun b hb => (hf b hb).1⟩⟩
  done := by
    intro X hP hw hK hc i pins s σ H E I hf st ⟨hd, hi⟩
    subst hP hw hK
    obtain ⟨f0, f1, f2, f3, f4, f5⟩ := hf it (by simp)
    exact next_key_end (I.ok.hd hc) st (dn_get I.hok hd) hdt rfl hi fun h' eb => ⟨rfl, I.turned (t' := s.toks) (fun b ob hb e => eb b ob hb e) f0 f1 f3 f4 f5⟩
  self := fun A i s Q E st h => wpAny_pyIter_keyiter st h
def iKeysN (w : World) (td : TE) : TI := fun σ H R => td σ H fun x H1 => ∃ F a ob kvs es ep, x = .ref a ∧ Le F H1 ∧ H1 a = some (dnO a ob) ∧ DN w F a ob kvs ∧ ob.data = .dict es ep ∧ R (Itn a ob es) H1
theorem dn_keys {w : World} {F : Hp} {a : Addr} {ob : Obj} {kvs : List (D × D)} {es : Array DictEntry} {ep : Nat} (d : DN w F a ob kvs) (hdt : ob.data = .dict es ep) : es.size = kvs.length ∧ ∀ (i : Nat) k, (keysD kvs)[i]? = some k → ∃ en q, es[i]? = some en ∧ en.key = .ref q ∧ Rp F (.ref q) k := by
  obtain ⟨_, _, es', ep', xs, h1, h2, h3, h4, h5⟩ := d
  rw [hdt] at h1
  cases h1
  have hl : es.size = xs.length := by rw [← Array.length_toList, h2, List.length_map]
  refine ⟨by rw [hl, ents_len h5], fun i k e => ?_⟩
  obtain ⟨x, e1, e2⟩ := ents_get h5 e
  refine ⟨entN w x, x.2.1, ?_, rfl, e2⟩
  rw [← Array.getElem?_toList, h2, List.getElem?_map, e1]
  rfl
theorem dn_refs {w : World} {F : Hp} {a : Addr} {ob : Obj} {kvs : List (D × D)} {es : Array DictEntry} {ep : Nat} (d : DN w F a ob kvs) (hdt : ob.data = .dict es ep) : ∀ (i : Nat) en, es[i]? = some en → ∃ q, en.key = .ref q := fun i en e => by
  have k := dn_keys d hdt
  have hi : i < es.size := (Array.getElem?_eq_some_iff.mp e).1
  have hk : i < (keysD kvs).length := by rw [keys_len, ← k.1]; exact hi
  obtain ⟨en', q, e1, e2, _⟩ := k.2 i _ (List.getElem?_eq_getElem hk)
  rw [e] at e1
  cases e1
  exact ⟨q, e2⟩
theorem pi_keysN {tg : Expr} (he : PE X e td) : PI X tg e (iKeysN X.w td) := by
  refine ⟨fun pins s σ H R I h => ?_⟩
  refine thn (he.run pins s σ H _ I h) fun u s1 ⟨x, H1, I1, rx, F, a, ob, kvs, es, ep, ex, l, e1, dn, hdt, q⟩ => ?_
  subst ex
  obtain rfl : u = Value.ref a := rx
  exact iter_keys dn.1 (dn_get I1.hok e1) dn.2.1 hdt (pi_one (tk := s1.toks) I1 _ (turn_keysN hdt (dn_refs dn hdt) _) ⟨_, Heap.get?_push_size _ rfl, rfl, rfl⟩ q)
theorem walk_keys {w : World} {F : Hp} {a : Addr} {ob : Obj} {kvs : List (D × D)} {es : Array DictEntry} {ep : Nat} (hF : F a = some (dnO a ob)) (d : DN w F a ob kvs) (hdt : ob.data = .dict es ep) : Walk F (Itn a ob es) (keysD kvs) := fun i H l => by
  have k := dn_keys d hdt
  have hl : (keysD kvs).length = es.size := by rw [keys_len, k.1]
  refine ⟨fun x hx => ⟨⟨l _ _ hF, ?_⟩, fun v H' ⟨h1, en, q, h2, h3, h4⟩ => ?_⟩, fun e => ⟨l _ _ hF, by omega⟩⟩
  · have := (List.getElem?_eq_some_iff.mp hx).1
    omega
  · obtain ⟨en', q', e1, e2, e3⟩ := k.2 i x hx
    rw [h2] at e1
    cases e1
    rw [h3] at e2
    cases e2
    subst h4
    exact .inl ⟨h1, e3⟩
end
end Ev

/-! The evaluator is sound: dicts with tuple keys. -/
namespace Ev
open PySem PySem.Spec PyProof.Rows L2

section
variable {c : Cf} {cf : Nat → List Val → R RV} {k : Nat} {cc : CC} {X : Cx}
theorem dct_ex {x : Val} {α : Type} {f : List (D × D) → R α} {P : α → Prop} (p : ((dctV x).bind f).Post P) : ∃ l, x = .dct l ∧ (f l).Post P := by
  cases x with
  | dct l => exact ⟨l, rfl, p⟩
  | d x => exact p.elim
  | kd l => exact p.elim
  | row => exact p.elim
theorem key_ex {x : Val} {α : Type} {f : D → R α} {P : α → Prop} (p : ((keyV x).bind f).Post P) : ∃ d, x = .d d ∧ keyT d = true ∧ (f d).Post P := by
  cases x with
  | d d =>
    have p : ((match keyT d with | true => R.ok d | false => R.stuck).bind f).Post P := p
    cases z : keyT d with
    | true => rw [z] at p; exact ⟨d, rfl, z, p⟩
    | false => rw [z] at p; exact p.elim
  | dct l => exact p.elim
  | kd l => exact p.elim
  | row => exact p.elim
theorem nosl {y : Expr} (h : plainIx y = true) : NoSl y := by
  intro o i
  cases y <;> first | rfl | exact (Bool.false_ne_true h).elim
theorem se_dnew : SE c cf k .dnew := fun cc X G e h dr H0 => by
  unfold chkE at h
  split at h
  · refine pe_dnewN.imp fun σ H Q ⟨F, e, st, p⟩ q ob F' hq dn => ?_
    rw [G.w] at dn
    refine p F (upd H q (dnO q ob)) (.ref q) (st.newO hq).2 (st.newO hq).1 ⟨q, rfl, st.fnone hq, st.nspc hq, hq, ⟨ob, upd_same, ?_⟩, st.ownlt hq⟩
    obtain ⟨h1, h2, es, ep, xs, h3, h4, h5, h6, h7⟩ := dn
    cases h7
    exact ⟨h1, h2, es, ep, [], h3, h4, h5, h6, .nil⟩
  · cases h
theorem se_dnew1 {a b : Ex} (ha : SE c cf k a) (hb : SE c cf k b) : SE c cf k (.dnew1 a b) := fun cc X G e h dr H0 => by
  unfold chkE at h
  split at h
  · rename_i x y pos
    obtain ⟨h1, h2⟩ := and2 h
    refine (pe_dnew1N G.hu (ha cc X G x h1 dr H0) (hb cc X G y h2 dr H0)).imp fun σ H Q ⟨F, e, st, p⟩ q ob hq hd => ?_
    obtain ⟨st0, g0⟩ := st.newO (o := dnO q ob) hq
    refine rdE st0 p fun F1 H1 v x g1 st1 o1 p => ?_
    obtain ⟨kd, e1, hk, p⟩ := key_ex p
    rw [e1] at o1
    obtain ⟨b, rfl, rb⟩ := o1.key st1 hk
    refine fzdE st1 p fun F2 H2 w y g2 st2 r2 p => ?_
    have np := st.nspc hq
    have e2 : H2 q = some (dnO q ob) := g2.ext.at' q _ (g1.ext.at' q _ upd_same np (fun _ z => nomatch z)) np (fun _ z => nomatch z)
    refine ⟨e2, F2, b, kd, y, st2.le, rfl, dp_mono g2.le _ _ rb, hk, r2, fun ob' dn => ?_⟩
    rw [G.w] at dn
    have f0 : F2 q = none := g2.nw q (.inl (by rw [g1.ext.at' q _ upd_same np (fun _ z => nomatch z)]; exact fun z => nomatch z)) (g1.nw q (.inl (by rw [upd_same]; exact fun z => nomatch z)) (st.fnone hq))
    have nl : ∀ i y, slotAt e i = .o y → σ[i]? ≠ some (some (V.ref q)) := st.ownlt hq
    have own : ∀ j y a, slotAt e j = .o y → σ[j]? = some (some (V.ref a)) → a ≠ q := fun j y a h1 h2 z => nl j y h1 (by rw [h2, z])
    have st3 : StOk c dr H0 F2 (upd H2 q (dnO q ob')) e σ := by
      refine ⟨fun a o h => ?_, st2.nsp, ⟨fun a o h n t => ?_, fun a ps h => ?_⟩, wd_upd st2.wd np (chg_dn e2), st2.len, st2.val, fun i x h => ?_, st2.inj⟩
      · rw [upd_ne (ne_of_none h f0)]
        exact st2.le a o h
      · rw [upd_ne (ne_of_none h (st.h0none hq))]
        exact st2.ext.at' a o h n t
      · rw [upd_ne (ne_of_none h (st.h0none hq))]
        exact st2.ext.tb a ps h
      · obtain ⟨a, k1, k2, k3, k4, k5⟩ := st2.own i x h
        exact ⟨a, k1, k2, k3, k4, orep_mono (Le.refl _) k5 (upd_ne (own i x a h k1))⟩
    have g3 : Gr c dr F H F2 (upd H2 q (dnO q ob')) := by
      refine ⟨((g0.trans g1).trans g2).le, ⟨fun a o h n t => ?_, fun a ps h => ?_⟩, ((g0.trans g1).trans g2).nw⟩
      · rw [upd_ne (ne_of_none h hq)]
        exact ((g0.trans g1).trans g2).ext.at' a o h n t
      · rw [upd_ne (ne_of_none h hq)]
        exact ((g0.trans g1).trans g2).ext.tb a ps h
    exact p F2 _ (.ref q) g3 st3 ⟨q, rfl, f0, np, hq, ⟨ob', upd_same, dn⟩, nl⟩
  · cases h
theorem se_dix {a b : Ex} (ha : SE c cf k a) (hb : SE c cf k b) : SE c cf k (.dix a b) := fun cc X G e h dr H0 => by
  unfold chkE at h
  split at h
  · rename_i x y pos
    obtain ⟨h1, h3⟩ := and2 h
    obtain ⟨h1, h2⟩ := and2 h1
    refine (pe_dixN G.hu (ha cc X G x h2 dr H0) (hb cc X G y h3 dr H0) (nosl h1)).imp fun σ H Q ⟨F, e, st, p⟩ => ?_
    refine rdE st p fun F1 H1 v x g1 st1 o1 p => ?_
    obtain ⟨l, e1, p⟩ := dct_ex p
    rw [e1] at o1
    refine rdE st1 p fun F2 H2 w y g2 st2 o2 p => ?_
    obtain ⟨kd, e2, hk, p⟩ := key_ex p
    rw [e2] at o2
    obtain ⟨b, rfl, rb⟩ := o2.key st2 hk
    have o1 := o1.mono g2.le
    obtain ⟨q, ob, rfl, e3, dn⟩ := o1.dct st2
    rw [← G.w] at dn
    have p : (match look l kd with | some r => R.ok (RV.v (.d r)) | none => R.stuck).Post (Then c dr H0 F H e σ Q) := p
    cases z : look l kd with
    | none => rw [z] at p; exact p.elim
    | some r =>
      rw [z] at p
      exact ⟨F2, q, ob, l, b, kd, r, rfl, st2.le, e3, dn, rfl, rb, hk, z, fun v rv => p F2 H2 v (g1.trans g2) st2 rv⟩
  · cases h
theorem se_dget {a b d : Ex} (ha : SE c cf k a) (hb : SE c cf k b) (hd : SE c cf k d) : SE c cf k (.dget a b d) := fun cc X G e h dr H0 => by
  unfold chkE at h
  split at h
  · rename_i n q y ap x z cp
    obtain ⟨h1, h7⟩ := and2 h
    obtain ⟨h1, h6⟩ := and2 h1
    obtain ⟨h1, h5⟩ := and2 h1
    obtain ⟨h1, h4⟩ := and2 h1
    obtain ⟨h1, h3⟩ := and2 h1
    obtain ⟨h1, h2⟩ := and2 h1
    have hy : y = ("get" : Str) := by simpa using h1
    subst hy
    refine (pe_dgetN G.hu (ha cc X G _ h5 dr H0) (hb cc X G x h6 dr H0) (hd cc X G z h7 dr H0) ⟨rfl, by rw [starE h2, starE h3]; rfl, h4, by rw [starE h2, starE h3]; rfl⟩).imp fun σ H Q ⟨F, e, st, p⟩ => ?_
    refine rdE st p fun F1 H1 v x g1 st1 o1 p => ?_
    obtain ⟨l, e1, p⟩ := dct_ex p
    rw [e1] at o1
    obtain ⟨q1, ob1, rfl, e3, dn1⟩ := o1.dct st1
    refine ⟨q1, ob1, rfl, e3, dn1.2.1, ?_⟩
    refine rdE st1 p fun F2 H2 w y g2 st2 o2 p => ?_
    obtain ⟨kd, e2, hk, p⟩ := key_ex p
    rw [e2] at o2
    obtain ⟨b, rfl, rb⟩ := o2.key st2 hk
    refine fzdE st2 p fun F3 H3 u z g3 st3 r3 p => ?_
    have o1 := o1.mono (g2.le.trans g3.le)
    obtain ⟨q2, ob2, eq2, e4, dn2⟩ := o1.dct st3
    cases eq2
    rw [← G.w] at dn2
    have p : Then c dr H0 F H e σ Q (RV.v (.d (match look l kd with | some r => r | none => z))) := p
    refine ⟨F3, ob2, l, b, kd, st3.le, e4, ?_, rfl, dp_mono g3.le _ _ rb, hk, fun hn => ?_, fun r v hs rv => ?_⟩
    · exact dn2
    · rw [hn] at p
      exact p F3 H3 u ((g1.trans g2).trans g3) st3 r3
    · rw [hs] at p
      exact p F3 H3 v ((g1.trans g2).trans g3) st3 rv
  · cases h
theorem din_shape {no : Bool} {op : CmpOp} (h : cmB (match no with | true => .notin | false => .isin) op = true) : (no = false ∧ op = .In) ∨ (no = true ∧ op = .NotIn) := by
  cases no <;> cases op <;> first | exact .inl ⟨rfl, rfl⟩ | exact .inr ⟨rfl, rfl⟩ | exact (Bool.false_ne_true h).elim
theorem din_core {no : Bool} {a b : Ex} (G : Good c cf k cc X) (ha : SE c cf k a) (hb : SE c cf k b) {x y : Expr} (hx : chkE cc a x = true) (hy : chkE cc b y = true) {dr : Option Addr} {H0 : Hp} {σ : L2.St} {H F : Hp} {e : Env} {Q : VK} {α : Type} {P : α → Prop} {fin : Bool → R α}
    (st : StOk c dr H0 F H e σ) (p : ((dE cf a e).bind fun y => (keyV y.rd).bind fun kd => (dE cf b e).bind fun a => (dctV a.rd).bind fun l => fin (match look l kd with | some _ => !no | none => no)).Post P)
    (q : ∀ F1 H1 r, Gr c dr F H F1 H1 → StOk c dr H0 F1 H1 e σ → (fin r).Post P → Q (.bl r) H1) : tDinN X.w no (tE c dr H0 (dE cf a)) (tE c dr H0 (dE cf b)) σ H Q := by
  refine rdE st p fun F1 H1 v x g1 st1 o1 p => ?_
  obtain ⟨kd, e1, hk, p⟩ := key_ex p
  rw [e1] at o1
  obtain ⟨b, rfl, rb⟩ := o1.key st1 hk
  refine rdE st1 p fun F2 H2 w y g2 st2 o2 p => ?_
  obtain ⟨l, e2, p⟩ := dct_ex p
  rw [e2] at o2
  obtain ⟨q1, ob1, rfl, e3, dn1⟩ := o2.dct st2
  rw [← G.w] at dn1
  exact ⟨F2, q1, ob1, l, b, kd, rfl, st2.le, e3, dn1, rfl, dp_mono g2.le _ _ rb, hk, q F2 H2 _ (g1.trans g2) st2 p⟩
theorem se_din (no : Bool) {a b : Ex} (ha : SE c cf k a) (hb : SE c cf k b) : SE c cf k (.din no a b) := fun cc X G e h dr H0 => by
  unfold chkE at h
  split at h
  · rename_i x o y pos
    obtain ⟨h1, h4⟩ := and2 h
    obtain ⟨h1, h3⟩ := and2 h1
    obtain ⟨h1, h2⟩ := and2 h1
    rcases din_shape h1 with ⟨rfl, rfl⟩ | ⟨rfl, rfl⟩
    · exact (pe_cmp (pc_dinN G.hu (ha cc X G x h3 dr H0) (hb cc X G y h4 dr H0)) (noset h2)).imp fun σ H Q ⟨F, e, st, p⟩ => din_core (fin := boolV) G ha hb h3 h4 st p fun F1 H1 r g1 st1 p => bool_end st1 g1 p
    · exact (pe_cmp (pc_dnotinN G.hu (ha cc X G x h3 dr H0) (hb cc X G y h4 dr H0)) (noset h2)).imp fun σ H Q ⟨F, e, st, p⟩ => din_core (fin := boolV) G ha hb h3 h4 st p fun F1 H1 r g1 st1 p => bool_end st1 g1 p
  · cases h
theorem st_din (no : Bool) {a b : Ex} (ha : SE c cf k a) (hb : SE c cf k b) : ST c cf k (.din no a b) := fun cc X G e h dr H0 => by
  unfold chkT at h
  split at h
  · rename_i x o y pos
    obtain ⟨h1, h4⟩ := and2 h
    obtain ⟨h1, h3⟩ := and2 h1
    obtain ⟨h1, h2⟩ := and2 h1
    rcases din_shape h1 with ⟨rfl, rfl⟩ | ⟨rfl, rfl⟩
    · exact (pt_cmp (pc_dinN G.hu (ha cc X G x h3 dr H0) (hb cc X G y h4 dr H0)) (noset h2)).imp fun σ H Q ⟨F, e, st, p⟩ => din_core (fin := R.ok) (Q := fun x H1 => ∃ d, x = .bl d ∧ Q d H1) G ha hb h3 h4 st p fun F1 H1 r g1 st1 p => ⟨r, rfl, p F1 H1 g1 st1⟩
    · exact (pt_cmp (pc_dnotinN G.hu (ha cc X G x h3 dr H0) (hb cc X G y h4 dr H0)) (noset h2)).imp fun σ H Q ⟨F, e, st, p⟩ => din_core (fin := R.ok) (Q := fun x H1 => ∃ d, x = .bl d ∧ Q d H1) G ha hb h3 h4 st p fun F1 H1 r g1 st1 p => ⟨r, rfl, p F1 H1 g1 st1⟩
  · cases h
theorem dput_ex {e : Env} {i : Nat} {kd d : D} {P : Out → Prop} (p : (dputV e i kd d).Post P) : ∃ l, slotAt e i = .o (.dct l) ∧ l.length ≤ lim ∧ P (.nx (setAt e i (.o (.dct (putD l kd d))))) := by
  unfold dputV at p
  split at p
  · rename_i l hl
    obtain ⟨hz, p⟩ := few_ex p
    exact ⟨l, hl, hz, p⟩
  · exact p.elim
theorem ss_dput (i : Nat) {kx a : Ex} (hk : SE c cf k kx) (ha : SE c cf k a) : SS c cf k (.dput i kx a) := fun cc X G e h dr H0 F0 => by
  unfold chkS at h
  split at h
  · rename_i x p j p2 e pos
    obtain ⟨h1, h5⟩ := and2 h
    obtain ⟨h1, h4⟩ := and2 h1
    obtain ⟨h1, h3⟩ := and2 h1
    obtain ⟨h1, h2⟩ := and2 h1
    obtain ⟨v1, v2, v3⟩ := G.var (i := i) (x := x) h1
    refine (ps_dputN G.hu (pe_var v1 v2 (dbg_ne v3).1 (dbg_ne v3).2.1) (hk cc X G j h4 dr H0) (ha cc X G e h5 dr H0) (sw_no h3 _ _ _)).imp fun D σ H ⟨F, e, st, g, p⟩ => ?_
    have p : ((dE cf a e).bind fun x => (fzD x).bind fun d => (dE cf kx e).bind fun y => (keyV y.rd).bind fun kd => dputV e i kd d).Post (PostS c dr H0 F0 F D) := p
    refine fzdE st p fun F1 H1 v d g1 st1 r1 p => ?_
    obtain ⟨l, hl⟩ : ∃ l, slotAt e i = .o (.dct l) := by
      obtain ⟨r, p⟩ := (R.post_bind p).ex
      obtain ⟨j, p⟩ := (R.post_bind p).ex
      obtain ⟨l, h, _⟩ := dput_ex p
      exact ⟨l, h⟩
    obtain ⟨a0, e1, f1, ns, h0, ob, e3, dn⟩ := st1.own i _ hl
    refine ⟨_, e1, ?_⟩
    refine rdE st1 p fun F2 H2 w y g2 st2 o2 p => ?_
    obtain ⟨kd, e5, hkd, p⟩ := key_ex p
    rw [e5] at o2
    obtain ⟨b, rfl, rb⟩ := o2.key st2 hkd
    obtain ⟨l', hl', hz, p⟩ := dput_ex p
    rw [hl] at hl'
    cases hl'
    have e4 : H2 a0 = some (dnO a0 ob) := g2.ext.at' a0 _ e3 ns (fun _ z => nomatch z)
    refine ⟨F2, a0, ob, l, b, kd, d, rfl, st2.le, e4, ?_, rfl, rb, hkd, dp_mono g2.le _ _ r1, by have := lim_line; omega, fun ob' dn' => ?_⟩
    · rw [G.w]
      exact dn_mono g2.le dn
    · rw [G.w] at dn'
      have st3 := st2.putH (x' := .dct (putD l kd d)) hl e1 ⟨ob', upd_same, dn'⟩
      exact p F2 _ σ (g1.le.trans g2.le) st3 ⟨(g.le.trans g1.le).trans g2.le, st3.ext, ((g.trans g1).trans g2).nw⟩
  · cases h
theorem si_ikeys {a : Ex} (ha : SE c cf k a) : SI c cf k (.ikeys a) := fun cc X G t e h dr H0 => by
  refine (pi_keysN (ha cc X G e h dr H0)).imp fun σ H R' ⟨F, e, st, p⟩ => ?_
  refine fzE st p fun F1 H1 v x g1 st1 r1 p => ?_
  obtain ⟨l, rfl, p⟩ := dct_ex p
  obtain ⟨q, ob, rfl, e1, dn⟩ := r1
  obtain ⟨_, _, es, ep, _, hdt, _⟩ := id dn
  refine ⟨F1, q, ob, l, es, ep, rfl, st1.le, st1.le _ _ e1, ?_, hdt, p F1 H1 _ g1 st1 (walk_keys e1 dn hdt)⟩
  rw [G.w]
  exact dn
end
end Ev

/-! sorted(set(xs)) of a list of ints; xs.index(x); a range that goes down. -/
namespace Ev
open PySem PySem.Spec PyProof.Rows L2

/-! ### a set of a list's ints -/
section
variable {P : Program} {w : World} {A : Around} {E : Value → Shared → Prop} {s : Shared}
/-- the new set's object, the heap with it -/
abbrev nsO (w : World) : Obj := { cls := .type "set", dict := none, data := .set #[] 0 (.fresh 0 0 (!w.params.followText "set-order")) }
abbrev nsH (w : World) (s : Shared) : Heap := s.heap.push (nsO w)
/-- filled with the ints ns -/
abbrev Fld (w : World) (s : Shared) (ns : List Int) (s₂ : Shared) : Prop := ∃ h' tk c, s₂ = { s with heap := h', toks := tk } ∧ SetR w h' s.heap.objs.size (fun j => decide (j ∈ ns)) c ∧ c ≤ ns.length ∧ ∀ b o, s.heap.get? b = some o → h'.get? b = some o
theorem fld_of {ns : List Int} {p : Addr} {g : Addr} {s s' : Shared} {h1 : Heap} (e1 : h1.objs.size = s.heap.objs.size + 1) (hk : ∀ b o, s.heap.get? b = some o → h1.get? b = some o) {c n : Nat} {o1 : Obj} (hn : n = ns.length) {G : Array GenState → Array GenState → Prop} (hG : ∀ a b, G a b → b = a)
    (hm : Moved [s.heap.objs.size, h1.objs.size] G { s with heap := h1.push o1 } s') (hc : c ≤ n) (hS : SetR w s'.heap s.heap.objs.size (fun j => decide (j ∈ ns)) c) : Fld w s ns s' := by
  obtain ⟨h', g2, d', tk', os'⟩ := s'
  obtain rfl : g2 = s.gens := hG _ _ hm.gens
  obtain rfl : d' = s.drawn := hm.drawn
  obtain rfl : os' = s.os := hm.os
  refine ⟨h', tk', c, rfl, hS, hn ▸ hc, fun b o e => ?_⟩
  have l0 := Heap.lt_size e
  refine hm.heap b o (fun z => ?_) (Heap.get?_push_of_some _ (hk b o e))
  rcases List.mem_cons.mp z with z | z
  · exact Nat.ne_of_lt l0 z
  · have z : b = h1.objs.size := by simpa using z
    exact Nat.ne_of_lt (Nat.lt_succ_of_lt l0) (z.trans e1)
theorem set_of_ints {l : Addr} {its : Array Value} (ns : List Int) {Q : Value → Shared → Prop} (hA : A.handled = none) (lst : s.heap.IsList l its) (hI : IntsAre its.toList ns) (few : ns.length + 1 < scanBound)
    (q : ∀ s₂, Fld w s ns s₂ → Q (.ref s.heap.objs.size) s₂) : wpAny (model P w) A (call (.type "set") [.ref l]) Q E s := by
  have cnt : its.size = ns.length := Array.length_toList.symm.trans (IntsAre.length hI)
  obtain ⟨c, tl, m1⟩ := F.called_set.mro; have m2 := F.called_set.made; have m3 := F.called_set.sub
  refine wpAny_call (codeAny_of_tree ?_); show wpAny _ _ (callAny (.type "set") _) _ _ _
  refine wpAny_pure ⟨Code.quiet_builtin _ (by decide +kernel), codeAny_builtin F.entry_type_call ?_⟩; rw [Around.under_plain (weight_type_call_type "set" [.ref l] []) rfl]
  have m4 := F.called_set.notType; have m5 := F.called_set.canCreate; have m6 := F.typeCall_set_1 (.ref l)
  repeat (any_goals (first | assumption | wp_step))
  refine codeAny_mono (code_set_led1 (.ref l) (E := E) (Q₁ := fun ob s₁ => ob = .ref s.heap.objs.size ∧ s₁ = { s with heap := nsH w s }) ⟨rfl, rfl⟩) fun r s₁ hr => ?_
  match r, hr with
  | .error e, hr => exact hr
  | .ok .next, hr => exact hr.elim
  | .ok .brk, hr => exact hr.elim
  | .ok .cont, hr => exact hr.elim
  | .ok (.ret ob), ⟨eo, es⟩ =>
    subst eo es
    have gS : (nsH w s).get? s.heap.objs.size = some (nsO w) := Heap.get?_push_size _ rfl
    have tS : Shared.TypeIs { s with heap := nsH w s } (.ref s.heap.objs.size) "set" := ⟨_, gS, rfl⟩
    have m7 := F.called_set.init.lookup; have m8 := F.called_set.init.bind (.ref s.heap.objs.size)
    repeat (any_goals (first | assumption | wp_step))
    refine codeAny_mono (codeAny_call_builtin (R := wants (fun r s₂ => r = .none ∧ Fld w s ns s₂) E) F.called_set.init.plain F.entry_set_init (check_set_init_1 tS ?_)) fun r₂ s₂ h2 => ?_
    · obtain ⟨⟨oc, od, odt, osl⟩, gl, hc, nl, hd⟩ := lst
      simp only at hc hd; subst hc hd
      have gl1 : (nsH w s).get? l = some { cls := .type "list", dict := od, data := .seq its nl, slots := osl } := Heap.get?_push_of_some _ gl
      have n1 := F.sub_list_set; have n2 := F.sub_list_frozenset; have n3 : (Value.type "list" == Value.type "dict") = false := by decide
      have li : (nsH w s).IsList l its := ⟨_, gl1, rfl, nl, rfl⟩
      unfold Builtin.«set.__init__» noKeywords Builtin.Frozenset.updateFrom; generalize hPI : pyIter = PI
      wp_walk
      subst hPI; refine wpAny_pyIter_list li (wpAny_bind (wpAny_runValue ?_))
      have l0 : l < s.heap.objs.size := Heap.lt_size gl
      have z1 : (nsH w s).objs.size = s.heap.objs.size + 1 := Heap.size_push ..
      have hA3 : A.in1.in1.in1.handled = none := by simp [hA]
      have nl1 : l ≠ (nsH w s).objs.size := fun z => Nat.ne_of_lt (Nat.lt_succ_of_lt l0) (z.trans z1)
      have ns1 : s.heap.objs.size ∉ [(nsH w s).objs.size, l] := by
        intro z
        rcases List.mem_cons.mp z with z | z
        · exact Nat.ne_of_lt (Nat.lt_succ_self _) (z.trans z1)
        · exact Nat.ne_of_gt l0 (by simpa using z)
      have vals : ∀ (i : Nat) (v : Value), its[i]? = some v → ∃ k t, ns[i]? = some k ∧ v = .int k t := fun i v hv => by
        have li : i < ns.length := cnt ▸ (Array.getElem?_eq_some_iff.mp hv).1
        obtain ⟨t, e⟩ := PyProof.Rows.IntsAre.int_at hI i v (by rw [Array.getElem?_toList]; exact hv)
        refine ⟨ns[i], t, List.getElem?_eq_getElem li, e.trans ?_⟩; rw [List.getD_eq_getElem?_getD, List.getElem?_eq_getElem li]; rfl
      refine set_update_ints ((Walks.list hA3 _ l nl1 its).toS) s.heap.objs.size ns1 ns cnt few vals (its.size - 0) 0 _ (by omega) (Nat.zero_le _) ⟨⟨_, Heap.get?_push_size _ rfl, rfl, rfl⟩, li.push _⟩
        ⟨0, Nat.le_refl 0, setR_new_at (Heap.get?_push_of_some _ gS)⟩ fun s' c' hm hc' hS' => ?_
      refine wpAny_pure (wpAny_pure ⟨rfl, ?_⟩)
      exact fld_of (p := 0) (g := 0) z1 (fun b o e => Heap.get?_push_of_some _ e) cnt (fun a b e => e) hm hc' hS'
    · match r₂, h2 with
      | .error e, h2 => exact h2
      | .ok .next, h2 => exact h2.elim
      | .ok .brk, h2 => exact h2.elim
      | .ok .cont, h2 => exact h2.elim
      | .ok (.ret r), ⟨e1, f⟩ =>
        subst e1
        repeat (any_goals (first | assumption | wp_step))
        exact q _ f
end
section
variable {X : Cx}
def rSetIL (K : PySem.W.Frag) (w : World) : List V → Hp → VK → Prop := fun vs H Q => ∃ (l : Addr) (ns : List Int), vs = [V.ref l] ∧ SqL K H l (ns.map V.int) ∧ ns.length + 1 < scanBound ∧ ∀ p c, H p = none → c ≤ ns.length → Q (.ref p) (upd H p (SetO w p (fun j => decide (j ∈ ns)) c))
theorem cr_setL (hc : X.calm = true) : CallR X (.type "set") (rSetIL X.K X.w) := by
  intro pins s σ H vs us Q I r h
  obtain ⟨l, ns, rfl, hl, hb, q⟩ := h
  rw [Vals.ref1 r]
  obtain ⟨its, rv, pl, hz⟩ := I.list hl
  refine set_of_ints (P := X.prog) (w := X.w) ns (I.ok.hd hc) pl.isList (by simpa using intsAre_of rv) hb fun s₂ ⟨h', tk, n, e, R, hn, kp⟩ => ?_
  subst e
  exact ⟨.ref s.heap.objs.size, _, I.laid (t' := tk) kp (Nat.le_refl _) (setO_new R), rfl, q _ n (I.hok.fresh (Nat.le_refl _)) hn⟩
end
/-! ### the sorted members -/
theorem insI_mem (i : Int) : ∀ (l : List Int) (z : Int), z ∈ insI i l ↔ z = i ∨ z ∈ l
  | [], z => by simp [insI]
  | j :: r, z => by
    show z ∈ (match iLt i j with | true => i :: j :: r | false => match iEq i j with | true => j :: r | false => j :: insI i r) ↔ _
    cases q : iLt i j with
    | true => simp
    | false =>
      cases q2 : iEq i j with
      | true =>
        rw [iEq_iff] at q2
        have e : i = j := of_decide_eq_true q2
        subst e
        simp
      | false =>
        have ih := insI_mem i r z
        simp only [List.mem_cons, ih]
        exact ⟨fun h => by rcases h with h | h | h <;> simp [h], fun h => by rcases h with h | h | h <;> simp [h]⟩
theorem insI_up (i : Int) : ∀ (l : List Int), l.Pairwise (· < ·) → (insI i l).Pairwise (· < ·)
  | [], _ => by simp [insI]
  | j :: r, h => by
    obtain ⟨h1, h2⟩ := List.pairwise_cons.mp h
    show (match iLt i j with | true => i :: j :: r | false => match iEq i j with | true => j :: r | false => j :: insI i r).Pairwise (· < ·)
    cases q : iLt i j with
    | true =>
      rw [iLt_iff] at q
      have e : i < j := of_decide_eq_true q
      refine List.pairwise_cons.mpr ⟨fun z hz => ?_, h⟩
      rcases List.mem_cons.mp hz with hz | hz
      · omega
      · have := h1 z hz
        omega
    | false =>
      cases q2 : iEq i j with
      | true => exact h
      | false =>
        rw [iLt_iff] at q
        rw [iEq_iff] at q2
        have e1 : ¬ i < j := of_decide_eq_false q
        have e2 : ¬ i = j := of_decide_eq_false q2
        refine List.pairwise_cons.mpr ⟨fun z hz => ?_, insI_up i r h2⟩
        rcases (insI_mem i r z).mp hz with hz | hz
        · omega
        · exact h1 z hz
theorem srtI_mem : ∀ (l : List Int) (z : Int), z ∈ srtI l ↔ z ∈ l
  | [], z => by simp [srtI]
  | i :: r, z => by
    show z ∈ insI i (srtI r) ↔ _
    rw [insI_mem, srtI_mem r z, List.mem_cons]
theorem srtI_up : ∀ (l : List Int), (srtI l).Pairwise (· < ·)
  | [] => List.Pairwise.nil
  | i :: r => insI_up i _ (srtI_up r)
theorem up_eq : ∀ {l m : List Int}, l.Pairwise (· < ·) → m.Pairwise (· < ·) → (∀ z, z ∈ l ↔ z ∈ m) → l = m
  | [], [], _, _, _ => rfl
  | [], y :: m, _, _, h => absurd ((h y).mpr (List.mem_cons_self ..)) (by simp)
  | x :: l, [], _, _, h => absurd ((h x).mp (List.mem_cons_self ..)) (by simp)
  | x :: l, y :: m, h1, h2, h => by
    obtain ⟨a1, a2⟩ := List.pairwise_cons.mp h1
    obtain ⟨b1, b2⟩ := List.pairwise_cons.mp h2
    have e : x = y := by
      rcases List.mem_cons.mp ((h x).mp (List.mem_cons_self ..)) with q | q
      · exact q
      · rcases List.mem_cons.mp ((h y).mpr (List.mem_cons_self ..)) with q2 | q2
        · exact q2.symm
        · have := a1 y q2
          have := b1 x q
          omega
    subst e
    rw [up_eq a2 b2 fun z => ⟨fun hz => ?_, fun hz => ?_⟩]
    · rcases List.mem_cons.mp ((h z).mp (List.mem_cons_of_mem _ hz)) with q | q
      · have := a1 z hz
        omega
      · exact q
    · rcases List.mem_cons.mp ((h z).mpr (List.mem_cons_of_mem _ hz)) with q | q
      · have := b1 z hz
        omega
      · exact q
theorem rps_ints {F : Hp} : ∀ (ns : List Int), Rps F (ns.map V.int) (mkIs ns)
  | [] => .nil
  | n :: r => .cons (.int n) (rps_ints r)
theorem few_le {α : Type} : ∀ {l : List α} {n : Nat}, few l n = true → l.length ≤ n
  | [], _, _ => Nat.zero_le _
  | _ :: _, 0, h => (Bool.false_ne_true h).elim
  | _ :: r, n + 1, h => Nat.succ_le_succ (few_le (l := r) h)
theorem srtset_ex {x : Val} {P : RV → Prop} (p : (srtsetV x).Post P) : ∃ l is, x = .d (.list l) ∧ ints? l = some is ∧ l.length ≤ 60 ∧ P (.o (.d (.list (mkIs (srtI is))))) := by
  unfold srtsetV at p
  split at p
  · rename_i l
    split at p
    · rename_i is h1 h2
      exact ⟨l, is, rfl, h1, few_le h2, p⟩
    · exact p.elim
  · exact p.elim
theorem indexL_spec {d : D} (hd : okD 8 d = true) : ∀ (l : List D) (b n : Nat), okDs 8 l = true → indexL d l b = some n →
    ∃ j z, n = b + j ∧ l[j]? = some z ∧ PyData.eqv z d = true ∧ ∀ (m : Nat) (z' : D), m < j → l[m]? = some z' → PyData.eqv z' d = false
  | [], _, _, _, h => by cases h
  | y :: r, b, n, ho, h => by
    have ho : (match okD 8 y with | true => okDs 8 r | false => false) = true := ho
    cases hy : okD 8 y with
    | false => rw [hy] at ho; cases ho
    | true =>
      rw [hy] at ho
      have ho : okDs 8 r = true := ho
      have e := eqD_eqv y d 8 hy hd
      have h : (match eqD y d with | true => some b | false => indexL d r (b + 1)) = some n := h
      cases q : eqD y d with
      | true =>
        rw [q] at h
        cases h
        exact ⟨0, y, rfl, rfl, by rw [← e, q], fun m _ hm => absurd hm (Nat.not_lt_zero m)⟩
      | false =>
        rw [q] at h
        obtain ⟨j, z, e1, e2, e3, e4⟩ := indexL_spec hd r (b + 1) n ho h
        refine ⟨j + 1, z, by omega, e2, e3, fun m z' hm hz => ?_⟩
        cases m with
        | zero =>
          have hz : some y = some z' := hz
          cases hz
          rw [← e, q]
        | succ m => exact e4 m z' (Nat.lt_of_succ_lt_succ hm) hz
theorem index_ex {x : Val} {d : D} {P : RV → Prop} (p : (indexV x d).Post P) : ∃ l n, x = .d (.list l) ∧ okDs 8 l = true ∧ okD 8 d = true ∧ indexL d l 0 = some n ∧ P (.v (.d (.int n))) := by
  unfold indexV at p
  split at p
  · rename_i l
    split at p
    · rename_i n h1 h2 h3
      exact ⟨l, n, rfl, h1, h2, h3, p⟩
    · exact p.elim
  · exact p.elim
section
variable {c : Cf} {cf : Nat → List Val → R RV} {k : Nat} {cc : CC} {X : Cx}
theorem se_srtset {a : Ex} (ha : SE c cf k a) : SE c cf k (.srtset a) := fun cc X G e h dr H0 => by
  unfold chkE at h
  split at h
  · rename_i x p y py z p1 p2
    obtain ⟨h1, h6⟩ := and2 h
    obtain ⟨h1, h5⟩ := and2 h1
    obtain ⟨h1, h4⟩ := and2 h1
    obtain ⟨h1, h3⟩ := and2 h1
    obtain ⟨h1, h2⟩ := and2 h1
    have hx : x = ("sorted" : Str) := by simpa using h1
    have hy : y = ("set" : Str) := by simpa using h3
    subst hx hy
    have hin := pe_callTy (p := py) (pos := p1) (cr_setL G.calm) (G.gls h4).1 (G.blt _ (by decide)) (by decide +kernel) (one_arg' h5 (ha cc X G z h6 dr H0)) (dbg_ne (G.gls h4).2).2.2 (dbg_ne (G.gls h4).2).1 (starE h5) rfl
    refine (pe_callB (cr_sortedSet G.calm) (G.gls h2).1 (G.blt _ (by decide)) (by decide +kernel) (one_arg' rfl hin) (dbg_ne (G.gls h2).2).2.2 (dbg_ne (G.gls h2).2).1 rfl rfl).imp fun σ H Q ⟨F, e, st, p⟩ => ?_
    refine rdE st p fun F1 H1 v x g1 st1 o1 p => ?_
    obtain ⟨l, is, e1, hi, hl, p⟩ := srtset_ex p
    rw [e1] at o1
    obtain ⟨q, xs, rfl, hs, r1⟩ := o1.list st1
    have ex := ints_rps r1 hi
    subst ex
    have hn : is.length ≤ 60 := by
      have := dps_len r1
      rw [List.length_map] at this
      omega
    refine ⟨q, is, rfl, .inl (.inl hs), Nat.lt_of_le_of_lt (Nat.succ_le_succ hn) (by decide), fun p1 n hp1 hn1 => ?_⟩
    refine ⟨p1, _, n, rfl, upd_same, by omega, fun ns p2 up mem _ hp2 => ?_⟩
    have e2 : ns = srtI is := up_eq up (srtI_up is) fun z => by
      rw [mem, srtI_mem]
      simp
    subst e2
    obtain ⟨st2, g2⟩ := st1.newO (o := SetO X.w p1 (fun j => decide (j ∈ is)) n) hp1
    obtain ⟨st3, g3, r3⟩ := st2.newL hp2 (rps_ints (F := F1) (srtI is))
    exact p F1 _ (.ref p2) (g1.trans (g2.trans g3)) st3 (r3.back (g1.trans g2).ext)
  · cases h
theorem mBase_eq {z : Expr} (h : mBase z = true) (env : PySem.Env) : attributeBase z "index" env (eval z env) = eval z env := by
  unfold mBase at h
  split at h
  · rfl
  · rfl
  · cases h
theorem se_index {a b : Ex} (ha : SE c cf k a) (hb : SE c cf k b) : SE c cf k (.index a b) := fun cc X G e h dr H0 => by
  unfold chkE at h
  split at h
  · rename_i z y ap x cp
    obtain ⟨h1, h6⟩ := and2 h
    obtain ⟨h1, h5⟩ := and2 h1
    obtain ⟨h1, h4⟩ := and2 h1
    obtain ⟨h1, h3⟩ := and2 h1
    obtain ⟨h1, h2⟩ := and2 h1
    have hy : y = ("index" : Str) := by simpa using h1
    subst hy
    have hA := one_arg' h2 (hb cc X G x h6 dr H0)
    have hst : starEach [x] X.env = [(false, eval x X.env)] := starE h2
    refine (pe_bm PySem.F.plainAttrs_list PySem.F.slot_list_index PySem.F.type_list_index (mt_indexD (by have := G.hu; omega)) (ha cc X G z h5 dr H0) hA (mBase_eq h4 _) (by rw [hst]; rfl) h3 hst rfl).imp fun σ H Q ⟨F, e, st, p⟩ => ?_
    refine rdE st p fun F1 H1 v y g1 st1 o1 p => ?_
    obtain ⟨l, e1⟩ : ∃ l, y.rd = .d (.list l) := by
      obtain ⟨r, p⟩ := (R.post_bind p).ex
      obtain ⟨d, p⟩ := (R.post_bind p).ex
      obtain ⟨l, _, h, _⟩ := index_ex p
      exact ⟨l, h⟩
    rw [e1] at o1 p
    obtain ⟨q, xs, rfl, hs, r1⟩ := o1.list st1
    refine ⟨.inl ⟨rfl, xs, .inl (.inl hs)⟩, ?_⟩
    refine rdE st1 p fun F2 H2 w z g2 st2 o2 p => ?_
    obtain ⟨d, rd, _, p⟩ := dat_val st2 o2 p
    obtain ⟨l', n, e2, k1, k2, k3, p⟩ := index_ex p
    cases e2
    obtain ⟨j, zz, e3, e4, e5, e6⟩ := indexL_spec k2 l 0 n k1 k3
    obtain ⟨q', xs', eq, hs', r1'⟩ := (o1.mono g2.le).list st2
    cases eq
    have e3 : n = j := by omega
    subst e3
    exact ⟨q, w, d, l, n, zz, rfl, rfl, .lst (.inl (.inl hs')) (Rps.dp _ _ (dps_mono st2.le _ _ r1')), Rp.dp _ _ rd, (okDs_shaped k1).1, okD_shaped k2, e4, e5, e6, p F2 H2 (.int n) (g1.trans g2) st2 (.int _)⟩
  · cases h
theorem rngD_get : ∀ (n : Nat) (lo : Int) (i : Nat) (d : D), (rngDown lo n)[i]? = some d → i < n ∧ d = .int (lo + i * (-1))
  | 0, _, _, _, h => by simp [rngDown] at h
  | n + 1, lo, 0, d, h => by
    simp [rngDown] at h
    subst h
    exact ⟨Nat.zero_lt_succ _, by simp⟩
  | n + 1, lo, i + 1, d, h => by
    obtain ⟨h1, h2⟩ := rngD_get n (lo - 1) i d (by simpa [rngDown] using h)
    refine ⟨Nat.succ_lt_succ h1, ?_⟩
    rw [h2]
    congr 1
    omega
theorem rngD_len : ∀ (n : Nat) (lo : Int), (rngDown lo n).length = n
  | 0, _ => rfl
  | n + 1, lo => congrArg Nat.succ (rngD_len n (lo - 1))
theorem walk_down {F : Hp} (lo : Int) (n : Nat) : Walk F (Itc lo (-1) n) (rngDown lo n) := fun i H _ => ⟨fun d hd => by
    obtain ⟨h1, h2⟩ := rngD_get n lo i d hd
    refine ⟨h1, fun v H' ⟨e1, e2⟩ => ?_⟩
    rw [e2, h2]
    exact .inl ⟨e1, .int _⟩, fun e => by
    rw [rngD_len] at e
    exact Nat.le_of_eq e⟩
theorem si_irng3 {a b : Ex} (ha : SE c cf k a) (hb : SE c cf k b) : SI c cf k (.irng3 a b) := fun cc X G t e h dr H0 => by
  unfold chkI at h
  split at h
  · rename_i x p y z i j1 j2 j3 pos
    obtain ⟨h1, h7⟩ := and2 h
    obtain ⟨h1, h6⟩ := and2 h1
    obtain ⟨h1, h5⟩ := and2 h1
    obtain ⟨h1, h4⟩ := and2 h1
    obtain ⟨h1, h3⟩ := and2 h1
    obtain ⟨h1, h2⟩ := and2 h1
    have hx : x = ("range" : Str) := by simpa using h1
    subst hx
    rw [iEq_iff] at h5
    have h5 : i = 1 := of_decide_eq_true h5
    subst h5
    have hA : PA X [y, z, .UnaryOp .USub (.Constant (.int 1) j1 j2) j3] _ := pa_cons (ha cc X G y h6 dr H0) (two_args h4 rfl (hb cc X G z h7 dr H0) (pe_un un_neg pe_int)) (starE h3)
    refine (pi_range3 (G.gls h2).1 (G.blt _ (by decide)) hA (by rw [starE h3, starE h4]) (by rw [starE h4]; rfl)).imp fun σ H R' ⟨F, e, st, p⟩ => ?_
    refine rdE st p fun F1 H1 v x g1 st1 o1 p => rdE st1 p fun F2 H2 w y g2 st2 o2 p => ?_
    obtain ⟨i, e1, p⟩ := int_ex p
    obtain ⟨j, e2, p⟩ := int_ex p
    rw [e1] at o1
    rw [e2] at o2
    obtain ⟨l1, l2, l3, l4, p⟩ := small2_ex p
    refine ⟨1, rfl, i, j, -1, (i - j).toNat, by rw [o1.int st1, o2.int st2], RgC.neg (by omega) (by omega) (by omega) (by omega), p F2 H2 _ (g1.trans g2) st2 ?_⟩
    rw [natOf_toNat]
    exact walk_down i _
  · cases h
end
end Ev

/-! Dicts with int keys. -/
namespace Ev
open PySem PySem.Spec PyProof.Rows L2
section
variable {F : Hp}
theorem krep_len : ∀ {kvs : List (Key × V)} {l : List (Int × D)}, KRep F kvs l → kvs.length = l.length
  | _, _, .nil => rfl
  | _, _, .cons _ h => congrArg Nat.succ (krep_len h)
theorem inl_ne {a b : Int} (h : iEq a b = false) : ¬ (Sum.inl a : Key) = Sum.inl b := fun z => by
  cases z
  rw [iEq_iff, decide_eq_true rfl] at h
  cases h
theorem inl_eq {a b : Int} (h : iEq a b = true) : a = b := by
  rw [iEq_iff] at h
  exact of_decide_eq_true h
theorem look_I {x : Int} : ∀ {kvs : List (Key × V)} {l : List (Int × D)}, KRep F kvs l → ∀ {d : D}, lookI l x = some d → ∃ v, valV kvs (Sum.inl x) = some v ∧ Rp F v d
  | _, _, .nil, _, h => by cases h
  | _, _, .cons (k := k) (v := v) (d := d0) (kvs := kvs) (l := l) h1 h2, d, h => by
    have h : (match iEq k x with | true => some d0 | false => lookI l x) = some d := h
    cases q : iEq k x with
    | true =>
      rw [q] at h
      cases h
      cases inl_eq q
      exact ⟨v, by simp [valV], h1⟩
    | false =>
      rw [q] at h
      obtain ⟨w, e1, e2⟩ := look_I h2 h
      refine ⟨w, ?_, e2⟩
      rw [← e1]
      simp [valV, List.find?_cons, inl_ne q]
theorem has_I {x : Int} : ∀ {kvs : List (Key × V)} {l : List (Int × D)}, KRep F kvs l → (kvs.any fun kv => decide (kv.1 = (Sum.inl x : Key))) = hasI l x
  | _, _, .nil => rfl
  | _, _, .cons (k := k) (kvs := kvs) (l := l) h1 h2 => by
    show (decide ((Sum.inl k : Key) = Sum.inl x) || kvs.any fun kv => decide (kv.1 = (Sum.inl x : Key))) = (match iEq k x with | true => true | false => hasI l x)
    cases q : iEq k x with
    | true =>
      cases inl_eq q
      simp
    | false =>
      rw [decide_eq_false (inl_ne q), has_I h2]
      rfl
theorem swap_I {x : Int} {v : V} {d : D} (hv : Rp F v d) : ∀ {kvs : List (Key × V)} {l : List (Int × D)}, KRep F kvs l → KRep F (kvs.map fun kv => if kv.1 = (Sum.inl x : Key) then (kv.1, v) else kv) (swapI l x d)
  | _, _, .nil => .nil
  | _, _, .cons (k := k) (v := v0) (d := d0) (kvs := kvs) (l := l) h1 h2 => by
    have ih := swap_I (x := x) hv h2
    show KRep F ((if (Sum.inl k : Key) = Sum.inl x then ((Sum.inl k : Key), v) else (Sum.inl k, v0)) :: kvs.map fun kv => if kv.1 = (Sum.inl x : Key) then (kv.1, v) else kv) (match iEq k x with | true => (k, d) :: swapI l x d | false => (k, d0) :: swapI l x d)
    cases q : iEq k x with
    | true =>
      cases inl_eq q
      rw [if_pos rfl]
      exact .cons hv ih
    | false =>
      rw [if_neg (inl_ne q)]
      exact .cons h1 ih
theorem app_I {x : Int} {v : V} {d : D} (hv : Rp F v d) : ∀ {kvs : List (Key × V)} {l : List (Int × D)}, KRep F kvs l → KRep F (kvs ++ [(Sum.inl x, v)]) (l ++ [(x, d)])
  | _, _, .nil => .cons hv .nil
  | _, _, .cons h1 h2 => .cons h1 (app_I hv h2)
theorem put_I {x : Int} {v : V} {d : D} (hv : Rp F v d) {kvs : List (Key × V)} {l : List (Int × D)} (h : KRep F kvs l) : KRep F (putK kvs (Sum.inl x) v) (putI l x d) := by
  unfold putK putI
  rw [has_I h]
  cases hasI l x with
  | true =>
    rw [if_pos rfl]
    exact swap_I hv h
  | false =>
    rw [if_neg Bool.false_ne_true]
    exact app_I hv h
theorem keys_I : ∀ {kvs : List (Key × V)} {l : List (Int × D)}, KRep F kvs l → Rps F (kvs.map fun kv => kV kv.1) (keysI l)
  | _, _, .nil => .nil
  | _, _, .cons h1 h2 => .cons (.int _) (keys_I h2)
end
section
variable {c : Cf} {cf : Nat → List Val → R RV} {k : Nat} {cc : CC} {X : Cx}
theorem kd_ex {x : Val} {α : Type} {f : List (Int × D) → R α} {P : α → Prop} (p : ((kdV x).bind f).Post P) : ∃ l, x = .kd l ∧ (f l).Post P := by
  cases x with
  | kd l => exact ⟨l, rfl, p⟩
  | dct l => exact p.elim
  | d x => exact p.elim
  | row => exact p.elim
theorem se_knew : SE c cf k .knew := fun cc X G e h dr H0 => by
  unfold chkE at h
  split at h
  · refine pe_dnewK.imp fun σ H Q ⟨F, e, st, p⟩ q hq => ?_
    exact p F (upd H q (.dK [])) (.ref q) (st.newO hq).2 (st.newO hq).1 ⟨q, rfl, st.fnone hq, st.nspc hq, hq, ⟨[], upd_same, .nil⟩, st.ownlt hq⟩
  · cases h
theorem se_kix {a b : Ex} (ha : SE c cf k a) (hb : SE c cf k b) : SE c cf k (.kix a b) := fun cc X G e h dr H0 => by
  unfold chkE at h
  split at h
  · rename_i x y pos
    obtain ⟨h1, h3⟩ := and2 h
    obtain ⟨h1, h2⟩ := and2 h1
    refine (pe_dget (by have := G.hu; omega) (ha cc X G x h2 dr H0) (hb cc X G y h3 dr H0) (nosl h1)).imp fun σ H Q ⟨F, e, st, p⟩ => ?_
    refine rdE st p fun F1 H1 v x g1 st1 o1 p => ?_
    obtain ⟨l, e1, p⟩ := kd_ex p
    rw [e1] at o1
    refine rdE st1 p fun F2 H2 w y g2 st2 o2 p => ?_
    obtain ⟨i, e2, p⟩ := int_ex p
    rw [e2] at o2
    have hw := o2.int st2
    have o1 := o1.mono g2.le
    obtain ⟨q, kvs, rfl, e3, kr⟩ := o1.kd st2
    have p : (match lookI l i with | some r => R.ok (RV.v (.d r)) | none => R.stuck).Post (Then c dr H0 F H e σ Q) := p
    cases z : lookI l i with
    | none => rw [z] at p; exact p.elim
    | some r =>
      rw [z] at p
      obtain ⟨u, l1, l2⟩ := look_I kr z
      refine ⟨q, u, rfl, ?_, p F2 H2 u (g1.trans g2) st2 l2⟩
      rw [hw, ← l1]
      exact DGet.k (k := Sum.inl i) e3
  · cases h
theorem kput_ex {e : Env} {i : Nat} {j : Int} {d : D} {P : Out → Prop} (p : (kputV e i j d).Post P) : ∃ l, slotAt e i = .o (.kd l) ∧ l.length ≤ lim ∧ P (.nx (setAt e i (.o (.kd (putI l j d))))) := by
  unfold kputV at p
  split at p
  · rename_i l hl
    obtain ⟨hz, p⟩ := few_ex p
    exact ⟨l, hl, hz, p⟩
  · exact p.elim
theorem ss_kput (i : Nat) {kx a : Ex} (hk : SE c cf k kx) (ha : SE c cf k a) : SS c cf k (.kput i kx a) := fun cc X G e h dr H0 F0 => by
  unfold chkS at h
  split at h
  · rename_i x p j p2 e pos
    obtain ⟨h1, h5⟩ := and2 h
    obtain ⟨h1, h4⟩ := and2 h1
    obtain ⟨h1, h3⟩ := and2 h1
    obtain ⟨h1, h2⟩ := and2 h1
    obtain ⟨v1, v2, v3⟩ := G.var (i := i) (x := x) h1
    refine (ps_dput (by have := G.hu; omega) (pe_var v1 v2 (dbg_ne v3).1 (dbg_ne v3).2.1) (hk cc X G j h4 dr H0) (ha cc X G e h5 dr H0) (sw_no h3 _ _ _)).imp fun D σ H ⟨F, e, st, g, p⟩ => ?_
    have p : ((dE cf a e).bind fun x => (fzD x).bind fun d => (dE cf kx e).bind fun y => (intV y.rd).bind fun j => kputV e i j d).Post (PostS c dr H0 F0 F D) := p
    refine fzdE st p fun F1 H1 v d g1 st1 r1 p => ?_
    obtain ⟨l, hl⟩ : ∃ l, slotAt e i = .o (.kd l) := by
      obtain ⟨r, p⟩ := (R.post_bind p).ex
      obtain ⟨j, p⟩ := (R.post_bind p).ex
      obtain ⟨l, h, _⟩ := kput_ex p
      exact ⟨l, h⟩
    obtain ⟨a0, e1, f1, ns, h0, kvs, e3, kr⟩ := st1.own i _ hl
    refine ⟨_, e1, ?_⟩
    refine rdE st1 p fun F2 H2 w y g2 st2 o2 p => ?_
    obtain ⟨jj, e5, p⟩ := int_ex p
    rw [e5] at o2
    have hw := o2.int st2
    obtain ⟨l', hl', hz, p⟩ := kput_ex p
    rw [hl] at hl'
    cases hl'
    have e4 : H2 a0 = some (.dK kvs) := g2.ext.at' a0 _ e3 ns (fun _ z => nomatch z)
    refine ⟨a0, upd H2 a0 (.dK (putK kvs (Sum.inl jj) v)), rfl, ?_, ?_⟩
    · rw [hw]
      exact DPut.k (k := Sum.inl jj) e4 (by have := lim_line; have := krep_len kr; omega)
    · have kr2 := krep_mono g2.le kr
      have st3 := st2.putH (x' := .kd (putI l jj d)) hl e1 ⟨_, upd_same, put_I (dp_mono g2.le _ _ r1) kr2⟩
      exact p F2 _ σ (g1.le.trans g2.le) st3 ⟨(g.le.trans g1.le).trans g2.le, st3.ext, ((g.trans g1).trans g2).nw⟩
  · cases h
theorem se_klist {a : Ex} (ha : SE c cf k a) : SE c cf k (.klist a) := fun cc X G e h dr H0 => by
  unfold chkE at h
  split at h
  · rename_i x p z pos
    obtain ⟨h1, h4⟩ := and2 h
    obtain ⟨h1, h3⟩ := and2 h1
    obtain ⟨h1, h2⟩ := and2 h1
    have hx : x = ("list" : Str) := by simpa using h1
    subst hx
    refine (pe_callTy (call_list_dK G.calm) (G.gls h2).1 (G.blt _ (by decide)) (by decide +kernel) (one_arg' h3 (ha cc X G z h4 dr H0)) (dbg_ne (G.gls h2).2).2.2 (dbg_ne (G.gls h2).2).1 (starE h3) rfl).imp fun σ H Q ⟨F, e, st, p⟩ => ?_
    refine rdE st p fun F1 H1 v x g1 st1 o1 p => ?_
    obtain ⟨l, e1, p⟩ := kd_ex p
    rw [e1] at o1
    obtain ⟨q, kvs, rfl, e3, kr⟩ := o1.kd st1
    refine ⟨q, kvs, rfl, e3, fun p2 hp2 => ?_⟩
    obtain ⟨st2, g2, r2⟩ := st1.newL hp2 (keys_I kr)
    exact p F1 _ (.ref p2) (g1.trans g2) st2 (r2.back g1.ext)
  · cases h
theorem mBase_eqC {z : Expr} (h : mBase z = true) (env : PySem.Env) : attributeBase z "count" env (eval z env) = eval z env := by
  unfold mBase at h
  split at h
  · rfl
  · rfl
  · cases h
theorem cnt_eq {k : Int} : ∀ (is : List Int), cntN k is = is.count k
  | [] => rfl
  | i :: r => by
    show (match iEq i k with | true => cntN k r + 1 | false => cntN k r) = _
    rw [List.count_cons, cnt_eq r, iEq_iff]
    by_cases h : i = k
    · rw [decide_eq_true h, if_pos (by rw [h]; exact beq_self_eq_true k)]
    · rw [decide_eq_false h, if_neg (fun z => h (eq_of_beq z))]
      rfl
theorem cnt_ex {x : Val} {k : Int} {P : RV → Prop} (p : (cntV x k).Post P) : ∃ l is, x = .d (.list l) ∧ ints? l = some is ∧ P (.v (.d (.int (.ofNat (cntN k is))))) := by
  unfold cntV at p
  split at p
  · rename_i l
    split at p
    · rename_i is h
      exact ⟨l, is, rfl, h, p⟩
    · exact p.elim
  · exact p.elim
theorem se_cnt {a b : Ex} (ha : SE c cf k a) (hb : SE c cf k b) : SE c cf k (.cnt a b) := fun cc X G e h dr H0 => by
  unfold chkE at h
  split at h
  · rename_i z y ap x cp
    obtain ⟨h1, h6⟩ := and2 h
    obtain ⟨h1, h5⟩ := and2 h1
    obtain ⟨h1, h4⟩ := and2 h1
    obtain ⟨h1, h3⟩ := and2 h1
    obtain ⟨h1, h2⟩ := and2 h1
    have hy : y = ("count" : Str) := by simpa using h1
    subst hy
    have hA := one_arg' h2 (hb cc X G x h6 dr H0)
    have hst : starEach [x] X.env = [(false, eval x X.env)] := starE h2
    refine (pe_bm PySem.F.plainAttrs_list PySem.F.slot_list_count PySem.F.type_list_count mt_lcount (ha cc X G z h5 dr H0) hA (mBase_eqC h4 _) (by rw [hst]; rfl) h3 hst rfl).imp fun σ H Q ⟨F, e, st, p⟩ => ?_
    refine rdE st p fun F1 H1 v y g1 st1 o1 p => ?_
    obtain ⟨l, e1⟩ : ∃ l, y.rd = .d (.list l) := by
      obtain ⟨r, p⟩ := (R.post_bind p).ex
      obtain ⟨d, p⟩ := (R.post_bind p).ex
      obtain ⟨l, _, h, _⟩ := cnt_ex p
      exact ⟨l, h⟩
    rw [e1] at o1 p
    obtain ⟨q, xs, rfl, hs, r1⟩ := o1.list st1
    refine ⟨.inl ⟨rfl, xs, .inl (.inl hs)⟩, ?_⟩
    refine rdE st1 p fun F2 H2 w z g2 st2 o2 p => ?_
    obtain ⟨i, ei, p⟩ := int_ex p
    rw [ei] at o2
    have hw := o2.int st2
    obtain ⟨l', is, e2, k1, p⟩ := cnt_ex p
    cases e2
    obtain ⟨q', xs', eq, hs', r1'⟩ := (o1.mono g2.le).list st2
    cases eq
    have ex := ints_rps r1' k1
    subst ex
    refine ⟨q, is, i, rfl, by rw [hw], .inl (.inl hs'), ?_⟩
    rw [cnt_eq] at p
    exact p F2 H2 (.int _) (g1.trans g2) st2 (.int _)
  · cases h
end
end Ev

/-! min and max of pairs of an int and nested tuples; min(d.values()). -/
namespace Ev
open PySem PySem.Spec PyProof.Rows L2
/-! ### pairs in order -/
theorem pairU_ex {x : D} (h : pairU x = true) : ∃ i g, x = .tuple [.int i, g] ∧ unif 2 g = true := by
  unfold pairU at h
  split at h
  · split at h
    · split at h
      · cases h
      · split at h
        · exact ⟨_, _, rfl, h⟩
        · cases h
    · cases h
  · cases h
theorem allPU_mem : ∀ {l : List D}, allPU l = true → ∀ x ∈ l, pairU x = true
  | y :: r, h, x, hx => by
    have h : (match pairU y with | true => allPU r | false => false) = true := h
    cases z : pairU y with
    | false => rw [z] at h; cases h
    | true =>
      rw [z] at h
      rcases List.mem_cons.mp hx with e | hx
      · rw [e]; exact z
      · exact allPU_mem h x hx
theorem u1 {g : D} (h : unif 2 g = true) : unifs 2 [g] = true := unifs_cons.mpr ⟨h, rfl⟩
theorem pair_alike {x y : D} (hx : pairU x = true) (hy : pairU y = true) : W.alike x y = true := by
  obtain ⟨i, g, rfl, h1⟩ := pairU_ex hx
  obtain ⟨j, h, rfl, h2⟩ := pairU_ex hy
  have e1 : W.alike (.int i) (.int j) = true := unif_alike _ _ 0 rfl rfl
  have e2 : W.alikeAll [g] [h] = true := unifs_alike _ _ 2 (u1 h1) (u1 h2)
  unfold W.alike W.alikeAll
  rw [e1, e2]
  simp
theorem pair_lt {x y : D} (hx : pairU x = true) (hy : pairU y = true) : ltD x y = W.dataLt x y := by
  obtain ⟨i, g, rfl, h1⟩ := pairU_ex hx
  obtain ⟨j, h, rfl, h2⟩ := pairU_ex hy
  have e1 : W.alike (.int i) (.int j) = true := unif_alike _ _ 0 rfl rfl
  show (match eqD (.int i) (.int j) with | true => ltDs [g] [h] | false => ltD (.int i) (.int j)) = _
  rw [W.dataLt_tuple, W.dataLt_cons e1, eqD_eqv (.int i) (.int j) 0 rfl rfl]
  cases PyData.eqv (.int i) (.int j) with
  | true => simpa using ltDs_data [g] [h] 2 (u1 h1) (u1 h2)
  | false => simpa using ltD_data (.int i) (.int j) 0 rfl rfl
theorem pair_dep {x : D} (hx : pairU x = true) : x.depth ≤ 3 := by
  obtain ⟨i, g, rfl, h1⟩ := pairU_ex hx
  refine (okD_lay _ 3 ?_).2
  show (match okD 2 g with | true => true | false => false) = true
  rw [unif_ok g 2 h1]
theorem depth_all {n : Nat} : ∀ {l : List D}, (∀ x ∈ l, x.depth ≤ n) → PyData.depthAll l ≤ n
  | [], _ => Nat.zero_le _
  | x :: r, h => by
    have h1 := h x (List.mem_cons_self ..)
    have h2 := depth_all (l := r) fun y hy => h y (List.mem_cons_of_mem _ hy)
    unfold PyData.depthAll
    omega
theorem best_min : ∀ (r : List D) (x : D), allPU (x :: r) = true → bestP true x r = W.minD x r
  | [], x, _ => rfl
  | y :: r, x, h => by
    have hx := allPU_mem h x (List.mem_cons_self ..)
    have hy := allPU_mem h y (List.mem_cons_of_mem _ (List.mem_cons_self ..))
    have hr : allPU r = true := by
      have h : (match pairU x with | true => (match pairU y with | true => allPU r | false => false) | false => false) = true := h
      rw [hx, hy] at h
      exact h
    have e1 : allPU (y :: r) = true := by
      show (match pairU y with | true => allPU r | false => false) = true
      rw [hy]; exact hr
    have e2 : allPU (x :: r) = true := by
      show (match pairU x with | true => allPU r | false => false) = true
      rw [hx]; exact hr
    show (match ltD y x with | true => bestP true y r | false => bestP true x r) = List.foldl _ (if W.dataLt y x then y else x) r
    rw [pair_lt hy hx]
    cases W.dataLt y x with
    | true => exact best_min r y e1
    | false => exact best_min r x e2
theorem best_max : ∀ (r : List D) (x : D), allPU (x :: r) = true → bestP false x r = W.maxD x r
  | [], x, _ => rfl
  | y :: r, x, h => by
    have hx := allPU_mem h x (List.mem_cons_self ..)
    have hy := allPU_mem h y (List.mem_cons_of_mem _ (List.mem_cons_self ..))
    have hr : allPU r = true := by
      have h : (match pairU x with | true => (match pairU y with | true => allPU r | false => false) | false => false) = true := h
      rw [hx, hy] at h
      exact h
    have e1 : allPU (y :: r) = true := by
      show (match pairU y with | true => allPU r | false => false) = true
      rw [hy]; exact hr
    have e2 : allPU (x :: r) = true := by
      show (match pairU x with | true => allPU r | false => false) = true
      rw [hx]; exact hr
    show (match ltD x y with | true => bestP false y r | false => bestP false x r) = List.foldl _ (if W.dataLt x y then y else x) r
    rw [pair_lt hx hy]
    cases W.dataLt x y with
    | true => exact best_max r y e1
    | false => exact best_max r x e2
section
variable {X : Cx} {c : Cf} {cf : Nat → List Val → R RV} {k : Nat} {dr : Option Addr} {H0 : Hp}
theorem reads_list {h : Heap} : ∀ {its : List Value} {ds : List D}, W.EachIs (fun v d => ∃ as, Reads h v d as) its ds → ∃ bs, ReadsAll h its ds bs
  | _, _, .nil => ⟨_, .nil⟩
  | _, _, .cons ⟨as, r⟩ t => by
    obtain ⟨bs, q⟩ := reads_list t
    exact ⟨_, .cons r q⟩
theorem each_at {R : Value → D → Prop} : ∀ {its : List Value} {ds : List D} {i : Nat} {v : Value}, W.EachIs R its ds → its[i]? = some v → ∃ d, R v d
  | _, _, i, v, .nil, e => by simp at e
  | _, _, 0, v, .cons r t, e => by
    cases (Option.some.inj e)
    exact ⟨_, r⟩
  | _, _, i + 1, v, .cons r t, e => each_at t (by simpa using e)
theorem mnp_ok (hc : X.calm = true) (hu : X.A.units + 100 < cLine) (least : Bool) : CallR X (.builtin (match least with | true => "min" | false => "max")) (rC1 c dr H0 (mnpV least)) := by
  intro pins s σ' H xs us Q I r h
  obtain ⟨x, rfl, F, e, σ, a, st, oa, p⟩ := h
  unfold mnpV at p
  split at p
  · rename_i l
    obtain ⟨a1, xs, rfl, h1, r1⟩ := oa.list st
    rw [Vals.ref1 r]
    cases hP : allPU l with
    | false => rw [hP] at p; exact p.elim
    | true =>
      rw [hP] at p
      cases l with
      | nil => exact p.elim
      | cons d0 ds =>
        obtain ⟨hz, its, n, rv, eo⟩ := (show ObjOk X.prog X.w H s.heap a1 (.lst xs) from I.hok a1 _ h1)
        have hl : s.heap.IsList a1 its.toArray := ⟨_, eo, rfl, _, rfl⟩
        have hE := each_of rv r1
        obtain ⟨bs, hr⟩ := reads_list (each_reads I st.le hE)
        have al : W.AlikeAll (d0 :: ds) := ⟨fun x hx y hy => pair_alike (allPU_mem hP x hx) (allPU_mem hP y hy), fun x hx e => by
          have z := allPU_mem hP x hx
          rw [e] at z
          cases z⟩
        have hd : X.A.units + 1 + PyData.depthAll (d0 :: ds) < cLine := by
          have := depth_all (n := 3) fun x hx => pair_dep (allPU_mem hP x hx)
          omega
        have fin : ∀ (i : Nat) (v : Value) (h' : Heap) (tk : _) (as : List Addr) (best : D), its.toArray[i]? = some v → Reads h' v best as → (∀ b o, s.heap.get? b = some o → h'.get? b = some o) → Then c dr H0 F H e σ Q (.v (.d best)) → EP X pins σ' Q v { s with heap := h', toks := tk } := fun i v h' tk as best hv hrd hk p => by
          obtain ⟨d, x, rx, rp⟩ := each_at (i := i) hE (by simpa using hv)
          obtain ⟨as', hrd'⟩ := Dp.reads I _ _ _ (Rp.dp _ _ (dp_mono st.le _ _ rp)) rx
          have ed := (reads_det (fun b o e _ => hk b o e) hrd' hrd).1
          rw [ed] at p
          exact ⟨x, H, I.kept (t' := tk) hk, rx, Then.v (x := .d d) st rp p⟩
        cases least with
        | true =>
          have p : Then c dr H0 F H e σ Q (.v (.d (bestP true d0 ds))) := p
          rw [best_min ds d0 hP] at p
          exact W.min_list_data (I.ok.hd hc) hl hr al hd fun i v h' tk as hv hrd hk => fin i v h' tk as _ hv hrd hk p
        | false =>
          have p : Then c dr H0 F H e σ Q (.v (.d (bestP false d0 ds))) := p
          rw [best_max ds d0 hP] at p
          exact W.max_list_data (I.ok.hd hc) hl hr al hd fun i v h' tk as hv hrd hk => fin i v h' tk as _ hv hrd hk p
  · exact p.elim
theorem se_mnp (least : Bool) {a : Ex} (ha : SE c cf k a) : SE c cf k (.mnp least a) := fun cc X G e h dr H0 => by
  unfold chkE at h
  split at h
  · rename_i x p y pos
    obtain ⟨h1, h4⟩ := and2 h
    obtain ⟨h1, h3⟩ := and2 h1
    obtain ⟨h1, h2⟩ := and2 h1
    obtain ⟨hg, hd⟩ := G.gls h2
    have hA := one_arg' h3 (ha cc X G y h4 dr H0)
    have fin : ∀ σ H Q, tE c dr H0 (dE cf (.mnp least a)) σ H Q → tCB (rC1 c dr H0 (mnpV least)) (tCons (tE c dr H0 (dE cf a)) tNil) σ H Q := fun σ H Q ⟨F, e, st, p⟩ =>
      rdE st p fun F1 H1 v x g1 st1 o1 p => ⟨v, rfl, F1, e, σ, _, st1, o1, p.mono fun r q => q.go g1⟩
    cases least with
    | true =>
      have hx : x = ("min" : Str) := by simpa using h1
      exact (pe_callB (mnp_ok (c := c) (dr := dr) (H0 := H0) G.calm G.hu true) hg (G.blt x (by rw [hx]; decide)) (by rw [hx]; decide +kernel) hA (dbg_ne hd).2.2 (dbg_ne hd).1 (starE h3) rfl).imp fin
    | false =>
      have hx : x = ("max" : Str) := by simpa using h1
      exact (pe_callB (mnp_ok (c := c) (dr := dr) (H0 := H0) G.calm G.hu false) hg (G.blt x (by rw [hx]; decide)) (by rw [hx]; decide +kernel) hA (dbg_ne hd).2.2 (dbg_ne hd).1 (starE h3) rfl).imp fin
  · cases h
/-! ### min(d.values()) -/
theorem ents_val {F : Hp} : ∀ {kvs : List (D × D)} {xs : List (NestedKey × Addr × Value)} {i : Nat} {x : NestedKey × Addr × Value}, Ents F kvs xs → xs[i]? = some x → ∃ d v, (valsD kvs)[i]? = some d ∧ RelV v x.2.2 ∧ Rp F v d
  | _, _, i, x, .nil, e => by simp at e
  | _, _, 0, x, .cons h1 h2 h3 h4 h5, e => by
    cases (Option.some.inj e)
    exact ⟨_, _, rfl, h3, h4⟩
  | _, _, i + 1, x, .cons h1 h2 h3 h4 h5, e => by
    obtain ⟨d, v, q1, q2, q3⟩ := ents_val (i := i) (x := x) h5 (by simpa using e)
    exact ⟨d, v, q1, q2, q3⟩
theorem vals_len : ∀ (kvs : List (D × D)), (valsD kvs).length = kvs.length
  | [] => rfl
  | _ :: r => congrArg Nat.succ (vals_len r)
theorem ints_map : ∀ {l : List D} {is : List Int}, ints? l = some is → l = is.map PyData.int
  | [], is, h => by cases h; rfl
  | .int i :: r, is, h => by
    have h : (match ints? r with | some l => some (i :: l) | none => none) = some is := h
    cases z : ints? r with
    | none => rw [z] at h; cases h
    | some q =>
      rw [z] at h
      cases h
      rw [ints_map z]
      rfl
  | .none :: _, _, h => by cases h
  | .bool _ :: _, _, h => by cases h
  | .str _ :: _, _, h => by cases h
  | .list _ :: _, _, h => by cases h
  | .tuple _ :: _, _, h => by cases h
  | .dict _ :: _, _, h => by cases h
def tMinvN (w : World) (td : TE) : TE := fun σ H Q => td σ H fun x H1 => ∃ F a ob kvs is, x = .ref a ∧ Le F H1 ∧ H1 a = some (dnO a ob) ∧ DN w F a ob kvs ∧ ints? (valsD kvs) = some is ∧ is ≠ [] ∧ ∀ m, m ∈ is → (∀ j ∈ is, m ≤ j) → Q (.int m) H1
theorem pe_minvN {o : Expr} {p pos apos mpos : Pos} {td : TE} (hc : X.calm = true) (hg : Gl X "min") (hm : X.mg "min" = none) (hd : PE X o td) (hb : attributeBase o "values" X.env (eval o X.env) = eval o X.env) (hl : (apos.endLine == mpos.line) = true)
    (hs : starEach [Expr.Call (.Attribute o "values" apos) [] [] mpos] X.env = [(false, eval (Expr.Call (.Attribute o "values" apos) [] [] mpos) X.env)]) : PE X (.Call (.Name "min" p) [.Call (.Attribute o "values" apos) [] [] mpos] [] pos) (tMinvN X.w td) := by
  refine ⟨fun pins s σ H Q I h => ?_⟩
  refine wpAny_Call_Name_kw (ld_blt I hg hm (u := .builtin "min") (by first | rfl | decide +kernel) ?_ (by decide +kernel) (by decide +kernel))
  rw [hs]
  refine PySem.callWith_builtin1 (wpAny_Call_method0_late hb hl (thn (hd.run pins s σ H _ I h) fun u s1 ⟨x, H1, I1, rx, Fq, a, ob, kvs, is, ex, le, e1, dn, hi, hne, q⟩ => ?_))
  subst ex
  obtain rfl : u = Value.ref a := rx
  have go := dn_get I1.hok e1
  obtain ⟨hsys, hex, es, ep, xs, hdt, hes, hnd, hsz, hE⟩ := dn
  refine ⟨"dict", "dict.values", PySem.F.plainAttrs_dict, PySem.F.slot_dict_values, PySem.F.type_dict_values, ⟨ob, go, hex.1⟩, fun b e => (by cases e; exact ⟨ob, go, hex.2.1⟩), Calls.callWith_builtin rfl (PySem.evalArgs_none ?_)⟩
  refine call_meetsIn PySem.F.slot_dict_values ⟨ob, go, hex.1⟩ PySem.F.entry_dict_values (PySem.F.args_dict_values_1 _) (meets_dict_values_raw a hsys) ⟨⟨es, ep, ob, go, hex, hdt⟩, ?_⟩
  have k1 : ∀ b u, s1.heap.get? b = some u → (s1.heap.push { cls := .type "dict_values", data := .fields #[.ref a] }).get? b = some u := fun b u e => Heap.get?_push_of_some _ e
  have raw : (s1.heap.push { cls := .type "dict_values", data := .fields #[.ref a] }).DictRaw a es ep := ⟨ob, k1 _ _ go, hex, hdt⟩
  have hlt : a < s1.heap.objs.size := Heap.lt_size go
  have hsz : (s1.heap.push { cls := .type "dict_values", data := .fields #[.ref a] }).objs.size = s1.heap.objs.size + 1 := Heap.size_push _ _
  have hn : es.size = is.length := by
    have e3 := congrArg List.length (ints_map hi)
    rw [vals_len, ents_len hE, List.length_map] at e3
    rw [← Array.length_toList, hes, List.length_map]
    exact e3
  have hval : ∀ (i : Nat) (v : Value), (∃ hi : i < es.size, v = es[i].val) → ∃ t, v = Value.int (is.getD i 0) t := fun i v ⟨hi', ev⟩ => by
    have e2 : es.toList[i]? = some es[i] := by rw [Array.getElem?_toList]; exact Array.getElem?_eq_getElem hi'
    rw [hes, List.getElem?_map] at e2
    obtain ⟨y, hy, e4⟩ := Option.map_eq_some_iff.mp e2
    obtain ⟨d, vv, d1, d2, d3⟩ := ents_val hE hy
    rw [ints_map hi, List.getElem?_map] at d1
    obtain ⟨j, hj, e5⟩ := Option.map_eq_some_iff.mp d1
    subst e5
    have d4 : vv = V.int j := by cases d3; rfl
    subst d4
    obtain ⟨t, e6⟩ := d2
    refine ⟨t, ?_⟩
    rw [ev, ← e4]
    show y.2.2 = _
    rw [e6, List.getD_eq_getElem?_getD, hj]
    rfl
  refine call_min_walk (wpAny_pyIter_values_raw (v := s1.heap.objs.size) (d := a) ⟨_, Heap.get?_push_size _ rfl, rfl, rfl⟩ raw ?_)
  refine ⟨_, _, _, _, _, _, _, rfl, Walks.rawValues (A := X.A.in1) (I.ok.hd hc) _ a (by rw [hsz]; exact Nat.ne_of_lt (Nat.lt_succ_of_lt hlt)) es ep,
    ⟨⟨_, Heap.get?_push_size _ rfl, rfl, rfl⟩, raw.at fun u e => Heap.get?_push_of_some _ e⟩, fun b hb => ?_, ?_, CmpOf.ints_lt (fun i => is.getD i 0) hval, fun v h' tk hP hk => ?_⟩
  · show b < ((s1.heap.push _).push _).objs.size
    rw [Heap.size_push, Heap.size_push]
    rw [hsz] at hb
    rcases List.mem_cons.mp hb with e | hb
    · exact e ▸ Nat.lt_succ_self _
    · exact (List.mem_singleton.mp hb) ▸ Nat.lt_succ_of_lt (Nat.lt_succ_of_lt hlt)
  · rw [hn]
    exact List.length_pos_iff.mpr hne
  · obtain ⟨t, rfl⟩ := hval _ v hP
    obtain ⟨b1, b2⟩ := argBest_lt (fun i => is.getD i 0) (es.size - 1)
    have hpos := List.length_pos_iff.mpr hne
    refine ⟨.int _, H1, I1.kept (t' := tk) fun b u e => hk b u (fun hmem => ?_) (Heap.get?_push_of_some _ (k1 b u e)), ⟨t, rfl⟩, q _ ?_ fun j hj => ?_⟩
    · have e1 := List.mem_singleton.mp hmem
      have e2 := Heap.lt_size e
      rw [hsz] at e1
      exact Nat.lt_irrefl _ (Nat.lt_trans (Nat.lt_succ_self _) (e1 ▸ e2))
    · have hb : argBest (fun i j => decide (is.getD i 0 < is.getD j 0)) (es.size - 1) < is.length := by omega
      rw [List.getD_eq_getElem?_getD, List.getElem?_eq_getElem hb]
      exact List.getElem_mem hb
    · obtain ⟨i, hi', e⟩ := List.mem_iff_getElem.mp hj
      have e2 : is.getD i 0 = j := by rw [List.getD_eq_getElem?_getD, List.getElem?_eq_getElem hi', ← e]; rfl
      rw [← e2]
      exact b2 i (by omega)
theorem mBase_eqV {z : Expr} (h : mBase z = true) (env : PySem.Env) : attributeBase z "values" env (eval z env) = eval z env := by
  unfold mBase at h
  split at h
  · rfl
  · rfl
  · cases h
theorem minv_ex {l : List (D × D)} {P : RV → Prop} (p : (minvV l).Post P) : ∃ i is, ints? (valsD l) = some (i :: is) ∧ P (.v (.d (.int (imin i is)))) := by
  unfold minvV at p
  split at p
  · rename_i i is h
    exact ⟨i, is, h, p⟩
  · exact p.elim
theorem se_minv {a : Ex} (ha : SE c cf k a) : SE c cf k (.minv a) := fun cc X G e h dr H0 => by
  unfold chkE at h
  split at h
  · rename_i x p z y ap cp pos
    obtain ⟨h1, h6⟩ := and2 h
    obtain ⟨h1, h5⟩ := and2 h1
    obtain ⟨h1, h4⟩ := and2 h1
    obtain ⟨h1, h3⟩ := and2 h1
    obtain ⟨h1, h2⟩ := and2 h1
    have hx : x = ("min" : Str) := by simpa using h1
    subst hx
    have hy : y = ("values" : Str) := by simpa using h3
    subst hy
    refine (pe_minvN G.calm (G.gls h2).1 (G.blt _ (by decide)) (ha cc X G z h6 dr H0) (mBase_eqV h5 _) h4 rfl).imp fun σ H Q ⟨F, e, st, p⟩ => ?_
    refine rdE st p fun F1 H1 v x g1 st1 o1 p => ?_
    obtain ⟨l, e1, p⟩ := dct_ex p
    rw [e1] at o1
    obtain ⟨a0, ob, rfl, e2, dn⟩ := o1.dct st1
    obtain ⟨i, is, e3, p⟩ := minv_ex p
    obtain ⟨m1, m2⟩ := imin_ok is i
    rw [← G.w] at dn
    refine ⟨F1, a0, ob, l, i :: is, rfl, st1.le, e2, dn, e3, (fun z => nomatch z), fun m hm hle => ?_⟩
    have em : imin i is = m := Int.le_antisymm (m2 _ hm) (hle _ m1)
    rw [em] at p
    exact p F1 H1 (.int _) g1 st1 (.int _)
  · cases h
end
end Ev

/-! sorted(set(xs)) of a tuple of pairs of small ints. -/
namespace Ev
open PySem PySem.Spec PyProof.Rows L2
section
variable {P : Program} {w : World} {A : Around} {E : Value → Shared → Prop} {s : Shared}
/-- filled with the tuples ks -/
abbrev FldT (P : Program) (w : World) (s : Shared) (ks : List (Addr × List Int)) (s₂ : Shared) : Prop := ∃ h' tk L es ep t, s₂ = { s with heap := h', toks := tk } ∧ SetTR P w h' s.heap.objs.size L es ep t ∧ Got ks ks.length L ∧ ∀ b o, s.heap.get? b = some o → h'.get? b = some o
theorem none_up {h : Heap} {b : Addr} (hb : h.objs.size ≤ b) : h.get? b = none := by
  cases q : h.get? b with
  | none => rfl
  | some o => exact absurd (Nat.lt_of_lt_of_le (Heap.lt_size q) hb) (Nat.lt_irrefl _)
theorem set_of_tups {l : Addr} {its : Array Value} (ks : List (Addr × List Int)) {Q : Value → Shared → Prop} (hA : A.handled = none) (lst : s.heap.IsTuple l its) (hI : its.toList = ks.map fun p => Value.ref p.1) (hk : ∀ p ∈ ks, IsT P w s.heap p.2 p.1) (few : ks.length < 64) (hu : A.units + 3 < cLine)
    (q : ∀ s₂, FldT P w s ks s₂ → Q (.ref s.heap.objs.size) s₂) : wpAny (model P w) A (call (.type "set") [.ref l]) Q E s := by
  have cnt : its.size = ks.length := by
    have z := congrArg List.length hI
    rwa [Array.length_toList, List.length_map] at z
  obtain ⟨c, tl, m1⟩ := F.called_set.mro; have m2 := F.called_set.made; have m3 := F.called_set.sub
  refine wpAny_call (codeAny_of_tree ?_); show wpAny _ _ (callAny (.type "set") _) _ _ _
  refine wpAny_pure ⟨Code.quiet_builtin _ (by decide +kernel), codeAny_builtin F.entry_type_call ?_⟩; rw [Around.under_plain (weight_type_call_type "set" [.ref l] []) rfl]
  have m4 := F.called_set.notType; have m5 := F.called_set.canCreate; have m6 := F.typeCall_set_1 (.ref l)
  repeat (any_goals (first | assumption | wp_step))
  refine codeAny_mono (code_set_led1 (.ref l) (E := E) (Q₁ := fun ob s₁ => ob = .ref s.heap.objs.size ∧ s₁ = { s with heap := nsH w s }) ⟨rfl, rfl⟩) fun r s₁ hr => ?_
  match r, hr with
  | .error e, hr => exact hr
  | .ok .next, hr => exact hr.elim
  | .ok .brk, hr => exact hr.elim
  | .ok .cont, hr => exact hr.elim
  | .ok (.ret ob), ⟨eo, es⟩ =>
    subst eo es
    have gS : (nsH w s).get? s.heap.objs.size = some (nsO w) := Heap.get?_push_size _ rfl
    have tS : Shared.TypeIs { s with heap := nsH w s } (.ref s.heap.objs.size) "set" := ⟨_, gS, rfl⟩
    have m7 := F.called_set.init.lookup; have m8 := F.called_set.init.bind (.ref s.heap.objs.size)
    repeat (any_goals (first | assumption | wp_step))
    refine codeAny_mono (codeAny_call_builtin (R := wants (fun r s₂ => r = .none ∧ FldT P w s ks s₂) E) F.called_set.init.plain F.entry_set_init (check_set_init_1 tS ?_)) fun r₂ s₂ h2 => ?_
    · obtain ⟨⟨oc, od, odt, osl⟩, gl, hc, nl, hd⟩ := lst
      simp only at hc hd; subst hc hd
      have gl1 : (nsH w s).get? l = some { cls := .type "tuple", dict := od, data := .seq its nl, slots := osl } := Heap.get?_push_of_some _ gl
      have n1 := F.sub_tuple_set; have n2 := F.sub_tuple_frozenset; have n3 : (Value.type "tuple" == Value.type "dict") = false := by decide
      have li : (nsH w s).IsTuple l its := ⟨_, gl1, rfl, nl, rfl⟩
      unfold Builtin.«set.__init__» noKeywords Builtin.Frozenset.updateFrom; generalize hPI : pyIter = PI
      wp_walk
      subst hPI; refine wpAny_pyIter_tuple li (wpAny_bind (wpAny_runValue ?_))
      have l0 : l < s.heap.objs.size := Heap.lt_size gl
      have z1 : (nsH w s).objs.size = s.heap.objs.size + 1 := Heap.size_push ..
      have hA3 : A.in1.in1.in1.handled = none := by simp [hA]
      have nl1 : l ≠ (nsH w s).objs.size := fun z => Nat.ne_of_lt (Nat.lt_succ_of_lt l0) (z.trans z1)
      have ns1 : s.heap.objs.size ∉ [(nsH w s).objs.size, l] := by
        intro z
        rcases List.mem_cons.mp z with z | z
        · exact Nat.ne_of_lt (Nat.lt_succ_self _) (z.trans z1)
        · exact Nat.ne_of_gt l0 (by simpa using z)
      have vals : ∀ (i : Nat) (v : Value), its[i]? = some v → ∃ p, ks[i]? = some p ∧ v = .ref p.1 := fun i v hv => by
        have z : its.toList[i]? = some v := by rw [Array.getElem?_toList]; exact hv
        rw [hI, List.getElem?_map] at z
        obtain ⟨p, p1, p2⟩ := Option.map_eq_some_iff.mp z
        exact ⟨p, p1, p2.symm⟩
      refine set_update_tups ((Walks.tuple hA3 _ l nl1 its).toS) s.heap.objs.size ns1 ks cnt few vals s.heap hk (none_up (Nat.le_refl _)) (fun b hb => none_up (by rw [List.mem_singleton.mp hb, z1]; exact Nat.le_succ _)) hu (its.size - 0) 0 _ (by omega) (Nat.zero_le _)
        ⟨⟨_, Heap.get?_push_size _ rfl, rfl, rfl⟩, li.push _⟩ (fun b o e => Heap.get?_push_of_some _ (Heap.get?_push_of_some _ e)) ⟨[], #[], 0, _, setTR_fresh (Heap.get?_push_of_some _ gS), Got.zero ks⟩ fun s' L es ep t hm hS' g' hkp => ?_
      obtain ⟨h', g2, d', tk', os'⟩ := s'
      obtain rfl : g2 = s.gens := hm.gens
      obtain rfl : d' = s.drawn := hm.drawn
      obtain rfl : os' = s.os := hm.os
      rw [cnt] at g'
      exact wpAny_pure (wpAny_pure ⟨rfl, h', tk', L, es, ep, t, rfl, hS', g', hkp⟩)
    · match r₂, h2 with
      | .error e, h2 => exact h2
      | .ok .next, h2 => exact h2.elim
      | .ok .brk, h2 => exact h2.elim
      | .ok .cont, h2 => exact h2.elim
      | .ok (.ret r), ⟨e1, f⟩ =>
        subst e1
        repeat (any_goals (first | assumption | wp_step))
        exact q _ f
end
section
variable {X : Cx}
def rSetTT (K : PySem.W.Frag) (P : Program) (w : World) : List V → Hp → VK → Prop := fun xs H Q => ∃ (l : Addr) (ks : List (Addr × List Int)), xs = [V.ref l] ∧ SqT K H l (ks.map fun p => V.ref p.1) ∧ (∀ p ∈ ks, SqT K H p.1 (p.2.map V.int)) ∧ ks.length < 64 ∧
  ∀ a L, H a = none → (∀ p ∈ L, p ∈ ks) → (∀ p ∈ ks, p.2 ∈ L.map (·.2)) → Q (.ref a) (upd H a (SetTO P w a L))
theorem cr_setTT (hc : X.calm = true) (hu : X.A.units + 64 < cLine) : CallR X (.type "set") (rSetTT X.K X.prog X.w) := by
  intro pins s σ H xs us Q I r h
  obtain ⟨l, ks, rfl, hl, hk, hf, q⟩ := h
  rw [Vals.ref1 r]
  obtain ⟨its, rv, pl, hz⟩ := I.tuple hl
  refine set_of_tups (P := X.prog) (w := X.w) ks (I.ok.hd hc) pl (by simpa using refs_of_vals rv) (fun p hp => I.isT (hk p hp)) hf (by omega) fun s₂ ⟨h', tk, L, es, ep, t, e, R, g, kp⟩ => ?_
  subst e
  exact ⟨.ref s.heap.objs.size, upd H s.heap.objs.size (SetTO X.prog X.w s.heap.objs.size L), I.laid (t' := tk) kp (Nat.le_refl _) (setTO_new R.t0), rfl, q _ L (I.hok.fresh (Nat.le_refl _)) (fun p hp => List.mem_of_mem_take (g.sub p hp)) fun p hp => g.all p (by rw [List.take_length]; exact hp)⟩
end
/-! ### pairs by their codes -/
theorem smI_iff {i : Int} (h : smI i = true) : 0 ≤ i ∧ i < 64 := by
  obtain ⟨h1, h2⟩ := and2 h
  rw [iLe_iff] at h1
  rw [iLt_iff] at h2
  exact ⟨of_decide_eq_true h1, of_decide_eq_true h2⟩
theorem pairI_ex {x : D} (h : pairI x = true) : ∃ a b, x = .tuple [.int a, .int b] ∧ (0 ≤ a ∧ a < 64) ∧ 0 ≤ b ∧ b < 64 := by
  unfold pairI at h
  split at h
  · split at h
    · split at h
      · split at h
        · obtain ⟨h1, h2⟩ := and2 h
          exact ⟨_, _, rfl, smI_iff h1, smI_iff h2⟩
        · cases h
      · cases h
    · cases h
  · cases h
theorem dec_code {a b : Int} (h1 : 0 ≤ b) (h2 : b < 64) : decP (a * 64 + b) = .tuple [.int a, .int b] := by
  unfold decP
  rw [show (a * 64 + b) / 64 = a from by omega, show (a * 64 + b) % 64 = b from by omega]
theorem allPI_cons {x : D} {r : List D} (h : allPI (x :: r) = true) : pairI x = true ∧ allPI r = true := by
  have h : (match pairI x with | true => allPI r | false => false) = true := h
  cases z : pairI x with
  | false => rw [z] at h; cases h
  | true => rw [z] at h; exact ⟨rfl, h⟩
abbrev OkK (F : Hp) (p : Addr × List Int) : Prop := (∃ a b, p.2 = [a, b] ∧ (0 ≤ a ∧ a < 64) ∧ 0 ≤ b ∧ b < 64) ∧ F p.1 = some (.tup (p.2.map V.int))
theorem ks_of {F : Hp} : ∀ {l : List D} {xs : List V}, Rps F xs l → allPI l = true → ∃ ks : List (Addr × List Int), xs = ks.map (fun p => V.ref p.1) ∧ (∀ p ∈ ks, OkK F p) ∧ codesP l = ks.map fun p => TS.code 64 p.2
  | [], _, h, _ => by cases h; exact ⟨[], rfl, (fun _ z => nomatch z), rfl⟩
  | x :: r, _, h, ha => by
    obtain ⟨h1, h2⟩ := allPI_cons ha
    obtain ⟨a, b, e, ia, ib⟩ := pairI_ex h1
    subst e
    cases h with
    | cons p1 p2 =>
      obtain ⟨ks, e1, e2, e3⟩ := ks_of p2 h2
      subst e1
      cases p1 with
      | tup f1 q =>
        rename_i ad ys
        cases q with
        | cons q1 q2 =>
          cases q2 with
          | cons q3 q4 =>
            cases q4
            cases q1
            cases q3
            refine ⟨(ad, [a, b]) :: ks, rfl, fun p hp => ?_, ?_⟩
            · rcases List.mem_cons.mp hp with z | z
              · rw [z]; exact ⟨⟨a, b, rfl, ia, ib⟩, f1⟩
              · exact e2 p z
            · show (a * 64 + b) :: codesP r = TS.code 64 [a, b] :: ks.map fun p => TS.code 64 p.2
              rw [e3]
              have z : TS.code 64 [a, b] = a * 64 + b := by
                show a * 64 ^ 1 + (b * 64 ^ 0 + 0) = a * 64 + b
                omega
              rw [z]
theorem back_of {F : Hp} : ∀ {L : List (Addr × List Int)}, (∀ p ∈ L, OkK F p) → Rps F (L.map fun p => V.ref p.1) ((L.map fun p => TS.code 64 p.2).map decP)
  | [], _ => .nil
  | p :: r, h => by
    obtain ⟨⟨a, b, e, ia, ib⟩, f⟩ := h p (List.mem_cons_self ..)
    refine .cons ?_ (back_of fun q hq => h q (List.mem_cons_of_mem _ hq))
    have z : TS.code 64 p.2 = a * 64 + b := by
      rw [e]
      show a * 64 ^ 1 + (b * 64 ^ 0 + 0) = a * 64 + b
      omega
    show Rp F (V.ref p.1) (decP (TS.code 64 p.2))
    rw [z, dec_code ib.1 ib.2]
    rw [e] at f
    exact .tup f (.cons (.int a) (.cons (.int b) .nil))
theorem tset_ex {x : Val} {P : RV → Prop} (p : (tsetV x).Post P) : ∃ l, x = .d (.tuple l) ∧ allPI l = true ∧ l.length ≤ 60 ∧ P (.o (.d (.list ((srtI (codesP l)).map decP)))) := by
  unfold tsetV at p
  split at p
  · rename_i l
    split at p
    · rename_i h1 h2
      exact ⟨l, rfl, h1, few_le h2, p⟩
    · exact p.elim
  · exact p.elim
section
variable {X : Cx} {c : Cf} {cf : Nat → List Val → R RV} {k : Nat} {dr : Option Addr} {H0 : Hp}
theorem se_tset {a : Ex} (ha : SE c cf k a) : SE c cf k (.tset a) := fun cc X G e h dr H0 => by
  unfold chkE at h
  split at h
  · rename_i x p y py z p1 p2
    obtain ⟨h1, h6⟩ := and2 h
    obtain ⟨h1, h5⟩ := and2 h1
    obtain ⟨h1, h4⟩ := and2 h1
    obtain ⟨h1, h3⟩ := and2 h1
    obtain ⟨h1, h2⟩ := and2 h1
    have hx : x = ("sorted" : Str) := by simpa using h1
    have hy : y = ("set" : Str) := by simpa using h3
    subst hx hy
    have hin := pe_callTy (p := py) (pos := p1) (cr_setTT G.calm (by have := G.hu; omega)) (G.gls h4).1 (G.blt _ (by decide)) (by decide +kernel) (one_arg' h5 (ha cc X G z h6 dr H0)) (dbg_ne (G.gls h4).2).2.2 (dbg_ne (G.gls h4).2).1 (starE h5) rfl
    refine (pe_callB (cr_sortedT G.calm) (G.gls h2).1 (G.blt _ (by decide)) (by decide +kernel) (one_arg' rfl hin) (dbg_ne (G.gls h2).2).2.2 (dbg_ne (G.gls h2).2).1 rfl rfl).imp fun σ H Q ⟨F, e, st, p⟩ => ?_
    refine rdE st p fun F1 H1 v x g1 st1 o1 p => ?_
    obtain ⟨l, e1, hi, hl, p⟩ := tset_ex p
    rw [e1] at o1
    obtain ⟨q, xs, rfl, f1, hs, r1⟩ := o1.tup st1
    obtain ⟨ks, ex, ok, ec⟩ := ks_of r1 hi
    subst ex
    have hn : ks.length ≤ 60 := by
      have := dps_len r1
      rw [List.length_map] at this
      omega
    have sq : ∀ {F' H' : Hp}, Le F' H' → (∀ p ∈ ks, F' p.1 = some (.tup (p.2.map V.int))) → ∀ p ∈ ks, SqT X.K H' p.1 (p.2.map V.int) := fun le h p hp => .inl (.inl (le _ _ (h p hp)))
    refine ⟨q, ks, rfl, .inl (.inl hs), sq st1.le (fun p hp => (ok p hp).2), by omega, fun a1 L hp1 sub cov => ?_⟩
    obtain ⟨st2, g2⟩ := st1.newO (o := SetTO X.prog X.w a1 L) hp1
    refine ⟨a1, L, 2, 64, rfl, upd_same, fun p hp => sq st2.le (fun p hp => (ok p hp).2) p (sub p hp), by decide, fun p hp => ?_, fun L' p2 pm nd _ pw hp2 => ?_⟩
    · obtain ⟨⟨a, b, e, ia, ib⟩, _⟩ := ok p (sub p hp)
      rw [e]
      refine ⟨rfl, fun m hm => ?_⟩
      rcases List.mem_cons.mp hm with z | z
      · rw [z]; exact ia
      · rw [List.mem_singleton.mp z]; exact ib
    have okL : ∀ p ∈ L', OkK F1 p := fun p hp => ok p (sub p (pm.mem_iff.mp hp))
    have inj : ∀ p ∈ L', ∀ r ∈ L', TS.code 64 p.2 = TS.code 64 r.2 → p.2 = r.2 := fun p hp r hr e => by
      obtain ⟨⟨a, b, ep, ia, ib⟩, _⟩ := okL p hp
      obtain ⟨⟨a', b', er, ia', ib'⟩, _⟩ := okL r hr
      rw [ep, er] at e ⊢
      have e : a * 64 ^ 1 + (b * 64 ^ 0 + 0) = a' * 64 ^ 1 + (b' * 64 ^ 0 + 0) := e
      have ea : a = a' := by omega
      have eb : b = b' := by omega
      rw [ea, eb]
    have up : (L'.map fun p => TS.code 64 p.2).Pairwise (· < ·) := by
      rw [List.pairwise_map]
      have nd' := List.pairwise_map.mp nd
      refine List.Pairwise.imp_of_mem (fun {p r} hp hr hh => ?_) (List.pairwise_and_iff.mpr ⟨pw, nd'⟩)
      have ne : TS.code 64 p.2 ≠ TS.code 64 r.2 := fun z => hh.2 (inj p hp r hr z)
      have := hh.1
      omega
    have e2 : (L'.map fun p => TS.code 64 p.2) = srtI (codesP l) := up_eq up (srtI_up _) fun z => by
      rw [srtI_mem, ec, List.mem_map, List.mem_map]
      constructor
      · intro ⟨p, hp, e⟩
        exact ⟨p, sub p (pm.mem_iff.mp hp), e⟩
      · intro ⟨p, hp, e⟩
        obtain ⟨r, hr, er⟩ := List.mem_map.mp (cov p hp)
        exact ⟨r, pm.mem_iff.mpr hr, by rw [er]; exact e⟩
    have rb := back_of okL
    rw [e2] at rb
    obtain ⟨st3, g3, r3⟩ := st2.newL hp2 rb
    exact p F1 _ (.ref p2) (g1.trans (g2.trans g3)) st3 (r3.back (g1.trans g2).ext)
  · cases h
end
end Ev

/-! The evaluator is sound: all pieces (printed). -/
namespace Ev
open PySem PySem.Spec PyProof.Rows L2

section
variable (c : Cf) (cf : Nat → List Val → R RV) (k : Nat)
structure AllOk (x : Ex) : Prop where
  e : SE c cf k x
  t : ST c cf k x
  l : SL c cf k x
  d : SD c cf k x
  r : SR c cf k x
  o : SO c cf k x
  i : SI c cf k x
  s : SS c cf k x
  b : SB c cf k x
  lc : ∀ own tg it elt, x = .lc own tg it elt → SI c cf k it ∧ SE c cf k elt
  lf : ∀ own tg it elt cn, x = .lcIf own tg it elt cn → SI c cf k it ∧ SE c cf k elt ∧ ST c cf k cn
theorem all_ok (x : Ex) : AllOk c cf k x := by
  induction x with
  | var i =>
    refine { e := se_var i, t := fun _ _ _ _ h _ _ => (Bool.false_ne_true h).elim, l := fun _ _ _ _ h _ _ => (Bool.false_ne_true h).elim, d := fun _ _ _ _ h _ _ => (Bool.false_ne_true h).elim, r := fun _ _ _ _ h _ _ => (Bool.false_ne_true h).elim, o := fun _ _ _ _ h _ _ => (Bool.false_ne_true h).elim, i := fun _ _ _ _ _ h _ _ => (Bool.false_ne_true h).elim, s := fun _ _ _ _ h _ _ _ => (Bool.false_ne_true h).elim, b := fun _ _ _ _ h _ _ _ => (Bool.false_ne_true h).elim, lc := (fun _ _ _ _ q => nomatch q), lf := (fun _ _ _ _ _ q => nomatch q) }
  | int i =>
    refine { e := se_int i, t := fun _ _ _ _ h _ _ => (Bool.false_ne_true h).elim, l := fun _ _ _ _ h _ _ => (Bool.false_ne_true h).elim, d := fun _ _ _ _ h _ _ => (Bool.false_ne_true h).elim, r := fun _ _ _ _ h _ _ => (Bool.false_ne_true h).elim, o := fun _ _ _ _ h _ _ => (Bool.false_ne_true h).elim, i := fun _ _ _ _ _ h _ _ => (Bool.false_ne_true h).elim, s := fun _ _ _ _ h _ _ _ => (Bool.false_ne_true h).elim, b := fun _ _ _ _ h _ _ _ => (Bool.false_ne_true h).elim, lc := (fun _ _ _ _ q => nomatch q), lf := (fun _ _ _ _ _ q => nomatch q) }
  | bl i =>
    refine { e := se_bl i, t := fun _ _ _ _ h _ _ => (Bool.false_ne_true h).elim, l := fun _ _ _ _ h _ _ => (Bool.false_ne_true h).elim, d := fun _ _ _ _ h _ _ => (Bool.false_ne_true h).elim, r := fun _ _ _ _ h _ _ => (Bool.false_ne_true h).elim, o := fun _ _ _ _ h _ _ => (Bool.false_ne_true h).elim, i := fun _ _ _ _ _ h _ _ => (Bool.false_ne_true h).elim, s := fun _ _ _ _ h _ _ _ => (Bool.false_ne_true h).elim, b := fun _ _ _ _ h _ _ _ => (Bool.false_ne_true h).elim, lc := (fun _ _ _ _ q => nomatch q), lf := (fun _ _ _ _ _ q => nomatch q) }
  | non  =>
    refine { e := se_non, t := fun _ _ _ _ h _ _ => (Bool.false_ne_true h).elim, l := fun _ _ _ _ h _ _ => (Bool.false_ne_true h).elim, d := fun _ _ _ _ h _ _ => (Bool.false_ne_true h).elim, r := fun _ _ _ _ h _ _ => (Bool.false_ne_true h).elim, o := fun _ _ _ _ h _ _ => (Bool.false_ne_true h).elim, i := fun _ _ _ _ _ h _ _ => (Bool.false_ne_true h).elim, s := fun _ _ _ _ h _ _ _ => (Bool.false_ne_true h).elim, b := fun _ _ _ _ h _ _ _ => (Bool.false_ne_true h).elim, lc := (fun _ _ _ _ q => nomatch q), lf := (fun _ _ _ _ _ q => nomatch q) }
  | glob y i =>
    refine { e := se_glob y i, t := fun _ _ _ _ h _ _ => (Bool.false_ne_true h).elim, l := fun _ _ _ _ h _ _ => (Bool.false_ne_true h).elim, d := fun _ _ _ _ h _ _ => (Bool.false_ne_true h).elim, r := fun _ _ _ _ h _ _ => (Bool.false_ne_true h).elim, o := fun _ _ _ _ h _ _ => (Bool.false_ne_true h).elim, i := fun _ _ _ _ _ h _ _ => (Bool.false_ne_true h).elim, s := fun _ _ _ _ h _ _ _ => (Bool.false_ne_true h).elim, b := fun _ _ _ _ h _ _ _ => (Bool.false_ne_true h).elim, lc := (fun _ _ _ _ q => nomatch q), lf := (fun _ _ _ _ _ q => nomatch q) }
  | bin op a b ha hb =>
    refine { e := se_bin op ha.e hb.e, t := fun _ _ _ _ h _ _ => (Bool.false_ne_true h).elim, l := fun _ _ _ _ h _ _ => (Bool.false_ne_true h).elim, d := fun _ _ _ _ h _ _ => (Bool.false_ne_true h).elim, r := fun _ _ _ _ h _ _ => (Bool.false_ne_true h).elim, o := fun _ _ _ _ h _ _ => (Bool.false_ne_true h).elim, i := fun _ _ _ _ _ h _ _ => (Bool.false_ne_true h).elim, s := fun _ _ _ _ h _ _ _ => (Bool.false_ne_true h).elim, b := fun _ _ _ _ h _ _ _ => (Bool.false_ne_true h).elim, lc := (fun _ _ _ _ q => nomatch q), lf := (fun _ _ _ _ _ q => nomatch q) }
  | neg a ha =>
    refine { e := se_neg ha.e, t := fun _ _ _ _ h _ _ => (Bool.false_ne_true h).elim, l := fun _ _ _ _ h _ _ => (Bool.false_ne_true h).elim, d := fun _ _ _ _ h _ _ => (Bool.false_ne_true h).elim, r := fun _ _ _ _ h _ _ => (Bool.false_ne_true h).elim, o := fun _ _ _ _ h _ _ => (Bool.false_ne_true h).elim, i := fun _ _ _ _ _ h _ _ => (Bool.false_ne_true h).elim, s := fun _ _ _ _ h _ _ _ => (Bool.false_ne_true h).elim, b := fun _ _ _ _ h _ _ _ => (Bool.false_ne_true h).elim, lc := (fun _ _ _ _ q => nomatch q), lf := (fun _ _ _ _ _ q => nomatch q) }
  | cmp op a b ha hb =>
    refine { e := se_cmp op ha.e hb.e, t := st_cmp op ha.e hb.e, l := fun _ _ _ _ h _ _ => (Bool.false_ne_true h).elim, d := fun _ _ _ _ h _ _ => (Bool.false_ne_true h).elim, r := fun _ _ _ _ h _ _ => (Bool.false_ne_true h).elim, o := fun _ _ _ _ h _ _ => (Bool.false_ne_true h).elim, i := fun _ _ _ _ _ h _ _ => (Bool.false_ne_true h).elim, s := fun _ _ _ _ h _ _ _ => (Bool.false_ne_true h).elim, b := fun _ _ _ _ h _ _ _ => (Bool.false_ne_true h).elim, lc := (fun _ _ _ _ q => nomatch q), lf := (fun _ _ _ _ _ q => nomatch q) }
  | isB no a v ha =>
    refine { e := se_isB no v ha.e, t := st_isB no v ha.e, l := fun _ _ _ _ h _ _ => (Bool.false_ne_true h).elim, d := fun _ _ _ _ h _ _ => (Bool.false_ne_true h).elim, r := fun _ _ _ _ h _ _ => (Bool.false_ne_true h).elim, o := fun _ _ _ _ h _ _ => (Bool.false_ne_true h).elim, i := fun _ _ _ _ _ h _ _ => (Bool.false_ne_true h).elim, s := fun _ _ _ _ h _ _ _ => (Bool.false_ne_true h).elim, b := fun _ _ _ _ h _ _ _ => (Bool.false_ne_true h).elim, lc := (fun _ _ _ _ q => nomatch q), lf := (fun _ _ _ _ _ q => nomatch q) }
  | isN no a ha =>
    refine { e := se_isN no ha.e, t := st_isN no ha.e, l := fun _ _ _ _ h _ _ => (Bool.false_ne_true h).elim, d := fun _ _ _ _ h _ _ => (Bool.false_ne_true h).elim, r := fun _ _ _ _ h _ _ => (Bool.false_ne_true h).elim, o := fun _ _ _ _ h _ _ => (Bool.false_ne_true h).elim, i := fun _ _ _ _ _ h _ _ => (Bool.false_ne_true h).elim, s := fun _ _ _ _ h _ _ _ => (Bool.false_ne_true h).elim, b := fun _ _ _ _ h _ _ _ => (Bool.false_ne_true h).elim, lc := (fun _ _ _ _ q => nomatch q), lf := (fun _ _ _ _ _ q => nomatch q) }
  | chain op op2 a b d ha hb hd =>
    refine { e := se_chain op op2 ha.e hb.e hd.e, t := st_chain op op2 ha.e hb.e hd.e, l := fun _ _ _ _ h _ _ => (Bool.false_ne_true h).elim, d := fun _ _ _ _ h _ _ => (Bool.false_ne_true h).elim, r := fun _ _ _ _ h _ _ => (Bool.false_ne_true h).elim, o := fun _ _ _ _ h _ _ => (Bool.false_ne_true h).elim, i := fun _ _ _ _ _ h _ _ => (Bool.false_ne_true h).elim, s := fun _ _ _ _ h _ _ _ => (Bool.false_ne_true h).elim, b := fun _ _ _ _ h _ _ _ => (Bool.false_ne_true h).elim, lc := (fun _ _ _ _ q => nomatch q), lf := (fun _ _ _ _ _ q => nomatch q) }
  | and a b ha hb =>
    refine { e := se_and ha.e hb.e, t := st_and ha.t hb.t, l := fun _ _ _ _ h _ _ => (Bool.false_ne_true h).elim, d := fun _ _ _ _ h _ _ => (Bool.false_ne_true h).elim, r := fun _ _ _ _ h _ _ => (Bool.false_ne_true h).elim, o := fun _ _ _ _ h _ _ => (Bool.false_ne_true h).elim, i := fun _ _ _ _ _ h _ _ => (Bool.false_ne_true h).elim, s := fun _ _ _ _ h _ _ _ => (Bool.false_ne_true h).elim, b := fun _ _ _ _ h _ _ _ => (Bool.false_ne_true h).elim, lc := (fun _ _ _ _ q => nomatch q), lf := (fun _ _ _ _ _ q => nomatch q) }
  | or a b ha hb =>
    refine { e := se_or ha.e hb.e, t := st_or ha.t hb.t, l := fun _ _ _ _ h _ _ => (Bool.false_ne_true h).elim, d := fun _ _ _ _ h _ _ => (Bool.false_ne_true h).elim, r := fun _ _ _ _ h _ _ => (Bool.false_ne_true h).elim, o := fun _ _ _ _ h _ _ => (Bool.false_ne_true h).elim, i := fun _ _ _ _ _ h _ _ => (Bool.false_ne_true h).elim, s := fun _ _ _ _ h _ _ _ => (Bool.false_ne_true h).elim, b := fun _ _ _ _ h _ _ _ => (Bool.false_ne_true h).elim, lc := (fun _ _ _ _ q => nomatch q), lf := (fun _ _ _ _ _ q => nomatch q) }
  | not a ha =>
    refine { e := se_not ha.e, t := st_not ha.t, l := fun _ _ _ _ h _ _ => (Bool.false_ne_true h).elim, d := fun _ _ _ _ h _ _ => (Bool.false_ne_true h).elim, r := fun _ _ _ _ h _ _ => (Bool.false_ne_true h).elim, o := fun _ _ _ _ h _ _ => (Bool.false_ne_true h).elim, i := fun _ _ _ _ _ h _ _ => (Bool.false_ne_true h).elim, s := fun _ _ _ _ h _ _ _ => (Bool.false_ne_true h).elim, b := fun _ _ _ _ h _ _ _ => (Bool.false_ne_true h).elim, lc := (fun _ _ _ _ q => nomatch q), lf := (fun _ _ _ _ _ q => nomatch q) }
  | ite q a b hq ha hb =>
    refine { e := se_ite hq.t ha.e hb.e, t := fun _ _ _ _ h _ _ => (Bool.false_ne_true h).elim, l := fun _ _ _ _ h _ _ => (Bool.false_ne_true h).elim, d := fun _ _ _ _ h _ _ => (Bool.false_ne_true h).elim, r := fun _ _ _ _ h _ _ => (Bool.false_ne_true h).elim, o := fun _ _ _ _ h _ _ => (Bool.false_ne_true h).elim, i := fun _ _ _ _ _ h _ _ => (Bool.false_ne_true h).elim, s := fun _ _ _ _ h _ _ _ => (Bool.false_ne_true h).elim, b := fun _ _ _ _ h _ _ _ => (Bool.false_ne_true h).elim, lc := (fun _ _ _ _ q => nomatch q), lf := (fun _ _ _ _ _ q => nomatch q) }
  | tst a ha =>
    refine { e := fun _ _ _ _ h _ _ => (Bool.false_ne_true h).elim, t := st_tst ha.e, l := fun _ _ _ _ h _ _ => (Bool.false_ne_true h).elim, d := fun _ _ _ _ h _ _ => (Bool.false_ne_true h).elim, r := fun _ _ _ _ h _ _ => (Bool.false_ne_true h).elim, o := fun _ _ _ _ h _ _ => (Bool.false_ne_true h).elim, i := fun _ _ _ _ _ h _ _ => (Bool.false_ne_true h).elim, s := fun _ _ _ _ h _ _ _ => (Bool.false_ne_true h).elim, b := fun _ _ _ _ h _ _ _ => (Bool.false_ne_true h).elim, lc := (fun _ _ _ _ q => nomatch q), lf := (fun _ _ _ _ _ q => nomatch q) }
  | tup a ha =>
    refine { e := se_tup ha.d, t := fun _ _ _ _ h _ _ => (Bool.false_ne_true h).elim, l := fun _ _ _ _ h _ _ => (Bool.false_ne_true h).elim, d := fun _ _ _ _ h _ _ => (Bool.false_ne_true h).elim, r := fun _ _ _ _ h _ _ => (Bool.false_ne_true h).elim, o := fun _ _ _ _ h _ _ => (Bool.false_ne_true h).elim, i := fun _ _ _ _ _ h _ _ => (Bool.false_ne_true h).elim, s := fun _ _ _ _ h _ _ _ => (Bool.false_ne_true h).elim, b := fun _ _ _ _ h _ _ _ => (Bool.false_ne_true h).elim, lc := (fun _ _ _ _ q => nomatch q), lf := (fun _ _ _ _ _ q => nomatch q) }
  | lst a ha =>
    refine { e := se_lst ha.d, t := fun _ _ _ _ h _ _ => (Bool.false_ne_true h).elim, l := fun _ _ _ _ h _ _ => (Bool.false_ne_true h).elim, d := fun _ _ _ _ h _ _ => (Bool.false_ne_true h).elim, r := fun _ _ _ _ h _ _ => (Bool.false_ne_true h).elim, o := fun _ _ _ _ h _ _ => (Bool.false_ne_true h).elim, i := fun _ _ _ _ _ h _ _ => (Bool.false_ne_true h).elim, s := fun _ _ _ _ h _ _ _ => (Bool.false_ne_true h).elim, b := fun _ _ _ _ h _ _ _ => (Bool.false_ne_true h).elim, lc := (fun _ _ _ _ q => nomatch q), lf := (fun _ _ _ _ _ q => nomatch q) }
  | ix a b ha hb =>
    refine { e := se_ix ha.e hb.e, t := fun _ _ _ _ h _ _ => (Bool.false_ne_true h).elim, l := fun _ _ _ _ h _ _ => (Bool.false_ne_true h).elim, d := fun _ _ _ _ h _ _ => (Bool.false_ne_true h).elim, r := fun _ _ _ _ h _ _ => (Bool.false_ne_true h).elim, o := fun _ _ _ _ h _ _ => (Bool.false_ne_true h).elim, i := fun _ _ _ _ _ h _ _ => (Bool.false_ne_true h).elim, s := fun _ _ _ _ h _ _ _ => (Bool.false_ne_true h).elim, b := fun _ _ _ _ h _ _ _ => (Bool.false_ne_true h).elim, lc := (fun _ _ _ _ q => nomatch q), lf := (fun _ _ _ _ _ q => nomatch q) }
  | sl a b d ha hb hd =>
    refine { e := se_sl ha.e hb.o hd.o, t := fun _ _ _ _ h _ _ => (Bool.false_ne_true h).elim, l := fun _ _ _ _ h _ _ => (Bool.false_ne_true h).elim, d := fun _ _ _ _ h _ _ => (Bool.false_ne_true h).elim, r := fun _ _ _ _ h _ _ => (Bool.false_ne_true h).elim, o := fun _ _ _ _ h _ _ => (Bool.false_ne_true h).elim, i := fun _ _ _ _ _ h _ _ => (Bool.false_ne_true h).elim, s := fun _ _ _ _ h _ _ _ => (Bool.false_ne_true h).elim, b := fun _ _ _ _ h _ _ _ => (Bool.false_ne_true h).elim, lc := (fun _ _ _ _ q => nomatch q), lf := (fun _ _ _ _ _ q => nomatch q) }
  | call f a ha =>
    refine { e := se_call f ha.l, t := fun _ _ _ _ h _ _ => (Bool.false_ne_true h).elim, l := fun _ _ _ _ h _ _ => (Bool.false_ne_true h).elim, d := fun _ _ _ _ h _ _ => (Bool.false_ne_true h).elim, r := fun _ _ _ _ h _ _ => (Bool.false_ne_true h).elim, o := fun _ _ _ _ h _ _ => (Bool.false_ne_true h).elim, i := fun _ _ _ _ _ h _ _ => (Bool.false_ne_true h).elim, s := fun _ _ _ _ h _ _ _ => (Bool.false_ne_true h).elim, b := fun _ _ _ _ h _ _ _ => (Bool.false_ne_true h).elim, lc := (fun _ _ _ _ q => nomatch q), lf := (fun _ _ _ _ _ q => nomatch q) }
  | b1 z a ha =>
    refine { e := se_b1 z ha.e, t := fun _ _ _ _ h _ _ => (Bool.false_ne_true h).elim, l := fun _ _ _ _ h _ _ => (Bool.false_ne_true h).elim, d := fun _ _ _ _ h _ _ => (Bool.false_ne_true h).elim, r := fun _ _ _ _ h _ _ => (Bool.false_ne_true h).elim, o := fun _ _ _ _ h _ _ => (Bool.false_ne_true h).elim, i := fun _ _ _ _ _ h _ _ => (Bool.false_ne_true h).elim, s := fun _ _ _ _ h _ _ _ => (Bool.false_ne_true h).elim, b := fun _ _ _ _ h _ _ _ => (Bool.false_ne_true h).elim, lc := (fun _ _ _ _ q => nomatch q), lf := (fun _ _ _ _ _ q => nomatch q) }
  | isI a ty ha =>
    refine { e := se_isI ty ha.e, t := fun _ _ _ _ h _ _ => (Bool.false_ne_true h).elim, l := fun _ _ _ _ h _ _ => (Bool.false_ne_true h).elim, d := fun _ _ _ _ h _ _ => (Bool.false_ne_true h).elim, r := fun _ _ _ _ h _ _ => (Bool.false_ne_true h).elim, o := fun _ _ _ _ h _ _ => (Bool.false_ne_true h).elim, i := fun _ _ _ _ _ h _ _ => (Bool.false_ne_true h).elim, s := fun _ _ _ _ h _ _ _ => (Bool.false_ne_true h).elim, b := fun _ _ _ _ h _ _ _ => (Bool.false_ne_true h).elim, lc := (fun _ _ _ _ q => nomatch q), lf := (fun _ _ _ _ _ q => nomatch q) }
  | mx2 lst a b ha hb =>
    refine { e := se_mx2 lst ha.e hb.e, t := fun _ _ _ _ h _ _ => (Bool.false_ne_true h).elim, l := fun _ _ _ _ h _ _ => (Bool.false_ne_true h).elim, d := fun _ _ _ _ h _ _ => (Bool.false_ne_true h).elim, r := fun _ _ _ _ h _ _ => (Bool.false_ne_true h).elim, o := fun _ _ _ _ h _ _ => (Bool.false_ne_true h).elim, i := fun _ _ _ _ _ h _ _ => (Bool.false_ne_true h).elim, s := fun _ _ _ _ h _ _ _ => (Bool.false_ne_true h).elim, b := fun _ _ _ _ h _ _ _ => (Bool.false_ne_true h).elim, lc := (fun _ _ _ _ q => nomatch q), lf := (fun _ _ _ _ _ q => nomatch q) }
  | lrg1 tp a ha =>
    refine { e := se_lrg1 tp ha.e, t := fun _ _ _ _ h _ _ => (Bool.false_ne_true h).elim, l := fun _ _ _ _ h _ _ => (Bool.false_ne_true h).elim, d := fun _ _ _ _ h _ _ => (Bool.false_ne_true h).elim, r := fun _ _ _ _ h _ _ => (Bool.false_ne_true h).elim, o := fun _ _ _ _ h _ _ => (Bool.false_ne_true h).elim, i := fun _ _ _ _ _ h _ _ => (Bool.false_ne_true h).elim, s := fun _ _ _ _ h _ _ _ => (Bool.false_ne_true h).elim, b := fun _ _ _ _ h _ _ _ => (Bool.false_ne_true h).elim, lc := (fun _ _ _ _ q => nomatch q), lf := (fun _ _ _ _ _ q => nomatch q) }
  | lrg2 tp a b ha hb =>
    refine { e := se_lrg2 tp ha.e hb.e, t := fun _ _ _ _ h _ _ => (Bool.false_ne_true h).elim, l := fun _ _ _ _ h _ _ => (Bool.false_ne_true h).elim, d := fun _ _ _ _ h _ _ => (Bool.false_ne_true h).elim, r := fun _ _ _ _ h _ _ => (Bool.false_ne_true h).elim, o := fun _ _ _ _ h _ _ => (Bool.false_ne_true h).elim, i := fun _ _ _ _ _ h _ _ => (Bool.false_ne_true h).elim, s := fun _ _ _ _ h _ _ _ => (Bool.false_ne_true h).elim, b := fun _ _ _ _ h _ _ _ => (Bool.false_ne_true h).elim, lc := (fun _ _ _ _ q => nomatch q), lf := (fun _ _ _ _ _ q => nomatch q) }
  | lc own tg a b ha hb =>
    refine { e := se_lc own tg ha.i hb.e, t := fun _ _ _ _ h _ _ => (Bool.false_ne_true h).elim, l := fun _ _ _ _ h _ _ => (Bool.false_ne_true h).elim, d := fun _ _ _ _ h _ _ => (Bool.false_ne_true h).elim, r := fun _ _ _ _ h _ _ => (Bool.false_ne_true h).elim, o := fun _ _ _ _ h _ _ => (Bool.false_ne_true h).elim, i := fun _ _ _ _ _ h _ _ => (Bool.false_ne_true h).elim, s := fun _ _ _ _ h _ _ _ => (Bool.false_ne_true h).elim, b := fun _ _ _ _ h _ _ _ => (Bool.false_ne_true h).elim, lc := (fun _ _ _ _ q => by cases q; exact ⟨ha.i, hb.e⟩), lf := (fun _ _ _ _ _ q => nomatch q) }
  | lcIf own tg a b d ha hb hd =>
    refine { e := se_lcIf own tg ha.i hb.e hd.t, t := fun _ _ _ _ h _ _ => (Bool.false_ne_true h).elim, l := fun _ _ _ _ h _ _ => (Bool.false_ne_true h).elim, d := fun _ _ _ _ h _ _ => (Bool.false_ne_true h).elim, r := fun _ _ _ _ h _ _ => (Bool.false_ne_true h).elim, o := fun _ _ _ _ h _ _ => (Bool.false_ne_true h).elim, i := fun _ _ _ _ _ h _ _ => (Bool.false_ne_true h).elim, s := fun _ _ _ _ h _ _ _ => (Bool.false_ne_true h).elim, b := fun _ _ _ _ h _ _ _ => (Bool.false_ne_true h).elim, lc := (fun _ _ _ _ q => nomatch q), lf := (fun _ _ _ _ _ q => by cases q; exact ⟨ha.i, hb.e, hd.t⟩) }
  | gx kk own tg a b ha hb =>
    refine { e := se_gx kk own tg ha.i hb.e, t := fun _ _ _ _ h _ _ => (Bool.false_ne_true h).elim, l := fun _ _ _ _ h _ _ => (Bool.false_ne_true h).elim, d := fun _ _ _ _ h _ _ => (Bool.false_ne_true h).elim, r := fun _ _ _ _ h _ _ => (Bool.false_ne_true h).elim, o := fun _ _ _ _ h _ _ => (Bool.false_ne_true h).elim, i := fun _ _ _ _ _ h _ _ => (Bool.false_ne_true h).elim, s := fun _ _ _ _ h _ _ _ => (Bool.false_ne_true h).elim, b := fun _ _ _ _ h _ _ _ => (Bool.false_ne_true h).elim, lc := (fun _ _ _ _ q => nomatch q), lf := (fun _ _ _ _ _ q => nomatch q) }
  | noE  =>
    refine { e := fun _ _ _ _ h _ _ => (Bool.false_ne_true h).elim, t := fun _ _ _ _ h _ _ => (Bool.false_ne_true h).elim, l := fun _ _ _ _ h _ _ => (Bool.false_ne_true h).elim, d := fun _ _ _ _ h _ _ => (Bool.false_ne_true h).elim, r := fun _ _ _ _ h _ _ => (Bool.false_ne_true h).elim, o := so_noE, i := fun _ _ _ _ _ h _ _ => (Bool.false_ne_true h).elim, s := ss_noE, b := sb_noE, lc := (fun _ _ _ _ q => nomatch q), lf := (fun _ _ _ _ _ q => nomatch q) }
  | nil  =>
    refine { e := fun _ _ _ _ h _ _ => (Bool.false_ne_true h).elim, t := fun _ _ _ _ h _ _ => (Bool.false_ne_true h).elim, l := sl_nil, d := sd_nil, r := sr_nil, o := fun _ _ _ _ h _ _ => (Bool.false_ne_true h).elim, i := fun _ _ _ _ _ h _ _ => (Bool.false_ne_true h).elim, s := fun _ _ _ _ h _ _ _ => (Bool.false_ne_true h).elim, b := fun _ _ _ _ h _ _ _ => (Bool.false_ne_true h).elim, lc := (fun _ _ _ _ q => nomatch q), lf := (fun _ _ _ _ _ q => nomatch q) }
  | cons a b ha hb =>
    refine { e := fun _ _ _ _ h _ _ => (Bool.false_ne_true h).elim, t := fun _ _ _ _ h _ _ => (Bool.false_ne_true h).elim, l := sl_cons ha.e hb.l, d := sd_cons ha.e hb.d, r := sr_cons ha.e hb.r, o := so_cons ha.e, i := fun _ _ _ _ _ h _ _ => (Bool.false_ne_true h).elim, s := fun _ _ _ _ h _ _ _ => (Bool.false_ne_true h).elim, b := fun _ _ _ _ h _ _ _ => (Bool.false_ne_true h).elim, lc := (fun _ _ _ _ q => nomatch q), lf := (fun _ _ _ _ _ q => nomatch q) }
  | star a b ha hb =>
    refine { e := fun _ _ _ _ h _ _ => (Bool.false_ne_true h).elim, t := fun _ _ _ _ h _ _ => (Bool.false_ne_true h).elim, l := fun _ _ _ _ h _ _ => (Bool.false_ne_true h).elim, d := sd_star ha.e hb.d, r := fun _ _ _ _ h _ _ => (Bool.false_ne_true h).elim, o := fun _ _ _ _ h _ _ => (Bool.false_ne_true h).elim, i := fun _ _ _ _ _ h _ _ => (Bool.false_ne_true h).elim, s := fun _ _ _ _ h _ _ _ => (Bool.false_ne_true h).elim, b := fun _ _ _ _ h _ _ _ => (Bool.false_ne_true h).elim, lc := (fun _ _ _ _ q => nomatch q), lf := (fun _ _ _ _ _ q => nomatch q) }
  | irng1 a ha =>
    refine { e := fun _ _ _ _ h _ _ => (Bool.false_ne_true h).elim, t := fun _ _ _ _ h _ _ => (Bool.false_ne_true h).elim, l := fun _ _ _ _ h _ _ => (Bool.false_ne_true h).elim, d := fun _ _ _ _ h _ _ => (Bool.false_ne_true h).elim, r := fun _ _ _ _ h _ _ => (Bool.false_ne_true h).elim, o := fun _ _ _ _ h _ _ => (Bool.false_ne_true h).elim, i := si_irng1 ha.e, s := fun _ _ _ _ h _ _ _ => (Bool.false_ne_true h).elim, b := fun _ _ _ _ h _ _ _ => (Bool.false_ne_true h).elim, lc := (fun _ _ _ _ q => nomatch q), lf := (fun _ _ _ _ _ q => nomatch q) }
  | irng2 a b ha hb =>
    refine { e := fun _ _ _ _ h _ _ => (Bool.false_ne_true h).elim, t := fun _ _ _ _ h _ _ => (Bool.false_ne_true h).elim, l := fun _ _ _ _ h _ _ => (Bool.false_ne_true h).elim, d := fun _ _ _ _ h _ _ => (Bool.false_ne_true h).elim, r := fun _ _ _ _ h _ _ => (Bool.false_ne_true h).elim, o := fun _ _ _ _ h _ _ => (Bool.false_ne_true h).elim, i := si_irng2 ha.e hb.e, s := fun _ _ _ _ h _ _ _ => (Bool.false_ne_true h).elim, b := fun _ _ _ _ h _ _ _ => (Bool.false_ne_true h).elim, lc := (fun _ _ _ _ q => nomatch q), lf := (fun _ _ _ _ _ q => nomatch q) }
  | iseq a ha =>
    refine { e := fun _ _ _ _ h _ _ => (Bool.false_ne_true h).elim, t := fun _ _ _ _ h _ _ => (Bool.false_ne_true h).elim, l := fun _ _ _ _ h _ _ => (Bool.false_ne_true h).elim, d := fun _ _ _ _ h _ _ => (Bool.false_ne_true h).elim, r := fun _ _ _ _ h _ _ => (Bool.false_ne_true h).elim, o := fun _ _ _ _ h _ _ => (Bool.false_ne_true h).elim, i := si_iseq ha.e, s := fun _ _ _ _ h _ _ _ => (Bool.false_ne_true h).elim, b := fun _ _ _ _ h _ _ _ => (Bool.false_ne_true h).elim, lc := (fun _ _ _ _ q => nomatch q), lf := (fun _ _ _ _ _ q => nomatch q) }
  | ienum a ha =>
    refine { e := fun _ _ _ _ h _ _ => (Bool.false_ne_true h).elim, t := fun _ _ _ _ h _ _ => (Bool.false_ne_true h).elim, l := fun _ _ _ _ h _ _ => (Bool.false_ne_true h).elim, d := fun _ _ _ _ h _ _ => (Bool.false_ne_true h).elim, r := fun _ _ _ _ h _ _ => (Bool.false_ne_true h).elim, o := fun _ _ _ _ h _ _ => (Bool.false_ne_true h).elim, i := si_ienum ha.e, s := fun _ _ _ _ h _ _ _ => (Bool.false_ne_true h).elim, b := fun _ _ _ _ h _ _ _ => (Bool.false_ne_true h).elim, lc := (fun _ _ _ _ q => nomatch q), lf := (fun _ _ _ _ _ q => nomatch q) }
  | izip a b ha hb =>
    refine { e := fun _ _ _ _ h _ _ => (Bool.false_ne_true h).elim, t := fun _ _ _ _ h _ _ => (Bool.false_ne_true h).elim, l := fun _ _ _ _ h _ _ => (Bool.false_ne_true h).elim, d := fun _ _ _ _ h _ _ => (Bool.false_ne_true h).elim, r := fun _ _ _ _ h _ _ => (Bool.false_ne_true h).elim, o := fun _ _ _ _ h _ _ => (Bool.false_ne_true h).elim, i := si_izip ha.e hb.e, s := fun _ _ _ _ h _ _ _ => (Bool.false_ne_true h).elim, b := fun _ _ _ _ h _ _ _ => (Bool.false_ne_true h).elim, lc := (fun _ _ _ _ q => nomatch q), lf := (fun _ _ _ _ _ q => nomatch q) }
  | asg tg a ha =>
    refine { e := fun _ _ _ _ h _ _ => (Bool.false_ne_true h).elim, t := fun _ _ _ _ h _ _ => (Bool.false_ne_true h).elim, l := fun _ _ _ _ h _ _ => (Bool.false_ne_true h).elim, d := fun _ _ _ _ h _ _ => (Bool.false_ne_true h).elim, r := fun _ _ _ _ h _ _ => (Bool.false_ne_true h).elim, o := fun _ _ _ _ h _ _ => (Bool.false_ne_true h).elim, i := fun _ _ _ _ _ h _ _ => (Bool.false_ne_true h).elim, s := ?_, b := fun _ _ _ _ h _ _ _ => (Bool.false_ne_true h).elim, lc := (fun _ _ _ _ q => nomatch q), lf := (fun _ _ _ _ _ q => nomatch q) }
    cases tg with
      | name i => exact ss_asg1 i ha.e ha.lc ha.lf
      | tup is => exact ss_asgT is ha.e
  | par is a ha =>
    refine { e := fun _ _ _ _ h _ _ => (Bool.false_ne_true h).elim, t := fun _ _ _ _ h _ _ => (Bool.false_ne_true h).elim, l := fun _ _ _ _ h _ _ => (Bool.false_ne_true h).elim, d := fun _ _ _ _ h _ _ => (Bool.false_ne_true h).elim, r := fun _ _ _ _ h _ _ => (Bool.false_ne_true h).elim, o := fun _ _ _ _ h _ _ => (Bool.false_ne_true h).elim, i := fun _ _ _ _ _ h _ _ => (Bool.false_ne_true h).elim, s := ss_par is ha.r, b := fun _ _ _ _ h _ _ _ => (Bool.false_ne_true h).elim, lc := (fun _ _ _ _ q => nomatch q), lf := (fun _ _ _ _ _ q => nomatch q) }
  | app i a ha =>
    refine { e := fun _ _ _ _ h _ _ => (Bool.false_ne_true h).elim, t := fun _ _ _ _ h _ _ => (Bool.false_ne_true h).elim, l := fun _ _ _ _ h _ _ => (Bool.false_ne_true h).elim, d := fun _ _ _ _ h _ _ => (Bool.false_ne_true h).elim, r := fun _ _ _ _ h _ _ => (Bool.false_ne_true h).elim, o := fun _ _ _ _ h _ _ => (Bool.false_ne_true h).elim, i := fun _ _ _ _ _ h _ _ => (Bool.false_ne_true h).elim, s := ss_app i ha.e, b := fun _ _ _ _ h _ _ _ => (Bool.false_ne_true h).elim, lc := (fun _ _ _ _ q => nomatch q), lf := (fun _ _ _ _ _ q => nomatch q) }
  | seti i a b ha hb =>
    refine { e := fun _ _ _ _ h _ _ => (Bool.false_ne_true h).elim, t := fun _ _ _ _ h _ _ => (Bool.false_ne_true h).elim, l := fun _ _ _ _ h _ _ => (Bool.false_ne_true h).elim, d := fun _ _ _ _ h _ _ => (Bool.false_ne_true h).elim, r := fun _ _ _ _ h _ _ => (Bool.false_ne_true h).elim, o := fun _ _ _ _ h _ _ => (Bool.false_ne_true h).elim, i := fun _ _ _ _ _ h _ _ => (Bool.false_ne_true h).elim, s := ss_seti i ha.e hb.e, b := fun _ _ _ _ h _ _ _ => (Bool.false_ne_true h).elim, lc := (fun _ _ _ _ q => nomatch q), lf := (fun _ _ _ _ _ q => nomatch q) }
  | ex a ha =>
    refine { e := fun _ _ _ _ h _ _ => (Bool.false_ne_true h).elim, t := fun _ _ _ _ h _ _ => (Bool.false_ne_true h).elim, l := fun _ _ _ _ h _ _ => (Bool.false_ne_true h).elim, d := fun _ _ _ _ h _ _ => (Bool.false_ne_true h).elim, r := fun _ _ _ _ h _ _ => (Bool.false_ne_true h).elim, o := fun _ _ _ _ h _ _ => (Bool.false_ne_true h).elim, i := fun _ _ _ _ _ h _ _ => (Bool.false_ne_true h).elim, s := ss_ex ha.e, b := fun _ _ _ _ h _ _ _ => (Bool.false_ne_true h).elim, lc := (fun _ _ _ _ q => nomatch q), lf := (fun _ _ _ _ _ q => nomatch q) }
  | ret a ha =>
    refine { e := fun _ _ _ _ h _ _ => (Bool.false_ne_true h).elim, t := fun _ _ _ _ h _ _ => (Bool.false_ne_true h).elim, l := fun _ _ _ _ h _ _ => (Bool.false_ne_true h).elim, d := fun _ _ _ _ h _ _ => (Bool.false_ne_true h).elim, r := fun _ _ _ _ h _ _ => (Bool.false_ne_true h).elim, o := fun _ _ _ _ h _ _ => (Bool.false_ne_true h).elim, i := fun _ _ _ _ _ h _ _ => (Bool.false_ne_true h).elim, s := ss_ret ha.e, b := fun _ _ _ _ h _ _ _ => (Bool.false_ne_true h).elim, lc := (fun _ _ _ _ q => nomatch q), lf := (fun _ _ _ _ _ q => nomatch q) }
  | retN  =>
    refine { e := fun _ _ _ _ h _ _ => (Bool.false_ne_true h).elim, t := fun _ _ _ _ h _ _ => (Bool.false_ne_true h).elim, l := fun _ _ _ _ h _ _ => (Bool.false_ne_true h).elim, d := fun _ _ _ _ h _ _ => (Bool.false_ne_true h).elim, r := fun _ _ _ _ h _ _ => (Bool.false_ne_true h).elim, o := fun _ _ _ _ h _ _ => (Bool.false_ne_true h).elim, i := fun _ _ _ _ _ h _ _ => (Bool.false_ne_true h).elim, s := ss_retN, b := fun _ _ _ _ h _ _ _ => (Bool.false_ne_true h).elim, lc := (fun _ _ _ _ q => nomatch q), lf := (fun _ _ _ _ _ q => nomatch q) }
  | ifS q a b hq ha hb =>
    refine { e := fun _ _ _ _ h _ _ => (Bool.false_ne_true h).elim, t := fun _ _ _ _ h _ _ => (Bool.false_ne_true h).elim, l := fun _ _ _ _ h _ _ => (Bool.false_ne_true h).elim, d := fun _ _ _ _ h _ _ => (Bool.false_ne_true h).elim, r := fun _ _ _ _ h _ _ => (Bool.false_ne_true h).elim, o := fun _ _ _ _ h _ _ => (Bool.false_ne_true h).elim, i := fun _ _ _ _ _ h _ _ => (Bool.false_ne_true h).elim, s := ss_if hq.t ha.b hb.b, b := fun _ _ _ _ h _ _ _ => (Bool.false_ne_true h).elim, lc := (fun _ _ _ _ q => nomatch q), lf := (fun _ _ _ _ _ q => nomatch q) }
  | forS tg a b ha hb =>
    refine { e := fun _ _ _ _ h _ _ => (Bool.false_ne_true h).elim, t := fun _ _ _ _ h _ _ => (Bool.false_ne_true h).elim, l := fun _ _ _ _ h _ _ => (Bool.false_ne_true h).elim, d := fun _ _ _ _ h _ _ => (Bool.false_ne_true h).elim, r := fun _ _ _ _ h _ _ => (Bool.false_ne_true h).elim, o := fun _ _ _ _ h _ _ => (Bool.false_ne_true h).elim, i := fun _ _ _ _ _ h _ _ => (Bool.false_ne_true h).elim, s := ss_for tg ha.i hb.b, b := fun _ _ _ _ h _ _ _ => (Bool.false_ne_true h).elim, lc := (fun _ _ _ _ q => nomatch q), lf := (fun _ _ _ _ _ q => nomatch q) }
  | whl n a b ha hb =>
    refine { e := fun _ _ _ _ h _ _ => (Bool.false_ne_true h).elim, t := fun _ _ _ _ h _ _ => (Bool.false_ne_true h).elim, l := fun _ _ _ _ h _ _ => (Bool.false_ne_true h).elim, d := fun _ _ _ _ h _ _ => (Bool.false_ne_true h).elim, r := fun _ _ _ _ h _ _ => (Bool.false_ne_true h).elim, o := fun _ _ _ _ h _ _ => (Bool.false_ne_true h).elim, i := fun _ _ _ _ _ h _ _ => (Bool.false_ne_true h).elim, s := ss_whl n ha.t hb.b, b := fun _ _ _ _ h _ _ _ => (Bool.false_ne_true h).elim, lc := (fun _ _ _ _ q => nomatch q), lf := (fun _ _ _ _ _ q => nomatch q) }
  | brk  =>
    refine { e := fun _ _ _ _ h _ _ => (Bool.false_ne_true h).elim, t := fun _ _ _ _ h _ _ => (Bool.false_ne_true h).elim, l := fun _ _ _ _ h _ _ => (Bool.false_ne_true h).elim, d := fun _ _ _ _ h _ _ => (Bool.false_ne_true h).elim, r := fun _ _ _ _ h _ _ => (Bool.false_ne_true h).elim, o := fun _ _ _ _ h _ _ => (Bool.false_ne_true h).elim, i := fun _ _ _ _ _ h _ _ => (Bool.false_ne_true h).elim, s := ss_brk, b := fun _ _ _ _ h _ _ _ => (Bool.false_ne_true h).elim, lc := (fun _ _ _ _ q => nomatch q), lf := (fun _ _ _ _ _ q => nomatch q) }
  | frz is a ha =>
    refine { e := fun _ _ _ _ h _ _ => (Bool.false_ne_true h).elim, t := fun _ _ _ _ h _ _ => (Bool.false_ne_true h).elim, l := fun _ _ _ _ h _ _ => (Bool.false_ne_true h).elim, d := fun _ _ _ _ h _ _ => (Bool.false_ne_true h).elim, r := fun _ _ _ _ h _ _ => (Bool.false_ne_true h).elim, o := fun _ _ _ _ h _ _ => (Bool.false_ne_true h).elim, i := fun _ _ _ _ _ h _ _ => (Bool.false_ne_true h).elim, s := fun _ _ _ _ h _ _ _ => (Bool.false_ne_true h).elim, b := sb_frz is ha.b, lc := (fun _ _ _ _ q => nomatch q), lf := (fun _ _ _ _ _ q => nomatch q) }
  | dnew  =>
    refine { e := se_dnew, t := fun _ _ _ _ h _ _ => (Bool.false_ne_true h).elim, l := fun _ _ _ _ h _ _ => (Bool.false_ne_true h).elim, d := fun _ _ _ _ h _ _ => (Bool.false_ne_true h).elim, r := fun _ _ _ _ h _ _ => (Bool.false_ne_true h).elim, o := fun _ _ _ _ h _ _ => (Bool.false_ne_true h).elim, i := fun _ _ _ _ _ h _ _ => (Bool.false_ne_true h).elim, s := fun _ _ _ _ h _ _ _ => (Bool.false_ne_true h).elim, b := fun _ _ _ _ h _ _ _ => (Bool.false_ne_true h).elim, lc := (fun _ _ _ _ q => nomatch q), lf := (fun _ _ _ _ _ q => nomatch q) }
  | dnew1 a b ha hb =>
    refine { e := se_dnew1 ha.e hb.e, t := fun _ _ _ _ h _ _ => (Bool.false_ne_true h).elim, l := fun _ _ _ _ h _ _ => (Bool.false_ne_true h).elim, d := fun _ _ _ _ h _ _ => (Bool.false_ne_true h).elim, r := fun _ _ _ _ h _ _ => (Bool.false_ne_true h).elim, o := fun _ _ _ _ h _ _ => (Bool.false_ne_true h).elim, i := fun _ _ _ _ _ h _ _ => (Bool.false_ne_true h).elim, s := fun _ _ _ _ h _ _ _ => (Bool.false_ne_true h).elim, b := fun _ _ _ _ h _ _ _ => (Bool.false_ne_true h).elim, lc := (fun _ _ _ _ q => nomatch q), lf := (fun _ _ _ _ _ q => nomatch q) }
  | dget a b d ha hb hd =>
    refine { e := se_dget ha.e hb.e hd.e, t := fun _ _ _ _ h _ _ => (Bool.false_ne_true h).elim, l := fun _ _ _ _ h _ _ => (Bool.false_ne_true h).elim, d := fun _ _ _ _ h _ _ => (Bool.false_ne_true h).elim, r := fun _ _ _ _ h _ _ => (Bool.false_ne_true h).elim, o := fun _ _ _ _ h _ _ => (Bool.false_ne_true h).elim, i := fun _ _ _ _ _ h _ _ => (Bool.false_ne_true h).elim, s := fun _ _ _ _ h _ _ _ => (Bool.false_ne_true h).elim, b := fun _ _ _ _ h _ _ _ => (Bool.false_ne_true h).elim, lc := (fun _ _ _ _ q => nomatch q), lf := (fun _ _ _ _ _ q => nomatch q) }
  | dix a b ha hb =>
    refine { e := se_dix ha.e hb.e, t := fun _ _ _ _ h _ _ => (Bool.false_ne_true h).elim, l := fun _ _ _ _ h _ _ => (Bool.false_ne_true h).elim, d := fun _ _ _ _ h _ _ => (Bool.false_ne_true h).elim, r := fun _ _ _ _ h _ _ => (Bool.false_ne_true h).elim, o := fun _ _ _ _ h _ _ => (Bool.false_ne_true h).elim, i := fun _ _ _ _ _ h _ _ => (Bool.false_ne_true h).elim, s := fun _ _ _ _ h _ _ _ => (Bool.false_ne_true h).elim, b := fun _ _ _ _ h _ _ _ => (Bool.false_ne_true h).elim, lc := (fun _ _ _ _ q => nomatch q), lf := (fun _ _ _ _ _ q => nomatch q) }
  | din no a b ha hb =>
    refine { e := se_din no ha.e hb.e, t := st_din no ha.e hb.e, l := fun _ _ _ _ h _ _ => (Bool.false_ne_true h).elim, d := fun _ _ _ _ h _ _ => (Bool.false_ne_true h).elim, r := fun _ _ _ _ h _ _ => (Bool.false_ne_true h).elim, o := fun _ _ _ _ h _ _ => (Bool.false_ne_true h).elim, i := fun _ _ _ _ _ h _ _ => (Bool.false_ne_true h).elim, s := fun _ _ _ _ h _ _ _ => (Bool.false_ne_true h).elim, b := fun _ _ _ _ h _ _ _ => (Bool.false_ne_true h).elim, lc := (fun _ _ _ _ q => nomatch q), lf := (fun _ _ _ _ _ q => nomatch q) }
  | dput i a b ha hb =>
    refine { e := fun _ _ _ _ h _ _ => (Bool.false_ne_true h).elim, t := fun _ _ _ _ h _ _ => (Bool.false_ne_true h).elim, l := fun _ _ _ _ h _ _ => (Bool.false_ne_true h).elim, d := fun _ _ _ _ h _ _ => (Bool.false_ne_true h).elim, r := fun _ _ _ _ h _ _ => (Bool.false_ne_true h).elim, o := fun _ _ _ _ h _ _ => (Bool.false_ne_true h).elim, i := fun _ _ _ _ _ h _ _ => (Bool.false_ne_true h).elim, s := ss_dput i ha.e hb.e, b := fun _ _ _ _ h _ _ _ => (Bool.false_ne_true h).elim, lc := (fun _ _ _ _ q => nomatch q), lf := (fun _ _ _ _ _ q => nomatch q) }
  | ikeys a ha =>
    refine { e := fun _ _ _ _ h _ _ => (Bool.false_ne_true h).elim, t := fun _ _ _ _ h _ _ => (Bool.false_ne_true h).elim, l := fun _ _ _ _ h _ _ => (Bool.false_ne_true h).elim, d := fun _ _ _ _ h _ _ => (Bool.false_ne_true h).elim, r := fun _ _ _ _ h _ _ => (Bool.false_ne_true h).elim, o := fun _ _ _ _ h _ _ => (Bool.false_ne_true h).elim, i := si_ikeys ha.e, s := fun _ _ _ _ h _ _ _ => (Bool.false_ne_true h).elim, b := fun _ _ _ _ h _ _ _ => (Bool.false_ne_true h).elim, lc := (fun _ _ _ _ q => nomatch q), lf := (fun _ _ _ _ _ q => nomatch q) }
  | knew  =>
    refine { e := se_knew, t := fun _ _ _ _ h _ _ => (Bool.false_ne_true h).elim, l := fun _ _ _ _ h _ _ => (Bool.false_ne_true h).elim, d := fun _ _ _ _ h _ _ => (Bool.false_ne_true h).elim, r := fun _ _ _ _ h _ _ => (Bool.false_ne_true h).elim, o := fun _ _ _ _ h _ _ => (Bool.false_ne_true h).elim, i := fun _ _ _ _ _ h _ _ => (Bool.false_ne_true h).elim, s := fun _ _ _ _ h _ _ _ => (Bool.false_ne_true h).elim, b := fun _ _ _ _ h _ _ _ => (Bool.false_ne_true h).elim, lc := (fun _ _ _ _ q => nomatch q), lf := (fun _ _ _ _ _ q => nomatch q) }
  | mnp z a ha =>
    refine { e := se_mnp z ha.e, t := fun _ _ _ _ h _ _ => (Bool.false_ne_true h).elim, l := fun _ _ _ _ h _ _ => (Bool.false_ne_true h).elim, d := fun _ _ _ _ h _ _ => (Bool.false_ne_true h).elim, r := fun _ _ _ _ h _ _ => (Bool.false_ne_true h).elim, o := fun _ _ _ _ h _ _ => (Bool.false_ne_true h).elim, i := fun _ _ _ _ _ h _ _ => (Bool.false_ne_true h).elim, s := fun _ _ _ _ h _ _ _ => (Bool.false_ne_true h).elim, b := fun _ _ _ _ h _ _ _ => (Bool.false_ne_true h).elim, lc := (fun _ _ _ _ q => nomatch q), lf := (fun _ _ _ _ _ q => nomatch q) }
  | tset a ha =>
    refine { e := se_tset ha.e, t := fun _ _ _ _ h _ _ => (Bool.false_ne_true h).elim, l := fun _ _ _ _ h _ _ => (Bool.false_ne_true h).elim, d := fun _ _ _ _ h _ _ => (Bool.false_ne_true h).elim, r := fun _ _ _ _ h _ _ => (Bool.false_ne_true h).elim, o := fun _ _ _ _ h _ _ => (Bool.false_ne_true h).elim, i := fun _ _ _ _ _ h _ _ => (Bool.false_ne_true h).elim, s := fun _ _ _ _ h _ _ _ => (Bool.false_ne_true h).elim, b := fun _ _ _ _ h _ _ _ => (Bool.false_ne_true h).elim, lc := (fun _ _ _ _ q => nomatch q), lf := (fun _ _ _ _ _ q => nomatch q) }
  | minv a ha =>
    refine { e := se_minv ha.e, t := fun _ _ _ _ h _ _ => (Bool.false_ne_true h).elim, l := fun _ _ _ _ h _ _ => (Bool.false_ne_true h).elim, d := fun _ _ _ _ h _ _ => (Bool.false_ne_true h).elim, r := fun _ _ _ _ h _ _ => (Bool.false_ne_true h).elim, o := fun _ _ _ _ h _ _ => (Bool.false_ne_true h).elim, i := fun _ _ _ _ _ h _ _ => (Bool.false_ne_true h).elim, s := fun _ _ _ _ h _ _ _ => (Bool.false_ne_true h).elim, b := fun _ _ _ _ h _ _ _ => (Bool.false_ne_true h).elim, lc := (fun _ _ _ _ q => nomatch q), lf := (fun _ _ _ _ _ q => nomatch q) }
  | cnt a b ha hb =>
    refine { e := se_cnt ha.e hb.e, t := fun _ _ _ _ h _ _ => (Bool.false_ne_true h).elim, l := fun _ _ _ _ h _ _ => (Bool.false_ne_true h).elim, d := fun _ _ _ _ h _ _ => (Bool.false_ne_true h).elim, r := fun _ _ _ _ h _ _ => (Bool.false_ne_true h).elim, o := fun _ _ _ _ h _ _ => (Bool.false_ne_true h).elim, i := fun _ _ _ _ _ h _ _ => (Bool.false_ne_true h).elim, s := fun _ _ _ _ h _ _ _ => (Bool.false_ne_true h).elim, b := fun _ _ _ _ h _ _ _ => (Bool.false_ne_true h).elim, lc := (fun _ _ _ _ q => nomatch q), lf := (fun _ _ _ _ _ q => nomatch q) }
  | kix a b ha hb =>
    refine { e := se_kix ha.e hb.e, t := fun _ _ _ _ h _ _ => (Bool.false_ne_true h).elim, l := fun _ _ _ _ h _ _ => (Bool.false_ne_true h).elim, d := fun _ _ _ _ h _ _ => (Bool.false_ne_true h).elim, r := fun _ _ _ _ h _ _ => (Bool.false_ne_true h).elim, o := fun _ _ _ _ h _ _ => (Bool.false_ne_true h).elim, i := fun _ _ _ _ _ h _ _ => (Bool.false_ne_true h).elim, s := fun _ _ _ _ h _ _ _ => (Bool.false_ne_true h).elim, b := fun _ _ _ _ h _ _ _ => (Bool.false_ne_true h).elim, lc := (fun _ _ _ _ q => nomatch q), lf := (fun _ _ _ _ _ q => nomatch q) }
  | kput i a b ha hb =>
    refine { e := fun _ _ _ _ h _ _ => (Bool.false_ne_true h).elim, t := fun _ _ _ _ h _ _ => (Bool.false_ne_true h).elim, l := fun _ _ _ _ h _ _ => (Bool.false_ne_true h).elim, d := fun _ _ _ _ h _ _ => (Bool.false_ne_true h).elim, r := fun _ _ _ _ h _ _ => (Bool.false_ne_true h).elim, o := fun _ _ _ _ h _ _ => (Bool.false_ne_true h).elim, i := fun _ _ _ _ _ h _ _ => (Bool.false_ne_true h).elim, s := ss_kput i ha.e hb.e, b := fun _ _ _ _ h _ _ _ => (Bool.false_ne_true h).elim, lc := (fun _ _ _ _ q => nomatch q), lf := (fun _ _ _ _ _ q => nomatch q) }
  | klist a ha =>
    refine { e := se_klist ha.e, t := fun _ _ _ _ h _ _ => (Bool.false_ne_true h).elim, l := fun _ _ _ _ h _ _ => (Bool.false_ne_true h).elim, d := fun _ _ _ _ h _ _ => (Bool.false_ne_true h).elim, r := fun _ _ _ _ h _ _ => (Bool.false_ne_true h).elim, o := fun _ _ _ _ h _ _ => (Bool.false_ne_true h).elim, i := fun _ _ _ _ _ h _ _ => (Bool.false_ne_true h).elim, s := fun _ _ _ _ h _ _ _ => (Bool.false_ne_true h).elim, b := fun _ _ _ _ h _ _ _ => (Bool.false_ne_true h).elim, lc := (fun _ _ _ _ q => nomatch q), lf := (fun _ _ _ _ _ q => nomatch q) }
  | srtset a ha =>
    refine { e := se_srtset ha.e, t := fun _ _ _ _ h _ _ => (Bool.false_ne_true h).elim, l := fun _ _ _ _ h _ _ => (Bool.false_ne_true h).elim, d := fun _ _ _ _ h _ _ => (Bool.false_ne_true h).elim, r := fun _ _ _ _ h _ _ => (Bool.false_ne_true h).elim, o := fun _ _ _ _ h _ _ => (Bool.false_ne_true h).elim, i := fun _ _ _ _ _ h _ _ => (Bool.false_ne_true h).elim, s := fun _ _ _ _ h _ _ _ => (Bool.false_ne_true h).elim, b := fun _ _ _ _ h _ _ _ => (Bool.false_ne_true h).elim, lc := (fun _ _ _ _ q => nomatch q), lf := (fun _ _ _ _ _ q => nomatch q) }
  | index a b ha hb =>
    refine { e := se_index ha.e hb.e, t := fun _ _ _ _ h _ _ => (Bool.false_ne_true h).elim, l := fun _ _ _ _ h _ _ => (Bool.false_ne_true h).elim, d := fun _ _ _ _ h _ _ => (Bool.false_ne_true h).elim, r := fun _ _ _ _ h _ _ => (Bool.false_ne_true h).elim, o := fun _ _ _ _ h _ _ => (Bool.false_ne_true h).elim, i := fun _ _ _ _ _ h _ _ => (Bool.false_ne_true h).elim, s := fun _ _ _ _ h _ _ _ => (Bool.false_ne_true h).elim, b := fun _ _ _ _ h _ _ _ => (Bool.false_ne_true h).elim, lc := (fun _ _ _ _ q => nomatch q), lf := (fun _ _ _ _ _ q => nomatch q) }
  | irng3 a b ha hb =>
    refine { e := fun _ _ _ _ h _ _ => (Bool.false_ne_true h).elim, t := fun _ _ _ _ h _ _ => (Bool.false_ne_true h).elim, l := fun _ _ _ _ h _ _ => (Bool.false_ne_true h).elim, d := fun _ _ _ _ h _ _ => (Bool.false_ne_true h).elim, r := fun _ _ _ _ h _ _ => (Bool.false_ne_true h).elim, o := fun _ _ _ _ h _ _ => (Bool.false_ne_true h).elim, i := si_irng3 ha.e hb.e, s := fun _ _ _ _ h _ _ _ => (Bool.false_ne_true h).elim, b := fun _ _ _ _ h _ _ _ => (Bool.false_ne_true h).elim, lc := (fun _ _ _ _ q => nomatch q), lf := (fun _ _ _ _ _ q => nomatch q) }
  | snil  =>
    refine { e := fun _ _ _ _ h _ _ => (Bool.false_ne_true h).elim, t := fun _ _ _ _ h _ _ => (Bool.false_ne_true h).elim, l := fun _ _ _ _ h _ _ => (Bool.false_ne_true h).elim, d := fun _ _ _ _ h _ _ => (Bool.false_ne_true h).elim, r := fun _ _ _ _ h _ _ => (Bool.false_ne_true h).elim, o := fun _ _ _ _ h _ _ => (Bool.false_ne_true h).elim, i := fun _ _ _ _ _ h _ _ => (Bool.false_ne_true h).elim, s := fun _ _ _ _ h _ _ _ => (Bool.false_ne_true h).elim, b := sb_nil, lc := (fun _ _ _ _ q => nomatch q), lf := (fun _ _ _ _ _ q => nomatch q) }
  | scons a b ha hb =>
    refine { e := fun _ _ _ _ h _ _ => (Bool.false_ne_true h).elim, t := fun _ _ _ _ h _ _ => (Bool.false_ne_true h).elim, l := fun _ _ _ _ h _ _ => (Bool.false_ne_true h).elim, d := fun _ _ _ _ h _ _ => (Bool.false_ne_true h).elim, r := fun _ _ _ _ h _ _ => (Bool.false_ne_true h).elim, o := fun _ _ _ _ h _ _ => (Bool.false_ne_true h).elim, i := fun _ _ _ _ _ h _ _ => (Bool.false_ne_true h).elim, s := fun _ _ _ _ h _ _ _ => (Bool.false_ne_true h).elim, b := sb_cons ha.s hb.b, lc := (fun _ _ _ _ q => nomatch q), lf := (fun _ _ _ _ _ q => nomatch q) }
end
end Ev

/-! The evaluator is sound: defs; the draws. -/
namespace Ev
open PySem PySem.Spec PyProof.Rows L2 C8

/-! ### the draws -/
abbrev rMod : R2 := rI (fun _ j => 0 < j) fun i j => .int (i % j)
abbrev rDivW : R2 := rI CDivW fun i j => .int (i / j)
abbrev rMulW : R2 := rI CMulW fun i j => .int (i * j)
abbrev rAdd0 : R2 := rI0 fun i j => .int (i + j)
abbrev rSub0 : R2 := rI0 fun i j => .int (i - j)
abbrev rGt0 : R2 := rI0 fun i j => .bl (decide (j < i))
abbrev rGe0 : R2 := rI0 fun i j => .bl (decide (j ≤ i))
abbrev rPow0 : R2 := rI CPow fun i j => .int (i ^ j.toNat)
abbrev rInt0 : List V → Hp → VK → Prop := fun xs H Q => (∃ i, xs = [.int i] ∧ Q (.int i) H) ∨ ∃ k, xs = [.bl k] ∧ Q (.int (if k then 1 else 0)) H
abbrev rLen0 (K : PySem.W.Frag) : List V → Hp → VK → Prop := fun xs H Q => ∃ x n, xs = [x] ∧ LenV K x H n ∧ Q (.int n) H
abbrev tIx (K : PySem.W.Frag) (i : Int) : TE := tOp (rIxL K) (tVar 0) (tC (.int i))
abbrev tIntOf (t : TE) : TE := tCB rInt0 (tCons t tNil)
abbrev tPut (te : TE) (i : Int) : TS := tAsg te (gSub (tVar 0) (tC (.int i)) rSetL)
abbrev t_taken (K : PySem.W.Frag) : TS :=
  tSeq (tIfS (tTest (tOp rGt0 (tIx K 3) (tC (.int 0)))) (tSeq (tAsg (tOp rMod (tIntOf (tIx K 3)) (tVar 1)) (gName 2)) (tSeq (tPut (tOp rDivW (tIx K 3) (tVar 1)) 3) (tRet (tVar 2)))) tNext)
  (tSeq (tPut (tOp rAdd0 (tIx K 1) (tC (.int 1))) 1)
  (tSeq (tIfS (tTest (tOp rGt0 (tIx K 1) (tCB (rLen0 K) (tCons (tIx K 0) tNil)))) (tSeq (tPut (tOp rMod (tIntOf (tOp rAdd0 (tOp rMulW (tIx K 2) (tC (.int 48271))) (tC (.int 11)))) (tC (.int 2147483647))) 2) (tRet (tOp rMod (tIntOf (tOp rDivW (tIx K 2) (tC (.int 7)))) (tVar 1)))) tNext)
  (tSeq (tAsg (tOp (rIxL K) (tIx K 0) (tOp rSub0 (tIx K 1) (tC (.int 1)))) (gName 3))
  (tSeq (tPut (tOp rMod (tIntOf (tOp rAdd0 (tOp rAdd0 (tOp rMulW (tIx K 2) (tC (.int 48271))) (tVar 3)) (tC (.int 11)))) (tC (.int 2147483647))) 2)
  (tSeq (tIfS (tTest (tOp rGe0 (tVar 3) (tOp rPow0 (tC (.int 10)) (tC (.int 18))))) (tPut (tOp rDivW (tVar 3) (tVar 1)) 3) tNext)
  (tRet (tOp rMod (tIntOf (tVar 3)) (tVar 1))))))))
theorem rl {K : PySem.W.Frag} {H : Hp} {a sc : Addr} {n s r : Int} {i : Int} {v : V} {Q : VK} (h : H a = some (.lst [.ref sc, .int n, .int s, .int r])) (e : atI [V.ref sc, .int n, .int s, .int r] i = some v) (q : Q v H) : rIxL K (.ref a) (.int i) H Q :=
  ⟨a, _, i, v, rfl, rfl, .inl (.inl h), e, q⟩
theorem mod_in {i m : Int} (h : 0 < m) : ∃ k : Nat, i % m = (k : Int) ∧ k < natOf m := by
  have h1 := Int.emod_nonneg i (Int.ne_of_gt h)
  have h2 := Int.emod_lt_of_pos i h
  refine ⟨(i % m).toNat, (Int.toNat_of_nonneg h1).symm, ?_⟩
  rw [natOf_toNat]
  omega
theorem pure_taken {c : Cf} {N : List Str} (hN : N.length = 4) (vs : List V) (H : Hp) (Q : VK) (E : XK) (h : spF c takeV vs H Q E) : t_taken c.K { nx := fun _ H' => Q .non H', rt := Q } (L2.start N vs) H := by
  obtain ⟨dr, F, args, rv, f, p⟩ := h
  unfold takeV at p
  split at p
  · rename_i m
    split at p
    · rename_i h1 h2
      rw [iLt_iff] at h1
      have hm : 0 < m := of_decide_eq_true h1
      have hb := pow_big h2
      match vs, rv with
      | [v1, v2], ⟨⟨a, hdr, ev⟩, r2, _⟩ =>
        subst ev
        cases (show Rp F v2 (.int m) from r2)
        obtain ⟨sc, ns, n, s, r, e0, sq, hl, hbits, hn, hs, hs2, hr⟩ := f.wd.row a hdr
        have σ0 : L2.start N [V.ref a, .int m] = [some (.ref a), some (.int m), none, none] := by
          unfold L2.start
          rw [hN]
          rfl
        rw [σ0]
        have fin : ∀ (n' s' r' : Int) (H' : Hp) (i : Int), 0 ≤ n' → 0 ≤ s' → s' < 2147483647 → 0 ≤ r' → (∀ b, b ≠ a → H' b = H b) → H' a = some (.lst [.ref sc, .int n', .int s', .int r']) → Q (.int (i % m)) H' := fun n' s' r' H' i q1 q2 q3 q4 q5 q6 => by
          obtain ⟨k, ek, hk⟩ := mod_in (i := i) hm
          have fa : F a = none := f.nsp a (.inl hdr)
          rw [ek]
          have na : ∀ b u, H b = some u → NTb u ∧ (∀ ob w, u ≠ .frz ob w) ∨ b ≠ a := fun b u e => by
            by_cases z : b = a
            · rw [z, e0] at e
              cases e
              exact .inl ⟨(fun _ q => nomatch q), (fun _ _ q => nomatch q)⟩
            · exact .inr z
          have nt : ∀ b ps, H b = some (.tbl ps) → b ≠ a := fun b ps e => (na b _ e).elim (fun q => absurd rfl (q.1 ps)) id
          have nz : ∀ b ob w, H b = some (.frz ob w) → b ≠ a := fun b ob w e => (na b _ e).elim (fun q => absurd rfl (q.2 ob w)) id
          refine p.2 k hk F H' (.int k) ⟨Le.refl _, ⟨fun b o hb nb _ => ?_, fun b ps hb => ⟨ps, by rw [q5 b (nt b ps hb)]; exact hb⟩⟩, fun _ _ z => z⟩ ⟨fun b o hb => ?_, f.nsp, ⟨fun b eb => ?_, fun q hq => ?_, f.wd.nf⟩⟩ (Rp.int _)
          · rw [q5 b (fun z => nb (.inl (by rw [z]; exact hdr)))]
            exact hb
          · rw [q5 b (ne_of_none hb fa)]
            exact f.le b o hb
          · have eab : a = b := Option.some.inj (hdr.symm.trans eb)
            rw [← eab]
            exact ⟨sc, ns, n', s', r', q6, sq, hl, hbits, q1, q2, q3, q4⟩
          · obtain ⟨ps, hp, ht, hc⟩ := f.wd.tab q hq
            refine ⟨ps, by rw [q5 q (nt q ps hp)]; exact hp, ht, fun pos cv e => ?_⟩
            obtain ⟨c', P', ob, u1, u2, u3, u4, qs, u5, u6⟩ := hc pos cv e
            exact ⟨c', P', ob, u1, by rw [q5 c' (nz _ _ _ u2)]; exact u2, u3, u4, qs, by rw [q5 P' (nt _ _ u5)]; exact u5, u6⟩
        have modr : ∀ i : Int, 0 ≤ i % 2147483647 ∧ i % 2147483647 < 2147483647 := fun i => ⟨Int.emod_nonneg _ (by decide), Int.emod_lt_of_pos _ (by decide)⟩
        have hmul : CMulW s 48271 := wide_mul (a := 40) (b := 40) (by omega) (by decide) (by decide) (by decide) (by decide)
        have up1 : ∀ {H1 : Hp} {o : HO}, (∀ b, b ≠ a → H1 b = H b) → ∀ b, b ≠ a → upd H1 a o b = H b := fun h b hb => by rw [upd_ne hb]; exact h b hb
        refine ⟨_, rfl, a, _, 3, .int r, rfl, rfl, .inl (.inl e0), rfl, _, _, rfl, rfl, decide (0 < r), rfl, ?_⟩
        by_cases hr0 : 0 < r
        · show (if decide (0 < r) = true then _ else _)
          rw [if_pos (decide_eq_true hr0)]
          refine ⟨_, rfl, a, _, 3, .int r, rfl, rfl, .inl (.inl e0), rfl, .inl ⟨_, rfl, _, rfl, _, _, rfl, rfl, hm, ?_⟩⟩
          refine ⟨_, rfl, a, _, 3, .int r, rfl, rfl, .inl (.inl e0), rfl, _, rfl, _, _, rfl, rfl, wide_div hm hb (by decide) (by decide), _, rfl, a, _, 3, 3, rfl, rfl, e0, rfl, _, rfl, ?_⟩
          exact fin n s (r / m) _ r hn hs hs2 (Int.ediv_nonneg (Int.le_of_lt hr0) (Int.le_of_lt hm)) (up1 fun _ _ => rfl) upd_same
        · show (if decide (0 < r) = true then _ else _)
          rw [if_neg (by rw [decide_eq_false hr0]; decide)]
          refine ⟨_, rfl, a, _, 1, .int n, rfl, rfl, .inl (.inl e0), rfl, _, _, rfl, rfl, _, rfl, a, _, 1, 1, rfl, rfl, e0, rfl, ?_⟩
          have e1 : upd H a (.lst [V.ref sc, .int (n + 1), .int s, .int r]) a = some (.lst [.ref sc, .int (n + 1), .int s, .int r]) := upd_same
          have k1 : ∀ b, b ≠ a → upd H a (.lst [V.ref sc, .int (n + 1), .int s, .int r]) b = H b := up1 fun _ _ => rfl
          have fsc : ∀ {H' : Hp}, (∀ b, b ≠ a → H' b = H b) → SqL c.K H' sc (ns.map V.int) := fun {H'} kk => by
            have fa : F a = none := f.nsp a (.inl hdr)
            refine sql_mono (F := F) (fun b o hb => ?_) sq
            rw [kk b (ne_of_none hb fa)]
            exact f.le b o hb
          show tSeq _ _ _ _ (upd H a (.lst [V.ref sc, .int (n + 1), .int s, .int r]))
          generalize upd H a (.lst [V.ref sc, .int (n + 1), .int s, .int r]) = Ha at e1 k1 ⊢
          refine ⟨_, rfl, a, _, 1, .int (n + 1), rfl, rfl, .inl (.inl e1), rfl, _, rfl, a, _, 0, .ref sc, rfl, rfl, .inl (.inl e1), rfl, _, _, rfl, .inl ⟨_, fsc k1, rfl⟩, _, _, rfl, rfl, decide (((ns.map V.int).length : Int) < n + 1), rfl, ?_⟩
          by_cases hlen : ((ns.map V.int).length : Int) < n + 1
          · show (if decide _ = true then _ else _)
            rw [if_pos (decide_eq_true hlen)]
            refine ⟨_, rfl, a, _, 2, .int s, rfl, rfl, .inl (.inl e1), rfl, _, _, rfl, rfl, hmul, _, _, rfl, rfl, .inl ⟨_, rfl, _, _, rfl, rfl, (show (0 : Int) < 2147483647 by decide), _, rfl, a, _, 2, 2, rfl, rfl, e1, rfl, ?_⟩⟩
            obtain ⟨b1, b2⟩ := modr (s * 48271 + 11)
            generalize hHb : upd Ha a _ = Hb
            have e2 : Hb a = some (.lst [V.ref sc, .int (n + 1), .int ((s * 48271 + 11) % 2147483647), .int r]) := by
              rw [← hHb]
              exact upd_same
            have k2 : ∀ b, b ≠ a → Hb b = H b := by
              rw [← hHb]
              exact up1 k1
            clear hHb
            generalize (s * 48271 + 11) % 2147483647 = s' at e2 b1 b2 ⊢
            refine ⟨_, rfl, a, _, 2, .int s', rfl, rfl, .inl (.inl e2), rfl, _, _, rfl, rfl, wide_div (b := 4) (by decide) (by decide) (by decide) (by decide), .inl ⟨_, rfl, _, rfl, _, _, rfl, rfl, hm, ?_⟩⟩
            exact fin (n + 1) s' r Hb _ (by omega) b1 b2 hr k2 e2
          · show (if decide _ = true then _ else _)
            rw [if_neg (by rw [decide_eq_false hlen]; decide)]
            obtain ⟨j, ej⟩ : ∃ j : Nat, n = (j : Int) := ⟨n.toNat, (Int.toNat_of_nonneg hn).symm⟩
            rw [List.length_map] at hlen
            have hj : j < ns.length := by omega
            have hcell : atI (ns.map V.int) (n + 1 - 1) = some (.int ns[j]) := by
              rw [show n + 1 - 1 = (j : Int) by omega]
              exact atI_nat (by simp [hj])
            refine ⟨_, rfl, a, _, 0, .ref sc, rfl, rfl, .inl (.inl e1), rfl, _, rfl, a, _, 1, .int (n + 1), rfl, rfl, .inl (.inl e1), rfl, _, _, rfl, rfl, sc, _, _, .int ns[j], rfl, rfl, fsc k1, hcell, ?_⟩
            refine ⟨_, rfl, a, _, 2, .int s, rfl, rfl, .inl (.inl e1), rfl, _, _, rfl, rfl, hmul, _, rfl, _, _, rfl, rfl, _, _, rfl, rfl, .inl ⟨_, rfl, _, _, rfl, rfl, (show (0 : Int) < 2147483647 by decide), _, rfl, a, _, 2, 2, rfl, rfl, e1, rfl, ?_⟩⟩
            obtain ⟨b1, b2⟩ := modr (s * 48271 + ns[j] + 11)
            generalize hHb : upd Ha a _ = Hb
            have e2 : Hb a = some (.lst [V.ref sc, .int (n + 1), .int ((s * 48271 + ns[j] + 11) % 2147483647), .int r]) := by
              rw [← hHb]
              exact upd_same
            have k2 : ∀ b, b ≠ a → Hb b = H b := by
              rw [← hHb]
              exact up1 k1
            clear hHb
            generalize (s * 48271 + ns[j] + 11) % 2147483647 = s' at e2 b1 b2 ⊢
            refine ⟨_, rfl, _, _, rfl, rfl, ⟨by decide, by decide, by decide⟩, _, _, rfl, rfl, decide ((10 : Int) ^ (18 : Int).toNat ≤ ns[j]), rfl, ?_⟩
            by_cases hbig : (10 : Int) ^ (18 : Int).toNat ≤ ns[j]
            · show (if decide _ = true then _ else _)
              rw [if_pos (decide_eq_true hbig)]
              have hpos : 0 ≤ ns[j] := Int.le_trans (by decide) hbig
              refine ⟨_, rfl, _, rfl, _, _, rfl, rfl, wide_div hm hb (by decide) (by decide), _, rfl, a, _, 3, 3, rfl, rfl, e2, rfl, ?_⟩
              refine ⟨_, rfl, .inl ⟨_, rfl, _, rfl, _, _, rfl, rfl, hm, ?_⟩⟩
              exact fin (n + 1) s' (ns[j] / m) _ _ (by omega) b1 b2 (Int.ediv_nonneg hpos (Int.le_of_lt hm)) (up1 k2) upd_same
            · show (if decide _ = true then _ else _)
              rw [if_neg (by rw [decide_eq_false hbig]; decide)]
              refine ⟨_, rfl, .inl ⟨_, rfl, _, rfl, _, _, rfl, rfl, hm, ?_⟩⟩
              exact fin (n + 1) s' r Hb _ (by omega) b1 b2 hr k2 e2
    · exact p.elim
  · exact p.elim
end Ev

/-! The evaluator is sound: defs, the law. -/
namespace Ev
open PySem PySem.Spec PyProof.Rows L2

section
variable {c : Cf} {dr : Option Addr} {F H : Hp}
theorem env0_ok : ∀ (n : Nat) (args : List Val) (vs : List V) {P : Env → Prop}, VReps c dr F args vs → (env0 n args).Post P → ∃ e, P e ∧ e.length = n ∧ vs.length ≤ n ∧ (∀ i x, slotAt e i = .v x → ∃ v, (vs.map some ++ List.replicate (n - vs.length) none)[i]? = some (some v) ∧ VRep c dr F x v) ∧ (∀ i x, slotAt e i ≠ .o x)
  | n, [], [], P, _, p => by
    have nov : ∀ (n i : Nat), slotAt (List.replicate n Slot.no) i = .no := by
      intro n
      induction n with
      | zero => intro i; rfl
      | succ n ih =>
        intro i
        cases i with
        | zero => rfl
        | succ i => exact ih i
    refine ⟨List.replicate n .no, by cases n <;> exact p, by simp, Nat.zero_le _, fun i x h => (by rw [nov] at h; cases h), fun i x h => (by rw [nov] at h; cases h)⟩
  | _, [], _ :: _, _, r, _ => r.elim
  | _, _ :: _, [], _, r, _ => r.elim
  | 0, _ :: _, _ :: _, _, _, p => p.elim
  | n + 1, x :: xs, v :: vs, P, r, p => by
    obtain ⟨e, h1, h2, h3, h4, h5⟩ := env0_ok n xs vs r.2 (R.post_bind p)
    have hn : n + 1 - (v :: vs).length = n - vs.length := by simp
    refine ⟨.v x :: e, h1, by simp [h2], Nat.succ_le_succ h3, fun i y h => ?_, fun i y h => ?_⟩
    · rw [hn]
      cases i with
      | zero =>
        cases h
        exact ⟨v, rfl, r.1⟩
      | succ i => exact h4 i y h
    · cases i with
      | zero => cases h
      | succ i => exact h5 i y h
end
section
variable {P : Program} {w : World} {K : PySem.W.Frag} {mg : Str → Option Value} {base : Heap} {ts : List Addr} {cf : Nat → List Val → R RV} {k : Nat} {fs : List Str} {gl : List (Str × Int)}
/-- what is known of the module at level k -/
structure Mdl (P : Program) (w : World) (K : PySem.W.Frag) (mg : Str → Option Value) (base : Heap) (ts : List Addr) (fs : List Str) (gl : List (Str × Int)) (cf : Nat → List Val → R RV) (k : Nat) : Prop where
  blt : ∀ x ∈ bltNames, mg x = none
  gl : ∀ x i, (x, i) ∈ gl → ∃ t, mg x = some (.int i t)
  fs : ∀ (f : Nat) x, fs[f]? = some x → ∃ a fd ps, mg x = some (.ref a) ∧ PySem.W.keepIn K (.ref a) = true ∧ Binds K fd ps [] ∧ FnOk P w K mg base C8.CX0 k a fd ps (spF ⟨K, ts, w⟩ (cf f))
/-- a def's code object has a table that is known -/
def CodeAt (K : PySem.W.Frag) (mg : Str → Option Value) (base : Heap) (ts : List Addr) (f : Addr) : Prop := ∀ oc od fd osl, K.lookup f = some ⟨oc, od, .func fd, osl⟩ → ∃ cd T, fd.code = .ref cd ∧ T ∈ ts ∧ GxR.TabB base mg cd T
theorem cx_good {N : List Str} {qual : Str} {scope : Scope} {f cd T : Addr} {A : Around} {outer : List PySem.Env} {s : Shared} {H : Hp} {E : XK} (M : Mdl P w K mg base ts fs gl cf k) (nd : N.Nodup) (hk : scope.kind = .function) (hT : T ∈ ts) (tb : GxR.TabB base mg cd T)
    (hr : Room (k + 2) (A.deeper (envOfC qual scope s.heap.objs.size f (.ref cd)))) : Good ⟨K, ts, w⟩ cf k ⟨N, scope, fun _ => true, fs, gl, 2⟩ (cxOf C8.CX0 P w K mg base N qual scope f (.ref cd) A outer s H E).nox :=
  ⟨rfl, rfl, rfl, nd, rfl, hk, rfl, rfl, hr, Nat.le_refl _, fun _ => ⟨cd, T, rfl, tb.bm, tb.gP, .inl ⟨hT, tb.code⟩⟩, rfl, M.blt, M.gl, M.fs⟩
theorem def_ok {x qual : Str} {params : Arguments} {body : List Stmt} {scope : Scope} {f : Addr} {fd : FuncData} {N ps : List Str} {df : Def} (F : FunD K x qual params body scope [] [] f fd) (S : FnScope N ps scope) (hsl : df.slots = N.length) (har : df.ar = ps.length)
    (M : Mdl P w K mg base ts fs gl cf k) (hcode : CodeAt K mg base ts f) (hch : chkB ⟨N, scope, fun _ => true, fs, gl, 2⟩ df.body body = true) : FnOk P w K mg base C8.CX0 (k + 3) f fd ps (spF ⟨K, ts, w⟩ (runDef cf df)) := by
  obtain ⟨oc, od, dV, kV, doc, pm, an, cdv, ct, osl, rfl, lk, hcd, _, _⟩ := F.ex
  obtain ⟨cd, T, ecd, hT, tb⟩ := hcode _ _ _ _ lk
  have ecd : cdv = .ref cd := ecd
  subst ecd
  have vl : ∀ {dr : Option Addr} {F : Hp} {args : List Val} {vs : List V}, VReps ⟨K, ts, w⟩ dr F args vs → args.length = vs.length := fun {dr F args} => by
    induction args with
    | nil => intro vs r; cases vs with
      | nil => rfl
      | cons _ _ => exact r.elim
    | cons a as ih => intro vs r; cases vs with
      | nil => exact r.elim
      | cons _ _ => exact congrArg Nat.succ (ih r.2)
  refine fn_of lk hcd S (fun vs H Q E h => ?_) fun A outer s H vs Q E hr h => ?_
  · obtain ⟨dr, F, args, rv, f, p⟩ := h
    unfold runDef at p
    cases q : Nat.beq args.length df.ar with
    | false => rw [q] at p; exact p.elim
    | true =>
      rw [← har, ← Nat.eq_of_beq_eq_true q]
      exact (vl rv).symm
  · obtain ⟨dr, F, args, rv, fi, p⟩ := h
    unfold runDef at p
    cases q : Nat.beq args.length df.ar with
    | false => rw [q] at p; exact p.elim
    | true =>
      rw [q] at p
      obtain ⟨e, p, he1, he2, he3, he4⟩ := env0_ok df.slots args vs rv (R.post_bind p)
      have G := cx_good (N := N) (qual := qual) (scope := scope) (f := f) (A := A) (outer := outer) (s := s) (H := H) (E := E) M S.nd S.kind hT tb hr
      refine ⟨_, ((all_ok ⟨K, ts, w⟩ cf k df.body).b _ _ G body hch dr H F).nox, F, e, ⟨fi.le, fi.nsp, Ext.refl, fi.wd, ?_, fun i x h => ?_, fun i x h => absurd h (he4 i x), fun i j x y a h _ _ _ => absurd h (he4 i x)⟩, Gr.refl, (R.post_bind p).mono fun o p => ?_⟩
      · unfold L2.start
        rw [List.length_append, List.length_map, List.length_replicate, he1, hsl]
        omega
      · obtain ⟨v, h1, h2⟩ := he3 i x h
        refine ⟨v, ?_, h2⟩
        unfold L2.start
        rw [← hsl]
        exact h1
      · cases o with
        | nx e' => exact fun F' H' σ' l st g => p F' H' .non g st.fin Rp.non
        | bk e' => exact p.elim
        | rt r =>
          intro F' H' σ' e' v l st g rr
          cases r with
          | v x => exact p F' H' v g st.fin rr
          | o x =>
            obtain ⟨a, rfl, h1, h2, h3, h4, _⟩ := rr
            exact p F' H' _ g st.fin ⟨a, rfl, h1, h2, h3, h4, fun i y h => by cases i <;> cases h⟩
          | b i x =>
            obtain ⟨h1, h2⟩ := rr
            obtain ⟨a, e1, h3, h4, h5, h6⟩ := st.own i x h1
            rw [e1] at h2
            cases h2
            exact p F' H' _ g st.fin ⟨a, rfl, h3, h4, h5, h6, fun i y h => by cases i <;> cases h⟩
theorem tk_ok {x qual : Str} {params : Arguments} {body : List Stmt} {scope : Scope} {f : Addr} {fd : FuncData} {N ps : List Str} (F : FunD K x qual params body scope [] [] f fd) (S : FnScope N ps scope) (hN : N.length = 4) (hps : ps.length = 2)
    (hbody : ∀ (cdv : Value) (A : Around) (outer : List PySem.Env) (s : Shared) (H : Hp) (E : XK), PSs (cxOf C8.CX0 P w K mg base N qual scope f cdv A outer s H E) body (t_taken K)) : FnOk P w K mg base C8.CX0 (k + 3) f fd ps (spF ⟨K, ts, w⟩ takeV) := by
  obtain ⟨oc, od, dV, kV, doc, pm, an, cdv, ct, osl, rfl, lk, hcd, _, _⟩ := F.ex
  refine fn_of lk hcd S (fun vs H Q E h => ?_) fun A outer s H vs Q E hr h => ⟨_, hbody cdv A outer s H E, pure_taken (c := ⟨K, ts, w⟩) hN vs H Q E h⟩
  obtain ⟨dr, F, args, rv, f, p⟩ := h
  unfold takeV at p
  split at p
  · match vs, rv with
    | [_, _], _ => exact hps.symm
  · exact p.elim
theorem none_ok {f : Addr} {fd : FuncData} {ps : List Str} {g : List Val → R RV} (h : ∀ a, g a = .stuck) (j : Nat) : FnOk P w K mg base C8.CX0 j f fd ps (spF ⟨K, ts, w⟩ g) :=
  ⟨fun vs H Q E ⟨dr, F, args, _, _, p⟩ => by rw [h] at p; exact p.elim, fun A outer s H args us vs Q E _ _ _ _ ⟨dr, F, args', _, _, p⟩ => by rw [h] at p; exact p.elim⟩
/-! ### the law -/
def R.all {α : Type} (p : α → Bool) : R α → Bool
  | .ok a => p a
  | .stuck => false
  | .draw m k => Nat.blt 0 m && (List.range m).all fun v => (k v).all p
theorem R.all_post {α : Type} {p : α → Bool} : ∀ {r : R α}, r.all p = true → r.Post fun a => p a = true
  | .ok _, h => h
  | .stuck, h => by cases h
  | .draw m k, h => by
    obtain ⟨h1, h2⟩ := and2 (show (Nat.blt 0 m && (List.range m).all fun v => (k v).all p) = true from h)
    rw [nblt] at h1
    exact ⟨of_decide_eq_true h1, fun v hv => R.all_post (List.all_eq_true.mp h2 v (List.mem_range.mpr hv))⟩
def isT : Out → Bool
  | .rt (.v (.d (.bool true))) => true
  | _ => false
theorem isT_eq {o : Out} (h : isT o = true) : o = .rt (.v (.d (.bool true))) := by
  unfold isT at h
  split at h
  · rfl
  · cases h
def rowEnv (n : Nat) : Env := .no :: .v .row :: List.replicate n .no
def spLaw (K : PySem.W.Frag) (ts : List Addr) : Sp := fun vs H Q _ => ∃ (a : Addr) (ns : List Int), vs = [.ref a] ∧ SqL K H a (ns.map V.int) ∧ ns.length ≤ 63 ∧ (∀ z ∈ ns, Builtin.Int.intBits z ≤ 1048576) ∧ (∀ p ∈ ts, H p = some (.tbl #[])) ∧ ∀ H', Q (.bl true) H'
theorem law_ok {x qual : Str} {params : Arguments} {s0 : Stmt} {body : List Stmt} {scope : Scope} {f : Addr} {fd : FuncData} {n : Nat} {N : List Str} {p0 : Str} {ex : Ex} {seed : Int} {px p1 p2 p3 p4 p5 p6 : Pos} {k1 k2 k3 : Nat} {xr : Str} (F : FunD K x qual params (s0 :: body) scope [] [] f fd)
    (hs0 : s0 = .Assign [.Name xr px] (.List [.Name p0 p1, .Constant (.int 0) k1 p2, .Constant (.int seed) k2 p3, .Constant (.int 0) k3 p4] p5) p6)
    (S : FnScope N [p0] scope) (hN : N.length = n + 2) (h0 : N[0]? = some p0) (h1 : N[1]? = some xr) (hv : Vis scope p0) (hl : Loc scope xr) (hd : dbg p0 = false) (hseed : 0 ≤ seed ∧ seed < 2147483647)
    (M : Mdl P w K mg base ts fs gl cf k) (hcode : CodeAt K mg base ts f) (hch : chkB ⟨N, scope, fun _ => true, fs, gl, 2⟩ ex body = true) (hlaw : (dS cf ex (rowEnv n)).Post fun o => isT o = true) : FnOk P w K mg base C8.CX0 (k + 3) f fd [p0] (spLaw K ts) := by
  obtain ⟨oc, od, dV, kV, doc, pm, an, cdv, ct, osl, rfl, lk, hcd, _, _⟩ := F.ex
  obtain ⟨cd, T, ecd, hT, tb⟩ := hcode _ _ _ _ lk
  have ecd : cdv = .ref cd := ecd
  subst ecd
  refine fn_of lk hcd S (fun vs H Q E h => ?_) fun A outer s H vs Q E hr h => ?_
  · obtain ⟨a, ns, rfl, _⟩ := h
    rfl
  · obtain ⟨a, ns, rfl, sq, hlen, hbits, htab, hq⟩ := h
    have G := cx_good (N := N) (qual := qual) (scope := scope) (f := f) (A := A) (outer := outer) (s := s) (H := H) (E := E) M S.nd S.kind hT tb hr
    subst hs0
    refine ⟨_, (pss_cons (ps_set G.nd h1 hl (pe_lst (pa_cons (pe_var h0 hv (dbg_ne hd).1 (dbg_ne hd).2.1) (pa_cons pe_int (pa_cons pe_int (pa_cons pe_int pa_nil))))) rfl (.inl rfl))
      (⟨fun pins s σ H D I ⟨p, H0, F0, wt⟩ => ((all_ok ⟨K, ts, w⟩ cf k ex).b _ _ G body hch (some p) H0 F0).run pins s σ H D I wt⟩ : PSs _ body (fun D σ H => ∃ p H0 F0, tS ⟨K, ts, w⟩ (some p) H0 F0 (dS cf ex) D σ H))).nox, ?_⟩
    have hst : L2.start N [V.ref a] = some (.ref a) :: List.replicate (n + 1) none := by
      unfold L2.start
      rw [hN]
      rfl
    rw [hst]
    refine ⟨_, rfl, (by show 4 ≤ sizeLine; decide), fun p hp => ?_⟩
    show ∃ pp H0 F0, tS ⟨K, ts, w⟩ (some pp) H0 F0 (dS cf ex) { nx := fun _ H' => Q .non H', rt := Q } ((some (.ref a) :: List.replicate (n + 1) none).set 1 (some (.ref p))) (upd H p (.lst [.ref a, .int 0, .int seed, .int 0]))
    have pts : p ∉ ts := fun z => by
      rw [htab p z] at hp
      cases hp
    have key : ∀ F0 : Hp, SqL K F0 a (ns.map V.int) → (∀ b o, F0 b = some o → H b = some o ∧ b ∉ ts) → (∀ b ps, F0 b ≠ some (HO.tbl ps)) → tS ⟨K, ts, w⟩ (some p) (upd H p (.lst [.ref a, .int 0, .int seed, .int 0])) F0 (dS cf ex) { nx := fun _ H' => Q .non H', rt := Q } ((some (.ref a) :: List.replicate (n + 1) none).set 1 (some (.ref p))) (upd H p (.lst [.ref a, .int 0, .int seed, .int 0])) := fun F0 hF hF2 hnf => by
      have sl : ∀ i x, slotAt (rowEnv n) i = .v x → i = 1 ∧ x = .row := fun i x h => by
        match i, h with
        | 1, h => cases h; exact ⟨rfl, rfl⟩
        | i + 2, h =>
          have nov : ∀ (n i : Nat), slotAt (List.replicate n Slot.no) i = .no := by
            intro n
            induction n with
            | zero => intro i; rfl
            | succ n ih =>
              intro i
              cases i with
              | zero => rfl
              | succ i => exact ih i
          have h : slotAt (List.replicate n Slot.no) i = .v x := h
          rw [nov] at h
          cases h
      have so : ∀ i x, slotAt (rowEnv n) i ≠ .o x := fun i x h => by
        match i, h with
        | i + 2, h =>
          have nov : ∀ (n i : Nat), slotAt (List.replicate n Slot.no) i = .no := by
            intro n
            induction n with
            | zero => intro i; rfl
            | succ n ih =>
              intro i
              cases i with
              | zero => rfl
              | succ i => exact ih i
          have h : slotAt (List.replicate n Slot.no) i = .o x := h
          rw [nov] at h
          cases h
      have nF : ∀ b, Spc ⟨K, ts, w⟩ (some p) b → F0 b = none := fun b hb => by
        cases q : F0 b with
        | none => rfl
        | some o =>
          obtain ⟨q1, q2⟩ := hF2 b o q
          rcases hb with hb | hb
          · cases hb
            rw [hp] at q1
            cases q1
          · exact absurd hb q2
      refine ⟨F0, rowEnv n, ⟨fun b o hb => ?_, nF, Ext.refl, ⟨fun b hb => ?_, fun q hq' => ?_, hnf⟩, by simp [rowEnv], fun i x h => ?_, fun i x h => absurd h (so i x), fun i j x y a h _ _ _ => absurd h (so i x)⟩, Gr.refl, hlaw.mono fun o ho => ?_⟩
      · rw [upd_ne (ne_of_none (hF2 b o hb).1 hp)]
        exact (hF2 b o hb).1
      · cases hb
        exact ⟨a, ns, 0, seed, 0, upd_same, hF, hlen, hbits, by decide, hseed.1, hseed.2, by decide⟩
      · have ne : q ≠ p := fun z => pts (by rw [← z]; exact hq')
        exact ⟨#[], by rw [upd_ne ne]; exact htab q hq', trivial, fun pos cv e => by cases e⟩
      · obtain ⟨rfl, rfl⟩ := sl i x h
        exact ⟨.ref p, by simp, p, rfl, rfl⟩
      · rw [isT_eq ho]
        intro F' H' σ' e' v l st g rr
        cases (show Rp F' v (.bool true) from rr)
        exact hq H'
    rcases sq with sq | sq
    · refine ⟨p, _, fun b => if b = a then H a else none, key _ (.inl ?_) (fun b o hb => ?_) fun b ps hb => ?_⟩
      · rcases sq with sq | ⟨ob, sq⟩
        · exact .inl (by show (if a = a then H a else none) = _; rw [if_pos rfl]; exact sq)
        · exact .inr ⟨ob, by show (if a = a then H a else none) = _; rw [if_pos rfl]; exact sq⟩
      · by_cases z : b = a
        · rw [if_pos z] at hb
          refine ⟨by rw [z]; exact hb, fun hb2 => ?_⟩
          rw [z] at hb2
          have q := htab a hb2
          rcases sq with sq | ⟨ob, sq⟩ <;> rw [q] at sq <;> cases sq
        · rw [if_neg z] at hb
          cases hb
      · by_cases z : b = a
        · rw [if_pos z] at hb
          rcases sq with sq | ⟨ob, sq⟩ <;> rw [hb] at sq <;> cases sq
        · rw [if_neg z] at hb
          cases hb
    · exact ⟨p, _, fun _ => none, key _ (.inr sq) (fun b o hb => by cases hb) fun b ps hb => by cases hb⟩
end
end Ev

/-! From a program's text to its law. -/
namespace Ev
open PySem PySem.Spec PyProof.Rows L2

/-! ### the end -/
theorem walk_ofAll {l : PySem.W.OpenLaw} {n k : Nat} {q : Program} {loose : List Str} {XP : (Str → Option Value) → Heap → Prop} {YP : World → Heap → Prop} {d : DefRec} {CX : World → CXT} {x : Str}
    (hn : l.most = some n) (hn2 : n ≤ sizeLine) (hdf : d.params.defaults = []) (hr : Room k callerA)
    (F : ∀ (w : World) (mg : Str → Option Value) (fa : Addr) (h : Heap), YP w h → h.Ns mainGlobals mg → mg d.name = some (.ref fa) →
      (∀ (K : PySem.W.Frag) (y : Str) (dl : DefRec) (c P : Addr), K.In h → (recsOf q).find? (fun e => e.name == y) = some dl → PySem.W.tabIn K y = some (c, P) → PySem.W.CodeHd h c P ∧ h.get? P = some (PySem.W.tabObj #[])) → ∃ K : PySem.W.Frag, K.In h ∧ LamX.LawAtS l w K (CX w) k n x mg fa h)
    (hCX : ∀ (w : World) (H : Hp) (s : Shared) (e : Value) (s' : Shared), CX w [] H s (fun _ _ _ => False) e s' → False) :
    PySem.W.WalkO q loose XP YP l.row.toRowW d [] (fun f vs => PySem.call f vs) := by
  refine Att.attach_callB hn hdf fun w s₀ s₁ mg mb fa o pm cd doc a vs ns G Y ho hd hcd hmg hobj hints hlen hbits hg => ?_
  obtain ⟨K, KX, fd, cs, sp, hT, nT, C, hb, hsp, hF⟩ := F w mg fa _ Y G.T.g hmg fun K y dl c P KX hr ht => PySem.W.tab_of G.T KX hr ht
  exact LamX.law_callTs KX G.T.g G.T.b G.T.builtins G.T.nolimit hg hT nT C G.T.bmain hobj hints (Nat.le_trans hlen hn2) hr hF hb (fun H hH hS => hsp H a ns hlen hbits hH hS) fun H e s' => hCX w H s₁ e s'
/-- the tables are no part of what is held -/
def tabsB (K : PySem.W.Frag) (xs : List Str) : Bool := xs.all fun x => match PySem.W.tabIn K x with
  | some (_, P) => (match K.lookup P with
    | none => true
    | some _ => false)
  | none => false
abbrev AlT : Type := He.AlD × Bool
def obsT (fa : List He.Fa) (fn : List He.DefD) (xs : List Str) (K : PySem.W.Frag) : AlT := (He.obsD fa fn K, tabsB K xs)
def obsTG (n : Nat) (fa : List He.Fa) (fn : List He.DefD) (xs : List Str) (g : Addr → Option Obj) : AlT := obsT fa fn xs (He.frG g (He.asG g n))
def hookT (n : Nat) (fa : List He.Fa) (fn : List He.DefD) (xs : List Str) : PySem.W.Hook where
  α := AlT
  obs := fun s => obsTG n fa fn xs s.heap.get?
  val := fun _ => (He.valD fn, true)
  says := fun _ h => ∃ K : PySem.W.Frag, K.In h ∧ He.SaysD fa fn K ∧ tabsB K xs = true
  of := fun _ s e => ⟨He.frG s.heap.get? (He.asG s.heap.get? n), He.frG_in, congrArg (fun z : AlT => z.1) e, congrArg (fun z : AlT => z.2) e⟩
  keeps := fun _ _ _ ⟨K, hK, c⟩ k => ⟨K, PySem.W.Frag.In.keeps hK k, c⟩
theorem obsTG_eq {n : Nat} {fa : List He.Fa} {fn : List He.DefD} {xs : List Str} {g : Addr → Option Obj} {s : Shared} (h : ∀ a, g a = s.heap.get? a) : obsTG n fa fn xs g = (hookT n fa fn xs).obs s := by
  have e : g = s.heap.get? := funext h
  rw [e] <;> rfl

/-! ### the text -/
def topDefs : List Stmt → List He.DefD
  | [] => []
  | .FunctionDef (name := x) (args := a) (body := b) (scope := s) .. :: r => ⟨(x, none), x, x, a, b, s, [], []⟩ :: topDefs r
  | _ :: r => topDefs r
def psOf (d : He.DefD) : List Str := d.params.args.map (·.arg)
def isNoE : Ex → Bool
  | .noE => true
  | _ => false
/-- this def of the evaluator's is that of the text -/
def chk1 (fs : List Str) (gl : List (Str × Int)) (N : List Str) (df : Def) (d : He.DefD) : Bool := match df.tk with
  | true => C8.scC N (psOf d) d.scope && Nat.beq N.length 4 && Nat.beq (psOf d).length 2
  | false => match isNoE df.body with
    | true => true
    | false => C8.scC N (psOf d) d.scope && Nat.beq df.slots N.length && Nat.beq df.ar (psOf d).length && chkB ⟨N, d.scope, fun _ => true, fs, gl, 2⟩ df.body d.body
def chks (fs : List Str) (gl : List (Str × Int)) : List (List Str) → List Def → List He.DefD → Bool
  | [], [], [] => true
  | N :: Ns, df :: T, d :: ds => chk1 fs gl N df d && chks fs gl Ns T ds
  | _, _, _ => false
theorem chks_at {fs : List Str} {gl : List (Str × Int)} : ∀ {Ns : List (List Str)} {T : List Def} {ds : List He.DefD} {f : Nat} {d : He.DefD}, chks fs gl Ns T ds = true → ds[f]? = some d → ∃ N df, Ns[f]? = some N ∧ T[f]? = some df ∧ chk1 fs gl N df d = true
  | [], [], [], _, _, _, e => by simp at e
  | N :: Ns, df :: T, d :: ds, 0, d', h, e => by
    obtain ⟨h1, _⟩ := and2 (show (chk1 fs gl N df d && chks fs gl Ns T ds) = true from h)
    simp at e
    subst e
    exact ⟨N, df, rfl, rfl, h1⟩
  | N :: Ns, df :: T, d :: ds, f + 1, d', h, e => by
    obtain ⟨_, h2⟩ := and2 (show (chk1 fs gl N df d && chks fs gl Ns T ds) = true from h)
    obtain ⟨N', df', e1, e2, e3⟩ := chks_at (f := f) h2 (by simpa using e)
    exact ⟨N', df', by simpa using e1, by simpa using e2, e3⟩
  | [], [], _ :: _, _, _, h, _ => (Bool.false_ne_true h).elim
  | [], _ :: _, _, _, _, h, _ => (Bool.false_ne_true h).elim
  | _ :: _, [], _, _, _, h, _ => (Bool.false_ne_true h).elim
  | _ :: _, _ :: _, [], _, _, h, _ => (Bool.false_ne_true h).elim
theorem find_get : ∀ (T : List Def) (f : Nat), find T f = T[f]?
  | [], f => by cases f <;> rfl
  | _ :: _, 0 => rfl
  | _ :: r, f + 1 => by
    show find r f = _
    rw [find_get r f]
    simp
theorem run_noE {cf : Nat → List Val → R RV} {df : Def} (h : isNoE df.body = true) (a : List Val) : runDef cf df a = .stuck := by
  have hb : df.body = .noE := by
    cases q : df.body <;> rw [q] at h <;> first | rfl | cases h
  unfold runDef
  cases Nat.beq a.length df.ar with
  | false => rfl
  | true =>
    rw [hb]
    show (env0 df.slots a).bind _ = _
    have st : ∀ (n : Nat) (xs : List Val), (∃ e, env0 n xs = .ok e) ∨ env0 n xs = .stuck := by
      intro n xs
      induction xs generalizing n with
      | nil => cases n <;> exact .inl ⟨_, rfl⟩
      | cons x xs ih =>
        cases n with
        | zero => exact .inr rfl
        | succ n =>
          rcases ih n with ⟨e, q⟩ | q
          · exact .inl ⟨.v x :: e, by show (env0 n xs).bind _ = _; rw [q]; rfl⟩
          · exact .inr (by show (env0 n xs).bind _ = _; rw [q]; rfl)
    rcases st df.slots a with ⟨e, q⟩ | q <;> rw [q] <;> rfl
section
variable {P : Program} {w : World} {K : PySem.W.Frag} {mg : Str → Option Value} {base : Heap} {ts : List Addr} {fs : List Str} {gl : List (Str × Int)} {T : List Def} {Ns : List (List Str)} {ds : List He.DefD}
/-- the defs as they stand behind the top -/
def Txt (K : PySem.W.Frag) (mg : Str → Option Value) (base : Heap) (ts : List Addr) (fs : List Str) (ds : List He.DefD) : Prop := ∀ (f : Nat) (x : Str), fs[f]? = some x → ∃ d fd, ds[f]? = some d ∧ mg x = some (.ref (He.fAd K d.at_)) ∧ PySem.W.keepIn K (.ref (He.fAd K d.at_)) = true ∧
  FunD K d.name d.qual d.params d.body d.scope [] [] (He.fAd K d.at_) fd ∧ Binds K fd (psOf d) [] ∧ CodeAt K mg base ts (He.fAd K d.at_)
theorem mdl_all (hblt : ∀ x ∈ bltNames, mg x = none) (hgl : ∀ x i, (x, i) ∈ gl → ∃ t, mg x = some (.int i t)) (tx : Txt K mg base ts fs ds) (hch : chks fs gl Ns T ds = true)
    (htk : ∀ (f : Nat) (d : He.DefD) (df : Def) (N : List Str), T[f]? = some df → df.tk = true → ds[f]? = some d → Ns[f]? = some N → ∀ (fa : Addr) (cdv : Value) (A : Around) (outer : List PySem.Env) (s : Shared) (H : Hp) (E : XK), PSs (cxOf C8.CX0 P w K mg base N d.qual d.scope fa cdv A outer s H E) d.body (t_taken K)) :
    ∀ k, Mdl P w K mg base ts fs gl (cfN T k) (3 * k) := by
  intro k
  induction k with
  | zero =>
    refine ⟨hblt, hgl, fun f x hx => ?_⟩
    obtain ⟨d, fd, h1, h2, h3, h4, h5, h6⟩ := tx f x hx
    exact ⟨_, fd, psOf d, h2, h3, h5, none_ok (fun _ => rfl) _⟩
  | succ k ih =>
    refine ⟨hblt, hgl, fun f x hx => ?_⟩
    obtain ⟨d, fd, h1, h2, h3, h4, h5, h6⟩ := tx f x hx
    refine ⟨_, fd, psOf d, h2, h3, h5, ?_⟩
    obtain ⟨N, df, e1, e2, e3⟩ := chks_at hch h1
    have ef : cfN T (k + 1) f = match df.tk with | true => takeV | false => runDef (cfN T k) df := by
      funext args
      show (match find T f with | some df => (match df.tk with | true => takeV args | false => runDef (cfN T k) df args) | none => R.stuck) = _
      rw [find_get, e2]
      show (match df.tk with | true => takeV args | false => runDef (cfN T k) df args) = _
      cases df.tk <;> rfl
    rw [ef]
    unfold chk1 at e3
    cases q : df.tk with
    | true =>
      rw [q] at e3
      obtain ⟨c1, c3⟩ := and2 e3
      obtain ⟨c1, c2⟩ := and2 c1
      exact tk_ok h4 (C8.fnScope_by c1) (Nat.eq_of_beq_eq_true c2) (Nat.eq_of_beq_eq_true c3) fun cdv A outer s H E => htk f d df N e2 q h1 e1 _ cdv A outer s H E
    | false =>
      rw [q] at e3
      cases q2 : isNoE df.body with
      | true => exact none_ok (fun a => run_noE q2 a) _
      | false =>
        rw [q2] at e3
        obtain ⟨c1, c4⟩ := and2 e3
        obtain ⟨c1, c3⟩ := and2 c1
        obtain ⟨c1, c2⟩ := and2 c1
        exact def_ok h4 (C8.fnScope_by c1) (Nat.eq_of_beq_eq_true c2) (Nat.eq_of_beq_eq_true c3) ih h6 c4
end
end Ev

/-! From the head's facts to the law's promise. -/
namespace Ev
open PySem PySem.Spec PyProof.Rows L2

def faOf (fs : List Str) (gl : List (Str × Int)) : List He.Fa := fs.map .glo ++ (bltNames.map .free ++ gl.map fun p => .int p.1 p.2)
theorem says_mem {fa : List He.Fa} {fn : List He.DefD} {K : PySem.W.Frag} (c : He.SaysD fa fn K) {f : He.Fa} (h : f ∈ fa) : f.ok K = true := by
  have c1 := (He.ba (show ((fa.all fun f => f.ok K) && fn.all fun d => d.ok K) = true from congrArg (fun z : He.AlD => z.1) c)).1
  exact List.all_eq_true.mp c1 f h
theorem topDefs_at : ∀ {b : List Stmt} {f : Nat} {d : He.DefD}, (topDefs b)[f]? = some d → d.dfl = [] ∧ d.kwd = [] ∧ d.at_ = (d.name, none)
  | [], f, d, h => by simp [topDefs] at h
  | s :: r, f, d, h => by
    cases s with
    | FunctionDef =>
      cases f with
      | zero =>
        simp [topDefs] at h
        subst h
        exact ⟨rfl, rfl, rfl⟩
      | succ f => exact topDefs_at (b := r) (f := f) (by simpa [topDefs] using h)
    | _ => exact topDefs_at (b := r) (f := f) (by simpa [topDefs] using h)
theorem tabIn_code {K : PySem.W.Frag} {x : Str} {c P : Addr} (h : PySem.W.tabIn K x = some (c, P)) : ∀ oc od fd osl, K.lookup (He.ga K x) = some ⟨oc, od, .func fd, osl⟩ → fd.code = .ref c := by
  intro oc od fd osl hl
  unfold PySem.W.tabIn at h
  unfold He.ga at hl
  split at h
  · rename_i f hf
    rw [hf] at hl
    split at h
    · rename_i hfo
      have hl : K.lookup f = some ⟨oc, od, .func fd, osl⟩ := hl
      rw [hfo] at hl
      cases hl
      split at h
      · rename_i c2 hc
        split at h
        · split at h
          · cases h
            exact hc
          · cases h
        · cases h
      · cases h
    · cases h
  · cases h
theorem law_facts {l : PySem.W.OpenLaw} {w : World} {q : Program} {mb : List Stmt} {fs : List Str} {gl : List (Str × Int)} {T : List Def} {Ns : List (List Str)} {K : PySem.W.Frag} {h : Heap} {mg : Str → Option Value} {fa : Addr} {k li n : Nat} {dL : He.DefD} {s0 : Stmt} {rest : List Stmt} {N : List Str} {p0 xr : Str} {ex : Ex} {seed : Int} {px p1 p2 p3 p4 p5 p6 : Pos} {k1 k2 k3 : Nat}
    (hfs : fs = (topDefs mb).map (·.name))
    (hbind : ∀ (f : Nat) (d : He.DefD), (topDefs mb)[f]? = some d → ∀ (kV doc pm : Value) (an : Option Addr) (cdv ct : Value) (us : List Value), us.length = (psOf d).length → bindArgs (PySem.W.fnOf d.name d.qual d.params d.body d.scope .none kV doc pm an cdv ct) ⟨us, []⟩ = pure ((psOf d).zip us))
    (hch : chks fs gl Ns T (topDefs mb) = true)
    (htk : ∀ (f : Nat) (d : He.DefD) (df : Def) (N : List Str), T[f]? = some df → df.tk = true → (topDefs mb)[f]? = some d → Ns[f]? = some N → ∀ (base : Heap) (K : PySem.W.Frag) (fa : Addr) (cdv : Value) (A : Around) (outer : List PySem.Env) (s : Shared) (H : Hp) (E : XK),
      (∀ x ∈ bltNames, mg x = none) → PSs (cxOf C8.CX0 l.prog w K mg base N d.qual d.scope fa cdv A outer s H E) d.body (t_taken K))
    (X : K.In h) (G : h.Ns mainGlobals mg) (c : He.SaysD (faOf fs gl) (topDefs mb) K) (tb : tabsB K fs = true)
    (tabs : ∀ (K : PySem.W.Frag) (y : Str) (dl : DefRec) (c P : Addr), K.In h → (recsOf q).find? (fun e => e.name == y) = some dl → PySem.W.tabIn K y = some (c, P) → PySem.W.CodeHd h c P ∧ h.get? P = some (PySem.W.tabObj #[]))
    (hrec : fs.all (fun x => ((recsOf q).find? (fun e => e.name == x)).isSome) = true)
    (hli : (topDefs mb)[li]? = some dL) (hfa : mg dL.name = some (.ref fa)) (hb0 : dL.body = s0 :: rest)
    (hs0 : s0 = .Assign [.Name xr px] (.List [.Name p0 p1, .Constant (.int 0) k1 p2, .Constant (.int seed) k2 p3, .Constant (.int 0) k3 p4] p5) p6)
    (hps : psOf dL = [p0]) (S : C8.scC N [p0] dL.scope = true) (hN : N.length = n + 2) (h0 : N[0]? = some p0) (h1 : N[1]? = some xr) (hv : dL.scope.names.lookup p0 = some .local) (hl : Loc dL.scope xr) (hd : dbg p0 = false) (hseed : 0 ≤ seed ∧ seed < 2147483647)
    (hchL : chkB ⟨N, dL.scope, fun _ => true, fs, gl, 2⟩ ex rest = true) (hlaw : (dS (cfN T k) ex (rowEnv n)).Post fun o => isT o = true) : LamX.LawAtS l w K C8.CX0 (3 * k + 3) 63 p0 mg fa h := by
  -- names and addresses
  have glo : ∀ x ∈ fs, mg x = some (.ref (He.ga K x)) := fun x hx => He.glo_ok X G (says_mem c (List.mem_append_left _ (List.mem_map.mpr ⟨x, hx, rfl⟩)))
  have hblt : ∀ x ∈ bltNames, mg x = none := fun x hx => He.free_ok X G (says_mem c (List.mem_append_right _ (List.mem_append_left _ (List.mem_map.mpr ⟨x, hx, rfl⟩))))
  have hgl : ∀ x i, (x, i) ∈ gl → ∃ t, mg x = some (.int i t) := fun x i hx => He.int_ok X G (says_mem c (List.mem_append_right _ (List.mem_append_right _ (List.mem_map.mpr ⟨(x, i), hx, rfl⟩))))
  -- the tables
  have tabx : ∀ x ∈ fs, ∃ cd P, PySem.W.tabIn K x = some (cd, P) ∧ K.lookup P = none := fun x hx => by
    have z := List.all_eq_true.mp tb x hx
    cases q1 : PySem.W.tabIn K x with
    | none => rw [q1] at z; cases z
    | some cp =>
      obtain ⟨cd, P⟩ := cp
      rw [q1] at z
      have z : (match K.lookup P with | none => true | some _ => false) = true := z
      cases q2 : K.lookup P with
      | none => exact ⟨cd, P, rfl, q2⟩
      | some _ => rw [q2] at z; cases z
  have fnd : ∀ (f : Nat) (d : He.DefD), (topDefs mb)[f]? = some d → d.name ∈ fs ∧ He.fAd K d.at_ = He.ga K d.name ∧ ∃ fd, FunD K d.name d.qual d.params d.body d.scope [] [] (He.fAd K d.at_) fd := fun f d hf => by
    obtain ⟨a1, a2, a3⟩ := topDefs_at hf
    obtain ⟨fd, F⟩ := c.def_ f hf
    have e1 : d.dvs K = [] := by unfold He.DefD.dvs; rw [a1]; rfl
    have e2 : d.kws K = [] := by unfold He.DefD.kws; rw [a2]; rfl
    rw [e1, e2] at F
    exact ⟨by rw [hfs]; exact List.mem_map.mpr ⟨d, List.mem_of_getElem? hf, rfl⟩, by rw [a3]; rfl, fd, F⟩
  obtain ⟨lmem, lad, fdL, FL⟩ := fnd li dL hli
  have efa : fa = He.fAd K dL.at_ := by
    have z := glo dL.name lmem
    rw [hfa] at z
    rw [lad]
    cases z
    rfl
  have bL : ∀ (s : Shared) (u : Value), BindsTo s fdL ⟨[u], []⟩ [(p0, u)] := fun s u => by
    have z := FunD.bindsA (ps := psOf dL) FL (fun kV doc pm an cdv ct us hus => hbind li dL hli kV doc pm an cdv ct us hus) s [u] (by rw [hps]; rfl)
    rw [hps] at z
    exact z
  refine ⟨fdL, fs.filterMap (PySem.W.tabIn K), spLaw K ((fs.filterMap (PySem.W.tabIn K)).map (·.2)), fun p hp => ?_, fun p hp => ?_, fun p hp => ?_, bL, fun H a ns hlen hbits htab hS => ?_, fun base KB GB TB => ?_⟩
  · obtain ⟨x, hx, hx2⟩ := List.mem_filterMap.mp hp
    cases q1 : (recsOf q).find? (fun e => e.name == x) with
    | none =>
      have z := List.all_eq_true.mp hrec x hx
      rw [q1] at z
      cases z
    | some dl => exact (tabs K x dl p.1 p.2 X q1 hx2).2
  · obtain ⟨x, hx, hx2⟩ := List.mem_filterMap.mp hp
    obtain ⟨cd, P, e1, e2⟩ := tabx x hx
    rw [e1] at hx2
    cases hx2
    exact e2
  · obtain ⟨x, hx, hx2⟩ := List.mem_filterMap.mp hp
    cases q1 : (recsOf q).find? (fun e => e.name == x) with
    | none =>
      have z := List.all_eq_true.mp hrec x hx
      rw [q1] at z
      cases z
    | some dl => exact (tabs K x dl p.1 p.2 X q1 hx2).1
  · exact ⟨a, ns, rfl, hS, hlen, hbits, fun p hp => by
      obtain ⟨p', hp', rfl⟩ := List.mem_map.mp hp
      exact htab p' hp', fun _ => rfl⟩
  · have code : ∀ (f : Nat) (d : He.DefD), (topDefs mb)[f]? = some d → CodeAt K mg base ((fs.filterMap (PySem.W.tabIn K)).map (·.2)) (He.fAd K d.at_) := fun f d hf oc od fd osl hlk => by
      obtain ⟨a1, a2, _⟩ := fnd f d hf
      obtain ⟨cd, P, e1, _⟩ := tabx d.name a1
      rw [a2] at hlk
      exact ⟨cd, P, tabIn_code e1 oc od fd osl hlk, List.mem_map.mpr ⟨(cd, P), List.mem_filterMap.mpr ⟨d.name, a1, e1⟩, rfl⟩, let t := TB (cd, P) (List.mem_filterMap.mpr ⟨d.name, a1, e1⟩); ⟨t.code, t.bm, t.gP⟩⟩
    have tx : Txt K mg base ((fs.filterMap (PySem.W.tabIn K)).map (·.2)) fs (topDefs mb) := fun f x hx => by
      rw [hfs, List.getElem?_map] at hx
      cases q1 : (topDefs mb)[f]? with
      | none => rw [q1] at hx; cases hx
      | some d =>
        rw [q1] at hx
        have hx : d.name = x := Option.some.inj hx
        subst hx
        obtain ⟨a1, a2, fd, F⟩ := fnd f d q1
        exact ⟨d, fd, rfl, by rw [a2]; exact glo d.name a1, F.kp, F, FunD.bindsN F (hbind f d q1), code f d q1⟩
    have M := mdl_all (P := l.prog) (w := w) hblt hgl tx hch (fun f d df N e1 e2 e3 e4 fa cdv A outer s H E => htk f d df N e1 e2 e3 e4 base K fa cdv A outer s H E hblt) k
    have FL' := FL
    rw [hb0] at FL'
    rw [efa]
    exact law_ok (n := n) FL' hs0 (C8.fnScope_by S) hN h0 h1 (.inl hv) hl hd hseed M (code li dL hli) hchL hlaw
end Ev

/-! Results that are known, looked up. -/
namespace Ev
open PySem

mutual
theorem eqD_eq : ∀ {a b : D}, eqD a b = true → a = b
  | .none, b, h => by cases b <;> first | rfl | exact (Bool.false_ne_true h).elim
  | .bool x, b, h => by
    cases b with
    | bool y => cases x <;> cases y <;> first | rfl | exact (Bool.false_ne_true h).elim
    | _ => exact (Bool.false_ne_true h).elim
  | .int x, b, h => by
    cases b with
    | int y =>
      have h : iEq x y = true := h
      rw [iEq_iff] at h
      rw [of_decide_eq_true h]
    | _ => exact (Bool.false_ne_true h).elim
  | .str x, b, h => by
    cases b with
    | str y =>
      have h : (x == y) = true := h
      rw [eq_of_beq h]
    | _ => exact (Bool.false_ne_true h).elim
  | .list x, b, h => by
    cases b with
    | list y => rw [eqDs_eq (show eqDs x y = true from h)]
    | _ => exact (Bool.false_ne_true h).elim
  | .tuple x, b, h => by
    cases b with
    | tuple y => rw [eqDs_eq (show eqDs x y = true from h)]
    | _ => exact (Bool.false_ne_true h).elim
  | .dict _, _, h => (Bool.false_ne_true h).elim
theorem eqDs_eq : ∀ {a b : List D}, eqDs a b = true → a = b
  | [], b, h => by
    cases b with
    | nil => rfl
    | cons _ _ => exact (Bool.false_ne_true h).elim
  | x :: xs, b, h => by
    cases b with
    | nil => exact (Bool.false_ne_true h).elim
    | cons y ys =>
      have h : (match eqD x y with | true => eqDs xs ys | false => false) = true := h
      cases q : eqD x y with
      | false => rw [q] at h; exact (Bool.false_ne_true h).elim
      | true =>
        rw [q] at h
        rw [eqD_eq q, eqDs_eq h]
end
/-- the arguments are these data -/
def eqArgs : List Val → List D → Bool
  | [], [] => true
  | .d x :: xs, y :: ys => match eqD x y with | true => eqArgs xs ys | false => false
  | _, _ => false
theorem eqArgs_eq : ∀ {a : List Val} {b : List D}, eqArgs a b = true → a = b.map .d
  | [], [], _ => rfl
  | .d x :: xs, y :: ys, h => by
    have h : (match eqD x y with | true => eqArgs xs ys | false => false) = true := h
    cases q : eqD x y with
    | false => rw [q] at h; exact (Bool.false_ne_true h).elim
    | true =>
      rw [q] at h
      rw [eqD_eq q, eqArgs_eq h]
      rfl
  | [], _ :: _, h => (Bool.false_ne_true h).elim
  | .d _ :: _, [], h => (Bool.false_ne_true h).elim
  | .dct _ :: _, [], h => (Bool.false_ne_true h).elim
  | .kd _ :: _, [], h => (Bool.false_ne_true h).elim
  | .kd _ :: _, _ :: _, h => (Bool.false_ne_true h).elim
  | .dct _ :: _, _ :: _, h => (Bool.false_ne_true h).elim
  | .row :: _, [], h => (Bool.false_ne_true h).elim
  | .row :: _, _ :: _, h => (Bool.false_ne_true h).elim
/-- for one def: arguments, whether a new list comes, the datum -/
abbrev Tab : Type := List (List D × Bool × D)
def resOf : Bool → D → R RV
  | true, d => .ok (.o (.d d))
  | false, d => .ok (.v (.d d))
def lookT : Tab → List Val → Option (R RV)
  | [], _ => none
  | (a, b, d) :: r, args => match eqArgs args a with
    | true => some (resOf b d)
    | false => lookT r args
/-- the tables of the defs -/
def memo (tabs : Nat → Tab) (cf : Nat → List Val → R RV) : Nat → List Val → R RV := fun f args => match lookT (tabs f) args with
  | some r => r
  | none => cf f args
def eqRes (r : R RV) (b : Bool) (d : D) : Bool := match r, b with
  | .ok (.o (.d x)), true => eqD x d
  | .ok (.v (.d x)), false => eqD x d
  | _, _ => false
theorem eqRes_eq {r : R RV} {b : Bool} {d : D} (h : eqRes r b d = true) : r = resOf b d := by
  unfold eqRes at h
  split at h
  · rw [eqD_eq h]; rfl
  · rw [eqD_eq h]; rfl
  · exact (Bool.false_ne_true h).elim
def tabOk (cf : List Val → R RV) : Tab → Bool
  | [] => true
  | (a, b, d) :: r => match eqRes (cf (a.map .d)) b d with
    | true => tabOk cf r
    | false => false
theorem lookT_ok {cf : List Val → R RV} : ∀ {t : Tab} {args : List Val} {r : R RV}, tabOk cf t = true → lookT t args = some r → cf args = r
  | [], _, _, _, h => by cases h
  | (a, b, d) :: t, args, r, h, hl => by
    have h : (match eqRes (cf (a.map .d)) b d with | true => tabOk cf t | false => false) = true := h
    have hl : (match eqArgs args a with | true => some (resOf b d) | false => lookT t args) = some r := hl
    cases q : eqRes (cf (a.map .d)) b d with
    | false => rw [q] at h; exact (Bool.false_ne_true h).elim
    | true =>
      rw [q] at h
      cases q2 : eqArgs args a with
      | true =>
        rw [q2] at hl
        rw [eqArgs_eq q2, eqRes_eq q]
        exact Option.some.inj hl
      | false =>
        rw [q2] at hl
        exact lookT_ok h hl
theorem memo_eq {tabs : Nat → Tab} {cf : Nat → List Val → R RV} (h : ∀ f, tabOk (cf f) (tabs f) = true) : memo tabs cf = cf := by
  funext f args
  unfold memo
  cases q : lookT (tabs f) args with
  | none => rfl
  | some r => exact (lookT_ok (h f) q).symm
/-- a level up, by the level below with its tables -/
theorem cfN_memo {T : List Def} {k f : Nat} {df : Def} {tabs : Nat → Tab} (hT : find T f = some df) (ht : df.tk = false) (h : ∀ f, tabOk (cfN T k f) (tabs f) = true) (args : List Val) : cfN T (k + 1) f args = runDef (memo tabs (cfN T k)) df args := by
  rw [memo_eq h]
  show (match find T f with | some df => (match df.tk with | true => takeV args | false => runDef (cfN T k) df args) | none => R.stuck) = _
  rw [hT]
  show (match df.tk with | true => takeV args | false => runDef (cfN T k) df args) = _
  rw [ht]
end Ev

/-! A block cut in two: the first part's environments, then the rest. -/
namespace Ev
open PySem
def capp : Ex → Ex → Ex
  | .frz is r, t => .frz is (capp r t)
  | .scons s r, t => .scons s (capp r t)
  | .snil, t => t
  | x, _ => x
def spine : Ex → Bool
  | .frz _ r => spine r
  | .scons _ r => spine r
  | .snil => true
  | _ => false
def thenS (cf : Nat → List Val → R RV) (t : Ex) : Out → R Out
  | .nx e1 => dS cf t e1
  | .bk e1 => .ok (.bk e1)
  | .rt r => .ok (.rt r)
theorem R.bind_assoc {α β γ : Type} : ∀ (r : R α) (f : α → R β) (g : β → R γ), (r.bind f).bind g = r.bind fun x => (f x).bind g
  | .ok _, _, _ => rfl
  | .stuck, _, _ => rfl
  | .draw m k, f, g => by
    show R.draw m _ = R.draw m _
    congr 1
    funext v
    exact R.bind_assoc (k v) f g
theorem dS_capp {cf : Nat → List Val → R RV} {t : Ex} (a : Ex) : ∀ (e : Env), spine a = true → dS cf (capp a t) e = (dS cf a e).bind (thenS cf t) := by
  induction a with
  | snil => intro e _; rfl
  | frz is r ih => intro e h; exact ih (freeze e is) h
  | scons s r ihs ih =>
    intro e h
    show ((dS cf s e).bind _) = ((dS cf s e).bind _).bind _
    rw [R.bind_assoc]
    congr 1
    funext o
    cases o with
    | nx e1 => exact ih e1 h
    | bk e1 => rfl
    | rt r => rfl
  | _ => intro e h; cases h
def good (p : Env → Bool) : Out → Bool
  | .nx e1 => p e1
  | .bk _ => false
  | .rt r => isT (.rt r)
theorem cut_post {cf : Nat → List Val → R RV} {t : Ex} (a : Ex) {e : Env} (p : Env → Bool) (h0 : spine a = true) (h1 : R.all (good p) (dS cf a e) = true)
    (h2 : ∀ e1, p e1 = true → (dS cf t e1).Post fun o => isT o = true) : (dS cf (capp a t) e).Post fun o => isT o = true := by
  rw [dS_capp a e h0]
  refine R.post_bind' ((R.all_post h1).mono fun o h => ?_)
  cases o with
  | nx e1 => exact h2 e1 h
  | bk e1 => cases h
  | rt r => exact h
end Ev
namespace Ev
theorem tabOk_cons {f : List Val → R RV} {x : List D × Bool × D} {t : Tab} (h : tabOk f [x] = true) (ht : tabOk f t = true) : tabOk f (x :: t) = true := by
  obtain ⟨a, b, d⟩ := x
  have h : (match eqRes (f (a.map .d)) b d with | true => true | false => false) = true := h
  show (match eqRes (f (a.map .d)) b d with | true => tabOk f t | false => false) = true
  cases e : eqRes (f (a.map .d)) b d with
  | true => exact ht
  | false => rw [e] at h; cases h
end Ev

/-! What a first part leaves: patterns of environments. -/
namespace Ev
open PySem
def slotIs : Slot → Slot → Bool
  | .no, s => match s with | .no => true | _ => false
  | .v (.d x), s => match s with | .v (.d y) => eqD x y | _ => false
  | .v .row, s => match s with | .v .row => true | _ => false
  | _, _ => false
theorem slotIs_eq : ∀ {s t : Slot}, slotIs s t = true → s = t
  | .no, .no, _ => rfl
  | .no, .v _, h => (Bool.false_ne_true h).elim
  | .no, .o _, h => (Bool.false_ne_true h).elim
  | .v (.d x), .v (.d y), h => by rw [eqD_eq (show eqD x y = true from h)]
  | .v (.d _), .no, h => (Bool.false_ne_true h).elim
  | .v (.d _), .o _, h => (Bool.false_ne_true h).elim
  | .v (.d _), .v .row, h => (Bool.false_ne_true h).elim
  | .v (.d _), .v (.dct _), h => (Bool.false_ne_true h).elim
  | .v (.d _), .v (.kd _), h => (Bool.false_ne_true h).elim
  | .v .row, .v .row, _ => rfl
  | .v .row, .no, h => (Bool.false_ne_true h).elim
  | .v .row, .o _, h => (Bool.false_ne_true h).elim
  | .v .row, .v (.d _), h => (Bool.false_ne_true h).elim
  | .v .row, .v (.dct _), h => (Bool.false_ne_true h).elim
  | .v .row, .v (.kd _), h => (Bool.false_ne_true h).elim
  | .v (.dct _), _, h => (Bool.false_ne_true h).elim
  | .v (.kd _), _, h => (Bool.false_ne_true h).elim
  | .o _, _, h => (Bool.false_ne_true h).elim
abbrev Pat := List (Option Slot)
def fitsP : Env → Pat → Bool
  | [], p => match p with | [] => true | _ => false
  | s :: r, p => match p with
    | [] => false
    | none :: q => fitsP r q
    | some t :: q => match slotIs s t with | true => fitsP r q | false => false
def anyP (e : Env) : List Pat → Bool
  | [] => false
  | p :: ps => match fitsP e p with | true => true | false => anyP e ps
def Fits : Pat → (Env → Prop) → Prop
  | [], P => P []
  | none :: q, P => ∀ x, Fits q fun r => P (x :: r)
  | some t :: q, P => Fits q fun r => P (t :: r)
def AllFits (P : Env → Prop) : List Pat → Prop
  | [] => True
  | p :: ps => Fits p P ∧ AllFits P ps
theorem fits_use : ∀ (e : Env) (p : Pat) (P : Env → Prop), fitsP e p = true → Fits p P → P e
  | [], [], _, _, f => f
  | [], _ :: _, _, h, _ => (Bool.false_ne_true h).elim
  | _ :: _, [], _, h, _ => (Bool.false_ne_true h).elim
  | s :: r, none :: q, P, h, f => fits_use r q (fun r => P (s :: r)) h (f s)
  | s :: r, some t :: q, P, h, f => by
    have h : (match slotIs s t with | true => fitsP r q | false => false) = true := h
    cases z : slotIs s t with
    | false => rw [z] at h; exact (Bool.false_ne_true h).elim
    | true =>
      rw [z] at h
      rw [slotIs_eq z]
      exact fits_use r q (fun r => P (t :: r)) h f
theorem any_use (e : Env) (P : Env → Prop) : ∀ (ps : List Pat), anyP e ps = true → AllFits P ps → P e
  | [], h, _ => (Bool.false_ne_true h).elim
  | p :: ps, h, f => by
    have h : (match fitsP e p with | true => true | false => anyP e ps) = true := h
    cases z : fitsP e p with
    | true => exact fits_use e p P z f.1
    | false => rw [z] at h; exact any_use e P ps h f.2
theorem Fits.mono : ∀ (p : Pat) {P Q : Env → Prop}, (∀ e, P e → Q e) → Fits p P → Fits p Q
  | [], _, _, f, h => f [] h
  | none :: q, _, _, f, h => fun x => Fits.mono q (fun e z => f (x :: e) z) (h x)
  | some t :: q, _, _, f, h => Fits.mono q (fun e z => f (t :: e) z) h
theorem AllFits.mono {P Q : Env → Prop} (f : ∀ e, P e → Q e) : ∀ (ps : List Pat), AllFits P ps → AllFits Q ps
  | [], _ => trivial
  | p :: ps, h => ⟨Fits.mono p f h.1, AllFits.mono f ps h.2⟩
/-- the rest answers True -/
structure AnsT (cf : Nat → List Val → R RV) (t : Ex) (e : Env) : Prop where
  out : (dS cf t e).Post fun o => isT o = true
structure AnsB (cf : Nat → List Val → R RV) (t : Ex) (e : Env) : Prop where
  out : R.all isT (dS cf t e) = true
theorem ansT_of {cf : Nat → List Val → R RV} {t : Ex} {e : Env} (h : AnsB cf t e) : AnsT cf t e := ⟨R.all_post h.out⟩
theorem cut_pats {cf : Nat → List Val → R RV} {t : Ex} (a : Ex) {e : Env} (ps : List Pat) (h0 : spine a = true) (h1 : R.all (good fun e => anyP e ps) (dS cf a e) = true)
    (h2 : AllFits (AnsT cf t) ps) : AnsT cf (capp a t) e :=
  ⟨cut_post a (fun e => anyP e ps) h0 h1 fun e1 h => (any_use e1 _ ps h h2).out⟩
theorem cut_patsB {cf : Nat → List Val → R RV} {t : Ex} (a : Ex) {e : Env} (ps : List Pat) (h0 : spine a = true) (h1 : R.all (good fun e => anyP e ps) (dS cf a e) = true)
    (h2 : AllFits (AnsB cf t) ps) : AnsT cf (capp a t) e := cut_pats a ps h0 h1 (h2.mono (fun _ => ansT_of) ps)
end Ev

/-! Tables by the first argument; draws taken one by one. -/
namespace Ev
open PySem
/-- for one def: first argument, table of the rest -/
abbrev Tab2 : Type := List (D × Tab)
def lookT2 : Tab2 → List Val → Option (R RV)
  | [], _ => none
  | (k, t) :: r, args => match args with
    | .d x :: rest => match eqD x k with
      | true => lookT t rest
      | false => lookT2 r args
    | _ => none
def Ok2 (cf : List Val → R RV) : Tab2 → Prop
  | [] => True
  | (k, t) :: r => tabOk (fun rest => cf (.d k :: rest)) t = true ∧ Ok2 cf r
theorem lookT2_ok {cf : List Val → R RV} : ∀ {t : Tab2} {args : List Val} {r : R RV}, Ok2 cf t → lookT2 t args = some r → cf args = r
  | [], _, _, _, h => by cases h
  | (k, t) :: q, [], r, h, hl => by cases hl
  | (k, t) :: q, .d x :: rest, r, h, hl => by
    have hl : (match eqD x k with | true => lookT t rest | false => lookT2 q (.d x :: rest)) = some r := hl
    cases z : eqD x k with
    | true =>
      rw [z] at hl
      rw [eqD_eq z]
      exact lookT_ok (cf := fun rest => cf (.d k :: rest)) h.1 hl
    | false =>
      rw [z] at hl
      exact lookT2_ok h.2 hl
  | (k, t) :: q, .dct _ :: _, r, h, hl => by cases hl
  | (k, t) :: q, .kd _ :: _, r, h, hl => by cases hl
  | (k, t) :: q, .row :: _, r, h, hl => by cases hl
/-- the tables of the defs -/
def memo2 (tabs : Nat → Tab2) (cf : Nat → List Val → R RV) : Nat → List Val → R RV := fun f args => match lookT2 (tabs f) args with
  | some r => r
  | none => cf f args
theorem memo2_eq {tabs : Nat → Tab2} {cf : Nat → List Val → R RV} (h : ∀ f, Ok2 (cf f) (tabs f)) : memo2 tabs cf = cf := by
  funext f args
  unfold memo2
  cases q : lookT2 (tabs f) args with
  | none => rfl
  | some r => exact (lookT2_ok (h f) q).symm
theorem cfN_memo2 {T : List Def} {k f : Nat} {df : Def} {tabs : Nat → Tab2} (hT : find T f = some df) (ht : df.tk = false) (h : ∀ f, Ok2 (cfN T k f) (tabs f)) : cfN T (k + 1) f = runDef (memo2 tabs (cfN T k)) df := by
  funext args
  rw [memo2_eq h]
  show (match find T f with | some df => (match df.tk with | true => takeV args | false => runDef (cfN T k) df args) | none => R.stuck) = _
  rw [hT]
  show (match df.tk with | true => takeV args | false => runDef (cfN T k) df args) = _
  rw [ht]
/-- the defs, their calls by the tables -/
def cfM (T : List Def) (tabs : Nat → Tab2) (cf : Nat → List Val → R RV) : Nat → List Val → R RV := fun f args => match find T f with
  | some df => match df.tk with
    | true => takeV args
    | false => runDef (memo2 tabs cf) df args
  | none => .stuck
theorem cfM_eq {T : List Def} {tabs : Nat → Tab2} {k : Nat} (h : ∀ f, Ok2 (cfN T k f) (tabs f)) : cfM T tabs (cfN T k) = cfN T (k + 1) := by
  unfold cfM
  rw [memo2_eq h]
  rfl
/-- along a draw -/
def R.one {α : Type} (r : R α) (v : Nat) : R α := match r with
  | .draw _ k => k v
  | r => r
def R.isDraw {α : Type} (m : Nat) : R α → Bool
  | .draw n _ => Nat.beq n m
  | _ => false
theorem R.all_draw {α : Type} {p : α → Bool} {r : R α} {m : Nat} (h : r.isDraw (m + 1) = true) (hv : ∀ v, v < m + 1 → R.all p (r.one v) = true) : R.all p r = true := by
  cases r with
  | draw n k =>
    have e : n = m + 1 := Nat.eq_of_beq_eq_true h
    subst e
    show (Nat.blt 0 (m + 1) && (List.range (m + 1)).all fun v => (k v).all p) = true
    rw [show Nat.blt 0 (m + 1) = true from by rw [nblt]; exact decide_eq_true (Nat.zero_lt_succ m), Bool.true_and]
    exact List.all_eq_true.mpr fun v hv' => hv v (List.mem_range.mp hv')
  | _ => exact (Bool.false_ne_true h).elim
/-- all below -/
def Below (m : Nat) (P : Nat → Prop) : Prop := match m with
  | 0 => True
  | n + 1 => Below n P ∧ P n
theorem below_use : ∀ {m : Nat} {P : Nat → Prop}, Below m P → ∀ v, v < m → P v
  | 0, _, _, v, h => absurd h (Nat.not_lt_zero v)
  | n + 1, P, b, v, h => by
    rcases Nat.lt_or_eq_of_le (Nat.le_of_lt_succ h) with z | z
    · exact below_use b.1 v z
    · rw [z]
      exact b.2
end Ev

/-! More ways than there are: a def's answers by a list of them. -/
namespace Ev
open PySem
def Ref {α : Type} (r' r : R α) : Prop := ∀ Q, r'.Post Q → r.Post Q
theorem Ref.refl {α : Type} (r : R α) : Ref r r := fun _ h => h
theorem Ref.bind {α β : Type} {r' r : R α} {f' f : α → R β} (h : Ref r' r) (g : ∀ a, Ref (f' a) (f a)) : Ref (r'.bind f') (r.bind f) := fun Q p => R.post_bind' (h _ ((R.post_bind p).mono fun a q => g a Q q))
section
variable {tg : Tg} {e0 : Env}
theorem ref_loopL {f' f : Env → R D} (h : ∀ e, Ref (f' e) (f e)) : ∀ xs, Ref (loopL xs tg e0 f') (loopL xs tg e0 f)
  | [] => Ref.refl _
  | x :: xs => Ref.bind (Ref.refl _) fun e => Ref.bind (h e) fun y => Ref.bind (ref_loopL h xs) fun ys => Ref.refl _
theorem ref_loopIf {f' f : Env → R D} {c' c : Env → R Bool} (h : ∀ e, Ref (f' e) (f e)) (hc : ∀ e, Ref (c' e) (c e)) : ∀ xs, Ref (loopIf xs tg e0 f' c') (loopIf xs tg e0 f c)
  | [] => Ref.refl _
  | x :: xs => Ref.bind (Ref.refl _) fun e => Ref.bind (hc e) fun b => by
    cases b with
    | true => exact Ref.bind (h e) fun y => Ref.bind (ref_loopIf h hc xs) fun ys => Ref.refl _
    | false => exact ref_loopIf h hc xs
theorem ref_loopAll {c' c : Env → R Bool} (hc : ∀ e, Ref (c' e) (c e)) : ∀ xs, Ref (loopAll xs tg e0 c') (loopAll xs tg e0 c)
  | [] => Ref.refl _
  | x :: xs => Ref.bind (Ref.refl _) fun e => Ref.bind (hc e) fun b => by
    cases b with
    | true => exact ref_loopAll hc xs
    | false => exact Ref.refl _
theorem ref_loopAny {c' c : Env → R Bool} (hc : ∀ e, Ref (c' e) (c e)) : ∀ xs, Ref (loopAny xs tg e0 c') (loopAny xs tg e0 c)
  | [] => Ref.refl _
  | x :: xs => Ref.bind (Ref.refl _) fun e => Ref.bind (hc e) fun b => by
    cases b with
    | true => exact Ref.refl _
    | false => exact ref_loopAny hc xs
theorem ref_loopSum {c' c : Env → R Int} (hc : ∀ e, Ref (c' e) (c e)) : ∀ xs acc, Ref (loopSum acc xs tg e0 c') (loopSum acc xs tg e0 c)
  | [], _ => Ref.refl _
  | x :: xs, acc => Ref.bind (Ref.refl _) fun e => Ref.bind (hc e) fun b => ref_loopSum hc xs (acc + b)
theorem ref_loopFor {b' b : Env → R Out} (h : ∀ e, Ref (b' e) (b e)) : ∀ xs e, Ref (loopFor xs tg b' e) (loopFor xs tg b e)
  | [], _ => Ref.refl _
  | x :: xs, e => Ref.bind (Ref.refl _) fun e1 => Ref.bind (h e1) fun o => by
    cases o with
    | nx e2 => exact ref_loopFor h xs e2
    | bk e2 => exact Ref.refl _
    | rt r => exact Ref.refl _
theorem ref_loopWh {c' c : Env → R Bool} {b' b : Env → R Out} (hc : ∀ e, Ref (c' e) (c e)) (h : ∀ e, Ref (b' e) (b e)) : ∀ n e, Ref (loopWh n c' b' e) (loopWh n c b e)
  | 0, _ => Ref.refl _
  | n + 1, e => Ref.bind (hc e) fun k => by
    cases k with
    | true =>
      refine Ref.bind (h e) fun o => ?_
      cases o with
      | nx e2 => exact ref_loopWh hc h n e2
      | bk e2 => exact Ref.refl _
      | rt r => exact Ref.refl _
    | false => exact Ref.refl _
end
section
variable {cf' cf : Nat → List Val → R RV}
variable (cf' cf) in
structure AllRef (x : Ex) : Prop where
  e : ∀ v, Ref (dE cf' x v) (dE cf x v)
  t : ∀ v, Ref (dT cf' x v) (dT cf x v)
  l : ∀ v, Ref (dL cf' x v) (dL cf x v)
  d : ∀ v, Ref (dD cf' x v) (dD cf x v)
  r : ∀ v, Ref (dR cf' x v) (dR cf x v)
  o : ∀ v, Ref (dO cf' x v) (dO cf x v)
  i : ∀ v, Ref (dI cf' x v) (dI cf x v)
  s : ∀ v, Ref (dS cf' x v) (dS cf x v)
theorem all_ref (hc : ∀ f args, Ref (cf' f args) (cf f args)) (x : Ex) : AllRef cf' cf x := by
  induction x with
  | call f es ih =>
    refine ⟨fun v => ?_, fun v => ?_, fun v => ?_, fun v => ?_, fun v => ?_, fun v => ?_, fun v => ?_, fun v => ?_⟩
    · exact Ref.bind (ih.l v) fun xs => hc f xs
    all_goals exact Ref.refl _
  | gx kk own tg a b ha hb =>
    refine ⟨fun v => ?_, fun v => ?_, fun v => ?_, fun v => ?_, fun v => ?_, fun v => ?_, fun v => ?_, fun v => ?_⟩
    · cases kk <;> simp only [dE] <;> repeat' (first | exact Ref.refl _ | (apply AllRef.e; assumption) | (apply AllRef.t; assumption) | (apply AllRef.l; assumption) | (apply AllRef.d; assumption) | (apply AllRef.r; assumption) | (apply AllRef.o; assumption) | (apply AllRef.i; assumption) | (apply AllRef.s; assumption) | refine Ref.bind ?_ fun _ => ?_ | (refine ref_loopL (fun _ => ?_) _) | (refine ref_loopIf (fun _ => ?_) (fun _ => ?_) _) | (refine ref_loopAll (fun _ => ?_) _) | (refine ref_loopAny (fun _ => ?_) _) | (refine ref_loopSum (fun _ => ?_) _ _) | (refine ref_loopFor (fun _ => ?_) _ _) | (refine ref_loopWh (fun _ => ?_) (fun _ => ?_) _ _) | split)
    all_goals exact Ref.refl _
  | asg tg a ha =>
    refine ⟨fun v => ?_, fun v => ?_, fun v => ?_, fun v => ?_, fun v => ?_, fun v => ?_, fun v => ?_, fun v => ?_⟩
    case _ => exact Ref.refl _
    case _ => exact Ref.refl _
    case _ => exact Ref.refl _
    case _ => exact Ref.refl _
    case _ => exact Ref.refl _
    case _ => exact Ref.refl _
    case _ => exact Ref.refl _
    cases tg <;> simp only [dS] <;> repeat' (first | exact Ref.refl _ | (apply AllRef.e; assumption) | (apply AllRef.t; assumption) | (apply AllRef.l; assumption) | (apply AllRef.d; assumption) | (apply AllRef.r; assumption) | (apply AllRef.o; assumption) | (apply AllRef.i; assumption) | (apply AllRef.s; assumption) | refine Ref.bind ?_ fun _ => ?_ | (refine ref_loopL (fun _ => ?_) _) | (refine ref_loopIf (fun _ => ?_) (fun _ => ?_) _) | (refine ref_loopAll (fun _ => ?_) _) | (refine ref_loopAny (fun _ => ?_) _) | (refine ref_loopSum (fun _ => ?_) _ _) | (refine ref_loopFor (fun _ => ?_) _ _) | (refine ref_loopWh (fun _ => ?_) (fun _ => ?_) _ _) | split)
  | _ =>
    refine ⟨fun v => ?_, fun v => ?_, fun v => ?_, fun v => ?_, fun v => ?_, fun v => ?_, fun v => ?_, fun v => ?_⟩ <;> (try simp only [dE, dT, dL, dD, dR, dO, dI, dS]) <;> repeat' (first | exact Ref.refl _ | (apply AllRef.e; assumption) | (apply AllRef.t; assumption) | (apply AllRef.l; assumption) | (apply AllRef.d; assumption) | (apply AllRef.r; assumption) | (apply AllRef.o; assumption) | (apply AllRef.i; assumption) | (apply AllRef.s; assumption) | refine Ref.bind ?_ fun _ => ?_ | (refine ref_loopL (fun _ => ?_) _) | (refine ref_loopIf (fun _ => ?_) (fun _ => ?_) _) | (refine ref_loopAll (fun _ => ?_) _) | (refine ref_loopAny (fun _ => ?_) _) | (refine ref_loopSum (fun _ => ?_) _ _) | (refine ref_loopFor (fun _ => ?_) _ _) | (refine ref_loopWh (fun _ => ?_) (fun _ => ?_) _ _) | split)
end
/-! ### answers from a list -/
def anyOf : D → List D → R RV
  | x, [] => .ok (.v (.d x))
  | x, y :: r => .draw 2 fun v => match v with
    | 0 => .ok (.v (.d x))
    | _ + 1 => anyOf y r
theorem anyOf_post {Q : RV → Prop} : ∀ (l : List D) (x : D), (anyOf x l).Post Q → ∀ y ∈ x :: l, Q (.v (.d y))
  | [], x, h, y, m => by
    have e : y = x := by simpa using m
    rw [e]
    exact h
  | z :: r, x, h, y, m => by
    rcases List.mem_cons.mp m with e | m
    · rw [e]
      exact h.2 0 (by decide)
    · exact anyOf_post r z (h.2 1 (by decide)) y m
def memD (y : D) : List D → Bool
  | [] => false
  | x :: r => match eqD y x with | true => true | false => memD y r
theorem memD_mem {y : D} : ∀ {l : List D}, memD y l = true → y ∈ l
  | [], h => (Bool.false_ne_true h).elim
  | x :: r, h => by
    have h : (match eqD y x with | true => true | false => memD y r) = true := h
    cases z : eqD y x with
    | true => rw [eqD_eq z]; exact List.mem_cons_self ..
    | false => rw [z] at h; exact List.mem_cons_of_mem _ (memD_mem h)
def oneOf (l : List D) : RV → Bool
  | .v (.d y) => memD y l
  | _ => false
theorem ref_anyOf {x : D} {l : List D} {r : R RV} (h : R.all (oneOf (x :: l)) r = true) : Ref (anyOf x l) r := fun Q p => (R.all_post h).mono fun a q => by
  cases a with
  | v a => cases a with
    | d y => exact anyOf_post l x p y (memD_mem q)
    | _ => exact (Bool.false_ne_true q).elim
  | _ => exact (Bool.false_ne_true q).elim
/-- the def g, called with the draws and a number, by lists -/
def chG : List (Int × D × List D) → List Val → Option (R RV)
  | [], _ => none
  | (n, x, l) :: r, args => match args with
    | [.row, .d (.int m)] => match iEq n m with
      | true => some (anyOf x l)
      | false => chG r args
    | _ => none
def cfO (g : Nat) (ch : List (Int × D × List D)) (cf : Nat → List Val → R RV) : Nat → List Val → R RV := fun f args => match Nat.beq f g with
  | true => match chG ch args with
    | some r => r
    | none => cf f args
  | false => cf f args
def OkG (cf : List Val → R RV) : List (Int × D × List D) → Prop
  | [] => True
  | (n, x, l) :: r => R.all (oneOf (x :: l)) (cf [.row, .d (.int n)]) = true ∧ OkG cf r
theorem chG_ok {cf : List Val → R RV} : ∀ {ch : List (Int × D × List D)} {args : List Val} {r : R RV}, OkG cf ch → chG ch args = some r → Ref r (cf args)
  | [], _, _, _, h => by cases h
  | (n, x, l) :: q, args, r, h, hl => by
    unfold chG at hl
    split at hl
    · rename_i m
      split at hl
      · rename_i z
        rw [iEq_iff] at z
        have e : n = m := of_decide_eq_true z
        subst e
        cases hl
        exact ref_anyOf h.1
      · exact chG_ok h.2 hl
    · cases hl
theorem cfO_ref {g : Nat} {ch : List (Int × D × List D)} {cf : Nat → List Val → R RV} (h : OkG (cf g) ch) : ∀ f args, Ref (cfO g ch cf f args) (cf f args) := fun f args => by
  unfold cfO
  cases z : Nat.beq f g with
  | false => exact Ref.refl _
  | true =>
    have e : f = g := Nat.eq_of_beq_eq_true z
    subst e
    show Ref (match chG ch args with | some r => r | none => cf f args) _
    cases q : chG ch args with
    | none => exact Ref.refl _
    | some r => exact chG_ok h q
theorem law_ref {cf' cf : Nat → List Val → R RV} (hc : ∀ f args, Ref (cf' f args) (cf f args)) {x : Ex} {e : Env} {Q : Out → Prop} (h : (dS cf' x e).Post Q) : (dS cf x e).Post Q := (all_ref hc x).s e Q h
end Ev

/-! Things by number: tables packed in numbers, laws of two and three of them. -/
namespace Ev
open PySem
def getL : List D → Nat → D
  | [], _ => .none
  | x :: _, 0 => x
  | _ :: r, i + 1 => getL r i
def allB : Nat → (Nat → Bool) → Bool
  | 0, _ => true
  | n + 1, p => match p n with | true => allB n p | false => false
theorem allB_use : ∀ {n : Nat} {p : Nat → Bool}, allB n p = true → ∀ i, i < n → p i = true
  | 0, _, _, i, h => absurd h (Nat.not_lt_zero i)
  | n + 1, p, b, i, h => by
    have b : (match p n with | true => allB n p | false => false) = true := b
    cases z : p n with
    | false => rw [z] at b; exact (Bool.false_ne_true b).elim
    | true =>
      rw [z] at b
      rcases Nat.lt_or_eq_of_le (Nat.le_of_lt_succ h) with q | q
      · exact allB_use b i q
      · rw [q]; exact z
def okB (x : D) : Bool := okD 8 x && eqD x x
theorem ne_okB {x : D} (h : okB x = true) : cmpV .ne (.d x) (.d x) = .ok false := by
  obtain ⟨h1, h2⟩ := and2 h
  show (match okD 8 x, okD 8 x with | true, true => R.ok (!eqD x x) | _, _ => _) = _
  rw [h1, h2]
  rfl
def isV (o : Option (R RV)) (y : D) : Bool := match o with
  | some (.ok (.v (.d z))) => eqD z y
  | _ => false
theorem isV_eq {o : Option (R RV)} {y : D} (h : isV o y = true) : o = some (.ok (.v (.d y))) := by
  unfold isV at h
  split at h
  · rw [eqD_eq h]
  · cases h
/-- met, put together, finer -/
structure FxP (cf : Nat → List Val → R RV) (x y l u : D) (b : Bool) : Prop where
  m : cf 13 [.d x, .d y] = .ok (.v (.d l))
  j : cf 15 [.d x, .d y] = .ok (.v (.d u))
  f : cf 11 [.d x, .d y] = .ok (.v (.d (.bool b)))
def fxB (t13 t15 t11 : Tab2) (x y l u : D) (b : Bool) : Bool := isV (lookT2 t13 [.d x, .d y]) l && (isV (lookT2 t15 [.d x, .d y]) u && isV (lookT2 t11 [.d x, .d y]) (.bool b))
theorem fxB_use {cf : Nat → List Val → R RV} {t13 t15 t11 : Tab2} {x y l u : D} {b : Bool} {p q n : Nat} (o13 : Ok2 (cf 13) t13) (o15 : Ok2 (cf 15) t15) (o11 : Ok2 (cf 11) t11) (h : (fxB t13 t15 t11 x y l u b && (Nat.blt p n && Nat.blt q n)) = true) : FxP cf x y l u b ∧ p < n ∧ q < n := by
  obtain ⟨h, h4⟩ := and2 h
  obtain ⟨h4, h5⟩ := and2 h4
  obtain ⟨h1, h2⟩ := and2 h
  obtain ⟨h2, h3⟩ := and2 h2
  rw [nblt] at h4 h5
  exact ⟨⟨lookT2_ok o13 (isV_eq h1), lookT2_ok o15 (isV_eq h2), lookT2_ok o11 (isV_eq h3)⟩, of_decide_eq_true h4, of_decide_eq_true h5⟩
def latB (m j : Nat → Nat → Nat) (f : Nat → Nat → Bool) (a b c : Nat) : Bool := Nat.beq (m (m a b) c) (m a (m b c)) && (Nat.beq (j (j a b) c) (j a (j b c)) && !((f c a && (f c b && !f c (m a b))) || (f a c && (f b c && !f (j a b) c))))
theorem latB_use {m j : Nat → Nat → Nat} {f : Nat → Nat → Bool} {a b c : Nat} (h : latB m j f a b c = true) : m (m a b) c = m a (m b c) ∧ j (j a b) c = j a (j b c) ∧ ((f c a && (f c b && !f c (m a b))) || (f a c && (f b c && !f (j a b) c))) = false := by
  obtain ⟨h1, h2⟩ := and2 h
  obtain ⟨h2, h3⟩ := and2 h2
  exact ⟨Nat.eq_of_beq_eq_true h1, Nat.eq_of_beq_eq_true h2, (by decide : ∀ v : Bool, (!v) = true → v = false) _ h3⟩
theorem freeze1_noO {e : Env} (h : ∀ i v, slotAt e i ≠ .o v) (i : Nat) : freeze1 e i = e := by
  unfold freeze1
  split
  · rename_i x q
    exact absurd q (h i x)
  · rfl
theorem freeze_noO {e : Env} (h : ∀ i v, slotAt e i ≠ .o v) : ∀ is, freeze e is = e
  | [] => rfl
  | i :: is => by
    show freeze (freeze1 e i) is = e
    rw [freeze1_noO h i]
    exact freeze_noO h is
end Ev

/-! A grouping drawn by labels: what comes, told without draws. -/
namespace Ev
open PySem
def lotsIn : Ex := .scons (.app 1 (.b1 .tuple (.lcIf [3] (.name 3) (.irng1 (.b1 .len (.var 0))) (.var 3) (.cmp .eq (.ix (.var 0) (.var 3)) (.var 2))))) .snil
def lotsDef : Def := ⟨1, 4, (.scons (.asg (.name 1) (.lst .nil)) (.scons (.forS (.name 2) (.iseq (.srtset (.var 0))) lotsIn) (.scons (.ret (.b1 .tuple (.b1 .sorted (.var 1)))) .snil))), false⟩
def grpDef (tk lt : Nat) : Def := ⟨2, 4, (.scons (.asg (.name 2) (.bin .add (.int 1) (.call tk (.cons (.var 0) (.cons (.var 1) .nil))))) (.frz [2] (.scons (.ret (.call lt (.cons (.lc [3] (.name 3) (.irng1 (.var 1)) (.call tk (.cons (.var 0) (.cons (.var 2) .nil)))) .nil))) .snil))), false⟩
/-- who has that label -/
def posL (z : Int) : Nat → List Int → List Int
  | _, [] => []
  | i, y :: r => match iEq y z with
    | true => Int.ofNat i :: posL z (i + 1) r
    | false => posL z (i + 1) r
def lotsL (is : List Int) : List Int → List D
  | [] => []
  | z :: zs => .tuple (mkIs (posL z 0 is)) :: lotsL is zs
theorem ints_mkIs : ∀ (is : List Int), ints? (mkIs is) = some is
  | [] => rfl
  | i :: r => by
    show (match ints? (mkIs r) with | some l => some (i :: l) | none => none) = _
    rw [ints_mkIs r]
theorem few_of {α : Type} : ∀ {l : List α} {n : Nat}, l.length ≤ n → few l n = true
  | [], _, _ => rfl
  | _ :: _, 0, h => absurd h (Nat.not_succ_le_zero _)
  | _ :: r, n + 1, h => few_of (l := r) (Nat.le_of_succ_le_succ h)
theorem mkIs_len : ∀ (is : List Int), (mkIs is).length = is.length
  | [] => rfl
  | _ :: r => congrArg Nat.succ (mkIs_len r)
theorem posL_len (z : Int) : ∀ (l : List Int) (i : Nat), (posL z i l).length ≤ l.length
  | [], _ => Nat.le_refl _
  | y :: r, i => by
    show (match iEq y z with | true => Int.ofNat i :: posL z (i + 1) r | false => posL z (i + 1) r).length ≤ _
    cases iEq y z with
    | true => exact Nat.succ_le_succ (posL_len z r (i + 1))
    | false => exact Nat.le_succ_of_le (posL_len z r (i + 1))
theorem insI_len (i : Int) : ∀ (l : List Int), (insI i l).length ≤ l.length + 1
  | [] => Nat.le_refl _
  | j :: r => by
    show (match iLt i j with | true => i :: j :: r | false => match iEq i j with | true => j :: r | false => j :: insI i r).length ≤ _
    cases iLt i j with
    | true => exact Nat.le_refl _
    | false => cases iEq i j with
      | true => exact Nat.le_succ _
      | false => exact Nat.succ_le_succ (insI_len i r)
theorem srtI_len : ∀ (l : List Int), (srtI l).length ≤ l.length
  | [] => Nat.le_refl _
  | i :: r => Nat.le_trans (insI_len i _) (Nat.succ_le_succ (srtI_len r))
theorem lotsL_len (is : List Int) : ∀ (zs : List Int), (lotsL is zs).length = zs.length
  | [] => rfl
  | _ :: r => congrArg Nat.succ (lotsL_len is r)
theorem nth_pre {y : Int} {r : List Int} : ∀ (pre : List Int), nth (mkIs (pre ++ y :: r)) pre.length = .ok (.int y)
  | [] => rfl
  | _ :: p => nth_pre p
theorem cmp_int (y z : Int) : cmpV .eq (.d (.int y)) (.d (.int z)) = .ok (iEq y z) := rfl
theorem pyIx_of {n k : Nat} (h : k < n) : pyIx n (.ofNat k) = some k := by
  show (match Nat.blt k n with | true => some k | false => none) = _
  rw [nblt, decide_eq_true h]
section
variable {cf : Nat → List Val → R RV}
theorem loopIf_step {x : D} {xs : List D} {tg : Tg} {e0 e : Env} {elt : Env → R D} {c : Env → R Bool} {b : Bool} (h1 : setTg e0 tg x = .ok e) (h2 : c e = .ok b) :
    loopIf (x :: xs) tg e0 elt c = (match (generalizing := false) b with | true => (elt e).bind fun y => (loopIf xs tg e0 elt c).bind fun ys => .ok (y :: ys) | false => loopIf xs tg e0 elt c) := by
  show (setTg e0 tg x).bind _ = _
  rw [h1]
  show (c e).bind _ = _
  rw [h2]
  rfl
theorem loopIf_pos {is : List Int} {A : Slot} {z : Int} : ∀ (suf pre : List Int), is = pre ++ suf →
    loopIf (rngFrom (.ofNat pre.length) suf.length) (.name 3) [.v (.d (.list (mkIs is))), A, .v (.d (.int z)), .no] (fun e1 => (dE cf (.var 3) e1).bind fzD) (fun e1 => dT cf (.cmp .eq (.ix (.var 0) (.var 3)) (.var 2)) e1) = .ok (mkIs (posL z pre.length suf))
  | [], _, _ => rfl
  | y :: r, pre, h => by
    have hc : dT cf (.cmp .eq (.ix (.var 0) (.var 3)) (.var 2)) [.v (.d (.list (mkIs is))), A, .v (.d (.int z)), .v (.d (.int (.ofNat pre.length)))] = .ok (iEq y z) := by
      have hk : pre.length < (mkIs is).length := by
        rw [mkIs_len, h]
        simp
      show (R.bind (match pyIx (mkIs is).length (.ofNat pre.length) with | some k => (nth (mkIs is) k).bind fun x => R.ok (RV.v (.d x)) | none => .stuck) fun x => R.bind (R.ok (RV.v (.d (.int z)))) fun (y : RV) => cmpV .eq (RV.rd x) y.rd) = _
      rw [pyIx_of hk]
      show (R.bind ((nth (mkIs is) pre.length).bind fun x => R.ok (RV.v (.d x))) fun x => R.bind (R.ok (RV.v (.d (.int z)))) fun (y : RV) => cmpV .eq (RV.rd x) y.rd) = _
      rw [h, nth_pre]
      rfl
    have ih := loopIf_pos (is := is) (A := A) (z := z) r (pre ++ [y]) (by rw [h]; simp)
    rw [show (pre ++ [y]).length = pre.length + 1 from by simp] at ih
    show loopIf (.int (.ofNat pre.length) :: rngFrom (.ofNat (pre.length + 1)) r.length) _ _ _ _ = _
    rw [loopIf_step (e := [.v (.d (.list (mkIs is))), A, .v (.d (.int z)), .v (.d (.int (.ofNat pre.length)))]) (b := iEq y z) rfl hc]
    show _ = R.ok (mkIs (match (generalizing := false) iEq y z with | true => Int.ofNat pre.length :: posL z (pre.length + 1) r | false => posL z (pre.length + 1) r))
    clear hc
    cases iEq y z with
    | true =>
      show (R.bind (.ok (PyData.int (.ofNat pre.length))) fun y => (loopIf _ _ _ _ _).bind fun ys => .ok (y :: ys)) = _
      rw [ih]
      rfl
    | false => exact ih
theorem lc_pos {is : List Int} {A : Slot} {z : Int} (hn : is.length ≤ 60) :
    dE cf (.lcIf [3] (.name 3) (.irng1 (.b1 .len (.var 0))) (.var 3) (.cmp .eq (.ix (.var 0) (.var 3)) (.var 2))) [.v (.d (.list (mkIs is))), A, .v (.d (.int z)), .no] = .ok (.o (.d (.list (mkIs (posL z 0 is))))) := by
  have h1 : dI cf (.irng1 (.b1 .len (.var 0))) [.v (.d (.list (mkIs is))), A, .v (.d (.int z)), .no] = .ok (rngFrom (.ofNat 0) is.length) := by
    show (match smallI (((mkIs is).length : Nat) : Int) with | true => R.ok (rngFrom 0 (natOf (((mkIs is).length : Nat) : Int))) | false => .stuck) = _
    rw [mkIs_len]
    have e : smallI ((is.length : Nat) : Int) = true := by
      show Nat.blt is.length 1000000 = true
      rw [nblt]
      exact decide_eq_true (by omega)
    rw [e]
    rfl
  show ((dI cf (.irng1 (.b1 .len (.var 0))) [.v (.d (.list (mkIs is))), A, .v (.d (.int z)), .no]).bind fun xs => (loopIf xs (.name 3) [.v (.d (.list (mkIs is))), A, .v (.d (.int z)), .no] _ _).bind newL) = _
  rw [h1]
  show (loopIf (rngFrom (.ofNat 0) is.length) (.name 3) [.v (.d (.list (mkIs is))), A, .v (.d (.int z)), .no] (fun e1 => (dE cf (.var 3) e1).bind fzD) (fun e1 => dT cf (.cmp .eq (.ix (.var 0) (.var 3)) (.var 2)) e1)).bind newL = _
  rw [show loopIf (rngFrom (.ofNat 0) is.length) (.name 3) [.v (.d (.list (mkIs is))), A, .v (.d (.int z)), .no] (fun e1 => (dE cf (.var 3) e1).bind fzD) (fun e1 => dT cf (.cmp .eq (.ix (.var 0) (.var 3)) (.var 2)) e1) = _ from loopIf_pos (cf := cf) (is := is) (A := A) (z := z) is [] rfl]
  show newL (mkIs (posL z 0 is)) = _
  unfold newL
  rw [few_of (by
    rw [mkIs_len]
    have := posL_len z is 0
    unfold lim
    omega)]
theorem in_lots {is : List Int} {acc : List D} {z : Int} (hn : is.length ≤ 60) (ha : acc.length ≤ 60) :
    dS cf lotsIn [.v (.d (.list (mkIs is))), .o (.d (.list acc)), .v (.d (.int z)), .no] = .ok (.nx [.v (.d (.list (mkIs is))), .o (.d (.list (acc ++ [PyData.tuple (mkIs (posL z 0 is))]))), .v (.d (.int z)), .no]) := by
  show ((((dE cf (.lcIf [3] (.name 3) (.irng1 (.b1 .len (.var 0))) (.var 3) (.cmp .eq (.ix (.var 0) (.var 3)) (.var 2))) [.v (.d (.list (mkIs is))), .o (.d (.list acc)), .v (.d (.int z)), .no]).bind fun (x : RV) => b1V B1.tuple x.rd).bind fun x => (fzD x).bind fun d => appV [.v (.d (.list (mkIs is))), .o (.d (.list acc)), .v (.d (.int z)), .no] 1 d).bind _) = _
  rw [lc_pos hn]
  show ((match few acc lim with | true => R.ok (Out.nx [.v (.d (.list (mkIs is))), .o (.d (.list (acc ++ [PyData.tuple (mkIs (posL z 0 is))]))), .v (.d (.int z)), .no]) | false => .stuck).bind _) = _
  rw [few_of (by unfold lim; omega)]
  rfl
theorem for_lots {is : List Int} (hn : is.length ≤ 60) : ∀ (zs : List Int) (acc : List D) (s : Slot), acc.length + zs.length ≤ 60 →
    ∃ s', loopFor (mkIs zs) (.name 2) (fun e1 => dS cf lotsIn e1) [.v (.d (.list (mkIs is))), .o (.d (.list acc)), s, .no] = .ok (.nx [.v (.d (.list (mkIs is))), .o (.d (.list (acc ++ lotsL is zs))), s', .no])
  | [], acc, s, _ => ⟨s, by
    show R.ok (Out.nx _) = _
    rw [show acc ++ lotsL is [] = acc from List.append_nil acc]⟩
  | z :: zs, acc, s, h => by
    have h : acc.length + (zs.length + 1) ≤ 60 := h
    obtain ⟨s', ih⟩ := for_lots hn zs (acc ++ [PyData.tuple (mkIs (posL z 0 is))]) (.v (.d (.int z))) (by simp; omega)
    refine ⟨s', ?_⟩
    show ((dS cf lotsIn [.v (.d (.list (mkIs is))), .o (.d (.list acc)), .v (.d (.int z)), .no]).bind _) = _
    rw [in_lots hn (by omega)]
    show loopFor (mkIs zs) (.name 2) (fun e1 => dS cf lotsIn e1) _ = _
    rw [ih]
    rw [List.append_assoc]
    rfl
theorem lots_run {is : List Int} (hn : is.length ≤ 60) (hk : kindly (lotsL is (srtI is)) = true) :
    runDef cf lotsDef [.d (.list (mkIs is))] = .ok (.v (.d (.tuple (sortD (lotsL is (srtI is)))))) := by
  obtain ⟨s', h⟩ := for_lots (cf := cf) hn (srtI is) [] .no (by have := srtI_len is; simp; omega)
  have hs : srtsetV (.d (.list (mkIs is))) = .ok (.o (.d (.list (mkIs (srtI is))))) := by
    show (match ints? (mkIs is), few (mkIs is) 60 with | some is, true => R.ok (RV.o (.d (.list (mkIs (srtI is))))) | _, _ => .stuck) = _
    rw [ints_mkIs, few_of (by rw [mkIs_len]; exact hn)]
  show (((((srtsetV (.d (.list (mkIs is)))).bind fun x => x.fz.bind seqV).bind fun xs => loopFor xs (.name 2) (fun e1 => dS cf lotsIn e1) [.v (.d (.list (mkIs is))), .o (.d (.list [])), .no, .no]).bind _).bind _) = _
  rw [hs]
  show (((loopFor (mkIs (srtI is)) (.name 2) (fun e1 => dS cf lotsIn e1) [.v (.d (.list (mkIs is))), .o (.d (.list [])), .no, .no]).bind _).bind _) = _
  rw [h]
  show (((((b1V .sorted (.d (.list ([] ++ lotsL is (srtI is))))).bind fun (x : RV) => b1V B1.tuple x.rd).bind _).bind _).bind _) = _
  rw [List.nil_append]
  show ((((((match kindly (lotsL is (srtI is)) with | true => R.ok (RV.o (.d (.list (sortD (lotsL is (srtI is)))))) | false => .stuck)).bind fun (x : RV) => b1V B1.tuple x.rd).bind _).bind _).bind _) = _
  rw [hk]
  rfl
theorem take_of {M : Nat} (h0 : 0 < M) (h1 : M < big) : takeV [.row, .d (.int (.ofNat M))] = .draw M fun v => R.ok (RV.v (.d (.int v))) := by
  show (match Nat.blt 0 M, Nat.blt M big with | true, true => R.draw M fun v => R.ok (RV.v (.d (.int v))) | _, _ => .stuck) = _
  rw [nblt, nblt, decide_eq_true h0, decide_eq_true h1]
theorem loopL_draw {tk M : Nat} {S : Slot} (ht : cf tk = takeV) (h0 : 0 < M) (h1 : M < big) : ∀ (n : Nat) (i : Int),
    (loopL (rngFrom i n) (.name 3) [.v .row, S, .v (.d (.int (.ofNat M))), .no] (fun e1 => (dE cf (.call tk (.cons (.var 0) (.cons (.var 2) .nil))) e1).bind fzD)).Post fun l => ∃ is, l = mkIs is ∧ is.length = n ∧ ∀ x ∈ is, ∃ v, v < M ∧ x = Int.ofNat v
  | 0, _ => ⟨[], rfl, rfl, fun _ h => nomatch h⟩
  | n + 1, i => by
    show (((cf tk [.row, .d (.int (.ofNat M))]).bind fzD).bind _).Post _
    rw [ht, take_of h0 h1]
    refine ⟨h0, fun v hv => ?_⟩
    show ((loopL (rngFrom (i + 1) n) (.name 3) [.v .row, S, .v (.d (.int (.ofNat M))), .no] _).bind fun ys => R.ok (PyData.int (.ofNat v) :: ys)).Post _
    refine R.post_bind' ((loopL_draw ht h0 h1 n (i + 1)).mono fun l ⟨is, e1, e2, e3⟩ => ?_)
    refine ⟨.ofNat v :: is, by rw [e1]; rfl, congrArg Nat.succ e2, fun x hx => ?_⟩
    rcases List.mem_cons.mp hx with e | hx
    · exact ⟨v, hv, e⟩
    · exact e3 x hx
theorem grp_post {cf' : Nat → List Val → R RV} {tk lt n : Nat} {Q : RV → Prop} (ht : cf tk = takeV) (hl : cf lt = runDef cf' lotsDef) (h0 : 0 < n) (h1 : n ≤ 60)
    (q : ∀ is : List Int, is.length = n → (∀ x ∈ is, ∃ v, v < n ∧ x = Int.ofNat v) → kindly (lotsL is (srtI is)) = true ∧ Q (.v (.d (.tuple (sortD (lotsL is (srtI is))))))) :
    (runDef cf (grpDef tk lt) [.row, .d (.int (.ofNat n))]).Post Q := by
  have hb : (60 : Nat) < big := by decide +kernel
  show (((((cf tk [.row, .d (.int (.ofNat n))]).bind fun y => binV .add (.d (.int 1)) y.rd).bind _).bind _).bind _).Post _
  rw [ht, take_of h0 (by omega)]
  refine ⟨h0, fun v hv => ?_⟩
  show ((((((((match smallI (.ofNat n) with | true => R.ok (rngFrom 0 (natOf (.ofNat n))) | false => .stuck)).bind fun xs => (loopL xs (.name 3) [.v .row, .v (.d (.int (.ofNat n))), .v (.d (.int (.ofNat (1 + v)))), .no] (fun e1 => (dE cf (.call tk (.cons (.var 0) (.cons (.var 2) .nil))) e1).bind fzD)).bind newL).bind fun x => x.fz.bind fun v => R.bind (.ok []) fun vs => .ok (v :: vs)).bind fun xs => cf lt xs).bind fun x => R.ok (Out.rt x)).bind _).bind _).Post _
  have e : smallI (.ofNat n) = true := by
    show Nat.blt n 1000000 = true
    rw [nblt]
    exact decide_eq_true (by omega)
  rw [e]
  refine R.post_bind' (R.post_bind' (R.post_bind' (R.post_bind' (R.post_bind' ?_))))
  show ((loopL (rngFrom 0 n) (.name 3) [.v .row, .v (.d (.int (.ofNat n))), .v (.d (.int (.ofNat (1 + v)))), .no] (fun e1 => (dE cf (.call tk (.cons (.var 0) (.cons (.var 2) .nil))) e1).bind fzD)).bind newL).Post _
  refine R.post_bind' ((loopL_draw (S := .v (.d (.int (.ofNat n)))) ht (M := 1 + v) (by omega) (by omega) n 0).mono fun l ⟨is, e1, e2, e3⟩ => ?_)
  subst e1
  unfold newL
  rw [few_of (by rw [mkIs_len]; unfold lim; omega)]
  obtain ⟨k1, k2⟩ := q is e2 fun x hx => by
    obtain ⟨w, hw, e⟩ := e3 x hx
    exact ⟨w, by omega, e⟩
  show (cf lt [.d (.list (mkIs is))]).Post _
  rw [hl, lots_run (by omega) k1]
  exact k2
end
/-! ### all labels; groupings by their first lot -/
def allLab (m : Nat) : Nat → (List Int → Bool) → Bool
  | 0, p => p []
  | n + 1, p => allB m fun v => allLab m n fun l => p (Int.ofNat v :: l)
theorem allLab_use {m : Nat} : ∀ {n : Nat} {p : List Int → Bool}, allLab m n p = true → ∀ is : List Int, is.length = n → (∀ x ∈ is, ∃ v, v < m ∧ x = Int.ofNat v) → p is = true
  | 0, p, h, [], _, _ => h
  | n + 1, p, h, x :: r, hl, hx => by
    obtain ⟨v, hv, e⟩ := hx x (List.mem_cons_self ..)
    subst e
    exact allLab_use (allB_use (p := fun v => allLab m n fun l => p (Int.ofNat v :: l)) h v hv) r (Nat.succ.inj hl) fun y hy => hx y (List.mem_cons_of_mem _ hy)
  | 0, _, _, _ :: _, hl, _ => nomatch hl
  | _ + 1, _, _, [], hl, _ => nomatch hl
theorem allB_of : ∀ {n : Nat} {p : Nat → Bool}, (∀ v, v < n → p v = true) → allB n p = true
  | 0, _, _ => rfl
  | n + 1, p, h => by
    show (match p n with | true => allB n p | false => false) = true
    rw [h n (Nat.lt_succ_self n)]
    exact allB_of fun v hv => h v (Nat.lt_succ_of_lt hv)
abbrev GT : Type := List (D × List (List D))
def memR (r : List D) : List (List D) → Bool
  | [] => false
  | x :: l => match eqDs r x with | true => true | false => memR r l
def memG (x : D) (r : List D) : GT → Bool
  | [] => false
  | (y, l) :: t => match eqD x y with | true => memR r l | false => memG x r t
def inG (t : GT) : List D → Bool
  | [] => false
  | x :: r => memG x r t
def addG (y : D) : List (List D) → List D → List D
  | [], a => a
  | r :: l, a => .tuple (y :: r) :: addG y l a
def flatG : GT → List D
  | [] => []
  | (y, l) :: t => addG y l (flatG t)
theorem addG_tail {y z : D} {a : List D} : ∀ {l : List (List D)}, z ∈ a → z ∈ addG y l a
  | [], h => h
  | _ :: l, h => List.mem_cons_of_mem _ (addG_tail (l := l) h)
theorem memR_mem {y : D} {r : List D} {a : List D} : ∀ {l : List (List D)}, memR r l = true → PyData.tuple (y :: r) ∈ addG y l a
  | [], h => (Bool.false_ne_true h).elim
  | x :: l, h => by
    have h : (match eqDs r x with | true => true | false => memR r l) = true := h
    cases z : eqDs r x with
    | true => rw [eqDs_eq z]; exact List.mem_cons_self ..
    | false => rw [z] at h; exact List.mem_cons_of_mem _ (memR_mem h)
theorem memG_mem {x : D} {r : List D} : ∀ {t : GT}, memG x r t = true → PyData.tuple (x :: r) ∈ flatG t
  | [], h => (Bool.false_ne_true h).elim
  | (y, l) :: t, h => by
    have h : (match eqD x y with | true => memR r l | false => memG x r t) = true := h
    cases z : eqD x y with
    | true => rw [z] at h; rw [eqD_eq z]; exact memR_mem h
    | false => rw [z] at h; exact addG_tail (memG_mem h)
def leafG (t : GT) (is : List Int) : Bool := kindly (lotsL is (srtI is)) && inG t (sortD (lotsL is (srtI is)))
theorem leafG_use {t : GT} {is : List Int} (h : leafG t is = true) : kindly (lotsL is (srtI is)) = true ∧ PyData.tuple (sortD (lotsL is (srtI is))) ∈ flatG t := by
  obtain ⟨h1, h2⟩ := and2 h
  refine ⟨h1, ?_⟩
  cases e : sortD (lotsL is (srtI is)) with
  | nil => rw [e] at h2; exact (Bool.false_ne_true h2).elim
  | cons x r => rw [e] at h2; exact memG_mem h2
/-- the draw of a grouping yields one of the list -/
theorem grp_in {cf cf' : Nat → List Val → R RV} {tk lt n : Nat} {t : GT} {l : List D} (ht : cf tk = takeV) (hl : cf lt = runDef cf' lotsDef) (h0 : 0 < n) (h1 : n ≤ 60) (hf : flatG t = l) (h : allLab n n (leafG t) = true) :
    (runDef cf (grpDef tk lt) [.row, .d (.int (.ofNat n))]).Post fun r => ∃ x, r = .v (.d x) ∧ x ∈ l :=
  grp_post ht hl h0 h1 fun is e1 e2 => by
    obtain ⟨k1, k2⟩ := leafG_use (allLab_use h is e1 e2)
    exact ⟨k1, _, rfl, hf ▸ k2⟩
end Ev

/-! Only labels without gaps need be looked at. -/
namespace Ev
open PySem
def del (v : Nat) : List Nat → List Nat
  | [] => []
  | u :: r => match Nat.beq v u with
    | true => del v r
    | false => u :: del v r
def allSur (k : Nat) : Nat → List Nat → (List Int → Bool) → Bool
  | 0, [], p => p []
  | 0, _ :: _, _ => true
  | n + 1, miss, p => allB k fun v => allSur k n (del v miss) fun l => p (Int.ofNat v :: l)
theorem del_mem {v u : Nat} : ∀ {l : List Nat}, u ∈ del v l → u ∈ l ∧ u ≠ v
  | [], h => nomatch h
  | w :: r, h => by
    have h : u ∈ (match (generalizing := false) Nat.beq v w with | true => del v r | false => w :: del v r) := h
    cases z : Nat.beq v w with
    | true =>
      rw [z] at h
      exact ⟨List.mem_cons_of_mem _ (del_mem h).1, (del_mem h).2⟩
    | false =>
      rw [z] at h
      rcases List.mem_cons.mp h with e | h
      · subst e
        exact ⟨List.mem_cons_self .., fun e => Nat.ne_of_beq_eq_false z e.symm⟩
      · exact ⟨List.mem_cons_of_mem _ (del_mem h).1, (del_mem h).2⟩
theorem allSur_use {k : Nat} : ∀ {n : Nat} {miss : List Nat} {p : List Int → Bool}, allSur k n miss p = true → ∀ is : List Int, is.length = n → (∀ x ∈ is, ∃ v, v < k ∧ x = Int.ofNat v) → (∀ u ∈ miss, Int.ofNat u ∈ is) → p is = true
  | 0, [], p, h, [], _, _, _ => h
  | 0, u :: _, p, _, [], _, _, hm => nomatch hm u (List.mem_cons_self ..)
  | n + 1, miss, p, h, x :: r, hl, hx, hm => by
    obtain ⟨v, hv, e⟩ := hx x (List.mem_cons_self ..)
    subst e
    refine allSur_use (allB_use (p := fun v => allSur k n (del v miss) fun l => p (Int.ofNat v :: l)) h v hv) r (Nat.succ.inj hl) (fun y hy => hx y (List.mem_cons_of_mem _ hy)) fun u hu => ?_
    obtain ⟨h1, h2⟩ := del_mem hu
    rcases List.mem_cons.mp (hm u h1) with e | q
    · exact absurd (Int.ofNat.inj e) h2
    · exact q
  | 0, [], _, _, _ :: _, hl, _, _ => nomatch hl
  | 0, _ :: _, _, _, _ :: _, hl, _, _ => nomatch hl
  | _ + 1, _, _, _, [], hl, _, _ => nomatch hl
/-! ### labels by their places -/
def rankI (x : Int) : List Int → Nat
  | [] => 0
  | y :: r => match iEq x y with
    | true => 0
    | false => rankI x r + 1
theorem rank_lt {x : Int} : ∀ {S : List Int}, x ∈ S → rankI x S < S.length
  | [], h => nomatch h
  | y :: r, h => by
    show (match iEq x y with | true => 0 | false => rankI x r + 1) < r.length + 1
    cases z : iEq x y with
    | true => exact Nat.zero_lt_succ _
    | false =>
      rcases List.mem_cons.mp h with e | h
      · rw [iEq_iff, e] at z
        simp at z
      · exact Nat.succ_lt_succ (rank_lt h)
theorem rank_mono {x y : Int} : ∀ {S : List Int}, S.Pairwise (· < ·) → x ∈ S → y ∈ S → x < y → rankI x S < rankI y S
  | [], _, h, _, _ => nomatch h
  | z :: r, hs, hx, hy, l => by
    obtain ⟨s1, s2⟩ := List.pairwise_cons.mp hs
    show (match iEq x z with | true => 0 | false => rankI x r + 1) < (match iEq y z with | true => 0 | false => rankI y r + 1)
    rw [iEq_iff, iEq_iff]
    rcases List.mem_cons.mp hx with ex | hx
    · rcases List.mem_cons.mp hy with ey | hy
      · omega
      · rw [decide_eq_true ex, decide_eq_false (by omega)]
        exact Nat.zero_lt_succ _
    · have := s1 x hx
      rcases List.mem_cons.mp hy with ey | hy
      · omega
      · have := s1 y hy
        rw [decide_eq_false (by omega), decide_eq_false (by omega)]
        exact Nat.succ_lt_succ (rank_mono s2 hx hy l)
theorem rank_all : ∀ {S : List Int}, S.Pairwise (· < ·) → ∀ j, j < S.length → ∃ x, x ∈ S ∧ rankI x S = j
  | [], _, j, h => absurd h (Nat.not_lt_zero j)
  | z :: r, hs, 0, _ => ⟨z, List.mem_cons_self .., by
    show (match iEq z z with | true => 0 | false => rankI z r + 1) = 0
    rw [iEq_iff, decide_eq_true rfl]⟩
  | z :: r, hs, j + 1, h => by
    obtain ⟨s1, s2⟩ := List.pairwise_cons.mp hs
    obtain ⟨x, hx, e⟩ := rank_all s2 j (Nat.lt_of_succ_lt_succ h)
    refine ⟨x, List.mem_cons_of_mem _ hx, ?_⟩
    show (match iEq x z with | true => 0 | false => rankI x r + 1) = j + 1
    have := s1 x hx
    rw [iEq_iff, decide_eq_false (by omega), e]
section
variable {f : Int → Int} {M : List Int}
variable (hlt : ∀ a ∈ M, ∀ b ∈ M, iLt (f a) (f b) = iLt a b) (heq : ∀ a ∈ M, ∀ b ∈ M, iEq (f a) (f b) = iEq a b)
include hlt heq
theorem insI_map {i : Int} (hi : i ∈ M) : ∀ (l : List Int), (∀ x ∈ l, x ∈ M) → insI (f i) (l.map f) = (insI i l).map f
  | [], _ => rfl
  | j :: r, h => by
    have hj := h j (List.mem_cons_self ..)
    show (match iLt (f i) (f j) with | true => f i :: f j :: r.map f | false => match iEq (f i) (f j) with | true => f j :: r.map f | false => f j :: insI (f i) (r.map f)) = (match iLt i j with | true => i :: j :: r | false => match iEq i j with | true => j :: r | false => j :: insI i r).map f
    rw [hlt i hi j hj, heq i hi j hj]
    cases iLt i j with
    | true => rfl
    | false => cases iEq i j with
      | true => rfl
      | false =>
        show f j :: insI (f i) (r.map f) = f j :: (insI i r).map f
        rw [insI_map hi r fun x hx => h x (List.mem_cons_of_mem _ hx)]
theorem srtI_map : ∀ (l : List Int), (∀ x ∈ l, x ∈ M) → srtI (l.map f) = (srtI l).map f
  | [], _ => rfl
  | i :: r, h => by
    show insI (f i) (srtI (r.map f)) = (insI i (srtI r)).map f
    rw [srtI_map r fun x hx => h x (List.mem_cons_of_mem _ hx)]
    exact insI_map hlt heq (h i (List.mem_cons_self ..)) _ fun x hx => h x (List.mem_cons_of_mem _ ((srtI_mem r x).mp hx))
omit hlt
theorem posL_map {z : Int} (hz : z ∈ M) : ∀ (l : List Int) (i : Nat), (∀ x ∈ l, x ∈ M) → posL (f z) i (l.map f) = posL z i l
  | [], _, _ => rfl
  | y :: r, i, h => by
    show (match iEq (f y) (f z) with | true => Int.ofNat i :: posL (f z) (i + 1) (r.map f) | false => posL (f z) (i + 1) (r.map f)) = (match iEq y z with | true => Int.ofNat i :: posL z (i + 1) r | false => posL z (i + 1) r)
    rw [heq y (h y (List.mem_cons_self ..)) z hz, posL_map hz r (i + 1) fun x hx => h x (List.mem_cons_of_mem _ hx)]
theorem lotsL_map {is : List Int} (hi : ∀ x ∈ is, x ∈ M) : ∀ (zs : List Int), (∀ x ∈ zs, x ∈ M) → lotsL (is.map f) (zs.map f) = lotsL is zs
  | [], _ => rfl
  | z :: zs, h => by
    show PyData.tuple (mkIs (posL (f z) 0 (is.map f))) :: lotsL (is.map f) (zs.map f) = .tuple (mkIs (posL z 0 is)) :: lotsL is zs
    rw [posL_map heq (h z (List.mem_cons_self ..)) is 0 hi, lotsL_map hi zs fun x hx => h x (List.mem_cons_of_mem _ hx)]
end
def upto : Nat → List Nat
  | 0 => []
  | k + 1 => k :: upto k
theorem upto_lt {u : Nat} : ∀ {k : Nat}, u ∈ upto k → u < k
  | 0, h => nomatch h
  | k + 1, h => by
    rcases List.mem_cons.mp h with e | h
    · omega
    · have := upto_lt h
      omega
theorem lots_rank (is : List Int) : ∃ c : List Int, c.length = is.length ∧ (∀ x ∈ c, ∃ v, v < (srtI is).length ∧ x = Int.ofNat v) ∧ (∀ u ∈ upto (srtI is).length, Int.ofNat u ∈ c) ∧ lotsL c (srtI c) = lotsL is (srtI is) := by
  have up := srtI_up is
  have mem := srtI_mem is
  have lt : ∀ a ∈ srtI is, ∀ b ∈ srtI is, iLt (Int.ofNat (rankI a (srtI is))) (Int.ofNat (rankI b (srtI is))) = iLt a b := fun a ha b hb => by
    rw [iLt_iff, iLt_iff]
    refine decide_eq_decide.mpr ⟨fun h => ?_, fun h => Int.ofNat_lt.mpr (rank_mono up ha hb h)⟩
    have h : rankI a (srtI is) < rankI b (srtI is) := Int.ofNat_lt.mp h
    rcases Int.lt_trichotomy a b with q | q | q
    · exact q
    · rw [q] at h; omega
    · have := rank_mono up hb ha q; omega
  have eq : ∀ a ∈ srtI is, ∀ b ∈ srtI is, iEq (Int.ofNat (rankI a (srtI is))) (Int.ofNat (rankI b (srtI is))) = iEq a b := fun a ha b hb => by
    rw [iEq_iff, iEq_iff]
    refine decide_eq_decide.mpr ⟨fun h => ?_, fun h => by rw [h]⟩
    have h : rankI a (srtI is) = rankI b (srtI is) := Int.ofNat.inj h
    rcases Int.lt_trichotomy a b with q | q | q
    · have := rank_mono up ha hb q; omega
    · exact q
    · have := rank_mono up hb ha q; omega
  refine ⟨is.map fun x => Int.ofNat (rankI x (srtI is)), by simp, fun x hx => ?_, fun u hu => ?_, ?_⟩
  · obtain ⟨y, hy, e⟩ := List.mem_map.mp hx
    exact ⟨_, rank_lt ((mem y).mpr hy), e.symm⟩
  · obtain ⟨x, hx, e⟩ := rank_all up u (upto_lt hu)
    exact List.mem_map.mpr ⟨x, (mem x).mp hx, by rw [e]⟩
  · have hi : ∀ x ∈ is, x ∈ srtI is := fun x hx => (mem x).mpr hx
    rw [srtI_map (f := fun x => Int.ofNat (rankI x (srtI is))) lt eq is hi]
    exact lotsL_map (f := fun x => Int.ofNat (rankI x (srtI is))) eq hi _ fun x hx => hx
/-- the draw of a grouping yields one of the list -/
theorem grp_in2 {cf cf' : Nat → List Val → R RV} {tk lt n : Nat} {t : GT} {l : List D} (ht : cf tk = takeV) (hl : cf lt = runDef cf' lotsDef) (h0 : 0 < n) (h1 : n ≤ 60) (hf : flatG t = l) (h : ∀ k, k < n + 1 → allSur k n (upto k) (leafG t) = true) :
    (runDef cf (grpDef tk lt) [.row, .d (.int (.ofNat n))]).Post fun r => ∃ x, r = .v (.d x) ∧ x ∈ l :=
  grp_post ht hl h0 h1 fun is e1 e2 => by
    obtain ⟨c, c1, c2, c3, c4⟩ := lots_rank is
    have hk : (srtI is).length < n + 1 := by
      have := srtI_len is
      omega
    obtain ⟨k1, k2⟩ := leafG_use (allSur_use (h _ hk) c (by rw [c1, e1]) c2 c3)
    rw [c4] at k1 k2
    exact ⟨k1, _, rfl, hf ▸ k2⟩
end Ev

/-! A def's calls told by a function of one's own; a loop told turn by turn. -/
namespace Ev
open PySem
/-- the calls of def g by F where it tells -/
def ovr (g : Nat) (F : List Val → Option (R RV)) (cf : Nat → List Val → R RV) : Nat → List Val → R RV := fun f args => match Nat.beq f g with
  | true => match F args with | some r => r | none => cf f args
  | false => cf f args
theorem ovr_eq {g : Nat} {F : List Val → Option (R RV)} {cf : Nat → List Val → R RV} (h : ∀ args r, F args = some r → cf g args = r) : ovr g F cf = cf := by
  funext f args
  unfold ovr
  cases q : Nat.beq f g with
  | false => rfl
  | true =>
    cases Nat.eq_of_beq_eq_true q
    show (match F args with | some r => r | none => cf g args) = _
    cases z : F args with
    | none => rfl
    | some r => exact (h _ _ z).symm
def nthE : List Env → Nat → Env
  | [], _ => []
  | x :: _, 0 => x
  | _ :: r, i + 1 => nthE r i
theorem for_chain {i a : Nat} {b : Env → R Out} {E : Nat → Env} : ∀ (n k : Nat), (∀ m, m < k + n → b (setAt (E m) i (.v (.d (.int (.ofNat (a + m)))))) = .ok (.nx (E (m + 1)))) → loopFor (rngFrom (.ofNat (a + k)) n) (.name i) b (E k) = .ok (.nx (E (k + n)))
  | 0, _, _ => rfl
  | n + 1, k, h => by
    show (b (setAt (E k) i (.v (.d (.int (.ofNat (a + k))))))).bind _ = _
    rw [h k (by omega)]
    have e := for_chain n (k + 1) fun m hm => h m (by omega)
    rw [show k + (n + 1) = k + 1 + n from by omega]
    exact e
theorem run_chain {cIn : Nat → List Val → R RV} {df : Def} {args : List Val} {e0 : Env} {pre it b ret : Ex} {i a n : Nat} {E : Nat → Env} {r : RV}
    (hdf : df.body = .scons pre (.scons (.forS (.name i) it b) (.scons (.ret ret) .snil))) (h0 : Nat.beq args.length df.ar = true) (he : env0 df.slots args = .ok e0)
    (hp : dS cIn pre e0 = .ok (.nx (E 0))) (hi : dI cIn it (E 0) = .ok (rngFrom (.ofNat a) n))
    (hb : ∀ m, m < n → dS cIn b (setAt (E m) i (.v (.d (.int (.ofNat (a + m)))))) = .ok (.nx (E (m + 1)))) (hr : dE cIn ret (E n) = .ok r) : runDef cIn df args = .ok r.out := by
  unfold runDef
  rw [h0]
  show ((env0 df.slots args).bind fun e => (dS cIn df.body e).bind _) = _
  rw [he, hdf]
  show (((dS cIn pre e0).bind _).bind _) = _
  rw [hp]
  show (((((dI cIn it (E 0)).bind fun xs => loopFor xs (.name i) (fun e1 => dS cIn b e1) (E 0))).bind _).bind _) = _
  rw [hi]
  have z := for_chain (i := i) (a := a) (b := fun e1 => dS cIn b e1) (E := E) n 0 (fun m hm => hb m (by omega))
  rw [Nat.zero_add] at z
  show (((loopFor (rngFrom (.ofNat a) n) (.name i) (fun e1 => dS cIn b e1) (E 0)).bind _).bind _) = _
  rw [show a = a + 0 from rfl, z]
  show ((((dE cIn ret (E n)).bind _).bind _).bind _) = _
  rw [hr]
  rfl
theorem tabOk_c {cf : List Val → R RV} {a : List D} {b : Bool} {d : D} {t : Tab} (h : cf (a.map .d) = resOf b d) (hd : eqD d d = true) (ht : tabOk cf t = true) : tabOk cf ((a, b, d) :: t) = true := by
  show (match eqRes (cf (a.map .d)) b d with | true => tabOk cf t | false => false) = true
  rw [h, show eqRes (resOf b d) b d = true from by cases b <;> exact hd]
  exact ht
end Ev

/-! What a def yields with few levels of calls it yields with more. -/
namespace Ev
open PySem
def Ok1 {α : Type} (r' r : R α) : Prop := ∀ v, r' = .ok v → r = .ok v
theorem Ok1.refl {α : Type} (r : R α) : Ok1 r r := fun _ h => h
theorem Ok1.bind {α β : Type} {r' r : R α} {f' f : α → R β} (h : Ok1 r' r) (g : ∀ a, Ok1 (f' a) (f a)) : Ok1 (r'.bind f') (r.bind f) := fun v e => by
  cases r' with
  | ok a =>
    rw [h a rfl]
    exact g a v e
  | stuck => cases e
  | draw m k => cases e
section
variable {tg : Tg} {e0 : Env}
theorem le_loopL {f' f : Env → R D} (h : ∀ e, Ok1 (f' e) (f e)) : ∀ xs, Ok1 (loopL xs tg e0 f') (loopL xs tg e0 f)
  | [] => Ok1.refl _
  | x :: xs => Ok1.bind (Ok1.refl _) fun e => Ok1.bind (h e) fun y => Ok1.bind (le_loopL h xs) fun ys => Ok1.refl _
theorem le_loopIf {f' f : Env → R D} {c' c : Env → R Bool} (h : ∀ e, Ok1 (f' e) (f e)) (hc : ∀ e, Ok1 (c' e) (c e)) : ∀ xs, Ok1 (loopIf xs tg e0 f' c') (loopIf xs tg e0 f c)
  | [] => Ok1.refl _
  | x :: xs => Ok1.bind (Ok1.refl _) fun e => Ok1.bind (hc e) fun b => by
    cases b with
    | true => exact Ok1.bind (h e) fun y => Ok1.bind (le_loopIf h hc xs) fun ys => Ok1.refl _
    | false => exact le_loopIf h hc xs
theorem le_loopAll {c' c : Env → R Bool} (hc : ∀ e, Ok1 (c' e) (c e)) : ∀ xs, Ok1 (loopAll xs tg e0 c') (loopAll xs tg e0 c)
  | [] => Ok1.refl _
  | x :: xs => Ok1.bind (Ok1.refl _) fun e => Ok1.bind (hc e) fun b => by
    cases b with
    | true => exact le_loopAll hc xs
    | false => exact Ok1.refl _
theorem le_loopAny {c' c : Env → R Bool} (hc : ∀ e, Ok1 (c' e) (c e)) : ∀ xs, Ok1 (loopAny xs tg e0 c') (loopAny xs tg e0 c)
  | [] => Ok1.refl _
  | x :: xs => Ok1.bind (Ok1.refl _) fun e => Ok1.bind (hc e) fun b => by
    cases b with
    | true => exact Ok1.refl _
    | false => exact le_loopAny hc xs
theorem le_loopSum {c' c : Env → R Int} (hc : ∀ e, Ok1 (c' e) (c e)) : ∀ xs acc, Ok1 (loopSum acc xs tg e0 c') (loopSum acc xs tg e0 c)
  | [], _ => Ok1.refl _
  | x :: xs, acc => Ok1.bind (Ok1.refl _) fun e => Ok1.bind (hc e) fun b => le_loopSum hc xs (acc + b)
theorem le_loopFor {b' b : Env → R Out} (h : ∀ e, Ok1 (b' e) (b e)) : ∀ xs e, Ok1 (loopFor xs tg b' e) (loopFor xs tg b e)
  | [], _ => Ok1.refl _
  | x :: xs, e => Ok1.bind (Ok1.refl _) fun e1 => Ok1.bind (h e1) fun o => by
    cases o with
    | nx e2 => exact le_loopFor h xs e2
    | bk e2 => exact Ok1.refl _
    | rt r => exact Ok1.refl _
theorem le_loopWh {c' c : Env → R Bool} {b' b : Env → R Out} (hc : ∀ e, Ok1 (c' e) (c e)) (h : ∀ e, Ok1 (b' e) (b e)) : ∀ n e, Ok1 (loopWh n c' b' e) (loopWh n c b e)
  | 0, _ => Ok1.refl _
  | n + 1, e => Ok1.bind (hc e) fun k => by
    cases k with
    | true =>
      refine Ok1.bind (h e) fun o => ?_
      cases o with
      | nx e2 => exact le_loopWh hc h n e2
      | bk e2 => exact Ok1.refl _
      | rt r => exact Ok1.refl _
    | false => exact Ok1.refl _
end
section
variable {cf' cf : Nat → List Val → R RV}
variable (cf' cf) in
structure AllOk1 (x : Ex) : Prop where
  e : ∀ v, Ok1 (dE cf' x v) (dE cf x v)
  t : ∀ v, Ok1 (dT cf' x v) (dT cf x v)
  l : ∀ v, Ok1 (dL cf' x v) (dL cf x v)
  d : ∀ v, Ok1 (dD cf' x v) (dD cf x v)
  r : ∀ v, Ok1 (dR cf' x v) (dR cf x v)
  o : ∀ v, Ok1 (dO cf' x v) (dO cf x v)
  i : ∀ v, Ok1 (dI cf' x v) (dI cf x v)
  s : ∀ v, Ok1 (dS cf' x v) (dS cf x v)
theorem all_le (hc : ∀ f args, Ok1 (cf' f args) (cf f args)) (x : Ex) : AllOk1 cf' cf x := by
  induction x with
  | call f es ih =>
    refine ⟨fun v => ?_, fun v => ?_, fun v => ?_, fun v => ?_, fun v => ?_, fun v => ?_, fun v => ?_, fun v => ?_⟩
    · exact Ok1.bind (ih.l v) fun xs => hc f xs
    all_goals exact Ok1.refl _
  | gx kk own tg a b ha hb =>
    refine ⟨fun v => ?_, fun v => ?_, fun v => ?_, fun v => ?_, fun v => ?_, fun v => ?_, fun v => ?_, fun v => ?_⟩
    · cases kk <;> simp only [dE] <;> repeat' (first | exact Ok1.refl _ | (apply AllOk1.e; assumption) | (apply AllOk1.t; assumption) | (apply AllOk1.l; assumption) | (apply AllOk1.d; assumption) | (apply AllOk1.r; assumption) | (apply AllOk1.o; assumption) | (apply AllOk1.i; assumption) | (apply AllOk1.s; assumption) | refine Ok1.bind ?_ fun _ => ?_ | (refine le_loopL (fun _ => ?_) _) | (refine le_loopIf (fun _ => ?_) (fun _ => ?_) _) | (refine le_loopAll (fun _ => ?_) _) | (refine le_loopAny (fun _ => ?_) _) | (refine le_loopSum (fun _ => ?_) _ _) | (refine le_loopFor (fun _ => ?_) _ _) | (refine le_loopWh (fun _ => ?_) (fun _ => ?_) _ _) | split)
    all_goals exact Ok1.refl _
  | asg tg a ha =>
    refine ⟨fun v => ?_, fun v => ?_, fun v => ?_, fun v => ?_, fun v => ?_, fun v => ?_, fun v => ?_, fun v => ?_⟩
    case _ => exact Ok1.refl _
    case _ => exact Ok1.refl _
    case _ => exact Ok1.refl _
    case _ => exact Ok1.refl _
    case _ => exact Ok1.refl _
    case _ => exact Ok1.refl _
    case _ => exact Ok1.refl _
    cases tg <;> simp only [dS] <;> repeat' (first | exact Ok1.refl _ | (apply AllOk1.e; assumption) | (apply AllOk1.t; assumption) | (apply AllOk1.l; assumption) | (apply AllOk1.d; assumption) | (apply AllOk1.r; assumption) | (apply AllOk1.o; assumption) | (apply AllOk1.i; assumption) | (apply AllOk1.s; assumption) | refine Ok1.bind ?_ fun _ => ?_ | (refine le_loopL (fun _ => ?_) _) | (refine le_loopIf (fun _ => ?_) (fun _ => ?_) _) | (refine le_loopAll (fun _ => ?_) _) | (refine le_loopAny (fun _ => ?_) _) | (refine le_loopSum (fun _ => ?_) _ _) | (refine le_loopFor (fun _ => ?_) _ _) | (refine le_loopWh (fun _ => ?_) (fun _ => ?_) _ _) | split)
  | _ =>
    refine ⟨fun v => ?_, fun v => ?_, fun v => ?_, fun v => ?_, fun v => ?_, fun v => ?_, fun v => ?_, fun v => ?_⟩ <;> (try simp only [dE, dT, dL, dD, dR, dO, dI, dS]) <;> repeat' (first | exact Ok1.refl _ | (apply AllOk1.e; assumption) | (apply AllOk1.t; assumption) | (apply AllOk1.l; assumption) | (apply AllOk1.d; assumption) | (apply AllOk1.r; assumption) | (apply AllOk1.o; assumption) | (apply AllOk1.i; assumption) | (apply AllOk1.s; assumption) | refine Ok1.bind ?_ fun _ => ?_ | (refine le_loopL (fun _ => ?_) _) | (refine le_loopIf (fun _ => ?_) (fun _ => ?_) _) | (refine le_loopAll (fun _ => ?_) _) | (refine le_loopAny (fun _ => ?_) _) | (refine le_loopSum (fun _ => ?_) _ _) | (refine le_loopFor (fun _ => ?_) _ _) | (refine le_loopWh (fun _ => ?_) (fun _ => ?_) _ _) | split)
end
theorem le_cfN {T : List Def} : ∀ (k f : Nat) (args : List Val), Ok1 (cfN T k f args) (cfN T (k + 1) f args)
  | 0, f, args => fun v h => by cases h
  | k + 1, f, args => by
    show Ok1 (match find T f with | some df => (match df.tk with | true => takeV args | false => runDef (cfN T k) df args) | none => .stuck) (match find T f with | some df => (match df.tk with | true => takeV args | false => runDef (cfN T (k + 1)) df args) | none => .stuck)
    cases find T f with
    | none => exact Ok1.refl _
    | some df =>
      show Ok1 (match df.tk with | true => takeV args | false => runDef (cfN T k) df args) (match df.tk with | true => takeV args | false => runDef (cfN T (k + 1)) df args)
      cases df.tk with
      | true => exact Ok1.refl _
      | false =>
        show Ok1 (match Nat.beq args.length df.ar with | true => _ | false => _) (match Nat.beq args.length df.ar with | true => _ | false => _)
        cases Nat.beq args.length df.ar with
        | false => exact Ok1.refl _
        | true => exact Ok1.bind (Ok1.refl _) fun e => Ok1.bind ((all_le (fun f args => le_cfN k f args) df.body).s e) fun o => Ok1.refl _
theorem ok_mono {T : List Def} {k f : Nat} {args : List Val} {v : RV} (h : cfN T k f args = .ok v) : ∀ j, cfN T (k + j) f args = .ok v
  | 0 => h
  | j + 1 => le_cfN (k + j) f args v (ok_mono h j)
theorem tab_mono {cf cf' : List Val → R RV} (h : ∀ args, Ok1 (cf args) (cf' args)) : ∀ {t : Tab}, tabOk cf t = true → tabOk cf' t = true
  | [], _ => rfl
  | (a, b, d) :: r, q => by
    have q : (match eqRes (cf (a.map .d)) b d with | true => tabOk cf r | false => false) = true := q
    cases z : eqRes (cf (a.map .d)) b d with
    | false => rw [z] at q; cases q
    | true =>
      rw [z] at q
      have e := eqRes_eq z
      have e' : cf' (a.map .d) = resOf b d := by
        have w : ∃ v, resOf b d = .ok v := by cases b <;> exact ⟨_, rfl⟩
        obtain ⟨v, w⟩ := w
        rw [w] at e ⊢
        exact h _ v e
      show (match eqRes (cf' (a.map .d)) b d with | true => tabOk cf' r | false => false) = true
      rw [e', ← e, z]
      exact tab_mono h q
theorem ok2_mono {cf cf' : List Val → R RV} (h : ∀ args, Ok1 (cf args) (cf' args)) : ∀ {t : Tab2}, Ok2 cf t → Ok2 cf' t
  | [], _ => trivial
  | (x, t) :: r, q => ⟨tab_mono (fun args => h (.d x :: args)) q.1, ok2_mono h q.2⟩
end Ev

/-! Rows of steps: drawn ones, their traces; what is alike. -/
namespace Ev
open PySem
theorem nth_mem : ∀ {l : List D} {k : Nat}, k < l.length → ∃ x, nth l k = .ok x ∧ x ∈ l
  | [], _, h => absurd h (Nat.not_lt_zero _)
  | x :: r, 0, _ => ⟨x, rfl, List.mem_cons_self ..⟩
  | x :: r, k + 1, h => by
    obtain ⟨y, h1, h2⟩ := nth_mem (l := r) (Nat.lt_of_succ_lt_succ h)
    exact ⟨y, h1, List.mem_cons_of_mem _ h2⟩
theorem nth_last : ∀ (l : List D) (x : D), nth (l ++ [x]) l.length = .ok x
  | [], _ => rfl
  | _ :: r, x => nth_last r x
theorem small_of {n : Nat} (h : n < 1000000) : smallI (.ofNat n) = true := by
  show Nat.blt n 1000000 = true
  rw [nblt]
  exact decide_eq_true h
theorem ix_last {l : List D} {x : D} : ixV (.d (.list (l ++ [x]))) (.d (.int (-1))) = .ok (.v (.d x)) := by
  show (match pyIx (l ++ [x]).length (.negSucc 0) with | some k => (nth (l ++ [x]) k).bind fun x => R.ok (RV.v (.d x)) | none => R.stuck) = _
  have h : pyIx (l ++ [x]).length (.negSucc 0) = some l.length := by
    show (match Nat.blt 0 (l ++ [x]).length with | true => some ((l ++ [x]).length - (0 + 1)) | false => none) = _
    rw [nblt, decide_eq_true (by simp)]
    simp
  rw [h]
  show (nth (l ++ [x]) l.length).bind _ = _
  rw [nth_last]
  rfl
/-! ### picks, rows -/
def pickDef (tk : Nat) : Def := ⟨2, 2, (.scons (.ret (.ix (.var 1) (.call tk (.cons (.var 0) (.cons (.b1 .len (.var 1)) .nil))))) .snil), false⟩
def rowDef (tk pk sl : Nat) : Def := ⟨3, 5, (.scons (.asg (.name 3) (.call sl (.cons (.var 1) .nil))) (.frz [3] (.scons (.ret (.b1 .tuple (.lc [4] (.name 4) (.irng1 (.call tk (.cons (.var 0) (.cons (.bin .add (.var 2) (.int 1)) .nil)))) (.call pk (.cons (.var 0) (.cons (.var 3) .nil)))))) .snil))), false⟩
section
variable {cf : Nat → List Val → R RV}
theorem pick_post {tk : Nat} (ht : cf tk = takeV) {l : List D} (h0 : 0 < l.length) (h1 : l.length < big) : (runDef cf (pickDef tk) [.row, .d (.list l)]).Post fun r => ∃ x, r = .v (.d x) ∧ x ∈ l := by
  show ((((cf tk [.row, .d (.int (.ofNat l.length))]).bind fun y => ixV (.d (.list l)) y.rd).bind _).bind _).bind _ |>.Post _
  rw [ht, take_of h0 h1]
  refine ⟨h0, fun v hv => ?_⟩
  obtain ⟨x, e1, e2⟩ := nth_mem hv
  show ((((match pyIx l.length (.ofNat v) with | some k => (nth l k).bind fun x => R.ok (RV.v (.d x)) | none => R.stuck).bind _).bind _).bind _).Post _
  rw [pyIx_of hv]
  show (((((nth l v).bind fun x => R.ok (RV.v (.d x))).bind _).bind _).bind _).Post _
  rw [e1]
  exact ⟨x, rfl, e2⟩
theorem loopL_pick {pk : Nat} {l : List D} {S1 S2 : Slot} (hp : (cf pk [.row, .d (.list l)]).Post fun r => ∃ x, r = .v (.d x) ∧ x ∈ l) : ∀ (n : Nat) (i : Int),
    (loopL (rngFrom i n) (.name 4) [.v .row, S1, S2, .v (.d (.list l)), .no] (fun e1 => (dE cf (.call pk (.cons (.var 0) (.cons (.var 3) .nil))) e1).bind fzD)).Post fun L => L.length = n ∧ ∀ x ∈ L, x ∈ l
  | 0, _ => ⟨rfl, fun _ h => nomatch h⟩
  | n + 1, i => by
    show (((cf pk [.row, .d (.list l)]).bind fzD).bind _).Post _
    refine R.post_bind' (R.post_bind' (hp.mono fun r ⟨x, e, hx⟩ => ?_))
    subst e
    show ((loopL (rngFrom (i + 1) n) (.name 4) [.v .row, S1, S2, .v (.d (.list l)), .no] _).bind fun ys => R.ok (x :: ys)).Post _
    refine R.post_bind' ((loopL_pick hp n (i + 1)).mono fun L ⟨e1, e2⟩ => ?_)
    refine ⟨congrArg Nat.succ e1, fun y hy => ?_⟩
    rcases List.mem_cons.mp hy with e | hy
    · rw [e]; exact hx
    · exact e2 y hy
theorem row_post {tk pk sl mo : Nat} {s : Int} {l : List D} (ht : cf tk = takeV) (hs : cf sl [.d (.int s)] = .ok (.o (.d (.list l)))) (hp : (cf pk [.row, .d (.list l)]).Post fun r => ∃ x, r = .v (.d x) ∧ x ∈ l) (hm : mo ≤ 1000) :
    (runDef cf (rowDef tk pk sl) [.row, .d (.int s), .d (.int (.ofNat mo))]).Post fun r => ∃ L, r = .v (.d (.tuple L)) ∧ L.length ≤ mo ∧ ∀ x ∈ L, x ∈ l := by
  have hb : (2000 : Nat) < big := by decide +kernel
  have e0 : dS cf (.asg (.name 3) (.call sl (.cons (.var 1) .nil))) [.v .row, .v (.d (.int s)), .v (.d (.int (.ofNat mo))), .no, .no] = .ok (.nx [.v .row, .v (.d (.int s)), .v (.d (.int (.ofNat mo))), .o (.d (.list l)), .no]) := by
    show (((cf sl [.d (.int s)]).bind _)) = _
    rw [hs]
    rfl
  show ((((dS cf (.asg (.name 3) (.call sl (.cons (.var 1) .nil))) [.v .row, .v (.d (.int s)), .v (.d (.int (.ofNat mo))), .no, .no]).bind _)).bind _).Post _
  rw [e0]
  show ((((((((cf tk [.row, .d (.int (.ofNat (mo + 1)))]).bind fun x => (intV x.rd).bind fun i => match smallI i with | true => R.ok (rngFrom 0 (natOf i)) | false => R.stuck).bind fun xs => (loopL xs (.name 4) [.v .row, .v (.d (.int s)), .v (.d (.int (.ofNat mo))), .v (.d (.list l)), .no] (fun e1 => (dE cf (.call pk (.cons (.var 0) (.cons (.var 3) .nil))) e1).bind fzD)).bind newL)).bind fun x => b1V .tuple x.rd).bind _).bind _).bind _).Post _
  rw [ht, take_of (by omega) (by omega)]
  refine ⟨by omega, fun v hv => ?_⟩
  show ((((((((match smallI (.ofNat v) with | true => R.ok (rngFrom 0 (natOf (.ofNat v))) | false => R.stuck)).bind fun xs => (loopL xs (.name 4) [.v .row, .v (.d (.int s)), .v (.d (.int (.ofNat mo))), .v (.d (.list l)), .no] (fun e1 => (dE cf (.call pk (.cons (.var 0) (.cons (.var 3) .nil))) e1).bind fzD)).bind newL)).bind fun x => b1V .tuple x.rd).bind _).bind _).bind _).Post _
  rw [small_of (by omega)]
  show (((((((loopL (rngFrom 0 v) (.name 4) [.v .row, .v (.d (.int s)), .v (.d (.int (.ofNat mo))), .v (.d (.list l)), .no] (fun e1 => (dE cf (.call pk (.cons (.var 0) (.cons (.var 3) .nil))) e1).bind fzD)).bind newL)).bind fun x => b1V .tuple x.rd).bind _).bind _).bind _).Post _
  refine R.post_bind' (R.post_bind' (R.post_bind' (R.post_bind' (R.post_bind' ((loopL_pick hp v 0).mono fun L ⟨e1, e2⟩ => ?_)))))
  unfold newL
  rw [few_of (by unfold lim; omega)]
  exact ⟨L, rfl, by omega, e2⟩
/-! ### traces -/
def scan (nx : D → D → D) : D → List D → List D
  | g, [] => [g]
  | g, t :: r => g :: scan nx (nx g t) r
def endg (nx : D → D → D) : D → List D → D
  | g, [] => g
  | g, t :: r => endg nx (nx g t) r
theorem scan_len {nx : D → D → D} : ∀ (L : List D) (g : D), (scan nx g L).length = L.length + 1
  | [], _ => rfl
  | t :: r, g => congrArg Nat.succ (scan_len r (nx g t))
theorem scan_end {nx : D → D → D} : ∀ (L : List D) (g : D), ∃ l, scan nx g L = l ++ [endg nx g L]
  | [], g => ⟨[], rfl⟩
  | t :: r, g => by
    obtain ⟨l, e⟩ := scan_end r (nx g t)
    exact ⟨g :: l, by show g :: scan nx (nx g t) r = _; rw [e]; rfl⟩
theorem scan_mem {nx : D → D → D} {gl sl : List D} (h : ∀ g, g ∈ gl → ∀ t, t ∈ sl → nx g t ∈ gl) : ∀ (L : List D) (g : D), g ∈ gl → (∀ t ∈ L, t ∈ sl) → ∀ x ∈ scan nx g L, x ∈ gl
  | [], g, hg, _, x, hx => by
    rcases List.mem_cons.mp hx with e | z
    · rw [e]; exact hg
    · cases z
  | t :: r, g, hg, hL, x, hx => by
    rcases List.mem_cons.mp hx with e | z
    · rw [e]; exact hg
    · exact scan_mem h r (nx g t) (h g hg t (hL t (List.mem_cons_self ..))) (fun y hy => hL y (List.mem_cons_of_mem _ hy)) x z
theorem endg_mem {nx : D → D → D} {gl sl : List D} (h : ∀ g, g ∈ gl → ∀ t, t ∈ sl → nx g t ∈ gl) : ∀ (L : List D) (g : D), g ∈ gl → (∀ t ∈ L, t ∈ sl) → endg nx g L ∈ gl
  | [], _, hg, _ => hg
  | t :: r, g, hg, hL => endg_mem h r (nx g t) (h g hg t (hL t (List.mem_cons_self ..))) fun y hy => hL y (List.mem_cons_of_mem _ hy)
def traceIn (sp : Nat) : Ex := .scons (.app 2 (.call sp (.cons (.ix (.var 2) (.neg (.int 1))) (.cons (.var 3) .nil)))) .snil
def traceDef (sp : Nat) : Def := ⟨2, 4, (.scons (.asg (.name 2) (.lst (.cons (.var 0) .nil))) (.scons (.forS (.name 3) (.iseq (.var 1)) (traceIn sp)) (.scons (.ret (.var 2)) .snil))), false⟩
theorem trace_loop {sp : Nat} {nx : D → D → D} {gl sl : List D} {A B : Slot} (h : ∀ g, g ∈ gl → ∀ t, t ∈ sl → nx g t ∈ gl ∧ cf sp [.d g, .d t] = .ok (.v (.d (nx g t)))) : ∀ (L acc : List D) (g : D) (s : Slot), g ∈ gl → (∀ t ∈ L, t ∈ sl) → acc.length + L.length ≤ 1000 →
    ∃ s', loopFor L (.name 3) (fun e => dS cf (traceIn sp) e) [A, B, .o (.d (.list (acc ++ [g]))), s] = .ok (.nx [A, B, .o (.d (.list (acc ++ scan nx g L))), s'])
  | [], acc, g, s, _, _, _ => ⟨s, rfl⟩
  | t :: r, acc, g, s, hg, hL, hn => by
    obtain ⟨h1, h2⟩ := h g hg t (hL t (List.mem_cons_self ..))
    have hc : dS cf (traceIn sp) [A, B, .o (.d (.list (acc ++ [g]))), .v (.d t)] = .ok (.nx [A, B, .o (.d (.list ((acc ++ [g]) ++ [nx g t]))), .v (.d t)]) := by
      have e1 : dE cf (.call sp (.cons (.ix (.var 2) (.neg (.int 1))) (.cons (.var 3) .nil))) [A, B, .o (.d (.list (acc ++ [g]))), .v (.d t)] = .ok (.v (.d (nx g t))) := by
        show ((((ixV (.d (.list (acc ++ [g]))) (.d (.int (-1)))).bind fun x => x.fz.bind fun v => R.bind (R.ok [.d t]) fun vs => R.ok (v :: vs))).bind fun xs => cf sp xs) = _
        rw [ix_last]
        exact h2
      show (((dE cf (.call sp (.cons (.ix (.var 2) (.neg (.int 1))) (.cons (.var 3) .nil))) [A, B, .o (.d (.list (acc ++ [g]))), .v (.d t)]).bind fun x => (fzD x).bind fun d => appV [A, B, .o (.d (.list (acc ++ [g]))), .v (.d t)] 2 d).bind _) = _
      rw [e1]
      show ((match few (acc ++ [g]) lim with | true => R.ok (Out.nx [A, B, .o (.d (.list ((acc ++ [g]) ++ [nx g t]))), .v (.d t)]) | false => R.stuck).bind _) = _
      rw [few_of (by simp only [List.length_append, List.length_cons, List.length_nil]; simp only [List.length_cons] at hn; unfold lim; omega)]
      rfl
    obtain ⟨s', ih⟩ := trace_loop h r (acc ++ [g]) (nx g t) (.v (.d t)) h1 (fun y hy => hL y (List.mem_cons_of_mem _ hy)) (by simp only [List.length_append, List.length_cons, List.length_nil] at hn ⊢; omega)
    refine ⟨s', ?_⟩
    show (dS cf (traceIn sp) [A, B, .o (.d (.list (acc ++ [g]))), .v (.d t)]).bind _ = _
    rw [hc]
    show loopFor r (.name 3) _ [A, B, .o (.d (.list ((acc ++ [g]) ++ [nx g t]))), .v (.d t)] = _
    rw [ih, List.append_assoc]
    rfl
theorem trace_run {sp : Nat} {nx : D → D → D} {gl sl L : List D} {g : D} (h : ∀ g, g ∈ gl → ∀ t, t ∈ sl → nx g t ∈ gl ∧ cf sp [.d g, .d t] = .ok (.v (.d (nx g t)))) (hg : g ∈ gl) (hL : ∀ t ∈ L, t ∈ sl) (hn : L.length ≤ 1000) :
    runDef cf (traceDef sp) [.d g, .d (.tuple L)] = .ok (.o (.d (.list (scan nx g L)))) := by
  obtain ⟨s', e⟩ := trace_loop (A := .v (.d g)) (B := .v (.d (.tuple L))) h L [] g .no hg hL (by rw [List.length_nil]; omega)
  show (((loopFor L (.name 3) (fun e => dS cf (traceIn sp) e) [.v (.d g), .v (.d (.tuple L)), .o (.d (.list ([] ++ [g]))), .no]).bind _).bind _) = _
  rw [e]
  rfl
def needRowDef (iz : Nat) : Def := ⟨2, 4, (.scons (.ifS (.or (.not (.tst (.isI (.var 1) .tuple))) (.cmp .gt (.b1 .len (.var 1)) (.glob "MOST_ROW" 40))) (.scons .noE .snil) .snil) (.scons (.forS (.tup [2, 3]) (.ienum (.var 1)) (.scons (.ifS (.not (.tst (.call iz (.cons (.var 0) (.cons (.var 3) .nil))))) (.scons .noE .snil) .snil) .snil)) .snil)), false⟩
theorem need_loop {iz : Nat} {s : Int} {sl : List D} {B : Slot} (h : ∀ t, t ∈ sl → cf iz [.d (.int s), .d t] = .ok (.v (.d (.bool true)))) : ∀ (L : List D) (i : Int) (a b : Slot), (∀ t ∈ L, t ∈ sl) →
    ∃ e, loopFor (enumFrom i L) (.tup [2, 3]) (fun e => dS cf (.scons (.ifS (.not (.tst (.call iz (.cons (.var 0) (.cons (.var 3) .nil))))) (.scons .noE .snil) .snil) .snil) e) [.v (.d (.int s)), B, a, b] = .ok (.nx e)
  | [], _, _, _, _ => ⟨_, rfl⟩
  | t :: r, i, a, b, hL => by
    obtain ⟨e, ih⟩ := need_loop (B := B) h r (i + 1) (.v (.d (.int i))) (.v (.d t)) fun y hy => hL y (List.mem_cons_of_mem _ hy)
    refine ⟨e, ?_⟩
    show ((((((cf iz [.d (.int s), .d t]).bind fun x => truV x.rd).bind _).bind _).bind _).bind _) = _
    rw [h t (hL t (List.mem_cons_self ..))]
    exact ih
theorem need_run {iz : Nat} {s : Int} {sl L : List D} (h : ∀ t, t ∈ sl → cf iz [.d (.int s), .d t] = .ok (.v (.d (.bool true)))) (hL : ∀ t ∈ L, t ∈ sl) (hn : L.length ≤ 40) : runDef cf (needRowDef iz) [.d (.int s), .d (.tuple L)] = .ok (.v (.d .none)) := by
  obtain ⟨e, z⟩ := need_loop (B := .v (.d (.tuple L))) h L 0 .no .no hL
  have hc : dT cf (.or (.not (.tst (.isI (.var 1) .tuple))) (.cmp .gt (.b1 .len (.var 1)) (.glob "MOST_ROW" 40))) [.v (.d (.int s)), .v (.d (.tuple L)), .no, .no] = .ok false := by
    show cmpV .gt (.d (.int (.ofNat L.length))) (.d (.int 40)) = _
    show R.ok (iLt 40 (.ofNat L.length)) = _
    rw [show iLt 40 (.ofNat L.length) = false from by rw [iLt_iff]; exact decide_eq_false (by show ¬ ((40 : Int) < ((L.length : Nat) : Int)); omega)]
  show (((dT cf (.or (.not (.tst (.isI (.var 1) .tuple))) (.cmp .gt (.b1 .len (.var 1)) (.glob "MOST_ROW" 40))) [.v (.d (.int s)), .v (.d (.tuple L)), .no, .no]).bind _).bind _).bind _ = _
  rw [hc]
  show (((loopFor (enumFrom 0 L) (.tup [2, 3]) (fun e => dS cf (.scons (.ifS (.not (.tst (.call iz (.cons (.var 0) (.cons (.var 3) .nil))))) (.scons .noE .snil) .snil) .snil) e) [.v (.d (.int s)), .v (.d (.tuple L)), .no, .no]).bind _).bind _) = _
  rw [z]
  rfl
def doneDef (nd nr sz tr : Nat) : Def := ⟨2, 2, (.scons (.ex (.call nd (.cons (.var 0) .nil))) (.scons (.ex (.call nr (.cons (.call sz (.cons (.var 0) .nil)) (.cons (.var 1) .nil)))) (.scons (.ret (.ix (.call tr (.cons (.var 0) (.cons (.var 1) .nil))) (.neg (.int 1)))) .snil))), false⟩
def tracedDef (nd nr sz tr : Nat) : Def := ⟨2, 2, (.scons (.ex (.call nd (.cons (.var 0) .nil))) (.scons (.ex (.call nr (.cons (.call sz (.cons (.var 0) .nil)) (.cons (.var 1) .nil)))) (.scons (.ret (.b1 .tuple (.call tr (.cons (.var 0) (.cons (.var 1) .nil))))) .snil))), false⟩
theorem done_run {nd nr sz tr : Nat} {g : D} {L l : List D} {s : Int} {x : D} (h1 : cf nd [.d g] = .ok (.v (.d .none))) (h2 : cf sz [.d g] = .ok (.v (.d (.int s)))) (h3 : cf nr [.d (.int s), .d (.tuple L)] = .ok (.v (.d .none))) (h4 : cf tr [.d g, .d (.tuple L)] = .ok (.o (.d (.list (l ++ [x]))))) :
    runDef cf (doneDef nd nr sz tr) [.d g, .d (.tuple L)] = .ok (.v (.d x)) := by
  have a1 : dE cf (.call nd (.cons (.var 0) .nil)) [.v (.d g), .v (.d (.tuple L))] = .ok (.v (.d .none)) := h1
  have a2 : dE cf (.call nr (.cons (.call sz (.cons (.var 0) .nil)) (.cons (.var 1) .nil))) [.v (.d g), .v (.d (.tuple L))] = .ok (.v (.d .none)) := by
    show (((cf sz [.d g]).bind fun x => x.fz.bind fun v => R.bind (R.ok [.d (.tuple L)]) fun vs => R.ok (v :: vs)).bind fun xs => cf nr xs) = _
    rw [h2]
    exact h3
  have a3 : dE cf (.ix (.call tr (.cons (.var 0) (.cons (.var 1) .nil))) (.neg (.int 1))) [.v (.d g), .v (.d (.tuple L))] = .ok (.v (.d x)) := by
    show ((cf tr [.d g, .d (.tuple L)]).bind fun x => ixV x.rd (.d (.int (-1)))) = _
    rw [h4]
    exact ix_last
  show (((dE cf (.call nd (.cons (.var 0) .nil)) [.v (.d g), .v (.d (.tuple L))]).bind _).bind _).bind _ = _
  rw [a1]
  show (((dE cf (.call nr (.cons (.call sz (.cons (.var 0) .nil)) (.cons (.var 1) .nil))) [.v (.d g), .v (.d (.tuple L))]).bind _).bind _).bind _ = _
  rw [a2]
  show (((dE cf (.ix (.call tr (.cons (.var 0) (.cons (.var 1) .nil))) (.neg (.int 1))) [.v (.d g), .v (.d (.tuple L))]).bind _).bind _).bind _ = _
  rw [a3]
  rfl
theorem traced_run {nd nr sz tr : Nat} {g : D} {L l : List D} {s : Int} (h1 : cf nd [.d g] = .ok (.v (.d .none))) (h2 : cf sz [.d g] = .ok (.v (.d (.int s)))) (h3 : cf nr [.d (.int s), .d (.tuple L)] = .ok (.v (.d .none))) (h4 : cf tr [.d g, .d (.tuple L)] = .ok (.o (.d (.list l)))) :
    runDef cf (tracedDef nd nr sz tr) [.d g, .d (.tuple L)] = .ok (.v (.d (.tuple l))) := by
  have a1 : dE cf (.call nd (.cons (.var 0) .nil)) [.v (.d g), .v (.d (.tuple L))] = .ok (.v (.d .none)) := h1
  have a2 : dE cf (.call nr (.cons (.call sz (.cons (.var 0) .nil)) (.cons (.var 1) .nil))) [.v (.d g), .v (.d (.tuple L))] = .ok (.v (.d .none)) := by
    show (((cf sz [.d g]).bind fun x => x.fz.bind fun v => R.bind (R.ok [.d (.tuple L)]) fun vs => R.ok (v :: vs)).bind fun xs => cf nr xs) = _
    rw [h2]
    exact h3
  have a3 : dE cf (.b1 .tuple (.call tr (.cons (.var 0) (.cons (.var 1) .nil)))) [.v (.d g), .v (.d (.tuple L))] = .ok (.v (.d (.tuple l))) := by
    show ((cf tr [.d g, .d (.tuple L)]).bind fun x => b1V .tuple x.rd) = _
    rw [h4]
    rfl
  show (((dE cf (.call nd (.cons (.var 0) .nil)) [.v (.d g), .v (.d (.tuple L))]).bind _).bind _).bind _ = _
  rw [a1]
  show (((dE cf (.call nr (.cons (.call sz (.cons (.var 0) .nil)) (.cons (.var 1) .nil))) [.v (.d g), .v (.d (.tuple L))]).bind _).bind _).bind _ = _
  rw [a2]
  show (((dE cf (.b1 .tuple (.call tr (.cons (.var 0) (.cons (.var 1) .nil)))) [.v (.d g), .v (.d (.tuple L))]).bind _).bind _).bind _ = _
  rw [a3]
  rfl
/-! ### alike -/
def alikeDef (me : Nat) : Def := ⟨2, 3, (.scons (.ifS (.tst (.isI (.var 1) .tupleOrList)) (.scons (.ifS (.or (.not (.tst (.isI (.var 0) .tupleOrList))) (.cmp .ne (.isI (.var 0) .list) (.isI (.var 1) .list))) (.scons (.ret (.bl false)) .snil) .snil) (.scons (.ifS (.cmp .ne (.b1 .len (.var 0)) (.b1 .len (.var 1))) (.scons (.ret (.bl false)) .snil) .snil) (.scons (.ret (.cmp .eq (.lcIf [2] (.name 2) (.irng1 (.b1 .len (.var 1))) (.var 2) (.not (.tst (.call me (.cons (.ix (.var 0) (.var 2)) (.cons (.ix (.var 1) (.var 2)) .nil)))))) (.lst .nil))) .snil))) .snil) (.scons (.ifS (.or (.isN false (.var 1)) (.tst (.isI (.var 1) .str))) (.scons (.ret (.and (.cmp .eq (.var 0) (.var 1)) (.cmp .eq (.isI (.var 0) .str) (.isI (.var 1) .str)))) .snil) .snil) (.scons (.ret (.and (.isI (.var 0) .int) (.and (.cmp .eq (.isI (.var 0) .bool) (.isI (.var 1) .bool)) (.cmp .eq (.var 0) (.var 1))))) .snil))), false⟩
def alikeC (me : Nat) : Ex := (.not (.tst (.call me (.cons (.ix (.var 0) (.var 2)) (.cons (.ix (.var 1) (.var 2)) .nil)))))
theorem alike_loop {me : Nat} {L : List D} (h : ∀ x, x ∈ L → cf me [.d x, .d x] = .ok (.v (.d (.bool true)))) : ∀ (n k : Nat), k + n ≤ L.length →
    loopIf (rngFrom (.ofNat k) n) (.name 2) [.v (.d (.tuple L)), .v (.d (.tuple L)), .no] (fun e1 => (dE cf (.var 2) e1).bind fzD) (fun e1 => dT cf (alikeC me) e1) = .ok []
  | 0, _, _ => rfl
  | n + 1, k, hk => by
    obtain ⟨x, e1, e2⟩ := nth_mem (l := L) (k := k) (by omega)
    have hx : ixV (.d (.tuple L)) (.d (.int (.ofNat k))) = .ok (.v (.d x)) := by
      show (match pyIx L.length (.ofNat k) with | some k => (nth L k).bind fun x => R.ok (RV.v (.d x)) | none => R.stuck) = _
      rw [pyIx_of (by omega)]
      show (nth L k).bind _ = _
      rw [e1]
      rfl
    have hc : dT cf (alikeC me) [.v (.d (.tuple L)), .v (.d (.tuple L)), .v (.d (.int (.ofNat k)))] = .ok false := by
      show (((((ixV (.d (.tuple L)) (.d (.int (.ofNat k)))).bind fun x => x.fz.bind fun v => R.bind ((ixV (.d (.tuple L)) (.d (.int (.ofNat k)))).bind fun x => x.fz.bind fun v => R.bind (R.ok []) fun vs => R.ok (v :: vs)) fun vs => R.ok (v :: vs)).bind fun xs => cf me xs).bind fun x => truV x.rd).bind _) = _
      rw [hx]
      show (((cf me [.d x, .d x]).bind fun x => truV x.rd).bind _) = _
      rw [h x e2]
      rfl
    rw [show rngFrom (.ofNat k) (n + 1) = .int (.ofNat k) :: rngFrom (.ofNat (k + 1)) n from rfl, loopIf_step (e := [.v (.d (.tuple L)), .v (.d (.tuple L)), .v (.d (.int (.ofNat k)))]) rfl hc]
    exact alike_loop h n (k + 1) (by omega)
theorem iEq_self (n : Nat) : iEq (.ofNat n) (.ofNat n) = true := by
  rw [iEq_iff]
  exact decide_eq_true rfl
theorem alike_run {me : Nat} {L : List D} (h : ∀ x, x ∈ L → cf me [.d x, .d x] = .ok (.v (.d (.bool true)))) (hn : L.length ≤ 1000) : runDef cf (alikeDef me) [.d (.tuple L), .d (.tuple L)] = .ok (.v (.d (.bool true))) := by
  have c3 : dT cf (.cmp .ne (.b1 .len (.var 0)) (.b1 .len (.var 1))) [.v (.d (.tuple L)), .v (.d (.tuple L)), .no] = .ok false := by
    show R.ok (!(iEq (.ofNat L.length) (.ofNat L.length))) = _
    rw [iEq_self]
    rfl
  have c4 : dE cf (.cmp .eq (.lcIf [2] (.name 2) (.irng1 (.b1 .len (.var 1))) (.var 2) (alikeC me)) (.lst .nil)) [.v (.d (.tuple L)), .v (.d (.tuple L)), .no] = .ok (.v (.d (.bool true))) := by
    show ((((match smallI (.ofNat L.length) with | true => R.ok (rngFrom 0 L.length) | false => R.stuck).bind fun xs => (loopIf xs (.name 2) [.v (.d (.tuple L)), .v (.d (.tuple L)), .no] (fun e1 => (dE cf (.var 2) e1).bind fzD) (fun e1 => dT cf (alikeC me) e1)).bind newL).bind _)) = _
    rw [small_of (by omega)]
    show (((loopIf (rngFrom (.ofNat 0) L.length) (.name 2) [.v (.d (.tuple L)), .v (.d (.tuple L)), .no] (fun e1 => (dE cf (.var 2) e1).bind fzD) (fun e1 => dT cf (alikeC me) e1)).bind newL).bind _) = _
    rw [alike_loop h L.length 0 (by omega)]
    rfl
  show (((((dT cf (.cmp .ne (.b1 .len (.var 0)) (.b1 .len (.var 1))) [.v (.d (.tuple L)), .v (.d (.tuple L)), .no]).bind _).bind _).bind _).bind _) = _
  rw [c3]
  show (((((dE cf (.cmp .eq (.lcIf [2] (.name 2) (.irng1 (.b1 .len (.var 1))) (.var 2) (alikeC me)) (.lst .nil)) [.v (.d (.tuple L)), .v (.d (.tuple L)), .no]).bind _).bind _).bind _).bind _) = _
  rw [c4]
  rfl
end
end Ev

/-! Loops over known items: told item by item. -/
namespace Ev
open PySem
section
variable {i : Nat} {e0 : Env}
theorem loopL_map {f : Env → R D} {F : D → D} : ∀ (xs : List D), (∀ x, x ∈ xs → f (setAt e0 i (.v (.d x))) = .ok (F x)) → loopL xs (.name i) e0 f = .ok (xs.map F)
  | [], _ => rfl
  | x :: xs, h => by
    show (f (setAt e0 i (.v (.d x)))).bind _ = _
    rw [h x (List.mem_cons_self ..)]
    show (loopL xs (.name i) e0 f).bind _ = _
    rw [loopL_map xs fun y hy => h y (List.mem_cons_of_mem _ hy)]
    rfl
/-- the items that a test takes, in their order -/
def pickB (c : D → Bool) : List D → List D
  | [] => []
  | x :: xs => match c x with | true => x :: pickB c xs | false => pickB c xs
theorem loopIf_pick {f : Env → R D} {k : Env → R Bool} {F : D → D} {c : D → Bool} : ∀ (xs : List D), (∀ x, x ∈ xs → k (setAt e0 i (.v (.d x))) = .ok (c x) ∧ f (setAt e0 i (.v (.d x))) = .ok (F x)) → loopIf xs (.name i) e0 f k = .ok ((pickB c xs).map F)
  | [], _ => rfl
  | x :: xs, h => by
    obtain ⟨h1, h2⟩ := h x (List.mem_cons_self ..)
    have ih := loopIf_pick xs fun y hy => h y (List.mem_cons_of_mem _ hy)
    show (k (setAt e0 i (.v (.d x)))).bind _ = _
    rw [h1]
    show (match c x with | true => (f (setAt e0 i (.v (.d x)))).bind fun y => (loopIf xs (.name i) e0 f k).bind fun ys => R.ok (y :: ys) | false => loopIf xs (.name i) e0 f k) = .ok ((match c x with | true => x :: pickB c xs | false => pickB c xs).map F)
    rw [h2, ih]
    cases c x with
    | true => rfl
    | false => rfl
def allB' (c : D → Bool) : List D → Bool
  | [] => true
  | x :: xs => match c x with | true => allB' c xs | false => false
theorem loopAll_all {k : Env → R Bool} {c : D → Bool} : ∀ (xs : List D), (∀ x, x ∈ xs → k (setAt e0 i (.v (.d x))) = .ok (c x)) → loopAll xs (.name i) e0 k = .ok (allB' c xs)
  | [], _ => rfl
  | x :: xs, h => by
    have ih := loopAll_all xs fun y hy => h y (List.mem_cons_of_mem _ hy)
    show (k (setAt e0 i (.v (.d x)))).bind _ = _
    rw [h x (List.mem_cons_self ..)]
    show (match c x with | true => loopAll xs (.name i) e0 k | false => R.ok false) = .ok (match c x with | true => allB' c xs | false => false)
    rw [ih]
    cases c x with
    | true => rfl
    | false => rfl
def anyB' (c : D → Bool) : List D → Bool
  | [] => false
  | x :: xs => match c x with | true => true | false => anyB' c xs
theorem loopAny_any {k : Env → R Bool} {c : D → Bool} : ∀ (xs : List D), (∀ x, x ∈ xs → k (setAt e0 i (.v (.d x))) = .ok (c x)) → loopAny xs (.name i) e0 k = .ok (anyB' c xs)
  | [], _ => rfl
  | x :: xs, h => by
    have ih := loopAny_any xs fun y hy => h y (List.mem_cons_of_mem _ hy)
    show (k (setAt e0 i (.v (.d x)))).bind _ = _
    rw [h x (List.mem_cons_self ..)]
    show (match c x with | true => R.ok true | false => loopAny xs (.name i) e0 k) = .ok (match c x with | true => true | false => anyB' c xs)
    rw [ih]
    cases c x with
    | true => rfl
    | false => rfl
def sumI' (c : D → Int) : Int → List D → Int
  | acc, [] => acc
  | acc, x :: xs => sumI' c (acc + c x) xs
theorem loopSum_sum {k : Env → R Int} {c : D → Int} : ∀ (xs : List D) (acc : Int), (∀ x, x ∈ xs → k (setAt e0 i (.v (.d x))) = .ok (c x)) → loopSum acc xs (.name i) e0 k = .ok (sumI' c acc xs)
  | [], _, _ => rfl
  | x :: xs, acc, h => by
    show (k (setAt e0 i (.v (.d x)))).bind _ = _
    rw [h x (List.mem_cons_self ..)]
    exact loopSum_sum xs (acc + c x) fun y hy => h y (List.mem_cons_of_mem _ hy)
end
end Ev

/-! Groupings told by masks: shares, steps between, each for any two groupings. -/
namespace Ev
open PySem
/-- the lots of six people by their masks -/
def lotRows : List (List D) := [[.tuple [], .tuple [.int 0], .tuple [.int 1], .tuple [.int 0, .int 1], .tuple [.int 2], .tuple [.int 0, .int 2], .tuple [.int 1, .int 2], .tuple [.int 0, .int 1, .int 2]], [.tuple [.int 3], .tuple [.int 0, .int 3], .tuple [.int 1, .int 3], .tuple [.int 0, .int 1, .int 3], .tuple [.int 2, .int 3], .tuple [.int 0, .int 2, .int 3], .tuple [.int 1, .int 2, .int 3], .tuple [.int 0, .int 1, .int 2, .int 3]], [.tuple [.int 4], .tuple [.int 0, .int 4], .tuple [.int 1, .int 4], .tuple [.int 0, .int 1, .int 4], .tuple [.int 2, .int 4], .tuple [.int 0, .int 2, .int 4], .tuple [.int 1, .int 2, .int 4], .tuple [.int 0, .int 1, .int 2, .int 4]], [.tuple [.int 3, .int 4], .tuple [.int 0, .int 3, .int 4], .tuple [.int 1, .int 3, .int 4], .tuple [.int 0, .int 1, .int 3, .int 4], .tuple [.int 2, .int 3, .int 4], .tuple [.int 0, .int 2, .int 3, .int 4], .tuple [.int 1, .int 2, .int 3, .int 4], .tuple [.int 0, .int 1, .int 2, .int 3, .int 4]], [.tuple [.int 5], .tuple [.int 0, .int 5], .tuple [.int 1, .int 5], .tuple [.int 0, .int 1, .int 5], .tuple [.int 2, .int 5], .tuple [.int 0, .int 2, .int 5], .tuple [.int 1, .int 2, .int 5], .tuple [.int 0, .int 1, .int 2, .int 5]], [.tuple [.int 3, .int 5], .tuple [.int 0, .int 3, .int 5], .tuple [.int 1, .int 3, .int 5], .tuple [.int 0, .int 1, .int 3, .int 5], .tuple [.int 2, .int 3, .int 5], .tuple [.int 0, .int 2, .int 3, .int 5], .tuple [.int 1, .int 2, .int 3, .int 5], .tuple [.int 0, .int 1, .int 2, .int 3, .int 5]], [.tuple [.int 4, .int 5], .tuple [.int 0, .int 4, .int 5], .tuple [.int 1, .int 4, .int 5], .tuple [.int 0, .int 1, .int 4, .int 5], .tuple [.int 2, .int 4, .int 5], .tuple [.int 0, .int 2, .int 4, .int 5], .tuple [.int 1, .int 2, .int 4, .int 5], .tuple [.int 0, .int 1, .int 2, .int 4, .int 5]], [.tuple [.int 3, .int 4, .int 5], .tuple [.int 0, .int 3, .int 4, .int 5], .tuple [.int 1, .int 3, .int 4, .int 5], .tuple [.int 0, .int 1, .int 3, .int 4, .int 5], .tuple [.int 2, .int 3, .int 4, .int 5], .tuple [.int 0, .int 2, .int 3, .int 4, .int 5], .tuple [.int 1, .int 2, .int 3, .int 4, .int 5], .tuple [.int 0, .int 1, .int 2, .int 3, .int 4, .int 5]]]
def nthR : List (List D) → Nat → List D
  | [], _ => []
  | x :: _, 0 => x
  | _ :: r, i + 1 => nthR r i
def lotM (m : Nat) : D := getL (nthR lotRows (Nat.div m 8)) (Nat.mod m 8)
def gM (xs : List Nat) : D := .tuple (xs.map lotM)
def popT : Nat := 0xd6cb23b238dab238da8da691b238da8da6918da691691448
def pop (m : Nat) : Nat := Nat.mod (Nat.shiftRight popT (Nat.mul 3 m)) 8
def ovl (a b : Nat) : Nat := pop (Nat.land a b)
def isM (a : Nat) : Prop := 0 < a ∧ a < 64
def shIn : Ex := (.b1 .len (.lcIf [2] (.name 2) (.iseq (.var 4)) (.var 2) (.cmp .isin (.var 2) (.var 3))))
def shMid : Ex := (.b1 .max (.lc [3] (.name 3) (.iseq (.var 1)) shIn))
def sharesDef : Def := ⟨2, 5, (.scons (.ret (.lc [4] (.name 4) (.iseq (.var 0)) shMid)) .snil), false⟩
def isN (r : R RV) (n : Nat) : Bool := match r with
  | .ok (.v (.d (.int (.ofNat k)))) => Nat.beq k n
  | _ => false
theorem isN_eq {r : R RV} {n : Nat} (h : isN r n = true) : r = .ok (.v (.d (.int (.ofNat n)))) := by
  unfold isN at h
  split at h
  · rw [Nat.eq_of_beq_eq_true h]
  · cases h
theorem shIn_1 (cf : Nat → List Val → R RV) (o1 o2 : Slot) : allB 63 (fun b => isN (dE cf shIn [o1, o2, .no, .v (.d (lotM (Nat.succ b))), .v (.d (lotM 1))]) (ovl 1 (Nat.succ b))) = true := by kernel_rfl
theorem shIn_2 (cf : Nat → List Val → R RV) (o1 o2 : Slot) : allB 63 (fun b => isN (dE cf shIn [o1, o2, .no, .v (.d (lotM (Nat.succ b))), .v (.d (lotM 2))]) (ovl 2 (Nat.succ b))) = true := by kernel_rfl
theorem shIn_3 (cf : Nat → List Val → R RV) (o1 o2 : Slot) : allB 63 (fun b => isN (dE cf shIn [o1, o2, .no, .v (.d (lotM (Nat.succ b))), .v (.d (lotM 3))]) (ovl 3 (Nat.succ b))) = true := by kernel_rfl
theorem shIn_4 (cf : Nat → List Val → R RV) (o1 o2 : Slot) : allB 63 (fun b => isN (dE cf shIn [o1, o2, .no, .v (.d (lotM (Nat.succ b))), .v (.d (lotM 4))]) (ovl 4 (Nat.succ b))) = true := by kernel_rfl
theorem shIn_5 (cf : Nat → List Val → R RV) (o1 o2 : Slot) : allB 63 (fun b => isN (dE cf shIn [o1, o2, .no, .v (.d (lotM (Nat.succ b))), .v (.d (lotM 5))]) (ovl 5 (Nat.succ b))) = true := by kernel_rfl
theorem shIn_6 (cf : Nat → List Val → R RV) (o1 o2 : Slot) : allB 63 (fun b => isN (dE cf shIn [o1, o2, .no, .v (.d (lotM (Nat.succ b))), .v (.d (lotM 6))]) (ovl 6 (Nat.succ b))) = true := by kernel_rfl
theorem shIn_7 (cf : Nat → List Val → R RV) (o1 o2 : Slot) : allB 63 (fun b => isN (dE cf shIn [o1, o2, .no, .v (.d (lotM (Nat.succ b))), .v (.d (lotM 7))]) (ovl 7 (Nat.succ b))) = true := by kernel_rfl
theorem shIn_8 (cf : Nat → List Val → R RV) (o1 o2 : Slot) : allB 63 (fun b => isN (dE cf shIn [o1, o2, .no, .v (.d (lotM (Nat.succ b))), .v (.d (lotM 8))]) (ovl 8 (Nat.succ b))) = true := by kernel_rfl
theorem shIn_9 (cf : Nat → List Val → R RV) (o1 o2 : Slot) : allB 63 (fun b => isN (dE cf shIn [o1, o2, .no, .v (.d (lotM (Nat.succ b))), .v (.d (lotM 9))]) (ovl 9 (Nat.succ b))) = true := by kernel_rfl
theorem shIn_10 (cf : Nat → List Val → R RV) (o1 o2 : Slot) : allB 63 (fun b => isN (dE cf shIn [o1, o2, .no, .v (.d (lotM (Nat.succ b))), .v (.d (lotM 10))]) (ovl 10 (Nat.succ b))) = true := by kernel_rfl
theorem shIn_11 (cf : Nat → List Val → R RV) (o1 o2 : Slot) : allB 63 (fun b => isN (dE cf shIn [o1, o2, .no, .v (.d (lotM (Nat.succ b))), .v (.d (lotM 11))]) (ovl 11 (Nat.succ b))) = true := by kernel_rfl
theorem shIn_12 (cf : Nat → List Val → R RV) (o1 o2 : Slot) : allB 63 (fun b => isN (dE cf shIn [o1, o2, .no, .v (.d (lotM (Nat.succ b))), .v (.d (lotM 12))]) (ovl 12 (Nat.succ b))) = true := by kernel_rfl
theorem shIn_13 (cf : Nat → List Val → R RV) (o1 o2 : Slot) : allB 63 (fun b => isN (dE cf shIn [o1, o2, .no, .v (.d (lotM (Nat.succ b))), .v (.d (lotM 13))]) (ovl 13 (Nat.succ b))) = true := by kernel_rfl
theorem shIn_14 (cf : Nat → List Val → R RV) (o1 o2 : Slot) : allB 63 (fun b => isN (dE cf shIn [o1, o2, .no, .v (.d (lotM (Nat.succ b))), .v (.d (lotM 14))]) (ovl 14 (Nat.succ b))) = true := by kernel_rfl
theorem shIn_15 (cf : Nat → List Val → R RV) (o1 o2 : Slot) : allB 63 (fun b => isN (dE cf shIn [o1, o2, .no, .v (.d (lotM (Nat.succ b))), .v (.d (lotM 15))]) (ovl 15 (Nat.succ b))) = true := by kernel_rfl
theorem shIn_16 (cf : Nat → List Val → R RV) (o1 o2 : Slot) : allB 63 (fun b => isN (dE cf shIn [o1, o2, .no, .v (.d (lotM (Nat.succ b))), .v (.d (lotM 16))]) (ovl 16 (Nat.succ b))) = true := by kernel_rfl
theorem shIn_17 (cf : Nat → List Val → R RV) (o1 o2 : Slot) : allB 63 (fun b => isN (dE cf shIn [o1, o2, .no, .v (.d (lotM (Nat.succ b))), .v (.d (lotM 17))]) (ovl 17 (Nat.succ b))) = true := by kernel_rfl
theorem shIn_18 (cf : Nat → List Val → R RV) (o1 o2 : Slot) : allB 63 (fun b => isN (dE cf shIn [o1, o2, .no, .v (.d (lotM (Nat.succ b))), .v (.d (lotM 18))]) (ovl 18 (Nat.succ b))) = true := by kernel_rfl
theorem shIn_19 (cf : Nat → List Val → R RV) (o1 o2 : Slot) : allB 63 (fun b => isN (dE cf shIn [o1, o2, .no, .v (.d (lotM (Nat.succ b))), .v (.d (lotM 19))]) (ovl 19 (Nat.succ b))) = true := by kernel_rfl
theorem shIn_20 (cf : Nat → List Val → R RV) (o1 o2 : Slot) : allB 63 (fun b => isN (dE cf shIn [o1, o2, .no, .v (.d (lotM (Nat.succ b))), .v (.d (lotM 20))]) (ovl 20 (Nat.succ b))) = true := by kernel_rfl
theorem shIn_21 (cf : Nat → List Val → R RV) (o1 o2 : Slot) : allB 63 (fun b => isN (dE cf shIn [o1, o2, .no, .v (.d (lotM (Nat.succ b))), .v (.d (lotM 21))]) (ovl 21 (Nat.succ b))) = true := by kernel_rfl
theorem shIn_22 (cf : Nat → List Val → R RV) (o1 o2 : Slot) : allB 63 (fun b => isN (dE cf shIn [o1, o2, .no, .v (.d (lotM (Nat.succ b))), .v (.d (lotM 22))]) (ovl 22 (Nat.succ b))) = true := by kernel_rfl
theorem shIn_23 (cf : Nat → List Val → R RV) (o1 o2 : Slot) : allB 63 (fun b => isN (dE cf shIn [o1, o2, .no, .v (.d (lotM (Nat.succ b))), .v (.d (lotM 23))]) (ovl 23 (Nat.succ b))) = true := by kernel_rfl
theorem shIn_24 (cf : Nat → List Val → R RV) (o1 o2 : Slot) : allB 63 (fun b => isN (dE cf shIn [o1, o2, .no, .v (.d (lotM (Nat.succ b))), .v (.d (lotM 24))]) (ovl 24 (Nat.succ b))) = true := by kernel_rfl
theorem shIn_25 (cf : Nat → List Val → R RV) (o1 o2 : Slot) : allB 63 (fun b => isN (dE cf shIn [o1, o2, .no, .v (.d (lotM (Nat.succ b))), .v (.d (lotM 25))]) (ovl 25 (Nat.succ b))) = true := by kernel_rfl
theorem shIn_26 (cf : Nat → List Val → R RV) (o1 o2 : Slot) : allB 63 (fun b => isN (dE cf shIn [o1, o2, .no, .v (.d (lotM (Nat.succ b))), .v (.d (lotM 26))]) (ovl 26 (Nat.succ b))) = true := by kernel_rfl
theorem shIn_27 (cf : Nat → List Val → R RV) (o1 o2 : Slot) : allB 63 (fun b => isN (dE cf shIn [o1, o2, .no, .v (.d (lotM (Nat.succ b))), .v (.d (lotM 27))]) (ovl 27 (Nat.succ b))) = true := by kernel_rfl
theorem shIn_28 (cf : Nat → List Val → R RV) (o1 o2 : Slot) : allB 63 (fun b => isN (dE cf shIn [o1, o2, .no, .v (.d (lotM (Nat.succ b))), .v (.d (lotM 28))]) (ovl 28 (Nat.succ b))) = true := by kernel_rfl
theorem shIn_29 (cf : Nat → List Val → R RV) (o1 o2 : Slot) : allB 63 (fun b => isN (dE cf shIn [o1, o2, .no, .v (.d (lotM (Nat.succ b))), .v (.d (lotM 29))]) (ovl 29 (Nat.succ b))) = true := by kernel_rfl
theorem shIn_30 (cf : Nat → List Val → R RV) (o1 o2 : Slot) : allB 63 (fun b => isN (dE cf shIn [o1, o2, .no, .v (.d (lotM (Nat.succ b))), .v (.d (lotM 30))]) (ovl 30 (Nat.succ b))) = true := by kernel_rfl
theorem shIn_31 (cf : Nat → List Val → R RV) (o1 o2 : Slot) : allB 63 (fun b => isN (dE cf shIn [o1, o2, .no, .v (.d (lotM (Nat.succ b))), .v (.d (lotM 31))]) (ovl 31 (Nat.succ b))) = true := by kernel_rfl
theorem shIn_32 (cf : Nat → List Val → R RV) (o1 o2 : Slot) : allB 63 (fun b => isN (dE cf shIn [o1, o2, .no, .v (.d (lotM (Nat.succ b))), .v (.d (lotM 32))]) (ovl 32 (Nat.succ b))) = true := by kernel_rfl
theorem shIn_33 (cf : Nat → List Val → R RV) (o1 o2 : Slot) : allB 63 (fun b => isN (dE cf shIn [o1, o2, .no, .v (.d (lotM (Nat.succ b))), .v (.d (lotM 33))]) (ovl 33 (Nat.succ b))) = true := by kernel_rfl
theorem shIn_34 (cf : Nat → List Val → R RV) (o1 o2 : Slot) : allB 63 (fun b => isN (dE cf shIn [o1, o2, .no, .v (.d (lotM (Nat.succ b))), .v (.d (lotM 34))]) (ovl 34 (Nat.succ b))) = true := by kernel_rfl
theorem shIn_35 (cf : Nat → List Val → R RV) (o1 o2 : Slot) : allB 63 (fun b => isN (dE cf shIn [o1, o2, .no, .v (.d (lotM (Nat.succ b))), .v (.d (lotM 35))]) (ovl 35 (Nat.succ b))) = true := by kernel_rfl
theorem shIn_36 (cf : Nat → List Val → R RV) (o1 o2 : Slot) : allB 63 (fun b => isN (dE cf shIn [o1, o2, .no, .v (.d (lotM (Nat.succ b))), .v (.d (lotM 36))]) (ovl 36 (Nat.succ b))) = true := by kernel_rfl
theorem shIn_37 (cf : Nat → List Val → R RV) (o1 o2 : Slot) : allB 63 (fun b => isN (dE cf shIn [o1, o2, .no, .v (.d (lotM (Nat.succ b))), .v (.d (lotM 37))]) (ovl 37 (Nat.succ b))) = true := by kernel_rfl
theorem shIn_38 (cf : Nat → List Val → R RV) (o1 o2 : Slot) : allB 63 (fun b => isN (dE cf shIn [o1, o2, .no, .v (.d (lotM (Nat.succ b))), .v (.d (lotM 38))]) (ovl 38 (Nat.succ b))) = true := by kernel_rfl
theorem shIn_39 (cf : Nat → List Val → R RV) (o1 o2 : Slot) : allB 63 (fun b => isN (dE cf shIn [o1, o2, .no, .v (.d (lotM (Nat.succ b))), .v (.d (lotM 39))]) (ovl 39 (Nat.succ b))) = true := by kernel_rfl
theorem shIn_40 (cf : Nat → List Val → R RV) (o1 o2 : Slot) : allB 63 (fun b => isN (dE cf shIn [o1, o2, .no, .v (.d (lotM (Nat.succ b))), .v (.d (lotM 40))]) (ovl 40 (Nat.succ b))) = true := by kernel_rfl
theorem shIn_41 (cf : Nat → List Val → R RV) (o1 o2 : Slot) : allB 63 (fun b => isN (dE cf shIn [o1, o2, .no, .v (.d (lotM (Nat.succ b))), .v (.d (lotM 41))]) (ovl 41 (Nat.succ b))) = true := by kernel_rfl
theorem shIn_42 (cf : Nat → List Val → R RV) (o1 o2 : Slot) : allB 63 (fun b => isN (dE cf shIn [o1, o2, .no, .v (.d (lotM (Nat.succ b))), .v (.d (lotM 42))]) (ovl 42 (Nat.succ b))) = true := by kernel_rfl
theorem shIn_43 (cf : Nat → List Val → R RV) (o1 o2 : Slot) : allB 63 (fun b => isN (dE cf shIn [o1, o2, .no, .v (.d (lotM (Nat.succ b))), .v (.d (lotM 43))]) (ovl 43 (Nat.succ b))) = true := by kernel_rfl
theorem shIn_44 (cf : Nat → List Val → R RV) (o1 o2 : Slot) : allB 63 (fun b => isN (dE cf shIn [o1, o2, .no, .v (.d (lotM (Nat.succ b))), .v (.d (lotM 44))]) (ovl 44 (Nat.succ b))) = true := by kernel_rfl
theorem shIn_45 (cf : Nat → List Val → R RV) (o1 o2 : Slot) : allB 63 (fun b => isN (dE cf shIn [o1, o2, .no, .v (.d (lotM (Nat.succ b))), .v (.d (lotM 45))]) (ovl 45 (Nat.succ b))) = true := by kernel_rfl
theorem shIn_46 (cf : Nat → List Val → R RV) (o1 o2 : Slot) : allB 63 (fun b => isN (dE cf shIn [o1, o2, .no, .v (.d (lotM (Nat.succ b))), .v (.d (lotM 46))]) (ovl 46 (Nat.succ b))) = true := by kernel_rfl
theorem shIn_47 (cf : Nat → List Val → R RV) (o1 o2 : Slot) : allB 63 (fun b => isN (dE cf shIn [o1, o2, .no, .v (.d (lotM (Nat.succ b))), .v (.d (lotM 47))]) (ovl 47 (Nat.succ b))) = true := by kernel_rfl
theorem shIn_48 (cf : Nat → List Val → R RV) (o1 o2 : Slot) : allB 63 (fun b => isN (dE cf shIn [o1, o2, .no, .v (.d (lotM (Nat.succ b))), .v (.d (lotM 48))]) (ovl 48 (Nat.succ b))) = true := by kernel_rfl
theorem shIn_49 (cf : Nat → List Val → R RV) (o1 o2 : Slot) : allB 63 (fun b => isN (dE cf shIn [o1, o2, .no, .v (.d (lotM (Nat.succ b))), .v (.d (lotM 49))]) (ovl 49 (Nat.succ b))) = true := by kernel_rfl
theorem shIn_50 (cf : Nat → List Val → R RV) (o1 o2 : Slot) : allB 63 (fun b => isN (dE cf shIn [o1, o2, .no, .v (.d (lotM (Nat.succ b))), .v (.d (lotM 50))]) (ovl 50 (Nat.succ b))) = true := by kernel_rfl
theorem shIn_51 (cf : Nat → List Val → R RV) (o1 o2 : Slot) : allB 63 (fun b => isN (dE cf shIn [o1, o2, .no, .v (.d (lotM (Nat.succ b))), .v (.d (lotM 51))]) (ovl 51 (Nat.succ b))) = true := by kernel_rfl
theorem shIn_52 (cf : Nat → List Val → R RV) (o1 o2 : Slot) : allB 63 (fun b => isN (dE cf shIn [o1, o2, .no, .v (.d (lotM (Nat.succ b))), .v (.d (lotM 52))]) (ovl 52 (Nat.succ b))) = true := by kernel_rfl
theorem shIn_53 (cf : Nat → List Val → R RV) (o1 o2 : Slot) : allB 63 (fun b => isN (dE cf shIn [o1, o2, .no, .v (.d (lotM (Nat.succ b))), .v (.d (lotM 53))]) (ovl 53 (Nat.succ b))) = true := by kernel_rfl
theorem shIn_54 (cf : Nat → List Val → R RV) (o1 o2 : Slot) : allB 63 (fun b => isN (dE cf shIn [o1, o2, .no, .v (.d (lotM (Nat.succ b))), .v (.d (lotM 54))]) (ovl 54 (Nat.succ b))) = true := by kernel_rfl
theorem shIn_55 (cf : Nat → List Val → R RV) (o1 o2 : Slot) : allB 63 (fun b => isN (dE cf shIn [o1, o2, .no, .v (.d (lotM (Nat.succ b))), .v (.d (lotM 55))]) (ovl 55 (Nat.succ b))) = true := by kernel_rfl
theorem shIn_56 (cf : Nat → List Val → R RV) (o1 o2 : Slot) : allB 63 (fun b => isN (dE cf shIn [o1, o2, .no, .v (.d (lotM (Nat.succ b))), .v (.d (lotM 56))]) (ovl 56 (Nat.succ b))) = true := by kernel_rfl
theorem shIn_57 (cf : Nat → List Val → R RV) (o1 o2 : Slot) : allB 63 (fun b => isN (dE cf shIn [o1, o2, .no, .v (.d (lotM (Nat.succ b))), .v (.d (lotM 57))]) (ovl 57 (Nat.succ b))) = true := by kernel_rfl
theorem shIn_58 (cf : Nat → List Val → R RV) (o1 o2 : Slot) : allB 63 (fun b => isN (dE cf shIn [o1, o2, .no, .v (.d (lotM (Nat.succ b))), .v (.d (lotM 58))]) (ovl 58 (Nat.succ b))) = true := by kernel_rfl
theorem shIn_59 (cf : Nat → List Val → R RV) (o1 o2 : Slot) : allB 63 (fun b => isN (dE cf shIn [o1, o2, .no, .v (.d (lotM (Nat.succ b))), .v (.d (lotM 59))]) (ovl 59 (Nat.succ b))) = true := by kernel_rfl
theorem shIn_60 (cf : Nat → List Val → R RV) (o1 o2 : Slot) : allB 63 (fun b => isN (dE cf shIn [o1, o2, .no, .v (.d (lotM (Nat.succ b))), .v (.d (lotM 60))]) (ovl 60 (Nat.succ b))) = true := by kernel_rfl
theorem shIn_61 (cf : Nat → List Val → R RV) (o1 o2 : Slot) : allB 63 (fun b => isN (dE cf shIn [o1, o2, .no, .v (.d (lotM (Nat.succ b))), .v (.d (lotM 61))]) (ovl 61 (Nat.succ b))) = true := by kernel_rfl
theorem shIn_62 (cf : Nat → List Val → R RV) (o1 o2 : Slot) : allB 63 (fun b => isN (dE cf shIn [o1, o2, .no, .v (.d (lotM (Nat.succ b))), .v (.d (lotM 62))]) (ovl 62 (Nat.succ b))) = true := by kernel_rfl
theorem shIn_63 (cf : Nat → List Val → R RV) (o1 o2 : Slot) : allB 63 (fun b => isN (dE cf shIn [o1, o2, .no, .v (.d (lotM (Nat.succ b))), .v (.d (lotM 63))]) (ovl 63 (Nat.succ b))) = true := by kernel_rfl
theorem shIn_ok (cf : Nat → List Val → R RV) (o1 o2 : Slot) {a b : Nat} (ha : isM a) (hb : isM b) : dE cf shIn [o1, o2, .no, .v (.d (lotM b)), .v (.d (lotM a))] = .ok (.v (.d (.int (.ofNat (ovl a b))))) := by
  obtain ⟨a', rfl⟩ : ∃ a', a = Nat.succ a' := ⟨a - 1, by have := ha.1; omega⟩
  obtain ⟨b', rfl⟩ : ∃ b', b = Nat.succ b' := ⟨b - 1, by have := hb.1; omega⟩
  have := ha.2
  have := hb.2
  exact isN_eq (allB_use (below_use (m := 63) (P := fun a => allB 63 (fun b => isN (dE cf shIn [o1, o2, .no, .v (.d (lotM (Nat.succ b))), .v (.d (lotM (Nat.succ a)))]) (ovl (Nat.succ a) (Nat.succ b))) = true) ⟨⟨⟨⟨⟨⟨⟨⟨⟨⟨⟨⟨⟨⟨⟨⟨⟨⟨⟨⟨⟨⟨⟨⟨⟨⟨⟨⟨⟨⟨⟨⟨⟨⟨⟨⟨⟨⟨⟨⟨⟨⟨⟨⟨⟨⟨⟨⟨⟨⟨⟨⟨⟨⟨⟨⟨⟨⟨⟨⟨⟨⟨⟨trivial, shIn_1 cf o1 o2⟩, shIn_2 cf o1 o2⟩, shIn_3 cf o1 o2⟩, shIn_4 cf o1 o2⟩, shIn_5 cf o1 o2⟩, shIn_6 cf o1 o2⟩, shIn_7 cf o1 o2⟩, shIn_8 cf o1 o2⟩, shIn_9 cf o1 o2⟩, shIn_10 cf o1 o2⟩, shIn_11 cf o1 o2⟩, shIn_12 cf o1 o2⟩, shIn_13 cf o1 o2⟩, shIn_14 cf o1 o2⟩, shIn_15 cf o1 o2⟩, shIn_16 cf o1 o2⟩, shIn_17 cf o1 o2⟩, shIn_18 cf o1 o2⟩, shIn_19 cf o1 o2⟩, shIn_20 cf o1 o2⟩, shIn_21 cf o1 o2⟩, shIn_22 cf o1 o2⟩, shIn_23 cf o1 o2⟩, shIn_24 cf o1 o2⟩, shIn_25 cf o1 o2⟩, shIn_26 cf o1 o2⟩, shIn_27 cf o1 o2⟩, shIn_28 cf o1 o2⟩, shIn_29 cf o1 o2⟩, shIn_30 cf o1 o2⟩, shIn_31 cf o1 o2⟩, shIn_32 cf o1 o2⟩, shIn_33 cf o1 o2⟩, shIn_34 cf o1 o2⟩, shIn_35 cf o1 o2⟩, shIn_36 cf o1 o2⟩, shIn_37 cf o1 o2⟩, shIn_38 cf o1 o2⟩, shIn_39 cf o1 o2⟩, shIn_40 cf o1 o2⟩, shIn_41 cf o1 o2⟩, shIn_42 cf o1 o2⟩, shIn_43 cf o1 o2⟩, shIn_44 cf o1 o2⟩, shIn_45 cf o1 o2⟩, shIn_46 cf o1 o2⟩, shIn_47 cf o1 o2⟩, shIn_48 cf o1 o2⟩, shIn_49 cf o1 o2⟩, shIn_50 cf o1 o2⟩, shIn_51 cf o1 o2⟩, shIn_52 cf o1 o2⟩, shIn_53 cf o1 o2⟩, shIn_54 cf o1 o2⟩, shIn_55 cf o1 o2⟩, shIn_56 cf o1 o2⟩, shIn_57 cf o1 o2⟩, shIn_58 cf o1 o2⟩, shIn_59 cf o1 o2⟩, shIn_60 cf o1 o2⟩, shIn_61 cf o1 o2⟩, shIn_62 cf o1 o2⟩, shIn_63 cf o1 o2⟩ a' (by omega)) b' (by omega))
def nmx : Nat → List Nat → Nat
  | a, [] => a
  | a, b :: r => nmx (match Nat.blt a b with | true => b | false => a) r
def mxo (a : Nat) : List Nat → Nat
  | [] => 0
  | b :: r => nmx (ovl a b) (r.map (ovl a))
theorem imax_nat : ∀ (r : List Nat) (a : Nat), imax (.ofNat a) (r.map .ofNat) = .ofNat (nmx a r)
  | [], a => rfl
  | b :: r, a => by
    show (match iLt (.ofNat a) (.ofNat b) with | true => imax (.ofNat b) (r.map .ofNat) | false => imax (.ofNat a) (r.map .ofNat)) = .ofNat (nmx (match Nat.blt a b with | true => b | false => a) r)
    rw [show iLt (.ofNat a) (.ofNat b) = Nat.blt a b from rfl]
    cases Nat.blt a b with
    | true => exact imax_nat r b
    | false => exact imax_nat r a
theorem ints_nat : ∀ (r : List Nat), ints? (r.map fun n => PyData.int (.ofNat n)) = some (r.map .ofNat)
  | [] => rfl
  | a :: r => by
    show (match ints? (r.map fun n => PyData.int (.ofNat n)) with | some is => some (Int.ofNat a :: is) | none => none) = _
    rw [ints_nat r]
    rfl
theorem map_lots {F : D → D} {G : Nat → D} (h : ∀ a, isM a → F (lotM a) = G a) : ∀ (xs : List Nat), (∀ a, a ∈ xs → isM a) → (xs.map lotM).map F = xs.map G
  | [], _ => rfl
  | a :: xs, hx => by
    show F (lotM a) :: (xs.map lotM).map F = _
    rw [h a (hx a (List.mem_cons_self ..)), map_lots h xs fun b hb => hx b (List.mem_cons_of_mem _ hb)]
    rfl
theorem loopL_nat {i : Nat} {e0 : Env} {f : Env → R D} {G : Nat → D} : ∀ (xs : List Nat), (∀ a, a ∈ xs → f (setAt e0 i (.v (.d (lotM a)))) = .ok (G a)) → loopL (xs.map lotM) (.name i) e0 f = .ok (xs.map G)
  | [], _ => rfl
  | a :: xs, h => by
    show (f (setAt e0 i (.v (.d (lotM a))))).bind _ = _
    rw [h a (List.mem_cons_self ..)]
    show (loopL (xs.map lotM) (.name i) e0 f).bind _ = _
    rw [loopL_nat xs fun b hb => h b (List.mem_cons_of_mem _ hb)]
    rfl
theorem newL_few {l : List D} (h : l.length ≤ 1000) : newL l = .ok (.o (.d (.list l))) := by
  unfold newL
  rw [few_of (by unfold lim; omega)]
theorem shares_dE {cf : Nat → List Val → R RV} {xs ys : List Nat} (hx : ∀ a, a ∈ xs → isM a) (hy : ∀ b, b ∈ ys → isM b) (h0 : ys ≠ []) (nx : xs.length ≤ 1000) (ny : ys.length ≤ 1000) :
    dE cf (.lc [4] (.name 4) (.iseq (.var 0)) shMid) [.v (.d (gM xs)), .v (.d (gM ys)), .no, .no, .no] = .ok (.o (.d (.list (xs.map fun a => .int (.ofNat (mxo a ys)))))) := by
  have hm : ∀ a, isM a → dE cf shMid [.v (.d (gM xs)), .v (.d (gM ys)), .no, .no, .v (.d (lotM a))] = .ok (.v (.d (.int (.ofNat (mxo a ys))))) := fun a ha => by
    have e1 : loopL (ys.map lotM) (.name 3) [.v (.d (gM xs)), .v (.d (gM ys)), .no, .no, .v (.d (lotM a))] (fun e1 => (dE cf shIn e1).bind fzD) = .ok (ys.map fun b => .int (.ofNat (ovl a b))) :=
      loopL_nat ys fun b hb => by
        show (dE cf shIn [.v (.d (gM xs)), .v (.d (gM ys)), .no, .v (.d (lotM b)), .v (.d (lotM a))]).bind fzD = _
        rw [shIn_ok cf _ _ ha (hy b hb)]
        rfl
    show (((loopL (ys.map lotM) (.name 3) [.v (.d (gM xs)), .v (.d (gM ys)), .no, .no, .v (.d (lotM a))] (fun e1 => (dE cf shIn e1).bind fzD)).bind newL).bind fun x => b1V .max x.rd) = _
    rw [e1]
    show ((newL (ys.map fun b => PyData.int (.ofNat (ovl a b)))).bind fun x => b1V .max x.rd) = _
    rw [newL_few (by rw [List.length_map]; exact ny)]
    show (match ints? (ys.map fun b => PyData.int (.ofNat (ovl a b))) with | some (i :: r) => R.ok (RV.v (.d (.int (imax i r)))) | _ => R.stuck) = _
    have e2 := ints_nat (ys.map (ovl a))
    rw [List.map_map] at e2
    rw [show (ys.map fun b => PyData.int (.ofNat (ovl a b))) = ys.map ((fun n => PyData.int (.ofNat n)) ∘ ovl a) from rfl, e2]
    cases ys with
    | nil => exact absurd rfl h0
    | cons b r =>
      show R.ok (RV.v (.d (.int (imax (.ofNat (ovl a b)) ((r.map (ovl a)).map .ofNat))))) = _
      rw [imax_nat]
      rfl
  have e3 : loopL (xs.map lotM) (.name 4) [.v (.d (gM xs)), .v (.d (gM ys)), .no, .no, .no] (fun e1 => (dE cf shMid e1).bind fzD) = .ok (xs.map fun a => .int (.ofNat (mxo a ys))) :=
    loopL_nat xs fun a ha => by
      show (dE cf shMid [.v (.d (gM xs)), .v (.d (gM ys)), .no, .no, .v (.d (lotM a))]).bind fzD = _
      rw [hm a (hx a ha)]
      rfl
  show ((loopL (xs.map lotM) (.name 4) [.v (.d (gM xs)), .v (.d (gM ys)), .no, .no, .no] (fun e1 => (dE cf shMid e1).bind fzD)).bind newL) = _
  rw [e3]
  exact newL_few (by rw [List.length_map]; exact nx)
theorem shares_run {cf : Nat → List Val → R RV} {xs ys : List Nat} (hx : ∀ a, a ∈ xs → isM a) (hy : ∀ b, b ∈ ys → isM b) (h0 : ys ≠ []) (nx : xs.length ≤ 1000) (ny : ys.length ≤ 1000) :
    runDef cf sharesDef [.d (gM xs), .d (gM ys)] = .ok (.o (.d (.list (xs.map fun a => .int (.ofNat (mxo a ys)))))) := by
  show (((dE cf (.lc [4] (.name 4) (.iseq (.var 0)) shMid) [.v (.d (gM xs)), .v (.d (gM ys)), .no, .no, .no]).bind _).bind _).bind _ = _
  rw [shares_dE hx hy h0 nx ny]
  rfl
/-! ### steps between -/
def sumN : List Nat → Nat
  | [] => 0
  | a :: r => a + sumN r
theorem isum_nat : ∀ (r : List Nat), isum (r.map .ofNat) = .ofNat (sumN r)
  | [] => rfl
  | a :: r => by
    show Int.ofNat a + isum (r.map .ofNat) = _
    rw [isum_nat r]
    rfl
def sbDef (sz sh : Nat) : Def := ⟨2, 2, (.scons (.ret (.bin .sub (.bin .add (.bin .mul (.int 2) (.bin .sub (.call sz (.cons (.var 0) .nil)) (.b1 .sum (.call sh (.cons (.var 0) (.cons (.var 1) .nil)))))) (.b1 .len (.var 0))) (.b1 .len (.var 1)))) .snil), false⟩
/-- shared people -/
def shr (xs ys : List Nat) : Nat := sumN (xs.map fun a => mxo a ys)
def sbI (n : Nat) (xs ys : List Nat) : Int := 2 * Int.ofNat (n - shr xs ys) + Int.ofNat xs.length - Int.ofNat ys.length
theorem sb_run {cf : Nat → List Val → R RV} {sz sh n : Nat} {xs ys : List Nat} (hx : ∀ a, a ∈ xs → isM a) (hy : ∀ b, b ∈ ys → isM b) (h0 : ys ≠ []) (nx : xs.length ≤ 1000) (ny : ys.length ≤ 1000) (hn : n ≤ 1000) (hl : shr xs ys ≤ n)
    (h4 : cf sz [.d (gM xs)] = .ok (.v (.d (.int (.ofNat n))))) {cf' : Nat → List Val → R RV} (h16 : cf sh = runDef cf' sharesDef) : runDef cf (sbDef sz sh) [.d (gM xs), .d (gM ys)] = .ok (.v (.d (.int (sbI n xs ys)))) := by
  have hb : (1000 : Nat) < big := by decide +kernel
  have h2 : (2 : Nat) < big := by decide +kernel
  have hs := shares_run (cf := cf') hx hy h0 nx ny
  have a1 : dE cf (.call sz (.cons (.var 0) .nil)) [.v (.d (gM xs)), .v (.d (gM ys))] = .ok (.v (.d (.int (.ofNat n)))) := h4
  have a2 : dE cf (.b1 .sum (.call sh (.cons (.var 0) (.cons (.var 1) .nil)))) [.v (.d (gM xs)), .v (.d (gM ys))] = .ok (.v (.d (.int (.ofNat (shr xs ys))))) := by
    show ((cf sh [.d (gM xs), .d (gM ys)]).bind fun x => b1V .sum x.rd) = _
    rw [h16, hs]
    show (match ints? (xs.map fun a => PyData.int (.ofNat (mxo a ys))) with | some is => R.ok (RV.v (.d (.int (isum is)))) | none => R.stuck) = _
    have e2 := ints_nat (xs.map fun a => mxo a ys)
    rw [List.map_map] at e2
    rw [show (xs.map fun a => PyData.int (.ofNat (mxo a ys))) = xs.map ((fun n => PyData.int (.ofNat n)) ∘ fun a => mxo a ys) from rfl, e2]
    show R.ok (RV.v (.d (.int (isum ((xs.map fun a => mxo a ys).map .ofNat))))) = _
    rw [isum_nat]
    rfl
  have a3 : dE cf (.bin .mul (.int 2) (.bin .sub (.call sz (.cons (.var 0) .nil)) (.b1 .sum (.call sh (.cons (.var 0) (.cons (.var 1) .nil)))))) [.v (.d (gM xs)), .v (.d (gM ys))] = .ok (.v (.d (.int (2 * Int.ofNat (n - shr xs ys))))) := by
    show (((dE cf (.call sz (.cons (.var 0) .nil)) [.v (.d (gM xs)), .v (.d (gM ys))]).bind fun x => (dE cf (.b1 .sum (.call sh (.cons (.var 0) (.cons (.var 1) .nil)))) [.v (.d (gM xs)), .v (.d (gM ys))]).bind fun y => binV .sub x.rd y.rd).bind fun y => binV .mul (.d (.int 2)) y.rd) = _
    rw [a1, a2]
    show binV .mul (.d (.int 2)) (.d (.int (Int.ofNat n - Int.ofNat (shr xs ys)))) = _
    rw [show Int.ofNat n - Int.ofNat (shr xs ys) = Int.ofNat (n - shr xs ys) from by
      show ((n : Nat) : Int) - ((shr xs ys : Nat) : Int) = ((n - shr xs ys : Nat) : Int)
      omega]
    show (match Nat.blt 2 big, Nat.blt (n - shr xs ys) big with | true, true => R.ok (RV.v (.d (.int (2 * Int.ofNat (n - shr xs ys))))) | _, _ => R.stuck) = _
    rw [nblt, nblt, decide_eq_true h2, decide_eq_true (by omega)]
  have a4 : dE cf (.bin .sub (.bin .add (.bin .mul (.int 2) (.bin .sub (.call sz (.cons (.var 0) .nil)) (.b1 .sum (.call sh (.cons (.var 0) (.cons (.var 1) .nil)))))) (.b1 .len (.var 0))) (.b1 .len (.var 1))) [.v (.d (gM xs)), .v (.d (gM ys))] = .ok (.v (.d (.int (sbI n xs ys)))) := by
    show (((dE cf (.bin .mul (.int 2) (.bin .sub (.call sz (.cons (.var 0) .nil)) (.b1 .sum (.call sh (.cons (.var 0) (.cons (.var 1) .nil)))))) [.v (.d (gM xs)), .v (.d (gM ys))]).bind fun x => binV .add x.rd (.d (.int (((xs.map lotM).length : Nat) : Int)))).bind fun x => binV .sub x.rd (.d (.int (((ys.map lotM).length : Nat) : Int)))) = _
    rw [a3, List.length_map, List.length_map]
    rfl
  show (((dE cf (.bin .sub (.bin .add (.bin .mul (.int 2) (.bin .sub (.call sz (.cons (.var 0) .nil)) (.b1 .sum (.call sh (.cons (.var 0) (.cons (.var 1) .nil)))))) (.b1 .len (.var 0))) (.b1 .len (.var 1))) [.v (.d (gM xs)), .v (.d (gM ys))]).bind _).bind _).bind _ = _
  rw [a4]
  rfl
end Ev

/-! The fewest steps from one grouping to another: the loop of `fewest`. -/
namespace Ev
open PySem
def fewFor (sp sb : Nat) : Ex := .scons (.asg (.name 5) (.call sp (.cons (.var 3) (.cons (.var 4) .nil)))) (.frz [5] (.scons (.ifS (.cmp .lt (.call sb (.cons (.var 5) (.cons (.var 1) .nil))) (.call sb (.cons (.var 3) (.cons (.var 1) .nil)))) (.scons .brk .snil) .snil) .snil))
def fewBody (az sz sp sb : Nat) : Ex := .scons (.forS (.name 4) (.iseq (.call az (.cons (.call sz (.cons (.var 0) .nil)) .nil))) (fewFor sp sb)) (.scons (.app 2 (.var 4)) (.frz [5] (.scons (.asg (.name 3) (.var 5)) .snil)))
def fewDef (nt az sz sp sb : Nat) : Def := ⟨2, 6, (.scons (.ex (.call nt (.cons (.var 0) (.cons (.var 1) .nil)))) (.scons (.par [2, 3] (.cons (.lst .nil) (.cons (.var 0) .nil))) (.scons (.whl 1000 (.cmp .ne (.var 3) (.var 1)) (fewBody az sz sp sb)) (.scons (.ret (.b1 .tuple (.var 2))) .snil)))), false⟩
structure FewP (cf : Nat → List Val → R RV) (az sz sp sb : Nat) (s : Int) (gl sl : List D) (nx : D → D → D) (ds : D → D → Nat) : Prop where
  ne0 : ∀ g, g ∈ gl → cmpV .ne (.d g) (.d g) = .ok false
  ne1 : ∀ g, g ∈ gl → ∀ h, h ∈ gl → g ≠ h → cmpV .ne (.d g) (.d h) = .ok true
  sp : ∀ g, g ∈ gl → ∀ t, t ∈ sl → nx g t ∈ gl ∧ cf sp [.d g, .d t] = .ok (.v (.d (nx g t)))
  sb : ∀ g, g ∈ gl → ∀ h, h ∈ gl → cf sb [.d g, .d h] = .ok (.v (.d (.int (.ofNat (ds g h)))))
  az : cf az [.d (.int s)] = .ok (.o (.d (.list sl)))
  sz : ∀ g, g ∈ gl → cf sz [.d g] = .ok (.v (.d (.int s)))
  dg : ∀ g, g ∈ gl → ds g g = 0
  d0 : ∀ g, g ∈ gl → ∀ h, h ∈ gl → ds g h = 0 → g = h
  fs : ∀ g, g ∈ gl → ∀ h, h ∈ gl → 0 < ds g h → ∃ pre t post, sl = pre ++ t :: post ∧ (∀ u, u ∈ pre → ¬ ds (nx g u) h < ds g h) ∧ ds (nx g t) h + 1 = ds g h
section
variable {cf : Nat → List Val → R RV} {az sz sp sb : Nat} {s : Int} {gl sl : List D} {nx : D → D → D} {ds : D → D → Nat}
theorem few_turn (F : FewP cf az sz sp sb s gl sl nx ds) {A B : Slot} {g h t : D} (hg : g ∈ gl) (hh : h ∈ gl) (ht : t ∈ sl) {s5 : Slot} :
    dS cf (fewFor sp sb) [A, .v (.d h), B, .v (.d g), .v (.d t), s5] = .ok (match decide (ds (nx g t) h < ds g h) with | true => .bk [A, .v (.d h), B, .v (.d g), .v (.d t), .v (.d (nx g t))] | false => .nx [A, .v (.d h), B, .v (.d g), .v (.d t), .v (.d (nx g t))]) := by
  obtain ⟨m1, m2⟩ := F.sp g hg t ht
  have e1 : dS cf (.asg (.name 5) (.call sp (.cons (.var 3) (.cons (.var 4) .nil)))) [A, .v (.d h), B, .v (.d g), .v (.d t), s5] = .ok (.nx [A, .v (.d h), B, .v (.d g), .v (.d t), .v (.d (nx g t))]) := by
    show ((cf sp [.d g, .d t]).bind _) = _
    rw [m2]
    rfl
  have e2 : dT cf (.cmp .lt (.call sb (.cons (.var 5) (.cons (.var 1) .nil))) (.call sb (.cons (.var 3) (.cons (.var 1) .nil)))) [A, .v (.d h), B, .v (.d g), .v (.d t), .v (.d (nx g t))] = .ok (decide (ds (nx g t) h < ds g h)) := by
    show ((cf sb [.d (nx g t), .d h]).bind fun x => (cf sb [.d g, .d h]).bind fun y => cmpV .lt x.rd y.rd) = _
    rw [F.sb _ m1 h hh, F.sb g hg h hh]
    show R.ok (iLt (.ofNat (ds (nx g t) h)) (.ofNat (ds g h))) = _
    rw [show iLt (.ofNat (ds (nx g t) h)) (.ofNat (ds g h)) = Nat.blt (ds (nx g t) h) (ds g h) from rfl, nblt]
  show ((dS cf (.asg (.name 5) (.call sp (.cons (.var 3) (.cons (.var 4) .nil)))) [A, .v (.d h), B, .v (.d g), .v (.d t), s5]).bind _) = _
  rw [e1]
  show (((dT cf (.cmp .lt (.call sb (.cons (.var 5) (.cons (.var 1) .nil))) (.call sb (.cons (.var 3) (.cons (.var 1) .nil)))) [A, .v (.d h), B, .v (.d g), .v (.d t), .v (.d (nx g t))]).bind _).bind _) = _
  rw [e2]
  cases decide (ds (nx g t) h < ds g h) with
  | true => rfl
  | false => rfl
theorem few_for (F : FewP cf az sz sp sb s gl sl nx ds) {A B : Slot} {g h t : D} (hg : g ∈ gl) (hh : h ∈ gl) (ht : t ∈ sl) (hl : ds (nx g t) h < ds g h) {post : List D} : ∀ (pre : List D) (s4 s5 : Slot), (∀ u, u ∈ pre → u ∈ sl ∧ ¬ ds (nx g u) h < ds g h) →
    loopFor (pre ++ t :: post) (.name 4) (fun e => dS cf (fewFor sp sb) e) [A, .v (.d h), B, .v (.d g), s4, s5] = .ok (.nx [A, .v (.d h), B, .v (.d g), .v (.d t), .v (.d (nx g t))])
  | [], s4, s5, _ => by
    show ((dS cf (fewFor sp sb) [A, .v (.d h), B, .v (.d g), .v (.d t), s5]).bind _) = _
    rw [few_turn F hg hh ht, decide_eq_true hl]
    rfl
  | u :: pre, s4, s5, hp => by
    obtain ⟨h1, h2⟩ := hp u (List.mem_cons_self ..)
    show ((dS cf (fewFor sp sb) [A, .v (.d h), B, .v (.d g), .v (.d u), s5]).bind _) = _
    rw [few_turn F hg hh h1, decide_eq_false h2]
    exact few_for F hg hh ht hl pre _ _ fun y hy => hp y (List.mem_cons_of_mem _ hy)
theorem few_while (F : FewP cf az sz sp sb s gl sl nx ds) {g0 h : D} (hg0 : g0 ∈ gl) (hh : h ∈ gl) : ∀ (d n : Nat) (g : D) (row : List D) (s4 s5 : Slot), g ∈ gl → ds g h = d → d < n → row.length + d ≤ 1000 →
    ∃ W s4' s5', loopWh n (fun e => dT cf (.cmp .ne (.var 3) (.var 1)) e) (fun e => dS cf (fewBody az sz sp sb) e) [.v (.d g0), .v (.d h), .o (.d (.list row)), .v (.d g), s4, s5] = .ok (.nx [.v (.d g0), .v (.d h), .o (.d (.list (row ++ W))), .v (.d h), s4', s5']) ∧ W.length = d ∧ (∀ t, t ∈ W → t ∈ sl) ∧ endg nx g W = h
  | _, 0, _, _, _, _, _, _, hn, _ => absurd hn (Nat.not_lt_zero _)
  | 0, n + 1, g, row, s4, s5, hg, e, _, _ => by
    cases F.d0 g hg h hh e
    refine ⟨[], s4, s5, ?_, rfl, (fun _ z => nomatch z), rfl⟩
    show ((cmpV .ne (.d h) (.d h)).bind _) = _
    rw [F.ne0 h hh, List.append_nil]
    rfl
  | d + 1, n + 1, g, row, s4, s5, hg, e, hn, hr => by
    obtain ⟨pre, t, post, e1, e2, e3⟩ := F.fs g hg h hh (by omega)
    have ht : t ∈ sl := by rw [e1]; exact List.mem_append_right _ (List.mem_cons_self ..)
    have hp : ∀ u, u ∈ pre → u ∈ sl ∧ ¬ ds (nx g u) h < ds g h := fun u hu => ⟨by rw [e1]; exact List.mem_append_left _ hu, e2 u hu⟩
    obtain ⟨m1, _⟩ := F.sp g hg t ht
    have hne : g ≠ h := fun z => by
      rw [z, F.dg h hh] at e
      cases e
    have c1 : dT cf (.cmp .ne (.var 3) (.var 1)) [.v (.d g0), .v (.d h), .o (.d (.list row)), .v (.d g), s4, s5] = .ok true := F.ne1 g hg h hh hne
    have f1 : dS cf (.forS (.name 4) (.iseq (.call az (.cons (.call sz (.cons (.var 0) .nil)) .nil))) (fewFor sp sb)) [.v (.d g0), .v (.d h), .o (.d (.list row)), .v (.d g), s4, s5] = .ok (.nx [.v (.d g0), .v (.d h), .o (.d (.list row)), .v (.d g), .v (.d t), .v (.d (nx g t))]) := by
      show ((((((cf sz [.d g0]).bind fun x => x.fz.bind fun v => R.bind (R.ok []) fun vs => R.ok (v :: vs)).bind fun xs => cf az xs).bind fun x => x.fz.bind seqV)).bind fun xs => loopFor xs (.name 4) (fun e => dS cf (fewFor sp sb) e) [.v (.d g0), .v (.d h), .o (.d (.list row)), .v (.d g), s4, s5]) = _
      rw [F.sz g0 hg0]
      show ((((cf az [.d (.int s)]).bind fun x => x.fz.bind seqV)).bind fun xs => loopFor xs (.name 4) (fun e => dS cf (fewFor sp sb) e) [.v (.d g0), .v (.d h), .o (.d (.list row)), .v (.d g), s4, s5]) = _
      rw [F.az]
      show loopFor sl (.name 4) (fun e => dS cf (fewFor sp sb) e) [.v (.d g0), .v (.d h), .o (.d (.list row)), .v (.d g), s4, s5] = _
      rw [e1]
      exact few_for F hg hh ht (by omega) pre _ _ hp
    have b1 : dS cf (fewBody az sz sp sb) [.v (.d g0), .v (.d h), .o (.d (.list row)), .v (.d g), s4, s5] = .ok (.nx [.v (.d g0), .v (.d h), .o (.d (.list (row ++ [t]))), .v (.d (nx g t)), .v (.d t), .v (.d (nx g t))]) := by
      show ((dS cf (.forS (.name 4) (.iseq (.call az (.cons (.call sz (.cons (.var 0) .nil)) .nil))) (fewFor sp sb)) [.v (.d g0), .v (.d h), .o (.d (.list row)), .v (.d g), s4, s5]).bind _) = _
      rw [f1]
      show ((match few row lim with | true => R.ok (Out.nx [.v (.d g0), .v (.d h), .o (.d (.list (row ++ [t]))), .v (.d g), .v (.d t), .v (.d (nx g t))]) | false => R.stuck).bind _) = _
      rw [few_of (by unfold lim; omega)]
      rfl
    obtain ⟨W, s4', s5', w1, w2, w3, w4⟩ := few_while F hg0 hh d n (nx g t) (row ++ [t]) (.v (.d t)) (.v (.d (nx g t))) m1 (by omega) (by omega) (by simp only [List.length_append, List.length_cons, List.length_nil]; omega)
    refine ⟨t :: W, s4', s5', ?_, congrArg Nat.succ w2, fun y hy => ?_, w4⟩
    · show ((dT cf (.cmp .ne (.var 3) (.var 1)) [.v (.d g0), .v (.d h), .o (.d (.list row)), .v (.d g), s4, s5]).bind _) = _
      rw [c1]
      show ((dS cf (fewBody az sz sp sb) [.v (.d g0), .v (.d h), .o (.d (.list row)), .v (.d g), s4, s5]).bind _) = _
      rw [b1]
      show loopWh n _ _ [.v (.d g0), .v (.d h), .o (.d (.list (row ++ [t]))), .v (.d (nx g t)), .v (.d t), .v (.d (nx g t))] = _
      rw [w1, List.append_assoc]
      rfl
    · rcases List.mem_cons.mp hy with z | z
      · rw [z]; exact ht
      · exact w3 y z
theorem few_run (F : FewP cf az sz sp sb s gl sl nx ds) {nt : Nat} {g h : D} (hg : g ∈ gl) (hh : h ∈ gl) (hd : ds g h < 1000) (hnt : cf nt [.d g, .d h] = .ok (.v (.d .none))) :
    ∃ W, runDef cf (fewDef nt az sz sp sb) [.d g, .d h] = .ok (.v (.d (.tuple W))) ∧ W.length = ds g h ∧ (∀ t, t ∈ W → t ∈ sl) ∧ endg nx g W = h := by
  obtain ⟨W, s4, s5, w1, w2, w3, w4⟩ := few_while F hg hh (ds g h) 1000 g [] .no .no hg rfl hd (by rw [List.length_nil]; omega)
  refine ⟨W, ?_, w2, w3, w4⟩
  show ((((cf nt [.d g, .d h]).bind _).bind _).bind _) = _
  rw [hnt]
  show (((loopWh 1000 (fun e => dT cf (.cmp .ne (.var 3) (.var 1)) e) (fun e => dS cf (fewBody az sz sp sb) e) [.v (.d g), .v (.d h), .o (.d (.list [])), .v (.d g), .no, .no]).bind _).bind _) = _
  rw [w1]
  rfl
end
end Ev

/-! Told by a table of distances: round_trip, farthest, around, shows_fewest. -/
namespace Ev
open PySem
section
variable {cf : Nat → List Val → R RV}
def roundDef (nt sb : Nat) : Def := ⟨2, 2, (.scons (.ex (.call nt (.cons (.var 0) (.cons (.var 1) .nil)))) (.scons (.ret (.bin .add (.call sb (.cons (.var 0) (.cons (.var 1) .nil))) (.call sb (.cons (.var 1) (.cons (.var 0) .nil))))) .snil)), false⟩
theorem round_run {nt sb a b : Nat} {g h : D} (h1 : cf nt [.d g, .d h] = .ok (.v (.d .none))) (h2 : cf sb [.d g, .d h] = .ok (.v (.d (.int (.ofNat a))))) (h3 : cf sb [.d h, .d g] = .ok (.v (.d (.int (.ofNat b))))) :
    runDef cf (roundDef nt sb) [.d g, .d h] = .ok (.v (.d (.int (.ofNat (a + b))))) := by
  have e2 : dE cf (.bin .add (.call sb (.cons (.var 0) (.cons (.var 1) .nil))) (.call sb (.cons (.var 1) (.cons (.var 0) .nil)))) [.v (.d g), .v (.d h)] = .ok (.v (.d (.int (.ofNat (a + b))))) := by
    show ((cf sb [.d g, .d h]).bind fun x => (cf sb [.d h, .d g]).bind fun y => binV .add x.rd y.rd) = _
    rw [h2, h3]
    rfl
  show (((cf nt [.d g, .d h]).bind _).bind _).bind _ = _
  rw [h1]
  show (((dE cf (.bin .add (.call sb (.cons (.var 0) (.cons (.var 1) .nil))) (.call sb (.cons (.var 1) (.cons (.var 0) .nil)))) [.v (.d g), .v (.d h)]).bind _).bind _).bind _ = _
  rw [e2]
  rfl
theorem nmx_ge : ∀ (l : List Nat) (a : Nat), a ≤ nmx a l
  | [], a => Nat.le_refl a
  | b :: r, a => by
    show a ≤ nmx (match Nat.blt a b with | true => b | false => a) r
    cases q : Nat.blt a b with
    | true =>
      rw [nblt] at q
      exact Nat.le_trans (Nat.le_of_lt (of_decide_eq_true q)) (nmx_ge r b)
    | false => exact nmx_ge r a
theorem nmx_mem : ∀ (l : List Nat) (a x : Nat), x ∈ l → x ≤ nmx a l
  | b :: r, a, x, h => by
    show x ≤ nmx (match Nat.blt a b with | true => b | false => a) r
    rcases List.mem_cons.mp h with e | h
    · rw [e]
      cases q : Nat.blt a b with
      | true => exact nmx_ge r b
      | false =>
        rw [nblt] at q
        exact Nat.le_trans (Nat.le_of_not_lt (of_decide_eq_false q)) (nmx_ge r a)
    · exact nmx_mem r _ x h
/-- the greatest of a walk's numbers -/
def far (ds : D → Nat) : List D → Nat
  | [] => 0
  | x :: r => nmx (ds x) (r.map ds)
theorem far_ge {ds : D → Nat} {x : D} : ∀ {l : List D}, x ∈ l → ds x ≤ far ds l
  | y :: r, h => by
    rcases List.mem_cons.mp h with e | h
    · rw [e]; exact nmx_ge _ _
    · exact nmx_mem _ _ _ (List.mem_map.mpr ⟨x, h, rfl⟩)
def farDef (nd ag sz sb : Nat) : Def := ⟨1, 2, (.scons (.ex (.call nd (.cons (.var 0) .nil))) (.scons (.ret (.b1 .max (.lc [1] (.name 1) (.iseq (.call ag (.cons (.call sz (.cons (.var 0) .nil)) .nil))) (.call sb (.cons (.var 0) (.cons (.var 1) .nil)))))) .snil)), false⟩
theorem far_run {nd ag sz sb : Nat} {s : Int} {g : D} {gl : List D} {ds : D → Nat} (h1 : cf nd [.d g] = .ok (.v (.d .none))) (h2 : cf sz [.d g] = .ok (.v (.d (.int s)))) (h3 : cf ag [.d (.int s)] = .ok (.o (.d (.list gl)))) (h4 : ∀ x, x ∈ gl → cf sb [.d g, .d x] = .ok (.v (.d (.int (.ofNat (ds x)))))) (h0 : gl ≠ []) (hn : gl.length ≤ 1000) :
    runDef cf (farDef nd ag sz sb) [.d g] = .ok (.v (.d (.int (.ofNat (far ds gl))))) := by
  have e1 : loopL gl (.name 1) [.v (.d g), .no] (fun e1 => (dE cf (.call sb (.cons (.var 0) (.cons (.var 1) .nil))) e1).bind fzD) = .ok (gl.map fun x => .int (.ofNat (ds x))) :=
    loopL_map gl fun x hx => by
      show (cf sb [.d g, .d x]).bind fzD = _
      rw [h4 x hx]
      rfl
  have e2 : dE cf (.b1 .max (.lc [1] (.name 1) (.iseq (.call ag (.cons (.call sz (.cons (.var 0) .nil)) .nil))) (.call sb (.cons (.var 0) (.cons (.var 1) .nil))))) [.v (.d g), .no] = .ok (.v (.d (.int (.ofNat (far ds gl))))) := by
    show ((((((cf sz [.d g]).bind fun x => x.fz.bind fun v => R.bind (R.ok []) fun vs => R.ok (v :: vs)).bind fun xs => cf ag xs).bind fun x => x.fz.bind seqV).bind fun xs => (loopL xs (.name 1) [.v (.d g), .no] (fun e1 => (dE cf (.call sb (.cons (.var 0) (.cons (.var 1) .nil))) e1).bind fzD)).bind newL).bind fun x => b1V .max x.rd) = _
    rw [h2]
    show ((((cf ag [.d (.int s)]).bind fun x => x.fz.bind seqV).bind fun xs => (loopL xs (.name 1) [.v (.d g), .no] (fun e1 => (dE cf (.call sb (.cons (.var 0) (.cons (.var 1) .nil))) e1).bind fzD)).bind newL).bind fun x => b1V .max x.rd) = _
    rw [h3]
    show (((loopL gl (.name 1) [.v (.d g), .no] (fun e1 => (dE cf (.call sb (.cons (.var 0) (.cons (.var 1) .nil))) e1).bind fzD)).bind newL).bind fun x => b1V .max x.rd) = _
    rw [e1]
    show ((newL (gl.map fun x => PyData.int (.ofNat (ds x)))).bind fun x => b1V .max x.rd) = _
    rw [newL_few (by rw [List.length_map]; exact hn)]
    show (match ints? (gl.map fun x => PyData.int (.ofNat (ds x))) with | some (i :: r) => R.ok (RV.v (.d (.int (imax i r)))) | _ => R.stuck) = _
    have z := ints_nat (gl.map ds)
    rw [List.map_map] at z
    rw [show (gl.map fun x => PyData.int (.ofNat (ds x))) = gl.map ((fun n => PyData.int (.ofNat n)) ∘ ds) from rfl, z]
    cases gl with
    | nil => exact absurd rfl h0
    | cons x r =>
      show R.ok (RV.v (.d (.int (imax (.ofNat (ds x)) ((r.map ds).map .ofNat))))) = _
      rw [imax_nat]
      rfl
  show (((cf nd [.d g]).bind _).bind _).bind _ = _
  rw [h1]
  show (((dE cf (.b1 .max (.lc [1] (.name 1) (.iseq (.call ag (.cons (.call sz (.cons (.var 0) .nil)) .nil))) (.call sb (.cons (.var 0) (.cons (.var 1) .nil))))) [.v (.d g), .no]).bind _).bind _).bind _ = _
  rw [e2]
  rfl
def aroundDef (nd iz ag sz sb : Nat) : Def := ⟨2, 3, (.scons (.ex (.call nd (.cons (.var 0) .nil))) (.scons (.ifS (.not (.tst (.call iz (.cons (.var 1) (.cons (.int 0) (.cons (.glob "MOST_FAR" 20) .nil)))))) (.scons .noE .snil) .snil) (.scons (.ret (.b1 .tuple (.lcIf [2] (.name 2) (.iseq (.call ag (.cons (.call sz (.cons (.var 0) .nil)) .nil))) (.var 2) (.cmp .eq (.call sb (.cons (.var 0) (.cons (.var 2) .nil))) (.var 1))))) .snil))), false⟩
theorem pick_len {c : D → Bool} : ∀ (l : List D), (pickB c l).length ≤ l.length
  | [] => Nat.le_refl 0
  | x :: r => by
    show (match c x with | true => x :: pickB c r | false => pickB c r).length ≤ _
    cases c x with
    | true => exact Nat.succ_le_succ (pick_len r)
    | false => exact Nat.le_succ_of_le (pick_len r)
theorem pick_mem {c : D → Bool} {x : D} (hc : c x = true) : ∀ {l : List D}, x ∈ l → x ∈ pickB c l
  | y :: r, h => by
    show x ∈ (match c y with | true => y :: pickB c r | false => pickB c r)
    rcases List.mem_cons.mp h with e | h
    · rw [← e, hc]
      exact List.mem_cons_self ..
    · cases c y with
      | true => exact List.mem_cons_of_mem _ (pick_mem hc h)
      | false => exact pick_mem hc h
theorem around_run {nd iz ag sz sb far : Nat} {s : Int} {g : D} {gl : List D} {ds : D → Nat} (h1 : cf nd [.d g] = .ok (.v (.d .none))) (hi : cf iz [.d (.int (.ofNat far)), .d (.int 0), .d (.int 20)] = .ok (.v (.d (.bool true)))) (h2 : cf sz [.d g] = .ok (.v (.d (.int s)))) (h3 : cf ag [.d (.int s)] = .ok (.o (.d (.list gl)))) (h4 : ∀ x, x ∈ gl → cf sb [.d g, .d x] = .ok (.v (.d (.int (.ofNat (ds x)))))) (hn : gl.length ≤ 1000) :
    runDef cf (aroundDef nd iz ag sz sb) [.d g, .d (.int (.ofNat far))] = .ok (.v (.d (.tuple (pickB (fun x => Nat.beq (ds x) far) gl)))) := by
  have e1 : loopIf gl (.name 2) [.v (.d g), .v (.d (.int (.ofNat far))), .no] (fun e1 => (dE cf (.var 2) e1).bind fzD) (fun e1 => dT cf (.cmp .eq (.call sb (.cons (.var 0) (.cons (.var 2) .nil))) (.var 1)) e1) = .ok ((pickB (fun x => Nat.beq (ds x) far) gl).map fun x => x) :=
    loopIf_pick gl fun x hx => ⟨by
      show ((cf sb [.d g, .d x]).bind fun y => cmpV .eq y.rd (.d (.int (.ofNat far)))) = _
      rw [h4 x hx]
      rfl, rfl⟩
  rw [List.map_id'] at e1
  have c1 : dT cf (.not (.tst (.call iz (.cons (.var 1) (.cons (.int 0) (.cons (.glob "MOST_FAR" 20) .nil)))))) [.v (.d g), .v (.d (.int (.ofNat far))), .no] = .ok false := by
    show (((cf iz [.d (.int (.ofNat far)), .d (.int 0), .d (.int 20)]).bind fun x => truV x.rd).bind _) = _
    rw [hi]
    rfl
  have e2 : dE cf (.b1 .tuple (.lcIf [2] (.name 2) (.iseq (.call ag (.cons (.call sz (.cons (.var 0) .nil)) .nil))) (.var 2) (.cmp .eq (.call sb (.cons (.var 0) (.cons (.var 2) .nil))) (.var 1)))) [.v (.d g), .v (.d (.int (.ofNat far))), .no] = .ok (.v (.d (.tuple (pickB (fun x => Nat.beq (ds x) far) gl)))) := by
    show ((((((cf sz [.d g]).bind fun x => x.fz.bind fun v => R.bind (R.ok []) fun vs => R.ok (v :: vs)).bind fun xs => cf ag xs).bind fun x => x.fz.bind seqV).bind fun xs => (loopIf xs (.name 2) [.v (.d g), .v (.d (.int (.ofNat far))), .no] (fun e1 => (dE cf (.var 2) e1).bind fzD) (fun e1 => dT cf (.cmp .eq (.call sb (.cons (.var 0) (.cons (.var 2) .nil))) (.var 1)) e1)).bind newL).bind fun x => b1V .tuple x.rd) = _
    rw [h2]
    show ((((cf ag [.d (.int s)]).bind fun x => x.fz.bind seqV).bind fun xs => (loopIf xs (.name 2) [.v (.d g), .v (.d (.int (.ofNat far))), .no] (fun e1 => (dE cf (.var 2) e1).bind fzD) (fun e1 => dT cf (.cmp .eq (.call sb (.cons (.var 0) (.cons (.var 2) .nil))) (.var 1)) e1)).bind newL).bind fun x => b1V .tuple x.rd) = _
    rw [h3]
    show (((loopIf gl (.name 2) [.v (.d g), .v (.d (.int (.ofNat far))), .no] (fun e1 => (dE cf (.var 2) e1).bind fzD) (fun e1 => dT cf (.cmp .eq (.call sb (.cons (.var 0) (.cons (.var 2) .nil))) (.var 1)) e1)).bind newL).bind fun x => b1V .tuple x.rd) = _
    rw [e1]
    show ((newL (pickB (fun x => Nat.beq (ds x) far) gl)).bind fun x => b1V .tuple x.rd) = _
    rw [newL_few (Nat.le_trans (pick_len gl) hn)]
    rfl
  show (((cf nd [.d g]).bind _).bind _).bind _ = _
  rw [h1]
  show (((dT cf (.not (.tst (.call iz (.cons (.var 1) (.cons (.int 0) (.cons (.glob "MOST_FAR" 20) .nil)))))) [.v (.d g), .v (.d (.int (.ofNat far))), .no]).bind _).bind _).bind _ = _
  rw [c1]
  show (((dE cf (.b1 .tuple (.lcIf [2] (.name 2) (.iseq (.call ag (.cons (.call sz (.cons (.var 0) .nil)) .nil))) (.var 2) (.cmp .eq (.call sb (.cons (.var 0) (.cons (.var 2) .nil))) (.var 1)))) [.v (.d g), .v (.d (.int (.ofNat far))), .no]).bind _).bind _).bind _ = _
  rw [e2]
  rfl
end
end Ev

/-! are_steps, is_row, shows_fewest; shared people as the law counts them. -/
namespace Ev
open PySem
section
variable {cf : Nat → List Val → R RV}
def areDef (iz : Nat) : Def := ⟨3, 4, (.scons (.ret (.and (.isI (.var 1) .tuple) (.and (.cmp .le (.b1 .len (.var 1)) (.var 2)) (.gx .all [3] (.name 3) (.iseq (.var 1)) (.call iz (.cons (.var 0) (.cons (.var 3) .nil))))))) .snil), false⟩
def isRowDef (ar : Nat) : Def := ⟨2, 2, (.scons (.ret (.call ar (.cons (.var 0) (.cons (.var 1) (.cons (.glob "MOST_ROW" 40) .nil))))) .snil), false⟩
def showsDef (nt rw sz sb tr : Nat) : Def := ⟨3, 3, (.scons (.ex (.call nt (.cons (.var 0) (.cons (.var 1) .nil)))) (.scons (.ifS (.or (.not (.tst (.call rw (.cons (.call sz (.cons (.var 0) .nil)) (.cons (.var 2) .nil))))) (.cmp .ne (.b1 .len (.var 2)) (.call sb (.cons (.var 0) (.cons (.var 1) .nil))))) (.scons (.ret (.bl false)) .snil) .snil) (.scons (.ret (.cmp .eq (.ix (.call tr (.cons (.var 0) (.cons (.var 2) .nil))) (.neg (.int 1))) (.var 1))) .snil))), false⟩
theorem all_true : ∀ (l : List D), allB' (fun _ => true) l = true
  | [] => rfl
  | _ :: r => all_true r
theorem are_run {iz mo : Nat} {s : Int} {L : List D} (h : ∀ t, t ∈ L → cf iz [.d (.int s), .d t] = .ok (.v (.d (.bool true)))) (hn : L.length ≤ mo) : runDef cf (areDef iz) [.d (.int s), .d (.tuple L), .d (.int (.ofNat mo))] = .ok (.v (.d (.bool true))) := by
  have e1 : loopAll L (.name 3) [.v (.d (.int s)), .v (.d (.tuple L)), .v (.d (.int (.ofNat mo))), .no] (fun e1 => (dE cf (.call iz (.cons (.var 0) (.cons (.var 3) .nil))) e1).bind fun x => truV x.rd) = .ok true := by
    have z := loopAll_all (i := 3) (e0 := [.v (.d (.int s)), .v (.d (.tuple L)), .v (.d (.int (.ofNat mo))), .no]) (k := fun e1 => (dE cf (.call iz (.cons (.var 0) (.cons (.var 3) .nil))) e1).bind fun x => truV x.rd) (c := fun _ => true) L fun t ht => by
      show ((cf iz [.d (.int s), .d t]).bind fun x => truV x.rd) = _
      rw [h t ht]
      rfl
    rw [z, all_true]
  have e2 : dE cf (.cmp .le (.b1 .len (.var 1)) (.var 2)) [.v (.d (.int s)), .v (.d (.tuple L)), .v (.d (.int (.ofNat mo))), .no] = .ok (.v (.d (.bool true))) := by
    show (R.ok (!(Nat.blt mo L.length))).bind boolV = _
    rw [nblt, decide_eq_false (by omega)]
    rfl
  have e3 : dE cf (.gx .all [3] (.name 3) (.iseq (.var 1)) (.call iz (.cons (.var 0) (.cons (.var 3) .nil)))) [.v (.d (.int s)), .v (.d (.tuple L)), .v (.d (.int (.ofNat mo))), .no] = .ok (.v (.d (.bool true))) := by
    show ((loopAll L (.name 3) [.v (.d (.int s)), .v (.d (.tuple L)), .v (.d (.int (.ofNat mo))), .no] (fun e1 => (dE cf (.call iz (.cons (.var 0) (.cons (.var 3) .nil))) e1).bind fun x => truV x.rd)).bind boolV) = _
    rw [e1]
    rfl
  show (((dE cf (.and (.cmp .le (.b1 .len (.var 1)) (.var 2)) (.gx .all [3] (.name 3) (.iseq (.var 1)) (.call iz (.cons (.var 0) (.cons (.var 3) .nil))))) [.v (.d (.int s)), .v (.d (.tuple L)), .v (.d (.int (.ofNat mo))), .no]).bind _).bind _).bind _ = _
  have e4 : dE cf (.and (.cmp .le (.b1 .len (.var 1)) (.var 2)) (.gx .all [3] (.name 3) (.iseq (.var 1)) (.call iz (.cons (.var 0) (.cons (.var 3) .nil))))) [.v (.d (.int s)), .v (.d (.tuple L)), .v (.d (.int (.ofNat mo))), .no] = .ok (.v (.d (.bool true))) := by
    show ((dE cf (.cmp .le (.b1 .len (.var 1)) (.var 2)) [.v (.d (.int s)), .v (.d (.tuple L)), .v (.d (.int (.ofNat mo))), .no]).bind _) = _
    rw [e2]
    exact e3
  rw [e4]
  rfl
theorem isrow_run {ar : Nat} {s : Int} {v : Val} {b : Bool} (h : cf ar [.d (.int s), v, .d (.int 40)] = .ok (.v (.d (.bool b)))) : runDef cf (isRowDef ar) [.d (.int s), v] = .ok (.v (.d (.bool b))) := by
  show (((cf ar [.d (.int s), v, .d (.int 40)]).bind _).bind _).bind _ = _
  rw [h]
  rfl
theorem shows_run {nt rw_ sz sb tr n : Nat} {s : Int} {g h : D} {L l : List D} (h1 : cf nt [.d g, .d h] = .ok (.v (.d .none))) (h2 : cf sz [.d g] = .ok (.v (.d (.int s)))) (h3 : cf rw_ [.d (.int s), .d (.tuple L)] = .ok (.v (.d (.bool true)))) (h4 : cf sb [.d g, .d h] = .ok (.v (.d (.int (.ofNat n))))) (hn : L.length = n)
    (h5 : cf tr [.d g, .d (.tuple L)] = .ok (.o (.d (.list (l ++ [h]))))) (hq : cmpV .eq (.d h) (.d h) = .ok true) : runDef cf (showsDef nt rw_ sz sb tr) [.d g, .d h, .d (.tuple L)] = .ok (.v (.d (.bool true))) := by
  have c1 : dT cf (.or (.not (.tst (.call rw_ (.cons (.call sz (.cons (.var 0) .nil)) (.cons (.var 2) .nil))))) (.cmp .ne (.b1 .len (.var 2)) (.call sb (.cons (.var 0) (.cons (.var 1) .nil))))) [.v (.d g), .v (.d h), .v (.d (.tuple L))] = .ok false := by
    show ((((((cf sz [.d g]).bind fun x => x.fz.bind fun v => R.bind (R.ok [.d (.tuple L)]) fun vs => R.ok (v :: vs)).bind fun xs => cf rw_ xs).bind fun x => truV x.rd).bind _).bind _) = _
    rw [h2]
    show ((((cf rw_ [.d (.int s), .d (.tuple L)]).bind fun x => truV x.rd).bind _).bind _) = _
    rw [h3]
    show ((cf sb [.d g, .d h]).bind fun y => cmpV .ne (.d (.int (.ofNat L.length))) y.rd) = _
    rw [h4, hn]
    show R.ok (!(iEq (.ofNat n) (.ofNat n))) = _
    rw [iEq_self]
    rfl
  have e2 : dE cf (.cmp .eq (.ix (.call tr (.cons (.var 0) (.cons (.var 2) .nil))) (.neg (.int 1))) (.var 1)) [.v (.d g), .v (.d h), .v (.d (.tuple L))] = .ok (.v (.d (.bool true))) := by
    show ((((cf tr [.d g, .d (.tuple L)]).bind fun x => ixV x.rd (.d (.int (-1)))).bind fun x => cmpV .eq x.rd (.d h) |>.bind boolV)) = _
    rw [h5]
    show (((ixV (.d (.list (l ++ [h]))) (.d (.int (-1)))).bind fun x => cmpV .eq x.rd (.d h) |>.bind boolV)) = _
    rw [ix_last]
    show (cmpV .eq (.d h) (.d h)).bind boolV = _
    rw [hq]
    rfl
  show (((cf nt [.d g, .d h]).bind _).bind _).bind _ = _
  rw [h1]
  show (((dT cf (.or (.not (.tst (.call rw_ (.cons (.call sz (.cons (.var 0) .nil)) (.cons (.var 2) .nil))))) (.cmp .ne (.b1 .len (.var 2)) (.call sb (.cons (.var 0) (.cons (.var 1) .nil))))) [.v (.d g), .v (.d h), .v (.d (.tuple L))]).bind _).bind _).bind _ = _
  rw [c1]
  show (((dE cf (.cmp .eq (.ix (.call tr (.cons (.var 0) (.cons (.var 2) .nil))) (.neg (.int 1))) (.var 1)) [.v (.d g), .v (.d h), .v (.d (.tuple L))]).bind _).bind _).bind _ = _
  rw [e2]
  rfl
def keptDef : Def := ⟨2, 5, (.scons (.ret (.b1 .sum (.lc [4] (.name 4) (.iseq (.var 0)) shMid))) .snil), false⟩
theorem kept_run {xs ys : List Nat} (hx : ∀ a, a ∈ xs → isM a) (hy : ∀ b, b ∈ ys → isM b) (h0 : ys ≠ []) (nx : xs.length ≤ 1000) (ny : ys.length ≤ 1000) : runDef cf keptDef [.d (gM xs), .d (gM ys)] = .ok (.v (.d (.int (.ofNat (shr xs ys))))) := by
  have a2 : dE cf (.b1 .sum (.lc [4] (.name 4) (.iseq (.var 0)) shMid)) [.v (.d (gM xs)), .v (.d (gM ys)), .no, .no, .no] = .ok (.v (.d (.int (.ofNat (shr xs ys))))) := by
    show ((dE cf (.lc [4] (.name 4) (.iseq (.var 0)) shMid) [.v (.d (gM xs)), .v (.d (gM ys)), .no, .no, .no]).bind fun x => b1V .sum x.rd) = _
    rw [shares_dE hx hy h0 nx ny]
    show (match ints? (xs.map fun a => PyData.int (.ofNat (mxo a ys))) with | some is => R.ok (RV.v (.d (.int (isum is)))) | none => R.stuck) = _
    have e2 := ints_nat (xs.map fun a => mxo a ys)
    rw [List.map_map] at e2
    rw [show (xs.map fun a => PyData.int (.ofNat (mxo a ys))) = xs.map ((fun n => PyData.int (.ofNat n)) ∘ fun a => mxo a ys) from rfl, e2]
    show R.ok (RV.v (.d (.int (isum ((xs.map fun a => mxo a ys).map .ofNat))))) = _
    rw [isum_nat]
    rfl
  show (((dE cf (.b1 .sum (.lc [4] (.name 4) (.iseq (.var 0)) shMid)) [.v (.d (gM xs)), .v (.d (gM ys)), .no, .no, .no]).bind _).bind _).bind _ = _
  rw [a2]
  rfl
end
end Ev

/-! Rows of small numbers packed into one Nat, eight bits each: compared all at once. -/
namespace Ev
def dig (A j : Nat) : Nat := Nat.mod (Nat.shiftRight A (Nat.mul 8 j)) 256
theorem dig_zero (A : Nat) : dig A 0 = A % 256 := rfl
theorem dig_succ (A j : Nat) : dig A (j + 1) = dig (A / 256) j := by
  show (A >>> (8 * (j + 1))) % 256 = ((A / 256) >>> (8 * j)) % 256
  rw [Nat.mul_succ, Nat.add_comm, Nat.shiftRight_add, Nat.shiftRight_eq_div_pow A 8]
theorem dig_add : ∀ (j : Nat) (A C : Nat), (∀ i, i ≤ j → dig A i < 128) → (∀ i, i ≤ j → dig C i < 128) → dig (A + C) j = dig A j + dig C j
  | 0, A, C, ha, hc => by
    have h1 := ha 0 (Nat.le_refl 0)
    have h2 := hc 0 (Nat.le_refl 0)
    rw [dig_zero] at h1 h2 ⊢
    rw [dig_zero, dig_zero]
    omega
  | j + 1, A, C, ha, hc => by
    have h1 := ha 0 (Nat.zero_le _)
    have h2 := hc 0 (Nat.zero_le _)
    rw [dig_zero] at h1 h2
    rw [dig_succ, dig_succ, dig_succ, show (A + C) / 256 = A / 256 + C / 256 from by omega]
    exact dig_add j _ _ (fun i hi => by rw [← dig_succ]; exact ha (i + 1) (Nat.succ_le_succ hi)) (fun i hi => by rw [← dig_succ]; exact hc (i + 1) (Nat.succ_le_succ hi))
/-- no cell has its highest bit -/
theorem dig_low {W Hi j : Nat} (h : Nat.land W Hi = 0) (hb : Nat.testBit Hi (8 * j + 7) = true) : dig W j < 128 := by
  have h1 : Nat.testBit (W &&& Hi) (8 * j + 7) = false := by
    show Nat.testBit (Nat.land W Hi) (8 * j + 7) = false
    rw [h]
    exact Nat.zero_testBit _
  rw [Nat.testBit_and, hb, Bool.and_true] at h1
  rw [Nat.testBit, Nat.shiftRight_add] at h1
  have h2 : (W >>> (8 * j)) / 128 % 2 = 0 := by
    have z : (1 &&& ((W >>> (8 * j)) >>> 7)) = (W >>> (8 * j)) / 128 % 2 := by
      rw [Nat.and_comm, Nat.and_one_is_mod, Nat.shiftRight_eq_div_pow _ 7]
    rw [z] at h1
    simpa using h1
  show (W >>> (8 * j)) % 256 < 128
  omega
/-- row i is nowhere above row k and c -/
def triB (ri rk c ones hi : Nat) : Bool := Nat.beq (Nat.add ri (Nat.sub (Nat.add rk (Nat.mul c ones)) ri)) (Nat.add rk (Nat.mul c ones)) && Nat.beq (Nat.land (Nat.sub (Nat.add rk (Nat.mul c ones)) ri) hi) 0
theorem tri_use {n ri rk c ones hi : Nat} (h : triB ri rk c ones hi = true) (hh : ∀ j, j < n → Nat.testBit hi (8 * j + 7) = true) (hr : ∀ j, j < n → dig ri j < 128) (hk : ∀ j, j < n → dig rk j < 128) (hc : ∀ j, j < n → dig (c * ones) j = c) (c1 : c < 128) : ∀ j, j < n → dig ri j ≤ dig rk j + c := fun j hj => by
  obtain ⟨h1, h2⟩ := and2 h
  have e1 : ri + (rk + c * ones - ri) = rk + c * ones := Nat.eq_of_beq_eq_true h1
  have e2 : Nat.land (rk + c * ones - ri) hi = 0 := Nat.eq_of_beq_eq_true h2
  have lo : ∀ i, i ≤ j → dig (rk + c * ones - ri) i < 128 := fun i hi' => dig_low e2 (hh i (Nat.lt_of_le_of_lt hi' hj))
  have a := dig_add j ri (rk + c * ones - ri) (fun i hi' => hr i (Nat.lt_of_le_of_lt hi' hj)) lo
  have b := dig_add j rk (c * ones) (fun i hi' => hk i (Nat.lt_of_le_of_lt hi' hj)) (fun i hi' => by rw [hc i (Nat.lt_of_le_of_lt hi' hj)]; exact c1)
  rw [e1, b, hc j hj] at a
  omega
end Ev

/-! Distances of all pairs in one table; the defs around them. -/
namespace Ev
open PySem
/-! ### what a call yields -/
def valN : R RV → Nat
  | .ok (.v (.d (.int (.ofNat k)))) => k
  | _ => 0
def valD : R RV → D
  | .ok (.v (.d x)) => x
  | _ => .none
section
variable {cf : Nat → List Val → R RV}
def ngDef (ig : Nat) : Def := ⟨1, 1, (.scons (.ifS (.not (.tst (.call ig (.cons (.var 0) .nil)))) (.scons .noE .snil) .snil) .snil), false⟩
theorem ng_run {ig : Nat} {g : D} (h : cf ig [.d g] = .ok (.v (.d (.bool true)))) : runDef cf (ngDef ig) [.d g] = .ok (.v (.d .none)) := by
  show ((((((cf ig [.d g]).bind fun x => truV x.rd).bind _).bind _).bind _).bind _) = _
  rw [h]
  rfl
def ntDef (nd ig sz : Nat) : Def := ⟨2, 2, (.scons (.ex (.call nd (.cons (.var 0) .nil))) (.scons (.ifS (.or (.not (.tst (.call ig (.cons (.var 1) .nil)))) (.cmp .ne (.call sz (.cons (.var 1) .nil)) (.call sz (.cons (.var 0) .nil)))) (.scons .noE .snil) .snil) .snil)), false⟩
theorem nt_run {nd ig sz n : Nat} {g h : D} (h1 : cf nd [.d g] = .ok (.v (.d .none))) (h2 : cf ig [.d h] = .ok (.v (.d (.bool true)))) (h3 : cf sz [.d g] = .ok (.v (.d (.int (.ofNat n))))) (h4 : cf sz [.d h] = .ok (.v (.d (.int (.ofNat n))))) :
    runDef cf (ntDef nd ig sz) [.d g, .d h] = .ok (.v (.d .none)) := by
  have c1 : dT cf (.or (.not (.tst (.call ig (.cons (.var 1) .nil)))) (.cmp .ne (.call sz (.cons (.var 1) .nil)) (.call sz (.cons (.var 0) .nil)))) [.v (.d g), .v (.d h)] = .ok false := by
    show ((((cf ig [.d h]).bind fun x => truV x.rd).bind _).bind _) = _
    rw [h2]
    show ((cf sz [.d h]).bind fun x => (cf sz [.d g]).bind fun y => cmpV .ne x.rd y.rd) = _
    rw [h4, h3]
    show R.ok (!(iEq (.ofNat n) (.ofNat n))) = _
    rw [iEq_self]
    rfl
  show (((cf nd [.d g]).bind _).bind _).bind _ = _
  rw [h1]
  show (((dT cf (.or (.not (.tst (.call ig (.cons (.var 1) .nil)))) (.cmp .ne (.call sz (.cons (.var 1) .nil)) (.call sz (.cons (.var 0) .nil)))) [.v (.d g), .v (.d h)]).bind _).bind _).bind _ = _
  rw [c1]
  rfl
def dsDef (nt sb : Nat) : Def := ⟨2, 2, (.scons (.ex (.call nt (.cons (.var 0) (.cons (.var 1) .nil)))) (.scons (.ret (.call sb (.cons (.var 0) (.cons (.var 1) .nil)))) .snil)), false⟩
theorem ds_run {nt sb : Nat} {g h x : D} (h1 : cf nt [.d g, .d h] = .ok (.v (.d .none))) (h2 : cf sb [.d g, .d h] = .ok (.v (.d x))) : runDef cf (dsDef nt sb) [.d g, .d h] = .ok (.v (.d x)) := by
  show (((cf nt [.d g, .d h]).bind _).bind _).bind _ = _
  rw [h1]
  show (((cf sb [.d g, .d h]).bind _).bind _).bind _ = _
  rw [h2]
  rfl
def stepDef (nd is_ sz sp : Nat) : Def := ⟨2, 2, (.scons (.ex (.call nd (.cons (.var 0) .nil))) (.scons (.ifS (.not (.tst (.call is_ (.cons (.call sz (.cons (.var 0) .nil)) (.cons (.var 1) .nil))))) (.scons .noE .snil) .snil) (.scons (.ret (.call sp (.cons (.var 0) (.cons (.var 1) .nil)))) .snil))), false⟩
theorem step_run {nd is_ sz sp : Nat} {g t x : D} {s : Int} (h1 : cf nd [.d g] = .ok (.v (.d .none))) (h2 : cf sz [.d g] = .ok (.v (.d (.int s)))) (h3 : cf is_ [.d (.int s), .d t] = .ok (.v (.d (.bool true)))) (h4 : cf sp [.d g, .d t] = .ok (.v (.d x))) :
    runDef cf (stepDef nd is_ sz sp) [.d g, .d t] = .ok (.v (.d x)) := by
  have a1 : dE cf (.call nd (.cons (.var 0) .nil)) [.v (.d g), .v (.d t)] = .ok (.v (.d .none)) := h1
  have a2 : dT cf (.not (.tst (.call is_ (.cons (.call sz (.cons (.var 0) .nil)) (.cons (.var 1) .nil))))) [.v (.d g), .v (.d t)] = .ok false := by
    show (((((cf sz [.d g]).bind fun x => x.fz.bind fun v => R.bind (R.ok [.d t]) fun vs => R.ok (v :: vs)).bind fun xs => cf is_ xs).bind fun x => truV x.rd).bind _) = _
    rw [h2]
    show (((cf is_ [.d (.int s), .d t]).bind fun x => truV x.rd).bind _) = _
    rw [h3]
    rfl
  have a3 : dE cf (.call sp (.cons (.var 0) (.cons (.var 1) .nil))) [.v (.d g), .v (.d t)] = .ok (.v (.d x)) := h4
  show (((dE cf (.call nd (.cons (.var 0) .nil)) [.v (.d g), .v (.d t)]).bind _).bind _).bind _ = _
  rw [a1]
  show (((dT cf (.not (.tst (.call is_ (.cons (.call sz (.cons (.var 0) .nil)) (.cons (.var 1) .nil))))) [.v (.d g), .v (.d t)]).bind _).bind _).bind _ = _
  rw [a2]
  show (((dE cf (.call sp (.cons (.var 0) (.cons (.var 1) .nil))) [.v (.d g), .v (.d t)]).bind _).bind _).bind _ = _
  rw [a3]
  rfl
end
/-! ### lists -/
theorem get_mem {y : D} : ∀ {l : List D}, y ∈ l → ∃ i, i < l.length ∧ y = getL l i
  | [], h => nomatch h
  | x :: r, h => by
    rcases List.mem_cons.mp h with e | h
    · exact ⟨0, Nat.zero_lt_succ _, e⟩
    · obtain ⟨i, h1, h2⟩ := get_mem h
      exact ⟨i + 1, Nat.succ_lt_succ h1, h2⟩
theorem mem_get : ∀ {l : List D} {i : Nat}, i < l.length → getL l i ∈ l
  | [], _, h => absurd h (Nat.not_lt_zero _)
  | x :: r, 0, _ => List.mem_cons_self ..
  | x :: r, i + 1, h => List.mem_cons_of_mem _ (mem_get (l := r) (Nat.lt_of_succ_lt_succ h))
def getM : List (List Nat) → Nat → List Nat
  | [], _ => []
  | x :: _, 0 => x
  | _ :: r, i + 1 => getM r i
theorem getL_gM : ∀ {ms : List (List Nat)} {i : Nat}, i < ms.length → getL (ms.map gM) i = gM (getM ms i)
  | [], _, h => absurd h (Nat.not_lt_zero _)
  | x :: r, 0, _ => rfl
  | x :: r, i + 1, h => getL_gM (ms := r) (Nat.lt_of_succ_lt_succ h)
/-- good masks -/
def masksB : List Nat → Bool
  | [] => true
  | a :: r => match Nat.blt 0 a && Nat.blt a 64 with | true => masksB r | false => false
theorem masks_use {a : Nat} : ∀ {l : List Nat}, masksB l = true → a ∈ l → isM a
  | b :: r, h, ha => by
    have h : (match Nat.blt 0 b && Nat.blt b 64 with | true => masksB r | false => false) = true := h
    cases z : Nat.blt 0 b && Nat.blt b 64 with
    | false => rw [z] at h; cases h
    | true =>
      rw [z] at h
      rcases List.mem_cons.mp ha with e | ha
      · obtain ⟨z1, z2⟩ := and2 z
        rw [nblt] at z1 z2
        rw [e]
        exact ⟨of_decide_eq_true z1, of_decide_eq_true z2⟩
      · exact masks_use h ha
def goodM (l : List Nat) : Bool := match l with
  | [] => false
  | a :: r => match Nat.ble r.length 5 with | true => masksB (a :: r) | false => false
theorem goodM_use {l : List Nat} (h : goodM l = true) : l ≠ [] ∧ l.length ≤ 6 ∧ ∀ a, a ∈ l → isM a := by
  cases l with
  | nil => cases h
  | cons a r =>
    have h : (match Nat.ble r.length 5 with | true => masksB (a :: r) | false => false) = true := h
    cases z : Nat.ble r.length 5 with
    | false => rw [z] at h; cases h
    | true =>
      rw [z] at h
      have := Nat.le_of_ble_eq_true z
      exact ⟨fun e => (nomatch e), Nat.succ_le_succ this, fun b hb => masks_use h hb⟩
def goodMs : List (List Nat) → Bool
  | [] => true
  | l :: r => match goodM l with | true => goodMs r | false => false
theorem goodMs_use : ∀ {ms : List (List Nat)}, goodMs ms = true → ∀ i, i < ms.length → goodM (getM ms i) = true
  | [], _, i, h => absurd h (Nat.not_lt_zero _)
  | l :: r, h, i, hi => by
    have h : (match goodM l with | true => goodMs r | false => false) = true := h
    cases z : goodM l with
    | false => rw [z] at h; cases h
    | true =>
      rw [z] at h
      cases i with
      | zero => exact z
      | succ i => exact goodMs_use h i (Nat.lt_of_succ_lt_succ hi)
/-! ### packed tables -/
theorem dig_mod : ∀ (n j A : Nat), j < n → dig (A % 256 ^ n) j = dig A j
  | 0, _, _, h => absurd h (Nat.not_lt_zero _)
  | n + 1, 0, A, _ => by rw [dig_zero, dig_zero, Nat.pow_succ, Nat.mul_comm, Nat.mod_mul_right_mod]
  | n + 1, j + 1, A, h => by
    rw [dig_succ, dig_succ, Nat.pow_succ, Nat.mul_comm, Nat.mod_mul_right_div_self]
    exact dig_mod n j (A / 256) (by omega)
theorem dig_shift (A k j : Nat) : dig (A >>> (8 * k)) j = dig A (k + j) := by
  show ((A >>> (8 * k)) >>> (8 * j)) % 256 = (A >>> (8 * (k + j))) % 256
  rw [Nat.mul_add, Nat.shiftRight_add]
/-- the cell of row i, place j; the row -/
def dd (n A i j : Nat) : Nat := dig A (Nat.add (Nat.mul n i) j)
def rowN (n A i : Nat) : Nat := Nat.mod (Nat.shiftRight A (Nat.mul 8 (Nat.mul n i))) (Nat.pow 256 n)
theorem row_dig {n A i j : Nat} (h : j < n) : dig (rowN n A i) j = dd n A i j := by
  show dig ((A >>> (8 * (n * i))) % 256 ^ n) j = dig A (n * i + j)
  rw [dig_mod _ _ _ h, dig_shift]
/-- what is told of all pairs -/
structure Tb (n m s : Nat) (D N : Nat → Nat → Nat) (xs : Nat → List Nat) : Prop where
  sb : ∀ i, i < n → ∀ j, j < n → shr (xs i) (xs j) ≤ s ∧ 2 * (s - shr (xs i) (xs j)) + (xs i).length = D i j + (xs j).length
  d7 : ∀ i, i < n → ∀ j, j < n → D i j ≤ 7
  dg : ∀ i, i < n → D i i = 0
  fs : ∀ i, i < n → ∀ j, j < n → i ≠ j → ∃ t, t < m ∧ D (N i t) j < D i j
  nl : ∀ i, i < n → ∀ t, t < m → N i t < n ∧ D i (N i t) ≤ 1
  n1 : ∀ i, i < n → ∀ t, t < m → ∀ j, j < n → D i j ≤ D (N i t) j + 1
  tr : ∀ i, i < n → ∀ k, k < n → ∀ j, j < n → D i j ≤ D i k + D k j
def cellB (n m s DT NT FT i j sh la lb : Nat) : Bool := Nat.beq (Nat.add (Nat.mul 2 (Nat.sub s sh)) la) (Nat.add (dd n DT i j) lb) && (Nat.ble sh s && (Nat.ble (dd n DT i j) 7 && (match Nat.beq i j with
  | true => Nat.beq (dd n DT i j) 0
  | false => Nat.blt (dd n FT i j) m && Nat.blt (dd n DT (dd m NT i (dd n FT i j)) j) (dd n DT i j))))
def cellsB (n m s DT NT FT i : Nat) (xs : List Nat) : Nat → List (List Nat) → Bool
  | _, [] => true
  | j, ys :: r => match cellB n m s DT NT FT i j (shr xs ys) xs.length ys.length with
    | true => cellsB n m s DT NT FT i xs (Nat.succ j) r
    | false => false
def stepRow (n m DT NT ones hi i : Nat) : Bool := allB m fun t => Nat.blt (dd m NT i t) n && (Nat.ble (dd n DT i (dd m NT i t)) 1 && triB (rowN n DT i) (rowN n DT (dd m NT i t)) 1 ones hi)
def triRow (n DT ones hi i : Nat) : Bool := allB n fun k => triB (rowN n DT i) (rowN n DT k) (dd n DT i k) ones hi
def rowB (n m s DT NT FT ones hi i : Nat) (xs : List Nat) (ms : List (List Nat)) : Bool := cellsB n m s DT NT FT i xs 0 ms && (stepRow n m DT NT ones hi i && triRow n DT ones hi i)
def onesB (n ones hi : Nat) : Bool := (allB n fun j => Nat.testBit hi (Nat.add (Nat.mul 8 j) 7)) && allB 8 fun c => allB n fun j => Nat.beq (dig (Nat.mul c ones) j) c
theorem cellsB_use {n m s DT NT FT i : Nat} {xs : List Nat} : ∀ {ms : List (List Nat)} {k : Nat}, cellsB n m s DT NT FT i xs k ms = true → ∀ j, j < ms.length → cellB n m s DT NT FT i (k + j) (shr xs (getM ms j)) xs.length (getM ms j).length = true
  | [], _, _, j, h => absurd h (Nat.not_lt_zero _)
  | ys :: r, k, h, j, hj => by
    have h : (match cellB n m s DT NT FT i k (shr xs ys) xs.length ys.length with | true => cellsB n m s DT NT FT i xs (Nat.succ k) r | false => false) = true := h
    cases z : cellB n m s DT NT FT i k (shr xs ys) xs.length ys.length with
    | false => rw [z] at h; cases h
    | true =>
      rw [z] at h
      cases j with
      | zero => exact z
      | succ j =>
        have q := cellsB_use h j (Nat.lt_of_succ_lt_succ hj)
        rw [show k + (j + 1) = Nat.succ k + j from by omega]
        exact q
theorem tb_of {n m s DT NT FT ones hi : Nat} {ms : List (List Nat)} (e1 : ms.length = n) (ho : onesB n ones hi = true) (h : ∀ i, i < n → rowB n m s DT NT FT ones hi i (getM ms i) ms = true) : Tb n m s (dd n DT) (dd m NT) (getM ms) := by
  obtain ⟨o1, o2⟩ := and2 ho
  have hb : ∀ j, j < n → Nat.testBit hi (8 * j + 7) = true := fun j hj => allB_use o1 j hj
  have hc : ∀ c, c < 8 → ∀ j, j < n → dig (c * ones) j = c := fun c hc j hj => Nat.eq_of_beq_eq_true (allB_use (allB_use o2 c hc) j hj)
  have cell : ∀ i, i < n → ∀ j, j < n → cellB n m s DT NT FT i j (shr (getM ms i) (getM ms j)) (getM ms i).length (getM ms j).length = true := fun i hi j hj => by
    have q := cellsB_use (and2 (h i hi)).1 j (by omega)
    rw [Nat.zero_add] at q
    exact q
  have d7 : ∀ i, i < n → ∀ j, j < n → dd n DT i j ≤ 7 := fun i hi j hj => Nat.le_of_ble_eq_true (and2 (and2 (and2 (cell i hi j hj)).2).2).1
  have r128 : ∀ i, i < n → ∀ j, j < n → dig (rowN n DT i) j < 128 := fun i hi j hj => by
    rw [row_dig hj]
    have := d7 i hi j hj
    omega
  have tri : ∀ i, i < n → ∀ k, k < n → ∀ c, c < 8 → triB (rowN n DT i) (rowN n DT k) c ones hi = true → ∀ j, j < n → dd n DT i j ≤ dd n DT k j + c := fun i hi k hk c hc' q j hj => by
    have z := tri_use q hb (r128 i hi) (r128 k hk) (hc c hc') (by omega) j hj
    rw [row_dig hj, row_dig hj] at z
    exact z
  have nl : ∀ i, i < n → ∀ t, t < m → dd m NT i t < n ∧ dd n DT i (dd m NT i t) ≤ 1 ∧ triB (rowN n DT i) (rowN n DT (dd m NT i t)) 1 ones hi = true := fun i hi t ht => by
    have q := allB_use (and2 (and2 (h i hi)).2).1 t ht
    obtain ⟨q1, q⟩ := and2 q
    obtain ⟨q2, q3⟩ := and2 q
    rw [nblt] at q1
    exact ⟨of_decide_eq_true q1, Nat.le_of_ble_eq_true q2, q3⟩
  refine ⟨fun i hi j hj => ?_, d7, fun i hi => ?_, fun i hi j hj hne => ?_, fun i hi t ht => ⟨(nl i hi t ht).1, (nl i hi t ht).2.1⟩, fun i hi t ht j hj => tri i hi _ (nl i hi t ht).1 1 (by omega) (nl i hi t ht).2.2 j hj, fun i hi k hk j hj => ?_⟩
  · obtain ⟨q1, q⟩ := and2 (cell i hi j hj)
    obtain ⟨q2, q⟩ := and2 q
    exact ⟨Nat.le_of_ble_eq_true q2, Nat.eq_of_beq_eq_true q1⟩
  · have q := (and2 (and2 (and2 (cell i hi i hi)).2).2).2
    rw [show Nat.beq i i = true from by rw [nbeq]; exact decide_eq_true rfl] at q
    exact Nat.eq_of_beq_eq_true q
  · have q := (and2 (and2 (and2 (cell i hi j hj)).2).2).2
    rw [show Nat.beq i j = false from by rw [nbeq]; exact decide_eq_false hne] at q
    obtain ⟨q1, q2⟩ := and2 q
    rw [nblt] at q1 q2
    exact ⟨_, of_decide_eq_true q1, of_decide_eq_true q2⟩
  · have q := tri i hi k hk (dd n DT i k) (by have := d7 i hi k hk; omega) (allB_use (and2 (and2 (h i hi)).2).2 k hk) j hj
    omega
/-- a list told cell by cell ahead of its use -/
def forceL : List Nat → (List Nat → Bool) → Bool
  | [], k => k []
  | x :: r, k => forceL r fun l => k (x :: l)
theorem forceL_eq : ∀ (l : List Nat) (k : List Nat → Bool), forceL l k = k l
  | [], _ => rfl
  | x :: r, k => forceL_eq r fun l => k (x :: l)
def rowF (n m s DT NT FT ones hi : Nat) (ms : List (List Nat)) (i : Nat) : Bool := forceL (getM ms i) fun xs => rowB n m s DT NT FT ones hi i xs ms
theorem rowF_use {n m s DT NT FT ones hi : Nat} {ms : List (List Nat)} {i : Nat} (h : rowF n m s DT NT FT ones hi ms i = true) : rowB n m s DT NT FT ones hi i (getM ms i) ms = true := by
  unfold rowF at h
  rw [forceL_eq] at h
  exact h
/-- the first that is so -/
theorem first_of {P : D → Prop} : ∀ {l : List D} {t : D}, t ∈ l → P t → ∃ pre u post, l = pre ++ u :: post ∧ (∀ x, x ∈ pre → ¬ P x) ∧ P u
  | [], _, h, _ => nomatch h
  | x :: r, t, h, hp => by
    by_cases q : P x
    · exact ⟨[], x, r, rfl, (fun _ z => nomatch z), q⟩
    · rcases List.mem_cons.mp h with e | h
      · rw [e] at hp; exact absurd hp q
      · obtain ⟨pre, u, post, e1, e2, e3⟩ := first_of h hp
        refine ⟨x :: pre, u, post, by rw [e1]; rfl, fun y hy => ?_, e3⟩
        rcases List.mem_cons.mp hy with e | hy
        · rw [e]; exact q
        · exact e2 y hy
/-! ### equal or not, within -/
theorem ne_false {x : D} (h : okB x = true) : cmpV .ne (.d x) (.d x) = .ok false := ne_okB h
theorem eq_true' {x : D} (h : okB x = true) : cmpV .eq (.d x) (.d x) = .ok true := by
  obtain ⟨h1, h2⟩ := and2 h
  show (match okD 8 x, okD 8 x with | true, true => R.ok (eqD x x) | _, _ => _) = _
  rw [h1, h2]
theorem eqD_ne {x y : D} (h : x ≠ y) : eqD x y = false := by
  cases z : eqD x y with
  | false => rfl
  | true => exact absurd (eqD_eq z) h
theorem ne_true' {x y : D} (hx : okB x = true) (hy : okB y = true) (h : x ≠ y) : cmpV .ne (.d x) (.d y) = .ok true := by
  show (match okD 8 x, okD 8 y with | true, true => R.ok (!eqD x y) | _, _ => _) = _
  rw [(and2 hx).1, (and2 hy).1, eqD_ne h]
  rfl
theorem eq_false' {x y : D} (hx : okB x = true) (hy : okB y = true) (h : x ≠ y) : cmpV .eq (.d x) (.d y) = .ok false := by
  show (match okD 8 x, okD 8 y with | true, true => R.ok (eqD x y) | _, _ => _) = _
  rw [(and2 hx).1, (and2 hy).1, eqD_ne h]
theorem okDs_of : ∀ {l : List D}, (∀ x, x ∈ l → okB x = true) → okDs 8 l = true
  | [], _ => rfl
  | x :: r, h => by
    show (match okD 8 x with | true => okDs 8 r | false => false) = true
    rw [(and2 (h x (List.mem_cons_self ..))).1]
    exact okDs_of fun y hy => h y (List.mem_cons_of_mem _ hy)
theorem any_in {x : D} (hx : eqD x x = true) : ∀ {l : List D}, x ∈ l → (l.any fun z => eqD z x) = true
  | y :: r, h => by
    rw [List.any_cons]
    rcases List.mem_cons.mp h with e | h
    · rw [← e, hx]; rfl
    · rw [any_in hx h, Bool.or_true]
theorem notin_false {x : D} {l : List D} (hx : okB x = true) (hl : ∀ y, y ∈ l → okB y = true) (h : x ∈ l) : cmpV .notin (.d x) (.d (.tuple l)) = .ok false := by
  show (match okD 8 x, okDs 8 l with | true, true => R.ok (!l.any fun z => eqD z x) | _, _ => R.stuck) = _
  rw [(and2 hx).1, okDs_of hl]
  show R.ok (!l.any fun z => eqD z x) = _
  rw [any_in (and2 hx).2 h]
  rfl
theorem pick_sub {c : D → Bool} {x : D} : ∀ {l : List D}, x ∈ pickB c l → x ∈ l
  | y :: r, h => by
    have h : x ∈ (match c y with | true => y :: pickB c r | false => pickB c r) := h
    cases z : c y with
    | true =>
      rw [z] at h
      rcases List.mem_cons.mp h with e | h
      · rw [e]; exact List.mem_cons_self ..
      · exact List.mem_cons_of_mem _ (pick_sub h)
    | false => rw [z] at h; exact List.mem_cons_of_mem _ (pick_sub h)
/-! ### lots' lengths -/
theorem lotlen : ∀ a, a < 64 → ∃ l, lotM a = .tuple l ∧ l.length = pop a := by
  intro a ha
  have h : allB 64 (fun a => match lotM a with | .tuple l => Nat.beq l.length (pop a) | _ => false) = true := by kernel_rfl
  have q := allB_use h a ha
  have q : (match lotM a with | .tuple l => Nat.beq l.length (pop a) | _ => false) = true := q
  split at q
  · rename_i l e
    exact ⟨l, e, Nat.eq_of_beq_eq_true q⟩
  · cases q
/-- the greatest lot's people -/
def mxl : List Nat → Nat
  | [] => 0
  | b :: r => nmx (pop b) (r.map pop)
theorem maxlen {cf : Nat → List Val → R RV} {v i : Nat} {own : List Nat} {e : Env} {xs : List Nat} (hx : ∀ a, a ∈ xs → isM a) (h0 : xs ≠ []) (nx : xs.length ≤ 1000)
    (hv : slotAt e v = .v (.d (gM xs))) (hi : ∀ y, slotAt (setAt (wipeE e own) i (.v (.d y))) i = .v (.d y)) : dE cf (.b1 .max (.lc own (.name i) (.iseq (.var v)) (.b1 .len (.var i)))) e = .ok (.v (.d (.int (.ofNat (mxl xs))))) := by
  have e1 : loopL (xs.map lotM) (.name i) (wipeE e own) (fun e1 => (dE cf (.b1 .len (.var i)) e1).bind fzD) = .ok (xs.map fun a => .int (.ofNat (pop a))) :=
    loopL_nat xs fun a ha => by
      obtain ⟨l, q1, q2⟩ := lotlen a (hx a ha).2
      show (((match slotAt (setAt (wipeE e own) i (.v (.d (lotM a)))) i with | .no => R.stuck | .v x => R.ok (RV.v x) | .o x => R.ok (RV.b i x)).bind fun x => b1V .len x.rd).bind fzD) = _
      rw [hi]
      show ((b1V .len (.d (lotM a))).bind fzD) = _
      rw [q1]
      show R.ok (PyData.int (.ofNat l.length)) = _
      rw [q2]
  show (((((match slotAt e v with | .no => R.stuck | .v x => R.ok (RV.v x) | .o x => R.ok (RV.b v x)).bind fun x => x.fz.bind seqV).bind fun ys => (loopL ys (.name i) (wipeE e own) (fun e1 => (dE cf (.b1 .len (.var i)) e1).bind fzD)).bind newL)).bind fun x => b1V .max x.rd) = _
  rw [hv]
  show (((loopL (xs.map lotM) (.name i) (wipeE e own) (fun e1 => (dE cf (.b1 .len (.var i)) e1).bind fzD)).bind newL).bind fun x => b1V .max x.rd) = _
  rw [e1]
  show ((newL (xs.map fun a => PyData.int (.ofNat (pop a)))).bind fun x => b1V .max x.rd) = _
  rw [newL_few (by rw [List.length_map]; exact nx)]
  show (match ints? (xs.map fun a => PyData.int (.ofNat (pop a))) with | some (i :: r) => R.ok (RV.v (.d (.int (imax i r)))) | _ => R.stuck) = _
  have e2 := ints_nat (xs.map pop)
  rw [List.map_map] at e2
  rw [show (xs.map fun a => PyData.int (.ofNat (pop a))) = xs.map ((fun n => PyData.int (.ofNat n)) ∘ pop) from rfl, e2]
  cases xs with
  | nil => exact absurd rfl h0
  | cons b r =>
    show R.ok (RV.v (.d (.int (imax (.ofNat (pop b)) ((r.map pop).map .ofNat))))) = _
    rw [imax_nat]
    rfl
/-! ### ints compared; tests -/
theorem cmpNe {a b : Int} (h : a = b) : cmpV .ne (.d (.int a)) (.d (.int b)) = .ok false := by
  show R.ok (!iEq a b) = _
  rw [iEq_iff, decide_eq_true h]
  rfl
theorem cmpGt {a b : Int} (h : a ≤ b) : cmpV .gt (.d (.int a)) (.d (.int b)) = .ok false := by
  show R.ok (iLt b a) = _
  rw [iLt_iff, decide_eq_false (by omega)]
theorem cmpLe {a b : Int} (h : a ≤ b) : cmpV .le (.d (.int a)) (.d (.int b)) = .ok true := by
  show R.ok (iLe a b) = _
  rw [iLe_iff, decide_eq_true h]
theorem mul2 {a : Nat} (h : a ≤ 1000) : binV .mul (.d (.int 2)) (.d (.int (.ofNat a))) = .ok (.v (.d (.int (2 * Int.ofNat a)))) := by
  have hb : (1000 : Nat) < big := by decide +kernel
  have h2 : (2 : Nat) < big := by decide +kernel
  show (match Nat.blt 2 big, Nat.blt a big with | true, true => R.ok (RV.v (.d (.int (2 * Int.ofNat a)))) | _, _ => R.stuck) = _
  rw [nblt, nblt, decide_eq_true h2, decide_eq_true (by omega)]
theorem orF {cf : Nat → List Val → R RV} {a b : Ex} {e : Env} (h1 : dT cf a e = .ok false) (h2 : dT cf b e = .ok false) : dT cf (.or a b) e = .ok false := by
  show (dT cf a e).bind _ = _
  rw [h1]
  exact h2
theorem andE {cf : Nat → List Val → R RV} {a b : Ex} {e : Env} {r : R RV} (h1 : dE cf a e = .ok (.v (.d (.bool true)))) (h2 : dE cf b e = r) : dE cf (.and a b) e = r := by
  show (dE cf a e).bind _ = _
  rw [h1]
  exact h2
/-- a test that does not hold: on -/
theorem ifs_on {cf : Nat → List Val → R RV} {c a r : Ex} {e : Env} (h : dT cf c e = .ok false) (k : AnsT cf r e) : AnsT cf (.scons (.ifS c a .snil) r) e := by
  refine ⟨?_⟩
  show (((dT cf c e).bind _).bind _).Post _
  rw [h]
  exact k.out
theorem frz_on {cf : Nat → List Val → R RV} {is : List Nat} {r : Ex} {e : Env} (h : freeze e is = e) (k : AnsT cf r e) : AnsT cf (.frz is r) e := by
  refine ⟨?_⟩
  show (dS cf r (freeze e is)).Post _
  rw [h]
  exact k.out
theorem seq_on {cf : Nat → List Val → R RV} {a r : Ex} {e e1 : Env} (h : dS cf a e = .ok (.nx e1)) (k : AnsT cf r e1) : AnsT cf (.scons a r) e := by
  refine ⟨?_⟩
  show ((dS cf a e).bind _).Post _
  rw [h]
  exact k.out
end Ev

/-! Told pairs: the groupings that fit, told by who is together. -/
namespace Ev
open PySem
/-- who is together, who is not -/
def fitB (tog : D → D → Bool) (J A : List D) (g : D) : Bool := allB' (fun p => tog g p) J && !anyB' (fun p => tog g p) A
theorem allB'_iff {c : D → Bool} : ∀ {l : List D}, allB' c l = true ↔ ∀ x, x ∈ l → c x = true
  | [] => ⟨fun _ _ h => (nomatch h), fun _ => rfl⟩
  | y :: r => by
    show (match c y with | true => allB' c r | false => false) = true ↔ _
    cases z : c y with
    | true =>
      show allB' c r = true ↔ _
      rw [allB'_iff (l := r)]
      refine ⟨fun h x hx => ?_, fun h x hx => h x (List.mem_cons_of_mem _ hx)⟩
      rcases List.mem_cons.mp hx with e | hx
      · rw [e]; exact z
      · exact h x hx
    | false => exact ⟨fun h => (nomatch h), fun h => by rw [h y (List.mem_cons_self ..)] at z; cases z⟩
theorem anyB'_iff {c : D → Bool} : ∀ {l : List D}, anyB' c l = true ↔ ∃ x, x ∈ l ∧ c x = true
  | [] => ⟨fun h => (nomatch h), fun ⟨_, h, _⟩ => (nomatch h)⟩
  | y :: r => by
    show (match c y with | true => true | false => anyB' c r) = true ↔ _
    cases z : c y with
    | true => exact ⟨fun _ => ⟨y, List.mem_cons_self .., z⟩, fun _ => rfl⟩
    | false =>
      show anyB' c r = true ↔ _
      rw [anyB'_iff (l := r)]
      refine ⟨fun ⟨x, h1, h2⟩ => ⟨x, List.mem_cons_of_mem _ h1, h2⟩, fun ⟨x, h1, h2⟩ => ?_⟩
      rcases List.mem_cons.mp h1 with e | h1
      · rw [e, z] at h2; cases h2
      · exact ⟨x, h1, h2⟩
theorem fit_iff {tog : D → D → Bool} {J A : List D} {g : D} : fitB tog J A g = true ↔ (∀ p, p ∈ J → tog g p = true) ∧ ∀ p, p ∈ A → tog g p = false := by
  unfold fitB
  rw [Bool.and_eq_true, allB'_iff, Bool.not_eq_true']
  refine and_congr_right fun _ => ⟨fun h p hp => ?_, fun h => ?_⟩
  · cases z : tog g p with
    | false => rfl
    | true =>
      have q := (anyB'_iff (c := fun p => tog g p) (l := A)).mpr ⟨p, hp, z⟩
      rw [h] at q; cases q
  · cases z : anyB' (fun p => tog g p) A with
    | false => rfl
    | true =>
      obtain ⟨p, h1, h2⟩ := anyB'_iff.mp z
      rw [h p h1] at h2; cases h2
theorem pick_iff {c : D → Bool} {x : D} : ∀ {l : List D}, x ∈ pickB c l ↔ x ∈ l ∧ c x = true
  | [] => ⟨fun h => (nomatch h), fun h => (nomatch h.1)⟩
  | y :: r => by
    refine ⟨fun h => ?_, fun h => pick_mem h.2 h.1⟩
    refine ⟨pick_sub h, ?_⟩
    have h : x ∈ (match c y with | true => y :: pickB c r | false => pickB c r) := h
    cases z : c y with
    | true =>
      rw [z] at h
      rcases List.mem_cons.mp h with e | h
      · rw [e]; exact z
      · exact ((pick_iff (l := r)).mp h).2
    | false => rw [z] at h; exact ((pick_iff (l := r)).mp h).2
theorem pick_sublist {c : D → Bool} : ∀ (l : List D), List.Sublist (pickB c l) l
  | [] => .slnil
  | y :: r => by
    show List.Sublist (match c y with | true => y :: pickB c r | false => pickB c r) (y :: r)
    cases c y with
    | true => exact (pick_sublist r).cons₂ y
    | false => exact (pick_sublist r).cons y
theorem pick_congr {c d : D → Bool} : ∀ {l : List D}, (∀ x, x ∈ l → c x = d x) → pickB c l = pickB d l
  | [], _ => rfl
  | y :: r, h => by
    show (match c y with | true => y :: pickB c r | false => pickB c r) = (match d y with | true => y :: pickB d r | false => pickB d r)
    rw [h y (List.mem_cons_self ..), pick_congr fun x hx => h x (List.mem_cons_of_mem _ hx)]
theorem pick_le {c d : D → Bool} : ∀ {l : List D}, (∀ x, x ∈ l → c x = true → d x = true) → (pickB c l).length ≤ (pickB d l).length
  | [], _ => Nat.le_refl _
  | y :: r, h => by
    have ih := pick_le fun x hx => h x (List.mem_cons_of_mem _ hx)
    show (match c y with | true => y :: pickB c r | false => pickB c r).length ≤ (match d y with | true => y :: pickB d r | false => pickB d r).length
    cases z : c y with
    | true => rw [h y (List.mem_cons_self ..) z]; exact Nat.succ_le_succ ih
    | false =>
      cases d y with
      | true => exact Nat.le_succ_of_le ih
      | false => exact ih
section
variable {cf : Nat → List Val → R RV} {tog : D → D → Bool} {gl pl : List D}
def fitIf (tg : Nat) : Ex := (.scons (.ifS (.and (.tst (.gx .all [4] (.name 4) (.iseq (.ix (.var 1) (.int 0))) (.call tg (.cons (.var 3) (.cons (.var 4) .nil))))) (.not (.tst (.gx .any [4] (.name 4) (.iseq (.ix (.var 1) (.int 1))) (.call tg (.cons (.var 3) (.cons (.var 4) .nil))))))) (.scons (.app 2 (.var 3)) .snil) .snil) .snil)
def fitDef (ag tg : Nat) : Def := ⟨2, 5, (.scons (.asg (.name 2) (.lst .nil)) (.scons (.forS (.name 3) (.iseq (.call ag (.cons (.var 0) .nil))) (fitIf tg)) (.scons (.ret (.var 2)) .snil))), false⟩
theorem fit_turn {tg : Nat} (ht : ∀ g, g ∈ gl → ∀ p, p ∈ pl → cf tg [.d g, .d p] = .ok (.v (.d (.bool (tog g p))))) {S : Slot} {J A : List D} (hJ : ∀ p, p ∈ J → p ∈ pl) (hA : ∀ p, p ∈ A → p ∈ pl) {g : D} (hg : g ∈ gl) {acc : List D} (hn : acc.length ≤ 1000) :
    dS cf (fitIf tg) [S, .v (.d (.tuple [.tuple J, .tuple A])), .o (.d (.list acc)), .v (.d g), .no] = .ok (.nx [S, .v (.d (.tuple [.tuple J, .tuple A])), .o (.d (.list (match fitB tog J A g with | true => acc ++ [g] | false => acc))), .v (.d g), .no]) := by
  have e1 : loopAll J (.name 4) [S, .v (.d (.tuple [.tuple J, .tuple A])), .o (.d (.list acc)), .v (.d g), .no] (fun e1 => (dE cf (.call tg (.cons (.var 3) (.cons (.var 4) .nil))) e1).bind fun x => truV x.rd) = .ok (allB' (fun p => tog g p) J) :=
    loopAll_all J fun p hp => by
      show ((cf tg [.d g, .d p]).bind fun x => truV x.rd) = _
      rw [ht g hg p (hJ p hp)]
      rfl
  have e2 : loopAny A (.name 4) [S, .v (.d (.tuple [.tuple J, .tuple A])), .o (.d (.list acc)), .v (.d g), .no] (fun e1 => (dE cf (.call tg (.cons (.var 3) (.cons (.var 4) .nil))) e1).bind fun x => truV x.rd) = .ok (anyB' (fun p => tog g p) A) :=
    loopAny_any A fun p hp => by
      show ((cf tg [.d g, .d p]).bind fun x => truV x.rd) = _
      rw [ht g hg p (hA p hp)]
      rfl
  have c1 : dT cf (.tst (.gx .all [4] (.name 4) (.iseq (.ix (.var 1) (.int 0))) (.call tg (.cons (.var 3) (.cons (.var 4) .nil))))) [S, .v (.d (.tuple [.tuple J, .tuple A])), .o (.d (.list acc)), .v (.d g), .no] = .ok (allB' (fun p => tog g p) J) := by
    show (((loopAll J (.name 4) [S, .v (.d (.tuple [.tuple J, .tuple A])), .o (.d (.list acc)), .v (.d g), .no] (fun e1 => (dE cf (.call tg (.cons (.var 3) (.cons (.var 4) .nil))) e1).bind fun x => truV x.rd)).bind boolV).bind fun x => truV x.rd) = _
    rw [e1]
    rfl
  have c2 : dT cf (.tst (.gx .any [4] (.name 4) (.iseq (.ix (.var 1) (.int 1))) (.call tg (.cons (.var 3) (.cons (.var 4) .nil))))) [S, .v (.d (.tuple [.tuple J, .tuple A])), .o (.d (.list acc)), .v (.d g), .no] = .ok (anyB' (fun p => tog g p) A) := by
    show (((loopAny A (.name 4) [S, .v (.d (.tuple [.tuple J, .tuple A])), .o (.d (.list acc)), .v (.d g), .no] (fun e1 => (dE cf (.call tg (.cons (.var 3) (.cons (.var 4) .nil))) e1).bind fun x => truV x.rd)).bind boolV).bind fun x => truV x.rd) = _
    rw [e2]
    rfl
  have c3 : dT cf (.and (.tst (.gx .all [4] (.name 4) (.iseq (.ix (.var 1) (.int 0))) (.call tg (.cons (.var 3) (.cons (.var 4) .nil))))) (.not (.tst (.gx .any [4] (.name 4) (.iseq (.ix (.var 1) (.int 1))) (.call tg (.cons (.var 3) (.cons (.var 4) .nil))))))) [S, .v (.d (.tuple [.tuple J, .tuple A])), .o (.d (.list acc)), .v (.d g), .no] = .ok (fitB tog J A g) := by
    show (((dT cf (.tst (.gx .all [4] (.name 4) (.iseq (.ix (.var 1) (.int 0))) (.call tg (.cons (.var 3) (.cons (.var 4) .nil))))) [S, .v (.d (.tuple [.tuple J, .tuple A])), .o (.d (.list acc)), .v (.d g), .no]).bind fun k => match k with
      | true => ((dT cf (.tst (.gx .any [4] (.name 4) (.iseq (.ix (.var 1) (.int 1))) (.call tg (.cons (.var 3) (.cons (.var 4) .nil))))) [S, .v (.d (.tuple [.tuple J, .tuple A])), .o (.d (.list acc)), .v (.d g), .no]).bind fun b => R.ok (!b))
      | false => R.ok false)) = _
    rw [c1, c2]
    unfold fitB
    cases allB' (fun p => tog g p) J with
    | true => rfl
    | false => rfl
  show (((dT cf (.and (.tst (.gx .all [4] (.name 4) (.iseq (.ix (.var 1) (.int 0))) (.call tg (.cons (.var 3) (.cons (.var 4) .nil))))) (.not (.tst (.gx .any [4] (.name 4) (.iseq (.ix (.var 1) (.int 1))) (.call tg (.cons (.var 3) (.cons (.var 4) .nil))))))) [S, .v (.d (.tuple [.tuple J, .tuple A])), .o (.d (.list acc)), .v (.d g), .no]).bind _).bind _) = _
  rw [c3]
  cases fitB tog J A g with
  | true =>
    show ((((match few acc lim with | true => R.ok (Out.nx [S, .v (.d (.tuple [.tuple J, .tuple A])), .o (.d (.list (acc ++ [g]))), .v (.d g), .no]) | false => R.stuck).bind _).bind _)) = _
    rw [few_of (by unfold lim; omega)]
    rfl
  | false => rfl
theorem fit_loop {tg : Nat} (ht : ∀ g, g ∈ gl → ∀ p, p ∈ pl → cf tg [.d g, .d p] = .ok (.v (.d (.bool (tog g p))))) {S : Slot} {J A : List D} (hJ : ∀ p, p ∈ J → p ∈ pl) (hA : ∀ p, p ∈ A → p ∈ pl) : ∀ (L acc : List D) (s : Slot), (∀ g, g ∈ L → g ∈ gl) → acc.length + L.length ≤ 1000 →
    ∃ s', loopFor L (.name 3) (fun e => dS cf (fitIf tg) e) [S, .v (.d (.tuple [.tuple J, .tuple A])), .o (.d (.list acc)), s, .no] = .ok (.nx [S, .v (.d (.tuple [.tuple J, .tuple A])), .o (.d (.list (acc ++ pickB (fitB tog J A) L))), s', .no])
  | [], acc, s, _, _ => ⟨s, by rw [show pickB (fitB tog J A) [] = [] from rfl, List.append_nil]; rfl⟩
  | g :: r, acc, s, hL, hn => by
    have hn : acc.length + (r.length + 1) ≤ 1000 := hn
    obtain ⟨s', ih⟩ := fit_loop ht (S := S) hJ hA r (match fitB tog J A g with | true => acc ++ [g] | false => acc) (.v (.d g)) (fun x hx => hL x (List.mem_cons_of_mem _ hx)) (by
      cases fitB tog J A g with
      | true => simp only [List.length_append, List.length_cons, List.length_nil]; omega
      | false => show acc.length + r.length ≤ 1000; omega)
    refine ⟨s', ?_⟩
    show ((dS cf (fitIf tg) [S, .v (.d (.tuple [.tuple J, .tuple A])), .o (.d (.list acc)), .v (.d g), .no]).bind _) = _
    rw [fit_turn ht hJ hA (hL g (List.mem_cons_self ..)) (by omega)]
    show loopFor r (.name 3) (fun e => dS cf (fitIf tg) e) [S, .v (.d (.tuple [.tuple J, .tuple A])), .o (.d (.list (match fitB tog J A g with | true => acc ++ [g] | false => acc))), .v (.d g), .no] = _
    rw [ih]
    show R.ok (Out.nx [S, .v (.d (.tuple [.tuple J, .tuple A])), .o (.d (.list ((match fitB tog J A g with | true => acc ++ [g] | false => acc) ++ pickB (fitB tog J A) r))), s', .no]) = R.ok (Out.nx [S, .v (.d (.tuple [.tuple J, .tuple A])), .o (.d (.list (acc ++ (match fitB tog J A g with | true => g :: pickB (fitB tog J A) r | false => pickB (fitB tog J A) r)))), s', .no])
    cases fitB tog J A g with
    | true => rw [List.append_assoc]; rfl
    | false => rfl
theorem fit_run {ag tg : Nat} {s : Int} (ht : ∀ g, g ∈ gl → ∀ p, p ∈ pl → cf tg [.d g, .d p] = .ok (.v (.d (.bool (tog g p))))) (ha : cf ag [.d (.int s)] = .ok (.o (.d (.list gl)))) (hn : gl.length ≤ 1000) {J A : List D} (hJ : ∀ p, p ∈ J → p ∈ pl) (hA : ∀ p, p ∈ A → p ∈ pl) :
    runDef cf (fitDef ag tg) [.d (.int s), .d (.tuple [.tuple J, .tuple A])] = .ok (.o (.d (.list (pickB (fitB tog J A) gl)))) := by
  obtain ⟨s', e⟩ := fit_loop ht (S := .v (.d (.int s))) hJ hA gl [] .no (fun _ h => h) (by rw [List.length_nil]; omega)
  show (((((cf ag [.d (.int s)]).bind fun x => x.fz.bind seqV).bind fun xs => loopFor xs (.name 3) (fun e => dS cf (fitIf tg) e) [.v (.d (.int s)), .v (.d (.tuple [.tuple J, .tuple A])), .o (.d (.list [])), .no, .no]).bind _).bind _) = _
  rw [ha]
  show (((loopFor gl (.name 3) (fun e => dS cf (fitIf tg) e) [.v (.d (.int s)), .v (.d (.tuple [.tuple J, .tuple A])), .o (.d (.list [])), .no, .no]).bind _).bind _) = _
  rw [e, List.nil_append]
  rfl
/-! ### are_pairs, need_told -/
def arpDef (iz : Nat) : Def := ⟨2, 4, (.scons (.ifS (.or (.not (.tst (.isI (.var 1) .tuple))) (.not (.tst (.gx .all [2] (.name 2) (.iseq (.var 1)) (.and (.call iz (.cons (.var 0) (.cons (.var 2) .nil))) (.cmp .eq (.b1 .len (.var 2)) (.int 2))))))) (.scons (.ret (.bl false)) .snil) .snil) (.scons (.ret (.gx .all [3] (.name 3) (.irng1 (.bin .sub (.b1 .len (.var 1)) (.int 1))) (.cmp .lt (.ix (.var 1) (.var 3)) (.ix (.var 1) (.bin .add (.var 3) (.int 1)))))) .snil)), false⟩
def ltC : Ex := (.cmp .lt (.ix (.var 1) (.var 3)) (.ix (.var 1) (.bin .add (.var 3) (.int 1))))
/-- one less than the next -/
abbrev Asc (l : List D) : Prop := l.Pairwise fun p q => cmpV .lt (.d p) (.d q) = .ok true
theorem asc_nth : ∀ {l : List D} {k : Nat}, Asc l → k + 1 < l.length → ∃ x y, nth l k = .ok x ∧ nth l (k + 1) = .ok y ∧ cmpV .lt (.d x) (.d y) = .ok true
  | [], _, _, h => absurd h (Nat.not_lt_zero _)
  | [a], _, _, h => by simp at h
  | a :: b :: r, 0, h, _ => ⟨a, b, rfl, rfl, (List.pairwise_cons.mp h).1 b (List.mem_cons_self ..)⟩
  | a :: b :: r, k + 1, h, hk => by
    obtain ⟨x, y, e1, e2, e3⟩ := asc_nth (l := b :: r) (k := k) (List.pairwise_cons.mp h).2 (Nat.lt_of_succ_lt_succ hk)
    exact ⟨x, y, e1, e2, e3⟩
theorem asc_loop {S S2 : Slot} {L : List D} (h : Asc L) : ∀ (n k : Nat), k + n + 1 ≤ L.length → loopAll (rngFrom (.ofNat k) n) (.name 3) [S, .v (.d (.tuple L)), S2, .no] (fun e1 => (dE cf ltC e1).bind fun x => truV x.rd) = .ok true
  | 0, _, _ => rfl
  | n + 1, k, hk => by
    obtain ⟨x, y, e1, e2, e3⟩ := asc_nth (k := k) h (by omega)
    have i1 : ixV (.d (.tuple L)) (.d (.int (.ofNat k))) = .ok (.v (.d x)) := by
      show (match pyIx L.length (.ofNat k) with | some k => (nth L k).bind fun x => R.ok (RV.v (.d x)) | none => R.stuck) = _
      rw [pyIx_of (by omega)]
      show (nth L k).bind _ = _
      rw [e1]
      rfl
    have i2 : ixV (.d (.tuple L)) (.d (.int (Int.ofNat k + 1))) = .ok (.v (.d y)) := by
      show (match pyIx L.length (.ofNat (k + 1)) with | some k => (nth L k).bind fun x => R.ok (RV.v (.d x)) | none => R.stuck) = _
      rw [pyIx_of (by omega)]
      show (nth L (k + 1)).bind _ = _
      rw [e2]
      rfl
    show ((((ixV (.d (.tuple L)) (.d (.int (.ofNat k)))).bind fun x => (ixV (.d (.tuple L)) (.d (.int (Int.ofNat k + 1)))).bind fun y => (cmpV .lt x.rd y.rd).bind boolV).bind fun x => truV x.rd).bind _) = _
    rw [i1, i2]
    show ((((cmpV .lt (.d x) (.d y)).bind boolV).bind fun x => truV x.rd).bind _) = _
    rw [e3]
    exact asc_loop h n (k + 1) (by omega)
theorem arp_run {iz : Nat} {s : Int} {L : List D} (hz : ∀ p, p ∈ L → cf iz [.d (.int s), .d p] = .ok (.v (.d (.bool true))) ∧ ∃ a b, p = .tuple [a, b]) (ha : Asc L) (hn : L.length ≤ 1000) : runDef cf (arpDef iz) [.d (.int s), .d (.tuple L)] = .ok (.v (.d (.bool true))) := by
  have e1 : loopAll L (.name 2) [.v (.d (.int s)), .v (.d (.tuple L)), .no, .no] (fun e1 => (dE cf (.and (.call iz (.cons (.var 0) (.cons (.var 2) .nil))) (.cmp .eq (.b1 .len (.var 2)) (.int 2))) e1).bind fun x => truV x.rd) = .ok true := by
    have z := loopAll_all (i := 2) (e0 := [.v (.d (.int s)), .v (.d (.tuple L)), .no, .no]) (k := fun e1 => (dE cf (.and (.call iz (.cons (.var 0) (.cons (.var 2) .nil))) (.cmp .eq (.b1 .len (.var 2)) (.int 2))) e1).bind fun x => truV x.rd) (c := fun _ => true) L fun p hp => by
      obtain ⟨h1, a, b, h2⟩ := hz p hp
      show ((dE cf (.and (.call iz (.cons (.var 0) (.cons (.var 2) .nil))) (.cmp .eq (.b1 .len (.var 2)) (.int 2))) [.v (.d (.int s)), .v (.d (.tuple L)), .v (.d p), .no]).bind fun x => truV x.rd) = _
      have h1' : dE cf (.call iz (.cons (.var 0) (.cons (.var 2) .nil))) [.v (.d (.int s)), .v (.d (.tuple L)), .v (.d p), .no] = .ok (.v (.d (.bool true))) := h1
      rw [andE (r := .ok (.v (.d (.bool true)))) h1' (by subst h2; rfl)]
      rfl
    rw [z, all_true]
  have c1 : dT cf (.or (.not (.tst (.isI (.var 1) .tuple))) (.not (.tst (.gx .all [2] (.name 2) (.iseq (.var 1)) (.and (.call iz (.cons (.var 0) (.cons (.var 2) .nil))) (.cmp .eq (.b1 .len (.var 2)) (.int 2))))))) [.v (.d (.int s)), .v (.d (.tuple L)), .no, .no] = .ok false := by
    show ((((loopAll L (.name 2) [.v (.d (.int s)), .v (.d (.tuple L)), .no, .no] (fun e1 => (dE cf (.and (.call iz (.cons (.var 0) (.cons (.var 2) .nil))) (.cmp .eq (.b1 .len (.var 2)) (.int 2))) e1).bind fun x => truV x.rd)).bind boolV).bind fun x => truV x.rd).bind fun b => R.ok (!b)) = _
    rw [e1]
    rfl
  have e2 : dE cf (.gx .all [3] (.name 3) (.irng1 (.bin .sub (.b1 .len (.var 1)) (.int 1))) ltC) [.v (.d (.int s)), .v (.d (.tuple L)), .no, .no] = .ok (.v (.d (.bool true))) := by
    cases L with
    | nil => rfl
    | cons a r =>
      have hn : r.length + 1 ≤ 1000 := hn
      show ((match smallI (Int.ofNat (r.length + 1) - 1) with | true => R.ok (rngFrom 0 (natOf (Int.ofNat (r.length + 1) - 1))) | false => R.stuck).bind fun xs => (loopAll xs (.name 3) [.v (.d (.int s)), .v (.d (.tuple (a :: r))), .no, .no] (fun e1 => (dE cf ltC e1).bind fun x => truV x.rd)).bind boolV) = _
      rw [show Int.ofNat (r.length + 1) - 1 = Int.ofNat r.length from by show ((r.length + 1 : Nat) : Int) - 1 = ((r.length : Nat) : Int); omega, small_of (by omega)]
      show ((loopAll (rngFrom (.ofNat 0) r.length) (.name 3) [.v (.d (.int s)), .v (.d (.tuple (a :: r))), .no, .no] (fun e1 => (dE cf ltC e1).bind fun x => truV x.rd)).bind boolV) = _
      rw [asc_loop ha r.length 0 (by show 0 + r.length + 1 ≤ r.length + 1; omega)]
      rfl
  show (((dT cf (.or (.not (.tst (.isI (.var 1) .tuple))) (.not (.tst (.gx .all [2] (.name 2) (.iseq (.var 1)) (.and (.call iz (.cons (.var 0) (.cons (.var 2) .nil))) (.cmp .eq (.b1 .len (.var 2)) (.int 2))))))) [.v (.d (.int s)), .v (.d (.tuple L)), .no, .no]).bind _).bind _).bind _ = _
  rw [c1]
  show (((dE cf (.gx .all [3] (.name 3) (.irng1 (.bin .sub (.b1 .len (.var 1)) (.int 1))) ltC) [.v (.d (.int s)), .v (.d (.tuple L)), .no, .no]).bind _).bind _).bind _ = _
  rw [e2]
  rfl
def ntoDef (ar : Nat) : Def := ⟨2, 4, (.scons (.ifS (.or (.not (.tst (.isI (.var 1) .tuple))) (.or (.cmp .ne (.b1 .len (.var 1)) (.int 2)) (.not (.tst (.gx .all [2] (.name 2) (.iseq (.var 1)) (.isI (.var 2) .tuple)))))) (.scons .noE .snil) .snil) (.scons (.forS (.tup [3, 2]) (.ienum (.var 1)) (.scons (.ifS (.not (.tst (.call ar (.cons (.var 0) (.cons (.var 2) .nil))))) (.scons .noE .snil) .snil) .snil)) .snil)), false⟩
theorem nto_run {ar : Nat} {s : Int} {J A : List D} (h1 : cf ar [.d (.int s), .d (.tuple J)] = .ok (.v (.d (.bool true)))) (h2 : cf ar [.d (.int s), .d (.tuple A)] = .ok (.v (.d (.bool true)))) : runDef cf (ntoDef ar) [.d (.int s), .d (.tuple [.tuple J, .tuple A])] = .ok (.v (.d .none)) := by
  show ((((((((cf ar [.d (.int s), .d (.tuple J)]).bind fun x => truV x.rd).bind _).bind _).bind _).bind _).bind _).bind _) = _
  rw [h1]
  show (((((((cf ar [.d (.int s), .d (.tuple A)]).bind fun x => truV x.rd).bind _).bind _).bind _).bind _).bind _).bind _ = _
  rw [h2]
  rfl
def nsDef (n1 n2 : Nat) : Def := ⟨2, 2, (.scons (.ex (.call n1 (.cons (.var 0) .nil))) (.scons (.ex (.call n2 (.cons (.var 0) (.cons (.var 1) .nil)))) .snil)), false⟩
theorem ns_run {n1 n2 : Nat} {s t : Val} (h1 : cf n1 [s] = .ok (.v (.d .none))) (h2 : cf n2 [s, t] = .ok (.v (.d .none))) : runDef cf (nsDef n1 n2) [s, t] = .ok (.v (.d .none)) := by
  show (((cf n1 [s]).bind _).bind _).bind _ = _
  rw [h1]
  show (((cf n2 [s, t]).bind _).bind _).bind _ = _
  rw [h2]
  rfl
def fgDef (ns fo : Nat) : Def := ⟨2, 2, (.scons (.ex (.call ns (.cons (.var 0) (.cons (.var 1) .nil)))) (.scons (.ret (.b1 .tuple (.call fo (.cons (.var 0) (.cons (.var 1) .nil))))) .snil)), false⟩
theorem fg_run {ns fo : Nat} {s t : Val} {l : List D} (h1 : cf ns [s, t] = .ok (.v (.d .none))) (h2 : cf fo [s, t] = .ok (.o (.d (.list l)))) : runDef cf (fgDef ns fo) [s, t] = .ok (.v (.d (.tuple l))) := by
  show (((cf ns [s, t]).bind _).bind _).bind _ = _
  rw [h1]
  show ((((cf fo [s, t]).bind fun x => b1V .tuple x.rd).bind _).bind _).bind _ = _
  rw [h2]
  rfl
def fcDef (ns fo : Nat) : Def := ⟨2, 2, (.scons (.ex (.call ns (.cons (.var 0) (.cons (.var 1) .nil)))) (.scons (.ret (.b1 .len (.call fo (.cons (.var 0) (.cons (.var 1) .nil))))) .snil)), false⟩
theorem fc_run {ns fo : Nat} {s t : Val} {l : List D} (h1 : cf ns [s, t] = .ok (.v (.d .none))) (h2 : cf fo [s, t] = .ok (.o (.d (.list l)))) : runDef cf (fcDef ns fo) [s, t] = .ok (.v (.d (.int (.ofNat l.length)))) := by
  show (((cf ns [s, t]).bind _).bind _).bind _ = _
  rw [h1]
  show ((((cf fo [s, t]).bind fun x => b1V .len x.rd).bind _).bind _).bind _ = _
  rw [h2]
  rfl
/-! ### sure_pairs -/
def sureJ (tg : Nat) : Ex := (.gx .all [5] (.name 5) (.iseq (.var 2)) (.call tg (.cons (.var 5) (.cons (.var 4) .nil))))
def sureA (tg : Nat) : Ex := (.gx .any [5] (.name 5) (.iseq (.var 2)) (.call tg (.cons (.var 5) (.cons (.var 4) .nil))))
def spDef (ns fo po tg : Nat) : Def := ⟨2, 6, (.scons (.ex (.call ns (.cons (.var 0) (.cons (.var 1) .nil)))) (.scons (.asg (.name 2) (.call fo (.cons (.var 0) (.cons (.var 1) .nil)))) (.scons (.ifS (.not (.tst (.var 2))) (.scons (.ret .non) .snil) .snil) (.frz [2] (.scons (.asg (.name 3) (.b1 .tuple (.lcIf [4] (.name 4) (.iseq (.call po (.cons (.var 0) .nil))) (.var 4) (.tst (sureJ tg))))) (.frz [2] (.scons (.ret (.tup (.cons (.var 3) (.cons (.b1 .tuple (.lcIf [4] (.name 4) (.iseq (.call po (.cons (.var 0) .nil))) (.var 4) (.not (.tst (sureA tg))))) .nil)))) .snil))))))), false⟩
/-- together in all, apart in all -/
def srJ (tog : D → D → Bool) (some_ pl : List D) : List D := pickB (fun p => allB' (fun g => tog g p) some_) pl
def srA (tog : D → D → Bool) (some_ pl : List D) : List D := pickB (fun p => !anyB' (fun g => tog g p) some_) pl
theorem sp_run {ns fo po tg : Nat} {s : Int} {t : Val} {x : D} {l : List D} (h1 : cf ns [.d (.int s), t] = .ok (.v (.d .none))) (h2 : cf fo [.d (.int s), t] = .ok (.o (.d (.list (x :: l))))) (hp : cf po [.d (.int s)] = .ok (.o (.d (.list pl)))) (ht : ∀ g, g ∈ gl → ∀ p, p ∈ pl → cf tg [.d g, .d p] = .ok (.v (.d (.bool (tog g p))))) (hl : ∀ g, g ∈ x :: l → g ∈ gl) (hn : pl.length ≤ 1000) :
    runDef cf (spDef ns fo po tg) [.d (.int s), t] = .ok (.v (.d (.tuple [.tuple (srJ tog (x :: l) pl), .tuple (srA tog (x :: l) pl)]))) := by
  have j1 : ∀ (S3 : Slot), loopIf pl (.name 4) [.v (.d (.int s)), .v t, .v (.d (.list (x :: l))), S3, .no, .no] (fun e1 => (dE cf (.var 4) e1).bind fzD) (fun e1 => dT cf (.tst (sureJ tg)) e1) = .ok ((srJ tog (x :: l) pl).map fun x => x) := fun S3 =>
    loopIf_pick pl fun p hp' => ⟨by
      have z : loopAll (x :: l) (.name 5) [.v (.d (.int s)), .v t, .v (.d (.list (x :: l))), S3, .v (.d p), .no] (fun e1 => (dE cf (.call tg (.cons (.var 5) (.cons (.var 4) .nil))) e1).bind fun x => truV x.rd) = .ok (allB' (fun g => tog g p) (x :: l)) :=
        loopAll_all (x :: l) fun g hg => by
          show ((cf tg [.d g, .d p]).bind fun x => truV x.rd) = _
          rw [ht g (hl g hg) p hp']
          rfl
      show (((loopAll (x :: l) (.name 5) [.v (.d (.int s)), .v t, .v (.d (.list (x :: l))), S3, .v (.d p), .no] (fun e1 => (dE cf (.call tg (.cons (.var 5) (.cons (.var 4) .nil))) e1).bind fun x => truV x.rd)).bind boolV).bind fun x => truV x.rd) = _
      rw [z]
      rfl, rfl⟩
  have j2 : ∀ (S3 : Slot), loopIf pl (.name 4) [.v (.d (.int s)), .v t, .v (.d (.list (x :: l))), S3, .no, .no] (fun e1 => (dE cf (.var 4) e1).bind fzD) (fun e1 => dT cf (.not (.tst (sureA tg))) e1) = .ok ((srA tog (x :: l) pl).map fun x => x) := fun S3 =>
    loopIf_pick pl fun p hp' => ⟨by
      have z : loopAny (x :: l) (.name 5) [.v (.d (.int s)), .v t, .v (.d (.list (x :: l))), S3, .v (.d p), .no] (fun e1 => (dE cf (.call tg (.cons (.var 5) (.cons (.var 4) .nil))) e1).bind fun x => truV x.rd) = .ok (anyB' (fun g => tog g p) (x :: l)) :=
        loopAny_any (x :: l) fun g hg => by
          show ((cf tg [.d g, .d p]).bind fun x => truV x.rd) = _
          rw [ht g (hl g hg) p hp']
          rfl
      show ((((loopAny (x :: l) (.name 5) [.v (.d (.int s)), .v t, .v (.d (.list (x :: l))), S3, .v (.d p), .no] (fun e1 => (dE cf (.call tg (.cons (.var 5) (.cons (.var 4) .nil))) e1).bind fun x => truV x.rd)).bind boolV).bind fun x => truV x.rd).bind fun b => R.ok (!b)) = _
      rw [z]
      rfl, rfl⟩
  have l1 : (srJ tog (x :: l) pl).length ≤ 1000 := Nat.le_trans (pick_len pl) hn
  have l2 : (srA tog (x :: l) pl).length ≤ 1000 := Nat.le_trans (pick_len pl) hn
  have e3 : ∀ S3, dE cf (.b1 .tuple (.lcIf [4] (.name 4) (.iseq (.call po (.cons (.var 0) .nil))) (.var 4) (.tst (sureJ tg)))) [.v (.d (.int s)), .v t, .v (.d (.list (x :: l))), S3, .no, .no] = .ok (.v (.d (.tuple (srJ tog (x :: l) pl)))) := fun S3 => by
    show ((((cf po [.d (.int s)]).bind fun x => x.fz.bind seqV).bind fun xs => (loopIf xs (.name 4) [.v (.d (.int s)), .v t, .v (.d (.list (x :: l))), S3, .no, .no] (fun e1 => (dE cf (.var 4) e1).bind fzD) (fun e1 => dT cf (.tst (sureJ tg)) e1)).bind newL).bind fun x => b1V .tuple x.rd) = _
    rw [hp]
    show (((loopIf pl (.name 4) [.v (.d (.int s)), .v t, .v (.d (.list (x :: l))), S3, .no, .no] (fun e1 => (dE cf (.var 4) e1).bind fzD) (fun e1 => dT cf (.tst (sureJ tg)) e1)).bind newL).bind fun x => b1V .tuple x.rd) = _
    rw [j1 S3, List.map_id']
    show ((newL (srJ tog (x :: l) pl)).bind fun x => b1V .tuple x.rd) = _
    rw [newL_few l1]
    rfl
  have e4 : ∀ S3, dE cf (.b1 .tuple (.lcIf [4] (.name 4) (.iseq (.call po (.cons (.var 0) .nil))) (.var 4) (.not (.tst (sureA tg))))) [.v (.d (.int s)), .v t, .v (.d (.list (x :: l))), S3, .no, .no] = .ok (.v (.d (.tuple (srA tog (x :: l) pl)))) := fun S3 => by
    show ((((cf po [.d (.int s)]).bind fun x => x.fz.bind seqV).bind fun xs => (loopIf xs (.name 4) [.v (.d (.int s)), .v t, .v (.d (.list (x :: l))), S3, .no, .no] (fun e1 => (dE cf (.var 4) e1).bind fzD) (fun e1 => dT cf (.not (.tst (sureA tg))) e1)).bind newL).bind fun x => b1V .tuple x.rd) = _
    rw [hp]
    show (((loopIf pl (.name 4) [.v (.d (.int s)), .v t, .v (.d (.list (x :: l))), S3, .no, .no] (fun e1 => (dE cf (.var 4) e1).bind fzD) (fun e1 => dT cf (.not (.tst (sureA tg))) e1)).bind newL).bind fun x => b1V .tuple x.rd) = _
    rw [j2 S3, List.map_id']
    show ((newL (srA tog (x :: l) pl)).bind fun x => b1V .tuple x.rd) = _
    rw [newL_few l2]
    rfl
  have e5 : dE cf (.tup (.cons (.var 3) (.cons (.b1 .tuple (.lcIf [4] (.name 4) (.iseq (.call po (.cons (.var 0) .nil))) (.var 4) (.not (.tst (sureA tg))))) .nil))) [.v (.d (.int s)), .v t, .v (.d (.list (x :: l))), .v (.d (.tuple (srJ tog (x :: l) pl))), .no, .no] = .ok (.v (.d (.tuple [.tuple (srJ tog (x :: l) pl), .tuple (srA tog (x :: l) pl)]))) := by
    show ((((dE cf (.b1 .tuple (.lcIf [4] (.name 4) (.iseq (.call po (.cons (.var 0) .nil))) (.var 4) (.not (.tst (sureA tg))))) [.v (.d (.int s)), .v t, .v (.d (.list (x :: l))), .v (.d (.tuple (srJ tog (x :: l) pl))), .no, .no]).bind fun x => (fzD x).bind fun v => R.bind (R.ok []) fun vs => R.ok (v :: vs)).bind fun vs => R.ok (PyData.tuple (srJ tog (x :: l) pl) :: vs)).bind newT) = _
    rw [e4]
    rfl
  show (((cf ns [.d (.int s), t]).bind _).bind _).bind _ = _
  rw [h1]
  show ((((cf fo [.d (.int s), t]).bind _).bind _).bind _) = _
  rw [h2]
  show ((((dE cf (.b1 .tuple (.lcIf [4] (.name 4) (.iseq (.call po (.cons (.var 0) .nil))) (.var 4) (.tst (sureJ tg)))) [.v (.d (.int s)), .v t, .v (.d (.list (x :: l))), .no, .no, .no]).bind _).bind _).bind _) = _
  rw [e3]
  show ((((dE cf (.tup (.cons (.var 3) (.cons (.b1 .tuple (.lcIf [4] (.name 4) (.iseq (.call po (.cons (.var 0) .nil))) (.var 4) (.not (.tst (sureA tg))))) .nil))) [.v (.d (.int s)), .v t, .v (.d (.list (x :: l))), .v (.d (.tuple (srJ tog (x :: l) pl))), .no, .no]).bind _).bind _).bind _) = _
  rw [e5]
  rfl
theorem sp_none {ns fo po tg : Nat} {s : Int} {t : Val} (h1 : cf ns [.d (.int s), t] = .ok (.v (.d .none))) (h2 : cf fo [.d (.int s), t] = .ok (.o (.d (.list [])))) : runDef cf (spDef ns fo po tg) [.d (.int s), t] = .ok (.v (.d .none)) := by
  show (((cf ns [.d (.int s), t]).bind _).bind _).bind _ = _
  rw [h1]
  show ((((cf fo [.d (.int s), t]).bind _).bind _).bind _) = _
  rw [h2]
  rfl
/-! ### least_lots, nearest_fitting -/
/-- the least of a walk's numbers -/
def nmn : Nat → List Nat → Nat
  | a, [] => a
  | a, b :: r => nmn (match Nat.blt b a with | true => b | false => a) r
theorem imin_nat : ∀ (r : List Nat) (a : Nat), imin (.ofNat a) (r.map .ofNat) = .ofNat (nmn a r)
  | [], a => rfl
  | b :: r, a => by
    show (match iLt (.ofNat b) (.ofNat a) with | true => imin (.ofNat b) (r.map .ofNat) | false => imin (.ofNat a) (r.map .ofNat)) = .ofNat (nmn (match Nat.blt b a with | true => b | false => a) r)
    rw [show iLt (.ofNat b) (.ofNat a) = Nat.blt b a from rfl]
    cases Nat.blt b a with
    | true => exact imin_nat r b
    | false => exact imin_nat r a
theorem nmn_le : ∀ (l : List Nat) (a : Nat), nmn a l ≤ a
  | [], a => Nat.le_refl a
  | b :: r, a => by
    show nmn (match Nat.blt b a with | true => b | false => a) r ≤ a
    cases q : Nat.blt b a with
    | true =>
      rw [nblt] at q
      exact Nat.le_trans (nmn_le r b) (Nat.le_of_lt (of_decide_eq_true q))
    | false => exact nmn_le r a
theorem nmn_mem : ∀ (l : List Nat) (a x : Nat), x ∈ l → nmn a l ≤ x
  | b :: r, a, x, h => by
    show nmn (match Nat.blt b a with | true => b | false => a) r ≤ x
    rcases List.mem_cons.mp h with e | h
    · rw [e]
      cases q : Nat.blt b a with
      | true => exact nmn_le r b
      | false =>
        rw [nblt] at q
        exact Nat.le_trans (nmn_le r a) (Nat.le_of_not_lt (of_decide_eq_false q))
    · exact nmn_mem r _ x h
theorem nmn_in : ∀ (l : List Nat) (a : Nat), nmn a l ∈ a :: l
  | [], a => List.mem_cons_self ..
  | b :: r, a => by
    show nmn (match Nat.blt b a with | true => b | false => a) r ∈ a :: b :: r
    cases Nat.blt b a with
    | true => exact List.mem_cons_of_mem _ (nmn_in r b)
    | false =>
      rcases List.mem_cons.mp (nmn_in r a) with e | h
      · show nmn a r ∈ _; rw [e]; exact List.mem_cons_self ..
      · exact List.mem_cons_of_mem _ (List.mem_cons_of_mem _ h)
def llDef (ns fo : Nat) : Def := ⟨2, 4, (.scons (.ex (.call ns (.cons (.var 0) (.cons (.var 1) .nil)))) (.scons (.asg (.name 2) (.call fo (.cons (.var 0) (.cons (.var 1) .nil)))) (.frz [2] (.scons (.ret (.ite (.tst (.var 2)) (.b1 .min (.lc [3] (.name 3) (.iseq (.var 2)) (.b1 .len (.var 3)))) .non)) .snil)))), false⟩
theorem ll_run {ns fo : Nat} {s t : Val} {x : D} {l : List D} {ln : D → Nat} (h1 : cf ns [s, t] = .ok (.v (.d .none))) (h2 : cf fo [s, t] = .ok (.o (.d (.list (x :: l))))) (hl : ∀ g, g ∈ x :: l → b1V .len (.d g) = .ok (.v (.d (.int (.ofNat (ln g)))))) (hn : l.length < 1000) :
    runDef cf (llDef ns fo) [s, t] = .ok (.v (.d (.int (.ofNat (nmn (ln x) (l.map ln)))))) := by
  have e1 : loopL (x :: l) (.name 3) [.v s, .v t, .v (.d (.list (x :: l))), .no] (fun e1 => (dE cf (.b1 .len (.var 3)) e1).bind fzD) = .ok ((x :: l).map fun g => .int (.ofNat (ln g))) :=
    loopL_map (x :: l) fun g hg => by
      show (b1V .len (.d g)).bind fzD = _
      rw [hl g hg]
      rfl
  have e2 : dE cf (.ite (.tst (.var 2)) (.b1 .min (.lc [3] (.name 3) (.iseq (.var 2)) (.b1 .len (.var 3)))) .non) [.v s, .v t, .v (.d (.list (x :: l))), .no] = .ok (.v (.d (.int (.ofNat (nmn (ln x) (l.map ln)))))) := by
    show (((loopL (x :: l) (.name 3) [.v s, .v t, .v (.d (.list (x :: l))), .no] (fun e1 => (dE cf (.b1 .len (.var 3)) e1).bind fzD)).bind newL).bind fun x => b1V .min x.rd) = _
    rw [e1]
    show ((newL ((x :: l).map fun g => PyData.int (.ofNat (ln g)))).bind fun x => b1V .min x.rd) = _
    rw [newL_few (by rw [List.length_map]; exact hn)]
    show (match ints? ((x :: l).map fun g => PyData.int (.ofNat (ln g))) with | some (i :: r) => R.ok (RV.v (.d (.int (imin i r)))) | _ => R.stuck) = _
    have z := ints_nat ((x :: l).map ln)
    rw [List.map_map] at z
    rw [show ((x :: l).map fun g => PyData.int (.ofNat (ln g))) = (x :: l).map ((fun n => PyData.int (.ofNat n)) ∘ ln) from rfl, z]
    show R.ok (RV.v (.d (.int (imin (.ofNat (ln x)) ((l.map ln).map .ofNat))))) = _
    rw [imin_nat]
  show (((cf ns [s, t]).bind _).bind _).bind _ = _
  rw [h1]
  show ((((cf fo [s, t]).bind _).bind _).bind _) = _
  rw [h2]
  show ((((dE cf (.ite (.tst (.var 2)) (.b1 .min (.lc [3] (.name 3) (.iseq (.var 2)) (.b1 .len (.var 3)))) .non) [.v s, .v t, .v (.d (.list (x :: l))), .no]).bind _).bind _).bind _) = _
  rw [e2]
  rfl
def nfDef (nd nto sz fo sb : Nat) : Def := ⟨2, 4, (.scons (.ex (.call nd (.cons (.var 0) .nil))) (.scons (.ex (.call nto (.cons (.call sz (.cons (.var 0) .nil)) (.cons (.var 1) .nil)))) (.scons (.asg (.name 2) (.lc [3] (.name 3) (.iseq (.call fo (.cons (.call sz (.cons (.var 0) .nil)) (.cons (.var 1) .nil)))) (.tup (.cons (.call sb (.cons (.var 0) (.cons (.var 3) .nil))) (.cons (.var 3) .nil))))) (.scons (.ret (.ite (.tst (.var 2)) (.ix (.mnp true (.var 2)) (.int 1)) .non)) .snil)))), false⟩
def prD (ds : D → Nat) (g : D) : D := .tuple [.int (.ofNat (ds g)), g]
theorem allPU_of {ds : D → Nat} : ∀ {l : List D}, (∀ g, g ∈ l → unif 2 g = true) → allPU (l.map (prD ds)) = true
  | [], _ => rfl
  | g :: r, h => by
    have q : pairU (prD ds g) = true := h g (List.mem_cons_self ..)
    show (match pairU (prD ds g) with | true => allPU (r.map (prD ds)) | false => false) = true
    rw [q]
    exact allPU_of fun x hx => h x (List.mem_cons_of_mem _ hx)
theorem lt_pr {ds : D → Nat} {g h : D} (z : ltD (prD ds g) (prD ds h) = true) : ds g ≤ ds h := by
  have z : (match eqD (.int (.ofNat (ds g))) (.int (.ofNat (ds h))) with | true => ltDs [g] [h] | false => iLt (.ofNat (ds g)) (.ofNat (ds h))) = true := z
  cases q : eqD (.int (.ofNat (ds g))) (.int (.ofNat (ds h))) with
  | true =>
    have q : Nat.beq (ds g) (ds h) = true := q
    rw [nbeq] at q
    exact Nat.le_of_eq (of_decide_eq_true q)
  | false =>
    rw [q] at z
    have z : Nat.blt (ds g) (ds h) = true := z
    rw [nblt] at z
    exact Nat.le_of_lt (of_decide_eq_true z)
theorem not_lt_pr {ds : D → Nat} {g h : D} (z : ltD (prD ds g) (prD ds h) = false) : ds h ≤ ds g := by
  have z : (match eqD (.int (.ofNat (ds g))) (.int (.ofNat (ds h))) with | true => ltDs [g] [h] | false => iLt (.ofNat (ds g)) (.ofNat (ds h))) = false := z
  cases q : eqD (.int (.ofNat (ds g))) (.int (.ofNat (ds h))) with
  | true =>
    have q : Nat.beq (ds g) (ds h) = true := q
    rw [nbeq] at q
    exact Nat.le_of_eq (of_decide_eq_true q).symm
  | false =>
    rw [q] at z
    have z : Nat.blt (ds g) (ds h) = false := z
    rw [nblt] at z
    exact Nat.le_of_not_lt (of_decide_eq_false z)
/-- the best is one of them, none is nearer -/
theorem best_pr {ds : D → Nat} : ∀ (l : List D) (x : D), ∃ y, bestP true (prD ds x) (l.map (prD ds)) = prD ds y ∧ y ∈ x :: l ∧ ∀ z, z ∈ x :: l → ds y ≤ ds z
  | [], x => ⟨x, rfl, List.mem_cons_self .., fun z hz => by
    rcases List.mem_cons.mp hz with e | h
    · rw [e]; exact Nat.le_refl _
    · cases h⟩
  | w :: r, x => by
    cases q : ltD (prD ds w) (prD ds x) with
    | true =>
      obtain ⟨y, e1, e2, e3⟩ := best_pr (ds := ds) r w
      refine ⟨y, ?_, List.mem_cons_of_mem _ e2, fun z hz => ?_⟩
      · show (match ltD (prD ds w) (prD ds x) with | true => bestP true (prD ds w) (r.map (prD ds)) | false => bestP true (prD ds x) (r.map (prD ds))) = _
        rw [q]; exact e1
      · rcases List.mem_cons.mp hz with e | h
        · rw [e]; exact Nat.le_trans (e3 w (List.mem_cons_self ..)) (lt_pr q)
        · exact e3 z h
    | false =>
      obtain ⟨y, e1, e2, e3⟩ := best_pr (ds := ds) r x
      refine ⟨y, ?_, ?_, fun z hz => ?_⟩
      · show (match ltD (prD ds w) (prD ds x) with | true => bestP true (prD ds w) (r.map (prD ds)) | false => bestP true (prD ds x) (r.map (prD ds))) = _
        rw [q]; exact e1
      · rcases List.mem_cons.mp e2 with e | h
        · rw [e]; exact List.mem_cons_self ..
        · exact List.mem_cons_of_mem _ (List.mem_cons_of_mem _ h)
      · rcases List.mem_cons.mp hz with e | h
        · rw [e]; exact e3 x (List.mem_cons_self ..)
        · rcases List.mem_cons.mp h with e | h
          · rw [e]; exact Nat.le_trans (e3 x (List.mem_cons_self ..)) (not_lt_pr q)
          · exact e3 z (List.mem_cons_of_mem _ h)
theorem nf_run {nd nto sz fo sb : Nat} {s : Int} {t : Val} {g x : D} {l : List D} {ds : D → Nat} (h1 : cf nd [.d g] = .ok (.v (.d .none))) (h2 : cf sz [.d g] = .ok (.v (.d (.int s)))) (h3 : cf nto [.d (.int s), t] = .ok (.v (.d .none))) (h4 : cf fo [.d (.int s), t] = .ok (.o (.d (.list (x :: l)))))
    (h5 : ∀ y, y ∈ x :: l → cf sb [.d g, .d y] = .ok (.v (.d (.int (.ofNat (ds y)))))) (hu : ∀ y, y ∈ x :: l → unif 2 y = true) (hn : l.length < 1000) : ∃ y, runDef cf (nfDef nd nto sz fo sb) [.d g, t] = .ok (.v (.d y)) ∧ y ∈ x :: l ∧ ∀ z, z ∈ x :: l → ds y ≤ ds z := by
  obtain ⟨y, b1, b2, b3⟩ := best_pr (ds := ds) l x
  refine ⟨y, ?_, b2, b3⟩
  have a2 : dE cf (.call nto (.cons (.call sz (.cons (.var 0) .nil)) (.cons (.var 1) .nil))) [.v (.d g), .v t, .no, .no] = .ok (.v (.d .none)) := by
    show (((cf sz [.d g]).bind fun x => x.fz.bind fun v => R.bind (R.ok [t]) fun vs => R.ok (v :: vs)).bind fun xs => cf nto xs) = _
    rw [h2]
    exact h3
  have e1 : loopL (x :: l) (.name 3) [.v (.d g), .v t, .no, .no] (fun e1 => (dE cf (.tup (.cons (.call sb (.cons (.var 0) (.cons (.var 3) .nil))) (.cons (.var 3) .nil))) e1).bind fzD) = .ok ((x :: l).map (prD ds)) :=
    loopL_map (x :: l) fun y hy => by
      show (((((cf sb [.d g, .d y]).bind fun x => (fzD x).bind fun v => R.bind (R.ok [y]) fun vs => R.ok (v :: vs))).bind newT).bind fzD) = _
      rw [h5 y hy]
      rfl
  have a3 : dE cf (.lc [3] (.name 3) (.iseq (.call fo (.cons (.call sz (.cons (.var 0) .nil)) (.cons (.var 1) .nil)))) (.tup (.cons (.call sb (.cons (.var 0) (.cons (.var 3) .nil))) (.cons (.var 3) .nil)))) [.v (.d g), .v t, .no, .no] = .ok (.o (.d (.list ((x :: l).map (prD ds))))) := by
    show ((((((cf sz [.d g]).bind fun x => x.fz.bind fun v => R.bind (R.ok [t]) fun vs => R.ok (v :: vs)).bind fun xs => cf fo xs).bind fun x => x.fz.bind seqV).bind fun xs => (loopL xs (.name 3) [.v (.d g), .v t, .no, .no] (fun e1 => (dE cf (.tup (.cons (.call sb (.cons (.var 0) (.cons (.var 3) .nil))) (.cons (.var 3) .nil))) e1).bind fzD)).bind newL)) = _
    rw [h2]
    show ((((cf fo [.d (.int s), t]).bind fun x => x.fz.bind seqV).bind fun xs => (loopL xs (.name 3) [.v (.d g), .v t, .no, .no] (fun e1 => (dE cf (.tup (.cons (.call sb (.cons (.var 0) (.cons (.var 3) .nil))) (.cons (.var 3) .nil))) e1).bind fzD)).bind newL)) = _
    rw [h4]
    show ((loopL (x :: l) (.name 3) [.v (.d g), .v t, .no, .no] (fun e1 => (dE cf (.tup (.cons (.call sb (.cons (.var 0) (.cons (.var 3) .nil))) (.cons (.var 3) .nil))) e1).bind fzD)).bind newL) = _
    rw [e1]
    exact newL_few (by rw [List.length_map]; exact hn)
  have a4 : dE cf (.ite (.tst (.var 2)) (.ix (.mnp true (.var 2)) (.int 1)) .non) [.v (.d g), .v t, .o (.d (.list (prD ds x :: l.map (prD ds)))), .no] = .ok (.v (.d y)) := by
    show ((mnpV true (.d (.list (prD ds x :: l.map (prD ds))))).bind fun x => ixV x.rd (.d (.int 1))) = _
    have q : mnpV true (.d (.list (prD ds x :: l.map (prD ds)))) = .ok (.v (.d (prD ds y))) := by
      show (match allPU (prD ds x :: l.map (prD ds)) with | true => R.ok (RV.v (.d (bestP true (prD ds x) (l.map (prD ds))))) | false => R.stuck) = _
      have z := allPU_of (ds := ds) hu
      rw [show prD ds x :: l.map (prD ds) = (x :: l).map (prD ds) from rfl, z, b1]
    rw [q]
    rfl
  show (((cf nd [.d g]).bind _).bind _).bind _ = _
  rw [h1]
  show (((dE cf (.call nto (.cons (.call sz (.cons (.var 0) .nil)) (.cons (.var 1) .nil))) [.v (.d g), .v t, .no, .no]).bind _).bind _).bind _ = _
  rw [a2]
  show (((dE cf (.lc [3] (.name 3) (.iseq (.call fo (.cons (.call sz (.cons (.var 0) .nil)) (.cons (.var 1) .nil)))) (.tup (.cons (.call sb (.cons (.var 0) (.cons (.var 3) .nil))) (.cons (.var 3) .nil)))) [.v (.d g), .v t, .no, .no]).bind _).bind _).bind _ = _
  rw [a3]
  show (((dE cf (.ite (.tst (.var 2)) (.ix (.mnp true (.var 2)) (.int 1)) .non) [.v (.d g), .v t, .o (.d (.list (prD ds x :: l.map (prD ds)))), .no]).bind _).bind _).bind _ = _
  rw [a4]
  rfl
end
end Ev

/-! Likings: worths, the best grouping, calm ones, climbing. -/
namespace Ev
open PySem
/-- the likings of the pairs that a test takes -/
def wSum (c : D → Bool) : List D → List Int → Int → Int
  | p :: ps, i :: is, a => wSum c ps is (match c p with | true => a + i | false => a)
  | [], _, a => a
  | _ :: _, [], a => a
def togX : Ex := (.tst (.gx .any [5] (.name 5) (.iseq (.var 0)) (.and (.cmp .isin (.ix (.var 3) (.int 0)) (.var 5)) (.cmp .isin (.ix (.var 3) (.int 1)) (.var 5)))))
def btwX : Ex := (.or (.and (.cmp .isin (.ix (.var 5) (.int 0)) (.var 0)) (.cmp .isin (.ix (.var 5) (.int 1)) (.var 1))) (.and (.cmp .isin (.ix (.var 5) (.int 0)) (.var 1)) (.cmp .isin (.ix (.var 5) (.int 1)) (.var 0))))
section
variable {cf : Nat → List Val → R RV}
def intsD (C : List Int) : List D := C.map PyData.int
/-! ### worth_of -/
def woIf : Ex := (.scons (.ifS togX (.scons (.asg (.name 2) (.bin .add (.var 2) (.var 4))) .snil) .snil) .snil)
def woDef (po sz : Nat) : Def := ⟨2, 6, (.scons (.asg (.name 2) (.int 0)) (.scons (.forS (.tup [3, 4]) (.izip (.call po (.cons (.call sz (.cons (.var 0) .nil)) .nil)) (.var 1)) woIf) (.scons (.ret (.var 2)) .snil))), false⟩
theorem wo_loop {g CC : D} {c : D → Bool} : ∀ (P : List D) (C : List Int) (a : Int) (x3 x4 : Slot), (∀ p, p ∈ P → ∀ x1 x2 x4, dT cf togX [.v (.d g), x1, x2, .v (.d p), x4, .no] = .ok (c p)) →
    ∃ s3 s4, loopFor (zipD P (intsD C)) (.tup [3, 4]) (fun e => dS cf woIf e) [.v (.d g), .v (.d CC), .v (.d (.int a)), x3, x4, .no] = .ok (.nx [.v (.d g), .v (.d CC), .v (.d (.int (wSum c P C a))), s3, s4, .no])
  | [], C, a, x3, x4, _ => ⟨x3, x4, rfl⟩
  | p :: P, [], a, x3, x4, _ => ⟨x3, x4, rfl⟩
  | p :: P, i :: C, a, x3, x4, h => by
    obtain ⟨s3, s4, ih⟩ := wo_loop (g := g) (CC := CC) (c := c) P C (match c p with | true => a + i | false => a) (.v (.d p)) (.v (.d (.int i))) fun q hq => h q (List.mem_cons_of_mem _ hq)
    refine ⟨s3, s4, ?_⟩
    have t := h p (List.mem_cons_self ..) (.v (.d CC)) (.v (.d (.int a))) (.v (.d (.int i)))
    have st : dS cf woIf [.v (.d g), .v (.d CC), .v (.d (.int a)), .v (.d p), .v (.d (.int i)), .no] = .ok (.nx [.v (.d g), .v (.d CC), .v (.d (.int (match c p with | true => a + i | false => a))), .v (.d p), .v (.d (.int i)), .no]) := by
      show (((dT cf togX [.v (.d g), .v (.d CC), .v (.d (.int a)), .v (.d p), .v (.d (.int i)), .no]).bind _).bind _) = _
      rw [t]
      cases c p with
      | true => rfl
      | false => rfl
    show ((dS cf woIf [.v (.d g), .v (.d CC), .v (.d (.int a)), .v (.d p), .v (.d (.int i)), .no]).bind _) = _
    rw [st]
    exact ih
theorem wo_run {po sz : Nat} {s : Int} {g : D} {pl : List D} {C : List Int} {c : D → Bool} (h1 : cf sz [.d g] = .ok (.v (.d (.int s)))) (h2 : cf po [.d (.int s)] = .ok (.o (.d (.list pl)))) (h3 : ∀ p, p ∈ pl → ∀ x1 x2 x4, dT cf togX [.v (.d g), x1, x2, .v (.d p), x4, .no] = .ok (c p)) :
    runDef cf (woDef po sz) [.d g, .d (.tuple (intsD C))] = .ok (.v (.d (.int (wSum c pl C 0)))) := by
  obtain ⟨s3, s4, e⟩ := wo_loop (cf := cf) (g := g) (CC := .tuple (intsD C)) (c := c) pl C 0 .no .no h3
  show ((((((((cf sz [.d g]).bind fun x => x.fz.bind fun v => R.bind (R.ok []) fun vs => R.ok (v :: vs)).bind fun xs => cf po xs).bind fun x => x.fz.bind fun v => R.bind (R.ok (Val.d (.tuple (intsD C)))) fun u => (seqV v).bind fun l => (seqV u).bind fun m => R.ok (zipD l m))).bind fun xs => loopFor xs (.tup [3, 4]) (fun e => dS cf woIf e) [.v (.d g), .v (.d (.tuple (intsD C))), .v (.d (.int 0)), .no, .no, .no]).bind _).bind _) = _
  rw [h1]
  show (((((cf po [.d (.int s)]).bind fun x => x.fz.bind fun v => R.bind (R.ok (Val.d (.tuple (intsD C)))) fun u => (seqV v).bind fun l => (seqV u).bind fun m => R.ok (zipD l m))).bind fun xs => loopFor xs (.tup [3, 4]) (fun e => dS cf woIf e) [.v (.d g), .v (.d (.tuple (intsD C))), .v (.d (.int 0)), .no, .no, .no]).bind _ |>.bind _) = _
  rw [h2]
  show ((((loopFor (zipD pl (intsD C)) (.tup [3, 4]) (fun e => dS cf woIf e) [.v (.d g), .v (.d (.tuple (intsD C))), .v (.d (.int 0)), .no, .no, .no])).bind _).bind _) = _
  rw [e]
  rfl
/-! ### sum_between -/
def sbwIf : Ex := (.scons (.ifS btwX (.scons (.asg (.name 4) (.bin .add (.var 4) (.var 6))) .snil) .snil) .snil)
def sbwDef (po : Nat) : Def := ⟨4, 7, (.scons (.asg (.name 4) (.int 0)) (.scons (.forS (.tup [5, 6]) (.izip (.call po (.cons (.var 2) .nil)) (.var 3)) sbwIf) (.scons (.ret (.var 4)) .snil))), false⟩
theorem sbw_loop {A B S CC : D} {c : D → Bool} : ∀ (P : List D) (C : List Int) (a : Int) (x5 x6 : Slot), (∀ p, p ∈ P → ∀ x2 x3 x4 x6, dT cf btwX [.v (.d A), .v (.d B), x2, x3, x4, .v (.d p), x6] = .ok (c p)) →
    ∃ s5 s6, loopFor (zipD P (intsD C)) (.tup [5, 6]) (fun e => dS cf sbwIf e) [.v (.d A), .v (.d B), .v (.d S), .v (.d CC), .v (.d (.int a)), x5, x6] = .ok (.nx [.v (.d A), .v (.d B), .v (.d S), .v (.d CC), .v (.d (.int (wSum c P C a))), s5, s6])
  | [], C, a, x5, x6, _ => ⟨x5, x6, rfl⟩
  | p :: P, [], a, x5, x6, _ => ⟨x5, x6, rfl⟩
  | p :: P, i :: C, a, x5, x6, h => by
    obtain ⟨s5, s6, ih⟩ := sbw_loop (A := A) (B := B) (S := S) (CC := CC) (c := c) P C (match c p with | true => a + i | false => a) (.v (.d p)) (.v (.d (.int i))) fun q hq => h q (List.mem_cons_of_mem _ hq)
    refine ⟨s5, s6, ?_⟩
    have t := h p (List.mem_cons_self ..) (.v (.d S)) (.v (.d CC)) (.v (.d (.int a))) (.v (.d (.int i)))
    have st : dS cf sbwIf [.v (.d A), .v (.d B), .v (.d S), .v (.d CC), .v (.d (.int a)), .v (.d p), .v (.d (.int i))] = .ok (.nx [.v (.d A), .v (.d B), .v (.d S), .v (.d CC), .v (.d (.int (match c p with | true => a + i | false => a))), .v (.d p), .v (.d (.int i))]) := by
      show (((dT cf btwX [.v (.d A), .v (.d B), .v (.d S), .v (.d CC), .v (.d (.int a)), .v (.d p), .v (.d (.int i))]).bind _).bind _) = _
      rw [t]
      cases c p with
      | true => rfl
      | false => rfl
    show ((dS cf sbwIf [.v (.d A), .v (.d B), .v (.d S), .v (.d CC), .v (.d (.int a)), .v (.d p), .v (.d (.int i))]).bind _) = _
    rw [st]
    exact ih
theorem sbw_run {po : Nat} {s : Int} {A B : D} {pl : List D} {C : List Int} {c : D → Bool} (h2 : cf po [.d (.int s)] = .ok (.o (.d (.list pl)))) (h3 : ∀ p, p ∈ pl → ∀ x2 x3 x4 x6, dT cf btwX [.v (.d A), .v (.d B), x2, x3, x4, .v (.d p), x6] = .ok (c p)) :
    runDef cf (sbwDef po) [.d A, .d B, .d (.int s), .d (.tuple (intsD C))] = .ok (.v (.d (.int (wSum c pl C 0)))) := by
  obtain ⟨s3, s4, e⟩ := sbw_loop (cf := cf) (A := A) (B := B) (S := .int s) (CC := .tuple (intsD C)) (c := c) pl C 0 .no .no h3
  show (((((cf po [.d (.int s)]).bind fun x => x.fz.bind fun v => R.bind (R.ok (Val.d (.tuple (intsD C)))) fun u => (seqV v).bind fun l => (seqV u).bind fun m => R.ok (zipD l m))).bind fun xs => loopFor xs (.tup [5, 6]) (fun e => dS cf sbwIf e) [.v (.d A), .v (.d B), .v (.d (.int s)), .v (.d (.tuple (intsD C))), .v (.d (.int 0)), .no, .no]).bind _ |>.bind _) = _
  rw [h2]
  show ((((loopFor (zipD pl (intsD C)) (.tup [5, 6]) (fun e => dS cf sbwIf e) [.v (.d A), .v (.d B), .v (.d (.int s)), .v (.d (.tuple (intsD C))), .v (.d (.int 0)), .no, .no])).bind _).bind _) = _
  rw [e]
  rfl
/-! ### is_in, are_likings -/
def inDef : Def := ⟨3, 3, (.scons (.ret (.and (.isI (.var 0) .int) (.and (.not (.isI (.var 0) .bool)) (.chain .le .le (.var 1) (.var 0) (.var 2))))) .snil), false⟩
theorem in_run {i a b : Int} : runDef cf inDef [.d (.int i), .d (.int a), .d (.int b)] = .ok (.v (.d (.bool (iLe a i && iLe i b)))) := by
  show (((((R.ok (iLe a i)).bind fun k => match k with | true => (R.ok (iLe i b)).bind boolV | false => boolV false).bind _).bind _).bind _) = _
  cases iLe a i with
  | true =>
    show (((((R.ok (iLe i b)).bind boolV).bind _).bind _).bind _) = _
    cases iLe i b <;> rfl
  | false => rfl
def arlDef (iz : Nat) : Def := ⟨2, 3, (.scons (.ifS (.or (.not (.tst (.isI (.var 1) .tuple))) (.cmp .ne (.b1 .len (.var 1)) (.bin .fdiv (.bin .mul (.var 0) (.bin .sub (.var 0) (.int 1))) (.int 2)))) (.scons (.ret (.bl false)) .snil) .snil) (.scons (.ret (.gx .all [2] (.name 2) (.iseq (.var 1)) (.call iz (.cons (.var 2) (.cons (.bin .sub (.int 0) (.glob "MOST_LIKING" 100)) (.cons (.glob "MOST_LIKING" 100) .nil)))))) .snil)), false⟩
theorem arl_run {iz : Nat} {s : Int} {C : List Int} (hz : ∀ i, i ∈ C → cf iz [.d (.int i), .d (.int (-100)), .d (.int 100)] = .ok (.v (.d (.bool true)))) (hK : ∀ x1 x2, dE cf (.bin .fdiv (.bin .mul (.var 0) (.bin .sub (.var 0) (.int 1))) (.int 2)) [.v (.d (.int s)), x1, x2] = .ok (.v (.d (.int (.ofNat C.length))))) :
    runDef cf (arlDef iz) [.d (.int s), .d (.tuple (intsD C))] = .ok (.v (.d (.bool true))) := by
  have hl : (intsD C).length = C.length := List.length_map ..
  have c1 : dT cf (.or (.not (.tst (.isI (.var 1) .tuple))) (.cmp .ne (.b1 .len (.var 1)) (.bin .fdiv (.bin .mul (.var 0) (.bin .sub (.var 0) (.int 1))) (.int 2)))) [.v (.d (.int s)), .v (.d (.tuple (intsD C))), .no] = .ok false := by
    show ((dE cf (.bin .fdiv (.bin .mul (.var 0) (.bin .sub (.var 0) (.int 1))) (.int 2)) [.v (.d (.int s)), .v (.d (.tuple (intsD C))), .no]).bind fun y => cmpV .ne (.d (.int (((intsD C).length : Nat) : Int))) y.rd) = _
    rw [hK, hl]
    exact cmpNe rfl
  have e1 : loopAll (intsD C) (.name 2) [.v (.d (.int s)), .v (.d (.tuple (intsD C))), .no] (fun e1 => (dE cf (.call iz (.cons (.var 2) (.cons (.bin .sub (.int 0) (.glob "MOST_LIKING" 100)) (.cons (.glob "MOST_LIKING" 100) .nil)))) e1).bind fun x => truV x.rd) = .ok true := by
    have z := loopAll_all (i := 2) (e0 := [.v (.d (.int s)), .v (.d (.tuple (intsD C))), .no]) (k := fun e1 => (dE cf (.call iz (.cons (.var 2) (.cons (.bin .sub (.int 0) (.glob "MOST_LIKING" 100)) (.cons (.glob "MOST_LIKING" 100) .nil)))) e1).bind fun x => truV x.rd) (c := fun _ => true) (intsD C) fun x hx => by
      obtain ⟨i, h1, h2⟩ := List.mem_map.mp hx
      subst h2
      show ((cf iz [.d (.int i), .d (.int (-100)), .d (.int 100)]).bind fun x => truV x.rd) = _
      rw [hz i h1]
      rfl
    rw [z, all_true]
  have e2 : dE cf (.gx .all [2] (.name 2) (.iseq (.var 1)) (.call iz (.cons (.var 2) (.cons (.bin .sub (.int 0) (.glob "MOST_LIKING" 100)) (.cons (.glob "MOST_LIKING" 100) .nil))))) [.v (.d (.int s)), .v (.d (.tuple (intsD C))), .no] = .ok (.v (.d (.bool true))) := by
    show ((loopAll (intsD C) (.name 2) [.v (.d (.int s)), .v (.d (.tuple (intsD C))), .no] (fun e1 => (dE cf (.call iz (.cons (.var 2) (.cons (.bin .sub (.int 0) (.glob "MOST_LIKING" 100)) (.cons (.glob "MOST_LIKING" 100) .nil)))) e1).bind fun x => truV x.rd)).bind boolV) = _
    rw [e1]
    rfl
  show (((dT cf (.or (.not (.tst (.isI (.var 1) .tuple))) (.cmp .ne (.b1 .len (.var 1)) (.bin .fdiv (.bin .mul (.var 0) (.bin .sub (.var 0) (.int 1))) (.int 2)))) [.v (.d (.int s)), .v (.d (.tuple (intsD C))), .no]).bind _).bind _).bind _ = _
  rw [c1]
  show (((dE cf (.gx .all [2] (.name 2) (.iseq (.var 1)) (.call iz (.cons (.var 2) (.cons (.bin .sub (.int 0) (.glob "MOST_LIKING" 100)) (.cons (.glob "MOST_LIKING" 100) .nil))))) [.v (.d (.int s)), .v (.d (.tuple (intsD C))), .no]).bind _).bind _).bind _ = _
  rw [e2]
  rfl
def nlDef (al : Nat) : Def := ⟨2, 2, (.scons (.ifS (.not (.tst (.call al (.cons (.var 0) (.cons (.var 1) .nil))))) (.scons .noE .snil) .snil) .snil), false⟩
theorem nl_run {al : Nat} {s t : Val} (h : cf al [s, t] = .ok (.v (.d (.bool true)))) : runDef cf (nlDef al) [s, t] = .ok (.v (.d .none)) := by
  show ((((((cf al [s, t]).bind fun x => truV x.rd).bind _).bind _).bind _).bind _) = _
  rw [h]
  rfl
/-! ### a grouping's own: worth, is_calm -/
def ownDef (nd nl sz f : Nat) : Def := ⟨2, 2, (.scons (.ex (.call nd (.cons (.var 0) .nil))) (.scons (.ex (.call nl (.cons (.call sz (.cons (.var 0) .nil)) (.cons (.var 1) .nil)))) (.scons (.ret (.call f (.cons (.var 0) (.cons (.var 1) .nil)))) .snil))), false⟩
theorem own_run {nd nl sz f : Nat} {s : Int} {g x : D} {t : Val} (h1 : cf nd [.d g] = .ok (.v (.d .none))) (h2 : cf sz [.d g] = .ok (.v (.d (.int s)))) (h3 : cf nl [.d (.int s), t] = .ok (.v (.d .none))) (h4 : cf f [.d g, t] = .ok (.v (.d x))) : runDef cf (ownDef nd nl sz f) [.d g, t] = .ok (.v (.d x)) := by
  have a2 : dE cf (.call nl (.cons (.call sz (.cons (.var 0) .nil)) (.cons (.var 1) .nil))) [.v (.d g), .v t] = .ok (.v (.d .none)) := by
    show (((cf sz [.d g]).bind fun x => x.fz.bind fun v => R.bind (R.ok [t]) fun vs => R.ok (v :: vs)).bind fun xs => cf nl xs) = _
    rw [h2]
    exact h3
  show (((cf nd [.d g]).bind _).bind _).bind _ = _
  rw [h1]
  show (((dE cf (.call nl (.cons (.call sz (.cons (.var 0) .nil)) (.cons (.var 1) .nil))) [.v (.d g), .v t]).bind _).bind _).bind _ = _
  rw [a2]
  show (((cf f [.d g, t]).bind _).bind _).bind _ = _
  rw [h4]
  rfl
/-! ### best_of, best_grouping, shows_best_grouping -/
def prI (w : D → Int) (g : D) : D := .tuple [.int (w g), g]
theorem allPU_I {w : D → Int} : ∀ {l : List D}, (∀ g, g ∈ l → unif 2 g = true) → allPU (l.map (prI w)) = true
  | [], _ => rfl
  | g :: r, h => by
    have q : pairU (prI w g) = true := h g (List.mem_cons_self ..)
    show (match pairU (prI w g) with | true => allPU (r.map (prI w)) | false => false) = true
    rw [q]
    exact allPU_I fun x hx => h x (List.mem_cons_of_mem _ hx)
theorem lt_prI {w : D → Int} {g h : D} (z : ltD (prI w g) (prI w h) = true) : w g ≤ w h := by
  have z : (match eqD (.int (w g)) (.int (w h)) with | true => ltDs [g] [h] | false => iLt (w g) (w h)) = true := z
  cases q : eqD (.int (w g)) (.int (w h)) with
  | true =>
    have q : iEq (w g) (w h) = true := q
    rw [iEq_iff] at q
    exact Int.le_of_eq (of_decide_eq_true q)
  | false =>
    rw [q] at z
    have z : iLt (w g) (w h) = true := z
    rw [iLt_iff] at z
    exact Int.le_of_lt (of_decide_eq_true z)
theorem not_lt_prI {w : D → Int} {g h : D} (z : ltD (prI w g) (prI w h) = false) : w h ≤ w g := by
  have z : (match eqD (.int (w g)) (.int (w h)) with | true => ltDs [g] [h] | false => iLt (w g) (w h)) = false := z
  cases q : eqD (.int (w g)) (.int (w h)) with
  | true =>
    have q : iEq (w g) (w h) = true := q
    rw [iEq_iff] at q
    exact Int.le_of_eq (of_decide_eq_true q).symm
  | false =>
    rw [q] at z
    have z : iLt (w g) (w h) = false := z
    rw [iLt_iff] at z
    have := of_decide_eq_false z
    omega
theorem best_prI {w : D → Int} : ∀ (l : List D) (x : D), ∃ y, bestP false (prI w x) (l.map (prI w)) = prI w y ∧ y ∈ x :: l ∧ ∀ z, z ∈ x :: l → w z ≤ w y
  | [], x => ⟨x, rfl, List.mem_cons_self .., fun z hz => by
    rcases List.mem_cons.mp hz with e | h
    · rw [e]; exact Int.le_refl _
    · cases h⟩
  | u :: r, x => by
    cases q : ltD (prI w x) (prI w u) with
    | true =>
      obtain ⟨y, e1, e2, e3⟩ := best_prI (w := w) r u
      refine ⟨y, ?_, List.mem_cons_of_mem _ e2, fun z hz => ?_⟩
      · show (match ltD (prI w x) (prI w u) with | true => bestP false (prI w u) (r.map (prI w)) | false => bestP false (prI w x) (r.map (prI w))) = _
        rw [q]; exact e1
      · rcases List.mem_cons.mp hz with e | h
        · rw [e]; exact Int.le_trans (lt_prI q) (e3 u (List.mem_cons_self ..))
        · exact e3 z h
    | false =>
      obtain ⟨y, e1, e2, e3⟩ := best_prI (w := w) r x
      refine ⟨y, ?_, ?_, fun z hz => ?_⟩
      · show (match ltD (prI w x) (prI w u) with | true => bestP false (prI w u) (r.map (prI w)) | false => bestP false (prI w x) (r.map (prI w))) = _
        rw [q]; exact e1
      · rcases List.mem_cons.mp e2 with e | h
        · rw [e]; exact List.mem_cons_self ..
        · exact List.mem_cons_of_mem _ (List.mem_cons_of_mem _ h)
      · rcases List.mem_cons.mp hz with e | h
        · rw [e]; exact e3 x (List.mem_cons_self ..)
        · rcases List.mem_cons.mp h with e | h
          · rw [e]; exact Int.le_trans (not_lt_prI q) (e3 x (List.mem_cons_self ..))
          · exact e3 z (List.mem_cons_of_mem _ h)
def boDef (ag wo : Nat) : Def := ⟨2, 3, (.scons (.ret (.mnp false (.lc [2] (.name 2) (.iseq (.call ag (.cons (.var 0) .nil))) (.tup (.cons (.call wo (.cons (.var 2) (.cons (.var 1) .nil))) (.cons (.var 2) .nil)))))) .snil), false⟩
theorem bo_run {ag wo : Nat} {s : Int} {t : Val} {gl : List D} {w : D → Int} (h1 : cf ag [.d (.int s)] = .ok (.o (.d (.list gl)))) (h2 : ∀ g, g ∈ gl → cf wo [.d g, t] = .ok (.v (.d (.int (w g))))) (hu : ∀ g, g ∈ gl → unif 2 g = true) (h0 : gl ≠ []) (hn : gl.length ≤ 1000) :
    ∃ y, runDef cf (boDef ag wo) [.d (.int s), t] = .ok (.v (.d (prI w y))) ∧ y ∈ gl ∧ ∀ z, z ∈ gl → w z ≤ w y := by
  cases gl with
  | nil => exact absurd rfl h0
  | cons x l =>
    obtain ⟨y, b1, b2, b3⟩ := best_prI (w := w) l x
    refine ⟨y, ?_, b2, b3⟩
    have e1 : loopL (x :: l) (.name 2) [.v (.d (.int s)), .v t, .no] (fun e1 => (dE cf (.tup (.cons (.call wo (.cons (.var 2) (.cons (.var 1) .nil))) (.cons (.var 2) .nil))) e1).bind fzD) = .ok ((x :: l).map (prI w)) :=
      loopL_map (x :: l) fun y hy => by
        show (((((cf wo [.d y, t]).bind fun x => (fzD x).bind fun v => R.bind (R.ok [y]) fun vs => R.ok (v :: vs))).bind newT).bind fzD) = _
        rw [h2 y hy]
        rfl
    have e2 : dE cf (.mnp false (.lc [2] (.name 2) (.iseq (.call ag (.cons (.var 0) .nil))) (.tup (.cons (.call wo (.cons (.var 2) (.cons (.var 1) .nil))) (.cons (.var 2) .nil))))) [.v (.d (.int s)), .v t, .no] = .ok (.v (.d (prI w y))) := by
      show ((((cf ag [.d (.int s)]).bind fun x => x.fz.bind seqV).bind fun xs => (loopL xs (.name 2) [.v (.d (.int s)), .v t, .no] (fun e1 => (dE cf (.tup (.cons (.call wo (.cons (.var 2) (.cons (.var 1) .nil))) (.cons (.var 2) .nil))) e1).bind fzD)).bind newL).bind fun x => mnpV false x.rd) = _
      rw [h1]
      show (((loopL (x :: l) (.name 2) [.v (.d (.int s)), .v t, .no] (fun e1 => (dE cf (.tup (.cons (.call wo (.cons (.var 2) (.cons (.var 1) .nil))) (.cons (.var 2) .nil))) e1).bind fzD)).bind newL).bind fun x => mnpV false x.rd) = _
      rw [e1]
      show ((newL ((x :: l).map (prI w))).bind fun x => mnpV false x.rd) = _
      rw [newL_few (by rw [List.length_map]; exact hn)]
      show (match allPU (prI w x :: l.map (prI w)) with | true => R.ok (RV.v (.d (bestP false (prI w x) (l.map (prI w))))) | false => R.stuck) = _
      have z := allPU_I (w := w) hu
      rw [show prI w x :: l.map (prI w) = (x :: l).map (prI w) from rfl, z, b1]
    show (((dE cf (.mnp false (.lc [2] (.name 2) (.iseq (.call ag (.cons (.var 0) .nil))) (.tup (.cons (.call wo (.cons (.var 2) (.cons (.var 1) .nil))) (.cons (.var 2) .nil))))) [.v (.d (.int s)), .v t, .no]).bind _).bind _).bind _ = _
    rw [e2]
    rfl
def bgDef (nq bo : Nat) : Def := ⟨2, 2, (.scons (.ex (.call nq (.cons (.var 0) (.cons (.var 1) .nil)))) (.scons (.ret (.call bo (.cons (.var 0) (.cons (.var 1) .nil)))) .snil)), false⟩
theorem bg_run {nq bo : Nat} {s t : Val} {x : D} (h1 : cf nq [s, t] = .ok (.v (.d .none))) (h2 : cf bo [s, t] = .ok (.v (.d x))) : runDef cf (bgDef nq bo) [s, t] = .ok (.v (.d x)) := by
  show (((cf nq [s, t]).bind _).bind _).bind _ = _
  rw [h1]
  show (((cf bo [s, t]).bind _).bind _).bind _ = _
  rw [h2]
  rfl
def sbgDef (nq bo iz ig sz wo : Nat) : Def := ⟨3, 4, (.scons (.ex (.call nq (.cons (.var 0) (.cons (.var 1) .nil)))) (.scons (.asg (.name 3) (.ix (.call bo (.cons (.var 0) (.cons (.var 1) .nil))) (.int 0))) (.scons (.ifS (.or (.not (.tst (.isI (.var 2) .tuple))) (.or (.cmp .ne (.b1 .len (.var 2)) (.int 2)) (.not (.tst (.call iz (.cons (.ix (.var 2) (.int 0)) (.cons (.var 3) (.cons (.var 3) .nil)))))))) (.scons (.ret (.bl false)) .snil) .snil) (.scons (.ifS (.or (.not (.tst (.call ig (.cons (.ix (.var 2) (.int 1)) .nil)))) (.cmp .ne (.call sz (.cons (.ix (.var 2) (.int 1)) .nil)) (.var 0))) (.scons (.ret (.bl false)) .snil) .snil) (.scons (.ret (.cmp .eq (.call wo (.cons (.ix (.var 2) (.int 1)) (.cons (.var 1) .nil))) (.var 3))) .snil))))), false⟩
theorem sbg_run {nq bo iz ig sz wo : Nat} {s v : Int} {t : Val} {y h : D} {w : D → Int} (h1 : cf nq [.d (.int s), t] = .ok (.v (.d .none))) (h2 : cf bo [.d (.int s), t] = .ok (.v (.d (prI w y)))) (h3 : cf iz [.d (.int v), .d (.int (w y)), .d (.int (w y))] = .ok (.v (.d (.bool true)))) (h4 : cf ig [.d h] = .ok (.v (.d (.bool true)))) (h5 : cf sz [.d h] = .ok (.v (.d (.int s)))) (h6 : cf wo [.d h, t] = .ok (.v (.d (.int (w h))))) :
    runDef cf (sbgDef nq bo iz ig sz wo) [.d (.int s), t, .d (.tuple [.int v, h])] = .ok (.v (.d (.bool (iEq (w h) (w y))))) := by
  have c2 : dT cf (.or (.not (.tst (.call ig (.cons (.ix (.var 2) (.int 1)) .nil)))) (.cmp .ne (.call sz (.cons (.ix (.var 2) (.int 1)) .nil)) (.var 0))) [.v (.d (.int s)), .v t, .v (.d (.tuple [.int v, h])), .v (.d (.int (w y)))] = .ok false := by
    refine orF ?_ ?_
    · show (((cf ig [.d h]).bind fun x => truV x.rd).bind fun b => R.ok (!b)) = _
      rw [h4]
      rfl
    · show ((cf sz [.d h]).bind fun x => cmpV .ne x.rd (.d (.int s))) = _
      rw [h5]
      exact cmpNe rfl
  have c1 : dT cf (.or (.not (.tst (.isI (.var 2) .tuple))) (.or (.cmp .ne (.b1 .len (.var 2)) (.int 2)) (.not (.tst (.call iz (.cons (.ix (.var 2) (.int 0)) (.cons (.var 3) (.cons (.var 3) .nil)))))))) [.v (.d (.int s)), .v t, .v (.d (.tuple [.int v, h])), .v (.d (.int (w y)))] = .ok false := by
    refine orF rfl (orF rfl ?_)
    show (((cf iz [.d (.int v), .d (.int (w y)), .d (.int (w y))]).bind fun x => truV x.rd).bind fun b => R.ok (!b)) = _
    rw [h3]
    rfl
  show (((cf nq [.d (.int s), t]).bind _).bind _).bind _ = _
  rw [h1]
  show ((((cf bo [.d (.int s), t]).bind fun x => ixV x.rd (.d (.int 0))).bind _).bind _).bind _ = _
  rw [h2]
  show (((dT cf (.or (.not (.tst (.isI (.var 2) .tuple))) (.or (.cmp .ne (.b1 .len (.var 2)) (.int 2)) (.not (.tst (.call iz (.cons (.ix (.var 2) (.int 0)) (.cons (.var 3) (.cons (.var 3) .nil)))))))) [.v (.d (.int s)), .v t, .v (.d (.tuple [.int v, h])), .v (.d (.int (w y)))]).bind _).bind _).bind _ = _
  rw [c1]
  show (((dT cf (.or (.not (.tst (.call ig (.cons (.ix (.var 2) (.int 1)) .nil)))) (.cmp .ne (.call sz (.cons (.ix (.var 2) (.int 1)) .nil)) (.var 0))) [.v (.d (.int s)), .v t, .v (.d (.tuple [.int v, h])), .v (.d (.int (w y)))]).bind _).bind _).bind _ = _
  rw [c2]
  show (((((cf wo [.d h, t]).bind fun x => (cmpV .eq x.rd (.d (.int (w y)))).bind boolV).bind _).bind _).bind _) = _
  rw [h6]
  rfl
/-! ### a walk with an early way out -/
theorem scan_loop {tg : Tg} {body : Env → R Out} {I : Env → Prop} {t : D → Bool} : ∀ (xs : List D) (e : Env), I e → (∀ x, x ∈ xs → ∀ e, I e → ∃ e1, setTg e tg x = .ok e1 ∧ (t x = true → ∃ e2, I e2 ∧ body e1 = .ok (.nx e2)) ∧ (t x = false → body e1 = .ok (.rt (.v (.d (.bool false)))))) →
    (allB' t xs = true → ∃ e2, I e2 ∧ loopFor xs tg body e = .ok (.nx e2)) ∧ (allB' t xs = false → loopFor xs tg body e = .ok (.rt (.v (.d (.bool false)))))
  | [], e, he, _ => ⟨fun _ => ⟨e, he, rfl⟩, fun h => by cases h⟩
  | x :: xs, e, he, h => by
    obtain ⟨e1, s1, h1, h2⟩ := h x (List.mem_cons_self ..) e he
    have hr : ∀ y, y ∈ xs → ∀ e, I e → ∃ e1, setTg e tg y = .ok e1 ∧ (t y = true → ∃ e2, I e2 ∧ body e1 = .ok (.nx e2)) ∧ (t y = false → body e1 = .ok (.rt (.v (.d (.bool false))))) := fun y hy => h y (List.mem_cons_of_mem _ hy)
    cases q : t x with
    | true =>
      obtain ⟨e2, i2, b2⟩ := h1 q
      obtain ⟨r1, r2⟩ := scan_loop xs e2 i2 hr
      refine ⟨fun ha => ?_, fun ha => ?_⟩
      · have ha : (match t x with | true => allB' t xs | false => false) = true := ha
        rw [q] at ha
        obtain ⟨e3, i3, b3⟩ := r1 ha
        refine ⟨e3, i3, ?_⟩
        show ((setTg e tg x).bind fun e1 => (body e1).bind _) = _
        rw [s1]
        show ((body e1).bind _) = _
        rw [b2]
        exact b3
      · have ha : (match t x with | true => allB' t xs | false => false) = false := ha
        rw [q] at ha
        show ((setTg e tg x).bind fun e1 => (body e1).bind _) = _
        rw [s1]
        show ((body e1).bind _) = _
        rw [b2]
        exact r2 ha
    | false =>
      refine ⟨fun ha => ?_, fun _ => ?_⟩
      · have ha : (match t x with | true => allB' t xs | false => false) = true := ha
        rw [q] at ha
        cases ha
      · show ((setTg e tg x).bind fun e1 => (body e1).bind _) = _
        rw [s1]
        show ((body e1).bind _) = _
        rw [h2 q]
        rfl
/-! ### calm -/
def caIn (sw : Nat) : Ex := (.frz [2] (.scons (.ifS (.cmp .lt (.call sw (.cons (.tup (.cons (.var 4) .nil)) (.cons (.b1 .tuple (.lcIf [5] (.name 5) (.iseq (.var 3)) (.var 5) (.cmp .ne (.var 5) (.var 4)))) (.cons (.var 2) (.cons (.var 1) .nil))))) (.int 0)) (.scons (.ret (.bl false)) .snil) .snil) .snil))
def caOut (sw : Nat) : Ex := (.scons (.forS (.name 4) (.iseq (.var 3)) (caIn sw)) .snil)
def caTwo (sw : Nat) : Ex := (.frz [2] (.scons (.ifS (.tst (.gx .any [7] (.name 7) (.iseq (.sl (.var 0) .noE (.cons (.var 6) .nil))) (.cmp .gt (.call sw (.cons (.var 3) (.cons (.var 7) (.cons (.var 2) (.cons (.var 1) .nil))))) (.int 0)))) (.scons (.ret (.bl false)) .snil) .snil) .snil))
def caDef (sz sw : Nat) : Def := ⟨2, 8, (.scons (.asg (.name 2) (.call sz (.cons (.var 0) .nil))) (.scons (.forS (.name 3) (.iseq (.var 0)) (caOut sw)) (.scons (.forS (.tup [6, 3]) (.ienum (.var 0)) (caTwo sw)) (.scons (.ret (.bl true)) .snil)))), false⟩
/-- the lot without one -/
def rest1 (lot p : D) : D := match lot with
  | .tuple l => .tuple (pickB (fun x => !eqD x p) l)
  | _ => .none
def itemsD : D → List D
  | .tuple l => l
  | _ => []
def tIn (σ : D → D → Int) (lot p : D) : Bool := !iLt (σ (.tuple [p]) (rest1 lot p)) 0
def tTwo (σ : D → D → Int) (l : List D) (x : D) : Bool := match x with
  | .tuple [.int i, lot] => !anyB' (fun o => iLt 0 (σ lot o)) (slL l none (some i))
  | _ => false
def calmB (σ : D → D → Int) (l : List D) : Bool := allB' (fun lot => allB' (fun p => tIn σ lot p) (itemsD lot)) l && allB' (tTwo σ l) (enumFrom 0 l)
theorem enum_mem : ∀ {l : List D} {i : Int} {x : D}, x ∈ enumFrom i l → ∃ k lot, x = .tuple [.int k, lot] ∧ lot ∈ l
  | y :: r, i, x, h => by
    rcases List.mem_cons.mp h with e | h
    · exact ⟨i, y, e, List.mem_cons_self ..⟩
    · obtain ⟨k, lot, e, m⟩ := enum_mem h
      exact ⟨k, lot, e, List.mem_cons_of_mem _ m⟩
theorem slL_sub (l : List D) (a b : Option Int) : ∀ x, x ∈ slL l a b → x ∈ l := fun x hx => by
  unfold slL at hx
  exact List.mem_of_mem_drop (List.mem_of_mem_take hx)
theorem ca_run {sz sw : Nat} {s : Int} {l : List D} {CC : D} {σ : D → D → Int} (h1 : cf sz [.d (.tuple l)] = .ok (.v (.d (.int s)))) (h2 : ∀ lot, lot ∈ l → ∃ ps, lot = .tuple ps ∧ ps.length ≤ 1000 ∧ ∀ p, p ∈ ps → okD 8 p = true)
    (h3 : ∀ lot, lot ∈ l → ∀ p, p ∈ itemsD lot → cf sw [.d (.tuple [p]), .d (rest1 lot p), .d (.int s), .d CC] = .ok (.v (.d (.int (σ (.tuple [p]) (rest1 lot p)))))) (h4 : ∀ lot, lot ∈ l → ∀ o, o ∈ l → cf sw [.d lot, .d o, .d (.int s), .d CC] = .ok (.v (.d (.int (σ lot o))))) :
    runDef cf (caDef sz sw) [.d (.tuple l), .d CC] = .ok (.v (.d (.bool (calmB σ l)))) := by
  have I1 : ∀ lot, lot ∈ l → ∀ a4 a6, (allB' (fun p => tIn σ lot p) (itemsD lot) = true → ∃ a4', dS cf (caOut sw) [.v (.d (.tuple l)), .v (.d CC), .v (.d (.int s)), .v (.d lot), a4, .no, a6, .no] = .ok (.nx [.v (.d (.tuple l)), .v (.d CC), .v (.d (.int s)), .v (.d lot), a4', .no, a6, .no])) ∧ (allB' (fun p => tIn σ lot p) (itemsD lot) = false → dS cf (caOut sw) [.v (.d (.tuple l)), .v (.d CC), .v (.d (.int s)), .v (.d lot), a4, .no, a6, .no] = .ok (.rt (.v (.d (.bool false))))) := fun lot hl a4 a6 => by
    obtain ⟨ps, e, hn, hk⟩ := h2 lot hl
    have z := scan_loop (tg := .name 4) (body := fun e => dS cf (caIn sw) e) (I := fun e => ∃ a4, e = [.v (.d (.tuple l)), .v (.d CC), .v (.d (.int s)), .v (.d lot), a4, .no, a6, .no]) (t := fun p => tIn σ lot p) ps [.v (.d (.tuple l)), .v (.d CC), .v (.d (.int s)), .v (.d lot), a4, .no, a6, .no] ⟨a4, rfl⟩ fun p hp e he => by
      obtain ⟨b4, he⟩ := he
      subst he
      refine ⟨[.v (.d (.tuple l)), .v (.d CC), .v (.d (.int s)), .v (.d lot), .v (.d p), .no, a6, .no], rfl, ?_⟩
      have q := h3 lot hl p (by rw [e]; exact hp)
      have lp : loopIf ps (.name 5) [.v (.d (.tuple l)), .v (.d CC), .v (.d (.int s)), .v (.d lot), .v (.d p), .no, a6, .no] (fun e1 => (dE cf (.var 5) e1).bind fzD) (fun e1 => dT cf (.cmp .ne (.var 5) (.var 4)) e1) = .ok ((pickB (fun x => !eqD x p) ps).map fun x => x) :=
        loopIf_pick ps fun x hx => ⟨by
          show (match okD 8 x, okD 8 p with | true, true => R.ok (!eqD x p) | _, _ => _) = _
          rw [hk x hx, hk p hp], rfl⟩
      rw [List.map_id'] at lp
      have ca : dE cf (.call sw (.cons (.tup (.cons (.var 4) .nil)) (.cons (.b1 .tuple (.lcIf [5] (.name 5) (.iseq (.var 3)) (.var 5) (.cmp .ne (.var 5) (.var 4)))) (.cons (.var 2) (.cons (.var 1) .nil))))) [.v (.d (.tuple l)), .v (.d CC), .v (.d (.int s)), .v (.d lot), .v (.d p), .no, a6, .no] = .ok (.v (.d (.int (σ (.tuple [p]) (rest1 lot p))))) := by
        rw [e] at lp q ⊢
        show ((((((loopIf ps (.name 5) [.v (.d (.tuple l)), .v (.d CC), .v (.d (.int s)), .v (.d (.tuple ps)), .v (.d p), .no, a6, .no] (fun e1 => (dE cf (.var 5) e1).bind fzD) (fun e1 => dT cf (.cmp .ne (.var 5) (.var 4)) e1)).bind newL).bind fun x => b1V .tuple x.rd).bind fun x => x.fz.bind fun v => R.bind (R.ok [.d (.int s), .d CC]) fun vs => R.ok (v :: vs)).bind fun vs => R.ok (Val.d (.tuple [p]) :: vs)).bind fun xs => cf sw xs) = _
        rw [lp]
        show (((((newL (pickB (fun x => !eqD x p) ps)).bind fun x => b1V .tuple x.rd).bind fun x => x.fz.bind fun v => R.bind (R.ok [.d (.int s), .d CC]) fun vs => R.ok (v :: vs)).bind fun vs => R.ok (Val.d (.tuple [p]) :: vs)).bind fun xs => cf sw xs) = _
        rw [newL_few (Nat.le_trans (pick_len ps) hn)]
        exact q
      have tt : dT cf (.cmp .lt (.call sw (.cons (.tup (.cons (.var 4) .nil)) (.cons (.b1 .tuple (.lcIf [5] (.name 5) (.iseq (.var 3)) (.var 5) (.cmp .ne (.var 5) (.var 4)))) (.cons (.var 2) (.cons (.var 1) .nil))))) (.int 0)) [.v (.d (.tuple l)), .v (.d CC), .v (.d (.int s)), .v (.d lot), .v (.d p), .no, a6, .no] = .ok (!tIn σ lot p) := by
        show ((dE cf (.call sw (.cons (.tup (.cons (.var 4) .nil)) (.cons (.b1 .tuple (.lcIf [5] (.name 5) (.iseq (.var 3)) (.var 5) (.cmp .ne (.var 5) (.var 4)))) (.cons (.var 2) (.cons (.var 1) .nil))))) [.v (.d (.tuple l)), .v (.d CC), .v (.d (.int s)), .v (.d lot), .v (.d p), .no, a6, .no]).bind fun x => cmpV .lt x.rd (.d (.int 0))) = _
        rw [ca]
        show R.ok (iLt (σ (.tuple [p]) (rest1 lot p)) 0) = _
        unfold tIn
        rw [Bool.not_not]
      refine ⟨fun ht => ⟨_, ⟨.v (.d p), rfl⟩, ?_⟩, fun ht => ?_⟩
      · show (((dT cf (.cmp .lt (.call sw (.cons (.tup (.cons (.var 4) .nil)) (.cons (.b1 .tuple (.lcIf [5] (.name 5) (.iseq (.var 3)) (.var 5) (.cmp .ne (.var 5) (.var 4)))) (.cons (.var 2) (.cons (.var 1) .nil))))) (.int 0)) [.v (.d (.tuple l)), .v (.d CC), .v (.d (.int s)), .v (.d lot), .v (.d p), .no, a6, .no]).bind _).bind _) = _
        rw [tt, ht]
        rfl
      · show (((dT cf (.cmp .lt (.call sw (.cons (.tup (.cons (.var 4) .nil)) (.cons (.b1 .tuple (.lcIf [5] (.name 5) (.iseq (.var 3)) (.var 5) (.cmp .ne (.var 5) (.var 4)))) (.cons (.var 2) (.cons (.var 1) .nil))))) (.int 0)) [.v (.d (.tuple l)), .v (.d CC), .v (.d (.int s)), .v (.d lot), .v (.d p), .no, a6, .no]).bind _).bind _) = _
        rw [tt, ht]
        rfl
    have ei : itemsD lot = ps := by rw [e]; rfl
    rw [ei]
    refine ⟨fun ha => ?_, fun ha => ?_⟩
    · obtain ⟨e2, ⟨b4, i2⟩, q⟩ := z.1 ha
      refine ⟨b4, ?_⟩
      rw [i2] at q
      rw [e] at q ⊢
      show ((loopFor ps (.name 4) (fun e => dS cf (caIn sw) e) [.v (.d (.tuple l)), .v (.d CC), .v (.d (.int s)), .v (.d (.tuple ps)), a4, .no, a6, .no]).bind _) = _
      rw [q]
      rfl
    · have q := z.2 ha
      rw [e] at q ⊢
      show ((loopFor ps (.name 4) (fun e => dS cf (caIn sw) e) [.v (.d (.tuple l)), .v (.d CC), .v (.d (.int s)), .v (.d (.tuple ps)), a4, .no, a6, .no]).bind _) = _
      rw [q]
      rfl
  have z1 := scan_loop (tg := .name 3) (body := fun e => dS cf (caOut sw) e) (I := fun e => ∃ a3 a4 a6, e = [.v (.d (.tuple l)), .v (.d CC), .v (.d (.int s)), a3, a4, .no, a6, .no]) (t := fun lot => allB' (fun p => tIn σ lot p) (itemsD lot)) l [.v (.d (.tuple l)), .v (.d CC), .v (.d (.int s)), .no, .no, .no, .no, .no] ⟨.no, .no, .no, rfl⟩ fun lot hl e he => by
    obtain ⟨a3, a4, a6, he⟩ := he
    subst he
    refine ⟨[.v (.d (.tuple l)), .v (.d CC), .v (.d (.int s)), .v (.d lot), a4, .no, a6, .no], rfl, fun ht => ?_, fun ht => (I1 lot hl a4 a6).2 ht⟩
    obtain ⟨a4', q⟩ := (I1 lot hl a4 a6).1 ht
    exact ⟨_, ⟨_, _, _, rfl⟩, q⟩
  have z2 : ∀ a3 a4 a6, _ := fun a3 a4 a6 => scan_loop (tg := .tup [6, 3]) (body := fun e => dS cf (caTwo sw) e) (I := fun e => ∃ a3 a4 a6, e = [.v (.d (.tuple l)), .v (.d CC), .v (.d (.int s)), a3, a4, .no, a6, .no]) (t := tTwo σ l) (enumFrom 0 l) [.v (.d (.tuple l)), .v (.d CC), .v (.d (.int s)), a3, a4, .no, a6, .no] ⟨a3, a4, a6, rfl⟩ fun x hx e he => by
    obtain ⟨b3, b4, b6, he⟩ := he
    subst he
    obtain ⟨k, lot, ex, hl⟩ := enum_mem hx
    subst ex
    refine ⟨[.v (.d (.tuple l)), .v (.d CC), .v (.d (.int s)), .v (.d lot), b4, .no, .v (.d (.int k)), .no], rfl, ?_⟩
    have lp : loopAny (slL l none (some k)) (.name 7) [.v (.d (.tuple l)), .v (.d CC), .v (.d (.int s)), .v (.d lot), b4, .no, .v (.d (.int k)), .no] (fun e1 => (dE cf (.cmp .gt (.call sw (.cons (.var 3) (.cons (.var 7) (.cons (.var 2) (.cons (.var 1) .nil))))) (.int 0)) e1).bind fun x => truV x.rd) = .ok (anyB' (fun o => iLt 0 (σ lot o)) (slL l none (some k))) :=
      loopAny_any (slL l none (some k)) fun o ho => by
        show ((((cf sw [.d lot, .d o, .d (.int s), .d CC]).bind fun x => (cmpV .gt x.rd (.d (.int 0))).bind boolV)).bind fun x => truV x.rd) = _
        rw [h4 lot hl o (slL_sub l _ _ o ho)]
        rfl
    have tt : dT cf (.tst (.gx .any [7] (.name 7) (.iseq (.sl (.var 0) .noE (.cons (.var 6) .nil))) (.cmp .gt (.call sw (.cons (.var 3) (.cons (.var 7) (.cons (.var 2) (.cons (.var 1) .nil))))) (.int 0)))) [.v (.d (.tuple l)), .v (.d CC), .v (.d (.int s)), .v (.d lot), b4, .no, .v (.d (.int k)), .no] = .ok (!tTwo σ l (.tuple [.int k, lot])) := by
      show (((loopAny (slL l none (some k)) (.name 7) [.v (.d (.tuple l)), .v (.d CC), .v (.d (.int s)), .v (.d lot), b4, .no, .v (.d (.int k)), .no] (fun e1 => (dE cf (.cmp .gt (.call sw (.cons (.var 3) (.cons (.var 7) (.cons (.var 2) (.cons (.var 1) .nil))))) (.int 0)) e1).bind fun x => truV x.rd)).bind boolV).bind fun x => truV x.rd) = _
      rw [lp]
      show R.ok (anyB' (fun o => iLt 0 (σ lot o)) (slL l none (some k))) = R.ok (!!anyB' (fun o => iLt 0 (σ lot o)) (slL l none (some k)))
      rw [Bool.not_not]
    refine ⟨fun ht => ⟨[.v (.d (.tuple l)), .v (.d CC), .v (.d (.int s)), .v (.d lot), b4, .no, .v (.d (.int k)), .no], ⟨_, _, _, rfl⟩, ?_⟩, fun ht => ?_⟩
    · show (((dT cf (.tst (.gx .any [7] (.name 7) (.iseq (.sl (.var 0) .noE (.cons (.var 6) .nil))) (.cmp .gt (.call sw (.cons (.var 3) (.cons (.var 7) (.cons (.var 2) (.cons (.var 1) .nil))))) (.int 0)))) [.v (.d (.tuple l)), .v (.d CC), .v (.d (.int s)), .v (.d lot), b4, .no, .v (.d (.int k)), .no]).bind _).bind _) = _
      rw [tt, ht]
      rfl
    · show (((dT cf (.tst (.gx .any [7] (.name 7) (.iseq (.sl (.var 0) .noE (.cons (.var 6) .nil))) (.cmp .gt (.call sw (.cons (.var 3) (.cons (.var 7) (.cons (.var 2) (.cons (.var 1) .nil))))) (.int 0)))) [.v (.d (.tuple l)), .v (.d CC), .v (.d (.int s)), .v (.d lot), b4, .no, .v (.d (.int k)), .no]).bind _).bind _) = _
      rw [tt, ht]
      rfl
  show ((((cf sz [.d (.tuple l)]).bind _).bind _).bind _) = _
  rw [h1]
  show ((((loopFor l (.name 3) (fun e => dS cf (caOut sw) e) [.v (.d (.tuple l)), .v (.d CC), .v (.d (.int s)), .no, .no, .no, .no, .no]).bind _).bind _)) = _
  unfold calmB
  cases q1 : allB' (fun lot => allB' (fun p => tIn σ lot p) (itemsD lot)) l with
  | false =>
    rw [z1.2 q1]
    rfl
  | true =>
    obtain ⟨e2, ⟨a3, a4, a6, i2⟩, b2⟩ := z1.1 q1
    rw [b2, i2]
    show ((((loopFor (enumFrom 0 l) (.tup [6, 3]) (fun e => dS cf (caTwo sw) e) [.v (.d (.tuple l)), .v (.d CC), .v (.d (.int s)), a3, a4, .no, a6, .no]).bind _).bind _)) = _
    cases q2 : allB' (tTwo σ l) (enumFrom 0 l) with
    | false =>
      rw [(z2 a3 a4 a6).2 q2]
      rfl
    | true =>
      obtain ⟨e3, _, b3⟩ := (z2 a3 a4 a6).1 q2
      rw [b3]
      rfl
def coDef (nq ag ca : Nat) : Def := ⟨2, 3, (.scons (.ex (.call nq (.cons (.var 0) (.cons (.var 1) .nil)))) (.scons (.ret (.b1 .tuple (.lcIf [2] (.name 2) (.iseq (.call ag (.cons (.var 0) .nil))) (.var 2) (.tst (.call ca (.cons (.var 2) (.cons (.var 1) .nil))))))) .snil)), false⟩
theorem co_run {nq ag ca : Nat} {s : Int} {t : Val} {gl : List D} {c : D → Bool} (h1 : cf nq [.d (.int s), t] = .ok (.v (.d .none))) (h2 : cf ag [.d (.int s)] = .ok (.o (.d (.list gl)))) (h3 : ∀ g, g ∈ gl → cf ca [.d g, t] = .ok (.v (.d (.bool (c g))))) (hn : gl.length ≤ 1000) : runDef cf (coDef nq ag ca) [.d (.int s), t] = .ok (.v (.d (.tuple (pickB c gl)))) := by
  have e1 : loopIf gl (.name 2) [.v (.d (.int s)), .v t, .no] (fun e1 => (dE cf (.var 2) e1).bind fzD) (fun e1 => dT cf (.tst (.call ca (.cons (.var 2) (.cons (.var 1) .nil)))) e1) = .ok ((pickB c gl).map fun x => x) :=
    loopIf_pick gl fun g hg => ⟨by
      show ((cf ca [.d g, t]).bind fun x => truV x.rd) = _
      rw [h3 g hg]
      rfl, rfl⟩
  rw [List.map_id'] at e1
  have e2 : dE cf (.b1 .tuple (.lcIf [2] (.name 2) (.iseq (.call ag (.cons (.var 0) .nil))) (.var 2) (.tst (.call ca (.cons (.var 2) (.cons (.var 1) .nil)))))) [.v (.d (.int s)), .v t, .no] = .ok (.v (.d (.tuple (pickB c gl)))) := by
    show ((((cf ag [.d (.int s)]).bind fun x => x.fz.bind seqV).bind fun xs => (loopIf xs (.name 2) [.v (.d (.int s)), .v t, .no] (fun e1 => (dE cf (.var 2) e1).bind fzD) (fun e1 => dT cf (.tst (.call ca (.cons (.var 2) (.cons (.var 1) .nil)))) e1)).bind newL).bind fun x => b1V .tuple x.rd) = _
    rw [h2]
    show (((loopIf gl (.name 2) [.v (.d (.int s)), .v t, .no] (fun e1 => (dE cf (.var 2) e1).bind fzD) (fun e1 => dT cf (.tst (.call ca (.cons (.var 2) (.cons (.var 1) .nil)))) e1)).bind newL).bind fun x => b1V .tuple x.rd) = _
    rw [e1]
    show ((newL (pickB c gl)).bind fun x => b1V .tuple x.rd) = _
    rw [newL_few (Nat.le_trans (pick_len gl) hn)]
    rfl
  show (((cf nq [.d (.int s), t]).bind _).bind _).bind _ = _
  rw [h1]
  show (((dE cf (.b1 .tuple (.lcIf [2] (.name 2) (.iseq (.call ag (.cons (.var 0) .nil))) (.var 2) (.tst (.call ca (.cons (.var 2) (.cons (.var 1) .nil)))))) [.v (.d (.int s)), .v t, .no]).bind _).bind _).bind _ = _
  rw [e2]
  rfl
end
end Ev

/-! Pairs in lots, told in plain Lean; climbing from a top. -/
namespace Ev
open PySem
def hasD (x : D) : D → Bool
  | .tuple l => l.any fun z => eqD z x
  | _ => false
/-- a pair of people -/
def fstD : D → D
  | .tuple l => match l with
    | a :: _ => a
    | [] => .none
  | _ => .none
def sndD : D → D
  | .tuple l => match l with
    | _ :: r => (match r with
      | b :: _ => b
      | [] => .none)
    | [] => .none
  | _ => .none
def tgD (g p : D) : Bool := anyB' (fun lot => hasD (fstD p) lot && hasD (sndD p) lot) (itemsD g)
def btwB (A B p : D) : Bool := (hasD (fstD p) A && hasD (sndD p) B) || (hasD (fstD p) B && hasD (sndD p) A)
def okP (p : D) : Prop := ∃ a b, p = .tuple [a, b] ∧ okD 8 a = true ∧ okD 8 b = true
def okL (l : D) : Prop := ∃ xs, l = .tuple xs ∧ okDs 8 xs = true
theorem isin_has {x l : D} (hx : okD 8 x = true) (hl : okL l) : cmpV .isin (.d x) (.d l) = .ok (hasD x l) := by
  obtain ⟨xs, e, h⟩ := hl
  subst e
  show (match okD 8 x, okDs 8 xs with | true, true => R.ok (xs.any fun z => eqD z x) | _, _ => R.stuck) = _
  rw [hx, h]
  rfl
section
variable {cf : Nat → List Val → R RV}
theorem togX_run {gl : List D} {p : D} (hp : okP p) (hg : ∀ l, l ∈ gl → okL l) (x1 x2 x4 : Slot) : dT cf togX [.v (.d (.tuple gl)), x1, x2, .v (.d p), x4, .no] = .ok (tgD (.tuple gl) p) := by
  obtain ⟨a, b, e, ha, hb⟩ := hp
  subst e
  have z : loopAny gl (.name 5) [.v (.d (.tuple gl)), x1, x2, .v (.d (.tuple [a, b])), x4, .no] (fun e1 => (dE cf (.and (.cmp .isin (.ix (.var 3) (.int 0)) (.var 5)) (.cmp .isin (.ix (.var 3) (.int 1)) (.var 5))) e1).bind fun x => truV x.rd) = .ok (anyB' (fun lot => hasD a lot && hasD b lot) gl) :=
    loopAny_any gl fun l hl => by
      show (((((cmpV .isin (.d a) (.d l)).bind boolV).bind fun x => match x with | .v (.d (.bool true)) => (cmpV .isin (.d b) (.d l)).bind boolV | .v (.d (.bool false)) => boolV false | _ => R.stuck)).bind fun x => truV x.rd) = _
      rw [isin_has ha (hg l hl), isin_has hb (hg l hl)]
      cases hasD a l <;> cases hasD b l <;> rfl
  show (((loopAny gl (.name 5) [.v (.d (.tuple gl)), x1, x2, .v (.d (.tuple [a, b])), x4, .no] (fun e1 => (dE cf (.and (.cmp .isin (.ix (.var 3) (.int 0)) (.var 5)) (.cmp .isin (.ix (.var 3) (.int 1)) (.var 5))) e1).bind fun x => truV x.rd)).bind boolV).bind fun x => truV x.rd) = _
  rw [z]
  rfl
theorem btwX_run {A B p : D} (hp : okP p) (hA : okL A) (hB : okL B) (x2 x3 x4 x6 : Slot) : dT cf btwX [.v (.d A), .v (.d B), x2, x3, x4, .v (.d p), x6] = .ok (btwB A B p) := by
  obtain ⟨a, b, e, ha, hb⟩ := hp
  subst e
  show ((((cmpV .isin (.d a) (.d A)).bind fun k => match k with | true => cmpV .isin (.d b) (.d B) | false => R.ok false)).bind fun k => match k with | true => R.ok true | false => ((cmpV .isin (.d a) (.d B)).bind fun k => match k with | true => cmpV .isin (.d b) (.d A) | false => R.ok false)) = _
  rw [isin_has ha hA, isin_has hb hB, isin_has ha hB, isin_has hb hA]
  show _ = R.ok ((hasD a A && hasD b B) || (hasD a B && hasD b A))
  cases hasD a A <;> cases hasD b B <;> cases hasD a B <;> cases hasD b A <;> rfl
/-! ### climbing from where no step is better -/
def clFor (sp wo : Nat) : Ex := .frz [0] (.scons (.asg (.name 5) (.call wo (.cons (.call sp (.cons (.var 0) (.cons (.var 4) .nil))) (.cons (.var 1) .nil)))) (.scons (.ifS (.or (.isN false (.var 3)) (.cmp .gt (.var 5) (.ix (.var 3) (.int 0)))) (.frz [5] (.scons (.asg (.name 3) (.tup (.cons (.var 5) (.cons (.var 4) .nil)))) .snil)) .snil) .snil))
def clBody (az sz sp wo : Nat) : Ex := .scons (.asg (.name 3) .non) (.frz [0] (.scons (.forS (.name 4) (.iseq (.call az (.cons (.call sz (.cons (.var 0) .nil)) .nil))) (clFor sp wo)) (.frz [0] (.scons (.ifS (.cmp .le (.ix (.var 3) (.int 0)) (.call wo (.cons (.var 0) (.cons (.var 1) .nil)))) (.scons (.ret (.b1 .tuple (.var 2))) .snil) .snil) (.scons (.app 2 (.ix (.var 3) (.int 1))) (.frz [0] (.scons (.asg (.name 0) (.call sp (.cons (.var 0) (.cons (.ix (.var 3) (.int 1)) .nil)))) .snil)))))))
def clDef (nd nl sz az sp wo : Nat) : Def := ⟨2, 6, (.frz [0] (.scons (.ex (.call nd (.cons (.var 0) .nil))) (.frz [0] (.scons (.ex (.call nl (.cons (.call sz (.cons (.var 0) .nil)) (.cons (.var 1) .nil)))) (.scons (.asg (.name 2) (.lst .nil)) (.scons (.whl 1000 (.tst (.bl true)) (clBody az sz sp wo)) .snil)))))), false⟩
theorem cl_turn {sp wo : Nat} {g h t CC : D} {v M : Int} {x3 x5 : Slot} (h1 : cf sp [.d g, .d t] = .ok (.v (.d h))) (h2 : cf wo [.d h, .d CC] = .ok (.v (.d (.int v)))) (hv : v ≤ M) (h3 : x3 = .v (.d .none) ∨ ∃ u t, x3 = .v (.d (.tuple [.int u, t])) ∧ u ≤ M) :
    ∃ u t' , dS cf (clFor sp wo) [.v (.d g), .v (.d CC), .o (.d (.list [])), x3, .v (.d t), x5] = .ok (.nx [.v (.d g), .v (.d CC), .o (.d (.list [])), .v (.d (.tuple [.int u, t'])), .v (.d t), .v (.d (.int v))]) ∧ u ≤ M := by
  have e1 : dS cf (.asg (.name 5) (.call wo (.cons (.call sp (.cons (.var 0) (.cons (.var 4) .nil))) (.cons (.var 1) .nil)))) [.v (.d g), .v (.d CC), .o (.d (.list [])), x3, .v (.d t), x5] = .ok (.nx [.v (.d g), .v (.d CC), .o (.d (.list [])), x3, .v (.d t), .v (.d (.int v))]) := by
    show ((((cf sp [.d g, .d t]).bind fun x => x.fz.bind fun v => R.bind (R.ok [.d CC]) fun vs => R.ok (v :: vs)).bind fun xs => cf wo xs).bind _) = _
    rw [h1]
    show ((cf wo [.d h, .d CC]).bind _) = _
    rw [h2]
    rfl
  have st : ∀ r, (dS cf (.ifS (.or (.isN false (.var 3)) (.cmp .gt (.var 5) (.ix (.var 3) (.int 0)))) (.frz [5] (.scons (.asg (.name 3) (.tup (.cons (.var 5) (.cons (.var 4) .nil)))) .snil)) .snil) [.v (.d g), .v (.d CC), .o (.d (.list [])), x3, .v (.d t), .v (.d (.int v))]) = r → dS cf (clFor sp wo) [.v (.d g), .v (.d CC), .o (.d (.list [])), x3, .v (.d t), x5] = r.bind fun o => match o with | .nx e => dS cf .snil e | o => .ok o := fun r hr => by
    show ((dS cf (.asg (.name 5) (.call wo (.cons (.call sp (.cons (.var 0) (.cons (.var 4) .nil))) (.cons (.var 1) .nil)))) [.v (.d g), .v (.d CC), .o (.d (.list [])), x3, .v (.d t), x5]).bind _) = _
    rw [e1]
    show ((dS cf (.ifS (.or (.isN false (.var 3)) (.cmp .gt (.var 5) (.ix (.var 3) (.int 0)))) (.frz [5] (.scons (.asg (.name 3) (.tup (.cons (.var 5) (.cons (.var 4) .nil)))) .snil)) .snil) [.v (.d g), .v (.d CC), .o (.d (.list [])), x3, .v (.d t), .v (.d (.int v))]).bind _) = _
    rw [hr]
    exact congrArg (R.bind r) (funext fun o => by cases o <;> rfl)
  rcases h3 with e | ⟨u, t', e, hu⟩
  · subst e
    refine ⟨v, t, ?_, hv⟩
    rw [st _ rfl]
    rfl
  · subst e
    cases q : iLt u v with
    | true =>
      refine ⟨v, t, ?_, hv⟩
      rw [st (.ok (.nx [.v (.d g), .v (.d CC), .o (.d (.list [])), .v (.d (.tuple [.int v, t])), .v (.d t), .v (.d (.int v))])) (by
        show ((R.ok (iLt u v)).bind _) = _
        rw [q]
        rfl)]
      rfl
    | false =>
      refine ⟨u, t', ?_, hu⟩
      rw [st (.ok (.nx [.v (.d g), .v (.d CC), .o (.d (.list [])), .v (.d (.tuple [.int u, t'])), .v (.d t), .v (.d (.int v))])) (by
        show ((R.ok (iLt u v)).bind _) = _
        rw [q]
        rfl)]
      rfl
theorem cl_for {sp wo : Nat} {g CC : D} {M : Int} : ∀ (L : List D) (x3 x4 x5 : Slot), (∀ t, t ∈ L → ∃ h v, cf sp [.d g, .d t] = .ok (.v (.d h)) ∧ cf wo [.d h, .d CC] = .ok (.v (.d (.int v))) ∧ v ≤ M) → (x3 = .v (.d .none) ∨ ∃ u t, x3 = .v (.d (.tuple [.int u, t])) ∧ u ≤ M) →
    ∃ y3 y4 y5, loopFor L (.name 4) (fun e => dS cf (clFor sp wo) e) [.v (.d g), .v (.d CC), .o (.d (.list [])), x3, x4, x5] = .ok (.nx [.v (.d g), .v (.d CC), .o (.d (.list [])), y3, y4, y5]) ∧ (L = [] ∧ y3 = x3 ∨ ∃ u t, y3 = .v (.d (.tuple [.int u, t])) ∧ u ≤ M)
  | [], x3, x4, x5, _, _ => ⟨x3, x4, x5, rfl, .inl ⟨rfl, rfl⟩⟩
  | t :: L, x3, x4, x5, h, h3 => by
    obtain ⟨h', v, a1, a2, a3⟩ := h t (List.mem_cons_self ..)
    obtain ⟨u, t', b1, b2⟩ := cl_turn (x3 := x3) (x5 := x5) a1 a2 a3 h3
    obtain ⟨y3, y4, y5, c1, c2⟩ := cl_for L (.v (.d (.tuple [.int u, t']))) (.v (.d t)) (.v (.d (.int v))) (fun s hs => h s (List.mem_cons_of_mem _ hs)) (.inr ⟨u, t', rfl, b2⟩)
    refine ⟨y3, y4, y5, ?_, .inr ?_⟩
    · show ((dS cf (clFor sp wo) [.v (.d g), .v (.d CC), .o (.d (.list [])), x3, .v (.d t), x5]).bind _) = _
      rw [b1]
      exact c1
    · rcases c2 with ⟨_, e⟩ | e
      · exact ⟨u, t', e, b2⟩
      · exact e
theorem cl_run {nd nl sz az sp wo : Nat} {s M : Int} {g CC : D} {sl : List D} (h1 : cf nd [.d g] = .ok (.v (.d .none))) (h2 : cf sz [.d g] = .ok (.v (.d (.int s)))) (h3 : cf nl [.d (.int s), .d CC] = .ok (.v (.d .none))) (h4 : cf az [.d (.int s)] = .ok (.o (.d (.list sl)))) (h5 : cf wo [.d g, .d CC] = .ok (.v (.d (.int M)))) (h0 : sl ≠ [])
    (h6 : ∀ t, t ∈ sl → ∃ h v, cf sp [.d g, .d t] = .ok (.v (.d h)) ∧ cf wo [.d h, .d CC] = .ok (.v (.d (.int v))) ∧ v ≤ M) : runDef cf (clDef nd nl sz az sp wo) [.d g, .d CC] = .ok (.v (.d (.tuple []))) := by
  obtain ⟨y3, y4, y5, c1, c2⟩ := cl_for (cf := cf) (sp := sp) (wo := wo) (g := g) (CC := CC) (M := M) sl (.v (.d .none)) .no .no h6 (.inl rfl)
  have c2 : ∃ u t, y3 = .v (.d (.tuple [.int u, t])) ∧ u ≤ M := by
    rcases c2 with ⟨e, _⟩ | e
    · exact absurd e h0
    · exact e
  obtain ⟨u, t, e, hu⟩ := c2
  subst e
  have f1 : dS cf (.forS (.name 4) (.iseq (.call az (.cons (.call sz (.cons (.var 0) .nil)) .nil))) (clFor sp wo)) [.v (.d g), .v (.d CC), .o (.d (.list [])), .v (.d .none), .no, .no] = .ok (.nx [.v (.d g), .v (.d CC), .o (.d (.list [])), .v (.d (.tuple [.int u, t])), y4, y5]) := by
    show ((((((cf sz [.d g]).bind fun x => x.fz.bind fun v => R.bind (R.ok []) fun vs => R.ok (v :: vs)).bind fun xs => cf az xs).bind fun x => x.fz.bind seqV)).bind fun xs => loopFor xs (.name 4) (fun e => dS cf (clFor sp wo) e) [.v (.d g), .v (.d CC), .o (.d (.list [])), .v (.d .none), .no, .no]) = _
    rw [h2]
    show ((((cf az [.d (.int s)]).bind fun x => x.fz.bind seqV)).bind fun xs => loopFor xs (.name 4) (fun e => dS cf (clFor sp wo) e) [.v (.d g), .v (.d CC), .o (.d (.list [])), .v (.d .none), .no, .no]) = _
    rw [h4]
    exact c1
  have t1 : dT cf (.cmp .le (.ix (.var 3) (.int 0)) (.call wo (.cons (.var 0) (.cons (.var 1) .nil)))) [.v (.d g), .v (.d CC), .o (.d (.list [])), .v (.d (.tuple [.int u, t])), y4, y5] = .ok true := by
    show ((cf wo [.d g, .d CC]).bind fun y => cmpV .le (.d (.int u)) y.rd) = _
    rw [h5]
    exact cmpLe hu
  have b1 : dS cf (clBody az sz sp wo) [.v (.d g), .v (.d CC), .o (.d (.list [])), .no, .no, .no] = .ok (.rt (.v (.d (.tuple [])))) := by
    show ((dS cf (.forS (.name 4) (.iseq (.call az (.cons (.call sz (.cons (.var 0) .nil)) .nil))) (clFor sp wo)) [.v (.d g), .v (.d CC), .o (.d (.list [])), .v (.d .none), .no, .no]).bind _) = _
    rw [f1]
    show (((dT cf (.cmp .le (.ix (.var 3) (.int 0)) (.call wo (.cons (.var 0) (.cons (.var 1) .nil)))) [.v (.d g), .v (.d CC), .o (.d (.list [])), .v (.d (.tuple [.int u, t])), y4, y5]).bind _).bind _) = _
    rw [t1]
    rfl
  have a2 : dE cf (.call nl (.cons (.call sz (.cons (.var 0) .nil)) (.cons (.var 1) .nil))) [.v (.d g), .v (.d CC), .no, .no, .no, .no] = .ok (.v (.d .none)) := by
    show (((cf sz [.d g]).bind fun x => x.fz.bind fun v => R.bind (R.ok [.d CC]) fun vs => R.ok (v :: vs)).bind fun xs => cf nl xs) = _
    rw [h2]
    exact h3
  show (((cf nd [.d g]).bind _).bind _).bind _ = _
  rw [h1]
  show (((dE cf (.call nl (.cons (.call sz (.cons (.var 0) .nil)) (.cons (.var 1) .nil))) [.v (.d g), .v (.d CC), .no, .no, .no, .no]).bind _).bind _).bind _ = _
  rw [a2]
  show ((loopWh 1000 (fun e1 => dT cf (.tst (.bl true)) e1) (fun e1 => dS cf (clBody az sz sp wo) e1) [.v (.d g), .v (.d CC), .o (.d (.list [])), .no, .no, .no]).bind _).bind _ = _
  show (((dS cf (clBody az sz sp wo) [.v (.d g), .v (.d CC), .o (.d (.list [])), .no, .no, .no]).bind _).bind _).bind _ = _
  rw [b1]
  rfl
end
end Ev

/-! Sums of likings; the greatest worth of so many groups; whole numbers drawn; a pick from a tuple. -/
namespace Ev
open PySem
/-! ### sums of likings -/
def wS (c : D → Bool) : List D → List Int → Int
  | p :: ps, i :: is => (match c p with | true => i | false => 0) + wS c ps is
  | [], _ => 0
  | _ :: _, [] => 0
theorem wSum_wS {c : D → Bool} : ∀ (P : List D) (C : List Int) (a : Int), wSum c P C a = a + wS c P C
  | [], C, a => by show a = a + 0; omega
  | p :: P, [], a => by show a = a + 0; omega
  | p :: P, i :: C, a => by
    show wSum c P C (match c p with | true => a + i | false => a) = a + ((match c p with | true => i | false => 0) + wS c P C)
    rw [wSum_wS P C]
    cases c p with
    | true => show a + i + wS c P C = a + (i + wS c P C); omega
    | false => show a + wS c P C = a + (0 + wS c P C); omega
theorem wS_congr {c d : D → Bool} : ∀ {P : List D} {C : List Int}, (∀ p, p ∈ P → c p = d p) → wS c P C = wS d P C
  | [], _, _ => rfl
  | _ :: _, [], _ => rfl
  | p :: P, i :: C, h => by
    show (match c p with | true => i | false => 0) + wS c P C = (match d p with | true => i | false => 0) + wS d P C
    rw [h p (List.mem_cons_self ..), wS_congr fun q hq => h q (List.mem_cons_of_mem _ hq)]
theorem wS_none {c : D → Bool} : ∀ {P : List D} {C : List Int}, (∀ p, p ∈ P → c p = false) → wS c P C = 0
  | [], _, _ => rfl
  | _ :: _, [], _ => rfl
  | p :: P, i :: C, h => by
    show (match c p with | true => i | false => 0) + wS c P C = 0
    rw [h p (List.mem_cons_self ..), wS_none fun q hq => h q (List.mem_cons_of_mem _ hq)]
    rfl
theorem wS_all {c : D → Bool} : ∀ {P : List D} {C : List Int}, C.length = P.length → (∀ p, p ∈ P → c p = true) → wS c P C = isum C
  | [], [], _, _ => rfl
  | [], _ :: _, h, _ => by cases h
  | _ :: _, [], h, _ => by cases h
  | p :: P, i :: C, h, hc => by
    show (match c p with | true => i | false => 0) + wS c P C = i + isum C
    rw [hc p (List.mem_cons_self ..), wS_all (Nat.succ.inj h) fun q hq => hc q (List.mem_cons_of_mem _ hq)]
theorem wS_scale {c : D → Bool} (k : Int) : ∀ (P : List D) (C : List Int), wS c P (C.map fun i => k * i) = k * wS c P C
  | [], _ => by show (0 : Int) = k * 0; omega
  | _ :: _, [] => by show (0 : Int) = k * 0; omega
  | p :: P, i :: C => by
    show (match c p with | true => k * i | false => 0) + wS c P (C.map fun i => k * i) = k * ((match c p with | true => i | false => 0) + wS c P C)
    rw [wS_scale k P C, Int.mul_add]
    cases c p with
    | true => rfl
    | false => show 0 + k * wS c P C = k * 0 + k * wS c P C; rw [Int.mul_zero]
theorem wS_pos {c : D → Bool} : ∀ {P : List D} {C : List Int}, (∀ i, i ∈ C → 0 ≤ i) → wS c P C ≤ isum C ∧ 0 ≤ isum C
  | [], [], _ => ⟨Int.le_refl _, Int.le_refl _⟩
  | [], i :: C, h => by
    have a := h i (List.mem_cons_self ..)
    obtain ⟨_, b⟩ := wS_pos (c := c) (P := []) (C := C) fun j hj => h j (List.mem_cons_of_mem _ hj)
    show 0 ≤ i + isum C ∧ 0 ≤ i + isum C
    omega
  | _ :: _, [], _ => ⟨Int.le_refl _, Int.le_refl _⟩
  | p :: P, i :: C, h => by
    have a := h i (List.mem_cons_self ..)
    obtain ⟨b1, b2⟩ := wS_pos (c := c) (P := P) (C := C) fun j hj => h j (List.mem_cons_of_mem _ hj)
    show (match c p with | true => i | false => 0) + wS c P C ≤ i + isum C ∧ 0 ≤ i + isum C
    cases c p with
    | true => show i + wS c P C ≤ i + isum C ∧ 0 ≤ i + isum C; omega
    | false => show 0 + wS c P C ≤ i + isum C ∧ 0 ≤ i + isum C; omega
theorem wS_neg {c : D → Bool} : ∀ {P : List D} {C : List Int}, (∀ i, i ∈ C → i ≤ 0) → wS c P C ≤ 0
  | [], _, _ => Int.le_refl _
  | _ :: _, [], _ => Int.le_refl _
  | p :: P, i :: C, h => by
    have a := h i (List.mem_cons_self ..)
    have b := wS_neg (c := c) (P := P) (C := C) fun j hj => h j (List.mem_cons_of_mem _ hj)
    show (match c p with | true => i | false => 0) + wS c P C ≤ 0
    cases c p with
    | true => show i + wS c P C ≤ 0; omega
    | false => show 0 + wS c P C ≤ 0; omega
theorem wS_zero {c : D → Bool} : ∀ {P : List D} {C : List Int}, (∀ i, i ∈ C → i = 0) → wS c P C = 0
  | [], _, _ => rfl
  | _ :: _, [], _ => rfl
  | p :: P, i :: C, h => by
    have a := h i (List.mem_cons_self ..)
    have b := wS_zero (c := c) (P := P) (C := C) fun j hj => h j (List.mem_cons_of_mem _ hj)
    show (match c p with | true => i | false => 0) + wS c P C = 0
    rw [a, b]
    cases c p <;> rfl
/-- a test that falls into two -/
def splitB (a b c : Bool) : Bool := match b, c with
  | true, true => false
  | true, false => a
  | false, true => a
  | false, false => !a
theorem wS_split {a b c : D → Bool} : ∀ {P : List D} {C : List Int}, (∀ p, p ∈ P → splitB (a p) (b p) (c p) = true) → wS a P C = wS b P C + wS c P C
  | [], _, _ => rfl
  | _ :: _, [], _ => rfl
  | p :: P, i :: C, h => by
    have ih := wS_split (C := C) fun q hq => h q (List.mem_cons_of_mem _ hq)
    have z := h p (List.mem_cons_self ..)
    show (match a p with | true => i | false => 0) + wS a P C = ((match b p with | true => i | false => 0) + wS b P C) + ((match c p with | true => i | false => 0) + wS c P C)
    cases ea : a p <;> cases eb : b p <;> cases ec : c p <;> rw [ea, eb, ec] at z <;> first | cases z | skip
    · show 0 + wS a P C = (0 + wS b P C) + (0 + wS c P C); omega
    · show i + wS a P C = (0 + wS b P C) + (i + wS c P C); omega
    · show i + wS a P C = (i + wS b P C) + (0 + wS c P C); omega
/-! ### lists of ints -/
theorem ints_D : ∀ (C : List Int), ints? (intsD C) = some C
  | [] => rfl
  | i :: r => by
    show (match ints? (intsD r) with | some l => some (i :: l) | none => none) = _
    rw [ints_D r]
theorem intsD_map {f : D → D} {g : Int → Int} (h : ∀ i, f (.int i) = .int (g i)) : ∀ (C : List Int), (intsD C).map f = intsD (C.map g)
  | [] => rfl
  | i :: r => by
    show f (.int i) :: (intsD r).map f = .int (g i) :: intsD (r.map g)
    rw [h, intsD_map h r]
theorem intsD_len (C : List Int) : (intsD C).length = C.length := List.length_map ..
theorem mem_intsD {C : List Int} {x : D} (h : x ∈ intsD C) : ∃ i, i ∈ C ∧ x = .int i := by
  obtain ⟨i, h1, h2⟩ := List.mem_map.mp h
  exact ⟨i, h1, h2.symm⟩
def posD : D → Bool
  | .int i => iLt 0 i
  | _ => false
theorem pick_pos {c : D → Bool} : ∀ (C : List Int), ∃ is, ints? (pickB posD (intsD C)) = some is ∧ 0 ≤ isum is ∧ ∀ P : List D, wS c P C ≤ isum is
  | [] => ⟨[], rfl, Int.le_refl _, fun P => by cases P <;> exact Int.le_refl _⟩
  | i :: r => by
    obtain ⟨is, e1, e0, e2⟩ := pick_pos (c := c) r
    have step : ∀ P : List D, ∃ q, wS c P (i :: r) ≤ q ∧ (q = 0 ∨ ∃ p P', P = p :: P' ∧ q = (match c p with | true => i | false => 0) + wS c P' r) := fun P => by
      cases P with
      | nil => exact ⟨0, Int.le_refl _, .inl rfl⟩
      | cons p P' => exact ⟨_, Int.le_refl _, .inr ⟨p, P', rfl, rfl⟩⟩
    cases z : iLt 0 i with
    | true =>
      refine ⟨i :: is, ?_, ?_, fun P => ?_⟩
      · show ints? (match iLt 0 i with | true => .int i :: pickB posD (intsD r) | false => pickB posD (intsD r)) = _
        rw [z]
        show (match ints? (pickB posD (intsD r)) with | some l => some (i :: l) | none => none) = _
        rw [e1]
      · rw [iLt_iff] at z
        have z := of_decide_eq_true z
        show 0 ≤ i + isum is
        omega
      · rw [iLt_iff] at z
        have z := of_decide_eq_true z
        show wS c P (i :: r) ≤ i + isum is
        cases P with
        | nil => show (0 : Int) ≤ i + isum is; omega
        | cons p P' =>
          have b := e2 P'
          show (match c p with | true => i | false => 0) + wS c P' r ≤ i + isum is
          cases c p with
          | true => show i + wS c P' r ≤ i + isum is; omega
          | false => show 0 + wS c P' r ≤ i + isum is; omega
    | false =>
      refine ⟨is, ?_, e0, fun P => ?_⟩
      · show ints? (match iLt 0 i with | true => .int i :: pickB posD (intsD r) | false => pickB posD (intsD r)) = _
        rw [z]
        exact e1
      · rw [iLt_iff] at z
        have z := of_decide_eq_false z
        cases P with
        | nil => exact e0
        | cons p P' =>
          have b := e2 P'
          show (match c p with | true => i | false => 0) + wS c P' r ≤ isum is
          cases c p with
          | true => show i + wS c P' r ≤ isum is; omega
          | false => show 0 + wS c P' r ≤ isum is; omega
theorem repL_zero : ∀ n : Nat, repL [PyData.int 0] n = intsD (List.replicate n 0)
  | 0 => rfl
  | n + 1 => by
    show PyData.int 0 :: repL [PyData.int 0] n = PyData.int 0 :: intsD (List.replicate n 0)
    rw [repL_zero n]
theorem max_D {i : Int} {r : List Int} : b1V .max (.d (.list (intsD (i :: r)))) = .ok (.v (.d (.int (imax i r)))) := by
  show (match ints? (intsD (i :: r)) with | some (i :: r) => R.ok (RV.v (.d (.int (imax i r)))) | _ => R.stuck) = _
  rw [ints_D]
theorem sum_D {C : List Int} : b1V .sum (.d (.list (intsD C))) = .ok (.v (.d (.int (isum C)))) := by
  show (match ints? (intsD C) with | some is => R.ok (RV.v (.d (.int (isum is)))) | none => R.stuck) = _
  rw [ints_D]
theorem sum_DT {C : List Int} : b1V .sum (.d (.tuple (intsD C))) = .ok (.v (.d (.int (isum C)))) := by
  show (match ints? (intsD C) with | some is => R.ok (RV.v (.d (.int (isum is)))) | none => R.stuck) = _
  rw [ints_D]
theorem pick_ok {c : D → Bool} {x : D} : ∀ {l : List D}, x ∈ pickB c l → c x = true
  | y :: r, h => by
    have h : x ∈ (match c y with | true => y :: pickB c r | false => pickB c r) := h
    cases z : c y with
    | true =>
      rw [z] at h
      rcases List.mem_cons.mp h with e | h
      · rw [e]; exact z
      · exact pick_ok h
    | false =>
      rw [z] at h
      exact pick_ok h
/-! ### best_of_lots -/
section
variable {cf : Nat → List Val → R RV}
def lenB (k : Int) (g : D) : Bool := match g with
  | .tuple l => iEq (.ofNat l.length) k
  | _ => false
def blDef (nq iz ag wo : Nat) : Def := ⟨3, 4, (.scons (.ex (.call nq (.cons (.var 0) (.cons (.var 1) .nil)))) (.scons (.ifS (.not (.tst (.call iz (.cons (.var 2) (.cons (.int 1) (.cons (.var 0) .nil)))))) (.scons .noE .snil) .snil) (.scons (.ret (.b1 .max (.lcIf [3] (.name 3) (.iseq (.call ag (.cons (.var 0) .nil))) (.call wo (.cons (.var 3) (.cons (.var 1) .nil))) (.cmp .eq (.b1 .len (.var 3)) (.var 2))))) .snil))), false⟩
theorem bl_run {nq iz ag wo : Nat} {s k : Int} {t : Val} {gl : List D} {w : D → Int} (h1 : cf nq [.d (.int s), t] = .ok (.v (.d .none))) (hz : cf iz [.d (.int k), .d (.int 1), .d (.int s)] = .ok (.v (.d (.bool true)))) (h2 : cf ag [.d (.int s)] = .ok (.o (.d (.list gl)))) (h3 : ∀ g, g ∈ gl → cf wo [.d g, t] = .ok (.v (.d (.int (w g)))))
    (ht : ∀ g, g ∈ gl → ∃ l, g = .tuple l) (hn : gl.length ≤ 1000) (hk : ∃ g, g ∈ gl ∧ lenB k g = true) :
    ∃ v, runDef cf (blDef nq iz ag wo) [.d (.int s), t, .d (.int k)] = .ok (.v (.d (.int v))) ∧ (∃ g, g ∈ gl ∧ lenB k g = true ∧ v = w g) ∧ ∀ g, g ∈ gl → lenB k g = true → w g ≤ v := by
  have e1 : loopIf gl (.name 3) [.v (.d (.int s)), .v t, .v (.d (.int k)), .no] (fun e1 => (dE cf (.call wo (.cons (.var 3) (.cons (.var 1) .nil))) e1).bind fzD) (fun e1 => dT cf (.cmp .eq (.b1 .len (.var 3)) (.var 2)) e1) = .ok ((pickB (lenB k) gl).map fun g => .int (w g)) :=
    loopIf_pick gl fun g hg => ⟨by
      obtain ⟨l, e⟩ := ht g hg
      subst e
      rfl, by
      show ((cf wo [.d g, t]).bind fzD) = _
      rw [h3 g hg]
      rfl⟩
  have em : ∀ l : List D, (l.map fun g => PyData.int (w g)) = intsD (l.map w) := fun l => by
    show _ = (l.map w).map PyData.int
    rw [List.map_map]
    rfl
  have sub : ∀ g, g ∈ pickB (lenB k) gl ↔ g ∈ gl ∧ lenB k g = true := fun g => ⟨fun h => ⟨pick_sub h, pick_ok h⟩, fun ⟨a, b⟩ => pick_mem b a⟩
  obtain ⟨g0, g1, g2⟩ := hk
  cases q : pickB (lenB k) gl with
  | nil =>
    have z := (sub g0).mpr ⟨g1, g2⟩
    rw [q] at z
    cases z
  | cons x r =>
    obtain ⟨m1, m2⟩ := imax_ok (r.map w) (w x)
    refine ⟨imax (w x) (r.map w), ?_, ?_, fun g hg hb => m2 _ ?_⟩
    · have e2 : dE cf (.b1 .max (.lcIf [3] (.name 3) (.iseq (.call ag (.cons (.var 0) .nil))) (.call wo (.cons (.var 3) (.cons (.var 1) .nil))) (.cmp .eq (.b1 .len (.var 3)) (.var 2)))) [.v (.d (.int s)), .v t, .v (.d (.int k)), .no] = .ok (.v (.d (.int (imax (w x) (r.map w))))) := by
        show ((((cf ag [.d (.int s)]).bind fun x => x.fz.bind seqV).bind fun xs => (loopIf xs (.name 3) [.v (.d (.int s)), .v t, .v (.d (.int k)), .no] (fun e1 => (dE cf (.call wo (.cons (.var 3) (.cons (.var 1) .nil))) e1).bind fzD) (fun e1 => dT cf (.cmp .eq (.b1 .len (.var 3)) (.var 2)) e1)).bind newL).bind fun x => b1V .max x.rd) = _
        rw [h2]
        show (((loopIf gl (.name 3) [.v (.d (.int s)), .v t, .v (.d (.int k)), .no] (fun e1 => (dE cf (.call wo (.cons (.var 3) (.cons (.var 1) .nil))) e1).bind fzD) (fun e1 => dT cf (.cmp .eq (.b1 .len (.var 3)) (.var 2)) e1)).bind newL).bind fun x => b1V .max x.rd) = _
        rw [e1, em]
        show ((newL (intsD ((pickB (lenB k) gl).map w))).bind fun x => b1V .max x.rd) = _
        rw [newL_few (by rw [intsD_len, List.length_map]; exact Nat.le_trans (pick_len gl) hn), q]
        exact max_D
      show (((cf nq [.d (.int s), t]).bind _).bind _).bind _ = _
      rw [h1]
      show (((((cf iz [.d (.int k), .d (.int 1), .d (.int s)]).bind fun x => truV x.rd).bind _).bind _).bind _).bind _ = _
      rw [hz]
      show (((dE cf (.b1 .max (.lcIf [3] (.name 3) (.iseq (.call ag (.cons (.var 0) .nil))) (.call wo (.cons (.var 3) (.cons (.var 1) .nil))) (.cmp .eq (.b1 .len (.var 3)) (.var 2)))) [.v (.d (.int s)), .v t, .v (.d (.int k)), .no]).bind _).bind _).bind _ = _
      rw [e2]
      rfl
    · rcases List.mem_cons.mp m1 with e | e
      · obtain ⟨a, b⟩ := (sub x).mp (by rw [q]; exact List.mem_cons_self ..)
        exact ⟨x, a, b, e⟩
      · obtain ⟨y, hy, e⟩ := List.mem_map.mp e
        obtain ⟨a, b⟩ := (sub y).mp (by rw [q]; exact List.mem_cons_of_mem _ hy)
        exact ⟨y, a, b, e.symm⟩
    · have z := (sub g).mpr ⟨hg, hb⟩
      rw [q] at z
      rcases List.mem_cons.mp z with e | e
      · rw [e]; exact List.mem_cons_self ..
      · exact List.mem_cons_of_mem _ (List.mem_map.mpr ⟨g, e, rfl⟩)
/-! ### drawn -/
def pickDT (tk : Nat) : Def := ⟨2, 2, (.scons (.ret (.ix (.var 1) (.call tk (.cons (.var 0) (.cons (.b1 .len (.var 1)) .nil))))) .snil), false⟩
theorem pickT_post {tk : Nat} (ht : cf tk = takeV) {l : List D} (h0 : 0 < l.length) (h1 : l.length < big) : (runDef cf (pickDT tk) [.row, .d (.tuple l)]).Post fun r => ∃ x, r = .v (.d x) ∧ x ∈ l := by
  show ((((cf tk [.row, .d (.int (.ofNat l.length))]).bind fun y => ixV (.d (.tuple l)) y.rd).bind _).bind _).bind _ |>.Post _
  rw [ht, take_of h0 h1]
  refine ⟨h0, fun v hv => ?_⟩
  obtain ⟨x, e1, e2⟩ := nth_mem hv
  show ((((match pyIx l.length (.ofNat v) with | some k => (nth l k).bind fun x => R.ok (RV.v (.d x)) | none => R.stuck).bind _).bind _).bind _).Post _
  rw [pyIx_of hv]
  show (((((nth l v).bind fun x => R.ok (RV.v (.d x))).bind _).bind _).bind _).Post _
  rw [e1]
  exact ⟨x, rfl, e2⟩
/-- as many ints, each from lo on, drawn -/
theorem loopL_ints {i : Nat} {e0 : Env} {f : Env → R D} {lo hi : Int} (hf : ∀ x, (f (setAt e0 i (.v (.d x)))).Post fun y => ∃ v, y = .int v ∧ lo ≤ v ∧ v ≤ hi) : ∀ (n : Nat) (a : Int), (loopL (rngFrom a n) (.name i) e0 f).Post fun L => ∃ C, L = intsD C ∧ C.length = n ∧ ∀ v, v ∈ C → lo ≤ v ∧ v ≤ hi
  | 0, _ => ⟨[], rfl, rfl, fun _ z => nomatch z⟩
  | n + 1, a => by
    show ((f (setAt e0 i (.v (.d (.int a))))).bind _).Post _
    refine R.post_bind' ((hf _).mono fun y ⟨v, e, h1, h2⟩ => ?_)
    subst e
    refine R.post_bind' ((loopL_ints hf n (a + 1)).mono fun L ⟨C, e, hl, hC⟩ => ?_)
    subst e
    refine ⟨v :: C, rfl, congrArg Nat.succ hl, fun u hu => ?_⟩
    rcases List.mem_cons.mp hu with z | z
    · rw [z]; exact ⟨h1, h2⟩
    · exact hC u z
end
/-! ### the best one is calm -/
/-- some grouping is this one but for the pairs between -/
def cutB (gl pl : List D) (g A B : D) : Bool := anyB' (fun h => allB' (fun q => splitB (tgD g q) (tgD h q) (btwB A B q)) pl) gl
def joinB (gl pl : List D) (g A B : D) : Bool := anyB' (fun h => allB' (fun q => splitB (tgD h q) (tgD g q) (btwB A B q)) pl) gl
def leaveAll (gl pl : List D) (g : D) : Bool := allB' (fun lot => allB' (fun p => cutB gl pl g (.tuple [p]) (rest1 lot p)) (itemsD lot)) (itemsD g)
def joinTwo (gl pl : List D) (g : D) (l : List D) (x : D) : Bool := match x with
  | .tuple [.int i, lot] => allB' (fun o => joinB gl pl g lot o) (slL l none (some i))
  | _ => false
def joinAll (gl pl : List D) (g : D) : Bool := allB' (joinTwo gl pl g (itemsD g)) (enumFrom 0 (itemsD g))
def cmT (pl : List D) (C : List Int) (g : D) : Bool := calmB (fun A B => wSum (btwB A B) pl C 0) (itemsD g)
theorem cm_top {gl pl : List D} {g : D} {C : List Int} (hl : leaveAll gl pl g = true) (hj : joinAll gl pl g = true) (top : ∀ z, z ∈ gl → wS (tgD z) pl C ≤ wS (tgD g) pl C) : cmT pl C g = true := by
  have a1 : allB' (fun lot => allB' (fun p => tIn (fun A B => wSum (btwB A B) pl C 0) lot p) (itemsD lot)) (itemsD g) = true := allB'_iff.mpr fun lot h1 => allB'_iff.mpr fun p hp => by
    obtain ⟨h, hh, q⟩ := anyB'_iff.mp (allB'_iff.mp (allB'_iff.mp hl lot h1) p hp)
    have e := wS_split (C := C) (allB'_iff.mp q)
    have t := top h hh
    show (!iLt (wSum (btwB (.tuple [p]) (rest1 lot p)) pl C 0) 0) = true
    rw [wSum_wS, iLt_iff, decide_eq_false (by omega)]
    rfl
  have a2 : allB' (tTwo (fun A B => wSum (btwB A B) pl C 0) (itemsD g)) (enumFrom 0 (itemsD g)) = true := allB'_iff.mpr fun x hx => by
    obtain ⟨k, lot, e, h1⟩ := enum_mem hx
    have q := allB'_iff.mp hj x hx
    subst e
    have q : allB' (fun o => joinB gl pl g lot o) (slL (itemsD g) none (some k)) = true := q
    show (!anyB' (fun o => iLt 0 (wSum (btwB lot o) pl C 0)) (slL (itemsD g) none (some k))) = true
    cases z : anyB' (fun o => iLt 0 (wSum (btwB lot o) pl C 0)) (slL (itemsD g) none (some k)) with
    | false => rfl
    | true =>
      obtain ⟨o, ho, w⟩ := anyB'_iff.mp z
      obtain ⟨h, hh, q⟩ := anyB'_iff.mp (allB'_iff.mp q o ho)
      have e := wS_split (C := C) (allB'_iff.mp q)
      have t := top h hh
      have w : iLt 0 (wSum (btwB lot o) pl C 0) = true := w
      rw [wSum_wS, iLt_iff] at w
      have := of_decide_eq_true w
      omega
  show (_ && _) = true
  rw [a1, a2]
  rfl
/-- without likings all are calm -/
theorem cm_zero {pl : List D} {g : D} {C : List Int} (hC : ∀ i, i ∈ C → i = 0) : cmT pl C g = true := by
  have a1 : allB' (fun lot => allB' (fun p => tIn (fun A B => wSum (btwB A B) pl C 0) lot p) (itemsD lot)) (itemsD g) = true := allB'_iff.mpr fun lot h1 => allB'_iff.mpr fun p hp => by
    show (!iLt (wSum (btwB (.tuple [p]) (rest1 lot p)) pl C 0) 0) = true
    rw [wSum_wS, wS_zero hC]
    rfl
  have a2 : allB' (tTwo (fun A B => wSum (btwB A B) pl C 0) (itemsD g)) (enumFrom 0 (itemsD g)) = true := allB'_iff.mpr fun x hx => by
    obtain ⟨k, lot, e, h1⟩ := enum_mem hx
    subst e
    show (!anyB' (fun o => iLt 0 (wSum (btwB lot o) pl C 0)) (slL (itemsD g) none (some k))) = true
    cases z : anyB' (fun o => iLt 0 (wSum (btwB lot o) pl C 0)) (slL (itemsD g) none (some k)) with
    | false => rfl
    | true =>
      obtain ⟨o, ho, w⟩ := anyB'_iff.mp z
      have w : iLt 0 (wSum (btwB lot o) pl C 0) = true := w
      rw [wSum_wS, wS_zero hC] at w
      cases w
  show (_ && _) = true
  rw [a1, a2]
  rfl
/-! ### pieces put together -/
section
variable {cf : Nat → List Val → R RV} {e : Env}
theorem dE_call1 {f : Nat} {a : Ex} {u : Val} (h1 : dE cf a e = .ok (.v u)) : dE cf (.call f (.cons a .nil)) e = cf f [u] := by
  show (((dE cf a e).bind fun x => x.fz.bind fun v => R.bind (R.ok []) fun vs => R.ok (v :: vs)).bind fun xs => cf f xs) = _
  rw [h1]
  rfl
theorem dE_call2 {f : Nat} {a b : Ex} {u v : Val} (h1 : dE cf a e = .ok (.v u)) (h2 : dE cf b e = .ok (.v v)) : dE cf (.call f (.cons a (.cons b .nil))) e = cf f [u, v] := by
  show (((dE cf a e).bind fun x => x.fz.bind fun v => ((dE cf b e).bind fun x => x.fz.bind fun v => R.bind (R.ok []) fun vs => R.ok (v :: vs)).bind fun vs => R.ok (v :: vs)).bind fun xs => cf f xs) = _
  rw [h1, h2]
  rfl
theorem dE_call3 {f : Nat} {a b c : Ex} {u v w : Val} (h1 : dE cf a e = .ok (.v u)) (h2 : dE cf b e = .ok (.v v)) (h3 : dE cf c e = .ok (.v w)) : dE cf (.call f (.cons a (.cons b (.cons c .nil)))) e = cf f [u, v, w] := by
  show (((dE cf a e).bind fun x => x.fz.bind fun v => ((dE cf b e).bind fun x => x.fz.bind fun v => ((dE cf c e).bind fun x => x.fz.bind fun v => R.bind (R.ok []) fun vs => R.ok (v :: vs)).bind fun vs => R.ok (v :: vs)).bind fun vs => R.ok (v :: vs)).bind fun xs => cf f xs) = _
  rw [h1, h2, h3]
  rfl
theorem dT_cmp {c : Cm} {a b : Ex} {x y : RV} (h1 : dE cf a e = .ok x) (h2 : dE cf b e = .ok y) : dT cf (.cmp c a b) e = cmpV c x.rd y.rd := by
  show ((dE cf a e).bind fun x => (dE cf b e).bind fun y => cmpV c x.rd y.rd) = _
  rw [h1, h2]
  rfl
theorem dE_cmp {c : Cm} {a b : Ex} {x y : RV} {k : Bool} (h1 : dE cf a e = .ok x) (h2 : dE cf b e = .ok y) (h3 : cmpV c x.rd y.rd = .ok k) : dE cf (.cmp c a b) e = .ok (.v (.d (.bool k))) := by
  show ((dE cf a e).bind fun x => (dE cf b e).bind fun y => (cmpV c x.rd y.rd).bind boolV) = _
  rw [h1, h2]
  show (cmpV c x.rd y.rd).bind boolV = _
  rw [h3]
  rfl
theorem dE_bin {o : Op} {a b : Ex} {x y : RV} (h1 : dE cf a e = .ok x) (h2 : dE cf b e = .ok y) : dE cf (.bin o a b) e = binV o x.rd y.rd := by
  show ((dE cf a e).bind fun x => (dE cf b e).bind fun y => binV o x.rd y.rd) = _
  rw [h1, h2]
  rfl
theorem dE_b1 {o : B1} {a : Ex} {x : RV} (h1 : dE cf a e = .ok x) : dE cf (.b1 o a) e = b1V o x.rd := by
  show ((dE cf a e).bind fun x => b1V o x.rd) = _
  rw [h1]
  rfl
theorem dE_ix {a b : Ex} {x y : RV} (h1 : dE cf a e = .ok x) (h2 : dE cf b e = .ok y) : dE cf (.ix a b) e = ixV x.rd y.rd := by
  show ((dE cf a e).bind fun x => (dE cf b e).bind fun y => ixV x.rd y.rd) = _
  rw [h1, h2]
  rfl
theorem dE_mx2 {l : Bool} {a b : Ex} {i j : Int} (h1 : dE cf a e = .ok (.v (.d (.int i)))) (h2 : dE cf b e = .ok (.v (.d (.int j)))) : dE cf (.mx2 l a b) e = .ok (.v (.d (.int (match l with | true => (match iLt j i with | true => j | false => i) | false => (match iLt i j with | true => j | false => i))))) := by
  show ((dE cf a e).bind fun x => (dE cf b e).bind fun y => (intV x.rd).bind fun i => (intV y.rd).bind fun j => R.ok (RV.v (.d (.int (match l with | true => (match iLt j i with | true => j | false => i) | false => (match iLt i j with | true => j | false => i)))))) = _
  rw [h1, h2]
  rfl
theorem dT_isnt {a : Ex} (h1 : dE cf a e = .ok (.v (.d (.bool true)))) : dT cf (.isB true a true) e = .ok false := by
  show ((dE cf a e).bind fun x => (isBV true x.rd).bind _) = _
  rw [h1]
  rfl
/-- [f(k) for k in ..] over ints -/
theorem dE_lcI {own : List Nat} {i : Nat} {it x : Ex} {C : List Int} {f : Int → Int} (hi : dI cf it e = .ok (intsD C)) (hl : C.length ≤ 1000) (h : ∀ j, j ∈ C → (dE cf x (setAt (wipeE e own) i (.v (.d (.int j))))).bind fzD = .ok (.int (f j))) : dE cf (.lc own (.name i) it x) e = .ok (.o (.d (.list (intsD (C.map f))))) := by
  have z : loopL (intsD C) (.name i) (wipeE e own) (fun e1 => (dE cf x e1).bind fzD) = .ok ((intsD C).map fun d => match d with | .int j => .int (f j) | d => d) := loopL_map (intsD C) fun d hd => by
    obtain ⟨j, hj, q⟩ := mem_intsD hd
    subst q
    exact h j hj
  show ((dI cf it e).bind fun xs => (loopL xs (.name i) (wipeE e own) fun e1 => (dE cf x e1).bind fzD).bind newL) = _
  rw [hi]
  show ((loopL (intsD C) (.name i) (wipeE e own) fun e1 => (dE cf x e1).bind fzD).bind newL) = _
  rw [z, intsD_map (g := f) (fun _ => rfl)]
  exact newL_few (by rw [intsD_len, List.length_map]; exact hl)
end
end Ev

set_option maxHeartbeats 0
open PySem PySem.Spec PyProof.Rows L2
open PySem PySem.Spec PyProof.Rows L2
namespace LawT
def d0 : Ev.Def := ⟨3, 3, (.scons (.ret (.and (.isI (.var 0) .int) (.and (.not (.isI (.var 0) .bool)) (.chain .le .le (.var 1) (.var 0) (.var 2))))) .snil), false⟩
def d1 : Ev.Def := ⟨1, 1, (.scons (.ifS (.not (.tst (.call 0 (.cons (.var 0) (.cons (.int 1) (.cons (.glob "MOST_PEOPLE" 6) .nil)))))) (.scons .noE .snil) .snil) .snil), false⟩
def d2 : Ev.Def := ⟨2, 4, (.scons (.ifS (.or (.not (.tst (.isI (.var 1) .tuple))) (.or (.not (.tst (.var 1))) (.not (.tst (.gx .all [2] (.name 2) (.iseq (.var 1)) (.call 0 (.cons (.var 2) (.cons (.int 0) (.cons (.bin .sub (.var 0) (.int 1)) .nil))))))))) (.scons (.ret (.bl false)) .snil) .snil) (.scons (.ret (.gx .all [3] (.name 3) (.irng1 (.bin .sub (.b1 .len (.var 1)) (.int 1))) (.cmp .lt (.ix (.var 1) (.var 3)) (.ix (.var 1) (.bin .add (.var 3) (.int 1)))))) .snil)), false⟩
def d3 : Ev.Def := ⟨1, 4, (.scons (.ifS (.or (.not (.tst (.isI (.var 0) .tuple))) (.or (.not (.tst (.var 0))) (.not (.tst (.gx .all [1] (.name 1) (.iseq (.var 0)) (.call 2 (.cons (.glob "MOST_PEOPLE" 6) (.cons (.var 1) .nil)))))))) (.scons (.ret (.bl false)) .snil) .snil) (.scons (.asg (.name 2) (.lst .nil)) (.scons (.forS (.name 1) (.iseq (.var 0)) (.scons (.asg (.name 2) (.bin .add (.var 2) (.b1 .list (.var 1)))) .snil)) (.scons (.ifS (.cmp .ne (.b1 .sorted (.var 2)) (.lrg1 false (.b1 .len (.var 2)))) (.scons (.ret (.bl false)) .snil) .snil) (.scons (.ret (.gx .all [3] (.name 3) (.irng1 (.bin .sub (.b1 .len (.var 0)) (.int 1))) (.cmp .lt (.ix (.var 0) (.var 3)) (.ix (.var 0) (.bin .add (.var 3) (.int 1)))))) .snil))))), false⟩
def d4 : Ev.Def := ⟨1, 2, (.scons (.ret (.gx .sum [1] (.name 1) (.iseq (.var 0)) (.b1 .len (.var 1)))) .snil), false⟩
def d5 : Ev.Def := ⟨1, 1, (.scons (.ifS (.not (.tst (.call 3 (.cons (.var 0) .nil)))) (.scons .noE .snil) .snil) .snil), false⟩
def d6 : Ev.Def := ⟨1, 7, (.scons (.asg (.name 1) (.lst (.cons (.tup .nil) .nil))) (.scons (.forS (.name 2) (.irng1 (.var 0)) (.scons (.asg (.name 3) (.lst .nil)) (.frz [1] (.scons (.forS (.name 4) (.iseq (.var 1)) (.scons (.forS (.tup [5, 6]) (.ienum (.var 4)) (.scons (.app 3 (.tup (.star (.sl (.var 4) .noE (.cons (.var 5) .nil)) (.cons (.tup (.star (.var 6) (.cons (.var 2) .nil))) (.star (.sl (.var 4) (.cons (.bin .add (.var 5) (.int 1)) .nil) .noE) .nil))))) .snil)) (.scons (.app 3 (.tup (.star (.var 4) (.cons (.tup (.cons (.var 2) .nil)) .nil)))) .snil))) (.frz [3] (.scons (.asg (.name 1) (.var 3)) .snil)))))) (.scons (.ret (.b1 .sorted (.var 1))) .snil))), false⟩
def d7 : Ev.Def := ⟨1, 1, (.scons (.ex (.call 1 (.cons (.var 0) .nil))) (.scons (.ret (.b1 .tuple (.call 6 (.cons (.var 0) .nil)))) .snil)), false⟩
def d8 : Ev.Def := ⟨1, 4, (.scons (.asg (.name 1) (.lst .nil)) (.scons (.forS (.name 2) (.irng1 (.var 0)) (.scons (.asg (.name 1) (.bin .add (.var 1) (.lc [3] (.name 3) (.irng2 (.bin .add (.var 2) (.int 1)) (.var 0)) (.tup (.cons (.var 2) (.cons (.var 3) .nil)))))) .snil)) (.scons (.ret (.var 1)) .snil))), false⟩
def d9 : Ev.Def := ⟨2, 3, (.scons (.ifS (.or (.not (.tst (.isI (.var 1) .tuple))) (.cmp .ne (.b1 .len (.var 1)) (.bin .fdiv (.bin .mul (.var 0) (.bin .sub (.var 0) (.int 1))) (.int 2)))) (.scons (.ret (.bl false)) .snil) .snil) (.scons (.ret (.gx .all [2] (.name 2) (.iseq (.var 1)) (.call 0 (.cons (.var 2) (.cons (.bin .sub (.int 0) (.glob "MOST_LIKING" 100)) (.cons (.glob "MOST_LIKING" 100) .nil)))))) .snil)), false⟩
def d10 : Ev.Def := ⟨2, 2, (.scons (.ifS (.not (.tst (.call 9 (.cons (.var 0) (.cons (.var 1) .nil))))) (.scons .noE .snil) .snil) .snil), false⟩
def d11 : Ev.Def := ⟨2, 6, (.scons (.asg (.name 2) (.int 0)) (.scons (.forS (.tup [3, 4]) (.izip (.call 8 (.cons (.call 4 (.cons (.var 0) .nil)) .nil)) (.var 1)) (.scons (.ifS (.tst (.gx .any [5] (.name 5) (.iseq (.var 0)) (.and (.cmp .isin (.ix (.var 3) (.int 0)) (.var 5)) (.cmp .isin (.ix (.var 3) (.int 1)) (.var 5))))) (.scons (.asg (.name 2) (.bin .add (.var 2) (.var 4))) .snil) .snil) .snil)) (.scons (.ret (.var 2)) .snil))), false⟩
def d12 : Ev.Def := ⟨2, 2, (.scons (.ex (.call 5 (.cons (.var 0) .nil))) (.scons (.ex (.call 10 (.cons (.call 4 (.cons (.var 0) .nil)) (.cons (.var 1) .nil)))) (.scons (.ret (.call 11 (.cons (.var 0) (.cons (.var 1) .nil)))) .snil))), false⟩
def d13 : Ev.Def := ⟨2, 2, (.scons (.ex (.call 1 (.cons (.var 0) .nil))) (.scons (.ex (.call 10 (.cons (.var 0) (.cons (.var 1) .nil)))) .snil)), false⟩
def d14 : Ev.Def := ⟨2, 3, (.scons (.ret (.mnp false (.lc [2] (.name 2) (.iseq (.call 6 (.cons (.var 0) .nil))) (.tup (.cons (.call 11 (.cons (.var 2) (.cons (.var 1) .nil))) (.cons (.var 2) .nil)))))) .snil), false⟩
def d15 : Ev.Def := ⟨2, 2, (.scons (.ex (.call 13 (.cons (.var 0) (.cons (.var 1) .nil)))) (.scons (.ret (.call 14 (.cons (.var 0) (.cons (.var 1) .nil)))) .snil)), false⟩
def d16 : Ev.Def := ⟨3, 4, (.scons (.ex (.call 13 (.cons (.var 0) (.cons (.var 1) .nil)))) (.scons (.asg (.name 3) (.ix (.call 14 (.cons (.var 0) (.cons (.var 1) .nil))) (.int 0))) (.scons (.ifS (.or (.not (.tst (.isI (.var 2) .tuple))) (.or (.cmp .ne (.b1 .len (.var 2)) (.int 2)) (.not (.tst (.call 0 (.cons (.ix (.var 2) (.int 0)) (.cons (.var 3) (.cons (.var 3) .nil)))))))) (.scons (.ret (.bl false)) .snil) .snil) (.scons (.ifS (.or (.not (.tst (.call 3 (.cons (.ix (.var 2) (.int 1)) .nil)))) (.cmp .ne (.call 4 (.cons (.ix (.var 2) (.int 1)) .nil)) (.var 0))) (.scons (.ret (.bl false)) .snil) .snil) (.scons (.ret (.cmp .eq (.call 11 (.cons (.ix (.var 2) (.int 1)) (.cons (.var 1) .nil))) (.var 3))) .snil))))), false⟩
def d17 : Ev.Def := ⟨3, 4, (.scons (.ex (.call 13 (.cons (.var 0) (.cons (.var 1) .nil)))) (.scons (.ifS (.not (.tst (.call 0 (.cons (.var 2) (.cons (.int 1) (.cons (.var 0) .nil)))))) (.scons .noE .snil) .snil) (.scons (.ret (.b1 .max (.lcIf [3] (.name 3) (.iseq (.call 6 (.cons (.var 0) .nil))) (.call 11 (.cons (.var 3) (.cons (.var 1) .nil))) (.cmp .eq (.b1 .len (.var 3)) (.var 2))))) .snil))), false⟩
def d18 : Ev.Def := ⟨4, 7, (.scons (.asg (.name 4) (.int 0)) (.scons (.forS (.tup [5, 6]) (.izip (.call 8 (.cons (.var 2) .nil)) (.var 3)) (.scons (.ifS (.or (.and (.cmp .isin (.ix (.var 5) (.int 0)) (.var 0)) (.cmp .isin (.ix (.var 5) (.int 1)) (.var 1))) (.and (.cmp .isin (.ix (.var 5) (.int 0)) (.var 1)) (.cmp .isin (.ix (.var 5) (.int 1)) (.var 0)))) (.scons (.asg (.name 4) (.bin .add (.var 4) (.var 6))) .snil) .snil) .snil)) (.scons (.ret (.var 4)) .snil))), false⟩
def d19 : Ev.Def := ⟨2, 8, (.scons (.asg (.name 2) (.call 4 (.cons (.var 0) .nil))) (.scons (.forS (.name 3) (.iseq (.var 0)) (.scons (.forS (.name 4) (.iseq (.var 3)) (.frz [2] (.scons (.ifS (.cmp .lt (.call 18 (.cons (.tup (.cons (.var 4) .nil)) (.cons (.b1 .tuple (.lcIf [5] (.name 5) (.iseq (.var 3)) (.var 5) (.cmp .ne (.var 5) (.var 4)))) (.cons (.var 2) (.cons (.var 1) .nil))))) (.int 0)) (.scons (.ret (.bl false)) .snil) .snil) .snil))) .snil)) (.scons (.forS (.tup [6, 3]) (.ienum (.var 0)) (.frz [2] (.scons (.ifS (.tst (.gx .any [7] (.name 7) (.iseq (.sl (.var 0) .noE (.cons (.var 6) .nil))) (.cmp .gt (.call 18 (.cons (.var 3) (.cons (.var 7) (.cons (.var 2) (.cons (.var 1) .nil))))) (.int 0)))) (.scons (.ret (.bl false)) .snil) .snil) .snil))) (.scons (.ret (.bl true)) .snil)))), false⟩
def d20 : Ev.Def := ⟨2, 2, (.scons (.ex (.call 5 (.cons (.var 0) .nil))) (.scons (.ex (.call 10 (.cons (.call 4 (.cons (.var 0) .nil)) (.cons (.var 1) .nil)))) (.scons (.ret (.call 19 (.cons (.var 0) (.cons (.var 1) .nil)))) .snil))), false⟩
def d21 : Ev.Def := ⟨2, 3, (.scons (.ex (.call 13 (.cons (.var 0) (.cons (.var 1) .nil)))) (.scons (.ret (.b1 .tuple (.lcIf [2] (.name 2) (.iseq (.call 6 (.cons (.var 0) .nil))) (.var 2) (.tst (.call 19 (.cons (.var 2) (.cons (.var 1) .nil))))))) .snil)), false⟩
def d22 : Ev.Def := ⟨2, 4, .noE, true⟩
def d23 : Ev.Def := ⟨2, 2, (.scons (.ret (.ix (.var 1) (.call 22 (.cons (.var 0) (.cons (.b1 .len (.var 1)) .nil))))) .snil), false⟩
def d24 : Ev.Def := ⟨2, 3, (.scons (.ifS (.tst (.isI (.var 1) .tupleOrList)) (.scons (.ifS (.or (.not (.tst (.isI (.var 0) .tupleOrList))) (.cmp .ne (.isI (.var 0) .list) (.isI (.var 1) .list))) (.scons (.ret (.bl false)) .snil) .snil) (.scons (.ifS (.cmp .ne (.b1 .len (.var 0)) (.b1 .len (.var 1))) (.scons (.ret (.bl false)) .snil) .snil) (.scons (.ret (.cmp .eq (.lcIf [2] (.name 2) (.irng1 (.b1 .len (.var 1))) (.var 2) (.not (.tst (.call 24 (.cons (.ix (.var 0) (.var 2)) (.cons (.ix (.var 1) (.var 2)) .nil)))))) (.lst .nil))) .snil))) .snil) (.scons (.ifS (.or (.isN false (.var 1)) (.tst (.isI (.var 1) .str))) (.scons (.ret (.and (.cmp .eq (.var 0) (.var 1)) (.cmp .eq (.isI (.var 0) .str) (.isI (.var 1) .str)))) .snil) .snil) (.scons (.ret (.and (.isI (.var 0) .int) (.and (.cmp .eq (.isI (.var 0) .bool) (.isI (.var 1) .bool)) (.cmp .eq (.var 0) (.var 1))))) .snil))), false⟩
def d25 : Ev.Def := ⟨1, 4, (.scons (.asg (.name 1) (.lst .nil)) (.scons (.forS (.name 2) (.iseq (.srtset (.var 0))) (.scons (.app 1 (.b1 .tuple (.lcIf [3] (.name 3) (.irng1 (.b1 .len (.var 0))) (.var 3) (.cmp .eq (.ix (.var 0) (.var 3)) (.var 2))))) .snil)) (.scons (.ret (.b1 .tuple (.b1 .sorted (.var 1)))) .snil))), false⟩
def d26 : Ev.Def := ⟨1, 4, (.scons (.asg (.name 1) .knew) (.scons (.forS (.name 2) (.irng1 (.b1 .len (.var 0))) (.scons (.forS (.name 3) (.iseq (.ix (.var 0) (.var 2))) (.scons (.kput 1 (.var 3) (.var 2)) .snil)) .snil)) (.scons (.ret (.lc [3] (.name 3) (.iseq (.b1 .sorted (.klist (.var 1)))) (.kix (.var 1) (.var 3)))) .snil))), false⟩
def d27 : Ev.Def := ⟨2, 4, (.scons (.asg (.name 2) (.bin .add (.int 1) (.call 22 (.cons (.var 0) (.cons (.var 1) .nil))))) (.frz [2] (.scons (.ret (.call 25 (.cons (.lc [3] (.name 3) (.irng1 (.var 1)) (.call 22 (.cons (.var 0) (.cons (.var 2) .nil)))) .nil))) .snil))), false⟩
def d28 : Ev.Def := ⟨2, 5, (.scons (.asg (.name 2) (.call 26 (.cons (.var 0) .nil))) (.scons (.ifS (.cmp .eq (.b1 .len (.var 1)) (.int 1)) (.scons (.seti 2 (.ix (.var 1) (.int 0)) (.bin .add (.b1 .len (.var 2)) (.int 9))) .snil) (.scons (.asg (.name 3) (.ix (.var 2) (.ix (.var 1) (.int 1)))) (.frz [2] (.scons (.asg (.name 2) (.lc [4] (.name 4) (.iseq (.var 2)) (.ite (.cmp .eq (.var 4) (.var 3)) (.ix (.var 2) (.ix (.var 1) (.int 0))) (.var 4)))) .snil)))) (.frz [2] (.scons (.ret (.call 25 (.cons (.var 2) .nil))) .snil)))), false⟩
def d29 : Ev.Def := ⟨2, 3, (.scons (.forS (.name 2) (.iseq (.var 1)) (.frz [0] (.scons (.asg (.name 0) (.call 28 (.cons (.var 0) (.cons (.var 2) .nil)))) .snil))) (.scons (.ret (.var 0)) .snil)), false⟩
def d30 : Ev.Def := ⟨1, 4, (.scons (.asg (.name 1) (.lc [2] (.name 2) (.irng1 (.var 0)) (.tup (.cons (.var 2) .nil)))) (.scons (.forS (.name 2) (.irng1 (.var 0)) (.scons (.asg (.name 1) (.bin .add (.var 1) (.lc [3] (.name 3) (.irng2 (.bin .add (.var 2) (.int 1)) (.var 0)) (.tup (.cons (.var 2) (.cons (.var 3) .nil)))))) .snil)) (.scons (.ret (.b1 .sorted (.var 1))) .snil))), false⟩
def d31 : Ev.Def := ⟨3, 5, (.scons (.asg (.name 3) (.call 30 (.cons (.var 1) .nil))) (.frz [3] (.scons (.ret (.b1 .tuple (.lc [4] (.name 4) (.irng1 (.call 22 (.cons (.var 0) (.cons (.bin .add (.var 2) (.int 1)) .nil)))) (.call 23 (.cons (.var 0) (.cons (.var 3) .nil)))))) .snil))), false⟩
def d32 : Ev.Def := ⟨1, 7, (.scons (.asg (.name 1) (.lst (.cons (.lst .nil) .nil))) (.scons (.forS (.name 2) (.irng1 (.var 0)) (.scons (.asg (.name 3) (.lst .nil)) (.frz [1] (.scons (.forS (.name 4) (.iseq (.var 1)) (.scons (.asg (.name 5) (.bin .add (.b1 .max (.bin .add (.var 4) (.lst (.cons (.neg (.int 1)) .nil)))) (.int 2))) (.scons (.asg (.name 3) (.bin .add (.var 3) (.lc [6] (.name 6) (.irng1 (.var 5)) (.bin .add (.var 4) (.lst (.cons (.var 6) .nil)))))) .snil))) (.frz [3] (.scons (.asg (.name 1) (.var 3)) .snil)))))) (.frz [1] (.scons (.ret (.b1 .sorted (.lc [4] (.name 4) (.iseq (.var 1)) (.call 25 (.cons (.var 4) .nil))))) .snil)))), false⟩
def c7 : Ev.Ex := (.or (.cmp .ne (.call 12 (.cons (.var 7) (.cons (.var 4) .nil))) (.int 0)) (.or (.cmp .ne (.call 12 (.cons (.var 8) (.cons (.var 4) .nil))) (.b1 .sum (.var 4))) (.or (.cmp .ne (.call 17 (.cons (.var 2) (.cons (.var 4) (.cons (.var 2) .nil)))) (.int 0)) (.cmp .ne (.call 17 (.cons (.var 2) (.cons (.var 4) (.cons (.int 1) .nil)))) (.b1 .sum (.var 4))))))
def c11 : Ev.Ex := (.or (.cmp .ne (.var 9) (.b1 .max (.lc [6] (.name 6) (.irng2 (.int 1) (.bin .add (.var 2) (.int 1))) (.call 17 (.cons (.var 2) (.cons (.var 4) (.cons (.var 6) .nil))))))) (.cmp .lt (.var 9) (.mx2 false (.int 0) (.b1 .sum (.var 4)))))
def c13 : Ev.Ex := (.or (.cmp .gt (.var 9) (.b1 .sum (.lcIf [11] (.name 11) (.iseq (.var 4)) (.var 11) (.cmp .gt (.var 11) (.int 0))))) (.isB true (.call 16 (.cons (.var 2) (.cons (.b1 .tuple (.lc [11] (.name 11) (.iseq (.var 4)) (.bin .mul (.int 3) (.var 11)))) (.cons (.tup (.cons (.bin .mul (.int 3) (.var 9)) (.cons (.var 10) .nil))) .nil)))) true))
def c15 : Ev.Ex := (.or (.isB true (.call 20 (.cons (.var 10) (.cons (.var 4) .nil))) true) (.cmp .notin (.var 10) (.call 21 (.cons (.var 2) (.cons (.var 4) .nil)))))
def c17 : Ev.Ex := (.cmp .ne (.ix (.call 15 (.cons (.var 2) (.cons (.b1 .tuple (.lc [11] (.name 11) (.iseq (.var 4)) (.mx2 false (.var 11) (.bin .sub (.int 0) (.var 11))))) .nil))) (.int 0)) (.b1 .sum (.lc [11] (.name 11) (.iseq (.var 4)) (.mx2 false (.var 11) (.bin .sub (.int 0) (.var 11))))))
def c19 : Ev.Ex := (.or (.cmp .ne (.ix (.call 15 (.cons (.var 2) (.cons (.b1 .tuple (.lc [11] (.name 11) (.iseq (.var 4)) (.bin .sub (.int 0) (.mx2 false (.var 11) (.bin .sub (.int 0) (.var 11)))))) .nil))) (.int 0)) (.int 0)) (.cmp .ne (.call 21 (.cons (.var 2) (.cons (.bin .mul (.tup (.cons (.int 0) .nil)) (.var 3)) .nil))) (.var 5)))
def s1 : Ev.Ex := (.asg (.name 2) (.bin .add (.int 1) (.call 22 (.cons (.var 1) (.cons (.int 4) .nil)))))
def s2 : Ev.Ex := (.asg (.name 3) (.bin .fdiv (.bin .mul (.var 2) (.bin .sub (.var 2) (.int 1))) (.int 2)))
def s4 : Ev.Ex := (.par [4, 5] (.cons (.b1 .tuple (.lc [6] (.name 6) (.irng1 (.var 3)) (.bin .sub (.call 22 (.cons (.var 1) (.cons (.int 21) .nil))) (.int 10)))) (.cons (.call 7 (.cons (.var 2) .nil)) .nil)))
def s5 : Ev.Ex := (.par [7, 8] (.cons (.b1 .tuple (.lc [6] (.name 6) (.irng1 (.var 2)) (.tup (.cons (.var 6) .nil)))) (.cons (.tup (.cons (.b1 .tuple (.lc [6] (.name 6) (.irng1 (.var 2)) (.var 6))) .nil)) .nil)))
def s9 : Ev.Ex := (.asg (.tup [9, 10]) (.call 15 (.cons (.var 2) (.cons (.var 4) .nil))))
def s21 : Ev.Ex := (.asg (.name 11) (.call 23 (.cons (.var 1) (.cons (.var 5) .nil))))
def e23 : Ev.Ex := (.cmp .eq (.call 12 (.cons (.var 11) (.cons (.b1 .tuple (.lc [12] (.name 12) (.iseq (.var 4)) (.bin .mul (.int 2) (.var 12)))) .nil))) (.bin .mul (.int 2) (.call 12 (.cons (.var 11) (.cons (.var 4) .nil)))))
@[irreducible] def r20 : Ev.Ex := (.frz [1, 5] (.scons s21 (.frz [11] (.scons (.ret e23) .snil))))
@[irreducible] def r18 : Ev.Ex := (.frz [2] (.scons (.ifS c19 (.scons (.ret (.bl false)) .snil) .snil) r20))
@[irreducible] def r16 : Ev.Ex := (.frz [2] (.scons (.ifS c17 (.scons (.ret (.bl false)) .snil) .snil) r18))
@[irreducible] def r14 : Ev.Ex := (.frz [2] (.scons (.ifS c15 (.scons (.ret (.bl false)) .snil) .snil) r16))
@[irreducible] def r12 : Ev.Ex := (.frz [2, 11] (.scons (.ifS c13 (.scons (.ret (.bl false)) .snil) .snil) r14))
@[irreducible] def r10 : Ev.Ex := (.frz [2] (.scons (.ifS c11 (.scons (.ret (.bl false)) .snil) .snil) r12))
@[irreducible] def r8 : Ev.Ex := (.frz [2] (.scons s9 r10))
@[irreducible] def r5 : Ev.Ex := (.scons s5 (.frz [2] (.scons (.ifS c7 (.scons (.ret (.bl false)) .snil) .snil) r8)))
@[irreducible] def r3 : Ev.Ex := (.frz [1, 2] (.scons s4 r5))
@[irreducible] def r0 : Ev.Ex := (.frz [1] (.scons s1 (.scons s2 r3)))
def lawEx : Ev.Ex := (.frz [1] (.scons (.asg (.name 2) (.bin .add (.int 1) (.call 22 (.cons (.var 1) (.cons (.int 4) .nil))))) (.scons (.asg (.name 3) (.bin .fdiv (.bin .mul (.var 2) (.bin .sub (.var 2) (.int 1))) (.int 2))) (.frz [1, 2] (.scons (.par [4, 5] (.cons (.b1 .tuple (.lc [6] (.name 6) (.irng1 (.var 3)) (.bin .sub (.call 22 (.cons (.var 1) (.cons (.int 21) .nil))) (.int 10)))) (.cons (.call 7 (.cons (.var 2) .nil)) .nil))) (.scons (.par [7, 8] (.cons (.b1 .tuple (.lc [6] (.name 6) (.irng1 (.var 2)) (.tup (.cons (.var 6) .nil)))) (.cons (.tup (.cons (.b1 .tuple (.lc [6] (.name 6) (.irng1 (.var 2)) (.var 6))) .nil)) .nil))) (.frz [2] (.scons (.ifS (.or (.cmp .ne (.call 12 (.cons (.var 7) (.cons (.var 4) .nil))) (.int 0)) (.or (.cmp .ne (.call 12 (.cons (.var 8) (.cons (.var 4) .nil))) (.b1 .sum (.var 4))) (.or (.cmp .ne (.call 17 (.cons (.var 2) (.cons (.var 4) (.cons (.var 2) .nil)))) (.int 0)) (.cmp .ne (.call 17 (.cons (.var 2) (.cons (.var 4) (.cons (.int 1) .nil)))) (.b1 .sum (.var 4)))))) (.scons (.ret (.bl false)) .snil) .snil) (.frz [2] (.scons (.asg (.tup [9, 10]) (.call 15 (.cons (.var 2) (.cons (.var 4) .nil)))) (.frz [2] (.scons (.ifS (.or (.cmp .ne (.var 9) (.b1 .max (.lc [6] (.name 6) (.irng2 (.int 1) (.bin .add (.var 2) (.int 1))) (.call 17 (.cons (.var 2) (.cons (.var 4) (.cons (.var 6) .nil))))))) (.cmp .lt (.var 9) (.mx2 false (.int 0) (.b1 .sum (.var 4))))) (.scons (.ret (.bl false)) .snil) .snil) (.frz [2, 11] (.scons (.ifS (.or (.cmp .gt (.var 9) (.b1 .sum (.lcIf [11] (.name 11) (.iseq (.var 4)) (.var 11) (.cmp .gt (.var 11) (.int 0))))) (.isB true (.call 16 (.cons (.var 2) (.cons (.b1 .tuple (.lc [11] (.name 11) (.iseq (.var 4)) (.bin .mul (.int 3) (.var 11)))) (.cons (.tup (.cons (.bin .mul (.int 3) (.var 9)) (.cons (.var 10) .nil))) .nil)))) true)) (.scons (.ret (.bl false)) .snil) .snil) (.frz [2] (.scons (.ifS (.or (.isB true (.call 20 (.cons (.var 10) (.cons (.var 4) .nil))) true) (.cmp .notin (.var 10) (.call 21 (.cons (.var 2) (.cons (.var 4) .nil))))) (.scons (.ret (.bl false)) .snil) .snil) (.frz [2] (.scons (.ifS (.cmp .ne (.ix (.call 15 (.cons (.var 2) (.cons (.b1 .tuple (.lc [11] (.name 11) (.iseq (.var 4)) (.mx2 false (.var 11) (.bin .sub (.int 0) (.var 11))))) .nil))) (.int 0)) (.b1 .sum (.lc [11] (.name 11) (.iseq (.var 4)) (.mx2 false (.var 11) (.bin .sub (.int 0) (.var 11)))))) (.scons (.ret (.bl false)) .snil) .snil) (.frz [2] (.scons (.ifS (.or (.cmp .ne (.ix (.call 15 (.cons (.var 2) (.cons (.b1 .tuple (.lc [11] (.name 11) (.iseq (.var 4)) (.bin .sub (.int 0) (.mx2 false (.var 11) (.bin .sub (.int 0) (.var 11)))))) .nil))) (.int 0)) (.int 0)) (.cmp .ne (.call 21 (.cons (.var 2) (.cons (.bin .mul (.tup (.cons (.int 0) .nil)) (.var 3)) .nil))) (.var 5))) (.scons (.ret (.bl false)) .snil) .snil) (.frz [1, 5] (.scons (.asg (.name 11) (.call 23 (.cons (.var 1) (.cons (.var 5) .nil)))) (.frz [11] (.scons (.ret (.cmp .eq (.call 12 (.cons (.var 11) (.cons (.b1 .tuple (.lc [12] (.name 12) (.iseq (.var 4)) (.bin .mul (.int 2) (.var 12)))) .nil))) (.bin .mul (.int 2) (.call 12 (.cons (.var 11) (.cons (.var 4) .nil)))))) .snil))))))))))))))))))))))))
theorem lawEx_eq : lawEx = r0 := by kernel_rfl
def d33 : Ev.Def := ⟨1, 13, .noE, false⟩
def T : List Ev.Def := [d0, d1, d2, d3, d4, d5, d6, d7, d8, d9, d10, d11, d12, d13, d14, d15, d16, d17, d18, d19, d20, d21, d22, d23, d24, d25, d26, d27, d28, d29, d30, d31, d32, d33]
def Ns : List (List Str) := ["value", "least", "most"] :: ["size"] :: ["size", "value", "one", "k"] :: ["value", "lot", "people", "k"] :: ["grouping", "lot"] :: ["grouping"] :: ["size", "found", "person", "more", "grouping", "at", "lot"] :: ["size"] :: ["size", "found", "one", "other"] :: ["size", "value", "one"] :: ["size", "likings"] :: ["grouping", "likings", "found", "pair", "liking", "lot"] :: ["grouping", "likings"] :: ["size", "likings"] :: ["size", "likings", "one"] :: ["size", "likings"] :: ["size", "likings", "value", "best"] :: ["size", "likings", "many", "one"] :: ["one", "other", "size", "likings", "found", "pair", "liking"] :: ["grouping", "likings", "size", "lot", "person", "one", "at", "other"] :: ["grouping", "likings"] :: ["size", "likings", "one"] :: ["_law_row_here", "_law_many", "_law_found", "_law_cell"] :: ["_law_row_here", "_law_things"] :: ["_law_found", "_law_due", "_law_k"] :: ["_law_labels_here", "_law_found", "_law_label", "_law_k"] :: ["_law_grouping_here", "_law_found", "_law_k", "_law_person"] :: ["_law_row_here", "_law_size", "_law_many", "_law_person"] :: ["_law_grouping_here", "_law_step_here", "_law_labels_here", "_law_old", "_law_label"] :: ["_law_grouping_here", "_law_steps_here", "_law_step_here"] :: ["_law_size", "_law_found", "_law_one", "_law_other"] :: ["_law_row_here", "_law_size", "_law_most", "_law_steps_here", "_law_k"] :: ["_law_size", "_law_found", "_law_person", "_law_more", "_law_labels_here", "_law_top", "_law_label"] :: ["_law_script", "_law_row_here", "_law_size", "_law_pairs", "_law_likings", "_law_some", "_law_k", "_law_alone", "_law_whole", "_law_best", "_law_found", "_law_one", "_law_each"] :: []
def fs : List Str := "is_in" :: "need_size" :: "is_lot" :: "is_grouping" :: "size_of" :: "need_grouping" :: "all_groupings" :: "groupings" :: "pairs_of" :: "are_likings" :: "need_likings" :: "worth_of" :: "worth" :: "need_liked" :: "best_of" :: "best_grouping" :: "shows_best_grouping" :: "best_of_lots" :: "sum_between" :: "calm" :: "is_calm" :: "calm_ones" :: "_law_taken" :: "_law_pick" :: "_law_alike" :: "_law_lots" :: "_law_labels" :: "_law_grouping" :: "_law_step" :: "_law_done" :: "_law_steps" :: "_law_row" :: "_law_groupings" :: "law" :: []
def gl : List (Str × Int) := [("MOST_PEOPLE", 6), ("MOST_LIKING", 100)]
abbrev mb : List Stmt := PySem.Challenge.pw_groupdeeds_k51_across_likings.main.body
abbrev R : PySem.W.OpenRow := PySem.W.OpenLaw.row PySem.Challenge.rw_groupdeeds_k51_across_likings
abbrev hk : PySem.W.Hook := Ev.hookT 2 (Ev.faOf fs gl) (Ev.topDefs mb) fs
def ob (s : PySem.W.SharedT) : Ev.AlT := Ev.obsTG 2 (Ev.faOf fs gl) (Ev.topDefs mb) fs (HandSHeadRun.getT s)
theorem ob_eq (s : PySem.W.SharedT) : ob s = hk.obs s.abs := Ev.obsTG_eq (HandSHeadRun.getT_eq s)
def names : List Str := ["GroupError", "BadSize", "BadGrouping", "BadCount", "BadLikings", "MOST_PEOPLE", "MOST_LIKING"]
abbrev qv : Program := PySem.W.view R.prog [8, 9, 10, 11, 12, 13, 14, 15, 18, 19, 20, 21, 22, 23, 24, 25, 26, 27, 28, 29, 30, 31, 33, 34, 35, 36, 37, 38, 39, 40, 41, 42, 43, 44]
theorem run (w : World) : HandSHeadRun.RunEq R qv hk ob 8000 names w := by
  intro os
  kernel_rfl
theorem hfs : fs = (Ev.topDefs mb).map (·.name) := by kernel_rfl
theorem hch : Ev.chks fs gl Ns T (Ev.topDefs mb) = true := by kernel_rfl
theorem bd0 : ∀ (d : He.DefD), (Ev.topDefs mb)[0]? = some d → ∀ (kV doc pm : Value) (an : Option Addr) (cdv ct : Value) (us : List Value), us.length = (Ev.psOf d).length → bindArgs (PySem.W.fnOf d.name d.qual d.params d.body d.scope .none kV doc pm an cdv ct) ⟨us, []⟩ = pure ((Ev.psOf d).zip us) := by
  intro d h
  have h : some _ = some d := h
  cases h
  exact fun _ _ _ _ _ _ us hl => match us, hl with | [_, _, _], _ => rfl
theorem bd1 : ∀ (d : He.DefD), (Ev.topDefs mb)[1]? = some d → ∀ (kV doc pm : Value) (an : Option Addr) (cdv ct : Value) (us : List Value), us.length = (Ev.psOf d).length → bindArgs (PySem.W.fnOf d.name d.qual d.params d.body d.scope .none kV doc pm an cdv ct) ⟨us, []⟩ = pure ((Ev.psOf d).zip us) := by
  intro d h
  have h : some _ = some d := h
  cases h
  exact fun _ _ _ _ _ _ us hl => match us, hl with | [_], _ => rfl
theorem bd2 : ∀ (d : He.DefD), (Ev.topDefs mb)[2]? = some d → ∀ (kV doc pm : Value) (an : Option Addr) (cdv ct : Value) (us : List Value), us.length = (Ev.psOf d).length → bindArgs (PySem.W.fnOf d.name d.qual d.params d.body d.scope .none kV doc pm an cdv ct) ⟨us, []⟩ = pure ((Ev.psOf d).zip us) := by
  intro d h
  have h : some _ = some d := h
  cases h
  exact fun _ _ _ _ _ _ us hl => match us, hl with | [_, _], _ => rfl
theorem bd3 : ∀ (d : He.DefD), (Ev.topDefs mb)[3]? = some d → ∀ (kV doc pm : Value) (an : Option Addr) (cdv ct : Value) (us : List Value), us.length = (Ev.psOf d).length → bindArgs (PySem.W.fnOf d.name d.qual d.params d.body d.scope .none kV doc pm an cdv ct) ⟨us, []⟩ = pure ((Ev.psOf d).zip us) := by
  intro d h
  have h : some _ = some d := h
  cases h
  exact fun _ _ _ _ _ _ us hl => match us, hl with | [_], _ => rfl
theorem bd4 : ∀ (d : He.DefD), (Ev.topDefs mb)[4]? = some d → ∀ (kV doc pm : Value) (an : Option Addr) (cdv ct : Value) (us : List Value), us.length = (Ev.psOf d).length → bindArgs (PySem.W.fnOf d.name d.qual d.params d.body d.scope .none kV doc pm an cdv ct) ⟨us, []⟩ = pure ((Ev.psOf d).zip us) := by
  intro d h
  have h : some _ = some d := h
  cases h
  exact fun _ _ _ _ _ _ us hl => match us, hl with | [_], _ => rfl
theorem bd5 : ∀ (d : He.DefD), (Ev.topDefs mb)[5]? = some d → ∀ (kV doc pm : Value) (an : Option Addr) (cdv ct : Value) (us : List Value), us.length = (Ev.psOf d).length → bindArgs (PySem.W.fnOf d.name d.qual d.params d.body d.scope .none kV doc pm an cdv ct) ⟨us, []⟩ = pure ((Ev.psOf d).zip us) := by
  intro d h
  have h : some _ = some d := h
  cases h
  exact fun _ _ _ _ _ _ us hl => match us, hl with | [_], _ => rfl
theorem bd6 : ∀ (d : He.DefD), (Ev.topDefs mb)[6]? = some d → ∀ (kV doc pm : Value) (an : Option Addr) (cdv ct : Value) (us : List Value), us.length = (Ev.psOf d).length → bindArgs (PySem.W.fnOf d.name d.qual d.params d.body d.scope .none kV doc pm an cdv ct) ⟨us, []⟩ = pure ((Ev.psOf d).zip us) := by
  intro d h
  have h : some _ = some d := h
  cases h
  exact fun _ _ _ _ _ _ us hl => match us, hl with | [_], _ => rfl
theorem bd7 : ∀ (d : He.DefD), (Ev.topDefs mb)[7]? = some d → ∀ (kV doc pm : Value) (an : Option Addr) (cdv ct : Value) (us : List Value), us.length = (Ev.psOf d).length → bindArgs (PySem.W.fnOf d.name d.qual d.params d.body d.scope .none kV doc pm an cdv ct) ⟨us, []⟩ = pure ((Ev.psOf d).zip us) := by
  intro d h
  have h : some _ = some d := h
  cases h
  exact fun _ _ _ _ _ _ us hl => match us, hl with | [_], _ => rfl
theorem bd8 : ∀ (d : He.DefD), (Ev.topDefs mb)[8]? = some d → ∀ (kV doc pm : Value) (an : Option Addr) (cdv ct : Value) (us : List Value), us.length = (Ev.psOf d).length → bindArgs (PySem.W.fnOf d.name d.qual d.params d.body d.scope .none kV doc pm an cdv ct) ⟨us, []⟩ = pure ((Ev.psOf d).zip us) := by
  intro d h
  have h : some _ = some d := h
  cases h
  exact fun _ _ _ _ _ _ us hl => match us, hl with | [_], _ => rfl
theorem bd9 : ∀ (d : He.DefD), (Ev.topDefs mb)[9]? = some d → ∀ (kV doc pm : Value) (an : Option Addr) (cdv ct : Value) (us : List Value), us.length = (Ev.psOf d).length → bindArgs (PySem.W.fnOf d.name d.qual d.params d.body d.scope .none kV doc pm an cdv ct) ⟨us, []⟩ = pure ((Ev.psOf d).zip us) := by
  intro d h
  have h : some _ = some d := h
  cases h
  exact fun _ _ _ _ _ _ us hl => match us, hl with | [_, _], _ => rfl
theorem bd10 : ∀ (d : He.DefD), (Ev.topDefs mb)[10]? = some d → ∀ (kV doc pm : Value) (an : Option Addr) (cdv ct : Value) (us : List Value), us.length = (Ev.psOf d).length → bindArgs (PySem.W.fnOf d.name d.qual d.params d.body d.scope .none kV doc pm an cdv ct) ⟨us, []⟩ = pure ((Ev.psOf d).zip us) := by
  intro d h
  have h : some _ = some d := h
  cases h
  exact fun _ _ _ _ _ _ us hl => match us, hl with | [_, _], _ => rfl
theorem bd11 : ∀ (d : He.DefD), (Ev.topDefs mb)[11]? = some d → ∀ (kV doc pm : Value) (an : Option Addr) (cdv ct : Value) (us : List Value), us.length = (Ev.psOf d).length → bindArgs (PySem.W.fnOf d.name d.qual d.params d.body d.scope .none kV doc pm an cdv ct) ⟨us, []⟩ = pure ((Ev.psOf d).zip us) := by
  intro d h
  have h : some _ = some d := h
  cases h
  exact fun _ _ _ _ _ _ us hl => match us, hl with | [_, _], _ => rfl
theorem bd12 : ∀ (d : He.DefD), (Ev.topDefs mb)[12]? = some d → ∀ (kV doc pm : Value) (an : Option Addr) (cdv ct : Value) (us : List Value), us.length = (Ev.psOf d).length → bindArgs (PySem.W.fnOf d.name d.qual d.params d.body d.scope .none kV doc pm an cdv ct) ⟨us, []⟩ = pure ((Ev.psOf d).zip us) := by
  intro d h
  have h : some _ = some d := h
  cases h
  exact fun _ _ _ _ _ _ us hl => match us, hl with | [_, _], _ => rfl
theorem bd13 : ∀ (d : He.DefD), (Ev.topDefs mb)[13]? = some d → ∀ (kV doc pm : Value) (an : Option Addr) (cdv ct : Value) (us : List Value), us.length = (Ev.psOf d).length → bindArgs (PySem.W.fnOf d.name d.qual d.params d.body d.scope .none kV doc pm an cdv ct) ⟨us, []⟩ = pure ((Ev.psOf d).zip us) := by
  intro d h
  have h : some _ = some d := h
  cases h
  exact fun _ _ _ _ _ _ us hl => match us, hl with | [_, _], _ => rfl
theorem bd14 : ∀ (d : He.DefD), (Ev.topDefs mb)[14]? = some d → ∀ (kV doc pm : Value) (an : Option Addr) (cdv ct : Value) (us : List Value), us.length = (Ev.psOf d).length → bindArgs (PySem.W.fnOf d.name d.qual d.params d.body d.scope .none kV doc pm an cdv ct) ⟨us, []⟩ = pure ((Ev.psOf d).zip us) := by
  intro d h
  have h : some _ = some d := h
  cases h
  exact fun _ _ _ _ _ _ us hl => match us, hl with | [_, _], _ => rfl
theorem bd15 : ∀ (d : He.DefD), (Ev.topDefs mb)[15]? = some d → ∀ (kV doc pm : Value) (an : Option Addr) (cdv ct : Value) (us : List Value), us.length = (Ev.psOf d).length → bindArgs (PySem.W.fnOf d.name d.qual d.params d.body d.scope .none kV doc pm an cdv ct) ⟨us, []⟩ = pure ((Ev.psOf d).zip us) := by
  intro d h
  have h : some _ = some d := h
  cases h
  exact fun _ _ _ _ _ _ us hl => match us, hl with | [_, _], _ => rfl
theorem bd16 : ∀ (d : He.DefD), (Ev.topDefs mb)[16]? = some d → ∀ (kV doc pm : Value) (an : Option Addr) (cdv ct : Value) (us : List Value), us.length = (Ev.psOf d).length → bindArgs (PySem.W.fnOf d.name d.qual d.params d.body d.scope .none kV doc pm an cdv ct) ⟨us, []⟩ = pure ((Ev.psOf d).zip us) := by
  intro d h
  have h : some _ = some d := h
  cases h
  exact fun _ _ _ _ _ _ us hl => match us, hl with | [_, _, _], _ => rfl
theorem bd17 : ∀ (d : He.DefD), (Ev.topDefs mb)[17]? = some d → ∀ (kV doc pm : Value) (an : Option Addr) (cdv ct : Value) (us : List Value), us.length = (Ev.psOf d).length → bindArgs (PySem.W.fnOf d.name d.qual d.params d.body d.scope .none kV doc pm an cdv ct) ⟨us, []⟩ = pure ((Ev.psOf d).zip us) := by
  intro d h
  have h : some _ = some d := h
  cases h
  exact fun _ _ _ _ _ _ us hl => match us, hl with | [_, _, _], _ => rfl
theorem bd18 : ∀ (d : He.DefD), (Ev.topDefs mb)[18]? = some d → ∀ (kV doc pm : Value) (an : Option Addr) (cdv ct : Value) (us : List Value), us.length = (Ev.psOf d).length → bindArgs (PySem.W.fnOf d.name d.qual d.params d.body d.scope .none kV doc pm an cdv ct) ⟨us, []⟩ = pure ((Ev.psOf d).zip us) := by
  intro d h
  have h : some _ = some d := h
  cases h
  exact fun _ _ _ _ _ _ us hl => match us, hl with | [_, _, _, _], _ => rfl
theorem bd19 : ∀ (d : He.DefD), (Ev.topDefs mb)[19]? = some d → ∀ (kV doc pm : Value) (an : Option Addr) (cdv ct : Value) (us : List Value), us.length = (Ev.psOf d).length → bindArgs (PySem.W.fnOf d.name d.qual d.params d.body d.scope .none kV doc pm an cdv ct) ⟨us, []⟩ = pure ((Ev.psOf d).zip us) := by
  intro d h
  have h : some _ = some d := h
  cases h
  exact fun _ _ _ _ _ _ us hl => match us, hl with | [_, _], _ => rfl
theorem bd20 : ∀ (d : He.DefD), (Ev.topDefs mb)[20]? = some d → ∀ (kV doc pm : Value) (an : Option Addr) (cdv ct : Value) (us : List Value), us.length = (Ev.psOf d).length → bindArgs (PySem.W.fnOf d.name d.qual d.params d.body d.scope .none kV doc pm an cdv ct) ⟨us, []⟩ = pure ((Ev.psOf d).zip us) := by
  intro d h
  have h : some _ = some d := h
  cases h
  exact fun _ _ _ _ _ _ us hl => match us, hl with | [_, _], _ => rfl
theorem bd21 : ∀ (d : He.DefD), (Ev.topDefs mb)[21]? = some d → ∀ (kV doc pm : Value) (an : Option Addr) (cdv ct : Value) (us : List Value), us.length = (Ev.psOf d).length → bindArgs (PySem.W.fnOf d.name d.qual d.params d.body d.scope .none kV doc pm an cdv ct) ⟨us, []⟩ = pure ((Ev.psOf d).zip us) := by
  intro d h
  have h : some _ = some d := h
  cases h
  exact fun _ _ _ _ _ _ us hl => match us, hl with | [_, _], _ => rfl
theorem bd22 : ∀ (d : He.DefD), (Ev.topDefs mb)[22]? = some d → ∀ (kV doc pm : Value) (an : Option Addr) (cdv ct : Value) (us : List Value), us.length = (Ev.psOf d).length → bindArgs (PySem.W.fnOf d.name d.qual d.params d.body d.scope .none kV doc pm an cdv ct) ⟨us, []⟩ = pure ((Ev.psOf d).zip us) := by
  intro d h
  have h : some _ = some d := h
  cases h
  exact fun _ _ _ _ _ _ us hl => match us, hl with | [_, _], _ => rfl
theorem bd23 : ∀ (d : He.DefD), (Ev.topDefs mb)[23]? = some d → ∀ (kV doc pm : Value) (an : Option Addr) (cdv ct : Value) (us : List Value), us.length = (Ev.psOf d).length → bindArgs (PySem.W.fnOf d.name d.qual d.params d.body d.scope .none kV doc pm an cdv ct) ⟨us, []⟩ = pure ((Ev.psOf d).zip us) := by
  intro d h
  have h : some _ = some d := h
  cases h
  exact fun _ _ _ _ _ _ us hl => match us, hl with | [_, _], _ => rfl
theorem bd24 : ∀ (d : He.DefD), (Ev.topDefs mb)[24]? = some d → ∀ (kV doc pm : Value) (an : Option Addr) (cdv ct : Value) (us : List Value), us.length = (Ev.psOf d).length → bindArgs (PySem.W.fnOf d.name d.qual d.params d.body d.scope .none kV doc pm an cdv ct) ⟨us, []⟩ = pure ((Ev.psOf d).zip us) := by
  intro d h
  have h : some _ = some d := h
  cases h
  exact fun _ _ _ _ _ _ us hl => match us, hl with | [_, _], _ => rfl
theorem bd25 : ∀ (d : He.DefD), (Ev.topDefs mb)[25]? = some d → ∀ (kV doc pm : Value) (an : Option Addr) (cdv ct : Value) (us : List Value), us.length = (Ev.psOf d).length → bindArgs (PySem.W.fnOf d.name d.qual d.params d.body d.scope .none kV doc pm an cdv ct) ⟨us, []⟩ = pure ((Ev.psOf d).zip us) := by
  intro d h
  have h : some _ = some d := h
  cases h
  exact fun _ _ _ _ _ _ us hl => match us, hl with | [_], _ => rfl
theorem bd26 : ∀ (d : He.DefD), (Ev.topDefs mb)[26]? = some d → ∀ (kV doc pm : Value) (an : Option Addr) (cdv ct : Value) (us : List Value), us.length = (Ev.psOf d).length → bindArgs (PySem.W.fnOf d.name d.qual d.params d.body d.scope .none kV doc pm an cdv ct) ⟨us, []⟩ = pure ((Ev.psOf d).zip us) := by
  intro d h
  have h : some _ = some d := h
  cases h
  exact fun _ _ _ _ _ _ us hl => match us, hl with | [_], _ => rfl
theorem bd27 : ∀ (d : He.DefD), (Ev.topDefs mb)[27]? = some d → ∀ (kV doc pm : Value) (an : Option Addr) (cdv ct : Value) (us : List Value), us.length = (Ev.psOf d).length → bindArgs (PySem.W.fnOf d.name d.qual d.params d.body d.scope .none kV doc pm an cdv ct) ⟨us, []⟩ = pure ((Ev.psOf d).zip us) := by
  intro d h
  have h : some _ = some d := h
  cases h
  exact fun _ _ _ _ _ _ us hl => match us, hl with | [_, _], _ => rfl
theorem bd28 : ∀ (d : He.DefD), (Ev.topDefs mb)[28]? = some d → ∀ (kV doc pm : Value) (an : Option Addr) (cdv ct : Value) (us : List Value), us.length = (Ev.psOf d).length → bindArgs (PySem.W.fnOf d.name d.qual d.params d.body d.scope .none kV doc pm an cdv ct) ⟨us, []⟩ = pure ((Ev.psOf d).zip us) := by
  intro d h
  have h : some _ = some d := h
  cases h
  exact fun _ _ _ _ _ _ us hl => match us, hl with | [_, _], _ => rfl
theorem bd29 : ∀ (d : He.DefD), (Ev.topDefs mb)[29]? = some d → ∀ (kV doc pm : Value) (an : Option Addr) (cdv ct : Value) (us : List Value), us.length = (Ev.psOf d).length → bindArgs (PySem.W.fnOf d.name d.qual d.params d.body d.scope .none kV doc pm an cdv ct) ⟨us, []⟩ = pure ((Ev.psOf d).zip us) := by
  intro d h
  have h : some _ = some d := h
  cases h
  exact fun _ _ _ _ _ _ us hl => match us, hl with | [_, _], _ => rfl
theorem bd30 : ∀ (d : He.DefD), (Ev.topDefs mb)[30]? = some d → ∀ (kV doc pm : Value) (an : Option Addr) (cdv ct : Value) (us : List Value), us.length = (Ev.psOf d).length → bindArgs (PySem.W.fnOf d.name d.qual d.params d.body d.scope .none kV doc pm an cdv ct) ⟨us, []⟩ = pure ((Ev.psOf d).zip us) := by
  intro d h
  have h : some _ = some d := h
  cases h
  exact fun _ _ _ _ _ _ us hl => match us, hl with | [_], _ => rfl
theorem bd31 : ∀ (d : He.DefD), (Ev.topDefs mb)[31]? = some d → ∀ (kV doc pm : Value) (an : Option Addr) (cdv ct : Value) (us : List Value), us.length = (Ev.psOf d).length → bindArgs (PySem.W.fnOf d.name d.qual d.params d.body d.scope .none kV doc pm an cdv ct) ⟨us, []⟩ = pure ((Ev.psOf d).zip us) := by
  intro d h
  have h : some _ = some d := h
  cases h
  exact fun _ _ _ _ _ _ us hl => match us, hl with | [_, _, _], _ => rfl
theorem bd32 : ∀ (d : He.DefD), (Ev.topDefs mb)[32]? = some d → ∀ (kV doc pm : Value) (an : Option Addr) (cdv ct : Value) (us : List Value), us.length = (Ev.psOf d).length → bindArgs (PySem.W.fnOf d.name d.qual d.params d.body d.scope .none kV doc pm an cdv ct) ⟨us, []⟩ = pure ((Ev.psOf d).zip us) := by
  intro d h
  have h : some _ = some d := h
  cases h
  exact fun _ _ _ _ _ _ us hl => match us, hl with | [_], _ => rfl
theorem bd33 : ∀ (d : He.DefD), (Ev.topDefs mb)[33]? = some d → ∀ (kV doc pm : Value) (an : Option Addr) (cdv ct : Value) (us : List Value), us.length = (Ev.psOf d).length → bindArgs (PySem.W.fnOf d.name d.qual d.params d.body d.scope .none kV doc pm an cdv ct) ⟨us, []⟩ = pure ((Ev.psOf d).zip us) := by
  intro d h
  have h : some _ = some d := h
  cases h
  exact fun _ _ _ _ _ _ us hl => match us, hl with | [_], _ => rfl
theorem hbind : ∀ (f : Nat) (d : He.DefD), (Ev.topDefs mb)[f]? = some d → ∀ (kV doc pm : Value) (an : Option Addr) (cdv ct : Value) (us : List Value), us.length = (Ev.psOf d).length → bindArgs (PySem.W.fnOf d.name d.qual d.params d.body d.scope .none kV doc pm an cdv ct) ⟨us, []⟩ = pure ((Ev.psOf d).zip us)
  | 0 => bd0
  | 1 => bd1
  | 2 => bd2
  | 3 => bd3
  | 4 => bd4
  | 5 => bd5
  | 6 => bd6
  | 7 => bd7
  | 8 => bd8
  | 9 => bd9
  | 10 => bd10
  | 11 => bd11
  | 12 => bd12
  | 13 => bd13
  | 14 => bd14
  | 15 => bd15
  | 16 => bd16
  | 17 => bd17
  | 18 => bd18
  | 19 => bd19
  | 20 => bd20
  | 21 => bd21
  | 22 => bd22
  | 23 => bd23
  | 24 => bd24
  | 25 => bd25
  | 26 => bd26
  | 27 => bd27
  | 28 => bd28
  | 29 => bd29
  | 30 => bd30
  | 31 => bd31
  | 32 => bd32
  | 33 => bd33
  | n + 34 => fun d h => by
    have e : (Ev.topDefs mb).length = 34 := by kernel_rfl
    rw [List.getElem?_eq_none (by rw [e]; omega)] at h
    cases h
theorem tk_at : ∀ (f : Nat) (df : Ev.Def), T[f]? = some df → df.tk = true → f = 22
  | 0 => fun df h q => by cases h; first | rfl | cases q
  | 1 => fun df h q => by cases h; first | rfl | cases q
  | 2 => fun df h q => by cases h; first | rfl | cases q
  | 3 => fun df h q => by cases h; first | rfl | cases q
  | 4 => fun df h q => by cases h; first | rfl | cases q
  | 5 => fun df h q => by cases h; first | rfl | cases q
  | 6 => fun df h q => by cases h; first | rfl | cases q
  | 7 => fun df h q => by cases h; first | rfl | cases q
  | 8 => fun df h q => by cases h; first | rfl | cases q
  | 9 => fun df h q => by cases h; first | rfl | cases q
  | 10 => fun df h q => by cases h; first | rfl | cases q
  | 11 => fun df h q => by cases h; first | rfl | cases q
  | 12 => fun df h q => by cases h; first | rfl | cases q
  | 13 => fun df h q => by cases h; first | rfl | cases q
  | 14 => fun df h q => by cases h; first | rfl | cases q
  | 15 => fun df h q => by cases h; first | rfl | cases q
  | 16 => fun df h q => by cases h; first | rfl | cases q
  | 17 => fun df h q => by cases h; first | rfl | cases q
  | 18 => fun df h q => by cases h; first | rfl | cases q
  | 19 => fun df h q => by cases h; first | rfl | cases q
  | 20 => fun df h q => by cases h; first | rfl | cases q
  | 21 => fun df h q => by cases h; first | rfl | cases q
  | 22 => fun df h q => by cases h; first | rfl | cases q
  | 23 => fun df h q => by cases h; first | rfl | cases q
  | 24 => fun df h q => by cases h; first | rfl | cases q
  | 25 => fun df h q => by cases h; first | rfl | cases q
  | 26 => fun df h q => by cases h; first | rfl | cases q
  | 27 => fun df h q => by cases h; first | rfl | cases q
  | 28 => fun df h q => by cases h; first | rfl | cases q
  | 29 => fun df h q => by cases h; first | rfl | cases q
  | 30 => fun df h q => by cases h; first | rfl | cases q
  | 31 => fun df h q => by cases h; first | rfl | cases q
  | 32 => fun df h q => by cases h; first | rfl | cases q
  | 33 => fun df h q => by cases h; first | rfl | cases q
  | n + 34 => fun df h q => by
    rw [List.getElem?_eq_none (show T.length ≤ n + 34 from Nat.le_add_left _ _)] at h
    cases h
section
variable {X : Cx} {N : List Str}
theorem htk {l : PySem.W.OpenLaw} {w : World} {mg : Str → Option Value} (f : Nat) (d : He.DefD) (df : Ev.Def) (N : List Str) (e1 : T[f]? = some df) (e2 : df.tk = true) (e3 : (Ev.topDefs mb)[f]? = some d) (e4 : Ns[f]? = some N) (base : Heap) (K : PySem.W.Frag) (fa : Addr) (cdv : Value) (A : Around) (outer : List PySem.Env) (s : Shared) (H : Hp) (E : XK)
    (hblt : ∀ x ∈ Ev.bltNames, mg x = none) : PSs (cxOf C8.CX0 l.prog w K mg base N d.qual d.scope fa cdv A outer s H E) d.body (Ev.t_taken K) := by
  have ef := tk_at f df e1 e2
  subst ef
  have e3 : some _ = some d := e3
  have e4 : some _ = some N := e4
  cases e3
  cases e4
  have nd : (["_law_row_here", "_law_many", "_law_found", "_law_cell"] : List Str).Nodup := by decide +kernel
  have mi : mg "int" = none := hblt _ (by decide)
  have ml : mg "len" = none := hblt _ (by decide)
  exact pss_cons (ps_if (pt_cmpR op_gt (pe_ix ix_list (pv 0) pe_int (fun _ _ => rfl)) pe_int (nomark _))
      (pss_cons (ps_set nd rfl (.inl rfl) (pe_op op_mod (pe_callTy call_int1 rfl mi boot_int (pa_cons (pe_ix ix_list (pv 0) pe_int (fun _ _ => rfl)) pa_nil)) (pv 1)))
      (pss_cons (ps_asg (pe_op op_fdivW (pe_ix ix_list (pv 0) pe_int (fun _ _ => rfl)) (pv 1)) (pg_sub (pv 0) pe_int set_list))
      (pss_one (ps_ret (pv 2))))) pss_nil)
    (pss_cons (ps_asg (pe_op op_add (pe_ix ix_list (pv 0) pe_int (fun _ _ => rfl)) pe_int) (pg_sub (pv 0) pe_int set_list))
    (pss_cons (ps_if (pt_cmpR op_gt (pe_ix ix_list (pv 0) pe_int (fun _ _ => rfl)) (pe_callB call_len rfl ml boot_len (pa_cons (pe_ix ix_list (pv 0) pe_int (fun _ _ => rfl)) pa_nil)) (nomark _))
      (pss_cons (ps_asg (pe_op op_mod (pe_callTy call_int1 rfl mi boot_int (pa_cons (pe_op op_add (pe_op op_mulW (pe_ix ix_list (pv 0) pe_int (fun _ _ => rfl)) pe_int) pe_int) pa_nil)) pe_int) (pg_sub (pv 0) pe_int set_list))
      (pss_one (ps_ret (pe_op op_mod (pe_callTy call_int1 rfl mi boot_int (pa_cons (pe_op op_fdivW (pe_ix ix_list (pv 0) pe_int (fun _ _ => rfl)) pe_int) pa_nil)) (pv 1))))) pss_nil)
    (pss_cons (ps_set nd rfl (.inl rfl) (pe_ix ix_list (pe_ix ix_list (pv 0) pe_int (fun _ _ => rfl)) (pe_op op_sub (pe_ix ix_list (pv 0) pe_int (fun _ _ => rfl)) pe_int) (fun _ _ => rfl)))
    (pss_cons (ps_asg (pe_op op_mod (pe_callTy call_int1 rfl mi boot_int (pa_cons (pe_op op_add (pe_op op_add (pe_op op_mulW (pe_ix ix_list (pv 0) pe_int (fun _ _ => rfl)) pe_int) (pv 3)) pe_int) pa_nil)) pe_int) (pg_sub (pv 0) pe_int set_list))
    (pss_cons (ps_if (pt_cmpR op_ge (pv 3) (pe_op op_pow pe_int pe_int) (nomark _)) (pss_one (ps_asg (pe_op op_fdivW (pv 3) (pv 1)) (pg_sub (pv 0) pe_int set_list))) pss_nil)
    (pss_one (ps_ret (pe_op op_mod (pe_callTy call_int1 rfl mi boot_int (pa_cons (pv 3) pa_nil)) (pv 1)))))))))
end

abbrev dL : He.DefD := match (Ev.topDefs mb)[33]? with | some d => d | none => ⟨("", none), "", "", ⟨[], [], none, [], [], none, []⟩, [], ⟨.function, [], false, false, []⟩, [], []⟩
abbrev s0 : Stmt := dL.body.headD (.Pass ⟨0, 0, 0, 0⟩)
abbrev rest : List Stmt := dL.body.tail
abbrev N : List Str := ["_law_script", "_law_row_here", "_law_size", "_law_pairs", "_law_likings", "_law_some", "_law_k", "_law_alone", "_law_whole", "_law_best", "_law_found", "_law_one", "_law_each"]
theorem hli : (Ev.topDefs mb)[33]? = some dL := by kernel_rfl
theorem hb0 : dL.body = s0 :: rest := by kernel_rfl
theorem hsc : C8.scC N ["_law_script"] dL.scope = true := by kernel_rfl
theorem hchL : Ev.chkB ⟨N, dL.scope, fun _ => true, fs, gl, 2⟩ lawEx rest = true := by kernel_rfl
theorem hrec : fs.all (fun x => ((recsOf qv).find? (fun e => e.name == x)).isSome) = true := by kernel_rfl
def G1_0 : Ev.D := .tuple [.tuple [.int 0]]
def G2_0 : Ev.D := .tuple [.tuple [.int 0], .tuple [.int 1]]
def G2_1 : Ev.D := .tuple [.tuple [.int 0, .int 1]]
def G3_0 : Ev.D := .tuple [.tuple [.int 0], .tuple [.int 1], .tuple [.int 2]]
def G3_1 : Ev.D := .tuple [.tuple [.int 0], .tuple [.int 1, .int 2]]
def G3_2 : Ev.D := .tuple [.tuple [.int 0, .int 1], .tuple [.int 2]]
def G3_3 : Ev.D := .tuple [.tuple [.int 0, .int 1, .int 2]]
def G3_4 : Ev.D := .tuple [.tuple [.int 0, .int 2], .tuple [.int 1]]
def G4_0 : Ev.D := .tuple [.tuple [.int 0], .tuple [.int 1], .tuple [.int 2], .tuple [.int 3]]
def G4_1 : Ev.D := .tuple [.tuple [.int 0], .tuple [.int 1], .tuple [.int 2, .int 3]]
def G4_2 : Ev.D := .tuple [.tuple [.int 0], .tuple [.int 1, .int 2], .tuple [.int 3]]
def G4_3 : Ev.D := .tuple [.tuple [.int 0], .tuple [.int 1, .int 2, .int 3]]
def G4_4 : Ev.D := .tuple [.tuple [.int 0], .tuple [.int 1, .int 3], .tuple [.int 2]]
def G4_5 : Ev.D := .tuple [.tuple [.int 0, .int 1], .tuple [.int 2], .tuple [.int 3]]
def G4_6 : Ev.D := .tuple [.tuple [.int 0, .int 1], .tuple [.int 2, .int 3]]
def G4_7 : Ev.D := .tuple [.tuple [.int 0, .int 1, .int 2], .tuple [.int 3]]
def G4_8 : Ev.D := .tuple [.tuple [.int 0, .int 1, .int 2, .int 3]]
def G4_9 : Ev.D := .tuple [.tuple [.int 0, .int 1, .int 3], .tuple [.int 2]]
def G4_10 : Ev.D := .tuple [.tuple [.int 0, .int 2], .tuple [.int 1], .tuple [.int 3]]
def G4_11 : Ev.D := .tuple [.tuple [.int 0, .int 2], .tuple [.int 1, .int 3]]
def G4_12 : Ev.D := .tuple [.tuple [.int 0, .int 2, .int 3], .tuple [.int 1]]
def G4_13 : Ev.D := .tuple [.tuple [.int 0, .int 3], .tuple [.int 1], .tuple [.int 2]]
def G4_14 : Ev.D := .tuple [.tuple [.int 0, .int 3], .tuple [.int 1, .int 2]]
def ls1 : List Ev.D := G1_0 :: []
def ls2 : List Ev.D := G2_0 :: G2_1 :: []
def ls3 : List Ev.D := G3_0 :: G3_1 :: G3_2 :: G3_3 :: G3_4 :: []
def ls4 : List Ev.D := G4_0 :: G4_1 :: G4_2 :: G4_3 :: G4_4 :: G4_5 :: G4_6 :: G4_7 :: G4_8 :: G4_9 :: G4_10 :: G4_11 :: G4_12 :: G4_13 :: G4_14 :: []
def S01 : Ev.D := .tuple [.int 0, .int 1]
def S02 : Ev.D := .tuple [.int 0, .int 2]
def S03 : Ev.D := .tuple [.int 0, .int 3]
def S12 : Ev.D := .tuple [.int 1, .int 2]
def S13 : Ev.D := .tuple [.int 1, .int 3]
def S23 : Ev.D := .tuple [.int 2, .int 3]
def pl1 : List Ev.D := []
def pl2 : List Ev.D := S01 :: []
def pl3 : List Ev.D := S01 :: S02 :: S12 :: []
def pl4 : List Ev.D := S01 :: S02 :: S03 :: S12 :: S13 :: S23 :: []
def en (x2 x3 x4 x5 x6 x7 x8 x9 x10 x11 x12 : Ev.Slot) : Ev.Env := [.no, .v .row, x2, x3, x4, x5, x6, x7, x8, x9, x10, x11, x12]
def okC (pl : List Ev.D) (C : List Int) : Prop := C.length = pl.length ∧ ∀ i, i ∈ C → -100 ≤ i ∧ i ≤ 100
abbrev tC (C : List Int) : Ev.D := .tuple (Ev.intsD C)
abbrev iD (i : Int) : Ev.Slot := .v (.d (.int i))
abbrev nD (n : Nat) : Ev.Slot := .v (.d (.int (.ofNat n)))
abbrev W (pl : List Ev.D) (C : List Int) (g : Ev.D) : Int := Ev.wS (Ev.tgD g) pl C
def ks (s : Nat) : List Int := (List.range' 1 s).map Int.ofNat
structure Sz (cf : Nat → List Ev.Val → Ev.R Ev.RV) (s : Nat) (gl pl : List Ev.D) (al wh : Ev.D) : Prop where
  ok : ∀ g, g ∈ gl → Ev.okB g = true
  wo : ∀ C, okC pl C → ∀ g, g ∈ gl → cf 12 [.d g, .d (tC C)] = .ok (.v (.d (.int (W pl C g))))
  bl : ∀ C, okC pl C → ∀ k : Nat, 1 ≤ k → k ≤ s → ∃ v, cf 17 [.d (.int (.ofNat s)), .d (tC C), .d (.int (.ofNat k))] = .ok (.v (.d (.int v))) ∧ (∃ g, g ∈ gl ∧ Ev.lenB (.ofNat k) g = true ∧ v = W pl C g) ∧ ∀ g, g ∈ gl → Ev.lenB (.ofNat k) g = true → W pl C g ≤ v
  bg : ∀ C, okC pl C → ∃ y, cf 15 [.d (.int (.ofNat s)), .d (tC C)] = .ok (.v (.d (.tuple [.int (W pl C y), y]))) ∧ y ∈ gl ∧ ∀ z, z ∈ gl → W pl C z ≤ W pl C y
  sb : ∀ C, okC pl C → ∀ g, g ∈ gl → (∀ z, z ∈ gl → W pl C z ≤ W pl C g) → cf 16 [.d (.int (.ofNat s)), .d (tC C), .d (.tuple [.int (W pl C g), g])] = .ok (.v (.d (.bool true)))
  ca : ∀ C, okC pl C → ∀ g, g ∈ gl → cf 20 [.d g, .d (tC C)] = .ok (.v (.d (.bool (Ev.cmT pl C g))))
  co : ∀ C, okC pl C → cf 21 [.d (.int (.ofNat s)), .d (tC C)] = .ok (.v (.d (.tuple (Ev.pickB (Ev.cmT pl C) gl))))
  top : ∀ C g, g ∈ gl → (∀ z, z ∈ gl → W pl C z ≤ W pl C g) → Ev.cmT pl C g = true
  am : al ∈ gl
  a0 : ∀ p, p ∈ pl → Ev.tgD al p = false
  lal : Ev.lenB (.ofNat s) al = true
  ae : ∀ g, g ∈ gl → Ev.lenB (.ofNat s) g = true → g = al
  wm : wh ∈ gl
  w1 : ∀ p, p ∈ pl → Ev.tgD wh p = true
  wl : Ev.lenB 1 wh = true
  we : ∀ g, g ∈ gl → Ev.lenB 1 g = true → g = wh
  ln : ∀ g, g ∈ gl → ∃ k : Nat, 1 ≤ k ∧ k ≤ s ∧ Ev.lenB (.ofNat k) g = true
  s2 : Ev.dS cf s2 (en (nD s) .no .no .no .no .no .no .no .no .no .no) = .ok (.nx (en (nD s) (nD pl.length) .no .no .no .no .no .no .no .no .no))
  s5 : ∀ x4 x5, Ev.dS cf s5 (en (nD s) (nD pl.length) x4 x5 .no .no .no .no .no .no .no) = .ok (.nx (en (nD s) (nD pl.length) x4 x5 .no (.v (.d al)) (.v (.d wh)) .no .no .no .no))
  it : ∀ x3 x4 x5 x6 x7 x8 x9 x10 x11 x12, Ev.dI cf (.irng2 (.int 1) (.bin .add (.var 2) (.int 1))) (en (nD s) x3 x4 x5 x6 x7 x8 x9 x10 x11 x12) = .ok (Ev.intsD (ks s))
  gp : cf 7 [.d (.int (.ofNat s))] = .ok (.v (.d (.tuple gl)))
  pk : (cf 23 [.row, .d (.tuple gl)]).Post fun r => ∃ x, r = .v (.d x) ∧ x ∈ gl
  okg : Ev.okB (.tuple gl) = true
  pn : pl.length ≤ 20
  s0 : 1 ≤ s
  sn : s ≤ 6
  gn : gl.length ≤ 1000
theorem seq_post {cf : Nat → List Ev.Val → Ev.R Ev.RV} {a r : Ev.Ex} {e : Ev.Env} (h : (Ev.dS cf a e).Post fun o => ∃ e1, o = .nx e1 ∧ Ev.AnsT cf r e1) : Ev.AnsT cf (.scons a r) e := by
  refine ⟨?_⟩
  show ((Ev.dS cf a e).bind _).Post _
  refine Ev.R.post_bind' (h.mono fun o h => ?_)
  obtain ⟨e1, e, k⟩ := h
  rw [e]
  exact k.out
theorem isum_scale (k : Int) : ∀ C : List Int, Ev.isum (C.map fun i => k * i) = k * Ev.isum C
  | [] => by show (0 : Int) = k * 0; omega
  | i :: r => by
    show k * i + Ev.isum (r.map fun i => k * i) = k * (i + Ev.isum r)
    rw [isum_scale k r, Int.mul_add]
def absI (i : Int) : Int := match Ev.iLt i (0 - i) with | true => 0 - i | false => i
theorem absI_eq (i : Int) : absI i = i ∧ 0 ≤ i ∨ absI i = 0 - i ∧ i < 0 := by
  unfold absI
  rw [Ev.iLt_iff]
  by_cases h : i < 0 - i
  · rw [decide_eq_true h]; exact .inr ⟨rfl, by omega⟩
  · rw [decide_eq_false h]; exact .inl ⟨rfl, by omega⟩
def negI (i : Int) : Int := 0 - absI i
section
variable {cf : Nat → List Ev.Val → Ev.R Ev.RV} {s : Nat} {gl pl : List Ev.D} {al wh : Ev.D} {C : List Int} {y : Ev.D}
theorem okC_map {f : Int → Int} (hC : C.length = pl.length) (h : ∀ i, i ∈ C → -100 ≤ f i ∧ f i ≤ 100) : okC pl (C.map f) := ⟨by rw [List.length_map]; exact hC, fun j hj => by
  obtain ⟨i, hi, e⟩ := List.mem_map.mp hj
  rw [← e]; exact h i hi⟩
theorem mulI {a b : Int} (ha : -100000 ≤ a ∧ a ≤ 100000) (hb : -100000 ≤ b ∧ b ≤ 100000) : Ev.binV .mul (.d (.int a)) (.d (.int b)) = .ok (.v (.d (.int (a * b)))) := by
  have hB : (100000 : Nat) < Ev.big := by decide +kernel
  have q : ∀ i : Int, -100000 ≤ i ∧ i ≤ 100000 → Nat.blt (Ev.iAbs i) Ev.big = true := fun i h => by
    rw [Ev.nblt]
    refine decide_eq_true (Nat.lt_of_le_of_lt ?_ hB)
    cases i with
    | ofNat n => have h2 : ((n : Nat) : Int) ≤ 100000 := h.2; show n ≤ 100000; omega
    | negSucc n => have h1 : -100000 ≤ Int.negSucc n := h.1; show n + 1 ≤ 100000; omega
  show (match Nat.blt (Ev.iAbs a) Ev.big, Nat.blt (Ev.iAbs b) Ev.big with | true, true => Ev.R.ok (Ev.RV.v (.d (.int (a * b)))) | _, _ => Ev.R.stuck) = _
  rw [q a ha, q b hb]
theorem wS_bd {c : Ev.D → Bool} {M : Int} (hM : 0 ≤ M) : ∀ (P : List Ev.D) (C : List Int), (∀ i, i ∈ C → -M ≤ i ∧ i ≤ M) → -(M * C.length) ≤ Ev.wS c P C ∧ Ev.wS c P C ≤ M * C.length
  | [], C, _ => by
    have : 0 ≤ M * (C.length : Int) := Int.mul_nonneg hM (by omega)
    show -(M * C.length) ≤ (0 : Int) ∧ (0 : Int) ≤ M * C.length
    omega
  | _ :: _, [], _ => by
    show -(M * ((0 : Nat) : Int)) ≤ (0 : Int) ∧ (0 : Int) ≤ M * ((0 : Nat) : Int)
    rw [show ((0 : Nat) : Int) = 0 from rfl, Int.mul_zero]
    omega
  | p :: P, i :: C, h => by
    have a := h i (List.mem_cons_self ..)
    have ih := wS_bd (c := c) hM P C fun j hj => h j (List.mem_cons_of_mem _ hj)
    have e : M * (((i :: C).length : Nat) : Int) = M * C.length + M := by
      rw [List.length_cons]
      rw [show ((C.length + 1 : Nat) : Int) = (C.length : Int) + 1 from rfl, Int.mul_add, Int.mul_one]
    rw [e]
    show -(M * C.length + M) ≤ (match c p with | true => i | false => 0) + Ev.wS c P C ∧ (match c p with | true => i | false => 0) + Ev.wS c P C ≤ M * C.length + M
    cases c p with
    | true => show -(M * C.length + M) ≤ i + Ev.wS c P C ∧ i + Ev.wS c P C ≤ M * C.length + M; omega
    | false => show -(M * C.length + M) ≤ 0 + Ev.wS c P C ∧ 0 + Ev.wS c P C ≤ M * C.length + M; omega
theorem W_bd (hC : okC pl C) (pn : pl.length ≤ 20) (g : Ev.D) : -2000 ≤ W pl C g ∧ W pl C g ≤ 2000 := by
  have q := wS_bd (c := Ev.tgD g) (M := 100) (by decide) pl C hC.2
  have e := hC.1
  show -2000 ≤ Ev.wS (Ev.tgD g) pl C ∧ Ev.wS (Ev.tgD g) pl C ≤ 2000
  omega
theorem eqI {a b : Int} (h : a = b) : Ev.cmpV .eq (.d (.int a)) (.d (.int b)) = .ok true := by
  subst h
  show Ev.R.ok (Ev.iEq a a) = _
  rw [Ev.iEq_iff, decide_eq_true rfl]
theorem ltI {a b : Int} (h : b ≤ a) : Ev.cmpV .lt (.d (.int a)) (.d (.int b)) = .ok false := by
  show Ev.R.ok (Ev.iLt a b) = _
  rw [Ev.iLt_iff, decide_eq_false (by omega)]
theorem pick_all {c : Ev.D → Bool} : ∀ {l : List Ev.D}, (∀ x, x ∈ l → c x = true) → Ev.pickB c l = l
  | [], _ => rfl
  | x :: r, h => by
    show (match c x with | true => x :: Ev.pickB c r | false => Ev.pickB c r) = _
    rw [h x (List.mem_cons_self ..), pick_all fun y hy => h y (List.mem_cons_of_mem _ hy)]
theorem tup1 {v : Ev.Val} {l : List Ev.D} : Ev.b1V .tuple (.d (.list l)) = .ok (.v (.d (.tuple l))) := rfl
theorem tail20 (Z : Sz cf s gl pl al wh) (hC : okC pl C) (h10 : ∀ i, i ∈ C → -10 ≤ i ∧ i ≤ 10) {x7 x8 x9 x10 : Ev.Slot} : Ev.AnsT cf r20 (en (nD s) (nD pl.length) (.v (.d (tC C))) (.v (.d (.tuple gl))) .no x7 x8 x9 x10 .no .no) := by
  unfold r20
  have hn : C.length ≤ 1000 := by have := hC.1; have := Z.pn; omega
  have hC2 : okC pl (C.map fun i => 2 * i) := okC_map hC.1 fun i hi => by have := h10 i hi; omega
  refine Ev.frz_on rfl (seq_post ?_)
  show ((cf 23 [.row, .d (.tuple gl)]).bind _).Post _
  refine Ev.R.post_bind' (Z.pk.mono fun r hr => ?_)
  obtain ⟨g, e, hg⟩ := hr
  subst e
  refine ⟨_, rfl, Ev.frz_on rfl ⟨?_⟩⟩
  have t1 : Ev.dE cf (.b1 .tuple (.lc [12] (.name 12) (.iseq (.var 4)) (.bin .mul (.int 2) (.var 12)))) (en (nD s) (nD pl.length) (.v (.d (tC C))) (.v (.d (.tuple gl))) .no x7 x8 x9 x10 (.v (.d g)) .no) = .ok (.v (.d (tC (C.map fun i => 2 * i)))) :=
    Ev.dE_b1 (Ev.dE_lcI (C := C) (f := fun i => 2 * i) rfl hn fun j hj => by
      have := h10 j hj
      show ((Ev.binV .mul (.d (.int 2)) (.d (.int j))).bind Ev.fzD) = _
      rw [mulI (by omega) (by omega)]
      rfl)
  have a1 := (Ev.dE_call2 (f := 12) (a := .var 11) (u := .d g) rfl t1).trans (Z.wo _ hC2 g hg)
  have a2 : Ev.dE cf (.bin .mul (.int 2) (.call 12 (.cons (.var 11) (.cons (.var 4) .nil)))) (en (nD s) (nD pl.length) (.v (.d (tC C))) (.v (.d (.tuple gl))) .no x7 x8 x9 x10 (.v (.d g)) .no) = .ok (.v (.d (.int (2 * W pl C g)))) := by
    have b := W_bd hC Z.pn g
    rw [Ev.dE_bin (x := .v (.d (.int 2))) rfl ((Ev.dE_call2 (f := 12) (a := .var 11) (b := .var 4) (u := .d g) (v := .d (tC C)) rfl rfl).trans (Z.wo C hC g hg))]
    exact mulI (by omega) (by omega)
  have e := Ev.dE_cmp (c := .eq) a1 a2 (eqI (Ev.wS_scale 2 pl C))
  show ((((Ev.dE cf e23 (en (nD s) (nD pl.length) (.v (.d (tC C))) (.v (.d (.tuple gl))) .no x7 x8 x9 x10 (.v (.d g)) .no)).bind _).bind _)).Post _
  unfold e23
  rw [e]
  rfl
theorem tail18 (Z : Sz cf s gl pl al wh) (hC : okC pl C) (h10 : ∀ i, i ∈ C → -10 ≤ i ∧ i ≤ 10) {x7 x8 x9 x10 : Ev.Slot} : Ev.AnsT cf r18 (en (nD s) (nD pl.length) (.v (.d (tC C))) (.v (.d (.tuple gl))) .no x7 x8 x9 x10 .no .no) := by
  unfold r18
  have hn : C.length ≤ 1000 := by have := hC.1; have := Z.pn; omega
  have hN : okC pl (C.map negI) := okC_map hC.1 fun i hi => by
    have := h10 i hi
    unfold negI
    rcases absI_eq i with ⟨e, _⟩ | ⟨e, _⟩ <;> rw [e] <;> omega
  have neg : ∀ i, i ∈ C.map negI → i ≤ 0 := fun i hi => by
    obtain ⟨j, _, e⟩ := List.mem_map.mp hi
    rw [← e]
    unfold negI
    rcases absI_eq j with ⟨e, _⟩ | ⟨e, _⟩ <;> rw [e] <;> omega
  obtain ⟨y, y1, y2, y3⟩ := Z.bg _ hN
  have v0 : W pl (C.map negI) y = 0 := by
    have a := y3 al Z.am
    have b : W pl (C.map negI) al = 0 := Ev.wS_none Z.a0
    have c : W pl (C.map negI) y ≤ 0 := Ev.wS_neg neg
    omega
  have hz : okC pl (List.replicate pl.length 0) := ⟨List.length_replicate, fun i hi => by rw [(List.mem_replicate.mp hi).2]; omega⟩
  have z0 : ∀ i, i ∈ List.replicate pl.length (0 : Int) → i = 0 := fun i hi => (List.mem_replicate.mp hi).2
  have c : Ev.dT cf c19 (en (nD s) (nD pl.length) (.v (.d (tC C))) (.v (.d (.tuple gl))) .no x7 x8 x9 x10 .no .no) = .ok false := by
    unfold c19
    refine Ev.orF ?_ ?_
    · have t1 : Ev.dE cf (.b1 .tuple (.lc [11] (.name 11) (.iseq (.var 4)) (.bin .sub (.int 0) (.mx2 false (.var 11) (.bin .sub (.int 0) (.var 11)))))) (en (nD s) (nD pl.length) (.v (.d (tC C))) (.v (.d (.tuple gl))) .no x7 x8 x9 x10 .no .no) = .ok (.v (.d (tC (C.map negI)))) :=
        Ev.dE_b1 (Ev.dE_lcI (C := C) (f := negI) rfl hn fun j hj => rfl)
      have a1 := (Ev.dE_call2 (f := 15) (a := .var 2) (u := .d (.int (.ofNat s))) rfl t1).trans y1
      rw [Ev.dT_cmp (x := .v (.d (.int (W pl (C.map negI) y)))) (y := .v (.d (.int 0))) ((Ev.dE_ix (y := .v (.d (.int 0))) a1 rfl).trans rfl) rfl]
      exact Ev.cmpNe v0
    · have t1 : Ev.dE cf (.bin .mul (.tup (.cons (.int 0) .nil)) (.var 3)) (en (nD s) (nD pl.length) (.v (.d (tC C))) (.v (.d (.tuple gl))) .no x7 x8 x9 x10 .no .no) = .ok (.v (.d (tC (List.replicate pl.length 0)))) := by
        have pn := Z.pn
        show (match Ev.iLe 0 (.ofNat pl.length), Ev.iLe (.ofNat pl.length) 1000, Ev.few [PyData.int 0] 1000 with | true, true, true => Ev.R.ok (Ev.RV.v (.d (.tuple (Ev.repL [.int 0] pl.length)))) | _, _, _ => Ev.R.stuck) = _
        rw [Ev.iLe_iff, Ev.iLe_iff, decide_eq_true (show (0 : Int) ≤ .ofNat pl.length from Int.natCast_nonneg _), decide_eq_true (show (.ofNat pl.length : Int) ≤ 1000 from by show (pl.length : Int) ≤ 1000; omega), Ev.repL_zero]
        rfl
      have a1 := (Ev.dE_call2 (f := 21) (a := .var 2) (u := .d (.int (.ofNat s))) rfl t1).trans (Z.co _ hz)
      rw [Ev.dT_cmp (y := .v (.d (.tuple gl))) a1 rfl, pick_all fun g hg => Ev.cm_zero z0]
      exact Ev.ne_false Z.okg
  exact Ev.frz_on rfl (Ev.ifs_on c (tail20 Z hC h10))
theorem tail16 (Z : Sz cf s gl pl al wh) (hC : okC pl C) (h10 : ∀ i, i ∈ C → -10 ≤ i ∧ i ≤ 10) {x7 x8 x9 x10 : Ev.Slot} : Ev.AnsT cf r16 (en (nD s) (nD pl.length) (.v (.d (tC C))) (.v (.d (.tuple gl))) .no x7 x8 x9 x10 .no .no) := by
  unfold r16
  have hn : C.length ≤ 1000 := by have := hC.1; have := Z.pn; omega
  have hA : okC pl (C.map absI) := okC_map hC.1 fun i hi => by
    have := h10 i hi
    rcases absI_eq i with ⟨e, _⟩ | ⟨e, _⟩ <;> rw [e] <;> omega
  have pos : ∀ i, i ∈ C.map absI → 0 ≤ i := fun i hi => by
    obtain ⟨j, _, e⟩ := List.mem_map.mp hi
    rw [← e]
    rcases absI_eq j with ⟨e, _⟩ | ⟨e, _⟩ <;> rw [e] <;> omega
  obtain ⟨y, y1, y2, y3⟩ := Z.bg _ hA
  have v0 : W pl (C.map absI) y = Ev.isum (C.map absI) := by
    have a := y3 wh Z.wm
    have b : W pl (C.map absI) wh = Ev.isum (C.map absI) := Ev.wS_all hA.1 Z.w1
    have c : W pl (C.map absI) y ≤ Ev.isum (C.map absI) := (Ev.wS_pos pos).1
    omega
  have c : Ev.dT cf c17 (en (nD s) (nD pl.length) (.v (.d (tC C))) (.v (.d (.tuple gl))) .no x7 x8 x9 x10 .no .no) = .ok false := by
    unfold c17
    have t0 : Ev.dE cf (.lc [11] (.name 11) (.iseq (.var 4)) (.mx2 false (.var 11) (.bin .sub (.int 0) (.var 11)))) (en (nD s) (nD pl.length) (.v (.d (tC C))) (.v (.d (.tuple gl))) .no x7 x8 x9 x10 .no .no) = .ok (.o (.d (.list (Ev.intsD (C.map absI))))) :=
      Ev.dE_lcI (C := C) (f := absI) rfl hn fun j hj => rfl
    have t1 : Ev.dE cf (.b1 .tuple (.lc [11] (.name 11) (.iseq (.var 4)) (.mx2 false (.var 11) (.bin .sub (.int 0) (.var 11))))) (en (nD s) (nD pl.length) (.v (.d (tC C))) (.v (.d (.tuple gl))) .no x7 x8 x9 x10 .no .no) = .ok (.v (.d (tC (C.map absI)))) := Ev.dE_b1 t0
    have a1 := (Ev.dE_call2 (f := 15) (a := .var 2) (u := .d (.int (.ofNat s))) rfl t1).trans y1
    rw [Ev.dT_cmp (x := .v (.d (.int (W pl (C.map absI) y)))) ((Ev.dE_ix (y := .v (.d (.int 0))) a1 rfl).trans rfl) ((Ev.dE_b1 t0).trans Ev.sum_D)]
    exact Ev.cmpNe v0
  exact Ev.frz_on rfl (Ev.ifs_on c (tail18 Z hC h10))
theorem tail14 (Z : Sz cf s gl pl al wh) (hC : okC pl C) (h10 : ∀ i, i ∈ C → -10 ≤ i ∧ i ≤ 10) (hy : y ∈ gl) (top : ∀ z, z ∈ gl → W pl C z ≤ W pl C y) {x7 x8 x9 : Ev.Slot} : Ev.AnsT cf r14 (en (nD s) (nD pl.length) (.v (.d (tC C))) (.v (.d (.tuple gl))) .no x7 x8 x9 (.v (.d y)) .no .no) := by
  unfold r14
  have cm := Z.top C y hy top
  have q20 := Z.ca C hC y hy
  rw [cm] at q20
  have c : Ev.dT cf c15 (en (nD s) (nD pl.length) (.v (.d (tC C))) (.v (.d (.tuple gl))) .no x7 x8 x9 (.v (.d y)) .no .no) = .ok false := by
    unfold c15
    refine Ev.orF (Ev.dT_isnt ((Ev.dE_call2 (u := .d y) (v := .d (tC C)) rfl rfl).trans q20)) ?_
    rw [Ev.dT_cmp (x := .v (.d y)) rfl ((Ev.dE_call2 (u := .d (.int (.ofNat s))) (v := .d (tC C)) rfl rfl).trans (Z.co C hC))]
    exact Ev.notin_false (Z.ok y hy) (fun z hz => Z.ok z (Ev.pick_sub hz)) (Ev.pick_mem cm hy)
  exact Ev.frz_on rfl (Ev.ifs_on c (tail16 Z hC h10))
theorem tail12 (Z : Sz cf s gl pl al wh) (hC : okC pl C) (h10 : ∀ i, i ∈ C → -10 ≤ i ∧ i ≤ 10) (hy : y ∈ gl) (top : ∀ z, z ∈ gl → W pl C z ≤ W pl C y) {x7 x8 : Ev.Slot} : Ev.AnsT cf r12 (en (nD s) (nD pl.length) (.v (.d (tC C))) (.v (.d (.tuple gl))) .no x7 x8 (iD (W pl C y)) (.v (.d y)) .no .no) := by
  unfold r12
  have hn : C.length ≤ 1000 := by have := hC.1; have := Z.pn; omega
  have hC3 : okC pl (C.map fun i => 3 * i) := okC_map hC.1 fun i hi => by have := h10 i hi; omega
  have e3 : ∀ g, W pl (C.map fun i => 3 * i) g = 3 * W pl C g := fun g => Ev.wS_scale 3 pl C
  have q16 := Z.sb _ hC3 y hy fun z hz => by
    have := top z hz
    rw [e3, e3]
    omega
  have bd := W_bd hC Z.pn y
  obtain ⟨is, p1, _, p2⟩ := Ev.pick_pos (c := Ev.tgD y) C
  have c : Ev.dT cf c13 (en (nD s) (nD pl.length) (.v (.d (tC C))) (.v (.d (.tuple gl))) .no x7 x8 (iD (W pl C y)) (.v (.d y)) .no .no) = .ok false := by
    unfold c13
    refine Ev.orF ?_ (Ev.dT_isnt ?_)
    · have z : Ev.loopIf (Ev.intsD C) (.name 11) (Ev.wipeE (en (nD s) (nD pl.length) (.v (.d (tC C))) (.v (.d (.tuple gl))) .no x7 x8 (iD (W pl C y)) (.v (.d y)) .no .no) [11]) (fun e1 => (Ev.dE cf (.var 11) e1).bind Ev.fzD) (fun e1 => Ev.dT cf (.cmp .gt (.var 11) (.int 0)) e1) = .ok ((Ev.pickB Ev.posD (Ev.intsD C)).map fun x => x) :=
        Ev.loopIf_pick (Ev.intsD C) fun x hx => by
          obtain ⟨i, _, e⟩ := Ev.mem_intsD hx
          subst e
          exact ⟨rfl, rfl⟩
      rw [List.map_id'] at z
      have z1 : Ev.dE cf (.b1 .sum (.lcIf [11] (.name 11) (.iseq (.var 4)) (.var 11) (.cmp .gt (.var 11) (.int 0)))) (en (nD s) (nD pl.length) (.v (.d (tC C))) (.v (.d (.tuple gl))) .no x7 x8 (iD (W pl C y)) (.v (.d y)) .no .no) = .ok (.v (.d (.int (Ev.isum is)))) := by
        show ((Ev.loopIf (Ev.intsD C) (.name 11) (Ev.wipeE (en (nD s) (nD pl.length) (.v (.d (tC C))) (.v (.d (.tuple gl))) .no x7 x8 (iD (W pl C y)) (.v (.d y)) .no .no) [11]) (fun e1 => (Ev.dE cf (.var 11) e1).bind Ev.fzD) (fun e1 => Ev.dT cf (.cmp .gt (.var 11) (.int 0)) e1)).bind Ev.newL).bind (fun x => Ev.b1V .sum x.rd) = _
        rw [z]
        show ((Ev.newL (Ev.pickB Ev.posD (Ev.intsD C))).bind fun x => Ev.b1V .sum x.rd) = _
        rw [Ev.newL_few (Nat.le_trans (Ev.pick_len _) (by rw [Ev.intsD_len]; exact hn))]
        show (match Ev.ints? (Ev.pickB Ev.posD (Ev.intsD C)) with | some is => Ev.R.ok (Ev.RV.v (.d (.int (Ev.isum is)))) | none => Ev.R.stuck) = _
        rw [p1]
      rw [Ev.dT_cmp (x := .v (.d (.int (W pl C y)))) rfl z1]
      exact Ev.cmpGt (p2 pl)
    · have t1 : Ev.dE cf (.b1 .tuple (.lc [11] (.name 11) (.iseq (.var 4)) (.bin .mul (.int 3) (.var 11)))) (en (nD s) (nD pl.length) (.v (.d (tC C))) (.v (.d (.tuple gl))) .no x7 x8 (iD (W pl C y)) (.v (.d y)) .no .no) = .ok (.v (.d (tC (C.map fun i => 3 * i)))) :=
        Ev.dE_b1 (Ev.dE_lcI (C := C) (f := fun i => 3 * i) rfl hn fun j hj => by
          have := h10 j hj
          show ((Ev.binV .mul (.d (.int 3)) (.d (.int j))).bind Ev.fzD) = _
          rw [mulI (by omega) (by omega)]
          rfl)
      have t2 : Ev.dE cf (.tup (.cons (.bin .mul (.int 3) (.var 9)) (.cons (.var 10) .nil))) (en (nD s) (nD pl.length) (.v (.d (tC C))) (.v (.d (.tuple gl))) .no x7 x8 (iD (W pl C y)) (.v (.d y)) .no .no) = .ok (.v (.d (.tuple [.int (W pl (C.map fun i => 3 * i) y), y]))) := by
        show ((((Ev.binV .mul (.d (.int 3)) (.d (.int (W pl C y)))).bind fun x => (Ev.fzD x).bind fun v => Ev.R.bind (Ev.R.ok [y]) fun vs => Ev.R.ok (v :: vs))).bind Ev.newT) = _
        rw [mulI (by omega) (by omega), e3]
        rfl
      exact (Ev.dE_call3 (u := .d (.int (.ofNat s))) rfl t1 t2).trans q16
  exact Ev.frz_on rfl (Ev.ifs_on c (tail14 Z hC h10 hy top))
def valI : Ev.R Ev.RV → Int
  | .ok (.v (.d (.int i))) => i
  | _ => 0
theorem mem_ks {s : Nat} {j : Int} : j ∈ ks s ↔ ∃ k : Nat, 1 ≤ k ∧ k ≤ s ∧ j = .ofNat k := by
  unfold ks
  rw [List.mem_map]
  constructor
  · rintro ⟨k, h, e⟩
    rw [List.mem_range'_1] at h
    exact ⟨k, h.1, by omega, e.symm⟩
  · rintro ⟨k, h1, h2, e⟩
    exact ⟨k, List.mem_range'_1.mpr ⟨h1, by omega⟩, e.symm⟩
theorem tail10 (Z : Sz cf s gl pl al wh) (hC : okC pl C) (h10 : ∀ i, i ∈ C → -10 ≤ i ∧ i ≤ 10) (hy : y ∈ gl) (top : ∀ z, z ∈ gl → W pl C z ≤ W pl C y) {x7 x8 : Ev.Slot} : Ev.AnsT cf r10 (en (nD s) (nD pl.length) (.v (.d (tC C))) (.v (.d (.tuple gl))) .no x7 x8 (iD (W pl C y)) (.v (.d y)) .no .no) := by
  unfold r10
  have hk : ∀ j, j ∈ ks s → ∃ v, cf 17 [.d (.int (.ofNat s)), .d (tC C), .d (.int j)] = .ok (.v (.d (.int v))) ∧ (∃ g, g ∈ gl ∧ v = W pl C g) ∧ ∀ k : Nat, j = .ofNat k → ∀ g, g ∈ gl → Ev.lenB (.ofNat k) g = true → W pl C g ≤ v := fun j hj => by
    obtain ⟨k, k1, k2, e⟩ := mem_ks.mp hj
    subst e
    obtain ⟨v, v1, ⟨g, g1, _, g3⟩, v3⟩ := Z.bl C hC k k1 k2
    refine ⟨v, v1, ⟨g, g1, g3⟩, fun k' e => ?_⟩
    cases e
    exact v3
  have c : Ev.dT cf c11 (en (nD s) (nD pl.length) (.v (.d (tC C))) (.v (.d (.tuple gl))) .no x7 x8 (iD (W pl C y)) (.v (.d y)) .no .no) = .ok false := by
    unfold c11
    refine Ev.orF ?_ ?_
    · have hl : (ks s).length ≤ 1000 := by
        have := Z.sn
        unfold ks
        rw [List.length_map, List.length_range']
        omega
      have t0 : Ev.dE cf (.lc [6] (.name 6) (.irng2 (.int 1) (.bin .add (.var 2) (.int 1))) (.call 17 (.cons (.var 2) (.cons (.var 4) (.cons (.var 6) .nil))))) (en (nD s) (nD pl.length) (.v (.d (tC C))) (.v (.d (.tuple gl))) .no x7 x8 (iD (W pl C y)) (.v (.d y)) .no .no) = .ok (.o (.d (.list (Ev.intsD ((ks s).map fun j => valI (cf 17 [.d (.int (.ofNat s)), .d (tC C), .d (.int j)])))))) :=
        Ev.dE_lcI (C := ks s) (f := fun j => valI (cf 17 [.d (.int (.ofNat s)), .d (tC C), .d (.int j)])) (Z.it _ _ _ _ _ _ _ _ _ _) hl fun j hj => by
          obtain ⟨v, v1, _, _⟩ := hk j hj
          show ((cf 17 [.d (.int (.ofNat s)), .d (tC C), .d (.int j)]).bind Ev.fzD) = _
          rw [v1]
          rfl
      have hm : ∀ v, v ∈ ((ks s).map fun j => valI (cf 17 [.d (.int (.ofNat s)), .d (tC C), .d (.int j)])) → v ≤ W pl C y := fun v hv => by
        obtain ⟨j, hj, e⟩ := List.mem_map.mp hv
        obtain ⟨u, u1, ⟨g, g1, g2⟩, _⟩ := hk j hj
        have e : valI (cf 17 [.d (.int (.ofNat s)), .d (tC C), .d (.int j)]) = v := e
        rw [u1] at e
        have e : u = v := e
        rw [← e, g2]
        exact top g g1
      obtain ⟨k, k1, k2, k3⟩ := Z.ln y hy
      have hj : Int.ofNat k ∈ ks s := mem_ks.mpr ⟨k, k1, k2, rfl⟩
      have hin : valI (cf 17 [.d (.int (.ofNat s)), .d (tC C), .d (.int (.ofNat k))]) ∈ ((ks s).map fun j => valI (cf 17 [.d (.int (.ofNat s)), .d (tC C), .d (.int j)])) := List.mem_map.mpr ⟨_, hj, rfl⟩
      have hge : W pl C y ≤ valI (cf 17 [.d (.int (.ofNat s)), .d (tC C), .d (.int (.ofNat k))]) := by
        obtain ⟨u, u1, _, u3⟩ := hk _ hj
        rw [u1]
        exact u3 k rfl y hy k3
      have tb := Ev.dE_b1 (o := .max) t0
      cases q : ((ks s).map fun j => valI (cf 17 [.d (.int (.ofNat s)), .d (tC C), .d (.int j)])) with
      | nil => rw [q] at hin; cases hin
      | cons a r =>
        rw [q] at hm hin tb
        obtain ⟨m1, m2⟩ := Ev.imax_ok r a
        rw [Ev.dT_cmp (x := .v (.d (.int (W pl C y)))) rfl (tb.trans Ev.max_D)]
        exact Ev.cmpNe (Int.le_antisymm (Int.le_trans hge (m2 _ hin)) (hm _ m1))
    · rw [Ev.dT_cmp (x := .v (.d (.int (W pl C y)))) rfl (Ev.dE_mx2 (i := 0) rfl ((Ev.dE_b1 (x := .v (.d (tC C))) rfl).trans Ev.sum_DT))]
      refine ltI ?_
      have a := top al Z.am
      have b : W pl C al = 0 := Ev.wS_none Z.a0
      have c := top wh Z.wm
      have d : W pl C wh = Ev.isum C := Ev.wS_all hC.1 Z.w1
      show (match Ev.iLt 0 (Ev.isum C) with | true => Ev.isum C | false => 0) ≤ W pl C y
      cases Ev.iLt 0 (Ev.isum C) with
      | true => show Ev.isum C ≤ W pl C y; omega
      | false => show 0 ≤ W pl C y; omega
  exact Ev.frz_on rfl (Ev.ifs_on c (tail12 Z hC h10 hy top))
theorem tail8 (Z : Sz cf s gl pl al wh) (hC : okC pl C) (h10 : ∀ i, i ∈ C → -10 ≤ i ∧ i ≤ 10) {x7 x8 : Ev.Slot} : Ev.AnsT cf r8 (en (nD s) (nD pl.length) (.v (.d (tC C))) (.v (.d (.tuple gl))) .no x7 x8 .no .no .no .no) := by
  unfold r8
  obtain ⟨y, y1, y2, y3⟩ := Z.bg C hC
  have e9 : Ev.dS cf s9 (en (nD s) (nD pl.length) (.v (.d (tC C))) (.v (.d (.tuple gl))) .no x7 x8 .no .no .no .no) = .ok (.nx (en (nD s) (nD pl.length) (.v (.d (tC C))) (.v (.d (.tuple gl))) .no x7 x8 (iD (W pl C y)) (.v (.d y)) .no .no)) := by
    show ((cf 15 [.d (.int (.ofNat s)), .d (tC C)]).bind _) = _
    rw [y1]
    rfl
  exact Ev.frz_on rfl (Ev.seq_on e9 (tail10 Z hC h10 y2 y3))
theorem tail5 (Z : Sz cf s gl pl al wh) (hC : okC pl C) (h10 : ∀ i, i ∈ C → -10 ≤ i ∧ i ≤ 10) : Ev.AnsT cf r5 (en (nD s) (nD pl.length) (.v (.d (tC C))) (.v (.d (.tuple gl))) .no .no .no .no .no .no .no) := by
  unfold r5
  have w0 : W pl C al = 0 := Ev.wS_none Z.a0
  have ws : W pl C wh = Ev.isum C := Ev.wS_all hC.1 Z.w1
  have c : Ev.dT cf c7 (en (nD s) (nD pl.length) (.v (.d (tC C))) (.v (.d (.tuple gl))) .no (.v (.d al)) (.v (.d wh)) .no .no .no .no) = .ok false := by
    unfold c7
    refine Ev.orF ?_ (Ev.orF ?_ (Ev.orF ?_ ?_))
    · rw [Ev.dT_cmp (y := .v (.d (.int 0))) ((Ev.dE_call2 (u := .d al) (v := .d (tC C)) rfl rfl).trans (Z.wo C hC al Z.am)) rfl]
      exact Ev.cmpNe w0
    · rw [Ev.dT_cmp ((Ev.dE_call2 (u := .d wh) (v := .d (tC C)) rfl rfl).trans (Z.wo C hC wh Z.wm)) ((Ev.dE_b1 (x := .v (.d (tC C))) rfl).trans Ev.sum_DT)]
      exact Ev.cmpNe ws
    · obtain ⟨v, v1, ⟨g, g1, g2, g3⟩, _⟩ := Z.bl C hC s Z.s0 (Nat.le_refl _)
      rw [Z.ae g g1 g2, w0] at g3
      rw [Ev.dT_cmp (y := .v (.d (.int 0))) ((Ev.dE_call3 (u := .d (.int (.ofNat s))) (v := .d (tC C)) (w := .d (.int (.ofNat s))) rfl rfl rfl).trans v1) rfl]
      exact Ev.cmpNe g3
    · obtain ⟨v, v1, ⟨g, g1, g2, g3⟩, _⟩ := Z.bl C hC 1 (Nat.le_refl _) Z.s0
      rw [Z.we g g1 g2, ws] at g3
      rw [Ev.dT_cmp ((Ev.dE_call3 (u := .d (.int (.ofNat s))) (v := .d (tC C)) (w := .d (.int 1)) rfl rfl rfl).trans v1) ((Ev.dE_b1 (x := .v (.d (tC C))) rfl).trans Ev.sum_DT)]
      exact Ev.cmpNe g3
  exact Ev.seq_on (Z.s5 _ _) (Ev.frz_on rfl (Ev.ifs_on c (tail8 Z hC h10)))
theorem tail3 (Z : Sz cf s gl pl al wh) (ht : cf 22 = Ev.takeV) : Ev.AnsT cf r3 (en (nD s) (nD pl.length) .no .no .no .no .no .no .no .no .no) := by
  unfold r3
  have pn := Z.pn
  have hb : (21 : Nat) < Ev.big := by decide +kernel
  have hE : (Ev.dE cf (.b1 .tuple (.lc [6] (.name 6) (.irng1 (.var 3)) (.bin .sub (.call 22 (.cons (.var 1) (.cons (.int 21) .nil))) (.int 10)))) (en (nD s) (nD pl.length) .no .no .no .no .no .no .no .no .no)).Post fun r => ∃ C, r = .v (.d (tC C)) ∧ C.length = pl.length ∧ ∀ i, i ∈ C → -10 ≤ i ∧ i ≤ 10 := by
    show ((((match Ev.smallI (.ofNat pl.length) with | true => Ev.R.ok (Ev.rngFrom 0 (Ev.natOf (.ofNat pl.length))) | false => Ev.R.stuck)).bind fun xs => (Ev.loopL xs (.name 6) (Ev.wipeE (en (nD s) (nD pl.length) .no .no .no .no .no .no .no .no .no) [6]) (fun e1 => (Ev.dE cf (.bin .sub (.call 22 (.cons (.var 1) (.cons (.int 21) .nil))) (.int 10)) e1).bind Ev.fzD)).bind Ev.newL).bind fun x => Ev.b1V .tuple x.rd).Post _
    rw [Ev.small_of (by omega)]
    show (((Ev.loopL (Ev.rngFrom 0 pl.length) (.name 6) (Ev.wipeE (en (nD s) (nD pl.length) .no .no .no .no .no .no .no .no .no) [6]) (fun e1 => (Ev.dE cf (.bin .sub (.call 22 (.cons (.var 1) (.cons (.int 21) .nil))) (.int 10)) e1).bind Ev.fzD)).bind Ev.newL).bind fun x => Ev.b1V .tuple x.rd).Post _
    refine Ev.R.post_bind' (Ev.R.post_bind' ((Ev.loopL_ints (lo := -10) (hi := 10) (fun x => ?_) pl.length 0).mono fun L hL => ?_))
    · show ((((cf 22 [.row, .d (.int (.ofNat 21))]).bind fun y => Ev.binV .sub y.rd (.d (.int 10)))).bind Ev.fzD).Post _
      rw [ht, Ev.take_of (by decide) hb]
      refine ⟨by decide, fun v hv => ⟨Int.ofNat v - 10, rfl, ?_, ?_⟩⟩
      · show (-10 : Int) ≤ (v : Int) - 10; omega
      · show (v : Int) - 10 ≤ 10; omega
    · obtain ⟨C, e, hl, hC⟩ := hL
      subst e
      rw [Ev.newL_few (by rw [Ev.intsD_len]; omega)]
      exact ⟨C, rfl, hl, hC⟩
  refine Ev.frz_on rfl (seq_post ?_)
  show (((Ev.dE cf (.b1 .tuple (.lc [6] (.name 6) (.irng1 (.var 3)) (.bin .sub (.call 22 (.cons (.var 1) (.cons (.int 21) .nil))) (.int 10)))) (en (nD s) (nD pl.length) .no .no .no .no .no .no .no .no .no)).bind fun x => Ev.R.bind ((cf 7 [.d (.int (.ofNat s))]).bind fun y => Ev.R.bind (Ev.R.ok []) fun ys => Ev.R.ok (y :: ys)) fun xs => Ev.R.ok (x :: xs)).bind _).Post _
  refine Ev.R.post_bind' (Ev.R.post_bind' (hE.mono fun r hr => ?_))
  obtain ⟨C, e, hl, hC⟩ := hr
  subst e
  rw [Z.gp]
  exact ⟨_, rfl, tail5 Z ⟨hl, fun i hi => by have := hC i hi; omega⟩ hC⟩
theorem tail0 (ht : cf 22 = Ev.takeV) (hs : ∀ s, s < 4 → ∃ gl pl al wh, Sz cf (s + 1) gl pl al wh) : Ev.AnsT cf r0 (Ev.rowEnv 11) := by
  unfold r0
  have hb : (4 : Nat) < Ev.big := by decide +kernel
  refine Ev.frz_on rfl (seq_post ?_)
  show ((((cf 22 [.row, .d (.int (.ofNat 4))]).bind fun y => Ev.binV .add (.d (.int 1)) y.rd).bind _)).Post _
  rw [ht, Ev.take_of (by decide) hb]
  refine ⟨by decide, fun s hs' => ⟨en (nD (1 + s)) .no .no .no .no .no .no .no .no .no .no, rfl, ?_⟩⟩
  rw [Nat.add_comm 1 s]
  exact Exists.elim (hs s hs') fun gl h => Exists.elim h fun pl h => Exists.elim h fun al h => Exists.elim h fun wh Z => Ev.seq_on Z.s2 (tail3 Z ht)
end
/-! ### facts by number -/
theorem q0 (k : Nat) : Ev.cfN T (k + 1) 0 = Ev.runDef (Ev.cfN T k) Ev.inDef := rfl
theorem q5 (k : Nat) : Ev.cfN T (k + 1) 5 = Ev.runDef (Ev.cfN T k) (Ev.ngDef 3) := rfl
theorem q9 (k : Nat) : Ev.cfN T (k + 1) 9 = Ev.runDef (Ev.cfN T k) (Ev.arlDef 0) := rfl
theorem q10 (k : Nat) : Ev.cfN T (k + 1) 10 = Ev.runDef (Ev.cfN T k) (Ev.nlDef 9) := rfl
theorem q11 (k : Nat) : Ev.cfN T (k + 1) 11 = Ev.runDef (Ev.cfN T k) (Ev.woDef 8 4) := rfl
theorem q12 (k : Nat) : Ev.cfN T (k + 1) 12 = Ev.runDef (Ev.cfN T k) (Ev.ownDef 5 10 4 11) := rfl
theorem q13 (k : Nat) : Ev.cfN T (k + 1) 13 = Ev.runDef (Ev.cfN T k) (Ev.nsDef 1 10) := rfl
theorem q14 (k : Nat) : Ev.cfN T (k + 1) 14 = Ev.runDef (Ev.cfN T k) (Ev.boDef 6 11) := rfl
theorem q15 (k : Nat) : Ev.cfN T (k + 1) 15 = Ev.runDef (Ev.cfN T k) (Ev.bgDef 13 14) := rfl
theorem q16 (k : Nat) : Ev.cfN T (k + 1) 16 = Ev.runDef (Ev.cfN T k) (Ev.sbgDef 13 14 0 3 4 11) := rfl
theorem q17 (k : Nat) : Ev.cfN T (k + 1) 17 = Ev.runDef (Ev.cfN T k) (Ev.blDef 13 0 6 11) := rfl
theorem q18 (k : Nat) : Ev.cfN T (k + 1) 18 = Ev.runDef (Ev.cfN T k) (Ev.sbwDef 8) := rfl
theorem q19 (k : Nat) : Ev.cfN T (k + 1) 19 = Ev.runDef (Ev.cfN T k) (Ev.caDef 4 18) := rfl
theorem q20 (k : Nat) : Ev.cfN T (k + 1) 20 = Ev.runDef (Ev.cfN T k) (Ev.ownDef 5 10 4 19) := rfl
theorem q21 (k : Nat) : Ev.cfN T (k + 1) 21 = Ev.runDef (Ev.cfN T k) (Ev.coDef 13 6 19) := rfl
theorem q22 (k : Nat) : Ev.cfN T (k + 1) 22 = Ev.takeV := rfl
theorem q23 (k : Nat) : Ev.cfN T (k + 1) 23 = Ev.runDef (Ev.cfN T k) (Ev.pickDT 22) := rfl
def lotB : Ev.D → Bool
  | .tuple ps => Nat.ble ps.length 6 && Ev.okDs 8 ps
  | _ => false
theorem lotB_use {l : Ev.D} (h : lotB l = true) : ∃ ps, l = .tuple ps ∧ ps.length ≤ 6 ∧ Ev.okDs 8 ps = true := by
  unfold lotB at h
  split at h
  · obtain ⟨a, b⟩ := Ev.and2 h
    exact ⟨_, rfl, Nat.le_of_ble_eq_true a, b⟩
  · cases h
def p2B : Ev.D → Bool
  | .tuple l => match l with
    | [] => false
    | a :: r => match r with
      | [] => false
      | b :: q => match q with
        | [] => Ev.okD 8 a && Ev.okD 8 b
        | _ :: _ => false
  | _ => false
theorem p2_use {p : Ev.D} (h : p2B p = true) : Ev.okP p := by
  unfold p2B at h
  split at h
  · split at h
    · cases h
    · split at h
      · cases h
      · split at h
        · obtain ⟨a, b⟩ := Ev.and2 h
          exact ⟨_, _, rfl, a, b⟩
        · cases h
  · cases h
def isTup : Ev.D → Bool
  | .tuple _ => true
  | _ => false
def AllP (P : Ev.D → Prop) : List Ev.D → Prop
  | [] => True
  | x :: r => P x ∧ AllP P r
theorem allP_use {P : Ev.D → Prop} : ∀ {l : List Ev.D}, AllP P l → ∀ x, x ∈ l → P x
  | y :: r, h, x, hx => by
    rcases List.mem_cons.mp hx with e | hx
    · rw [e]; exact h.1
    · exact allP_use h.2 x hx
theorem okL_sing {p : Ev.D} (h : Ev.okD 8 p = true) : Ev.okL (.tuple [p]) := ⟨[p], rfl, by
  show (match Ev.okD 8 p with | true => true | false => false) = true
  rw [h]⟩
theorem okDs_pick {c : Ev.D → Bool} : ∀ {l : List Ev.D}, Ev.okDs 8 l = true → Ev.okDs 8 (Ev.pickB c l) = true
  | [], _ => rfl
  | x :: r, h => by
    have h : (match Ev.okD 8 x with | true => Ev.okDs 8 r | false => false) = true := h
    cases q : Ev.okD 8 x with
    | false => rw [q] at h; cases h
    | true =>
      rw [q] at h
      have ih := okDs_pick (c := c) h
      show Ev.okDs 8 (match c x with | true => x :: Ev.pickB c r | false => Ev.pickB c r) = true
      cases c x with
      | true =>
        show (match Ev.okD 8 x with | true => Ev.okDs 8 (Ev.pickB c r) | false => false) = true
        rw [q]
        exact ih
      | false => exact ih
def gB (g : Ev.D) (s : Int) (gl pl : List Ev.D) : Bool := Ev.eqRes (Ev.cfN T 6 3 [.d g]) false (.bool true) && (Ev.eqRes (Ev.cfN T 6 4 [.d g]) false (.int s) && (Ev.okB g && (Ev.unif 2 g && (isTup g && (Ev.allB' lotB (Ev.itemsD g) && (Ev.leaveAll gl pl g && Ev.joinAll gl pl g))))))
structure GrP (g : Ev.D) (s : Int) (gl pl : List Ev.D) : Prop where
  ig : Ev.cfN T 6 3 [.d g] = .ok (.v (.d (.bool true)))
  sz : Ev.cfN T 6 4 [.d g] = .ok (.v (.d (.int s)))
  ok : Ev.okB g = true
  u2 : Ev.unif 2 g = true
  tu : ∃ l, g = .tuple l
  lt : ∀ l, l ∈ Ev.itemsD g → ∃ ps, l = .tuple ps ∧ ps.length ≤ 6 ∧ Ev.okDs 8 ps = true
  la : Ev.leaveAll gl pl g = true
  jo : Ev.joinAll gl pl g = true
theorem gB_use {g : Ev.D} {s : Int} {gl pl : List Ev.D} (h : gB g s gl pl = true) : GrP g s gl pl := by
  obtain ⟨h1, h⟩ := Ev.and2 h
  obtain ⟨h2, h⟩ := Ev.and2 h
  obtain ⟨h3, h⟩ := Ev.and2 h
  obtain ⟨h4, h⟩ := Ev.and2 h
  obtain ⟨h5, h⟩ := Ev.and2 h
  obtain ⟨h6, h⟩ := Ev.and2 h
  obtain ⟨h7, h8⟩ := Ev.and2 h
  refine ⟨Ev.eqRes_eq (b := false) h1, Ev.eqRes_eq (b := false) h2, h3, h4, ?_, fun x hx => lotB_use (Ev.allB'_iff.mp h6 x hx), h7, h8⟩
  unfold isTup at h5
  split at h5
  · exact ⟨_, rfl⟩
  · cases h5
/-- alone, together, numbers of groups -/
def sB (s : Nat) (gl pl : List Ev.D) (al wh : Ev.D) : Bool := Ev.memD al gl && (Ev.allB' (fun p => !Ev.tgD al p) pl && (Ev.lenB (.ofNat s) al && (Ev.allB' (fun g => match Ev.lenB (.ofNat s) g with | true => Ev.eqD g al | false => true) gl && (Ev.memD wh gl && (Ev.allB' (fun p => Ev.tgD wh p) pl && (Ev.lenB 1 wh && (Ev.allB' (fun g => match Ev.lenB 1 g with | true => Ev.eqD g wh | false => true) gl && (Ev.allB' (fun g => Ev.anyB' (fun k => match k with | .int i => Ev.lenB i g | _ => false) (Ev.intsD (ks s))) gl && (Ev.allB' (fun k => match k with | .int i => Ev.anyB' (fun g => Ev.lenB i g) gl | _ => false) (Ev.intsD (ks s)) && Ev.okB (.tuple gl))))))))))
theorem mkSz {s : Nat} {gl pl : List Ev.D} {al wh : Ev.D} (P : ∀ g, g ∈ gl → GrP g (.ofNat s) gl pl) (hB : sB s gl pl al wh = true) (hp : ∀ p, p ∈ pl → Ev.okP p) (g1 : gl.length ≤ 1000) (g0 : gl ≠ []) (pn : pl.length ≤ 20) (s0 : 1 ≤ s) (sn : s ≤ 6)
    (h6 : Ev.cfN T 6 6 [.d (.int (.ofNat s))] = .ok (.o (.d (.list gl)))) (h8 : Ev.cfN T 6 8 [.d (.int (.ofNat s))] = .ok (.o (.d (.list pl)))) (h1 : Ev.cfN T 6 1 [.d (.int (.ofNat s))] = .ok (.v (.d .none))) (h7 : Ev.cfN T 8 7 [.d (.int (.ofNat s))] = .ok (.v (.d (.tuple gl))))
    (hK : ∀ x1 x2, Ev.dE (Ev.cfN T 6) (.bin .fdiv (.bin .mul (.var 0) (.bin .sub (.var 0) (.int 1))) (.int 2)) [.v (.d (.int (.ofNat s))), x1, x2] = .ok (.v (.d (.int (.ofNat pl.length)))))
    (hs2 : Ev.dS (Ev.cfN T 14) s2 (en (nD s) .no .no .no .no .no .no .no .no .no .no) = .ok (.nx (en (nD s) (nD pl.length) .no .no .no .no .no .no .no .no .no)))
    (hs5 : ∀ x4 x5, Ev.dS (Ev.cfN T 14) s5 (en (nD s) (nD pl.length) x4 x5 .no .no .no .no .no .no .no) = .ok (.nx (en (nD s) (nD pl.length) x4 x5 .no (.v (.d al)) (.v (.d wh)) .no .no .no .no)))
    (it : ∀ x3 x4 x5 x6 x7 x8 x9 x10 x11 x12, Ev.dI (Ev.cfN T 14) (.irng2 (.int 1) (.bin .add (.var 2) (.int 1))) (en (nD s) x3 x4 x5 x6 x7 x8 x9 x10 x11 x12) = .ok (Ev.intsD (ks s))) : Sz (Ev.cfN T 14) s gl pl al wh := by
  obtain ⟨b1, hB⟩ := Ev.and2 hB
  obtain ⟨b2, hB⟩ := Ev.and2 hB
  obtain ⟨b3, hB⟩ := Ev.and2 hB
  obtain ⟨b4, hB⟩ := Ev.and2 hB
  obtain ⟨b5, hB⟩ := Ev.and2 hB
  obtain ⟨b6, hB⟩ := Ev.and2 hB
  obtain ⟨b7, hB⟩ := Ev.and2 hB
  obtain ⟨b8, hB⟩ := Ev.and2 hB
  obtain ⟨b9, hB⟩ := Ev.and2 hB
  obtain ⟨b10, b11⟩ := Ev.and2 hB
  have ik : ∀ k : Nat, 1 ≤ k → k ≤ s → PyData.int (.ofNat k) ∈ Ev.intsD (ks s) := fun k k1 k2 => List.mem_map.mpr ⟨.ofNat k, mem_ks.mpr ⟨k, k1, k2, rfl⟩, rfl⟩
  have lots : ∀ g, g ∈ gl → ∀ l, l ∈ Ev.itemsD g → Ev.okL l := fun g hg l hl => by
    obtain ⟨ps, e, _, h⟩ := (P g hg).lt l hl
    exact ⟨ps, e, h⟩
  have tog : ∀ g, g ∈ gl → ∀ p, p ∈ pl → ∀ x1 x2 x4, Ev.dT (Ev.cfN T 6) Ev.togX [.v (.d g), x1, x2, .v (.d p), x4, .no] = .ok (Ev.tgD g p) := fun g hg p hp' x1 x2 x4 => by
    have z := lots g hg
    obtain ⟨l, e⟩ := (P g hg).tu
    subst e
    exact Ev.togX_run (hp p hp') z x1 x2 x4
  have wo : ∀ C, okC pl C → ∀ g, g ∈ gl → Ev.cfN T 7 11 [.d g, .d (tC C)] = .ok (.v (.d (.int (W pl C g)))) := fun C hC g hg => by
    rw [q11, Ev.wo_run (P g hg).sz h8 (tog g hg), Ev.wSum_wS, Int.zero_add]
  have ng : ∀ g, g ∈ gl → Ev.cfN T 7 5 [.d g] = .ok (.v (.d .none)) := fun g hg => by
    rw [q5]
    exact Ev.ng_run (P g hg).ig
  have al' : ∀ C, okC pl C → Ev.cfN T 7 9 [.d (.int (.ofNat s)), .d (tC C)] = .ok (.v (.d (.bool true))) := fun C hC => by
    rw [q9]
    refine Ev.arl_run (fun i hi => ?_) ?_
    · obtain ⟨a, b⟩ := hC.2 i hi
      rw [q0, Ev.in_run, Ev.iLe_iff, Ev.iLe_iff, decide_eq_true a, decide_eq_true b]
      rfl
    · rw [hC.1]
      exact hK
  have nl : ∀ C, okC pl C → Ev.cfN T 8 10 [.d (.int (.ofNat s)), .d (tC C)] = .ok (.v (.d .none)) := fun C hC => by
    rw [q10]
    exact Ev.nl_run (al' C hC)
  have nq : ∀ C, okC pl C → Ev.cfN T 9 13 [.d (.int (.ofNat s)), .d (tC C)] = .ok (.v (.d .none)) := fun C hC => by
    rw [q13]
    exact Ev.ns_run (Ev.ok_mono h1 2) (nl C hC)
  have bo : ∀ C, okC pl C → ∃ y, Ev.cfN T 8 14 [.d (.int (.ofNat s)), .d (tC C)] = .ok (.v (.d (Ev.prI (fun g => W pl C g) y))) ∧ y ∈ gl ∧ ∀ z, z ∈ gl → W pl C z ≤ W pl C y := fun C hC => by
    rw [q14]
    exact Ev.bo_run (w := fun g => W pl C g) (Ev.ok_mono h6 1) (wo C hC) (fun g hg => (P g hg).u2) g0 g1
  have sb : ∀ C, okC pl C → ∀ A B, Ev.okL A → Ev.okL B → Ev.cfN T 7 18 [.d A, .d B, .d (.int (.ofNat s)), .d (tC C)] = .ok (.v (.d (.int (Ev.wSum (Ev.btwB A B) pl C 0)))) := fun C hC A B hA hB => by
    rw [q18]
    exact Ev.sbw_run h8 fun p hp' => Ev.btwX_run (hp p hp') hA hB
  have ca : ∀ C, okC pl C → ∀ g, g ∈ gl → Ev.cfN T 8 19 [.d g, .d (tC C)] = .ok (.v (.d (.bool (Ev.cmT pl C g)))) := fun C hC g hg => by
    have z := lots g hg
    have lt := (P g hg).lt
    have sz := (P g hg).sz
    obtain ⟨l, e⟩ := (P g hg).tu
    subst e
    rw [q19]
    refine Ev.ca_run (σ := fun A B => Ev.wSum (Ev.btwB A B) pl C 0) (Ev.ok_mono sz 1) (fun lot hl => ?_) (fun lot hl p hp' => ?_) (fun lot hl o ho => sb C hC lot o (z lot hl) (z o ho))
    · obtain ⟨ps, e, n, k⟩ := lt lot hl
      exact ⟨ps, e, by omega, Ev.okDs_mem k⟩
    · obtain ⟨ps, e, n, k⟩ := lt lot hl
      subst e
      exact sb C hC _ _ (okL_sing (Ev.okDs_mem k p hp')) ⟨_, rfl, okDs_pick k⟩
  have pk : (Ev.cfN T 14 23 [.row, .d (.tuple gl)]).Post fun r => ∃ x, r = .v (.d x) ∧ x ∈ gl := by
    have hb : (1000 : Nat) < Ev.big := by decide +kernel
    rw [q23]
    exact Ev.pickT_post (q22 12) (List.length_pos_iff.mpr g0) (by omega)
  refine ⟨fun g hg => (P g hg).ok, fun C hC g hg => ?_, fun C hC k k1 k2 => ?_, fun C hC => ?_, fun C hC g hg top => ?_, fun C hC g hg => ?_, fun C hC => ?_, fun C g hg top => Ev.cm_top (P g hg).la (P g hg).jo top, Ev.memD_mem b1, fun p hp' => ?_, b3, fun g hg e => ?_, Ev.memD_mem b5, fun p hp' => Ev.allB'_iff.mp b6 p hp', b7, fun g hg e => ?_, fun g hg => ?_, hs2, hs5, it, Ev.ok_mono h7 6, pk, b11, pn, s0, sn, g1⟩
  · rw [q12]
    exact Ev.own_run (Ev.ok_mono (ng g hg) 6) (Ev.ok_mono (P g hg).sz 7) (Ev.ok_mono (nl C hC) 5) (Ev.ok_mono (wo C hC g hg) 6)
  · rw [q17]
    refine Ev.bl_run (w := fun g => W pl C g) (Ev.ok_mono (nq C hC) 4) ?_ (Ev.ok_mono h6 7) (fun g hg => Ev.ok_mono (wo C hC g hg) 6) (fun g hg => (P g hg).tu) g1 ?_
    · rw [q0, Ev.in_run, Ev.iLe_iff, Ev.iLe_iff, decide_eq_true (show (1 : Int) ≤ .ofNat k from by show (1 : Int) ≤ (k : Int); omega), decide_eq_true (show (.ofNat k : Int) ≤ .ofNat s from by show (k : Int) ≤ (s : Int); omega)]
      rfl
    · have z := Ev.allB'_iff.mp b10 _ (ik k k1 k2)
      obtain ⟨g, h, e⟩ := Ev.anyB'_iff.mp z
      exact ⟨g, h, e⟩
  · obtain ⟨y, y1, y2, y3⟩ := bo C hC
    refine ⟨y, ?_, y2, y3⟩
    rw [q15]
    exact Ev.bg_run (Ev.ok_mono (nq C hC) 4) (Ev.ok_mono y1 5)
  · obtain ⟨y, y1, y2, y3⟩ := bo C hC
    have ey : W pl C g = W pl C y := Int.le_antisymm (y3 g hg) (top y y2)
    have i0 : Ev.cfN T 13 0 [.d (.int (W pl C g)), .d (.int (W pl C y)), .d (.int (W pl C y))] = .ok (.v (.d (.bool true))) := by
      rw [q0, Ev.in_run, ey, Ev.iLe_iff, decide_eq_true (Int.le_refl _)]
      rfl
    rw [q16, Ev.sbg_run (w := fun g => W pl C g) (Ev.ok_mono (nq C hC) 4) (Ev.ok_mono y1 5) i0 (Ev.ok_mono (P g hg).ig 7) (Ev.ok_mono (P g hg).sz 7) (Ev.ok_mono (wo C hC g hg) 6), Ev.iEq_iff, decide_eq_true ey]
  · rw [q20]
    exact Ev.own_run (Ev.ok_mono (ng g hg) 6) (Ev.ok_mono (P g hg).sz 7) (Ev.ok_mono (nl C hC) 5) (Ev.ok_mono (ca C hC g hg) 5)
  · rw [q21]
    exact Ev.co_run (Ev.ok_mono (nq C hC) 4) (Ev.ok_mono h6 7) (fun g hg => Ev.ok_mono (ca C hC g hg) 5) g1
  · have z := Ev.allB'_iff.mp b2 p hp'
    cases e : Ev.tgD al p with
    | false => rfl
    | true =>
      have z : (!Ev.tgD al p) = true := z
      rw [e] at z
      cases z
  · have z := Ev.allB'_iff.mp b4 g hg
    have z : (match Ev.lenB (.ofNat s) g with | true => Ev.eqD g al | false => true) = true := z
    rw [e] at z
    exact Ev.eqD_eq z
  · have z := Ev.allB'_iff.mp b8 g hg
    have z : (match Ev.lenB 1 g with | true => Ev.eqD g wh | false => true) = true := z
    rw [e] at z
    exact Ev.eqD_eq z
  · obtain ⟨x, h, e⟩ := Ev.anyB'_iff.mp (Ev.allB'_iff.mp b9 g hg)
    obtain ⟨j, hj, ex⟩ := Ev.mem_intsD h
    subst ex
    obtain ⟨k, k1, k2, ej⟩ := mem_ks.mp hj
    subst ej
    exact ⟨k, k1, k2, e⟩
theorem ha1_0 : gB G1_0 1 ls1 pl1 = true := by kernel_rfl
theorem sb1 : sB 1 ls1 pl1 G1_0 G1_0 = true := by kernel_rfl
theorem h6_1 : Ev.cfN T 6 6 [.d (.int 1)] = .ok (.o (.d (.list ls1))) := Ev.eqRes_eq (b := true) (by kernel_rfl)
theorem h8_1 : Ev.cfN T 6 8 [.d (.int 1)] = .ok (.o (.d (.list pl1))) := Ev.eqRes_eq (b := true) (by kernel_rfl)
theorem h1_1 : Ev.cfN T 6 1 [.d (.int 1)] = .ok (.v (.d .none)) := Ev.eqRes_eq (b := false) (by kernel_rfl)
theorem h7_1 : Ev.cfN T 8 7 [.d (.int 1)] = .ok (.v (.d (.tuple ls1))) := Ev.eqRes_eq (b := false) (by kernel_rfl)
theorem hp_1 : Ev.allB' p2B pl1 = true := by kernel_rfl
theorem ha2_0 : gB G2_0 2 ls2 pl2 = true := by kernel_rfl
theorem ha2_1 : gB G2_1 2 ls2 pl2 = true := by kernel_rfl
theorem sb2 : sB 2 ls2 pl2 G2_0 G2_1 = true := by kernel_rfl
theorem h6_2 : Ev.cfN T 6 6 [.d (.int 2)] = .ok (.o (.d (.list ls2))) := Ev.eqRes_eq (b := true) (by kernel_rfl)
theorem h8_2 : Ev.cfN T 6 8 [.d (.int 2)] = .ok (.o (.d (.list pl2))) := Ev.eqRes_eq (b := true) (by kernel_rfl)
theorem h1_2 : Ev.cfN T 6 1 [.d (.int 2)] = .ok (.v (.d .none)) := Ev.eqRes_eq (b := false) (by kernel_rfl)
theorem h7_2 : Ev.cfN T 8 7 [.d (.int 2)] = .ok (.v (.d (.tuple ls2))) := Ev.eqRes_eq (b := false) (by kernel_rfl)
theorem hp_2 : Ev.allB' p2B pl2 = true := by kernel_rfl
theorem ha3_0 : gB G3_0 3 ls3 pl3 = true := by kernel_rfl
theorem ha3_1 : gB G3_1 3 ls3 pl3 = true := by kernel_rfl
theorem ha3_2 : gB G3_2 3 ls3 pl3 = true := by kernel_rfl
theorem ha3_3 : gB G3_3 3 ls3 pl3 = true := by kernel_rfl
theorem ha3_4 : gB G3_4 3 ls3 pl3 = true := by kernel_rfl
theorem sb3 : sB 3 ls3 pl3 G3_0 G3_3 = true := by kernel_rfl
theorem h6_3 : Ev.cfN T 6 6 [.d (.int 3)] = .ok (.o (.d (.list ls3))) := Ev.eqRes_eq (b := true) (by kernel_rfl)
theorem h8_3 : Ev.cfN T 6 8 [.d (.int 3)] = .ok (.o (.d (.list pl3))) := Ev.eqRes_eq (b := true) (by kernel_rfl)
theorem h1_3 : Ev.cfN T 6 1 [.d (.int 3)] = .ok (.v (.d .none)) := Ev.eqRes_eq (b := false) (by kernel_rfl)
theorem h7_3 : Ev.cfN T 8 7 [.d (.int 3)] = .ok (.v (.d (.tuple ls3))) := Ev.eqRes_eq (b := false) (by kernel_rfl)
theorem hp_3 : Ev.allB' p2B pl3 = true := by kernel_rfl
theorem ha4_0 : gB G4_0 4 ls4 pl4 = true := by kernel_rfl
theorem ha4_1 : gB G4_1 4 ls4 pl4 = true := by kernel_rfl
theorem ha4_2 : gB G4_2 4 ls4 pl4 = true := by kernel_rfl
theorem ha4_3 : gB G4_3 4 ls4 pl4 = true := by kernel_rfl
theorem ha4_4 : gB G4_4 4 ls4 pl4 = true := by kernel_rfl
theorem ha4_5 : gB G4_5 4 ls4 pl4 = true := by kernel_rfl
theorem ha4_6 : gB G4_6 4 ls4 pl4 = true := by kernel_rfl
theorem ha4_7 : gB G4_7 4 ls4 pl4 = true := by kernel_rfl
theorem ha4_8 : gB G4_8 4 ls4 pl4 = true := by kernel_rfl
theorem ha4_9 : gB G4_9 4 ls4 pl4 = true := by kernel_rfl
theorem ha4_10 : gB G4_10 4 ls4 pl4 = true := by kernel_rfl
theorem ha4_11 : gB G4_11 4 ls4 pl4 = true := by kernel_rfl
theorem ha4_12 : gB G4_12 4 ls4 pl4 = true := by kernel_rfl
theorem ha4_13 : gB G4_13 4 ls4 pl4 = true := by kernel_rfl
theorem ha4_14 : gB G4_14 4 ls4 pl4 = true := by kernel_rfl
theorem sb4 : sB 4 ls4 pl4 G4_0 G4_8 = true := by kernel_rfl
theorem h6_4 : Ev.cfN T 6 6 [.d (.int 4)] = .ok (.o (.d (.list ls4))) := Ev.eqRes_eq (b := true) (by kernel_rfl)
theorem h8_4 : Ev.cfN T 6 8 [.d (.int 4)] = .ok (.o (.d (.list pl4))) := Ev.eqRes_eq (b := true) (by kernel_rfl)
theorem h1_4 : Ev.cfN T 6 1 [.d (.int 4)] = .ok (.v (.d .none)) := Ev.eqRes_eq (b := false) (by kernel_rfl)
theorem h7_4 : Ev.cfN T 8 7 [.d (.int 4)] = .ok (.v (.d (.tuple ls4))) := Ev.eqRes_eq (b := false) (by kernel_rfl)
theorem hp_4 : Ev.allB' p2B pl4 = true := by kernel_rfl
theorem gp1_0 : GrP G1_0 (.ofNat 1) ls1 pl1 := gB_use ha1_0
theorem ga1 : ∀ g, g ∈ ls1 → GrP g (.ofNat 1) ls1 pl1 := allP_use (l := ls1) ⟨gp1_0, trivial⟩
theorem hK_1 : ∀ x1 x2, Ev.dE (Ev.cfN T 6) (.bin .fdiv (.bin .mul (.var 0) (.bin .sub (.var 0) (.int 1))) (.int 2)) [.v (.d (.int (.ofNat 1))), x1, x2] = .ok (.v (.d (.int (.ofNat pl1.length)))) := fun x1 x2 => by kernel_rfl
theorem h2_1 : Ev.dS (Ev.cfN T 14) s2 (en (nD 1) .no .no .no .no .no .no .no .no .no .no) = .ok (.nx (en (nD 1) (nD pl1.length) .no .no .no .no .no .no .no .no .no)) := by kernel_rfl
theorem h5_1 : ∀ x4 x5, Ev.dS (Ev.cfN T 14) s5 (en (nD 1) (nD pl1.length) x4 x5 .no .no .no .no .no .no .no) = .ok (.nx (en (nD 1) (nD pl1.length) x4 x5 .no (.v (.d G1_0)) (.v (.d G1_0)) .no .no .no .no)) := fun x4 x5 => by kernel_rfl
theorem hi_1 : ∀ x3 x4 x5 x6 x7 x8 x9 x10 x11 x12 : Ev.Slot, Ev.dI (Ev.cfN T 14) (.irng2 (.int 1) (.bin .add (.var 2) (.int 1))) (en (nD 1) x3 x4 x5 x6 x7 x8 x9 x10 x11 x12) = .ok (Ev.intsD (ks 1)) := fun x3 x4 x5 x6 x7 x8 x9 x10 x11 x12 => by kernel_rfl
theorem sz1 : Sz (Ev.cfN T 14) 1 ls1 pl1 G1_0 G1_0 := mkSz ga1 sb1 (fun p hp => p2_use (Ev.allB'_iff.mp hp_1 p hp)) (by decide) (by unfold ls1; exact List.cons_ne_nil _ _) (by decide) (by decide) (by decide) h6_1 h8_1 h1_1 h7_1 hK_1 h2_1 h5_1 hi_1
theorem gp2_0 : GrP G2_0 (.ofNat 2) ls2 pl2 := gB_use ha2_0
theorem gp2_1 : GrP G2_1 (.ofNat 2) ls2 pl2 := gB_use ha2_1
theorem ga2 : ∀ g, g ∈ ls2 → GrP g (.ofNat 2) ls2 pl2 := allP_use (l := ls2) ⟨gp2_0, gp2_1, trivial⟩
theorem hK_2 : ∀ x1 x2, Ev.dE (Ev.cfN T 6) (.bin .fdiv (.bin .mul (.var 0) (.bin .sub (.var 0) (.int 1))) (.int 2)) [.v (.d (.int (.ofNat 2))), x1, x2] = .ok (.v (.d (.int (.ofNat pl2.length)))) := fun x1 x2 => by kernel_rfl
theorem h2_2 : Ev.dS (Ev.cfN T 14) s2 (en (nD 2) .no .no .no .no .no .no .no .no .no .no) = .ok (.nx (en (nD 2) (nD pl2.length) .no .no .no .no .no .no .no .no .no)) := by kernel_rfl
theorem h5_2 : ∀ x4 x5, Ev.dS (Ev.cfN T 14) s5 (en (nD 2) (nD pl2.length) x4 x5 .no .no .no .no .no .no .no) = .ok (.nx (en (nD 2) (nD pl2.length) x4 x5 .no (.v (.d G2_0)) (.v (.d G2_1)) .no .no .no .no)) := fun x4 x5 => by kernel_rfl
theorem hi_2 : ∀ x3 x4 x5 x6 x7 x8 x9 x10 x11 x12 : Ev.Slot, Ev.dI (Ev.cfN T 14) (.irng2 (.int 1) (.bin .add (.var 2) (.int 1))) (en (nD 2) x3 x4 x5 x6 x7 x8 x9 x10 x11 x12) = .ok (Ev.intsD (ks 2)) := fun x3 x4 x5 x6 x7 x8 x9 x10 x11 x12 => by kernel_rfl
theorem sz2 : Sz (Ev.cfN T 14) 2 ls2 pl2 G2_0 G2_1 := mkSz ga2 sb2 (fun p hp => p2_use (Ev.allB'_iff.mp hp_2 p hp)) (by decide) (by unfold ls2; exact List.cons_ne_nil _ _) (by decide) (by decide) (by decide) h6_2 h8_2 h1_2 h7_2 hK_2 h2_2 h5_2 hi_2
theorem gp3_0 : GrP G3_0 (.ofNat 3) ls3 pl3 := gB_use ha3_0
theorem gp3_1 : GrP G3_1 (.ofNat 3) ls3 pl3 := gB_use ha3_1
theorem gp3_2 : GrP G3_2 (.ofNat 3) ls3 pl3 := gB_use ha3_2
theorem gp3_3 : GrP G3_3 (.ofNat 3) ls3 pl3 := gB_use ha3_3
theorem gp3_4 : GrP G3_4 (.ofNat 3) ls3 pl3 := gB_use ha3_4
theorem ga3 : ∀ g, g ∈ ls3 → GrP g (.ofNat 3) ls3 pl3 := allP_use (l := ls3) ⟨gp3_0, gp3_1, gp3_2, gp3_3, gp3_4, trivial⟩
theorem hK_3 : ∀ x1 x2, Ev.dE (Ev.cfN T 6) (.bin .fdiv (.bin .mul (.var 0) (.bin .sub (.var 0) (.int 1))) (.int 2)) [.v (.d (.int (.ofNat 3))), x1, x2] = .ok (.v (.d (.int (.ofNat pl3.length)))) := fun x1 x2 => by kernel_rfl
theorem h2_3 : Ev.dS (Ev.cfN T 14) s2 (en (nD 3) .no .no .no .no .no .no .no .no .no .no) = .ok (.nx (en (nD 3) (nD pl3.length) .no .no .no .no .no .no .no .no .no)) := by kernel_rfl
theorem h5_3 : ∀ x4 x5, Ev.dS (Ev.cfN T 14) s5 (en (nD 3) (nD pl3.length) x4 x5 .no .no .no .no .no .no .no) = .ok (.nx (en (nD 3) (nD pl3.length) x4 x5 .no (.v (.d G3_0)) (.v (.d G3_3)) .no .no .no .no)) := fun x4 x5 => by kernel_rfl
theorem hi_3 : ∀ x3 x4 x5 x6 x7 x8 x9 x10 x11 x12 : Ev.Slot, Ev.dI (Ev.cfN T 14) (.irng2 (.int 1) (.bin .add (.var 2) (.int 1))) (en (nD 3) x3 x4 x5 x6 x7 x8 x9 x10 x11 x12) = .ok (Ev.intsD (ks 3)) := fun x3 x4 x5 x6 x7 x8 x9 x10 x11 x12 => by kernel_rfl
theorem sz3 : Sz (Ev.cfN T 14) 3 ls3 pl3 G3_0 G3_3 := mkSz ga3 sb3 (fun p hp => p2_use (Ev.allB'_iff.mp hp_3 p hp)) (by decide) (by unfold ls3; exact List.cons_ne_nil _ _) (by decide) (by decide) (by decide) h6_3 h8_3 h1_3 h7_3 hK_3 h2_3 h5_3 hi_3
theorem gp4_0 : GrP G4_0 (.ofNat 4) ls4 pl4 := gB_use ha4_0
theorem gp4_1 : GrP G4_1 (.ofNat 4) ls4 pl4 := gB_use ha4_1
theorem gp4_2 : GrP G4_2 (.ofNat 4) ls4 pl4 := gB_use ha4_2
theorem gp4_3 : GrP G4_3 (.ofNat 4) ls4 pl4 := gB_use ha4_3
theorem gp4_4 : GrP G4_4 (.ofNat 4) ls4 pl4 := gB_use ha4_4
theorem gp4_5 : GrP G4_5 (.ofNat 4) ls4 pl4 := gB_use ha4_5
theorem gp4_6 : GrP G4_6 (.ofNat 4) ls4 pl4 := gB_use ha4_6
theorem gp4_7 : GrP G4_7 (.ofNat 4) ls4 pl4 := gB_use ha4_7
theorem gp4_8 : GrP G4_8 (.ofNat 4) ls4 pl4 := gB_use ha4_8
theorem gp4_9 : GrP G4_9 (.ofNat 4) ls4 pl4 := gB_use ha4_9
theorem gp4_10 : GrP G4_10 (.ofNat 4) ls4 pl4 := gB_use ha4_10
theorem gp4_11 : GrP G4_11 (.ofNat 4) ls4 pl4 := gB_use ha4_11
theorem gp4_12 : GrP G4_12 (.ofNat 4) ls4 pl4 := gB_use ha4_12
theorem gp4_13 : GrP G4_13 (.ofNat 4) ls4 pl4 := gB_use ha4_13
theorem gp4_14 : GrP G4_14 (.ofNat 4) ls4 pl4 := gB_use ha4_14
theorem ga4 : ∀ g, g ∈ ls4 → GrP g (.ofNat 4) ls4 pl4 := allP_use (l := ls4) ⟨gp4_0, gp4_1, gp4_2, gp4_3, gp4_4, gp4_5, gp4_6, gp4_7, gp4_8, gp4_9, gp4_10, gp4_11, gp4_12, gp4_13, gp4_14, trivial⟩
theorem hK_4 : ∀ x1 x2, Ev.dE (Ev.cfN T 6) (.bin .fdiv (.bin .mul (.var 0) (.bin .sub (.var 0) (.int 1))) (.int 2)) [.v (.d (.int (.ofNat 4))), x1, x2] = .ok (.v (.d (.int (.ofNat pl4.length)))) := fun x1 x2 => by kernel_rfl
theorem h2_4 : Ev.dS (Ev.cfN T 14) s2 (en (nD 4) .no .no .no .no .no .no .no .no .no .no) = .ok (.nx (en (nD 4) (nD pl4.length) .no .no .no .no .no .no .no .no .no)) := by kernel_rfl
theorem h5_4 : ∀ x4 x5, Ev.dS (Ev.cfN T 14) s5 (en (nD 4) (nD pl4.length) x4 x5 .no .no .no .no .no .no .no) = .ok (.nx (en (nD 4) (nD pl4.length) x4 x5 .no (.v (.d G4_0)) (.v (.d G4_8)) .no .no .no .no)) := fun x4 x5 => by kernel_rfl
theorem hi_4 : ∀ x3 x4 x5 x6 x7 x8 x9 x10 x11 x12 : Ev.Slot, Ev.dI (Ev.cfN T 14) (.irng2 (.int 1) (.bin .add (.var 2) (.int 1))) (en (nD 4) x3 x4 x5 x6 x7 x8 x9 x10 x11 x12) = .ok (Ev.intsD (ks 4)) := fun x3 x4 x5 x6 x7 x8 x9 x10 x11 x12 => by kernel_rfl
theorem sz4 : Sz (Ev.cfN T 14) 4 ls4 pl4 G4_0 G4_8 := mkSz ga4 sb4 (fun p hp => p2_use (Ev.allB'_iff.mp hp_4 p hp)) (by decide) (by unfold ls4; exact List.cons_ne_nil _ _) (by decide) (by decide) (by decide) h6_4 h8_4 h1_4 h7_4 hK_4 h2_4 h5_4 hi_4
theorem szA : ∀ s, s < 4 → ∃ gl pl al wh, Sz (Ev.cfN T 14) (s + 1) gl pl al wh := Ev.below_use (m := 4) (P := fun s => ∃ gl pl al wh, Sz (Ev.cfN T 14) (s + 1) gl pl al wh) ⟨⟨⟨⟨trivial, ⟨_, _, _, _, sz1⟩⟩, ⟨_, _, _, _, sz2⟩⟩, ⟨_, _, _, _, sz3⟩⟩, ⟨_, _, _, _, sz4⟩⟩
theorem law_post : (Ev.dS (Ev.cfN T 14) lawEx (Ev.rowEnv 11)).Post fun o => Ev.isT o = true := by
  rw [lawEx_eq]
  exact (tail0 (q22 13) szA).out
end LawT
open PySem PySem.W PySem.Calls PyProof.Rows
theorem PySem.Challenge.cw_groupdeeds_k51_across_likings_holds : PySem.Challenge.rw_groupdeeds_k51_across_likings.Holds := by
  w_on; o_law
  refine HandSHeadRun.head_any (r := OpenLaw.row PySem.Challenge.rw_groupdeeds_k51_across_likings) (q := LawT.qv) (H := LawT.hk) (ob := LawT.ob) (M := 8000) (loose := LawT.names) (d := HandSHeadRun.topDef (OpenLaw.row PySem.Challenge.rw_groupdeeds_k51_across_likings).prog 44) (kwd := []) LawT.ob_eq
    (by kernel_rfl) (fun s => by kernel_rfl) LawT.run (by kernel_rfl) (by kernel_rfl) (by kernel_rfl) (by rfl) (by first | assumption | decide +kernel) (by decide +kernel) ⟨rfl, rfl, rfl, rfl, rfl, by decide +kernel⟩ ?hw ?hc
  case hw => w_witness2
  case hc =>
    refine Ev.walk_ofAll (l := PySem.Challenge.rw_groupdeeds_k51_across_likings) (n := 63) (k := 3 * 14 + 3) (x := "_law_script") (CX := fun _ => C8.CX0) rfl (by decide) (by kernel_rfl) ⟨rfl, by decide, by decide⟩ ?F (fun _ _ _ _ _ z => z)
    intro w mg fa h Y G hmg0 tabs
    obtain ⟨K, KX, c, tb⟩ := Y
    have hmg : mg LawT.dL.name = some (.ref fa) := by
      have e : (HandSHeadRun.topDef (OpenLaw.row PySem.Challenge.rw_groupdeeds_k51_across_likings).prog 44).name = LawT.dL.name := by kernel_rfl
      rw [← e]
      exact hmg0
    exact ⟨K, KX, Ev.law_facts (T := LawT.T) (Ns := LawT.Ns) (fs := LawT.fs) (gl := LawT.gl) (mb := LawT.mb) (q := LawT.qv) (k := 14) (n := 11) (N := LawT.N) (ex := LawT.lawEx) (s0 := LawT.s0) (rest := LawT.rest) (dL := LawT.dL) LawT.hfs LawT.hbind LawT.hch
      (fun f d df N e1 e2 e3 e4 base K fa cdv A outer s H E hb => LawT.htk f d df N e1 e2 e3 e4 base K fa cdv A outer s H E hb) KX G c tb tabs LawT.hrec LawT.hli hmg LawT.hb0 rfl (by kernel_rfl) LawT.hsc rfl rfl rfl (by kernel_rfl) (.inr (by kernel_rfl)) (by decide) ⟨by decide, by decide⟩ LawT.hchL LawT.law_post⟩


