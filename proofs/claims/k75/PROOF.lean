import PyProof.Rows.All
import Wide.All
import OpenK.AllK
import Wide.FinOn
import HandS.ForMost
import HandS.ForExc
import HandS.Wide
import HandS.IsInst
import HandS.Flow
import HandS.Zip
import HandS.TupAny
import HandS.Conv
import HandS.CallSlots
import HandS.Style
import KE.GoesEnum
import HandS.Lambda
import HandS.SetFor
import HandS.Strs
import HandS.GenList
import HandS.Iter
import HandS.SortInts
import HandS.Star
import HandS.TupMul
import KE.KDictZip
import HandS.GenYield
import HandS.Deep
import HandS.TupLe
import HandS.Defaults
import KE.SortData
import HandS.Dict
import HandS.ExcField
import HandS.ExcIs
import HandS.ExcInit
import KE.KExcIs
import KE.RegKTryMore
import KE.RegKIsAll
import HandS.ExcValue
import HandS.EndTab
import PyProof.Rows.IntBool
import HandS.Small
import Open.Row
import HandS.FStrTup
import PyProof.ReprLen
import PySem.Challenge.RW_growshrink_k75_whole_several_boundaries
set_option Elab.async false
set_option linter.all false
namespace G
open PySem

/-! ### values, objects, results -/
inductive D where
  | non | bl (b : Bool) | int (i : Int) | str (s : Str) | tup (xs : List D) | fl (xs : List D) | sc (xs : List D) | fd (ks vs : List D) | ref (n : Nat)
inductive O where
  | lst (xs : List D) | ins (c : Nat) (fs : List (Str × D)) | exc (c : Nat) (fs : List (Str × D)) | dct (ks vs : List D)
abbrev Hs := List O
inductive Rs (α : Type) where
  | ok (a : α) (m : Hs) | ex (c : Nat) (fs : List (Str × D)) (m : Hs) | bad
def Rs.bind {α β : Type} (r : Rs α) (f : α → Hs → Rs β) : Rs β := match r with
  | .ok a m => f a m
  | .ex c fs m => .ex c fs m
  | .bad => .bad
theorem bind_ok {α β : Type} {a : α} {m : Hs} {f : α → Hs → Rs β} : (Rs.ok a m).bind f = f a m := rfl
mutual
def beqD : D → D → Bool
  | .non, .non => true
  | .bl a, .bl b => a == b
  | .int a, .int b => a == b
  | .str a, .str b => decide (a = b)
  | .tup a, .tup b => beqL a b
  | .fl a, .fl b => beqL a b
  | .sc a, .sc b => beqL a b
  | .fd a c, .fd b d => beqL a b && beqL c d
  | .ref a, .ref b => a == b
  | _, _ => false
def beqL : List D → List D → Bool
  | [], [] => true
  | a :: as, b :: bs => beqD a b && beqL as bs
  | _, _ => false
end
mutual
theorem beqD_eq : ∀ (a b : D), beqD a b = true → a = b
  | .non, b, h => by cases b <;> simp_all [beqD]
  | .bl _, b, h => by cases b <;> simp_all [beqD]
  | .int _, b, h => by cases b <;> simp_all [beqD]
  | .str _, b, h => by cases b <;> simp_all [beqD]
  | .tup x, b, h => by
    cases b <;> simp only [beqD, Bool.false_eq_true] at h
    rw [beqL_eq x _ h]
  | .fl x, b, h => by
    cases b <;> simp only [beqD, Bool.false_eq_true] at h
    rw [beqL_eq x _ h]
  | .sc x, b, h => by
    cases b <;> simp only [beqD, Bool.false_eq_true] at h
    rw [beqL_eq x _ h]
  | .fd x y, b, h => by
    cases b <;> simp only [beqD, Bool.false_eq_true, Bool.and_eq_true] at h
    rw [beqL_eq x _ h.1, beqL_eq y _ h.2]
  | .ref _, b, h => by cases b <;> simp_all [beqD]
theorem beqL_eq : ∀ (a b : List D), beqL a b = true → a = b
  | [], b, h => by cases b <;> simp_all [beqL]
  | x :: xs, b, h => by
    cases b with
    | nil => simp [beqL] at h
    | cons y ys =>
      simp only [beqL, Bool.and_eq_true] at h
      rw [beqD_eq x y h.1, beqL_eq xs ys h.2]
end
mutual
theorem beqD_rfl : ∀ a : D, beqD a a = true
  | .non => by simp [beqD]
  | .bl _ => by simp [beqD]
  | .int _ => by simp [beqD]
  | .str _ => by simp [beqD]
  | .tup x => by simp only [beqD]; exact beqL_rfl x
  | .fl x => by simp only [beqD]; exact beqL_rfl x
  | .sc x => by simp only [beqD]; exact beqL_rfl x
  | .fd x y => by simp only [beqD, Bool.and_eq_true]; exact ⟨beqL_rfl x, beqL_rfl y⟩
  | .ref _ => by simp [beqD]
theorem beqL_rfl : ∀ a : List D, beqL a a = true
  | [] => by simp [beqL]
  | x :: xs => by simp only [beqL, Bool.and_eq_true]; exact ⟨beqD_rfl x, beqL_rfl xs⟩
end
mutual
def below (n : Nat) : D → Bool
  | .ref k => decide (k < n)
  | .tup xs => belowL n xs
  | .fl xs => belowL n xs
  | .sc xs => belowL n xs
  | .fd ks vs => belowL n ks && belowL n vs
  | _ => true
def belowL (n : Nat) : List D → Bool
  | [] => true
  | x :: xs => below n x && belowL n xs
end
def belowF (n : Nat) (fs : List (Str × D)) : Bool := fs.all fun p => below n p.2
def beqF : List (Str × D) → List (Str × D) → Bool
  | [], [] => true
  | a :: as, b :: bs => decide (a.1 = b.1) && beqD a.2 b.2 && beqF as bs
  | _, _ => false
theorem beqF_eq : ∀ (a b : List (Str × D)), beqF a b = true → a = b
  | [], b, h => by cases b <;> simp_all [beqF]
  | x :: xs, b, h => by
    cases b with
    | nil => simp [beqF] at h
    | cons y ys =>
      simp only [beqF, Bool.and_eq_true, decide_eq_true_eq] at h
      obtain ⟨⟨h1, h2⟩, h3⟩ := h
      obtain ⟨x1, x2⟩ := x
      obtain ⟨y1, y2⟩ := y
      have e1 : x1 = y1 := h1
      have e2 : x2 = y2 := beqD_eq _ _ h2
      rw [e1, e2, beqF_eq xs ys h3]
def belowO (n : Nat) : O → Bool
  | .lst xs => belowL n xs
  | .ins _ fs => belowF n fs
  | .exc _ fs => belowF n fs
  | .dct ks vs => belowL n ks && belowL n vs
def beqO : O → O → Bool
  | .lst a, .lst b => beqL a b
  | .ins c a, .ins d b => c == d && beqF a b
  | .exc c a, .exc d b => c == d && beqF a b
  | .dct a c, .dct b d => beqL a b && beqL c d
  | _, _ => false
theorem beqO_eq (a b : O) (h : beqO a b = true) : a = b := by
  cases a <;> cases b <;> simp only [beqO, Bool.false_eq_true, Bool.and_eq_true, beq_iff_eq] at h
  · rw [beqL_eq _ _ h]
  · rw [h.1, beqF_eq _ _ h.2]
  · rw [h.1, beqF_eq _ _ h.2]
  · rw [beqL_eq _ _ h.1, beqL_eq _ _ h.2]
/-- what stood ahead of a call (the first argument) is the same behind it, or holds no handle of the call's own -/
def gcL (n : Nat) : Hs → Hs → Bool
  | [], _ => true
  | o :: os, p :: ps => (beqO o p || belowO n p) && gcL n os ps
  | _ :: _, [] => false


/-! ### computations -/
abbrev M (α : Type) := Hs → Rs α
def ret {α : Type} (a : α) : M α := fun m => .ok a m
def bnd {α β : Type} (t : M α) (f : α → M β) : M β := fun m => (t m).bind fun a m1 => f a m1
def bad {α : Type} : M α := fun _ => .bad
def opt {α : Type} (o : Option α) : M α := match o with
  | some a => ret a
  | none => bad
/-- what is read off the heap -/
def ask {α : Type} (f : Hs → Option α) : M α := fun m => match f m with
  | some a => .ok a m
  | none => .bad
inductive Op where | add | sub | mul | fdiv | mod | pow | shl
inductive Cp where | lt | le | gt | ge | eq | ne | is | isnot | isin | notin
inductive Ty where | non | bl | int | str | tup | lst | dct
  deriving DecidableEq
def truth : D → Hs → Option Bool
  | .non, _ => some false
  | .bl b, _ => some b
  | .int i, _ => some (i != 0)
  | .str s, _ => if s.length ≤ sizeLine then some (s.length != 0) else none
  | .tup xs, _ => some (!xs.isEmpty)
  | .fl xs, _ => some (!xs.isEmpty)
  | .sc xs, _ => some (!xs.isEmpty)
  | .fd _ _, _ => none
  | .ref n, m => match m[n]? with
    | some (.lst xs) => some (!xs.isEmpty)
    | _ => none
/-- the items of a list -/
def lstOf : D → Hs → Option (List D)
  | .fl xs, _ => some xs
  | .ref n, m => match m[n]? with
    | some (.lst xs) => some xs
    | _ => none
  | _, _ => none
def binS : Op → D → D → M D
  | .add, .int i, .int j => ret (.int (i + j))
  | .add, .str i, .str j => if i.length + j.length ≤ sizeLine then ret (.str (i ++ j)) else bad
  | .add, .tup xs, .tup ys => if xs.length + ys.length ≤ sizeLine then ret (.tup (xs ++ ys)) else bad
  | .sub, .int i, .int j => ret (.int (i - j))
  | .mul, .int i, .int j => if i.natAbs.log2 + j.natAbs.log2 < 1000000 then ret (.int (i * j)) else bad
  | .fdiv, .int i, .int j => if 0 < j ∧ j.natAbs.log2 < 9000 then ret (.int (i / j)) else bad
  | .mod, .int i, .int j => if 0 < j then ret (.int (i % j)) else bad
  | .pow, .int i, .int j => if 0 ≤ j ∧ (i.natAbs.log2 + 1) * j.toNat ≤ 134217728 then ret (.int (i ^ j.toNat)) else bad
  | .shl, .int i, .int j => if 0 ≤ j ∧ j ≤ 1000000 ∧ i.natAbs < 18446744073709551616 then ret (.int (i * 2 ^ j.toNat)) else bad
  | .add, x, y => fun m => match lstOf x m, lstOf y m with
    | some xs, some ys => if xs.length + ys.length ≤ sizeLine then .ok (.fl (xs ++ ys)) m else .bad
    | _, _ => .bad
  | .mul, x, .int k => fun m => match lstOf x m with
    | some xs => if -(2 ^ 63) ≤ k ∧ k < 2 ^ 63 ∧ xs.length * k.toNat ≤ sizeLine then .ok (.fl (List.replicate k.toNat xs).flatten) m else .bad
    | _ => .bad
  | _, _, _ => bad
def mapO {α β : Type} (f : α → Option β) : List α → Option (List β)
  | [] => some []
  | x :: xs => match f x, mapO f xs with
    | some y, some ys => some (y :: ys)
    | _, _ => none
/-- data (handles are looked up), at most n deep -/
def pyD (m : Hs) : Nat → D → Option PyData
  | _, .non => some .none
  | _, .bl b => some (.bool b)
  | _, .int i => some (.int i)
  | _, .str s => if PyData.strOk s then some (.str s) else none
  | 0, _ => none
  | n + 1, .tup xs => (mapO (pyD m n) xs).map .tuple
  | n + 1, .fl xs => (mapO (pyD m n) xs).map .list
  | n + 1, .sc xs => (mapO (pyD m n) xs).map .list
  | _ + 1, .fd _ _ => none
  | n + 1, .ref k => match m[k]? with
    | some (.lst xs) => (mapO (pyD m n) xs).map .list
    | _ => none
def deepest : Nat := 50
def eqP (x y : D) (m : Hs) : Option Bool := match pyD m deepest x, pyD m deepest y with
  | some a, some b => some (PyData.eqv a b)
  | _, _ => none
def eqS (x y : D) (m : Hs) : Option Bool := match x, y with
  | .str a, .str b => some (decide (a = b))
  | x, y => eqP x y m
def flatD : D → Bool
  | .non | .bl _ | .int _ | .str _ => true
  | _ => false
def itemsOf : D → Hs → Option (List D)
  | .tup xs, _ => some xs
  | .fl xs, _ => some xs
  | .sc xs, _ => some xs
  | .ref n, m => match m[n]? with
    | some (.lst xs) => some xs
    | _ => none
  | .fd [.non] xs, _ => some xs
  | _, _ => none
def b2z (b : Bool) : Int := if b then 1 else 0
/-- == of flat things -/
def eqF : D → D → Bool
  | .non, .non => true
  | .bl a, .bl b => a == b
  | .bl a, .int j => b2z a == j
  | .int i, .bl b => i == b2z b
  | .int i, .int j => i == j
  | .str x, .str y => decide (x = y)
  | _, _ => false
def inS (x y : D) (m : Hs) : Option Bool := match itemsOf y m with
  | some xs => if flatD x && xs.all flatD then some (xs.any fun z => eqF z x) else none
  | none => none
def intsOf : List D → Option (List Int)
  | [] => some []
  | .int i :: xs => (intsOf xs).map (i :: ·)
  | _ => none
def cmpS : Cp → D → D → M D
  | .lt, .int i, .int j => ret (.bl (decide (i < j)))
  | .le, .int i, .int j => ret (.bl (decide (i ≤ j)))
  | .gt, .int i, .int j => ret (.bl (decide (j < i)))
  | .ge, .int i, .int j => ret (.bl (decide (j ≤ i)))
  | .eq, x, y => bnd (ask (eqS x y)) fun b => ret (.bl b)
  | .ne, x, y => bnd (ask (eqS x y)) fun b => ret (.bl (!b))
  | .is, x, .non => ret (.bl (match x with | .non => true | _ => false))
  | .isnot, x, .non => ret (.bl (match x with | .non => false | _ => true))
  | .isin, x, y => bnd (ask (inS x y)) fun b => ret (.bl b)
  | .notin, x, y => bnd (ask (inS x y)) fun b => ret (.bl (!b))
  | _, _, _ => bad
def augS : Op → D → D → M D
  | .add, .int i, .int j => ret (.int (i + j))
  | .sub, .int i, .int j => ret (.int (i - j))
  | _, _, _ => bad
/-- the place of an index -/
def ixD (n : Nat) (i : Int) : Option Nat := if 0 ≤ i then (if i < n then some i.toNat else none) else if -(n : Int) ≤ i then some (i + n).toNat else none
def atD (xs : List D) (i : Int) : Option D := (ixD xs.length i).bind fun j => xs[j]?
def idxS : D → D → M D
  | x, .int i => bnd (ask (itemsOf x)) fun xs => opt (atD xs i)
  | _, _ => bad
def sIxD (n d : Nat) : Option Int → Nat
  | none => d
  | some i => if i < 0 then (i + n).toNat else min i.toNat n
def cutD (xs : List D) (lo hi : Option Int) : List D := (xs.drop (sIxD xs.length 0 lo)).take (sIxD xs.length xs.length hi - sIxD xs.length 0 lo)
def slcS (x : D) (lo hi : Option Int) : M D := match x with
  | .tup xs => ret (.tup (cutD xs lo hi))
  | x => bnd (ask (lstOf x)) fun xs => ret (.fl (cutD xs lo hi))
def sumI : List D → Option Int
  | [] => some 0
  | .int i :: xs => (sumI xs).map (i + ·)
  | _ => none
def boolsOf : List D → Option (List Bool)
  | [] => some []
  | .bl b :: xs => (boolsOf xs).map (b :: ·)
  | _ => none
def rngL (lo : Int) (n : Nat) : List D := (List.range n).map fun k => .int (lo + (k : Nat))
def tyD : D → Hs → Option Ty
  | .non, _ => some .non
  | .bl _, _ => some .bl
  | .int _, _ => some .int
  | .str _, _ => some .str
  | .tup _, _ => some .tup
  | .fl _, _ => some .lst
  | .sc _, _ => some .lst
  | .fd [.non] _, _ => none
  | .fd _ _, _ => some .dct
  | .ref n, m => match m[n]? with
    | some (.lst _) => some .lst
    | _ => none
/-- what a loop walks: the items, and the lists that must stay as they are meanwhile -/
def guardOf : D → Hs → Option (List D × List (Nat × List D))
  | .ref n, m => match m[n]? with | some (.lst xs) => some (xs, [(n, xs)]) | _ => none
  | .tup xs, _ => some (xs, [])
  | .fl xs, _ => some (xs, [])
  | .sc xs, _ => some (xs, [])
  | _, _ => none
def enumL (s : Int) : List D → List D
  | [] => []
  | x :: xs => .tup [.int s, x] :: enumL (s + 1) xs
def zipL : List D → List D → List D
  | x :: xs, y :: ys => .tup [x, y] :: zipL xs ys
  | _, _ => []

/-! ### built-in functions -/
def lenS : List D → M D
  | [.str s] => if s.length ≤ sizeLine then ret (.int s.length) else bad
  | [x] => bnd (ask (itemsOf x)) fun xs => ret (.int xs.length)
  | _ => bad
def absS : List D → M D
  | [.int i] => ret (.int (if i < 0 then -i else i))
  | _ => bad
def min2S : List D → M D
  | [.int i, .int j] => ret (.int (if j < i then j else i))
  | _ => bad
def max2S : List D → M D
  | [.int i, .int j] => ret (.int (if j > i then j else i))
  | _ => bad
def sumS : List D → M D
  | [x] => bnd (ask (lstOf x)) fun xs => bnd (opt (sumI xs)) fun k => ret (.int k)
  | _ => bad
def allS : List D → M D
  | [x] => bnd (ask (lstOf x)) fun xs => bnd (opt (boolsOf xs)) fun k => ret (.bl (k.all id))
  | _ => bad
def anyS : List D → M D
  | [x] => bnd (ask (lstOf x)) fun xs => bnd (opt (boolsOf xs)) fun k => ret (.bl (k.any id))
  | _ => bad
def intS : List D → M D
  | [.int i] => ret (.int i)
  | [.bl b] => ret (.int (if b then 1 else 0))
  | _ => bad
def tupleS : List D → M D
  | [.tup xs] => ret (.tup xs)
  | [x] => bnd (ask (lstOf x)) fun xs => ret (.tup xs)
  | _ => bad
def listS : List D → M D
  | [x] => bnd (ask (itemsOf x)) fun xs => ret (.fl xs)
  | _ => bad
/-- repr(x): x is data -/
def reprS : List D → M D
  | [x] => bnd (ask fun m => pyD m deepest x) fun p => if p.showable = true ∧ p.shown.length ≤ sizeLine then ret (.str p.shown) else bad
  | _ => bad
def isiS (t : Ty) (x : D) : M D := bnd (ask (tyD x)) fun u => ret (.bl (decide (u = t) || (decide (u = .bl) && decide (t = .int))))
def isiM (t : Ty) (a : M D) : M D := bnd a fun x => isiS t x

/-! ### expressions -/
def binM (o : Op) (a b : M D) : M D := bnd a fun x => bnd b fun y => binS o x y
def cmpM (o : Cp) (a b : M D) : M D := bnd a fun x => bnd b fun y => cmpS o x y
def negS (x : D) : M D := match x with
  | .int i => ret (.int (-i))
  | _ => bad
def negM (a : M D) : M D := bnd a negS
def tru (x : D) : M Bool := ask (truth x)
def notM (a : M D) : M D := bnd a fun x => bnd (tru x) fun b => ret (.bl (!b))
def andM (a b : M D) : M D := bnd a fun x => bnd (tru x) fun k => if k = true then b else ret x
def orM (a b : M D) : M D := bnd a fun x => bnd (tru x) fun k => if k = true then ret x else b
def iteM (c a b : M D) : M D := bnd c fun x => bnd (tru x) fun k => if k = true then a else b
def chnS (z : D) (a b : M D) : M D := match z with
  | .bl true => a
  | .bl false => b
  | _ => bad
def chnM (o p : Cp) (a b c : M D) : M D := bnd a fun x => bnd b fun y => bnd (cmpS o x y) fun z => chnS z (bnd c fun w => cmpS p y w) (ret (.bl false))
def lsM : List (M D) → M (List D)
  | [] => ret []
  | t :: ts => bnd t fun x => bnd (lsM ts) fun xs => ret (x :: xs)
def tupM (t : M (List D)) : M D := bnd t fun xs => if xs.length ≤ sizeLine then ret (.tup xs) else bad
/-- a list that nobody changes -/
def lstM (t : M (List D)) : M D := bnd t fun xs => if xs.length ≤ sizeLine then ret (.fl xs) else bad
def newO (o : O) : M D := fun m => .ok (.ref m.length) (m ++ [o])
/-- a list with a handle -/
def lshM (t : M (List D)) : M D := bnd t fun xs => if xs.length ≤ sizeLine then newO (.lst xs) else bad
def idxM (a i : M D) : M D := bnd a fun x => bnd i fun y => idxS x y
/-- x[i] of an own list -/
def idlS (xs : List D) (y : D) : M D := match y with
  | .int i => opt (atD xs i)
  | _ => bad
def idxL (xs : List D) (i : M D) : M D := bnd i (idlS xs)
def noP : M (Option Int) := ret none
def soS (x : D) : M (Option Int) := match x with
  | .int i => ret (some i)
  | _ => bad
def soP (t : M D) : M (Option Int) := bnd t soS
def slcM (a : M D) (lo hi : M (Option Int)) : M D := bnd a fun x => bnd lo fun l => bnd hi fun h => slcS x l h
def calM (f : List D → M D) (t : M (List D)) : M D := bnd t f
def fldO (at' : Nat → Str → Bool) (f : Str) (x : D) (m : Hs) : Option D := match x with
  | .ref n => match m[n]? with
    | some (.ins c fs) => match fs.lookup f with
      | some v => if at' c f then some v else none
      | none => none
    | _ => none
  | _ => none
def fldS (at' : Nat → Str → Bool) (f : Str) (x : D) : M D := ask (fldO at' f x)
def fldM (at' : Nat → Str → Bool) (a : M D) (f : Str) : M D := bnd a fun x => fldS at' f x
/-- the method's def, as the object stands -/
def mthO (ms : Nat → Option (List D → M D)) (f : Str) (x : D) (m : Hs) : Option (List D → M D) := match x with
  | .ref n => match m[n]? with
    | some (.ins c fs) => match fs.lookup f with
      | some _ => none
      | none => ms c
    | _ => none
  | _ => none
def mthS (ms : Nat → Option (List D → M D)) (f : Str) (x : D) : M (List D → M D) := ask (mthO ms f x)
def mthM (ms : Nat → Option (List D → M D)) (a : M D) (f : Str) (t : M (List D)) : M D := bnd a fun x => bnd (mthS ms f x) fun g => bnd t fun xs => g (x :: xs)
def nonS (x : D) (y : D) : M D := match x with
  | .non => ret y
  | _ => bad
def makM (c : Nat) (init : List D → M D) (t : M (List D)) : M D := bnd t fun xs => bnd (newO (.ins c [])) fun x => bnd (init (x :: xs)) fun z => nonS z x

abbrev Its := List D × List (Nat × List D)
def seqI (t : M D) : M Its := bnd t fun x => ask (guardOf x)
def rng1S (x : D) : M Its := match x with
  | .int n => if -(2 ^ 62) ≤ n ∧ n < 2 ^ 62 then ret (rngL 0 n.toNat, []) else bad
  | _ => bad
def rng1I (t : M D) : M Its := bnd t rng1S
def rng2S (x y : D) : M Its := match x, y with
  | .int a, .int b => if -(2 ^ 62) ≤ a ∧ a < 2 ^ 62 ∧ -(2 ^ 62) ≤ b ∧ b < 2 ^ 62 then ret (rngL a (b - a).toNat, []) else bad
  | _, _ => bad
def rng2I (t u : M D) : M Its := bnd t fun x => bnd u fun y => rng2S x y
def enumS (x : D) : M Its := bnd (ask (guardOf x)) fun z => ret (enumL 0 z.1, z.2)
def enumI (t : M D) : M Its := bnd t enumS
def enum2S (x y : D) : M Its := match y with
  | .int s => if -(2 ^ 63) ≤ s ∧ s < 2 ^ 63 then bnd (ask (guardOf x)) fun z => ret (enumL s z.1, z.2) else bad
  | _ => bad
def enum2I (t u : M D) : M Its := bnd t fun x => bnd u fun y => enum2S x y
def isT : D → Bool
  | .tup _ => true
  | _ => false
def zipS (x y : D) : M Its := if isT x = isT y then bnd (ask (guardOf x)) fun z => bnd (ask (guardOf y)) fun w => ret (zipL z.1 w.1, z.2 ++ w.2) else bad
def zipI (t u : M D) : M Its := bnd t fun x => bnd u fun y => zipS x y
def stays (g : List (Nat × List D)) (m : Hs) : Bool := g.all fun p => match m[p.1]? with | some (.lst xs) => beqL xs p.2 | _ => false
def stay (g : List (Nat × List D)) : M Unit := fun m => if stays g m then .ok () m else .bad
def un2 {β : Type} (x : D) (k : D → D → M β) : M β := match x with
  | .tup [a, b] => k a b
  | .fd [.non] [a, b] => k a b
  | _ => bad
def un3 {β : Type} (x : D) (k : D → D → D → M β) : M β := match x with
  | .tup [a, b, c] => k a b c
  | _ => bad
def un4 {β : Type} (x : D) (k : D → D → D → D → M β) : M β := match x with
  | .tup [a, b, c, d] => k a b c d
  | _ => bad
/-- within a comprehension nothing is raised -/
def Rs.calm {α : Type} : Rs α → Rs α
  | .ex _ _ _ => .bad
  | r => r
def calm {α : Type} (t : M α) : M α := fun m => (t m).calm
def lcL (g : List (Nat × List D)) (turn : D → M (Option D)) : List D → List D → M (List D)
  | [], acc => bnd (stay g) fun _ => ret acc
  | x :: xs, acc => bnd (stay g) fun _ => bnd (calm (turn x)) fun o => match o with
    | none => lcL g turn xs acc
    | some y => if acc.length < sizeLine then lcL g turn xs (acc ++ [y]) else bad
def lcM (src : M Its) (turn : D → M (Option D)) : M D := bnd src fun z => bnd (lcL z.2 turn z.1 []) fun ys => ret (.fl ys)
def elM (t : M D) : M (Option D) := bnd t fun y => ret (some y)
/-! ### statements -/
inductive Fl (A B : Type) where
  | nx (a : A) | rt (d : D) | bk (b : B) | ct (b : B)
section
variable {A B C : Type}
def nxt (a : A) : M (Fl A B) := ret (.nx a)
def rtn (t : M D) : M (Fl A B) := bnd t fun d => ret (.rt d)
def brk (b : B) : M (Fl A B) := ret (.bk b)
def cnt (b : B) : M (Fl A B) := ret (.ct b)
def goOn (f : A → M (Fl C B)) : Fl A B → M (Fl C B)
  | .nx a => f a
  | .rt d => ret (.rt d)
  | .bk b => ret (.bk b)
  | .ct b => ret (.ct b)
def seq (t : M (Fl A B)) (f : A → M (Fl C B)) : M (Fl C B) := bnd t (goOn f)
def iff (c : M D) (t u : M (Fl A B)) : M (Fl A B) := bnd c fun x => bnd (tru x) fun k => if k = true then t else u
def turnF (f : A → M (Fl A B)) : Fl A A → M (Fl A B)
  | .nx a => f a
  | .ct a => f a
  | .bk a => ret (.nx a)
  | .rt d => ret (.rt d)
def forL (g : List (Nat × List D)) (body : D → A → M (Fl A A)) : List D → A → M (Fl A B)
  | [], s => bnd (stay g) fun _ => ret (.nx s)
  | x :: xs, s => bnd (stay g) fun _ => bnd (body x s) (turnF (forL g body xs))
def forM (src : M Its) (s : A) (body : D → A → M (Fl A A)) : M (Fl A B) := bnd src fun z => forL z.2 body z.1 s
def whlL (c : A → M D) (body : A → M (Fl A A)) : Nat → A → M (Fl A B)
  | 0, _ => bad
  | n + 1, s => bnd (c s) fun x => bnd (tru x) fun k => if k = true then bnd (body s) (turnF (whlL c body n)) else ret (.nx s)
def whileMost : Nat := 100000
def whlM (c : A → M D) (s : A) (body : A → M (Fl A A)) : M (Fl A B) := whlL c body whileMost s
end
def putD (f : Str) (v : D) : List (Str × D) → List (Str × D)
  | [] => [(f, v)]
  | (g, u) :: r => if g = f then (g, v) :: r else (g, u) :: putD f v r

/-! ### stores -/
def put (f : Hs → Option Hs) : M Unit := fun m => match f m with
  | some m' => .ok () m'
  | none => .bad
def setO (at' : Nat → Str → Bool) (f : Str) (v x : D) (m : Hs) : Option Hs := match x with
  | .ref n => match m[n]? with
    | some (.ins c fs) => if fs.length < 900 ∧ at' c f = true then some (m.set n (.ins c (putD f v fs))) else none
    | _ => none
  | _ => none
def itmO (x y v : D) (m : Hs) : Option Hs := match x, y with
  | .ref n, .int k => match m[n]? with
    | some (.lst xs) => match ixD xs.length k with
      | some j => some (m.set n (.lst (xs.set j v)))
      | none => none
    | _ => none
  | _, _ => none
def fldT (at' : Nat → Str → Bool) (a : M D) (f : Str) (v : D) : M Unit := bnd a fun x => put (setO at' f v x)
def subT (a i : M D) (v : D) : M Unit := bnd a fun x => bnd i fun y => put (itmO x y v)
def tgL : List (D → M Unit) → List D → M Unit
  | [], [] => ret ()
  | t :: ts, d :: ds => bnd (t d) fun _ => tgL ts ds
  | _, _ => bad
def tpT (ts : List (D → M Unit)) (d : D) : M Unit := match d with
  | .tup ds => if ds.length = ts.length then tgL ts ds else bad
  | _ => bad
/-- o.f op= e -/
def fldC (at' : Nat → Str → Bool) (f : Str) (x : D) (m : Hs) : Option (Nat × D) := match x with
  | .ref n => match m[n]? with
    | some (.ins c fs) => match fs.lookup f with
      | some v => if at' c f then some (c, v) else none
      | none => none
    | _ => none
  | _ => none
def setC (c : Nat) (f : Str) (v x : D) (m : Hs) : Option Hs := match x with
  | .ref n => match m[n]? with
    | some (.ins c2 fs) => if c2 = c ∧ fs.length < 900 then some (m.set n (.ins c (putD f v fs))) else none
    | _ => none
  | _ => none
def augF (at' : Nat → Str → Bool) (o : Op) (a : M D) (f : Str) (t : M D) : M Unit := bnd a fun x => bnd (ask (fldC at' f x)) fun p => bnd t fun y => bnd (augS o p.2 y) fun z => put (setC p.1 f z x)
def appO {β : Type} (xs : List D) (t : M D) (k : List D → M β) : M β := bnd t fun y => if xs.length < sizeLine then k (xs ++ [y]) else bad
def extO {β : Type} (xs : List D) (t : M D) (k : List D → M β) : M β := bnd t fun y => bnd (ask (lstOf y)) fun ys => if xs.length + ys.length ≤ sizeLine then k (xs ++ ys) else bad
def fnE : Fl Unit Empty → M D
  | .nx _ => ret .non
  | .rt d => ret d
  | .bk b => nomatch b
  | .ct b => nomatch b
/-- a def's body -/
def fnM (t : M (Fl Unit Empty)) : M D := bnd t fnE
def gcR (m : Hs) (d : D) (m1 : Hs) : Rs D := if below m.length d && gcL m.length m m1 then .ok d (m1.take m.length) else .ok d m1
def gcM (t : M D) : M D := fun m => match t m with
  | .ok d m1 => gcR m d m1
  | .ex c fs m1 => if belowF m.length fs && gcL m.length m m1 then .ex c fs (m1.take m.length) else .ex c fs m1
  | .bad => .bad
def fs1 (f : D → M D) : List D → M D
  | [a] => f a
  | _ => bad
def fs2 (f : D → D → M D) : List D → M D
  | [a, b] => f a b
  | _ => bad
def fs3 (f : D → D → D → M D) : List D → M D
  | [a, b, c] => f a b c
  | _ => bad
def fs4 (f : D → D → D → D → M D) : List D → M D
  | [a, b, c, d] => f a b c d
  | _ => bad
def fs5 (f : D → D → D → D → D → M D) : List D → M D
  | [a, b, c, d, e] => f a b c d e
  | _ => bad
def fs6 (f : D → D → D → D → D → D → M D) : List D → M D
  | [a, b, c, d, e, g] => f a b c d e g
  | _ => bad
def fs0 (f : M D) : List D → M D
  | [] => f
  | _ => bad
end G

set_option Elab.async false
set_option linter.all false
set_option maxRecDepth 100000
namespace G
open PySem L2

/-! ### what is known of the heap: handles, things that nobody changes, things of one's own -/
structure Gh where
  hs : List Addr
  fz : List (Addr × HO)
  pv : List (Addr × HO)
structure Le (g g' : Gh) : Prop where
  hs : g.hs <+: g'.hs
  fz : ∀ p, p ∈ g.fz → p ∈ g'.fz
  pv : ∀ p, p ∈ g.pv → p ∈ g'.pv
theorem Le.refl (g : Gh) : Le g g := ⟨List.prefix_refl _, fun _ h => h, fun _ h => h⟩
theorem Le.trans {g g1 g2 : Gh} (a : Le g g1) (b : Le g1 g2) : Le g g2 := ⟨a.hs.trans b.hs, fun p h => b.fz p (a.fz p h), fun p h => b.pv p (a.pv p h)⟩
/-- as far as values go -/
structure Lv0 (g g' : Gh) : Prop where
  hs : g.hs <+: g'.hs
  fz : ∀ p, p ∈ g.fz → p ∈ g'.fz
theorem Le.v {g g' : Gh} (a : Le g g') : Lv0 g g' := ⟨a.hs, a.fz⟩
theorem Lv0.refl (g : Gh) : Lv0 g g := (Le.refl g).v
/-- keys -/
def keyD : Key → D
  | .inl i => .int i
  | .inr x => .str x
def keysK (kvs : List (Key × V)) : List D := kvs.map fun p => keyD p.1
def keysT (kvs : List (List Key × V)) : List D := kvs.map fun p => .fd [.non] (p.1.map keyD)
mutual
inductive Rep (K : PySem.W.Frag) (g : Gh) (H : Hp) : V → D → Prop
  | non : Rep K g H .non .non
  | bl (b : Bool) : Rep K g H (.bl b) (.bl b)
  | int (i : Int) : Rep K g H (.int i) (.int i)
  | str (x : Str) : Rep K g H (.str x) (.str x)
  | tup {a : Addr} {xs : List V} {ds : List D} : SqT K H a xs → RepL K g H xs ds → Rep K g H (.ref a) (.tup ds)
  | kt {a : Addr} {xs : List V} {ds : List D} : H a = some (.tup xs) → RepL K g H xs ds → Rep K g H (.ref a) (.fd [.non] ds)
  | fl {a : Addr} {xs : List V} {ds : List D} : (a, HO.lst xs) ∈ g.fz → RepL K g H xs ds → Rep K g H (.ref a) (.fl ds)
  | sc {a : Addr} {xs : List V} {ds : List D} : ((∃ o, H a = some (.frz o (.lst xs))) ∨ ∀ H', SqL K H' a xs) → RepL K g H xs ds → Rep K g H (.ref a) (.sc ds)
  | fd {a : Addr} {kvs : List (Key × V)} {ds : List D} : (a, HO.dK kvs) ∈ g.fz → RepL K g H (kvs.map (·.2)) ds → Rep K g H (.ref a) (.fd (keysK kvs) ds)
  | ref {a : Addr} {n : Nat} : g.hs[n]? = some a → Rep K g H (.ref a) (.ref n)
inductive RepL (K : PySem.W.Frag) (g : Gh) (H : Hp) : List V → List D → Prop
  | nil : RepL K g H [] []
  | cons {v : V} {vs : List V} {d : D} {ds : List D} : Rep K g H v d → RepL K g H vs ds → RepL K g H (v :: vs) (d :: ds)
end
/-- fields -/
inductive RepF (K : PySem.W.Frag) (g : Gh) (H : Hp) : List (Str × V) → List (Str × D) → Prop
  | nil : RepF K g H [] []
  | cons {f : Str} {v : V} {vs : List (Str × V)} {d : D} {ds : List (Str × D)} : Rep K g H v d → RepF K g H vs ds → RepF K g H ((f, v) :: vs) ((f, d) :: ds)
/-- tuples and locked things stay -/
structure TK (H H' : Hp) : Prop where
  tup : ∀ a xs, H a = some (.tup xs) → H' a = some (.tup xs)
  frz : ∀ a o u, H a = some (.frz o u) → H' a = some (.frz o u)
  nof : ∀ a o u, H' a = some (.frz o u) → H a = some (.frz o u)
def noFrz : HO → Bool
  | .frz _ _ => false
  | _ => true
theorem TK.refl (H : Hp) : TK H H := ⟨fun _ _ h => h, fun _ _ _ h => h, fun _ _ _ h => h⟩
theorem TK.trans {H H1 H2 : Hp} (a : TK H H1) (b : TK H1 H2) : TK H H2 := ⟨fun x xs h => b.tup x xs (a.tup x xs h), fun x o u h => b.frz x o u (a.frz x o u h), fun x o u h => a.nof x o u (b.nof x o u h)⟩
theorem upd_nof {H : Hp} {p a : Addr} {o : HO} {ob : Obj} {u : HO} (ho : noFrz o = true) (e : upd H p o a = some (.frz ob u)) : H a = some (.frz ob u) := by
  by_cases z : a = p
  · subst z
    rw [upd_same] at e
    cases e
    cases ho
  · rw [upd_ne z] at e
    exact e
theorem TK.new {H : Hp} {p : Addr} {o : HO} (h : H p = none) (ho : noFrz o = true := by rfl) : TK H (upd H p o) := ⟨fun a xs e => by rw [upd_ne (ne_of_none e h)]; exact e, fun a o u e => by rw [upd_ne (ne_of_none e h)]; exact e, fun a ob u e => upd_nof ho e⟩
theorem TK.mut {H : Hp} {p : Addr} {o : HO} (h : Mut (H p)) (ho : noFrz o = true := by rfl) : TK H (upd H p o) := ⟨fun a xs e => by
    rw [upd_ne (fun z => by subst z; rw [e] at h; exact h)]; exact e, fun a ob u e => by
    rw [upd_ne (fun z => by subst z; rw [e] at h; exact h)]; exact e, fun a ob u e => upd_nof ho e⟩
def Gh.cut (g : Gh) (n : Nat) : Gh := ⟨g.hs.take n, g.fz, g.pv⟩
section
variable {K : PySem.W.Frag} {g g' : Gh} {H H' : Hp}
theorem TK.seqT {a : Addr} {xs : List V} (t : TK H H') (h : SqT K H a xs) : SqT K H' a xs := by
  rcases h with (h | ⟨o, h⟩) | h
  · exact .inl (.inl (t.tup _ _ h))
  · exact .inl (.inr ⟨o, t.frz _ _ _ h⟩)
  · exact .inr h
theorem pre_get {n : Nat} {a : Addr} {l l' : List Addr} (p : l <+: l') (h : l[n]? = some a) : l'[n]? = some a := by
  obtain ⟨r, rfl⟩ := p
  rw [List.getElem?_append_left (List.getElem?_eq_some_iff.mp h).1]
  exact h
mutual
theorem Rep.mono (p : Lv0 g g') (t : TK H H') : ∀ {v : V} {d : D}, Rep K g H v d → Rep K g' H' v d
  | _, _, .non => .non
  | _, _, .bl b => .bl b
  | _, _, .int i => .int i
  | _, _, .str x => .str x
  | _, _, .tup h r => .tup (t.seqT h) (RepL.mono p t r)
  | _, _, .kt h r => .kt (t.tup _ _ h) (RepL.mono p t r)
  | _, _, .fl h r => .fl (p.fz _ h) (RepL.mono p t r)
  | _, _, .sc h r => .sc (by
      rcases h with ⟨o, h⟩ | h
      · exact .inl ⟨o, t.frz _ _ _ h⟩
      · exact .inr h) (RepL.mono p t r)
  | _, _, .fd h r => .fd (p.fz _ h) (RepL.mono p t r)
  | _, _, .ref h => .ref (pre_get p.hs h)
theorem RepL.mono (p : Lv0 g g') (t : TK H H') : ∀ {vs : List V} {ds : List D}, RepL K g H vs ds → RepL K g' H' vs ds
  | _, _, .nil => .nil
  | _, _, .cons r s => .cons (Rep.mono p t r) (RepL.mono p t s)
end
theorem RepF.mono (p : Lv0 g g') (t : TK H H') : ∀ {vs : List (Str × V)} {ds : List (Str × D)}, RepF K g H vs ds → RepF K g' H' vs ds
  | _, _, .nil => .nil
  | _, _, .cons r s => .cons (r.mono p t) (RepF.mono p t s)
theorem below_key (n : Nat) (k : Key) : G.below n (keyD k) = true := by cases k <;> simp [keyD, G.below]
theorem belowL_all {n : Nat} : ∀ {l : List D}, (∀ d, d ∈ l → G.below n d = true) → belowL n l = true
  | [], _ => by simp [belowL]
  | d :: l, h => by simp only [belowL, Bool.and_eq_true]; exact ⟨h d List.mem_cons_self, belowL_all fun e he => h e (List.mem_cons_of_mem _ he)⟩
theorem below_keysK (n : Nat) (kvs : List (Key × V)) : belowL n (keysK kvs) = true := belowL_all fun d h => by
  obtain ⟨p, _, rfl⟩ := List.mem_map.mp h
  exact below_key n p.1
theorem below_keysT (n : Nat) (kvs : List (List Key × V)) : belowL n (keysT kvs) = true := belowL_all fun d h => by
  obtain ⟨p, _, rfl⟩ := List.mem_map.mp h
  simp only [G.below]
  refine belowL_all fun d h => ?_
  obtain ⟨k, _, rfl⟩ := List.mem_map.mp h
  exact below_key n k
theorem RepL.length : ∀ {vs : List V} {ds : List D}, RepL K g H vs ds → vs.length = ds.length
  | _, _, .nil => rfl
  | _, _, .cons _ s => congrArg (· + 1) (RepL.length s)
theorem RepL.get : ∀ {vs : List V} {ds : List D} {i : Nat} {d : D}, RepL K g H vs ds → ds[i]? = some d → ∃ v, vs[i]? = some v ∧ Rep K g H v d
  | _, _, _, _, .nil, e => by simp at e
  | _, _, 0, _, .cons r _, e => by simp at e; subst e; exact ⟨_, rfl, r⟩
  | _, _, i + 1, d, .cons _ s, e => by
    obtain ⟨v, h1, h2⟩ := RepL.get (i := i) (d := d) s (by simpa using e)
    exact ⟨v, by simpa using h1, h2⟩
theorem RepL.append : ∀ {vs ws : List V} {ds es : List D}, RepL K g H vs ds → RepL K g H ws es → RepL K g H (vs ++ ws) (ds ++ es)
  | _, _, _, _, .nil, s => s
  | _, _, _, _, .cons r t, s => .cons r (RepL.append t s)
theorem RepL.set {v : V} {d : D} (q : Rep K g H v d) : ∀ {vs : List V} {ds : List D} (i : Nat), RepL K g H vs ds → RepL K g H (vs.set i v) (ds.set i d)
  | _, _, _, .nil => .nil
  | _, _, 0, .cons _ t => .cons q t
  | _, _, i + 1, .cons r t => .cons r (RepL.set q i t)
theorem RepL.drop : ∀ {vs : List V} {ds : List D} (n : Nat), RepL K g H vs ds → RepL K g H (vs.drop n) (ds.drop n)
  | _, _, 0, r => r
  | _, _, _ + 1, .nil => .nil
  | _, _, n + 1, .cons _ t => RepL.drop n t
theorem RepL.take : ∀ {vs : List V} {ds : List D} (n : Nat), RepL K g H vs ds → RepL K g H (vs.take n) (ds.take n)
  | _, _, 0, _ => .nil
  | _, _, _ + 1, .nil => .nil
  | _, _, n + 1, .cons r t => .cons r (RepL.take n t)
theorem RepF.lookup : ∀ {vs : List (Str × V)} {ds : List (Str × D)} {f : Str}, RepF K g H vs ds → (∀ d, ds.lookup f = some d → ∃ v, vs.lookup f = some v ∧ Rep K g H v d) ∧ (ds.lookup f = none → vs.lookup f = none)
  | _, _, _, .nil => ⟨fun d e => by simp at e, fun _ => rfl⟩
  | _, _, f, .cons (f := f') r s => by
    have ih := RepF.lookup (f := f) s
    by_cases h : f = f'
    · subst h
      refine ⟨fun d e => ?_, fun e => ?_⟩
      · simp only [List.lookup, beq_self_eq_true] at e ⊢
        cases e
        exact ⟨_, rfl, r⟩
      · simp only [List.lookup, beq_self_eq_true] at e
        cases e
    · have hb : (f == f') = false := beq_eq_false_iff_ne.mpr h
      refine ⟨fun d e => ?_, fun e => ?_⟩
      · simp only [List.lookup, hb] at e ⊢
        exact ih.1 d e
      · simp only [List.lookup, hb] at e ⊢
        exact ih.2 e
theorem RepF.put {f : Str} {v : V} {d : D} (q : Rep K g H v d) : ∀ {vs : List (Str × V)} {ds : List (Str × D)}, RepF K g H vs ds → RepF K g H (putF f v vs) (putD f d ds)
  | _, _, .nil => .cons q .nil
  | _, _, .cons (f := f') (v := u) (d := e) r s => by
    show RepF K g H (if f' = f then (f', v) :: _ else (f', u) :: putF f v _) (if f' = f then (f', d) :: _ else (f', e) :: putD f d _)
    by_cases h : f' = f
    · rw [if_pos h, if_pos h]
      exact .cons q s
    · rw [if_neg h, if_neg h]
      exact .cons r (RepF.put q s)
theorem RepF.length : ∀ {vs : List (Str × V)} {ds : List (Str × D)}, RepF K g H vs ds → vs.length = ds.length
  | _, _, .nil => rfl
  | _, _, .cons _ s => congrArg (· + 1) (RepF.length s)
mutual
theorem Rep.bel : ∀ {v : V} {d : D}, Rep K g H v d → below g.hs.length d = true
  | _, _, .non => by simp [G.below]
  | _, _, .bl _ => by simp [G.below]
  | _, _, .int _ => by simp [G.below]
  | _, _, .str _ => by simp [G.below]
  | _, _, .tup _ r => by simp only [G.below]; exact RepL.bel r
  | _, _, .fl _ r => by simp only [G.below]; exact RepL.bel r
  | _, _, .sc _ r => by simp only [G.below]; exact RepL.bel r
  | _, _, .fd _ r => by simp only [G.below, Bool.and_eq_true]; exact ⟨below_keysK _ _, RepL.bel r⟩
  | _, _, .kt _ r => by simp only [G.below, Bool.and_eq_true]; exact ⟨rfl, RepL.bel r⟩
  | _, _, .ref h => by simp only [G.below, decide_eq_true_eq]; exact (List.getElem?_eq_some_iff.mp h).1
theorem RepL.bel : ∀ {vs : List V} {ds : List D}, RepL K g H vs ds → belowL g.hs.length ds = true
  | _, _, .nil => by simp [belowL]
  | _, _, .cons r s => by simp only [belowL, Bool.and_eq_true]; exact ⟨Rep.bel r, RepL.bel s⟩
end
theorem RepF.bel : ∀ {vs : List (Str × V)} {ds : List (Str × D)}, RepF K g H vs ds → belowF g.hs.length ds = true
  | _, _, .nil => by simp [belowF]
  | _, _, .cons r s => by
    have h := RepF.bel s
    simp only [belowF, List.all_cons, Bool.and_eq_true] at h ⊢
    exact ⟨Rep.bel r, h⟩
mutual
theorem Rep.shrink {n : Nat} : ∀ {v : V} {d : D}, Rep K g H v d → G.below n d = true → Rep K (g.cut n) H v d
  | _, _, .non, _ => .non
  | _, _, .bl b, _ => .bl b
  | _, _, .int i, _ => .int i
  | _, _, .str x, _ => .str x
  | _, _, .tup h r, b => .tup h (RepL.shrink r (by simpa only [G.below] using b))
  | _, _, .fl h r, b => .fl h (RepL.shrink r (by simpa only [G.below] using b))
  | _, _, .sc h r, b => .sc h (RepL.shrink r (by simpa only [G.below] using b))
  | _, _, .fd h r, b => .fd h (RepL.shrink r (by simp only [G.below, Bool.and_eq_true] at b; exact b.2))
  | _, _, .kt h r, b => .kt h (RepL.shrink r (by simp only [G.below, Bool.and_eq_true] at b; exact b.2))
  | _, _, .ref h, b => .ref (by
      simp only [G.below, decide_eq_true_eq] at b
      show (g.hs.take n)[_]? = _
      rw [List.getElem?_take_of_lt b]
      exact h)
theorem RepL.shrink {n : Nat} : ∀ {vs : List V} {ds : List D}, RepL K g H vs ds → belowL n ds = true → RepL K (g.cut n) H vs ds
  | _, _, .nil, _ => .nil
  | _, _, .cons r s, b => by
    simp only [belowL, Bool.and_eq_true] at b
    exact .cons (Rep.shrink r b.1) (RepL.shrink s b.2)
end
theorem RepF.shrink {n : Nat} : ∀ {vs : List (Str × V)} {ds : List (Str × D)}, RepF K g H vs ds → belowF n ds = true → RepF K (g.cut n) H vs ds
  | _, _, .nil, _ => .nil
  | _, _, .cons r s, b => by
    simp only [belowF, List.all_cons, Bool.and_eq_true] at b
    exact .cons (r.shrink b.1) (RepF.shrink s (by simpa only [belowF] using b.2))
end

end G

set_option Elab.async false
set_option linter.all false
set_option maxRecDepth 100000
namespace G
open PySem L2
/-! ### the heap as a whole -/
/-- where the classes stand: of instances, of exceptions -/
structure Cl where
  f : Nat → Option Addr
  T : List (Addr × Str)
  dk : Bool
/-- .. where no tables are told -/
def Cl.noT (c : Cl) : Cl := ⟨c.f, [], false⟩
instance : CoeFun Cl fun _ => Nat → Option Addr := ⟨Cl.f⟩
structure Cst where
  K : PySem.W.Frag
  cls : Cl
section
variable (Γ : Cst)
/-- a caught exception: of the class at C, its dict at d -/
def exH (a C d : Addr) : HO := .ext fun h => ∃ (oe : Obj) (ws : Array Value), h.get? a = some oe ∧ oe.cls = .ref C ∧ oe.dict = some d ∧ oe.data = .fields ws
def ObjR (g : Gh) (H : Hp) (a : Addr) : O → Prop
  | .lst ds => ∃ xs, H a = some (.lst xs) ∧ RepL Γ.K g H xs ds
  | .ins c fs => ∃ C dx vs, Γ.cls c = some C ∧ H a = some (.ins C dx vs) ∧ RepF Γ.K g H vs fs
  | .exc c fs => ∃ C d vs, Γ.cls c = some C ∧ H a = some (exH a C d) ∧ H d = some (.xd vs) ∧ RepF Γ.K g H vs fs
  | .dct ks ds => ∃ kvs, H a = some (.dT kvs) ∧ ks = keysT kvs ∧ RepL Γ.K g H (kvs.map (·.2)) ds
def isL (k : Bool) : HO → Bool
  | .lst _ => true
  | .dK _ => k
  | .ext _ => k
  | _ => false
/-- the table at P: its code objects bear the name q, and stay -/
def TabG (g : Gh) (H : Hp) (P : Addr) (q : Str) : Prop := ∃ ps : Array Value, H P = some (.tbl ps) ∧ TriplesOk ps.toList ∧ ∀ (pos : Pos) (cv : Value), codeAmong pos ps.toList = some cv → ∃ c, cv = .ref c ∧ (c, LamX.CodeO c q) ∈ g.fz
def isTL : HO → Bool
  | .lst _ => true
  | .tup _ => true
  | _ => false
structure Rel (g : Gh) (m : Hs) (H : Hp) : Prop where
  len : g.hs.length = m.length
  inj : g.hs.Nodup
  obj : ∀ (n : Nat) (o : O) (a : Addr), m[n]? = some o → g.hs[n]? = some a → ObjR Γ g H a o
  frz : ∀ a o, (a, o) ∈ g.fz → H a = some o
  prv : ∀ a o, (a, o) ∈ g.pv → H a = some o
  hf : ∀ a o, a ∈ g.hs → (a, o) ∉ g.fz
  hp : ∀ a o, a ∈ g.hs → (a, o) ∉ g.pv
  pf : ∀ a o u, (a, o) ∈ g.pv → (a, u) ∉ g.fz
  lf : ∀ p, p ∈ g.fz → isL Γ.cls.dk p.2 = true
  lp : ∀ p, p ∈ g.pv → isL Γ.cls.dk p.2 = true
  ff : ∀ b o u, H b = some (.frz o u) → isTL u = true
  tab : ∀ t, t ∈ Γ.cls.T → TabG g H t.1 t.2
/-- slots: not known, a value, a list of one's own -/
inductive Sl where | un | val (d : D) | own (xs : List D) | raw (v : V)
structure RelS (gB g : Gh) (H : Hp) (ρ : List Sl) (σ : St) : Prop where
  len : ρ.length = σ.length
  val : ∀ (i : Nat) (d : D), ρ[i]? = some (.val d) → ∃ v, σ[i]? = some (some v) ∧ Rep Γ.K g H v d
  own : ∀ (i : Nat) (xs : List D), ρ[i]? = some (.own xs) → ∃ a vs, σ[i]? = some (some (.ref a)) ∧ (a, HO.lst vs) ∈ g.pv ∧ RepL Γ.K g H vs xs ∧ ∀ u, (a, u) ∉ gB.pv
  inj : ∀ (i j : Nat) (xs ys : List D) (a : Addr), ρ[i]? = some (.own xs) → ρ[j]? = some (.own ys) → σ[i]? = some (some (.ref a)) → σ[j]? = some (some (.ref a)) → i = j
  raw : ∀ (i : Nat) (v : V), ρ[i]? = some (.raw v) → σ[i]? = some (some v)
end
section
variable {Γ : Cst} {gB g g' : Gh} {m m' : Hs} {H H' : Hp} {ρ : List Sl} {σ : St} {a p : Addr} {n : Nat}
theorem RelS.mono (p : Le g g') (t : TK H H') (h : RelS Γ gB g H ρ σ) : RelS Γ gB g' H' ρ σ := ⟨h.len, fun i d e => by
  obtain ⟨v, h1, h2⟩ := h.val i d e
  exact ⟨v, h1, h2.mono p.v t⟩, fun i xs e => by
  obtain ⟨a, vs, h1, h2, h3, h4⟩ := h.own i xs e
  exact ⟨a, vs, h1, p.pv _ h2, h3.mono p.v t, h4⟩, h.inj, h.raw⟩
theorem set_at {α : Type} {l : List α} {i j : Nat} {x y : α} (h : (l.set i x)[j]? = some y) : (i = j ∧ y = x ∧ i < l.length) ∨ (i ≠ j ∧ l[j]? = some y) := by
  by_cases e : i = j
  · subst e
    rw [List.getElem?_set_self'] at h
    cases hr : l[i]? with
    | none => rw [hr] at h; cases h
    | some o =>
      rw [hr] at h
      have h' : some x = some y := h
      cases h'
      exact .inl ⟨rfl, rfl, (List.getElem?_eq_some_iff.mp hr).1⟩
  · rw [List.getElem?_set_ne e] at h
    exact .inr ⟨e, h⟩
/-- a slot gets a value -/
theorem RelS.set {v : V} {d : D} (h : RelS Γ gB g H ρ σ) (q : Rep Γ.K g H v d) (i : Nat) : RelS Γ gB g H (ρ.set i (.val d)) (σ.set i (some v)) := by
  refine ⟨by rw [List.length_set, List.length_set]; exact h.len, fun j e hj => ?_, fun j xs hj => ?_, fun j l xs ys b hj hl h1 h2 => ?_, fun j w hj => by
    rcases set_at hj with ⟨rfl, e, hi⟩ | ⟨hij, hj⟩
    · cases e
    · rw [List.getElem?_set_ne hij]; exact h.raw j w hj⟩
  · rcases set_at hj with ⟨rfl, e, hi⟩ | ⟨hij, hj⟩
    · cases e
      exact ⟨v, by rw [List.getElem?_set_self (by rw [← h.len]; exact hi)], q⟩
    · obtain ⟨u, h1, h2⟩ := h.val j e hj
      exact ⟨u, by rw [List.getElem?_set_ne hij]; exact h1, h2⟩
  · rcases set_at hj with ⟨rfl, e, hi⟩ | ⟨hij, hj⟩
    · cases e
    · obtain ⟨a, vs, h1, h2⟩ := h.own j xs hj
      exact ⟨a, vs, by rw [List.getElem?_set_ne hij]; exact h1, h2⟩
  · rcases set_at hj with ⟨rfl, e, hi⟩ | ⟨hij, hj⟩
    · cases e
    rcases set_at hl with ⟨rfl, e, hi⟩ | ⟨hil, hl⟩
    · cases e
    rw [List.getElem?_set_ne hij] at h1
    rw [List.getElem?_set_ne hil] at h2
    exact h.inj j l xs ys b hj hl h1 h2
/-- less is known -/
inductive Sub : List Sl → List Sl → Prop
  | nil : Sub [] []
  | un {s : Sl} {l l' : List Sl} : Sub l l' → Sub (.un :: l) (s :: l')
  | eq {s : Sl} {l l' : List Sl} : Sub l l' → Sub (s :: l) (s :: l')
theorem Sub.len : ∀ {l l' : List Sl}, Sub l l' → l.length = l'.length
  | _, _, .nil => rfl
  | _, _, .un h => congrArg (· + 1) h.len
  | _, _, .eq h => congrArg (· + 1) h.len
theorem Sub.at : ∀ {l l' : List Sl} {i : Nat} {s : Sl}, Sub l l' → l[i]? = some s → s = .un ∨ l'[i]? = some s
  | _, _, _, _, .nil, h => by simp at h
  | _, _, 0, s, .un _, h => by simp at h; exact .inl h.symm
  | _, _, 0, s, .eq _, h => .inr (by simpa using h)
  | _, _, i + 1, s, .un q, h => by
    have := Sub.at (i := i) q (by simpa using h)
    simpa using this
  | _, _, i + 1, s, .eq q, h => by
    have := Sub.at (i := i) q (by simpa using h)
    simpa using this
theorem Sub.refl : ∀ l : List Sl, Sub l l
  | [] => .nil
  | _ :: l => .eq (Sub.refl l)
theorem RelS.less {ρ' : List Sl} (h : RelS Γ gB g H ρ σ) (s : Sub ρ' ρ) : RelS Γ gB g H ρ' σ := by
  refine ⟨s.len.trans h.len, fun i d e => ?_, fun i xs e => ?_, fun i j xs ys a e1 e2 => ?_, fun i v e => by
    rcases s.at e with z | z
    · cases z
    · exact h.raw i v z⟩
  · rcases s.at e with z | z
    · cases z
    · exact h.val i d z
  · rcases s.at e with z | z
    · cases z
    · exact h.own i xs z
  · rcases s.at e1 with z | z1
    · cases z
    rcases s.at e2 with z | z2
    · cases z
    exact h.inj i j xs ys a z1 z2
theorem RelS.unset (h : RelS Γ gB g H ρ σ) (i : Nat) : RelS Γ gB g H (ρ.set i .un) (σ.set i none) := by
  refine ⟨by rw [List.length_set, List.length_set]; exact h.len, fun j e hj => ?_, fun j xs hj => ?_, fun j l xs ys b hj hl h1 h2 => ?_, fun j w hj => by
    rcases set_at hj with ⟨rfl, e, hi⟩ | ⟨hij, hj⟩
    · cases e
    · rw [List.getElem?_set_ne hij]; exact h.raw j w hj⟩
  · rcases set_at hj with ⟨rfl, e, hi⟩ | ⟨hij, hj⟩
    · cases e
    · obtain ⟨u, h1, h2⟩ := h.val j e hj
      exact ⟨u, by rw [List.getElem?_set_ne hij]; exact h1, h2⟩
  · rcases set_at hj with ⟨rfl, e, hi⟩ | ⟨hij, hj⟩
    · cases e
    · obtain ⟨a, vs, h1, h2⟩ := h.own j xs hj
      exact ⟨a, vs, by rw [List.getElem?_set_ne hij]; exact h1, h2⟩
  · rcases set_at hj with ⟨rfl, e, hi⟩ | ⟨hij, hj⟩
    · cases e
    rcases set_at hl with ⟨rfl, e, hi⟩ | ⟨hil, hl⟩
    · cases e
    rw [List.getElem?_set_ne hij] at h1
    rw [List.getElem?_set_ne hil] at h2
    exact h.inj j l xs ys b hj hl h1 h2
def wipeS (ρ : List Sl) : List Nat → List Sl
  | [] => ρ
  | i :: is => (wipeS ρ is).set i .un
theorem RelS.wipe (h : RelS Γ gB g H ρ σ) : ∀ is : List Nat, RelS Γ gB g H (wipeS ρ is) (L2.wipe σ is)
  | [] => h
  | i :: is => (RelS.wipe h is).unset i
theorem mut_xd {H : Hp} {a b : Addr} {vs : List (Str × V)} (hm : Mut (H a)) (h : H b = some (.xd vs)) : b ≠ a := fun z => by
  subst z
  rw [h] at hm
  exact hm
theorem ObjR.mono (pg : Lv0 g g') (t : TK H H') (e : ∀ b o, (b = a ∨ ∃ vs, o = .xd vs) → H b = some o → H' b = some o) {o : O} (h : ObjR Γ g H a o) : ObjR Γ g' H' a o := by
  cases o with
  | lst ds => obtain ⟨xs, h1, h2⟩ := h; exact ⟨xs, e _ _ (.inl rfl) h1, h2.mono pg t⟩
  | ins c fs => obtain ⟨C, dx, vs, h0, h1, h2⟩ := h; exact ⟨C, dx, vs, h0, e _ _ (.inl rfl) h1, h2.mono pg t⟩
  | exc c fs => obtain ⟨C, d, vs, h0, h1, h2, h3⟩ := h; exact ⟨C, d, vs, h0, e _ _ (.inl rfl) h1, e _ _ (.inr ⟨_, rfl⟩) h2, h3.mono pg t⟩
  | dct ks ds =>
    obtain ⟨kvs, h1, h2, h3⟩ := h
    exact ⟨kvs, e _ _ (.inl rfl) h1, h2, h3.mono pg t⟩
theorem ObjR.there {o : O} (h : ObjR Γ g H a o) : H a ≠ none := by
  cases o with
  | lst ds => obtain ⟨xs, h1, _⟩ := h; rw [h1]; simp
  | ins c fs => obtain ⟨C, dx, vs, _, h1, _⟩ := h; rw [h1]; simp
  | exc c fs => obtain ⟨C, d, vs, _, h1, _⟩ := h; rw [h1]; simp
  | dct ks ds => obtain ⟨kvs, h1, _⟩ := h; rw [h1]; simp
theorem Rel.there (R : Rel Γ g m H) (h : a ∈ g.hs) : H a ≠ none := by
  obtain ⟨n, hn⟩ := List.getElem?_of_mem h
  have hl : n < m.length := by rw [← R.len]; exact (List.getElem?_eq_some_iff.mp hn).1
  exact (R.obj n _ a (List.getElem?_eq_getElem hl) hn).there
theorem Rel.fresh (R : Rel Γ g m H) (h : H p = none) : p ∉ g.hs := fun z => R.there z h
theorem Rel.freshF {o : HO} (R : Rel Γ g m H) (h : H p = none) : (p, o) ∉ g.fz := fun z => by
  have := R.frz _ _ z
  rw [h] at this
  cases this
theorem Rel.freshP {o : HO} (R : Rel Γ g m H) (h : H p = none) : (p, o) ∉ g.pv := fun z => by
  have := R.prv _ _ z
  rw [h] at this
  cases this
theorem TabG.go {P : Addr} {q : Str} (t : TabG g H P q) (p : ∀ x, x ∈ g.fz → x ∈ g'.fz) (e : ∀ ps, H P = some (.tbl ps) → H' P = some (.tbl ps)) : TabG g' H' P q := by
  obtain ⟨ps, h1, h2, h3⟩ := t
  refine ⟨ps, e _ h1, h2, fun pos cv hc => ?_⟩
  obtain ⟨c, e1, e2⟩ := h3 pos cv hc
  exact ⟨c, e1, p _ e2⟩
theorem tab_new {T : List (Addr × Str)} {o : HO} (t : ∀ x, x ∈ T → TabG g H x.1 x.2) (h : H p = none) : ∀ x, x ∈ T → TabG g (upd H p o) x.1 x.2 := fun x hx => (t x hx).go (fun _ z => z) fun ps e => by rw [upd_ne (ne_of_none e h)]; exact e
theorem tab_mut {T : List (Addr × Str)} {o : HO} (t : ∀ x, x ∈ T → TabG g H x.1 x.2) (hm : Mut (H a)) : ∀ x, x ∈ T → TabG g (upd H a o) x.1 x.2 := fun x hx => (t x hx).go (fun _ z => z) fun ps e => by
  rw [upd_ne (fun z => by rw [z] at e; rw [e] at hm; exact hm)]
  exact e
theorem tab_fz {T : List (Addr × Str)} {H : Hp} (t : ∀ x, x ∈ T → TabG g H x.1 x.2) (p : ∀ x, x ∈ g.fz → x ∈ g'.fz) : ∀ x, x ∈ T → TabG g' H x.1 x.2 := fun x hx => (t x hx).go p fun _ e => e
/-- an object that is not told is laid -/
theorem Rel.laid {o : HO} (R : Rel Γ g m H) (h : H p = none) (hf : noFrz o = true := by rfl) : Rel Γ g m (upd H p o) := ⟨R.len, R.inj, fun n ob a h1 h2 =>
  (R.obj n ob a h1 h2).mono (Lv0.refl g) (TK.new h hf) fun b u _ hu => by rw [upd_ne (ne_of_none hu h)]; exact hu,
  fun a o e => by rw [upd_ne (ne_of_none (R.frz a o e) h)]; exact R.frz a o e, fun a o e => by rw [upd_ne (ne_of_none (R.prv a o e) h)]; exact R.prv a o e, R.hf, R.hp, R.pf, R.lf, R.lp, fun b ob w e => R.ff b ob w (upd_nof hf e), tab_new R.tab h⟩
def Gh.addH (g : Gh) (p : Addr) : Gh := ⟨g.hs ++ [p], g.fz, g.pv⟩
def Gh.addF (g : Gh) (p : Addr) (o : HO) : Gh := ⟨g.hs, (p, o) :: g.fz, g.pv⟩
def Gh.addP (g : Gh) (p : Addr) (o : HO) : Gh := ⟨g.hs, g.fz, (p, o) :: g.pv⟩
def Gh.outP (g : Gh) (p : Addr) : Gh := ⟨g.hs, g.fz, g.pv.filter fun q => decide (q.1 ≠ p)⟩
theorem le_addH : Le g (g.addH p) := ⟨List.prefix_append _ _, fun _ h => h, fun _ h => h⟩
theorem le_addF {o : HO} : Le g (g.addF p o) := ⟨List.prefix_refl _, fun _ h => List.mem_cons_of_mem _ h, fun _ h => h⟩
theorem le_addP {o : HO} : Le g (g.addP p o) := ⟨List.prefix_refl _, fun _ h => h, fun _ h => List.mem_cons_of_mem _ h⟩
theorem lv_outP : Lv0 g (g.outP p) := ⟨List.prefix_refl _, fun _ h => h⟩
theorem mem_outP {q : Addr × HO} : q ∈ (g.outP p).pv ↔ q ∈ g.pv ∧ q.1 ≠ p := by simp [Gh.outP]
/-- a new object with a handle -/
theorem Rel.push {u : HO} {o : O} (R : Rel Γ g m H) (h : H p = none) (ho : ObjR Γ (g.addH p) (upd H p u) p o) (hf : noFrz u = true := by rfl) : Rel Γ (g.addH p) (m ++ [o]) (upd H p u) := by
  refine ⟨by simp [Gh.addH, R.len], ?_, fun n ob a h1 h2 => ?_, (R.laid h hf).frz, (R.laid h hf).prv, fun b w hb => ?_, fun b w hb => ?_, R.pf, R.lf, R.lp, fun b ob w e => R.ff b ob w (upd_nof hf e), tab_new R.tab h⟩
  · show (g.hs ++ [p]).Nodup
    rw [List.nodup_append]
    refine ⟨R.inj, by simp, fun x hx y hy => ?_⟩
    have e : y = p := by simpa using hy
    subst e
    exact fun z => R.fresh h (z ▸ hx)
  · change (g.hs ++ [p])[n]? = some a at h2
    by_cases hn : n < m.length
    · rw [List.getElem?_append_left hn] at h1
      rw [List.getElem?_append_left (by rw [R.len]; exact hn)] at h2
      exact (R.obj n ob a h1 h2).mono le_addH.v (TK.new h hf) fun b w _ hw => by rw [upd_ne (ne_of_none hw h)]; exact hw
    · have hl : n < (m ++ [o]).length := (List.getElem?_eq_some_iff.mp h1).1
      have e : n = m.length := by simp at hl; omega
      subst e
      have e1 : (m ++ [o])[m.length]? = some o := by simp
      rw [e1] at h1
      cases h1
      rw [← R.len] at h2
      have e2 : (g.hs ++ [p])[g.hs.length]? = some p := by simp
      rw [e2] at h2
      cases h2
      exact ho
  · rcases List.mem_append.mp hb with z | z
    · exact R.hf b w z
    · rw [List.mem_singleton.mp z]
      exact R.freshF h
  · rcases List.mem_append.mp hb with z | z
    · exact R.hp b w z
    · rw [List.mem_singleton.mp z]
      exact R.freshP h
/-- the object at a handle changes -/
theorem Rel.write {u : HO} {o : O} (R : Rel Γ g m H) (hm : Mut (H a)) (hn : g.hs[n]? = some a) (ho : ObjR Γ g (upd H a u) a o) (hf : noFrz u = true := by rfl) : Rel Γ g (m.set n o) (upd H a u) := by
  have ha : a ∈ g.hs := List.mem_of_getElem? hn
  refine ⟨by rw [List.length_set]; exact R.len, R.inj, fun k ob b h1 h2 => ?_, fun b w hb => ?_, fun b w hb => ?_, R.hf, R.hp, R.pf, R.lf, R.lp, fun b ob w e => R.ff b ob w (upd_nof hf e), tab_mut R.tab hm⟩
  · by_cases hk : n = k
    · subst hk
      have hl : n < m.length := by rw [← R.len]; exact (List.getElem?_eq_some_iff.mp hn).1
      rw [List.getElem?_set_self hl] at h1
      cases h1
      rw [hn] at h2
      cases h2
      exact ho
    · rw [List.getElem?_set_ne hk] at h1
      have hab : b ≠ a := fun z => by
        subst z
        have h3 := List.getElem?_eq_some_iff.mp hn
        have h4 := List.getElem?_eq_some_iff.mp h2
        exact hk ((List.getElem_inj R.inj).mp (h3.2.trans h4.2.symm))
      exact (R.obj k ob b h1 h2).mono (Lv0.refl g) (TK.mut hm hf) fun b2 w hb2 hw => by
        rcases hb2 with rfl | ⟨vs, rfl⟩
        · rw [upd_ne hab]; exact hw
        · rw [upd_ne (mut_xd hm hw)]; exact hw
  · rw [upd_ne (fun z => by subst z; exact R.hf _ _ ha hb)]
    exact R.frz b w hb
  · rw [upd_ne (fun z => by subst z; exact R.hp _ _ ha hb)]
    exact R.prv b w hb
/-- a new object that nobody changes -/
theorem Rel.newF {u : HO} (R : Rel Γ g m H) (h : H p = none) (hf : noFrz u = true := by rfl) (hl : isL Γ.cls.dk u = true := by rfl) : Rel Γ (g.addF p u) m (upd H p u) := by
  have L := R.laid (o := u) h hf
  refine ⟨R.len, R.inj, fun n ob a h1 h2 => (L.obj n ob a h1 h2).mono le_addF.v (TK.refl _) fun _ _ _ z => z, fun b w hb => ?_, L.prv, fun b w hb hz => ?_, R.hp, fun b w v hb hz => ?_, fun q hq => by rcases List.mem_cons.mp hq with e | e <;> first | (subst e; exact hl) | exact R.lf q e, R.lp, fun b ob w e => R.ff b ob w (upd_nof hf e), tab_fz L.tab fun _ z => List.mem_cons_of_mem _ z⟩
  · rcases List.mem_cons.mp hb with e | e
    · cases e
      exact upd_same
    · exact L.frz b w e
  · rcases List.mem_cons.mp hz with e | e
    · cases e
      exact R.fresh h hb
    · exact R.hf b w hb e
  · rcases List.mem_cons.mp hz with e | e
    · cases e
      exact R.freshP h hb
    · exact R.pf b w v hb e
/-- a new object of one's own -/
theorem Rel.newP {u : HO} (R : Rel Γ g m H) (h : H p = none) (hf : noFrz u = true := by rfl) (hl : isL Γ.cls.dk u = true := by rfl) : Rel Γ (g.addP p u) m (upd H p u) := by
  have L := R.laid (o := u) h hf
  refine ⟨R.len, R.inj, fun n ob a h1 h2 => (L.obj n ob a h1 h2).mono le_addP.v (TK.refl _) fun _ _ _ z => z, L.frz, fun b w hb => ?_, R.hf, fun b w hb hz => ?_, fun b w v hb hz => ?_, R.lf, fun q hq => by rcases List.mem_cons.mp hq with e | e <;> first | (subst e; exact hl) | exact R.lp q e, fun b ob w e => R.ff b ob w (upd_nof hf e), L.tab⟩
  · rcases List.mem_cons.mp hb with e | e
    · cases e
      exact upd_same
    · exact L.prv b w e
  · rcases List.mem_cons.mp hz with e | e
    · cases e
      exact R.fresh h hb
    · exact R.hp b w hb e
  · rcases List.mem_cons.mp hb with e | e
    · cases e
      exact R.freshF h hz
    · exact R.pf b w v e hz
/-- an object of one's own changes -/
theorem Rel.setP {u w : HO} (R : Rel Γ g m H) (hm : Mut (H a)) (h : (a, u) ∈ g.pv) (hf : noFrz w = true := by rfl) (hl : isL Γ.cls.dk w = true := by rfl) : Rel Γ ((g.outP a).addP a w) m (upd H a w) := by
  have hh : a ∉ g.hs := fun z => R.hp a u z h
  have lv : Lv0 g ((g.outP a).addP a w) := ⟨List.prefix_refl _, fun _ z => z⟩
  refine ⟨R.len, R.inj, fun n ob b h1 h2 => (R.obj n ob b h1 h2).mono lv (TK.mut hm hf) fun b2 v hb2 hv => ?_, fun b v hb => ?_, fun b v hb => ?_, R.hf, fun b v hb hz => ?_, fun b v x hb hz => ?_, R.lf, fun q hq => by rcases List.mem_cons.mp hq with e | e <;> first | (subst e; exact hl) | exact R.lp q (mem_outP.mp e).1, fun b ob w e => R.ff b ob w (upd_nof hf e), tab_mut R.tab hm⟩
  · rcases hb2 with rfl | ⟨vs, rfl⟩
    · rw [upd_ne (fun z => by subst z; exact hh (List.mem_of_getElem? h2))]
      exact hv
    · rw [upd_ne (mut_xd hm hv)]
      exact hv
  · rw [upd_ne (fun z => by subst z; exact R.pf _ _ _ h hb)]
    exact R.frz b v hb
  · rcases List.mem_cons.mp hb with e | e
    · cases e
      exact upd_same
    · obtain ⟨e1, e2⟩ := mem_outP.mp e
      rw [upd_ne e2]
      exact R.prv b v e1
  · rcases List.mem_cons.mp hz with e | e
    · cases e
      exact hh hb
    · exact R.hp b v hb (mem_outP.mp e).1
  · rcases List.mem_cons.mp hb with e | e
    · cases e
      exact R.pf _ _ _ h hz
    · exact R.pf b v x (mem_outP.mp e).1 hz
/-- an object of one's own is changed no more -/
theorem Rel.frzP {u : HO} (R : Rel Γ g m H) (h : (a, u) ∈ g.pv) : Rel Γ ((g.outP a).addF a u) m H := by
  have lv : Lv0 g ((g.outP a).addF a u) := ⟨List.prefix_refl _, fun _ z => List.mem_cons_of_mem _ z⟩
  refine ⟨R.len, R.inj, fun n ob b h1 h2 => (R.obj n ob b h1 h2).mono lv (TK.refl _) fun _ _ _ hv => hv, fun b v hb => ?_, fun b v hb => R.prv b v (mem_outP.mp hb).1, fun b v hb hz => ?_, fun b v hb hz => R.hp b v hb (mem_outP.mp hz).1, fun b v x hb hz => ?_, fun q hq => by rcases List.mem_cons.mp hq with e | e <;> first | (subst e; exact R.lp _ h) | exact R.lf q e, fun q hq => R.lp q (mem_outP.mp hq).1, R.ff, tab_fz R.tab fun _ z => List.mem_cons_of_mem _ z⟩
  · rcases List.mem_cons.mp hb with e | e
    · cases e
      exact R.prv _ _ h
    · exact R.frz b v e
  · rcases List.mem_cons.mp hz with e | e
    · cases e
      exact R.hp _ _ hb h
    · exact R.hf b v hb e
  · obtain ⟨e1, e2⟩ := mem_outP.mp hb
    rcases List.mem_cons.mp hz with e | e
    · cases e
      exact e2 rfl
    · exact R.pf b v x e1 e
theorem Rel.at (R : Rel Γ g m H) {o : O} (h : m[n]? = some o) : ∃ a, g.hs[n]? = some a ∧ ObjR Γ g H a o := by
  have hl : n < g.hs.length := by rw [R.len]; exact (List.getElem?_eq_some_iff.mp h).1
  exact ⟨g.hs[n], List.getElem?_eq_getElem hl, R.obj n o _ h (List.getElem?_eq_getElem hl)⟩
theorem Rel.lst (R : Rel Γ g m H) {ds : List D} {a : Addr} (h : m[n]? = some (.lst ds)) (hg : g.hs[n]? = some a) : ∃ xs, H a = some (.lst xs) ∧ RepL Γ.K g H xs ds := R.obj n _ a h hg
theorem Rel.ins (R : Rel Γ g m H) {c : Nat} {fs : List (Str × D)} {a : Addr} (h : m[n]? = some (.ins c fs)) (hg : g.hs[n]? = some a) : ∃ C dx vs, Γ.cls c = some C ∧ H a = some (.ins C dx vs) ∧ RepF Γ.K g H vs fs := R.obj n _ a h hg
/-- a list of one's own in the slots changes -/
theorem RelS.setP {xs : List D} {vs : List V} {i : Nat} {vs0 : List V} {xs0 : List D} (R : Rel Γ g m H) (h : RelS Γ gB g H ρ σ) (hi : ρ[i]? = some (.own xs0)) (hs : σ[i]? = some (some (.ref a))) (hm : Mut (H a))
    (ho : ∀ u, (a, u) ∉ gB.pv) (r : RepL Γ.K g H vs xs) : RelS Γ gB ((g.outP a).addP a (.lst vs)) (upd H a (.lst vs)) (ρ.set i (.own xs)) σ := by
  have hil : i < ρ.length := (List.getElem?_eq_some_iff.mp hi).1
  have lv : Lv0 g ((g.outP a).addP a (.lst vs)) := ⟨List.prefix_refl _, fun _ z => z⟩
  refine ⟨by rw [List.length_set]; exact h.len, fun j e hj => ?_, fun j ys hj => ?_, fun j l ys zs b hj hl h1 h2 => ?_, fun j w hj => by
    rcases set_at hj with ⟨rfl, e, _⟩ | ⟨hij, hj⟩
    · cases e
    · exact h.raw j w hj⟩
  · rcases set_at hj with ⟨rfl, e, hi⟩ | ⟨hij, hj⟩
    · cases e
    · obtain ⟨u, h1, h2⟩ := h.val j e hj
      exact ⟨u, h1, h2.mono lv (TK.mut hm)⟩
  · rcases set_at hj with ⟨rfl, e, _⟩ | ⟨hij, hj⟩
    · cases e
      exact ⟨a, vs, hs, List.mem_cons_self, r.mono lv (TK.mut hm), ho⟩
    · obtain ⟨b, ws, h1, h2, h3, h4⟩ := h.own j ys hj
      refine ⟨b, ws, h1, List.mem_cons_of_mem _ (mem_outP.mpr ⟨h2, fun z => ?_⟩), h3.mono lv (TK.mut hm), h4⟩
      have z : b = a := z
      subst z
      exact hij (h.inj i j xs0 ys b hi hj hs h1)
  · have key : ∀ k ws, (ρ.set i (Sl.own xs))[k]? = some (Sl.own ws) → ∃ ws, ρ[k]? = some (Sl.own ws) := fun k ws hk => by
      rcases set_at hk with ⟨rfl, _, _⟩ | ⟨_, hk⟩
      · exact ⟨_, hi⟩
      · exact ⟨_, hk⟩
    obtain ⟨_, k1⟩ := key _ _ hj
    obtain ⟨_, k2⟩ := key _ _ hl
    exact h.inj j l _ _ b k1 k2 h1 h2
/-- a slot gets a new list of its own -/
theorem RelS.newP {xs : List D} {vs : List V} {i : Nat} (R : Rel Γ g m H) (h : RelS Γ gB g H ρ σ) (hp : H p = none) (hB : ∀ q, q ∈ gB.pv → q ∈ g.pv) (r : RepL Γ.K g H vs xs) : RelS Γ gB (g.addP p (.lst vs)) (upd H p (.lst vs)) (ρ.set i (.own xs)) (σ.set i (some (.ref p))) := by
  have h' := h.mono (le_addP (p := p) (o := .lst vs)) (TK.new (o := .lst vs) hp)
  have nop : ∀ j ys, ρ[j]? = some (Sl.own ys) → σ[j]? = some (some (V.ref p)) → False := fun j ys hj h1 => by
    obtain ⟨b, ws, h2, h3, _⟩ := h.own j ys hj
    rw [h1] at h2
    cases h2
    exact R.freshP hp h3
  refine ⟨by rw [List.length_set, List.length_set]; exact h.len, fun j e hj => ?_, fun j ys hj => ?_, fun j l ys zs b hj hl h1 h2 => ?_, fun j w hj => by
    rcases set_at hj with ⟨rfl, e, hi⟩ | ⟨hij, hj⟩
    · cases e
    · rw [List.getElem?_set_ne hij]; exact h.raw j w hj⟩
  · rcases set_at hj with ⟨rfl, e, hi⟩ | ⟨hij, hj⟩
    · cases e
    · obtain ⟨u, h1, h2⟩ := h'.val j e hj
      exact ⟨u, by rw [List.getElem?_set_ne hij]; exact h1, h2⟩
  · rcases set_at hj with ⟨rfl, e, hi⟩ | ⟨hij, hj⟩
    · cases e
      exact ⟨p, vs, by rw [List.getElem?_set_self (by rw [← h.len]; exact hi)], List.mem_cons_self, r.mono le_addP.v (TK.new hp), fun u hu => R.freshP hp (hB _ hu)⟩
    · obtain ⟨b, ws, h1, h2⟩ := h'.own j ys hj
      exact ⟨b, ws, by rw [List.getElem?_set_ne hij]; exact h1, h2⟩
  · rcases set_at hj with ⟨rfl, e, hi⟩ | ⟨hij, hj⟩
    · rcases set_at hl with ⟨e2, _, _⟩ | ⟨hil, hl⟩
      · exact e2
      · rw [List.getElem?_set_self (by rw [← h.len]; exact hi)] at h1
        cases h1
        rw [List.getElem?_set_ne hil] at h2
        exact (nop _ _ hl h2).elim
    · rw [List.getElem?_set_ne hij] at h1
      rcases set_at hl with ⟨rfl, e, hi⟩ | ⟨hil, hl⟩
      · rw [List.getElem?_set_self (by rw [← h.len]; exact hi)] at h2
        cases h2
        exact (nop _ _ hj h1).elim
      · rw [List.getElem?_set_ne hil] at h2
        exact h.inj j l _ _ b hj hl h1 h2
/-- a list of one's own leaves -/
theorem RelS.outP {xs : List D} {i : Nat} {g2 : Gh} {d : D} (h : RelS Γ gB g H ρ σ) (hi : ρ[i]? = some (.own xs)) (hs : σ[i]? = some (some (.ref a))) (lv : Lv0 g g2) (hg : ∀ q, q ∈ g.pv → q.1 ≠ a → q ∈ g2.pv) (r : Rep Γ.K g2 H (.ref a) d) : RelS Γ gB g2 H (ρ.set i (.val d)) σ := by
  refine ⟨by rw [List.length_set]; exact h.len, fun j e hj => ?_, fun j ys hj => ?_, fun j l ys zs b hj hl h1 h2 => ?_, fun j w hj => by
    rcases set_at hj with ⟨rfl, e, _⟩ | ⟨hij, hj⟩
    · cases e
    · exact h.raw j w hj⟩
  · rcases set_at hj with ⟨rfl, e, hi⟩ | ⟨hij, hj⟩
    · cases e
      exact ⟨_, hs, r⟩
    · obtain ⟨u, h1, h2⟩ := h.val j e hj
      exact ⟨u, h1, h2.mono lv (TK.refl _)⟩
  · rcases set_at hj with ⟨rfl, e, _⟩ | ⟨hij, hj⟩
    · cases e
    · obtain ⟨b, ws, h1, h2, h3, h4⟩ := h.own j ys hj
      refine ⟨b, ws, h1, hg _ h2 fun z => ?_, h3.mono lv (TK.refl _), h4⟩
      have z : b = a := z
      subst z
      exact hij (h.inj i j xs ys b hi hj hs h1)
  · rcases set_at hj with ⟨rfl, e, _⟩ | ⟨hij, hj⟩
    · cases e
    rcases set_at hl with ⟨rfl, e, _⟩ | ⟨hil, hl⟩
    · cases e
    exact h.inj j l _ _ b hj hl h1 h2
end
end G

set_option Elab.async false
set_option linter.all false
set_option maxRecDepth 100000
set_option maxHeartbeats 1000000
namespace G
open PySem L2
/-! ### readings by computations -/
/-- the classes; what is wished of exceptions; what stood ahead of the def -/
structure Cc where
  cls : Cl
  W : WX
  gB : Gh
  H0 : Hp
/-- tuples and locked things stay -/
structure TW (H H' : Hp) : Prop where
  tup : ∀ a xs, H a = some (.tup xs) → H' a = some (.tup xs)
  frz : ∀ a o u, H a = some (.frz o u) → H' a = some (.frz o u)
theorem TW.refl (H : Hp) : TW H H := ⟨fun _ _ h => h, fun _ _ _ h => h⟩
theorem TW.go {H H1 H2 : Hp} (a : TW H H1) (b : TK H1 H2) : TW H H2 := ⟨fun x xs h => b.tup x xs (a.tup x xs h), fun x o u h => b.frz x o u (a.frz x o u h)⟩
def H00 : Hp := fun _ => none
theorem TW.nil {H : Hp} : TW H00 H := ⟨fun _ _ h => (nomatch (show (none : Option HO) = some _ from h)), fun _ _ _ h => (nomatch (show (none : Option HO) = some _ from h))⟩
section
variable (Γ : Cst) (W : WX)
/-- an exception of the class c with the fields fs is as W wishes -/
def PostX (σ : St) (g : Gh) (H : Hp) (c : Nat) (fs : List (Str × D)) (m : Hs) : Prop :=
  ∀ g' H' C d vs, Le g g' → TK H H' → Rel Γ g' m H' → Γ.cls c = some C → H' d = some (.xd vs) → RepF Γ.K g' H' vs fs → W (.ref C) (some d) σ H'
def Post {α A : Type} (rep : Gh → Hp → A → α → Prop) (σ : St) (g : Gh) (H : Hp) (Q : A → Hp → Prop) : Rs α → Prop
  | .ok x m => ∀ g' H' v, Le g g' → TK H H' → Rel Γ g' m H' → rep g' H' v x → Q v H'
  | .ex c fs m => PostX Γ W σ g H c fs m
  | .bad => False
structure At (C : Cc) (ρ : List Sl) (σ : St) (H : Hp) (g : Gh) (m : Hs) : Prop where
  le : Le C.gB g
  rel : Rel Γ g m H
  rs : RelS Γ C.gB g H ρ σ
  tw : TW C.H0 H
end
def tG {α A : Type} (Γ : Cst) (C : Cc) (ρ : List Sl) (rep : Gh → Hp → A → α → Prop) (t : M α) : St → Hp → (A → Hp → Prop) → Prop := fun σ H Q =>
  ∃ g m, At Γ C ρ σ H g m ∧ Post Γ C.W rep σ g H Q (t m)
section
variable {Γ : Cst} {W : WX} {C : Cc} {ρ : List Sl} {α β A B : Type} {rep : Gh → Hp → A → α → Prop} {repB : Gh → Hp → B → β → Prop} {σ : St} {g g' : Gh} {H H' : Hp} {m m' : Hs}
theorem At.mono (a : At Γ C ρ σ H g m) (p : Le g g') (t : TK H H') (rel : Rel Γ g' m' H') : At Γ C ρ σ H' g' m' := ⟨a.le.trans p, rel, a.rs.mono p t, a.tw.go t⟩
theorem At.keep (a : At Γ C ρ σ H g m) (t : TK H H') (rel : Rel Γ g m' H') : At Γ C ρ σ H' g m' := a.mono (Le.refl g) t rel
theorem PostX.mono {c : Nat} {fs : List (Str × D)} {m : Hs} (p : Le g g') (t : TK H H') (h : PostX Γ W σ g H c fs m) : PostX Γ W σ g' H' c fs m :=
  fun g2 H2 C d vs p2 t2 => h g2 H2 C d vs (p.trans p2) (t.trans t2)
theorem Post.mono {Q : A → Hp → Prop} {r : Rs α} (p : Le g g') (t : TK H H') (h : Post Γ W rep σ g H Q r) : Post Γ W rep σ g' H' Q r := by
  cases r with
  | ok x m => exact fun g2 H2 v p2 t2 => h g2 H2 v (p.trans p2) (t.trans t2)
  | ex c fs m => exact PostX.mono p t h
  | bad => exact h
/-- one computation after another -/
theorem Post.bind {Q : B → Hp → Prop} {R : A → Hp → Prop} {r : Rs α} {h : α → Hs → Rs β} (q : Post Γ W repB σ g H Q (r.bind h))
    (k : ∀ g' H' m v x, Le g g' → TK H H' → Rel Γ g' m H' → rep g' H' v x → Post Γ W repB σ g' H' Q (h x m) → R v H') : Post Γ W rep σ g H R r := by
  cases r with
  | ok x m => exact fun g' H' v p t rel hv => k g' H' m v x p t rel hv (Post.mono p t q)
  | ex c fs m => exact q
  | bad => exact q
theorem tG.bind {Q : B → Hp → Prop} {R : A → Hp → Prop} {t : M α} {f : α → M β} (q : tG Γ C ρ repB (bnd t f) σ H Q)
    (k : ∀ g' H' m v x, At Γ C ρ σ H' g' m → rep g' H' v x → Post Γ C.W repB σ g' H' Q (f x m) → R v H') : tG Γ C ρ rep t σ H R := by
  obtain ⟨g, m, a, q⟩ := q
  exact ⟨g, m, a, Post.bind q fun g' H' m' v x p t rel' hv q' => k g' H' m' v x (a.mono p t rel') hv q'⟩
/-- the end: the value as it is -/
theorem Post.ret {Q : A → Hp → Prop} {x : α} {m : Hs} {v : A} (q : Post Γ W rep σ g H Q (.ok x m)) (rel : Rel Γ g m H) (hv : rep g H v x) : Q v H := q g H v (Le.refl g) (TK.refl H) rel hv
theorem Post.opt {Q : A → Hp → Prop} {o : Option α} (q : Post Γ W rep σ g H Q (opt o m)) : ∃ x, o = some x ∧ Post Γ W rep σ g H Q (.ok x m) := by
  cases o with
  | none => exact q.elim
  | some x => exact ⟨x, rfl, q⟩
theorem Post.ask {Q : B → Hp → Prop} {f : Hs → Option α} {h : α → M β} (q : Post Γ W repB σ g H Q (bnd (ask f) h m)) : ∃ x, f m = some x ∧ Post Γ W repB σ g H Q (h x m) := by
  unfold bnd G.ask at q
  cases hz : f m with
  | none => rw [hz] at q; exact q.elim
  | some x => rw [hz] at q; exact ⟨x, rfl, q⟩
theorem Post.ite {Q : A → Hp → Prop} {c : Prop} [Decidable c] {t : M α} (q : Post Γ W rep σ g H Q ((if c then t else bad) m)) : c ∧ Post Γ W rep σ g H Q (t m) := by
  split at q
  · exact ⟨by assumption, q⟩
  · exact q.elim
end
abbrev rD (Γ : Cst) : Gh → Hp → V → D → Prop := fun g H v d => Rep Γ.K g H v d
abbrev rL (Γ : Cst) : Gh → Hp → List V → List D → Prop := fun g H v d => RepL Γ.K g H v d
abbrev rB : Gh → Hp → Bool → Bool → Prop := fun _ _ v b => v = b
def tE (Γ : Cst) (C : Cc) (ρ : List Sl) (t : M D) : TE := tG Γ C ρ (rD Γ) t
def tEs (Γ : Cst) (C : Cc) (ρ : List Sl) (t : M (List D)) : TA := tG Γ C ρ (rL Γ) t
/-- a test: the truth of the value -/
def tT (Γ : Cst) (C : Cc) (ρ : List Sl) (t : M D) : TT := tG Γ C ρ rB (bnd t tru)
theorem pe_imp {X : Cx} {e : Expr} {t t' : TE} (h : PE X e t) (k : ∀ σ H Q, t' σ H Q → t σ H Q) : PE X e t' := ⟨fun pins s σ H Q I q => h.run pins s σ H Q I (k σ H Q q)⟩
theorem pt_imp {X : Cx} {e : Expr} {t t' : TT} (h : PT X e t) (k : ∀ σ H Q, t' σ H Q → t σ H Q) : PT X e t' := ⟨fun pins s σ H Q I q => h.run pins s σ H Q I (k σ H Q q)⟩
theorem pw_imp {X : Cx} {e : Expr} {t t' : TT} (h : PW X e t) (k : ∀ σ H Q, t' σ H Q → t σ H Q) : PW X e t' := ⟨fun wh pins s σ H Q I q => h.run wh pins s σ H Q I (k σ H Q q)⟩
theorem pa_imp {X : Cx} {e : List Expr} {t t' : TA} (h : PA X e t) (k : ∀ σ H Q, t' σ H Q → t σ H Q) : PA X e t' := ⟨fun pos pins s σ H Q I q => h.run pos pins s σ H Q I (k σ H Q q)⟩
theorem ps_imp {X : Cx} {e : Stmt} {t t' : TS} (h : PS X e t) (k : ∀ De σ H, t' De σ H → t De σ H) : PS X e t' := ⟨fun pins s σ H De I q => h.run pins s σ H De I (k De σ H q)⟩
theorem pss_imp {X : Cx} {e : List Stmt} {t t' : TS} (h : PSs X e t) (k : ∀ De σ H, t' De σ H → t De σ H) : PSs X e t' := ⟨fun pins s σ H De I q => h.run pins s σ H De I (k De σ H q)⟩
abbrev PEc (X : Cx) (C : Cc) (ρ : List Sl) (e : Expr) (t : M D) : Prop := PE X e (tE ⟨X.K, C.cls⟩ C ρ t)
abbrev PTc (X : Cx) (C : Cc) (ρ : List Sl) (e : Expr) (t : M D) : Prop := PT X e (tT ⟨X.K, C.cls⟩ C ρ t)
abbrev PWc (X : Cx) (C : Cc) (ρ : List Sl) (e : Expr) (t : M D) : Prop := PW X e (tT ⟨X.K, C.cls⟩ C ρ t)
abbrev PAc (X : Cx) (C : Cc) (ρ : List Sl) (e : List Expr) (t : M (List D)) : Prop := PA X e (tEs ⟨X.K, C.cls⟩ C ρ t)
section
variable {X : Cx} {C : Cc} {ρ : List Sl}
/-! ### names, constants -/
theorem c_var {e : Expr} {i : Nat} {d : D} (h : PE X e (tVar i)) (hi : ρ[i]? = some (.val d)) : PEc X C ρ e (ret d) := pe_imp h fun σ H Q q => by
  obtain ⟨g, m, a, q⟩ := q
  obtain ⟨v, h1, h2⟩ := a.rs.val i d hi
  exact ⟨v, h1, q.ret a.rel h2⟩
theorem c_cst {e : Expr} {v : V} {d : D} (h : PE X e (tC v)) (hv : ∀ g H, Rep X.K g H v d) : PEc X C ρ e (ret d) := pe_imp h fun σ H Q q => by
  obtain ⟨g, m, a, q⟩ := q
  exact q.ret a.rel (hv g H)
theorem c_int {i : Int} {j pos} : PEc X C ρ (.Constant (.int i) j pos) (ret (.int i)) := c_cst pe_int fun _ _ => .int i
theorem c_bl {i : Bool} {j pos} : PEc X C ρ (.Constant (.bool i) j pos) (ret (.bl i)) := c_cst pe_bl fun _ _ => .bl i
theorem c_non {j pos} : PEc X C ρ (.Constant .none j pos) (ret .non) := c_cst pe_non fun _ _ => .non
/-! ### two operands -/
theorem opOr {f : Value → Value → Sem Value} {r r' : R2} (h : OpR X f r) (h' : OpR X f r') : OpR X f (fun x y H Q => r x y H Q ∨ r' x y H Q) := fun pins s σ H x y u v Q I rx ry q => by
  rcases q with q | q
  · exact h pins s σ H x y u v Q I rx ry q
  · exact h' pins s σ H x y u v Q I rx ry q
/-- an operator's rule serves an operation of the small language -/
def Serves (X : Cx) (cls : Cl) (r : R2) (f : D → D → M D) : Prop := ∀ (W : WX) (σ : St) (g : Gh) (H : Hp) (m : Hs) (vx vy : V) (x y : D) (Q : VK),
  Rel ⟨X.K, cls⟩ g m H → Rep X.K g H vx x → Rep X.K g H vy y → Post ⟨X.K, cls⟩ W (rD ⟨X.K, cls⟩) σ g H Q (f x y m) → r vx vy H Q
theorem two {r : R2} {f : D → D → M D} {a b : M D} {σ : St} {H : Hp} {Q : VK} (sv : Serves X C.cls r f)
    (q : tG ⟨X.K, C.cls⟩ C ρ (rD ⟨X.K, C.cls⟩) (bnd a fun x => bnd b fun y => f x y) σ H Q) : tOp r (tE ⟨X.K, C.cls⟩ C ρ a) (tE ⟨X.K, C.cls⟩ C ρ b) σ H Q := by
  refine tG.bind q fun g1 H1 m1 v1 x1 at1 hv1 q1 => ?_
  refine ⟨g1, m1, at1, Post.bind q1 fun g2 H2 m2 v2 x2 p t rel2 hv2 q2 => ?_⟩
  exact sv C.W σ g2 H2 m2 v1 v2 x1 x2 Q rel2 (hv1.mono p.v t) hv2 q2
theorem c_bin {e1 e2 : Expr} {a b : M D} {o : Op} {op : Operator} {r : R2} {pos : Pos} (ho : OpR X (binaryOp op) r) (sv : Serves X C.cls r (binS o)) (ha : PEc X C ρ e1 a) (hb : PEc X C ρ e2 b) : PEc X C ρ (.BinOp e1 op e2 pos) (binM o a b) :=
  pe_imp (pe_op ho ha hb) fun σ H Q q => two sv q
theorem c_cmp {e1 e2 : Expr} {a b : M D} {o : Cp} {op : CmpOp} {r : R2} {pos : Pos} (ho : OpR X (compareOp op) r) (sv : Serves X C.cls r (cmpS o)) (hm : behindInMarks op e2 = false) (ha : PEc X C ρ e1 a) (hb : PEc X C ρ e2 b) : PEc X C ρ (.Compare e1 [op] [e2] pos) (cmpM o a b) :=
  pe_imp (pe_cmpR ho ha hb hm) fun σ H Q q => two sv q
/-! ### the operators -/
section
variable {g : Gh} {H : Hp} {K : PySem.W.Frag} {v : V} {m : Hs} {σ : St} {W : WX} {cls : Cl}
theorem rep_int {i : Int} (h : Rep K g H v (.int i)) : v = .int i := by cases h; rfl
theorem rep_str {i : Str} (h : Rep K g H v (.str i)) : v = .str i := by cases h; rfl
theorem rep_bl {i : Bool} (h : Rep K g H v (.bl i)) : v = .bl i := by cases h; rfl
theorem rep_tup {ds : List D} (h : Rep K g H v (.tup ds)) : ∃ a xs, v = .ref a ∧ SqT K H a xs ∧ RepL K g H xs ds := by
  cases h with
  | tup h r => exact ⟨_, _, rfl, h, r⟩
theorem rep_kt {ds : List D} (h : Rep K g H v (.fd [.non] ds)) : ∃ a xs, v = .ref a ∧ H a = some (.tup xs) ∧ RepL K g H xs ds := by
  generalize e : D.fd [.non] ds = d at h
  cases h with
  | kt h r =>
    cases e
    exact ⟨_, _, rfl, h, r⟩
  | @fd a kvs ds2 h r =>
    injection e with e1 e2
    rcases kvs with _ | ⟨⟨k | k, v⟩, _ | ⟨p, r⟩⟩ <;> simp [keysK, keyD] at e1
  | _ => cases e
/-- a new tuple -/
theorem Post.newT {Q : VK} {Γ : Cst} {ds : List D} {xs : List V} {p : Addr} (q : Post Γ W (rD Γ) σ g H Q (.ok (.tup ds) m)) (rel : Rel Γ g m H) (r : RepL Γ.K g H xs ds) (hp : H p = none) : Q (.ref p) (upd H p (.tup xs)) :=
  q g _ _ (Le.refl g) (TK.new hp) (rel.laid hp) (.tup (SqT.of upd_same) (r.mono (Lv0.refl g) (TK.new hp)))
/-- a new list that nobody changes -/
theorem Post.newL {Q : VK} {Γ : Cst} {ds : List D} {xs : List V} {p : Addr} (q : Post Γ W (rD Γ) σ g H Q (.ok (.fl ds) m)) (rel : Rel Γ g m H) (r : RepL Γ.K g H xs ds) (hp : H p = none) : Q (.ref p) (upd H p (.lst xs)) :=
  q (g.addF p (.lst xs)) _ _ le_addF (TK.new hp) (rel.newF hp) (.fl List.mem_cons_self (r.mono le_addF.v (TK.new hp)))
/-- a new list with a handle -/
theorem Post.newH {Q : VK} {Γ : Cst} {ds : List D} {xs : List V} {p : Addr} (q : Post Γ W (rD Γ) σ g H Q (.ok (.ref m.length) (m ++ [.lst ds]))) (rel : Rel Γ g m H) (r : RepL Γ.K g H xs ds) (hp : H p = none) : Q (.ref p) (upd H p (.lst xs)) :=
  q (g.addH p) _ _ le_addH (TK.new hp) (rel.push hp ⟨xs, upd_same, r.mono le_addH.v (TK.new hp)⟩) (.ref (by show (g.hs ++ [p])[m.length]? = _; rw [← rel.len]; simp))
theorem rep_lst {x : D} {ds : List D} (rel : Rel ⟨K, cls⟩ g m H) (h : Rep K g H v x) (e : lstOf x m = some ds) : ∃ a xs, v = .ref a ∧ H a = some (.lst xs) ∧ RepL K g H xs ds := by
  cases h with
  | fl h r =>
    simp only [lstOf, Option.some.injEq] at e
    subst e
    exact ⟨_, _, rfl, rel.frz _ _ h, r⟩
  | ref h =>
    simp only [lstOf] at e
    split at e
    · rename_i ys hy
      cases e
      obtain ⟨xs, h1, h2⟩ := rel.lst hy h
      exact ⟨_, xs, rfl, h1, h2⟩
    · cases e
  | sc _ _ => simp [lstOf] at e
  | fd _ _ => simp [lstOf] at e
  | kt _ _ => simp [lstOf] at e
  | tup _ _ => simp [lstOf] at e
  | non => simp [lstOf] at e
  | bl _ => simp [lstOf] at e
  | int _ => simp [lstOf] at e
  | str _ => simp [lstOf] at e
theorem items_fd {kvs : List (Key × V)} {ds : List D} {m : Hs} : itemsOf (.fd (keysK kvs) ds) m = none := by
  rcases kvs with _ | ⟨⟨k | k, v⟩, _ | ⟨p, r⟩⟩ <;> rfl
/-- any sequence -/
theorem rep_seq {x : D} {ds : List D} (rel : Rel ⟨K, cls⟩ g m H) (h : Rep K g H v x) (e : itemsOf x m = some ds) : ∃ a xs, v = .ref a ∧ (SqL K H a xs ∨ SqT K H a xs) ∧ RepL K g H xs ds := by
  cases h with
  | tup h r => simp only [itemsOf, Option.some.injEq] at e; subst e; exact ⟨_, _, rfl, .inr h, r⟩
  | kt h r => simp only [itemsOf, Option.some.injEq] at e; subst e; exact ⟨_, _, rfl, .inr (SqT.of h), r⟩
  | fl h r =>
    obtain ⟨a, xs, e1, h1, h2⟩ := rep_lst rel (.fl h r) (ds := ds) (by simpa [lstOf, itemsOf] using e)
    exact ⟨a, xs, e1, .inl (SqL.of h1), h2⟩
  | ref h =>
    obtain ⟨a, xs, e1, h1, h2⟩ := rep_lst rel (.ref h) (ds := ds) (by simpa [lstOf, itemsOf] using e)
    exact ⟨a, xs, e1, .inl (SqL.of h1), h2⟩
  | sc h r =>
    simp only [itemsOf, Option.some.injEq] at e
    subst e
    refine ⟨_, _, rfl, .inl ?_, r⟩
    rcases h with ⟨o, h⟩ | h
    · exact .inl (.inr ⟨o, h⟩)
    · exact h H
  | fd _ _ => rw [items_fd] at e; cases e
  | non => simp [itemsOf] at e
  | bl _ => simp [itemsOf] at e
  | int _ => simp [itemsOf] at e
  | str _ => simp [itemsOf] at e
end
end
end G

set_option Elab.async false
set_option linter.all false
set_option maxRecDepth 100000
set_option maxHeartbeats 1000000
namespace G
open PySem L2
section
variable {X : Cx} {C : Cc} {ρ : List Sl} {cls : Cl}
def rAddA (K : PySem.W.Frag) : R2 := fun x y H Q => rI0 (fun i j => .int (i + j)) x y H Q ∨ ((∃ i j, x = .str i ∧ y = .str j ∧ i.length + j.length ≤ sizeLine ∧ Q (.str (i ++ j)) H) ∨ (rCatA K x y H Q ∨ rCat x y H Q))
theorem op_addA : OpR X (binaryOp .Add) (rAddA X.K) := opOr op_add (opOr op_add_str (opOr op_catA op_cat))
theorem add_lists {W : WX} {σ : L2.St} {g : Gh} {H : Hp} {m : Hs} {vx vy : V} {x y : D} {Q : VK} (rel : Rel ⟨X.K, cls⟩ g m H) (hx : Rep X.K g H vx x) (hy : Rep X.K g H vy y)
    (q : Post ⟨X.K, cls⟩ W (rD ⟨X.K, cls⟩) σ g H Q (match lstOf x m, lstOf y m with
      | some xs, some ys => if xs.length + ys.length ≤ sizeLine then .ok (.fl (xs ++ ys)) m else .bad
      | _, _ => .bad)) : rAddA X.K vx vy H Q := by
  split at q
  · rename_i h1 h2
    split at q
    · rename_i hz
      obtain ⟨a, xs, rfl, a1, a2⟩ := rep_lst rel hx h1
      obtain ⟨b, ys, rfl, b1, b2⟩ := rep_lst rel hy h2
      exact .inr (.inr (.inr ⟨_, _, xs, ys, rfl, rfl, a1, b1, by rw [a2.length, b2.length]; exact hz, fun p hp => q.newL rel (a2.append b2) hp⟩))
    · exact q.elim
  · exact q.elim
theorem sv_add : Serves X cls (rAddA X.K) (binS .add) := by
  intro W σ g H m vx vy x y Q rel hx hy q
  have hy' := hy
  cases hx with
  | int i => cases hy with
    | int j => exact .inl ⟨i, j, rfl, rfl, q.ret rel (.int _)⟩
    | _ => exact add_lists rel (.int i) hy' q
  | str i => cases hy with
    | str j =>
      simp only [binS] at q
      obtain ⟨hz, q⟩ := Post.ite q
      exact .inr (.inl ⟨i, j, rfl, rfl, hz, q.ret rel (.str _)⟩)
    | _ => exact add_lists rel (.str i) hy' q
  | tup h r => cases hy with
    | tup h' r' =>
      simp only [binS] at q
      obtain ⟨hz, q⟩ := Post.ite q
      refine .inr (.inr (.inl ⟨_, _, _, _, rfl, rfl, h, h', by rw [r.length, r'.length]; exact hz, fun e => ?_, fun e1 e2 => ?_, fun e1 e2 p hp => ?_⟩))
      · subst e
        cases r
        exact q.ret rel (.tup h' r')
      · subst e2
        cases r'
        exact q.ret rel (.tup h (by rw [List.append_nil]; exact r))
      · exact q.newT rel (r.append r') hp
    | _ => exact add_lists rel (.tup h r) hy' q
  | non => exact add_lists rel .non hy (by cases hy <;> exact q)
  | bl b => exact add_lists rel (.bl b) hy (by cases hy <;> exact q)
  | fl h r => exact add_lists rel (.fl h r) hy (by cases hy <;> exact q)
  | sc h r => exact add_lists rel (.sc h r) hy (by cases hy <;> exact q)
  | fd h r => exact add_lists rel (.fd h r) hy (by cases hy <;> exact q)
  | kt h r => exact add_lists rel (.kt h r) hy (by cases hy <;> exact q)
  | ref h => exact add_lists rel (.ref h) hy (by cases hy <;> exact q)
theorem sv_sub : Serves X cls (rI0 fun i j => .int (i - j)) (binS .sub) := by
  intro W σ g H m vx vy x y Q rel hx hy q
  cases hx with
  | int i => cases hy with
    | int j => exact ⟨i, j, rfl, rfl, q.ret rel (.int _)⟩
    | _ => exact q.elim
  | _ => cases hy <;> exact q.elim
def rMulA : R2 := fun x y H Q => rI CMulW (fun i j => .int (i * j)) x y H Q ∨ rRep x y H Q
theorem op_mulA : OpR X (binaryOp .Mult) rMulA := opOr op_mulW op_rep
theorem repL_rep {g : Gh} {H : Hp} {K : PySem.W.Frag} {xs : List V} {ds : List D} (r : RepL K g H xs ds) : ∀ n : Nat, RepL K g H (List.replicate n xs).flatten (List.replicate n ds).flatten
  | 0 => .nil
  | n + 1 => by
    rw [List.replicate_succ, List.replicate_succ, List.flatten_cons, List.flatten_cons]
    exact r.append (repL_rep r n)
theorem sv_mul : Serves X cls rMulA (binS .mul) := by
  intro W σ g H m vx vy x y Q rel hx hy q
  have gen : ∀ {j : Int}, vy = .int j → Post ⟨X.K, cls⟩ W (rD ⟨X.K, cls⟩) σ g H Q (match lstOf x m with
      | some xs => if -(2 ^ 63) ≤ j ∧ j < 2 ^ 63 ∧ xs.length * j.toNat ≤ sizeLine then .ok (.fl (List.replicate j.toNat xs).flatten) m else .bad
      | _ => .bad) → rMulA vx vy H Q := fun {j} e q => by
    subst e
    split at q
    · rename_i xs h1
      split at q
      · rename_i hz
        obtain ⟨a, xs, rfl, a1, a2⟩ := rep_lst rel hx h1
        exact .inr ⟨_, j, xs, rfl, rfl, a1, hz.1, hz.2.1, by rw [a2.length]; exact hz.2.2, fun p hp => q.newL rel (repL_rep a2 _) hp⟩
      · exact q.elim
    · exact q.elim
  cases hx with
  | int i => cases hy with
    | int j =>
      simp only [binS] at q
      obtain ⟨hz, q⟩ := Post.ite q
      exact .inl ⟨i, j, rfl, rfl, hz, q.ret rel (.int _)⟩
    | _ => exact q.elim
  | _ => cases hy <;> first | exact gen rfl q | exact q.elim
theorem sv_fdiv : Serves X cls (rI CDivW fun i j => .int (i / j)) (binS .fdiv) := by
  intro W σ g H m vx vy x y Q rel hx hy q
  cases hx with
  | int i => cases hy with
    | int j =>
      simp only [binS] at q
      obtain ⟨hz, q⟩ := Post.ite q
      exact ⟨i, j, rfl, rfl, hz, q.ret rel (.int _)⟩
    | _ => exact q.elim
  | _ => cases hy <;> exact q.elim
theorem sv_mod : Serves X cls (rI (fun _ j => 0 < j) fun i j => .int (i % j)) (binS .mod) := by
  intro W σ g H m vx vy x y Q rel hx hy q
  cases hx with
  | int i => cases hy with
    | int j =>
      simp only [binS] at q
      obtain ⟨hz, q⟩ := Post.ite q
      exact ⟨i, j, rfl, rfl, hz, q.ret rel (.int _)⟩
    | _ => exact q.elim
  | _ => cases hy <;> exact q.elim
theorem op_powW : OpR X (binaryOp .Pow) (rI (fun i j => 0 ≤ j ∧ (i.natAbs.log2 + 1) * j.toNat ≤ 134217728) fun i j => .int (i ^ j.toNat)) := opI fun i j _ _ _ _ _ hc q => PyProof.Rows.pow_int hc.1 (by
  have b : Builtin.Int.intBits i ≤ i.natAbs.log2 + 1 := by
    unfold Builtin.Int.intBits
    split <;> omega
  have e : ((j.toNat : Nat) : Int) = j := Int.toNat_of_nonneg hc.1
  have h1 : Builtin.Int.intBits i * j.toNat ≤ 134217728 := Nat.le_trans (Nat.mul_le_mul_right _ b) hc.2
  rw [← e]
  exact_mod_cast h1) q
theorem sv_pow : Serves X cls (rI (fun i j => 0 ≤ j ∧ (i.natAbs.log2 + 1) * j.toNat ≤ 134217728) fun i j => .int (i ^ j.toNat)) (binS .pow) := by
  intro W σ g H m vx vy x y Q rel hx hy q
  cases hx with
  | int i => cases hy with
    | int j =>
      simp only [binS] at q
      obtain ⟨hz, q⟩ := Post.ite q
      exact ⟨i, j, rfl, rfl, hz, q.ret rel (.int _)⟩
    | _ => exact q.elim
  | _ => cases hy <;> exact q.elim
/-! ### comparisons -/
theorem sv_lt : Serves X cls (rI0 fun i j => .bl (decide (i < j))) (cmpS .lt) := by
  intro W σ g H m vx vy x y Q rel hx hy q
  cases hx with
  | int i => cases hy with
    | int j => exact ⟨i, j, rfl, rfl, q.ret rel (.bl _)⟩
    | _ => exact q.elim
  | _ => cases hy <;> exact q.elim
theorem sv_gt : Serves X cls (rI0 fun i j => .bl (decide (j < i))) (cmpS .gt) := by
  intro W σ g H m vx vy x y Q rel hx hy q
  cases hx with
  | int i => cases hy with
    | int j => exact ⟨i, j, rfl, rfl, q.ret rel (.bl _)⟩
    | _ => exact q.elim
  | _ => cases hy <;> exact q.elim
theorem sv_ge : Serves X cls (rI0 fun i j => .bl (decide (j ≤ i))) (cmpS .ge) := by
  intro W σ g H m vx vy x y Q rel hx hy q
  cases hx with
  | int i => cases hy with
    | int j => exact ⟨i, j, rfl, rfl, q.ret rel (.bl _)⟩
    | _ => exact q.elim
  | _ => cases hy <;> exact q.elim
theorem sv_is : Serves X cls (fun x y H Q => y = .non ∧ Q (.bl (decide (x = .non))) H) (cmpS .is) := by
  intro W σ g H m vx vy x y Q rel hx hy q
  cases hy with
  | non => cases hx <;> exact ⟨rfl, q.ret rel (.bl _)⟩
  | _ => cases hx <;> exact q.elim
/-- data as the layer reads it -/
theorem mapO_dp {g : Gh} {H : Hp} {K : PySem.W.Frag} {f : D → Option PyData} (ih : ∀ d v p, f d = some p → Rep K g H v d → Dp K H v p) : ∀ {xs : List V} {ds : List D} {ps : List PyData}, mapO f ds = some ps → RepL K g H xs ds → DpAll K H xs ps
  | _, _, _, e, .nil => by simp only [mapO, Option.some.injEq] at e; subst e; exact .nil
  | _, _, ps, e, .cons r s => by
    simp only [mapO] at e
    split at e
    · rename_i h1 h2
      cases e
      exact .cons (ih _ _ _ h1 r) (mapO_dp ih h2 s)
    · cases e
theorem pyD_dp {g : Gh} {H : Hp} {m : Hs} {K : PySem.W.Frag} (rel : Rel ⟨K, cls⟩ g m H) : ∀ (n : Nat) (d : D) (v : V) (p : PyData), pyD m n d = some p → Rep K g H v d → Dp K H v p
  | n, .non, _, p, e, .non => by simp only [pyD, Option.some.injEq] at e; subst e; exact .non
  | n, .bl b, _, p, e, .bl _ => by simp only [pyD, Option.some.injEq] at e; subst e; exact .bl b
  | n, .int b, _, p, e, .int _ => by simp only [pyD, Option.some.injEq] at e; subst e; exact .int b
  | n, .str b, _, p, e, .str _ => by
    simp only [pyD] at e
    split at e
    · cases e; exact .str b
    · cases e
  | 0, .tup _, _, p, e, _ => by simp [pyD] at e
  | 0, .fl _, _, p, e, _ => by simp [pyD] at e
  | 0, .sc _, _, p, e, _ => by simp [pyD] at e
  | 0, .fd _ _, _, p, e, _ => by simp [pyD] at e
  | n + 1, .fd _ _, _, p, e, _ => by simp [pyD] at e
  | 0, .ref _, _, p, e, _ => by simp [pyD] at e
  | n + 1, .tup ds, _, p, e, .tup h r => by
    simp only [pyD, Option.map_eq_some_iff] at e
    obtain ⟨ps, e, rfl⟩ := e
    exact .tup h (mapO_dp (pyD_dp rel n) e r)
  | n + 1, .fl ds, _, p, e, .fl h r => by
    simp only [pyD, Option.map_eq_some_iff] at e
    obtain ⟨ps, e, rfl⟩ := e
    exact .lst (SqL.of (rel.frz _ _ h)) (mapO_dp (pyD_dp rel n) e r)
  | n + 1, .sc ds, _, p, e, .sc h r => by
    simp only [pyD, Option.map_eq_some_iff] at e
    obtain ⟨ps, e, rfl⟩ := e
    refine .lst ?_ (mapO_dp (pyD_dp rel n) e r)
    rcases h with ⟨o, h⟩ | h
    · exact .inl (.inr ⟨o, h⟩)
    · exact h H
  | n + 1, .ref k, _, p, e, .ref h => by
    simp only [pyD] at e
    split at e
    · rename_i xs hx
      simp only [Option.map_eq_some_iff] at e
      obtain ⟨ps, e, rfl⟩ := e
      obtain ⟨vs, a1, a2⟩ := rel.lst hx h
      exact .lst (SqL.of a1) (mapO_dp (pyD_dp rel n) e a2)
    · cases e
theorem mapO_lay {f : D → Option PyData} {n : Nat} (ih : ∀ d p, f d = some p → p.canLay0 = true ∧ p.depth ≤ n) : ∀ {ds : List D} {ps : List PyData}, mapO f ds = some ps → PyData.canLayAll0 ps = true ∧ PyData.depthAll ps ≤ n
  | [], _, e => by simp only [mapO, Option.some.injEq] at e; subst e; exact ⟨rfl, Nat.zero_le _⟩
  | d :: ds, ps, e => by
    simp only [mapO] at e
    split at e
    · rename_i h1 h2
      cases e
      have a := ih _ _ h1
      have b := mapO_lay ih h2
      exact ⟨by simp [PyData.canLayAll0, a.1, b.1], by simp only [PyData.depthAll]; omega⟩
    · cases e
theorem pyD_lay {m : Hs} : ∀ (n : Nat) (d : D) (p : PyData), pyD m n d = some p → p.canLay0 = true ∧ p.depth ≤ n
  | n, .non, p, e => by simp only [pyD, Option.some.injEq] at e; subst e; exact ⟨rfl, Nat.zero_le _⟩
  | n, .bl b, p, e => by simp only [pyD, Option.some.injEq] at e; subst e; exact ⟨rfl, Nat.zero_le _⟩
  | n, .int b, p, e => by simp only [pyD, Option.some.injEq] at e; subst e; exact ⟨rfl, Nat.zero_le _⟩
  | n, .str b, p, e => by
    simp only [pyD] at e
    split at e
    · rename_i h
      cases e; exact ⟨h, Nat.zero_le _⟩
    · cases e
  | 0, .tup _, p, e => by simp [pyD] at e
  | 0, .fl _, p, e => by simp [pyD] at e
  | 0, .sc _, p, e => by simp [pyD] at e
  | 0, .fd _ _, p, e => by simp [pyD] at e
  | n + 1, .fd _ _, p, e => by simp [pyD] at e
  | 0, .ref _, p, e => by simp [pyD] at e
  | n + 1, .tup ds, p, e => by
    simp only [pyD, Option.map_eq_some_iff] at e
    obtain ⟨ps, e, rfl⟩ := e
    have a := mapO_lay (pyD_lay n) e
    exact ⟨by simp [PyData.canLay0, a.1], by simp only [PyData.depth]; omega⟩
  | n + 1, .fl ds, p, e => by
    simp only [pyD, Option.map_eq_some_iff] at e
    obtain ⟨ps, e, rfl⟩ := e
    have a := mapO_lay (pyD_lay n) e
    exact ⟨by simp [PyData.canLay0, a.1], by simp only [PyData.depth]; omega⟩
  | n + 1, .sc ds, p, e => by
    simp only [pyD, Option.map_eq_some_iff] at e
    obtain ⟨ps, e, rfl⟩ := e
    have a := mapO_lay (pyD_lay n) e
    exact ⟨by simp [PyData.canLay0, a.1], by simp only [PyData.depth]; omega⟩
  | n + 1, .ref k, p, e => by
    simp only [pyD] at e
    split at e
    · simp only [Option.map_eq_some_iff] at e
      obtain ⟨ps, e, rfl⟩ := e
      have a := mapO_lay (pyD_lay n) e
      exact ⟨by simp [PyData.canLay0, a.1], by simp only [PyData.depth]; omega⟩
    · cases e
theorem shaped_of {m : Hs} {d : D} {p : PyData} (h : pyD m deepest d = some p) : SeqAt.shaped p = true := by
  have a := pyD_lay deepest d p h
  have b : deepest = 50 := rfl
  unfold SeqAt.shaped
  rw [a.1, Bool.true_and, decide_eq_true_eq]
  omega
theorem eqP_ok {g : Gh} {H : Hp} {m : Hs} {vx vy : V} {x y : D} {b : Bool} (rel : Rel ⟨X.K, cls⟩ g m H) (hx : Rep X.K g H vx x) (hy : Rep X.K g H vy y) (h : eqP x y m = some b) : ∃ d e, Dp X.K H vx d ∧ Dp X.K H vy e ∧ SeqAt.shaped d = true ∧ SeqAt.shaped e = true ∧ PyData.eqv d e = b := by
  unfold eqP at h
  split at h
  · rename_i h1 h2
    cases h
    exact ⟨_, _, pyD_dp rel _ _ _ _ h1 hx, pyD_dp rel _ _ _ _ h2 hy, shaped_of h1, shaped_of h2, rfl⟩
  · cases h
theorem eqS_ok {g : Gh} {H : Hp} {m : Hs} {vx vy : V} {x y : D} {b : Bool} (rel : Rel ⟨X.K, cls⟩ g m H) (hx : Rep X.K g H vx x) (hy : Rep X.K g H vy y) (h : eqS x y m = some b) :
    (scal vx vy = true ∧ decide (vx = vy) = b) ∨ ∃ d e, Dp X.K H vx d ∧ Dp X.K H vy e ∧ SeqAt.shaped d = true ∧ SeqAt.shaped e = true ∧ PyData.eqv d e = b := by
  unfold eqS at h
  split at h
  · rw [rep_str hx, rep_str hy]
    refine .inl ⟨rfl, ?_⟩
    rw [← Option.some.inj h]
    simp
  · exact .inr (eqP_ok rel hx hy h)
def rEqA (K : PySem.W.Frag) : R2 := fun x y H Q => rEq x y H Q ∨ rEqD K x y H Q
def rNeA (K : PySem.W.Frag) : R2 := fun x y H Q => rNe x y H Q ∨ rNeD K x y H Q
theorem op_eqA (hu : X.A.units + 64 < cLine) : OpR X (compareOp .Eq) (rEqA X.K) := opOr op_eq (op_eqD hu)
theorem op_neA (hu : X.A.units + 64 < cLine) : OpR X (compareOp .NotEq) (rNeA X.K) := opOr op_ne (op_neD hu)
theorem sv_eq : Serves X cls (rEqA X.K) (cmpS .eq) := by
  intro W σ g H m vx vy x y Q rel hx hy q
  simp only [cmpS] at q
  obtain ⟨b, hb, q⟩ := Post.ask q
  rcases eqS_ok rel hx hy hb with ⟨h1, h2⟩ | ⟨d, e, h1, h2, h3, h4, h5⟩
  · exact .inl ⟨h1, by rw [h2]; exact q.ret rel (.bl _)⟩
  · exact .inr ⟨d, e, h1, h2, h3, h4, by rw [h5]; exact q.ret rel (.bl _)⟩
theorem sv_ne : Serves X cls (rNeA X.K) (cmpS .ne) := by
  intro W σ g H m vx vy x y Q rel hx hy q
  simp only [cmpS] at q
  obtain ⟨b, hb, q⟩ := Post.ask q
  rcases eqS_ok rel hx hy hb with ⟨h1, h2⟩ | ⟨d, e, h1, h2, h3, h4, h5⟩
  · exact .inl ⟨h1, by rw [h2]; exact q.ret rel (.bl _)⟩
  · exact .inr ⟨d, e, h1, h2, h3, h4, by rw [h5]; exact q.ret rel (.bl _)⟩
end
end G

set_option Elab.async false
set_option linter.all false
set_option maxRecDepth 100000
set_option maxHeartbeats 1000000
namespace G
open PySem L2
section
variable {X : Cx} {C : Cc} {ρ : List Sl} {cls : Cl}
/-! ### truth -/
theorem truth_ok {g : Gh} {H : Hp} {m : Hs} {v : V} {x : D} {b : Bool} (rel : Rel ⟨X.K, cls⟩ g m H) (h : Rep X.K g H v x) (e : truth x m = some b) : TruV X.K v H b := by
  cases h with
  | non => simp only [truth, Option.some.injEq] at e; exact e.symm
  | bl _ => simp only [truth, Option.some.injEq] at e; exact e.symm
  | int _ => simp only [truth, Option.some.injEq] at e; exact e.symm
  | str y =>
    simp only [truth] at e
    split at e
    · rename_i hz
      refine ⟨hz, ?_⟩
      rw [← Option.some.inj e, Bool.eq_iff_iff]
      simp
    · cases e
  | @tup a xs ds h r =>
    simp only [truth, Option.some.injEq] at e
    refine .inr (.inl ⟨xs, h, ?_⟩)
    rw [← e]
    cases r <;> rfl
  | @fl a xs ds h r =>
    simp only [truth, Option.some.injEq] at e
    refine .inl ⟨xs, SqL.of (rel.frz _ _ h), ?_⟩
    rw [← e]
    cases r <;> rfl
  | fd _ _ => simp [truth] at e
  | kt _ _ => simp [truth] at e
  | @sc a xs ds h r =>
    simp only [truth, Option.some.injEq] at e
    refine .inl ⟨xs, ?_, ?_⟩
    · rcases h with ⟨o, h⟩ | h
      · exact .inl (.inr ⟨o, h⟩)
      · exact h H
    · rw [← e]
      cases r <;> rfl
  | ref h =>
    simp only [truth] at e
    split at e
    · rename_i ds hd
      obtain ⟨xs, a1, a2⟩ := rel.lst hd h
      refine .inl ⟨xs, SqL.of a1, ?_⟩
      rw [← Option.some.inj e]
      cases a2 <;> rfl
    · cases e
/-! ### one operand -/
theorem c_neg {e : Expr} {a : M D} {pos : Pos} (ha : PEc X C ρ e a) : PEc X C ρ (.UnaryOp .USub e pos) (negM a) :=
  pe_imp (pe_un un_neg ha) fun σ H Q q => by
    refine tG.bind q fun g H' m v x at1 hv q => ?_
    cases hv with
    | int i => exact ⟨i, rfl, q.ret at1.rel (.int _)⟩
    | _ => exact q.elim
/-! ### tests -/
theorem bnd_bnd {α β γ : Type} {t : M α} {f : α → M β} {g : β → M γ} : bnd (bnd t f) g = bnd t fun x => bnd (f x) g := by
  funext m
  simp only [bnd]
  cases t m <;> rfl
theorem bnd_ret {α β : Type} {a : α} {f : α → M β} : bnd (ret a) f = f a := rfl
theorem bnd_ite {α β : Type} {c : Prop} [Decidable c] {t u : M α} {f : α → M β} : bnd (if c then t else u) f = if c then bnd t f else bnd u f := by split <;> rfl
theorem p_truth {e : Expr} {a : M D} (ha : PEc X C ρ e a) (he : ∀ whole, isTrue e X.env whole = (do let v ← whole; standAt e.pos; holding [v] (truthy v)) := by intro _; rfl) : PTc X C ρ e a :=
  pt_imp (pt_truth ha he) fun σ H Q q => by
    refine tG.bind q fun g H' m v x at1 hv q => ?_
    have q : Post ⟨X.K, C.cls⟩ C.W rB σ g H' Q (bnd (ask (truth x)) (fun b => ret b) m) := by
      have e : tru x = bnd (ask (truth x)) (fun b => ret b) := by
        funext m
        simp only [tru, bnd, ask]
        cases truth x m <;> rfl
      rw [← e]
      exact q
    obtain ⟨b, hb, q⟩ := Post.ask q
    exact ⟨b, truth_ok at1.rel hv hb, q.ret at1.rel rfl⟩
theorem cmpS_bl {o : Cp} {x y z : D} {m m' : Hs} (h : cmpS o x y m = .ok z m') : ∃ b, z = .bl b ∧ m' = m := by
  have key : ∀ {f : Hs → Option Bool} {g : Bool → Bool}, bnd (ask f) (fun b => ret (D.bl (g b))) m = .ok z m' → ∃ b, z = .bl b ∧ m' = m := fun {f g} h => by
    unfold bnd ask at h
    cases hz : f m with
    | none => rw [hz] at h; cases h
    | some y => rw [hz] at h; cases h; exact ⟨_, rfl, rfl⟩
  unfold cmpS at h
  split at h <;> first
    | (cases h; exact ⟨_, rfl, rfl⟩)
    | exact key (g := id) h
    | exact key (g := fun b => !b) h
    | cases h
theorem cmpS_ex {o : Cp} {x y : D} {c : Nat} {fs : List (Str × D)} {m m' : Hs} (h : cmpS o x y m = .ex c fs m') : False := by
  have key : ∀ {f : Hs → Option Bool} {g : Bool → Bool}, bnd (ask f) (fun b => ret (D.bl (g b))) m = .ex c fs m' → False := fun {f g} h => by
    unfold bnd ask at h
    cases hz : f m with
    | none => rw [hz] at h; cases h
    | some y => rw [hz] at h; cases h
  unfold cmpS at h
  split at h <;> first
    | (cases h; done)
    | exact key (g := id) h
    | exact key (g := fun b => !b) h
/-- what comes behind a comparison -/
theorem cmp_then {W : WX} {σ : L2.St} {β B : Type} {repB : Gh → Hp → B → β → Prop} {g : Gh} {H : Hp} {m : Hs} {o : Cp} {x y : D} {R : VK} {Q : B → Hp → Prop} {f : D → M β} (q : Post ⟨X.K, cls⟩ W repB σ g H Q (bnd (cmpS o x y) f m))
    (k : ∀ g' H' b, Le g g' → TK H H' → Rel ⟨X.K, cls⟩ g' m H' → Post ⟨X.K, cls⟩ W repB σ g' H' Q (f (.bl b) m) → R (.bl b) H') : Post ⟨X.K, cls⟩ W (rD ⟨X.K, cls⟩) σ g H R (cmpS o x y m) := by
  unfold bnd at q
  cases hz : cmpS o x y m with
  | ok z m3 =>
    rw [hz] at q
    obtain ⟨b, rfl, rfl⟩ := cmpS_bl hz
    intro g3 H3 v3 p3 t3 rel3 hv3
    rw [rep_bl hv3]
    exact k g3 H3 b p3 t3 rel3 (Post.mono p3 t3 q)
  | ex c fs m3 => exact (cmpS_ex hz).elim
  | bad => rw [hz] at q; exact q
theorem p_cmp {e1 e2 : Expr} {a b : M D} {o : Cp} {op : CmpOp} {r : R2} {pos : Pos} (ho : OpR X (compareOp op) r) (sv : Serves X C.cls r (cmpS o)) (hm : behindInMarks op e2 = false) (ha : PEc X C ρ e1 a) (hb : PEc X C ρ e2 b) : PTc X C ρ (.Compare e1 [op] [e2] pos) (cmpM o a b) :=
  pt_imp (pt_cmpR ho ha hb hm) fun σ H Q q => by
    unfold tT cmpM at q
    rw [bnd_bnd] at q
    refine tG.bind q fun g1 H1 m1 v1 x1 at1 hv1 q1 => ?_
    rw [bnd_bnd] at q1
    refine ⟨g1, m1, at1, Post.bind q1 fun g2 H2 m2 v2 x2 p t rel2 hv2 q2 => ?_⟩
    refine sv C.W σ g2 H2 m2 v1 v2 x1 x2 _ rel2 (hv1.mono p.v t) hv2 ?_
    exact cmp_then q2 fun g3 H3 b p3 t3 rel3 q3 => ⟨b, rfl, q3.ret rel3 rfl⟩
theorem p_one {e : Expr} {a : M D} {pos : Pos} (ha : PTc X C ρ e a) : PWc X C ρ (.BoolOp .And [e] pos) a := pw_and1 ha
theorem p_one' {e : Expr} {a : M D} {pos : Pos} (ha : PTc X C ρ e a) : PWc X C ρ (.BoolOp .Or [e] pos) a := pw_or1 ha
theorem tru_of {x : D} {m : Hs} {b : Bool} (h : truth x m = some b) : tru x m = .ok b m := by unfold tru ask; rw [h]
/-- a test whose value goes on -/
theorem tst_then {W : WX} {σ : L2.St} {β B : Type} {repB : Gh → Hp → B → β → Prop} {ρ : List Sl} {C : Cc} {Γ : Cst} {H : Hp} {a : M D} {Q : B → Hp → Prop} {f : D → Bool → M β} {R : Bool → Hp → Prop} (q : tG Γ C ρ repB (bnd a fun x => bnd (tru x) fun k => f x k) σ H Q)
    (k : ∀ g' H' m x b, At Γ C ρ σ H' g' m → truth x m = some b → Post Γ C.W repB σ g' H' Q (f x b m) → R b H') : tG Γ C ρ rB (bnd a tru) σ H R := by
  obtain ⟨g, m, at0, q⟩ := q
  refine ⟨g, m, at0, ?_⟩
  unfold bnd at q ⊢
  cases hz : a m with
  | ok x m1 =>
    rw [hz, bind_ok] at q
    rw [bind_ok]
    change Post Γ C.W repB σ g H Q ((tru x m1).bind fun k m2 => f x k m2) at q
    cases hb : truth x m1 with
    | none =>
      have e : tru x m1 = .bad := by unfold tru ask; rw [hb]
      rw [e] at q
      exact q.elim
    | some b =>
      rw [tru_of hb, bind_ok] at q
      rw [tru_of hb]
      intro g' H' v p t rel' e
      subst e
      exact k g' H' m1 x v (at0.mono p t rel') hb (Post.mono p t q)
  | ex c fs m1 => rw [hz] at q; exact q
  | bad => rw [hz] at q; exact q
theorem p_and {e1 e2 : Expr} {rest : List Expr} {a b : M D} {pos : Pos} (ha : PTc X C ρ e1 a) (hb : PWc X C ρ (.BoolOp .And (e2 :: rest) pos) b) : PWc X C ρ (.BoolOp .And (e1 :: e2 :: rest) pos) (andM a b) :=
  pw_imp (pw_and ha hb) fun σ H Q q => by
    unfold tT andM at q
    rw [bnd_bnd] at q
    have e : (fun x => bnd (bnd (tru x) fun k => if k = true then b else ret x) tru) = fun x => bnd (tru x) fun k => if k = true then bnd b tru else tru x := by
      funext x
      rw [bnd_bnd]
      congr 1
      funext k
      rw [bnd_ite]
      rfl
    rw [e] at q
    refine tst_then (W := C.W) q fun g' H' m x k at1 hk q => ?_
    cases k with
    | true => exact iteT ⟨g', m, at1, q⟩
    | false =>
      rw [if_neg (by simp), tru_of hk] at q
      exact iteF (q.ret at1.rel rfl)
theorem p_or {e1 e2 : Expr} {rest : List Expr} {a b : M D} {pos : Pos} (ha : PTc X C ρ e1 a) (hb : PWc X C ρ (.BoolOp .Or (e2 :: rest) pos) b) : PWc X C ρ (.BoolOp .Or (e1 :: e2 :: rest) pos) (orM a b) :=
  pw_imp (pw_or ha hb) fun σ H Q q => by
    unfold tT orM at q
    rw [bnd_bnd] at q
    have e : (fun x => bnd (bnd (tru x) fun k => if k = true then ret x else b) tru) = fun x => bnd (tru x) fun k => if k = true then tru x else bnd b tru := by
      funext x
      rw [bnd_bnd]
      congr 1
      funext k
      rw [bnd_ite]
      rfl
    rw [e] at q
    refine tst_then (W := C.W) q fun g' H' m x k at1 hk q => ?_
    cases k with
    | false => exact iteF ⟨g', m, at1, q⟩
    | true =>
      rw [if_pos rfl, tru_of hk] at q
      exact iteT (q.ret at1.rel rfl)
theorem c_ite {ec e1 e2 : Expr} {c a b : M D} {pos : Pos} (hc : PTc X C ρ ec c) (ha : PEc X C ρ e1 a) (hb : PEc X C ρ e2 b) : PEc X C ρ (.IfExp ec e1 e2 pos) (iteM c a b) :=
  pe_imp (pe_ifExp hc ha hb) fun σ H Q q => by
    refine tst_then (W := C.W) q fun g' H' m x k at1 hk q => ?_
    cases k with
    | true => exact iteT ⟨g', m, at1, q⟩
    | false => exact iteF ⟨g', m, at1, q⟩
/-! ### argument lists, displays -/
theorem a_nil : PAc X C ρ [] (lsM []) := pa_imp pa_nil fun σ H Q q => by
  obtain ⟨g, m, at0, q⟩ := q
  exact q.ret at0.rel .nil
theorem a_cons {e : Expr} {es : List Expr} {c : M D} {cs : List (M D)} (ha : PEc X C ρ e c) (hr : PAc X C ρ es (lsM cs)) (hs : starEach (e :: es) X.env = (false, eval e X.env) :: starEach es X.env := by rfl) : PAc X C ρ (e :: es) (lsM (c :: cs)) :=
  pa_imp (pa_cons ha hr hs) fun σ H Q q => by
    refine tG.bind q fun g1 H1 m1 v1 x1 at1 hv1 q1 => ?_
    refine ⟨g1, m1, at1, Post.bind q1 fun g2 H2 m2 v2 x2 p t rel2 hv2 q2 => ?_⟩
    exact q2.ret rel2 (.cons (hv1.mono p.v t) hv2)
theorem c_tup {es : List Expr} {cs : M (List D)} {x1 : Nat} {pos : Pos} (h : PAc X C ρ es cs) : PEc X C ρ (.Tuple es x1 pos) (tupM cs) :=
  pe_imp (pe_tup h) fun σ H Q q => by
    refine tG.bind q fun g1 H1 m1 v1 x1 at1 hv1 q1 => ?_
    obtain ⟨hz, q1⟩ := Post.ite q1
    exact ⟨by rw [hv1.length]; exact hz, fun p hp => q1.newT at1.rel hv1 hp⟩
theorem c_lst {es : List Expr} {cs : M (List D)} {pos : Pos} (h : PAc X C ρ es cs) : PEc X C ρ (.List es pos) (lstM cs) :=
  pe_imp (pe_lst h) fun σ H Q q => by
    refine tG.bind q fun g1 H1 m1 v1 x1 at1 hv1 q1 => ?_
    obtain ⟨hz, q1⟩ := Post.ite q1
    exact ⟨by rw [hv1.length]; exact hz, fun p hp => q1.newL at1.rel hv1 hp⟩
theorem c_lsh {es : List Expr} {cs : M (List D)} {pos : Pos} (h : PAc X C ρ es cs) : PEc X C ρ (.List es pos) (lshM cs) :=
  pe_imp (pe_lst h) fun σ H Q q => by
    refine tG.bind q fun g1 H1 m1 v1 x1 at1 hv1 q1 => ?_
    obtain ⟨hz, q1⟩ := Post.ite q1
    exact ⟨by rw [hv1.length]; exact hz, fun p hp => Post.newH q1 at1.rel hv1 hp⟩
/-! ### subscripts -/
theorem atI_ok {g : Gh} {H : Hp} {K : PySem.W.Frag} {xs : List V} {ds : List D} {i : Int} {d : D} (r : RepL K g H xs ds) (h : atD ds i = some d) : ∃ v, atI xs i = some v ∧ Rep K g H v d := by
  unfold atI
  unfold atD at h
  have e : ixN xs.length i = ixD ds.length i := by rw [r.length]; rfl
  rw [e]
  cases hj : ixD ds.length i with
  | none => rw [hj] at h; cases h
  | some j =>
    rw [hj] at h
    exact r.get h
theorem sv_idx : Serves X cls (rIx X.K) idxS := by
  intro W σ g H m vx vy x y Q rel hx hy q
  cases hy with
  | int i =>
    obtain ⟨ds, hd, q⟩ := Post.ask q
    obtain ⟨d, hat, q⟩ := Post.opt q
    obtain ⟨a, xs, rfl, hs, r⟩ := rep_seq rel hx hd
    obtain ⟨v, h1, h2⟩ := atI_ok r hat
    rcases hs with hs | hs
    · exact .inl ⟨a, xs, i, v, rfl, rfl, hs, h1, q.ret rel h2⟩
    · exact .inr (.inl ⟨a, xs, i, v, rfl, rfl, hs, h1, q.ret rel h2⟩)
  | _ => exact q.elim
theorem c_idx {e1 e2 : Expr} {a b : M D} {pos : Pos} (ha : PEc X C ρ e1 a) (hb : PEc X C ρ e2 b) (hs : PlainIx e2 := by exact fun _ _ => rfl) : PEc X C ρ (.Subscript e1 e2 pos) (idxM a b) :=
  pe_imp (pe_ix ix_seq ha hb hs) fun σ H Q q => two sv_idx q
theorem At.own {Γ : Cst} {C : Cc} {σ : L2.St} {H : Hp} {g : Gh} {m : Hs} {i : Nat} {xs : List D} (a : At Γ C ρ σ H g m) (h : ρ[i]? = some (.own xs)) : ∃ p vs, σ[i]? = some (some (.ref p)) ∧ (p, HO.lst vs) ∈ g.pv ∧ H p = some (.lst vs) ∧ RepL Γ.K g H vs xs ∧ ∀ u, (p, u) ∉ C.gB.pv := by
  obtain ⟨p, vs, h1, h2, h3, h4⟩ := a.rs.own i xs h
  exact ⟨p, vs, h1, h2, a.rel.prv _ _ h2, h3, h4⟩
/-- x[e] of a list of one's own -/
theorem c_idxO {e1 e2 : Expr} {i : Nat} {xs : List D} {b : M D} {pos : Pos} (h : PE X e1 (tVar i)) (hi : ρ[i]? = some (.own xs)) (hb : PEc X C ρ e2 b) (hs : PlainIx e2 := by exact fun _ _ => rfl) : PEc X C ρ (.Subscript e1 e2 pos) (idxL xs b) :=
  pe_imp (pe_ix ix_seq h hb hs) fun σ H Q q => by
    obtain ⟨g, m, at0, q⟩ := q
    obtain ⟨p, vs, h1, h2, h3, h4, h5⟩ := at0.own hi
    refine ⟨_, h1, g, m, at0, Post.bind q fun g2 H2 m2 v2 x2 p2 t2 rel2 hv2 q2 => ?_⟩
    have at2 := at0.mono p2 t2 rel2
    cases hv2 with
    | int k =>
      obtain ⟨d, hat, q2⟩ := Post.opt q2
      obtain ⟨v, h6, h7⟩ := atI_ok (h4.mono p2.v t2) hat
      exact .inl ⟨p, vs, k, v, rfl, rfl, SqL.of (rel2.prv _ _ (p2.pv _ h2)), h6, q2.ret rel2 h7⟩
    | _ => exact q2.elim
abbrev POc (X : Cx) (C : Cc) (ρ : List Sl) (e : Option Expr) (t : M (Option Int)) : Prop := PO X e (fun σ H Q => tG ⟨X.K, C.cls⟩ C ρ (fun _ _ (v : Option Int) (o : Option Int) => v = o) t σ H Q)
theorem po_imp {X : Cx} {e : Option Expr} {t t' : TO} (h : PO X e t) (k : ∀ σ H Q, t' σ H Q → t σ H Q) : PO X e t' := ⟨fun pins s σ H Q I q => h.run pins s σ H Q I (k σ H Q q)⟩
theorem o_none : POc X C ρ none noP := po_imp po_none fun σ H Q q => by
  obtain ⟨g, m, at0, q⟩ := q
  exact q.ret at0.rel rfl
theorem o_some {e : Expr} {c : M D} (h : PEc X C ρ e c) : POc X C ρ (some e) (soP c) := po_imp (po_some h) fun σ H Q q => by
  refine tG.bind q fun g1 H1 m1 v1 x1 at1 hv1 q1 => ?_
  cases hv1 with
  | int i => exact ⟨i, rfl, q1.ret at1.rel rfl⟩
  | _ => exact q1.elim
theorem sIx_eq (n d : Nat) (o : Option Int) : sIxD n d o = HT.sIx n d o := by
  cases o <;> rfl
theorem cut_ok {g : Gh} {H : Hp} {K : PySem.W.Frag} {xs : List V} {ds : List D} (r : RepL K g H xs ds) (lo hi : Option Int) : RepL K g H (cutV xs lo hi) (cutD ds lo hi) := by
  unfold cutV cutD
  rw [sIx_eq, sIx_eq, ← r.length]
  exact (r.drop _).take _
theorem cut_all {ds : List D} {lo hi : Option Int} (h : sIxD ds.length 0 lo = 0 ∧ sIxD ds.length ds.length hi = ds.length) : cutD ds lo hi = ds := by
  unfold cutD
  rw [h.1, h.2]
  simp
def rSlc (K : PySem.W.Frag) : V → Option Int → Option Int → Hp → VK → Prop := fun x lo hi H Q => rSlA K x lo hi H Q ∨ rSlL K x lo hi H Q
theorem sl_any : SlR X (rSlc X.K) := sl_tupA.or sl_list
theorem slc_ok {W : WX} {g : Gh} {H : Hp} {m : Hs} {v : V} {x : D} {lo hi : Option Int} {Q : VK} {σ : L2.St} (rel : Rel ⟨X.K, cls⟩ g m H) (hx : Rep X.K g H v x) (q : Post ⟨X.K, cls⟩ W (rD ⟨X.K, cls⟩) σ g H Q (slcS x lo hi m)) : rSlc X.K v lo hi H Q := by
  have hx' := hx
  cases hx with
  | @tup a xs ds h r =>
    refine .inl ⟨a, xs, rfl, h, fun e => ?_, fun e p hp => ?_⟩
    · have e' : cutD ds lo hi = ds := cut_all (by rw [sIx_eq, sIx_eq, ← r.length]; exact e)
      simp only [slcS, e'] at q
      exact q.ret rel (.tup h r)
    · exact q.newT rel (cut_ok r lo hi) hp
  | _ =>
    obtain ⟨ds, hd, q⟩ := Post.ask q
    obtain ⟨a, xs, e, h1, h2⟩ := rep_lst rel hx' hd
    exact .inr ⟨a, xs, e, SqL.of h1, fun p hp => q.newL rel (cut_ok h2 lo hi) hp⟩
theorem c_slc {e : Expr} {lo hi : Option Expr} {a : M D} {l u : M (Option Int)} {p2 pos : Pos} (ha : PEc X C ρ e a) (hl : POc X C ρ lo l) (hu : POc X C ρ hi u) : PEc X C ρ (.Subscript e (.Slice lo hi none p2) pos) (slcM a l u) :=
  pe_imp (pe_slice sl_any ha hl hu) fun σ H Q q => by
    refine tG.bind q fun g1 H1 m1 v1 x1 at1 hv1 q1 => ?_
    refine ⟨g1, m1, at1, Post.bind q1 fun g2 H2 m2 v2 x2 p t rel2 hv2 q2 => ?_⟩
    refine ⟨g2, m2, at1.mono p t rel2, Post.bind q2 fun g3 H3 m3 v3 x3 p3 t3 rel3 hv3 q3 => ?_⟩
    subst hv2
    subst hv3
    exact slc_ok rel3 ((hv1.mono p.v t).mono p3.v t3) q3
end
end G

set_option Elab.async false
set_option linter.all false
set_option maxRecDepth 100000
set_option maxHeartbeats 1000000
namespace G
open PySem L2 PySem.Spec PyProof.Rows
/-! ### defs where no repr is under way -/
def Clr (gu : Bool) (A : Around) : Prop := gu = true → A.guards = some []
structure FnG (gu : Bool) (P : Program) (w : World) (K : PySem.W.Frag) (mg : Str → Option Value) (base : Heap) (CX : CXT) (k : Nat) (f : Addr) (fd : FuncData) (ps : List Str) (sp : Sp) : Prop where
  len : ∀ xs H0 R E0, sp xs H0 R E0 → xs.length = ps.length
  run : ∀ (B : Around) (out : List Env) (t : Shared) (H0 : Hp) (ar : Args) (ws : List Value) (xs : List V) (R : VK) (E0 : XK), Room k B → Clr gu B → Env0 P w K mg base B out t H0 → BindsTo t fd ar (ps.zip ws) → Vals xs ws → sp xs H0 R E0 →
    codeAny (model P w) B (.call (.ref f) ar) (CR CX out P w H0 t R E0) t
theorem FnG.mono {P : Program} {w : World} {K : PySem.W.Frag} {mg : Str → Option Value} {base : Heap} {CX : CXT} {i j : Nat} {f : Addr} {fd : FuncData} {ps : List Str} {sp : Sp} (F : FnG gu P w K mg base CX i f fd ps sp) (le : i ≤ j) : FnG gu P w K mg base CX j f fd ps sp :=
  ⟨F.len, fun B out t H0 ar ws xs R E0 rm => F.run B out t H0 ar ws xs R E0 (rm.mono le)⟩
theorem fnG_of {CX : CXT} {P : Program} {w : World} {K : PySem.W.Frag} {mg : Str → Option Value} {base : Heap} {k : Nat} {f : Addr} {nm ql : Str} {pr : Arguments} {bd : List Stmt} {sc : Scope} {v1 v2 v3 v4 v5 v6 v7 : Value} {an od : Option Addr}
    {sl : Array (Option Value)} {N ps : List Str} {sp : Sp} (look : K.lookup f = some ⟨v7, od, .func (PySem.W.fnOf nm ql pr bd sc v1 v2 v3 v4 an v5 v6), sl⟩) (code : PySem.W.codeIn K v5 ql = true) (S : FnScope N ps sc)
    (len : ∀ xs H0 R E0, sp xs H0 R E0 → xs.length = ps.length)
    (body : ∀ (B : Around) (out : List Env) (t : Shared) (H0 : Hp) (xs : List V) (R : VK) (E0 : XK), Room k (B.deeper (envOfC ql sc t.heap.objs.size f v5)) → Clr gu B → sp xs H0 R E0 →
      ∃ tt, PSs (cxOf CX P w K mg base N ql sc f v5 B out t H0 E0) bd tt ∧ tt { nx := fun _ H9 => R .non H9, rt := R } (start N xs) H0) :
    FnG gu P w K mg base CX (k + 1) f (PySem.W.fnOf nm ql pr bd sc v1 v2 v3 v4 an v5 v6) ps sp := by
  refine ⟨len, fun B out t H0 ar ws xs R E0 rm cl env0 bnd vals hs => ?_⟩
  have inK : K.In t.heap := env0.mod.kin.keeps fun i o e => (env0.bs i o e).1
  have nl : t.heap.NoLimit := env0.mod.nolimit.keeps fun i o e => (env0.bs i o e).1
  have kinds : ∀ y ∈ ps.zip ws, sc.names.lookup y.1 = some .local ∨ (sc.names.lookup y.1 = some .cell ∧ ((cellsFrom (t.heap.objs.size + 1) sc.names []).lookup y.1).isSome = true) := by
    rintro ⟨n, v⟩ hy
    rcases S.par n (List.of_mem_zip hy).1 with q | q
    · exact .inl q
    · exact .inr ⟨q, PySem.W.cellsFrom_some _ _ _ (.inl q)⟩
  refine codeAny_call_function rm.depth (inK _ _ look) rfl S.co S.gen rfl (PySem.W.codeRec_of inK code) (bnd _ _ _ _ ?_)
  refine wpAny_newFunctionEnv_cells S.kind kinds fun env he t1 x => ?_
  subst he
  refine ⟨nl.keeps x.toInCall.keep, codeAny_func ?_⟩
  obtain ⟨tt, h1, h2⟩ := body B out t H0 xs R E0 (rm.deeper _) cl hs
  have I : Inv (cxOf CX P w K mg base N ql sc f v5 B out t H0 E0) [] (start N xs) H0 t1 := inv_start S rm.hd env0 (len _ _ _ _ hs) vals x
  refine wpAny_mono (h1.run [] t1 (start N xs) H0 _ I h2) (fun fl t2 hz => ?_) fun e t2 hz => hz
  cases fl with
  | ret u =>
    obtain ⟨v, σ9, H9, J, rv, q⟩ := hz
    exact ⟨v, H9, J.os, J.bare, J.base, J.hok, rv, q⟩
  | next =>
    obtain ⟨σ9, H9, J, q⟩ := hz
    exact ⟨V.non, H9, J.os, J.bare, J.base, J.hok, rfl, q⟩
  | brk =>
    obtain ⟨_, _, _, q⟩ := hz
    exact q.elim
  | cont =>
    obtain ⟨_, _, _, q⟩ := hz
    exact q.elim
section
variable {X : Cx} {CX : CXT} {k : Nat} {f : Addr} {fd : FuncData} {ps : List Str} {sp : Sp} {E0 : L2.St → XK} {x : Str} {p pos : Pos} {e : Expr} {es : List Expr} {t : TA}
theorem runG {pn : List (Addr × Obj)} {σ : L2.St} {H0 : Hp} {t0 : Shared} {R : VK} {ws : List Value} {xs : List V} (F : FnG gu X.prog X.w X.K X.mg X.base CX k f fd ps sp) (rm : Room k X.A) (cl : Clr gu X.A) (bd : Binds X.K fd ps []) (ps' : PassesAt CX X σ (E0 σ))
    (I : Inv X pn σ H0 t0) (vals : Vals xs ws) (hs : sp xs H0 R (E0 σ)) : wpAny (model X.prog X.w) X.A (call (.ref f) ws) (EP X pn σ R) X.xe t0 := by
  have hw : ws.length = ps.length := by
    rw [← vals.length]
    exact F.len _ _ _ _ hs
  have b := bd t0 ws I.kIn (by rw [List.append_nil]; exact hw)
  rw [List.append_nil] at b
  have run := F.run X.A X.stack t0 H0 ⟨ws, []⟩ ws xs R (E0 σ) rm cl I.env0 b vals hs
  refine wpAny_call (codeAny_mono run fun res t1 hz => ?_)
  match res, hz with
  | .error e, hz => exact ps' pn H0 t0 e t1 I hz
  | .ok (.ret u), hz => exact I.after hz
  | .ok .next, hz => exact hz.elim
  | .ok .brk, hz => exact hz.elim
  | .ok .cont, hz => exact hz.elim
theorem pe_callG (F : FnG gu X.prog X.w X.K X.mg X.base CX k f fd ps sp) (rm : Room k X.A) (cl : Clr gu X.A) (gl : Gl X x) (mgx : X.mg x = some (.ref f)) (kp : PySem.W.keepIn X.K (.ref f) = true) (bd : Binds X.K fd ps []) (ps' : ∀ σ, PassesAt CX X σ (E0 σ))
    (ha : PA X (e :: es) t) (hdb : (x == ("__debug__" : Str)) = false := by decide) (he : starEach (e :: es) X.env = (false, eval e X.env) :: starEach es X.env := by rfl) (hpl : (backTo pos (starEach es X.env)).any (·.1) = false := by rfl) :
    PE X (.Call (.Name x p) (e :: es) [] pos) (tCallS sp E0 t) := by
  refine ⟨fun pn t0 σ H0 R I hq => wpAny_Call_Name_kw (ld_glob I gl mgx ?_ hdb)⟩
  refine PySem.W.callWith_K (h₀ := X.base) I.ok.mod.kin kp (thn (ha.run pos pn t0 σ H0 _ I hq) ?_) he hpl
  rintro ws t1 ⟨xs, H1, I1, vals, q⟩
  exact ⟨I1.kIn, runG F rm cl bd (ps' σ) I1 vals q⟩
end
/-! ### what is called -/
def spM (Γ : Cst) (f : List D → M D) : Sp := fun vs H Q E => ∃ g m ds, Rel Γ g m H ∧ RepL Γ.K g H vs ds ∧ Post Γ (fun c d _ H' => E c d H') (rD Γ) [] g H Q (f ds m)
/-- the module's name x is the def f -/
def IsFn (gu : Bool) (P : Program) (w : World) (K : PySem.W.Frag) (mg : Str → Option Value) (base : Heap) (cls : Cl) (k : Nat) (x : Str) (f : List D → M D) : Prop :=
  ∃ (a : Addr) (fd : FuncData) (ps : List Str), mg x = some (.ref a) ∧ PySem.W.keepIn K (.ref a) = true ∧ Binds K fd ps [] ∧ FnG gu P w K mg base (L2.CX P w) k a fd ps (spM ⟨K, cls⟩ f)
theorem IsFn.mono {P : Program} {w : World} {K : PySem.W.Frag} {mg : Str → Option Value} {base : Heap} {cls : Cl} {k j : Nat} {x : Str} {f : List D → M D} (h : IsFn gu P w K mg base cls k x f) (le : k ≤ j) : IsFn gu P w K mg base cls j x f := by
  obtain ⟨a, fd, ps, h1, h2, h3, F⟩ := h
  exact ⟨a, fd, ps, h1, h2, h3, F.mono le⟩
section
variable {X : Cx} {C : Cc} {ρ : List Sl} {k : Nat}
theorem Post.wish {Γ : Cst} {W : WX} {σ : L2.St} {g : Gh} {H : Hp} {Q : VK} {r : Rs D} (q : Post Γ W (rD Γ) σ g H Q r) : Post Γ (fun c d _ H' => WE W σ c d H') (rD Γ) [] g H Q r := by
  cases r with
  | ok x m => exact q
  | ex c fs m => exact q
  | bad => exact q
theorem c_call {x : Str} {f : List D → M D} {e : Expr} {es : List Expr} {cs : M (List D)} {p pos : Pos} (h : IsFn gu X.prog X.w X.K X.mg X.base C.cls k x f) (hr : Room k X.A) (cl : Clr gu X.A) (tk : Takes X C.W) (hg : Gl X x) (ha : PAc X C ρ (e :: es) cs)
    (hdb : (x == ("__debug__" : Str)) = false := by decide) (he : starEach (e :: es) X.env = (false, eval e X.env) :: starEach es X.env := by rfl) (hpl : (backTo pos (starEach es X.env)).any (·.1) = false := by rfl) : PEc X C ρ (.Call (.Name x p) (e :: es) [] pos) (calM f cs) := by
  obtain ⟨a, fd, ps, h1, h2, h3, F⟩ := h
  refine pe_imp (pe_callG F hr cl hg h1 h2 h3 (fun σ => passAt tk σ) ha hdb he hpl) fun σ H Q q => ?_
  refine tG.bind q fun g1 H1 m1 v1 x1 at1 hv1 q1 => ?_
  exact ⟨g1, m1, x1, at1.rel, hv1, q1.wish⟩
end
end G

set_option Elab.async false
set_option linter.all false
set_option maxRecDepth 100000
set_option maxHeartbeats 2000000
namespace G
open PySem L2 PySem.Spec PyProof.Rows
open AutoSeq1 (wpAny_loadPart')

section
variable {prog : Program} {w : World} {A : Around} {E : Value → Shared → Prop} {s : Shared}
end
section
variable {prog : Program} {w : World} {A : Around} {E : Value → Shared → Prop} {s : Shared}
theorem wpAny_pyNext_enum_endT {e it l : Addr} {i : Nat} {c : Int} {items : Array Value} {old : Value} {Q : Option Value → Shared → Prop} (hh : A.handled = none)
    (he : IsEnum s.heap e it c old) (hit : s.heap.IsTupleIter it l i) (hl : s.heap.IsTuple l items) (hx : items[i]? = none)
    (hQ : ∀ h', Heap.ExtBut it s.heap h' → Q none { s with heap := h' }) : wpAny (model prog w) A (pyNext (.ref e)) Q E s := by
  have hT : s.TypeIs (.ref e) "enumerate" := ⟨_, he, rfl⟩
  unfold pyNext
  refine wpAny_bind (wpAny_attempt (wpAny_callSpecial?_slot (name := Str.ofString "__next__") hT F.slot_enumerate_next
    (wpAny_call_entry F.slot_enumerate_next hT F.entry_enumerate_next ?_ (F.args_enumerate_next_1 _))))
  show wpAny _ _ (field (.ref e) 2 >>= _) _ _ _
  refine wpAny_bind (wpAny_field he rfl (x := .ref it) rfl ?_)
  refine wpAny_bind (wpAny_nextOf_tuple_end hh hit hl hx fun h' x he' hx' => ?_)
  obtain ⟨o, ho, hc⟩ := hx'
  refine wpAny_bind (wpAny_isInstance (T := "StopIteration") (b := true) ⟨o, ho, hc⟩ isSubtype_stop ?_)
  exact wpAny_pure (hQ _ he')
theorem wpAny_pyNext_enum_endL {e it l : Addr} {i : Nat} {c : Int} {items : Array Value} {old : Value} {Q : Option Value → Shared → Prop} (hh : A.handled = none)
    (he : IsEnum s.heap e it c old) (hit : s.heap.IsListIter it l i) (hl : s.heap.IsList l items) (hx : items[i]? = none)
    (hQ : ∀ h', Heap.ExtBut it s.heap h' → Q none { s with heap := h' }) : wpAny (model prog w) A (pyNext (.ref e)) Q E s := by
  have hT : s.TypeIs (.ref e) "enumerate" := ⟨_, he, rfl⟩
  unfold pyNext
  refine wpAny_bind (wpAny_attempt (wpAny_callSpecial?_slot (name := Str.ofString "__next__") hT F.slot_enumerate_next
    (wpAny_call_entry F.slot_enumerate_next hT F.entry_enumerate_next ?_ (F.args_enumerate_next_1 _))))
  show wpAny _ _ (field (.ref e) 2 >>= _) _ _ _
  refine wpAny_bind (wpAny_field he rfl (x := .ref it) rfl ?_)
  refine wpAny_bind (wpAny_nextOf_list_end hh hit hl hx fun h' x he' hx' => ?_)
  obtain ⟨o, ho, hc⟩ := hx'
  refine wpAny_bind (wpAny_isInstance (T := "StopIteration") (b := true) ⟨o, ho, hc⟩ isSubtype_stop ?_)
  exact wpAny_pure (hQ _ he')
end
/-- counted items of what sq tells -/
def ItE (sq : Hp → List V → Prop) (k : Int) : It :=
  ⟨fun i H => ∃ xs x, sq H xs ∧ xs[i]? = some x, fun i H v H' => ∃ T x, v = .ref T ∧ H T = none ∧ H' = upd H T (.tup [.int (k + i), x]) ∧ ∀ xs, sq H xs → xs[i]? = some x, fun i H => ∃ xs, sq H xs ∧ xs.length ≤ i⟩
section
variable {P : Program} {w : World} {K : PySem.W.Frag} {elts : List Expr} {kk : Nat} {tpos : Pos}
theorem turn_enumT (a e it : Addr) (k : Int) :
    Turn P w K (.Tuple elts kk tpos) (ItE (fun H xs => SqT K H a xs) k) [e, it] e (fun i h => (∃ old, IsEnum h e it (k + ((i : Nat) : Int)) old) ∧ h.IsTupleIter it a i ∧ e ≠ it ∧ a ≠ it ∧ a ≠ e) where
  mem := by simp
  obj := fun i h st b hb => by
    obtain ⟨⟨old, he⟩, ⟨o, ho, hc, hd⟩, _⟩ := st
    have e' : b = e ∨ b = it := by simpa using hb
    rcases e' with z | z
    · rw [z]; exact ⟨_, he, fun v q => nomatch q⟩
    · rw [z]; exact ⟨o, ho, fun v q => by rw [hd] at q; cases q⟩
  keep := fun i h h' st kp => let ⟨⟨old, he⟩, hi, hne⟩ := st; ⟨⟨old, kp e (by simp) _ he⟩, hi.at fun o q => kp it (by simp) o q, hne⟩
  item := by
    intro X hP hw hK hc i pins s σ H E I hf st hg
    subst hP hw hK
    obtain ⟨⟨old, he⟩, hit, hne, hai, hae⟩ := st
    obtain ⟨xs, x, hq, hx⟩ := hg
    obtain ⟨its, rv, p, hz⟩ := I.tuple hq
    obtain ⟨u, hu, ru⟩ := rv.get hx
    have hel : e < s.heap.objs.size := Heap.lt_size he
    have hil : it < s.heap.objs.size := by obtain ⟨_, q, _⟩ := hit; exact Heap.lt_size q
    have hlt : i < its.toArray.size := by
      rw [List.size_toArray]
      exact (List.getElem?_eq_some_iff.mp hu).1
    refine wpAny_pyNext_enum_itemC (Draws.tuple (prog := X.prog) (w := X.w) (A := X.A.in1) (show X.A.in1.handled = none from I.ok.hd hc) it a hai its.toArray) he ⟨hit, p⟩ hlt hne (fun z => (List.mem_cons.mp z).elim hne fun z => hae (List.mem_singleton.mp z).symm) fun x2 h' tk hP ho hs' hT hsz hk => ?_
    have hx2 : x2 = u := by
      have q : its.toArray[i]? = some u := by simpa using hu
      rw [hP] at q
      exact Option.some.inj q
    subst hx2
    refine ⟨_, rfl, wpAny_letOwnedTupleGo_enum (s := { s with heap := h', toks := tk + 1 }) ho fun h'' he' sb => ?_⟩
    have hT2 : h''.get? s.heap.objs.size = some { cls := .type "tuple", data := .seq #[.int (k + ((i : Nat) : Int)) tk, x2] } := (sb.2 _ (Nat.ne_of_gt hel)).trans hT
    have new : ObjOk X.prog X.w (upd H s.heap.objs.size (.tup [.int (k + ((i : Nat) : Int)), x])) h'' s.heap.objs.size (.tup [.int (k + ((i : Nat) : Int)), x]) :=
      ⟨by show 2 ≤ sizeLine; decide, [.int (k + ((i : Nat) : Int)) tk, x2], .cons ⟨_, rfl⟩ (.cons ru .nil), ⟨_, hT2, rfl, _, rfl⟩⟩
    have I1 : Inv X pins σ (upd H s.heap.objs.size (.tup [.int (k + ((i : Nat) : Int)), x])) { s with heap := h'', toks := tk + 1 } :=
      I.turnedNew (ch := [e, it]) (fun b ob hb q => (sb.2 b (fun z => hb (by simp [z]))).trans (hk b ob (fun z => hb (by simp [z])) (fun z => hb (by simp [z])) q)) hf (Nat.le_refl _) new
    refine ⟨.ref s.heap.objs.size, _, I1, rfl, ⟨_, x, rfl, I.hok.fresh (Nat.le_refl _), rfl, fun ys hy => by rw [I.tuple_inj hy hq]; exact hx⟩, ⟨⟨x2, ?_⟩, hs'.1.at fun o q => (sb.2 it (Ne.symm hne)).trans q, hne, hai, hae⟩, fun b hb => ?_⟩
    · have e1 : k + ((i + 1 : Nat) : Int) = k + (i : Int) + 1 := by omega
      rw [e1]; exact he'
    · have hb' : b < s.heap.objs.size := by
        have e' : b = e ∨ b = it := by simpa using hb
        rcases e' with z | z
        · rw [z]; exact hel
        · rw [z]; exact hil
      rw [upd_ne (Nat.ne_of_lt hb')]
      exact (hf b hb).1
  done := by
    intro X hP hw hK hc i pins s σ H E I hf st hg
    subst hP hw hK
    obtain ⟨⟨old, he⟩, hit, hne, hai, hae⟩ := st
    obtain ⟨xs, hq, hx⟩ := hg
    obtain ⟨its, rv, p, hz⟩ := I.tuple hq
    obtain ⟨f0, f1, f2, f3, f4, f5⟩ := hf it (by simp)
    have hl := rv.length
    exact wpAny_pyNext_enum_endT (i := i) (I.ok.hd hc) he hit p (by simp; omega) fun h' eb => ⟨rfl, I.turned (t' := s.toks) (fun b o hb q => eb b o hb q) f0 f1 f3 f4 f5⟩
  self := fun A i s Q E st h => let ⟨⟨_, he⟩, _⟩ := st; wpAny_pyIter_enum he h
theorem turn_enumL (a e it : Addr) (k : Int) :
    Turn P w K (.Tuple elts kk tpos) (ItE (fun H xs => SqL K H a xs) k) [e, it] e (fun i h => (∃ old, IsEnum h e it (k + ((i : Nat) : Int)) old) ∧ h.IsListIter it a i ∧ e ≠ it ∧ a ≠ it ∧ a ≠ e) where
  mem := by simp
  obj := fun i h st b hb => by
    obtain ⟨⟨old, he⟩, ⟨o, ho, hc, hd⟩, _⟩ := st
    have e' : b = e ∨ b = it := by simpa using hb
    rcases e' with z | z
    · rw [z]; exact ⟨_, he, fun v q => nomatch q⟩
    · rw [z]; exact ⟨o, ho, fun v q => by rw [hd] at q; cases q⟩
  keep := fun i h h' st kp => let ⟨⟨old, he⟩, hi, hne⟩ := st; ⟨⟨old, kp e (by simp) _ he⟩, hi.at fun o q => kp it (by simp) o q, hne⟩
  item := by
    intro X hP hw hK hc i pins s σ H E I hf st hg
    subst hP hw hK
    obtain ⟨⟨old, he⟩, hit, hne, hai, hae⟩ := st
    obtain ⟨xs, x, hq, hx⟩ := hg
    obtain ⟨its, rv, p, hz⟩ := I.list hq
    obtain ⟨u, hu, ru⟩ := rv.get hx
    have hel : e < s.heap.objs.size := Heap.lt_size he
    have hil : it < s.heap.objs.size := by obtain ⟨_, q, _⟩ := hit; exact Heap.lt_size q
    have hlt : i < its.toArray.size := by
      rw [List.size_toArray]
      exact (List.getElem?_eq_some_iff.mp hu).1
    refine wpAny_pyNext_enum_itemC (Draws.list (prog := X.prog) (w := X.w) (A := X.A.in1) (show X.A.in1.handled = none from I.ok.hd hc) it a hai its.toArray) he ⟨hit, p.isList⟩ hlt hne (fun z => (List.mem_cons.mp z).elim hne fun z => hae (List.mem_singleton.mp z).symm) fun x2 h' tk hP ho hs' hT hsz hk => ?_
    have hx2 : x2 = u := by
      have q : its.toArray[i]? = some u := by simpa using hu
      rw [hP] at q
      exact Option.some.inj q
    subst hx2
    refine ⟨_, rfl, wpAny_letOwnedTupleGo_enum (s := { s with heap := h', toks := tk + 1 }) ho fun h'' he' sb => ?_⟩
    have hT2 : h''.get? s.heap.objs.size = some { cls := .type "tuple", data := .seq #[.int (k + ((i : Nat) : Int)) tk, x2] } := (sb.2 _ (Nat.ne_of_gt hel)).trans hT
    have new : ObjOk X.prog X.w (upd H s.heap.objs.size (.tup [.int (k + ((i : Nat) : Int)), x])) h'' s.heap.objs.size (.tup [.int (k + ((i : Nat) : Int)), x]) :=
      ⟨by show 2 ≤ sizeLine; decide, [.int (k + ((i : Nat) : Int)) tk, x2], .cons ⟨_, rfl⟩ (.cons ru .nil), ⟨_, hT2, rfl, _, rfl⟩⟩
    have I1 : Inv X pins σ (upd H s.heap.objs.size (.tup [.int (k + ((i : Nat) : Int)), x])) { s with heap := h'', toks := tk + 1 } :=
      I.turnedNew (ch := [e, it]) (fun b ob hb q => (sb.2 b (fun z => hb (by simp [z]))).trans (hk b ob (fun z => hb (by simp [z])) (fun z => hb (by simp [z])) q)) hf (Nat.le_refl _) new
    refine ⟨.ref s.heap.objs.size, _, I1, rfl, ⟨_, x, rfl, I.hok.fresh (Nat.le_refl _), rfl, fun ys hy => by rw [I.list_inj hy hq]; exact hx⟩, ⟨⟨x2, ?_⟩, hs'.1.at fun o q => (sb.2 it (Ne.symm hne)).trans q, hne, hai, hae⟩, fun b hb => ?_⟩
    · have e1 : k + ((i + 1 : Nat) : Int) = k + (i : Int) + 1 := by omega
      rw [e1]; exact he'
    · have hb' : b < s.heap.objs.size := by
        have e' : b = e ∨ b = it := by simpa using hb
        rcases e' with z | z
        · rw [z]; exact hel
        · rw [z]; exact hil
      rw [upd_ne (Nat.ne_of_lt hb')]
      exact (hf b hb).1
  done := by
    intro X hP hw hK hc i pins s σ H E I hf st hg
    subst hP hw hK
    obtain ⟨⟨old, he⟩, hit, hne, hai, hae⟩ := st
    obtain ⟨xs, hq, hx⟩ := hg
    obtain ⟨its, rv, p, hz⟩ := I.list hq
    obtain ⟨f0, f1, f2, f3, f4, f5⟩ := hf it (by simp)
    have hl := rv.length
    exact wpAny_pyNext_enum_endL (i := i) (I.ok.hd hc) he hit p.isList (by simp; omega) fun h' eb => ⟨rfl, I.turned (t' := s.toks) (fun b o hb q => eb b o hb q) f0 f1 f3 f4 f5⟩
  self := fun A i s Q E st h => let ⟨⟨_, he⟩, _⟩ := st; wpAny_pyIter_enum he h

/-! ### enumerate(x), enumerate(x, k) -/
theorem fp2 {X : Cx} {pins : List (Addr × Obj)} {σ : L2.St} {H : Hp} {s : Shared} (I : Inv X pins σ H s) : ∀ b ∈ [s.heap.objs.size + 1, s.heap.objs.size], FpOk X pins H b := fun b hb => by
  have e' : b = s.heap.objs.size + 1 ∨ b = s.heap.objs.size := by simpa using hb
  have hle : s.heap.objs.size ≤ b := by
    rcases e' with z | z
    · rw [z]; exact Nat.le_add_right _ _
    · rw [z]; exact Nat.le_refl _
  exact I.fpOk hle (I.hok.fresh hle)
def iEnB (K : PySem.W.Frag) (ta : TA) : TI := fun σ H R => ta σ H fun vs H1 => ∃ a xs k, vs = [.ref a, .int k] ∧ (-(2 ^ 63) ≤ k ∧ k < 2 ^ 63) ∧ ((SqL K H1 a xs ∧ R (ItE (fun H xs => SqL K H a xs) k) H1) ∨ (SqT K H1 a xs ∧ R (ItE (fun H xs => SqT K H a xs) k) H1))
end
section
variable {X : Cx} {C : Cc} {ρ : List Sl} {cls : Cl}
theorem Lv0.trans {g g1 g2 : Gh} (a : Lv0 g g1) (b : Lv0 g1 g2) : Lv0 g g2 := ⟨a.hs.trans b.hs, fun p h => b.fz p (a.fz p h)⟩
/-- the same but for the slots is -/
def SameBut (is : List Nat) (σ σ' : L2.St) : Prop := σ'.length = σ.length ∧ ∀ i, i ∉ is → σ'[i]? = σ[i]?
theorem SameBut.refl (is : List Nat) (σ : L2.St) : SameBut is σ σ := ⟨rfl, fun _ _ => rfl⟩
theorem SameBut.trans {is js : List Nat} {σ σ1 σ2 : L2.St} (a : SameBut is σ σ1) (b : SameBut js σ1 σ2) : SameBut (is ++ js) σ σ2 :=
  ⟨b.1.trans a.1, fun i hi => (b.2 i fun z => hi (List.mem_append_right _ z)).trans (a.2 i fun z => hi (List.mem_append_left _ z))⟩
theorem SameBut.mono {is js : List Nat} {σ σ' : L2.St} (a : SameBut is σ σ') (h : ∀ i ∈ is, i ∈ js) : SameBut js σ σ' := ⟨a.1, fun i hi => a.2 i fun z => hi (h i z)⟩
theorem SameBut.set {i : Nat} {σ : L2.St} {o : Option V} : SameBut [i] σ (σ.set i o) := ⟨List.length_set, fun j hj => List.getElem?_set_ne (fun z => hj (by simp [z]))⟩
theorem wipe_len {σ : L2.St} : ∀ {is : List Nat}, (wipe σ is).length = σ.length
  | [] => rfl
  | i :: is => by
    show ((wipe σ is).set i none).length = _
    rw [List.length_set]
    exact wipe_len
theorem wipe_at {σ : L2.St} {j : Nat} : ∀ {is : List Nat}, j ∈ is → j < σ.length → (wipe σ is)[j]? = some none
  | i :: is, h, hl => by
    show ((wipe σ is).set i none)[j]? = _
    by_cases e : i = j
    · subst e
      rw [List.getElem?_set_self (by rw [wipe_len]; exact hl)]
    · rw [List.getElem?_set_ne e]
      refine wipe_at ?_ hl
      rcases List.mem_cons.mp h with z | z
      · exact absurd z.symm e
      · exact z
theorem wipe_eq {is : List Nat} {σ σ' : L2.St} (a : SameBut is σ σ') : wipe σ' is = wipe σ is := by
  apply List.ext_getElem?
  intro j
  by_cases hj : j ∈ is
  · by_cases hl : j < σ.length
    · rw [wipe_at hj hl, wipe_at hj (by rw [a.1]; exact hl)]
    · rw [List.getElem?_eq_none (by rw [wipe_len, a.1]; omega), List.getElem?_eq_none (by rw [wipe_len]; omega)]
  · rw [wipe_out hj, wipe_out hj]
    exact a.2 j hj
theorem wipe_wipe {is : List Nat} {σ : L2.St} : wipe (wipe σ is) is = wipe σ is := wipe_eq ⟨wipe_len, fun i hi => wipe_out hi⟩
/-! ### patterns: names and tuples of them -/
abbrev Pt := List Sl → D → Option (List Sl)
def pNm (i : Nat) : Pt := fun ρ d => some (ρ.set i (.val d))
def pTs : List Pt → List Sl → List D → Option (List Sl)
  | [], ρ, [] => some ρ
  | P :: Ps, ρ, d :: ds => match P ρ d with
    | some ρ' => pTs Ps ρ' ds
    | none => none
  | _, _, _ => none
def pTp (Ps : List Pt) : Pt := fun ρ d => match d with
  | .tup ds => pTs Ps ρ ds
  | .fd [.non] ds => pTs Ps ρ ds
  | _ => none
def gPat (Γ : Cst) (C : Cc) (is : List Nat) (P : Pt) : TG := fun v σ H Q => ∃ g m ρ d ρ', At Γ C ρ σ H g m ∧ Rep Γ.K g H v d ∧ P ρ d = some ρ' ∧ ∀ σ', At Γ C ρ' σ' H g m → SameBut is σ σ' → Q σ' H
def gPats (Γ : Cst) (C : Cc) (is : List Nat) (Ps : List Pt) : TGs := fun vs σ H Q => ∃ g m ρ ds ρ', At Γ C ρ σ H g m ∧ RepL Γ.K g H vs ds ∧ pTs Ps ρ ds = some ρ' ∧ ∀ σ', At Γ C ρ' σ' H g m → SameBut is σ σ' → Q σ' H
abbrev PGc (X : Cx) (C : Cc) (e : Expr) (is : List Nat) (P : Pt) : Prop := PG X e (gPat ⟨X.K, C.cls⟩ C is P)
abbrev PGsc (X : Cx) (C : Cc) (es : List Expr) (is : List Nat) (Ps : List Pt) : Prop := PGs X es (gPats ⟨X.K, C.cls⟩ C is Ps)
theorem pg_imp {X : Cx} {e : Expr} {t t' : TG} (h : PG X e t) (k : ∀ v σ H Q, t' v σ H Q → t v σ H Q) : PG X e t' := ⟨fun pins s σ H v u Q I r q => h.run pins s σ H v u Q I r (k v σ H Q q)⟩
theorem pgs_imp {X : Cx} {e : List Expr} {t t' : TGs} (h : PGs X e t) (k : ∀ v σ H Q, t' v σ H Q → t v σ H Q) : PGs X e t' := ⟨fun pins s σ H v u Q I r q => h.run pins s σ H v u Q I r (k v σ H Q q)⟩
theorem At.set {Γ : Cst} {σ : L2.St} {H : Hp} {g : Gh} {m : Hs} {v : V} {d : D} (a : At Γ C ρ σ H g m) (hv : Rep Γ.K g H v d) (i : Nat) : At Γ C (ρ.set i (.val d)) (σ.set i (some v)) H g m := ⟨a.le, a.rel, a.rs.set hv i, a.tw⟩
theorem g_nm {e : Expr} {i : Nat} (h : PG X e (gName i)) : PGc X C e [i] (pNm i) := pg_imp h fun v σ H Q q => by
  obtain ⟨g, m, ρ, d, ρ', at0, hv, hb, q⟩ := q
  simp only [pNm, Option.some.injEq] at hb
  subst hb
  exact q _ (at0.set hv i) SameBut.set
theorem gs_nil : PGsc X C [] [] [] := pgs_imp pgs_nil fun v σ H Q q => by
  obtain ⟨g, m, ρ, d, ρ', at0, hv, hb, q⟩ := q
  cases hv with
  | nil =>
    simp only [pTs, Option.some.injEq] at hb
    subst hb
    exact ⟨rfl, q _ at0 (SameBut.refl _ _)⟩
  | cons _ _ => simp [pTs] at hb
theorem gs_cons {e : Expr} {es : List Expr} {is js : List Nat} {P : Pt} {Ps : List Pt} (h1 : PGc X C e is P) (h2 : PGsc X C es js Ps)
    (hs : (assignEach (e :: es) X.env).map (·.2) = assign e X.env :: (assignEach es X.env).map (·.2) := by rfl) : PGsc X C (e :: es) (is ++ js) (P :: Ps) := pgs_imp (pgs_cons h1 h2 hs) fun v σ H Q q => by
  obtain ⟨g, m, ρ, d, ρ', at0, hv, hb, q⟩ := q
  cases hv with
  | nil => simp [pTs] at hb
  | cons a b =>
    simp only [pTs] at hb
    split at hb
    · rename_i r1 h1
      refine ⟨_, _, rfl, g, m, ρ, _, r1, at0, a, h1, fun σ1 at1 s1 => ?_⟩
      exact ⟨g, m, r1, _, ρ', at1, b, hb, fun σ2 at2 s2 => q σ2 at2 (s1.trans s2)⟩
    · cases hb
theorem pTs_length : ∀ {Ps : List Pt} {ds : List D} {ρ ρ' : List Sl}, pTs Ps ρ ds = some ρ' → ds.length = Ps.length
  | [], [], _, _, _ => rfl
  | [], _ :: _, _, _, h => by simp [pTs] at h
  | _ :: _, [], _, _, h => by simp [pTs] at h
  | P :: Ps, x :: xs, ρ, ρ', h => by
    simp only [pTs] at h
    split at h
    · simp only [List.length_cons, pTs_length h]
    · cases h
theorem g_tp {es : List Expr} {n : Nat} {is : List Nat} {Ps : List Pt} {pos : Pos} (hc : X.calm = true) (h : PGsc X C es is Ps) (hn : (assignEach es X.env).length = Ps.length := by rfl) (hst : (assignEach es X.env).findIdx? (·.1) = none := by rfl) : PGc X C (.Tuple es n pos) is (pTp Ps) :=
  pg_imp (pg_tup hc h hn hst) fun v σ H Q q => by
    obtain ⟨g, m, ρ, d, ρ', at0, hv, hb, q⟩ := q
    simp only [pTp] at hb
    split at hb
    · obtain ⟨a, xs, rfl, h1, h2⟩ := rep_tup hv
      exact ⟨a, xs, rfl, h1, by rw [h2.length]; exact pTs_length hb, g, m, ρ, _, ρ', at0, h2, hb, q⟩
    · obtain ⟨a, xs, rfl, h1, h2⟩ := rep_kt hv
      exact ⟨a, xs, rfl, SqT.of h1, by rw [h2.length]; exact pTs_length hb, g, m, ρ, _, ρ', at0, h2, hb, q⟩
    · cases hb
/-- a computation over what a pattern binds -/
def Bd1 {β : Type} (P : Pt) (ρ : List Sl) (d : D) (t : M β) (T : List Sl → M β → Prop) : Prop := t = bad ∨ ∃ ρ', P ρ d = some ρ' ∧ T ρ' t
def BdL {β : Type} : List Pt → List Sl → List D → M β → (List Sl → M β → Prop) → Prop
  | [], ρ, _, t, T => T ρ t
  | P :: Ps, ρ, d :: ds, t, T => Bd1 P ρ d t fun ρ1 t => BdL Ps ρ1 ds t T
  | _ :: _, _, [], _, _ => False
theorem bd_nm {β : Type} {i : Nat} {d : D} {t : M β} {T : List Sl → M β → Prop} (h : T (ρ.set i (.val d)) t) : Bd1 (pNm i) ρ d t T := .inr ⟨_, rfl, h⟩
theorem BdL.ok {β : Type} {T : List Sl → M β → Prop} : ∀ {Ps : List Pt} {ρ : List Sl} {ds : List D} {t : M β}, ds.length = Ps.length → BdL Ps ρ ds t T → t = bad ∨ ∃ ρ', pTs Ps ρ ds = some ρ' ∧ T ρ' t
  | [], ρ, [], t, _, h => .inr ⟨ρ, rfl, h⟩
  | [], _, _ :: _, _, hl, _ => by simp at hl
  | _ :: _, _, [], _, hl, _ => by simp at hl
  | P :: Ps, ρ, d :: ds, t, hl, h => by
    rcases h with h | ⟨ρ1, h1, h2⟩
    · exact .inl h
    · rcases BdL.ok (by simpa using hl) h2 with h3 | ⟨ρ', h3, h4⟩
      · exact .inl h3
      · exact .inr ⟨ρ', by simp only [pTs, h1, h3], h4⟩
theorem bd_2 {β : Type} {P1 P2 : Pt} {d : D} {k : D → D → M β} {T : List Sl → M β → Prop} (h : ∀ a b, BdL [P1, P2] ρ [a, b] (k a b) T) : Bd1 (pTp [P1, P2]) ρ d (un2 d k) T := by
  unfold un2
  split
  · exact (h _ _).ok rfl
  · exact (h _ _).ok rfl
  · exact .inl rfl
theorem bd_3 {β : Type} {P1 P2 P3 : Pt} {d : D} {k : D → D → D → M β} {T : List Sl → M β → Prop} (h : ∀ a b c, BdL [P1, P2, P3] ρ [a, b, c] (k a b c) T) : Bd1 (pTp [P1, P2, P3]) ρ d (un3 d k) T := by
  unfold un3
  split
  · exact (h _ _ _).ok rfl
  · exact .inl rfl
theorem bd_4 {β : Type} {P1 P2 P3 P4 : Pt} {d : D} {k : D → D → D → D → M β} {T : List Sl → M β → Prop} (h : ∀ a b c e, BdL [P1, P2, P3, P4] ρ [a, b, c, e] (k a b c e) T) : Bd1 (pTp [P1, P2, P3, P4]) ρ d (un4 d k) T := by
  unfold un4
  split
  · exact (h _ _ _ _).ok rfl
  · exact .inl rfl
/-! ### what is walked -/
def ItR (Γ : Cst) (g0 : Gh) (H0 : Hp) (J : It) (z : Its) : Prop := ∀ g m H, Lv0 g0 g → TK H0 H → Rel Γ g m H → stays z.2 m = true → ∀ i : Nat,
  (∀ d, z.1[i]? = some d → J.go i H ∧ ∀ v H', J.yld i H v H' → TK H H' ∧ Rel Γ g m H' ∧ Rep Γ.K g H' v d) ∧ (z.1[i]? = none → J.stop i H)
abbrev PIc (X : Cx) (C : Cc) (ρ : List Sl) (tg e : Expr) (t : M Its) : Prop := PI X tg e (tG ⟨X.K, C.cls⟩ C ρ (ItR ⟨X.K, C.cls⟩) t)
theorem pi_imp {X : Cx} {tg e : Expr} {t t' : TI} (h : PI X tg e t) (k : ∀ σ H Q, t' σ H Q → t σ H Q) : PI X tg e t' := ⟨fun pins s σ H Q I q => h.run pins s σ H Q I (k σ H Q q)⟩
theorem pi_seq {tg l : Expr} {tl : TE} (hl : PE X l tl) : PI X tg l (fun σ H R => tl σ H fun x H1 => ∃ a, x = .ref a ∧ (((∃ xs, SqL X.K H1 a xs) ∧ R (Itl X.K a) H1) ∨ ((∃ xs, SqT X.K H1 a xs) ∧ R (Itt X.K a) H1))) := by
  refine ⟨fun pins s σ H R I h => ?_⟩
  refine thn (hl.run pins s σ H _ I h) fun v s1 ⟨x, H1, I1, r1, q1⟩ => ?_
  obtain ⟨a, e, q1⟩ := q1
  subst e
  cases r1
  rcases q1 with ⟨⟨xs, hq⟩, q⟩ | ⟨⟨xs, hq⟩, q⟩
  · obtain ⟨its, rv, p, hz⟩ := I1.list hq
    refine wpAny_pyIter_list p.isList ?_
    refine ⟨s1.heap.objs.size, [s1.heap.objs.size], _, _, H1, rfl, I1.kept (t' := s1.toks) fun b o e => Heap.get?_push_of_some _ e, turn_list a _, ⟨_, Heap.get?_push_size _ rfl, rfl, rfl⟩, fun b hb => ?_, q⟩
    have e : b = s1.heap.objs.size := by simpa using hb
    subst e
    exact I1.fpOk (Nat.le_refl _) (I1.hok.fresh (Nat.le_refl _))
  · obtain ⟨its, rv, p, hz⟩ := I1.tuple hq
    refine wpAny_pyIter_tuple (show s1.heap.IsTuple a its.toArray from p) ?_
    refine ⟨s1.heap.objs.size, [s1.heap.objs.size], _, _, H1, rfl, I1.kept (t' := s1.toks) fun b o e => Heap.get?_push_of_some _ e, turn_tuple a _, ⟨_, Heap.get?_push_size _ rfl, rfl, rfl⟩, fun b hb => ?_, q⟩
    have e : b = s1.heap.objs.size := by simpa using hb
    subst e
    exact I1.fpOk (Nat.le_refl _) (I1.hok.fresh (Nat.le_refl _))
theorem stays_at {gd : List (Nat × List D)} {m : Hs} {n : Nat} {xs : List D} (h : stays gd m = true) (hm : (n, xs) ∈ gd) : m[n]? = some (.lst xs) := by
  unfold stays at h
  have q := List.all_eq_true.mp h _ hm
  simp only at q
  split at q
  · rename_i ys hy
    rw [hy, beqL_eq _ _ q]
  · cases q
theorem go_list {a : Addr} {vs : List V} {ds : List D} {g : Gh} {m : Hs} {H : Hp} (hs : SqL X.K H a vs) (r : RepL X.K g H vs ds) (rel : Rel ⟨X.K, cls⟩ g m H) (i : Nat) :
    (∀ d, ds[i]? = some d → (Itl X.K a).go i H ∧ ∀ v H', (Itl X.K a).yld i H v H' → TK H H' ∧ Rel ⟨X.K, cls⟩ g m H' ∧ Rep X.K g H' v d) ∧ (ds[i]? = none → (Itl X.K a).stop i H) := by
  refine ⟨fun d hd => ?_, fun hn => ⟨vs, hs, by rw [r.length]; exact List.getElem?_eq_none_iff.mp hn⟩⟩
  obtain ⟨v, h1, h2⟩ := r.get hd
  refine ⟨⟨vs, v, hs, h1⟩, fun w H' y => ?_⟩
  obtain ⟨e, y⟩ := y
  subst e
  have e2 := y vs hs
  rw [h1] at e2
  cases e2
  exact ⟨TK.refl _, rel, h2⟩
theorem go_tup {a : Addr} {vs : List V} {ds : List D} {g : Gh} {m : Hs} {H : Hp} (hs : SqT X.K H a vs) (r : RepL X.K g H vs ds) (rel : Rel ⟨X.K, cls⟩ g m H) (i : Nat) :
    (∀ d, ds[i]? = some d → (Itt X.K a).go i H ∧ ∀ v H', (Itt X.K a).yld i H v H' → TK H H' ∧ Rel ⟨X.K, cls⟩ g m H' ∧ Rep X.K g H' v d) ∧ (ds[i]? = none → (Itt X.K a).stop i H) := by
  refine ⟨fun d hd => ?_, fun hn => ⟨vs, hs, by rw [r.length]; exact List.getElem?_eq_none_iff.mp hn⟩⟩
  obtain ⟨v, h1, h2⟩ := r.get hd
  refine ⟨⟨vs, v, hs, h1⟩, fun w H' y => ?_⟩
  obtain ⟨e, y⟩ := y
  subst e
  have e2 := y vs hs
  rw [h1] at e2
  cases e2
  exact ⟨TK.refl _, rel, h2⟩
/-- a thing that can be walked by its items: a list (with its guard) or a tuple -/
theorem guard_ok {v : V} {x : D} {ds : List D} {gd : List (Nat × List D)} {g0 : Gh} {m0 : Hs} {H0 : Hp} (rel0 : Rel ⟨X.K, cls⟩ g0 m0 H0) (hv : Rep X.K g0 H0 v x) (h : guardOf x m0 = some (ds, gd)) :
    ∃ a, v = .ref a ∧ (isT x = false ∧ (∃ vs, SqL X.K H0 a vs) ∧ (∀ g m H, Lv0 g0 g → TK H0 H → Rel ⟨X.K, cls⟩ g m H → stays gd m = true → ∃ vs, SqL X.K H a vs ∧ RepL X.K g H vs ds) ∨
      isT x = true ∧ (∃ vs, SqT X.K H0 a vs) ∧ (∀ g m H, Lv0 g0 g → TK H0 H → Rel ⟨X.K, cls⟩ g m H → stays gd m = true → ∃ vs, SqT X.K H a vs ∧ RepL X.K g H vs ds)) := by
  cases hv with
  | @tup a vs _ hs r =>
    simp only [guardOf, Option.some.injEq, Prod.mk.injEq] at h
    obtain ⟨rfl, rfl⟩ := h
    exact ⟨a, rfl, .inr ⟨rfl, ⟨vs, hs⟩, fun g m H p t rel _ => ⟨vs, t.seqT hs, r.mono p t⟩⟩⟩
  | @kt a vs _ hs r => simp [guardOf] at h
  | @fl a vs _ hs r =>
    simp only [guardOf, Option.some.injEq, Prod.mk.injEq] at h
    obtain ⟨rfl, rfl⟩ := h
    exact ⟨a, rfl, .inl ⟨rfl, ⟨vs, SqL.of (rel0.frz _ _ hs)⟩, fun g m H p t rel _ => ⟨vs, SqL.of (rel.frz _ _ (p.fz _ hs)), r.mono p t⟩⟩⟩
  | @sc a vs _ hs r =>
    simp only [guardOf, Option.some.injEq, Prod.mk.injEq] at h
    obtain ⟨rfl, rfl⟩ := h
    have sq : ∀ H, TK H0 H → SqL X.K H a vs := fun H t => by
      rcases hs with ⟨o, h⟩ | h
      · exact .inl (.inr ⟨o, t.frz _ _ _ h⟩)
      · exact h H
    exact ⟨a, rfl, .inl ⟨rfl, ⟨vs, sq _ (TK.refl _)⟩, fun g m H p t rel _ => ⟨vs, sq H t, r.mono p t⟩⟩⟩
  | @ref a n hg =>
    simp only [guardOf] at h
    split at h
    · rename_i xs hx
      simp only [Option.some.injEq, Prod.mk.injEq] at h
      obtain ⟨rfl, rfl⟩ := h
      refine ⟨a, rfl, .inl ⟨rfl, ?_, fun g m H p t rel st => ?_⟩⟩
      · obtain ⟨vs, h1, _⟩ := rel0.lst hx hg
        exact ⟨vs, SqL.of h1⟩
      · obtain ⟨vs, h1, h2⟩ := rel.lst (stays_at st (List.mem_singleton.mpr rfl)) (pre_get p.hs hg)
        exact ⟨vs, SqL.of h1, h2⟩
    · cases h
  | fd _ _ => simp [guardOf] at h
  | non => simp [guardOf] at h
  | bl _ => simp [guardOf] at h
  | int _ => simp [guardOf] at h
  | str _ => simp [guardOf] at h
theorem i_seq {tg e : Expr} {c : M D} (h : PEc X C ρ e c) : PIc X C ρ tg e (seqI c) := pi_imp (pi_seq h) fun σ H R q => by
  refine tG.bind q fun g' H' m1 v x at1 hv q => ?_
  have q : Post ⟨X.K, C.cls⟩ C.W (ItR ⟨X.K, C.cls⟩) σ g' H' R (bnd (ask (guardOf x)) ret m1) := by
    have e : bnd (ask (guardOf x)) ret = ask (guardOf x) := by
      funext m
      simp only [bnd]
      cases ask (guardOf x) m <;> rfl
    rw [e]
    exact q
  obtain ⟨⟨ds, gd⟩, hi, q⟩ := Post.ask q
  obtain ⟨a, rfl, h⟩ := guard_ok at1.rel hv hi
  refine ⟨a, rfl, ?_⟩
  rcases h with ⟨_, h0, h⟩ | ⟨_, h0, h⟩
  · refine .inl ⟨h0, q.ret at1.rel fun g2 m2 H2 p2 t2 rel2 st i => ?_⟩
    obtain ⟨vs, a1, a2⟩ := h g2 m2 H2 p2 t2 rel2 st
    exact go_list a1 a2 rel2 i
  · refine .inr ⟨h0, q.ret at1.rel fun g2 m2 H2 p2 t2 rel2 st i => ?_⟩
    obtain ⟨vs, a1, a2⟩ := h g2 m2 H2 p2 t2 rel2 st
    exact go_tup a1 a2 rel2 i
theorem rng_ok {lo : Int} {n : Nat} {g0 : Gh} {H0 : Hp} : ItR ⟨X.K, cls⟩ g0 H0 (Itr lo n) (rngL lo n, []) := fun g m H p t rel st i => by
  refine ⟨fun d hd => ?_, fun hn => ?_⟩
  · unfold rngL at hd
    rw [List.getElem?_map, Option.map_eq_some_iff] at hd
    obtain ⟨j, h1, h2⟩ := hd
    have hi : i < n := by
      have := (List.getElem?_eq_some_iff.mp h1).1
      simpa using this
    rw [List.getElem?_range hi] at h1
    cases h1
    refine ⟨hi, fun v H' y => ?_⟩
    obtain ⟨e1, e2⟩ := y
    subst e1
    subst e2
    rw [← h2]
    exact ⟨TK.refl _, rel, .int _⟩
  · have := List.getElem?_eq_none_iff.mp hn
    unfold rngL at this
    rw [List.length_map, List.length_range] at this
    exact this
theorem ls1 {W : WX} {σ : L2.St} {α A : Type} {rep : Gh → Hp → A → α → Prop} {t : M D} {k : D → M α} {H : Hp} {Q : A → Hp → Prop} (q : tG ⟨X.K, C.cls⟩ C ρ rep (bnd t k) σ H Q) : tG ⟨X.K, C.cls⟩ C ρ rep (bnd (lsM [t]) fun xs => match xs with | [x] => k x | _ => bad) σ H Q := by
  have e : (bnd (lsM [t]) fun xs => match xs with | [x] => k x | _ => bad) = bnd t k := by
    show bnd (bnd t fun x => bnd (ret []) fun xs => ret (x :: xs)) _ = _
    rw [bnd_bnd]
    rfl
  rw [e]
  exact q
theorem ls2 {σ : L2.St} {α A : Type} {rep : Gh → Hp → A → α → Prop} {t u : M D} {k : D → D → M α} {H : Hp} {Q : A → Hp → Prop} (q : tG ⟨X.K, C.cls⟩ C ρ rep (bnd t fun x => bnd u fun y => k x y) σ H Q) : tG ⟨X.K, C.cls⟩ C ρ rep (bnd (lsM [t, u]) fun xs => match xs with | [x, y] => k x y | _ => bad) σ H Q := by
  have e : (bnd (lsM [t, u]) fun xs => match xs with | [x, y] => k x y | _ => bad) = bnd t fun x => bnd u fun y => k x y := by
    show bnd (bnd t fun x => bnd (bnd u fun y => bnd (ret []) fun xs => ret (y :: xs)) fun xs => ret (x :: xs)) _ = _
    rw [bnd_bnd]
    congr 1
    funext x
    rw [bnd_bnd, bnd_bnd]
    rfl
  rw [e]
  exact q
theorem i_rng1 {tg e : Expr} {c : M D} {p pos : Pos} (h : PAc X C ρ [e] (lsM [c])) (hi : ∀ {t : TA}, PA X [e] t → PI X tg (.Call (.Name "range" p) [e] [] pos) (iRng1 t)) : PIc X C ρ tg (.Call (.Name "range" p) [e] [] pos) (rng1I c) := pi_imp (hi h) fun σ H R q => by
  refine tG.bind (ls1 (W := C.W) q) fun g1 H1 m1 v1 x1 at1 hv1 q1 => ?_
  cases hv1 with
  | nil => exact q1.elim
  | cons a b =>
    cases b with
    | cons _ _ => exact q1.elim
    | nil =>
      cases a with
      | int n =>
        obtain ⟨hn, q1⟩ := Post.ite q1
        exact ⟨n, rfl, hn.1, hn.2, q1.ret at1.rel rng_ok⟩
      | _ => exact q1.elim
theorem i_rng2 {tg e e2 : Expr} {c c2 : M D} {p pos : Pos} (h : PAc X C ρ [e, e2] (lsM [c, c2])) (hi : ∀ {t : TA}, PA X [e, e2] t → PI X tg (.Call (.Name "range" p) [e, e2] [] pos) (iRng2 t)) : PIc X C ρ tg (.Call (.Name "range" p) [e, e2] [] pos) (rng2I c c2) := pi_imp (hi h) fun σ H R q => by
  refine tG.bind (ls2 q) fun g1 H1 m1 v1 x1 at1 hv1 q1 => ?_
  cases hv1 with
  | nil => exact q1.elim
  | cons a b =>
    cases b with
    | nil => exact q1.elim
    | cons a' b =>
      cases b with
      | cons _ _ => exact q1.elim
      | nil =>
        cases a with
        | int n => cases a' with
          | int n' =>
            obtain ⟨hn, q1⟩ := Post.ite q1
            exact ⟨_, _, rfl, hn, q1.ret at1.rel rng_ok⟩
          | _ => exact q1.elim
        | _ => cases a' <;> exact q1.elim
/-! ### zip -/
theorem zipL_get : ∀ (xs ys : List D) (i : Nat), (zipL xs ys)[i]? = match xs[i]?, ys[i]? with | some x, some y => some (.tup [x, y]) | _, _ => none
  | [], ys, i => by simp [zipL]
  | x :: xs, [], i => by
    simp [zipL]
  | x :: xs, y :: ys, 0 => by simp [zipL]
  | x :: xs, y :: ys, i + 1 => by simp only [zipL, List.getElem?_cons_succ]; exact zipL_get xs ys i
theorem stays_app {g h : List (Nat × List D)} {m : Hs} (s : stays (g ++ h) m = true) : stays g m = true ∧ stays h m = true := by
  unfold stays at s ⊢
  rw [List.all_append, Bool.and_eq_true] at s
  exact s
theorem zip_step {H : Hp} {g : Gh} {m : Hs} {x y : V} {d e : D} {T : Addr} (rel : Rel ⟨X.K, cls⟩ g m H) (hx : Rep X.K g H x d) (hy : Rep X.K g H y e) (hT : H T = none) : TK H (upd H T (.tup [x, y])) ∧ Rel ⟨X.K, cls⟩ g m (upd H T (.tup [x, y])) ∧ Rep X.K g (upd H T (.tup [x, y])) (.ref T) (.tup [d, e]) :=
  ⟨TK.new hT, rel.laid hT, .tup (SqT.of upd_same) (.cons (hx.mono (Lv0.refl g) (TK.new hT)) (.cons (hy.mono (Lv0.refl g) (TK.new hT)) .nil))⟩
theorem i_zip {e e2 : Expr} {c c2 : M D} {p pos tpos : Pos} {elts : List Expr} {kk : Nat} (hg : Gl X "zip") (hm : X.mg "zip" = none) (h : PAc X C ρ [e, e2] (lsM [c, c2]))
    (hs : starEach [e, e2] X.env = (false, eval e X.env) :: starEach [e2] X.env := by rfl) (hpl : (backTo pos (starEach [e2] X.env)).any (·.1) = false := by rfl) : PIc X C ρ (.Tuple elts kk tpos) (.Call (.Name "zip" p) [e, e2] [] pos) (zipI c c2) :=
  pi_imp (RZ.pi_zipA hg hm h hs hpl) fun σ H R q => by
    refine tG.bind (ls2 q) fun g1 H1 m1 v1 x1 at1 hv1 q1 => ?_
    have rel1 := at1.rel
    cases hv1 with
    | nil => exact q1.elim
    | cons ax b =>
      cases b with
      | nil => exact q1.elim
      | cons ay b =>
        cases b with
        | cons _ _ => exact q1.elim
        | nil =>
          obtain ⟨hT, q1⟩ := Post.ite q1
          obtain ⟨⟨ds, gd⟩, hgx, q1⟩ := Post.ask q1
          obtain ⟨⟨es, ge⟩, hgy, q1⟩ := Post.ask q1
          obtain ⟨a, rfl, ha⟩ := guard_ok rel1 ax hgx
          obtain ⟨b, rfl, hb⟩ := guard_ok rel1 ay hgy
          rcases ha with ⟨ka, ⟨vs, ha0⟩, ha⟩ | ⟨ka, ⟨vs, ha0⟩, ha⟩
          · rcases hb with ⟨kb, ⟨ws, hb0⟩, hb⟩ | ⟨kb, ⟨ws, hb0⟩, hb⟩
            · refine ⟨a, b, vs, ws, rfl, .inl ⟨ha0, hb0, Post.ret q1 rel1 fun g m H p t rel st i => ?_⟩⟩
              obtain ⟨xs, a1, a2⟩ := ha g m H p t rel (stays_app st).1
              obtain ⟨ys, b1, b2⟩ := hb g m H p t rel (stays_app st).2
              refine ⟨fun d hd => ?_, fun hn => ?_⟩
              · rw [zipL_get] at hd
                split at hd
                · rename_i h1 h2
                  cases hd
                  obtain ⟨v, c1, c2⟩ := a2.get h1
                  obtain ⟨w, d1, d2⟩ := b2.get h2
                  refine ⟨⟨xs, ys, v, w, a1, b1, c1, d1⟩, fun u H' yl => ?_⟩
                  obtain ⟨T, x', y', rfl, hT, rfl, e1, e2⟩ := yl
                  have f1 := e1 xs a1
                  have f2 := e2 ys b1
                  rw [c1] at f1
                  rw [d1] at f2
                  cases f1
                  cases f2
                  exact zip_step rel c2 d2 hT
                · cases hd
              · rw [zipL_get] at hn
                refine ⟨xs, ys, a1, b1, ?_⟩
                split at hn
                · cases hn
                · rename_i hno
                  cases h1 : ds[i]? with
                  | none => exact .inl (by rw [a2.length]; exact List.getElem?_eq_none_iff.mp h1)
                  | some d =>
                    cases h2 : es[i]? with
                    | none => exact .inr (by rw [b2.length]; exact List.getElem?_eq_none_iff.mp h2)
                    | some e => exact (hno d e h1 h2).elim
            · rw [ka, kb] at hT
              cases hT
          · rcases hb with ⟨kb, ⟨ws, hb0⟩, hb⟩ | ⟨kb, ⟨ws, hb0⟩, hb⟩
            · rw [ka, kb] at hT
              cases hT
            · refine ⟨a, b, vs, ws, rfl, .inr ⟨ha0, hb0, Post.ret q1 rel1 fun g m H p t rel st i => ?_⟩⟩
              obtain ⟨xs, a1, a2⟩ := ha g m H p t rel (stays_app st).1
              obtain ⟨ys, b1, b2⟩ := hb g m H p t rel (stays_app st).2
              refine ⟨fun d hd => ?_, fun hn => ?_⟩
              · rw [zipL_get] at hd
                split at hd
                · rename_i h1 h2
                  cases hd
                  obtain ⟨v, c1, c2⟩ := a2.get h1
                  obtain ⟨w, d1, d2⟩ := b2.get h2
                  refine ⟨⟨xs, ys, v, w, a1, b1, c1, d1⟩, fun u H' yl => ?_⟩
                  obtain ⟨T, x', y', rfl, hT, rfl, e1, e2⟩ := yl
                  have f1 := e1 xs a1
                  have f2 := e2 ys b1
                  rw [c1] at f1
                  rw [d1] at f2
                  cases f1
                  cases f2
                  exact zip_step rel c2 d2 hT
                · cases hd
              · rw [zipL_get] at hn
                refine ⟨xs, ys, a1, b1, ?_⟩
                split at hn
                · cases hn
                · rename_i hno
                  cases h1 : ds[i]? with
                  | none => exact .inl (by rw [a2.length]; exact List.getElem?_eq_none_iff.mp h1)
                  | some d =>
                    cases h2 : es[i]? with
                    | none => exact .inr (by rw [b2.length]; exact List.getElem?_eq_none_iff.mp h2)
                    | some e => exact (hno d e h1 h2).elim
theorem enumL_get : ∀ (s : Int) (xs : List D) (i : Nat), (enumL s xs)[i]? = (xs[i]?).map fun x => .tup [.int (s + (i : Nat)), x]
  | s, [], i => by simp [enumL]
  | s, x :: xs, 0 => by simp [enumL]
  | s, x :: xs, i + 1 => by
    simp only [enumL, List.getElem?_cons_succ]
    rw [enumL_get (s + 1) xs i]
    have e : s + 1 + ((i : Nat) : Int) = s + ((i + 1 : Nat) : Int) := by omega
    rw [e]
theorem enum_go {sq : Hp → List V → Prop} {g : Gh} {m : Hs} {H : Hp} {vs : List V} {ds : List D} {s : Int} (hs : sq H vs) (hu : ∀ ws, sq H ws → True) (r : RepL X.K g H vs ds) (rel : Rel ⟨X.K, cls⟩ g m H) (i : Nat) :
    (∀ d, (enumL s ds)[i]? = some d → (ItE sq s).go i H ∧ ∀ v H', (ItE sq s).yld i H v H' → TK H H' ∧ Rel ⟨X.K, cls⟩ g m H' ∧ Rep X.K g H' v d) ∧ ((enumL s ds)[i]? = none → (ItE sq s).stop i H) := by
  refine ⟨fun d hd => ?_, fun hn => ?_⟩
  · rw [enumL_get, Option.map_eq_some_iff] at hd
    obtain ⟨x, h1, h2⟩ := hd
    obtain ⟨v, c1, c2⟩ := r.get h1
    refine ⟨⟨vs, v, hs, c1⟩, fun u H' yl => ?_⟩
    obtain ⟨T, x', rfl, hT, rfl, e1⟩ := yl
    have f1 := e1 vs hs
    rw [c1] at f1
    cases f1
    rw [← h2]
    exact zip_step rel (.int _) c2 hT
  · rw [enumL_get, Option.map_eq_none_iff] at hn
    exact ⟨vs, hs, by rw [r.length]; exact List.getElem?_eq_none_iff.mp hn⟩
end
end G

set_option Elab.async false
set_option linter.all false
set_option maxRecDepth 100000
set_option maxHeartbeats 2000000
namespace G
open PySem L2 PySem.Spec PyProof.Rows
section
variable {X : Cx} {C : Cc} {ρ : List Sl} {cls : Cl} {k : Nat}
/-! ### built-in functions -/
def ServesC (X : Cx) (cls : Cl) (r : List V → Hp → VK → Prop) (f : List D → M D) : Prop := ∀ (W : WX) (σ : L2.St) (g : Gh) (H : Hp) (m : Hs) (vs : List V) (ds : List D) (Q : VK),
  Rel ⟨X.K, cls⟩ g m H → RepL X.K g H vs ds → Post ⟨X.K, cls⟩ W (rD ⟨X.K, cls⟩) σ g H Q (f ds m) → r vs H Q
theorem c_bi {e : Expr} {es : List Expr} {f : List D → M D} {cs : M (List D)} {r : List V → Hp → VK → Prop} (sv : ServesC X C.cls r f) (ha : PAc X C ρ es cs) (h : ∀ {t : TA}, PA X es t → PE X e (tCB r t)) : PEc X C ρ e (calM f cs) :=
  pe_imp (h ha) fun σ H Q q => by
    refine tG.bind q fun g1 H1 m1 v1 x1 at1 hv1 q1 => ?_
    exact sv C.W σ g1 H1 m1 v1 x1 Q at1.rel hv1 q1
def rLenA (K : PySem.W.Frag) : List V → Hp → VK → Prop := fun xs H Q => (∃ p ys, xs = [.ref p] ∧ (SqL K H p ys ∨ SqT K H p ys) ∧ Q (.int ys.length) H) ∨ (∃ z, xs = [.str z] ∧ z.length ≤ sizeLine ∧ Q (.int z.length) H)
theorem call_lenA : CallR X (.builtin "len") (rLenA X.K) := call_len_seq.or call_len_str
theorem sv_len : ServesC X cls (rLenA X.K) lenS := by
  intro W σ g H m vs ds Q rel hv q
  rcases ds with _ | ⟨d, _ | ⟨d2, t⟩⟩
  · exact q.elim
  · cases hv with
    | cons a b =>
      cases b
      cases hd : d with
      | str s =>
        subst hd
        obtain ⟨hz, q⟩ := Post.ite q
        rw [rep_str a]
        exact .inr ⟨s, rfl, hz, q.ret rel (.int _)⟩
      | _ =>
        rw [hd] at q a
        obtain ⟨xs, hx, q⟩ := Post.ask q
        obtain ⟨p, ys, rfl, hs, r⟩ := rep_seq rel a hx
        exact .inl ⟨p, ys, rfl, hs, by rw [r.length]; exact q.ret rel (.int _)⟩
  · cases d <;> exact q.elim
theorem sv_abs : ServesC X cls (fun xs H Q => ∃ i, xs = [.int i] ∧ Q (.int (if i < 0 then -i else i)) H) absS := by
  intro W σ g H m vs ds Q rel hv q
  rcases ds with _ | ⟨d, _ | ⟨d2, t⟩⟩
  · exact q.elim
  · cases hv with
    | cons a b =>
      cases b
      cases a with
      | int i => exact ⟨i, rfl, q.ret rel (.int _)⟩
      | _ => exact q.elim
  · cases d <;> exact q.elim
theorem sv_min2 : ServesC X cls (fun xs H Q => ∃ i j, xs = [.int i, .int j] ∧ Q (.int (if j < i then j else i)) H) min2S := by
  intro W σ g H m vs ds Q rel hv q
  rcases ds with _ | ⟨d, _ | ⟨d2, _ | ⟨d3, t⟩⟩⟩
  · exact q.elim
  · cases d <;> exact q.elim
  · cases hv with
    | cons a b =>
      cases b with
      | cons a' b =>
        cases b
        cases a with
        | int i => cases a' with
          | int j => exact ⟨i, j, rfl, q.ret rel (.int _)⟩
          | _ => exact q.elim
        | _ => cases a' <;> exact q.elim
  · cases d <;> cases d2 <;> exact q.elim
theorem sv_max2 : ServesC X cls (fun xs H Q => ∃ i j, xs = [.int i, .int j] ∧ Q (.int (if j > i then j else i)) H) max2S := by
  intro W σ g H m vs ds Q rel hv q
  rcases ds with _ | ⟨d, _ | ⟨d2, _ | ⟨d3, t⟩⟩⟩
  · exact q.elim
  · cases d <;> exact q.elim
  · cases hv with
    | cons a b =>
      cases b with
      | cons a' b =>
        cases b
        cases a with
        | int i => cases a' with
          | int j => exact ⟨i, j, rfl, q.ret rel (.int _)⟩
          | _ => exact q.elim
        | _ => cases a' <;> exact q.elim
  · cases d <;> cases d2 <;> exact q.elim
theorem sv_int : ServesC X cls (fun xs H Q => (∃ i, xs = [.int i] ∧ Q (.int i) H) ∨ ∃ k, xs = [.bl k] ∧ Q (.int (if k then 1 else 0)) H) intS := by
  intro W σ g H m vs ds Q rel hv q
  rcases ds with _ | ⟨d, _ | ⟨d2, t⟩⟩
  · exact q.elim
  · cases hv with
    | cons a b =>
      cases b
      cases a with
      | int i => exact .inl ⟨i, rfl, q.ret rel (.int _)⟩
      | bl i => exact .inr ⟨i, rfl, q.ret rel (.int _)⟩
      | _ => exact q.elim
  · cases d <;> exact q.elim
theorem bools_ok {g : Gh} {H : Hp} : ∀ {ds : List D} {vs : List V} {bs : List Bool}, boolsOf ds = some bs → RepL X.K g H vs ds → vs = bs.map V.bl
  | [], _, s, h, .nil => by simp only [boolsOf, Option.some.injEq] at h; subst h; rfl
  | .bl i :: ds, _, s, h, .cons (.bl _) r => by
    simp only [boolsOf, Option.map_eq_some_iff] at h
    obtain ⟨t, h1, rfl⟩ := h
    rw [bools_ok h1 r]
    rfl
  | .non :: ds, _, s, h, _ => by simp [boolsOf] at h
  | .int _ :: ds, _, s, h, _ => by simp [boolsOf] at h
  | .str _ :: ds, _, s, h, _ => by simp [boolsOf] at h
  | .tup _ :: ds, _, s, h, _ => by simp [boolsOf] at h
  | .fl _ :: ds, _, s, h, _ => by simp [boolsOf] at h
  | .sc _ :: ds, _, s, h, _ => by simp [boolsOf] at h
  | .fd _ _ :: ds, _, s, h, _ => by simp [boolsOf] at h
  | .ref _ :: ds, _, s, h, _ => by simp [boolsOf] at h
theorem sv_any : ServesC X cls (rAny X.K) anyS := by
  intro W σ g H m vs ds Q rel hv q
  rcases ds with _ | ⟨d, _ | ⟨d2, t⟩⟩
  · exact q.elim
  · cases hv with
    | cons a b =>
      cases b
      obtain ⟨xs, hx, q⟩ := Post.ask q
      obtain ⟨p, ys, rfl, h1, h2⟩ := rep_lst rel a hx
      cases hs : boolsOf xs with
      | none => rw [hs] at q; exact q.elim
      | some s =>
        rw [hs] at q
        rw [bools_ok hs h2] at h1
        exact ⟨_, s, rfl, SqL.of h1, Post.ret q rel (.bl _)⟩
  · exact q.elim
theorem sv_tuple : ServesC X cls (fun xs H Q => ∃ p ys, xs = [.ref p] ∧ ((SqL X.K H p ys ∧ ∀ l, H l = none → Q (.ref l) (upd H l (.tup ys))) ∨ (SqT X.K H p ys ∧ Q (.ref p) H))) tupleS := by
  intro W σ g H m vs ds Q rel hv q
  rcases ds with _ | ⟨d, _ | ⟨d2, t⟩⟩
  · exact q.elim
  · cases hv with
    | cons a b =>
      cases b
      have a' := a
      cases a with
      | tup h r => exact ⟨_, _, rfl, .inr ⟨h, q.ret rel (.tup h r)⟩⟩
      | _ =>
        obtain ⟨xs, hx, q⟩ := Post.ask q
        obtain ⟨p, ys, e, h1, h2⟩ := rep_lst rel a' hx
        exact ⟨p, ys, by rw [e], .inl ⟨SqL.of h1, fun l hl => Post.newT q rel h2 hl⟩⟩
  · cases d <;> exact q.elim
/-! ### repr -/
def rRepr (K : PySem.W.Frag) : List V → Hp → VK → Prop := fun xs H Q => ∃ x d, xs = [x] ∧ Dp K H x d ∧ d.showable = true ∧ d.hasDict = false ∧ d.depth ≤ 50 ∧ d.shown.length ≤ sizeLine ∧ Q (.str d.shown) H
theorem call_repr (cl : Clr true X.A) (hu : X.A.units + 64 < cLine) : CallR X (.builtin "repr") (rRepr X.K) := by
  have cl := cl rfl
  intro pins s σ H xs us Q I rv h
  obtain ⟨x, d, rfl, hd, hs, hn, hp, hz, q⟩ := h
  obtain ⟨u, rfl, ru⟩ := vals1 rv
  obtain ⟨as, rd⟩ := Dp.reads I d x u hd ru
  have fin : ∀ tk : Tok, EP X pins σ Q (.str d.shown tk) { s with toks := s.toks + 1 } := fun tk => ⟨.str d.shown, H, I.tok _, ⟨_, rfl⟩, q⟩
  cases hd with
  | non =>
    cases ru
    exact PySem.P.repr_of_none (fin _)
  | bl b =>
    cases ru
    refine PySem.P.repr_of_bool ?_
    have := fin s.toks
    cases b <;> exact this
  | int i =>
    obtain ⟨t, rfl⟩ := ru
    exact PySem.P.repr_of_int (by simpa [PyData.showable] using hs) (fin _)
  | str y =>
    obtain ⟨t, rfl⟩ := ru
    exact PySem.P.repr_of_str (fin _) hz
  | lst h1 h2 =>
    cases ru
    exact repr_of_reads' rd hs (PyData.noDict_hsm hn) cl (by omega) (fun _ _ e => e) (fun h' u tk hk => ⟨.str _, H, I.kept hk, ⟨_, rfl⟩, q⟩) hz
  | tup h1 h2 =>
    cases ru
    exact repr_of_reads' rd hs (PyData.noDict_hsm hn) cl (by omega) (fun _ _ e => e) (fun h' u tk hk => ⟨.str _, H, I.kept hk, ⟨_, rfl⟩, q⟩) hz
theorem sv_repr : ServesC X cls (rRepr X.K) reprS := by
  intro W σ g H m vs ds Q rel hv q
  rcases ds with _ | ⟨d, _ | ⟨d2, t⟩⟩
  · exact q.elim
  · cases hv with
    | cons a b =>
      cases b
      obtain ⟨p, hp, q⟩ := Post.ask q
      obtain ⟨hz, q⟩ := Post.ite q
      have lay := pyD_lay deepest d p hp
      exact ⟨_, p, rfl, pyD_dp rel _ _ _ _ hp a, hz.1, PyData.hasDict_of_canLay p lay.1, lay.2, hz.2, q.ret rel (.str _)⟩
  · exact q.elim
end
end G

set_option Elab.async false
set_option linter.all false
set_option maxRecDepth 100000
set_option maxHeartbeats 2000000
namespace G
open PySem L2
abbrev WF : WX := fun _ _ _ _ => False
def Cc.wf (C : Cc) : Cc := ⟨C.cls, WF, C.gB, C.H0⟩
section
variable {X : Cx} {C : Cc} {ρ : List Sl} {k : Nat}
/-! ### a list under way, of which no slot knows -/
theorem RelS.other {Γ : Cst} {gB g : Gh} {H : Hp} {σ : L2.St} {a : Addr} {vs : List V} (h : RelS Γ gB g H ρ σ) (hm : Mut (H a)) (hne : ∀ (i : Nat) xs, ρ[i]? = some (Sl.own xs) → σ[i]? ≠ some (some (V.ref a))) {g2 : Gh} {u : HO} (lv : Lv0 g g2) (hg : ∀ q, q ∈ g.pv → q.1 ≠ a → q ∈ g2.pv) (hf : noFrz u = true := by rfl) : RelS Γ gB g2 (upd H a u) ρ σ := by
  refine ⟨h.len, fun i d e => ?_, fun i xs e => ?_, h.inj, h.raw⟩
  · obtain ⟨v, h1, h2⟩ := h.val i d e
    exact ⟨v, h1, h2.mono lv (TK.mut hm hf)⟩
  · obtain ⟨b, ws, h1, h2, h3, h4⟩ := h.own i xs e
    exact ⟨b, ws, h1, hg _ h2 fun z => hne i xs e (by have z : b = a := z; rw [← z]; exact h1), h3.mono lv (TK.mut hm hf), h4⟩
theorem Rel.sub {Γ : Cst} {g : Gh} {m : Hs} {H : Hp} {pv : List (Addr × HO)} (R : Rel Γ g m H) (h : ∀ p, p ∈ pv → p ∈ g.pv) : Rel Γ ⟨g.hs, g.fz, pv⟩ m H :=
  have lv : Lv0 g ⟨g.hs, g.fz, pv⟩ := ⟨List.prefix_refl _, fun _ z => z⟩
  ⟨R.len, R.inj, fun n o a h1 h2 => (R.obj n o a h1 h2).mono lv (TK.refl _) fun _ _ _ z => z, R.frz, fun a o z => R.prv a o (h _ z), R.hf, fun a o z1 z2 => R.hp a o z1 (h _ z2), fun a o u z => R.pf a o u (h _ z), R.lf, fun q hq => R.lp q (h q hq), R.ff, R.tab⟩
theorem le_out {g g' : Gh} {a : Addr} {u : HO} (p : Le (g.addP a u) g') (hn : ∀ w, (a, w) ∉ g.pv) : Le g (g'.outP a) :=
  ⟨p.hs, p.fz, fun q hq => mem_outP.mpr ⟨p.pv q (List.mem_cons_of_mem _ hq), fun z => hn q.2 (by have z : q.1 = a := z; rw [← z]; exact hq)⟩⟩
/-! ### list comprehensions -/
def tstM (c : M Bool) (e : M D) : M (Option D) := bnd c fun k => if k = true then elM e else ret none
/-- what a turn is read by -/
def OkT (X : Cx) (C : Cc) (scope : Scope) (ifs : List Expr) (elt : Expr) (ρ' : List Sl) (t : M (Option D)) : Prop := ∃ c e, t = tstM c e ∧
  (∀ (s : Shared) (H : Hp) (A : Addr) (cl : List (Str × Addr)) (fp : List Addr), PTs (X.blk s H scope (compEnvC scope cl A X.env) fp) ifs (tG ⟨X.K, C.cls⟩ C.wf ρ' rB c)) ∧
  (∀ (s : Shared) (H : Hp) (A : Addr) (cl : List (Str × Addr)) (fp : List Addr), PE (X.blk s H scope (compEnvC scope cl A X.env) fp) elt (tE ⟨X.K, C.cls⟩ C.wf ρ' e))
theorem pts_imp {X : Cx} {e : List Expr} {t t' : TT} (h : PTs X e t) (k : ∀ σ H Q, t' σ H Q → t σ H Q) : PTs X e t' := ⟨fun pins s σ H Q I q => h.run pins s σ H Q I (k σ H Q q)⟩
theorem ok_el {scope : Scope} {elt : Expr} {e : M D} (h : ∀ (s : Shared) (H : Hp) (A : Addr) (cl : List (Str × Addr)) (fp : List Addr), PEc (X.blk s H scope (compEnvC scope cl A X.env) fp) C.wf ρ elt e) : OkT X C scope [] elt ρ (elM e) :=
  ⟨ret true, e, rfl, fun s H A cl fp => pts_imp pts_nil fun σ H Q q => by
    obtain ⟨g, m, at0, q⟩ := q
    exact q.ret at0.rel rfl, h⟩
def tTx (X : Cx) (C : Cc) (scope : Scope) (ifs : List Expr) (elt : Expr) : TT := fun σ H Q => ∃ ρ' c e, OkT X C scope ifs elt ρ' (tstM c e) ∧
  (∀ (s : Shared) (H : Hp) (A : Addr) (cl : List (Str × Addr)) (fp : List Addr), PTs (X.blk s H scope (compEnvC scope cl A X.env) fp) ifs (tG ⟨X.K, C.cls⟩ C.wf ρ' rB c)) ∧ tG ⟨X.K, C.cls⟩ C.wf ρ' rB c σ H Q
def tEx (X : Cx) (C : Cc) (scope : Scope) (elt : Expr) : TE := fun σ H Q => ∃ ρ' e,
  (∀ (s : Shared) (H : Hp) (A : Addr) (cl : List (Str × Addr)) (fp : List Addr), PE (X.blk s H scope (compEnvC scope cl A X.env) fp) elt (tE ⟨X.K, C.cls⟩ C.wf ρ' e)) ∧ tE ⟨X.K, C.cls⟩ C.wf ρ' e σ H Q
theorem At.wf {Γ : Cst} {σ : L2.St} {H : Hp} {g : Gh} {m : Hs} (a : At Γ C ρ σ H g m) : At Γ C.wf ρ σ H g m := ⟨a.le, a.rel, a.rs, a.tw⟩
theorem lc_gen {α β : Type} {rep : Gh → Hp → V → β → Prop} {fin : List D → M β} {scope : Scope} {ifs : List Expr} {elt : Expr} {own : List Nat} {is : List Nat} {P : Pt} {src : M Its} {turn : D → M (Option D)} {σ : L2.St} {H : Hp} {Q : VK} (hp : ∀ i ∈ is, i ∈ own)
    (ht : ∀ x, Bd1 P (wipeS ρ own) x (turn x) (OkT X C scope ifs elt)) {g0 : Gh} {m0 : Hs} (at0 : At ⟨X.K, C.cls⟩ C ρ σ H g0 m0) (q : Post ⟨X.K, C.cls⟩ C.W rep σ g0 H Q (bnd src (fun z => bnd (lcL z.2 turn z.1 []) fin) m0))
    (hfin : ∀ A g m H' vs acc, (∀ w, (A, w) ∉ g0.pv) → (∀ w, (A, w) ∉ g.pv) → Rel ⟨X.K, C.cls⟩ (g.addP A (.lst vs)) m H' → RepL X.K g H' vs acc → Post ⟨X.K, C.cls⟩ C.W rep σ g H' Q (fin acc m) → Q (.ref A) H') :
    tLc (tG ⟨X.K, C.cls⟩ C ρ (ItR ⟨X.K, C.cls⟩) src) (gPat ⟨X.K, C.cls⟩ C is P) (tTx X C scope ifs elt) (tEx X C scope elt) own σ H Q := by
  refine ⟨g0, m0, at0, Post.bind q fun g1 H1 m1 J z p01 t01 rel1 hv1 q1 => ?_⟩
  have at1 := at0.mono p01 t01 rel1
  obtain ⟨its, gd⟩ := z
  intro A hA
  have hnA : ∀ w, (A, w) ∉ g1.pv := fun w => at1.rel.freshP hA
  have hne : ∀ (i : Nat) xs, ρ[i]? = some (Sl.own xs) → σ[i]? ≠ some (some (V.ref A)) := fun i xs hi hz => by
    obtain ⟨b, ws, h1, h2, _⟩ := at1.rs.own i xs hi
    rw [hz] at h1
    cases h1
    exact hnA _ h2
  have hBA : ∀ w, (A, w) ∉ C.gB.pv := fun w z => hnA w (at1.le.pv _ z)
  refine ⟨fun i n H' => n = its.length - i ∧ ∃ g m vs acc, Lv0 g1 g ∧ (∀ w, (A, w) ∉ g.pv) ∧ TK H1 H' ∧ At ⟨X.K, C.cls⟩ C ρ σ H' (g.addP A (.lst vs)) m ∧ RepL X.K g H' vs acc ∧
    Post ⟨X.K, C.cls⟩ C.W rep σ g H' Q (bnd (lcL gd turn (its.drop i) acc) fin m),
    ⟨its.length, by simp, g1, m1, [], [], Lv0.refl _, hnA, TK.new hA, ⟨at1.le.trans le_addP, at1.rel.newP hA, at1.rs.mono le_addP (TK.new hA), at1.tw.go (TK.new hA)⟩, .nil, by simpa using Post.mono (Le.refl g1) (TK.new hA) q1⟩, ?_⟩
  rintro i n H' ⟨rfl, g, m, vs, acc, lv, hn, tk, at2, ra, q2⟩
  have rel2 := at2.rel
  have hAH : H' A = some (.lst vs) := rel2.prv _ _ List.mem_cons_self
  have st : stays gd m = true := by
    have key : ∀ {t : M (List D)}, Post ⟨X.K, C.cls⟩ C.W rep σ g H' Q (bnd (bnd (stay gd) fun _ => t) fin m) → stays gd m = true := fun {t} q => by
      rw [bnd_bnd] at q
      unfold bnd stay at q
      by_cases h : stays gd m = true
      · exact h
      · rw [if_neg h] at q
        exact q.elim
    cases hd : its.drop i with
    | nil => rw [hd] at q2; exact key q2
    | cons x xs => rw [hd] at q2; exact key q2
  have hI := hv1 (g.addP A (.lst vs)) m H' (lv.trans le_addP.v) tk rel2 st i
  have stm : stay gd m = .ok () m := by unfold stay; rw [if_pos st]
  cases hi : its[i]? with
  | none =>
    refine .inl ⟨hI.2 hi, ?_⟩
    have hd : its.drop i = [] := List.drop_eq_nil_of_le (List.getElem?_eq_none_iff.mp hi)
    rw [hd] at q2
    simp only [lcL, bnd, stm, Rs.bind] at q2
    exact hfin A g m H' vs acc (fun w z => hnA w (p01.pv _ z)) hn rel2 ra q2
  | some d =>
    obtain ⟨hgo, hy⟩ := hI.1 d hi
    have hil : i < its.length := (List.getElem?_eq_some_iff.mp hi).1
    have hd : its.drop i = d :: its.drop (i + 1) := by
      rw [List.drop_eq_getElem_cons hil]
      congr 1
      exact (List.getElem?_eq_some_iff.mp hi).2
    rw [hd] at q2
    have q2' : Post ⟨X.K, C.cls⟩ C.W rep σ g H' Q (((turn d m).calm).bind fun o m3 => bnd (match o with
      | none => lcL gd turn (its.drop (i + 1)) acc
      | some y => if acc.length < sizeLine then lcL gd turn (its.drop (i + 1)) (acc ++ [y]) else bad) fin m3) := by
      have e : bnd (lcL gd turn (d :: its.drop (i + 1)) acc) fin m = ((turn d m).calm).bind fun o m3 => bnd (match o with
        | none => lcL gd turn (its.drop (i + 1)) acc
        | some y => if acc.length < sizeLine then lcL gd turn (its.drop (i + 1)) (acc ++ [y]) else bad) fin m3 := by
        simp only [lcL]
        rw [bnd_bnd]
        simp only [bnd, stm, Rs.bind, calm]
        cases (turn d m).calm <;> rfl
      rw [← e]
      exact q2
    clear q2
    refine .inr ⟨hgo, fun H2 => ∃ g m vs acc, Lv0 g1 g ∧ (∀ w, (A, w) ∉ g.pv) ∧ TK H1 H2 ∧ At ⟨X.K, C.cls⟩ C ρ σ H2 (g.addP A (.lst vs)) m ∧ RepL X.K g H2 vs acc ∧
      Post ⟨X.K, C.cls⟩ C.W rep σ g H2 Q (bnd (lcL gd turn (its.drop (i + 1)) acc) fin m),
      fun H2 h2 => ⟨its.length - (i + 1), by omega, rfl, h2⟩, fun x H3 y => ?_⟩
    obtain ⟨tk3, rel3, hx3⟩ := hy x H3 y
    have q3 := Post.mono (Le.refl g) tk3 q2'
    have at3 := at2.keep tk3 rel3
    rcases ht d with hbad | ⟨ρ', hb, c, e, htu, hPT, hPE⟩
    · rw [hbad] at q3
      exact q3.elim
    have at3w : At ⟨X.K, C.cls⟩ C (wipeS ρ own) (L2.wipe σ own) H3 (g.addP A (.lst vs)) m := ⟨at3.le, at3.rel, at3.rs.wipe own, at3.tw⟩
    refine ⟨g.addP A (.lst vs), m, wipeS ρ own, d, ρ', at3w, hx3, hb, fun σ2 at4 sb => ⟨?_, ?_⟩⟩
    · rw [wipe_eq (sb.mono hp), wipe_wipe]
    · rw [htu] at q3
      refine ⟨ρ', c, e, ⟨c, e, rfl, hPT, hPE⟩, hPT, g.addP A (.lst vs), m, at4.wf, ?_⟩
      have et : tstM c e m = (c m).bind fun k m3 => (if k = true then elM e else ret none) m3 := rfl
      rw [et] at q3
      cases hc : c m with
      | ex c' fs m3 => rw [hc] at q3; exact q3.elim
      | bad => rw [hc] at q3; exact q3.elim
      | ok b m3 =>
        rw [hc, bind_ok] at q3
        intro g5 H5 b' p5 t5 rel5 eb
        subst eb
        have out5 := le_out p5 hn
        have hn5 : ∀ w, (A, w) ∉ (g5.outP A).pv := fun w z => (mem_outP.mp z).2 rfl
        have hA5 : (A, HO.lst vs) ∈ g5.pv := p5.pv _ List.mem_cons_self
        have ra5 : RepL X.K (g5.outP A) H5 vs acc := ra.mono out5.v (tk3.trans t5)
        have at5 : At ⟨X.K, C.cls⟩ C ρ σ H5 g5 m3 := at3.mono p5 t5 rel5
        have subP : ∀ p, p ∈ ((g5.outP A).addP A (HO.lst vs)).pv → p ∈ g5.pv := fun p hp => by
          rcases List.mem_cons.mp hp with z | z
          · rw [z]; exact hA5
          · exact (mem_outP.mp z).1
        have supP : ∀ p, p ∈ g5.pv → p ∈ ((g5.outP A).addP A (HO.lst vs)).pv := fun p hp => by
          by_cases e : p.1 = A
          · have e1 : p = (A, HO.lst vs) := by
              obtain ⟨p1, p2⟩ := p
              have e : p1 = A := e
              subst e
              have h1 := rel5.prv _ _ hp
              have h2 := rel5.prv _ _ hA5
              rw [h1] at h2
              cases h2
              rfl
            rw [e1]
            exact List.mem_cons_self
          · exact List.mem_cons_of_mem _ (mem_outP.mpr ⟨hp, e⟩)
        have le5 : Le g5 ((g5.outP A).addP A (HO.lst vs)) := ⟨List.prefix_refl _, fun _ z => z, supP⟩
        have at5' : At ⟨X.K, C.cls⟩ C ρ σ H5 ((g5.outP A).addP A (HO.lst vs)) m3 :=
          ⟨⟨at5.le.hs, at5.le.fz, fun p hp => supP p (at5.le.pv p hp)⟩, rel5.sub subP, at5.rs.mono le5 (TK.refl _), at5.tw⟩
        cases b' with
        | false =>
          rw [if_neg (by simp)] at q3
          exact iteF ⟨g5.outP A, m3, vs, acc, lv.trans out5.v, hn5, (tk.trans tk3).trans t5, at5', ra5, Post.mono out5 t5 q3⟩
        | true =>
          rw [if_pos rfl] at q3
          have at45 : At ⟨X.K, C.cls⟩ C.wf ρ' σ2 H5 g5 m3 := at4.wf.mono p5 t5 rel5
          refine iteT ⟨ρ', e, hPE, g5, m3, at45, ?_⟩
          have ee : elM e m3 = (e m3).bind fun y m4 => .ok (some y) m4 := rfl
          rw [ee] at q3
          cases he : e m3 with
          | ex c' fs m4 => rw [he] at q3; exact q3.elim
          | bad => rw [he] at q3; exact q3.elim
          | ok y m4 =>
            rw [he, bind_ok] at q3
            intro g6 H6 v6 p6 t6 rel6 h6
            have q6 : Post ⟨X.K, C.cls⟩ C.W rep σ g H3 Q (bnd (if acc.length < sizeLine then lcL gd turn (its.drop (i + 1)) (acc ++ [y]) else bad) fin m4) := q3
            by_cases hz : acc.length < sizeLine
            · rw [if_pos hz] at q6
              have out6 := le_out (p5.trans p6) hn
              have hn6 : ∀ w, (A, w) ∉ (g6.outP A).pv := fun w z => (mem_outP.mp z).2 rfl
              have hA6 : (A, HO.lst vs) ∈ g6.pv := p6.pv _ hA5
              have hH6 := rel6.prv _ _ hA6
              have mu : Mut (H6 A) := by rw [hH6]; trivial
              have at6 : At ⟨X.K, C.cls⟩ C ρ σ H6 g6 m4 := at5.mono p6 t6 rel6
              have rr : RepL X.K (g6.outP A) H6 vs acc := ra.mono out6.v ((tk3.trans t5).trans t6)
              have h6' : Rep X.K (g6.outP A) H6 v6 y := h6.mono lv_outP (TK.refl _)
              refine ⟨vs, hH6, by rw [rr.length]; exact hz, g6.outP A, m4, vs ++ [v6], acc ++ [y], lv.trans out6.v, hn6, (((tk.trans tk3).trans t5).trans t6).trans (TK.mut mu), ⟨⟨at6.le.hs, at6.le.fz, fun p hp => List.mem_cons_of_mem _ (mem_outP.mpr ⟨at6.le.pv p hp, fun z => hBA p.2 (by have z : p.1 = A := z; rw [← z]; exact hp)⟩)⟩, rel6.setP mu hA6, at6.rs.other (vs := vs) mu hne ⟨List.prefix_refl _, fun _ z => z⟩ fun q hq hz => List.mem_cons_of_mem _ (mem_outP.mpr ⟨hq, hz⟩), at6.tw.go (TK.mut mu)⟩, (rr.append (.cons h6' .nil)).mono (Lv0.refl _) (TK.mut mu), Post.mono out6 ((t5.trans t6).trans (TK.mut mu)) q6⟩
            · rw [if_neg hz] at q6
              exact q6.elim
theorem lc_ok {scope : Scope} {ifs : List Expr} {elt : Expr} {own : List Nat} {is : List Nat} {P : Pt} {src : M Its} {turn : D → M (Option D)} {σ : L2.St} {H : Hp} {Q : VK} (hp : ∀ i ∈ is, i ∈ own)
    (ht : ∀ x, Bd1 P (wipeS ρ own) x (turn x) (OkT X C scope ifs elt)) (q : tG ⟨X.K, C.cls⟩ C ρ (rD ⟨X.K, C.cls⟩) (lcM src turn) σ H Q) :
    tLc (tG ⟨X.K, C.cls⟩ C ρ (ItR ⟨X.K, C.cls⟩) src) (gPat ⟨X.K, C.cls⟩ C is P) (tTx X C scope ifs elt) (tEx X C scope elt) own σ H Q := by
  obtain ⟨g0, m0, at0, q⟩ := q
  refine lc_gen (α := Unit) (fin := fun ys => ret (D.fl ys)) hp ht at0 q fun A g m H' vs acc hn0 hn rel2 ra q2 => ?_
  have R := rel2.frzP (a := A) List.mem_cons_self
  have le9 : Le g (((g.addP A (HO.lst vs)).outP A).addF A (HO.lst vs)) := ⟨List.prefix_refl _, fun p hp => List.mem_cons_of_mem _ hp, fun p hp => mem_outP.mpr ⟨List.mem_cons_of_mem _ hp, fun z => hn p.2 (by have z : p.1 = A := z; rw [← z]; exact hp)⟩⟩
  exact q2 _ H' (.ref A) le9 (TK.refl _) R (.fl List.mem_cons_self (ra.mono le9.v (TK.refl _)))
theorem c_lc {elt tg iter : Expr} {ifs : List Expr} {scope : Scope} {own : List (Str × Nat)} {pos : Pos} {src : M Its} {turn : D → M (Option D)} {is : List Nat} {P : Pt} (hc : X.calm = true) (hN : X.N.Nodup) (hi : PIc X C ρ tg iter src) (ok : BlkOk X.N X.env.scope scope own)
    (hp : ∀ i ∈ is, i ∈ own.map (·.2))
    (hg : ∀ (s : Shared) (H : Hp) (A : Addr) (cl : List (Str × Addr)) (fp : List Addr), PGc (X.blk s H scope (compEnvC scope cl A X.env) fp) C tg is P) (ht : ∀ x, Bd1 P (wipeS ρ (own.map (·.2))) x (turn x) (OkT X C scope ifs elt)) (hs : ∀ x, foldedSetIterable iter X.env x = pure x := by intro _; rfl) :
    PEc X C ρ (.ListComp elt [⟨tg, iter, ifs, 0⟩] scope pos) (lcM src turn) :=
  pe_imp (pe_lc (tt := tTx X C scope ifs elt) (te := tEx X C scope elt) hc hN hi ok hg (fun s H A cl fp => ⟨fun pins t σ H' Q I q => by
    obtain ⟨ρ', c, e, _, h, q⟩ := q
    exact (h s H A cl fp).run pins t σ H' Q I q⟩) (fun s H A cl fp => ⟨fun pins t σ H' Q I q => by
    obtain ⟨ρ', e, h, q⟩ := q
    exact (h s H A cl fp).run pins t σ H' Q I q⟩) hs) fun σ H Q q => lc_ok hp ht q
end
end G

set_option Elab.async false
set_option linter.all false
set_option maxRecDepth 100000
set_option maxHeartbeats 2000000
namespace G
open PySem L2
/-! ### statements -/
section
variable {A B : Type} (Γ : Cst) (C : Cc) (oa : A → List Sl) (ob : B → List Sl)
def PostS (g : Gh) (H : Hp) (De : Ends) : Rs (Fl A B) → Prop
  | .ok (.nx a) m => ∀ g' H' σ, Lv0 g g' → TK H H' → At Γ C (oa a) σ H' g' m → De.nx σ H'
  | .ok (.bk b) m => ∀ g' H' σ, Lv0 g g' → TK H H' → At Γ C (ob b) σ H' g' m → De.bk σ H'
  | .ok (.ct b) m => ∀ g' H' σ, Lv0 g g' → TK H H' → At Γ C (ob b) σ H' g' m → De.ct σ H'
  | .ok (.rt d) m => ∀ g' H' v, Le C.gB g' → Lv0 g g' → TK H H' → Rel Γ g' m H' → Rep Γ.K g' H' v d → De.rt v H'
  | .ex c fs m => ∀ σ, PostX Γ C.W σ C.gB H c fs m
  | .bad => False
def tS (ρ : List Sl) (t : M (Fl A B)) : TS := fun De σ H => ∃ g m, At Γ C ρ σ H g m ∧ PostS Γ C oa ob g H De (t m)
end
abbrev PSsc {A B : Type} (X : Cx) (C : Cc) (ρ : List Sl) (e : List Stmt) (oa : A → List Sl) (ob : B → List Sl) (t : M (Fl A B)) : Prop := PSs X e (tS ⟨X.K, C.cls⟩ C oa ob ρ t)
section
variable {X : Cx} {C : Cc} {ρ : List Sl} {k : Nat} {A B A' B' : Type} {oa : A → List Sl} {ob : B → List Sl} {oa' : A' → List Sl} {g g' : Gh} {H H' : Hp} {De : Ends} {Γ : Cst} {σ : L2.St} {m : Hs}
theorem PostS.mono {r : Rs (Fl A B)} (p : Lv0 g g') (t : TK H H') (h : PostS Γ C oa ob g H De r) : PostS Γ C oa ob g' H' De r := by
  cases r with
  | ok o m =>
    cases o with
    | nx r => exact fun g2 H2 σ p2 t2 => h g2 H2 σ (p.trans p2) (t.trans t2)
    | bk r => exact fun g2 H2 σ p2 t2 => h g2 H2 σ (p.trans p2) (t.trans t2)
    | ct r => exact fun g2 H2 σ p2 t2 => h g2 H2 σ (p.trans p2) (t.trans t2)
    | rt d => exact fun g2 H2 v l2 p2 t2 => h g2 H2 v l2 (p.trans p2) (t.trans t2)
  | ex c fs m => exact fun σ => PostX.mono (Le.refl _) t (h σ)
  | bad => exact h
theorem PostS.bind {α V' : Type} {rep : Gh → Hp → V' → α → Prop} {r : Rs α} {f : α → Hs → Rs (Fl A B)} {R : V' → Hp → Prop} (le : Le C.gB g) (q : PostS Γ C oa ob g H De (r.bind f))
    (k : ∀ g' H' m v x, Le g g' → TK H H' → Rel Γ g' m H' → rep g' H' v x → PostS Γ C oa ob g' H' De (f x m) → R v H') : Post Γ C.W rep σ g H R r := by
  cases r with
  | ok x m => exact fun g' H' v p t rel hv => k g' H' m v x p t rel hv (PostS.mono p.v t q)
  | ex c fs m => exact PostX.mono le (TK.refl _) (q σ)
  | bad => exact q
theorem PostS.nx {a : A} (q : PostS Γ C oa ob g H De (.ok (.nx a) m)) (at0 : At Γ C (oa a) σ H g m) : De.nx σ H := q g H σ (Lv0.refl g) (TK.refl H) at0
theorem PostS.rt {d : D} {v : V} (q : PostS Γ C oa ob g H De (.ok (.rt d) m)) (le : Le C.gB g) (rel : Rel Γ g m H) (hv : Rep Γ.K g H v d) : De.rt v H := q g H v le (Lv0.refl g) (TK.refl H) rel hv
theorem At.less {ρ' : List Sl} (a : At Γ C ρ σ H g m) (s : Sub ρ' ρ) : At Γ C ρ' σ H g m := ⟨a.le, a.rel, a.rs.less s, a.tw⟩
/-- a statement and what comes behind it -/
theorem s_seq {st : Stmt} {rest : List Stmt} {t1 : M (Fl A' B)} {f : A' → M (Fl A B)} (h1 : PS X st (tS ⟨X.K, C.cls⟩ C oa' ob ρ t1)) (h2 : ∀ a, PSsc X C (oa' a) rest oa ob (f a)) : PSsc X C ρ (st :: rest) oa ob (seq t1 f) := by
  have h2' : PSs X rest (fun De σ H => ∃ a, tS ⟨X.K, C.cls⟩ C oa ob (oa' a) (f a) De σ H) := ⟨fun pins s σ H De I ⟨a, q⟩ => (h2 a).run pins s σ H De I q⟩
  refine pss_imp (pss_cons h1 h2') fun De σ H q => ?_
  obtain ⟨g, m, at0, q⟩ := q
  refine ⟨g, m, at0, ?_⟩
  unfold seq bnd at q
  cases hz : t1 m with
  | ok o m1 =>
    rw [hz, bind_ok] at q
    cases o with
    | nx a => exact fun g' H' σ' p t at1 => ⟨a, g', m1, at1, PostS.mono p t q⟩
    | bk b => exact q
    | ct b => exact q
    | rt d => exact q
  | ex c fs m1 => rw [hz] at q; exact q
  | bad => rw [hz] at q; exact q
theorem s_one {st : Stmt} {t : M (Fl A B)} (h : PS X st (tS ⟨X.K, C.cls⟩ C oa ob ρ t)) : PSsc X C ρ [st] oa ob t := by
  refine pss_imp (pss_cons h pss_nil) fun De σ H q => ?_
  exact q
theorem s_nil {a : A} (s : Sub (oa a) ρ) : PSsc X C ρ [] oa ob (nxt a) := pss_imp pss_nil fun De σ H q => by
  obtain ⟨g, m, at0, q⟩ := q
  exact PostS.nx q (at0.less s)
/-- what follows is never reached -/
theorem pss_dead {st : Stmt} {rest : List Stmt} {t : TS} (h : PS X st t) (hn : ∀ De σ H, t De σ H → t { De with nx := fun _ _ => False } σ H) : PSs X (st :: rest) t := by
  have h2 : PSs X rest (fun _ _ _ => False) := ⟨fun _ _ _ _ _ _ q => q.elim⟩
  exact pss_imp (pss_cons h h2) fun De σ H q => hn De σ H q
theorem s_ret {rest : List Stmt} {e : Expr} {c : M D} {pos : Pos} (h : PEc X C ρ e c) : PSsc X C ρ (.Return (some e) pos :: rest) oa ob (rtn c) := pss_imp (pss_dead (ps_ret h) fun _ _ _ q => q) fun De σ H q => by
  obtain ⟨g, m, at0, q⟩ := q
  exact ⟨g, m, at0, PostS.bind at0.le q fun g' H' m' v x p t rel' hv q' => PostS.rt q' (at0.le.trans p) rel' hv⟩
theorem if_ok {e : Expr} {c : M D} {a b : List Stmt} {t u : M (Fl A B)} {pos : Pos} (hc : PTc X C ρ e c) (ha : PSsc X C ρ a oa ob t) (hb : PSsc X C ρ b oa ob u) : PS X (.If e a b pos) (tS ⟨X.K, C.cls⟩ C oa ob ρ (iff c t u)) := ps_imp (ps_if hc ha hb) fun De σ H q => by
  obtain ⟨g, m, at0, q⟩ := q
  refine ⟨g, m, at0, ?_⟩
  unfold iff bnd at q
  unfold bnd
  cases hz : c m with
  | ok x m1 =>
    rw [hz, bind_ok] at q
    rw [bind_ok]
    change PostS ⟨X.K, C.cls⟩ C oa ob g H De ((tru x m1).bind fun k m2 => (if k = true then t else u) m2) at q
    cases hb : truth x m1 with
    | none =>
      have e : tru x m1 = .bad := by unfold tru ask; rw [hb]
      rw [e] at q
      exact q.elim
    | some b =>
      rw [tru_of hb, bind_ok] at q
      rw [tru_of hb]
      intro g' H' v p t' rel' e
      subst e
      cases v with
      | true => exact iteT ⟨g', m1, at0.mono p t' rel', PostS.mono p.v t' q⟩
      | false => exact iteF ⟨g', m1, at0.mono p t' rel', PostS.mono p.v t' q⟩
  | ex c fs m1 => rw [hz] at q; exact PostX.mono at0.le (TK.refl _) (q σ)
  | bad => rw [hz] at q; exact q
theorem s_if {e : Expr} {c : M D} {a b rest : List Stmt} {t u : M (Fl A' B)} {f : A' → M (Fl A B)} {pos : Pos} (hc : PTc X C ρ e c) (ha : PSsc X C ρ a oa' ob t) (hb : PSsc X C ρ b oa' ob u) (hr : ∀ a, PSsc X C (oa' a) rest oa ob (f a)) : PSsc X C ρ (.If e a b pos :: rest) oa ob (seq (iff c t u) f) := s_seq (if_ok hc ha hb) hr
theorem s_ifL {e : Expr} {c : M D} {a b : List Stmt} {t u : M (Fl A B)} {pos : Pos} (hc : PTc X C ρ e c) (ha : PSsc X C ρ a oa ob t) (hb : PSsc X C ρ b oa ob u) : PSsc X C ρ [.If e a b pos] oa ob (iff c t u) := s_one (if_ok hc ha hb)
/-! ### lists of one's own: no longer changed; with a handle -/
theorem s_frz {i : Nat} {xs : List D} {st : List Stmt} {t : M (Fl A B)} (hi : ρ[i]? = some (.own xs)) (h : PSsc X C (ρ.set i (.val (.fl xs))) st oa ob t) : PSsc X C ρ st oa ob t := pss_imp h fun De σ H q => by
  obtain ⟨g, m, at0, q⟩ := q
  obtain ⟨p, vs, h1, h2, h3, h4, h5⟩ := at0.own hi
  have lv : Lv0 g ((g.outP p).addF p (HO.lst vs)) := ⟨List.prefix_refl _, fun _ z => List.mem_cons_of_mem _ z⟩
  refine ⟨(g.outP p).addF p (HO.lst vs), m, ⟨⟨at0.le.hs, fun q hq => List.mem_cons_of_mem _ (at0.le.fz q hq), fun q hq => mem_outP.mpr ⟨at0.le.pv q hq, fun z => h5 q.2 (by have z : q.1 = p := z; rw [← z]; exact hq)⟩⟩, at0.rel.frzP h2, at0.rs.outP hi h1 lv (fun q hq hz => mem_outP.mpr ⟨hq, hz⟩) (.fl List.mem_cons_self (h4.mono lv (TK.refl _))), at0.tw⟩, PostS.mono lv (TK.refl _) q⟩
/-! ### names get values, or lists of their own -/
def rK {α : Type} (K : PySem.W.Frag) (s : α → Sl) (g0 g : Gh) (H : Hp) (v : V) (a : α) : Prop := match s a with
  | .un => False
  | .raw _ => False
  | .val d => Rep K g H v d
  | .own xs => ∃ p vs, v = .ref p ∧ (p, HO.lst vs) ∈ g.pv ∧ RepL K g H vs xs ∧ ∀ u, (p, u) ∉ g0.pv
def tK {α : Type} (Γ : Cst) (C : Cc) (ρ : List Sl) (s : α → Sl) (t : M α) : TE := fun σ H Q => ∃ g m, At Γ C ρ σ H g m ∧ Post Γ C.W (rK Γ.K s g) σ g H Q (t m)
abbrev PEk {α : Type} (X : Cx) (C : Cc) (ρ : List Sl) (e : Expr) (s : α → Sl) (t : M α) : Prop := PE X e (tK ⟨X.K, C.cls⟩ C ρ s t)
theorem k_val {e : Expr} {t : M D} (h : PEc X C ρ e t) : PEk X C ρ e Sl.val t := pe_imp h fun σ H Q q => q
def ownM (t : M (List D)) : M (List D) := bnd t fun xs => if xs.length ≤ sizeLine then ret xs else bad
/-- a new list of one's own -/
theorem Post.newP {W : WX} {Q : VK} {xs : List D} {vs : List V} {p : Addr} {g0 : Gh} (q : Post Γ W (rK Γ.K Sl.own g0) σ g H Q (.ok xs m)) (le : ∀ z, z ∈ g0.pv → z ∈ g.pv) (rel : Rel Γ g m H) (r : RepL Γ.K g H vs xs) (hp : H p = none) : Q (.ref p) (upd H p (.lst vs)) :=
  q (g.addP p (.lst vs)) _ _ le_addP (TK.new hp) (rel.newP hp) ⟨p, vs, rfl, List.mem_cons_self, r.mono le_addP.v (TK.new hp), fun u hu => rel.freshP hp (le _ hu)⟩
theorem tK.bind {α β : Type} {s : β → Sl} {t : M α} {f : α → M β} {rep : Gh → Hp → V' → α → Prop} {Q : VK} {R : V' → Hp → Prop} (q : tK Γ C ρ s (bnd t f) σ H Q)
    (k : ∀ g0 g' H' m v x, Le g0 g' → At Γ C ρ σ H' g' m → rep g' H' v x → Post Γ C.W (rK Γ.K s g0) σ g' H' Q (f x m) → R v H') : tG Γ C ρ rep t σ H R := by
  obtain ⟨g, m, a, q⟩ := q
  exact ⟨g, m, a, Post.bind q fun g' H' m' v x p t rel' hv q' => k g g' H' m' v x p (a.mono p t rel') hv q'⟩
theorem k_lst {es : List Expr} {cs : M (List D)} {pos : Pos} (h : PAc X C ρ es cs) : PEk X C ρ (.List es pos) Sl.own (ownM cs) :=
  pe_imp (pe_lst h) fun σ H Q q => by
    refine tK.bind q fun g0 g1 H1 m1 v1 x1 p1 at1 hv1 q1 => ?_
    obtain ⟨hz, q1⟩ := Post.ite q1
    exact ⟨by rw [hv1.length]; exact hz, fun p hp => Post.newP q1 p1.pv at1.rel hv1 hp⟩
/-- the slots behind such a store -/
theorem At.setK {α : Type} {s : α → Sl} {a : α} {v : V} {g0 : Gh} {m0 : Hs} {H0 : Hp} {i : Nat} (at0 : At Γ C ρ σ H0 g0 m0) (at1 : At Γ C ρ σ H g m) (hv : rK Γ.K s g0 g H v a) : At Γ C (ρ.set i (s a)) (σ.set i (some v)) H g m := by
  unfold rK at hv
  split at hv
  · exact hv.elim
  · exact hv.elim
  · rename_i d hd
    rw [hd]
    exact at1.set hv i
  · rename_i xs hx
    rw [hx]
    obtain ⟨p, vs, rfl, h2, h3, h4⟩ := hv
    have nop : ∀ (j : Nat) ys, ρ[j]? = some (Sl.own ys) → σ[j]? = some (some (V.ref p)) → False := fun j ys hj h1 => by
      obtain ⟨b, ws, h5, h6, _⟩ := at0.rs.own j ys hj
      rw [h1] at h5
      cases h5
      exact h4 _ h6
    have h := at1.rs
    refine ⟨at1.le, at1.rel, ⟨by rw [List.length_set, List.length_set]; exact h.len, fun j e hj => ?_, fun j ys hj => ?_, fun j l ys zs b hj hl h1 h2 => ?_, fun j w hj => by
      rcases set_at hj with ⟨rfl, e, hi⟩ | ⟨hij, hj⟩
      · cases e
      · rw [List.getElem?_set_ne hij]; exact h.raw j w hj⟩, at1.tw⟩
    · rcases set_at hj with ⟨rfl, e, hi⟩ | ⟨hij, hj⟩
      · cases e
      · obtain ⟨u, h1, h2⟩ := h.val j e hj
        exact ⟨u, by rw [List.getElem?_set_ne hij]; exact h1, h2⟩
    · rcases set_at hj with ⟨rfl, e, hi⟩ | ⟨hij, hj⟩
      · cases e
        exact ⟨p, vs, by rw [List.getElem?_set_self (by rw [← h.len]; exact hi)], h2, h3, fun u hu => h4 _ (at0.le.pv _ hu)⟩
      · obtain ⟨b, ws, h1, h2⟩ := h.own j ys hj
        exact ⟨b, ws, by rw [List.getElem?_set_ne hij]; exact h1, h2⟩
    · rcases set_at hj with ⟨rfl, e, hi⟩ | ⟨hij, hj⟩
      · rcases set_at hl with ⟨e2, _, _⟩ | ⟨hil, hl⟩
        · exact e2
        · rw [List.getElem?_set_self (by rw [← h.len]; exact hi)] at h1
          cases h1
          rw [List.getElem?_set_ne hil] at h2
          exact (nop _ _ hl h2).elim
      · rw [List.getElem?_set_ne hij] at h1
        rcases set_at hl with ⟨rfl, e, hi⟩ | ⟨hil, hl⟩
        · rw [List.getElem?_set_self (by rw [← h.len]; exact hi)] at h2
          cases h2
          exact (nop _ _ hj h1).elim
        · rw [List.getElem?_set_ne hil] at h2
          exact h.inj j l _ _ b hj hl h1 h2
theorem pss_ex {I : Type} {st : List Stmt} {T : I → TS} (h : ∀ i, PSs X st (T i)) : PSs X st (fun De σ H => ∃ i, T i De σ H) := ⟨fun pins s σ H De I ⟨i, q⟩ => (h i).run pins s σ H De I q⟩
theorem s_set {α : Type} {rest : List Stmt} {tg e : Expr} {i : Nat} {s : α → Sl} {t : M α} {f : α → M (Fl A B)} {pos : Pos} (he : PEk X C ρ e s t) (hg : PG X tg (gName i)) (hr : ∀ a, PSsc X C (ρ.set i (s a)) rest oa ob (f a)) (hs : swapsWithSole [tg] e pos.line X.env = pure false := by rfl) (hw : swappedStores [tg] e X.env = pure none := by rfl)
    (h1 : (assignEach [tg] X.env).map (·.2) = [assign tg X.env] := by rfl) : PSsc X C ρ (.Assign [tg] e pos :: rest) oa ob (bnd t f) := by
  refine pss_imp (pss_cons (ps_asg he hg hs hw h1) (pss_ex hr)) fun De σ H q => ?_
  obtain ⟨g, m, at0, q⟩ := q
  refine ⟨g, m, at0, PostS.bind at0.le q fun g1 H1 m1 v x p t1 rel1 hv q1 => ?_⟩
  exact ⟨x, g1, m1, At.setK at0 (at0.mono p t1 rel1) hv, q1⟩
/-- targets that are patterns -/
theorem s_asgP {rest : List Stmt} {tg e : Expr} {is : List Nat} {P : Pt} {t : M D} {f : D → M (Fl A B)} {pos : Pos} (he : PEc X C ρ e t) (hg : PGc X C tg is P) (hr : ∀ x, Bd1 P ρ x (f x) fun ρ' t => PSsc X C ρ' rest oa ob t) (hs : swapsWithSole [tg] e pos.line X.env = pure false := by rfl) (hw : swappedStores [tg] e X.env = pure none := by rfl)
    (h1 : (assignEach [tg] X.env).map (·.2) = [assign tg X.env] := by rfl) : PSsc X C ρ (.Assign [tg] e pos :: rest) oa ob (bnd t f) := by
  have hr' : PSs X rest (fun De σ H => ∃ ρ' t, PSsc X C ρ' rest oa ob t ∧ tS ⟨X.K, C.cls⟩ C oa ob ρ' t De σ H) := ⟨fun pins s σ H De I q => by
    obtain ⟨ρ', t, h, q⟩ := q
    exact h.run pins s σ H De I q⟩
  refine pss_imp (pss_cons (ps_asg he hg hs hw h1) hr') fun De σ H q => ?_
  obtain ⟨g, m, at0, q⟩ := q
  refine ⟨g, m, at0, PostS.bind at0.le q fun g1 H1 m1 v x p t1 rel1 hv q1 => ?_⟩
  rcases hr x with hb | ⟨ρ', hb, hT⟩
  · rw [hb] at q1
    exact q1.elim
  · exact ⟨g1, m1, ρ, x, ρ', at0.mono p t1 rel1, hv, hb, fun σ' at1 _ => ⟨ρ', f x, hT, g1, m1, at1, q1⟩⟩
theorem s_par {α β : Type} {rest : List Stmt} {i j : Nat} {x y : Str} {a b : Expr} {s1 : α → Sl} {s2 : β → Sl} {ta : M α} {tb : M β} {f : α → β → M (Fl A B)} {px py pt pos : Pos} {kt k2 pt2} (hc : X.calm = true) (hN : X.N.Nodup) (hi : X.N[i]? = some x) (hj : X.N[j]? = some y) (hij : i ≠ j)
    (hx : X.env.scope.names.lookup x = some .local) (hy : X.env.scope.names.lookup y = some .local) (ha : PEk X C ρ a s1 ta) (hb : PEk X C ρ b s2 tb) (hr : ∀ u v, PSsc X C ((ρ.set i (s1 u)).set j (s2 v)) rest oa ob (f u v))
    (hw : swappedStores [.Tuple [.Name x px, .Name y py] kt pt] (.Tuple [a, b] k2 pt2) X.env = pure (some [x, y]))
    (hs : swapsWithSole [.Tuple [.Name x px, .Name y py] kt pt] (.Tuple [a, b] k2 pt2) pos.line X.env = pure false := by rfl) (hs1 : starEach [a, b] X.env = (false, eval a X.env) :: starEach [b] X.env := by rfl) (hs2 : starEach [b] X.env = (false, eval b X.env) :: starEach [] X.env := by rfl) :
    PSsc X C ρ (.Assign [.Tuple [.Name x px, .Name y py] kt pt] (.Tuple [a, b] k2 pt2) pos :: rest) oa ob (bnd ta fun u => bnd tb fun v => f u v) := by
  refine pss_imp (pss_cons (ps_par hc hN hi hj hij hx hy (pa_cons ha (pa_cons hb pa_nil hs2) hs1) hw hs) (pss_ex (T := fun p : α × β => tS ⟨X.K, C.cls⟩ C oa ob ((ρ.set i (s1 p.1)).set j (s2 p.2)) (f p.1 p.2)) fun p => hr p.1 p.2)) fun De σ H q => ?_
  obtain ⟨g, m, at0, q⟩ := q
  refine ⟨g, m, at0, PostS.bind at0.le q fun g1 H1 m1 v1 x1 p1 t1 rel1 hv1 q1 => ?_⟩
  have at1 := at0.mono p1 t1 rel1
  refine ⟨g1, m1, at1, PostS.bind at1.le q1 fun g2 H2 m2 v2 x2 p2 t2 rel2 hv2 q2 => ?_⟩
  have at2 := at1.mono p2 t2 rel2
  refine ⟨_, _, rfl, (x1, x2), g2, m2, ?_, q2⟩
  have hv1' : rK X.K s1 g g2 H2 v1 x1 := by
    unfold rK at hv1 ⊢
    split at hv1
    · exact hv1
    · exact hv1
    · exact hv1.mono p2.v t2
    · obtain ⟨p, vs, e, h2, h3, h4⟩ := hv1
      exact ⟨p, vs, e, p2.pv _ h2, h3.mono p2.v t2, h4⟩
  have atA := At.setK (i := i) at0 at2 hv1'
  have atB : At ⟨X.K, C.cls⟩ C (ρ.set i (s1 x1)) (σ.set i (some v1)) H1 g1 m1 := At.setK at0 at1 hv1
  exact At.setK (i := j) atB atA hv2
theorem s_par3 {α β γ : Type} {rest : List Stmt} {i j l : Nat} {x y z : Str} {a b c : Expr} {s1 : α → Sl} {s2 : β → Sl} {s3 : γ → Sl} {ta : M α} {tb : M β} {tc : M γ} {f : α → β → γ → M (Fl A B)} {px py pz pt pos : Pos} {kt k2 pt2} (hc : X.calm = true) (hN : X.N.Nodup) (hi : X.N[i]? = some x) (hj : X.N[j]? = some y) (hl : X.N[l]? = some z) (hij : i ≠ j) (hil : i ≠ l) (hjl : j ≠ l)
    (hx : X.env.scope.names.lookup x = some .local) (hy : X.env.scope.names.lookup y = some .local) (hz : X.env.scope.names.lookup z = some .local) (ha : PEk X C ρ a s1 ta) (hb : PEk X C ρ b s2 tb) (hc' : PEk X C ρ c s3 tc) (hr : ∀ u v w, PSsc X C (((ρ.set i (s1 u)).set j (s2 v)).set l (s3 w)) rest oa ob (f u v w))
    (hw : swappedStores [.Tuple [.Name x px, .Name y py, .Name z pz] kt pt] (.Tuple [a, b, c] k2 pt2) X.env = pure (some [x, y, z]))
    (hs : swapsWithSole [.Tuple [.Name x px, .Name y py, .Name z pz] kt pt] (.Tuple [a, b, c] k2 pt2) pos.line X.env = pure false := by rfl) (hs1 : starEach [a, b, c] X.env = (false, eval a X.env) :: starEach [b, c] X.env := by rfl) (hs2 : starEach [b, c] X.env = (false, eval b X.env) :: starEach [c] X.env := by rfl) (hs3 : starEach [c] X.env = (false, eval c X.env) :: starEach [] X.env := by rfl) :
    PSsc X C ρ (.Assign [.Tuple [.Name x px, .Name y py, .Name z pz] kt pt] (.Tuple [a, b, c] k2 pt2) pos :: rest) oa ob (bnd ta fun u => bnd tb fun v => bnd tc fun w => f u v w) := by
  refine pss_imp (pss_cons (ps_par3 hc hN hi hj hl hij hil hjl hx hy hz (pa_cons ha (pa_cons hb (pa_cons hc' pa_nil hs3) hs2) hs1) hw hs) (pss_ex (T := fun p : α × β × γ => tS ⟨X.K, C.cls⟩ C oa ob (((ρ.set i (s1 p.1)).set j (s2 p.2.1)).set l (s3 p.2.2)) (f p.1 p.2.1 p.2.2)) fun p => hr p.1 p.2.1 p.2.2)) fun De σ H q => ?_
  obtain ⟨g, m, at0, q⟩ := q
  have up : ∀ {δ : Type} {s : δ → Sl} {ga gb gc : Gh} {Hb Hc : Hp} {v : V} {x : δ}, Le gb gc → TK Hb Hc → rK X.K s ga gb Hb v x → rK X.K s ga gc Hc v x := fun {δ s ga gb gc Hb Hc v x} p t hv => by
    unfold rK at hv ⊢
    split at hv
    · exact hv
    · exact hv
    · exact hv.mono p.v t
    · obtain ⟨a, vs, e, h2, h3, h4⟩ := hv
      exact ⟨a, vs, e, p.pv _ h2, h3.mono p.v t, h4⟩
  refine ⟨g, m, at0, PostS.bind at0.le q fun g1 H1 m1 v1 x1 p1 t1 rel1 hv1 q1 => ?_⟩
  have at1 := at0.mono p1 t1 rel1
  refine ⟨g1, m1, at1, PostS.bind at1.le q1 fun g2 H2 m2 v2 x2 p2 t2 rel2 hv2 q2 => ?_⟩
  have at2 := at1.mono p2 t2 rel2
  refine ⟨g2, m2, at2, PostS.bind at2.le q2 fun g3 H3 m3 v3 x3 p3 t3 rel3 hv3 q3 => ?_⟩
  have at3 := at2.mono p3 t3 rel3
  refine ⟨_, _, _, rfl, (x1, x2, x3), g3, m3, ?_, q3⟩
  have a11 : At ⟨X.K, C.cls⟩ C (ρ.set i (s1 x1)) (σ.set i (some v1)) H1 g1 m1 := At.setK at0 at1 hv1
  have a12 : At ⟨X.K, C.cls⟩ C (ρ.set i (s1 x1)) (σ.set i (some v1)) H2 g2 m2 := a11.mono p2 t2 rel2
  have a13 : At ⟨X.K, C.cls⟩ C (ρ.set i (s1 x1)) (σ.set i (some v1)) H3 g3 m3 := a12.mono p3 t3 rel3
  have a22 : At ⟨X.K, C.cls⟩ C ((ρ.set i (s1 x1)).set j (s2 x2)) ((σ.set i (some v1)).set j (some v2)) H2 g2 m2 := At.setK a11 a12 hv2
  have a23 := a22.mono p3 t3 rel3
  exact At.setK (i := l) a22 a23 hv3
end
end G

set_option Elab.async false
set_option linter.all false
set_option maxRecDepth 100000
set_option maxHeartbeats 2000000
namespace G
open PySem L2
section
variable {X : Cx} {C : Cc} {ρ : List Sl} {k : Nat} {A B A' B' : Type} {oa : A → List Sl} {ob : B → List Sl} {oa' : A' → List Sl} {g g' : Gh} {H H' : Hp} {De : Ends} {Γ : Cst} {σ : L2.St} {m : Hs}
/-! ### targets -/
def gT (Γ : Cst) (C : Cc) (ρ : List Sl) (t : D → M Unit) : TG := fun v σ H Q => ∃ g m d, At Γ C ρ σ H g m ∧ Rep Γ.K g H v d ∧
  (match t d m with
    | .ok _ m' => ∀ g' H', Le g g' → TK H H' → Rel Γ g' m' H' → Q σ H'
    | .ex c fs m' => ∀ σ, PostX Γ C.W σ C.gB H c fs m'
    | .bad => False)
abbrev PTg (X : Cx) (C : Cc) (ρ : List Sl) (e : Expr) (t : D → M Unit) : Prop := PG X e (gT ⟨X.K, C.cls⟩ C ρ t)
theorem put_in {f : Hs → Option Hs} {R : Unit → Hs → Prop} {P : Nat → List (Str × D) → Hs → Prop} (q : match put f m with | .ok _ m' => R () m' | .ex c fs m' => P c fs m' | .bad => False) : ∃ m', f m = some m' ∧ R () m' := by
  unfold put at q
  cases hz : f m with
  | none => rw [hz] at q; exact q.elim
  | some m' => rw [hz] at q; exact ⟨m', rfl, q⟩
theorem tg_sub {o i : Expr} {a b : M D} {pos : Pos} (ho : PEc X C ρ o a) (hi : PEc X C ρ i b) (ha : ∀ v, assign (.Subscript o i pos) X.env v = (do
      let ov ← holding [v] (eval o X.env)
      let iv ← holding [v, ov] (eval i X.env)
      standAt pos
      holding [v, ov, iv] (setItem ov iv v)
      release [v, ov, iv] []) := by intro _; rfl) : PTg X C ρ (.Subscript o i pos) (subT a b) := pg_imp (pg_sub ho hi set_list ha) fun v σ H Q q => by
  obtain ⟨g, m, d, at0, hv, q⟩ := q
  refine ⟨g, m, at0, ?_⟩
  unfold subT bnd at q
  cases hz : a m with
  | ok x m1 =>
    rw [hz, bind_ok] at q
    intro g1 H1 w p t rel1 hw
    refine ⟨g1, m1, at0.mono p t rel1, ?_⟩
    cases hz2 : b m1 with
    | ok y m2 =>
      simp only [hz2, bind_ok] at q
      intro g2 H2 w2 p2 t2 rel2 hw2
      obtain ⟨m3, hs, q⟩ := put_in (P := fun c fs m' => ∀ σ, PostX ⟨X.K, C.cls⟩ C.W σ C.gB H c fs m') (R := fun _ m' => ∀ g' H', Le g g' → TK H H' → Rel ⟨X.K, C.cls⟩ g' m' H' → Q σ H') q
      have hw' := hw.mono p2.v t2
      cases hw' with
      | @ref aa nn hg =>
        cases hw2 with
        | int kk =>
          simp only [itmO] at hs
          cases hn : m2[nn]? with
          | none => rw [hn] at hs; cases hs
          | some ob =>
            rw [hn] at hs
            cases ob with
            | ins c fs => cases hs
            | exc c fs => cases hs
            | dct _ _ => cases hs
            | lst ds =>
              simp only at hs
              cases hj : ixD ds.length kk with
              | none => rw [hj] at hs; cases hs
              | some j =>
                rw [hj] at hs
                cases hs
                obtain ⟨xs, h1, h2⟩ := rel2.lst hn hg
                have mu : Mut (H2 aa) := by rw [h1]; trivial
                refine ⟨_, xs, kk, j, rfl, rfl, h1, by rw [h2.length]; exact hj, q g2 _ (p.trans p2) ((t.trans t2).trans (TK.mut mu)) (rel2.write mu hg ⟨_, upd_same, ?_⟩)⟩
                exact (h2.mono (Lv0.refl g2) (TK.mut mu)).set (((hv.mono p.v t).mono p2.v t2).mono (Lv0.refl g2) (TK.mut mu)) j
        | _ => simp [itmO] at hs
      | _ => cases hw2 <;> simp [itmO] at hs
    | ex c fs m2 => simp only [hz2] at q; exact PostX.mono (at0.le.trans p) t (q σ)
    | bad => simp only [hz2] at q; exact q
  | ex c fs m1 => rw [hz] at q; exact PostX.mono at0.le (TK.refl _) (q σ)
  | bad => rw [hz] at q; exact q
/-- what a store leaves -/
theorem tgt_then {t : D → M Unit} {d : D} {v : V} {f : M (Fl A B)} {Q : L2.St → Hp → Prop} (at0 : At ⟨X.K, C.cls⟩ C ρ σ H g m) (hv : Rep X.K g H v d) (q : PostS ⟨X.K, C.cls⟩ C oa ob g H De (bnd (t d) (fun _ => f) m))
    (k : ∀ g' H' m', At ⟨X.K, C.cls⟩ C ρ σ H' g' m' → Le g g' → TK H H' → PostS ⟨X.K, C.cls⟩ C oa ob g' H' De (f m') → Q σ H') : gT ⟨X.K, C.cls⟩ C ρ t v σ H Q := by
  refine ⟨g, m, d, at0, hv, ?_⟩
  unfold bnd at q
  cases hz : t d m with
  | ok r m1 => rw [hz, bind_ok] at q; exact fun g' H' p t' rel' => k g' H' m1 (at0.mono p t' rel') p t' (PostS.mono p.v t' q)
  | ex c fs m1 => rw [hz] at q; exact q
  | bad => rw [hz] at q; exact q
theorem s_tgt {rest : List Stmt} {tg e : Expr} {c : M D} {t : D → M Unit} {f : M (Fl A B)} {pos : Pos} (he : PEc X C ρ e c) (hg : PTg X C ρ tg t) (hr : PSsc X C ρ rest oa ob f) (hs : swapsWithSole [tg] e pos.line X.env = pure false := by rfl) (hw : swappedStores [tg] e X.env = pure none := by rfl)
    (h1 : (assignEach [tg] X.env).map (·.2) = [assign tg X.env] := by rfl) : PSsc X C ρ (.Assign [tg] e pos :: rest) oa ob (bnd c fun x => bnd (t x) fun _ => f) := pss_imp (pss_cons (ps_asg he hg hs hw h1) hr) fun De σ H q => by
  obtain ⟨g, m, at0, q⟩ := q
  refine ⟨g, m, at0, PostS.bind at0.le q fun g1 H1 m1 v x p t1 rel1 hv q1 => ?_⟩
  exact tgt_then (at0.mono p t1 rel1) hv q1 fun g' H' m' at1 _ _ q2 => ⟨g', m', at1, q2⟩
theorem PostS.ask {α : Type} {f : Hs → Option α} {h : α → M (Fl A B)} (q : PostS Γ C oa ob g H De (bnd (ask f) h m)) : ∃ x, f m = some x ∧ PostS Γ C oa ob g H De (h x m) := by
  unfold bnd G.ask at q
  cases hz : f m with
  | none => rw [hz] at q; exact q.elim
  | some x => rw [hz] at q; exact ⟨x, rfl, q⟩
theorem PostS.put {f : Hs → Option Hs} {h : M (Fl A B)} (q : PostS Γ C oa ob g H De (bnd (put f) (fun _ => h) m)) : ∃ m', f m = some m' ∧ PostS Γ C oa ob g H De (h m') := by
  unfold bnd G.put at q
  cases hz : f m with
  | none => rw [hz] at q; exact q.elim
  | some x => rw [hz] at q; exact ⟨x, rfl, q⟩
/-! ### x op= e -/
theorem augS_ok {W : WX} {o : Op} {f : Int → Int → Int} (hf : ∀ i j, augS o (.int i) (.int j) = ret (.int (f i j))) (hb : ∀ x y, (∀ i j, ¬ (x = .int i ∧ y = .int j)) → augS o x y = bad) {K : PySem.W.Frag} {h : D → M (Fl A B)} {vx vy : V} {x y : D} (hx : Rep K g H vx x) (hy : Rep K g H vy y) (q : PostS Γ C oa ob g H De (bnd (augS o x y) h m)) :
    ∃ i j, vx = .int i ∧ vy = .int j ∧ PostS Γ C oa ob g H De (h (.int (f i j)) m) := by
  cases hx with
  | int i => cases hy with
    | int j => rw [hf] at q; exact ⟨i, j, rfl, rfl, q⟩
    | _ => rw [hb _ _ (fun i j z => by cases z.2)] at q; exact q.elim
  | _ => rw [hb _ _ (fun i j z => by cases z.1)] at q; exact q.elim
theorem augS_add (x y : D) (h : ∀ i j, ¬ (x = .int i ∧ y = .int j)) : augS .add x y = bad := by
  cases x <;> cases y <;> first | rfl | exact absurd ⟨rfl, rfl⟩ (h _ _)
theorem s_aug {rest : List Stmt} {i : Nat} {x : Str} {e : Expr} {c : M D} {d : D} {o : Op} {op : Operator} {f : Int → Int → Int} {r : D → M (Fl A B)} {pos pos' : Pos} (hf : ∀ i j, augS o (.int i) (.int j) = ret (.int (f i j))) (hb : ∀ x y, (∀ i j, ¬ (x = .int i ∧ y = .int j)) → augS o x y = bad) (ho : PIp X op (ipI f))
    (hN : X.N.Nodup) (hi : X.N[i]? = some x) (hx : Loc X.env.scope x) (hd : ρ[i]? = some (.val d)) (he : PEc X C ρ e c) (hr : ∀ z, PSsc X C (ρ.set i (.val z)) rest oa ob (r z)) (hfn : X.fn x = true ∨ X.env.scope.names.lookup x = some .local := by first | exact .inl rfl | exact .inr rfl | assumption) : PSsc X C ρ (.AugAssign (.Name x pos') op e pos :: rest) oa ob (bnd c fun y => bnd (augS o d y) r) :=
  pss_imp (pss_cons (ps_aug hN hi hx he ho hfn) (pss_ex hr)) fun De σ H q => by
    obtain ⟨g, m, at0, q⟩ := q
    obtain ⟨v, h1, h2⟩ := at0.rs.val i d hd
    refine ⟨v, h1, g, m, at0, PostS.bind at0.le q fun g1 H1 m1 w y p t rel1 hw q1 => ?_⟩
    obtain ⟨a, b, rfl, rfl, q2⟩ := augS_ok (W := C.W) hf hb (h2.mono p.v t) hw q1
    exact ⟨a, b, rfl, rfl, _, g1, m1, (at0.mono p t rel1).set (.int _) i, q2⟩
/-! ### append, extend -/
theorem s_app {rest : List Stmt} {o e : Expr} {i : Nat} {xs : List D} {c : M D} {f : List D → M (Fl A B)} {pos ap cp : Pos} (ho : PE X o (tVar i)) (hi : ρ[i]? = some (.own xs)) (he : PEc X C ρ e c) (hr : ∀ ys, PSsc X C (ρ.set i (.own ys)) rest oa ob (f ys))
    (h : ∀ {to : TE} {t : TA}, PE X o to → PA X [e] t → PE X (.Call (.Attribute o "append" ap) [e] [] cp) (tBM X.K "list" rAppend to t)) (hst : starEach [e] X.env = [(false, eval e X.env)] := by rfl) (hs : swapsWith (.Call (.Attribute o "append" ap) [e] [] cp) none pos.line X.env = pure false := by rfl) :
    PSsc X C ρ (.Expr (.Call (.Attribute o "append" ap) [e] [] cp) pos :: rest) oa ob (appO xs c f) := pss_imp (pss_cons (ps_expr (h ho (pa_cons he pa_nil hst)) hs) (pss_ex hr)) fun De σ H q => by
  obtain ⟨g, m, at0, q⟩ := q
  obtain ⟨p, vs, h1, h2, h3, h4, h5⟩ := at0.own hi
  refine ⟨_, h1, .inl ⟨rfl, _, SqL.of h3⟩, g, m, at0, PostS.bind at0.le q fun g2 H2 m2 w y p2 t2 rel2 hw q2 => ?_⟩
  have at2 := at0.mono p2 t2 rel2
  split at q2
  · rename_i hlen
    have h2' := p2.pv _ h2
    have h3' := rel2.prv _ _ h2'
    have mu : Mut (H2 p) := by rw [h3']; trivial
    have r' : RepL X.K g2 H2 (vs ++ [w]) (xs ++ [y]) := (h4.mono p2.v t2).append (.cons hw .nil)
    have lv : Lv0 g2 ((g2.outP p).addP p (HO.lst (vs ++ [w]))) := ⟨List.prefix_refl _, fun _ z => z⟩
    refine ⟨p, vs, w, rfl, rfl, h3', by rw [h4.length]; exact hlen, xs ++ [y], (g2.outP p).addP p (.lst (vs ++ [w])), m2, ⟨⟨at2.le.hs, at2.le.fz, fun q hq => List.mem_cons_of_mem _ (mem_outP.mpr ⟨at2.le.pv q hq, fun z => h5 q.2 (by have z : q.1 = p := z; rw [← z]; exact hq)⟩)⟩, rel2.setP mu h2', RelS.setP (vs0 := vs) rel2 at2.rs hi h1 mu h5 r', at2.tw.go (TK.mut mu)⟩, PostS.mono lv (TK.mut mu) q2⟩
  · exact q2.elim
end
end G

set_option Elab.async false
set_option linter.all false
set_option maxRecDepth 100000
set_option maxHeartbeats 2000000
namespace G
open PySem L2 PySem.Spec PyProof.Rows
section
variable {X : Cx} {C : Cc} {ρ : List Sl} {k : Nat} {A B A' B' : Type} {oa : A → List Sl} {ob : B → List Sl} {oa' : A' → List Sl} {oi : A' → List Sl} {g g' : Gh} {H H' : Hp} {De : Ends} {Γ : Cst} {σ : L2.St} {m : Hs}
theorem stay_of {gd : List (Nat × List D)} {m : Hs} {α : Type} {f : Unit → M α} (h : stays gd m = true) : bnd (stay gd) f m = f () m := by
  unfold bnd stay
  rw [if_pos h]
  rfl
theorem PostS.stay {gd : List (Nat × List D)} {f : Unit → M (Fl A B)} (q : PostS Γ C oa ob g H De (bnd (G.stay gd) f m)) : stays gd m = true ∧ PostS Γ C oa ob g H De (f () m) := by
  by_cases h : stays gd m = true
  · rw [stay_of h] at q
    exact ⟨h, q⟩
  · unfold bnd G.stay at q
    rw [if_neg h] at q
    exact q.elim
/-! ### for -/
theorem for_ok {tg iter : Expr} {body : List Stmt} {is : List Nat} {P : Pt} {src : M Its} {s0 : A'} {b : D → A' → M (Fl A' A')} {pos : Pos} (hp : PassesOwn (model X.prog X.w) X.A X.env X.xe) (hc : X.calm = true) (hi : PIc X C ρ tg iter src) (hg : PGc X C tg is P) (h0 : Sub (oi s0) ρ)
    (hb : ∀ x s, Bd1 P (oi s) x (b x s) fun ρ' t => PSsc X C ρ' body oi oi t)
    (hs : ∀ x, foldedSetIterable iter X.env x = pure x := by intro _; rfl) : PS X (.For tg iter body [] pos) (tS ⟨X.K, C.cls⟩ C oi ob ρ (forM src s0 b)) := by
  have hb' : PSs X body (fun De σ H => ∃ ρ' t, PSsc X C ρ' body oi oi t ∧ tS ⟨X.K, C.cls⟩ C oi oi ρ' t De σ H) := ⟨fun pins s σ H De I q => by
    obtain ⟨ρ', t, h, q⟩ := q
    exact h.run pins s σ H De I q⟩
  refine ps_imp (ps_for hp hc hi hg hb' hs) fun De σ H q => ?_
  obtain ⟨g, m, at0, q⟩ := q
  refine ⟨g, m, at0, PostS.bind at0.le q fun g1 H1 m1 J z p1 t1 rel1 hv1 q1 => ?_⟩
  obtain ⟨its, gd⟩ := z
  have at1 := at0.mono p1 t1 rel1
  refine ⟨fun i n σ' H' => n = its.length - i ∧ ∃ g m s, Lv0 g1 g ∧ TK H1 H' ∧ At ⟨X.K, C.cls⟩ C (oi s) σ' H' g m ∧ PostS ⟨X.K, C.cls⟩ C oi ob g H' De (forL gd b (its.drop i) s m),
    ⟨its.length, by simp, g1, m1, s0, Lv0.refl _, TK.refl _, at1.less h0, by simpa using q1⟩, ?_⟩
  rintro i n σ' H' ⟨rfl, g2, m2, s2, pg, tk, at2, q2⟩
  have rel2 := at2.rel
  have st : stays gd m2 = true := by
    cases hd : its.drop i with
    | nil => rw [hd] at q2; exact (PostS.stay q2).1
    | cons x xs => rw [hd] at q2; exact (PostS.stay q2).1
  have hI := hv1 g2 m2 H' pg tk rel2 st i
  cases hit : its[i]? with
  | none =>
    refine .inl ⟨hI.2 hit, ?_⟩
    have hd : its.drop i = [] := List.drop_eq_nil_of_le (List.getElem?_eq_none_iff.mp hit)
    rw [hd] at q2
    exact PostS.nx (PostS.stay q2).2 at2
  | some d =>
    obtain ⟨hgo, hy⟩ := hI.1 d hit
    have hil : i < its.length := (List.getElem?_eq_some_iff.mp hit).1
    have hd : its.drop i = d :: its.drop (i + 1) := by
      rw [List.drop_eq_getElem_cons hil]
      congr 1
      exact (List.getElem?_eq_some_iff.mp hit).2
    rw [hd] at q2
    have q2' := (PostS.stay q2).2
    clear q2
    refine .inr ⟨hgo, fun σ3 H3 => ∃ g m s, Lv0 g1 g ∧ TK H1 H3 ∧ At ⟨X.K, C.cls⟩ C (oi s) σ3 H3 g m ∧ PostS ⟨X.K, C.cls⟩ C oi ob g H3 De (forL gd b (its.drop (i + 1)) s m),
      fun σ3 H3 h3 => ⟨its.length - (i + 1), by omega, rfl, h3⟩, fun x H3 y => ?_⟩
    obtain ⟨tk3, rel3, hx3⟩ := hy x H3 y
    have q3 := PostS.mono (Lv0.refl g2) tk3 q2'
    have at3 := at2.keep tk3 rel3
    rcases hb d s2 with hbad | ⟨ρ', hbp, hT⟩
    · rw [hbad] at q3
      exact q3.elim
    · refine ⟨g2, m2, oi s2, d, ρ', at3, hx3, hbp, fun σ4 at4 _ => ⟨ρ', b d s2, hT, g2, m2, at4, ?_⟩⟩
      unfold bnd at q3
      cases hz : b d s2 m2 with
      | ok o m3 =>
        rw [hz, bind_ok] at q3
        cases o with
        | nx s4 => exact fun g5 H5 σ5 p5 t5 at5 => ⟨g5, m3, s4, pg.trans p5, (tk.trans tk3).trans t5, at5, PostS.mono p5 t5 q3⟩
        | ct s4 => exact fun g5 H5 σ5 p5 t5 at5 => ⟨g5, m3, s4, pg.trans p5, (tk.trans tk3).trans t5, at5, PostS.mono p5 t5 q3⟩
        | bk s4 => exact fun g5 H5 σ5 p5 t5 at5 => q3 g5 H5 σ5 p5 t5 at5
        | rt d => exact q3
      | ex c fs m3 => rw [hz] at q3; exact q3
      | bad => rw [hz] at q3; exact q3
theorem s_for {rest : List Stmt} {tg iter : Expr} {body : List Stmt} {is : List Nat} {P : Pt} {src : M Its} {s0 : A'} {b : D → A' → M (Fl A' A')} {f : A' → M (Fl A B)} {pos : Pos} (hp : PassesOwn (model X.prog X.w) X.A X.env X.xe) (hc : X.calm = true) (oi : A' → List Sl) (hi : PIc X C ρ tg iter src) (hg : PGc X C tg is P) (h0 : Sub (oi s0) ρ)
    (hb : ∀ x s, Bd1 P (oi s) x (b x s) fun ρ' t => PSsc X C ρ' body oi oi t) (hr : ∀ s, PSsc X C (oi s) rest oa ob (f s))
    (hs : ∀ x, foldedSetIterable iter X.env x = pure x := by intro _; rfl) : PSsc X C ρ (.For tg iter body [] pos :: rest) oa ob (seq (forM src s0 b) f) := s_seq (for_ok hp hc hi hg h0 hb hs) hr
/-! ### while -/
theorem whl_ok {e : Expr} {c : A' → M D} {body : List Stmt} {b : A' → M (Fl A' A')} {s0 : A'} {pos : Pos} (hp : PassesOwn (model X.prog X.w) X.A X.env X.xe) (h0 : Sub (oi s0) ρ) (hc : ∀ s, PTc X C (oi s) e (c s)) (hb : ∀ s, PSsc X C (oi s) body oi oi (b s)) : PS X (.While e body [] pos) (tS ⟨X.K, C.cls⟩ C oi ob ρ (whlM c s0 b)) := by
  have hc' : PT X e (fun σ H Q => ∃ s, tT ⟨X.K, C.cls⟩ C (oi s) (c s) σ H Q) := ⟨fun pins t σ H Q I q => by
    obtain ⟨s, q⟩ := q
    exact (hc s).run pins t σ H Q I q⟩
  refine ps_imp (ps_while hp hc' (pss_ex hb)) fun De σ H q => ?_
  obtain ⟨g, m, at0, q⟩ := q
  refine ⟨fun n σ' H' => ∃ g m s, At ⟨X.K, C.cls⟩ C (oi s) σ' H' g m ∧ PostS ⟨X.K, C.cls⟩ C oi ob g H' De (whlL c b n s m), ⟨whileMost, g, m, s0, at0.less h0, q⟩, ?_⟩
  rintro n σ1 H1 ⟨g1, m1, s1, at1, q1⟩
  refine ⟨s1, g1, m1, at1, ?_⟩
  cases n with
  | zero => exact q1.elim
  | succ n =>
    unfold bnd
    simp only [whlL, bnd] at q1
    cases hz : c s1 m1 with
    | ok x m2 =>
      rw [hz, bind_ok] at q1
      rw [bind_ok]
      cases ht : truth x m2 with
      | none =>
        have e : tru x m2 = .bad := by unfold tru ask; rw [ht]
        rw [e] at q1
        exact q1.elim
      | some k =>
        rw [tru_of ht, bind_ok] at q1
        rw [tru_of ht]
        intro g2 H2 v p t rel2 e
        subst e
        have at2 := at1.mono p t rel2
        have q2 := PostS.mono p.v t q1
        cases v with
        | false => exact iteF (PostS.nx q2 at2)
        | true =>
          refine iteT ⟨fun σ3 H3 => ∃ g m s, At ⟨X.K, C.cls⟩ C (oi s) σ3 H3 g m ∧ PostS ⟨X.K, C.cls⟩ C oi ob g H3 De (whlL c b n s m), fun σ3 H3 h3 => ⟨n, Nat.lt_succ_self n, h3⟩, s1, g2, m2, at2, ?_⟩
          rw [if_pos rfl] at q2
          unfold bnd at q2
          cases hz2 : b s1 m2 with
          | ok o m3 =>
            rw [hz2, bind_ok] at q2
            cases o with
            | nx r4 => exact fun g5 H5 σ5 p5 t5 at5 => ⟨g5, m3, r4, at5, PostS.mono p5 t5 q2⟩
            | ct r4 => exact fun g5 H5 σ5 p5 t5 at5 => ⟨g5, m3, r4, at5, PostS.mono p5 t5 q2⟩
            | bk r4 => exact fun g5 H5 σ5 p5 t5 at5 => q2 g5 H5 σ5 p5 t5 at5
            | rt d => exact q2
          | ex c fs m3 => rw [hz2] at q2; exact q2
          | bad => rw [hz2] at q2; exact q2
    | ex c' fs m2 => rw [hz] at q1; exact PostX.mono at1.le (TK.refl _) (q1 σ1)
    | bad => rw [hz] at q1; exact q1
theorem s_while {rest : List Stmt} {e : Expr} {c : A' → M D} {body : List Stmt} {b : A' → M (Fl A' A')} {s0 : A'} {f : A' → M (Fl A B)} {pos : Pos} (hp : PassesOwn (model X.prog X.w) X.A X.env X.xe) (oi : A' → List Sl) (h0 : Sub (oi s0) ρ) (hc : ∀ s, PTc X C (oi s) e (c s)) (hb : ∀ s, PSsc X C (oi s) body oi oi (b s)) (hr : ∀ s, PSsc X C (oi s) rest oa ob (f s)) :
    PSsc X C ρ (.While e body [] pos :: rest) oa ob (seq (whlM c s0 b) f) := s_seq (whl_ok hp h0 hc hb) hr
end

/-! ### a def -/
theorem gcL_len : ∀ {n : Nat} {m m1 : Hs}, gcL n m m1 = true → m.length ≤ m1.length
  | _, [], _, _ => Nat.zero_le _
  | _, _ :: _, [], h => by simp [gcL] at h
  | n, o :: os, p :: ps, h => by
    simp only [gcL, Bool.and_eq_true] at h
    simp only [List.length_cons]
    exact Nat.succ_le_succ (gcL_len h.2)
theorem gcL_at : ∀ {n : Nat} {m m1 : Hs} {i : Nat} {o p : O}, gcL n m m1 = true → m[i]? = some o → m1[i]? = some p → o = p ∨ belowO n p = true
  | _, [], _, _, _, _, _, h, _ => by simp at h
  | _, _ :: _, [], _, _, _, h, _, _ => by simp [gcL] at h
  | n, a :: os, b :: ps, 0, o, p, h, h1, h2 => by
    simp only [gcL, Bool.and_eq_true, Bool.or_eq_true] at h
    simp at h1 h2
    subst h1
    subst h2
    rcases h.1 with q | q
    · exact .inl (beqO_eq _ _ q)
    · exact .inr q
  | n, a :: os, b :: ps, i + 1, o, p, h, h1, h2 => by
    simp only [gcL, Bool.and_eq_true] at h
    exact gcL_at (i := i) h.2 (by simpa using h1) (by simpa using h2)
section
variable {Γ : Cst} {g g' : Gh} {m m1 : Hs} {H H' : Hp}
theorem ObjR.bel {a : Addr} {o : O} (h : ObjR Γ g H a o) : belowO g.hs.length o = true := by
  cases o with
  | lst ds => obtain ⟨xs, _, h2⟩ := h; exact h2.bel
  | ins c fs => obtain ⟨C, dx, vs, _, _, h2⟩ := h; exact h2.bel
  | exc c fs => obtain ⟨C, d, vs, _, _, _, h2⟩ := h; exact h2.bel
  | dct ks ds =>
    obtain ⟨kvs, _, rfl, h2⟩ := h
    simp only [belowO, Bool.and_eq_true]
    exact ⟨below_keysT _ _, h2.bel⟩
theorem ObjR.shrink {a : Addr} {o : O} {n : Nat} (h : ObjR Γ g H a o) (b : belowO n o = true) : ObjR Γ (g.cut n) H a o := by
  cases o with
  | lst ds => obtain ⟨xs, h1, h2⟩ := h; exact ⟨xs, h1, h2.shrink b⟩
  | ins c fs => obtain ⟨C, dx, vs, h0, h1, h2⟩ := h; exact ⟨C, dx, vs, h0, h1, h2.shrink b⟩
  | exc c fs => obtain ⟨C, d, vs, h0, h1, h2, h3⟩ := h; exact ⟨C, d, vs, h0, h1, h2, h3.shrink b⟩
  | dct ks ds =>
    simp only [belowO, Bool.and_eq_true] at b
    obtain ⟨kvs, h1, h2, h3⟩ := h
    exact ⟨kvs, h1, h2, h3.shrink b.2⟩
theorem pre_take {l l' : List Addr} (p : l <+: l') : l'.take l.length = l := by
  obtain ⟨r, rfl⟩ := p
  simp
theorem Rel.gc (R : Rel Γ g m H) (p : Le g g') (R' : Rel Γ g' m1 H') (c : gcL m.length m m1 = true) : Rel Γ (g'.cut m.length) (m1.take m.length) H' := by
  have hl := gcL_len c
  have hh : g'.hs.take m.length = g.hs := by rw [← R.len]; exact pre_take p.hs
  have sub : ∀ a, a ∈ (g'.cut m.length).hs → a ∈ g'.hs := fun a ha => List.mem_of_mem_take ha
  refine ⟨by show (g'.hs.take m.length).length = _; rw [hh, R.len, List.length_take]; omega, by show (g'.hs.take m.length).Nodup; rw [hh]; exact R.inj, fun i o a h1 h2 => ?_, R'.frz, R'.prv, fun a o ha => R'.hf a o (sub a ha), fun a o ha => R'.hp a o (sub a ha), R'.pf, R'.lf, R'.lp, R'.ff, R'.tab⟩
  change (g'.hs.take m.length)[i]? = some a at h2
  rw [hh] at h2
  have hi : i < m.length := by rw [← R.len]; exact (List.getElem?_eq_some_iff.mp h2).1
  rw [List.getElem?_take_of_lt hi] at h1
  have q := R'.obj i o a h1 (pre_get p.hs h2)
  have b : belowO m.length o = true := by
    rcases gcL_at c (List.getElem?_eq_getElem hi) h1 with e | e
    · have z := (R.obj i _ a (List.getElem?_eq_getElem hi) h2).bel
      rw [R.len, e] at z
      exact z
    · exact e
  exact q.shrink b
theorem le_cut (R : Rel Γ g m H) (p : Le g g') : Le g (g'.cut m.length) := ⟨by show g.hs <+: g'.hs.take m.length; rw [← R.len, pre_take p.hs]; exact List.prefix_refl _, p.fz, p.pv⟩
end
theorem relS_start {Γ : Cst} {gB g : Gh} {H : Hp} {vs : List V} {ds : List D} (r : RepL Γ.K g H vs ds) (n : Nat) : RelS Γ gB g H (ds.map Sl.val ++ List.replicate n Sl.un) (vs.map some ++ List.replicate n none) := by
  have key : ∀ (i : Nat) (s : Sl), (ds.map Sl.val ++ List.replicate n Sl.un)[i]? = some s → s = .un ∨ ∃ d v, s = .val d ∧ (vs.map some ++ List.replicate n none)[i]? = some (some v) ∧ Rep Γ.K g H v d := fun i s hd => by
    by_cases hi : i < ds.length
    · rw [List.getElem?_append_left (by simpa using hi), List.getElem?_map, Option.map_eq_some_iff] at hd
      obtain ⟨e, h1, rfl⟩ := hd
      obtain ⟨v, h3, h4⟩ := r.get h1
      exact .inr ⟨e, v, rfl, by rw [List.getElem?_append_left (by simpa [r.length] using hi), List.getElem?_map, h3]; rfl, h4⟩
    · rw [List.getElem?_append_right (by simpa using hi), List.getElem?_replicate] at hd
      split at hd
      · exact .inl (Option.some.inj hd).symm
      · cases hd
  refine ⟨by simp [r.length], fun i d hd => ?_, fun i xs hd => ?_, fun i j xs ys a hd => ?_, fun i v hd => by rcases key i _ hd with e | ⟨d', v, e, h1, h2⟩ <;> cases e⟩
  · rcases key i _ hd with e | ⟨d', v, e, h1, h2⟩
    · cases e
    · cases e
      exact ⟨v, h1, h2⟩
  · rcases key i _ hd with e | ⟨d', v, e, h1, h2⟩
    · cases e
    · cases e
  · rcases key i _ hd with e | ⟨d', v, e, h1, h2⟩
    · cases e
    · cases e
section
variable {P : Program} {w : World} {K : PySem.W.Frag} {mg : Str → Option Value} {base : Heap} {cls : Cl} {k n : Nat}
abbrev noB (e : Empty) : List Sl := nomatch e
abbrev unA (n : Nat) (_ : Unit) : List Sl := List.replicate n Sl.un
/-- a def: its body by a computation -/
theorem Fun.okG {x qual : Str} {st : Stmt} {f : Addr} {fd : FuncData} {N ps : List Str} {sp : Sp} (F : Fun K x qual st f fd) (S : FnScope N ps (defScope st))
    (len : ∀ vs H Q E, sp vs H Q E → vs.length = ps.length)
    (body : ∀ (cdv : Value) (B : Around) (out : List Env) (t : Shared) (H0 : Hp) (xs : List V) (R : VK) (E0 : XK), Room k (B.deeper (envOfC qual (defScope st) t.heap.objs.size f cdv)) → Clr gu B → sp xs H0 R E0 →
      ∃ tt, PSs (cxOf (L2.CX P w) P w K mg base N qual (defScope st) f cdv B out t H0 E0) (defBody st) tt ∧ tt { nx := fun _ H9 => R .non H9, rt := R } (start N xs) H0) :
    FnG gu P w K mg base (L2.CX P w) (k + 1) f fd ps sp := by
  obtain ⟨oc, od, kV, doc, pm, an, cdv, ct, osl, rfl, lk, hcd⟩ := F.ex
  exact fnG_of lk hcd S len (body cdv)
theorem sub_un : ∀ {ρ : List Sl} {n : Nat}, ρ.length = n → Sub (List.replicate n Sl.un) ρ
  | [], _, rfl => .nil
  | _ :: l, _, rfl => .un (sub_un (ρ := l) rfl)
theorem s_end {X : Cx} {C : Cc} {ρ : List Sl} {B : Type} {ob : B → List Sl} {n : Nat} (h : ρ.length = n := by rfl) : PSsc X C ρ [] (unA n) ob (nxt ()) := s_nil (sub_un h)
theorem fn_core {x qual : Str} {st : Stmt} {f : Addr} {fd : FuncData} {N ps : List Str} {t : List D → M D} (F : Fun K x qual st f fd) (S : FnScope N ps (defScope st)) (hl : ∀ ds, ds.length ≠ ps.length → t ds = bad)
    (walk : ∀ ds, ds.length = ps.length → ∃ bd : M (Fl Unit Empty), (t ds = fnM bd ∨ t ds = gcM (fnM bd)) ∧ ∀ (cdv : Value) (A : Around) (outer : List Env) (s : Shared) (H : Hp) (E : XK) (gB : Gh), Room k (A.deeper (envOfC qual (defScope st) s.heap.objs.size f cdv)) → Clr gu A →
      PSsc (cxOf (L2.CX P w) P w K mg base N qual (defScope st) f cdv A outer s H E) ⟨cls, fun c d _ H' => E c d H', gB, H⟩ (ds.map Sl.val ++ List.replicate (N.length - ds.length) Sl.un) (defBody st) (unA N.length) noB bd) :
    FnG gu P w K mg base (L2.CX P w) (k + 1) f fd ps (spM ⟨K, cls⟩ t) := by
  have hlen : ∀ (ds : List D) (W : WX) (Q : VK) (g : Gh) (m : Hs) (H : Hp), Post ⟨K, cls⟩ W (rD ⟨K, cls⟩) [] g H Q (t ds m) → ds.length = ps.length := fun ds W Q g m H q => by
    by_cases h : ds.length = ps.length
    · exact h
    · rw [hl ds h] at q
      exact q.elim
  refine Fun.okG F S (fun vs H Q E h => ?_) (fun cdv A outer s H vs Q E hr cl h => ?_)
  · obtain ⟨g, m, ds, rel, rv, q⟩ := h
    rw [rv.length, hlen ds _ _ _ _ _ q]
  · obtain ⟨g, m, ds, rel, rv, q⟩ := h
    obtain ⟨bd, hbd, wk⟩ := walk ds (hlen ds _ _ _ _ _ q)
    refine ⟨_, wk cdv A outer s H E g hr cl, g, m, ⟨Le.refl g, rel, ?_, TW.refl H⟩, ?_⟩
    · unfold L2.start
      rw [rv.length]
      exact relS_start rv _
    · rcases hbd with hbd | hbd
      · rw [hbd] at q
        unfold fnM bnd at q
        cases hz : bd m with
        | ok o m1 =>
          rw [hz, bind_ok] at q
          cases o with
          | rt d => exact fun g' H' v l p t rel' hv => q g' H' v l t rel' hv
          | nx a => exact fun g' H' σ' p t at' => q g' H' .non at'.le t at'.rel .non
          | bk b => exact nomatch b
          | ct b => exact nomatch b
        | ex c fs m1 => rw [hz] at q; exact fun σ => q
        | bad => rw [hz] at q; exact q
      · rw [hbd] at q
        unfold gcM fnM bnd at q
        cases hz : bd m with
        | ok o m1 =>
          rw [hz, bind_ok] at q
          cases o with
          | rt d =>
            intro g' H' v l p t rel' hv
            simp only [fnE, ret, gcR] at q
            split at q
            · rename_i hc
              rw [Bool.and_eq_true] at hc
              exact q _ H' v (le_cut rel l) t (rel.gc l rel' hc.2) (hv.shrink hc.1)
            · exact q g' H' v l t rel' hv
          | nx a =>
            intro g' H' σ' p t at'
            simp only [fnE, ret, gcR] at q
            split at q
            · rename_i hc
              rw [Bool.and_eq_true] at hc
              exact q _ H' .non (le_cut rel at'.le) t (rel.gc at'.le at'.rel hc.2) .non
            · exact q g' H' .non at'.le t at'.rel .non
          | bk b => exact nomatch b
          | ct b => exact nomatch b
        | ex c fs m1 =>
          rw [hz] at q
          intro σ g' H' A' d vs' l t rel' hC hd hf
          simp only [Rs.bind] at q
          split at q
          · rename_i hc
            rw [Bool.and_eq_true] at hc
            exact q _ H' A' d vs' (le_cut rel l) t (rel.gc l rel' hc.2) hC hd (hf.shrink hc.1)
          · exact q g' H' A' d vs' l t rel' hC hd hf
        | bad => rw [hz] at q; exact q.elim
/-- the walk of a def's body -/
abbrev Wk (gu : Bool) (P : Program) (w : World) (K : PySem.W.Frag) (mg : Str → Option Value) (base : Heap) (cls : Cl) (k : Nat) (N : List Str) (qual : Str) (st : Stmt) (f : Addr) (ρ : List Sl) (bd : M (Fl Unit Empty)) : Prop :=
  ∀ (cdv : Value) (A : Around) (outer : List Env) (s : Shared) (H : Hp) (E : XK) (gB : Gh), Room k (A.deeper (envOfC qual (defScope st) s.heap.objs.size f cdv)) → Clr gu A →
    PSsc (cxOf (L2.CX P w) P w K mg base N qual (defScope st) f cdv A outer s H E) ⟨cls, fun c d _ H' => E c d H', gB, H⟩ ρ (defBody st) (unA N.length) noB bd
section
variable {x qual : Str} {st : Stmt} {f : Addr} {fd : FuncData} {N : List Str} {p1 p2 p3 p4 p5 p6 : Str}
abbrev uns (N : List Str) (n : Nat) : List Sl := List.replicate (N.length - n) Sl.un
theorem fn_1 {t : D → M D} {b : D → M (Fl Unit Empty)} (F : Fun K x qual st f fd) (S : FnScope N [p1] (defScope st)) (ht : (∀ a, t a = fnM (b a)) ∨ (∀ a, t a = gcM (fnM (b a)))) (wk : ∀ a, Wk gu P w K mg base cls k N qual st f (.val a :: uns N 1) (b a)) : FnG gu P w K mg base (L2.CX P w) (k + 1) f fd [p1] (spM ⟨K, cls⟩ (fs1 t)) :=
  fn_core F S (fun ds h => by rcases ds with _ | ⟨a, _ | ⟨b, ds⟩⟩ <;> first | rfl | exact absurd rfl h) fun ds h => match ds, h with
    | [a], _ => ⟨b a, ht.imp (fun h => h a) (fun h => h a), wk a⟩
theorem fn_2 {t : D → D → M D} {b : D → D → M (Fl Unit Empty)} (F : Fun K x qual st f fd) (S : FnScope N [p1, p2] (defScope st)) (ht : (∀ a a2, t a a2 = fnM (b a a2)) ∨ (∀ a a2, t a a2 = gcM (fnM (b a a2)))) (wk : ∀ a a2, Wk gu P w K mg base cls k N qual st f (.val a :: .val a2 :: uns N 2) (b a a2)) : FnG gu P w K mg base (L2.CX P w) (k + 1) f fd [p1, p2] (spM ⟨K, cls⟩ (fs2 t)) :=
  fn_core F S (fun ds h => by rcases ds with _ | ⟨a, _ | ⟨b, _ | ⟨c, ds⟩⟩⟩ <;> first | rfl | exact absurd rfl h) fun ds h => match ds, h with
    | [a, a2], _ => ⟨b a a2, ht.imp (fun h => h a a2) (fun h => h a a2), wk a a2⟩
theorem fn_3 {t : D → D → D → M D} {b : D → D → D → M (Fl Unit Empty)} (F : Fun K x qual st f fd) (S : FnScope N [p1, p2, p3] (defScope st)) (ht : (∀ a a2 a3, t a a2 a3 = fnM (b a a2 a3)) ∨ (∀ a a2 a3, t a a2 a3 = gcM (fnM (b a a2 a3)))) (wk : ∀ a a2 a3, Wk gu P w K mg base cls k N qual st f (.val a :: .val a2 :: .val a3 :: uns N 3) (b a a2 a3)) : FnG gu P w K mg base (L2.CX P w) (k + 1) f fd [p1, p2, p3] (spM ⟨K, cls⟩ (fs3 t)) :=
  fn_core F S (fun ds h => by rcases ds with _ | ⟨a, _ | ⟨b, _ | ⟨c, _ | ⟨d, ds⟩⟩⟩⟩ <;> first | rfl | exact absurd rfl h) fun ds h => match ds, h with
    | [a, a2, a3], _ => ⟨b a a2 a3, ht.imp (fun h => h a a2 a3) (fun h => h a a2 a3), wk a a2 a3⟩
end
/-- the law's promise, from the plain equation -/
theorem law_sp {t : D → M D} {H : Hp} {a : Addr} {ns : List Int} (hO : ∀ b, H b = none ∨ (∃ o xs, H b = some (.frz o (.lst xs))) ∨ ∃ ps, H b = some (.tbl ps)) (hT : ∀ t, t ∈ cls.T → H t.1 = some (.tbl #[])) (hS : SqL K H a (ns.map V.int)) (h : ∃ m, t (.sc (ns.map .int)) [] = .ok (.bl true) m) : spM ⟨K, cls⟩ (fs1 t) [.ref a] H (fun v _ => v = .bl true) (fun _ _ _ => False) := by
  obtain ⟨m, h⟩ := h
  have rl : ∀ l : List Int, RepL K ⟨[], [], []⟩ H (l.map V.int) (l.map D.int) := fun l => by
    induction l with
    | nil => exact .nil
    | cons i l ih => exact .cons (.int i) ih
  refine ⟨⟨[], [], []⟩, [], [.sc (ns.map .int)], ⟨rfl, List.nodup_nil, fun i o a h => by simp at h, fun a o h => by simp at h, fun a o h => by simp at h, fun a o h => by simp at h, fun a o h => by simp at h, fun a o u h => by simp at h, fun p h => by simp at h, fun p h => by simp at h, fun b ob u h => by
    rcases hO b with z | ⟨o, xs, z⟩ | ⟨ps, z⟩
    · rw [z] at h; cases h
    · rw [z] at h; cases h; rfl
    · (rw [z] at h; cases h), fun t ht => ⟨#[], hT t ht, True.intro, fun pos cv hc => by simp [codeAmong] at hc⟩⟩, .cons (.sc (xs := ns.map V.int) ?_ (rl ns)) .nil, ?_⟩
  · rcases hS with (hS | ⟨o, hS⟩) | hS
    · rcases hO a with z | ⟨o, xs, z⟩ | ⟨ps, z⟩
      · rw [hS] at z; cases z
      · rw [hS] at z; cases z
      · rw [hS] at z; cases z
    · exact .inl ⟨o, hS⟩
    · exact .inr fun H' => .inr hS
  · show Post _ _ _ _ _ _ _ (t (.sc (ns.map .int)) [])
    rw [h]
    intro g' H' v _ _ _ hv
    exact rep_bl hv
end
end G

set_option Elab.async false
set_option linter.all false
set_option maxRecDepth 100000
set_option maxHeartbeats 2000000
namespace G
open PySem L2 PySem.Spec PyProof.Rows
/-! ### the law's call, where no repr is under way -/
theorem lawG {P : Program} {w : World} {K : PySem.W.Frag} {gl bl : Str → Option Value} {CX : CXT} {k : Nat} {fa ad : Addr} {fd : FuncData} {x : Str} {sp : Sp} {t0 : Shared} {us : List Value} {zs : List Int}
    (inK : K.In t0.heap) (nsm : t0.heap.Ns mainGlobals gl) (nsb : t0.heap.Ns builtinsNs bl) (boot : ∀ x : Str, x ≠ "__name__" → bl x = bootBuiltins x) (lim : t0.heap.NoLimit) (gens : t0.gens = #[])
    (scr : t0.heap.get? ad = some { cls := .type "list", data := .seq us.toArray }) (isz : IntsAre us zs) (short : zs.length ≤ sizeLine) (room : Room k callerA)
    (F : ∀ b0 : Heap, K.In b0 → b0.Ns mainGlobals gl → FnG true P w K gl b0 CX k fa fd [x] sp) (bnd0 : ∀ (s : Shared) (u : Value), BindsTo s fd ⟨[u], []⟩ [(x, u)])
    (prom : ∀ J : Hp, Only J → SqL K J ad (zs.map V.int) → sp [.ref ad] J (fun v _ => v = .bl true) fun _ _ _ => False)
    (noX : ∀ J e s', CX [] J t0 (fun _ _ _ => False) e s' → False) :
    codeAny (model P w) callerA (.call (.ref fa) ⟨[.ref ad], []⟩) (fun r s' => r = .ok (.ret (.bool true)) ∧ OldK t0.heap s'.heap ∧ s'.os = t0.os ∧ AllBare s'.gens) t0 := by
  have vals := vals_ints isz
  have same := isz.length
  have main : ∀ J : Hp, Only J → SqL K J ad (zs.map V.int) → HOk P w J t0.heap → (∀ b, J b ≠ none → b = ad) → (J ad ≠ none → K.lookup ad = none) →
      codeAny (model P w) callerA (.call (.ref fa) ⟨[.ref ad], []⟩) (fun r s' => r = .ok (.ret (.bool true)) ∧ OldK t0.heap s'.heap ∧ s'.os = t0.os ∧ AllBare s'.gens) t0 := by
    intro J only sq hok atA outK
    have low : ∀ {b : Addr} {o : Obj}, t0.heap.get? b = some o → J b = none → (hidT t0.heap J).get? b = some o := fun e n => hidT_get e n
    have un : ∀ {b : Addr} {o : Obj} {es : Array DictEntry} {ep : Nat}, t0.heap.get? b = some o → o.data = .dict es ep → J b = none := fun {b o es ep} e d => by
      cases q : J b with
      | none => rfl
      | some u =>
        have z : b = ad := atA b (by rw [q]; simp)
        subst z
        rw [scr] at e
        cases e
        have z2 : Data.seq us.toArray _ = Data.dict es ep := d
        cases z2
    have lowN : ∀ {b : Addr} {m : Str → Option Value}, t0.heap.Ns b m → (hidT t0.heap J).Ns b m := fun {b m} ⟨o, es, ep, e, d, r⟩ => ⟨o, es, ep, low e (un e d), d, r⟩
    have lowK : K.In (hidT t0.heap J) := fun b o e => low (inK b o e) (by
      cases q : J b with
      | none => rfl
      | some u =>
        have z : b = ad := atA b (by rw [q]; simp)
        subst z
        rw [outK (by rw [q]; simp)] at e
        cases e)
    have md : Mod K gl (hidT t0.heap J) := ⟨lowK, lowN nsm, ⟨bl, lowN nsb, boot⟩, let ⟨mc, h1, h2⟩ := lim; ⟨mc, lowN h1, h2⟩⟩
    have env : Env0 P w K gl (hidT t0.heap J) callerA [] t0 J := ⟨rfl, md, fun b o e => of_hidT e, Nat.le_of_eq (hidT_size _ _), trivial, fun b hb => absurd (show b ∈ ([] : List Addr) from hb) (by simp), hok, .of_eq gens⟩
    refine codeAny_mono ((F _ lowK (lowN nsm)).run callerA [] t0 J ⟨[.ref ad], []⟩ [.ref ad] [.ref ad] _ _ room (fun _ => rfl) env (bnd0 t0 (.ref ad)) (.cons rfl .nil) (prom J only sq)) fun r s' h => ?_
    match r, h with
    | .error e, h => exact (noX J e s' h).elim
    | .ok .next, h => exact False.elim h
    | .ok .brk, h => exact False.elim h
    | .ok .cont, h => exact False.elim h
    | .ok (.ret u), h =>
      obtain ⟨v, J2, os, bare, unch, hok2, rv, q⟩ := h
      have q' : v = .bl true := q
      subst q'
      have rv' : u = Value.bool true := rv
      subst rv'
      refine ⟨rfl, OldK.of_keep fun b o e => ?_, os, bare⟩
      cases q : J b with
      | none => exact unch.keep b o e q (by intro z; exact absurd (show b ∈ ([] : List Addr) from z) (by simp)) (by simp)
      | some u =>
        rcases only b with z | ⟨ob, xs, z⟩
        · rw [q] at z; cases z
        · have y2 := unch.frzs b ob _ z
          obtain ⟨y3, _⟩ := hok b _ z
          obtain ⟨y4, _⟩ := hok2 b _ y2
          rw [e] at y3
          cases y3
          exact y4
  cases hk : K.lookup ad with
  | some o =>
    have e := inK ad o hk
    rw [scr] at e
    cases e
    exact main (fun _ => none) (fun _ => .inl rfl) (.inr ⟨_, us.toArray, _, hk, rfl, rfl, rfl, by rw [List.size_toArray, same]; exact short, by simpa using vals⟩) (fun b u z => by have z' : (none : Option HO) = some u := z; cases z') (fun b z => absurd rfl z) (fun z => absurd rfl z)
  | none =>
    refine main (fun b => if b = ad then some (.frz { cls := .type "list", data := .seq us.toArray } (.lst (zs.map V.int))) else none) (fun b => ?_) (.inl (.inr ⟨{ cls := .type "list", data := .seq us.toArray }, if_pos rfl⟩)) (fun b u z => ?_) (fun b z => ?_) (fun _ => hk)
    · by_cases hb : b = ad
      · exact .inr ⟨_, _, if_pos hb⟩
      · exact .inl (if_neg hb)
    · by_cases hb : b = ad
      · have y := (if_pos hb).symm.trans z
        cases y
        subst hb
        exact ⟨scr, by rw [List.length_map]; exact short, us, _, vals, scr⟩
      · have y := (if_neg hb).symm.trans z
        cases y
    · by_cases hb : b = ad
      · exact hb
      · exact absurd (if_neg hb) z
theorem FnG.imp {P : Program} {w : World} {K : PySem.W.Frag} {mg : Str → Option Value} {base : Heap} {CX : CXT} {k : Nat} {f : Addr} {fd : FuncData} {ps : List Str} {sp sp' : Sp} (F : FnG true P w K mg base CX k f fd ps sp)
    (h : ∀ vs J Q E, sp' vs J Q E → sp vs J Q E) : FnG true P w K mg base CX k f fd ps sp' := ⟨fun vs J Q E q => F.len vs J Q E (h vs J Q E q), fun B out t J ar ws xs R E rm cl en bn va q => F.run B out t J ar ws xs R E rm cl en bn va (h xs J R E q)⟩
theorem walkG {l : PySem.W.OpenLaw} {n k : Nat} {q : Program} {loose : List Str} {XP : (Str → Option Value) → Heap → Prop} {YP : World → Heap → Prop} {d : DefRec} {K : Params → PySem.W.Frag} {CX : World → CXT} {sp : World → Sp} {x : Str}
    (most : l.most = some n) (few : n ≤ sizeLine) (defs : d.params.defaults = []) (room : Room k callerA) (there : ∀ (w : World) (h : Heap), YP w h → (K w.params).In h)
    (F : ∀ (w : World) (gl : Str → Option Value) (fa : Addr) (h : Heap), (K w.params).In h → h.Ns mainGlobals gl → gl d.name = some (.ref fa) →
      ∃ fd : FuncData, (∀ (s : Shared) (u : Value), BindsTo s fd ⟨[u], []⟩ [(x, u)]) ∧ ∀ b0 : Heap, (K w.params).In b0 → b0.Ns mainGlobals gl → FnG true l.prog w (K w.params) gl b0 (CX w) k fa fd [x] (sp w))
    (prom : ∀ (w : World) (J : Hp) (a : Addr) (zs : List Int), zs.length ≤ n → Only J → SqL (K w.params) J a (zs.map V.int) → sp w [.ref a] J (fun v _ => v = .bl true) fun _ _ _ => False)
    (noX : ∀ (w : World) (J : Hp) (s : Shared) (e : Value) (s' : Shared), CX w [] J s (fun _ _ _ => False) e s' → False) :
    PySem.W.WalkO q loose XP YP l.row.toRowW d [] (fun f vs => PySem.call f vs) := by
  refine Att.attach_call most defs fun w s0 s1 gl bl fa o pm cd doc a vs zs T Y ho hd hcd at1 scr isz len gens => ?_
  have inK := there w _ Y
  obtain ⟨fd, hb, hF⟩ := F w gl fa _ inK T.T.g at1
  exact lawG inK T.T.g T.T.b T.T.builtins T.T.nolimit gens scr isz (Nat.le_trans len few) room hF hb (fun J hO hS => prom w J a zs len hO hS) fun J e s' => noX w J s1 e s'
end G

set_option Elab.async false
set_option linter.all false
set_option maxRecDepth 100000
set_option maxHeartbeats 2000000
namespace G
open PySem L2 PySem.Spec PyProof.Rows
theorem lookup_mem {α β : Type} [BEq α] [LawfulBEq α] {a : α} {b : β} : ∀ {l : List (α × β)}, l.lookup a = some b → (a, b) ∈ l
  | [], h => by simp at h
  | (x, y) :: l, h => by
    simp only [List.lookup] at h
    split at h
    · rename_i e
      have e := eq_of_beq e
      subst e
      cases h
      exact List.mem_cons_self
    · exact List.mem_cons_of_mem _ (lookup_mem h)
section
variable {X : Cx} {C : Cc} {ρ : List Sl} {cls : Cl} {k : Nat}
/-- a comparison's reading as a test -/
theorem p_bl {op : CmpOp} {r : R2} {e1 e2 : Expr} {ta tb : TE} {t : M D} {pos : Pos} (ho : OpR X (compareOp op) r) (ha : PE X e1 ta) (hb : PE X e2 tb) (hm : behindInMarks op e2 = false) (hbl : ∀ m x m', t m = .ok x m' → ∃ b, x = .bl b) (h : ∀ σ H Q, tG ⟨X.K, C.cls⟩ C ρ (rD ⟨X.K, C.cls⟩) t σ H Q → tOp r ta tb σ H Q) : PTc X C ρ (.Compare e1 [op] [e2] pos) t :=
  pt_imp (pt_cmpR ho ha hb hm) fun σ H Q q => by
    refine h σ H _ ?_
    obtain ⟨g, m, at0, q⟩ := q
    refine ⟨g, m, at0, ?_⟩
    unfold bnd at q
    cases hz : t m with
    | ok x m1 =>
      rw [hz, bind_ok] at q
      obtain ⟨b, rfl⟩ := hbl m x m1 hz
      intro g' H' v p t' rel' hv
      rw [rep_bl hv]
      exact ⟨b, rfl, q g' H' b p t' rel' rfl⟩
    | ex c fs m1 => rw [hz] at q; exact q
    | bad => rw [hz] at q; exact q
/-- name = [..] on one line, the name a local -/
theorem s_setLc {A B : Type} {oa : A → List Sl} {ob : B → List Sl} {rest : List Stmt} {f : D → M (Fl A B)} {i : Nat} {y : Str} {py : Pos} {elt tg iter : Expr} {ifs : List Expr} {scope : Scope} {own : List (Str × Nat)} {pos spos : Pos} {src : M Its} {turn : D → M (Option D)} {is : List Nat} {P : Pt} (hc : X.calm = true) (hN : X.N.Nodup) (hy : X.N[i]? = some y) (hyl : X.env.scope.names.lookup y = some .local)
    (hsw : swapsWith (.ListComp elt [⟨tg, iter, ifs, 0⟩] scope pos) (some (.Name y py)) spos.line X.env = pure true) (hi : PIc X C ρ tg iter src) (ok : BlkOk X.N X.env.scope scope own)
    (hp : ∀ i ∈ is, i ∈ own.map (·.2))
    (hg : ∀ (s : Shared) (H : Hp) (A : Addr) (cl : List (Str × Addr)) (fp : List Addr), PGc (X.blk s H scope (compEnvC scope cl A X.env) fp) C tg is P) (ht : ∀ x, Bd1 P (wipeS ρ (own.map (·.2))) x (turn x) (OkT X C scope ifs elt)) (hr : ∀ x, PSsc X C (ρ.set i (.val x)) rest oa ob (f x)) (hs : ∀ x, foldedSetIterable iter X.env x = pure x := by intro _; rfl) :
    PSsc X C ρ (.Assign [.Name y py] (.ListComp elt [⟨tg, iter, ifs, 0⟩] scope pos) spos :: rest) oa ob (bnd (lcM src turn) f) := by
  refine pss_imp (pss_cons (ps_setLc (g := gPat ⟨X.K, C.cls⟩ C is P) (tt := tTx X C scope ifs elt) (te := tEx X C scope elt) hc hN hy hyl hsw hi ok hg (fun s H A cl fp => ⟨fun pins t σ H' Q I q => by
    obtain ⟨ρ', c, e, _, h, q⟩ := q
    exact (h s H A cl fp).run pins t σ H' Q I q⟩) (fun s H A cl fp => ⟨fun pins t σ H' Q I q => by
    obtain ⟨ρ', e, h, q⟩ := q
    exact (h s H A cl fp).run pins t σ H' Q I q⟩) hs) (pss_ex hr)) fun De σ H q => ?_
  obtain ⟨g, m, at0, q⟩ := q
  have key : tLc (tG ⟨X.K, C.cls⟩ C ρ (ItR ⟨X.K, C.cls⟩) src) (gPat ⟨X.K, C.cls⟩ C is P) (tTx X C scope ifs elt) (tEx X C scope elt) (own.map (·.2)) σ H (fun v H1 => ∃ x, tS ⟨X.K, C.cls⟩ C oa ob (ρ.set i (.val x)) (f x) De (σ.set i (some v)) H1) := by
    refine lc_ok hp ht ⟨g, m, at0, PostS.bind at0.le q fun g1 H1 m1 v x p t1 rel1 hv q1 => ?_⟩
    exact ⟨x, g1, m1, (at0.mono p t1 rel1).set hv i, q1⟩
  exact key
/-- a comprehension as a list of one's own -/
def lcO (src : M Its) (turn : D → M (Option D)) : M (List D) := bnd src fun z => bnd (lcL z.2 turn z.1 []) ret
end
end G

set_option Elab.async false
set_option linter.all false
set_option maxRecDepth 100000
set_option maxHeartbeats 1000000
namespace G
open PySem L2 PySem.Spec PyProof.Rows
/-! ### calls with keywords -/
def pick {α : Type} (is : List Nat) (l : List α) : List α := is.filterMap fun i => l[i]?
def kwS (f : List D → M D) (n k : Nat) (is : List Nat) (xs zs : List D) : M D := if xs.length = n ∧ zs.length = k then f (pick is (xs ++ zs)) else bad
def calK (f : List D → M D) (n k : Nat) (is : List Nat) (t u : M (List D)) : M D := bnd t fun xs => bnd u fun zs => kwS f n k is xs zs
theorem RepL.pick {K : PySem.W.Frag} {g : Gh} {H : Hp} {vs : List V} {ds : List D} (r : RepL K g H vs ds) : ∀ is : List Nat, RepL K g H (G.pick is vs) (G.pick is ds)
  | [] => .nil
  | i :: is => by
    have ih := RepL.pick r is
    unfold G.pick at ih ⊢
    cases h : ds[i]? with
    | some d =>
      obtain ⟨v, hv, rv⟩ := r.get h
      rw [List.filterMap_cons_some h, List.filterMap_cons_some hv]
      exact .cons rv ih
    | none =>
      have h2 : vs[i]? = none := by
        rw [List.getElem?_eq_none_iff] at h ⊢
        rw [r.length]; exact h
      rw [List.filterMap_cons_none h, List.filterMap_cons_none h2]
      exact ih
section
variable {X : Cx} {C : Cc} {ρ : List Sl} {k : Nat}
end
end G

set_option Elab.async false
set_option linter.all false
set_option maxRecDepth 100000
namespace G
open PySem L2 PySem.Spec PyProof.Rows
section
variable {P : Program} {w : World} {A : Around} {E : Value → Shared → Prop} {s : Shared} {l : Addr} {items : Array Value} {ns : List Int}
end
section
variable {X : Cx}
end
/-! ### the sorted members -/
def insU (x : Int) : List Int → List Int
  | [] => [x]
  | y :: r => if x < y then x :: y :: r else if x = y then y :: r else y :: insU x r
def srtU : List Int → List Int
  | [] => []
  | x :: r => insU x (srtU r)
def srtI (xs : List D) : M D := match intsOf xs with
  | some ns => if ns.length < 64 then ret (.fl ((srtU ns).map .int)) else bad
  | none => bad
/-- sorted(set(x)) -/
def srtS : List D → M D
  | [x] => bnd (ask (lstOf x)) srtI
  | _ => bad
section
variable {X : Cx} {cls : Cl}
end
end G

set_option Elab.async false
set_option linter.all false
set_option maxRecDepth 100000
namespace G
open PySem L2 PySem.Spec PyProof.Rows
/-! ### max and min of a list of ints -/
def mxI : Int → List Int → Int
  | a, [] => a
  | a, b :: r => mxI (if b > a then b else a) r
def mnI : Int → List Int → Int
  | a, [] => a
  | a, b :: r => mnI (if b < a then b else a) r
theorem mxI_ok : ∀ (r : List Int) (a : Int), mxI a r ∈ a :: r ∧ ∀ y, y ∈ a :: r → y ≤ mxI a r
  | [], a => by simp [mxI]
  | b :: r, a => by
    obtain ⟨h1, h2⟩ := mxI_ok r (if b > a then b else a)
    unfold mxI
    have h3 := h2 (if b > a then b else a) (by simp)
    refine ⟨?_, fun y hy => ?_⟩
    · rcases List.mem_cons.1 h1 with h | h
      · rw [h]
        split <;> simp
      · simp [h]
    · simp only [List.mem_cons] at hy
      rcases hy with rfl | rfl | hy
      · have h4 : y ≤ (if b > y then b else y) := by split <;> omega
        omega
      · have h4 : y ≤ (if y > a then y else a) := by split <;> omega
        omega
      · exact h2 y (by simp [hy])
def ext1 (f : Int → List Int → Int) (xs : List D) : M D := match intsOf xs with
  | some (a :: r) => ret (.int (f a r))
  | _ => bad
def maxLS : List D → M D
  | [x] => bnd (ask (lstOf x)) (ext1 mxI)
  | _ => bad
def minLS : List D → M D
  | [x] => bnd (ask (lstOf x)) (ext1 mnI)
  | _ => bad
section
variable {X : Cx} {cls : Cl}
end
end G

set_option Elab.async false
set_option linter.all false
set_option maxRecDepth 100000
namespace G
open PySem L2 PySem.Spec PyProof.Rows
/-! ### sum of a tuple of ints -/
section
variable {P : Program} {w : World} {A : Around} {E : Value → Shared → Prop} {s : Shared} {l : Addr} {its : List Value} {ns : List Int}
end
section
variable {X : Cx} {cls : Cl}
/-- sum(x), x a list or a tuple -/
def sumAS : List D → M D
  | [.tup xs] => bnd (opt (sumI xs)) fun k => ret (.int k)
  | zs => sumS zs
end
end G

set_option Elab.async false
set_option linter.all false
set_option maxRecDepth 100000
namespace G
open PySem L2 PyProof.Rows
/-! ### generators that nobody wakes stay asleep -/
/-- a generator that can't be woken -/
def Psn : GenState → Prop
  | .suspended k _ _ _ _ _ => ∀ r, ∃ x, k r = .unsupported x
  | _ => False
def retF : Frame → Bool
  | .ret .. => true
  | .gen .. => false
/-- a sleeping generator whose frames are plain -/
def pln : GenState → Bool
  | .suspended _ _ _ _ fs _ => fs.all retF
  | _ => true
def endP : End → Bool
  | .ret _ => true
  | .susp _ _ _ _ _ _ fs => fs.all retF
theorem no_run {M : Model} {Γ : Ctx} {p : Pos} {s s' : Shared} {e : End} {x : String} {fs : List Frame} : ¬ Runs M Γ p (.unsupported x) fs s e s' := fun h => by
  generalize ht : (Sem.unsupported x : Sem PySem.Fin) = t at h
  induction h <;> first | (cases ht; done) | (rename_i ih _; exact ih ht) | (rename_i ih; exact ih ht) | skip
  all_goals (subst ht; rename_i h1 _ _ _; cases h1)
def un (D : Nat → Option GenState) (gens : Array GenState) : Array GenState := gens.mapIdx fun j y => (D j).getD y
def U (D : Nat → Option GenState) (s : Shared) : Shared := { s with gens := un D s.gens }
theorem un_get {D : Nat → Option GenState} {gens : Array GenState} {j : Nat} : (un D gens)[j]? = (gens[j]?).map fun y => (D j).getD y := by
  unfold un
  rw [Array.getElem?_mapIdx]
theorem un_size {D : Nat → Option GenState} {gens : Array GenState} : (un D gens).size = gens.size := by simp [un]
/-- the table: what D tells is poisoned, the rest is plain or poisoned -/
structure Tb (D : Nat → Option GenState) (gens : Array GenState) : Prop where
  d : ∀ j x, D j = some x → ∃ y, gens[j]? = some y ∧ Psn y ∧ x.seen = y.seen
  p : ∀ (j : Nat) (y : GenState), gens[j]? = some y → Psn y ∨ pln y = true
theorem set_get {a : Array GenState} {g j : Nat} {x : GenState} : (a.setIfInBounds g x)[j]? = if g = j then (a[j]?).map (fun _ => x) else a[j]? := by
  rw [Array.getElem?_setIfInBounds]
  split
  · rename_i e
    subst e
    split
    · rename_i h
      rw [Array.getElem?_eq_getElem h]; rfl
    · rename_i h
      rw [Array.getElem?_eq_none (by omega)]; rfl
  · rfl
theorem Tb.set {D : Nat → Option GenState} {a : Array GenState} {g : Nat} {x : GenState} (h : Tb D a) (hd : D g = none) (hx : pln x = true) : Tb D (a.setIfInBounds g x) := by
  refine ⟨fun j y hj => ?_, fun j y hj => ?_⟩
  · obtain ⟨z, h1, h2⟩ := h.d j y hj
    have hg : g ≠ j := fun e => by rw [e, hj] at hd; cases hd
    exact ⟨z, by rw [set_get, if_neg hg]; exact h1, h2⟩
  · rw [set_get] at hj
    split at hj
    · cases hz : a[j]? with
      | none => rw [hz] at hj; cases hj
      | some w => rw [hz] at hj; cases hj; exact .inr hx
    · exact h.p j y hj
theorem Tb.push {D : Nat → Option GenState} {a : Array GenState} {c : Code} (h : Tb D a) : Tb D (a.push (.fresh c)) ∧ un D (a.push (.fresh c)) = (un D a).push (.fresh c) := by
  have hd : D a.size = none := by
    cases hz : D a.size with
    | none => rfl
    | some x =>
      obtain ⟨y, h1, _⟩ := h.d _ x hz
      rw [Array.getElem?_eq_none (Nat.le_refl _)] at h1
      cases h1
  refine ⟨⟨fun j x hj => ?_, fun j y hj => ?_⟩, ?_⟩
  · obtain ⟨z, h1, h2⟩ := h.d j x hj
    have hl := (Array.getElem?_eq_some_iff.mp h1).1
    exact ⟨z, by rw [Array.getElem?_push, if_neg (by omega)]; exact h1, h2⟩
  · rw [Array.getElem?_push] at hj
    split at hj
    · cases hj; exact .inr rfl
    · exact h.p j y hj
  · apply Array.ext_getElem?
    intro i
    rw [un_get, Array.getElem?_push, Array.getElem?_push, un_get, un_size]
    by_cases e : i = a.size
    · rw [if_pos e, if_pos e, e, hd]; rfl
    · rw [if_neg e, if_neg e]
theorem un_set {D : Nat → Option GenState} {a : Array GenState} {g : Nat} {x : GenState} (hd : D g = none) : un D (a.setIfInBounds g x) = (un D a).setIfInBounds g x := by
  apply Array.ext_getElem?
  intro i
  rw [un_get, set_get, set_get, un_get]
  by_cases e : g = i
  · subst e
    rw [if_pos rfl, if_pos rfl, hd]
    cases a[g]? <;> rfl
  · rw [if_neg e, if_neg e]
theorem U_set {D : Nat → Option GenState} {s : Shared} {g : Nat} {x : GenState} (hd : D g = none) : U D (s.setGen g x) = (U D s).setGen g x := by
  show ({ s with gens := un D (s.gens.setIfInBounds g x) } : Shared) = { s with gens := (un D s.gens).setIfInBounds g x }
  rw [un_set hd]
/-- an entry that is no poison is not told of -/
theorem Tb.no {D : Nat → Option GenState} {a : Array GenState} {g : Nat} {y : GenState} (h : Tb D a) (hg : a[g]? = some y) (hn : ¬ Psn y) : D g = none ∧ (un D a)[g]? = some y := by
  have hd : D g = none := by
    cases hz : D g with
    | none => rfl
    | some x =>
      obtain ⟨z, h1, h2, _⟩ := h.d g x hz
      rw [hg] at h1
      cases h1
      exact absurd h2 hn
  refine ⟨hd, ?_⟩
  rw [un_get, hg, hd]
  rfl
theorem all_app {a b : List Frame} (h1 : a.all retF = true) (h2 : b.all retF = true) : (a ++ b).all retF = true := by
  rw [List.all_append, h1, h2]; rfl
theorem split_none : ∀ {fs : List Frame}, fs.all retF = true → splitAtGen fs = none
  | [], _ => rfl
  | .ret .. :: fs, h => by
    simp only [List.all_cons, retF, Bool.true_and] at h
    simp only [splitAtGen, split_none h, Option.map_none]
  | .gen .. :: _, h => by simp [retF] at h
theorem genState_pln {e : End} (h : endP e = true) : pln e.genState = true := by
  cases e with
  | ret r => rfl
  | susp v g l k c p fs => exact h
theorem no_run' {M : Model} {Γ : Ctx} {p : Pos} {s s' : Shared} {e : End} {t : Sem PySem.Fin} {fs : List Frame} (h : ∃ x, t = .unsupported x) : ¬ Runs M Γ p t fs s e s' := by
  obtain ⟨x, rfl⟩ := h
  exact no_run
theorem Tb.seen {D : Nat → Option GenState} {a : Array GenState} {g : Nat} {st : GenState} (hp : Tb D a) (hg : a[g]? = some st) : ∃ x, (un D a)[g]? = some x ∧ x.seen = st.seen := by
  refine ⟨(D g).getD st, by rw [un_get, hg]; rfl, ?_⟩
  cases hz : D g with
  | none => rfl
  | some x =>
    obtain ⟨y, h1, _, h3⟩ := hp.d g x hz
    rw [hg] at h1
    cases h1
    exact h3
theorem Tb.either {D : Nat → Option GenState} {a : Array GenState} {g : Nat} {y : GenState} (h : Tb D a) (hg : a[g]? = some y) : Psn y ∨ (D g = none ∧ (un D a)[g]? = some y ∧ pln y = true) := by
  by_cases hz : Psn y
  · exact .inl hz
  · exact .inr ⟨(h.no hg hz).1, (h.no hg hz).2, (h.p g y hg).resolve_left hz⟩
theorem newGen_ok {M : Model} {D : Nat → Option GenState} {Γ : Ctx} {p : Pos} {k : Nat → Sem PySem.Fin} {s s' : Shared} {e : End} {c : Code} (hp : Tb D s.gens) (q : Runs M Γ p (k s.gens.size) [] (U D { s with gens := s.gens.push (.fresh c) }) e s') : Runs M Γ p (.newGen c k) [] (U D s) e s' := by
  refine .newGen ?_
  have e1 : (U D s).gens.size = s.gens.size := un_size
  rw [e1]
  have e2 : U D { s with gens := s.gens.push (.fresh c) } = { U D s with gens := (U D s).gens.push (.fresh c) } := by
    show ({ s with gens := un D (s.gens.push (.fresh c)) } : Shared) = { s with gens := (un D s.gens).push (.fresh c) }
    rw [hp.push.2]
  rw [e2] at q
  exact q
theorem runs_asleep {M : Model} {D : Nat → Option GenState} {Γ : Ctx} {p : Pos} {t : Sem PySem.Fin} {fs : List Frame} {s s' : Shared} {e : End} (h : Runs M Γ p t fs s e s') :
    fs.all retF = true → Tb D s.gens → endP e = true ∧ Tb D s'.gens ∧ Runs M Γ p t fs (U D s) e (U D s') := by
  induction h with
  | done => exact fun hf hp => ⟨rfl, hp, .done⟩
  | raise => exact fun hf hp => ⟨rfl, hp, .raise⟩
  | again hq _ ih => exact fun hf hp => ⟨(ih hf hp).1, (ih hf hp).2.1, .again hq (ih hf hp).2.2⟩
  | rule _ ih => exact fun hf hp => ⟨(ih hf hp).1, (ih hf hp).2.1, .rule (ih hf hp).2.2⟩
  | «at» _ ih => exact fun hf hp => ⟨(ih hf hp).1, (ih hf hp).2.1, .at (ih hf hp).2.2⟩
  | load ho _ ih => exact fun hf hp => ⟨(ih hf hp).1, (ih hf hp).2.1, .load ho (ih hf hp).2.2⟩
  | update ho _ ih => exact fun hf hp => ⟨(ih hf hp).1, (ih hf hp).2.1, .update ho (ih hf hp).2.2⟩
  | loadIfAlive _ ih => exact fun hf hp => ⟨(ih hf hp).1, (ih hf hp).2.1, .loadIfAlive (ih hf hp).2.2⟩
  | point _ ih => exact fun hf hp => ⟨(ih hf hp).1, (ih hf hp).2.1, .point (ih hf hp).2.2⟩
  | alloc _ ih => exact fun hf hp => ⟨(ih hf hp).1, (ih hf hp).2.1, .alloc (ih hf hp).2.2⟩
  | fresh _ ih => exact fun hf hp => ⟨(ih hf hp).1, (ih hf hp).2.1, .fresh (ih hf hp).2.2⟩
  | ask _ ih => exact fun hf hp => ⟨(ih hf hp).1, (ih hf hp).2.1, .ask (ih hf hp).2.2⟩
  | choose hn _ ih => exact fun hf hp => ⟨(ih hf hp).1, (ih hf hp).2.1, .choose hn (ih hf hp).2.2⟩
  | os _ ih => exact fun hf hp => ⟨(ih hf hp).1, (ih hf hp).2.1, .os (ih hf hp).2.2⟩
  | handled _ ih => exact fun hf hp => ⟨(ih hf hp).1, (ih hf hp).2.1, .handled (ih hf hp).2.2⟩
  | genState hg _ ih =>
    intro hf hp
    obtain ⟨x, h1, h2⟩ := hp.seen hg
    refine ⟨(ih hf hp).1, (ih hf hp).2.1, .genState h1 ?_⟩
    rw [h2]
    exact (ih hf hp).2.2
  | stack _ ih => exact fun hf hp => ⟨(ih hf hp).1, (ih hf hp).2.1, .stack (ih hf hp).2.2⟩
  | thread _ ih => exact fun hf hp => ⟨(ih hf hp).1, (ih hf hp).2.1, .thread (ih hf hp).2.2⟩
  | newGen _ ih =>
    intro hf hp
    obtain ⟨b1, b2, b3⟩ := ih hf hp.push.1
    exact ⟨b1, b2, newGen_ok hp b3⟩
  | call _ _ ih1 ih2 => exact fun hf hp => ⟨(ih2 hf (ih1 rfl hp).2.1).1, (ih2 hf (ih1 rfl hp).2.1).2.1, .call (ih1 rfl hp).2.2 (ih2 hf (ih1 rfl hp).2.1).2.2⟩
  | callSusp _ ih => exact fun hf hp => ⟨all_app (ih rfl hp).1 rfl, (ih rfl hp).2.1, .callSusp (ih rfl hp).2.2⟩
  | yield => exact fun hf hp => ⟨rfl, hp, .yield⟩
  | resumeFresh hg _ hq _ ih1 ih2 =>
    intro hf hp
    obtain ⟨hd, hu⟩ := hp.no hg (fun h => h)
    obtain ⟨a1, a2, a3⟩ := ih1 rfl (hp.set hd rfl)
    obtain ⟨b1, b2, b3⟩ := ih2 hf (a2.set hd (genState_pln a1))
    rw [U_set hd] at a3 b3
    exact ⟨b1, b2, .resumeFresh hu a3 hq b3⟩
  | resumeSuspended hg h1 hq _ ih1 ih2 =>
    intro hf hp
    rcases hp.either hg with hz | ⟨hd, hu, hfs⟩
    · exact absurd h1 (no_run' (hz _))
    · obtain ⟨a1, a2, a3⟩ := ih1 hfs (hp.set hd rfl)
      obtain ⟨b1, b2, b3⟩ := ih2 hf (a2.set hd (genState_pln a1))
      rw [U_set hd] at a3 b3
      exact ⟨b1, b2, .resumeSuspended hu a3 hq b3⟩
  | resumeJustStarted hg hv _ ih =>
    intro hf hp
    obtain ⟨hd, hu⟩ := hp.no hg (fun h => h)
    exact ⟨(ih hf hp).1, (ih hf hp).2.1, .resumeJustStarted hu hv (ih hf hp).2.2⟩
  | resumeThrowFresh hg _ ih =>
    intro hf hp
    obtain ⟨hd, hu⟩ := hp.no hg (fun h => h)
    obtain ⟨b1, b2, b3⟩ := ih hf (hp.set hd rfl)
    rw [U_set hd] at b3
    exact ⟨b1, b2, .resumeThrowFresh hu b3⟩
  | resumeRunning hg _ ih =>
    intro hf hp
    obtain ⟨hd, hu⟩ := hp.no hg (fun h => h)
    exact ⟨(ih hf hp).1, (ih hf hp).2.1, .resumeRunning hu (ih hf hp).2.2⟩
  | resumeFinished hg _ ih =>
    intro hf hp
    obtain ⟨hd, hu⟩ := hp.no hg (fun h => h)
    exact ⟨(ih hf hp).1, (ih hf hp).2.1, .resumeFinished hu (ih hf hp).2.2⟩
  | segRet _ _ ih1 ih2 =>
    intro hf hp
    simp only [List.all_cons, Bool.and_eq_true] at hf
    obtain ⟨a1, a2, a3⟩ := ih1 rfl hp
    obtain ⟨b1, b2, b3⟩ := ih2 hf.2 a2
    exact ⟨b1, b2, .segRet a3 b3⟩
  | segGen _ _ ih1 ih2 =>
    intro hf hp
    simp [retF] at hf
  | segSuspOut hs _ ih =>
    intro hf hp
    obtain ⟨a1, a2, a3⟩ := ih rfl hp
    exact ⟨all_app a1 hf, a2, .segSuspOut hs a3⟩
  | segSuspGen hs _ hq _ ih1 ih2 =>
    intro hf hp
    rw [split_none hf] at hs
    cases hs
theorem wakes_asleep {M : Model} {D : Nat → Option GenState} {Γ : Ctx} {p : Pos} {g : Nat} {r : Resume} {s s' : Shared} {res : GenResult} (hp : Tb D s.gens) (h : Wakes M Γ p g r s res s') : Tb D s'.gens ∧ Wakes M Γ p g r (U D s) res (U D s') := by
  unfold Wakes at h
  cases hg : s.gens[g]? with
  | none => rw [hg] at h; exact h.elim
  | some y =>
    rw [hg] at h
    rcases hp.either hg with hz | ⟨hd, hu, hfs⟩
    · cases y with
      | suspended k l c p0 fs cl =>
        obtain ⟨e₁, s₁, h1, _⟩ := h
        exact absurd h1 (no_run' (hz _))
      | _ => exact hz.elim
    · have hu' : (U D s).gens[g]? = some y := hu
      unfold Wakes
      rw [hu']
      cases y with
      | fresh c =>
        cases r with
        | send v =>
          by_cases hv : v = .none
          · subst hv
            obtain ⟨e₁, s₁, h1, h2, h3, rfl⟩ := h
            obtain ⟨a1, a2, a3⟩ := runs_asleep h1 rfl (hp.set hd rfl)
            rw [U_set hd] at a3
            exact ⟨a2.set hd (genState_pln a1), e₁, _, a3, h2, h3, U_set hd⟩
          · cases v <;> first | exact absurd rfl hv | (obtain ⟨h1, rfl⟩ := h; exact ⟨hp, h1, rfl⟩)
        | throw x =>
          obtain ⟨h1, rfl⟩ := h
          exact ⟨hp.set hd rfl, h1, U_set hd⟩
      | suspended k l c p0 fs cl =>
        obtain ⟨e₁, s₁, h1, h2, h3, rfl⟩ := h
        obtain ⟨a1, a2, a3⟩ := runs_asleep h1 hfs (hp.set hd rfl)
        rw [U_set hd] at a3
        exact ⟨a2.set hd (genState_pln a1), e₁, _, a3, h2, h3, U_set hd⟩
      | running => obtain ⟨h1, rfl⟩ := h; exact ⟨hp, h1, rfl⟩
      | finished => obtain ⟨h1, rfl⟩ := h; exact ⟨hp, h1, rfl⟩
theorem wp_asleep {α : Type} (M : Model) (Γ : Ctx) (D : Nat → Option GenState) (t : Sem α) : ∀ (Q : α → Pos → Shared → Prop) (E : Value → Pos → Shared → Prop) (p : Pos) (s : Shared), Tb D s.gens → Sem.wp M Γ t Q E p s →
    Sem.wp M Γ t (fun a p' s' => ∃ z, s' = U D z ∧ Tb D z.gens ∧ Q a p' z) (fun e p' s' => ∃ z, s' = U D z ∧ Tb D z.gens ∧ E e p' z) p (U D s) := by
  induction t with
  | pure a => intro Q E p s hn h; exact ⟨s, rfl, hn, h⟩
  | raise e => intro Q E p s hn h; exact ⟨s, rfl, hn, h⟩
  | unsupported _ => intro Q E p s _ h; exact h
  | finish _ => intro Q E p s _ h; exact h
  | rule _ k ih => intro Q E p s hn h; exact ih () Q E p s hn h
  | «at» p' k ih => intro Q E p s hn h; exact ih () Q E p' s hn h
  | load a _ k ih => intro Q E p s hn h; obtain ⟨o, ho, h⟩ := h; exact ⟨o, ho, ih o Q E p s hn h⟩
  | update a _ f k ih => intro Q E p s hn h; exact ⟨h.1, ih () Q E p { s with heap := s.heap.update a f } hn h.2⟩
  | loadIfAlive a k ih => intro Q E p s hn h; exact ih _ Q E p s hn h
  | point _ k ih => intro Q E p s hn h; exact ih () Q E p s hn h
  | register _ _ => intro Q E p s _ h; exact h
  | alloc o k ih => intro Q E p s hn h; exact ih _ Q E p { s with heap := s.heap.push o } hn h
  | fresh k ih => intro Q E p s hn h; exact ih _ Q E p { s with toks := s.toks + 1 } hn h
  | ask k ih => intro Q E p s hn h; exact ih _ Q E p s hn h
  | choose src m k ih => intro Q E p s hn h; exact ⟨h.1, ih _ Q E p { s with drawn := s.drawn.bump src } hn h.2⟩
  | os q _ k ih => intro Q E p s hn h; exact ih _ Q E p { s with os := (Os.step s.os q).1 } hn h
  | call c hd _ _ k ih =>
    intro Q E p s hn h
    obtain ⟨r, s', hr, h⟩ := h
    obtain ⟨_, a2, a3⟩ := runs_asleep hr rfl hn
    exact ⟨r, U D s', a3, ih r Q E p s' a2 h⟩
  | handled own k ih => intro Q E p s hn h; exact ih _ Q E p s hn h
  | genState g k ih =>
    intro Q E p s hn h
    obtain ⟨st, hs, h⟩ := h
    obtain ⟨x, h1, h2⟩ := hn.seen hs
    refine ⟨x, h1, ?_⟩
    rw [h2]
    exact ih _ Q E p s hn h
  | newGen c k ih =>
    intro Q E p s hn h
    have q := ih _ Q E p _ hn.push.1 h
    show Sem.wp M Γ (k (un D s.gens).size) _ _ p _
    rw [un_size]
    have e2 : U D { s with gens := s.gens.push (.fresh c) } = { U D s with gens := (U D s).gens.push (.fresh c) } := by
      show ({ s with gens := un D (s.gens.push (.fresh c)) } : Shared) = { s with gens := (un D s.gens).push (.fresh c) }
      rw [hn.push.2]
    rw [e2] at q
    exact q
  | resume g r _ k ih =>
    intro Q E p s hn h
    obtain ⟨res, s', hw, h⟩ := h
    obtain ⟨a1, a2⟩ := wakes_asleep hn hw
    exact ⟨res, U D s', a2, ih res Q E p s' a1 h⟩
  | yield _ _ _ _ => intro Q E p s _ h; exact h
  | stack k ih => intro Q E p s hn h; exact ih _ Q E p s hn h
  | fork _ _ => intro Q E p s _ h; exact h
  | thread k ih => intro Q E p s hn h; exact ih _ Q E p s hn h
  | await _ _ _ _ _ => intro Q E p s _ h; exact h
theorem wpAny_asleep {α : Type} {M : Model} {A : Around} {D : Nat → Option GenState} {s : Shared} {t : Sem α} {Q : α → Shared → Prop} {E : Value → Shared → Prop} (hn : Tb D s.gens) (h : wpAny M A t Q E s) :
    wpAny M A t (fun a s' => ∃ z, s' = U D z ∧ Tb D z.gens ∧ Q a z) (fun e s' => ∃ z, s' = U D z ∧ Tb D z.gens ∧ E e z) (U D s) :=
  fun Γ p hΓ => wp_asleep M Γ D t _ _ p s hn (h Γ p hΓ)
end G

set_option Elab.async false
set_option linter.all false
set_option maxRecDepth 100000
namespace G
open PySem L2 PyProof.Rows
/-! ### the heap only grows, and what is not there does not come back -/
structure Old (h h' : Heap) : Prop where
  sz : h.objs.size ≤ h'.objs.size
  no : ∀ b, b < h.objs.size → h.get? b = none → h'.get? b = none
theorem Old.refl (h : Heap) : Old h h := ⟨Nat.le_refl _, fun _ _ x => x⟩
theorem Old.trans {a b c : Heap} (x : Old a b) (y : Old b c) : Old a c := ⟨Nat.le_trans x.sz y.sz, fun i hi h => y.no i (Nat.lt_of_lt_of_le hi x.sz) (x.no i hi h)⟩
theorem Old.push (h : Heap) (o : Obj) : Old h (h.push o) := by
  obtain ⟨objs, l⟩ := h
  refine ⟨by show objs.size ≤ (objs.push o).size; rw [Array.size_push]; omega, fun b hb hn => ?_⟩
  have e : (Heap.mk objs l).get? b = ((Heap.mk objs l).push o).get? b := by
    unfold Heap.get?
    show (match objs[b]? with | some ⟨_, _, .freed, _⟩ => none | x => x) = (match (objs.push o)[b]? with | some ⟨_, _, .freed, _⟩ => none | x => x)
    rw [Array.getElem?_push, if_neg (Nat.ne_of_lt hb)]
  rw [← e]
  exact hn
theorem Old.update (h : Heap) (a : Addr) (f : Obj → Obj) (ha : (h.get? a).isSome) : Old h (h.update a f) := by
  refine ⟨?_, fun b hb hn => ?_⟩
  · obtain ⟨objs, l⟩ := h
    show objs.size ≤ (objs.modify a f).size
    rw [Array.size_modify]
    exact Nat.le_refl _
  · have hne : a ≠ b := fun e => by subst e; rw [hn] at ha; cases ha
    rw [Heap.get?_update_other _ _ hne]
    exact hn
theorem runs_old {M : Model} {Γ : Ctx} {p : Pos} {t : Sem PySem.Fin} {fs : List Frame} {s s' : Shared} {e : End} (h : Runs M Γ p t fs s e s') : Old s.heap s'.heap := by
  induction h with
  | done => exact .refl _
  | raise => exact .refl _
  | yield => exact .refl _
  | update ho _ ih => exact (Old.update _ _ _ ho).trans ih
  | alloc _ ih => exact (Old.push _ _).trans ih
  | call _ _ ih1 ih2 => exact ih1.trans ih2
  | resumeFresh _ _ _ _ ih1 ih2 => exact ih1.trans ih2
  | resumeSuspended _ _ _ _ ih1 ih2 => exact ih1.trans ih2
  | segRet _ _ ih1 ih2 => exact ih1.trans ih2
  | segGen _ _ ih1 ih2 => exact ih1.trans ih2
  | segSuspGen _ _ _ _ ih1 ih2 => exact ih1.trans ih2
  | _ => assumption
theorem wakes_old {M : Model} {Γ : Ctx} {p : Pos} {g : Nat} {r : Resume} {s s' : Shared} {res : GenResult} (h : Wakes M Γ p g r s res s') : Old s.heap s'.heap := by
  unfold Wakes at h
  split at h
  · exact h.elim
  · split at h
    · obtain ⟨e₁, s₁, hr, _, _, rfl⟩ := h
      exact (runs_old hr : Old (s.setGen g .running).heap s₁.heap)
    · rw [h.2]; exact .refl _
    · rw [h.2]; exact .refl _
  · obtain ⟨e₁, s₁, hr, _, _, rfl⟩ := h
    exact (runs_old hr : Old (s.setGen g .running).heap s₁.heap)
  · rw [h.2]; exact .refl _
  · rw [h.2]; exact .refl _
theorem wp_old {α : Type} (M : Model) (Γ : Ctx) (h0 : Heap) (t : Sem α) : ∀ (Q : α → Pos → Shared → Prop) (E : Value → Pos → Shared → Prop) (p : Pos) (s : Shared), Old h0 s.heap → Sem.wp M Γ t Q E p s →
    Sem.wp M Γ t (fun a p' s' => Old h0 s'.heap ∧ Q a p' s') (fun e p' s' => Old h0 s'.heap ∧ E e p' s') p s := by
  induction t with
  | pure a => intro Q E p s hn h; exact ⟨hn, h⟩
  | raise e => intro Q E p s hn h; exact ⟨hn, h⟩
  | unsupported _ => intro Q E p s _ h; exact h
  | finish _ => intro Q E p s _ h; exact h
  | rule _ k ih => intro Q E p s hn h; exact ih () Q E p s hn h
  | «at» p' k ih => intro Q E p s hn h; exact ih () Q E p' s hn h
  | load a _ k ih => intro Q E p s hn h; obtain ⟨o, ho, h⟩ := h; exact ⟨o, ho, ih o Q E p s hn h⟩
  | update a _ f k ih => intro Q E p s hn h; exact ⟨h.1, ih () Q E p _ (hn.trans (Old.update _ _ _ h.1)) h.2⟩
  | loadIfAlive a k ih => intro Q E p s hn h; exact ih _ Q E p s hn h
  | point _ k ih => intro Q E p s hn h; exact ih () Q E p s hn h
  | register _ _ => intro Q E p s _ h; exact h
  | alloc o k ih => intro Q E p s hn h; exact ih _ Q E p _ (hn.trans (Old.push _ _)) h
  | fresh k ih => intro Q E p s hn h; exact ih _ Q E p { s with toks := s.toks + 1 } hn h
  | ask k ih => intro Q E p s hn h; exact ih _ Q E p s hn h
  | choose src m k ih => intro Q E p s hn h; exact ⟨h.1, ih _ Q E p { s with drawn := s.drawn.bump src } hn h.2⟩
  | os q _ k ih => intro Q E p s hn h; exact ih _ Q E p { s with os := (Os.step s.os q).1 } hn h
  | call c hd _ _ k ih =>
    intro Q E p s hn h
    obtain ⟨r, s', hr, h⟩ := h
    exact ⟨r, s', hr, ih r Q E p s' (hn.trans (runs_old hr)) h⟩
  | handled own k ih => intro Q E p s hn h; exact ih _ Q E p s hn h
  | genState g k ih =>
    intro Q E p s hn h
    obtain ⟨st, hs, h⟩ := h
    exact ⟨st, hs, ih _ Q E p s hn h⟩
  | newGen c k ih => intro Q E p s hn h; exact ih _ Q E p { s with gens := s.gens.push (.fresh c) } hn h
  | resume g r _ k ih =>
    intro Q E p s hn h
    obtain ⟨res, s', hw, h⟩ := h
    exact ⟨res, s', hw, ih res Q E p s' (hn.trans (wakes_old hw)) h⟩
  | yield _ _ _ _ => intro Q E p s _ h; exact h
  | stack k ih => intro Q E p s hn h; exact ih _ Q E p s hn h
  | fork _ _ => intro Q E p s _ h; exact h
  | thread k ih => intro Q E p s hn h; exact ih _ Q E p s hn h
  | await _ _ _ _ _ => intro Q E p s _ h; exact h
theorem wpAny_old {α : Type} {M : Model} {A : Around} {s : Shared} {t : Sem α} {Q : α → Shared → Prop} {E : Value → Shared → Prop} (h : wpAny M A t Q E s) :
    wpAny M A t (fun a s' => Old s.heap s'.heap ∧ Q a s') (fun e s' => Old s.heap s'.heap ∧ E e s') s :=
  fun Γ p hΓ => wp_old M Γ s.heap t _ _ p s (.refl _) (h Γ p hΓ)
/-! ### for, within a generator -/
section
variable {M : Model} {A : Around} {R : GenEnd} {Y : Protocol} {n : Nat} {s₀ s : Shared} {c : Code} {fs : List Frame} {env : Env} {K : Flow → Sem PySem.Fin} {J : Value → Sem PySem.Fin} {gd : Bool → Bool} {lv : List Value → List Value}
theorem seg_run {c' : Code} (h : ∀ p, Seg M A R Y n s₀ c' (M.den c') (.ret (fun r => ((match r with | .ok f => (.pure f : Sem Flow) | .error e => .raise e).onRaise (L2.cameBack env)).wrap K J gd lv) none (gd false) (lv []) c p [] :: fs) s) :
    Seg M A R Y n s₀ c ((runOwn c' env).wrap K J gd lv) fs s := seg_call h
theorem seg_For {tg iter : Expr} {body : List Stmt} {pos : Pos}
    (h : wpAny M (A.over c fs) (eval iter env) (fun x s₁ => wpAny M (A.over c fs) (pyIter x) (fun it s₂ => ∀ p, Seg M A R Y n s₀ (.forLoop tg it body [] env) (M.den (.forLoop tg it body [] env))
      (.ret (fun r => ((match r with | .ok f => (.pure f : Sem Flow) | .error e => .raise e).onRaise (L2.cameBack env)).wrap K J gd lv) none (gd false) (lv []) c p [] :: fs) s₂) (fun _ _ => False) s₁) (fun _ _ => False) s)
    (hs : ∀ x, foldedSetIterable iter env x = pure x := by intro _; rfl) :
    Seg M A R Y n s₀ c ((exec (.For tg iter body [] pos) env).wrap K J gd lv) fs s := by
  have e : exec (.For tg iter body [] pos) env = (do
      let it ← (do
        standAt pos
        let x ← eval iter env
        let x ← foldedSetIterable iter env x
        standAt iter.pos
        holding [x] (pyIter x))
      runOwn (.forLoop tg it body [] env) env) := by
    rw [exec_For]
    simp only [bind_assoc]
  rw [e, Sem.bind_eq_wrap', Sem.wrap_wrap]
  refine seg_wrap ?_
  refine wpAny_bind (wpAny_standAt (wpAny_bind (wpAny_mono h (fun x s₁ h₁ => ?_) fun _ _ x => x.elim)))
  refine wpAny_bind (wpAny_of_eq (hs x) ?_)
  refine wpAny_bind (wpAny_standAt ?_)
  refine wpAny_holding (wpAny_mono h₁ (fun it s₂ h₂ => ?_) fun _ _ x => x.elim)
  exact seg_run h₂
end
section
variable {prog : Program} {w : World} {A : Around} {R : GenEnd} {Y : Protocol} {n : Nat} {s₀ s : Shared} {fs : List Frame} {env : Env} {tg : Expr} {it : Value} {body : List Stmt}
/-- what follows a turn's body -/
def loopK (tg : Expr) (it : Value) (body : List Stmt) (env : Env) : Flow → Sem PySem.Fin
  | .next | .cont => .pure (.again (.forLoop tg it body [] env))
  | .brk => .pure (.done .next)
  | .ret v => .pure (.done (.ret v))
def loopJ (env : Env) (e : Value) : Sem PySem.Fin := (do noteFrame e env; theTreesLotGoes e : Sem Unit).bind fun _ => .raise e
theorem seg_forLoop
    (h : wpAny (model prog w) (A.over (.forLoop tg it body [] env) fs) (pyNext it) (fun r s₁ => match r with
      | none => Seg (model prog w) A R Y n s₀ (.block [] env) ((model prog w).den (.block [] env)) fs s₁
      | some v => wpAny (model prog w) (A.over (.forLoop tg it body [] env) fs) (letOwnedTupleGo tg it v) (fun _ s₂ => wpAny (model prog w) (A.over (.forLoop tg it body [] env) fs) (assign tg env v) (fun _ s₃ =>
          Seg (model prog w) A R Y n s₀ (.forLoop tg it body [] env) ((execs body env).wrap (loopK tg it body env) (loopJ env) id id) fs s₃) (fun _ _ => False) s₂) (fun _ _ => False) s₁) (fun _ _ => False) s) :
    Seg (model prog w) A R Y n s₀ (.forLoop tg it body [] env) ((model prog w).den (.forLoop tg it body [] env)) fs s := by
  show Seg _ A R Y n s₀ _ ((forTurn tg it body [] env).onRaise (fun x => do noteFrame x env; theTreesLotGoes x)) fs s
  unfold forTurn
  rw [Sem.onRaise_eq_wrap, Sem.bind_eq_wrap', Sem.wrap_wrap]
  refine seg_wrap (wpAny_standAt ?_)
  rw [Sem.bind_eq_wrap', Sem.wrap_wrap]
  refine seg_wrap (wpAny_onRaise (wpAny_mono h (fun r s₁ h₁ => ?_) fun _ _ x => x.elim))
  cases r with
  | none => exact seg_again rfl h₁
  | some v =>
    show Seg _ A R Y n s₀ _ (Sem.wrap _ _ _ _ (letOwnedTupleGo tg it v >>= fun _ => assign tg env v >>= fun _ => execs body env >>= _)) fs s₁
    rw [Sem.bind_eq_wrap', Sem.wrap_wrap]
    refine seg_wrap (wpAny_mono h₁ (fun _ s₂ h₂ => ?_) fun _ _ x => x.elim)
    rw [Sem.bind_eq_wrap', Sem.wrap_wrap]
    refine seg_wrap (wpAny_mono h₂ (fun _ s₃ h₃ => ?_) fun _ _ x => x.elim)
    rw [Sem.bind_eq_wrap', Sem.wrap_wrap]
    refine Eq.mp (congrArg (fun t => Seg (model prog w) A R Y n s₀ (.forLoop tg it body [] env) t fs s₃) (Sem.wrap_congr (execs body env) id id (fun f => ?_) (fun e => ?_))) h₃
    · cases f <;> rfl
    · rfl
theorem seg_block (h : Seg (model prog w) A R Y n s₀ (.block [] env) (.pure (.done .next)) fs s) : Seg (model prog w) A R Y n s₀ (.block [] env) ((model prog w).den (.block [] env)) fs s := h
end
end G

set_option Elab.async false
set_option linter.all false
set_option maxRecDepth 100000
namespace G
open PySem L2 PyProof.Rows GenW
/-! ### a generator beside its consumer -/
/-- what is fixed of a generator: its def, where it is woken, the first address of its own, its object, the tuples that are known to it from its making on -/
structure Gn where
  P : Program
  w : World
  K : PySem.W.Frag
  mg : Str → Option Value
  base : Heap
  N : List Str
  qual : Str
  scope : Scope
  f : Addr
  cd : Value
  A : Around
  outer : List Env
  n0 : Nat
  a : Addr
  o : Obj
  T : Hp
def Gn.env (G : Gn) : Env := envOfC G.qual G.scope G.n0 G.f G.cd
def Gn.X (G : Gn) (r : Shared) (Hw : Hp) (pn : List (Addr × Obj)) : Cx where
  prog := G.P
  w := G.w
  K := G.K
  mg := G.mg
  base := G.base
  A := G.A.deeper G.env
  N := G.N
  s_0 := r
  H_0 := Hw
  env := G.env
  outer := G.outer
  stack := G.env :: G.outer
  ex := []
  calm := true
  fn := fun _ => true
  pn := pn
  xe := fun _ _ => False
/-- a tuple, by its items -/
def TupAt (h : Heap) (b : Addr) (xs : List V) : Prop := xs.length ≤ sizeLine ∧ ∃ its : List Value, Vals xs its ∧ IsTup h b its.toArray
def TupC (o : Obj) : Prop := o.cls = .type "tuple" ∧ ∃ its n, o.data = .seq its n
theorem TupAt.get {h : Heap} {b : Addr} {xs : List V} (t : TupAt h b xs) : ∃ o, h.get? b = some o ∧ TupC o := by
  obtain ⟨_, its, _, o, h1, h2, n, h3⟩ := t
  exact ⟨o, h1, h2, _, n, h3⟩
theorem TupAt.at {h h' : Heap} {b : Addr} {xs : List V} (t : TupAt h b xs) (e : ∀ o, h.get? b = some o → h'.get? b = some o) : TupAt h' b xs := by
  obtain ⟨z, its, r, o, h1, h2⟩ := t
  exact ⟨z, its, r, o, e o h1, h2⟩
def absV : Value → Option V
  | .none => some .non
  | .bool b => some (.bl b)
  | .int i _ => some (.int i)
  | .str x _ => some (.str x)
  | .bytes x _ => some (.byt x)
  | .float x _ => some (.flt x)
  | .ref a => some (.ref a)
  | .type n => some (.ty n)
  | _ => none
theorem absV_of {x : V} {u : Value} (h : L2.RelV x u) : absV u = some x := by
  cases x with
  | non => cases h; rfl
  | bl _ => cases h; rfl
  | int _ => obtain ⟨t, rfl⟩ := h; rfl
  | str _ => obtain ⟨t, rfl⟩ := h; rfl
  | byt _ => obtain ⟨t, rfl⟩ := h; rfl
  | flt _ => obtain ⟨t, rfl⟩ := h; rfl
  | ref _ => cases h; rfl
  | ty _ => cases h; rfl
theorem relV_uniq {x y : V} {u : Value} (h : L2.RelV x u) (h' : L2.RelV y u) : x = y := Option.some.inj ((absV_of h).symm.trans (absV_of h'))
theorem vals_uniq : ∀ {xs ys : List V} {us : List Value}, Vals xs us → Vals ys us → xs = ys
  | [], [], _, _, _ => rfl
  | [], _ :: _, [], _, h => by cases h
  | [], _ :: _, _ :: _, h, _ => by cases h
  | _ :: _, [], [], h, _ => by cases h
  | _ :: _, [], _ :: _, _, h => by cases h
  | x :: xs, y :: ys, _, .cons a b, .cons c d => by rw [relV_uniq a c, vals_uniq b d]
theorem TupAt.uniq {h : Heap} {b : Addr} {xs ys : List V} (t : TupAt h b xs) (t' : TupAt h b ys) : xs = ys := by
  obtain ⟨_, its, r, o, h1, _, n, h2⟩ := t
  obtain ⟨_, its', r', o', h1', _, n', h2'⟩ := t'
  rw [h1] at h1'
  cases h1'
  rw [h2] at h2'
  cases h2'
  exact vals_uniq r r'
/-- the tuples that the generator knows from its making on -/
structure Gn.Ok (G : Gn) : Prop where
  t : ∀ b u, G.T b = some u → b < G.n0 ∧ ((∃ xs, u = .tup xs) ∨ ∃ o xs, u = .frz o (.tup xs))
  nc : ∀ x, G.env.kindOf x ≠ some .cell ∧ G.env.kindOf x ≠ some .free
  cs : G.env.cells = []
  fr : ∀ b ∈ frs G.outer, b < G.n0 ∧ G.T b = none
  ga : G.n0 < G.a ∧ ¬ TupC G.o ∧ ∀ v, G.o.data ≠ .cell v
/-- how a run stands to the state in which it was woken -/
structure Root (G : Gn) (s₀ r : Shared) (Hw : Hp) (pn : List (Addr × Obj)) : Prop where
  rsz : r.heap.objs.size = G.n0
  rh : ∀ b, r.heap.get? b = if b < G.n0 then s₀.heap.get? b else none
  ros : r.os = s₀.os
  hw : ∀ b u, Hw b = some u → (b < G.n0 → G.T b = some u) ∧ (G.n0 ≤ b → noFrz u = true)
  ht : ∀ b u, G.T b = some u → Hw b = some u
  pt : ∀ b o, G.n0 ≤ b → s₀.heap.get? b = some o → TupC o → (b, o) ∈ pn ∨ ∃ xs, Hw b = some (.tup xs)
  pa : (G.a, G.o) ∈ pn
  pk : ∀ p ∈ pn, p = (G.a, G.o) ∨ TupC p.2
  hok : HOk G.P G.w Hw s₀.heap
/-- running -/
structure Rn (G : Gn) (s₀ : Shared) (ip : List (Addr × Obj)) (σ : L2.St) (H : Hp) (s : Shared) (r : Shared) (Hw : Hp) (pn : List (Addr × Obj)) : Prop where
  inv : Inv (G.X r Hw pn) ip σ H s
  root : Root G s₀ r Hw pn
  tk : TK Hw H
  ipo : ∀ p ∈ ip, G.n0 ≤ p.1 ∧ ¬ TupC p.2
/-- what a run leaves as it is -/
structure Prm (G : Gn) (s₀ s : Shared) : Prop where
  low : ∀ b o, b < G.n0 → s₀.heap.get? b = some o → b ∉ frs G.outer → s.heap.get? b = some o ∨ ∃ xs, G.T b = some (.tup xs) ∧ TupAt s.heap b xs
  slot : ∀ b o, b ∈ frs G.outer → s₀.heap.get? b = some o → ∃ sl, s.heap.get? b = some { o with slots := sl }
  tup : ∀ b xs, G.n0 ≤ b → TupAt s₀.heap b xs → TupAt s.heap b xs
  own : s.heap.get? G.a = some G.o
  os : s.os = s₀.os
section
variable {G : Gn} {s₀ s r : Shared} {ip : List (Addr × Obj)} {σ : L2.St} {H Hw : Hp} {pn : List (Addr × Obj)}
theorem Rn.tupH (R : Rn G s₀ ip σ H s r Hw pn) {b : Addr} {xs : List V} (h : H b = some (.tup xs)) : TupAt s.heap b xs := R.inv.hok b _ h
theorem Rn.prm (R : Rn G s₀ ip σ H s r Hw pn) (ok : G.Ok) : Prm G s₀ s := by
  have un := R.inv.base
  have hw : ∀ b xs, Hw b = some (.tup xs) → TupAt s₀.heap b xs := fun b xs h => R.root.hok b _ h
  refine ⟨fun b o hb ho hf => ?_, fun b o hf ho => ?_, fun b xs hb ht => ?_, (R.inv.pin (G.a, G.o) (List.mem_append_left _ R.root.pa)).1, R.inv.os.trans R.root.ros⟩
  · have hr : r.heap.get? b = some o := by rw [R.root.rh, if_pos hb]; exact ho
    cases hz : Hw b with
    | none => exact .inl (un.keep b o hr hz hf (fun z => by simp [Gn.X] at z))
    | some u =>
      have ht := (R.root.hw b u hz).1 hb
      rcases (ok.t b u ht).2 with ⟨xs, rfl⟩ | ⟨ob, xs, rfl⟩
      · exact .inr ⟨xs, ht, R.tupH (un.tups b xs hz)⟩
      · have := R.inv.hok b _ (un.frzs b ob _ hz)
        have e1 : s.heap.get? b = some ob := this.1
        have e2 : s₀.heap.get? b = some ob := (R.root.hok b _ hz).1
        rw [ho] at e2
        cases e2
        exact .inl e1
  · have hb := (ok.fr b hf).1
    have hr : r.heap.get? b = some o := by rw [R.root.rh, if_pos hb]; exact ho
    have hz : Hw b = none := by
      cases hz : Hw b with
      | none => rfl
      | some u =>
        have := (R.root.hw b u hz).1 hb
        rw [(ok.fr b hf).2] at this
        cases this
    exact un.slot b o hr hz hf (fun z => by simp [Gn.X] at z)
  · obtain ⟨o, ho, hc⟩ := ht.get
    rcases R.root.pt b o hb ho hc with hp | ⟨ys, hy⟩
    · have := (R.inv.pin (b, o) (List.mem_append_left _ hp)).1
      exact ht.at fun o' e => by rw [ho] at e; cases e; exact this
    · have hz := hw b ys hy
      rw [hz.uniq ht] at hy
      exact R.tupH (un.tups b xs hy)
/-- what the generator needs while it sleeps -/
structure Dmd (G : Gn) (H : Hp) (s₀ s s2 : Shared) : Prop where
  os : s2.os = s.os
  bare : AllBare s2.gens
  tup : ∀ b xs, H b = some (.tup xs) → TupAt s2.heap b xs
  frz : ∀ b o u, G.T b = some (.frz o u) → s2.heap.get? b = some o
  own : ∀ b o, G.n0 ≤ b → s.heap.get? b = some o → ¬ TupC o → (∀ v, o.data ≠ .cell v) → s2.heap.get? b = some o
  base : ∀ b o, G.base.get? b = some o → s2.heap.get? b = some o
  funs : s2.heap.FunFrames G.base G.outer
  old : ∀ b, b < G.n0 → s₀.heap.get? b = none → s.heap.get? b = none
  sz : G.n0 ≤ s2.heap.objs.size
/-- the first n objects -/
def cutH (h : Heap) (n : Nat) : Heap := ⟨h.objs.extract 0 n, h.life⟩
theorem cutH_get {h : Heap} {n b : Nat} : (cutH h n).get? b = if b < n then h.get? b else none := by
  unfold Heap.get?
  show (match (h.objs.extract 0 n)[b]? with | some ⟨_, _, .freed, _⟩ => none | x => x) = _
  rw [Array.getElem?_extract]
  by_cases hb : b < n
  · rw [if_pos hb]
    by_cases hl : b < h.objs.size
    · rw [if_pos (by omega), Nat.zero_add]
      rfl
    · rw [if_neg (by omega), Array.getElem?_eq_none (by omega)]
  · rw [if_neg hb, if_neg (by omega)]
theorem cutH_size {h : Heap} {n : Nat} (hn : n ≤ h.objs.size) : (cutH h n).objs.size = n := by
  show (h.objs.extract 0 n).size = n
  rw [Array.size_extract]
  omega
theorem cut_funs {h base : Heap} {n : Nat} : ∀ {l : List Env}, h.FunFrames base l → (∀ b ∈ frs l, b < n) → (cutH h n).FunFrames base l
  | [], _, _ => trivial
  | env :: rest, ⟨hk, ⟨L, o, hf, hn, ho, hd⟩, hr⟩, hb => by
    have hm : L ∈ frs (env :: rest) := by
      unfold frs
      rw [List.filterMap_cons, hf]
      exact List.mem_cons_self
    refine ⟨hk, ⟨L, o, hf, hn, by rw [cutH_get, if_pos (hb L hm)]; exact ho, hd⟩, cut_funs hr fun b q => hb b ?_⟩
    unfold frs at q ⊢
    rw [List.filterMap_cons, hf]
    exact List.mem_cons_of_mem _ q
/-- what is known at a wake -/
def wkH (n : Nat) (H : Hp) : Hp := fun b => match H b with
  | some (.tup xs) => some (.tup xs)
  | some (.frz o u) => some (.frz o u)
  | some (.lst xs) => if n ≤ b then some (.lst xs) else none
  | _ => none
theorem obj_some {P : Program} {w : World} {H : Hp} {h : Heap} {a : Addr} {o : HO} (x : ObjOk P w H h a o) : ∃ ob, h.get? a = Option.some ob := by
  cases o with
  | lst xs => obtain ⟨_, _, _, _, e⟩ := x; exact ⟨_, e⟩
  | tup xs => obtain ⟨_, _, _, o, e, _⟩ := x; exact ⟨_, e⟩
  | dK kvs => obtain ⟨_, _, _, _, o, _, _, e, _⟩ := x; exact ⟨_, e⟩
  | dT kvs => obtain ⟨_, _, _, _, o, _, _, e, _⟩ := x; exact ⟨_, e⟩
  | set S n => obtain ⟨o, _, _, _, e, _⟩ := x; exact ⟨_, e⟩
  | ins C dx fs => obtain ⟨_, _, _, e, _⟩ := x; exact ⟨_, e⟩
  | own y => obtain ⟨_, e⟩ := x; exact ⟨_, e⟩
  | xd fs => obtain ⟨_, ⟨_, _, _, e, _⟩, _⟩ := x; exact ⟨_, e⟩
  | rng lo hi => obtain ⟨_, _, _, e⟩ := x; exact ⟨_, e⟩
  | frz ob u => obtain ⟨e, _⟩ := x; exact ⟨_, e⟩
  | tbl ps => exact ⟨_, x⟩
  | met f y => exact ⟨_, x⟩
  | ext φ => obtain ⟨_, e, _⟩ := x; exact e
theorem wkH_tup {n : Nat} {H : Hp} {b : Addr} {xs : List V} (h : H b = some (.tup xs)) : wkH n H b = some (.tup xs) := by unfold wkH; rw [h]
theorem wkH_frz {n : Nat} {H : Hp} {b : Addr} {o : Obj} {u : HO} (h : H b = some (.frz o u)) : wkH n H b = some (.frz o u) := by unfold wkH; rw [h]
theorem wkH_of {n : Nat} {H : Hp} {b : Addr} {u : HO} (h : wkH n H b = some u) : H b = some u ∧ ((∃ xs, u = .tup xs) ∨ (∃ o v, u = .frz o v) ∨ ((∃ xs, u = .lst xs) ∧ n ≤ b)) := by
  unfold wkH at h
  split at h
  · rename_i xs e; cases h; exact ⟨e, .inl ⟨_, rfl⟩⟩
  · rename_i o v e; cases h; exact ⟨e, .inr (.inl ⟨_, _, rfl⟩)⟩
  · rename_i xs e
    split at h
    · cases h; exact ⟨e, .inr (.inr ⟨⟨_, rfl⟩, by assumption⟩)⟩
    · cases h
  · cases h
theorem wkH_none {n : Nat} {H : Hp} {b : Addr} (h : H b = none) : wkH n H b = none := by unfold wkH; rw [h]
theorem wkH_tk {n : Nat} {H : Hp} : TK H (wkH n H) := ⟨fun a xs h => wkH_tup h, fun a o u h => wkH_frz h, fun a o u h => (wkH_of h).1⟩
/-- what is known below comes from the making -/
theorem Rn.low (R : Rn G s₀ ip σ H s r Hw pn) (ok : G.Ok) (old : ∀ b, b < G.n0 → s₀.heap.get? b = none → s.heap.get? b = none) {b : Addr} {u : HO} (hb : b < G.n0) (h : H b = some u) : Hw b = some u ∧ G.T b = some u := by
  have un := R.inv.base
  have hs : s.heap.get? b ≠ none := fun z => by
    have := (R.inv.hok b u h)
    cases hz : s.heap.get? b with
    | none => exact absurd z (by obtain ⟨o, e⟩ := obj_some this; rw [e]; simp)
    | some o => rw [hz] at z; cases z
  cases h0 : s₀.heap.get? b with
  | none => exact absurd (old b hb h0) hs
  | some o =>
    have hr : r.heap.get? b = some o := by rw [R.root.rh, if_pos hb]; exact h0
    cases hz : Hw b with
    | none =>
      have := un.free b o hr hz (fun z => by simp [Gn.X] at z)
      rw [h] at this
      cases this
    | some v =>
      have ht := (R.root.hw b v hz).1 hb
      rcases (ok.t b v ht).2 with ⟨xs, rfl⟩ | ⟨ob, xs, rfl⟩
      · have := un.tups b xs hz
        rw [h] at this
        cases this
        exact ⟨rfl, ht⟩
      · have := un.frzs b ob _ hz
        rw [h] at this
        cases this
        exact ⟨rfl, ht⟩
/-- all tuples from n on but those that are known -/
def isTC (o : Obj) : Bool := match o.data with
  | .seq _ _ => decide (o.cls = .type "tuple")
  | _ => false
theorem isTC_iff {o : Obj} : isTC o = true ↔ TupC o := by
  unfold isTC TupC
  constructor
  · intro h
    split at h
    · rename_i its n e
      exact ⟨by simpa using h, its, n, e⟩
    · cases h
  · rintro ⟨h1, its, n, h2⟩
    rw [h2]
    simpa using h1
def tupsOf (n : Nat) (H : Hp) (h : Heap) : List (Addr × Obj) := (List.range h.objs.size).filterMap fun b => match h.get? b with
  | some o => if n ≤ b ∧ isTC o = true ∧ (H b).isNone then some (b, o) else none
  | none => none
theorem tupsOf_mem {n : Nat} {H : Hp} {h : Heap} {b : Addr} {o : Obj} : (b, o) ∈ tupsOf n H h ↔ h.get? b = some o ∧ n ≤ b ∧ TupC o ∧ H b = none := by
  unfold tupsOf
  rw [List.mem_filterMap]
  constructor
  · rintro ⟨c, _, hc⟩
    cases hz : h.get? c with
    | none => rw [hz] at hc; cases hc
    | some o' =>
      rw [hz] at hc
      simp only at hc
      split at hc
      · rename_i hh
        cases hc
        exact ⟨hz, hh.1, isTC_iff.1 hh.2.1, by simpa using hh.2.2⟩
      · cases hc
  · rintro ⟨h1, h2, h3, h4⟩
    refine ⟨b, List.mem_range.2 (Heap.lt_size h1), ?_⟩
    rw [h1]
    simp [h2, isTC_iff.2 h3, h4]
theorem Rn.wake (R : Rn G s₀ ip σ H s r Hw pn) (ok : G.Ok) {s2 : Shared} (d : Dmd G H s₀ s s2) : ∃ r2 pn2, Rn G s2 ip σ (wkH G.n0 H) s2 r2 (wkH G.n0 H) pn2 := by
  obtain ⟨I, root, tk, ipo⟩ := R
  have R : Rn G s₀ ip σ H s r Hw pn := ⟨I, root, tk, ipo⟩
  have nf : ∀ b o u, G.n0 ≤ b → H b ≠ some (.frz o u) := fun b o u hb h => by
    have := (root.hw b _ (tk.nof b o u h)).2 hb
    cases this
  have hok2 : HOk G.P G.w (wkH G.n0 H) s2.heap := fun b u h => by
    obtain ⟨h1, h2⟩ := wkH_of h
    rcases h2 with ⟨xs, rfl⟩ | ⟨o, v, rfl⟩ | ⟨⟨xs, rfl⟩, hb⟩
    · exact d.tup b xs h1
    · have hb : b < G.n0 := by
        rcases Nat.lt_or_ge b G.n0 with z | z
        · exact z
        · exact absurd h1 (nf b o v z)
      have ht := (R.low ok d.old hb h1).2
      have e2 := d.frz b o v ht
      refine ⟨e2, ?_⟩
      rcases (ok.t b _ ht).2 with ⟨xs, e⟩ | ⟨ob, xs, e⟩
      · cases e
      · cases e
        obtain ⟨e1, q⟩ := I.hok b _ h1
        exact TupAt.at (h := s.heap) q fun o' e => by rw [e1] at e; cases e; exact e2
    · obtain ⟨z, its, n, rv, e⟩ := I.hok b _ h1
      exact ⟨z, its, n, rv, d.own b _ hb e (fun q => absurd q.1 (by simp)) fun v q => by cases q⟩
  obtain ⟨m, hn, hl⟩ := I.loc
  have hn2 : s2.heap.Ns G.env.locals m := by
    obtain ⟨o, es, ep, h1, h2, h3⟩ := hn
    exact ⟨o, es, ep, d.own _ o (Nat.le_refl _) h1 (fun q => by obtain ⟨_, _, _, q⟩ := q; rw [h2] at q; cases q) (fun v q => by rw [h2] at q; cases q), h2, h3⟩
  have bz : G.base.objs.size ≤ G.n0 := by
    have := I.ok.bsz
    have e : (G.X r Hw pn).s_0.heap.objs.size = G.n0 := root.rsz
    rw [e] at this
    exact this
  have bT : ∀ b o, G.base.get? b = some o → wkH G.n0 H b = none := fun b o e => by
    have hb : b < G.n0 := Nat.lt_of_lt_of_le (Heap.lt_size e) bz
    refine wkH_none ?_
    cases hz : H b with
    | none => rfl
    | some u =>
      have h1 := (R.low ok d.old hb hz).1
      have h2 := (I.ok.bs b o e).2
      have h2 : Hw b = none := h2
      rw [h1] at h2
      cases h2
  have fsT : ∀ b, b ∈ frs G.outer → wkH G.n0 H b = none := fun b hb => by
    refine wkH_none ?_
    cases hz : H b with
    | none => rfl
    | some u =>
      have := (R.low ok d.old (ok.fr b hb).1 hz).2
      rw [(ok.fr b hb).2] at this
      cases this
  have okX : (G.X { s2 with heap := cutH s2.heap G.n0 } (wkH G.n0 H) ((G.a, G.o) :: tupsOf G.n0 (wkH G.n0 H) s2.heap)).Ok := {
    mod := I.ok.mod, kind := I.ok.kind, glob := I.ok.glob, blt := I.ok.blt,
    above := by
      show (cutH s2.heap G.n0).objs.size ≤ _
      rw [cutH_size d.sz]
      exact Nat.le_refl _
    inj := I.ok.inj, has := I.ok.has,
    cab := fun x c _ h => by
      have h : G.env.cells.lookup x = some c := h
      rw [ok.cs] at h
      cases h
    hd := I.ok.hd, frames := I.ok.frames, stk := I.ok.stk,
    exf := fun b hb => by cases hb
    bs := fun b o e => ⟨by
      show (cutH s2.heap G.n0).get? b = some o
      rw [cutH_get, if_pos (Nat.lt_of_lt_of_le (Heap.lt_size e) bz)]
      exact d.base b o e, bT b o e⟩
    bsz := by
      show G.base.objs.size ≤ (cutH s2.heap G.n0).objs.size
      rw [cutH_size d.sz]
      exact bz
    noex := fun b o _ hb => by cases hb
    exfs := fun b hb => by cases hb
    funs := cut_funs d.funs fun b hb => (ok.fr b hb).1
    frf := fsT }
  have cut : ∀ {b : Addr} {o : Obj}, (cutH s2.heap G.n0).get? b = some o → s2.heap.get? b = some o ∧ b < G.n0 := fun {b o} e => by
    rw [cutH_get] at e
    split at e
    · exact ⟨e, by assumption⟩
    · cases e
  have pins : ∀ p ∈ ((G.a, G.o) :: tupsOf G.n0 (wkH G.n0 H) s2.heap) ++ ip, s2.heap.get? p.1 = some p.2 ∧ wkH G.n0 H p.1 = none ∧ p.1 ≠ G.env.locals ∧ p.1 ∉ frs G.outer ∧ ∀ v, p.2.data ≠ .cell v := fun p hp => by
    rcases List.mem_append.mp hp with hp | hp
    · rcases List.mem_cons.mp hp with rfl | hp
      · obtain ⟨h1, h2, h3, h4, h5⟩ := I.pin (G.a, G.o) (List.mem_append_left _ root.pa)
        exact ⟨d.own _ _ (Nat.le_of_lt ok.ga.1) h1 ok.ga.2.1 ok.ga.2.2, wkH_none h2, h3, h4, h5⟩
      · obtain ⟨b, o⟩ := p
        obtain ⟨h1, h2, ⟨_, its, n, h3⟩, h4⟩ := tupsOf_mem.1 hp
        refine ⟨h1, h4, fun e => ?_, fun hf => ?_, fun v q => ?_⟩
        · obtain ⟨o', es, ep, q1, q2, _⟩ := hn2
          have e : b = G.env.locals := e
          rw [← e, h1] at q1
          cases q1
          rw [h3] at q2
          cases q2
        · exact absurd (ok.fr b hf).1 (Nat.not_lt.2 h2)
        · have q : o.data = .cell v := q
          rw [h3] at q
          cases q
    · obtain ⟨h1, h2, h3, h4, h5⟩ := I.pin p (List.mem_append_right _ hp)
      exact ⟨d.own _ _ (ipo p hp).1 h1 (ipo p hp).2 h5, wkH_none h2, h3, h4, h5⟩
  refine ⟨{ s2 with heap := cutH s2.heap G.n0 }, (G.a, G.o) :: tupsOf G.n0 (wkH G.n0 H) s2.heap, ?_, ?_, TK.refl _, ipo⟩
  · exact {
      ok := okX, os := rfl, bare := d.bare,
      base := {
        keep := fun b o e _ _ _ => (cut e).1
        slot := fun b o e _ _ _ => ⟨o.slots, (cut e).1⟩
        free := fun b o e h _ => h
        there := fun b o e _ => ⟨o, (cut e).1⟩
        tups := fun b xs h => h
        frzs := fun b o u h => h
        tbls := fun b ps h => ⟨#[], by
          have h : wkH G.n0 H b = some (.tbl ps) := h
          rw [h]
          simp⟩ }
      loc := ⟨m, hn2, fun i x v h1 h2 h3 => by
        obtain ⟨u, q1, q2⟩ := hl i x v h1 h2 h3
        refine ⟨u, q1, ?_⟩
        rcases q2 with q2 | ⟨q2, _⟩
        · exact .inl q2
        · rcases q2 with q2 | q2
          · exact absurd q2 (ok.nc x).1
          · exact absurd q2 (ok.nc x).2⟩
      cell := fun x c h => by
        have h : G.env.cells.lookup x = some c := h
        rw [ok.cs] at h
        cases h
      free := wkH_none I.free
      freeC := fun x c h => by
        have h : G.env.cells.lookup x = some c := h
        rw [ok.cs] at h
        cases h
      pin := pins
      hok := hok2
      len := I.len }
  · exact {
      rsz := cutH_size d.sz
      rh := fun b => cutH_get
      ros := rfl
      hw := fun b u h => ⟨fun hb => (R.low ok d.old hb (wkH_of h).1).2, fun hb => by
        rcases (wkH_of h).2 with ⟨xs, rfl⟩ | ⟨o, v, rfl⟩ | ⟨⟨xs, rfl⟩, _⟩
        · rfl
        · exact absurd (wkH_of h).1 (nf b o v hb)
        · rfl⟩
      ht := fun b u h => by
        have h1 := root.ht b u h
        rcases (ok.t b u h).2 with ⟨xs, rfl⟩ | ⟨ob, xs, rfl⟩
        · exact wkH_tup (tk.tup b xs h1)
        · exact wkH_frz (tk.frz b ob _ h1)
      pt := fun b o hb ho hc => by
        cases hz : wkH G.n0 H b with
        | none => exact .inl (List.mem_cons_of_mem _ (tupsOf_mem.2 ⟨ho, hb, hc, hz⟩))
        | some u =>
          rcases (wkH_of hz).2 with ⟨xs, rfl⟩ | ⟨o', v, rfl⟩ | ⟨⟨xs, rfl⟩, _⟩
          · exact .inr ⟨xs, rfl⟩
          · exact absurd (wkH_of hz).1 (nf b o' v hb)
          · obtain ⟨_, _, _, _, e⟩ := hok2 b _ hz
            rw [ho] at e
            cases e
            exact absurd hc.1 (by simp)
      pa := List.mem_cons_self
      pk := fun p hp => (List.mem_cons.mp hp).imp_right fun q => ((tupsOf_mem (b := p.1) (o := p.2)).1 q).2.2.1
      hok := hok2 }
end
end G

set_option Elab.async false
set_option linter.all false
set_option maxRecDepth 100000
namespace G
open PySem L2 PyProof.Rows GenW
/-! ### a generator's body -/
mutual
def pureD : D → Bool
  | .tup xs => pureL xs
  | .non | .bl _ | .int _ | .str _ => true
  | _ => false
def pureL : List D → Bool
  | [] => true
  | x :: xs => pureD x && pureL xs
end
def big : Nat := 100000
/-- at a yield: the next of the items, and what the generator needs to go on -/
def Yp (G : Gn) (L : List D) : Protocol := fun n s₀ v s kap =>
  ∃ ip σ H r Hw pn x d g i, Rn G s₀ ip σ H s r Hw pn ∧ L2.RelV x v ∧ Rep G.K g H x d ∧ pureD d = true ∧ L[i]? = some d ∧ n + 1 + i = big ∧ ∀ s2, Dmd G H s₀ s s2 → kap (.send .none) s2 ∧ kap (.send (.bool true)) s2
def Rp (G : Gn) (L : List D) : GenEnd := fun n s₀ res s =>
  ((res = .ok (.ret .none) ∨ res = .ok .next) ∧ (n + L.length = big ∧ ∃ ip σ H r Hw pn, Rn G s₀ ip σ H s r Hw pn)) ∨ ∃ e, res = .error e ∧ False
/-- where the code stands -/
structure Gc (G : Gn) (c : Code) (fs : List Frame) (gd : Bool → Bool) : Prop where
  over : G.A.over c fs = G.A.deeper G.env
  split : splitAtGen fs = none
  guard : fs.any Frame.guarded = false
  gd : gd false = false
theorem Gc.loop {G : Gn} {c c' : Code} {fs : List Frame} {gd : Bool → Bool} {k : Result → Sem PySem.Fin} {l kp : List Value} {p : Pos} (g : Gc G c fs gd) (hw : c'.weight = 0) (hu : c'.cUnits = 0) : Gc G c' (.ret k none (gd false) l c p kp :: fs) id where
  over := (over_loop hw hu).trans g.over
  split := by
    show (splitAtGen fs).map _ = none
    rw [g.split]
    rfl
  guard := by
    show (gd false || fs.any Frame.guarded) = false
    rw [g.gd, g.guard]
    rfl
  gd := rfl
def G0 : Gh := ⟨[], [], []⟩
def C0 (cls : Cl) : Cc := ⟨cls.noT, WF, G0, H00⟩
section
variable (G : Gn) (cls : Cl)
/-- statements of a generator: acc is out, then the items of the state -/
structure GJ {A : Type} (ρ : List Sl) (sts : List Stmt) (acc : List D) (oa : A → List Sl) (oo : A → List D) (t : M (Fl A Empty)) : Prop where
  mono : ∀ a m m', t m = .ok (.nx a) m' → acc <+: oo a
  run : ∀ (L : List D) (a : A) (m m' : Hs), t m = .ok (.nx a) m' → oo a <+: L → L.length < big →
    ∀ (n : Nat) (s₀ : Shared) (c : Code) (fs : List Frame) (K : Flow → Sem PySem.Fin) (J : Value → Sem PySem.Fin) (gd : Bool → Bool) (lv : List Value → List Value) (s : Shared) (ip : List (Addr × Obj)) (σ : L2.St) (H : Hp) (g : Gh) (r : Shared) (Hw : Hp) (pn : List (Addr × Obj)),
      Gc G c fs gd → n + acc.length = big → Rn G s₀ ip σ H s r Hw pn → At ⟨G.K, cls.noT⟩ (C0 cls) ρ σ H g m →
      (∀ (n' : Nat) (s₀' s' : Shared) (σ' : L2.St) (H' : Hp) (g' : Gh) (r' : Shared) (Hw' : Hp) (pn' : List (Addr × Obj)), n' + (oo a).length = big → Rn G s₀' ip σ' H' s' r' Hw' pn' → At ⟨G.K, cls.noT⟩ (C0 cls) (oa a) σ' H' g' m' → Lv0 g g' → TK H H' →
        Seg (model G.P G.w) G.A (Rp G L) (Yp G L) n' s₀' c (K .next) fs s') →
      Seg (model G.P G.w) G.A (Rp G L) (Yp G L) n s₀ c ((execs sts G.env).wrap K J gd lv) fs s
end
section
variable {G : Gn} {cls : Cl} {A A1 : Type} {ρ : List Sl} {rest : List Stmt} {acc : List D} {oa : A → List Sl} {oo : A → List D}
theorem gj_nil {a : A} (hs : Sub (oa a) ρ) (ho : oo a = acc) : GJ G cls ρ [] acc oa oo (nxt a) := by
  refine ⟨fun a' m m' h => ?_, fun L a' m m' h hL hb n s₀ c fs K J gd lv s ip σ H g r Hw pn hc hn R a0 k => ?_⟩
  · cases h
    rw [ho]
    exact List.prefix_refl _
  · cases h
    exact seg_execs_nil (k n s₀ s σ H g r Hw pn (by rw [ho]; exact hn) R (a0.less hs) (Lv0.refl g) (TK.refl H))
theorem seq_nx {A1 A : Type} {t1 : M (Fl A1 Empty)} {f : A1 → M (Fl A Empty)} {a : A} {m m' : Hs} (h : seq t1 f m = .ok (.nx a) m') : ∃ a1 m1, t1 m = .ok (.nx a1) m1 ∧ f a1 m1 = .ok (.nx a) m' := by
  unfold seq bnd at h
  cases hz : t1 m with
  | ok fl m1 =>
    rw [hz, bind_ok] at h
    cases fl with
    | nx a1 => exact ⟨a1, m1, rfl, h⟩
    | rt d => cases h
    | bk b => exact nomatch b
    | ct b => exact nomatch b
  | ex c fs m1 => rw [hz] at h; cases h
  | bad => rw [hz] at h; cases h
theorem execs_split {env : Env} {st : Stmt} {rest : List Stmt} {K : Flow → Sem PySem.Fin} {J : Value → Sem PySem.Fin} {gd : Bool → Bool} {lv : List Value → List Value} :
    (execs (st :: rest) env).wrap K J gd lv = (execs [st] env).wrap (fun f => match f with | .next => (execs rest env).wrap K J gd lv | f => K f) J gd lv := by
  rw [execs_cons_wrap, execs_cons_wrap]
  exact Sem.wrap_congr _ _ _ (fun f => by cases f <;> rfl) fun _ => rfl
/-- a statement without yields, then the rest -/
theorem gj_seq {st : Stmt} {oa1 : A1 → List Sl} {ob : Empty → List Sl} {t1 : M (Fl A1 Empty)} {f : A1 → M (Fl A Empty)} (h1 : ∀ r Hw pn, PSsc (G.X r Hw pn) (C0 cls) ρ [st] oa1 ob t1) (h2 : ∀ a, GJ G cls (oa1 a) rest acc oa oo (f a)) : GJ G cls ρ (st :: rest) acc oa oo (seq t1 f) := by
  refine ⟨fun a m m' h => ?_, fun L a m m' h hL hb n s₀ c fs K J gd lv s ip σ H g r Hw pn hc hn R a0 k => ?_⟩
  · obtain ⟨a1, m1, _, h⟩ := seq_nx h
    exact (h2 a1).mono a m1 m' h
  · obtain ⟨a1, m1, e1, e2⟩ := seq_nx h
    rw [execs_split]
    refine seg_wrap ?_
    rw [hc.over]
    have run := (h1 r Hw pn).run ip s σ H { nx := fun σ' H' => ∃ g', Lv0 g g' ∧ TK H H' ∧ At ⟨G.K, cls.noT⟩ (C0 cls) (oa1 a1) σ' H' g' m1, rt := fun _ _ => False, bk := fun _ _ => False, ct := fun _ _ => False } R.inv ⟨g, m, a0, by
      rw [e1]
      exact fun g' H' σ' p t at' => ⟨g', p, t, at'⟩⟩
    refine wpAny_mono run (fun fl s' q => ?_) fun x s' q => q.elim
    cases fl with
    | next =>
      obtain ⟨σ', H', I', g', p', t', at'⟩ := q
      exact (h2 a1).run L a m1 m' e2 hL hb n s₀ c fs K J gd lv s' ip σ' H' g' r Hw pn hc hn ⟨I', R.root, R.tk.trans t', R.ipo⟩ at' fun n2 s₀2 s2 σ2 H2 g2 r2 Hw2 pn2 q1 q2 q3 q4 q5 => k n2 s₀2 s2 σ2 H2 g2 r2 Hw2 pn2 q1 q2 q3 (p'.trans q4) (t'.trans q5)
    | brk => obtain ⟨_, _, _, q⟩ := q; exact q.elim
    | cont => obtain ⟨_, _, _, q⟩ := q; exact q.elim
    | ret u => obtain ⟨_, _, _, _, _, q⟩ := q; exact q.elim
/-- the same after a sleep -/
theorem At.wake {σ : L2.St} {H Hw : Hp} {g : Gh} {s₀ s r : Shared} {ip pn : List (Addr × Obj)} (R : Rn G s₀ ip σ H s r Hw pn) (ok : G.Ok) (old : ∀ b, b < G.n0 → s₀.heap.get? b = none → s.heap.get? b = none) (a : At ⟨G.K, cls.noT⟩ (C0 cls) ρ σ H g []) : At ⟨G.K, cls.noT⟩ (C0 cls) ρ σ (wkH G.n0 H) g [] := by
  have key : ∀ p : Addr × HO, H p.1 = some p.2 → isL false p.2 = true → wkH G.n0 H p.1 = some p.2 := fun p h hl => by
    obtain ⟨b, u⟩ := p
    cases u with
    | lst xs =>
      have h : H b = some (.lst xs) := h
      have hb : G.n0 ≤ b := by
        rcases Nat.lt_or_ge b G.n0 with z | z
        · have ht := (R.low ok old z h).2
          rcases (ok.t b _ ht).2 with ⟨ys, e⟩ | ⟨o, ys, e⟩ <;> cases e
        · exact z
      show wkH G.n0 H b = _
      unfold wkH
      rw [h]
      simp only
      rw [if_pos hb]
    | _ => cases hl
  have rl := a.rel
  exact ⟨a.le, ⟨rl.len, rl.inj, fun n o b h => by simp at h, fun b o h => key (b, o) (rl.frz b o h) (rl.lf _ h), fun b o h => key (b, o) (rl.prv b o h) (rl.lp _ h), rl.hf, rl.hp, rl.pf, rl.lf, rl.lp, fun b ob u h => rl.ff b ob u (wkH_of h).1, fun p hp => absurd hp (by show p ∉ ([] : List (Addr × Str)); simp)⟩, a.rs.mono (Le.refl g) wkH_tk, TW.nil⟩
/-- yield -/
def yldM {β : Type} (acc : List D) (t : M D) (k : List D → M β) : M β := bnd t fun y m => if m.isEmpty = true ∧ pureD y = true ∧ acc.length < sizeLine then k (acc ++ [y]) m else .bad
theorem yld_nx {β : Type} {acc : List D} {t : M D} {k : List D → M β} {a : β} {m m' : Hs} (h : yldM acc t k m = .ok a m') : ∃ y, t m = .ok y [] ∧ pureD y = true ∧ acc.length < sizeLine ∧ k (acc ++ [y]) [] = .ok a m' := by
  unfold yldM bnd at h
  cases hz : t m with
  | ok y m1 =>
    rw [hz, bind_ok] at h
    simp only at h
    split at h
    · rename_i hh
      have e : m1 = [] := by simpa using hh.1
      subst e
      exact ⟨y, rfl, hh.2.1, hh.2.2, h⟩
    · cases h
  | ex c fs m1 => rw [hz] at h; cases h
  | bad => rw [hz] at h; cases h
theorem pre_len {α : Type} {a b : List α} (h : a <+: b) : a.length ≤ b.length := by
  obtain ⟨t, rfl⟩ := h
  rw [List.length_append]
  omega
theorem pre_at {α : Type} {a b : List α} {x : α} (h : (a ++ [x]) <+: b) : b[a.length]? = some x := by
  obtain ⟨t, rfl⟩ := h
  simp
theorem gj_yield {e : Expr} {yp pos : Pos} {t : M D} {k : List D → M (Fl A Empty)} (ok : G.Ok) (he : ∀ r Hw pn, PEc (G.X r Hw pn) (C0 cls) ρ e t) (hk : ∀ ys, GJ G cls ρ rest ys oa oo (k ys)) (hco : G.env.scope.isCoroutine = false) (hi : interactive G.env = false) :
    GJ G cls ρ (.Expr (.Yield (some e) yp) pos :: rest) acc oa oo (yldM acc t k) := by
  refine ⟨fun a m m' h => ?_, fun L a m m' h hL hb n s₀ c fs K J gd lv s ip σ H g r Hw pn hc hn R a0 kk => ?_⟩
  · obtain ⟨y, _, _, _, h⟩ := yld_nx h
    exact List.IsPrefix.trans (List.prefix_append _ _) ((hk _).mono a [] m' h)
  · obtain ⟨y, e1, hp, hl, e2⟩ := yld_nx h
    have pre := ((hk (acc ++ [y])).mono a [] m' e2).trans hL
    have plen := pre_len pre
    rw [List.length_append, List.length_singleton] at plen
    obtain ⟨n, rfl⟩ : ∃ j, n = j + 1 := ⟨n - 1, by omega⟩
    refine seg_execs_cons (seg_Expr_Yield hc.split hc.gd hc.guard ?_ hco hi)
    rw [hc.over]
    have run := (he r Hw pn).run ip s σ H (fun x H1 => ∃ g1, Le g g1 ∧ TK H H1 ∧ Rel ⟨G.K, cls.noT⟩ g1 [] H1 ∧ Rep G.K g1 H1 x y) R.inv ⟨g, m, a0, by
      rw [e1]
      exact fun g' H' v p t rel hv => ⟨g', p, t, rel, hv⟩⟩
    refine wpAny_mono run (fun v s' q => ?_) fun x s' q => q.elim
    obtain ⟨x, H1, I1, rv, g1, p1, t1, rel1, hv1⟩ := q
    intro kap hkap
    have R1 : Rn G s₀ ip σ H1 s' r Hw pn := ⟨I1, R.root, R.tk.trans t1, R.ipo⟩
    have a1 : At ⟨G.K, cls.noT⟩ (C0 cls) ρ σ H1 g1 [] := a0.mono p1 t1 rel1
    refine ⟨ip, σ, H1, r, Hw, pn, x, y, g1, acc.length, R1, rv, hv1, hp, pre_at pre, by omega, fun s2 d => ?_⟩
    obtain ⟨r2, pn2, R2⟩ := R1.wake ok d
    have sg := (hk (acc ++ [y])).run L a [] m' e2 hL hb n s2 c fs K J gd lv s2 ip σ (wkH G.n0 H1) g1 r2 (wkH G.n0 H1) pn2 hc (by rw [List.length_append, List.length_singleton]; omega) R2 (At.wake R1 ok d.old a1)
      fun n2 s₀2 s2' σ2 H2 g2 r2 Hw2 pn2 q1 q2 q3 q4 q5 => kk n2 s₀2 s2' σ2 H2 g2 r2 Hw2 pn2 q1 q2 q3 (p1.v.trans q4) (t1.trans (wkH_tk.trans q5))
    exact ⟨hkap .none s2 sg, hkap (.bool true) s2 sg⟩
end
end G

set_option Elab.async false
set_option linter.all false
set_option maxRecDepth 100000
namespace G
open PySem L2 PyProof.Rows GenW
/-! ### iterators that are no tuples -/
def PIE2 (X : Cx) (pins : List (Addr × Obj)) (σ : L2.St) (tg : Expr) (R : It → Hp → Prop) (itv : Value) (s2 : Shared) : Prop :=
  ∃ (it : Addr) (fp : List Addr) (tn : Nat → Heap → Prop) (J : It) (H' : Hp), itv = .ref it ∧ Inv X pins σ H' s2 ∧ Turn X.prog X.w X.K tg J fp it tn ∧ tn 0 s2.heap ∧ (∀ b ∈ fp, FpOk X pins H' b) ∧ R J H' ∧ ∀ i h, tn i h → ∀ b ∈ fp, ∀ o, h.get? b = some o → ¬ TupC o
structure PI2 (X : Cx) (tg iter : Expr) (wi : TI) : Prop where
  go : ∀ (pins : List (Addr × Obj)) (s : Shared) (σ : L2.St) (H : Hp) (R : It → Hp → Prop), Inv X pins σ H s → wi σ H R →
    wpAny (model X.prog X.w) X.A (eval iter X.env) (fun v s1 => wpAny (model X.prog X.w) X.A (pyIter v) (PIE2 X pins σ tg R) X.xe s1) X.xe s
theorem pi2_imp {X : Cx} {tg e : Expr} {t t' : TI} (h : PI2 X tg e t) (k : ∀ σ H Q, t' σ H Q → t σ H Q) : PI2 X tg e t' := ⟨fun pins s σ H Q I q => h.go pins s σ H Q I (k σ H Q q)⟩
abbrev PIc2 (X : Cx) (C : Cc) (ρ : List Sl) (tg e : Expr) (t : M Its) : Prop := PI2 X tg e (tG ⟨X.K, C.cls⟩ C ρ (ItR ⟨X.K, C.cls⟩) t)
theorem not_tup {o : Obj} {n : String} (h : o.cls = .type n) (hn : n ≠ "tuple") : ¬ TupC o := fun q => by
  have := h.symm.trans q.1
  cases this
  exact hn rfl
theorem pi2_enumB {X : Cx} {e e2 : Expr} {ta : TA} {p pos tpos : Pos} {elts : List Expr} {kk : Nat} (hg : Gl X "enumerate") (hm : X.mg "enumerate" = none) (ha : PA X [e, e2] ta) (hs : starEach [e, e2] X.env = (false, eval e X.env) :: starEach [e2] X.env) (hpl : (backTo pos (starEach [e2] X.env)).any (·.1) = false) :
    PI2 X (.Tuple elts kk tpos) (.Call (.Name "enumerate" p) [e, e2] [] pos) (iEnB X.K ta) := by
  refine ⟨fun pins s σ H R I h => ?_⟩
  refine Call_ (ld_blt I hg hm boot_enumerate (PyProof.Rows.callWith_type1 (thn (ha.run pos pins s σ H _ I h) fun us s1 ⟨vs, H1, I1, r1, q1⟩ => ?_) hs hpl))
  obtain ⟨a, xs, k, ex, hk, q1⟩ := q1
  subst ex
  cases r1 with
  | cons r rr =>
    cases rr with
    | cons r2 rr =>
      cases rr
      cases r
      obtain ⟨t, rfl⟩ := r2
      rcases q1 with ⟨hq, q⟩ | ⟨hq, q⟩
      · obtain ⟨its, rv, p', hz⟩ := I1.list hq
        have ha : a < s1.heap.objs.size := by obtain ⟨o, ho, _⟩ := p'.isList; exact Heap.lt_size ho
        refine enum_begins (begins_list a its.toArray) p'.isList hk.1 hk.2 fun h' he hit hsz hkk => wpAny_pyIter_enum he ?_
        have I2 : Inv X pins σ H1 { s1 with heap := h' } := I1.kept (t' := s1.toks) hkk
        refine ⟨s1.heap.objs.size + 1, [s1.heap.objs.size + 1, s1.heap.objs.size], _, _, H1, rfl, I2, turn_enumL a (s1.heap.objs.size + 1) s1.heap.objs.size k, ⟨⟨.none, by simpa using he⟩, ⟨_, hit, rfl, rfl⟩, Nat.succ_ne_self _, Nat.ne_of_lt ha, Nat.ne_of_lt (Nat.lt_succ_of_lt ha)⟩, fp2 I1, q, fun i h st b hb o ho => ?_⟩
        obtain ⟨⟨old, h1⟩, ⟨o2, h2, h3, _⟩, _⟩ := st
        have hb : b = s1.heap.objs.size + 1 ∨ b = s1.heap.objs.size := by simpa using hb
        rcases hb with z | z
        · rw [z, h1] at ho; cases ho; exact not_tup rfl (by decide)
        · rw [z, h2] at ho; cases ho; exact not_tup h3 (by decide)
      · obtain ⟨its, rv, p', hz⟩ := I1.tuple hq
        have ha : a < s1.heap.objs.size := p'.lt
        refine enum_begins (begins_tuple a its.toArray) p' hk.1 hk.2 fun h' he hit hsz hkk => wpAny_pyIter_enum he ?_
        have I2 : Inv X pins σ H1 { s1 with heap := h' } := I1.kept (t' := s1.toks) hkk
        refine ⟨s1.heap.objs.size + 1, [s1.heap.objs.size + 1, s1.heap.objs.size], _, _, H1, rfl, I2, turn_enumT a (s1.heap.objs.size + 1) s1.heap.objs.size k, ⟨⟨.none, by simpa using he⟩, ⟨_, hit, rfl, rfl⟩, Nat.succ_ne_self _, Nat.ne_of_lt ha, Nat.ne_of_lt (Nat.lt_succ_of_lt ha)⟩, fp2 I1, q, fun i h st b hb o ho => ?_⟩
        obtain ⟨⟨old, h1⟩, ⟨o2, h2, h3, _⟩, _⟩ := st
        have hb : b = s1.heap.objs.size + 1 ∨ b = s1.heap.objs.size := by simpa using hb
        rcases hb with z | z
        · rw [z, h1] at ho; cases ho; exact not_tup rfl (by decide)
        · rw [z, h2] at ho; cases ho; exact not_tup h3 (by decide)
theorem enum2_imp {X : Cx} {C : Cc} {ρ : List Sl} {c c2 : M D} {σ : L2.St} {H : Hp} {R : It → Hp → Prop} (q : tG ⟨X.K, C.cls⟩ C ρ (ItR ⟨X.K, C.cls⟩) (enum2I c c2) σ H R) : iEnB X.K (tEs ⟨X.K, C.cls⟩ C ρ (lsM [c, c2])) σ H R := by
  refine tG.bind (ls2 q) fun g1 H1 m1 v1 x1 at1 hv1 q1 => ?_
  cases hv1 with
  | nil => exact q1.elim
  | cons ax b =>
    cases b with
    | nil => exact q1.elim
    | cons ay b =>
      cases b with
      | cons _ _ => exact q1.elim
      | nil =>
        cases ay with
        | int s =>
          obtain ⟨hs, q1⟩ := Post.ite q1
          obtain ⟨⟨ds, gd⟩, hx, q1⟩ := Post.ask q1
          obtain ⟨a, rfl, ha⟩ := guard_ok at1.rel ax hx
          rcases ha with ⟨ka, ⟨vs, ha0⟩, ha⟩ | ⟨ka, ⟨vs, ha0⟩, ha⟩
          · refine ⟨a, vs, s, rfl, hs, .inl ⟨ha0, Post.ret q1 at1.rel fun g m H p t rel st i => ?_⟩⟩
            obtain ⟨xs, a1, a2⟩ := ha g m H p t rel st
            exact enum_go a1 (fun _ _ => trivial) a2 rel i
          · refine ⟨a, vs, s, rfl, hs, .inr ⟨ha0, Post.ret q1 at1.rel fun g m H p t rel st i => ?_⟩⟩
            obtain ⟨xs, a1, a2⟩ := ha g m H p t rel st
            exact enum_go a1 (fun _ _ => trivial) a2 rel i
        | _ => exact q1.elim
theorem i2_enum2 {X : Cx} {C : Cc} {ρ : List Sl} {e e2 : Expr} {c c2 : M D} {p pos tpos : Pos} {elts : List Expr} {kk : Nat} (hg : Gl X "enumerate") (hm : X.mg "enumerate" = none) (h : PAc X C ρ [e, e2] (lsM [c, c2])) (hs : starEach [e, e2] X.env = (false, eval e X.env) :: starEach [e2] X.env := by rfl) (hpl : (backTo pos (starEach [e2] X.env)).any (·.1) = false := by rfl) :
    PIc2 X C ρ (.Tuple elts kk tpos) (.Call (.Name "enumerate" p) [e, e2] [] pos) (enum2I c c2) := pi2_imp (pi2_enumB hg hm h hs hpl) fun σ H R q => enum2_imp q
end G

set_option Elab.async false
set_option linter.all false
set_option maxRecDepth 100000
namespace G
open PySem L2 PyProof.Rows GenW
/-! ### for, with yields -/
section
variable {A : Type}
def forGL (gd : List (Nat × List D)) (body : D → A → M (Fl A Empty)) : List D → A → M (Fl A Empty)
  | [], s => bnd (stay gd) fun _ => ret (.nx s)
  | x :: xs, s => bnd (stay gd) fun _ => seq (body x s) (forGL gd body xs)
def forG (src : M Its) (s : A) (body : D → A → M (Fl A Empty)) : M (Fl A Empty) := bnd src fun z => forGL z.2 body z.1 s
theorem stay_ok {α : Type} {gd : List (Nat × List D)} {k : Unit → M α} {m m' : Hs} {a : α} (h : bnd (stay gd) k m = .ok a m') : stays gd m = true ∧ k () m = .ok a m' := by
  unfold bnd stay at h
  split at h
  · rename_i hs
    exact ⟨hs, h⟩
  · cases h
theorem forGL_nil {gd : List (Nat × List D)} {b : D → A → M (Fl A Empty)} {s a : A} {m m' : Hs} (h : forGL gd b [] s m = .ok (.nx a) m') : stays gd m = true ∧ a = s ∧ m' = m := by
  obtain ⟨h1, h2⟩ := stay_ok h
  cases h2
  exact ⟨h1, rfl, rfl⟩
theorem forGL_cons {gd : List (Nat × List D)} {b : D → A → M (Fl A Empty)} {x : D} {xs : List D} {s a : A} {m m' : Hs} (h : forGL gd b (x :: xs) s m = .ok (.nx a) m') : stays gd m = true ∧ ∃ s1 m1, b x s m = .ok (.nx s1) m1 ∧ forGL gd b xs s1 m1 = .ok (.nx a) m' := by
  obtain ⟨h1, h2⟩ := stay_ok h
  exact ⟨h1, seq_nx h2⟩
end
section
variable {G : Gn} {cls : Cl} {A A1 : Type} {ρ : List Sl} {rest : List Stmt} {acc : List D} {oa : A → List Sl} {oo : A → List D}
theorem forGL_mono {body : List Stmt} {P : Pt} {gd : List (Nat × List D)} {b : D → A1 → M (Fl A1 Empty)} {oi : A1 → List Sl} {oo1 : A1 → List D} (hb : ∀ x s, Bd1 P (oi s) x (b x s) fun ρ' t => GJ G cls ρ' body (oo1 s) oi oo1 t) :
    ∀ (xs : List D) (s a : A1) (m m' : Hs), forGL gd b xs s m = .ok (.nx a) m' → oo1 s <+: oo1 a
  | [], s, a, m, m', h => by
    obtain ⟨_, rfl, _⟩ := forGL_nil h
    exact List.prefix_refl _
  | x :: xs, s, a, m, m', h => by
    obtain ⟨_, s1, m1, h1, h2⟩ := forGL_cons h
    have ih := forGL_mono hb xs s1 a m1 m' h2
    rcases hb x s with hz | ⟨ρ', _, hT⟩
    · rw [hz] at h1; cases h1
    · exact (hT.mono s1 m m1 h1).trans ih
theorem fp_ok {r : Shared} {Hw H : Hp} {pn ip : List (Addr × Obj)} {s₀ : Shared} {b : Addr} (ok : G.Ok) (root : Root G s₀ r Hw pn) {σ : L2.St} {s : Shared} (I : Inv (G.X r Hw pn) ip σ H s) (hn : H b = none) (hb : G.n0 < b) (ha : b ≠ G.a) (hip : ∀ p ∈ ip, p.1 ≠ b) (ho : ∃ o, s.heap.get? b = some o ∧ ¬ TupC o) : FpOk (G.X r Hw pn) ip H b := by
  refine ⟨hn, Nat.ne_of_gt hb, fun hf => absurd (ok.fr b hf).1 (Nat.not_lt.2 (Nat.le_of_lt hb)), .inr ?_, fun x c h => ?_, fun p hp e => ?_⟩
  · show r.heap.objs.size ≤ b
    rw [root.rsz]
    exact Nat.le_of_lt hb
  · have h : G.env.cells.lookup x = some c := h
    rw [ok.cs] at h
    cases h
  · rcases List.mem_append.mp hp with hp | hp
    · rcases root.pk p hp with rfl | hc
      · exact ha e.symm
      · obtain ⟨o, h1, h2⟩ := ho
        have := (I.pin p (List.mem_append_left _ hp)).1
        rw [e, h1] at this
        cases this
        exact h2 hc
    · exact hip p hp e
theorem forG_ok {src : M Its} {s0 a : A1} {b : D → A1 → M (Fl A1 Empty)} {m m' : Hs} (h : forG src s0 b m = .ok (.nx a) m') : ∃ z m1, src m = .ok z m1 ∧ forGL z.2 b z.1 s0 m1 = .ok (.nx a) m' := by
  unfold forG bnd at h
  cases hz : src m with
  | ok z m1 => rw [hz, bind_ok] at h; exact ⟨z, m1, rfl, h⟩
  | ex c fs m1 => rw [hz] at h; cases h
  | bad => rw [hz] at h; cases h
theorem gj_for {tg iter : Expr} {body : List Stmt} {pos : Pos} {is : List Nat} {P : Pt} {src : M Its} {s0 : A1} {b : D → A1 → M (Fl A1 Empty)} {f : A1 → M (Fl A Empty)} (ok : G.Ok) (oi : A1 → List Sl) (oo1 : A1 → List D)
    (hi : ∀ r Hw pn, PIc2 (G.X r Hw pn) (C0 cls) ρ tg iter src) (hg : ∀ r Hw pn, PGc (G.X r Hw pn) (C0 cls) tg is P) (h0 : Sub (oi s0) ρ) (hacc : oo1 s0 = acc)
    (hb : ∀ x s, Bd1 P (oi s) x (b x s) fun ρ' t => GJ G cls ρ' body (oo1 s) oi oo1 t) (hr : ∀ s, GJ G cls (oi s) rest (oo1 s) oa oo (f s)) (hs : ∀ x, foldedSetIterable iter G.env x = pure x) :
    GJ G cls ρ (.For tg iter body [] pos :: rest) acc oa oo (seq (forG src s0 b) f) := by
  refine ⟨fun a m m' h => ?_, fun L a m m' h hL hbg n s₀ c fs K J gd lv s ip σ H g r Hw pn hc hn R a0 k => ?_⟩
  · obtain ⟨a1, m1, e1, e2⟩ := seq_nx h
    obtain ⟨z, m2, _, e3⟩ := forG_ok e1
    have := forGL_mono hb _ _ _ _ _ e3
    rw [hacc] at this
    exact this.trans ((hr a1).mono a m1 m' e2)
  · obtain ⟨a1, m1, e1, e2⟩ := seq_nx h
    obtain ⟨z, m2, ez, e3⟩ := forG_ok e1
    refine seg_execs_cons (seg_For ?_ hs)
    rw [hc.over]
    have run := (hi r Hw pn).go ip s σ H (fun It' H1 => ∃ g1, Le g g1 ∧ TK H H1 ∧ Rel ⟨G.K, cls.noT⟩ g1 m2 H1 ∧ ItR ⟨G.K, cls.noT⟩ g1 H1 It' z) R.inv ⟨g, m, a0, by
      rw [ez]
      exact fun g' H' v p t rel hv => ⟨g', p, t, rel, hv⟩⟩
    refine wpAny_mono run (fun v s1 q1 => ?_) fun x s' q => q.elim
    refine wpAny_mono q1 (fun itv s2 q2 => ?_) fun x s' q => q.elim
    obtain ⟨it, fp, tn, Jt, H1, rfl, I1, T, st1, f1, ⟨g1, p1, t1, rel1, ir⟩, nt⟩ := q2
    intro pp
    have R1 : Rn G s₀ ip σ H1 s2 r Hw pn := ⟨I1, R.root, R.tk.trans t1, R.ipo⟩
    have at1 : At ⟨G.K, cls.noT⟩ (C0 cls) (oi s0) σ H1 g1 m2 := (a0.mono p1 t1 rel1).less h0
    -- what stays true of the iterator's objects
    have fpn : ∀ b ∈ fp, G.n0 < b ∧ b ≠ G.a ∧ ∀ p ∈ ip, p.1 ≠ b := fun b hb => by
      obtain ⟨_, q2, _, q4, _, q6⟩ := f1 b hb
      have q4 : G.n0 ≤ b := by
        rcases q4 with z | z
        · cases z
        · have z : r.heap.objs.size ≤ b := z
          rw [R.root.rsz] at z
          exact z
      exact ⟨Nat.lt_of_le_of_ne q4 (Ne.symm q2), fun e => q6 (G.a, G.o) (List.mem_append_left _ R.root.pa) e.symm, fun p hp => q6 p (List.mem_append_right _ hp)⟩
    have gl := fun kk => Gc.loop (k := kk) (c' := .forLoop tg (.ref it) body [] G.env) (l := lv []) (kp := []) (p := pp) hc rfl rfl
    have mono1 := forGL_mono hb _ _ _ _ _ e3
    -- the loop
    have loop : ∀ (xs : List D) (i : Nat) (si : A1) (mi : Hs) (σi : L2.St) (Hi : Hp) (gi : Gh) (ni : Nat) (s₀i si' : Shared) (ri : Shared) (Hwi : Hp) (pni : List (Addr × Obj)), z.1.drop i = xs → forGL z.2 b xs si mi = .ok (.nx a1) m1 → ni + (oo1 si).length = big → Rn G s₀i ip σi Hi si' ri Hwi pni → At ⟨G.K, cls.noT⟩ (C0 cls) (oi si) σi Hi gi mi → Lv0 g1 gi → TK H1 Hi → tn i si'.heap → (∀ b ∈ fp, Hi b = none) →
        Seg (model G.P G.w) G.A (Rp G L) (Yp G L) ni s₀i (.forLoop tg (.ref it) body [] G.env) ((model G.P G.w).den (.forLoop tg (.ref it) body [] G.env))
          (.ret (fun r => ((match r with | .ok f => (.pure f : Sem Flow) | .error e => .raise e).onRaise (L2.cameBack G.env)).wrap (fun (f : Flow) => match f with | .next => (execs rest G.env).wrap K J gd lv | f => K f) J gd lv) none (gd false) (lv []) c pp [] :: fs) si' := by
      intro xs
      induction xs with
      | nil =>
        intro i si mi σi Hi gi ni s₀i si' ri Hwi pni hx he hni Ri ai lvi tki sti fri
        obtain ⟨hst, rfl, rfl⟩ := forGL_nil he
        have hz : z.1[i]? = none := List.getElem?_eq_none (List.drop_eq_nil_iff.mp hx)
        have stop := (ir gi m1 Hi lvi tki ai.rel hst i).2 hz
        refine seg_forLoop ?_
        rw [(gl _).over]
        refine wpAny_mono (T.done (G.X ri Hwi pni) rfl rfl rfl rfl i ip si' σi Hi (fun _ _ => False) Ri.inv (fun b hb => fp_ok ok Ri.root Ri.inv (fri b hb) (fpn b hb).1 (fpn b hb).2.1 (fpn b hb).2.2 (by
          obtain ⟨o, ho, _⟩ := T.obj i _ sti b hb
          exact ⟨o, ho, nt i _ sti b hb o ho⟩)) sti stop) (fun rr s4 q => ?_) fun x s' q => q.elim
        obtain ⟨rfl, I4⟩ := q
        refine seg_block (seg_leaf (.ok .next) ?_)
        exact (hr a1).run L a m1 m' e2 hL hbg ni s₀i c fs K J gd lv s4 ip σi Hi gi ri Hwi pni hc hni ⟨I4, Ri.root, Ri.tk, Ri.ipo⟩ ai fun n2 s₀2 s2 σ2 H2 g2 r2 Hw2 pn2 q1 q2 q3 q4 q5 => k n2 s₀2 s2 σ2 H2 g2 r2 Hw2 pn2 q1 q2 q3 ((p1.v.trans lvi).trans q4) ((t1.trans tki).trans q5)
      | cons x xs ih =>
        intro i si mi σi Hi gi ni s₀i si' ri Hwi pni hx he hni Ri ai lvi tki sti fri
        obtain ⟨hst, s1', m1', eb, er⟩ := forGL_cons he
        have hz : z.1[i]? = some x := by
          have := congrArg (fun l => l[0]?) hx
          simpa using this
        have hx2 : z.1.drop (i + 1) = xs := by
          have := congrArg (List.drop 1) hx
          simpa [List.drop_drop, Nat.add_comm] using this
        obtain ⟨go, hy⟩ := (ir gi mi Hi lvi tki ai.rel hst i).1 x hz
        refine seg_forLoop ?_
        rw [(gl _).over]
        refine wpAny_mono (T.item (G.X ri Hwi pni) rfl rfl rfl rfl i ip si' σi Hi (fun _ _ => False) Ri.inv (fun b hb => fp_ok ok Ri.root Ri.inv (fri b hb) (fpn b hb).1 (fpn b hb).2.1 (fpn b hb).2.2 (by
          obtain ⟨o, ho, _⟩ := T.obj i _ sti b hb
          exact ⟨o, ho, nt i _ sti b hb o ho⟩)) sti go) (fun rr s4 q => ?_) fun x s' q => q.elim
        obtain ⟨u, rfl, q⟩ := q
        refine wpAny_mono q (fun _ s5 q5 => ?_) fun x s' q => q.elim
        obtain ⟨xv, H5, I5, r5, y5, st5, fr5⟩ := q5
        obtain ⟨tk5, rel5, hx5⟩ := hy xv H5 y5
        have obj5 : ∀ b ∈ fp, ∃ o, s5.heap.get? b = some o ∧ ∀ v, o.data ≠ .cell v := T.obj _ _ st5
        have fp5 : ∀ b ∈ fp, FpOk (G.X ri Hwi pni) ip H5 b := fun b hb => fp_ok ok Ri.root I5 (fr5 b hb) (fpn b hb).1 (fpn b hb).2.1 (fpn b hb).2.2 (by
          obtain ⟨o, ho, _⟩ := obj5 b hb
          exact ⟨o, ho, nt _ _ st5 b hb o ho⟩)
        have I5' := I5.pinned fp5 obj5
        have ipo' : ∀ p ∈ ip ++ pinsAt fp s5.heap, G.n0 ≤ p.1 ∧ ¬ TupC p.2 := fun p hp => by
          rcases List.mem_append.mp hp with hp | hp
          · exact Ri.ipo p hp
          · obtain ⟨h1, h2⟩ := of_pinsAt hp
            exact ⟨Nat.le_of_lt (fpn _ h1).1, nt _ _ st5 _ h1 _ h2⟩
        have at5 := ai.keep tk5 rel5
        rcases hb x si with hbad | ⟨ρ', hbp, hT⟩
        · rw [hbad] at eb; cases eb
        · have asg := (hg ri Hwi pni).run _ s5 σi H5 xv u (fun σ6 H6 => H6 = H5 ∧ At ⟨G.K, cls.noT⟩ (C0 cls) ρ' σ6 H5 gi mi) I5' r5 ⟨gi, mi, oi si, x, ρ', at5, hx5, hbp, fun σ6 at6 _ => ⟨rfl, at6⟩⟩
          refine wpAny_mono asg (fun _ s6 q6 => ?_) fun x s' q => q.elim
          obtain ⟨σ6, H6, I6, rfl, at6⟩ := q6
          refine hT.run L s1' mi m1' eb ((forGL_mono hb _ _ _ _ _ er).trans (((hr a1).mono a m1 m' e2).trans hL)) hbg ni s₀i _ _ _ _ id id s6 (ip ++ pinsAt fp s5.heap) σ6 H6 gi ri Hwi pni (gl _) hni ⟨I6, Ri.root, Ri.tk.trans tk5, ipo'⟩ at6 fun n7 s₀7 s7 σ7 H7 g7 r7 Hw7 pn7 q1 R7 a7 lv7 tk7 => ?_
          refine seg_again rfl ?_
          have pin7 : ∀ b ∈ fp, ∀ o, s5.heap.get? b = some o → s7.heap.get? b = some o ∧ H7 b = none := fun b hb o e => by
            have := R7.inv.pin (b, o) (List.mem_append_right _ (List.mem_append_right _ (mem_pinsAt hb e)))
            exact ⟨this.1, this.2.1⟩
          refine ih (i + 1) s1' m1' σ7 H7 g7 n7 s₀7 s7 r7 Hw7 pn7 hx2 er q1 ⟨R7.inv.unpinned, R7.root, R7.tk, fun p hp => R7.ipo p (List.mem_append_left _ hp)⟩ a7 (lvi.trans lv7) ((tki.trans tk5).trans tk7) (T.keep _ _ _ st5 fun b hb o e => (pin7 b hb o e).1) fun b hb => ?_
          obtain ⟨o, e, _⟩ := obj5 b hb
          exact (pin7 b hb o e).2
    exact loop z.1 0 s0 m2 σ H1 g1 n s₀ s2 r Hw pn (by simp) e3 (by rw [hacc]; exact hn) R1 at1 (Lv0.refl _) (TK.refl _) st1 fun b hb => (f1 b hb).1
end
end G

set_option Elab.async false
set_option linter.all false
set_option maxRecDepth 100000
namespace G
open PySem L2 PyProof.Rows GenW
/-! ### defs over pure things: a world of their own -/
def tpO : Option HO → Option HO
  | some (.tup xs) => some (.tup xs)
  | some (.frz o (.tup xs)) => some (.frz o (.tup xs))
  | _ => none
/-- the tuples alone -/
def tpH (H : Hp) : Hp := fun b => tpO (H b)
theorem tpO_of {o : Option HO} {u : HO} (h : tpO o = some u) : o = some u ∧ ((∃ xs, u = .tup xs) ∨ ∃ ob xs, u = .frz ob (.tup xs)) := by
  unfold tpO at h
  split at h
  · cases h; exact ⟨rfl, .inl ⟨_, rfl⟩⟩
  · cases h; exact ⟨rfl, .inr ⟨_, _, rfl⟩⟩
  · cases h
theorem tpH_of {H : Hp} {b : Addr} {u : HO} (h : tpH H b = some u) : H b = some u ∧ ((∃ xs, u = .tup xs) ∨ ∃ ob xs, u = .frz ob (.tup xs)) := tpO_of h
theorem tpH_none {H : Hp} {b : Addr} (h : H b = none) : tpH H b = none := by unfold tpH; rw [h]; rfl
theorem tpH_tup {H : Hp} {b : Addr} {xs : List V} (h : H b = some (.tup xs)) : tpH H b = some (.tup xs) := by unfold tpH; rw [h]; rfl
theorem tpH_frz {H : Hp} {b : Addr} {o : Obj} {xs : List V} (h : H b = some (.frz o (.tup xs))) : tpH H b = some (.frz o (.tup xs)) := by unfold tpH; rw [h]; rfl
theorem tpH_idem {H : Hp} : tpH (tpH H) = tpH H := by
  funext b
  cases h : tpH H b with
  | none => exact tpH_none h
  | some u =>
    obtain ⟨_, h2⟩ := tpH_of h
    rcases h2 with ⟨xs, rfl⟩ | ⟨o, xs, rfl⟩
    · exact tpH_tup h
    · exact tpH_frz h
theorem sq_tp {K : PySem.W.Frag} {H H' : Hp} {a : Addr} {xs : List V} (k : ∀ b u, tpH H b = some u → H' b = some u) (h : SqT K H a xs) : SqT K H' a xs := by
  rcases h with (h | ⟨o, h⟩) | h
  · exact .inl (.inl (k _ _ (tpH_tup h)))
  · exact .inl (.inr ⟨o, k _ _ (tpH_frz h)⟩)
  · exact .inr h
mutual
theorem rep_pure {K : PySem.W.Frag} {g g' : Gh} {H H' : Hp} (k : ∀ b u, tpH H b = some u → H' b = some u) : ∀ {v : V} {d : D}, Rep K g H v d → pureD d = true → Rep K g' H' v d
  | _, _, .non, _ => .non
  | _, _, .bl b, _ => .bl b
  | _, _, .int i, _ => .int i
  | _, _, .str x, _ => .str x
  | _, _, .tup h r, p => .tup (sq_tp k h) (repL_pure k r (by simpa only [pureD] using p))
  | _, _, .fl _ _, p => by simp [pureD] at p
  | _, _, .sc _ _, p => by simp [pureD] at p
  | _, _, .fd _ _, p => by simp [pureD] at p
  | _, _, .kt _ _, p => by simp [pureD] at p
  | _, _, .ref _, p => by simp [pureD] at p
theorem repL_pure {K : PySem.W.Frag} {g g' : Gh} {H H' : Hp} (k : ∀ b u, tpH H b = some u → H' b = some u) : ∀ {vs : List V} {ds : List D}, RepL K g H vs ds → pureL ds = true → RepL K g' H' vs ds
  | _, _, .nil, _ => .nil
  | _, _, .cons r s, p => by
    simp only [pureL, Bool.and_eq_true] at p
    exact .cons (rep_pure k r p.1) (repL_pure k s p.2)
end
theorem hok_tp {P : Program} {w : World} {H : Hp} {h : Heap} (k : HOk P w H h) : HOk P w (tpH H) h := fun b u e => by
  obtain ⟨h1, h2⟩ := tpH_of e
  rcases h2 with ⟨xs, rfl⟩ | ⟨o, xs, rfl⟩
  · exact k b _ h1
  · exact k b _ h1
/-- run in an empty world -/
def pcM (f : List D → M D) : List D → M D := fun ds m => if pureL ds = true then match f ds [] with
  | .ok d [] => if pureD d = true then .ok d m else .bad
  | _ => .bad
  else .bad
theorem pc_ok {f : List D → M D} {ds : List D} {m : Hs} {Γ : Cst} {W : WX} {g : Gh} {H : Hp} {Q : VK} (q : Post Γ W (rD Γ) [] g H Q (pcM f ds m)) : ∃ d, pureL ds = true ∧ f ds [] = .ok d [] ∧ pureD d = true ∧ Post Γ W (rD Γ) [] g H Q (.ok d m) := by
  unfold pcM at q
  split at q
  · rename_i hp
    split at q
    · rename_i d e
      split at q
      · rename_i hd
        exact ⟨d, hp, e, hd, q⟩
      · exact q.elim
    · exact q.elim
  · exact q.elim
def spP (Γ : Cst) (f : List D → M D) : Sp := fun vs H Q E => tpH H = H ∧ ∃ ds d, RepL Γ.K G0 H vs ds ∧ pureL ds = true ∧ f ds [] = .ok d [] ∧ pureD d = true ∧ ∀ H' v, TK H H' → Rep Γ.K G0 (tpH H') v d → Q v H'
/-- both heaps -/
def orH (H H' : Hp) : Hp := fun b => match H b with
  | some u => some u
  | none => tpH H' b
theorem orH_some {H H' : Hp} {b : Addr} {u : HO} (h : H b = some u) : orH H H' b = some u := by unfold orH; rw [h]
theorem orH_none {H H' : Hp} {b : Addr} (h : H b = none) : orH H H' b = tpH H' b := by unfold orH; rw [h]
theorem pure_call {P : Program} {w : World} {K : PySem.W.Frag} {mg : Str → Option Value} {base : Heap} {k : Nat} {f : Addr} {fd : FuncData} {ps : List Str} {cls : Cl} {t : List D → M D} (F : FnG gu P w K mg base (L2.CX P w) k f fd ps (spP ⟨K, cls⟩ t)) : FnG gu P w K mg base (L2.CX P w) k f fd ps (spM ⟨K, cls⟩ (pcM t)) := by
  refine ⟨fun xs H0 R E0 h => ?_, fun B out s H0 ar ws xs R E0 rm cl e0 hb hv h => ?_⟩
  · obtain ⟨g, m, ds, rel, rv, q⟩ := h
    obtain ⟨d, h1, h2, h3, _⟩ := pc_ok q
    exact F.len xs (tpH H0) (fun _ _ => True) E0 ⟨tpH_idem, ds, d, repL_pure (fun _ _ e => e) rv h1, h1, h2, h3, fun _ _ _ _ => trivial⟩
  · obtain ⟨g, m, ds, rel, rv, q⟩ := h
    obtain ⟨d, h1, h2, h3, q⟩ := pc_ok q
    have e0' : Env0 P w K mg base B out s (tpH H0) := ⟨e0.frames, e0.mod, fun b o e => ⟨(e0.bs b o e).1, tpH_none (e0.bs b o e).2⟩, e0.bsz, e0.funs, fun b hb => tpH_none (e0.frf b hb), hok_tp e0.hok, e0.bare⟩
    refine codeAny_mono (F.run B out s (tpH H0) ar ws xs (fun v H' => TK (tpH H0) H' ∧ Rep K G0 (tpH H') v d) (fun _ _ _ => False) rm cl e0' hb hv ⟨tpH_idem, ds, d, repL_pure (fun _ _ e => e) rv h1, h1, h2, h3, fun H' v a b => ⟨a, b⟩⟩) fun r s' hr => ?_
    cases r with
    | error e =>
      obtain ⟨a, Bh, H', c, dd, _, _, _, _, _, _, _, hf⟩ := hr
      exact hf.elim
    | ok fl =>
      cases fl with
      | next => exact hr.elim
      | brk => exact hr.elim
      | cont => exact hr.elim
      | ret u =>
        obtain ⟨v, H', os, bare, un, hok, rvu, tk, hv⟩ := hr
        have there0 : ∀ b u, H0 b = some u → ∃ o, s.heap.get? b = some o := fun b u e => obj_some (e0.hok b u e)
        have nfs : ∀ b u, H0 b = some u → b ∉ frs out := fun b u e hf => by rw [e0.frf b hf] at e; cases e
        -- what H0 knows and is no tuple stays
        have exact0 : ∀ b u o, H0 b = some u → tpH H0 b = none → s.heap.get? b = some o → s'.heap.get? b = some o ∧ H' b = none := fun b u o e e2 ho =>
          ⟨un.keep b o ho e2 (nfs b u e) (by simp), un.free b o ho e2 (by simp)⟩
        have tkO : TK H0 (orH H0 H') := ⟨fun a xs e => orH_some e, fun a o u e => orH_some e, fun a o u e => by
          cases hz : H0 a with
          | some w => rw [orH_some hz] at e; cases e; rfl
          | none =>
            rw [orH_none hz] at e
            have := tk.nof a o u (tpH_of e).1
            have := (tpH_of this).1
            rw [hz] at this
            cases this⟩
        have hokO : HOk P w (orH H0 H') s'.heap := fun b u e => by
          cases hz : H0 b with
          | none =>
            rw [orH_none hz] at e
            have e' := hok_tp hok b u e
            obtain ⟨_, e2⟩ := tpH_of e
            rcases e2 with ⟨xs, rfl⟩ | ⟨o, xs, rfl⟩
            · exact e'
            · exact e'
          | some u0 =>
            rw [orH_some hz] at e
            cases e
            cases ht : tpH H0 b with
            | some u1 =>
              obtain ⟨g1, g2⟩ := tpH_of ht
              rw [hz] at g1
              cases g1
              rcases g2 with ⟨xs, rfl⟩ | ⟨o, xs, rfl⟩
              · exact hok b _ (tk.tup b xs ht)
              · exact hok b _ (tk.frz b o _ ht)
            | none =>
              refine (e0.hok b u hz).stay (fun c w hc y => ?_) (fun c y => orH_some y) fun c xs y => orH_some y
              rcases hc with rfl | hc
              · exact (exact0 c u w hz ht y).1
              · exact (exact0 c _ w hc (by unfold tpH; rw [hc]; rfl) y).1
        refine ⟨v, orH H0 H', os, bare, ⟨fun b o ho hz hf hx => un.keep b o ho (tpH_none hz) hf hx, fun b o ho hz hf hx => un.slot b o ho (tpH_none hz) hf hx, fun b o ho hz hx => by rw [orH_none hz]; exact tpH_none (un.free b o ho (tpH_none hz) hx), un.there, fun b xs e => orH_some e, fun b o u e => orH_some e, fun b ps e => ⟨#[], by rw [orH_some e]; simp⟩⟩, hokO, rvu, ?_⟩
        refine q g (orH H0 H') v (Le.refl g) tkO ⟨rel.len, rel.inj, fun n o a h1 h2 => (rel.obj n o a h1 h2).mono (Lv0.refl g) tkO fun _ u _ e => orH_some e, fun a o e => orH_some (rel.frz a o e), fun a o e => orH_some (rel.prv a o e), rel.hf, rel.hp, rel.pf, rel.lf, rel.lp, fun b ob u e => rel.ff b ob u (tkO.nof b ob u e), fun t ht => (rel.tab t ht).go (fun _ z => z) fun ps e => orH_some e⟩ (rep_pure (fun b u e => ?_) hv h3)
        rw [tpH_idem] at e
        cases hz : H0 b with
        | none => rw [orH_none hz]; exact e
        | some u0 =>
          rw [orH_some hz]
          cases ht : tpH H0 b with
          | some u1 =>
            obtain ⟨g1, g2⟩ := tpH_of ht
            rw [hz] at g1
            cases g1
            rcases g2 with ⟨xs, rfl⟩ | ⟨o, xs, rfl⟩
            · have := tpH_tup (tk.tup b xs ht)
              rw [this] at e
              exact e
            · have := tpH_frz (tk.frz b o _ ht)
              rw [this] at e
              exact e
          | none =>
            obtain ⟨o, ho⟩ := there0 b u0 hz
            rw [tpH_none (exact0 b u0 o hz ht ho).2] at e
            cases e
end G

set_option Elab.async false
set_option linter.all false
set_option maxRecDepth 100000
namespace G
open PySem L2 PyProof.Rows GenW
theorem tab_nil {T : List (Addr × Str)} {g : Gh} {H : Hp} (h : T = []) : ∀ t, t ∈ T → TabG g H t.1 t.2 := fun p hp => by rw [h] at hp; cases hp
theorem rel_0 {Γ : Cst} {H : Hp} (hf : ∀ b o u, H b = some (.frz o u) → isTL u = true) (hT : Γ.cls.T = [] := by rfl) : Rel Γ G0 [] H := ⟨rfl, List.nodup_nil, fun i o a h => by simp at h, fun a o h => (nomatch h), fun a o h => (nomatch h), fun a o h => (nomatch h), fun a o h => (nomatch h), fun a o u h => (nomatch h), fun p h => (nomatch h), fun p h => (nomatch h), hf, tab_nil hT⟩
section
variable {P : Program} {w : World} {K : PySem.W.Frag} {mg : Str → Option Value} {base : Heap} {cls : Cl} {k n : Nat}
/-- a def over pure things, by its body -/
theorem fnp_core {x qual : Str} {st : Stmt} {f : Addr} {fd : FuncData} {N ps : List Str} {t : List D → M D} (F : Fun K x qual st f fd) (S : FnScope N ps (defScope st)) (hl : ∀ ds, ds.length ≠ ps.length → t ds = bad)
    (walk : ∀ ds, ds.length = ps.length → ∃ bd : M (Fl Unit Empty), t ds = fnM bd ∧ ∀ (cdv : Value) (A : Around) (outer : List Env) (s : Shared) (H : Hp) (E : XK), tpH H = H → Room k (A.deeper (envOfC qual (defScope st) s.heap.objs.size f cdv)) → Clr gu A →
      PSsc (cxOf (L2.CX P w) P w K mg base N qual (defScope st) f cdv A outer s H E) ⟨cls.noT, fun c d _ H' => E c d H', G0, H00⟩ (ds.map Sl.val ++ List.replicate (N.length - ds.length) Sl.un) (defBody st) (unA N.length) noB bd) :
    FnG gu P w K mg base (L2.CX P w) (k + 1) f fd ps (spP ⟨K, cls⟩ t) := by
  have hlen : ∀ (ds : List D) (d : D), t ds [] = .ok d [] → ds.length = ps.length := fun ds d q => by
    by_cases h : ds.length = ps.length
    · exact h
    · rw [hl ds h] at q
      cases q
  refine Fun.okG F S (fun vs H Q E h => ?_) (fun cdv A outer s H vs Q E hr cl h => ?_)
  · obtain ⟨_, ds, d, rv, _, q, _⟩ := h
    rw [rv.length, hlen ds d q]
  · obtain ⟨hp, ds, d, rv, _, q, hd, hQ⟩ := h
    obtain ⟨bd, hbd, wk⟩ := walk ds (hlen ds d q)
    refine ⟨_, wk cdv A outer s H E hp hr cl, G0, [], ⟨Le.refl _, rel_0 fun b o u e => by
      rw [← hp] at e
      rcases (tpH_of e).2 with ⟨xs, e⟩ | ⟨ob, xs, e⟩
      · cases e
      · (cases e; rfl), ?_, TW.nil⟩, ?_⟩
    · unfold L2.start
      rw [rv.length]
      exact relS_start (Γ := ⟨K, cls.noT⟩) rv _
    · rw [hbd] at q
      unfold fnM bnd at q
      cases hz : bd [] with
      | ok o m1 =>
        rw [hz, bind_ok] at q
        cases o with
        | rt d' =>
          cases q
          exact fun g' H' v l p t rel' hv => hQ H' v t (rep_pure (fun _ _ e => e) hv hd)
        | nx a =>
          cases q
          exact fun g' H' σ' p t at' => hQ H' .non t .non
        | bk b => exact nomatch b
        | ct b => exact nomatch b
      | ex c fs m1 => rw [hz] at q; cases q
      | bad => rw [hz] at q; cases q
end
/-! ### the consumer's side -/
def slPure : Sl → Bool
  | .un => true
  | .val d => pureD d
  | .own _ => false
  | .raw _ => false
/-- the frozen things alone -/
def fzG (g : Gh) : Gh := ⟨[], g.fz, []⟩
theorem At.clean {Γ : Cst} {C : Cc} {ρ : List Sl} {σ : L2.St} {H H' : Hp} {g g1 : Gh} (hC : C.gB = G0 ∧ C.cls.T = [] ∧ C.cls.dk = false ∧ C.H0 = H00) (a : At Γ C ρ σ H g []) (hp : ρ.all slPure = true) (k : ∀ b u, tpH H b = some u → H' b = some u) (hf : ∀ p, p ∈ g1.fz → p ∈ g.fz) (hl : ∀ p, p ∈ g1.fz → H p.1 = some p.2 → H' p.1 = some p.2) (hff : ∀ b o u, H' b = some (.frz o u) → isTL u = true) (hG : Γ.cls.T = []) : At Γ C ρ σ H' (fzG g1) [] := by
  have hp' : ∀ (i : Nat) (x : Sl), ρ[i]? = some x → slPure x = true := fun i x h => List.all_eq_true.1 hp x (List.mem_of_getElem? h)
  refine ⟨by rw [hC.1]; exact ⟨List.prefix_refl _, fun _ h => (nomatch h), fun _ h => (nomatch h)⟩, ⟨rfl, List.nodup_nil, fun i o b h => by simp at h, fun b o h => hl (b, o) h (a.rel.frz b o (hf _ h)), fun b o h => (nomatch h), fun b o h => (nomatch h), fun b o h => (nomatch h), fun b o u h => (nomatch h), fun p h => a.rel.lf p (hf p h), fun p h => (nomatch h), hff, tab_nil hG⟩, ⟨a.rs.len, fun i d h => ?_, fun i xs h => ?_, fun i j xs ys b h => ?_, a.rs.raw⟩, by rw [hC.2.2.2]; exact TW.nil⟩
  · obtain ⟨v, h1, h2⟩ := a.rs.val i d h
    exact ⟨v, h1, rep_pure k h2 (hp' i _ h)⟩
  · have := hp' i _ h
    cases this
  · have := hp' i _ h
    cases this
/-- tuples, locked things, and below n lists -/
def clH (n : Nat) (H : Hp) : Hp := fun b => match H b with
  | some (.lst xs) => if b < n then some (.lst xs) else none
  | some (.tup xs) => some (.tup xs)
  | some (.frz o u) => if isTL u = true then some (.frz o u) else none
  | _ => none
def KD (n : Nat) (H : Hp) : Prop := ∀ b u, H b = some u → (∃ xs, u = .tup xs) ∨ (∃ ob v, u = .frz ob v ∧ isTL v = true) ∨ (b < n ∧ ∃ xs, u = .lst xs)
theorem clH_of {n : Nat} {H : Hp} {b : Addr} {u : HO} (h : clH n H b = some u) : H b = some u ∧ ((∃ xs, u = .tup xs) ∨ (∃ ob v, u = .frz ob v ∧ isTL v = true) ∨ (b < n ∧ ∃ xs, u = .lst xs)) := by
  unfold clH at h
  split at h
  · rename_i xs e
    split at h
    · rename_i hb
      cases h
      exact ⟨e, .inr (.inr ⟨hb, _, rfl⟩)⟩
    · cases h
  · rename_i xs e; cases h; exact ⟨e, .inl ⟨_, rfl⟩⟩
  · rename_i o v e
    split at h
    · rename_i hv
      cases h
      exact ⟨e, .inr (.inl ⟨_, _, rfl, hv⟩)⟩
    · cases h
  · cases h
theorem clH_kd {n : Nat} {H : Hp} : KD n (clH n H) := fun b u h => (clH_of h).2
theorem clH_none {n : Nat} {H : Hp} {b : Addr} (h : H b = none) : clH n H b = none := by unfold clH; rw [h]
theorem clH_tup {n : Nat} {H : Hp} {b : Addr} {xs : List V} (h : H b = some (.tup xs)) : clH n H b = some (.tup xs) := by unfold clH; rw [h]
theorem clH_frz {n : Nat} {H : Hp} {b : Addr} {o : Obj} {u : HO} (h : H b = some (.frz o u)) (hu : isTL u = true) : clH n H b = some (.frz o u) := by
  unfold clH
  rw [h]
  simp only
  rw [if_pos hu]
theorem clH_tp {n : Nat} {H : Hp} {b : Addr} {u : HO} (h : tpH H b = some u) : clH n H b = some u := by
  obtain ⟨h1, h2⟩ := tpH_of h
  rcases h2 with ⟨xs, rfl⟩ | ⟨ob, xs, rfl⟩
  · exact clH_tup h1
  · exact clH_frz h1 rfl
theorem clH_lst {n : Nat} {H : Hp} {b : Addr} {xs : List V} (h : H b = some (.lst xs)) (hb : b < n) : clH n H b = some (.lst xs) := by
  unfold clH
  rw [h]
  simp only
  rw [if_pos hb]
theorem clH_tk {n : Nat} {H : Hp} (hf : ∀ b o u, H b = some (.frz o u) → isTL u = true) : TK H (clH n H) := ⟨fun a xs h => clH_tup h, fun a o u h => clH_frz h (hf a o u h), fun a o u h => (clH_of h).1⟩
theorem hok_cl {P : Program} {w : World} {n : Nat} {H H' : Hp} {h h' : Heap} {b : Addr} {u : HO} (k : ObjOk P w H h b u) (hk : (∃ xs, u = .tup xs) ∨ (∃ ob v, u = .frz ob v ∧ isTL v = true) ∨ (b < n ∧ ∃ xs, u = .lst xs)) (e : ∀ o, h.get? b = some o → h'.get? b = some o) : ObjOk P w H' h' b u := by
  have lst : ∀ xs, ObjOk P w H h b (.lst xs) → ObjOk P w H' h' b (.lst xs) := fun xs q => by
    obtain ⟨z, its, nn, rv, e1⟩ := q
    exact ⟨z, its, nn, rv, e _ e1⟩
  rcases hk with ⟨xs, rfl⟩ | ⟨ob, v, rfl, hv⟩ | ⟨_, xs, rfl⟩
  · exact TupAt.at (h := h) k e
  · obtain ⟨e1, e2⟩ := k
    refine ⟨e _ e1, ?_⟩
    cases v with
    | lst xs => exact lst xs e2
    | tup xs => exact TupAt.at (h := h) e2 e
    | _ => cases hv
  · exact lst xs k
theorem Inv.clean {X : Cx} {pins : List (Addr × Obj)} {σ : L2.St} {H : Hp} {s : Shared} (n : Nat) (hX : tpH X.H_0 = X.H_0) (I : Inv X pins σ H s) : Inv X pins σ (clH n H) s := by
  have un := I.base
  refine ⟨I.ok, I.os, I.bare, ⟨un.keep, un.slot, fun b o e hz hx => clH_none (un.free b o e hz hx), un.there, fun b xs e => clH_tup (un.tups b xs e), fun b o u e => ?_, fun b ps e => ?_⟩, I.loc, I.cell, clH_none I.free, fun x c h => clH_none (I.freeC x c h), fun p hp => ?_, fun b u e => hok_cl (I.hok b u (clH_of e).1) (clH_of e).2 fun _ q => q, I.len⟩
  · have h := un.frzs b o u e
    rw [← hX] at e
    obtain ⟨_, h2⟩ := tpH_of e
    rcases h2 with ⟨xs, h2⟩ | ⟨ob, xs, h2⟩
    · cases h2
    · cases h2
      exact clH_frz h rfl
  · rw [← hX] at e
    obtain ⟨_, h2⟩ := tpH_of e
    rcases h2 with ⟨xs, h2⟩ | ⟨ob, xs, h2⟩ <;> cases h2
  · obtain ⟨h1, h2, h3⟩ := I.pin p hp
    exact ⟨h1, clH_none h2, h3⟩
/-- a generator that is made in the context X -/
def mkG (X : Cx) (N : List Str) (qual : Str) (scope : Scope) (f : Addr) (cd : Value) (n0 a : Nat) (o : Obj) (T : Hp) : Gn := ⟨X.prog, X.w, X.K, X.mg, X.base, N, qual, scope, f, cd, X.A.in1, X.stack, n0, a, o, T⟩
/-- what is older than the generator -/
structure Con (X : Cx) (pins : List (Addr × Obj)) (n0 : Nat) (T : Hp) : Prop where
  tp : tpH T = T
  lt : ∀ b u, T b = some u → b < n0
  loc : X.env.locals < n0
  cel : ∀ x c, X.env.cells.lookup x = some c → c < n0
  pin : ∀ p ∈ X.pn ++ pins, p.1 < n0
  s0 : X.s_0.heap.objs.size ≤ n0
/-- the addresses from n on that H does not know -/
def freeFrom (n m : Nat) (H : Hp) : List Addr := (List.range m).filter fun b => decide (n ≤ b) && (H b).isNone
theorem freeFrom_mem {n m b : Nat} {H : Hp} : b ∈ freeFrom n m H ↔ b < m ∧ n ≤ b ∧ H b = none := by
  unfold freeFrom
  rw [List.mem_filter, List.mem_range]
  simp
section
variable {X : Cx} {pins : List (Addr × Obj)} {N : List Str} {qual : Str} {scope : Scope} {f : Addr} {cd : Value} {n0 a : Nat} {o : Obj} {T H Hg Hw : Hp} {σ σg : L2.St} {s₀ s₁ r : Shared} {ip pn : List (Addr × Obj)}
theorem after_gen (c : Con X pins n0 T) (ok : (mkG X N qual scope f cd n0 a o T).Ok) (I : Inv X pins σ H s₀) (kinds : KD n0 H) (TH : ∀ b u, T b = some u → H b = some u) (fz : ∀ b o u, H b = some (.frz o u) → b < n0) (R : Rn (mkG X N qual scope f cd n0 a o T) s₀ ip σg Hg s₁ r Hw pn) (old : Old s₀.heap s₁.heap) (hsz : n0 ≤ s₀.heap.objs.size) : Inv X pins σ (orH H Hg) s₁ := by
  have prm := R.prm ok
  have low : ∀ {b : Addr} {u : HO}, b < n0 → Hg b = some u → T b = some u := fun hb h => (R.low ok (fun b hb h => old.no b (Nat.lt_of_lt_of_le hb hsz) h) hb h).2
  have exactL : ∀ b o', b < n0 → s₀.heap.get? b = some o' → b ∉ frs X.stack → H b = none → s₁.heap.get? b = some o' := fun b o' hb ho hf hz => by
    rcases prm.low b o' hb ho hf with e | ⟨xs, e, _⟩
    · exact e
    · have := TH b _ e
      rw [hz] at this
      cases this
  have nfs : ∀ b u, H b = some u → b ∉ frs X.stack := fun b u h hf => by
    rw [I.stkFree b hf] at h
    cases h
  have hokO : HOk X.prog X.w (orH H Hg) s₁.heap := fun b u e => by
    cases hz : H b with
    | none =>
      rw [orH_none hz] at e
      have e' := hok_tp R.inv.hok b u e
      obtain ⟨_, e2⟩ := tpH_of e
      rcases e2 with ⟨xs, rfl⟩ | ⟨ob, xs, rfl⟩
      · exact e'
      · exact e'
    | some u0 =>
      rw [orH_some hz] at e
      cases e
      have hk := I.hok b u hz
      obtain ⟨ob, hob⟩ := obj_some hk
      rcases Nat.lt_or_ge b n0 with hb | hb
      · rcases prm.low b ob hb hob (nfs b _ hz) with e | ⟨ys, e, ht⟩
        · exact hok_cl hk (kinds b u hz) fun o' e' => by rw [hob] at e'; cases e'; exact e
        · have := TH b _ e
          rw [hz] at this
          cases this
          exact ht
      · rcases kinds b u hz with ⟨xs, rfl⟩ | ⟨ob', v, rfl, _⟩ | ⟨hb2, _⟩
        · exact prm.tup b xs hb hk
        · exact absurd (fz b ob' _ hz) (Nat.not_lt.2 hb)
        · exact absurd hb2 (Nat.not_lt.2 hb)
  refine I.call' (ch := freeFrom n0 s₀.heap.objs.size H) prm.os ⟨fun b o' ho hz hf hx => ?_, fun b o' ho hz hf hx => prm.slot b o' hf ho, fun b o' ho hz hx => ?_, fun b o' ho hx => ?_, fun b xs e => orH_some e, fun b ob u e => orH_some e, fun b ps e => ⟨#[], by rw [orH_some e]; simp⟩⟩ hokO R.inv.bare fun b hb => ?_
  · rcases Nat.lt_or_ge b n0 with hb | hb
    · exact exactL b o' hb ho hf hz
    · exact absurd (freeFrom_mem.2 ⟨Heap.lt_size ho, hb, hz⟩) hx
  · rw [orH_none hz]
    rcases Nat.lt_or_ge b n0 with hb | hb
    · cases hg : tpH Hg b with
      | none => rfl
      | some u =>
        have := TH b u (low hb (tpH_of hg).1)
        rw [hz] at this
        cases this
    · exact absurd (freeFrom_mem.2 ⟨Heap.lt_size ho, hb, hz⟩) hx
  · cases hz : H b with
    | some u => exact obj_some (hokO b u (orH_some hz))
    | none =>
      rcases Nat.lt_or_ge b n0 with hb | hb
      · by_cases hf : b ∈ frs X.stack
        · obtain ⟨sl, e⟩ := prm.slot b o' hf ho
          exact ⟨_, e⟩
        · exact ⟨_, exactL b o' hb ho hf hz⟩
      · exact absurd (freeFrom_mem.2 ⟨Heap.lt_size ho, hb, hz⟩) hx
  · obtain ⟨_, h2, h3⟩ := freeFrom_mem.1 hb
    exact ⟨.inr (Nat.le_trans c.s0 h2), Nat.ne_of_gt (Nat.lt_of_lt_of_le c.loc h2), fun x cc h e => absurd (c.cel x cc h) (by rw [e]; exact Nat.not_lt.2 h2), fun p hp e => absurd (c.pin p hp) (by rw [e]; exact Nat.not_lt.2 h2)⟩
def isCl (o : Obj) : Bool := match o.data with
  | .cell _ => true
  | _ => false
theorem isCl_iff {o : Obj} : isCl o = false ↔ ∀ v, o.data ≠ .cell v := by
  unfold isCl
  constructor
  · intro h v e
    rw [e] at h
    cases h
  · intro h
    split
    · rename_i v e
      exact absurd e (h v)
    · rfl
/-- all that the consumer does not know -/
def pinAll (X : Cx) (H : Hp) (h : Heap) : List (Addr × Obj) := (List.range h.objs.size).filterMap fun b => match h.get? b with
  | some o => if isCl o = false ∧ (H b).isNone ∧ b ≠ X.env.locals ∧ b ∉ X.fs then some (b, o) else none
  | none => none
theorem pinAll_mem {H : Hp} {h : Heap} {b : Addr} {o : Obj} (h1 : h.get? b = some o) (h2 : H b = none) (h3 : b ≠ X.env.locals) (h4 : b ∉ X.fs) (h5 : ∀ v, o.data ≠ .cell v) : (b, o) ∈ pinAll X H h := by
  unfold pinAll
  refine List.mem_filterMap.2 ⟨b, List.mem_range.2 (Heap.lt_size h1), ?_⟩
  rw [h1]
  simp only
  rw [if_pos ⟨isCl_iff.2 h5, by rw [h2]; rfl, h3, h4⟩]
theorem of_pinAll {H : Hp} {h : Heap} {p : Addr × Obj} (hp : p ∈ pinAll X H h) : h.get? p.1 = some p.2 ∧ H p.1 = none ∧ p.1 ≠ X.env.locals ∧ p.1 ∉ X.fs ∧ ∀ v, p.2.data ≠ .cell v := by
  unfold pinAll at hp
  obtain ⟨b, _, e⟩ := List.mem_filterMap.1 hp
  cases hz : h.get? b with
  | none => rw [hz] at e; cases e
  | some o' =>
    rw [hz] at e
    simp only at e
    split at e
    · rename_i hh
      cases e
      exact ⟨hz, by simpa using hh.2.1, hh.2.2.1, hh.2.2.2, isCl_iff.1 hh.1⟩
    · cases e
theorem Inv.pinAll (I : Inv X pins σ H s₁) : Inv X (pins ++ G.pinAll X H s₁.heap) σ H s₁ := I.pins_of fun p hp => by
  rcases List.mem_append.mp hp with z | z
  · exact I.pin p (List.mem_append_right _ z)
  · exact of_pinAll z
theorem dmd_of (c : Con X pins n0 T) (ok : (mkG X N qual scope f cd n0 a o T).Ok) (I : Inv X pins σ H s₀) (kinds : KD n0 H) (TH : ∀ b u, T b = some u → H b = some u) (fz : ∀ b o u, H b = some (.frz o u) → b < n0) (R : Rn (mkG X N qual scope f cd n0 a o T) s₀ ip σg Hg s₁ r Hw pn) (old : Old s₀.heap s₁.heap) (hsz : n0 ≤ s₀.heap.objs.size)
    {σ7 : L2.St} {H7 : Hp} {s7 : Shared} (I7 : Inv X (pins ++ G.pinAll X (orH H Hg) s₁.heap) σ7 H7 s7) (tk7 : TK (orH H Hg) H7) : Dmd (mkG X N qual scope f cd n0 a o T) Hg s₀ s₁ s7 := by
  have I1 := after_gen c ok I kinds TH fz R old hsz
  have low : ∀ {b : Addr} {u : HO}, b < n0 → Hg b = some u → T b = some u := fun hb h => (R.low ok (fun b hb h => old.no b (Nat.lt_of_lt_of_le hb hsz) h) hb h).2
  have up : ∀ b u, n0 ≤ b → orH H Hg b = some u → ∃ xs, u = .tup xs := fun b u hb h => by
    cases hz : H b with
    | some u0 =>
      rw [orH_some hz] at h
      cases h
      rcases kinds b u hz with ⟨xs, rfl⟩ | ⟨ob, xs, rfl, _⟩ | ⟨hb2, _⟩
      · exact ⟨xs, rfl⟩
      · exact absurd (fz b ob _ hz) (Nat.not_lt.2 hb)
      · exact absurd hb2 (Nat.not_lt.2 hb)
    | none =>
      rw [orH_none hz] at h
      rcases (tpH_of h).2 with ⟨xs, rfl⟩ | ⟨ob, xs, rfl⟩
      · exact ⟨xs, rfl⟩
      · have := (R.root.hw b _ (R.tk.nof b ob _ (tpH_of h).1)).2 hb
        cases this
  have fsn : ∀ b, b ∈ X.fs → b < n0 := fun b hb => by
    obtain ⟨_, o', ho, _⟩ := I.ok.funs.mem hb
    exact Nat.lt_of_lt_of_le (Heap.lt_size ho) c.s0
  have own : ∀ b o', n0 ≤ b → s₁.heap.get? b = some o' → ¬ TupC o' → (∀ v, o'.data ≠ .cell v) → s7.heap.get? b = some o' := fun b o' hb ho hc hv => by
    have hz : orH H Hg b = none := by
      cases hz : orH H Hg b with
      | none => rfl
      | some u =>
        obtain ⟨xs, rfl⟩ := up b u hb hz
        obtain ⟨o2, h1, h2⟩ := TupAt.get (show TupAt s₁.heap b xs from I1.hok b _ hz)
        rw [ho] at h1
        cases h1
        exact absurd h2 hc
    exact (I7.pin (b, o') (List.mem_append_right _ (List.mem_append_right _ (pinAll_mem ho hz (Nat.ne_of_gt (Nat.lt_of_lt_of_le c.loc hb)) (fun q => absurd (fsn b q) (Nat.not_lt.2 hb)) hv)))).1
  refine ⟨I7.os.trans I1.os.symm, I7.bare, fun b xs h => ?_, fun b ob u h => ?_, own, I7.bk, I7.env0.funs, fun b hb h => old.no b (Nat.lt_of_lt_of_le hb hsz) h, ?_⟩
  · have h5 : orH H Hg b = some (.tup xs) := by
      cases hz : H b with
      | none => rw [orH_none hz]; exact tpH_tup h
      | some u =>
        rcases Nat.lt_or_ge b n0 with hb | hb
        · rw [orH_some (TH b _ (low hb h))]
        · obtain ⟨ys, rfl⟩ := up b u hb (orH_some hz)
          have e := TupAt.uniq (show TupAt s₁.heap b ys from I1.hok b _ (orH_some hz)) (R.tupH h)
          rw [e] at hz
          rw [orH_some hz]
    exact I7.hok b _ (tk7.tup b xs h5)
  · exact (I7.hok b _ (tk7.frz b ob u (orH_some (TH b _ h)))).1
  · have h1 := own a o (Nat.le_of_lt ok.ga.1) (R.prm ok).own ok.ga.2.1 ok.ga.2.2
    exact Nat.le_of_lt (Nat.lt_trans ok.ga.1 (Heap.lt_size h1))
end
end G

set_option Elab.async false
set_option linter.all false
set_option maxRecDepth 100000
namespace G
open PySem L2 PyProof.Rows GenW
/-! ### poisoned generators -/
def pz : GenState → GenState
  | .suspended _ l c p fs cl => .suspended (fun _ => .unsupported "asleep") l c p fs cl
  | x => x
def dOf (gens : Array GenState) (j : Nat) : Option GenState := match gens[j]? with
  | some (.suspended k l c p fs cl) => some (.suspended k l c p fs cl)
  | _ => none
def pzS (s : Shared) : Shared := { s with gens := s.gens.map pz }
theorem pz_seen (x : GenState) : (pz x).seen = x.seen := by cases x <;> rfl
theorem pz_bare (x : GenState) : (pz x).bare = x.bare := by cases x <;> rfl
theorem tb_pz (s : Shared) : Tb (dOf s.gens) (pzS s).gens := by
  refine ⟨fun j x h => ?_, fun j y h => ?_⟩
  · unfold dOf at h
    split at h
    · rename_i k l c p fs cl e
      cases h
      refine ⟨pz (.suspended k l c p fs cl), ?_, fun r => ⟨_, rfl⟩, (pz_seen _).symm⟩
      show (s.gens.map pz)[j]? = _
      rw [Array.getElem?_map, e]
      rfl
    · cases h
  · have h : (s.gens.map pz)[j]? = some y := h
    rw [Array.getElem?_map] at h
    cases hz : s.gens[j]? with
    | none => rw [hz] at h; cases h
    | some x =>
      rw [hz] at h
      cases h
      cases x with
      | suspended k l c p fs cl => exact .inl fun r => ⟨_, rfl⟩
      | _ => exact .inr rfl
theorem U_pz (s : Shared) : U (dOf s.gens) (pzS s) = s := by
  show ({ s with gens := un (dOf s.gens) (s.gens.map pz) } : Shared) = s
  have e : un (dOf s.gens) (s.gens.map pz) = s.gens := by
    apply Array.ext_getElem?
    intro j
    rw [un_get, Array.getElem?_map]
    unfold dOf
    cases hz : s.gens[j]? with
    | none => rfl
    | some x => cases x <;> rfl
  rw [e]
theorem bare_pz {s : Shared} (h : AllBare s.gens) : AllBare (pzS s).gens := fun y hy => by
  obtain ⟨x, hx, rfl⟩ := Array.mem_map.1 hy
  rw [pz_bare]
  exact h x hx
theorem bare_U {s z : Shared} (h : AllBare s.gens) (hz : AllBare z.gens) : AllBare (U (dOf s.gens) z).gens := fun y hy => by
  obtain ⟨j, hj, e⟩ := Array.mem_iff_getElem.mp hy
  have e2 : (un (dOf s.gens) z.gens)[j]? = some y := by
    have : (un (dOf s.gens) z.gens)[j]? = some (un (dOf s.gens) z.gens)[j] := Array.getElem?_eq_getElem hj
    rw [this]
    exact congrArg some e
  rw [un_get] at e2
  cases hz2 : z.gens[j]? with
  | none => rw [hz2] at e2; cases e2
  | some x =>
    rw [hz2] at e2
    cases hd : dOf s.gens j with
    | none =>
      rw [hd] at e2
      cases e2
      exact hz x (Array.mem_of_getElem? hz2)
    | some w =>
      rw [hd] at e2
      cases e2
      unfold dOf at hd
      split at hd
      · rename_i e3
        cases hd
        exact h _ (Array.mem_of_getElem? e3)
      · cases hd
theorem asleep {α : Type} {M : Model} {A : Around} {s : Shared} {t : Sem α} {Q : α → Shared → Prop} (h : wpAny M A t Q (fun _ _ => False) (pzS s)) {E : Value → Shared → Prop} :
    wpAny M A t (fun a s' => ∃ z, s' = U (dOf s.gens) z ∧ Tb (dOf s.gens) z.gens ∧ Q a z) E s := by
  have := wpAny_asleep (tb_pz s) h
  rw [U_pz] at this
  exact wpAny_mono this (fun a s' q => q) fun e s' q => by
    obtain ⟨_, _, _, q⟩ := q
    exact q.elim
/-- a context in which nothing is raised -/
def Cx.no (X : Cx) : Cx := { X with xe := fun _ _ => False }
theorem Inv.no {X : Cx} {pins : List (Addr × Obj)} {σ : L2.St} {H : Hp} {s : Shared} (I : Inv X pins σ H s) : Inv (Cx.no X) pins σ H s :=
  ⟨⟨I.ok.mod, I.ok.kind, I.ok.glob, I.ok.blt, I.ok.above, I.ok.inj, I.ok.has, I.ok.cab, I.ok.hd, I.ok.frames, I.ok.stk, I.ok.exf, I.ok.bs, I.ok.bsz, I.ok.noex, I.ok.exfs, I.ok.funs, I.ok.frf⟩, I.os, I.bare, I.base, I.loc, I.cell, I.free, I.freeC, I.pin, I.hok, I.len⟩
theorem Inv.yes {X : Cx} {pins : List (Addr × Obj)} {σ : L2.St} {H : Hp} {s : Shared} (I : Inv (Cx.no X) pins σ H s) : Inv X pins σ H s :=
  ⟨⟨I.ok.mod, I.ok.kind, I.ok.glob, I.ok.blt, I.ok.above, I.ok.inj, I.ok.has, I.ok.cab, I.ok.hd, I.ok.frames, I.ok.stk, I.ok.exf, I.ok.bs, I.ok.bsz, I.ok.noex, I.ok.exfs, I.ok.funs, I.ok.frf⟩, I.os, I.bare, I.base, I.loc, I.cell, I.free, I.freeC, I.pin, I.hok, I.len⟩
theorem Inv.gens {X : Cx} {pins : List (Addr × Obj)} {σ : L2.St} {H : Hp} {s s' : Shared} (I : Inv X pins σ H s) (hh : s'.heap = s.heap) (ho : s'.os = s.os) (hg : AllBare s'.gens) : Inv X pins σ H s' := by
  refine ⟨I.ok, ho.trans I.os, hg, by rw [hh]; exact I.base, ?_, fun x c h => by rw [hh]; exact I.cell x c h, I.free, I.freeC, fun p hp => by rw [hh]; exact I.pin p hp, by rw [hh]; exact I.hok, I.len⟩
  rw [hh]
  exact I.loc
/-- over what a generator gives -/
def genS (f : D → M (Fl (List D) Empty)) (x : D) : M Its := fun m => if pureD x = true then match f x [] with
  | .ok (.nx L) _ => if L.length < big then .ok (L, []) m else .bad
  | _ => .bad
  else .bad
def gen1I (f : D → M (Fl (List D) Empty)) (t : M D) : M Its := bnd t (genS f)
section
variable {A B : Type}
def forPL (oi : A → List Sl) (b : D → A → M (Fl A A)) : List D → A → M (Fl A B)
  | [], s => fun m => if (oi s).all slPure = true ∧ m = [] then .ok (.nx s) m else .bad
  | x :: xs, s => fun m => if (oi s).all slPure = true ∧ m = [] then bnd (calm (b x s)) (turnF (forPL oi b xs)) m else .bad
def forP (oi : A → List Sl) (src : M Its) (s : A) (b : D → A → M (Fl A A)) : M (Fl A B) := bnd src fun z => forPL oi b z.1 s
end
end G

set_option Elab.async false
set_option linter.all false
set_option maxRecDepth 100000
namespace G
open PySem L2 PyProof.Rows GenW
/-- the module's name x is a generator def of one parameter -/
def IsGn (gu : Bool) (P : Program) (w : World) (K : PySem.W.Frag) (mg : Str → Option Value) (base : Heap) (cls : Cl) (k : Nat) (x : Str) (f : D → M (Fl (List D) Empty)) : Prop :=
  ∃ (fa : Addr) (fd : FuncData) (nm qual : Str) (st : Stmt) (N : List Str) (p : Str), mg x = some (.ref fa) ∧ PySem.W.keepIn K (.ref fa) = true ∧ Fun K nm qual st fa fd ∧ Binds K fd [p] [] ∧ GScope N [p] (defScope st) ∧
    (∀ n, cellsFrom n (defScope st).names [] = []) ∧ (∀ y, (defScope st).names.lookup y ≠ some .cell ∧ (defScope st).names.lookup y ≠ some .free) ∧
    ∀ (cd : Value) (A : Around) (outer : List Env) (n0 a : Nat) (o : Obj) (T : Hp), Room k (A.deeper (Gn.env ⟨P, w, K, mg, base, N, qual, defScope st, fa, cd, A, outer, n0, a, o, T⟩)) → Clr gu A → Gn.Ok ⟨P, w, K, mg, base, N, qual, defScope st, fa, cd, A, outer, n0, a, o, T⟩ →
      ∀ d, GJ ⟨P, w, K, mg, base, N, qual, defScope st, fa, cd, A, outer, n0, a, o, T⟩ cls (.val d :: List.replicate (N.length - 1) .un) (defBody st) [] (fun _ => List.replicate N.length .un) id (f d)
/-- a generator that has just been made -/
structure Made (X : Cx) (pins : List (Addr × Obj)) (σ : L2.St) (H : Hp) (cls : Cl) (f : D → M (Fl (List D) Empty)) (v : V) (G : Gn) (g : Nat) (s2 : Shared) : Prop where
  inv : Inv X pins σ H s2
  con : Con X pins G.n0 (tpH H)
  hlt : ∀ b u, H b = some u → b < G.n0
  ok : G.Ok
  obj : s2.heap.get? G.a = some G.o
  gen : ∀ h : Heap, h.get? G.a = some G.o → h.IsGen G.a g
  sz : G.n0 ≤ s2.heap.objs.size
  lt : g < s2.gens.size
  go : ∀ (L : List D) (d : D) (m : Hs), Rep G.K G0 (tpH H) v d → f d [] = .ok (.nx L) m → L.length < big → ∃ gs, s2.gens[g]? = some gs ∧ gs.Goes (model X.prog X.w) X.A.in1 (Rp G L) (Yp G L) big (.send .none) (s2.setGen g .running)
theorem call_made {X : Cx} {pins : List (Addr × Obj)} {σ : L2.St} {H : Hp} {s : Shared} {k : Nat} {cls : Cl} {x : Str} {f : D → M (Fl (List D) Empty)} {v : V} {u : Value} {E : Value → Shared → Prop} {fa : Addr} (hc : X.calm = true) (h : IsGn gu X.prog X.w X.K X.mg X.base cls k x f) (hx : X.mg x = some (.ref fa)) (hr : Room (k + 2) X.A) (cl : Clr gu X.A) (I : Inv X pins σ H s) (rv : L2.RelV v u) :
    wpAny (model X.prog X.w) X.A (call (.ref fa) [u]) (fun w s2 => ∃ G g, w = .ref G.a ∧ G.K = X.K ∧ G.P = X.prog ∧ (∃ N qual scope f' cd, G = mkG X N qual scope f' cd G.n0 G.a G.o (tpH H)) ∧ Made X pins σ H cls f v G g s2) E s := by
  obtain ⟨fa', fd, nm, qual, st, N, p, hm, hkp, F, hb, S, hcs, hnc, walk⟩ := h
  rw [hx] at hm
  cases hm
  obtain ⟨oc, od, kV, doc, pm, an, cdv, ct, osl, rfl, lk, hcd⟩ := F.ex
  have KX : X.K.In s.heap := I.kIn
  have hbt := hb s [u] KX rfl
  have hkind : ∀ y ∈ [p].zip [u], (defScope st).names.lookup y.1 = some .local ∨ ((defScope st).names.lookup y.1 = some .cell ∧ ((cellsFrom (s.heap.objs.size + 1) (defScope st).names []).lookup y.1).isSome = true) := fun ⟨n, z⟩ hy => by
    rcases S.par n (List.of_mem_zip hy).1 with q | q
    · exact .inl q
    · exact absurd q (hnc n).1
  refine wpAny_mono (wpAny_old (Q := fun w s2 => ∃ (s1 : Shared) (go : Obj) (t1 t2 : Value) (tk2 : Nat), w = .ref s1.heap.objs.size ∧ s2 = { s1 with gens := s1.gens.push (.fresh (.func (defBody st) (envOfC qual (defScope st) s.heap.objs.size fa cdv))), toks := tk2, heap := s1.heap.push go } ∧ go.cls = .type "generator" ∧ go.data = .fields #[.int s1.gens.size 0, t1, t2] ∧ go.slots = #[] ∧ (s1.heap.push go).get? s1.heap.objs.size = some go ∧
    InCallC s s.heap.objs.size (bindL (envOfC qual (defScope st) s.heap.objs.size fa cdv).kindOf ([p].zip [u]) fun _ => none) (cellsFrom (s.heap.objs.size + 1) (defScope st).names []) (bindC (envOfC qual (defScope st) s.heap.objs.size fa cdv).kindOf ([p].zip [u]) fun _ => none) s1) (E := E) ?_) (fun w s2 q => ?_) fun e s2 q => q.2
  · refine wpAny_call (codeAny_call_generator (show X.A.depth < recursionLimit by have := hr.dp; omega) (KX _ _ lk) rfl S.co S.gen rfl (PySem.W.codeRec_of KX hcd) (hbt _ _ _ _ ?_))
    refine wpAny_newFunctionEnv_cells S.kind hkind fun env he s1 y => ?_
    subst he
    exact ⟨I.nolimit.keeps y.toInCall.keep, s1, _, _, _, _, rfl, rfl, rfl, rfl, rfl, Heap.get?_push_size _ rfl, y⟩
  · obtain ⟨old, s1, go, t1, t2, tk2, rfl, rfl, hgc, hgd, hgs, hgp, y⟩ := q
    obtain ⟨h1, tk, es1, hk1⟩ := y.done
    have os1 : s1.os = s.os := by rw [es1]
    have gen1 : s1.gens = s.gens := by rw [es1]
    have lt1 : s.heap.objs.size < s1.heap.objs.size := y.toInCall.ns.lt
    have kp1 : ∀ b o, s.heap.get? b = some o → s1.heap.get? b = some o := y.toInCall.keep
    have kp12 : ∀ b o, s1.heap.get? b = some o → (s1.heap.push go).get? b = some o := fun b o e => Heap.get?_push_of_some _ e
    have bare2 : AllBare (s1.gens.push (.fresh (.func (defBody st) (envOfC qual (defScope st) s.heap.objs.size fa cdv)))) := AllBare.push (by rw [gen1]; exact I.bare) rfl
    have Hlt : ∀ b u, H b = some u → b < s.heap.objs.size := fun b u e => (I.hok b u e).lt
    have Tlt : ∀ b u, tpH H b = some u → b < s.heap.objs.size := fun b u e => Hlt b u (tpH_of e).1
    have fsn : ∀ b ∈ frs X.stack, b < s.heap.objs.size := fun b hb => by
      obtain ⟨_, o, ho, _⟩ := I.env0.funs.mem hb
      exact Heap.lt_size ho
    have hntc : ¬ TupC go := not_tup hgc (by decide)
    have hncl : ∀ v, go.data ≠ .cell v := fun v q => by rw [hgd] at q; cases q
    have I2 : Inv X pins σ H { s1 with gens := s1.gens.push (.fresh (.func (defBody st) (envOfC qual (defScope st) s.heap.objs.size fa cdv))), toks := tk2, heap := s1.heap.push go } :=
      I.call' (ch := []) os1 (Un.kept fun b o e => kp12 b o (kp1 b o e)) (I.hok.kept fun b o e => kp12 b o (kp1 b o e)) bare2 fun b z => by simp at z
    have okG : (mkG X N qual (defScope st) fa cdv s.heap.objs.size s1.heap.objs.size go (tpH H)).Ok := {
      t := fun b u e => ⟨Tlt b u e, (tpH_of e).2⟩
      nc := fun z => hnc z
      cs := hcs _
      fr := fun b hb => ⟨fsn b hb, tpH_none (I.stkFree b hb)⟩
      ga := ⟨lt1, hntc, hncl⟩ }
    refine ⟨mkG X N qual (defScope st) fa cdv s.heap.objs.size s1.heap.objs.size go (tpH H), s1.gens.size, rfl, rfl, rfl, ⟨N, qual, _, fa, cdv, rfl⟩, {
      inv := I2
      con := ⟨tpH_idem, Tlt, I.lt, fun z c e => by obtain ⟨_, q⟩ := I.cell z c e; exact q.lt, fun q hq => Heap.lt_size (I.pin q hq).1, I.sz⟩
      hlt := Hlt
      ok := okG
      obj := hgp
      gen := fun h e => ⟨go, t1, t2, e, hgc, hgd, hgs⟩
      sz := old.sz
      lt := by
        show s1.gens.size < (s1.gens.push _).size
        rw [Array.size_push]
        exact Nat.lt_succ_self _
      go := fun L d m hv hf hL => ?_ }⟩
    refine ⟨_, Array.getElem?_push_size .., rfl, ?_⟩
    have e0 : Env0 X.prog X.w X.K X.mg X.base X.A.in1 X.stack s (tpH H) := by
      have e := I.env0
      exact ⟨e.frames, e.mod, fun b o q => ⟨(e.bs b o q).1, tpH_none (e.bs b o q).2⟩, e.bsz, e.funs, fun b hb => tpH_none (e.frf b hb), hok_tp e.hok, e.bare⟩
    have I0 : Inv (gcxOf X.prog X.w X.K X.mg X.base N qual (defScope st) fa cdv X.A.in1 X.stack s (tpH H) (fun _ _ _ => False) []) [] (start N [v]) (tpH H) s1 := inv_startG S (I.ok.hd hc) e0 rfl (.cons rv .nil) y
    have I1 : Inv (gcxOf X.prog X.w X.K X.mg X.base N qual (defScope st) fa cdv X.A.in1 X.stack s (tpH H) (fun _ _ _ => False) []) [] (start N [v]) (tpH H) { s1 with gens := s1.gens.push (.fresh (.func (defBody st) (envOfC qual (defScope st) s.heap.objs.size fa cdv))), toks := tk2, heap := s1.heap.push go } :=
      I0.call' (ch := []) rfl (Un.kept kp12) (I0.hok.kept kp12) bare2 fun b z => by simp at z
    have pn2 : ∀ p ∈ (s1.heap.objs.size, go) :: tupsOf s.heap.objs.size (tpH H) (s1.heap.push go), (s1.heap.push go).get? p.1 = some p.2 ∧ tpH H p.1 = none ∧ p.1 ≠ s.heap.objs.size ∧ p.1 ∉ frs X.stack ∧ ∀ v, p.2.data ≠ .cell v := fun p hp => by
      rcases List.mem_cons.mp hp with rfl | hp
      · refine ⟨hgp, ?_, Nat.ne_of_gt lt1, fun hf => absurd (fsn _ hf) (Nat.not_lt.2 (Nat.le_of_lt lt1)), hncl⟩
        cases hz : tpH H s1.heap.objs.size with
        | none => rfl
        | some u => exact absurd (Tlt _ u hz) (Nat.not_lt.2 (Nat.le_of_lt lt1))
      · obtain ⟨b, o⟩ := p
        obtain ⟨g1, g2, ⟨_, its, n, g3⟩, g4⟩ := tupsOf_mem.1 hp
        refine ⟨g1, g4, fun e => ?_, fun hf => absurd (fsn _ hf) (Nat.not_lt.2 g2), fun v q => ?_⟩
        · obtain ⟨mm, ⟨o', es, ep, q1, q2, _⟩, _⟩ := I1.loc
          have e : b = s.heap.objs.size := e
          have q1 : (s1.heap.push go).get? s.heap.objs.size = some o' := q1
          rw [← e, g1] at q1
          cases q1
          rw [g3] at q2
          cases q2
        · have q : o.data = .cell v := q
          rw [g3] at q
          cases q
    have R0 : Rn (mkG X N qual (defScope st) fa cdv s.heap.objs.size s1.heap.objs.size go (tpH H)) { s1 with gens := s1.gens.push (.fresh (.func (defBody st) (envOfC qual (defScope st) s.heap.objs.size fa cdv))), toks := tk2, heap := s1.heap.push go } [] (start N [v]) (tpH H) { s1 with gens := s1.gens.push (.fresh (.func (defBody st) (envOfC qual (defScope st) s.heap.objs.size fa cdv))), toks := tk2, heap := s1.heap.push go } s (tpH H) ((s1.heap.objs.size, go) :: tupsOf s.heap.objs.size (tpH H) (s1.heap.push go)) := by
      refine ⟨⟨⟨I1.ok.mod, I1.ok.kind, I1.ok.glob, I1.ok.blt, I1.ok.above, I1.ok.inj, I1.ok.has, I1.ok.cab, I1.ok.hd, I1.ok.frames, I1.ok.stk, I1.ok.exf, I1.ok.bs, I1.ok.bsz, I1.ok.noex, I1.ok.exfs, I1.ok.funs, I1.ok.frf⟩, I1.os, I1.bare, I1.base, I1.loc, I1.cell, I1.free, I1.freeC, fun p hp => ?_, I1.hok, I1.len⟩, ?_, TK.refl _, fun p hp => by simp at hp⟩
      · rcases List.mem_append.mp hp with hp | hp
        · exact pn2 p hp
        · simp at hp
      · exact {
          rsz := rfl
          rh := fun b => by
            show s.heap.get? b = if b < s.heap.objs.size then (s1.heap.push go).get? b else none
            by_cases hb : b < s.heap.objs.size
            · rw [if_pos hb]
              cases hz : s.heap.get? b with
              | none => exact (old.no b hb hz).symm
              | some o => exact (kp12 b o (kp1 b o hz)).symm
            · rw [if_neg hb]
              cases hz : s.heap.get? b with
              | none => rfl
              | some o => exact absurd (Heap.lt_size hz) hb
          ros := os1.symm
          hw := fun b u h => ⟨fun _ => h, fun hb => absurd (Tlt b u h) (Nat.not_lt.2 hb)⟩
          ht := fun b u h => h
          pt := fun b o hb ho hc => by
            cases hz : tpH H b with
            | none => exact .inl (List.mem_cons_of_mem _ (tupsOf_mem.2 ⟨ho, hb, hc, hz⟩))
            | some u => exact absurd (Tlt b u hz) (Nat.not_lt.2 hb)
          pa := List.mem_cons_self
          pk := fun p hp => (List.mem_cons.mp hp).imp_right fun q => ((tupsOf_mem (b := p.1) (o := p.2)).1 q).2.2.1
          hok := hok_tp I2.hok }
    obtain ⟨r2, pnw, R1⟩ := R0.wake okG (s2 := ({ s1 with gens := s1.gens.push (.fresh (.func (defBody st) (envOfC qual (defScope st) s.heap.objs.size fa cdv))), toks := tk2, heap := s1.heap.push go } : Shared).setGen s1.gens.size .running) {
      os := rfl
      bare := allBare_setGen bare2 rfl
      tup := fun b xs h => hok_tp I2.hok b _ h
      frz := fun b o u h => (hok_tp I2.hok b _ h).1
      own := fun b o _ h _ _ => h
      base := I2.bk
      funs := I2.env0.funs
      old := fun b _ h => h
      sz := old.sz }
    have at1 : At ⟨X.K, cls.noT⟩ (C0 cls) (.val d :: List.replicate (N.length - 1) .un) (start N [v]) (wkH s.heap.objs.size (tpH H)) G0 [] := by
      refine ⟨Le.refl _, rel_0 (fun b ob u e => by
        rcases (tpH_of (wkH_of e).1).2 with ⟨xs, e⟩ | ⟨o', xs, e⟩
        · cases e
        · cases e; rfl), ?_, TW.nil⟩
      have rvl : RepL X.K G0 (wkH s.heap.objs.size (tpH H)) [v] [d] := .cons (hv.mono (Lv0.refl _) wkH_tk) .nil
      unfold L2.start
      exact relS_start (Γ := ⟨X.K, cls.noT⟩) rvl _
    refine seg_func ?_
    refine (walk cdv X.A.in1 X.stack s.heap.objs.size s1.heap.objs.size go (tpH H) (hr.in1.deeper _) cl okG d).run L L [] m hf (List.prefix_refl _) hL big _ _ [] _ _ id id _ [] (start N [v]) (wkH s.heap.objs.size (tpH H)) G0 r2 (wkH s.heap.objs.size (tpH H)) pnw ⟨over_func, rfl, rfl, rfl⟩ rfl R1 at1 fun n' s₀' s' σ' H' g' r' Hw' pn' q1 q2 q3 q4 q5 => ?_
    exact seg_end (.ok (.ret .none)) (.inl ⟨.inl rfl, q1, _, _, _, _, _, _, q2⟩)
end G

set_option Elab.async false
set_option linter.all false
set_option maxRecDepth 100000
set_option maxHeartbeats 1000000
namespace G
open PySem L2 PyProof.Rows GenW
section
variable {A B : Type} {Γ : Cst} {C : Cc} {oi : A → List Sl} {ob : B → List Sl} {g : Gh} {H : Hp} {De : Ends} {b : D → A → M (Fl A A)} {m : Hs} {st : A}
theorem forPL_in {xs : List D} (q : PostS Γ C oi ob g H De (forPL oi b xs st m)) : (oi st).all slPure = true ∧ m = [] := by
  cases xs with
  | nil =>
    unfold forPL at q
    split at q
    · assumption
    · exact q.elim
  | cons x xs =>
    unfold forPL at q
    split at q
    · assumption
    · exact q.elim
theorem forPL_nil (q : PostS Γ C oi ob g H De (forPL oi b [] st m)) : PostS Γ C oi ob g H De (.ok (.nx st) m) := by
  unfold forPL at q
  split at q
  · exact q
  · exact q.elim
theorem forPL_cons {x : D} {xs : List D} (q : PostS Γ C oi ob g H De (forPL oi b (x :: xs) st m)) : PostS Γ C oi ob g H De (bnd (calm (b x st)) (turnF (forPL oi b xs)) m) := by
  unfold forPL at q
  split at q
  · exact q
  · exact q.elim
end
/-- the loop's state at turn i -/
def LI {A B : Type} (X : Cx) (C : Cc) (pins : List (Addr × Obj)) (oi : A → List Sl) (ob : B → List Sl) (De : Ends) (b : D → A → M (Fl A A)) (L : List D) (G : Gn) (j : Nat) (gC : Gh) (i : Nat) (s' : Shared) : Prop :=
  ∃ (st : A) (σ' : L2.St) (H' : Hp), i ≤ L.length ∧ PostS ⟨X.K, C.cls⟩ C oi ob gC H' De (forPL oi b (L.drop i) st []) ∧ At ⟨X.K, C.cls⟩ C (oi st) σ' H' gC [] ∧ KD G.n0 H' ∧ (∀ b u, G.T b = some u → H' b = some u) ∧ (∀ b o u, H' b = some (.frz o u) → b < G.n0) ∧ Inv X pins σ' H' s' ∧
    s'.heap.get? G.a = some G.o ∧ G.n0 ≤ s'.heap.objs.size ∧ ∃ gs, s'.gens[j]? = some gs ∧ gs.Goes (model X.prog X.w) X.A.in1 (Rp G L) (Yp G L) (big - i) (.send .none) (s'.setGen j .running)
section
variable {A B : Type} {X : Cx} {C : Cc} {pins : List (Addr × Obj)} {oi : A → List Sl} {ob : B → List Sl} {De : Ends} {b : D → A → M (Fl A A)} {L : List D} {j : Nat} {gC : Gh}
variable {N : List Str} {qual : Str} {scope : Scope} {f : Addr} {cd : Value} {n0 a : Nat} {o : Obj} {T : Hp}
theorem susp_of {G : Gn} {M : Model} {A' : Around} {R : GenEnd} {Y : Protocol} {n : Nat} {s : Shared} {gs : GenState} (h : gs.Goes M A' R Y n (.send (.bool true)) s) : ∃ k l c p fs cl, gs = .suspended k l c p fs cl := by
  cases gs with
  | suspended k l c p fs cl => exact ⟨_, _, _, _, _, _, rfl⟩
  | fresh c =>
    obtain ⟨h1, _⟩ := h
    cases h1
  | running => exact h.elim
  | finished => exact h.elim
theorem next_item (hc : X.calm = true) (hd : X.A.depth < recursionLimit) (c : Con X pins n0 T) (ok : (mkG X N qual scope f cd n0 a o T).Ok) (hgen : ∀ h : Heap, h.get? a = some o → h.IsGen a j) (hL : L.length < big) {i : Nat} {s' : Shared} (li : LI X C pins oi ob De b L (mkG X N qual scope f cd n0 a o T) j gC i s') {E : Value → Shared → Prop} :
    wpAny (model X.prog X.w) X.A (pyNext (.ref a)) (fun r s1 => ∃ (st : A) (σ' : L2.St) (H' : Hp), i ≤ L.length ∧ PostS ⟨X.K, C.cls⟩ C oi ob gC H' De (forPL oi b (L.drop i) st []) ∧ At ⟨X.K, C.cls⟩ C (oi st) σ' H' gC [] ∧ KD n0 H' ∧ (∀ b u, T b = some u → H' b = some u) ∧ (∀ b o u, H' b = some (.frz o u) → b < n0) ∧ Inv X pins σ' H' (s'.setGen j .running) ∧ n0 ≤ s'.heap.objs.size ∧
      ((r = none ∧ i = L.length ∧ ∃ s₁ h' ip σg Hg rr Hw pn, s1 = { s₁.setGen j .finished with heap := h' } ∧ (∀ b o, s₁.heap.get? b = some o → h'.get? b = some o) ∧ Rn (mkG X N qual scope f cd n0 a o T) (s'.setGen j .running) ip σg Hg s₁ rr Hw pn) ∨
      ∃ v s₁ gs' ip σg Hg rr Hw pn x d gg, r = some v ∧ s1 = s₁.setGen j gs' ∧ j < s₁.gens.size ∧ gs'.bare = true ∧ Rn (mkG X N qual scope f cd n0 a o T) (s'.setGen j .running) ip σg Hg s₁ rr Hw pn ∧ L2.RelV x v ∧ Rep X.K gg Hg x d ∧ pureD d = true ∧ L[i]? = some d ∧
        ∀ s2, Dmd (mkG X N qual scope f cd n0 a o T) Hg (s'.setGen j .running) s₁ s2 → gs'.Goes (model X.prog X.w) X.A.in1 (Rp (mkG X N qual scope f cd n0 a o T) L) (Yp (mkG X N qual scope f cd n0 a o T) L) (big - (i + 1)) (.send .none) s2 ∧ ∃ k l c p fs cl, gs' = .suspended k l c p fs cl) ∧ Old (s'.setGen j .running).heap s1.heap) E s' := by
  obtain ⟨st, σ', H', hi, q, at', kd, TH, fz, I, ho, hsz, gs, hgs, hgo⟩ := li
  have hgl : j < s'.gens.size := (Array.getElem?_eq_some_iff.mp hgs).1
  have Ir : Inv X pins σ' H' (s'.setGen j .running) := Inv.gens I rfl rfl (allBare_setGen I.bare rfl)
  have hb0 : i < big := Nat.lt_of_le_of_lt hi hL
  have base := next_genG (P := X.prog) (w := X.w) (A := X.A) (E := E) (n := big - i) (F := fun n s₀ s₁ => n + L.length = big ∧ ∃ ip σ H r Hw pn, Rn (mkG X N qual scope f cd n0 a o T) s₀ ip σ H s₁ r Hw pn) (Er := fun _ _ => False) (Y := Yp (mkG X N qual scope f cd n0 a o T) L)
    (Q := fun r s1 => (r = none ∧ i = L.length ∧ ∃ s₁ h' ip σg Hg rr Hw pn, s1 = { s₁.setGen j .finished with heap := h' } ∧ (∀ b o, s₁.heap.get? b = some o → h'.get? b = some o) ∧ Rn (mkG X N qual scope f cd n0 a o T) (s'.setGen j .running) ip σg Hg s₁ rr Hw pn) ∨
      ∃ v s₁ gs' ip σg Hg rr Hw pn x d gg, r = some v ∧ s1 = s₁.setGen j gs' ∧ gs'.bare = true ∧ Rn (mkG X N qual scope f cd n0 a o T) (s'.setGen j .running) ip σg Hg s₁ rr Hw pn ∧ L2.RelV x v ∧ Rep X.K gg Hg x d ∧ pureD d = true ∧ L[i]? = some d ∧
        ∀ s2, Dmd (mkG X N qual scope f cd n0 a o T) Hg (s'.setGen j .running) s₁ s2 → gs'.Goes (model X.prog X.w) X.A.in1 (Rp (mkG X N qual scope f cd n0 a o T) L) (Yp (mkG X N qual scope f cd n0 a o T) L) (big - (i + 1)) (.send .none) s2 ∧ ∃ k l c p fs cl, gs' = .suspended k l c p fs cl)
    (I.ok.hd hc) I.nolimit hd (hgen _ ho) hgs hgo (fun v s₁ gs' hbare hy => ?_) (fun s₁ hf h' hk => ?_) (fun e s₁ h => h.elim)
  · refine wpAny_mono (wpAny_old (GenW.wpAny_gsz (n := j + 1) hgl (wpAny_mono base (fun r s1 q hz => (⟨hz, q⟩ : j + 1 ≤ s1.gens.size ∧ _)) fun e s1 q _ => q))) (fun r s1 q => ?_) fun e s1 q => q.2
    obtain ⟨old, hz, q⟩ := q
    refine ⟨st, σ', H', hi, by assumption, at', kd, TH, fz, Ir, hsz, ?_, old⟩
    rcases q with q | ⟨v, s₁, gs', ip, σg, Hg, rr, Hw, pn, x, d, gg, rfl, rfl, hbare, R, rest⟩
    · exact .inl q
    · exact .inr ⟨v, s₁, gs', ip, σg, Hg, rr, Hw, pn, x, d, gg, rfl, rfl, by rw [setGen_size] at hz; exact hz, hbare, R, rest⟩
  · obtain ⟨ip, σg, Hg, rr, Hw, pn, x, d, gg, jj, R, rv, hv, hp, hl, hn, kk⟩ := hy
    have hj : jj = i := by omega
    subst hj
    refine .inr ⟨v, s₁, gs', ip, σg, Hg, rr, Hw, pn, x, d, gg, rfl, rfl, hbare, R, rv, hv, hp, hl, fun s2 dm => ?_⟩
    obtain ⟨k1, k2⟩ := kk s2 dm
    obtain ⟨m, hm⟩ : ∃ m, big - jj = m + 1 := ⟨big - jj - 1, by omega⟩
    rw [hm] at k1 k2
    have hm2 : big - (jj + 1) = m := by omega
    rw [hm2]
    exact ⟨k1, susp_of (G := mkG X N qual scope f cd n0 a o T) k2⟩
  · obtain ⟨hn, ip, σg, Hg, rr, Hw, pn, R⟩ := hf
    exact .inl ⟨rfl, by omega, s₁, h', ip, σg, Hg, rr, Hw, pn, rfl, hk, R⟩
end
end G

set_option Elab.async false
set_option linter.all false
set_option maxRecDepth 100000
set_option maxHeartbeats 1000000
namespace G
open PySem L2 PyProof.Rows GenW
section
variable {X : Cx} {pins : List (Addr × Obj)} {N : List Str} {qual : Str} {scope : Scope} {f : Addr} {cd : Value} {n0 a : Nat} {o : Obj} {T H Hg Hw : Hp} {σ σg : L2.St} {s₀ s₁ r : Shared} {ip pn : List (Addr × Obj)}
theorem or_facts (c : Con X pins n0 T) (ok : (mkG X N qual scope f cd n0 a o T).Ok) (I : Inv X pins σ H s₀) (kinds : KD n0 H) (TH : ∀ b u, T b = some u → H b = some u) (fz : ∀ b o u, H b = some (.frz o u) → b < n0) (R : Rn (mkG X N qual scope f cd n0 a o T) s₀ ip σg Hg s₁ r Hw pn) (old : Old s₀.heap s₁.heap) (hsz : n0 ≤ s₀.heap.objs.size) :
    (∀ b o u, orH H Hg b = some (.frz o u) → b < n0) ∧ TK H (orH H Hg) ∧ ∀ b u, tpH Hg b = some u → orH H Hg b = some u := by
  have I1 := after_gen c ok I kinds TH fz R old hsz
  have low : ∀ {b : Addr} {u : HO}, b < n0 → Hg b = some u → T b = some u := fun hb h => (R.low ok (fun b hb h => old.no b (Nat.lt_of_lt_of_le hb hsz) h) hb h).2
  have up : ∀ b o u, n0 ≤ b → tpH Hg b = some (.frz o u) → False := fun b o u hb h => by
    have := (R.root.hw b _ (R.tk.nof b o _ (tpH_of h).1)).2 hb
    cases this
  refine ⟨fun b o u h => ?_, ⟨fun b xs h => orH_some h, fun b o u h => orH_some h, fun b o u h => ?_⟩, fun b u h => ?_⟩
  · cases hz : H b with
    | some w => rw [orH_some hz] at h; cases h; exact fz b o u hz
    | none =>
      rw [orH_none hz] at h
      exact Nat.lt_of_not_le fun hb => up b o u hb h
  · cases hz : H b with
    | some w => rw [orH_some hz] at h; cases h; rfl
    | none =>
      rw [orH_none hz] at h
      rcases Nat.lt_or_ge b n0 with hb | hb
      · have := TH b _ (low hb (tpH_of h).1)
        rw [hz] at this
        cases this
      · exact (up b o u hb h).elim
  · cases hz : H b with
    | none => rw [orH_none hz]; exact h
    | some w =>
      rcases Nat.lt_or_ge b n0 with hb | hb
      · exact orH_some (TH b _ (low hb (tpH_of h).1))
      · rcases (tpH_of h).2 with ⟨xs, rfl⟩ | ⟨ob, xs, rfl⟩
        · rcases kinds b w hz with ⟨ys, rfl⟩ | ⟨ob, ys, rfl, _⟩ | ⟨hb2, _⟩
          · have e := TupAt.uniq (show TupAt s₁.heap b ys from I1.hok b _ (orH_some hz)) (R.tupH (tpH_of h).1)
            rw [e] at hz
            exact orH_some hz
          · exact absurd (fz b ob _ hz) (Nat.not_lt.2 hb)
          · exact absurd hb2 (Nat.not_lt.2 hb)
        · exact (up b _ _ hb h).elim
end
end G

set_option Elab.async false
set_option linter.all false
set_option maxRecDepth 100000
set_option maxHeartbeats 1000000
namespace G
open PySem L2 PyProof.Rows GenW
section
variable {A B : Type} {X : Cx} {C : Cc} {pins : List (Addr × Obj)} {oi : A → List Sl} {ob : B → List Sl} {De : Ends} {b : D → A → M (Fl A A)} {L : List D} {j : Nat} {gC : Gh}
variable {N : List Str} {qual : Str} {scope : Scope} {f : Addr} {cd : Value} {n0 a : Nat} {o : Obj} {T : Hp}
theorem turn_gen {tg : Expr} {body : List Stmt} {is : List Nat} {P : Pt} (hX : tpH X.H_0 = X.H_0) (hC : C.gB = G0 ∧ C.cls.T = [] ∧ C.cls.dk = false ∧ C.H0 = H00) (hc : X.calm = true) (hd : X.A.depth < recursionLimit) (hp : PassesOwn (model X.prog X.w) X.A X.env X.xe) (c : Con X pins n0 T) (ok : (mkG X N qual scope f cd n0 a o T).Ok) (hgen : ∀ h : Heap, h.get? a = some o → h.IsGen a j) (hL : L.length < big)
    (hg : PGc (Cx.no X) C.wf tg is P) (hb : ∀ x s, Bd1 P (oi s) x (b x s) fun ρ' t => PSsc (Cx.no X) C.wf ρ' body oi oi t) (hgz : ∀ p, p ∈ gC.fz → p.1 < n0 ∧ isL false p.2 = true) (hgC : fzG gC = gC) {n : Nat} {s' : Shared}
    (li : ∃ i, n = L.length - i ∧ LI X C pins oi ob De b L (mkG X N qual scope f cd n0 a o T) j gC i s') :
    wpAny (model X.prog X.w) X.A (pyNext (.ref a)) (fun r s₁ => match r with
      | none => wpAny (model X.prog X.w) X.A (execs [] X.env) (fun fl s₃ => SP X pins De fl s₃) (notedBy (model X.prog X.w) X.A X.env (cameBackBy (model X.prog X.w) X.A X.env X.xe)) s₁
      | some v => wpAny (model X.prog X.w) X.A (letOwnedTupleGo tg (.ref a) v) (fun _ s₁' =>
          wpAny (model X.prog X.w) X.A (assign tg X.env v) (fun _ s₂ => wpAny (model X.prog X.w) X.A (execs body X.env) (fun fl s₃ => match fl with
            | .next | .cont => ∃ m, m < n ∧ ∃ i, m = L.length - i ∧ LI X C pins oi ob De b L (mkG X N qual scope f cd n0 a o T) j gC i s₃
            | .brk => SP X pins De .next s₃
            | .ret v => SP X pins De (.ret v) s₃) (notedBy (model X.prog X.w) X.A X.env (cameBackBy (model X.prog X.w) X.A X.env X.xe)) s₂) (notedBy (model X.prog X.w) X.A X.env (cameBackBy (model X.prog X.w) X.A X.env X.xe)) s₁') (notedBy (model X.prog X.w) X.A X.env (cameBackBy (model X.prog X.w) X.A X.env X.xe)) s₁) (notedBy (model X.prog X.w) X.A X.env (cameBackBy (model X.prog X.w) X.A X.env X.xe)) s' := by
  obtain ⟨i, hn, li⟩ := li
  refine wpAny_passesOwn hp (thn (next_item hc hd c ok hgen hL li) fun r s1 q => ?_)
  obtain ⟨st, σ', H', hi, q0, at', kd, TH, fz, I, hsz, q, old⟩ := q
  have hpur := forPL_in q0
  rcases q with ⟨rfl, hiL, s₁, h', ip, σg, Hg, rr, Hw, pn, rfl, hk, R⟩ | ⟨v, s₁, gs', ip, σg, Hg, rr, Hw, pn, x, d, gg, rfl, rfl, hj, hbare, R, rv, hv, hpd, hld, hgo⟩
  · have R' : Rn (mkG X N qual scope f cd n0 a o T) (s'.setGen j .running) ip σg Hg { s₁ with heap := h', toks := s₁.toks } rr Hw pn := ⟨R.inv.kept hk, R.root, R.tk, R.ipo⟩
    have I1 := after_gen c ok I kd TH fz R' old hsz
    obtain ⟨fzo, tko, tpo⟩ := or_facts c ok I kd TH fz R' old hsz
    have at1 : At ⟨X.K, C.cls⟩ C (oi st) σ' (orH H' Hg) (fzG gC) [] := at'.clean hC hpur.1 (fun b u e => orH_some (tpH_of e).1) (fun p h => h) (fun p h e => orH_some e) (fun b o u e => at'.rel.ff b o u (tko.nof b o u e)) hC.2.1
    rw [hgC] at at1
    have hdr : L.drop i = [] := List.drop_eq_nil_of_le (Nat.le_of_eq hiL.symm)
    rw [hdr] at q0
    have q1 := PostS.nx (PostS.mono (Lv0.refl gC) tko (forPL_nil q0)) at1
    exact wpAny_execs_nil ⟨σ', orH H' Hg, Inv.gens (s := { s₁ with heap := h', toks := s₁.toks }) I1 rfl rfl (allBare_setGen I1.bare rfl), q1⟩
  · have I1 := after_gen c ok I kd TH fz R old hsz
    obtain ⟨fzo, tko, tpo⟩ := or_facts c ok I kd TH fz R old hsz
    have at1 : At ⟨X.K, C.cls⟩ C (oi st) σ' (orH H' Hg) (fzG gC) [] := at'.clean hC hpur.1 (fun b u e => orH_some (tpH_of e).1) (fun p h => h) (fun p h e => orH_some e) (fun b o u e => at'.rel.ff b o u (tko.nof b o u e)) hC.2.1
    rw [hgC] at at1
    have hx : Rep X.K gC (orH H' Hg) x d := rep_pure tpo hv hpd
    have Ip := Inv.pinAll I1
    obtain ⟨k0, l0, c0, p0, fs0, cl0, hsus⟩ := (hgo s₁ (dmd_of c ok I kd TH fz R old hsz Ip (TK.refl _))).2
    have hil : i < L.length := (List.getElem?_eq_some_iff.mp hld).1
    have hdr : L.drop i = d :: L.drop (i + 1) := by
      rw [List.drop_eq_getElem_cons hil]
      congr 1
      exact (List.getElem?_eq_some_iff.mp hld).2
    rw [hdr] at q0
    have q1 := PostS.mono (Lv0.refl gC) tko (forPL_cons q0)
    have bare1 : AllBare (s₁.setGen j gs').gens := allBare_setGen I1.bare hbare
    have Is : Inv X (pins ++ pinAll X (orH H' Hg) s₁.heap) σ' (orH H' Hg) (s₁.setGen j gs') := Inv.gens Ip rfl rfl bare1
    have hget : (s₁.setGen j gs').gens[j]? = some gs' := by
      show (s₁.gens.setIfInBounds j gs')[j]? = some gs'
      rw [set_get, if_pos rfl, Array.getElem?_eq_getElem hj]
      rfl
    have hD : dOf (s₁.setGen j gs').gens j = some gs' := by
      unfold dOf
      rw [hget, hsus]
    obtain ⟨go, t1, t2, e1, e2, e3, _⟩ := hgen _ (R.prm ok).own
    refine wpAny_passesOwn hp (go_of (s := s₁.setGen j gs') e1 e2 e3 (by decide) ?_)
    rcases hb d st with hbad | ⟨ρ', hbp, hT⟩
    · rw [hbad] at q1
      exact q1.elim
    refine thn (asleep (s := s₁.setGen j gs') (hg.run _ _ σ' (orH H' Hg) x v (fun σ6 H6 => H6 = orH H' Hg ∧ At ⟨X.K, C.cls⟩ C ρ' σ6 (orH H' Hg) gC []) (Inv.no (Inv.gens Is rfl rfl (bare_pz bare1))) rv ⟨gC, [], oi st, d, ρ', at1.wf, hx, hbp, fun σ6 at6 _ => ⟨rfl, ⟨at6.le, at6.rel, at6.rs, at6.tw⟩⟩⟩)) fun _ s2 ⟨z2, hz2, tb2, σ6, H6, I6, hH6, at6⟩ => ?_
    subst hz2
    subst hH6
    let De' : Ends := { nx := fun σ7 H7 => ∃ g7 m7 st7, Lv0 gC g7 ∧ TK (orH H' Hg) H7 ∧ At ⟨X.K, C.cls⟩ C (oi st7) σ7 H7 g7 m7 ∧ PostS ⟨X.K, C.cls⟩ C oi ob gC H7 De (forPL oi b (L.drop (i + 1)) st7 m7), ct := fun σ7 H7 => ∃ g7 m7 st7, Lv0 gC g7 ∧ TK (orH H' Hg) H7 ∧ At ⟨X.K, C.cls⟩ C (oi st7) σ7 H7 g7 m7 ∧ PostS ⟨X.K, C.cls⟩ C oi ob gC H7 De (forPL oi b (L.drop (i + 1)) st7 m7), bk := De.nx, rt := De.rt }
    have qb : PostS ⟨X.K, C.cls⟩ C.wf oi oi gC (orH H' Hg) De' (b d st []) := by
      unfold bnd calm at q1
      cases hz : b d st [] with
      | ok o m3 =>
        rw [hz] at q1
        have q1 : PostS ⟨X.K, C.cls⟩ C oi ob gC (orH H' Hg) De (turnF (forPL oi b (L.drop (i + 1))) o m3) := q1
        cases o with
        | nx s4 => exact fun g5 H5 σ5 p5 t5 at5 => ⟨g5, m3, s4, p5, t5, ⟨at5.le, at5.rel, at5.rs, at5.tw⟩, PostS.mono (Lv0.refl gC) t5 q1⟩
        | ct s4 => exact fun g5 H5 σ5 p5 t5 at5 => ⟨g5, m3, s4, p5, t5, ⟨at5.le, at5.rel, at5.rs, at5.tw⟩, PostS.mono (Lv0.refl gC) t5 q1⟩
        | bk s4 => exact fun g5 H5 σ5 p5 t5 at5 => q1 g5 H5 σ5 p5 t5 ⟨at5.le, at5.rel, at5.rs, at5.tw⟩
        | rt d => exact q1
      | ex c fs m3 => rw [hz] at q1; exact q1.elim
      | bad => rw [hz] at q1; exact q1.elim
    refine thn (wpAny_mono (wpAny_asleep tb2 (hT.run _ z2 σ6 (orH H' Hg) De' I6 ⟨gC, [], at6.wf, qb⟩)) (fun fl s3 q3 => q3) fun e s3 q3 => by
      obtain ⟨_, _, _, q3⟩ := q3
      exact q3.elim) fun fl s3 ⟨z7, hz7, tb7, q7⟩ => ?_
    subst hz7
    have IU : ∀ {σ7 : L2.St} {H7 : Hp}, Inv (Cx.no X) (pins ++ pinAll X (orH H' Hg) s₁.heap) σ7 H7 z7 → Inv X (pins ++ pinAll X (orH H' Hg) s₁.heap) σ7 H7 (U (dOf (s₁.setGen j gs').gens) z7) := fun I7 => Inv.gens (Inv.yes I7) rfl rfl (bare_U bare1 I7.bare)
    have again : ∀ {σ7 : L2.St} {H7 : Hp}, Inv (Cx.no X) (pins ++ pinAll X (orH H' Hg) s₁.heap) σ7 H7 z7 → De'.nx σ7 H7 → ∃ m, m < n ∧ ∃ i, m = L.length - i ∧ LI X C pins oi ob De b L (mkG X N qual scope f cd n0 a o T) j gC i (U (dOf (s₁.setGen j gs').gens) z7) := fun {σ7 H7} I7 n7 => by
      obtain ⟨g7, m7, st7, p7, t7, at7, q7⟩ := n7
      obtain ⟨hp7, rfl⟩ := forPL_in q7
      have J7 := IU I7
      have dm := dmd_of c ok I kd TH fz R old hsz (s7 := (U (dOf (s₁.setGen j gs').gens) z7).setGen j .running) (Inv.gens J7 rfl rfl (allBare_setGen J7.bare rfl)) t7
      have hg7 : (U (dOf (s₁.setGen j gs').gens) z7).gens[j]? = some gs' := by
        show (un (dOf (s₁.setGen j gs').gens) z7.gens)[j]? = _
        obtain ⟨y, hy, _⟩ := tb7.d j gs' hD
        rw [un_get, hy, hD]
        rfl
      have at8 : At ⟨X.K, C.cls⟩ C (oi st7) σ7 (clH n0 H7) (fzG gC) [] := at7.clean hC hp7 (fun b u e => clH_tp e) (fun p h => p7.fz p h) (fun p h e => by
        obtain ⟨h1, h2⟩ := hgz p h
        obtain ⟨pa, po⟩ := p
        cases po with
        | lst xs => exact clH_lst e h1
        | _ => cases h2) (fun b o u e => at7.rel.ff b o u (clH_of e).1) hC.2.1
      rw [hgC] at at8
      refine ⟨L.length - (i + 1), by omega, i + 1, rfl, st7, σ7, clH n0 H7, hil, PostS.mono (Lv0.refl gC) (clH_tk at7.rel.ff) q7, at8, clH_kd, fun b u e => ?_, fun b o u e => fzo b o u (t7.nof b o u (clH_of e).1), Inv.clean n0 hX J7.unpinned, dm.own a o (Nat.le_of_lt ok.ga.1) (R.prm ok).own ok.ga.2.1 ok.ga.2.2, dm.sz, gs', hg7, (hgo _ dm).1⟩
      have e1 := orH_some (H' := Hg) (TH b u e)
      rcases (ok.t b u e).2 with ⟨xs, rfl⟩ | ⟨ob, xs, rfl⟩
      · exact clH_tup (t7.tup b xs e1)
      · exact clH_frz (t7.frz b _ _ e1) rfl
    cases fl with
    | next => obtain ⟨σ7, H7, I7, n7⟩ := q7; exact again I7 n7
    | cont => obtain ⟨σ7, H7, I7, n7⟩ := q7; exact again I7 n7
    | brk => obtain ⟨σ7, H7, I7, q7⟩ := q7; exact ⟨σ7, H7, (IU I7).unpinned, q7⟩
    | ret v => obtain ⟨x7, σ7, H7, I7, r7, q7⟩ := q7; exact ⟨x7, σ7, H7, (IU I7).unpinned, r7, q7⟩
end
end G

set_option Elab.async false
set_option linter.all false
set_option maxRecDepth 100000
set_option maxHeartbeats 1000000
namespace G
open PySem L2 PyProof.Rows GenW
section
variable {A' B A : Type} {X : Cx} {C : Cc} {ρ : List Sl} {oi : A' → List Sl} {oa : A → List Sl} {ob : B → List Sl} {k : Nat}
theorem forP_ls {f : D → M (Fl (List D) Empty)} {c : M D} {s0 : A'} {b : D → A' → M (Fl A' A')} {m : Hs} : (forP oi (gen1I f c) s0 b : M (Fl A' B)) m = (lsM [c] m).bind fun ds m1 => bnd (genS f (ds.headD .non)) (fun z => forPL oi b z.1 s0) m1 := by
  unfold forP gen1I lsM
  unfold bnd
  cases hz : c m <;> rfl
theorem genS_in {Γ : Cst} {g : Gh} {H : Hp} {De : Ends} {f : D → M (Fl (List D) Empty)} {d : D} {s0 : A'} {b : D → A' → M (Fl A' A')} {m : Hs} (q : PostS Γ C oi ob g H De (bnd (genS f d) (fun z => forPL oi b z.1 s0) m)) :
    pureD d = true ∧ ∃ L m', f d [] = .ok (.nx L) m' ∧ L.length < big ∧ PostS Γ C oi ob g H De (forPL oi b L s0 m) := by
  unfold bnd genS at q
  split at q
  · rename_i hp
    split at q
    · rename_i L m' hf
      split at q
      · rename_i hL
        exact ⟨hp, L, m', hf, hL, q⟩
      · exact q.elim
    · exact q.elim
  · exact q.elim
theorem forP_ok {tg e : Expr} {body : List Stmt} {is : List Nat} {P : Pt} {f : D → M (Fl (List D) Empty)} {c : M D} {s0 : A'} {b : D → A' → M (Fl A' A')} {x : Str} {p pos pos' : Pos} (hX : tpH X.H_0 = X.H_0) (hC : C.gB = G0 ∧ C.cls.T = [] ∧ C.cls.dk = false ∧ C.H0 = H00) (hc : X.calm = true) (hp : PassesOwn (model X.prog X.w) X.A X.env X.xe) (hr : Room (k + 2) X.A) (cl : Clr gu X.A) (gl : Gl X x) (hgn : IsGn gu X.prog X.w X.K X.mg X.base C.cls k x f)
    (he : PEc X C ρ e c) (hg : PGc (Cx.no X) C.wf tg is P) (h0 : Sub (oi s0) ρ) (hb : ∀ x s, Bd1 P (oi s) x (b x s) fun ρ' t => PSsc (Cx.no X) C.wf ρ' body oi oi t)
    (hdb : (x == ("__debug__" : Str)) = false := by decide) (hst : starEach [e] X.env = [(false, eval e X.env)] := by rfl) (hfs : ∀ v, foldedSetIterable (.Call (.Name x p) [e] [] pos') X.env v = pure v := by intro _; rfl) :
    PS X (.For tg (.Call (.Name x p) [e] [] pos') body [] pos) (tS ⟨X.K, C.cls⟩ C oi ob ρ (forP oi (gen1I f c) s0 b)) := by
  refine ⟨fun pins s σ H De I q => ?_⟩
  obtain ⟨g, m, at0, q⟩ := q
  obtain ⟨fa, fd, nm, qual, stt, N, pp, mgx, kp, _⟩ := id hgn
  rw [forP_ls] at q
  refine wpAny_For (wpAny_Call_Name_kw (ld_glob I gl mgx ?_ hdb)) hfs
  refine PySem.W.callWith_K (h₀ := X.base) I.ok.mod.kin kp (thn ((a_cons he a_nil hst).run pos' pins s σ H (fun vs H1 => ∃ v d g1 m1, vs = [v] ∧ At ⟨X.K, C.cls⟩ C ρ σ H1 g1 m1 ∧ Rep X.K g1 H1 v d ∧ PostS ⟨X.K, C.cls⟩ C oi ob g1 H1 De (bnd (genS f d) (fun z => forPL oi b z.1 s0) m1)) I ⟨g, m, at0, ?_⟩) fun us s1 q1 => ?_) hst rfl
  · cases hz : c m with
    | ok d m1 =>
      have e1 : lsM [c] m = .ok [d] m1 := by
        unfold lsM bnd
        rw [hz]
        rfl
      rw [e1] at q ⊢
      exact fun g1 H1 vs p1 t1 rel1 hv1 => by
        cases hv1 with
        | cons a r =>
          cases r
          exact ⟨_, _, g1, m1, rfl, at0.mono p1 t1 rel1, a, PostS.mono p1.v t1 q⟩
    | ex cc fs m1 =>
      have e1 : lsM [c] m = .ex cc fs m1 := by
        unfold lsM bnd
        rw [hz]
        rfl
      rw [e1] at q ⊢
      exact PostX.mono at0.le (TK.refl _) (q σ)
    | bad =>
      have e1 : lsM [c] m = .bad := by
        unfold lsM bnd
        rw [hz]
        rfl
      rw [e1] at q
      exact q.elim
  · obtain ⟨vs, H1, I1, vals, v, d, g1, m1, rfl, at1, hv, q1⟩ := q1
    obtain ⟨hpd, L, m', hf, hL, q2⟩ := genS_in q1
    obtain ⟨hpur, rfl⟩ := forPL_in q2
    cases vals with
    | cons rv r0 =>
    cases r0
    refine ⟨I1.kIn, ?_⟩
    have I2 := Inv.clean s1.heap.objs.size hX I1
    refine thn (call_made hc hgn mgx hr cl I2 rv) fun w s2 ⟨G, j, hw, hK, hP, ⟨N', qual', scope', f', cd', hG⟩, made⟩ => ?_
    subst hw
    suffices key : ∀ n0 a o (G' : Gn), G' = mkG X N' qual' scope' f' cd' n0 a o (tpH (clH s1.heap.objs.size H1)) → Made X pins σ (clH s1.heap.objs.size H1) C.cls f v G' j s2 → wpAny (model X.prog X.w) X.A (pyIter (.ref G'.a)) (fun it s₂ =>
      codeAny (model X.prog X.w) X.A (.forLoop tg it body [] X.env) (fun r s' => match r with | .ok f => SP X pins De f s' | .error e => cameBackBy (model X.prog X.w) X.A X.env X.xe e s') s₂) X.xe s2 from key _ _ _ G hG made
    clear made hG hK hP
    intro n0 a o G' hG made
    subst hG
    have tk1 : TK H1 (clH s1.heap.objs.size H1) := clH_tk at1.rel.ff
    have hs0 : g1.hs = [] := List.eq_nil_of_length_eq_zero at1.rel.len
    have lv : Lv0 g1 (fzG g1) := ⟨by rw [hs0]; exact List.nil_prefix, fun p h => h⟩
    have inC : ∀ p, p ∈ g1.fz → clH s1.heap.objs.size H1 p.1 = some p.2 ∧ isL false p.2 = true := fun p h => by
      have h1 := at1.rel.frz p.1 p.2 h
      have h2 : isL false p.2 = true := by
        have := at1.rel.lf p h
        rw [show (⟨X.K, C.cls⟩ : Cst).cls.dk = false from hC.2.2.1] at this
        exact this
      refine ⟨?_, h2⟩
      obtain ⟨pa, po⟩ := p
      cases po with
      | lst xs => exact clH_lst h1 (I1.hok _ _ h1).lt
      | _ => cases h2
    have atC : At ⟨X.K, C.cls⟩ C (oi s0) σ (clH s1.heap.objs.size H1) (fzG g1) [] := (at1.less h0).clean hC hpur (fun b u e => clH_tp e) (fun p h => h) (fun p h _ => (inC p h).1) (fun b o u e => at1.rel.ff b o u (clH_of e).1) hC.2.1
    have qC : PostS ⟨X.K, C.cls⟩ C oi ob (fzG g1) (clH s1.heap.objs.size H1) De (forPL oi b L s0 []) := PostS.mono lv tk1 q2
    obtain ⟨gs, hgs, hgo⟩ := made.go L d m' (rep_pure (fun _ _ e => e) (hv.mono (Lv0.refl _) tk1) hpd) hf hL
    refine wpAny_pyIter_gen (made.gen _ made.obj) ?_
    refine codeAny_forLoop_any (fun n s' => ∃ i, n = L.length - i ∧ LI X C pins oi ob De b L (mkG X N' qual' scope' f' cd' n0 a o (tpH (clH s1.heap.objs.size H1))) j (fzG g1) i s') (fun n s' li => ?_) L.length ⟨0, rfl, s0, σ, _, Nat.zero_le _, qC, atC, fun b u h => ?_, fun b u h => (tpH_of h).1, fun b o u h => made.hlt b _ h, made.inv, made.obj, made.sz, gs, hgs, hgo⟩
    · exact turn_gen (gC := fzG g1) (n0 := n0) hX hC hc (by have := hr.dp; omega) hp made.con made.ok made.gen hL hg hb (fun p h => ⟨made.hlt _ _ (inC p h).1, (inC p h).2⟩) rfl li
    · rcases clH_kd b u h with q | q | ⟨_, q⟩
      · exact .inl q
      · exact .inr (.inl q)
      · exact .inr (.inr ⟨made.hlt b u h, q⟩)
theorem s_forP {rest : List Stmt} {tg e : Expr} {body : List Stmt} {is : List Nat} {P : Pt} {f : D → M (Fl (List D) Empty)} {c : M D} {s0 : A'} {b : D → A' → M (Fl A' A')} {fr : A' → M (Fl A B)} {x : Str} {p pos pos' : Pos} (hX : tpH X.H_0 = X.H_0) (hC : C.gB = G0 ∧ C.cls.T = [] ∧ C.cls.dk = false ∧ C.H0 = H00) (hc : X.calm = true) (hp : PassesOwn (model X.prog X.w) X.A X.env X.xe) (oi : A' → List Sl) (hr : Room (k + 2) X.A) (cl : Clr gu X.A) (gl : Gl X x) (hgn : IsGn gu X.prog X.w X.K X.mg X.base C.cls k x f)
    (he : PEc X C ρ e c) (hg : PGc (Cx.no X) C.wf tg is P) (h0 : Sub (oi s0) ρ) (hb : ∀ x s, Bd1 P (oi s) x (b x s) fun ρ' t => PSsc (Cx.no X) C.wf ρ' body oi oi t) (hrest : ∀ s, PSsc X C (oi s) rest oa ob (fr s))
    (hdb : (x == ("__debug__" : Str)) = false := by decide) (hst : starEach [e] X.env = [(false, eval e X.env)] := by rfl) (hfs : ∀ v, foldedSetIterable (.Call (.Name x p) [e] [] pos') X.env v = pure v := by intro _; rfl) :
    PSsc X C ρ (.For tg (.Call (.Name x p) [e] [] pos') body [] pos :: rest) oa ob (seq (forP oi (gen1I f c) s0 b) fr) := s_seq (forP_ok hX hC hc hp hr cl gl hgn he hg h0 hb hdb hst hfs) hrest
end
end G

set_option Elab.async false
set_option linter.all false
set_option maxRecDepth 100000
set_option maxHeartbeats 1000000
namespace G
open PySem L2 PyProof.Rows GenW
def noCell : NameKind → Bool
  | .cell => false
  | .free => false
  | _ => true
theorem nocell {ns : List (Str × NameKind)} (h : ns.all (fun p => noCell p.2) = true) : ∀ y, ns.lookup y ≠ some .cell ∧ ns.lookup y ≠ some .free := fun y => by
  refine ⟨fun e => ?_, fun e => ?_⟩
  · have := List.all_eq_true.1 h _ (lookup_mem e)
    cases this
  · have := List.all_eq_true.1 h _ (lookup_mem e)
    cases this
section
variable {P : Program} {w : World} {K : PySem.W.Frag} {mg : Str → Option Value} {base : Heap} {cls : Cl} {k n : Nat}
/-- the walk of a pure def's body -/
abbrev Wkp (gu : Bool) (P : Program) (w : World) (K : PySem.W.Frag) (mg : Str → Option Value) (base : Heap) (cls : Cl) (k : Nat) (N : List Str) (qual : Str) (st : Stmt) (f : Addr) (ρ : List Sl) (bd : M (Fl Unit Empty)) : Prop :=
  ∀ (cdv : Value) (A : Around) (outer : List Env) (s : Shared) (H : Hp) (E : XK), tpH H = H → Room k (A.deeper (envOfC qual (defScope st) s.heap.objs.size f cdv)) → Clr gu A →
    PSsc (cxOf (L2.CX P w) P w K mg base N qual (defScope st) f cdv A outer s H E) ⟨cls.noT, fun c d _ H' => E c d H', G0, H00⟩ ρ (defBody st) (unA N.length) noB bd
variable {x qual : Str} {st : Stmt} {f : Addr} {fd : FuncData} {N : List Str} {p1 p2 : Str}
theorem pc_bad {u : List D → M D} {ds : List D} (h : u ds = bad) : pcM u ds = bad := by
  funext m
  unfold pcM
  split
  · rw [h]
    rfl
  · rfl
def pc1 (b : D → M (Fl Unit Empty)) (a : D) : M D := pcM (fs1 fun a => fnM (b a)) [a]
theorem fnp_1 {t : D → M D} {b : D → M (Fl Unit Empty)} (F : Fun K x qual st f fd) (S : FnScope N [p1] (defScope st)) (ht : ∀ a, t a = pc1 b a) (wk : ∀ a, Wkp gu P w K mg base cls k N qual st f (.val a :: uns N 1) (b a)) : FnG gu P w K mg base (L2.CX P w) (k + 1) f fd [p1] (spM ⟨K, cls⟩ (fs1 t)) := by
  have e : fs1 t = pcM (fs1 fun a => fnM (b a)) := by
    funext ds
    rcases ds with _ | ⟨a, _ | ⟨b, ds⟩⟩
    · exact (pc_bad rfl).symm
    · exact ht a
    · exact (pc_bad rfl).symm
  rw [e]
  exact pure_call (fnp_core F S (fun ds h => by rcases ds with _ | ⟨a, _ | ⟨b, ds⟩⟩ <;> first | rfl | exact absurd rfl h) fun ds h => match ds, h with
    | [a], _ => ⟨b a, rfl, wk a⟩)
end
end G

set_option Elab.async false
set_option linter.all false
set_option maxRecDepth 100000
namespace G
open PySem L2 PySem.Spec PyProof.Rows
/-! ### chains as tests, stars, ranges as lists and tuples, ranges downward, sorted lists -/
def starM (t : M D) (u : M (List D)) : M (List D) := bnd t fun x => bnd (ask (itemsOf x)) fun xs => bnd u fun ys => ret (xs ++ ys)
def consM (t : M D) (u : M (List D)) : M (List D) := bnd t fun x => bnd u fun ys => ret (x :: ys)
def rngOk (i j : Int) : Prop := -(2 ^ 62) ≤ i ∧ i < 2 ^ 62 ∧ -(2 ^ 62) ≤ j ∧ j < 2 ^ 62 ∧ (j - i).toNat ≤ 16777216
instance {i j : Int} : Decidable (rngOk i j) := inferInstanceAs (Decidable (_ ∧ _))
def rlS (f : List D → D) : D → D → M D
  | .int i, .int j => if rngOk i j then ret (f (rngL i (j - i).toNat)) else bad
  | _, _ => bad
def rl2M (f : List D → D) (t u : M D) : M D := bnd t fun x => bnd u fun y => rlS f x y
def rl1M (f : List D → D) (t : M D) : M D := bnd t fun x => rlS f (.int 0) x
def dnL (lo : Int) (n : Nat) : List D := (List.range n).map fun k => .int (lo - (k : Nat))
def dn3S : D → D → D → M Its
  | .int i, .int j, .int k => if k = -1 ∧ -(2 ^ 62) ≤ i ∧ i < 2 ^ 62 ∧ -(2 ^ 62) ≤ j ∧ j < 2 ^ 62 then ret (dnL i (i - j).toNat, []) else bad
  | _, _, _ => bad
def dn3I (t u w : M D) : M Its := bnd t fun x => bnd u fun y => bnd w fun z => dn3S x y z
section
variable {X : Cx} {C : Cc} {ρ : List Sl}
end
end G

set_option Elab.async false
set_option linter.all false
set_option maxRecDepth 100000
set_option maxHeartbeats 4000000
namespace G
open PySem L2 PySem.Spec PyProof.Rows
def mulTS : D → D → M D
  | .tup xs, .int k => if xs ≠ [] ∧ 0 ≤ k ∧ k ≤ 1000 ∧ xs.length ≤ 1000 then ret (.tup (List.replicate k.toNat xs).flatten) else bad
  | _, _ => bad
def mulTM (a b : M D) : M D := bnd a fun x => bnd b fun y => mulTS x y
section
variable {X : Cx}
variable {C : Cc} {ρ : List Sl} {cls : Cl}
end
end G

set_option Elab.async false
set_option linter.all false
set_option maxRecDepth 100000
set_option maxHeartbeats 1000000
namespace L2
open PySem PySem.Spec PyProof.Rows PySem.W
/-- behind k turns -/
structure ZAt (z TI TO i1 i2 a b : Addr) (xs ys : Array Value) (B : Nat) (h : Heap) (k : Nat) : Prop where
  out : (k = 0 ∧ IsZip h z TI TO .none ∧ ∃ x y, IsPair h TO x y) ∨ ∃ T f o, B ≤ T ∧ IsZipHeld h z TI TO T f ∧ h.get? T = some o
  ti : IsPair h TI (.ref i1) (.ref i2)
  h1 : h.IsListIter i1 a k
  h2 : h.IsListIter i2 b k
  l1 : h.IsList a xs
  l2 : h.IsList b ys
structure ZLow (z TI TO i1 i2 a b S B : Nat) : Prop where
  z : z < B
  TI : TI < B
  TO : TO < B
  i1 : i1 < B
  i2 : i2 < B
  a : a < B
  b : b < B
  S : S < B
structure ZNe (z TI TO i1 i2 a b S : Nat) : Prop where
  z : S ≠ z
  TI : S ≠ TI
  TO : S ≠ TO
  i1 : S ≠ i1
  i2 : S ≠ i2
  a : S ≠ a
  b : S ≠ b
/-- the tuples that are out -/
structure ZOut (xs ys : Array Value) (B : Nat) (h : Heap) (ts : List Addr) : Prop where
  ge : ∀ t, t ∈ ts → B ≤ t ∧ t < h.objs.size
  nd : ts.Nodup
  at' : ∀ (j : Nat) t, ts[j]? = some t → ∃ x y, xs[j]? = some x ∧ ys[j]? = some y ∧ IsPair h t x y
theorem ZOut.nil {xs ys : Array Value} {B : Nat} {h : Heap} : ZOut xs ys B h [] := ⟨fun t ht => absurd ht (by simp), List.nodup_nil, fun j t hj => absurd hj (by simp)⟩
theorem ZAt.upd {z TI TO i1 i2 a b S B k : Nat} {xs ys : Array Value} {h h' : Heap} (L : ZLow z TI TO i1 i2 a b S B) (N : ZNe z TI TO i1 i2 a b S) (st : ZAt z TI TO i1 i2 a b xs ys B h k) (kp : ∀ c o, c ≠ S → h.get? c = some o → h'.get? c = some o) : ZAt z TI TO i1 i2 a b xs ys B h' k := by
  obtain ⟨out, ti, h1, h2, l1, l2⟩ := st
  refine ⟨?_, kp _ _ N.TI.symm ti, h1.at fun o q => kp _ o N.i1.symm q, h2.at fun o q => kp _ o N.i2.symm q, l1.at fun o q => kp _ o N.a.symm q, l2.at fun o q => kp _ o N.b.symm q⟩
  rcases out with ⟨e, hz, x, y, hp⟩ | ⟨T, f, o, hB, hz, hT⟩
  · exact .inl ⟨e, kp _ _ N.z.symm hz, x, y, kp _ _ N.TO.symm hp⟩
  · exact .inr ⟨T, f, o, hB, kp _ _ N.z.symm hz, kp _ _ (fun e => by have := L.S; omega) hT⟩
section
variable {prog : Program} {w : World} {A : Around} {E : Value → Shared → Prop}
end
end L2

namespace L2
open PySem PySem.Spec PyProof.Rows PySem.W
section
variable {X : Cx} {pins : List (Addr × Obj)} {σ : L2.St} {H : Hp} {s : Shared}
/-- all kept, new objects tracked -/
theorem Inv.grow {H' : Hp} {h' : Heap} {t' : Nat} (I : Inv X pins σ H s) (k : ∀ b u, s.heap.get? b = some u → h'.get? b = some u) (e : ∀ b, b < s.heap.objs.size → H' b = H b) (n : ∀ b o, s.heap.objs.size ≤ b → H' b = some o → ObjOk X.prog X.w H' h' b o) :
    Inv X pins σ H' { s with heap := h', toks := t' } := by
  have hx : ∀ b o, H b = some o → b < s.heap.objs.size := fun b o q => I.hok.lt q
  refine I.un ⟨fun b u q _ _ _ => k b u q, fun b u q _ _ _ => ⟨u.slots, k b u q⟩, fun b u q z _ => ?_, fun b u q _ => ⟨u, k b u q⟩, fun b xs q => ?_, fun b u xs q => ?_, fun b ps q => ⟨#[], ?_⟩⟩ fun b u q => ?_
  · rw [e b (Heap.lt_size q)]; exact z
  · rw [e b (hx _ _ q)]; exact q
  · rw [e b (hx _ _ q)]; exact q
  · rw [e b (hx _ _ q), q]; simp
  · rcases Nat.lt_or_ge b s.heap.objs.size with hb | hb
    · have q2 := q
      rw [e b hb] at q2
      exact (I.hok b u q2).stay (fun c v _ z => k c v z) (fun c z => by rw [e c (hx _ _ z)]; exact z) fun c xs z => by rw [e c (hx _ _ z)]; exact z
    · exact n b u hb q
end
/-- pairs laid one behind the other -/
inductive LayP : Hp → List (V × V) → List Addr → Hp → Prop
  | nil {H : Hp} : LayP H [] [] H
  | cons {H H' : Hp} {x y : V} {ps : List (V × V)} {t : Addr} {ts : List Addr} : H t = none → LayP (upd H t (.tup [x, y])) ps ts H' → LayP H ((x, y) :: ps) (t :: ts) H'
section
variable {X : Cx} {e : Expr} {te : L2.St → Hp → (List V → List V → Hp → Prop) → Prop}
end
end L2

set_option Elab.async false
set_option linter.all false
set_option maxRecDepth 100000
namespace G
open PySem L2 PySem.Spec PyProof.Rows
/-! ### tuple(zip(..)), list(zip(..)) -/
def zpL (xs ys : List D) : List D := List.zipWith (fun a b => .tup [a, b]) xs ys
def zpS (f : List D → D) (x y : D) : M D := bnd (ask (lstOf x)) fun xs => bnd (ask (lstOf y)) fun ys => ret (f (zpL xs ys))
def zpM (f : List D → D) (t u : M D) : M D := bnd t fun x => bnd u fun y => zpS f x y
section
variable {X : Cx} {C : Cc} {ρ : List Sl}
end
end G

set_option Elab.async false
set_option linter.all false
set_option maxRecDepth 100000
namespace L2
theorem Room.units2 {k : Nat} {A : PySem.Around} (r : Room k A) : A.units + 65 < PySem.cLine := by
  have h1 := r.units
  have h2 := r.un
  omega
end L2
namespace G
open PySem L2 PySem.Spec PyProof.Rows
/-! ### x in l, x not in l of data of any depth -/
def inD (x y : D) (m : Hs) : Option Bool := match pyD m deepest x, pyD m deepest y with
  | some d, some (.list ds) => some (ds.any fun z => PyData.eqv z d)
  | _, _ => none
def inDS (x y : D) : M D := bnd (ask (inD x y)) fun b => ret (.bl b)
def niDS (x y : D) : M D := bnd (ask (inD x y)) fun b => ret (.bl (!b))
def inDM (a b : M D) : M D := bnd a fun x => bnd b fun y => inDS x y
def niDM (a b : M D) : M D := bnd a fun x => bnd b fun y => niDS x y
section
variable {X : Cx} {C : Cc} {ρ : List Sl} {cls : Cl}
theorem inD_ok {g : Gh} {H : Hp} {m : Hs} {vx vy : V} {x y : D} {b : Bool} (rel : Rel ⟨X.K, cls⟩ g m H) (hx : Rep X.K g H vx x) (hy : Rep X.K g H vy y) (h : inD x y m = some b) : ∃ d ds, Dp X.K H vx d ∧ Dp X.K H vy (.list ds) ∧ SeqAt.shaped d = true ∧ SeqAt.shaped (.list ds) = true ∧ (ds.any fun z => PyData.eqv z d) = b := by
  unfold inD at h
  split at h
  · rename_i h1 h2
    cases h
    exact ⟨_, _, pyD_dp rel _ _ _ _ h1 hx, pyD_dp rel _ _ _ _ h2 hy, shaped_of h1, shaped_of h2, rfl⟩
  · cases h
theorem sv_niD : Serves X cls (rNotInD X.K) niDS := by
  intro W σ g H m vx vy x y Q rel hx hy q
  obtain ⟨b, hb, q⟩ := Post.ask q
  obtain ⟨d, ds, h1, h2, h3, h4, h5⟩ := inD_ok rel hx hy hb
  exact ⟨d, ds, h1, h2, h3, h4, by rw [h5]; exact q.ret rel (.bl _)⟩
theorem bl_of {f : D → D → M D} (hf : ∀ x y m z m', f x y m = .ok z m' → ∃ b, z = .bl b) {a b : M D} (m : Hs) (z : D) (m' : Hs) (h : bnd a (fun x => bnd b fun y => f x y) m = .ok z m') : ∃ b, z = .bl b := by
  unfold bnd at h
  cases h1 : a m with
  | ok x m1 =>
    rw [h1, bind_ok] at h
    replace h : (b m1).bind (fun y m2 => f x y m2) = .ok z m' := h
    cases h2 : b m1 with
    | ok y m2 =>
      rw [h2, bind_ok] at h
      exact hf x y m2 z m' h
    | ex c fs m2 => rw [h2] at h; cases h
    | bad => rw [h2] at h; cases h
  | ex c fs m1 => rw [h1] at h; cases h
  | bad => rw [h1] at h; cases h
theorem niDS_bl (x y : D) (m : Hs) (z : D) (m' : Hs) (h : niDS x y m = .ok z m') : ∃ b, z = .bl b := by
  unfold niDS bnd ask at h
  cases hz : inD x y m with
  | none => rw [hz] at h; cases h
  | some y => rw [hz] at h; cases h; exact ⟨_, rfl⟩
theorem p_niD {e1 e2 : Expr} {a b : M D} {pos : Pos} (hu : X.A.units + 65 < cLine) (hm : behindInMarks .NotIn e2 = false) (ha : PEc X C ρ e1 a) (hb : PEc X C ρ e2 b) : PTc X C ρ (.Compare e1 [.NotIn] [e2] pos) (niDM a b) :=
  p_bl (op_notInD hu) ha hb hm (fun m x m' z => bl_of niDS_bl m x m' z) fun σ H Q q => two sv_niD q
end
end G

set_option Elab.async false
set_option linter.all false
set_option maxRecDepth 100000
namespace G
open PySem L2 PySem.Spec PyProof.Rows
/-! ### is True, is not True -/
def isBS : D → D → M D
  | .bl a, .bl b => ret (.bl (decide (a = b)))
  | _, _ => bad
def nsBS : D → D → M D
  | .bl a, .bl b => ret (.bl (!decide (a = b)))
  | _, _ => bad
def isBM (a b : M D) : M D := bnd a fun x => bnd b fun y => isBS x y
def nsBM (a b : M D) : M D := bnd a fun x => bnd b fun y => nsBS x y
section
variable {X : Cx} {C : Cc} {ρ : List Sl} {cls : Cl}
end
end G

set_option Elab.async false
set_option linter.all false
set_option maxRecDepth 100000
namespace G
open PySem L2 PySem.Spec PyProof.Rows
section
variable {X : Cx} {C : Cc} {ρ : List Sl}
theorem Post.put {α A : Type} {Γ : Cst} {W : WX} {rep : Gh → Hp → A → α → Prop} {σ : L2.St} {g : Gh} {H : Hp} {m : Hs} {Q : A → Hp → Prop} {f : Hs → Option Hs} {h : M α} (q : Post Γ W rep σ g H Q (bnd (put f) (fun _ => h) m)) : ∃ m', f m = some m' ∧ Post Γ W rep σ g H Q (h m') := by
  unfold bnd G.put at q
  cases hz : f m with
  | none => rw [hz] at q; exact q.elim
  | some x => rw [hz] at q; exact ⟨x, rfl, q⟩
/-- name = a + b, two lists, the new one one's own -/
def catO (a b : M D) : M (List D) := bnd a fun x => bnd b fun y => bnd (ask (lstOf x)) fun xs => bnd (ask (lstOf y)) fun ys => if xs.length + ys.length ≤ sizeLine then ret (xs ++ ys) else bad
end
end G

set_option Elab.async false
set_option linter.all false
set_option maxRecDepth 100000
namespace G
open PySem L2
/-- a pattern within a pattern that is not its last: the names behind it -/
theorem bd_end {β : Type} {ρ : List Sl} {ds : List D} {t : M β} {T : List Sl → M β → Prop} (h : T ρ t) : BdL [] ρ ds t T := h
end G

set_option Elab.async false
set_option linter.all false
set_option maxRecDepth 100000
set_option maxHeartbeats 1000000
namespace G
open PySem L2 PySem.Spec PyProof.Rows
/-! ### def f( *v): the arguments are one tuple -/
def starF (t : D → M D) : List D → M D := fun ds => if ds.length ≤ sizeLine then t (.tup ds) else bad
/-- the module's name x is such a def -/
def IsSt (P : Program) (w : World) (K : PySem.W.Frag) (mg : Str → Option Value) (base : Heap) (cls : Cl) (k : Nat) (x : Str) (f : List D → M D) : Prop :=
  ∃ a : Addr, mg x = some (.ref a) ∧ PySem.W.keepIn K (.ref a) = true ∧ FnR P w K mg base (L2.CX P w) k a (spM ⟨K, cls⟩ f)
section
variable {P : Program} {w : World} {K : PySem.W.Frag} {mg : Str → Option Value} {base : Heap} {cls : Cl} {k : Nat}
theorem fnS_1 {x qual : Str} {st : Stmt} {f : Addr} {fd : FuncData} {N : List Str} {pv : Str} {t : D → M D} {b : D → M (Fl Unit Empty)} (F : Fun K x qual st f fd) (S : FnScope N [pv] (defScope st))
    (hb : ∀ rest, bindArgs fd ⟨rest, []⟩ = (newTuple rest >>= fun tp => pure [(pv, tp)])) (ht : ∀ a, t a = fnM (b a)) (wk : ∀ a, Wk false P w K mg base cls k N qual st f (.val a :: uns N 1) (b a)) :
    FnR P w K mg base (L2.CX P w) (k + 1) f (spM ⟨K, cls⟩ (starF t)) := by
  obtain ⟨oc, od, kV, doc, pm, an, cdv, ct, osl, rfl, lk, hcd⟩ := F.ex
  refine FnR.imp (StX.fn_star (ps := []) (pv := pv) (N := N) (sp := spM ⟨K, cls⟩ (fs1 t)) lk hcd S StX.cxUp (fun us rest hl => ?_) (fun A outer s H vs Q E hr h => ?_)) fun vs H Q E h => ?_
  · obtain rfl : us = [] := List.length_eq_zero_iff.1 hl
    exact hb rest
  · obtain ⟨g, m, ds, rel, rv, q⟩ := h
    rcases ds with _ | ⟨d, _ | ⟨d2, ds⟩⟩
    · exact q.elim
    · refine ⟨_, wk d cdv A outer s H E g hr (fun h => by cases h), g, m, ⟨Le.refl g, rel, ?_, TW.refl _⟩, ?_⟩
      · unfold L2.start
        rw [rv.length]
        exact relS_start rv _
      · have q : Post ⟨K, cls⟩ (fun c d _ H' => E c d H') (rD ⟨K, cls⟩) [] g H Q (t d m) := q
        rw [ht] at q
        unfold fnM bnd at q
        cases hz : b d m with
        | ok o m1 =>
          rw [hz, bind_ok] at q
          cases o with
          | rt d => exact fun g' H' v l p t rel' hv => q g' H' v l t rel' hv
          | nx a => exact fun g' H' σ' p t at' => q g' H' .non at'.le t at'.rel .non
          | bk b => exact nomatch b
          | ct b => exact nomatch b
        | ex c fs m1 => rw [hz] at q; exact fun σ => q
        | bad => rw [hz] at q; exact q
    · exact q.elim
  · obtain ⟨g, m, ds, rel, rv, q⟩ := h
    unfold starF at q
    by_cases hz : ds.length ≤ sizeLine
    · rw [if_pos hz] at q
      refine ⟨[], vs, rfl, rfl, by rw [rv.length]; exact hz, fun p hp => ⟨g, m, [.tup ds], rel.laid hp, .cons (.tup (SqT.of upd_same) (rv.mono (Lv0.refl g) (TK.new hp))) .nil, Post.mono (Le.refl g) (TK.new hp) q⟩⟩
    · rw [if_neg hz] at q
      exact q.elim
end
theorem star_mk {K : PySem.W.Frag} {x qual : Str} {st : Stmt} {f : Addr} {fd : FuncData} {pv : Str} (F : Fun K x qual st f fd)
    (h0 : ∀ (kV doc pm : Value) (an : Option Addr) (cdv ct : Value), bindArgs (PySem.W.fnOf x qual (defArgs st) (defBody st) (defScope st) .none kV doc pm an cdv ct) ⟨[], []⟩ = (newTuple [] >>= fun tp => pure [(pv, tp)]))
    (h1 : ∀ (kV doc pm : Value) (an : Option Addr) (cdv ct r : Value) (rs : List Value), bindArgs (PySem.W.fnOf x qual (defArgs st) (defBody st) (defScope st) .none kV doc pm an cdv ct) ⟨r :: rs, []⟩ = (newTuple (r :: rs) >>= fun tp => pure [(pv, tp)])) :
    ∀ rest, bindArgs fd ⟨rest, []⟩ = (newTuple rest >>= fun tp => pure [(pv, tp)]) := by
  obtain ⟨oc, od, kV, doc, pm, an, cdv, ct, osl, rfl, lk, hcd⟩ := F.ex
  intro rest
  cases rest with
  | nil => exact h0 kV doc pm an cdv ct
  | cons r rs => exact h1 kV doc pm an cdv ct r rs
section
variable {X : Cx} {C : Cc} {ρ : List Sl} {k : Nat} {sp : Sp} {f : Addr} {E0 : L2.St → XK}
theorem runR {CX : CXT} {pn : List (Addr × Obj)} {σ : L2.St} {H0 : Hp} {t0 : Shared} {R : VK} {ws : List Value} {xs : List V} (F : FnR X.prog X.w X.K X.mg X.base CX k f sp) (rm : Room k X.A) (ps' : PassesAt CX X σ (E0 σ))
    (I : Inv X pn σ H0 t0) (vals : Vals xs ws) (hs : sp xs H0 R (E0 σ)) : wpAny (model X.prog X.w) X.A (call (.ref f) ws) (EP X pn σ R) X.xe t0 := by
  have run := F X.A X.stack t0 H0 ws xs R (E0 σ) rm I.env0 vals hs
  refine wpAny_call (codeAny_mono run fun res t1 hz => ?_)
  match res, hz with
  | .error e, hz => exact ps' pn H0 t0 e t1 I hz
  | .ok (.ret u), hz => exact I.after hz
  | .ok .next, hz => exact hz.elim
  | .ok .brk, hz => exact hz.elim
  | .ok .cont, hz => exact hz.elim
theorem c_callS {x : Str} {f : List D → M D} {e : Expr} {es : List Expr} {cs : M (List D)} {p pos : Pos} (h : IsSt X.prog X.w X.K X.mg X.base C.cls k x f) (hr : Room k X.A) (tk : Takes X C.W) (hg : Gl X x) (ha : PAc X C ρ (e :: es) cs)
    (hdb : (x == ("__debug__" : Str)) = false := by decide) (he : starEach (e :: es) X.env = (false, eval e X.env) :: starEach es X.env := by rfl) (hpl : (backTo pos (starEach es X.env)).any (·.1) = false := by rfl) : PEc X C ρ (.Call (.Name x p) (e :: es) [] pos) (calM f cs) := by
  obtain ⟨a, h1, h2, F⟩ := h
  refine ⟨fun pn t0 σ H0 R I hq => wpAny_Call_Name_kw (ld_glob I hg h1 ?_ hdb)⟩
  have hq' : (PAc X C ρ (e :: es) cs) := ha
  refine PySem.W.callWith_K (h₀ := X.base) I.ok.mod.kin h2 (thn (ha.run pos pn t0 σ H0 (fun vs H1 => spM ⟨X.K, C.cls⟩ f vs H1 R (WE C.W σ)) I ?_) ?_) he hpl
  · refine tG.bind hq fun g1 H1 m1 v1 x1 at1 hv1 q1 => ?_
    exact ⟨g1, m1, x1, at1.rel, hv1, q1.wish⟩
  · rintro ws t1 ⟨xs, H1, I1, vals, q⟩
    exact ⟨I1.kIn, runR (E0 := fun σ => WE C.W σ) F hr (passAt tk σ) I1 vals q⟩
end
end G

set_option Elab.async false
set_option linter.all false
set_option maxRecDepth 100000
set_option maxHeartbeats 1000000
namespace G
open PySem L2 PySem.Spec PyProof.Rows
/-! ### patterns of 5; len(set(x)) of a list of ints -/
def un5 {β : Type} (x : D) (k : D → D → D → D → D → M β) : M β := match x with
  | .tup [a, b, c, d, e] => k a b c d e
  | _ => bad
section
variable {ρ : List Sl}
theorem bd_5 {β : Type} {P1 P2 P3 P4 P5 : Pt} {d : D} {k : D → D → D → D → D → M β} {T : List Sl → M β → Prop} (h : ∀ a b c e f, BdL [P1, P2, P3, P4, P5] ρ [a, b, c, e, f] (k a b c e f) T) : Bd1 (pTp [P1, P2, P3, P4, P5]) ρ d (un5 d k) T := by
  unfold un5
  split
  · exact (h _ _ _ _ _).ok rfl
  · exact .inl rfl
end
section
variable {X : Cx} {cls : Cl}
end
end G

set_option Elab.async false
set_option linter.all false
set_option maxRecDepth 100000
set_option maxHeartbeats 2000000
/-! x[::-1] of a tuple or list; {k: v, l: w}[name] -/
namespace HT
open PySem PyProof.Rows
section
variable {prog : Program} {w : World} {A : Around} {E : Value → Shared → Prop} {s : Shared}
end
end HT
namespace G
open PySem L2 PySem.Spec PyProof.Rows
section
variable {X : Cx} {C : Cc} {ρ : List Sl}
theorem RepL.reverse {K : PySem.W.Frag} {g : Gh} {H : Hp} : ∀ {xs : List V} {ds : List D}, RepL K g H xs ds → RepL K g H xs.reverse ds.reverse
  | _, _, .nil => .nil
  | _, _, .cons h t => by
    rw [List.reverse_cons, List.reverse_cons]
    exact (RepL.reverse t).append (.cons h .nil)
end
end G

set_option Elab.async false
set_option linter.all false
set_option maxRecDepth 100000
set_option maxHeartbeats 1000000
namespace G
open PySem L2 PySem.Spec PyProof.Rows
/-! ### def f( *v, k): called with k by its name -/
def FnRK (P : Program) (w : World) (K : PySem.W.Frag) (mg : Str → Option Value) (base : Heap) (CX : CXT) (k : Nat) (f : Addr) (kw : Str) (sp : Sp) : Prop :=
  ∀ (A : Around) (outer : List Env) (s : Shared) (H : Hp) (us : List Value) (u : Value) (vs : List V) (v : V) (Q : VK) (E : XK), Room k A → Env0 P w K mg base A outer s H → Vals vs us → RelV v u → sp (v :: vs) H Q E →
    codeAny (model P w) A (.call (.ref f) ⟨us, [(kw, u)]⟩) (CR CX outer P w H s Q E) s
section
variable {P : Program} {w : World} {K : PySem.W.Frag} {mg : Str → Option Value} {base : Heap} {cls : Cl} {k : Nat}
end
theorem FnRK.mono {P : Program} {w : World} {K : PySem.W.Frag} {mg : Str → Option Value} {base : Heap} {CX : CXT} {j k : Nat} {f : Addr} {kw : Str} {sp : Sp} (F : FnRK P w K mg base CX j f kw sp) (h : j ≤ k) : FnRK P w K mg base CX k f kw sp := fun A outer s H us u vs v Q E hr => F A outer s H us u vs v Q E (hr.mono h)
section
variable {X : Cx} {C : Cc} {ρ : List Sl} {k : Nat} {sp : Sp} {f : Addr} {E0 : L2.St → XK}
end
end G

set_option Elab.async false
set_option linter.all false
set_option maxRecDepth 100000
set_option maxHeartbeats 2000000
/-! own exceptions over an own exception class over ValueError: made and raised -/
namespace G
open PySem L2 PySem.Spec PyProof.Rows
/-- what the base class G says of its __init__ -/
structure GrC (K : PySem.W.Frag) (B : Addr) : Prop where
  rd : PySem.W.readsIn K B (.type "type") = true
  ga : PySem.W.specialIn K (.ref B) "__getattribute__" = some (some (.builtin "type.__getattribute__"))
  at_ : PySem.W.findCls K (.ref B) (.type "type") "__init__" = some (.val (.builtin "ValueError.__init__"))
section
variable {X : Cx} {o e : Expr} {es : List Expr} {to te : TE} {ta : TA} {f : Str} {p p' p1 p2 pos : Pos}
end
section
variable {P : Program} {w : World} {K : PySem.W.Frag} {mg : Str → Option Value} {base : Heap} {k : Nat}
end
section
variable {X : Cx} {C : Cc} {ρ : List Sl} {k : Nat} {A B : Type} {oa : A → List Sl} {ob : B → List Sl}
theorem RepF.append {K : PySem.W.Frag} {g : Gh} {H : Hp} {ys : List (Str × V)} {es : List (Str × D)} : ∀ {xs : List (Str × V)} {ds : List (Str × D)}, RepF K g H xs ds → RepF K g H ys es → RepF K g H (xs ++ ys) (ds ++ es)
  | _, _, .nil, h => h
  | _, _, .cons h t, h2 => .cons h (RepF.append t h2)
theorem RepF.reverse {K : PySem.W.Frag} {g : Gh} {H : Hp} : ∀ {xs : List (Str × V)} {ds : List (Str × D)}, RepF K g H xs ds → RepF K g H xs.reverse ds.reverse
  | _, _, .nil => .nil
  | _, _, .cons h t => by
    rw [List.reverse_cons, List.reverse_cons]
    exact RepF.append (RepF.reverse t) (.cons h .nil)
end
end G

set_option Elab.async false
set_option linter.all false
set_option maxRecDepth 100000
set_option maxHeartbeats 2000000
/-! lambdas without parameters, handed to a def that calls them -/
namespace G
open PySem L2 PySem.Spec PyProof.Rows
section
variable {Γ : Cst} {g : Gh} {m : Hs} {H : Hp} {P c : Addr} {ps qs : Array Value} {q : Str}
end
/-! ### the lambda is made -/
section
variable {X : Cx} {pins : List (Addr × Obj)} {σ : L2.St} {H : Hp} {s : Shared}
end
end G

set_option Elab.async false
set_option linter.all false
set_option maxRecDepth 100000
set_option maxHeartbeats 2000000
/-! a def whose one parameter is a lambda, called with it -/
namespace G
open PySem L2 PySem.Spec PyProof.Rows
section
variable {X : Cx} {pins : List (Addr × Obj)} {σ : L2.St} {H : Hp} {s : Shared}
end
section
variable {K : PySem.W.Frag} {g g' : Gh} {H H' : Hp}
mutual
theorem Rep.moveW (p : Lv0 g g') (t : TW H H') : ∀ {v : V} {d : D}, Rep K g H v d → Rep K g' H' v d
  | _, _, .non => .non
  | _, _, .bl b => .bl b
  | _, _, .int i => .int i
  | _, _, .str x => .str x
  | _, _, .kt h r => .kt (t.tup _ _ h) (RepL.moveW p t r)
  | _, _, .tup h r => .tup (by
      rcases h with (h | ⟨o, h⟩) | h
      · exact .inl (.inl (t.tup _ _ h))
      · exact .inl (.inr ⟨o, t.frz _ _ _ h⟩)
      · exact .inr h) (RepL.moveW p t r)
  | _, _, .fl h r => .fl (p.fz _ h) (RepL.moveW p t r)
  | _, _, .sc h r => .sc (by
      rcases h with ⟨o, h⟩ | h
      · exact .inl ⟨o, t.frz _ _ _ h⟩
      · exact .inr h) (RepL.moveW p t r)
  | _, _, .fd h r => .fd (p.fz _ h) (RepL.moveW p t r)
  | _, _, .ref h => .ref (pre_get p.hs h)
theorem RepL.moveW (p : Lv0 g g') (t : TW H H') : ∀ {vs : List V} {ds : List D}, RepL K g H vs ds → RepL K g' H' vs ds
  | _, _, .nil => .nil
  | _, _, .cons r s => .cons (Rep.moveW p t r) (RepL.moveW p t s)
end
end
theorem RelS.at {Γ : Cst} {gB g g' : Gh} {H H' : Hp} {ρ : List Sl} {σ : L2.St} (h : RelS Γ gB g H ρ σ) (p : Le g g') (t : TW H H') : RelS Γ gB g' H' ρ σ := by
  have up : ∀ {v : V} {d : D}, Rep Γ.K g H v d → Rep Γ.K g' H' v d := fun {v d} r => by
    refine Rep.moveW p.v t r
  exact ⟨h.len, fun i d e => by
    obtain ⟨v, h1, h2⟩ := h.val i d e
    exact ⟨v, h1, up h2⟩, fun i xs e => by
    obtain ⟨a, vs, h1, h2, h3, h4⟩ := h.own i xs e
    exact ⟨a, vs, h1, p.pv _ h2, RepL.moveW p.v t h3, h4⟩, h.inj, h.raw⟩
section
variable {X : Cx} {C : Cc} {ρ : List Sl} {k : Nat}
end
end G

set_option Elab.async false
set_option linter.all false
set_option maxRecDepth 100000
set_option maxHeartbeats 2000000
/-! defs in whose bodies lambdas are made; the law's call with tables of code objects -/
namespace G
open PySem L2 PySem.Spec PyProof.Rows
section
variable {P : Program} {w : World} {K : PySem.W.Frag} {mg : Str → Option Value} {base : Heap} {cls : Cl} {k n : Nat}
section
variable {x qual : Str} {st : Stmt} {f : Addr} {fd : FuncData} {N : List Str} {p1 p2 p3 p4 p5 : Str} {cd0 : Value}
end
end
/-! ### the law's call -/
def OnlyT (J : Hp) : Prop := ∀ b, J b = none ∨ (∃ o xs, J b = some (.frz o (.lst xs))) ∨ ∃ ps, J b = some (.tbl ps)
theorem only3 {J : Hp} (h : Only J) : OnlyT J := fun b => (h b).elim .inl fun z => .inr (.inl z)
end G

set_option Elab.async false
set_option linter.all false
set_option maxRecDepth 100000
set_option maxHeartbeats 2000000
/-! displays of dicts that nobody changes -/
namespace G
open PySem L2 PySem.Spec PyProof.Rows
section
variable {X : Cx} {C : Cc} {ρ : List Sl}
end
end G

set_option Elab.async false
set_option linter.all false
set_option maxRecDepth 100000
set_option maxHeartbeats 2000000
/-! repr of data with dicts -/
namespace G
open PySem L2 PySem.Spec PyProof.Rows
def isKt : List D → Bool
  | [.non] => true
  | _ => false
def pyQ (m : Hs) : Nat → D → Option PyData
  | _, .non => some .none
  | _, .bl b => some (.bool b)
  | _, .int i => some (.int i)
  | _, .str s => if PyData.strOk s then some (.str s) else none
  | 0, _ => none
  | n + 1, .tup xs => (mapO (pyQ m n) xs).map .tuple
  | n + 1, .fl xs => (mapO (pyQ m n) xs).map .list
  | _ + 1, .sc _ => none
  | n + 1, .fd ks vs => if isKt ks = true then none else match mapO (pyQ m n) ks, mapO (pyQ m n) vs with
    | some ps, some qs => some (.dict (ps.zip qs))
    | _, _ => none
  | n + 1, .ref k => match m[k]? with
    | some (.lst xs) => (mapO (pyQ m n) xs).map .list
    | _ => none
section
variable {X : Cx} {C : Cc} {ρ : List Sl} {cls : Cl}
end
end G

set_option Elab.async false
set_option linter.all false
set_option maxRecDepth 100000
set_option maxHeartbeats 2000000
/-! a tuple beside (); sums of whole numbers and bools; str of a number; defs that call themselves -/
namespace G
open PySem L2 PySem.Spec PyProof.Rows
section
variable {X : Cx} {C : Cc} {ρ : List Sl} {cls : Cl}
end
end G

set_option Elab.async false
set_option linter.all false
set_option maxRecDepth 100000
set_option maxHeartbeats 2000000
/-! a dict with a handle, its keys tuples of whole numbers and texts: {}, d[k], k in d, d[k] = e -/
namespace G
open PySem L2 PySem.Spec PyProof.Rows
def keyK : D → Option Key
  | .int i => some (.inl i)
  | .str s => some (.inr s)
  | _ => none
/-- a key -/
def isKy : D → Bool
  | .fd [.non] ds => ds.all fun d => (keyK d).isSome
  | _ => false
def lookD : List D → List D → D → Option D
  | a :: ks, v :: ds, k => if beqD a k = true then some v else lookD ks ds k
  | _, _, _ => none
def putV : List D → List D → D → D → List D
  | a :: ks, v :: ds, k, y => (if beqD a k = true then y else v) :: putV ks ds k y
  | _, _, _, _ => []
def hasD (ks : List D) (k : D) : Bool := ks.any fun a => beqD a k
def putE (ks ds : List D) (k y : D) : List D × List D := if hasD ks k = true then (ks, putV ks ds k y) else (ks ++ [k], ds ++ [y])
theorem keyD_of {d : D} {k : Key} (h : keyK d = some k) : d = keyD k := by
  cases d <;> simp only [keyK, reduceCtorEq, Option.some.injEq] at h <;> subst h <;> rfl
theorem keyD_inj {a b : Key} (h : keyD a = keyD b) : a = b := by
  cases a <;> cases b <;> simp [keyD] at h <;> simp [h]
theorem keysD_inj : ∀ {a b : List Key}, a.map keyD = b.map keyD → a = b
  | [], [], _ => rfl
  | [], _ :: _, h => by cases h
  | _ :: _, [], h => by cases h
  | x :: xs, y :: ys, h => by
    simp only [List.map_cons, List.cons.injEq] at h
    rw [keyD_inj h.1, keysD_inj h.2]
theorem isKy_ex {d : D} (h : isKy d = true) : ∃ ks : List Key, d = .fd [.non] (ks.map keyD) := by
  unfold isKy at h
  split at h
  · rename_i ds
    simp only [List.all_eq_true] at h
    suffices ∃ ks : List Key, ds = ks.map keyD by
      obtain ⟨ks, e⟩ := this
      exact ⟨ks, by rw [e]⟩
    induction ds with
    | nil => exact ⟨[], rfl⟩
    | cons x xs ih =>
      obtain ⟨ks, e⟩ := ih fun y hy => h y (List.mem_cons_of_mem _ hy)
      obtain ⟨k, hk⟩ := Option.isSome_iff_exists.1 (h x List.mem_cons_self)
      exact ⟨k :: ks, by rw [List.map_cons, ← e, keyD_of hk]⟩
  · cases h
theorem beqD_key (a b : List Key) : beqD (.fd [.non] (a.map keyD)) (.fd [.non] (b.map keyD)) = decide (a = b) := by
  by_cases h : a = b
  · subst h; rw [beqD_rfl]; simp
  · rw [decide_eq_false h]
    cases hb : beqD (.fd [.non] (a.map keyD)) (.fd [.non] (b.map keyD)) with
    | false => rfl
    | true =>
      have e := beqD_eq _ _ hb
      injection e with _ e
      exact absurd (keysD_inj e) h
section
variable {K : PySem.W.Frag} {g g' : Gh} {H H' : Hp}
theorem rep_kx {k : Key} {v : V} (h : Rep K g H v (keyD k)) : v = kV k := by
  cases k with
  | inl i => exact rep_int h
  | inr s => exact rep_str h
theorem rep_keys : ∀ {ks : List Key} {vs : List V}, RepL K g H vs (ks.map keyD) → vs = ks.map kV
  | [], vs, h => by cases h; rfl
  | k :: ks, vs, h => by
    cases h with
    | cons a b => rw [rep_kx a, rep_keys b]; rfl
theorem rep_keyT {ks : List Key} {v : V} (h : Rep K g H v (.fd [.non] (ks.map keyD))) : ∃ b, v = .ref b ∧ H b = some (.tup (ks.map kV)) := by
  obtain ⟨b, xs, e, h1, h2⟩ := rep_kt h
  exact ⟨b, e, by rw [h1, rep_keys h2]⟩
theorem look_ok {k : List Key} : ∀ {kvs : List (List Key × V)} {ds : List D}, RepL K g H (kvs.map (·.2)) ds →
    (∃ v d, valV kvs k = some v ∧ lookD (keysT kvs) ds (.fd [.non] (k.map keyD)) = some d ∧ Rep K g H v d) ∨ (valV kvs k = none ∧ lookD (keysT kvs) ds (.fd [.non] (k.map keyD)) = none)
  | [], ds, h => by cases h; exact .inr ⟨rfl, rfl⟩
  | (a, v) :: kvs, ds, h => by
    cases h with
    | @cons _ _ d ds h1 h2 =>
      show (∃ w e, valV ((a, v) :: kvs) k = some w ∧ (if beqD (.fd [.non] (a.map keyD)) (.fd [.non] (k.map keyD)) = true then some d else lookD (keysT kvs) ds (.fd [.non] (k.map keyD))) = some e ∧ Rep K g H w e) ∨ (valV ((a, v) :: kvs) k = none ∧ (if beqD (.fd [.non] (a.map keyD)) (.fd [.non] (k.map keyD)) = true then some d else lookD (keysT kvs) ds (.fd [.non] (k.map keyD))) = none)
      rw [beqD_key]
      by_cases z : a = k
      · exact .inl ⟨v, d, by rw [valV_pos (p := (a, v)) z], by simp [z], h1⟩
      · rw [valV_neg (p := (a, v)) z]
        simp only [z, decide_false, Bool.false_eq_true, if_false]
        exact look_ok h2
theorem has_ok {k : List Key} : ∀ {kvs : List (List Key × V)}, hasD (keysT kvs) (.fd [.non] (k.map keyD)) = kvs.any fun kv => decide (kv.1 = k)
  | [] => rfl
  | (a, v) :: kvs => by
    have ih := has_ok (k := k) (kvs := kvs)
    unfold hasD at ih ⊢
    show (beqD (.fd [.non] (a.map keyD)) (.fd [.non] (k.map keyD)) || (keysT kvs).any fun a => beqD a (.fd [.non] (k.map keyD))) = _
    rw [beqD_key, ih]
    rfl
theorem keysT_put {k : List Key} {y : V} : ∀ {kvs : List (List Key × V)}, keysT (kvs.map fun kv => if kv.1 = k then (kv.1, y) else kv) = keysT kvs
  | [] => rfl
  | (a, v) :: kvs => by
    have ih := keysT_put (k := k) (y := y) (kvs := kvs)
    show (D.fd [.non] ((if a = k then (a, y) else (a, v)).1.map keyD)) :: keysT (kvs.map fun kv => if kv.1 = k then (kv.1, y) else kv) = .fd [.non] (a.map keyD) :: keysT kvs
    rw [ih]
    by_cases z : a = k <;> simp [z]
theorem putV_ok {k : List Key} {y : V} {d : D} (hy : Rep K g H y d) : ∀ {kvs : List (List Key × V)} {ds : List D}, RepL K g H (kvs.map (·.2)) ds →
    RepL K g H ((kvs.map fun kv => if kv.1 = k then (kv.1, y) else kv).map (·.2)) (putV (keysT kvs) ds (.fd [.non] (k.map keyD)) d)
  | [], ds, h => by cases h; exact .nil
  | (a, v) :: kvs, ds, h => by
    cases h with
    | @cons _ _ e ds h1 h2 =>
      show RepL K g H ((if a = k then (a, y) else (a, v)).2 :: (kvs.map fun kv => if kv.1 = k then (kv.1, y) else kv).map (·.2)) ((if beqD (.fd [.non] (a.map keyD)) (.fd [.non] (k.map keyD)) = true then d else e) :: putV (keysT kvs) ds (.fd [.non] (k.map keyD)) d)
      rw [beqD_key]
      refine .cons ?_ (putV_ok hy h2)
      by_cases z : a = k
      · simp only [z, if_true, decide_true]; exact hy
      · simp only [z, if_false, decide_false, Bool.false_eq_true]; exact h1
theorem put_ok {k : List Key} {y : V} {d : D} {kvs : List (List Key × V)} {ds : List D} (hy : Rep K g H y d) (h : RepL K g H (kvs.map (·.2)) ds) :
    (putE (keysT kvs) ds (.fd [.non] (k.map keyD)) d).1 = keysT (putK kvs k y) ∧ RepL K g H ((putK kvs k y).map (·.2)) (putE (keysT kvs) ds (.fd [.non] (k.map keyD)) d).2 := by
  unfold putE putK
  rw [has_ok]
  split
  · exact ⟨keysT_put.symm, putV_ok hy h⟩
  · refine ⟨by simp [keysT], ?_⟩
    rw [List.map_append]
    exact h.append (.cons hy .nil)
end
/-! ### the computations -/
def dctOf (x : D) (m : Hs) : Option (List D × List D) := match x with
  | .ref n => match m[n]? with
    | some (.dct ks ds) => some (ks, ds)
    | _ => none
  | _ => none
def dgetS (x y : D) : M D := bnd (ask (dctOf x)) fun p => if isKy y = true then bnd (ask fun _ => lookD p.1 p.2 y) ret else bad
def dgetM (a b : M D) : M D := bnd a fun x => bnd b fun y => dgetS x y
def dinS (y x : D) : M D := bnd (ask (dctOf x)) fun p => if isKy y = true then ret (.bl (lookD p.1 p.2 y).isSome) else bad
def dinM (a b : M D) : M D := bnd a fun y => bnd b fun x => dinS y x
def dputF (x y z : D) (m : Hs) : Option Hs := match x with
  | .ref n => match m[n]? with
    | some (.dct ks ds) => if isKy y = true ∧ ks.length < sizeLine then some (m.set n (.dct (putE ks ds y z).1 (putE ks ds y z).2)) else none
    | _ => none
  | _ => none
/-- a tuple display that is to be a key -/
def keyM (a : M (List D)) : M D := bnd a fun xs => if xs.length ≤ sizeLine then ret (.fd [.non] xs) else bad
def dnew : M D := fun m => .ok (.ref m.length) (m ++ [.dct [] []])
theorem u1 {n : Nat} (h : n + 65 < cLine) : n + 1 < cLine := Nat.lt_of_le_of_lt (by omega) h
theorem Rel.dct {Γ : Cst} {g : Gh} {H : Hp} {m : Hs} {n : Nat} {a : Addr} {ks ds : List D} (R : Rel Γ g m H) (h1 : m[n]? = some (.dct ks ds)) (h2 : g.hs[n]? = some a) : ∃ kvs, H a = some (.dT kvs) ∧ ks = keysT kvs ∧ RepL Γ.K g H (kvs.map (·.2)) ds := R.obj n _ a h1 h2
theorem rep_dct {Γ : Cst} {g : Gh} {H : Hp} {m : Hs} {x : D} {v : V} {ks ds : List D} (R : Rel Γ g m H) (h : Rep Γ.K g H v x) (e : dctOf x m = some (ks, ds)) : ∃ a kvs, v = .ref a ∧ H a = some (.dT kvs) ∧ ks = keysT kvs ∧ RepL Γ.K g H (kvs.map (·.2)) ds := by
  cases h with
  | ref h =>
    simp only [dctOf] at e
    split at e
    · rename_i hy
      cases e
      obtain ⟨kvs, h1, h2, h3⟩ := R.dct hy h
      exact ⟨_, kvs, rfl, h1, h2, h3⟩
    · cases e
  | _ => simp [dctOf] at e
section
variable {X : Cx} {C : Cc} {ρ : List Sl} {A B : Type} {oa : A → List Sl} {ob : B → List Sl}
theorem c_key {es : List Expr} {cs : M (List D)} {x1 : Nat} {pos : Pos} (h : PAc X C ρ es cs) : PEc X C ρ (.Tuple es x1 pos) (keyM cs) :=
  pe_imp (pe_tup h) fun σ H Q q => by
    refine tG.bind q fun g1 H1 m1 v1 x1 at1 hv1 q1 => ?_
    obtain ⟨hz, q1⟩ := Post.ite q1
    exact ⟨by rw [hv1.length]; exact hz, fun p hp => q1 g1 _ _ (Le.refl g1) (TK.new hp) (at1.rel.laid hp) (.kt upd_same (hv1.mono (Lv0.refl g1) (TK.new hp)))⟩
def rDGet : R2 := fun x y H Q => ∃ a v, x = .ref a ∧ DGet H a y (some v) ∧ Q v H
def rDIn : R2 := fun y x H Q => ∃ a o, x = .ref a ∧ DGet H a y o ∧ Q (.bl o.isSome) H
theorem sv_dget {cls : Cl} : Serves X cls rDGet dgetS := by
  intro W σ g H m vx vy x y Q rel hx hy q
  obtain ⟨⟨ks, ds⟩, hp, q1⟩ := Post.ask q
  obtain ⟨hk, q2⟩ := Post.ite q1
  obtain ⟨d, hd, q3⟩ := Post.ask q2
  obtain ⟨a, kvs, rfl, h1, rfl, h3⟩ := rep_dct rel hx hp
  obtain ⟨k, rfl⟩ := isKy_ex hk
  obtain ⟨b, rfl, h4⟩ := rep_keyT hy
  have hd : lookD (keysT kvs) ds (.fd [.non] (k.map keyD)) = some d := hd
  rcases look_ok (k := k) h3 with ⟨v, d', e1, e2, e3⟩ | ⟨e1, e2⟩
  · rw [e2] at hd
    cases hd
    exact ⟨a, v, rfl, by rw [← e1]; exact DGet.t h1 h4, Post.ret q3 rel e3⟩
  · rw [e2] at hd
    cases hd
theorem sv_din {cls : Cl} : Serves X cls rDIn dinS := by
  intro W σ g H m vx vy x y Q rel hx hy q
  obtain ⟨⟨ks, ds⟩, hp, q1⟩ := Post.ask q
  obtain ⟨hk, q2⟩ := Post.ite q1
  obtain ⟨a, kvs, rfl, h1, rfl, h3⟩ := rep_dct rel hy hp
  obtain ⟨k, rfl⟩ := isKy_ex hk
  obtain ⟨b, rfl, h4⟩ := rep_keyT hx
  refine ⟨a, _, rfl, DGet.t h1 h4, ?_⟩
  have e : (lookD (keysT kvs) ds (.fd [.non] (k.map keyD))).isSome = (valV kvs k).isSome := by
    rcases look_ok (k := k) h3 with ⟨v, d', e1, e2, e3⟩ | ⟨e1, e2⟩
    · rw [e1, e2]; rfl
    · rw [e1, e2]; rfl
  have q4 : Post _ W (rD ⟨X.K, cls⟩) σ g H Q (.ok (D.bl (lookD (keysT kvs) ds (.fd [.non] (k.map keyD))).isSome) m) := q2
  rw [e] at q4
  exact Post.ret q4 rel (.bl _)
theorem c_dget {e1 e2 : Expr} {a b : M D} {pos : Pos} (hu : X.A.units + 1 < cLine) (ha : PEc X C ρ e1 a) (hb : PEc X C ρ e2 b) (hs : NoSl e2 := by exact fun _ _ => rfl) : PEc X C ρ (.Subscript e1 e2 pos) (dgetM a b) :=
  pe_imp (pe_dget hu ha hb hs) fun σ H Q q => two sv_dget q
theorem dinM_bl {a b : M D} (m : Hs) (z : D) (m' : Hs) (h : dinM a b m = .ok z m') : ∃ b, z = .bl b := by
  refine bl_of (f := dinS) (fun x y m z m' h => ?_) m z m' h
  unfold dinS bnd ask at h
  cases hz : dctOf y m with
  | none => rw [hz] at h; cases h
  | some p =>
    rw [hz] at h
    replace h : (if isKy x = true then ret (.bl (lookD p.1 p.2 x).isSome) else bad) m = .ok z m' := h
    split at h
    · cases h; exact ⟨_, rfl⟩
    · cases h
theorem p_din {e1 e2 : Expr} {a b : M D} {pos : Pos} (hu : X.A.units + 1 < cLine) (hm : behindInMarks .In e2 = false) (ha : PEc X C ρ e1 a) (hb : PEc X C ρ e2 b) : PTc X C ρ (.Compare e1 [.In] [e2] pos) (dinM a b) :=
  pt_imp (pt_cmp (pc_din hu ha hb) hm) fun σ H Q q => by
    show tOp rDIn (tE ⟨X.K, C.cls⟩ C ρ a) (tE ⟨X.K, C.cls⟩ C ρ b) σ H (fun x H1 => ∃ c, x = .bl c ∧ Q c H1)
    refine two sv_din ?_
    obtain ⟨g, m, at0, q⟩ := q
    refine ⟨g, m, at0, ?_⟩
    unfold bnd at q
    cases hz : dinM a b m with
    | ok x m1 =>
      rw [hz, bind_ok] at q
      obtain ⟨b, rfl⟩ := dinM_bl m x m1 hz
      show Post _ _ _ σ g H _ (dinM a _ m)
      rw [hz]
      intro g' H' v p t' rel' hv
      rw [rep_bl hv]
      exact ⟨b, rfl, q g' H' b p t' rel' rfl⟩
    | ex c fs m1 =>
      rw [hz] at q
      show Post _ _ _ σ g H _ (dinM a _ m)
      rw [hz]
      exact q
    | bad => rw [hz] at q; exact q.elim
theorem c_dnew {pos : Pos} : PEc X C ρ (.Dict [] [] pos) dnew := pe_imp pe_dnewT fun σ H Q q p hp => by
  obtain ⟨g, m, at0, q⟩ := q
  exact q (g.addH p) _ _ le_addH (TK.new hp) (at0.rel.push hp ⟨[], upd_same, rfl, .nil⟩) (.ref (by show (g.hs ++ [p])[m.length]? = _; rw [← at0.rel.len]; simp))
/-- d[k], to be stored into -/
def dsubT (a b : M D) (z : D) : M Unit := bnd a fun x => bnd b fun y => put (dputF x y z)
theorem tg_dsub {o i : Expr} {a b : M D} {pos : Pos} (hu : X.A.units + 1 < cLine) (ho : PEc X C ρ o a) (hi : PEc X C ρ i b) (ha : ∀ v, assign (.Subscript o i pos) X.env v = (do
      let ov ← holding [v] (eval o X.env)
      let iv ← holding [v, ov] (eval i X.env)
      standAt pos
      holding [v, ov, iv] (setItem ov iv v)
      release [v, ov, iv] []) := by intro _; rfl) : PTg X C ρ (.Subscript o i pos) (dsubT a b) := pg_imp (pg_sub ho hi (set_dict hu) ha) fun v σ H Q q => by
  obtain ⟨g, m, d, at0, hv, q⟩ := q
  refine ⟨g, m, at0, ?_⟩
  unfold dsubT bnd at q
  cases hz : a m with
  | ok x m1 =>
    rw [hz, bind_ok] at q
    intro g1 H1 w p t rel1 hw
    refine ⟨g1, m1, at0.mono p t rel1, ?_⟩
    cases hz2 : b m1 with
    | ok y m2 =>
      simp only [hz2, bind_ok] at q
      intro g2 H2 w2 p2 t2 rel2 hw2
      obtain ⟨m3, hs, q⟩ := put_in (P := fun c fs m' => ∀ σ, PostX ⟨X.K, C.cls⟩ C.W σ C.gB H c fs m') (R := fun _ m' => ∀ g' H', Le g g' → TK H H' → Rel ⟨X.K, C.cls⟩ g' m' H' → Q σ H') q
      have hw' := hw.mono p2.v t2
      cases hw' with
      | @ref aa nn hg =>
        simp only [dputF] at hs
        cases hn : m2[nn]? with
        | none => rw [hn] at hs; cases hs
        | some ob =>
          rw [hn] at hs
          cases ob with
          | ins c fs => cases hs
          | exc c fs => cases hs
          | lst _ => cases hs
          | dct ks ds =>
            simp only at hs
            by_cases hk : isKy y = true ∧ ks.length < sizeLine
            · rw [if_pos hk] at hs
              cases hs
              obtain ⟨kvs, h1, rfl, h3⟩ := rel2.dct hn hg
              obtain ⟨k, rfl⟩ := isKy_ex hk.1
              obtain ⟨b, rfl, h4⟩ := rep_keyT hw2
              have mu : Mut (H2 aa) := by rw [h1]; trivial
              have hl : kvs.length < sizeLine := by have := hk.2; simpa [keysT] using this
              obtain ⟨e1, e2⟩ := put_ok (k := k) (((hv.mono p.v t).mono p2.v t2).mono (Lv0.refl g2) (TK.mut (o := .dT (putK kvs k v)) mu)) (h3.mono (Lv0.refl g2) (TK.mut (o := .dT (putK kvs k v)) mu))
              exact ⟨aa, _, rfl, DPut.t h1 h4 hl, q g2 _ (p.trans p2) ((t.trans t2).trans (TK.mut mu)) (rel2.write mu hg ⟨_, upd_same, e1, e2⟩)⟩
            · rw [if_neg hk] at hs
              cases hs
      | _ => simp [dputF] at hs
    | ex c fs m2 => simp only [hz2] at q; exact PostX.mono (at0.le.trans p) t (q σ)
    | bad => simp only [hz2] at q; exact q
  | ex c fs m1 => rw [hz] at q; exact PostX.mono at0.le (TK.refl _) (q σ)
  | bad => rw [hz] at q; exact q
end
end G

set_option Elab.async false
set_option linter.all false
set_option maxRecDepth 100000
set_option maxHeartbeats 2000000
/-! d[k], x = e -/
namespace G
open PySem L2
section
variable {X : Cx} {C : Cc} {ρ : List Sl} {k : Nat} {A B A' B' : Type} {oa : A → List Sl} {ob : B → List Sl} {oa' : A' → List Sl} {g g' : Gh} {H H' : Hp} {De : Ends} {Γ : Cst} {σ : L2.St} {m : Hs}
end
end G

set_option Elab.async false
set_option linter.all false
set_option maxRecDepth 100000
set_option maxHeartbeats 4000000
namespace G.K75
open PySem G
def bd_common_divisor (one other : D) : M (Fl Unit Empty) := seq (whlM (fun s => cmpM .gt (ret s.2) (ret (.int 0))) ((one, other) : D × D) fun s => bnd (ret s.2) fun one_1 => bnd (binM .mod (ret s.1) (ret s.2)) fun other_1 => nxt (one_1, other_1)) fun s_1 => rtn (ret s_1.1)
def t_common_divisor (one other : D) : M D := fnM (bd_common_divisor one other)
def bd_fraction (numerator denominator : D) : M (Fl Unit Empty) := bnd (calM (fs2 t_common_divisor) (lsM [ret numerator, ret denominator])) fun divisor => rtn (tupM (lsM [binM .fdiv (ret numerator) (ret divisor), binM .fdiv (ret denominator) (ret divisor)]))
def t_fraction (numerator denominator : D) : M D := fnM (bd_fraction numerator denominator)
def bd_is_less (one other : D) : M (Fl Unit Empty) := rtn (cmpM .lt (binM .mul (idxM (ret one) (ret (.int 0))) (idxM (ret other) (ret (.int 1)))) (binM .mul (idxM (ret other) (ret (.int 0))) (idxM (ret one) (ret (.int 1)))))
def t_is_less (one other : D) : M D := fnM (bd_is_less one other)
def bd_boundaries (policy : D) : M (Fl Unit Empty) := rtn (calM tupleS (lsM [lcM (zipI (idxM (ret policy) (ret (.int 0))) (idxM (ret policy) (ret (.int 1)))) fun x => un2 x fun upper lower => elM (tupM (lsM [ret upper, ret lower]))]))
def t_boundaries (policy : D) : M D := fnM (bd_boundaries policy)
def g_swings_of (policy : D) : M (Fl (List D) Empty) := seq (bnd (calM (fs1 t_boundaries) (lsM [ret policy])) fun places => bnd (binM .mul (ret (.int 2)) (idxM (ret policy) (ret (.int 2)))) fun extra => nxt (places, extra)) fun (s : D × D) => seq (forG (enum2I (ret s.1) (ret (.int 1))) (([]) : List D) fun x s_1 => un2 x fun first place => seq (bnd (ret (.int 0)) fun total => nxt total) fun (s_2 : D) => seq (forG (enum2I (slcM (ret s.1) (soP (binM .sub (ret first) (ret (.int 1)))) noP) (ret first)) ((s_1, s_2) : List D × D) fun x_1 s_3 => un2 x_1 fun last q => un2 q fun high low => seq (bnd (binM .add (binM .add (ret high) (ret low)) (ret s.2)) fun y => bnd (augS .add s_3.2 y) fun total_1 => nxt total_1) fun (s_4 : D) => yldM s_3.1 (tupM (lsM [ret first, ret last, ret s_4, binM .mul (ret (.int 2)) (binM .sub (binM .add (ret high) (ret (.int 1))) (idxM (ret place) (ret (.int 1))))])) fun ys => nxt (ys, s_4)) fun s_5 => nxt s_5.1) fun s_6 => nxt s_6
def bd_dearest_swing (policy : D) : M (Fl Unit Empty) := bnd (ret (.tup [.int 0, .int 1])) fun best => bnd (ret .non) fun found => seq (forP (fun (s : D × D) => [.val policy, .val s.1, .val s.2, .un, .un, .un, .un]) (gen1I g_swings_of (ret policy)) ((best, found) : D × D) fun x s => un4 x fun first last total length => iff (calM (fs2 t_is_less) (lsM [ret s.1, tupM (lsM [ret total, ret length])])) (bnd (tupM (lsM [ret total, ret length])) fun best_1 => bnd (tupM (lsM [ret first, ret last])) fun found_1 => nxt (best_1, found_1)) (nxt (s.1, s.2))) fun s_1 => rtn (tupM (lsM [ret s_1.1, ret s_1.2]))
def t_dearest_swing (policy : D) : M D := pc1 bd_dearest_swing policy
def bd_worst_price (policy : D) : M (Fl Unit Empty) := bnd (calM (fs1 t_dearest_swing) (lsM [ret policy])) fun x => un2 x fun q found => un2 q fun total length => rtn (calM (fs2 t_fraction) (lsM [ret total, ret length]))
def t_worst_price (policy : D) : M D := fnM (bd_worst_price policy)
def bd_worst_swing (policy : D) : M (Fl Unit Empty) := rtn (idxM (calM (fs1 t_dearest_swing) (lsM [ret policy])) (ret (.int 1)))
def t_worst_swing (policy : D) : M D := fnM (bd_worst_swing policy)
def bd_joint_price (policies : D) : M (Fl Unit Empty) := bnd (ret (.tup [.int 0, .int 1])) fun best => seq (forM (seqI (ret policies)) (best : D) fun policy s => bnd (calM (fs1 t_worst_price) (lsM [ret policy])) fun here => bnd (iteM (calM (fs2 t_is_less) (lsM [ret s, ret here])) (ret here) (ret s)) fun best_1 => nxt best_1) fun s_1 => rtn (ret s_1)
def t_joint_price (policies : D) : M D := fnM (bd_joint_price policies)
def bd_law_draws (script k : D) : M (Fl Unit Empty) := bnd (iteM (cmpM .lt (ret k) (calM lenS (lsM [ret script]))) (idxM (ret script) (ret k)) (binM .add (binM .mul (ret (.int 7)) (ret k)) (ret (.int 3)))) fun cell => bnd (binM .mul (binM .mod (calM absS (lsM [ret cell])) (binM .pow (binM .pow (ret (.int 10)) (ret (.int 60))) (ret (.int 5)))) (calM intS (lsM [cmpM .ge (calM absS (lsM [ret cell])) (binM .pow (ret (.int 10)) (ret (.int 18)))]))) fun great => rtn (lshM (lsM [ret great, binM .mod (binM .mul (binM .add (binM .add (binM .mod (ret cell) (ret (.int 2305843009213693951))) (binM .mul (binM .mul (ret (.int 7919)) (ret k)) (ret k))) (ret (.int 17))) (ret (.int 48271))) (ret (.int 2305843009213693921)), ret (.int 0)]))
def t_law_draws (script k : D) : M D := fnM (bd_law_draws script k)
def bd_law_below (draws_here many : D) : M (Fl Unit Empty) := seq (iff (cmpM .gt (idxM (ret draws_here) (ret (.int 0))) (ret (.int 0))) (bnd (binM .mod (idxM (ret draws_here) (ret (.int 0))) (ret many)) fun digit => bnd (binM .fdiv (idxM (ret draws_here) (ret (.int 0))) (ret many)) fun x => bnd (subT (ret draws_here) (ret (.int 0)) x) fun _ => rtn (ret digit)) (nxt ())) fun (s : Unit) => bnd (binM .add (idxM (ret draws_here) (ret (.int 2))) (ret (.int 1))) fun step => bnd (ret step) fun x_1 => bnd (subT (ret draws_here) (ret (.int 2)) x_1) fun _ => bnd (idxM (lstM (lsM [ret (.int 2305843009213693951), ret (.int 999999999989), ret (.int 1000000000039), ret (.int 67280421310721)])) (binM .mod (ret step) (ret (.int 4)))) fun prime => bnd (binM .mod (binM .add (binM .add (idxM (ret draws_here) (ret (.int 1))) (binM .mul (binM .mul (ret (.int 7919)) (ret step)) (ret step))) (binM .mul (ret (.int 65537)) (ret step))) (ret prime)) fun mixed => bnd (binM .mod (binM .pow (ret mixed) (ret (.int 5))) (ret prime)) fun mixed_1 => rtn (binM .mod (binM .add (binM .fdiv (ret mixed_1) (ret (.int 4099))) (binM .mul (binM .fdiv (ret mixed_1) (ret (.int 1000003))) (ret (.int 7)))) (ret many))
def t_law_below (draws_here many : D) : M D := fnM (bd_law_below draws_here many)
def bd_law_pick (draws_here items : D) : M (Fl Unit Empty) := rtn (idxM (ret items) (calM (fs2 t_law_below) (lsM [ret draws_here, calM lenS (lsM [ret items])])))
def t_law_pick (draws_here items : D) : M D := fnM (bd_law_pick draws_here items)
def bd_law_policy (draws_here levels step : D) : M (Fl Unit Empty) := bnd (calM (fs2 t_law_below) (lsM [ret draws_here, ret (.int 4)])) fun way => bnd (negM (ret (.int 1))) fun low => bnd (ownM (lsM [binM .add (ret (.int 1)) (calM (fs2 t_law_below) (lsM [ret draws_here, ret step]))])) fun capacities => seq (forM (rng1I (calM (fs2 t_law_below) (lsM [ret draws_here, ret levels]))) (capacities : List D) fun turn s => bnd (idxM (lstM (lsM [binM .add (ret (.int 1)) (calM (fs2 t_law_below) (lsM [ret draws_here, ret step])), idxL s (negM (ret (.int 1))), ret (.int 1), binM .add (ret (.int 1)) (calM (fs2 t_law_below) (lsM [ret draws_here, binM .mul (ret (.int 2)) (ret step)]))])) (ret way)) fun more => appO s (binM .add (idxL s (negM (ret (.int 1)))) (ret more)) fun capacities_1 => nxt capacities_1) fun s_1 => bnd (calM (fs2 t_law_below) (lsM [ret draws_here, ret (.int 4)])) fun way_1 => bnd (ownM (lsM [])) fun limits => seq (forM (seqI (slcM (ret (.fl s_1)) noP (soP (negM (ret (.int 1)))))) ((low, limits) : D × List D) fun room s_2 => bnd (lstM (lsM [binM .add (ret s_2.1) (ret (.int 1)), ret room, binM .add (binM .add (ret s_2.1) (ret (.int 1))) (calM (fs2 t_law_below) (lsM [ret draws_here, binM .sub (ret room) (ret s_2.1)])), calM max2S (lsM [binM .add (ret s_2.1) (ret (.int 1)), binM .fdiv (ret room) (ret (.int 2))])])) fun v_some => bnd (idxM (ret v_some) (ret way_1)) fun low_1 => appO s_2.2 (ret low_1) fun limits_1 => nxt (low_1, limits_1)) fun s_3 => rtn (tupM (lsM [calM tupleS (lsM [ret (.fl s_1)]), calM tupleS (lsM [ret (.fl s_3.2)]), calM (fs2 t_law_pick) (lsM [ret draws_here, lstM (lsM [ret (.int 0), ret (.int 0), ret (.int 1), calM (fs2 t_law_below) (lsM [ret draws_here, ret (.int 20)])])])]))
def t_law_policy (draws_here levels step : D) : M D := fnM (bd_law_policy draws_here levels step)
def bd_law_pushed (policy_here level size : D) : M (Fl Unit Empty) := bnd (ret policy_here) fun x => un3 x fun capacities limits fixed => seq (iff (cmpM .lt (ret size) (idxM (ret capacities) (ret level))) (rtn (tupM (lsM [ret level, binM .add (ret size) (ret (.int 1)), ret (.int 0)]))) (nxt ())) fun (s : Unit) => rtn (iteM (cmpM .lt (binM .add (ret level) (ret (.int 1))) (calM lenS (lsM [ret capacities]))) (tupM (lsM [binM .add (ret level) (ret (.int 1)), binM .add (ret size) (ret (.int 1)), binM .add (ret size) (ret fixed)])) (ret .non))
def t_law_pushed (policy_here level size : D) : M D := fnM (bd_law_pushed policy_here level size)
def bd_law_popped (policy_here level size : D) : M (Fl Unit Empty) := bnd (ret policy_here) fun x => un3 x fun capacities limits fixed => seq (iff (cmpM .eq (ret size) (ret (.int 0))) (rtn (ret .non)) (nxt ())) fun (s : Unit) => seq (iff (andM (cmpM .gt (ret level) (ret (.int 0))) (cmpM .eq (binM .sub (ret size) (ret (.int 1))) (idxM (ret limits) (binM .sub (ret level) (ret (.int 1)))))) (rtn (tupM (lsM [binM .sub (ret level) (ret (.int 1)), binM .sub (ret size) (ret (.int 1)), binM .add (binM .sub (ret size) (ret (.int 1))) (ret fixed)]))) (nxt ())) fun (s_1 : Unit) => rtn (tupM (lsM [ret level, binM .sub (ret size) (ret (.int 1)), ret (.int 0)]))
def t_law_popped (policy_here level size : D) : M D := fnM (bd_law_popped policy_here level size)
def bd_law_own (policy_here : D) : M (Fl Unit Empty) := bnd (ret policy_here) fun x => un3 x fun capacities limits fixed => bnd (tupM (lsM [ret (.int 0), ret (.int 1)])) fun best => bnd (ret .non) fun chosen => bnd (calM lenS (lsM [ret limits])) fun many => seq (forM (rng1I (ret many)) ((best, chosen) : D × D) fun first s => bnd (ret (.int 0)) fun paid => seq (forM (rng2I (ret first) (ret many)) ((s.1, s.2, paid) : D × D × D) fun last s_1 => bnd (binM .add (binM .add (binM .add (ret s_1.2.2) (idxM (ret capacities) (ret last))) (idxM (ret limits) (ret last))) (binM .mul (ret (.int 2)) (ret fixed))) fun paid_1 => bnd (binM .mul (ret (.int 2)) (binM .sub (binM .add (idxM (ret capacities) (ret last)) (ret (.int 1))) (idxM (ret limits) (ret first)))) fun way => iff (cmpM .gt (binM .mul (ret paid_1) (idxM (ret s_1.1) (ret (.int 1)))) (binM .mul (idxM (ret s_1.1) (ret (.int 0))) (ret way))) (bnd (tupM (lsM [ret paid_1, ret way])) fun best_1 => bnd (tupM (lsM [binM .add (ret first) (ret (.int 1)), binM .add (ret last) (ret (.int 1))])) fun chosen_1 => nxt (best_1, chosen_1, paid_1)) (nxt (s_1.1, s_1.2.1, paid_1))) fun s_2 => nxt (s_2.1, s_2.2.1)) fun s_3 => rtn (tupM (lsM [ret s_3.1, ret s_3.2]))
def t_law_own (policy_here : D) : M D := fnM (bd_law_own policy_here)
def bd_law_cycle (policy_here low high : D) : M (Fl Unit Empty) := bnd (tupM (lsM [ret (.int 0), ret (.int 0), dnew, ret (.int 0), ret (.int 0)])) fun x => un5 x fun level size seen paid done => bnd (ret high) fun goal => seq (whlM (fun s => ret (.bl true)) ((level, size, paid, done, goal) : D × D × D × D × D) fun s => seq (whlM (fun s_1 => cmpM .ne (ret s_1.2.1) (ret s.2.2.2.2)) ((s.1, s.2.1, s.2.2.1, s.2.2.2.1) : D × D × D × D) fun s_1 => bnd (calM (fs3 t_law_popped) (lsM [ret policy_here, ret s_1.1, ret s_1.2.1])) fun step => seq (iff (cmpM .gt (ret s.2.2.2.2) (ret s_1.2.1)) (bnd (calM (fs3 t_law_pushed) (lsM [ret policy_here, ret s_1.1, ret s_1.2.1])) fun step_1 => nxt step_1) (nxt step)) fun (s_2 : D) => seq (iff (cmpM .is (ret s_2) (ret .non)) (rtn (tupM (lsM [ret (.int 0), ret (.int 1)]))) (nxt ())) fun (s_3 : Unit) => bnd (idxM (ret s_2) (ret (.int 0))) fun level_1 => bnd (idxM (ret s_2) (ret (.int 1))) fun size_1 => bnd (binM .add (ret s_1.2.2.1) (idxM (ret s_2) (ret (.int 2)))) fun paid_1 => bnd (binM .add (ret s_1.2.2.2) (ret (.int 1))) fun done_1 => nxt (level_1, size_1, paid_1, done_1)) fun s_4 => seq (iff (dinM (keyM (lsM [ret s_4.1, ret s_4.2.1])) (ret seen)) (bnd (dgetM (ret seen) (keyM (lsM [ret s_4.1, ret s_4.2.1]))) fun before => rtn (tupM (lsM [binM .sub (ret s_4.2.2.1) (idxM (ret before) (ret (.int 0))), binM .sub (ret s_4.2.2.2) (idxM (ret before) (ret (.int 1)))]))) (nxt ())) fun (s_5 : Unit) => bnd (tupM (lsM [ret s_4.2.2.1, ret s_4.2.2.2])) fun x_1 => bnd (dsubT (ret seen) (keyM (lsM [ret s_4.1, ret s_4.2.1])) x_1) fun _ => bnd (iteM (cmpM .eq (ret s.2.2.2.2) (ret high)) (ret low) (ret high)) fun goal_1 => nxt (s_4.1, s_4.2.1, s_4.2.2.1, s_4.2.2.2, goal_1)) fun s_6 => nxt ()
def t_law_cycle (policy_here low high : D) : M D := fnM (bd_law_cycle policy_here low high)
def bd_law (script : D) : M (Fl Unit Empty) := seq (forM (rng1I (calM max2S (lsM [ret (.int 1), calM min2S (lsM [ret (.int 3), calM lenS (lsM [ret script])])]))) (() : Unit) fun k s => bnd (calM (fs2 t_law_draws) (lsM [ret script, ret k])) fun draws_here => bnd (ownM (lsM [])) fun v_some => seq (forM (rng1I (ret (.int 12))) (v_some : List D) fun turn s_1 => bnd (calM (fs3 t_law_policy) (lsM [ret draws_here, ret (.int 8), ret (.int 5)])) fun policy_here => bnd (calM (fs1 t_law_own) (lsM [ret policy_here])) fun x => un2 x fun best chosen => bnd (calM (fs1 t_worst_price) (lsM [ret policy_here])) fun price => seq (iff (orM (cmpM .ne (binM .mul (idxM (ret price) (ret (.int 0))) (idxM (ret best) (ret (.int 1)))) (binM .mul (idxM (ret best) (ret (.int 0))) (idxM (ret price) (ret (.int 1))))) (cmpM .ne (calM reprS (lsM [calM (fs1 t_worst_swing) (lsM [ret policy_here])])) (calM reprS (lsM [ret chosen])))) (rtn (ret (.bl false))) (nxt ())) fun (s_2 : Unit) => bnd (calM min2S (lsM [idxM (idxM (ret policy_here) (ret (.int 0))) (negM (ret (.int 1))), ret (.int 90)])) fun top => seq (forM (rng1I (ret (.int 6))) (() : Unit) fun again s_3 => bnd (calM (fs2 t_law_below) (lsM [ret draws_here, ret top])) fun low => bnd (calM (fs3 t_law_cycle) (lsM [ret policy_here, ret low, binM .add (binM .add (ret low) (ret (.int 1))) (calM (fs2 t_law_below) (lsM [ret draws_here, binM .sub (ret top) (ret low)]))])) fun x_1 => un2 x_1 fun paid done => iff (cmpM .gt (binM .mul (ret paid) (idxM (ret price) (ret (.int 1)))) (binM .mul (idxM (ret price) (ret (.int 0))) (ret done))) (rtn (ret (.bl false))) (nxt ())) fun s_4 => appO s_1 (ret policy_here) fun v_some_1 => nxt v_some_1) fun s_5 => bnd (lcM (seqI (ret (.fl s_5))) fun policy_here_1 => elM (calM (fs1 t_worst_price) (lsM [ret policy_here_1]))) fun most => bnd (calM (starF t_joint_price) (lsM [idxM (ret (.fl s_5)) (ret (.int 0)), idxM (ret (.fl s_5)) (ret (.int 1)), idxM (ret (.fl s_5)) (ret (.int 2))])) fun told => iff (orM (niDM (ret told) (slcM (ret most) noP (soP (ret (.int 3))))) (calM anyS (lsM [lcM (seqI (slcM (ret most) noP (soP (ret (.int 3))))) fun one => elM (cmpM .gt (binM .mul (idxM (ret one) (ret (.int 0))) (idxM (ret told) (ret (.int 1)))) (binM .mul (idxM (ret told) (ret (.int 0))) (idxM (ret one) (ret (.int 1)))))]))) (rtn (ret (.bl false))) (nxt ())) fun s_6 => rtn (ret (.bl true))
def t_law (script : D) : M D := fnM (bd_law script)
end G.K75

set_option Elab.async false
set_option linter.all false
set_option maxRecDepth 100000
set_option maxHeartbeats 4000000
namespace G.K75
open PySem L2 PySem.Spec PyProof.Rows G
def top (i : Nat) : Stmt := PySem.Challenge.pw_growshrink_k75_whole_several_boundaries.main.body.getD i (.Pass ⟨0, 0, 0, 0⟩)
abbrev st_common_divisor : Stmt := top 1
abbrev st_fraction : Stmt := top 2
abbrev st_is_less : Stmt := top 3
abbrev st_boundaries : Stmt := top 4
abbrev st_swings_of : Stmt := top 7
abbrev st_dearest_swing : Stmt := top 8
abbrev st_worst_price : Stmt := top 9
abbrev st_worst_swing : Stmt := top 10
abbrev st_joint_price : Stmt := top 11
abbrev st_law_draws : Stmt := top 13
abbrev st_law_below : Stmt := top 14
abbrev st_law_pick : Stmt := top 15
abbrev st_law_policy : Stmt := top 16
abbrev st_law_pushed : Stmt := top 17
abbrev st_law_popped : Stmt := top 18
abbrev st_law_own : Stmt := top 20
abbrev st_law_cycle : Stmt := top 21
abbrev st_law : Stmt := top 22
structure Ad where
  a_common_divisor : Addr
  d_common_divisor : FuncData
  a_fraction : Addr
  d_fraction : FuncData
  a_is_less : Addr
  d_is_less : FuncData
  a_boundaries : Addr
  d_boundaries : FuncData
  a_swings_of : Addr
  d_swings_of : FuncData
  a_dearest_swing : Addr
  d_dearest_swing : FuncData
  a_worst_price : Addr
  d_worst_price : FuncData
  a_worst_swing : Addr
  d_worst_swing : FuncData
  a_joint_price : Addr
  d_joint_price : FuncData
  a_law_draws : Addr
  d_law_draws : FuncData
  a_law_below : Addr
  d_law_below : FuncData
  a_law_pick : Addr
  d_law_pick : FuncData
  a_law_policy : Addr
  d_law_policy : FuncData
  a_law_pushed : Addr
  d_law_pushed : FuncData
  a_law_popped : Addr
  d_law_popped : FuncData
  a_law_own : Addr
  d_law_own : FuncData
  a_law_cycle : Addr
  d_law_cycle : FuncData
  a_law : Addr
  d_law : FuncData
  t_NO_PRICE : Addr
def clsA (z : Ad) : Cl := ⟨fun c => ([] : List (Nat × Addr)).lookup c, [], false⟩
structure Txt (K : PySem.W.Frag) (mg : Str → Option Value) (z : Ad) (base : Heap) : Prop where
  F_common_divisor : Fun K "common_divisor" "common_divisor" st_common_divisor z.a_common_divisor z.d_common_divisor
  B_common_divisor : Binds K z.d_common_divisor ["one", "other"] []
  m_common_divisor : mg "common_divisor" = some (.ref z.a_common_divisor)
  F_fraction : Fun K "fraction" "fraction" st_fraction z.a_fraction z.d_fraction
  B_fraction : Binds K z.d_fraction ["numerator", "denominator"] []
  m_fraction : mg "fraction" = some (.ref z.a_fraction)
  F_is_less : Fun K "is_less" "is_less" st_is_less z.a_is_less z.d_is_less
  B_is_less : Binds K z.d_is_less ["one", "other"] []
  m_is_less : mg "is_less" = some (.ref z.a_is_less)
  F_boundaries : Fun K "boundaries" "boundaries" st_boundaries z.a_boundaries z.d_boundaries
  B_boundaries : Binds K z.d_boundaries ["policy"] []
  m_boundaries : mg "boundaries" = some (.ref z.a_boundaries)
  F_swings_of : Fun K "swings_of" "swings_of" st_swings_of z.a_swings_of z.d_swings_of
  B_swings_of : Binds K z.d_swings_of ["policy"] []
  m_swings_of : mg "swings_of" = some (.ref z.a_swings_of)
  F_dearest_swing : Fun K "dearest_swing" "dearest_swing" st_dearest_swing z.a_dearest_swing z.d_dearest_swing
  B_dearest_swing : Binds K z.d_dearest_swing ["policy"] []
  m_dearest_swing : mg "dearest_swing" = some (.ref z.a_dearest_swing)
  F_worst_price : Fun K "worst_price" "worst_price" st_worst_price z.a_worst_price z.d_worst_price
  B_worst_price : Binds K z.d_worst_price ["policy"] []
  m_worst_price : mg "worst_price" = some (.ref z.a_worst_price)
  F_worst_swing : Fun K "worst_swing" "worst_swing" st_worst_swing z.a_worst_swing z.d_worst_swing
  B_worst_swing : Binds K z.d_worst_swing ["policy"] []
  m_worst_swing : mg "worst_swing" = some (.ref z.a_worst_swing)
  F_joint_price : Fun K "joint_price" "joint_price" st_joint_price z.a_joint_price z.d_joint_price
  S_joint_price : ∀ rest, bindArgs z.d_joint_price ⟨rest, []⟩ = (newTuple rest >>= fun tp => (pure [(("policies" : Str), tp)] : Sem (List (Str × Value))))
  m_joint_price : mg "joint_price" = some (.ref z.a_joint_price)
  F_law_draws : Fun K "_law_draws" "_law_draws" st_law_draws z.a_law_draws z.d_law_draws
  B_law_draws : Binds K z.d_law_draws ["_law_script", "_law_k"] []
  m_law_draws : mg "_law_draws" = some (.ref z.a_law_draws)
  F_law_below : Fun K "_law_below" "_law_below" st_law_below z.a_law_below z.d_law_below
  B_law_below : Binds K z.d_law_below ["_law_draws_here", "_law_many"] []
  m_law_below : mg "_law_below" = some (.ref z.a_law_below)
  F_law_pick : Fun K "_law_pick" "_law_pick" st_law_pick z.a_law_pick z.d_law_pick
  B_law_pick : Binds K z.d_law_pick ["_law_draws_here", "_law_items"] []
  m_law_pick : mg "_law_pick" = some (.ref z.a_law_pick)
  F_law_policy : Fun K "_law_policy" "_law_policy" st_law_policy z.a_law_policy z.d_law_policy
  B_law_policy : Binds K z.d_law_policy ["_law_draws_here", "_law_levels", "_law_step"] []
  m_law_policy : mg "_law_policy" = some (.ref z.a_law_policy)
  F_law_pushed : Fun K "_law_pushed" "_law_pushed" st_law_pushed z.a_law_pushed z.d_law_pushed
  B_law_pushed : Binds K z.d_law_pushed ["_law_policy_here", "_law_level", "_law_size"] []
  m_law_pushed : mg "_law_pushed" = some (.ref z.a_law_pushed)
  F_law_popped : Fun K "_law_popped" "_law_popped" st_law_popped z.a_law_popped z.d_law_popped
  B_law_popped : Binds K z.d_law_popped ["_law_policy_here", "_law_level", "_law_size"] []
  m_law_popped : mg "_law_popped" = some (.ref z.a_law_popped)
  F_law_own : Fun K "_law_own" "_law_own" st_law_own z.a_law_own z.d_law_own
  B_law_own : Binds K z.d_law_own ["_law_policy_here"] []
  m_law_own : mg "_law_own" = some (.ref z.a_law_own)
  F_law_cycle : Fun K "_law_cycle" "_law_cycle" st_law_cycle z.a_law_cycle z.d_law_cycle
  B_law_cycle : Binds K z.d_law_cycle ["_law_policy_here", "_law_low", "_law_high"] []
  m_law_cycle : mg "_law_cycle" = some (.ref z.a_law_cycle)
  F_law : Fun K "law" "law" st_law z.a_law z.d_law
  B_law : Binds K z.d_law ["_law_script"] []
  m_law : mg "law" = some (.ref z.a_law)
  z_abs : mg "abs" = none
  z_any : mg "any" = none
  z_enumerate : mg "enumerate" = none
  z_int : mg "int" = none
  z_len : mg "len" = none
  z_max : mg "max" = none
  z_min : mg "min" = none
  z_range : mg "range" = none
  z_repr : mg "repr" = none
  z_tuple : mg "tuple" = none
  z_zip : mg "zip" = none
  k_NO_PRICE : mg "NO_PRICE" = some (.ref z.t_NO_PRICE)
  r_NO_PRICE : ∀ (g : Gh) (H : Hp), Rep K g H (.ref z.t_NO_PRICE) (.tup [.int 0, .int 1])
section
variable {gu : Bool} {P : Program} {w : World} {K : PySem.W.Frag} {mg : Str → Option Value} {base : Heap} {z : Ad}
theorem sc_common_divisor : FnScope ["one", "other"] ["one", "other"] (defScope st_common_divisor) := ⟨rfl, rfl, rfl, by decide +kernel, rfl, by decide +kernel, by decide +kernel⟩
theorem o_common_divisor (T : Txt K mg z base) : FnG gu P w K mg base (L2.CX P w) 1 z.a_common_divisor z.d_common_divisor ["one", "other"] (spM ⟨K, clsA z⟩ (fs2 t_common_divisor)) := by
  refine fn_2 (k := 0) (b := bd_common_divisor) T.F_common_divisor sc_common_divisor (.inl fun _ _ => rfl) fun one other cdv A outer s0 H E gB hr0 cl0 => ?_
  unfold bd_common_divisor
  have sc := sc_common_divisor
  have hr : Room 0 (cxOf (L2.CX P w) P w K mg base ["one", "other"] "common_divisor" (defScope st_common_divisor) z.a_common_divisor cdv A outer s0 H E).A := hr0
  have cl : Clr gu (cxOf (L2.CX P w) P w K mg base ["one", "other"] "common_divisor" (defScope st_common_divisor) z.a_common_divisor cdv A outer s0 H E).A := cl0
  have hu := hr.units
  have tk : Takes (cxOf (L2.CX P w) P w K mg base ["one", "other"] "common_divisor" (defScope st_common_divisor) z.a_common_divisor cdv A outer s0 H E) (fun c d _ H' => E c d H') := takes_of rfl rfl rfl rfl
  have hp := passes_of (X := (cxOf (L2.CX P w) P w K mg base ["one", "other"] "common_divisor" (defScope st_common_divisor) z.a_common_divisor cdv A outer s0 H E)) rfl
  exact s_while hp (fun (s : D × D) => [.val s.1, .val s.2]) (.eq (.eq .nil)) (fun s => p_cmp op_gt sv_gt (nomark _) (c_var (pv 1) rfl) (c_int)) (fun s => s_par (i := 0) (j := 1) rfl sc.nd rfl rfl (by decide) rfl rfl (k_val (c_var (pv 1) rfl)) (k_val (c_bin op_mod sv_mod (c_var (pv 0) rfl) (c_var (pv 1) rfl))) (fun one_1 other_1 => s_nil (.eq (.eq .nil))) (by rfl)) (fun s_1 => s_ret (c_var (pv 0) rfl))
theorem sc_fraction : FnScope ["numerator", "denominator", "divisor"] ["numerator", "denominator"] (defScope st_fraction) := ⟨rfl, rfl, rfl, by decide +kernel, rfl, by decide +kernel, by decide +kernel⟩
theorem o_fraction (T : Txt K mg z base) : FnG gu P w K mg base (L2.CX P w) 2 z.a_fraction z.d_fraction ["numerator", "denominator"] (spM ⟨K, clsA z⟩ (fs2 t_fraction)) := by
  refine fn_2 (k := 1) (b := bd_fraction) T.F_fraction sc_fraction (.inl fun _ _ => rfl) fun numerator denominator cdv A outer s0 H E gB hr0 cl0 => ?_
  unfold bd_fraction
  have sc := sc_fraction
  have hr : Room 1 (cxOf (L2.CX P w) P w K mg base ["numerator", "denominator", "divisor"] "fraction" (defScope st_fraction) z.a_fraction cdv A outer s0 H E).A := hr0
  have cl : Clr gu (cxOf (L2.CX P w) P w K mg base ["numerator", "denominator", "divisor"] "fraction" (defScope st_fraction) z.a_fraction cdv A outer s0 H E).A := cl0
  have hu := hr.units
  have tk : Takes (cxOf (L2.CX P w) P w K mg base ["numerator", "denominator", "divisor"] "fraction" (defScope st_fraction) z.a_fraction cdv A outer s0 H E) (fun c d _ H' => E c d H') := takes_of rfl rfl rfl rfl
  have hp := passes_of (X := (cxOf (L2.CX P w) P w K mg base ["numerator", "denominator", "divisor"] "fraction" (defScope st_fraction) z.a_fraction cdv A outer s0 H E)) rfl
  have i_common_divisor : IsFn gu P w K mg base (clsA z) 1 "common_divisor" (fs2 t_common_divisor) := ⟨_, _, _, T.m_common_divisor, T.F_common_divisor.kp, T.B_common_divisor, (o_common_divisor T).mono (by decide)⟩
  exact s_set (s := Sl.val) (k_val (c_call i_common_divisor hr cl tk (by rfl) (a_cons (c_var (pv 0) rfl) (a_cons (c_var (pv 1) rfl) a_nil)))) (pg_name (i := 2) sc.nd rfl (by first | exact Or.inl rfl | exact Or.inr rfl)) (fun divisor => s_ret (c_tup (a_cons (c_bin op_fdivW sv_fdiv (c_var (pv 0) rfl) (c_var (pv 2) rfl)) (a_cons (c_bin op_fdivW sv_fdiv (c_var (pv 1) rfl) (c_var (pv 2) rfl)) a_nil))))
theorem sc_is_less : FnScope ["one", "other"] ["one", "other"] (defScope st_is_less) := ⟨rfl, rfl, rfl, by decide +kernel, rfl, by decide +kernel, by decide +kernel⟩
theorem o_is_less (T : Txt K mg z base) : FnG gu P w K mg base (L2.CX P w) 1 z.a_is_less z.d_is_less ["one", "other"] (spM ⟨K, clsA z⟩ (fs2 t_is_less)) := by
  refine fn_2 (k := 0) (b := bd_is_less) T.F_is_less sc_is_less (.inl fun _ _ => rfl) fun one other cdv A outer s0 H E gB hr0 cl0 => ?_
  unfold bd_is_less
  have sc := sc_is_less
  have hr : Room 0 (cxOf (L2.CX P w) P w K mg base ["one", "other"] "is_less" (defScope st_is_less) z.a_is_less cdv A outer s0 H E).A := hr0
  have cl : Clr gu (cxOf (L2.CX P w) P w K mg base ["one", "other"] "is_less" (defScope st_is_less) z.a_is_less cdv A outer s0 H E).A := cl0
  have hu := hr.units
  have tk : Takes (cxOf (L2.CX P w) P w K mg base ["one", "other"] "is_less" (defScope st_is_less) z.a_is_less cdv A outer s0 H E) (fun c d _ H' => E c d H') := takes_of rfl rfl rfl rfl
  have hp := passes_of (X := (cxOf (L2.CX P w) P w K mg base ["one", "other"] "is_less" (defScope st_is_less) z.a_is_less cdv A outer s0 H E)) rfl
  exact s_ret (c_cmp op_lt sv_lt (nomark _) (c_bin op_mulA sv_mul (c_idx (c_var (pv 0) rfl) (c_int)) (c_idx (c_var (pv 1) rfl) (c_int))) (c_bin op_mulA sv_mul (c_idx (c_var (pv 1) rfl) (c_int)) (c_idx (c_var (pv 0) rfl) (c_int))))
theorem sc_boundaries : FnScope ["policy", "upper", "lower"] ["policy"] (defScope st_boundaries) := ⟨rfl, rfl, rfl, by decide +kernel, rfl, by decide +kernel, by decide +kernel⟩
theorem o_boundaries (T : Txt K mg z base) : FnG gu P w K mg base (L2.CX P w) 1 z.a_boundaries z.d_boundaries ["policy"] (spM ⟨K, clsA z⟩ (fs1 t_boundaries)) := by
  refine fn_1 (k := 0) (b := bd_boundaries) T.F_boundaries sc_boundaries (.inl fun _ => rfl) fun policy cdv A outer s0 H E gB hr0 cl0 => ?_
  unfold bd_boundaries
  have sc := sc_boundaries
  have hr : Room 0 (cxOf (L2.CX P w) P w K mg base ["policy", "upper", "lower"] "boundaries" (defScope st_boundaries) z.a_boundaries cdv A outer s0 H E).A := hr0
  have cl : Clr gu (cxOf (L2.CX P w) P w K mg base ["policy", "upper", "lower"] "boundaries" (defScope st_boundaries) z.a_boundaries cdv A outer s0 H E).A := cl0
  have hu := hr.units
  have tk : Takes (cxOf (L2.CX P w) P w K mg base ["policy", "upper", "lower"] "boundaries" (defScope st_boundaries) z.a_boundaries cdv A outer s0 H E) (fun c d _ H' => E c d H') := takes_of rfl rfl rfl rfl
  have hp := passes_of (X := (cxOf (L2.CX P w) P w K mg base ["policy", "upper", "lower"] "boundaries" (defScope st_boundaries) z.a_boundaries cdv A outer s0 H E)) rfl
  exact s_ret (c_bi sv_tuple (a_cons (c_lc (own := [("upper", 1), ("lower", 2)]) rfl sc.nd (i_zip (by rfl) T.z_zip (a_cons (c_idx (c_var (pv 0) rfl) (c_int)) (a_cons (c_idx (c_var (pv 0) rfl) (c_int)) a_nil))) (blkOk_by (N := ["policy", "upper", "lower"]) (sc := defScope st_boundaries) (by decide +kernel)) (by decide) (fun _ _ _ _ _ => g_tp rfl (gs_cons (g_nm (pg_name (i := 1) sc.nd rfl (by first | exact Or.inl rfl | exact Or.inr rfl))) (gs_cons (g_nm (pg_name (i := 2) sc.nd rfl (by first | exact Or.inl rfl | exact Or.inr rfl))) gs_nil))) (fun x => bd_2 fun upper lower => bd_nm (bd_nm (ok_el (fun _ _ _ _ _ => c_tup (a_cons (c_var (pv 1) rfl) (a_cons (c_var (pv 2) rfl) a_nil))))))) a_nil) (fun {_} h => pe_callTy call_tuple_of (by rfl) T.z_tuple (by decide +kernel) h))
theorem sc_swings_of : GScope ["policy", "places", "extra", "first", "place", "total", "last", "high", "low"] ["policy"] (defScope st_swings_of) := ⟨rfl, rfl, rfl, by decide +kernel, rfl, by decide +kernel, by decide +kernel⟩
theorem o_swings_of (T : Txt K mg z base) : IsGn gu P w K mg base (clsA z) 1 "swings_of" g_swings_of := by
  refine ⟨_, _, _, _, st_swings_of, _, _, T.m_swings_of, T.F_swings_of.kp, T.F_swings_of, T.B_swings_of, sc_swings_of, fun _ => rfl, nocell (by decide +kernel), fun cdv A outer n0 a o Tt hr cl ok policy => ?_⟩
  unfold g_swings_of
  have sc := sc_swings_of
  have hu := hr.units
  have i_boundaries : IsFn gu P w K mg base (clsA z) 1 "boundaries" (fs1 t_boundaries) := ⟨_, _, _, T.m_boundaries, T.F_boundaries.kp, T.B_boundaries, (o_boundaries T).mono (by decide)⟩
  exact gj_seq (oa1 := fun (s : D × D) => [.val policy, .val s.1, .val s.2, .un, .un, .un, .un, .un, .un]) (ob := noB) (fun _ _ _ => s_par (i := 1) (j := 2) rfl sc.nd rfl rfl (by decide) rfl rfl (k_val (c_call i_boundaries hr cl takes0 (by rfl) (a_cons (c_var (pv 0) rfl) a_nil))) (k_val (c_bin op_mulA sv_mul (c_int) (c_idx (c_var (pv 0) rfl) (c_int)))) (fun places extra => s_nil (.eq (.eq (.eq (.un (.un (.un (.un (.un (.un .nil)))))))))) (by rfl)) (fun s => gj_for ok (fun (s_1 : List D) => [.val policy, .val s.1, .val s.2, .un, .un, .un, .un, .un, .un]) (fun (s_1 : List D) => s_1) (fun _ _ _ => i2_enum2 (by rfl) T.z_enumerate (a_cons (c_var (pv 1) rfl) (a_cons (c_int) a_nil))) (fun _ _ _ => g_tp rfl (gs_cons (g_nm (pg_name (i := 3) sc.nd rfl (by first | exact Or.inl rfl | exact Or.inr rfl))) (gs_cons (g_nm (pg_name (i := 4) sc.nd rfl (by first | exact Or.inl rfl | exact Or.inr rfl))) gs_nil))) (.eq (.eq (.eq (.un (.un (.un (.un (.un (.un .nil))))))))) rfl (fun x s_1 => bd_2 fun first place => bd_nm (bd_nm (gj_seq (oa1 := fun (s_2 : D) => [.val policy, .val s.1, .val s.2, .val first, .val place, .val s_2, .un, .un, .un]) (ob := noB) (fun _ _ _ => s_set (s := Sl.val) (k_val (c_int)) (pg_name (i := 5) sc.nd rfl (by first | exact Or.inl rfl | exact Or.inr rfl)) (fun total => s_nil (.eq (.eq (.eq (.eq (.eq (.eq (.un (.un (.un .nil))))))))))) (fun s_2 => gj_for ok (fun (s_3 : List D × D) => [.val policy, .val s.1, .val s.2, .val first, .val place, .val s_3.2, .un, .un, .un]) (fun (s_3 : List D × D) => s_3.1) (fun _ _ _ => i2_enum2 (by rfl) T.z_enumerate (a_cons (c_slc (c_var (pv 1) rfl) (o_some (c_bin op_sub sv_sub (c_var (pv 3) rfl) (c_int))) o_none) (a_cons (c_var (pv 3) rfl) a_nil))) (fun _ _ _ => g_tp rfl (gs_cons (g_nm (pg_name (i := 6) sc.nd rfl (by first | exact Or.inl rfl | exact Or.inr rfl))) (gs_cons (g_tp rfl (gs_cons (g_nm (pg_name (i := 7) sc.nd rfl (by first | exact Or.inl rfl | exact Or.inr rfl))) (gs_cons (g_nm (pg_name (i := 8) sc.nd rfl (by first | exact Or.inl rfl | exact Or.inr rfl))) gs_nil))) gs_nil))) (.eq (.eq (.eq (.eq (.eq (.eq (.un (.un (.un .nil))))))))) rfl (fun x_1 s_3 => bd_2 fun last q => bd_nm (bd_2 fun high low => bd_nm (bd_nm (gj_seq (oa1 := fun (s_4 : D) => [.val policy, .val s.1, .val s.2, .val first, .val place, .val s_4, .val last, .val high, .val low]) (ob := noB) (fun _ _ _ => s_aug (o := .add) (i := 5) (f := fun i j => i + j) (fun _ _ => rfl) augS_add ip_add sc.nd rfl (by first | exact Or.inl rfl | exact Or.inr rfl) rfl (c_bin op_addA sv_add (c_bin op_addA sv_add (c_var (pv 7) rfl) (c_var (pv 8) rfl)) (c_var (pv 2) rfl)) (fun total_1 => s_nil (.eq (.eq (.eq (.eq (.eq (.eq (.eq (.eq (.eq .nil))))))))))) (fun s_4 => gj_yield ok (fun _ _ _ => c_tup (a_cons (c_var (pv 3) rfl) (a_cons (c_var (pv 6) rfl) (a_cons (c_var (pv 5) rfl) (a_cons (c_bin op_mulA sv_mul (c_int) (c_bin op_sub sv_sub (c_bin op_addA sv_add (c_var (pv 7) rfl) (c_int)) (c_idx (c_var (pv 4) rfl) (c_int)))) a_nil))))) (fun ys => gj_nil (.eq (.eq (.eq (.eq (.eq (.eq (.un (.un (.un .nil))))))))) rfl) rfl rfl))))) (fun s_5 => gj_nil (.eq (.eq (.eq (.un (.un (.un (.un (.un (.un .nil))))))))) rfl) (fun _ => rfl))))) (fun s_6 => gj_nil (sub_un rfl) rfl) (fun _ => rfl))
theorem sc_dearest_swing : FnScope ["policy", "best", "found", "first", "last", "total", "length"] ["policy"] (defScope st_dearest_swing) := ⟨rfl, rfl, rfl, by decide +kernel, rfl, by decide +kernel, by decide +kernel⟩
theorem o_dearest_swing (T : Txt K mg z base) : FnG gu P w K mg base (L2.CX P w) 4 z.a_dearest_swing z.d_dearest_swing ["policy"] (spM ⟨K, clsA z⟩ (fs1 t_dearest_swing)) := by
  refine fnp_1 (k := 3) (b := bd_dearest_swing) T.F_dearest_swing sc_dearest_swing (fun _ => rfl) fun policy cdv A outer s0 H E hX hr0 cl0 => ?_
  unfold bd_dearest_swing
  have sc := sc_dearest_swing
  have hr : Room 3 (cxOf (L2.CX P w) P w K mg base ["policy", "best", "found", "first", "last", "total", "length"] "dearest_swing" (defScope st_dearest_swing) z.a_dearest_swing cdv A outer s0 H E).A := hr0
  have cl : Clr gu (cxOf (L2.CX P w) P w K mg base ["policy", "best", "found", "first", "last", "total", "length"] "dearest_swing" (defScope st_dearest_swing) z.a_dearest_swing cdv A outer s0 H E).A := cl0
  have hu := hr.units
  have tk : Takes (cxOf (L2.CX P w) P w K mg base ["policy", "best", "found", "first", "last", "total", "length"] "dearest_swing" (defScope st_dearest_swing) z.a_dearest_swing cdv A outer s0 H E) (fun c d _ H' => E c d H') := takes_of rfl rfl rfl rfl
  have hp := passes_of (X := (cxOf (L2.CX P w) P w K mg base ["policy", "best", "found", "first", "last", "total", "length"] "dearest_swing" (defScope st_dearest_swing) z.a_dearest_swing cdv A outer s0 H E)) rfl
  have i_is_less : IsFn gu P w K mg base (clsA z) 3 "is_less" (fs2 t_is_less) := ⟨_, _, _, T.m_is_less, T.F_is_less.kp, T.B_is_less, (o_is_less T).mono (by decide)⟩
  have n_swings_of : IsGn gu P w K mg base (clsA z) 1 "swings_of" g_swings_of := o_swings_of T
  exact s_par (i := 1) (j := 2) rfl sc.nd rfl rfl (by decide) rfl rfl (k_val (c_cst (v := .ref z.t_NO_PRICE) (pe_glob (by rfl) T.k_NO_PRICE rfl) (fun _ _ => T.r_NO_PRICE _ _))) (k_val (c_non)) (fun best found => s_forP hX ⟨rfl, rfl, rfl, rfl⟩ rfl hp (fun (s : D × D) => [.val policy, .val s.1, .val s.2, .un, .un, .un, .un]) (hr.mono (by decide)) cl (by rfl) n_swings_of (c_var (pv 0) rfl) (g_tp rfl (gs_cons (g_nm (pg_name (i := 3) sc.nd rfl (by first | exact Or.inl rfl | exact Or.inr rfl))) (gs_cons (g_nm (pg_name (i := 4) sc.nd rfl (by first | exact Or.inl rfl | exact Or.inr rfl))) (gs_cons (g_nm (pg_name (i := 5) sc.nd rfl (by first | exact Or.inl rfl | exact Or.inr rfl))) (gs_cons (g_nm (pg_name (i := 6) sc.nd rfl (by first | exact Or.inl rfl | exact Or.inr rfl))) gs_nil))))) (.eq (.eq (.eq (.un (.un (.un (.un .nil))))))) (fun x s => bd_4 fun first last total length => bd_nm (bd_nm (bd_nm (bd_nm (s_ifL (p_truth (c_call i_is_less hr cl takes0 (by rfl) (a_cons (c_var (pv 1) rfl) (a_cons (c_tup (a_cons (c_var (pv 5) rfl) (a_cons (c_var (pv 6) rfl) a_nil))) a_nil)))) (s_par (i := 1) (j := 2) rfl sc.nd rfl rfl (by decide) rfl rfl (k_val (c_tup (a_cons (c_var (pv 5) rfl) (a_cons (c_var (pv 6) rfl) a_nil)))) (k_val (c_tup (a_cons (c_var (pv 3) rfl) (a_cons (c_var (pv 4) rfl) a_nil)))) (fun best_1 found_1 => s_nil (.eq (.eq (.eq (.un (.un (.un (.un .nil)))))))) (by rfl)) (s_nil (.eq (.eq (.eq (.un (.un (.un (.un .nil))))))))))))) (fun s_1 => s_ret (c_tup (a_cons (c_var (pv 1) rfl) (a_cons (c_var (pv 2) rfl) a_nil))))) (by rfl)
theorem sc_worst_price : FnScope ["policy", "total", "length", "found"] ["policy"] (defScope st_worst_price) := ⟨rfl, rfl, rfl, by decide +kernel, rfl, by decide +kernel, by decide +kernel⟩
theorem o_worst_price (T : Txt K mg z base) : FnG gu P w K mg base (L2.CX P w) 5 z.a_worst_price z.d_worst_price ["policy"] (spM ⟨K, clsA z⟩ (fs1 t_worst_price)) := by
  refine fn_1 (k := 4) (b := bd_worst_price) T.F_worst_price sc_worst_price (.inl fun _ => rfl) fun policy cdv A outer s0 H E gB hr0 cl0 => ?_
  unfold bd_worst_price
  have sc := sc_worst_price
  have hr : Room 4 (cxOf (L2.CX P w) P w K mg base ["policy", "total", "length", "found"] "worst_price" (defScope st_worst_price) z.a_worst_price cdv A outer s0 H E).A := hr0
  have cl : Clr gu (cxOf (L2.CX P w) P w K mg base ["policy", "total", "length", "found"] "worst_price" (defScope st_worst_price) z.a_worst_price cdv A outer s0 H E).A := cl0
  have hu := hr.units
  have tk : Takes (cxOf (L2.CX P w) P w K mg base ["policy", "total", "length", "found"] "worst_price" (defScope st_worst_price) z.a_worst_price cdv A outer s0 H E) (fun c d _ H' => E c d H') := takes_of rfl rfl rfl rfl
  have hp := passes_of (X := (cxOf (L2.CX P w) P w K mg base ["policy", "total", "length", "found"] "worst_price" (defScope st_worst_price) z.a_worst_price cdv A outer s0 H E)) rfl
  have i_dearest_swing : IsFn gu P w K mg base (clsA z) 4 "dearest_swing" (fs1 t_dearest_swing) := ⟨_, _, _, T.m_dearest_swing, T.F_dearest_swing.kp, T.B_dearest_swing, (o_dearest_swing T).mono (by decide)⟩
  have i_fraction : IsFn gu P w K mg base (clsA z) 4 "fraction" (fs2 t_fraction) := ⟨_, _, _, T.m_fraction, T.F_fraction.kp, T.B_fraction, (o_fraction T).mono (by decide)⟩
  exact s_asgP (c_call i_dearest_swing hr cl tk (by rfl) (a_cons (c_var (pv 0) rfl) a_nil)) (g_tp rfl (gs_cons (g_tp rfl (gs_cons (g_nm (pg_name (i := 1) sc.nd rfl (by first | exact Or.inl rfl | exact Or.inr rfl))) (gs_cons (g_nm (pg_name (i := 2) sc.nd rfl (by first | exact Or.inl rfl | exact Or.inr rfl))) gs_nil))) (gs_cons (g_nm (pg_name (i := 3) sc.nd rfl (by first | exact Or.inl rfl | exact Or.inr rfl))) gs_nil))) (fun x => bd_2 fun q found => bd_2 fun total length => bd_nm (bd_nm (bd_end (bd_nm (s_ret (c_call i_fraction hr cl tk (by rfl) (a_cons (c_var (pv 1) rfl) (a_cons (c_var (pv 2) rfl) a_nil))))))))
theorem sc_worst_swing : FnScope ["policy"] ["policy"] (defScope st_worst_swing) := ⟨rfl, rfl, rfl, by decide +kernel, rfl, by decide +kernel, by decide +kernel⟩
theorem o_worst_swing (T : Txt K mg z base) : FnG gu P w K mg base (L2.CX P w) 5 z.a_worst_swing z.d_worst_swing ["policy"] (spM ⟨K, clsA z⟩ (fs1 t_worst_swing)) := by
  refine fn_1 (k := 4) (b := bd_worst_swing) T.F_worst_swing sc_worst_swing (.inl fun _ => rfl) fun policy cdv A outer s0 H E gB hr0 cl0 => ?_
  unfold bd_worst_swing
  have sc := sc_worst_swing
  have hr : Room 4 (cxOf (L2.CX P w) P w K mg base ["policy"] "worst_swing" (defScope st_worst_swing) z.a_worst_swing cdv A outer s0 H E).A := hr0
  have cl : Clr gu (cxOf (L2.CX P w) P w K mg base ["policy"] "worst_swing" (defScope st_worst_swing) z.a_worst_swing cdv A outer s0 H E).A := cl0
  have hu := hr.units
  have tk : Takes (cxOf (L2.CX P w) P w K mg base ["policy"] "worst_swing" (defScope st_worst_swing) z.a_worst_swing cdv A outer s0 H E) (fun c d _ H' => E c d H') := takes_of rfl rfl rfl rfl
  have hp := passes_of (X := (cxOf (L2.CX P w) P w K mg base ["policy"] "worst_swing" (defScope st_worst_swing) z.a_worst_swing cdv A outer s0 H E)) rfl
  have i_dearest_swing : IsFn gu P w K mg base (clsA z) 4 "dearest_swing" (fs1 t_dearest_swing) := ⟨_, _, _, T.m_dearest_swing, T.F_dearest_swing.kp, T.B_dearest_swing, (o_dearest_swing T).mono (by decide)⟩
  exact s_ret (c_idx (c_call i_dearest_swing hr cl tk (by rfl) (a_cons (c_var (pv 0) rfl) a_nil)) (c_int))
theorem sc_joint_price : FnScope ["policies", "best", "policy", "here"] ["policies"] (defScope st_joint_price) := ⟨rfl, rfl, rfl, by decide +kernel, rfl, by decide +kernel, by decide +kernel⟩
theorem o_joint_price (T : Txt K mg z base) : FnR P w K mg base (L2.CX P w) 6 z.a_joint_price (spM ⟨K, clsA z⟩ (starF t_joint_price)) := by
  refine fnS_1 (k := 5) (b := bd_joint_price) T.F_joint_price sc_joint_price T.S_joint_price (fun _ => rfl) fun policies cdv A outer s0 H E gB hr0 cl0 => ?_
  unfold bd_joint_price
  have sc := sc_joint_price
  have hr : Room 5 (cxOf (L2.CX P w) P w K mg base ["policies", "best", "policy", "here"] "joint_price" (defScope st_joint_price) z.a_joint_price cdv A outer s0 H E).A := hr0
  have cl : Clr false (cxOf (L2.CX P w) P w K mg base ["policies", "best", "policy", "here"] "joint_price" (defScope st_joint_price) z.a_joint_price cdv A outer s0 H E).A := cl0
  have hu := hr.units
  have tk : Takes (cxOf (L2.CX P w) P w K mg base ["policies", "best", "policy", "here"] "joint_price" (defScope st_joint_price) z.a_joint_price cdv A outer s0 H E) (fun c d _ H' => E c d H') := takes_of rfl rfl rfl rfl
  have hp := passes_of (X := (cxOf (L2.CX P w) P w K mg base ["policies", "best", "policy", "here"] "joint_price" (defScope st_joint_price) z.a_joint_price cdv A outer s0 H E)) rfl
  have i_is_less : IsFn false P w K mg base (clsA z) 5 "is_less" (fs2 t_is_less) := ⟨_, _, _, T.m_is_less, T.F_is_less.kp, T.B_is_less, (o_is_less T).mono (by decide)⟩
  have i_worst_price : IsFn false P w K mg base (clsA z) 5 "worst_price" (fs1 t_worst_price) := ⟨_, _, _, T.m_worst_price, T.F_worst_price.kp, T.B_worst_price, (o_worst_price T).mono (by decide)⟩
  exact s_set (s := Sl.val) (k_val (c_cst (v := .ref z.t_NO_PRICE) (pe_glob (by rfl) T.k_NO_PRICE rfl) (fun _ _ => T.r_NO_PRICE _ _))) (pg_name (i := 1) sc.nd rfl (by first | exact Or.inl rfl | exact Or.inr rfl)) (fun best => s_for hp rfl (fun (s : D) => [.val policies, .val s, .un, .un]) (i_seq (c_var (pv 0) rfl)) (g_nm (pg_name (i := 2) sc.nd rfl (by first | exact Or.inl rfl | exact Or.inr rfl))) (.eq (.eq (.un (.un .nil)))) (fun policy s => bd_nm (s_set (s := Sl.val) (k_val (c_call i_worst_price hr cl tk (by rfl) (a_cons (c_var (pv 2) rfl) a_nil))) (pg_name (i := 3) sc.nd rfl (by first | exact Or.inl rfl | exact Or.inr rfl)) (fun here => s_set (s := Sl.val) (k_val (c_ite (p_truth (c_call i_is_less hr cl tk (by rfl) (a_cons (c_var (pv 1) rfl) (a_cons (c_var (pv 3) rfl) a_nil)))) (c_var (pv 3) rfl) (c_var (pv 1) rfl))) (pg_name (i := 1) sc.nd rfl (by first | exact Or.inl rfl | exact Or.inr rfl)) (fun best_1 => s_nil (.eq (.eq (.un (.un .nil)))))))) (fun s_1 => s_ret (c_var (pv 1) rfl)))
theorem sc_law_draws : FnScope ["_law_script", "_law_k", "_law_cell", "_law_great"] ["_law_script", "_law_k"] (defScope st_law_draws) := ⟨rfl, rfl, rfl, by decide +kernel, rfl, by decide +kernel, by decide +kernel⟩
theorem o_law_draws (T : Txt K mg z base) : FnG gu P w K mg base (L2.CX P w) 1 z.a_law_draws z.d_law_draws ["_law_script", "_law_k"] (spM ⟨K, clsA z⟩ (fs2 t_law_draws)) := by
  refine fn_2 (k := 0) (b := bd_law_draws) T.F_law_draws sc_law_draws (.inl fun _ _ => rfl) fun script k cdv A outer s0 H E gB hr0 cl0 => ?_
  unfold bd_law_draws
  have sc := sc_law_draws
  have hr : Room 0 (cxOf (L2.CX P w) P w K mg base ["_law_script", "_law_k", "_law_cell", "_law_great"] "_law_draws" (defScope st_law_draws) z.a_law_draws cdv A outer s0 H E).A := hr0
  have cl : Clr gu (cxOf (L2.CX P w) P w K mg base ["_law_script", "_law_k", "_law_cell", "_law_great"] "_law_draws" (defScope st_law_draws) z.a_law_draws cdv A outer s0 H E).A := cl0
  have hu := hr.units
  have tk : Takes (cxOf (L2.CX P w) P w K mg base ["_law_script", "_law_k", "_law_cell", "_law_great"] "_law_draws" (defScope st_law_draws) z.a_law_draws cdv A outer s0 H E) (fun c d _ H' => E c d H') := takes_of rfl rfl rfl rfl
  have hp := passes_of (X := (cxOf (L2.CX P w) P w K mg base ["_law_script", "_law_k", "_law_cell", "_law_great"] "_law_draws" (defScope st_law_draws) z.a_law_draws cdv A outer s0 H E)) rfl
  exact s_set (s := Sl.val) (k_val (c_ite (p_cmp op_lt sv_lt (nomark _) (c_var (pv 1) rfl) (c_bi sv_len (a_cons (c_var (pv 0) rfl) a_nil) (fun {_} h => pe_callB call_lenA (by rfl) T.z_len (by decide +kernel) h))) (c_idx (c_var (pv 0) rfl) (c_var (pv 1) rfl)) (c_bin op_addA sv_add (c_bin op_mulA sv_mul (c_int) (c_var (pv 1) rfl)) (c_int)))) (pg_name (i := 2) sc.nd rfl (by first | exact Or.inl rfl | exact Or.inr rfl)) (fun cell => s_set (s := Sl.val) (k_val (c_bin op_mulA sv_mul (c_bin op_mod sv_mod (c_bi sv_abs (a_cons (c_var (pv 2) rfl) a_nil) (fun {_} h => pe_callB call_abs (by rfl) T.z_abs (by decide +kernel) h)) (c_bin op_powW sv_pow (c_bin op_powW sv_pow (c_int) (c_int)) (c_int))) (c_bi sv_int (a_cons (c_cmp op_ge sv_ge (nomark _) (c_bi sv_abs (a_cons (c_var (pv 2) rfl) a_nil) (fun {_} h => pe_callB call_abs (by rfl) T.z_abs (by decide +kernel) h)) (c_bin op_powW sv_pow (c_int) (c_int))) a_nil) (fun {_} h => pe_callTy call_int1 (by rfl) T.z_int (by decide +kernel) h)))) (pg_name (i := 3) sc.nd rfl (by first | exact Or.inl rfl | exact Or.inr rfl)) (fun great => s_ret (c_lsh (a_cons (c_var (pv 3) rfl) (a_cons (c_bin op_mod sv_mod (c_bin op_mulA sv_mul (c_bin op_addA sv_add (c_bin op_addA sv_add (c_bin op_mod sv_mod (c_var (pv 2) rfl) (c_int)) (c_bin op_mulA sv_mul (c_bin op_mulA sv_mul (c_int) (c_var (pv 1) rfl)) (c_var (pv 1) rfl))) (c_int)) (c_int)) (c_int)) (a_cons (c_int) a_nil))))))
theorem sc_law_below : FnScope ["_law_draws_here", "_law_many", "_law_digit", "_law_step", "_law_prime", "_law_mixed"] ["_law_draws_here", "_law_many"] (defScope st_law_below) := ⟨rfl, rfl, rfl, by decide +kernel, rfl, by decide +kernel, by decide +kernel⟩
theorem o_law_below (T : Txt K mg z base) : FnG gu P w K mg base (L2.CX P w) 1 z.a_law_below z.d_law_below ["_law_draws_here", "_law_many"] (spM ⟨K, clsA z⟩ (fs2 t_law_below)) := by
  refine fn_2 (k := 0) (b := bd_law_below) T.F_law_below sc_law_below (.inl fun _ _ => rfl) fun draws_here many cdv A outer s0 H E gB hr0 cl0 => ?_
  unfold bd_law_below
  have sc := sc_law_below
  have hr : Room 0 (cxOf (L2.CX P w) P w K mg base ["_law_draws_here", "_law_many", "_law_digit", "_law_step", "_law_prime", "_law_mixed"] "_law_below" (defScope st_law_below) z.a_law_below cdv A outer s0 H E).A := hr0
  have cl : Clr gu (cxOf (L2.CX P w) P w K mg base ["_law_draws_here", "_law_many", "_law_digit", "_law_step", "_law_prime", "_law_mixed"] "_law_below" (defScope st_law_below) z.a_law_below cdv A outer s0 H E).A := cl0
  have hu := hr.units
  have tk : Takes (cxOf (L2.CX P w) P w K mg base ["_law_draws_here", "_law_many", "_law_digit", "_law_step", "_law_prime", "_law_mixed"] "_law_below" (defScope st_law_below) z.a_law_below cdv A outer s0 H E) (fun c d _ H' => E c d H') := takes_of rfl rfl rfl rfl
  have hp := passes_of (X := (cxOf (L2.CX P w) P w K mg base ["_law_draws_here", "_law_many", "_law_digit", "_law_step", "_law_prime", "_law_mixed"] "_law_below" (defScope st_law_below) z.a_law_below cdv A outer s0 H E)) rfl
  exact s_if (oa' := fun (s : Unit) => [.val draws_here, .val many, .un, .un, .un, .un]) (p_cmp op_gt sv_gt (nomark _) (c_idx (c_var (pv 0) rfl) (c_int)) (c_int)) (s_set (s := Sl.val) (k_val (c_bin op_mod sv_mod (c_idx (c_var (pv 0) rfl) (c_int)) (c_var (pv 1) rfl))) (pg_name (i := 2) sc.nd rfl (by first | exact Or.inl rfl | exact Or.inr rfl)) (fun digit => s_tgt (c_bin op_fdivW sv_fdiv (c_idx (c_var (pv 0) rfl) (c_int)) (c_var (pv 1) rfl)) (tg_sub (c_var (pv 0) rfl) (c_int)) (s_ret (c_var (pv 2) rfl)))) (s_nil (.eq (.eq (.un (.un (.un (.un .nil))))))) (fun s => s_set (s := Sl.val) (k_val (c_bin op_addA sv_add (c_idx (c_var (pv 0) rfl) (c_int)) (c_int))) (pg_name (i := 3) sc.nd rfl (by first | exact Or.inl rfl | exact Or.inr rfl)) (fun step => s_tgt (c_var (pv 3) rfl) (tg_sub (c_var (pv 0) rfl) (c_int)) (s_set (s := Sl.val) (k_val (c_idx (c_lst (a_cons (c_int) (a_cons (c_int) (a_cons (c_int) (a_cons (c_int) a_nil))))) (c_bin op_mod sv_mod (c_var (pv 3) rfl) (c_int)))) (pg_name (i := 4) sc.nd rfl (by first | exact Or.inl rfl | exact Or.inr rfl)) (fun prime => s_set (s := Sl.val) (k_val (c_bin op_mod sv_mod (c_bin op_addA sv_add (c_bin op_addA sv_add (c_idx (c_var (pv 0) rfl) (c_int)) (c_bin op_mulA sv_mul (c_bin op_mulA sv_mul (c_int) (c_var (pv 3) rfl)) (c_var (pv 3) rfl))) (c_bin op_mulA sv_mul (c_int) (c_var (pv 3) rfl))) (c_var (pv 4) rfl))) (pg_name (i := 5) sc.nd rfl (by first | exact Or.inl rfl | exact Or.inr rfl)) (fun mixed => s_set (s := Sl.val) (k_val (c_bin op_mod sv_mod (c_bin op_powW sv_pow (c_var (pv 5) rfl) (c_int)) (c_var (pv 4) rfl))) (pg_name (i := 5) sc.nd rfl (by first | exact Or.inl rfl | exact Or.inr rfl)) (fun mixed_1 => s_ret (c_bin op_mod sv_mod (c_bin op_addA sv_add (c_bin op_fdivW sv_fdiv (c_var (pv 5) rfl) (c_int)) (c_bin op_mulA sv_mul (c_bin op_fdivW sv_fdiv (c_var (pv 5) rfl) (c_int)) (c_int))) (c_var (pv 1) rfl))))))))
theorem sc_law_pick : FnScope ["_law_draws_here", "_law_items"] ["_law_draws_here", "_law_items"] (defScope st_law_pick) := ⟨rfl, rfl, rfl, by decide +kernel, rfl, by decide +kernel, by decide +kernel⟩
theorem o_law_pick (T : Txt K mg z base) : FnG gu P w K mg base (L2.CX P w) 2 z.a_law_pick z.d_law_pick ["_law_draws_here", "_law_items"] (spM ⟨K, clsA z⟩ (fs2 t_law_pick)) := by
  refine fn_2 (k := 1) (b := bd_law_pick) T.F_law_pick sc_law_pick (.inl fun _ _ => rfl) fun draws_here items cdv A outer s0 H E gB hr0 cl0 => ?_
  unfold bd_law_pick
  have sc := sc_law_pick
  have hr : Room 1 (cxOf (L2.CX P w) P w K mg base ["_law_draws_here", "_law_items"] "_law_pick" (defScope st_law_pick) z.a_law_pick cdv A outer s0 H E).A := hr0
  have cl : Clr gu (cxOf (L2.CX P w) P w K mg base ["_law_draws_here", "_law_items"] "_law_pick" (defScope st_law_pick) z.a_law_pick cdv A outer s0 H E).A := cl0
  have hu := hr.units
  have tk : Takes (cxOf (L2.CX P w) P w K mg base ["_law_draws_here", "_law_items"] "_law_pick" (defScope st_law_pick) z.a_law_pick cdv A outer s0 H E) (fun c d _ H' => E c d H') := takes_of rfl rfl rfl rfl
  have hp := passes_of (X := (cxOf (L2.CX P w) P w K mg base ["_law_draws_here", "_law_items"] "_law_pick" (defScope st_law_pick) z.a_law_pick cdv A outer s0 H E)) rfl
  have i_law_below : IsFn gu P w K mg base (clsA z) 1 "_law_below" (fs2 t_law_below) := ⟨_, _, _, T.m_law_below, T.F_law_below.kp, T.B_law_below, (o_law_below T).mono (by decide)⟩
  exact s_ret (c_idx (c_var (pv 1) rfl) (c_call i_law_below hr cl tk (by rfl) (a_cons (c_var (pv 0) rfl) (a_cons (c_bi sv_len (a_cons (c_var (pv 1) rfl) a_nil) (fun {_} h => pe_callB call_lenA (by rfl) T.z_len (by decide +kernel) h)) a_nil))))
theorem sc_law_policy : FnScope ["_law_draws_here", "_law_levels", "_law_step", "_law_way", "_law_low", "_law_capacities", "_law_turn", "_law_more", "_law_limits", "_law_room", "_law_some"] ["_law_draws_here", "_law_levels", "_law_step"] (defScope st_law_policy) := ⟨rfl, rfl, rfl, by decide +kernel, rfl, by decide +kernel, by decide +kernel⟩
theorem o_law_policy (T : Txt K mg z base) : FnG gu P w K mg base (L2.CX P w) 3 z.a_law_policy z.d_law_policy ["_law_draws_here", "_law_levels", "_law_step"] (spM ⟨K, clsA z⟩ (fs3 t_law_policy)) := by
  refine fn_3 (k := 2) (b := bd_law_policy) T.F_law_policy sc_law_policy (.inl fun _ _ _ => rfl) fun draws_here levels step cdv A outer s0 H E gB hr0 cl0 => ?_
  unfold bd_law_policy
  have sc := sc_law_policy
  have hr : Room 2 (cxOf (L2.CX P w) P w K mg base ["_law_draws_here", "_law_levels", "_law_step", "_law_way", "_law_low", "_law_capacities", "_law_turn", "_law_more", "_law_limits", "_law_room", "_law_some"] "_law_policy" (defScope st_law_policy) z.a_law_policy cdv A outer s0 H E).A := hr0
  have cl : Clr gu (cxOf (L2.CX P w) P w K mg base ["_law_draws_here", "_law_levels", "_law_step", "_law_way", "_law_low", "_law_capacities", "_law_turn", "_law_more", "_law_limits", "_law_room", "_law_some"] "_law_policy" (defScope st_law_policy) z.a_law_policy cdv A outer s0 H E).A := cl0
  have hu := hr.units
  have tk : Takes (cxOf (L2.CX P w) P w K mg base ["_law_draws_here", "_law_levels", "_law_step", "_law_way", "_law_low", "_law_capacities", "_law_turn", "_law_more", "_law_limits", "_law_room", "_law_some"] "_law_policy" (defScope st_law_policy) z.a_law_policy cdv A outer s0 H E) (fun c d _ H' => E c d H') := takes_of rfl rfl rfl rfl
  have hp := passes_of (X := (cxOf (L2.CX P w) P w K mg base ["_law_draws_here", "_law_levels", "_law_step", "_law_way", "_law_low", "_law_capacities", "_law_turn", "_law_more", "_law_limits", "_law_room", "_law_some"] "_law_policy" (defScope st_law_policy) z.a_law_policy cdv A outer s0 H E)) rfl
  have i_law_below : IsFn gu P w K mg base (clsA z) 2 "_law_below" (fs2 t_law_below) := ⟨_, _, _, T.m_law_below, T.F_law_below.kp, T.B_law_below, (o_law_below T).mono (by decide)⟩
  have i_law_pick : IsFn gu P w K mg base (clsA z) 2 "_law_pick" (fs2 t_law_pick) := ⟨_, _, _, T.m_law_pick, T.F_law_pick.kp, T.B_law_pick, (o_law_pick T).mono (by decide)⟩
  exact s_par3 (i := 3) (j := 4) (l := 5) rfl sc.nd rfl rfl rfl (by decide) (by decide) (by decide) rfl rfl rfl (k_val (c_call i_law_below hr cl tk (by rfl) (a_cons (c_var (pv 0) rfl) (a_cons (c_int) a_nil)))) (k_val (c_neg (c_int))) (k_lst (a_cons (c_bin op_addA sv_add (c_int) (c_call i_law_below hr cl tk (by rfl) (a_cons (c_var (pv 0) rfl) (a_cons (c_var (pv 2) rfl) a_nil)))) a_nil)) (fun way low capacities => s_for hp rfl (fun (s : List D) => [.val draws_here, .val levels, .val step, .val way, .val low, .own s, .un, .un, .un, .un, .un]) (i_rng1 (a_cons (c_call i_law_below hr cl tk (by rfl) (a_cons (c_var (pv 0) rfl) (a_cons (c_var (pv 1) rfl) a_nil))) a_nil) (fun {_} h => pi_range1 (by rfl) T.z_range h)) (g_nm (pg_name (i := 6) sc.nd rfl (by first | exact Or.inl rfl | exact Or.inr rfl))) (.eq (.eq (.eq (.eq (.eq (.eq (.un (.un (.un (.un (.un .nil))))))))))) (fun turn s => bd_nm (s_set (s := Sl.val) (k_val (c_idx (c_lst (a_cons (c_bin op_addA sv_add (c_int) (c_call i_law_below hr cl tk (by rfl) (a_cons (c_var (pv 0) rfl) (a_cons (c_var (pv 2) rfl) a_nil)))) (a_cons (c_idxO (pv 5) rfl (c_neg (c_int))) (a_cons (c_int) (a_cons (c_bin op_addA sv_add (c_int) (c_call i_law_below hr cl tk (by rfl) (a_cons (c_var (pv 0) rfl) (a_cons (c_bin op_mulA sv_mul (c_int) (c_var (pv 2) rfl)) a_nil)))) a_nil))))) (c_var (pv 3) rfl))) (pg_name (i := 7) sc.nd rfl (by first | exact Or.inl rfl | exact Or.inr rfl)) (fun more => s_app (pv 5) rfl (c_bin op_addA sv_add (c_idxO (pv 5) rfl (c_neg (c_int))) (c_var (pv 7) rfl)) (fun capacities_1 => s_nil (.eq (.eq (.eq (.eq (.eq (.eq (.un (.un (.un (.un (.un .nil)))))))))))) (fun {_} {_} ho ha => pe_bm PySem.F.plainAttrs_list PySem.F.slot_list_append PySem.F.type_list_append mt_append ho ha)))) (fun s_1 => s_par (i := 3) (j := 8) rfl sc.nd rfl rfl (by decide) rfl rfl (k_val (c_call i_law_below hr cl tk (by rfl) (a_cons (c_var (pv 0) rfl) (a_cons (c_int) a_nil)))) (k_lst (a_nil)) (fun way_1 limits => s_frz (i := 5) rfl (s_for hp rfl (fun (s_2 : D × List D) => [.val draws_here, .val levels, .val step, .val way_1, .val s_2.1, .val ((.fl s_1)), .un, .un, .own s_2.2, .un, .un]) (i_seq (c_slc (c_var (pv 5) rfl) o_none (o_some (c_neg (c_int))))) (g_nm (pg_name (i := 9) sc.nd rfl (by first | exact Or.inl rfl | exact Or.inr rfl))) (.eq (.eq (.eq (.eq (.eq (.eq (.un (.un (.eq (.un (.un .nil))))))))))) (fun room s_2 => bd_nm (s_set (s := Sl.val) (k_val (c_lst (a_cons (c_bin op_addA sv_add (c_var (pv 4) rfl) (c_int)) (a_cons (c_var (pv 9) rfl) (a_cons (c_bin op_addA sv_add (c_bin op_addA sv_add (c_var (pv 4) rfl) (c_int)) (c_call i_law_below hr cl tk (by rfl) (a_cons (c_var (pv 0) rfl) (a_cons (c_bin op_sub sv_sub (c_var (pv 9) rfl) (c_var (pv 4) rfl)) a_nil)))) (a_cons (c_bi sv_max2 (a_cons (c_bin op_addA sv_add (c_var (pv 4) rfl) (c_int)) (a_cons (c_bin op_fdivW sv_fdiv (c_var (pv 9) rfl) (c_int)) a_nil)) (fun {_} h => pe_callB (call_max2 rfl) (by rfl) T.z_max (by decide +kernel) h)) a_nil)))))) (pg_name (i := 10) sc.nd rfl (by first | exact Or.inl rfl | exact Or.inr rfl)) (fun v_some => s_set (s := Sl.val) (k_val (c_idx (c_var (pv 10) rfl) (c_var (pv 3) rfl))) (pg_name (i := 4) sc.nd rfl (by first | exact Or.inl rfl | exact Or.inr rfl)) (fun low_1 => s_app (pv 8) rfl (c_var (pv 4) rfl) (fun limits_1 => s_nil (.eq (.eq (.eq (.eq (.eq (.eq (.un (.un (.eq (.un (.un .nil)))))))))))) (fun {_} {_} ho ha => pe_bm PySem.F.plainAttrs_list PySem.F.slot_list_append PySem.F.type_list_append mt_append ho ha))))) (fun s_3 => s_frz (i := 8) rfl (s_ret (c_tup (a_cons (c_bi sv_tuple (a_cons (c_var (pv 5) rfl) a_nil) (fun {_} h => pe_callTy call_tuple_of (by rfl) T.z_tuple (by decide +kernel) h)) (a_cons (c_bi sv_tuple (a_cons (c_var (pv 8) rfl) a_nil) (fun {_} h => pe_callTy call_tuple_of (by rfl) T.z_tuple (by decide +kernel) h)) (a_cons (c_call i_law_pick hr cl tk (by rfl) (a_cons (c_var (pv 0) rfl) (a_cons (c_lst (a_cons (c_int) (a_cons (c_int) (a_cons (c_int) (a_cons (c_call i_law_below hr cl tk (by rfl) (a_cons (c_var (pv 0) rfl) (a_cons (c_int) a_nil))) a_nil))))) a_nil))) a_nil)))))))) (by rfl))) (by rfl)
theorem sc_law_pushed : FnScope ["_law_policy_here", "_law_level", "_law_size", "_law_capacities", "_law_limits", "_law_fixed"] ["_law_policy_here", "_law_level", "_law_size"] (defScope st_law_pushed) := ⟨rfl, rfl, rfl, by decide +kernel, rfl, by decide +kernel, by decide +kernel⟩
theorem o_law_pushed (T : Txt K mg z base) : FnG gu P w K mg base (L2.CX P w) 1 z.a_law_pushed z.d_law_pushed ["_law_policy_here", "_law_level", "_law_size"] (spM ⟨K, clsA z⟩ (fs3 t_law_pushed)) := by
  refine fn_3 (k := 0) (b := bd_law_pushed) T.F_law_pushed sc_law_pushed (.inl fun _ _ _ => rfl) fun policy_here level size cdv A outer s0 H E gB hr0 cl0 => ?_
  unfold bd_law_pushed
  have sc := sc_law_pushed
  have hr : Room 0 (cxOf (L2.CX P w) P w K mg base ["_law_policy_here", "_law_level", "_law_size", "_law_capacities", "_law_limits", "_law_fixed"] "_law_pushed" (defScope st_law_pushed) z.a_law_pushed cdv A outer s0 H E).A := hr0
  have cl : Clr gu (cxOf (L2.CX P w) P w K mg base ["_law_policy_here", "_law_level", "_law_size", "_law_capacities", "_law_limits", "_law_fixed"] "_law_pushed" (defScope st_law_pushed) z.a_law_pushed cdv A outer s0 H E).A := cl0
  have hu := hr.units
  have tk : Takes (cxOf (L2.CX P w) P w K mg base ["_law_policy_here", "_law_level", "_law_size", "_law_capacities", "_law_limits", "_law_fixed"] "_law_pushed" (defScope st_law_pushed) z.a_law_pushed cdv A outer s0 H E) (fun c d _ H' => E c d H') := takes_of rfl rfl rfl rfl
  have hp := passes_of (X := (cxOf (L2.CX P w) P w K mg base ["_law_policy_here", "_law_level", "_law_size", "_law_capacities", "_law_limits", "_law_fixed"] "_law_pushed" (defScope st_law_pushed) z.a_law_pushed cdv A outer s0 H E)) rfl
  exact s_asgP (c_var (pv 0) rfl) (g_tp rfl (gs_cons (g_nm (pg_name (i := 3) sc.nd rfl (by first | exact Or.inl rfl | exact Or.inr rfl))) (gs_cons (g_nm (pg_name (i := 4) sc.nd rfl (by first | exact Or.inl rfl | exact Or.inr rfl))) (gs_cons (g_nm (pg_name (i := 5) sc.nd rfl (by first | exact Or.inl rfl | exact Or.inr rfl))) gs_nil)))) (fun x => bd_3 fun capacities limits fixed => bd_nm (bd_nm (bd_nm (s_if (oa' := fun (s : Unit) => [.val policy_here, .val level, .val size, .val capacities, .val limits, .val fixed]) (p_cmp op_lt sv_lt (nomark _) (c_var (pv 2) rfl) (c_idx (c_var (pv 3) rfl) (c_var (pv 1) rfl))) (s_ret (c_tup (a_cons (c_var (pv 1) rfl) (a_cons (c_bin op_addA sv_add (c_var (pv 2) rfl) (c_int)) (a_cons (c_int) a_nil))))) (s_nil (.eq (.eq (.eq (.eq (.eq (.eq .nil))))))) (fun s => s_ret (c_ite (p_cmp op_lt sv_lt (nomark _) (c_bin op_addA sv_add (c_var (pv 1) rfl) (c_int)) (c_bi sv_len (a_cons (c_var (pv 3) rfl) a_nil) (fun {_} h => pe_callB call_lenA (by rfl) T.z_len (by decide +kernel) h))) (c_tup (a_cons (c_bin op_addA sv_add (c_var (pv 1) rfl) (c_int)) (a_cons (c_bin op_addA sv_add (c_var (pv 2) rfl) (c_int)) (a_cons (c_bin op_addA sv_add (c_var (pv 2) rfl) (c_var (pv 5) rfl)) a_nil)))) (c_non)))))))
theorem sc_law_popped : FnScope ["_law_policy_here", "_law_level", "_law_size", "_law_capacities", "_law_limits", "_law_fixed"] ["_law_policy_here", "_law_level", "_law_size"] (defScope st_law_popped) := ⟨rfl, rfl, rfl, by decide +kernel, rfl, by decide +kernel, by decide +kernel⟩
theorem o_law_popped (T : Txt K mg z base) : FnG gu P w K mg base (L2.CX P w) 1 z.a_law_popped z.d_law_popped ["_law_policy_here", "_law_level", "_law_size"] (spM ⟨K, clsA z⟩ (fs3 t_law_popped)) := by
  refine fn_3 (k := 0) (b := bd_law_popped) T.F_law_popped sc_law_popped (.inl fun _ _ _ => rfl) fun policy_here level size cdv A outer s0 H E gB hr0 cl0 => ?_
  unfold bd_law_popped
  have sc := sc_law_popped
  have hr : Room 0 (cxOf (L2.CX P w) P w K mg base ["_law_policy_here", "_law_level", "_law_size", "_law_capacities", "_law_limits", "_law_fixed"] "_law_popped" (defScope st_law_popped) z.a_law_popped cdv A outer s0 H E).A := hr0
  have cl : Clr gu (cxOf (L2.CX P w) P w K mg base ["_law_policy_here", "_law_level", "_law_size", "_law_capacities", "_law_limits", "_law_fixed"] "_law_popped" (defScope st_law_popped) z.a_law_popped cdv A outer s0 H E).A := cl0
  have hu := hr.units
  have tk : Takes (cxOf (L2.CX P w) P w K mg base ["_law_policy_here", "_law_level", "_law_size", "_law_capacities", "_law_limits", "_law_fixed"] "_law_popped" (defScope st_law_popped) z.a_law_popped cdv A outer s0 H E) (fun c d _ H' => E c d H') := takes_of rfl rfl rfl rfl
  have hp := passes_of (X := (cxOf (L2.CX P w) P w K mg base ["_law_policy_here", "_law_level", "_law_size", "_law_capacities", "_law_limits", "_law_fixed"] "_law_popped" (defScope st_law_popped) z.a_law_popped cdv A outer s0 H E)) rfl
  exact s_asgP (c_var (pv 0) rfl) (g_tp rfl (gs_cons (g_nm (pg_name (i := 3) sc.nd rfl (by first | exact Or.inl rfl | exact Or.inr rfl))) (gs_cons (g_nm (pg_name (i := 4) sc.nd rfl (by first | exact Or.inl rfl | exact Or.inr rfl))) (gs_cons (g_nm (pg_name (i := 5) sc.nd rfl (by first | exact Or.inl rfl | exact Or.inr rfl))) gs_nil)))) (fun x => bd_3 fun capacities limits fixed => bd_nm (bd_nm (bd_nm (s_if (oa' := fun (s : Unit) => [.val policy_here, .val level, .val size, .val capacities, .val limits, .val fixed]) (p_cmp (op_eqA hu) sv_eq (nomark _) (c_var (pv 2) rfl) (c_int)) (s_ret (c_non)) (s_nil (.eq (.eq (.eq (.eq (.eq (.eq .nil))))))) (fun s => s_if (oa' := fun (s_1 : Unit) => [.val policy_here, .val level, .val size, .val capacities, .val limits, .val fixed]) (PW.pt (p_and (p_cmp op_gt sv_gt (nomark _) (c_var (pv 1) rfl) (c_int)) (p_one (p_cmp (op_eqA hu) sv_eq (nomark _) (c_bin op_sub sv_sub (c_var (pv 2) rfl) (c_int)) (c_idx (c_var (pv 4) rfl) (c_bin op_sub sv_sub (c_var (pv 1) rfl) (c_int))))))) (s_ret (c_tup (a_cons (c_bin op_sub sv_sub (c_var (pv 1) rfl) (c_int)) (a_cons (c_bin op_sub sv_sub (c_var (pv 2) rfl) (c_int)) (a_cons (c_bin op_addA sv_add (c_bin op_sub sv_sub (c_var (pv 2) rfl) (c_int)) (c_var (pv 5) rfl)) a_nil))))) (s_nil (.eq (.eq (.eq (.eq (.eq (.eq .nil))))))) (fun s_1 => s_ret (c_tup (a_cons (c_var (pv 1) rfl) (a_cons (c_bin op_sub sv_sub (c_var (pv 2) rfl) (c_int)) (a_cons (c_int) a_nil))))))))))
theorem sc_law_own : FnScope ["_law_policy_here", "_law_capacities", "_law_limits", "_law_fixed", "_law_best", "_law_chosen", "_law_many", "_law_first", "_law_paid", "_law_last", "_law_way"] ["_law_policy_here"] (defScope st_law_own) := ⟨rfl, rfl, rfl, by decide +kernel, rfl, by decide +kernel, by decide +kernel⟩
theorem o_law_own (T : Txt K mg z base) : FnG gu P w K mg base (L2.CX P w) 1 z.a_law_own z.d_law_own ["_law_policy_here"] (spM ⟨K, clsA z⟩ (fs1 t_law_own)) := by
  refine fn_1 (k := 0) (b := bd_law_own) T.F_law_own sc_law_own (.inl fun _ => rfl) fun policy_here cdv A outer s0 H E gB hr0 cl0 => ?_
  unfold bd_law_own
  have sc := sc_law_own
  have hr : Room 0 (cxOf (L2.CX P w) P w K mg base ["_law_policy_here", "_law_capacities", "_law_limits", "_law_fixed", "_law_best", "_law_chosen", "_law_many", "_law_first", "_law_paid", "_law_last", "_law_way"] "_law_own" (defScope st_law_own) z.a_law_own cdv A outer s0 H E).A := hr0
  have cl : Clr gu (cxOf (L2.CX P w) P w K mg base ["_law_policy_here", "_law_capacities", "_law_limits", "_law_fixed", "_law_best", "_law_chosen", "_law_many", "_law_first", "_law_paid", "_law_last", "_law_way"] "_law_own" (defScope st_law_own) z.a_law_own cdv A outer s0 H E).A := cl0
  have hu := hr.units
  have tk : Takes (cxOf (L2.CX P w) P w K mg base ["_law_policy_here", "_law_capacities", "_law_limits", "_law_fixed", "_law_best", "_law_chosen", "_law_many", "_law_first", "_law_paid", "_law_last", "_law_way"] "_law_own" (defScope st_law_own) z.a_law_own cdv A outer s0 H E) (fun c d _ H' => E c d H') := takes_of rfl rfl rfl rfl
  have hp := passes_of (X := (cxOf (L2.CX P w) P w K mg base ["_law_policy_here", "_law_capacities", "_law_limits", "_law_fixed", "_law_best", "_law_chosen", "_law_many", "_law_first", "_law_paid", "_law_last", "_law_way"] "_law_own" (defScope st_law_own) z.a_law_own cdv A outer s0 H E)) rfl
  exact s_asgP (c_var (pv 0) rfl) (g_tp rfl (gs_cons (g_nm (pg_name (i := 1) sc.nd rfl (by first | exact Or.inl rfl | exact Or.inr rfl))) (gs_cons (g_nm (pg_name (i := 2) sc.nd rfl (by first | exact Or.inl rfl | exact Or.inr rfl))) (gs_cons (g_nm (pg_name (i := 3) sc.nd rfl (by first | exact Or.inl rfl | exact Or.inr rfl))) gs_nil)))) (fun x => bd_3 fun capacities limits fixed => bd_nm (bd_nm (bd_nm (s_par3 (i := 4) (j := 5) (l := 6) rfl sc.nd rfl rfl rfl (by decide) (by decide) (by decide) rfl rfl rfl (k_val (c_tup (a_cons (c_int) (a_cons (c_int) a_nil)))) (k_val (c_non)) (k_val (c_bi sv_len (a_cons (c_var (pv 2) rfl) a_nil) (fun {_} h => pe_callB call_lenA (by rfl) T.z_len (by decide +kernel) h))) (fun best chosen many => s_for hp rfl (fun (s : D × D) => [.val policy_here, .val capacities, .val limits, .val fixed, .val s.1, .val s.2, .val many, .un, .un, .un, .un]) (i_rng1 (a_cons (c_var (pv 6) rfl) a_nil) (fun {_} h => pi_range1 (by rfl) T.z_range h)) (g_nm (pg_name (i := 7) sc.nd rfl (by first | exact Or.inl rfl | exact Or.inr rfl))) (.eq (.eq (.eq (.eq (.eq (.eq (.eq (.un (.un (.un (.un .nil))))))))))) (fun first s => bd_nm (s_set (s := Sl.val) (k_val (c_int)) (pg_name (i := 8) sc.nd rfl (by first | exact Or.inl rfl | exact Or.inr rfl)) (fun paid => s_for hp rfl (fun (s_1 : D × D × D) => [.val policy_here, .val capacities, .val limits, .val fixed, .val s_1.1, .val s_1.2.1, .val many, .val first, .val s_1.2.2, .un, .un]) (i_rng2 (a_cons (c_var (pv 7) rfl) (a_cons (c_var (pv 6) rfl) a_nil)) (fun {_} h => pi_range2 (by rfl) T.z_range h)) (g_nm (pg_name (i := 9) sc.nd rfl (by first | exact Or.inl rfl | exact Or.inr rfl))) (.eq (.eq (.eq (.eq (.eq (.eq (.eq (.eq (.eq (.un (.un .nil))))))))))) (fun last s_1 => bd_nm (s_set (s := Sl.val) (k_val (c_bin op_addA sv_add (c_bin op_addA sv_add (c_bin op_addA sv_add (c_var (pv 8) rfl) (c_idx (c_var (pv 1) rfl) (c_var (pv 9) rfl))) (c_idx (c_var (pv 2) rfl) (c_var (pv 9) rfl))) (c_bin op_mulA sv_mul (c_int) (c_var (pv 3) rfl)))) (pg_name (i := 8) sc.nd rfl (by first | exact Or.inl rfl | exact Or.inr rfl)) (fun paid_1 => s_set (s := Sl.val) (k_val (c_bin op_mulA sv_mul (c_int) (c_bin op_sub sv_sub (c_bin op_addA sv_add (c_idx (c_var (pv 1) rfl) (c_var (pv 9) rfl)) (c_int)) (c_idx (c_var (pv 2) rfl) (c_var (pv 7) rfl))))) (pg_name (i := 10) sc.nd rfl (by first | exact Or.inl rfl | exact Or.inr rfl)) (fun way => s_ifL (p_cmp op_gt sv_gt (nomark _) (c_bin op_mulA sv_mul (c_var (pv 8) rfl) (c_idx (c_var (pv 4) rfl) (c_int))) (c_bin op_mulA sv_mul (c_idx (c_var (pv 4) rfl) (c_int)) (c_var (pv 10) rfl))) (s_par (i := 4) (j := 5) rfl sc.nd rfl rfl (by decide) rfl rfl (k_val (c_tup (a_cons (c_var (pv 8) rfl) (a_cons (c_var (pv 10) rfl) a_nil)))) (k_val (c_tup (a_cons (c_bin op_addA sv_add (c_var (pv 7) rfl) (c_int)) (a_cons (c_bin op_addA sv_add (c_var (pv 9) rfl) (c_int)) a_nil)))) (fun best_1 chosen_1 => s_nil (.eq (.eq (.eq (.eq (.eq (.eq (.eq (.eq (.eq (.un (.un .nil)))))))))))) (by rfl)) (s_nil (.eq (.eq (.eq (.eq (.eq (.eq (.eq (.eq (.eq (.un (.un .nil)))))))))))))))) (fun s_2 => s_nil (.eq (.eq (.eq (.eq (.eq (.eq (.eq (.un (.un (.un (.un .nil))))))))))))))) (fun s_3 => s_ret (c_tup (a_cons (c_var (pv 4) rfl) (a_cons (c_var (pv 5) rfl) a_nil))))) (by rfl)))))
theorem sc_law_cycle : FnScope ["_law_policy_here", "_law_low", "_law_high", "_law_level", "_law_size", "_law_seen", "_law_paid", "_law_done", "_law_goal", "_law_step", "_law_before"] ["_law_policy_here", "_law_low", "_law_high"] (defScope st_law_cycle) := ⟨rfl, rfl, rfl, by decide +kernel, rfl, by decide +kernel, by decide +kernel⟩
theorem o_law_cycle (T : Txt K mg z base) : FnG gu P w K mg base (L2.CX P w) 2 z.a_law_cycle z.d_law_cycle ["_law_policy_here", "_law_low", "_law_high"] (spM ⟨K, clsA z⟩ (fs3 t_law_cycle)) := by
  refine fn_3 (k := 1) (b := bd_law_cycle) T.F_law_cycle sc_law_cycle (.inl fun _ _ _ => rfl) fun policy_here low high cdv A outer s0 H E gB hr0 cl0 => ?_
  unfold bd_law_cycle
  have sc := sc_law_cycle
  have hr : Room 1 (cxOf (L2.CX P w) P w K mg base ["_law_policy_here", "_law_low", "_law_high", "_law_level", "_law_size", "_law_seen", "_law_paid", "_law_done", "_law_goal", "_law_step", "_law_before"] "_law_cycle" (defScope st_law_cycle) z.a_law_cycle cdv A outer s0 H E).A := hr0
  have cl : Clr gu (cxOf (L2.CX P w) P w K mg base ["_law_policy_here", "_law_low", "_law_high", "_law_level", "_law_size", "_law_seen", "_law_paid", "_law_done", "_law_goal", "_law_step", "_law_before"] "_law_cycle" (defScope st_law_cycle) z.a_law_cycle cdv A outer s0 H E).A := cl0
  have hu := hr.units
  have tk : Takes (cxOf (L2.CX P w) P w K mg base ["_law_policy_here", "_law_low", "_law_high", "_law_level", "_law_size", "_law_seen", "_law_paid", "_law_done", "_law_goal", "_law_step", "_law_before"] "_law_cycle" (defScope st_law_cycle) z.a_law_cycle cdv A outer s0 H E) (fun c d _ H' => E c d H') := takes_of rfl rfl rfl rfl
  have hp := passes_of (X := (cxOf (L2.CX P w) P w K mg base ["_law_policy_here", "_law_low", "_law_high", "_law_level", "_law_size", "_law_seen", "_law_paid", "_law_done", "_law_goal", "_law_step", "_law_before"] "_law_cycle" (defScope st_law_cycle) z.a_law_cycle cdv A outer s0 H E)) rfl
  have i_law_popped : IsFn gu P w K mg base (clsA z) 1 "_law_popped" (fs3 t_law_popped) := ⟨_, _, _, T.m_law_popped, T.F_law_popped.kp, T.B_law_popped, (o_law_popped T).mono (by decide)⟩
  have i_law_pushed : IsFn gu P w K mg base (clsA z) 1 "_law_pushed" (fs3 t_law_pushed) := ⟨_, _, _, T.m_law_pushed, T.F_law_pushed.kp, T.B_law_pushed, (o_law_pushed T).mono (by decide)⟩
  exact s_asgP (c_tup (a_cons (c_int) (a_cons (c_int) (a_cons (c_dnew) (a_cons (c_int) (a_cons (c_int) a_nil)))))) (g_tp rfl (gs_cons (g_nm (pg_name (i := 3) sc.nd rfl (by first | exact Or.inl rfl | exact Or.inr rfl))) (gs_cons (g_nm (pg_name (i := 4) sc.nd rfl (by first | exact Or.inl rfl | exact Or.inr rfl))) (gs_cons (g_nm (pg_name (i := 5) sc.nd rfl (by first | exact Or.inl rfl | exact Or.inr rfl))) (gs_cons (g_nm (pg_name (i := 6) sc.nd rfl (by first | exact Or.inl rfl | exact Or.inr rfl))) (gs_cons (g_nm (pg_name (i := 7) sc.nd rfl (by first | exact Or.inl rfl | exact Or.inr rfl))) gs_nil)))))) (fun x => bd_5 fun level size seen paid done => bd_nm (bd_nm (bd_nm (bd_nm (bd_nm (s_set (s := Sl.val) (k_val (c_var (pv 2) rfl)) (pg_name (i := 8) sc.nd rfl (by first | exact Or.inl rfl | exact Or.inr rfl)) (fun goal => s_while hp (fun (s : D × D × D × D × D) => [.val policy_here, .val low, .val high, .val s.1, .val s.2.1, .val seen, .val s.2.2.1, .val s.2.2.2.1, .val s.2.2.2.2, .un, .un]) (.eq (.eq (.eq (.eq (.eq (.eq (.eq (.eq (.eq (.un (.un .nil))))))))))) (fun s => p_truth (c_bl)) (fun s => s_while hp (fun (s_1 : D × D × D × D) => [.val policy_here, .val low, .val high, .val s_1.1, .val s_1.2.1, .val seen, .val s_1.2.2.1, .val s_1.2.2.2, .val s.2.2.2.2, .un, .un]) (.eq (.eq (.eq (.eq (.eq (.eq (.eq (.eq (.eq (.un (.un .nil))))))))))) (fun s_1 => p_cmp (op_neA hu) sv_ne (nomark _) (c_var (pv 4) rfl) (c_var (pv 8) rfl)) (fun s_1 => s_set (s := Sl.val) (k_val (c_call i_law_popped hr cl tk (by rfl) (a_cons (c_var (pv 0) rfl) (a_cons (c_var (pv 3) rfl) (a_cons (c_var (pv 4) rfl) a_nil))))) (pg_name (i := 9) sc.nd rfl (by first | exact Or.inl rfl | exact Or.inr rfl)) (fun step => s_if (oa' := fun (s_2 : D) => [.val policy_here, .val low, .val high, .val s_1.1, .val s_1.2.1, .val seen, .val s_1.2.2.1, .val s_1.2.2.2, .val s.2.2.2.2, .val s_2, .un]) (p_cmp op_gt sv_gt (nomark _) (c_var (pv 8) rfl) (c_var (pv 4) rfl)) (s_set (s := Sl.val) (k_val (c_call i_law_pushed hr cl tk (by rfl) (a_cons (c_var (pv 0) rfl) (a_cons (c_var (pv 3) rfl) (a_cons (c_var (pv 4) rfl) a_nil))))) (pg_name (i := 9) sc.nd rfl (by first | exact Or.inl rfl | exact Or.inr rfl)) (fun step_1 => s_nil (.eq (.eq (.eq (.eq (.eq (.eq (.eq (.eq (.eq (.eq (.un .nil))))))))))))) (s_nil (.eq (.eq (.eq (.eq (.eq (.eq (.eq (.eq (.eq (.eq (.un .nil)))))))))))) (fun s_2 => s_if (oa' := fun (s_3 : Unit) => [.val policy_here, .val low, .val high, .val s_1.1, .val s_1.2.1, .val seen, .val s_1.2.2.1, .val s_1.2.2.2, .val s.2.2.2.2, .val s_2, .un]) (p_cmp op_isN sv_is (nomark _) (c_var (pv 9) rfl) (c_non)) (s_ret (c_tup (a_cons (c_int) (a_cons (c_int) a_nil)))) (s_nil (.eq (.eq (.eq (.eq (.eq (.eq (.eq (.eq (.eq (.eq (.un .nil)))))))))))) (fun s_3 => s_par3 (i := 3) (j := 4) (l := 6) rfl sc.nd rfl rfl rfl (by decide) (by decide) (by decide) rfl rfl rfl (k_val (c_idx (c_var (pv 9) rfl) (c_int))) (k_val (c_idx (c_var (pv 9) rfl) (c_int))) (k_val (c_bin op_addA sv_add (c_var (pv 6) rfl) (c_idx (c_var (pv 9) rfl) (c_int)))) (fun level_1 size_1 paid_1 => s_set (s := Sl.val) (k_val (c_bin op_addA sv_add (c_var (pv 7) rfl) (c_int))) (pg_name (i := 7) sc.nd rfl (by first | exact Or.inl rfl | exact Or.inr rfl)) (fun done_1 => s_nil (.eq (.eq (.eq (.eq (.eq (.eq (.eq (.eq (.eq (.un (.un .nil))))))))))))) (by rfl))))) (fun s_4 => s_if (oa' := fun (s_5 : Unit) => [.val policy_here, .val low, .val high, .val s_4.1, .val s_4.2.1, .val seen, .val s_4.2.2.1, .val s_4.2.2.2, .val s.2.2.2.2, .un, .un]) (p_din (u1 hr.units2) (by rfl) (c_key (a_cons (c_var (pv 3) rfl) (a_cons (c_var (pv 4) rfl) a_nil))) (c_var (pv 5) rfl)) (s_set (s := Sl.val) (k_val (c_dget (u1 hr.units2) (c_var (pv 5) rfl) (c_key (a_cons (c_var (pv 3) rfl) (a_cons (c_var (pv 4) rfl) a_nil))))) (pg_name (i := 10) sc.nd rfl (by first | exact Or.inl rfl | exact Or.inr rfl)) (fun before => s_ret (c_tup (a_cons (c_bin op_sub sv_sub (c_var (pv 6) rfl) (c_idx (c_var (pv 10) rfl) (c_int))) (a_cons (c_bin op_sub sv_sub (c_var (pv 7) rfl) (c_idx (c_var (pv 10) rfl) (c_int))) a_nil))))) (s_nil (.eq (.eq (.eq (.eq (.eq (.eq (.eq (.eq (.eq (.un (.un .nil)))))))))))) (fun s_5 => s_tgt (c_tup (a_cons (c_var (pv 6) rfl) (a_cons (c_var (pv 7) rfl) a_nil))) (tg_dsub (u1 hr.units2) (c_var (pv 5) rfl) (c_key (a_cons (c_var (pv 3) rfl) (a_cons (c_var (pv 4) rfl) a_nil)))) (s_set (s := Sl.val) (k_val (c_ite (p_cmp (op_eqA hu) sv_eq (nomark _) (c_var (pv 8) rfl) (c_var (pv 2) rfl)) (c_var (pv 1) rfl) (c_var (pv 2) rfl))) (pg_name (i := 8) sc.nd rfl (by first | exact Or.inl rfl | exact Or.inr rfl)) (fun goal_1 => s_nil (.eq (.eq (.eq (.eq (.eq (.eq (.eq (.eq (.eq (.un (.un .nil)))))))))))))))) (fun s_6 => s_end))))))))
theorem sc_law : FnScope ["_law_script", "_law_k", "_law_draws_here", "_law_some", "_law_turn", "_law_policy_here", "_law_best", "_law_chosen", "_law_price", "_law_top", "_law_again", "_law_low", "_law_paid", "_law_done", "_law_most", "_law_told", "_law_one"] ["_law_script"] (defScope st_law) := ⟨rfl, rfl, rfl, by decide +kernel, rfl, by decide +kernel, by decide +kernel⟩
theorem o_law (T : Txt K mg z base) : FnG true P w K mg base (L2.CX P w) 7 z.a_law z.d_law ["_law_script"] (spM ⟨K, clsA z⟩ (fs1 t_law)) := by
  refine fn_1 (k := 6) (b := bd_law) T.F_law sc_law (.inl fun _ => rfl) fun script cdv A outer s0 H E gB hr0 cl0 => ?_
  unfold bd_law
  have sc := sc_law
  have hr : Room 6 (cxOf (L2.CX P w) P w K mg base ["_law_script", "_law_k", "_law_draws_here", "_law_some", "_law_turn", "_law_policy_here", "_law_best", "_law_chosen", "_law_price", "_law_top", "_law_again", "_law_low", "_law_paid", "_law_done", "_law_most", "_law_told", "_law_one"] "law" (defScope st_law) z.a_law cdv A outer s0 H E).A := hr0
  have cl : Clr true (cxOf (L2.CX P w) P w K mg base ["_law_script", "_law_k", "_law_draws_here", "_law_some", "_law_turn", "_law_policy_here", "_law_best", "_law_chosen", "_law_price", "_law_top", "_law_again", "_law_low", "_law_paid", "_law_done", "_law_most", "_law_told", "_law_one"] "law" (defScope st_law) z.a_law cdv A outer s0 H E).A := cl0
  have hu := hr.units
  have tk : Takes (cxOf (L2.CX P w) P w K mg base ["_law_script", "_law_k", "_law_draws_here", "_law_some", "_law_turn", "_law_policy_here", "_law_best", "_law_chosen", "_law_price", "_law_top", "_law_again", "_law_low", "_law_paid", "_law_done", "_law_most", "_law_told", "_law_one"] "law" (defScope st_law) z.a_law cdv A outer s0 H E) (fun c d _ H' => E c d H') := takes_of rfl rfl rfl rfl
  have hp := passes_of (X := (cxOf (L2.CX P w) P w K mg base ["_law_script", "_law_k", "_law_draws_here", "_law_some", "_law_turn", "_law_policy_here", "_law_best", "_law_chosen", "_law_price", "_law_top", "_law_again", "_law_low", "_law_paid", "_law_done", "_law_most", "_law_told", "_law_one"] "law" (defScope st_law) z.a_law cdv A outer s0 H E)) rfl
  have i_law_below : IsFn true P w K mg base (clsA z) 6 "_law_below" (fs2 t_law_below) := ⟨_, _, _, T.m_law_below, T.F_law_below.kp, T.B_law_below, (o_law_below T).mono (by decide)⟩
  have i_law_cycle : IsFn true P w K mg base (clsA z) 6 "_law_cycle" (fs3 t_law_cycle) := ⟨_, _, _, T.m_law_cycle, T.F_law_cycle.kp, T.B_law_cycle, (o_law_cycle T).mono (by decide)⟩
  have i_law_draws : IsFn true P w K mg base (clsA z) 6 "_law_draws" (fs2 t_law_draws) := ⟨_, _, _, T.m_law_draws, T.F_law_draws.kp, T.B_law_draws, (o_law_draws T).mono (by decide)⟩
  have i_law_own : IsFn true P w K mg base (clsA z) 6 "_law_own" (fs1 t_law_own) := ⟨_, _, _, T.m_law_own, T.F_law_own.kp, T.B_law_own, (o_law_own T).mono (by decide)⟩
  have i_law_policy : IsFn true P w K mg base (clsA z) 6 "_law_policy" (fs3 t_law_policy) := ⟨_, _, _, T.m_law_policy, T.F_law_policy.kp, T.B_law_policy, (o_law_policy T).mono (by decide)⟩
  have i_worst_price : IsFn true P w K mg base (clsA z) 6 "worst_price" (fs1 t_worst_price) := ⟨_, _, _, T.m_worst_price, T.F_worst_price.kp, T.B_worst_price, (o_worst_price T).mono (by decide)⟩
  have i_worst_swing : IsFn true P w K mg base (clsA z) 6 "worst_swing" (fs1 t_worst_swing) := ⟨_, _, _, T.m_worst_swing, T.F_worst_swing.kp, T.B_worst_swing, (o_worst_swing T).mono (by decide)⟩
  have w_joint_price : IsSt P w K mg base (clsA z) 6 "joint_price" (starF t_joint_price) := ⟨_, T.m_joint_price, T.F_joint_price.kp, (o_joint_price T).mono (by decide)⟩
  exact s_for hp rfl (fun (s : Unit) => [.val script, .un, .un, .un, .un, .un, .un, .un, .un, .un, .un, .un, .un, .un, .un, .un, .un]) (i_rng1 (a_cons (c_bi sv_max2 (a_cons (c_int) (a_cons (c_bi sv_min2 (a_cons (c_int) (a_cons (c_bi sv_len (a_cons (c_var (pv 0) rfl) a_nil) (fun {_} h => pe_callB call_lenA (by rfl) T.z_len (by decide +kernel) h)) a_nil)) (fun {_} h => pe_callB (call_min2 rfl) (by rfl) T.z_min (by decide +kernel) h)) a_nil)) (fun {_} h => pe_callB (call_max2 rfl) (by rfl) T.z_max (by decide +kernel) h)) a_nil) (fun {_} h => pi_range1 (by rfl) T.z_range h)) (g_nm (pg_name (i := 1) sc.nd rfl (by first | exact Or.inl rfl | exact Or.inr rfl))) (.eq (.un (.un (.un (.un (.un (.un (.un (.un (.un (.un (.un (.un (.un (.un (.un (.un .nil))))))))))))))))) (fun k s => bd_nm (s_par (i := 2) (j := 3) rfl sc.nd rfl rfl (by decide) rfl rfl (k_val (c_call i_law_draws hr cl tk (by rfl) (a_cons (c_var (pv 0) rfl) (a_cons (c_var (pv 1) rfl) a_nil)))) (k_lst (a_nil)) (fun draws_here v_some => s_for hp rfl (fun (s_1 : List D) => [.val script, .val k, .val draws_here, .own s_1, .un, .un, .un, .un, .un, .un, .un, .un, .un, .un, .un, .un, .un]) (i_rng1 (a_cons (c_int) a_nil) (fun {_} h => pi_range1 (by rfl) T.z_range h)) (g_nm (pg_name (i := 4) sc.nd rfl (by first | exact Or.inl rfl | exact Or.inr rfl))) (.eq (.eq (.eq (.eq (.un (.un (.un (.un (.un (.un (.un (.un (.un (.un (.un (.un (.un .nil))))))))))))))))) (fun turn s_1 => bd_nm (s_set (s := Sl.val) (k_val (c_call i_law_policy hr cl tk (by rfl) (a_cons (c_var (pv 2) rfl) (a_cons (c_int) (a_cons (c_int) a_nil))))) (pg_name (i := 5) sc.nd rfl (by first | exact Or.inl rfl | exact Or.inr rfl)) (fun policy_here => s_asgP (c_call i_law_own hr cl tk (by rfl) (a_cons (c_var (pv 5) rfl) a_nil)) (g_tp rfl (gs_cons (g_nm (pg_name (i := 6) sc.nd rfl (by first | exact Or.inl rfl | exact Or.inr rfl))) (gs_cons (g_nm (pg_name (i := 7) sc.nd rfl (by first | exact Or.inl rfl | exact Or.inr rfl))) gs_nil))) (fun x => bd_2 fun best chosen => bd_nm (bd_nm (s_set (s := Sl.val) (k_val (c_call i_worst_price hr cl tk (by rfl) (a_cons (c_var (pv 5) rfl) a_nil))) (pg_name (i := 8) sc.nd rfl (by first | exact Or.inl rfl | exact Or.inr rfl)) (fun price => s_if (oa' := fun (s_2 : Unit) => [.val script, .val k, .val draws_here, .own s_1, .val turn, .val policy_here, .val best, .val chosen, .val price, .un, .un, .un, .un, .un, .un, .un, .un]) (PW.pt (p_or (p_cmp (op_neA hu) sv_ne (nomark _) (c_bin op_mulA sv_mul (c_idx (c_var (pv 8) rfl) (c_int)) (c_idx (c_var (pv 6) rfl) (c_int))) (c_bin op_mulA sv_mul (c_idx (c_var (pv 6) rfl) (c_int)) (c_idx (c_var (pv 8) rfl) (c_int)))) (p_one' (p_cmp (op_neA hu) sv_ne (nomark _) (c_bi sv_repr (a_cons (c_call i_worst_swing hr cl tk (by rfl) (a_cons (c_var (pv 5) rfl) a_nil)) a_nil) (fun {_} h => pe_callB (call_repr cl hu) (by rfl) T.z_repr (by decide +kernel) h)) (c_bi sv_repr (a_cons (c_var (pv 7) rfl) a_nil) (fun {_} h => pe_callB (call_repr cl hu) (by rfl) T.z_repr (by decide +kernel) h)))))) (s_ret (c_bl)) (s_nil (.eq (.eq (.eq (.eq (.eq (.eq (.eq (.eq (.eq (.un (.un (.un (.un (.un (.un (.un (.un .nil)))))))))))))))))) (fun s_2 => s_set (s := Sl.val) (k_val (c_bi sv_min2 (a_cons (c_idx (c_idx (c_var (pv 5) rfl) (c_int)) (c_neg (c_int))) (a_cons (c_int) a_nil)) (fun {_} h => pe_callB (call_min2 rfl) (by rfl) T.z_min (by decide +kernel) h))) (pg_name (i := 9) sc.nd rfl (by first | exact Or.inl rfl | exact Or.inr rfl)) (fun top => s_for hp rfl (fun (s_3 : Unit) => [.val script, .val k, .val draws_here, .own s_1, .val turn, .val policy_here, .val best, .val chosen, .val price, .val top, .un, .un, .un, .un, .un, .un, .un]) (i_rng1 (a_cons (c_int) a_nil) (fun {_} h => pi_range1 (by rfl) T.z_range h)) (g_nm (pg_name (i := 10) sc.nd rfl (by first | exact Or.inl rfl | exact Or.inr rfl))) (.eq (.eq (.eq (.eq (.eq (.eq (.eq (.eq (.eq (.eq (.un (.un (.un (.un (.un (.un (.un .nil))))))))))))))))) (fun again s_3 => bd_nm (s_set (s := Sl.val) (k_val (c_call i_law_below hr cl tk (by rfl) (a_cons (c_var (pv 2) rfl) (a_cons (c_var (pv 9) rfl) a_nil)))) (pg_name (i := 11) sc.nd rfl (by first | exact Or.inl rfl | exact Or.inr rfl)) (fun low => s_asgP (c_call i_law_cycle hr cl tk (by rfl) (a_cons (c_var (pv 5) rfl) (a_cons (c_var (pv 11) rfl) (a_cons (c_bin op_addA sv_add (c_bin op_addA sv_add (c_var (pv 11) rfl) (c_int)) (c_call i_law_below hr cl tk (by rfl) (a_cons (c_var (pv 2) rfl) (a_cons (c_bin op_sub sv_sub (c_var (pv 9) rfl) (c_var (pv 11) rfl)) a_nil)))) a_nil)))) (g_tp rfl (gs_cons (g_nm (pg_name (i := 12) sc.nd rfl (by first | exact Or.inl rfl | exact Or.inr rfl))) (gs_cons (g_nm (pg_name (i := 13) sc.nd rfl (by first | exact Or.inl rfl | exact Or.inr rfl))) gs_nil))) (fun x_1 => bd_2 fun paid done => bd_nm (bd_nm (s_ifL (p_cmp op_gt sv_gt (nomark _) (c_bin op_mulA sv_mul (c_var (pv 12) rfl) (c_idx (c_var (pv 8) rfl) (c_int))) (c_bin op_mulA sv_mul (c_idx (c_var (pv 8) rfl) (c_int)) (c_var (pv 13) rfl))) (s_ret (c_bl)) (s_nil (.eq (.eq (.eq (.eq (.eq (.eq (.eq (.eq (.eq (.eq (.un (.un (.un (.un (.un (.un (.un .nil)))))))))))))))))))))))) (fun s_4 => s_app (pv 3) rfl (c_var (pv 5) rfl) (fun v_some_1 => s_nil (.eq (.eq (.eq (.eq (.un (.un (.un (.un (.un (.un (.un (.un (.un (.un (.un (.un (.un .nil)))))))))))))))))) (fun {_} {_} ho ha => pe_bm PySem.F.plainAttrs_list PySem.F.slot_list_append PySem.F.type_list_append mt_append ho ha))))))))))) (fun s_5 => s_frz (i := 3) rfl (s_setLc (i := 14) (own := [("_law_policy_here", 5)]) rfl sc.nd rfl rfl (sw_true rfl rfl rfl (by decide +kernel)) (i_seq (c_var (pv 3) rfl)) (blkOk_by (N := ["_law_script", "_law_k", "_law_draws_here", "_law_some", "_law_turn", "_law_policy_here", "_law_best", "_law_chosen", "_law_price", "_law_top", "_law_again", "_law_low", "_law_paid", "_law_done", "_law_most", "_law_told", "_law_one"]) (sc := defScope st_law) (by decide +kernel)) (by decide) (fun _ _ _ _ _ => g_nm (pg_name (i := 5) sc.nd rfl (by first | exact Or.inl rfl | exact Or.inr rfl))) (fun policy_here_1 => bd_nm (ok_el (fun _ _ _ _ _ => c_call i_worst_price hr cl takes0 (by rfl) (a_cons (c_var (pv 5) rfl) a_nil)))) (fun most => s_set (s := Sl.val) (k_val (c_callS w_joint_price hr tk (by rfl) (a_cons (c_idx (c_var (pv 3) rfl) (c_int)) (a_cons (c_idx (c_var (pv 3) rfl) (c_int)) (a_cons (c_idx (c_var (pv 3) rfl) (c_int)) a_nil))))) (pg_name (i := 15) sc.nd rfl (by first | exact Or.inl rfl | exact Or.inr rfl)) (fun told => s_ifL (PW.pt (p_or (p_niD hr.units2 (by rfl) (c_var (pv 15) rfl) (c_slc (c_var (pv 14) rfl) o_none (o_some (c_int)))) (p_one' (p_truth (c_bi sv_any (a_cons (c_lc (own := [("_law_one", 16)]) rfl sc.nd (i_seq (c_slc (c_var (pv 14) rfl) o_none (o_some (c_int)))) (blkOk_by (N := ["_law_script", "_law_k", "_law_draws_here", "_law_some", "_law_turn", "_law_policy_here", "_law_best", "_law_chosen", "_law_price", "_law_top", "_law_again", "_law_low", "_law_paid", "_law_done", "_law_most", "_law_told", "_law_one"]) (sc := defScope st_law) (by decide +kernel)) (by decide) (fun _ _ _ _ _ => g_nm (pg_name (i := 16) sc.nd rfl (by first | exact Or.inl rfl | exact Or.inr rfl))) (fun one => bd_nm (ok_el (fun _ _ _ _ _ => c_cmp op_gt sv_gt (nomark _) (c_bin op_mulA sv_mul (c_idx (c_var (pv 16) rfl) (c_int)) (c_idx (c_var (pv 15) rfl) (c_int))) (c_bin op_mulA sv_mul (c_idx (c_var (pv 15) rfl) (c_int)) (c_idx (c_var (pv 16) rfl) (c_int))))))) a_nil) (fun {_} h => pe_callB (cr_any rfl) (by rfl) T.z_any (by decide +kernel) h)))))) (s_ret (c_bl)) (s_nil (.eq (.un (.un (.un (.un (.un (.un (.un (.un (.un (.un (.un (.un (.un (.un (.un (.un .nil))))))))))))))))))))))) (by rfl))) (fun s_6 => s_ret (c_bl))
end
end G.K75

set_option Elab.async false
set_option linter.all false
set_option maxRecDepth 100000
set_option maxHeartbeats 4000000
namespace G.K75
open PySem L2 PySem.Spec PyProof.Rows G
theorem all_mk {l : PySem.W.OpenLaw} {w : World} {K : PySem.W.Frag} {h : Heap} {mg : Str → Option Value} {fa : Addr} (X : K.In h) (G0 : h.Ns mainGlobals mg) (hfa : mg "law" = some (.ref fa))
    {f_common_divisor : Addr} {od_common_divisor an_common_divisor : Option Addr} {sl_common_divisor : Array (Option Value)} {oc_common_divisor kV_common_divisor dc_common_divisor pm_common_divisor cd_common_divisor ct_common_divisor : Value}
    {f_fraction : Addr} {od_fraction an_fraction : Option Addr} {sl_fraction : Array (Option Value)} {oc_fraction kV_fraction dc_fraction pm_fraction cd_fraction ct_fraction : Value}
    {f_is_less : Addr} {od_is_less an_is_less : Option Addr} {sl_is_less : Array (Option Value)} {oc_is_less kV_is_less dc_is_less pm_is_less cd_is_less ct_is_less : Value}
    {f_boundaries : Addr} {od_boundaries an_boundaries : Option Addr} {sl_boundaries : Array (Option Value)} {oc_boundaries kV_boundaries dc_boundaries pm_boundaries cd_boundaries ct_boundaries : Value}
    {f_swings_of : Addr} {od_swings_of an_swings_of : Option Addr} {sl_swings_of : Array (Option Value)} {oc_swings_of kV_swings_of dc_swings_of pm_swings_of cd_swings_of ct_swings_of : Value}
    {f_dearest_swing : Addr} {od_dearest_swing an_dearest_swing : Option Addr} {sl_dearest_swing : Array (Option Value)} {oc_dearest_swing kV_dearest_swing dc_dearest_swing pm_dearest_swing cd_dearest_swing ct_dearest_swing : Value}
    {f_worst_price : Addr} {od_worst_price an_worst_price : Option Addr} {sl_worst_price : Array (Option Value)} {oc_worst_price kV_worst_price dc_worst_price pm_worst_price cd_worst_price ct_worst_price : Value}
    {f_worst_swing : Addr} {od_worst_swing an_worst_swing : Option Addr} {sl_worst_swing : Array (Option Value)} {oc_worst_swing kV_worst_swing dc_worst_swing pm_worst_swing cd_worst_swing ct_worst_swing : Value}
    {f_joint_price : Addr} {od_joint_price an_joint_price : Option Addr} {sl_joint_price : Array (Option Value)} {oc_joint_price kV_joint_price dc_joint_price pm_joint_price cd_joint_price ct_joint_price : Value}
    {f_law_draws : Addr} {od_law_draws an_law_draws : Option Addr} {sl_law_draws : Array (Option Value)} {oc_law_draws kV_law_draws dc_law_draws pm_law_draws cd_law_draws ct_law_draws : Value}
    {f_law_below : Addr} {od_law_below an_law_below : Option Addr} {sl_law_below : Array (Option Value)} {oc_law_below kV_law_below dc_law_below pm_law_below cd_law_below ct_law_below : Value}
    {f_law_pick : Addr} {od_law_pick an_law_pick : Option Addr} {sl_law_pick : Array (Option Value)} {oc_law_pick kV_law_pick dc_law_pick pm_law_pick cd_law_pick ct_law_pick : Value}
    {f_law_policy : Addr} {od_law_policy an_law_policy : Option Addr} {sl_law_policy : Array (Option Value)} {oc_law_policy kV_law_policy dc_law_policy pm_law_policy cd_law_policy ct_law_policy : Value}
    {f_law_pushed : Addr} {od_law_pushed an_law_pushed : Option Addr} {sl_law_pushed : Array (Option Value)} {oc_law_pushed kV_law_pushed dc_law_pushed pm_law_pushed cd_law_pushed ct_law_pushed : Value}
    {f_law_popped : Addr} {od_law_popped an_law_popped : Option Addr} {sl_law_popped : Array (Option Value)} {oc_law_popped kV_law_popped dc_law_popped pm_law_popped cd_law_popped ct_law_popped : Value}
    {f_law_own : Addr} {od_law_own an_law_own : Option Addr} {sl_law_own : Array (Option Value)} {oc_law_own kV_law_own dc_law_own pm_law_own cd_law_own ct_law_own : Value}
    {f_law_cycle : Addr} {od_law_cycle an_law_cycle : Option Addr} {sl_law_cycle : Array (Option Value)} {oc_law_cycle kV_law_cycle dc_law_cycle pm_law_cycle cd_law_cycle ct_law_cycle : Value}
    {f_law : Addr} {od_law an_law : Option Addr} {sl_law : Array (Option Value)} {oc_law kV_law dc_law pm_law cd_law ct_law : Value}
    {t_NO_PRICE : Addr} {cd_t_NO_PRICE : Option Addr} {cn_t_NO_PRICE : Nat} {cs_t_NO_PRICE : Array (Option Value)} {t_NO_PRICE_0 : Tok} {t_NO_PRICE_1 : Tok}
    (a_common_divisor : PySem.W.nsIn K mainGlobals "common_divisor" = some (some (.ref f_common_divisor)))
    (l_common_divisor : K.lookup f_common_divisor = some ⟨oc_common_divisor, od_common_divisor, .func (PySem.W.fnOf "common_divisor" "common_divisor" (defArgs st_common_divisor) (defBody st_common_divisor) (defScope st_common_divisor) .none kV_common_divisor dc_common_divisor pm_common_divisor an_common_divisor cd_common_divisor ct_common_divisor), sl_common_divisor⟩)
    (c_common_divisor : PySem.W.codeIn K cd_common_divisor "common_divisor" = true)
    (k_common_divisor : PySem.W.keepIn K (.ref f_common_divisor) = true)
    (a_fraction : PySem.W.nsIn K mainGlobals "fraction" = some (some (.ref f_fraction)))
    (l_fraction : K.lookup f_fraction = some ⟨oc_fraction, od_fraction, .func (PySem.W.fnOf "fraction" "fraction" (defArgs st_fraction) (defBody st_fraction) (defScope st_fraction) .none kV_fraction dc_fraction pm_fraction an_fraction cd_fraction ct_fraction), sl_fraction⟩)
    (c_fraction : PySem.W.codeIn K cd_fraction "fraction" = true)
    (k_fraction : PySem.W.keepIn K (.ref f_fraction) = true)
    (a_is_less : PySem.W.nsIn K mainGlobals "is_less" = some (some (.ref f_is_less)))
    (l_is_less : K.lookup f_is_less = some ⟨oc_is_less, od_is_less, .func (PySem.W.fnOf "is_less" "is_less" (defArgs st_is_less) (defBody st_is_less) (defScope st_is_less) .none kV_is_less dc_is_less pm_is_less an_is_less cd_is_less ct_is_less), sl_is_less⟩)
    (c_is_less : PySem.W.codeIn K cd_is_less "is_less" = true)
    (k_is_less : PySem.W.keepIn K (.ref f_is_less) = true)
    (a_boundaries : PySem.W.nsIn K mainGlobals "boundaries" = some (some (.ref f_boundaries)))
    (l_boundaries : K.lookup f_boundaries = some ⟨oc_boundaries, od_boundaries, .func (PySem.W.fnOf "boundaries" "boundaries" (defArgs st_boundaries) (defBody st_boundaries) (defScope st_boundaries) .none kV_boundaries dc_boundaries pm_boundaries an_boundaries cd_boundaries ct_boundaries), sl_boundaries⟩)
    (c_boundaries : PySem.W.codeIn K cd_boundaries "boundaries" = true)
    (k_boundaries : PySem.W.keepIn K (.ref f_boundaries) = true)
    (a_swings_of : PySem.W.nsIn K mainGlobals "swings_of" = some (some (.ref f_swings_of)))
    (l_swings_of : K.lookup f_swings_of = some ⟨oc_swings_of, od_swings_of, .func (PySem.W.fnOf "swings_of" "swings_of" (defArgs st_swings_of) (defBody st_swings_of) (defScope st_swings_of) .none kV_swings_of dc_swings_of pm_swings_of an_swings_of cd_swings_of ct_swings_of), sl_swings_of⟩)
    (c_swings_of : PySem.W.codeIn K cd_swings_of "swings_of" = true)
    (k_swings_of : PySem.W.keepIn K (.ref f_swings_of) = true)
    (a_dearest_swing : PySem.W.nsIn K mainGlobals "dearest_swing" = some (some (.ref f_dearest_swing)))
    (l_dearest_swing : K.lookup f_dearest_swing = some ⟨oc_dearest_swing, od_dearest_swing, .func (PySem.W.fnOf "dearest_swing" "dearest_swing" (defArgs st_dearest_swing) (defBody st_dearest_swing) (defScope st_dearest_swing) .none kV_dearest_swing dc_dearest_swing pm_dearest_swing an_dearest_swing cd_dearest_swing ct_dearest_swing), sl_dearest_swing⟩)
    (c_dearest_swing : PySem.W.codeIn K cd_dearest_swing "dearest_swing" = true)
    (k_dearest_swing : PySem.W.keepIn K (.ref f_dearest_swing) = true)
    (a_worst_price : PySem.W.nsIn K mainGlobals "worst_price" = some (some (.ref f_worst_price)))
    (l_worst_price : K.lookup f_worst_price = some ⟨oc_worst_price, od_worst_price, .func (PySem.W.fnOf "worst_price" "worst_price" (defArgs st_worst_price) (defBody st_worst_price) (defScope st_worst_price) .none kV_worst_price dc_worst_price pm_worst_price an_worst_price cd_worst_price ct_worst_price), sl_worst_price⟩)
    (c_worst_price : PySem.W.codeIn K cd_worst_price "worst_price" = true)
    (k_worst_price : PySem.W.keepIn K (.ref f_worst_price) = true)
    (a_worst_swing : PySem.W.nsIn K mainGlobals "worst_swing" = some (some (.ref f_worst_swing)))
    (l_worst_swing : K.lookup f_worst_swing = some ⟨oc_worst_swing, od_worst_swing, .func (PySem.W.fnOf "worst_swing" "worst_swing" (defArgs st_worst_swing) (defBody st_worst_swing) (defScope st_worst_swing) .none kV_worst_swing dc_worst_swing pm_worst_swing an_worst_swing cd_worst_swing ct_worst_swing), sl_worst_swing⟩)
    (c_worst_swing : PySem.W.codeIn K cd_worst_swing "worst_swing" = true)
    (k_worst_swing : PySem.W.keepIn K (.ref f_worst_swing) = true)
    (a_joint_price : PySem.W.nsIn K mainGlobals "joint_price" = some (some (.ref f_joint_price)))
    (l_joint_price : K.lookup f_joint_price = some ⟨oc_joint_price, od_joint_price, .func (PySem.W.fnOf "joint_price" "joint_price" (defArgs st_joint_price) (defBody st_joint_price) (defScope st_joint_price) .none kV_joint_price dc_joint_price pm_joint_price an_joint_price cd_joint_price ct_joint_price), sl_joint_price⟩)
    (c_joint_price : PySem.W.codeIn K cd_joint_price "joint_price" = true)
    (k_joint_price : PySem.W.keepIn K (.ref f_joint_price) = true)
    (a_law_draws : PySem.W.nsIn K mainGlobals "_law_draws" = some (some (.ref f_law_draws)))
    (l_law_draws : K.lookup f_law_draws = some ⟨oc_law_draws, od_law_draws, .func (PySem.W.fnOf "_law_draws" "_law_draws" (defArgs st_law_draws) (defBody st_law_draws) (defScope st_law_draws) .none kV_law_draws dc_law_draws pm_law_draws an_law_draws cd_law_draws ct_law_draws), sl_law_draws⟩)
    (c_law_draws : PySem.W.codeIn K cd_law_draws "_law_draws" = true)
    (k_law_draws : PySem.W.keepIn K (.ref f_law_draws) = true)
    (a_law_below : PySem.W.nsIn K mainGlobals "_law_below" = some (some (.ref f_law_below)))
    (l_law_below : K.lookup f_law_below = some ⟨oc_law_below, od_law_below, .func (PySem.W.fnOf "_law_below" "_law_below" (defArgs st_law_below) (defBody st_law_below) (defScope st_law_below) .none kV_law_below dc_law_below pm_law_below an_law_below cd_law_below ct_law_below), sl_law_below⟩)
    (c_law_below : PySem.W.codeIn K cd_law_below "_law_below" = true)
    (k_law_below : PySem.W.keepIn K (.ref f_law_below) = true)
    (a_law_pick : PySem.W.nsIn K mainGlobals "_law_pick" = some (some (.ref f_law_pick)))
    (l_law_pick : K.lookup f_law_pick = some ⟨oc_law_pick, od_law_pick, .func (PySem.W.fnOf "_law_pick" "_law_pick" (defArgs st_law_pick) (defBody st_law_pick) (defScope st_law_pick) .none kV_law_pick dc_law_pick pm_law_pick an_law_pick cd_law_pick ct_law_pick), sl_law_pick⟩)
    (c_law_pick : PySem.W.codeIn K cd_law_pick "_law_pick" = true)
    (k_law_pick : PySem.W.keepIn K (.ref f_law_pick) = true)
    (a_law_policy : PySem.W.nsIn K mainGlobals "_law_policy" = some (some (.ref f_law_policy)))
    (l_law_policy : K.lookup f_law_policy = some ⟨oc_law_policy, od_law_policy, .func (PySem.W.fnOf "_law_policy" "_law_policy" (defArgs st_law_policy) (defBody st_law_policy) (defScope st_law_policy) .none kV_law_policy dc_law_policy pm_law_policy an_law_policy cd_law_policy ct_law_policy), sl_law_policy⟩)
    (c_law_policy : PySem.W.codeIn K cd_law_policy "_law_policy" = true)
    (k_law_policy : PySem.W.keepIn K (.ref f_law_policy) = true)
    (a_law_pushed : PySem.W.nsIn K mainGlobals "_law_pushed" = some (some (.ref f_law_pushed)))
    (l_law_pushed : K.lookup f_law_pushed = some ⟨oc_law_pushed, od_law_pushed, .func (PySem.W.fnOf "_law_pushed" "_law_pushed" (defArgs st_law_pushed) (defBody st_law_pushed) (defScope st_law_pushed) .none kV_law_pushed dc_law_pushed pm_law_pushed an_law_pushed cd_law_pushed ct_law_pushed), sl_law_pushed⟩)
    (c_law_pushed : PySem.W.codeIn K cd_law_pushed "_law_pushed" = true)
    (k_law_pushed : PySem.W.keepIn K (.ref f_law_pushed) = true)
    (a_law_popped : PySem.W.nsIn K mainGlobals "_law_popped" = some (some (.ref f_law_popped)))
    (l_law_popped : K.lookup f_law_popped = some ⟨oc_law_popped, od_law_popped, .func (PySem.W.fnOf "_law_popped" "_law_popped" (defArgs st_law_popped) (defBody st_law_popped) (defScope st_law_popped) .none kV_law_popped dc_law_popped pm_law_popped an_law_popped cd_law_popped ct_law_popped), sl_law_popped⟩)
    (c_law_popped : PySem.W.codeIn K cd_law_popped "_law_popped" = true)
    (k_law_popped : PySem.W.keepIn K (.ref f_law_popped) = true)
    (a_law_own : PySem.W.nsIn K mainGlobals "_law_own" = some (some (.ref f_law_own)))
    (l_law_own : K.lookup f_law_own = some ⟨oc_law_own, od_law_own, .func (PySem.W.fnOf "_law_own" "_law_own" (defArgs st_law_own) (defBody st_law_own) (defScope st_law_own) .none kV_law_own dc_law_own pm_law_own an_law_own cd_law_own ct_law_own), sl_law_own⟩)
    (c_law_own : PySem.W.codeIn K cd_law_own "_law_own" = true)
    (k_law_own : PySem.W.keepIn K (.ref f_law_own) = true)
    (a_law_cycle : PySem.W.nsIn K mainGlobals "_law_cycle" = some (some (.ref f_law_cycle)))
    (l_law_cycle : K.lookup f_law_cycle = some ⟨oc_law_cycle, od_law_cycle, .func (PySem.W.fnOf "_law_cycle" "_law_cycle" (defArgs st_law_cycle) (defBody st_law_cycle) (defScope st_law_cycle) .none kV_law_cycle dc_law_cycle pm_law_cycle an_law_cycle cd_law_cycle ct_law_cycle), sl_law_cycle⟩)
    (c_law_cycle : PySem.W.codeIn K cd_law_cycle "_law_cycle" = true)
    (k_law_cycle : PySem.W.keepIn K (.ref f_law_cycle) = true)
    (a_law : PySem.W.nsIn K mainGlobals "law" = some (some (.ref f_law)))
    (l_law : K.lookup f_law = some ⟨oc_law, od_law, .func (PySem.W.fnOf "law" "law" (defArgs st_law) (defBody st_law) (defScope st_law) .none kV_law dc_law pm_law an_law cd_law ct_law), sl_law⟩)
    (c_law : PySem.W.codeIn K cd_law "law" = true)
    (k_law : PySem.W.keepIn K (.ref f_law) = true)
    (z_abs : PySem.W.nsIn K mainGlobals "abs" = some none)
    (z_any : PySem.W.nsIn K mainGlobals "any" = some none)
    (z_enumerate : PySem.W.nsIn K mainGlobals "enumerate" = some none)
    (z_int : PySem.W.nsIn K mainGlobals "int" = some none)
    (z_len : PySem.W.nsIn K mainGlobals "len" = some none)
    (z_max : PySem.W.nsIn K mainGlobals "max" = some none)
    (z_min : PySem.W.nsIn K mainGlobals "min" = some none)
    (z_range : PySem.W.nsIn K mainGlobals "range" = some none)
    (z_repr : PySem.W.nsIn K mainGlobals "repr" = some none)
    (z_tuple : PySem.W.nsIn K mainGlobals "tuple" = some none)
    (z_zip : PySem.W.nsIn K mainGlobals "zip" = some none)
    (q_NO_PRICE : PySem.W.nsIn K mainGlobals "NO_PRICE" = some (some (.ref t_NO_PRICE)))
    (w_NO_PRICE : K.lookup t_NO_PRICE = some ⟨.type "tuple", cd_t_NO_PRICE, .seq #[.int (0) t_NO_PRICE_0, .int (1) t_NO_PRICE_1] cn_t_NO_PRICE, cs_t_NO_PRICE⟩) :
    ∃ (fd : FuncData) (z : Ad), (clsA z).T = [] ∧ (∀ (s : Shared) (v : Value), BindsTo s fd ⟨[v], []⟩ [("_law_script", v)]) ∧ ∀ base : Heap, K.In base → base.Ns mainGlobals mg → FnG true l.prog w K mg base (L2.CX l.prog w) 7 fa fd ["_law_script"] (spM ⟨K, clsA z⟩ (fs1 t_law)) := by
  have e := hfa.symm.trans (PySem.W.mg_of X G0 a_law)
  cases e
  have F_common_divisor := fun_mk (st := st_common_divisor) l_common_divisor c_common_divisor k_common_divisor
  have B_common_divisor := F_common_divisor.binds (ps := ["one", "other"]) fun _ _ _ _ _ _ us hl => match us, hl with | [_, _], _ => rfl
  have F_fraction := fun_mk (st := st_fraction) l_fraction c_fraction k_fraction
  have B_fraction := F_fraction.binds (ps := ["numerator", "denominator"]) fun _ _ _ _ _ _ us hl => match us, hl with | [_, _], _ => rfl
  have F_is_less := fun_mk (st := st_is_less) l_is_less c_is_less k_is_less
  have B_is_less := F_is_less.binds (ps := ["one", "other"]) fun _ _ _ _ _ _ us hl => match us, hl with | [_, _], _ => rfl
  have F_boundaries := fun_mk (st := st_boundaries) l_boundaries c_boundaries k_boundaries
  have B_boundaries := F_boundaries.binds (ps := ["policy"]) fun _ _ _ _ _ _ us hl => match us, hl with | [_], _ => rfl
  have F_swings_of := fun_mk (st := st_swings_of) l_swings_of c_swings_of k_swings_of
  have B_swings_of := F_swings_of.binds (ps := ["policy"]) fun _ _ _ _ _ _ us hl => match us, hl with | [_], _ => rfl
  have F_dearest_swing := fun_mk (st := st_dearest_swing) l_dearest_swing c_dearest_swing k_dearest_swing
  have B_dearest_swing := F_dearest_swing.binds (ps := ["policy"]) fun _ _ _ _ _ _ us hl => match us, hl with | [_], _ => rfl
  have F_worst_price := fun_mk (st := st_worst_price) l_worst_price c_worst_price k_worst_price
  have B_worst_price := F_worst_price.binds (ps := ["policy"]) fun _ _ _ _ _ _ us hl => match us, hl with | [_], _ => rfl
  have F_worst_swing := fun_mk (st := st_worst_swing) l_worst_swing c_worst_swing k_worst_swing
  have B_worst_swing := F_worst_swing.binds (ps := ["policy"]) fun _ _ _ _ _ _ us hl => match us, hl with | [_], _ => rfl
  have F_joint_price := fun_mk (st := st_joint_price) l_joint_price c_joint_price k_joint_price
  have S_joint_price := star_mk (pv := "policies") F_joint_price (fun _ _ _ _ _ _ => rfl) (fun _ _ _ _ _ _ _ _ => rfl)
  have F_law_draws := fun_mk (st := st_law_draws) l_law_draws c_law_draws k_law_draws
  have B_law_draws := F_law_draws.binds (ps := ["_law_script", "_law_k"]) fun _ _ _ _ _ _ us hl => match us, hl with | [_, _], _ => rfl
  have F_law_below := fun_mk (st := st_law_below) l_law_below c_law_below k_law_below
  have B_law_below := F_law_below.binds (ps := ["_law_draws_here", "_law_many"]) fun _ _ _ _ _ _ us hl => match us, hl with | [_, _], _ => rfl
  have F_law_pick := fun_mk (st := st_law_pick) l_law_pick c_law_pick k_law_pick
  have B_law_pick := F_law_pick.binds (ps := ["_law_draws_here", "_law_items"]) fun _ _ _ _ _ _ us hl => match us, hl with | [_, _], _ => rfl
  have F_law_policy := fun_mk (st := st_law_policy) l_law_policy c_law_policy k_law_policy
  have B_law_policy := F_law_policy.binds (ps := ["_law_draws_here", "_law_levels", "_law_step"]) fun _ _ _ _ _ _ us hl => match us, hl with | [_, _, _], _ => rfl
  have F_law_pushed := fun_mk (st := st_law_pushed) l_law_pushed c_law_pushed k_law_pushed
  have B_law_pushed := F_law_pushed.binds (ps := ["_law_policy_here", "_law_level", "_law_size"]) fun _ _ _ _ _ _ us hl => match us, hl with | [_, _, _], _ => rfl
  have F_law_popped := fun_mk (st := st_law_popped) l_law_popped c_law_popped k_law_popped
  have B_law_popped := F_law_popped.binds (ps := ["_law_policy_here", "_law_level", "_law_size"]) fun _ _ _ _ _ _ us hl => match us, hl with | [_, _, _], _ => rfl
  have F_law_own := fun_mk (st := st_law_own) l_law_own c_law_own k_law_own
  have B_law_own := F_law_own.binds (ps := ["_law_policy_here"]) fun _ _ _ _ _ _ us hl => match us, hl with | [_], _ => rfl
  have F_law_cycle := fun_mk (st := st_law_cycle) l_law_cycle c_law_cycle k_law_cycle
  have B_law_cycle := F_law_cycle.binds (ps := ["_law_policy_here", "_law_low", "_law_high"]) fun _ _ _ _ _ _ us hl => match us, hl with | [_, _, _], _ => rfl
  have F_law := fun_mk (st := st_law) l_law c_law k_law
  have B_law := F_law.binds (ps := ["_law_script"]) fun _ _ _ _ _ _ us hl => match us, hl with | [_], _ => rfl
  have T : ∀ base : Heap, (∀ t ∈ ([] : List (Str × Addr × Addr)), LamX.TabB base mg t.2.1 t.2.2) → Txt K mg ⟨f_common_divisor, _, f_fraction, _, f_is_less, _, f_boundaries, _, f_swings_of, _, f_dearest_swing, _, f_worst_price, _, f_worst_swing, _, f_joint_price, _, f_law_draws, _, f_law_below, _, f_law_pick, _, f_law_policy, _, f_law_pushed, _, f_law_popped, _, f_law_own, _, f_law_cycle, _, fa, _, t_NO_PRICE⟩ base := fun base hbt => ⟨F_common_divisor, B_common_divisor, PySem.W.mg_of X G0 a_common_divisor, F_fraction, B_fraction, PySem.W.mg_of X G0 a_fraction, F_is_less, B_is_less, PySem.W.mg_of X G0 a_is_less, F_boundaries, B_boundaries, PySem.W.mg_of X G0 a_boundaries, F_swings_of, B_swings_of, PySem.W.mg_of X G0 a_swings_of, F_dearest_swing, B_dearest_swing, PySem.W.mg_of X G0 a_dearest_swing, F_worst_price, B_worst_price, PySem.W.mg_of X G0 a_worst_price, F_worst_swing, B_worst_swing, PySem.W.mg_of X G0 a_worst_swing, F_joint_price, S_joint_price, PySem.W.mg_of X G0 a_joint_price, F_law_draws, B_law_draws, PySem.W.mg_of X G0 a_law_draws, F_law_below, B_law_below, PySem.W.mg_of X G0 a_law_below, F_law_pick, B_law_pick, PySem.W.mg_of X G0 a_law_pick, F_law_policy, B_law_policy, PySem.W.mg_of X G0 a_law_policy, F_law_pushed, B_law_pushed, PySem.W.mg_of X G0 a_law_pushed, F_law_popped, B_law_popped, PySem.W.mg_of X G0 a_law_popped, F_law_own, B_law_own, PySem.W.mg_of X G0 a_law_own, F_law_cycle, B_law_cycle, PySem.W.mg_of X G0 a_law_cycle, F_law, B_law, PySem.W.mg_of X G0 a_law, PySem.W.mg_none_of X G0 z_abs, PySem.W.mg_none_of X G0 z_any, PySem.W.mg_none_of X G0 z_enumerate, PySem.W.mg_none_of X G0 z_int, PySem.W.mg_none_of X G0 z_len, PySem.W.mg_none_of X G0 z_max, PySem.W.mg_none_of X G0 z_min, PySem.W.mg_none_of X G0 z_range, PySem.W.mg_none_of X G0 z_repr, PySem.W.mg_none_of X G0 z_tuple, PySem.W.mg_none_of X G0 z_zip, PySem.W.mg_of X G0 q_NO_PRICE, fun _ _ => .tup (.inr ⟨_, _, _, w_NO_PRICE, rfl, rfl, (by decide : 2 ≤ 16777216), (.cons (show L2.RelV (.int (0)) _ from ⟨_, rfl⟩) (.cons (show L2.RelV (.int (1)) _ from ⟨_, rfl⟩) .nil))⟩) (.cons (.int _) (.cons (.int _) .nil))⟩
  exact ⟨_, _, rfl, fun s v => .of_eq rfl, fun base _ _ => o_law (T base (fun _ h => nomatch h))⟩
end G.K75

set_option Elab.async false
set_option linter.all false
namespace G
open PySem
/-! ### what must hold behind a computation -/
def wp {α : Type} (t : M α) (m : Hs) (Q : α → Hs → Prop) : Prop := match t m with
  | .ok a m' => Q a m'
  | _ => False
section
variable {α β γ : Type} {m : Hs} {Q : α → Hs → Prop} {A B C : Type}
theorem wp_imp {t : M α} {Q' : α → Hs → Prop} (h : wp t m Q) (k : ∀ a m', Q a m' → Q' a m') : wp t m Q' := by
  unfold wp at *
  split at h
  · exact k _ _ h
  · exact h.elim
theorem wp_iff_ok {t : M α} : wp t m Q ↔ ∃ a m', t m = .ok a m' ∧ Q a m' := by
  unfold wp
  constructor
  · intro h
    split at h
    · rename_i a m' e
      exact ⟨a, m', e, h⟩
    · exact h.elim
  · rintro ⟨a, m', e, h⟩
    rw [e]
    exact h
theorem wp_ret {a : α} : wp (ret a) m Q = Q a m := id rfl
theorem wp_bad : wp (bad : M α) m Q = False := id rfl
theorem wp_bnd {t : M β} {f : β → M α} : wp (bnd t f) m Q = wp t m fun b m' => wp (f b) m' Q := by
  unfold wp bnd
  cases t m <;> rfl
theorem wp_opt {o : Option α} : wp (opt o) m Q = ∃ a, o = some a ∧ Q a m := by
  cases o with
  | none => simp [opt, wp_bad]
  | some a => simp [opt, wp_ret]
theorem wp_ask {f : Hs → Option α} : wp (ask f) m Q = ∃ a, f m = some a ∧ Q a m := by
  unfold wp ask
  cases f m with
  | none => simp
  | some a => simp
theorem wp_put {f : Hs → Option Hs} {R : Unit → Hs → Prop} : wp (put f) m R = ∃ m', f m = some m' ∧ R () m' := by
  unfold wp put
  cases f m with
  | none => simp
  | some a => simp
theorem wp_ite {c : Prop} [Decidable c] {t u : M α} : wp (if c then t else u) m Q = if c then wp t m Q else wp u m Q := by split <;> rfl
theorem wp_gd {c : Prop} [Decidable c] {t : M α} : wp (if c then t else bad) m Q = (c ∧ wp t m Q) := by
  by_cases h : c
  · simp [h]
  · simp [h, wp_bad]
/-! ### statements -/
theorem wp_nxt {a : A} {R : Fl A B → Hs → Prop} : wp (nxt a) m R = R (.nx a) m := id rfl
theorem wp_brk {b : B} {R : Fl A B → Hs → Prop} : wp (brk b) m R = R (.bk b) m := id rfl
theorem wp_cnt {b : B} {R : Fl A B → Hs → Prop} : wp (cnt b) m R = R (.ct b) m := id rfl
theorem wp_rtn {t : M D} {R : Fl A B → Hs → Prop} : wp (rtn t) m R = wp t m fun d m' => R (.rt d) m' := by
  unfold rtn
  rw [wp_bnd]
  rfl
theorem wp_seq {t : M (Fl A B)} {f : A → M (Fl C B)} {R : Fl C B → Hs → Prop} : wp (seq t f) m R = wp t m fun fl m' => wp (goOn f fl) m' R := wp_bnd
theorem wp_iff {c : M D} {t u : M (Fl A B)} {R : Fl A B → Hs → Prop} : wp (iff c t u) m R = wp c m fun x m1 => wp (tru x) m1 fun k m2 => if k = true then wp t m2 R else wp u m2 R := by
  unfold iff
  rw [wp_bnd]
  congr 1
  funext x m1
  rw [wp_bnd]
  congr 1
  funext k m2
  rw [wp_ite]
theorem wp_fnM {t : M (Fl Unit Empty)} {R : D → Hs → Prop} : wp (fnM t) m R = wp t m fun fl m' => wp (fnE fl) m' R := wp_bnd
end
section
variable {m : Hs} {Q : D → Hs → Prop} {a b c : M D} {x y : D}
/-! ### expressions -/
theorem wp_binM {o : Op} : wp (binM o a b) m Q = wp a m fun x m1 => wp b m1 fun y m2 => wp (binS o x y) m2 Q := by
  unfold binM
  rw [wp_bnd]
  congr 1
  funext x m1
  rw [wp_bnd]
theorem wp_cmpM {o : Cp} : wp (cmpM o a b) m Q = wp a m fun x m1 => wp b m1 fun y m2 => wp (cmpS o x y) m2 Q := by
  unfold cmpM
  rw [wp_bnd]
  congr 1
  funext x m1
  rw [wp_bnd]
theorem wp_idxM : wp (idxM a b) m Q = wp a m fun x m1 => wp b m1 fun y m2 => wp (idxS x y) m2 Q := by
  unfold idxM
  rw [wp_bnd]
  congr 1
  funext x m1
  rw [wp_bnd]
theorem wp_negM : wp (negM a) m Q = wp a m fun x m1 => wp (negS x) m1 Q := wp_bnd
theorem wp_notM : wp (notM a) m Q = wp a m fun x m1 => wp (tru x) m1 fun k m2 => Q (.bl (!k)) m2 := by
  unfold notM
  rw [wp_bnd]
  congr 1
  funext x m1
  rw [wp_bnd]
  rfl
theorem wp_andM : wp (andM a b) m Q = wp a m fun x m1 => wp (tru x) m1 fun k m2 => if k = true then wp b m2 Q else Q x m2 := by
  unfold andM
  rw [wp_bnd]
  congr 1
  funext x m1
  rw [wp_bnd]
  congr 1
  funext k m2
  rw [wp_ite]
  rfl
theorem wp_orM : wp (orM a b) m Q = wp a m fun x m1 => wp (tru x) m1 fun k m2 => if k = true then Q x m2 else wp b m2 Q := by
  unfold orM
  rw [wp_bnd]
  congr 1
  funext x m1
  rw [wp_bnd]
  congr 1
  funext k m2
  rw [wp_ite]
  rfl
theorem wp_iteM : wp (iteM c a b) m Q = wp c m fun x m1 => wp (tru x) m1 fun k m2 => if k = true then wp a m2 Q else wp b m2 Q := by
  unfold iteM
  rw [wp_bnd]
  congr 1
  funext x m1
  rw [wp_bnd]
  congr 1
  funext k m2
  rw [wp_ite]
theorem wp_chnS {k : Bool} : wp (chnS (.bl k) a b) m Q = if k = true then wp a m Q else wp b m Q := by cases k <;> rfl
theorem wp_chnM {o p : Cp} : wp (chnM o p a b c) m Q = wp a m fun x m1 => wp b m1 fun y m2 => wp (cmpS o x y) m2 fun z m3 => wp (chnS z (bnd c fun w => cmpS p y w) (ret (.bl false))) m3 Q := by
  unfold chnM
  rw [wp_bnd]
  congr 1
  funext x m1
  rw [wp_bnd]
  congr 1
  funext y m2
  rw [wp_bnd]
theorem wp_ls0 {R : List D → Hs → Prop} : wp (lsM []) m R = R [] m := id rfl
theorem wp_ls1 {ts : List (M D)} {R : List D → Hs → Prop} : wp (lsM (a :: ts)) m R = wp a m fun x m1 => wp (lsM ts) m1 fun xs m2 => R (x :: xs) m2 := by
  show wp (bnd a fun x => bnd (lsM ts) fun xs => ret (x :: xs)) m R = _
  rw [wp_bnd]
  congr 1
  funext x m1
  rw [wp_bnd]
  rfl
theorem wp_tupM {t : M (List D)} : wp (tupM t) m Q = wp t m fun xs m1 => xs.length ≤ sizeLine ∧ Q (.tup xs) m1 := by
  unfold tupM
  rw [wp_bnd]
  congr 1
  funext xs m1
  rw [wp_gd]
  rfl
theorem wp_lstM {t : M (List D)} : wp (lstM t) m Q = wp t m fun xs m1 => xs.length ≤ sizeLine ∧ Q (.fl xs) m1 := by
  unfold lstM
  rw [wp_bnd]
  congr 1
  funext xs m1
  rw [wp_gd]
  rfl
theorem wp_lshM {t : M (List D)} : wp (lshM t) m Q = wp t m fun xs m1 => xs.length ≤ sizeLine ∧ Q (.ref m1.length) (m1 ++ [.lst xs]) := by
  unfold lshM
  rw [wp_bnd]
  congr 1
  funext xs m1
  rw [wp_gd]
  rfl
theorem wp_ownM {t : M (List D)} {R : List D → Hs → Prop} : wp (ownM t) m R = wp t m fun xs m1 => xs.length ≤ sizeLine ∧ R xs m1 := by
  unfold ownM
  rw [wp_bnd]
  congr 1
  funext xs m1
  rw [wp_gd]
  rfl
theorem wp_idxL {xs : List D} : wp (idxL xs a) m Q = wp a m fun y m1 => wp (idlS xs y) m1 Q := wp_bnd
theorem wp_slcM {l h : M (Option Int)} : wp (slcM a l h) m Q = wp a m fun x m1 => wp l m1 fun l' m2 => wp h m2 fun h' m3 => wp (slcS x l' h') m3 Q := by
  unfold slcM
  rw [wp_bnd]
  congr 1
  funext x m1
  rw [wp_bnd]
  congr 1
  funext y m2
  rw [wp_bnd]
theorem wp_noP {R : Option Int → Hs → Prop} : wp noP m R = R none m := id rfl
theorem wp_soP {R : Option Int → Hs → Prop} : wp (soP a) m R = wp a m fun x m1 => wp (soS x) m1 R := wp_bnd
theorem wp_calM {f : List D → M D} {t : M (List D)} : wp (calM f t) m Q = wp t m fun xs m1 => wp (f xs) m1 Q := wp_bnd
/-! ### operators -/
variable {i j : Int}
theorem o_mul : binS .mul (.int i) (.int j) = if i.natAbs.log2 + j.natAbs.log2 < 1000000 then ret (.int (i * j)) else bad := rfl
theorem o_fdiv : binS .fdiv (.int i) (.int j) = if 0 < j ∧ j.natAbs.log2 < 9000 then ret (.int (i / j)) else bad := rfl
theorem o_mod : binS .mod (.int i) (.int j) = if 0 < j then ret (.int (i % j)) else bad := rfl
theorem o_pow : binS .pow (.int i) (.int j) = if 0 ≤ j ∧ (i.natAbs.log2 + 1) * j.toNat ≤ 134217728 then ret (.int (i ^ j.toNat)) else bad := rfl
theorem o_shl : binS .shl (.int i) (.int j) = if 0 ≤ j ∧ j ≤ 1000000 ∧ i.natAbs < 18446744073709551616 then ret (.int (i * 2 ^ j.toNat)) else bad := rfl
theorem o_addT {xs ys : List D} : binS .add (.tup xs) (.tup ys) = if xs.length + ys.length ≤ sizeLine then ret (.tup (xs ++ ys)) else bad := rfl
theorem o_addL {xs ys : List D} : binS .add (.fl xs) (.fl ys) = if xs.length + ys.length ≤ sizeLine then ret (.fl (xs ++ ys)) else bad := by
  funext m
  show (if xs.length + ys.length ≤ sizeLine then Rs.ok (D.fl (xs ++ ys)) m else .bad) = _
  split <;> rfl
theorem eqS_int : eqS (.int i) (.int j) m = some (i == j) := by
  simp only [eqS, eqP, pyD]
  rfl
theorem q_eq : cmpS .eq (.int i) (.int j) = ret (.bl (i == j)) := by
  funext m
  show bnd (ask (eqS (.int i) (.int j))) (fun b => ret (D.bl b)) m = _
  simp only [bnd, ask, eqS_int]
  rfl
theorem q_ne : cmpS .ne (.int i) (.int j) = ret (.bl (!(i == j))) := by
  funext m
  show bnd (ask (eqS (.int i) (.int j))) (fun b => ret (D.bl (!b))) m = _
  simp only [bnd, ask, eqS_int]
  rfl
theorem ix_r {n : Nat} : wp (idxS (.ref n) (.int i)) m Q = ∃ xs, m[n]? = some (.lst xs) ∧ ∃ d, atD xs i = some d ∧ Q d m := by
  show wp (bnd (ask (itemsOf (.ref n))) fun xs => opt (atD xs i)) m Q = _
  rw [wp_bnd, wp_ask]
  simp only [itemsOf, wp_opt]
  cases hm : m[n]? with
  | none => simp
  | some o =>
    cases o with
    | ins c fs => simp
    | exc c fs => simp
    | dct _ _ => simp
    | lst xs => simp
theorem at_nat {xs : List D} {k : Nat} : atD xs (k : Int) = xs[k]? := by
  unfold atD ixD
  rw [if_pos (Int.natCast_nonneg k)]
  by_cases h : (k : Int) < xs.length
  · rw [if_pos h]; simp
  · rw [if_neg h, List.getElem?_eq_none (by omega)]; rfl
theorem at_0 {x : D} {xs : List D} : atD (x :: xs) 0 = some x := at_nat (k := 0)
theorem at_1 {x0 x1 : D} {xs : List D} : atD (x0 :: x1 :: xs) 1 = some x1 := at_nat (k := 1)
theorem at_2 {x0 x1 x2 : D} {xs : List D} : atD (x0 :: x1 :: x2 :: xs) 2 = some x2 := at_nat (k := 2)
theorem at_3 {x0 x1 x2 x3 : D} {xs : List D} : atD (x0 :: x1 :: x2 :: x3 :: xs) 3 = some x3 := at_nat (k := 3)
theorem at_last {xs : List D} {x : D} : atD (xs ++ [x]) (-1) = some x := by
  unfold atD ixD
  rw [if_neg (by decide), if_pos (by simp; omega)]
  have e : ((-1 : Int) + ((xs ++ [x]).length : Int)).toNat = xs.length := by simp; omega
  rw [e]
  simp
theorem sumI_map : ∀ ns : List Int, sumI (ns.map D.int) = some ns.sum
  | [] => rfl
  | n :: ns => by simp [sumI, sumI_map ns]
theorem boolsOf_map : ∀ ns : List Bool, boolsOf (ns.map D.bl) = some ns
  | [] => rfl
  | n :: ns => by simp [boolsOf, boolsOf_map ns]
theorem f_sum {ns : List Int} : sumS [.fl (ns.map D.int)] = ret (.int ns.sum) := by
  show bnd (opt (sumI (ns.map D.int))) (fun k => ret (D.int k)) = _
  rw [sumI_map]
  rfl
theorem f_all {ns : List Bool} : allS [.fl (ns.map D.bl)] = ret (.bl (ns.all id)) := by
  show bnd (opt (boolsOf (ns.map D.bl))) (fun k => ret (D.bl (k.all id))) = _
  rw [boolsOf_map]
  rfl
theorem f_any {ns : List Bool} : anyS [.fl (ns.map D.bl)] = ret (.bl (ns.any id)) := by
  show bnd (opt (boolsOf (ns.map D.bl))) (fun k => ret (D.bl (k.any id))) = _
  rw [boolsOf_map]
  rfl
theorem wp_isiM {t : Ty} : wp (isiM t a) m Q = wp a m fun x m1 => wp (isiS t x) m1 Q := wp_bnd
end
/-! ### loops -/
theorem stay_nil {α : Type} {f : Unit → M α} : bnd (stay []) f = f () := rfl
section
variable {A B : Type} {m : Hs}
/-- an invariant over what is left of the items -/
theorem forL_wp {body : D → A → M (Fl A A)} {R : Fl A B → Hs → Prop} (I : List D → A → Hs → Prop)
    (step : ∀ x xs s m, I (x :: xs) s m → wp (body x s) m fun fl m' => match fl with
      | .nx s' => I xs s' m'
      | .ct s' => I xs s' m'
      | .bk s' => R (.nx s') m'
      | .rt d => R (.rt d) m')
    (done : ∀ s m, I [] s m → R (.nx s) m) : ∀ (xs : List D) (s : A) (m : Hs), I xs s m → wp (forL [] body xs s) m R
  | [], s, m, h => done s m h
  | x :: xs, s, m, h => by
    show wp (bnd (body x s) (turnF (forL [] body xs))) m R
    rw [wp_bnd]
    refine wp_imp (step x xs s m h) fun fl m' q => ?_
    cases fl with
    | nx s' => exact forL_wp I step done xs s' m' q
    | ct s' => exact forL_wp I step done xs s' m' q
    | bk s' => exact q
    | rt d => exact q
theorem wp_forM {src : M Its} {s : A} {body : D → A → M (Fl A A)} {R : Fl A B → Hs → Prop} : wp (forM src s body) m R = wp src m fun z m' => wp (forL z.2 body z.1 s) m' R := wp_bnd
theorem wp_seqI {a : M D} {R : Its → Hs → Prop} : wp (seqI a) m R = wp a m fun x m1 => wp (ask (guardOf x)) m1 R := wp_bnd
theorem wp_rng1 {a : M D} {R : Its → Hs → Prop} : wp (rng1I a) m R = wp a m fun x m1 => wp (rng1S x) m1 R := wp_bnd
theorem rng1_int {n : Int} {R : Its → Hs → Prop} : wp (rng1S (.int n)) m R = ((-(2 ^ 62) ≤ n ∧ n < 2 ^ 62) ∧ R (rngL 0 n.toNat, []) m) := by
  show wp (if -(2 ^ 62) ≤ n ∧ n < 2 ^ 62 then ret (rngL 0 n.toNat, ([] : List (Nat × List D))) else bad) m R = _
  rw [wp_gd, wp_ret]
theorem wp_rng2 {a b : M D} {R : Its → Hs → Prop} : wp (rng2I a b) m R = wp a m fun x m1 => wp b m1 fun y m2 => wp (rng2S x y) m2 R := by
  unfold rng2I
  rw [wp_bnd]
  congr 1
  funext x m1
  rw [wp_bnd]
theorem rng2_int {i j : Int} {R : Its → Hs → Prop} : wp (rng2S (.int i) (.int j)) m R = ((-(2 ^ 62) ≤ i ∧ i < 2 ^ 62 ∧ -(2 ^ 62) ≤ j ∧ j < 2 ^ 62) ∧ R (rngL i (j - i).toNat, []) m) := by
  show wp (if -(2 ^ 62) ≤ i ∧ i < 2 ^ 62 ∧ -(2 ^ 62) ≤ j ∧ j < 2 ^ 62 then ret (rngL i (j - i).toNat, ([] : List (Nat × List D))) else bad) m R = _
  rw [wp_gd, wp_ret]
theorem wp_enum {a : M D} {R : Its → Hs → Prop} : wp (enumI a) m R = wp a m fun x m1 => wp (enumS x) m1 R := wp_bnd
theorem wp_enum2 {a b : M D} {R : Its → Hs → Prop} : wp (enum2I a b) m R = wp a m fun x m1 => wp b m1 fun y m2 => wp (enum2S x y) m2 R := by
  unfold enum2I
  rw [wp_bnd]
  congr 1
  funext x m1
  rw [wp_bnd]
theorem enum2_t {xs : List D} {s : Int} {R : Its → Hs → Prop} : wp (enum2S (.tup xs) (.int s)) m R = ((-(2 ^ 63) ≤ s ∧ s < 2 ^ 63) ∧ R (enumL s xs, []) m) := by
  show wp (if -(2 ^ 63) ≤ s ∧ s < 2 ^ 63 then ret (enumL s xs, ([] : List (Nat × List D))) else bad) m R = _
  rw [wp_gd, wp_ret]
theorem enum2_f {xs : List D} {s : Int} {R : Its → Hs → Prop} : wp (enum2S (.fl xs) (.int s)) m R = ((-(2 ^ 63) ≤ s ∧ s < 2 ^ 63) ∧ R (enumL s xs, []) m) := by
  show wp (if -(2 ^ 63) ≤ s ∧ s < 2 ^ 63 then ret (enumL s xs, ([] : List (Nat × List D))) else bad) m R = _
  rw [wp_gd, wp_ret]
theorem wp_zip {a b : M D} {R : Its → Hs → Prop} : wp (zipI a b) m R = wp a m fun x m1 => wp b m1 fun y m2 => wp (zipS x y) m2 R := by
  unfold zipI
  rw [wp_bnd]
  congr 1
  funext x m1
  rw [wp_bnd]
/-- while: a measure -/
theorem whlL_wp {c : A → M D} {body : A → M (Fl A A)} {R : Fl A B → Hs → Prop} (I : Nat → A → Hs → Prop)
    (step : ∀ n s m, I n s m → wp (c s) m fun x m1 => wp (tru x) m1 fun k m2 => if k = true then wp (body s) m2 fun fl m' => match fl with
        | .nx s' => ∃ n', n' < n ∧ I n' s' m'
        | .ct s' => ∃ n', n' < n ∧ I n' s' m'
        | .bk s' => R (.nx s') m'
        | .rt d => R (.rt d) m'
      else R (.nx s) m2) : ∀ (f n : Nat) (s : A) (m : Hs), n < f → I n s m → wp (whlL c body f s) m R
  | 0, n, s, m, hf, h => absurd hf (Nat.not_lt_zero n)
  | f + 1, n, s, m, hf, h => by
    show wp (bnd (c s) fun x => bnd (tru x) fun k => if k = true then bnd (body s) (turnF (whlL c body f)) else ret (.nx s)) m R
    rw [wp_bnd]
    refine wp_imp (step n s m h) fun x m1 q => ?_
    rw [wp_bnd]
    refine wp_imp q fun k m2 q => ?_
    rw [wp_ite]
    split at q
    · rename_i hk
      rw [if_pos hk, wp_bnd]
      refine wp_imp q fun fl m' q => ?_
      cases fl with
      | nx s' =>
        obtain ⟨n', h1, h2⟩ := q
        exact whlL_wp I step f n' s' m' (by omega) h2
      | ct s' =>
        obtain ⟨n', h1, h2⟩ := q
        exact whlL_wp I step f n' s' m' (by omega) h2
      | bk s' => exact q
      | rt d => exact q
    · rename_i hk
      rw [if_neg hk]
      exact q
theorem wp_whlM {c : A → M D} {body : A → M (Fl A A)} {R : Fl A B → Hs → Prop} {s : A} (I : Nat → A → Hs → Prop) (n : Nat) (hn : n < 100000) (h0 : I n s m)
    (step : ∀ n s m, I n s m → wp (c s) m fun x m1 => wp (tru x) m1 fun k m2 => if k = true then wp (body s) m2 fun fl m' => match fl with
        | .nx s' => ∃ n', n' < n ∧ I n' s' m'
        | .ct s' => ∃ n', n' < n ∧ I n' s' m'
        | .bk s' => R (.nx s') m'
        | .rt d => R (.rt d) m'
      else R (.nx s) m2) : wp (whlM c s body) m R := whlL_wp I step whileMost n s m hn h0
end
/-! ### comprehensions -/
theorem wp_lcM {src : M Its} {turn : D → M (Option D)} {m : Hs} {Q : D → Hs → Prop} : wp (lcM src turn) m Q = wp src m fun z m1 => wp (lcL z.2 turn z.1 []) m1 fun ys m2 => Q (.fl ys) m2 := by
  unfold lcM
  rw [wp_bnd]
  congr 1
  funext z m1
  rw [wp_bnd]
  rfl
theorem wp_lcO {src : M Its} {turn : D → M (Option D)} {m : Hs} {R : List D → Hs → Prop} : wp (lcO src turn) m R = wp src m fun z m1 => wp (lcL z.2 turn z.1 []) m1 R := by
  unfold lcO
  rw [wp_bnd]
  congr 1
  funext z m1
  rw [wp_bnd]
  rfl
theorem calm_ret {α : Type} {a : α} : calm (ret a) = ret a := rfl
theorem lcL_pure {turn : D → M (Option D)} (f : D → Option D) : ∀ (xs acc : List D), (∀ x, x ∈ xs → turn x = ret (f x)) → acc.length + xs.length ≤ sizeLine → lcL [] turn xs acc = ret (acc ++ xs.filterMap f)
  | [], acc, _, _ => by simp [lcL, stay_nil]
  | x :: xs, acc, h, hl => by
    show bnd (calm (turn x)) _ = _
    rw [h x (by simp), calm_ret, bnd_ret]
    simp only [List.length_cons] at hl
    cases hf : f x with
    | none =>
      simp only [List.filterMap_cons, hf]
      exact lcL_pure f xs acc (fun y hy => h y (by simp [hy])) (by omega)
    | some y =>
      simp only [List.filterMap_cons, hf]
      rw [if_pos (by omega), lcL_pure f xs (acc ++ [y]) (fun y hy => h y (by simp [hy])) (by simp; omega)]
      simp
/-- every turn gives one item -/
theorem lcL_map {turn : D → M (Option D)} (f : D → D) (xs : List D) (h : ∀ x, x ∈ xs → turn x = ret (some (f x))) (hl : xs.length ≤ sizeLine) : lcL [] turn xs [] = ret (xs.map f) := by
  rw [lcL_pure (fun x => some (f x)) xs [] h (by simpa using hl)]
  simp
theorem wp_appO {β : Type} {xs : List D} {t : M D} {k : List D → M β} {m : Hs} {R : β → Hs → Prop} : wp (appO xs t k) m R = wp t m fun y m1 => xs.length < sizeLine ∧ wp (k (xs ++ [y])) m1 R := by
  unfold appO
  rw [wp_bnd]
  congr 1
  funext y m1
  rw [wp_gd]
theorem wp_extO {β : Type} {xs : List D} {t : M D} {k : List D → M β} {m : Hs} {R : β → Hs → Prop} : wp (extO xs t k) m R = wp t m fun y m1 => wp (ask (lstOf y)) m1 fun ys m2 => xs.length + ys.length ≤ sizeLine ∧ wp (k (xs ++ ys)) m2 R := by
  unfold extO
  rw [wp_bnd]
  congr 1
  funext y m1
  rw [wp_bnd]
  congr 1
  funext ys m2
  rw [wp_gd]
end G

set_option Elab.async false
set_option linter.all false
namespace G
open PySem
section
variable {m : Hs} {Q : D → Hs → Prop} {i j : Int} {xs ys : List D} {s t : Str} {b : Bool} {n : Nat} {x x0 x1 x2 x3 y : D} {R : Bool → Hs → Prop}
theorem w_add : wp (binS .add (.int i) (.int j)) m Q = (Q (.int (i + j)) m) := id rfl
theorem w_sub : wp (binS .sub (.int i) (.int j)) m Q = (Q (.int (i - j)) m) := id rfl
theorem w_mul : wp (binS .mul (.int i) (.int j)) m Q = (i.natAbs.log2 + j.natAbs.log2 < 1000000 ∧ Q (.int (i * j)) m) := by rw [o_mul, wp_gd, wp_ret]
theorem w_fdiv : wp (binS .fdiv (.int i) (.int j)) m Q = ((0 < j ∧ j.natAbs.log2 < 9000) ∧ Q (.int (i / j)) m) := by rw [o_fdiv, wp_gd, wp_ret]
theorem w_mod : wp (binS .mod (.int i) (.int j)) m Q = (0 < j ∧ Q (.int (i % j)) m) := by rw [o_mod, wp_gd, wp_ret]
theorem w_pow : wp (binS .pow (.int i) (.int j)) m Q = ((0 ≤ j ∧ (i.natAbs.log2 + 1) * j.toNat ≤ 134217728) ∧ Q (.int (i ^ j.toNat)) m) := by rw [o_pow, wp_gd, wp_ret]
theorem w_shl : wp (binS .shl (.int i) (.int j)) m Q = ((0 ≤ j ∧ j ≤ 1000000 ∧ i.natAbs < 18446744073709551616) ∧ Q (.int (i * 2 ^ j.toNat)) m) := by rw [o_shl, wp_gd, wp_ret]
theorem w_addT : wp (binS .add (.tup xs) (.tup ys)) m Q = (xs.length + ys.length ≤ sizeLine ∧ Q (.tup (xs ++ ys)) m) := by rw [o_addT, wp_gd, wp_ret]
theorem w_addL : wp (binS .add (.fl xs) (.fl ys)) m Q = (xs.length + ys.length ≤ sizeLine ∧ Q (.fl (xs ++ ys)) m) := by rw [o_addL, wp_gd, wp_ret]
theorem w_lt : wp (cmpS .lt (.int i) (.int j)) m Q = (Q (.bl (decide (i < j))) m) := id rfl
theorem w_le : wp (cmpS .le (.int i) (.int j)) m Q = (Q (.bl (decide (i ≤ j))) m) := id rfl
theorem w_gt : wp (cmpS .gt (.int i) (.int j)) m Q = (Q (.bl (decide (j < i))) m) := id rfl
theorem w_ge : wp (cmpS .ge (.int i) (.int j)) m Q = (Q (.bl (decide (j ≤ i))) m) := id rfl
theorem w_eqI : wp (cmpS .eq (.int i) (.int j)) m Q = (Q (.bl (i == j)) m) := by rw [q_eq, wp_ret]
theorem w_neI : wp (cmpS .ne (.int i) (.int j)) m Q = (Q (.bl (!(i == j))) m) := by rw [q_ne, wp_ret]
theorem w_eqS : wp (cmpS .eq (.str s) (.str t)) m Q = (Q (.bl (decide (s = t))) m) := id rfl
theorem w_neS : wp (cmpS .ne (.str s) (.str t)) m Q = (Q (.bl (!decide (s = t))) m) := id rfl
theorem w_isN : wp (cmpS .is .non .non) m Q = (Q (.bl true) m) := id rfl
theorem w_ntN : wp (cmpS .isnot .non .non) m Q = (Q (.bl false) m) := id rfl
theorem w_isI : wp (cmpS .is (.int i) .non) m Q = (Q (.bl false) m) := id rfl
theorem w_ntI : wp (cmpS .isnot (.int i) .non) m Q = (Q (.bl true) m) := id rfl
theorem w_isT : wp (cmpS .is (.tup xs) .non) m Q = (Q (.bl false) m) := id rfl
theorem w_ntT : wp (cmpS .isnot (.tup xs) .non) m Q = (Q (.bl true) m) := id rfl
theorem w_isF : wp (cmpS .is (.fl xs) .non) m Q = (Q (.bl false) m) := id rfl
theorem w_ntF : wp (cmpS .isnot (.fl xs) .non) m Q = (Q (.bl true) m) := id rfl
theorem w_isR : wp (cmpS .is (.ref n) .non) m Q = (Q (.bl false) m) := id rfl
theorem w_ntR : wp (cmpS .isnot (.ref n) .non) m Q = (Q (.bl true) m) := id rfl
theorem w_isB : wp (cmpS .is (.bl b) .non) m Q = (Q (.bl false) m) := id rfl
theorem w_ntB : wp (cmpS .isnot (.bl b) .non) m Q = (Q (.bl true) m) := id rfl
theorem w_isS : wp (cmpS .is (.str s) .non) m Q = (Q (.bl false) m) := id rfl
theorem w_ntS : wp (cmpS .isnot (.str s) .non) m Q = (Q (.bl true) m) := id rfl
theorem w_trB : wp (tru (.bl b)) m R = (R b m) := id rfl
theorem w_trI : wp (tru (.int i)) m R = (R (i != 0) m) := id rfl
theorem w_trN : wp (tru .non) m R = (R false m) := id rfl
theorem w_trT : wp (tru (.tup xs)) m R = (R (!xs.isEmpty) m) := id rfl
theorem w_trF : wp (tru (.fl xs)) m R = (R (!xs.isEmpty) m) := id rfl
theorem w_ixT0 : wp (idxS (.tup (x0 :: xs)) (.int 0)) m Q = (Q x0 m) := by show wp (opt (atD _ _)) m Q = _; rw [at_0]; rfl
theorem w_ixT1 : wp (idxS (.tup (x0 :: x1 :: xs)) (.int 1)) m Q = (Q x1 m) := by show wp (opt (atD _ _)) m Q = _; rw [at_1]; rfl
theorem w_ixT2 : wp (idxS (.tup (x0 :: x1 :: x2 :: xs)) (.int 2)) m Q = (Q x2 m) := by show wp (opt (atD _ _)) m Q = _; rw [at_2]; rfl
theorem w_ixT3 : wp (idxS (.tup (x0 :: x1 :: x2 :: x3 :: xs)) (.int 3)) m Q = (Q x3 m) := by show wp (opt (atD _ _)) m Q = _; rw [at_3]; rfl
theorem w_ixF0 : wp (idxS (.fl (x0 :: xs)) (.int 0)) m Q = (Q x0 m) := by show wp (opt (atD _ _)) m Q = _; rw [at_0]; rfl
theorem w_ixF1 : wp (idxS (.fl (x0 :: x1 :: xs)) (.int 1)) m Q = (Q x1 m) := by show wp (opt (atD _ _)) m Q = _; rw [at_1]; rfl
theorem w_ixF2 : wp (idxS (.fl (x0 :: x1 :: x2 :: xs)) (.int 2)) m Q = (Q x2 m) := by show wp (opt (atD _ _)) m Q = _; rw [at_2]; rfl
theorem w_ixF3 : wp (idxS (.fl (x0 :: x1 :: x2 :: x3 :: xs)) (.int 3)) m Q = (Q x3 m) := by show wp (opt (atD _ _)) m Q = _; rw [at_3]; rfl
theorem w_ixS0 : wp (idxS (.sc (x0 :: xs)) (.int 0)) m Q = (Q x0 m) := by show wp (opt (atD _ _)) m Q = _; rw [at_0]; rfl
theorem w_ixS1 : wp (idxS (.sc (x0 :: x1 :: xs)) (.int 1)) m Q = (Q x1 m) := by show wp (opt (atD _ _)) m Q = _; rw [at_1]; rfl
theorem w_ixS2 : wp (idxS (.sc (x0 :: x1 :: x2 :: xs)) (.int 2)) m Q = (Q x2 m) := by show wp (opt (atD _ _)) m Q = _; rw [at_2]; rfl
theorem w_ixS3 : wp (idxS (.sc (x0 :: x1 :: x2 :: x3 :: xs)) (.int 3)) m Q = (Q x3 m) := by show wp (opt (atD _ _)) m Q = _; rw [at_3]; rfl
theorem w_ixT : wp (idxS (.tup xs) (.int i)) m Q = (∃ d, atD xs i = some d ∧ Q d m) := by show wp (opt (atD _ _)) m Q = _; rw [wp_opt]
theorem w_ixF : wp (idxS (.fl xs) (.int i)) m Q = (∃ d, atD xs i = some d ∧ Q d m) := by show wp (opt (atD _ _)) m Q = _; rw [wp_opt]
theorem w_ixS : wp (idxS (.sc xs) (.int i)) m Q = (∃ d, atD xs i = some d ∧ Q d m) := by show wp (opt (atD _ _)) m Q = _; rw [wp_opt]
theorem w_idL : wp (idlS xs (.int i)) m Q = (∃ d, atD xs i = some d ∧ Q d m) := by show wp (opt (atD _ _)) m Q = _; rw [wp_opt]
theorem w_neg : wp (negS (.int i)) m Q = (Q (.int (-i)) m) := id rfl
variable {l h : Option Int}
theorem w_slT : wp (slcS (.tup xs) l h) m Q = (Q (.tup (cutD xs l h)) m) := id rfl
theorem w_slF : wp (slcS (.fl xs) l h) m Q = (Q (.fl (cutD xs l h)) m) := id rfl
theorem w_soP {R : Option Int → Hs → Prop} : wp (soS (.int i)) m R = R (some i) m := id rfl
theorem w_lenT : wp (lenS [.tup xs]) m Q = (Q (.int xs.length) m) := id rfl
theorem w_lenF : wp (lenS [.fl xs]) m Q = (Q (.int xs.length) m) := id rfl
theorem w_lenS : wp (lenS [.sc xs]) m Q = (Q (.int xs.length) m) := id rfl
theorem w_abs : wp (absS [.int i]) m Q = (Q (.int (if i < 0 then -i else i)) m) := id rfl
theorem w_min : wp (min2S [.int i, .int j]) m Q = (Q (.int (if j < i then j else i)) m) := id rfl
theorem w_max : wp (max2S [.int i, .int j]) m Q = (Q (.int (if j > i then j else i)) m) := id rfl
theorem w_intI : wp (intS [.int i]) m Q = (Q (.int i) m) := id rfl
theorem w_intB : wp (intS [.bl b]) m Q = (Q (.int (if b then 1 else 0)) m) := id rfl
theorem w_tupT : wp (tupleS [.tup xs]) m Q = (Q (.tup xs) m) := id rfl
theorem w_tupF : wp (tupleS [.fl xs]) m Q = (Q (.tup xs) m) := id rfl
theorem w_lstT : wp (listS [.tup xs]) m Q = (Q (.fl xs) m) := id rfl
theorem w_lstF : wp (listS [.fl xs]) m Q = (Q (.fl xs) m) := id rfl
variable {is : List Int} {bs : List Bool}
theorem w_sum : wp (sumS [.fl (is.map D.int)]) m Q = (Q (.int is.sum) m) := by rw [f_sum, wp_ret]
theorem w_all : wp (allS [.fl (bs.map D.bl)]) m Q = (Q (.bl (bs.all id)) m) := by rw [f_all, wp_ret]
theorem w_any : wp (anyS [.fl (bs.map D.bl)]) m Q = (Q (.bl (bs.any id)) m) := by rw [f_any, wp_ret]
theorem w_is_int_N : wp (isiS .int .non) m Q = (Q (.bl false) m) := id rfl
theorem w_is_int_B : wp (isiS .int (.bl b)) m Q = (Q (.bl true) m) := id rfl
theorem w_is_int_I : wp (isiS .int (.int i)) m Q = (Q (.bl true) m) := id rfl
theorem w_is_int_S : wp (isiS .int (.str s)) m Q = (Q (.bl false) m) := id rfl
theorem w_is_int_T : wp (isiS .int (.tup xs)) m Q = (Q (.bl false) m) := id rfl
theorem w_is_int_F : wp (isiS .int (.fl xs)) m Q = (Q (.bl false) m) := id rfl
theorem w_is_bl_N : wp (isiS .bl .non) m Q = (Q (.bl false) m) := id rfl
theorem w_is_bl_B : wp (isiS .bl (.bl b)) m Q = (Q (.bl true) m) := id rfl
theorem w_is_bl_I : wp (isiS .bl (.int i)) m Q = (Q (.bl false) m) := id rfl
theorem w_is_bl_S : wp (isiS .bl (.str s)) m Q = (Q (.bl false) m) := id rfl
theorem w_is_bl_T : wp (isiS .bl (.tup xs)) m Q = (Q (.bl false) m) := id rfl
theorem w_is_bl_F : wp (isiS .bl (.fl xs)) m Q = (Q (.bl false) m) := id rfl
theorem w_is_tup_N : wp (isiS .tup .non) m Q = (Q (.bl false) m) := id rfl
theorem w_is_tup_B : wp (isiS .tup (.bl b)) m Q = (Q (.bl false) m) := id rfl
theorem w_is_tup_I : wp (isiS .tup (.int i)) m Q = (Q (.bl false) m) := id rfl
theorem w_is_tup_S : wp (isiS .tup (.str s)) m Q = (Q (.bl false) m) := id rfl
theorem w_is_tup_T : wp (isiS .tup (.tup xs)) m Q = (Q (.bl true) m) := id rfl
theorem w_is_tup_F : wp (isiS .tup (.fl xs)) m Q = (Q (.bl false) m) := id rfl
theorem w_is_str_N : wp (isiS .str .non) m Q = (Q (.bl false) m) := id rfl
theorem w_is_str_B : wp (isiS .str (.bl b)) m Q = (Q (.bl false) m) := id rfl
theorem w_is_str_I : wp (isiS .str (.int i)) m Q = (Q (.bl false) m) := id rfl
theorem w_is_str_S : wp (isiS .str (.str s)) m Q = (Q (.bl true) m) := id rfl
theorem w_is_str_T : wp (isiS .str (.tup xs)) m Q = (Q (.bl false) m) := id rfl
theorem w_is_str_F : wp (isiS .str (.fl xs)) m Q = (Q (.bl false) m) := id rfl
theorem w_is_lst_N : wp (isiS .lst .non) m Q = (Q (.bl false) m) := id rfl
theorem w_is_lst_B : wp (isiS .lst (.bl b)) m Q = (Q (.bl false) m) := id rfl
theorem w_is_lst_I : wp (isiS .lst (.int i)) m Q = (Q (.bl false) m) := id rfl
theorem w_is_lst_S : wp (isiS .lst (.str s)) m Q = (Q (.bl false) m) := id rfl
theorem w_is_lst_T : wp (isiS .lst (.tup xs)) m Q = (Q (.bl false) m) := id rfl
theorem w_is_lst_F : wp (isiS .lst (.fl xs)) m Q = (Q (.bl true) m) := id rfl
theorem w_guT {R : Its → Hs → Prop} : wp (ask (guardOf (.tup xs))) m R = R (xs, []) m := id rfl
theorem w_guF {R : Its → Hs → Prop} : wp (ask (guardOf (.fl xs))) m R = R (xs, []) m := id rfl
theorem w_guS {R : Its → Hs → Prop} : wp (ask (guardOf (.sc xs))) m R = R (xs, []) m := id rfl
theorem w_lsF {R : List D → Hs → Prop} : wp (ask (lstOf (.fl xs))) m R = R xs m := id rfl
theorem w_enT {R : Its → Hs → Prop} : wp (enumS (.tup xs)) m R = R (enumL 0 xs, []) m := id rfl
theorem w_enF {R : Its → Hs → Prop} : wp (enumS (.fl xs)) m R = R (enumL 0 xs, []) m := id rfl
theorem w_zpT {R : Its → Hs → Prop} : wp (zipS (.tup xs) (.tup ys)) m R = R (zipL xs ys, []) m := id rfl
theorem w_zpF {R : Its → Hs → Prop} : wp (zipS (.fl xs) (.fl ys)) m R = R (zipL xs ys, []) m := id rfl
theorem w_gadd : wp (augS .add (.int i) (.int j)) m Q = (Q (.int (i + j)) m) := id rfl
theorem w_gsub : wp (augS .sub (.int i) (.int j)) m Q = (Q (.int (i - j)) m) := id rfl
theorem w_fs1 {f : D → M D} {a1 : D} : wp (fs1 f [a1]) m Q = wp (f a1) m Q := id rfl
theorem w_fs2 {f : D → D → M D} {a1 a2 : D} : wp (fs2 f [a1, a2]) m Q = wp (f a1 a2) m Q := id rfl
theorem w_fs3 {f : D → D → D → M D} {a1 a2 a3 : D} : wp (fs3 f [a1, a2, a3]) m Q = wp (f a1 a2 a3) m Q := id rfl
theorem w_fs4 {f : D → D → D → D → M D} {a1 a2 a3 a4 : D} : wp (fs4 f [a1, a2, a3, a4]) m Q = wp (f a1 a2 a3 a4) m Q := id rfl
theorem w_fs5 {f : D → D → D → D → D → M D} {a1 a2 a3 a4 a5 : D} : wp (fs5 f [a1, a2, a3, a4, a5]) m Q = wp (f a1 a2 a3 a4 a5) m Q := id rfl
theorem w_fs6 {f : D → D → D → D → D → D → M D} {a1 a2 a3 a4 a5 a6 : D} : wp (fs6 f [a1, a2, a3, a4, a5, a6]) m Q = wp (f a1 a2 a3 a4 a5 a6) m Q := id rfl
theorem w_un2 {β : Type} {f : D → D → M β} {a1 a2 : D} {S : β → Hs → Prop} : wp (un2 (.tup [a1, a2]) f) m S = wp (f a1 a2) m S := id rfl
theorem w_un3 {β : Type} {f : D → D → D → M β} {a1 a2 a3 : D} {S : β → Hs → Prop} : wp (un3 (.tup [a1, a2, a3]) f) m S = wp (f a1 a2 a3) m S := id rfl
theorem w_un4 {β : Type} {f : D → D → D → D → M β} {a1 a2 a3 a4 : D} {S : β → Hs → Prop} : wp (un4 (.tup [a1, a2, a3, a4]) f) m S = wp (f a1 a2 a3 a4) m S := id rfl
theorem w_goN {A B C : Type} {a : A} {f : A → M (Fl C B)} {S : Fl C B → Hs → Prop} : wp (goOn f (.nx a)) m S = wp (f a) m S := id rfl
theorem w_goR {A B C : Type} {d : D} {f : A → M (Fl C B)} {S : Fl C B → Hs → Prop} : wp (goOn f (.rt d)) m S = S (.rt d) m := id rfl
theorem w_goB {A B C : Type} {b : B} {f : A → M (Fl C B)} {S : Fl C B → Hs → Prop} : wp (goOn f (.bk b)) m S = S (.bk b) m := id rfl
theorem w_goC {A B C : Type} {b : B} {f : A → M (Fl C B)} {S : Fl C B → Hs → Prop} : wp (goOn f (.ct b)) m S = S (.ct b) m := id rfl
theorem w_feN {u : Unit} : wp (fnE (.nx u)) m Q = Q .non m := id rfl
theorem w_feR {d : D} : wp (fnE (.rt d)) m Q = Q d m := id rfl
theorem w_repr : wp (reprS [x]) m Q = ∃ p, pyD m deepest x = some p ∧ (p.showable = true ∧ p.shown.length ≤ sizeLine) ∧ Q (.str p.shown) m := by
  show wp (bnd (ask fun m => pyD m deepest x) fun p => if p.showable = true ∧ p.shown.length ≤ sizeLine then ret (D.str p.shown) else bad) m Q = _
  rw [wp_bnd, wp_ask]
  simp only [wp_gd, wp_ret]
end
end G

set_option Elab.async false
set_option linter.all false
namespace G
open PySem
section
variable {m : Hs} {Q : D → Hs → Prop} {n : Nat} {x0 x1 x2 v : D} {xs : List D} {o o' : O}
theorem hs_set (h : m[n]? = some o') : (m.set n o)[n]? = some o := List.getElem?_set_self (List.getElem?_eq_some_iff.mp h).1
theorem hs_new : (m ++ [o])[m.length]? = some o := by simp
theorem hs_app {g : Hs} (h : m[n]? = some o) : (m ++ g)[n]? = some o := by
  rw [List.getElem?_append_left (List.getElem?_eq_some_iff.mp h).1]
  exact h
theorem ixr0 (h : m[n]? = some (.lst (x0 :: xs))) : wp (idxS (.ref n) (.int 0)) m Q = Q x0 m := by
  rw [ix_r, h]
  simp [at_0]
theorem ixr1 (h : m[n]? = some (.lst (x0 :: x1 :: xs))) : wp (idxS (.ref n) (.int 1)) m Q = Q x1 m := by
  rw [ix_r, h]
  simp [at_1]
theorem ixr2 (h : m[n]? = some (.lst (x0 :: x1 :: x2 :: xs))) : wp (idxS (.ref n) (.int 2)) m Q = Q x2 m := by
  rw [ix_r, h]
  simp [at_2]
theorem wp_subT {a i : M D} {R : Unit → Hs → Prop} : wp (subT a i v) m R = wp a m fun x m1 => wp i m1 fun y m2 => wp (put (itmO x y v)) m2 R := by
  unfold subT
  rw [wp_bnd]
  congr 1
  funext x m1
  rw [wp_bnd]
theorem itm0 {R : Unit → Hs → Prop} (h : m[n]? = some (.lst (x0 :: xs))) : wp (put (itmO (.ref n) (.int 0) v)) m R = R () (m.set n (.lst (v :: xs))) := by
  rw [wp_put]
  simp only [itmO, h]
  have e : ixD (x0 :: xs).length 0 = some 0 := by
    simp only [ixD, List.length_cons]
    rw [if_pos (by decide), if_pos (by omega)]
    rfl
  rw [e]
  simp
theorem itm2 {R : Unit → Hs → Prop} (h : m[n]? = some (.lst (x0 :: x1 :: x2 :: xs))) : wp (put (itmO (.ref n) (.int 2) v)) m R = R () (m.set n (.lst (x0 :: x1 :: v :: xs))) := by
  rw [wp_put]
  simp only [itmO, h]
  have e : ixD (x0 :: x1 :: x2 :: xs).length 2 = some 2 := by
    simp only [ixD, List.length_cons]
    rw [if_pos (by decide), if_pos (by omega)]
    rfl
  rw [e]
  simp
end
/-- below 2 ^ k either way -/
def Bd (k : Nat) (i : Int) : Prop := i.natAbs < 2 ^ k
theorem Bd.of {k : Nat} {i : Int} (h1 : -(2 ^ k) < i) (h2 : i < 2 ^ k) : Bd k i := by
  unfold Bd
  have e : ((2 ^ k : Nat) : Int) = 2 ^ k := by push_cast; rfl
  omega
theorem Bd.mono {k l : Nat} {i : Int} (h : Bd k i) (hl : k ≤ l) : Bd l i := Nat.lt_of_lt_of_le h (Nat.pow_le_pow_right (by decide) hl)
theorem Bd.log {k : Nat} {i : Int} (h : Bd k i) : i.natAbs.log2 ≤ k := by
  by_cases hz : i.natAbs = 0
  · rw [hz]
    simp
  · exact Nat.le_of_lt ((Nat.log2_lt hz).mpr h)
theorem Bd.mul {k l : Nat} {i j : Int} (h : Bd k i) (h' : Bd l j) : Bd (k + l) (i * j) := by
  unfold Bd at *
  rw [Int.natAbs_mul, Nat.pow_add]
  exact Nat.mul_lt_mul'' h h'
theorem Bd.add {k : Nat} {i j : Int} (h : Bd k i) (h' : Bd k j) : Bd (k + 1) (i + j) := by
  unfold Bd at *
  rw [Nat.pow_succ]
  have := Int.natAbs_add_le i j
  omega
theorem mul_bd {k l : Nat} {i j : Int} (h : Bd k i) (h' : Bd l j) (hk : k + l < 1000000) : i.natAbs.log2 + j.natAbs.log2 < 1000000 := by
  have a := h.log
  have b := h'.log
  omega
theorem mul_ok {i j : Int} (h1 : -(2 ^ 200) < i) (h2 : i < 2 ^ 200) (h3 : -(2 ^ 200) < j) (h4 : j < 2 ^ 200) : i.natAbs.log2 + j.natAbs.log2 < 1000000 := mul_bd (Bd.of h1 h2) (Bd.of h3 h4) (by decide)
theorem div_bd {k : Nat} {j : Int} (h1 : 0 < j) (h : Bd k j) (hk : k < 9000) : 0 < j ∧ j.natAbs.log2 < 9000 := ⟨h1, by
  have a := h.log
  omega⟩
theorem div_ok {j : Int} (h1 : 0 < j) (h2 : j < 2 ^ 200) : 0 < j ∧ j.natAbs.log2 < 9000 := div_bd h1 (Bd.of (by omega) h2) (by decide)
/-! ### drawers: three numbers in a list -/
/-- at n stands a drawer that made at most k steps -/
def Dw (m : Hs) (n : Nat) (k : Int) : Prop := ∃ g x s : Int, m[n]? = some (.lst [.int g, .int x, .int s]) ∧ 0 ≤ g ∧ 0 ≤ x ∧ x < 2 ^ 70 ∧ 0 ≤ s ∧ s ≤ k
theorem Dw.mono {m : Hs} {n : Nat} {k l : Int} (h : Dw m n k) (hk : k ≤ l) : Dw m n l := by
  obtain ⟨g, x, s, h1, h2, h3, h4, h5, h6⟩ := h
  exact ⟨g, x, s, h1, h2, h3, h4, h5, by omega⟩
theorem Dw.app {m g : Hs} {n : Nat} {k : Int} (h : Dw m n k) : Dw (m ++ g) n k := by
  obtain ⟨a, x, s, h1, h2⟩ := h
  exact ⟨a, x, s, hs_app h1, h2⟩
end G

set_option Elab.async false
set_option linter.all false
namespace G
open PySem
/-- one of some numbers -/
theorem ix_one {P : Int → Prop} {ns : List Int} {m : Hs} {i : Int} {Q : D → Hs → Prop} (h0 : 0 ≤ i) (h1 : i < ns.length) (hp : ∀ n, n ∈ ns → P n) (h : ∀ n, n ∈ ns → P n → Q (.int n) m) : wp (idxS (.fl (ns.map .int)) (.int i)) m Q := by
  rw [w_ixF]
  obtain ⟨k, rfl⟩ := Int.eq_ofNat_of_zero_le h0
  have hk : k < ns.length := by omega
  refine ⟨.int ns[k], ?_, h _ (List.getElem_mem hk) (hp _ (List.getElem_mem hk))⟩
  show atD _ ((k : Nat) : Int) = _
  rw [at_nat, List.getElem?_map, List.getElem?_eq_getElem hk]
  rfl
/-- one of some things -/
theorem ix_any {xs : List D} {m : Hs} {i : Int} {Q : D → Hs → Prop} (h0 : 0 ≤ i) (h1 : i < xs.length) (h : ∀ x, x ∈ xs → Q x m) : wp (idxS (.fl xs) (.int i)) m Q := by
  rw [w_ixF]
  obtain ⟨k, rfl⟩ := Int.eq_ofNat_of_zero_le h0
  have hk : k < xs.length := by omega
  refine ⟨xs[k], ?_, h _ (List.getElem_mem hk)⟩
  show atD _ ((k : Nat) : Int) = _
  rw [at_nat, List.getElem?_eq_getElem hk]
theorem sz_le {n : Nat} (h : n ≤ 16777216) : n ≤ sizeLine := h
theorem sz_lt {n : Nat} (h : n < 16777216) : n < sizeLine := h
theorem mod2 {a b : Int} (h : 0 < b) : 0 ≤ a % b ∧ a % b < b := ⟨Int.emod_nonneg _ (by omega), Int.emod_lt_of_pos _ h⟩
theorem pow_ok {i j : Int} {k : Nat} (h : Bd k i) (hj : 0 ≤ j) (hk : (k + 1) * j.toNat ≤ 134217728) : 0 ≤ j ∧ (i.natAbs.log2 + 1) * j.toNat ≤ 134217728 := by
  refine ⟨hj, Nat.le_trans (Nat.mul_le_mul_right _ ?_) hk⟩
  have := h.log
  omega
end G

set_option Elab.async false
set_option linter.all false
namespace G
open PySem
section
variable {k k' : Str} {v u : D} {l : List (Str × D)}
end
section
variable {m : Hs} {Q : D → Hs → Prop} {n c : Nat} {fs : List (Str × D)} {f : Str} {v w x : D} {at' : Nat → Str → Bool} {tb : Nat → Option (List D → M D)} {g : List D → M D}
theorem wp_fldM {a : M D} : wp (fldM at' a f) m Q = wp a m fun x m1 => wp (fldS at' f x) m1 Q := wp_bnd
theorem wp_fldT {a : M D} {R : Unit → Hs → Prop} : wp (fldT at' a f w) m R = wp a m fun x m1 => wp (put (setO at' f w x)) m1 R := wp_bnd
theorem wp_mthM {a : M D} {t : M (List D)} : wp (mthM tb a f t) m Q = wp a m fun x m1 => wp (mthS tb f x) m1 fun g m2 => wp t m2 fun xs m3 => wp (g (x :: xs)) m3 Q := by
  unfold mthM
  rw [wp_bnd]
  congr 1
  funext x m1
  rw [wp_bnd]
  congr 1
  funext g m2
  rw [wp_bnd]
theorem wp_makM {init : List D → M D} {t : M (List D)} : wp (makM c init t) m Q = wp t m fun xs m1 => wp (init (.ref m1.length :: xs)) (m1 ++ [.ins c []]) fun z m2 => wp (nonS z (.ref m1.length)) m2 Q := by
  unfold makM
  rw [wp_bnd]
  congr 1
  funext xs m1
  rw [wp_bnd]
  show wp (bnd (init (.ref m1.length :: xs)) fun z => nonS z (.ref m1.length)) (m1 ++ [.ins c []]) Q = _
  rw [wp_bnd]
theorem nonS_non : wp (nonS .non x) m Q = Q x m := id rfl
theorem wp_augF {o : Op} {a t : M D} {R : Unit → Hs → Prop} : wp (augF at' o a f t) m R = wp a m fun x m1 => wp (ask (fldC at' f x)) m1 fun p m2 => wp t m2 fun y m3 => wp (augS o p.2 y) m3 fun z m4 => wp (put (setC p.1 f z x)) m4 R := by
  unfold augF
  rw [wp_bnd]
  congr 1
  funext x m1
  rw [wp_bnd]
  congr 1
  funext p m2
  rw [wp_bnd]
  congr 1
  funext y m3
  rw [wp_bnd]
theorem tpT2 {t1 t2 : D → M Unit} {d1 d2 : D} {R : Unit → Hs → Prop} : wp (tpT [t1, t2] (.tup [d1, d2])) m R = wp (t1 d1) m fun _ m1 => wp (t2 d2) m1 R := by
  show wp (bnd (t1 d1) fun _ => bnd (t2 d2) fun _ => ret ()) m R = _
  rw [wp_bnd]
  congr 1
  funext _ m1
  rw [wp_bnd]
  congr 1
end
end G
namespace G
theorem ret_of {α : Type} {t : M α} {v : α} (h : ∀ (m : Hs) (Q : α → Hs → Prop), Q v m → wp t m Q) : t = ret v := by
  funext m
  obtain ⟨a, m', e, rfl, rfl⟩ := wp_iff_ok.1 (h m (fun a m' => a = v ∧ m' = m) ⟨rfl, rfl⟩)
  exact e
end G
namespace G
end G

set_option Elab.async false
set_option linter.all false
set_option maxRecDepth 100000
set_option maxHeartbeats 4000000
namespace G.K75
open PySem G
end G.K75

set_option Elab.async false
set_option linter.all false
namespace G
open PySem
/-! ### policies -/
def il (xs : List Int) : D := .tup (xs.map .int)
def pol (cs ls : List Int) (fx : Int) : D := .tup [il cs, il ls, .int fx]
def prD (p : Int × Int) : D := .tup [.int p.1, .int p.2]
def plc (P : List (Int × Int)) : D := .tup (P.map prD)
def ab (i : Int) : Int := if i < 0 then -i else i
/-! ### runs -/
/-- number, growing, level behind, copied -/
structure Mv where
  no : Int
  up : Bool
  lv : Nat
  cp : Int
def Mv.d (v : Mv) : D := .tup [.int v.no, .str (if v.up then "grow" else "shrink"), .int v.lv, .int v.cp]
/-- level, size, paid, done -/
structure Tk where
  lv : Nat
  sz : Int
  pd : Int
  dn : Int
def Tk.up (fx : Int) (t : Tk) (u : Int) : Tk := ⟨t.lv + 1, u + 1, t.pd + (u + fx), t.dn + (ab (u - t.sz) + 1)⟩
def Tk.down (fx : Int) (t : Tk) (l : Int) : Tk := ⟨t.lv - 1, l, t.pd + (l + fx), t.dn + (ab (l + 1 - t.sz) + 1)⟩
def Tk.rest (t : Tk) (goal : Int) : Tk := ⟨t.lv, goal, t.pd, t.dn + ab (goal - t.sz)⟩
/-- pushes to a size, over the places from the level on -/
def pushT (fx goal : Int) : List (Int × Int) → Tk → Tk × List Mv
  | [], t => (t.rest goal, [])
  | p :: ps, t => if p.1 < goal then
      let r := pushT fx goal ps (t.up fx p.1)
      (r.1, ⟨t.dn + ab (p.1 - t.sz), true, t.lv + 1, p.1⟩ :: r.2)
    else (t.rest goal, [])
/-- pops to a size, over the places below the level, from the last on -/
def popT (fx goal : Int) : List (Int × Int) → Tk → Tk × List Mv
  | [], t => (t.rest goal, [])
  | p :: ps, t => if goal ≤ p.2 then
      let r := popT fx goal ps (t.down fx p.2)
      (r.1, ⟨t.dn + ab (p.2 + 1 - t.sz), false, t.lv - 1, p.2⟩ :: r.2)
    else (t.rest goal, [])
abbrev Opn := Bool × Int
def okOp (o : Opn) : Prop := 1 ≤ o.2 ∧ o.2 ≤ 1000000000000000000
end G

set_option Elab.async false
set_option linter.all false
namespace G
open PySem
/-- a policy -/
structure Vp (cs ls : List Int) : Prop where
  len : cs.length = ls.length + 1
  asc : ∀ (i : Nat) (a b : Int), cs[i]? = some a → cs[i + 1]? = some b → a < b
  pos : ∀ (i : Nat) (a : Int), cs[i]? = some a → 1 ≤ a
  lasc : ∀ (i : Nat) (a b : Int), ls[i]? = some a → ls[i + 1]? = some b → a < b
  lpos : ∀ (i : Nat) (a : Int), ls[i]? = some a → 0 ≤ a
  le : ∀ (i : Nat) (a b : Int), ls[i]? = some a → cs[i]? = some b → a ≤ b
/-- a state of a policy -/
structure Sv (cs ls : List Int) (lv : Nat) (sz : Int) : Prop where
  top : ∃ c, cs[lv]? = some c ∧ sz ≤ c
  low : 0 ≤ sz
  lim : ∀ (q : Nat) (l : Int), lv = q + 1 → ls[q]? = some l → l < sz
theorem zip_at {cs ls : List Int} {i : Nat} {c l : Int} (h1 : cs[i]? = some c) (h2 : ls[i]? = some l) : (cs.zip ls)[i]? = some (c, l) := by
  rw [List.getElem?_zip_eq_some]
  exact ⟨h1, h2⟩
theorem get_lt {α : Type} {l : List α} {i : Nat} {a : α} (h : l[i]? = some a) : i < l.length := (List.getElem?_eq_some_iff.mp h).1
theorem get_ex {α : Type} {l : List α} {i : Nat} (h : i < l.length) : ∃ a, l[i]? = some a := ⟨_, List.getElem?_eq_getElem h⟩
theorem drop_at {α : Type} {l : List α} {i : Nat} {a : α} (h : l[i]? = some a) : l.drop i = a :: l.drop (i + 1) := by
  rw [List.drop_eq_getElem_cons (get_lt h)]
  congr 1
  exact (List.getElem?_eq_some_iff.mp h).2
section
variable {cs ls : List Int} {fx : Int} {t : Tk} {goal : Int}
theorem Vp.zlen (v : Vp cs ls) : (cs.zip ls).length = ls.length := by
  rw [List.length_zip, v.len]
  omega
theorem Vp.mono (v : Vp cs ls) : ∀ (k i : Nat) (a b : Int), cs[i]? = some a → cs[i + k]? = some b → a ≤ b
  | 0, i, a, b, h1, h2 => by
    rw [Nat.add_zero, h1] at h2
    cases h2
    exact Int.le_refl _
  | k + 1, i, a, b, h1, h2 => by
    obtain ⟨c, hc⟩ := get_ex (l := cs) (i := i + k) (by have := get_lt h2; omega)
    have e1 := v.mono k i a c h1 hc
    have e2 := v.asc (i + k) c b hc h2
    omega
theorem Vp.last (v : Vp cs ls) {mo : Int} (hm : cs.getLast? = some mo) {i : Nat} {a : Int} (h : cs[i]? = some a) : a ≤ mo ∧ (i + 1 = cs.length → a = mo) := by
  rw [List.getLast?_eq_getElem?] at hm
  have hi := get_lt h
  refine ⟨v.mono (cs.length - 1 - i) i a mo h (by rw [show i + (cs.length - 1 - i) = cs.length - 1 by omega]; exact hm), fun e => ?_⟩
  rw [show cs.length - 1 = i by omega, h] at hm
  exact Option.some.inj hm
/-- one push -/
def upS (cs : List Int) (fx : Int) (t : Tk) : Tk × List Mv := match cs[t.lv]? with
  | some c => if t.sz < c then (⟨t.lv, t.sz + 1, t.pd, t.dn + 1⟩, []) else (⟨t.lv + 1, t.sz + 1, t.pd + (t.sz + fx), t.dn + 1⟩, [⟨t.dn, true, t.lv + 1, t.sz⟩])
  | none => (t, [])
/-- one pop -/
def dnS (ls : List Int) (fx : Int) (t : Tk) : Tk × List Mv := match t.lv with
  | 0 => (⟨t.lv, t.sz - 1, t.pd, t.dn + 1⟩, [])
  | q + 1 => match ls[q]? with
    | some l => if t.sz - 1 = l then (⟨q, t.sz - 1, t.pd + (t.sz - 1 + fx), t.dn + 1⟩, [⟨t.dn, false, q, t.sz - 1⟩]) else (⟨t.lv, t.sz - 1, t.pd, t.dn + 1⟩, [])
    | none => (t, [])
theorem up_ok (v : Vp cs ls) {mo : Int} (hm : cs.getLast? = some mo) (s : Sv cs ls t.lv t.sz) (h1 : t.sz < goal) (h2 : goal ≤ mo) :
    Sv cs ls (upS cs fx t).1.lv (upS cs fx t).1.sz ∧ (upS cs fx t).1.sz = t.sz + 1 ∧ pushT fx goal ((cs.zip ls).drop t.lv) t = ((pushT fx goal ((cs.zip ls).drop (upS cs fx t).1.lv) (upS cs fx t).1).1, (upS cs fx t).2 ++ (pushT fx goal ((cs.zip ls).drop (upS cs fx t).1.lv) (upS cs fx t).1).2) := by
  obtain ⟨c, hc, hs⟩ := s.top
  obtain ⟨lv, sz, pd, dn⟩ := t
  simp only [upS] at *
  simp only [hc]
  have hl := v.last hm hc
  have hlt := get_lt hc
  have low := s.low
  by_cases hz : sz < c
  · rw [if_pos hz]
    refine ⟨⟨⟨c, hc, by simp only; omega⟩, by simp only; omega, fun q l e1 e2 => ?_⟩, rfl, ?_⟩
    · have := s.lim q l e1 e2
      simp only
      omega
    · simp only [List.nil_append]
      cases hd : (cs.zip ls).drop lv with
      | nil =>
        simp only [pushT, Tk.rest, ab]
        congr 2
        split <;> split <;> omega
      | cons p ps =>
        have hp : (cs.zip ls)[lv]? = some p := by
          have := congrArg (fun l => l[0]?) hd
          simpa using this
        have hpc : p.1 = c := by
          rw [List.getElem?_zip_eq_some, hc] at hp
          exact (Option.some.inj hp.1).symm
        simp only [pushT]
        have e1 : ab (p.1 - sz) = ab (p.1 - (sz + 1)) + 1 := by
          unfold ab
          split <;> split <;> omega
        by_cases hg : p.1 < goal
        · rw [if_pos hg, if_pos hg]
          simp only [Tk.up]
          rw [e1, show dn + 1 + (ab (p.1 - (sz + 1)) + 1) = dn + (ab (p.1 - (sz + 1)) + 1 + 1) by omega, show dn + 1 + ab (p.1 - (sz + 1)) = dn + (ab (p.1 - (sz + 1)) + 1) by omega]
        · rw [if_neg hg, if_neg hg]
          simp only [Tk.rest, ab]
          congr 2
          split <;> split <;> omega
  · rw [if_neg hz]
    have hcs : sz = c := by omega
    subst hcs
    have hne : lv + 1 ≠ cs.length := fun e => by
      have := hl.2 e

      omega
    obtain ⟨c', hc'⟩ := get_ex (l := cs) (i := lv + 1) (by omega)
    have hlen := v.len
    obtain ⟨l, hl'⟩ := get_ex (l := ls) (i := lv) (by omega)
    have ha := v.asc lv sz c' hc hc'
    refine ⟨⟨⟨c', hc', by simp only; omega⟩, by simp only; omega, fun q l2 e1 e2 => ?_⟩, rfl, ?_⟩
    · simp only at e1
      have e1 : lv = q := by omega
      subst e1
      have := v.le lv l2 sz e2 hc
      simp only
      omega
    · have hp := zip_at hc hl'
      rw [drop_at hp]
      simp only [pushT]
      rw [if_pos (show sz < goal from h1)]
      simp only [Tk.up, List.singleton_append]
      have e0 : ab (sz - sz) = 0 := by
        unfold ab
        split <;> omega
      rw [e0]
      simp
theorem dn_ok (v : Vp cs ls) (s : Sv cs ls t.lv t.sz) (h1 : goal < t.sz) (h2 : 0 ≤ goal) :
    Sv cs ls (dnS ls fx t).1.lv (dnS ls fx t).1.sz ∧ (dnS ls fx t).1.sz = t.sz - 1 ∧ popT fx goal ((cs.zip ls).take t.lv).reverse t = ((popT fx goal ((cs.zip ls).take (dnS ls fx t).1.lv).reverse (dnS ls fx t).1).1, (dnS ls fx t).2 ++ (popT fx goal ((cs.zip ls).take (dnS ls fx t).1.lv).reverse (dnS ls fx t).1).2) := by
  obtain ⟨c, hc, hs⟩ := s.top
  obtain ⟨lv, sz, pd, dn⟩ := t
  have low := s.low
  have hlt := get_lt hc
  have hlen := v.len
  simp only at *
  cases lv with
  | zero =>
    simp only [dnS]
    refine ⟨⟨⟨c, hc, by omega⟩, by omega, fun q l e => by cases e⟩, trivial, ?_⟩
    simp only [List.take_zero, List.reverse_nil, popT, Tk.rest, List.nil_append, ab]
    congr 2
    split <;> split <;> omega
  | succ q =>
    obtain ⟨l, hl⟩ := get_ex (l := ls) (i := q) (by omega)
    obtain ⟨c0, hc0⟩ := get_ex (l := cs) (i := q) (by omega)
    have hp := zip_at hc0 hl
    have hlim := s.lim q l rfl hl
    have hle := v.le q l c0 hl hc0
    have hrev : ((cs.zip ls).take (q + 1)).reverse = (c0, l) :: ((cs.zip ls).take q).reverse := by
      rw [List.take_succ, hp]
      simp
    simp only [dnS, hl]
    by_cases hz : sz - 1 = l
    · rw [if_pos hz]
      refine ⟨⟨⟨c0, hc0, by simp only; omega⟩, by simp only; omega, fun q' l' e1 e2 => ?_⟩, rfl, ?_⟩
      · simp only at e1 ⊢
        have := v.lasc q' l' l e2 (by rw [← e1]; exact hl)
        omega
      · rw [hrev]
        simp only [popT]
        rw [if_pos (show goal ≤ l by omega)]
        simp only [Tk.down, List.singleton_append]
        have e0 : ab (l + 1 - sz) = 0 := by
          unfold ab
          split <;> omega
        rw [e0, show sz - 1 = l from hz]
        simp
    · rw [if_neg hz]
      refine ⟨⟨⟨c, hc, by simp only; omega⟩, by simp only; omega, fun q' l' e1 e2 => ?_⟩, rfl, ?_⟩
      · simp only at e1 ⊢
        have e1 : q = q' := by omega
        subst e1
        rw [hl] at e2
        cases e2
        omega
      · rw [hrev]
        simp only [popT, List.nil_append]
        have e1 : ab (l + 1 - sz) = ab (l + 1 - (sz - 1)) + 1 := by
          unfold ab
          split <;> split <;> omega
        by_cases hg : goal ≤ l
        · rw [if_pos hg, if_pos hg]
          simp only [Tk.down]
          rw [e1, show dn + 1 + (ab (l + 1 - (sz - 1)) + 1) = dn + (ab (l + 1 - (sz - 1)) + 1 + 1) by omega, show dn + 1 + ab (l + 1 - (sz - 1)) = dn + (ab (l + 1 - (sz - 1)) + 1) by omega]
        · rw [if_neg hg, if_neg hg]
          simp only [Tk.rest, ab]
          congr 2
          split <;> split <;> omega
/-- one operation of a kind -/
def stS (cs ls : List Int) (fx : Int) (b : Bool) (t : Tk) : Tk × List Mv := if b then upS cs fx t else dnS ls fx t
end
end G

set_option Elab.async false
set_option linter.all false
namespace G
open PySem
theorem get_snoc {α : Type} {l : List α} {a b : α} {i : Nat} (h : (l ++ [a])[i]? = some b) : l[i]? = some b ∨ (i = l.length ∧ b = a) := by
  by_cases hi : i < l.length
  · rw [List.getElem?_append_left hi] at h
    exact .inl h
  · have hl := get_lt h
    simp only [List.length_append, List.length_cons, List.length_nil] at hl
    have e : i = l.length := by omega
    subst e
    simp at h
    exact .inr ⟨rfl, h.symm⟩
theorem snoc_ex {α : Type} {l : List α} (h : l ≠ []) : ∃ i a, l = i ++ [a] := ⟨l.dropLast, l.getLast h, (List.dropLast_concat_getLast h).symm⟩
/-- ascending numbers -/
def Asc (l : List Int) : Prop := ∀ (i : Nat) (a b : Int), l[i]? = some a → l[i + 1]? = some b → a < b
theorem Asc.nil : Asc [] := fun i a b h => by simp at h
theorem Asc.one (x : Int) : Asc [x] := fun i a b h h2 => by
  have := get_lt h2
  simp at this
theorem Asc.snoc {l : List Int} {x : Int} (h : Asc l) (hx : ∀ y, l.getLast? = some y → y < x) : Asc (l ++ [x]) := fun i a b h1 h2 => by
  rcases get_snoc h2 with h3 | ⟨e, e2⟩
  · rcases get_snoc h1 with h4 | ⟨e, e2⟩
    · exact h i a b h4 h3
    · have := get_lt h3
      omega
  · rcases get_snoc h1 with h4 | ⟨e3, e4⟩
    · subst e2
      refine hx a ?_
      rw [List.getLast?_eq_getElem?, show l.length - 1 = i by omega]
      exact h4
    · omega
theorem all_snoc {l : List Int} {x : Int} {P : Nat → Int → Prop} (h : ∀ (i : Nat) (a : Int), l[i]? = some a → P i a) (hx : P l.length x) : ∀ (i : Nat) (a : Int), (l ++ [x])[i]? = some a → P i a := fun i a h1 => by
  rcases get_snoc h1 with h1 | ⟨rfl, rfl⟩
  · exact h i a h1
  · exact hx
theorem cut_init (xs : List D) : cutD xs none (some (-1)) = xs.dropLast := by
  unfold cutD sIxD
  simp only [List.drop_zero, Nat.sub_zero]
  rw [if_pos (by decide), List.dropLast_eq_take]
  congr 1
  omega
theorem rngL_succ (lo : Int) (n : Nat) : rngL lo (n + 1) = .int lo :: rngL (lo + 1) n := by
  unfold rngL
  rw [List.range_succ_eq_map]
  simp only [List.map_cons, List.map_map, Int.natCast_zero, Int.add_zero]
  congr 1
  apply List.map_congr_left
  intro k _
  simp only [Function.comp]
  congr 1
  omega
/-- a loop over a range whose number does not matter -/
theorem rng_wp {A B : Type} {body : D → A → M (Fl A A)} {R : Fl A B → Hs → Prop} (I : Nat → A → Hs → Prop)
    (step : ∀ (i : Int) n s m, I (n + 1) s m → wp (body (.int i) s) m fun fl m' => match fl with
      | .nx s' => I n s' m'
      | .ct s' => I n s' m'
      | .bk s' => R (.nx s') m'
      | .rt d => R (.rt d) m')
    (done : ∀ s m, I 0 s m → R (.nx s) m) (lo : Int) (n : Nat) (s : A) (m : Hs) (h : I n s m) : wp (forL [] body (rngL lo n) s) m R := by
  refine forL_wp (fun xs s m => ∃ (j : Int) (n : Nat), xs = rngL j n ∧ I n s m) ?_ ?_ _ _ _ ⟨lo, n, rfl, h⟩
  · rintro x xs s m ⟨j, n, hx, h⟩
    cases n with
    | zero => cases hx
    | succ n =>
      rw [rngL_succ] at hx
      obtain ⟨rfl, rfl⟩ := List.cons.inj hx
      refine wp_imp (step j n s m h) fun fl m' q => ?_
      cases fl with
      | nx s' => exact ⟨_, _, rfl, q⟩
      | ct s' => exact ⟨_, _, rfl, q⟩
      | bk s' => exact q
      | rt d => exact q
  · rintro s m ⟨j, n, hx, h⟩
    cases n with
    | zero => exact done s m h
    | succ n => rw [rngL_succ] at hx; cases hx
/-- the same with the number -/
theorem rngI_wp {A B : Type} {body : D → A → M (Fl A A)} {R : Fl A B → Hs → Prop} (I : Int → Nat → A → Hs → Prop)
    (step : ∀ (i : Int) n s m, I i (n + 1) s m → wp (body (.int i) s) m fun fl m' => match fl with
      | .nx s' => I (i + 1) n s' m'
      | .ct s' => I (i + 1) n s' m'
      | .bk s' => R (.nx s') m'
      | .rt d => R (.rt d) m')
    (done : ∀ i s m, I i 0 s m → R (.nx s) m) (lo : Int) (n : Nat) (s : A) (m : Hs) (h : I lo n s m) : wp (forL [] body (rngL lo n) s) m R := by
  refine forL_wp (fun xs s m => ∃ (j : Int) (n : Nat), xs = rngL j n ∧ I j n s m) ?_ ?_ _ _ _ ⟨lo, n, rfl, h⟩
  · rintro x xs s m ⟨j, n, hx, h⟩
    cases n with
    | zero => cases hx
    | succ n =>
      rw [rngL_succ] at hx
      obtain ⟨rfl, rfl⟩ := List.cons.inj hx
      refine wp_imp (step j n s m h) fun fl m' q => ?_
      cases fl with
      | nx s' => exact ⟨_, _, rfl, q⟩
      | ct s' => exact ⟨_, _, rfl, q⟩
      | bk s' => exact q
      | rt d => exact q
  · rintro s m ⟨j, n, hx, h⟩
    cases n with
    | zero => exact done j s m h
    | succ n => rw [rngL_succ] at hx; cases hx
theorem at_lastI {l : List Int} {x : Int} : atD ((l ++ [x]).map D.int) (-1) = some (.int x) := by
  rw [List.map_append]
  exact at_last
end G

set_option Elab.async false
set_option linter.all false
set_option maxRecDepth 100000
namespace G
open PySem L2 PySem.Spec PyProof.Rows
/-! ### data that repr shows -/
def Pl (k w : Nat) (x : D) : Prop := ∃ p, (∀ m, pyD m k x = some p) ∧ p.showable = true ∧ p.shown.length ≤ w
def PlL (k w : Nat) (xs : List D) : Prop := ∃ ps, (∀ m, mapO (pyD m k) xs = some ps) ∧ PyData.showableAll ps = true ∧ piled (PyData.shownAll ps) ≤ w
theorem Pl.mono {k w w' : Nat} {x : D} (h : Pl k w x) (hw : w ≤ w') : Pl k w' x := by
  obtain ⟨p, h1, h2, h3⟩ := h
  exact ⟨p, h1, h2, Nat.le_trans h3 hw⟩
theorem Pl.int {k : Nat} {i : Int} (h : i.natAbs.log2 < 1920) : Pl k 1921 (.int i) := ⟨.int i, fun m => by simp [pyD], by simpa [PyData.showable] using h, by
  simp only [PyData.shown]
  exact PyProof.Rows.int_text_len_1921 h⟩
theorem Pl.bl {k : Nat} {b : Bool} : Pl k 5 (.bl b) := ⟨.bool b, fun m => by simp [pyD], rfl, by cases b <;> decide +kernel⟩
theorem Pl.non {k : Nat} : Pl k 4 .non := ⟨.none, fun m => by simp [pyD], rfl, by decide +kernel⟩
theorem Pl.str {k w : Nat} {s : Str} (h1 : PyData.strOk s = true) (h2 : (reprText s).length ≤ w) : Pl k w (.str s) := ⟨.str s, fun m => by simp [pyD, h1], rfl, h2⟩
theorem PlL.nil {k : Nat} : PlL k 0 [] := ⟨[], fun m => rfl, rfl, Nat.le_refl _⟩
theorem PlL.cons {k w v : Nat} {x : D} {xs : List D} (h : Pl k w x) (hs : PlL k v xs) : PlL k (w + 2 + v) (x :: xs) := by
  obtain ⟨p, h1, h2, h3⟩ := h
  obtain ⟨ps, h4, h5, h6⟩ := hs
  refine ⟨p :: ps, fun m => by simp only [mapO, h1, h4], by simp [PyData.showableAll, h2, h5], ?_⟩
  simp only [PyData.shownAll, piled_cons]
  omega
theorem PlL.mono {k w w' : Nat} {x : List D} (h : PlL k w x) (hw : w ≤ w') : PlL k w' x := by
  obtain ⟨p, h1, h2, h3⟩ := h
  exact ⟨p, h1, h2, Nat.le_trans h3 hw⟩
theorem PlL.map {α : Type} {f : α → D} {k w : Nat} : ∀ {l : List α}, (∀ a, a ∈ l → Pl k w (f a)) → PlL k (l.length * (w + 2)) (l.map f)
  | [], _ => by simpa using PlL.nil
  | a :: l, h => by
    have := PlL.cons (h a (by simp)) (PlL.map (l := l) fun b hb => h b (by simp [hb]))
    refine this.mono ?_
    simp only [List.length_cons, Nat.succ_mul]
    omega
theorem Pl.tup {k w : Nat} {xs : List D} (h : PlL k w xs) : Pl (k + 1) (w + 2) (.tup xs) := by
  obtain ⟨ps, h1, h2, h3⟩ := h
  refine ⟨.tuple ps, fun m => by simp only [pyD, h1]; rfl, by simpa [PyData.showable] using h2, ?_⟩
  simp only [PyData.shown]
  have := fmt_text (PyData.shownAll ps)
  omega
theorem Pl.get {k w : Nat} {x : D} (h : Pl k w x) : ∃ p, (∀ m, pyD m k x = some p) := by
  obtain ⟨p, h1, _⟩ := h
  exact ⟨p, h1⟩
/-- the text that repr gives -/
def rp (x : D) : Str := match pyD [] deepest x with
  | some p => p.shown
  | none => "None"
theorem repr_eq {w : Nat} {x : D} (h : Pl deepest w x) (hw : w ≤ 16777216) : reprS [x] = ret (.str (rp x)) := by
  obtain ⟨p, h1, h2, h3⟩ := h
  refine ret_of fun m Q q => ?_
  rw [w_repr]
  refine ⟨p, h1 m, ⟨h2, Nat.le_trans h3 hw⟩, ?_⟩
  unfold rp at q
  rw [h1] at q
  exact q
theorem pl_int {k : Nat} {i : Int} (h1 : -(2 ^ 200) < i) (h2 : i < 2 ^ 200) : Pl k 1921 (.int i) := Pl.int (by
  have := (Bd.of h1 h2).log
  omega)
theorem pl_il {k n : Nat} {cs : List Int} (h : ∀ c, c ∈ cs → -(2 ^ 200) < c ∧ c < 2 ^ 200) (hn : cs.length ≤ n) : Pl (k + 1) (n * 1923 + 2) (il cs) := by
  refine (Pl.tup (PlL.map (w := 1921) fun c hc => pl_int (h c hc).1 (h c hc).2)).mono ?_
  have := Nat.mul_le_mul_right 1923 hn
  omega
theorem pl_pol {k n : Nat} {cs ls : List Int} {fx : Int} (h : ∀ c, c ∈ cs → -(2 ^ 200) < c ∧ c < 2 ^ 200) (h2 : ∀ c, c ∈ ls → -(2 ^ 200) < c ∧ c < 2 ^ 200) (hf : -(2 ^ 200) < fx ∧ fx < 2 ^ 200) (hn : cs.length ≤ n) (hm : ls.length ≤ n) : Pl (k + 2) (n * 3846 + 2000) (pol cs ls fx) := by
  refine (Pl.tup (PlL.cons (pl_il h hn) (PlL.cons (pl_il h2 hm) (PlL.cons (pl_int hf.1 hf.2) PlL.nil)))).mono ?_
  omega
theorem pl_pair {k v w : Nat} {x y : D} (h : Pl k v x) (h' : Pl k w y) : Pl (k + 1) (v + w + 6) (.tup [x, y]) := by
  refine (Pl.tup (PlL.cons h (PlL.cons h' PlL.nil))).mono ?_
  omega
end G
namespace G
open PySem
theorem lc_map_wp {turn : D → M (Option D)} {xs : List D} {m : Hs} {R : List D → Hs → Prop} (f : D → D) (h : ∀ x, x ∈ xs → turn x = ret (some (f x))) (hl : xs.length ≤ 16777216) (q : R (xs.map f) m) : wp (lcL [] turn xs []) m R := by
  rw [lcL_map f xs h hl]
  exact q
end G
namespace G
open PySem
/-- like wp_ret; simp must not take it for a defeq rule -/
theorem wp_retE {α : Type} {a : α} {m : Hs} {R : α → Hs → Prop} : wp (ret a) m R = R a m := id rfl
end G

set_option Elab.async false
set_option linter.all false
namespace G
open PySem
theorem sz_2 {a b : D} : ([a, b].length ≤ sizeLine) = True := eq_true (sz_le (by simp))
end G

set_option Elab.async false
set_option linter.all false
namespace G
open PySem
theorem wp_calm {α : Type} {t : M α} {m : Hs} {Q : α → Hs → Prop} : wp (calm t) m Q = wp t m Q := by
  show (match (t m).calm with
    | .ok a m' => Q a m'
    | _ => False) = (match t m with
    | .ok a m' => Q a m'
    | _ => False)
  cases t m <;> rfl
theorem Vp.one {c : Int} (h : 1 ≤ c) : Vp [c] [] := ⟨rfl, Asc.one _, fun i a hi => by
  have := get_lt hi
  simp at this
  subst this
  simp at hi
  omega, Asc.nil, fun i a hi => by simp at hi, fun i a b hi => by simp at hi⟩
theorem Vp.snoc {cs ls : List Int} {c l d : Int} (v : Vp cs ls) (hc : cs.getLast? = some c) (h0 : 0 ≤ l) (h1 : l ≤ c) (h2 : ∀ y, ls.getLast? = some y → y < l) (h3 : c < d) : Vp (cs ++ [d]) (ls ++ [l]) := by
  have hlen := v.len
  have hc2 := hc
  rw [List.getLast?_eq_getElem?] at hc2
  have hcp := v.pos _ c hc2
  refine ⟨by simp; omega, Asc.snoc v.asc fun y hy => ?_, all_snoc v.pos (by omega), Asc.snoc v.lasc h2, all_snoc v.lpos h0, fun i a b e1 e2 => ?_⟩
  · rw [hc] at hy
    cases hy
    exact h3
  · rcases get_snoc e1 with e1 | ⟨rfl, rfl⟩
    · have hi := get_lt e1
      rcases get_snoc e2 with e2 | ⟨rfl, rfl⟩
      · exact v.le i a b e1 e2
      · omega
    · rcases get_snoc e2 with e2 | ⟨e, rfl⟩
      · rw [show cs.length - 1 = ls.length by omega, e2] at hc2
        cases hc2
        exact h1
      · omega
/-! ### the common divisor -/
theorem half_mod {x y : Nat} (h0 : 0 < y) (h : y ≤ x) : 2 * (y * (x % y)) < x * y + 1 := by
  have h1 : x % y < y := Nat.mod_lt _ h0
  have h2 : y * (x / y) + x % y = x := Nat.div_add_mod x y
  have h3 : 1 ≤ x / y := Nat.div_pos h h0
  have h4 : y * 1 ≤ y * (x / y) := Nat.mul_le_mul_left y h3
  have h5 : 2 * (x % y) ≤ x := by omega
  have h6 : y * (2 * (x % y)) ≤ y * x := Nat.mul_le_mul_left y h5
  have h7 : y * (2 * (x % y)) = 2 * (y * (x % y)) := by rw [Nat.mul_left_comm]
  rw [Nat.mul_comm x y]
  omega
end G

set_option Elab.async false
set_option linter.all false
namespace G
open PySem
/-! ### quotients -/
abbrev Fr := Nat × Nat
def red (q : Fr) : Fr := (q.1 / Nat.gcd q.1 q.2, q.2 / Nat.gcd q.1 q.2)
/-- the quotient of a level -/
def qOf (cs ls : List Int) (i : Nat) : Fr := ((cs[i]?.getD 0).toNat, match i with
  | 0 => 1
  | k + 1 => (ls[k]?.getD 0 + 1).toNat)
theorem pol_0 {cs ls : List Int} {fx : Int} {m : Hs} {Q : D → Hs → Prop} : wp (idxS (pol cs ls fx) (.int 0)) m Q = Q (il cs) m := by unfold pol; exact w_ixT0
theorem pol_2 {cs ls : List Int} {fx : Int} {m : Hs} {Q : D → Hs → Prop} : wp (idxS (pol cs ls fx) (.int 2)) m Q = Q (.int fx) m := by unfold pol; exact w_ixT2
theorem il_at {cs : List Int} {i : Nat} {c : Int} {m : Hs} {Q : D → Hs → Prop} (h : cs[i]? = some c) : wp (idxS (il cs) (.int i)) m Q = Q (.int c) m := by
  unfold il
  rw [w_ixT, at_nat, List.getElem?_map, h]
  simp
end G

set_option Elab.async false
set_option linter.all false
namespace G
open PySem
theorem wp_calK {f : List D → M D} {n k : Nat} {is : List Nat} {t u : M (List D)} {m : Hs} {Q : D → Hs → Prop} : wp (calK f n k is t u) m Q = wp t m fun xs m1 => wp u m1 fun zs m2 => wp (kwS f n k is xs zs) m2 Q := by
  unfold calK
  rw [wp_bnd]
  congr 1
  funext xs m1
  rw [wp_bnd]
theorem kw_03 {f : List D → M D} {is : List Nat} {a b c : D} {m : Hs} {Q : D → Hs → Prop} : wp (kwS f 0 3 is [] [a, b, c]) m Q = wp (f (pick is [a, b, c])) m Q := rfl
theorem kw_02 {f : List D → M D} {is : List Nat} {a b : D} {m : Hs} {Q : D → Hs → Prop} : wp (kwS f 0 2 is [] [a, b]) m Q = wp (f (pick is [a, b])) m Q := rfl
theorem kw_01 {f : List D → M D} {is : List Nat} {a : D} {m : Hs} {Q : D → Hs → Prop} : wp (kwS f 0 1 is [] [a]) m Q = wp (f (pick is [a])) m Q := rfl
theorem pick_210 {a b c : D} : pick [2, 1, 0] [a, b, c] = [c, b, a] := rfl
theorem pick_10 {a b : D} : pick [1, 0] [a, b] = [b, a] := rfl
theorem pick_01 {a b : D} : pick [0, 1] [a, b] = [a, b] := rfl
theorem pick_0 {a : D} : pick [0] [a] = [a] := rfl
/-- Euclid's loop, whatever def it stands in -/
theorem gcd_loop {B : Type} {x y : Nat} {m : Hs} {R : Fl (D × D) B → Hs → Prop} (hx : x < 2 ^ 200) (hy : y < 2 ^ 200) (q : R (.nx (.int (Nat.gcd x y : Nat), .int (0 : Nat))) m) :
    wp (whlM (fun s : D × D => cmpM .gt (ret s.2) (ret (.int 0))) (.int x, .int y) fun s => bnd (ret s.2) fun a => bnd (binM .mod (ret s.1) (ret s.2)) fun b => nxt (a, b)) m R := by
  refine wp_whlM (fun n s m' => ∃ a b : Nat, s = (.int a, .int b) ∧ Nat.gcd a b = Nat.gcd x y ∧ a < 2 ^ 200 ∧ b < 2 ^ 200 ∧ (n = 401 ∨ (b ≤ a ∧ a * b < 2 ^ n)) ∧ m' = m) 401 (by decide) ⟨x, y, rfl, rfl, hx, hy, .inl rfl, rfl⟩ ?_
  rintro n s m' ⟨a, b, rfl, hg, ha, hb2, hn, rfl⟩
  simp -failIfUnchanged only [↓wp_ret, ↓wp_bad, ↓wp_bnd, ↓wp_nxt, ↓wp_brk, ↓wp_cnt, ↓wp_rtn, ↓wp_seq, ↓wp_iff, ↓wp_fnM, ↓wp_binM, ↓wp_cmpM, ↓wp_idxM, ↓wp_negM, ↓wp_notM, ↓wp_andM, ↓wp_orM, ↓wp_iteM, ↓wp_chnM, ↓wp_chnS, ↓wp_ls0, ↓wp_ls1, ↓wp_tupM, ↓wp_lstM, ↓wp_lshM, ↓wp_ownM, ↓wp_idxL, ↓wp_slcM, ↓wp_noP, ↓wp_soP, ↓wp_calM, ↓wp_isiM, ↓wp_forM, ↓wp_seqI, ↓wp_rng1, ↓wp_rng2, ↓wp_enum, ↓wp_enum2, ↓enum2_t, ↓enum2_f, ↓wp_zip, ↓rng1_int, ↓rng2_int, ↓wp_lcM, ↓wp_lcO, ↓wp_appO, ↓wp_extO, ↓wp_fldM, ↓wp_fldT, ↓wp_mthM, ↓wp_makM, ↓wp_augF, ↓tpT2, ↓nonS_non, ↓wp_subT, ↓w_add, ↓w_sub, ↓w_mul, ↓w_fdiv, ↓w_mod, ↓w_pow, ↓w_shl, ↓w_addT, ↓w_addL, ↓w_lt, ↓w_le, ↓w_gt, ↓w_ge, ↓w_eqI, ↓w_neI, ↓w_eqS, ↓w_neS, ↓w_isN, ↓w_ntN, ↓w_isI, ↓w_ntI, ↓w_isT, ↓w_ntT, ↓w_isF, ↓w_ntF, ↓w_isR, ↓w_ntR, ↓w_isB, ↓w_ntB, ↓w_isS, ↓w_ntS, ↓w_trB, ↓w_trI, ↓w_trN, ↓w_trT, ↓w_trF, ↓w_ixT0, ↓w_ixT1, ↓w_ixT2, ↓w_ixT3, ↓w_ixF0, ↓w_ixF1, ↓w_ixF2, ↓w_ixF3, ↓w_ixS0, ↓w_ixS1, ↓w_ixS2, ↓w_ixS3, ↓w_idL, ↓w_neg, ↓w_slT, ↓w_slF, ↓w_soP, ↓w_lenT, ↓w_lenF, ↓w_lenS, ↓w_abs, ↓w_min, ↓w_max, ↓w_intI, ↓w_intB, ↓w_tupT, ↓w_tupF, ↓w_lstT, ↓w_lstF, ↓w_sum, ↓w_all, ↓w_any, ↓w_is_int_N, ↓w_is_int_B, ↓w_is_int_I, ↓w_is_int_S, ↓w_is_int_T, ↓w_is_int_F, ↓w_is_bl_N, ↓w_is_bl_B, ↓w_is_bl_I, ↓w_is_bl_S, ↓w_is_bl_T, ↓w_is_bl_F, ↓w_is_tup_N, ↓w_is_tup_B, ↓w_is_tup_I, ↓w_is_tup_S, ↓w_is_tup_T, ↓w_is_tup_F, ↓w_is_str_N, ↓w_is_str_B, ↓w_is_str_I, ↓w_is_str_S, ↓w_is_str_T, ↓w_is_str_F, ↓w_is_lst_N, ↓w_is_lst_B, ↓w_is_lst_I, ↓w_is_lst_S, ↓w_is_lst_T, ↓w_is_lst_F, ↓w_guT, ↓w_guF, ↓w_guS, ↓w_lsF, ↓w_enT, ↓w_enF, ↓w_zpT, ↓w_zpF, ↓w_gadd, ↓w_gsub, ↓w_fs1, ↓w_fs2, ↓w_fs3, ↓w_fs4, ↓w_fs5, ↓w_fs6, ↓w_un2, ↓w_un3, ↓w_un4, ↓w_goN, ↓w_goR, ↓w_goB, ↓w_goC, ↓w_feN, ↓w_feR, ↓w_repr, true_and, and_true, and_self, if_true, if_false, Bool.false_eq_true, Bool.not_true, Bool.not_false, decide_true, decide_false]
  by_cases hb : (0 : Int) < b
  · simp -failIfUnchanged only [hb, ↓wp_ret, ↓wp_bad, ↓wp_bnd, ↓wp_nxt, ↓wp_brk, ↓wp_cnt, ↓wp_rtn, ↓wp_seq, ↓wp_iff, ↓wp_fnM, ↓wp_binM, ↓wp_cmpM, ↓wp_idxM, ↓wp_negM, ↓wp_notM, ↓wp_andM, ↓wp_orM, ↓wp_iteM, ↓wp_chnM, ↓wp_chnS, ↓wp_ls0, ↓wp_ls1, ↓wp_tupM, ↓wp_lstM, ↓wp_lshM, ↓wp_ownM, ↓wp_idxL, ↓wp_slcM, ↓wp_noP, ↓wp_soP, ↓wp_calM, ↓wp_isiM, ↓wp_forM, ↓wp_seqI, ↓wp_rng1, ↓wp_rng2, ↓wp_enum, ↓wp_enum2, ↓enum2_t, ↓enum2_f, ↓wp_zip, ↓rng1_int, ↓rng2_int, ↓wp_lcM, ↓wp_lcO, ↓wp_appO, ↓wp_extO, ↓wp_fldM, ↓wp_fldT, ↓wp_mthM, ↓wp_makM, ↓wp_augF, ↓tpT2, ↓nonS_non, ↓wp_subT, ↓w_add, ↓w_sub, ↓w_mul, ↓w_fdiv, ↓w_mod, ↓w_pow, ↓w_shl, ↓w_addT, ↓w_addL, ↓w_lt, ↓w_le, ↓w_gt, ↓w_ge, ↓w_eqI, ↓w_neI, ↓w_eqS, ↓w_neS, ↓w_isN, ↓w_ntN, ↓w_isI, ↓w_ntI, ↓w_isT, ↓w_ntT, ↓w_isF, ↓w_ntF, ↓w_isR, ↓w_ntR, ↓w_isB, ↓w_ntB, ↓w_isS, ↓w_ntS, ↓w_trB, ↓w_trI, ↓w_trN, ↓w_trT, ↓w_trF, ↓w_ixT0, ↓w_ixT1, ↓w_ixT2, ↓w_ixT3, ↓w_ixF0, ↓w_ixF1, ↓w_ixF2, ↓w_ixF3, ↓w_ixS0, ↓w_ixS1, ↓w_ixS2, ↓w_ixS3, ↓w_idL, ↓w_neg, ↓w_slT, ↓w_slF, ↓w_soP, ↓w_lenT, ↓w_lenF, ↓w_lenS, ↓w_abs, ↓w_min, ↓w_max, ↓w_intI, ↓w_intB, ↓w_tupT, ↓w_tupF, ↓w_lstT, ↓w_lstF, ↓w_sum, ↓w_all, ↓w_any, ↓w_is_int_N, ↓w_is_int_B, ↓w_is_int_I, ↓w_is_int_S, ↓w_is_int_T, ↓w_is_int_F, ↓w_is_bl_N, ↓w_is_bl_B, ↓w_is_bl_I, ↓w_is_bl_S, ↓w_is_bl_T, ↓w_is_bl_F, ↓w_is_tup_N, ↓w_is_tup_B, ↓w_is_tup_I, ↓w_is_tup_S, ↓w_is_tup_T, ↓w_is_tup_F, ↓w_is_str_N, ↓w_is_str_B, ↓w_is_str_I, ↓w_is_str_S, ↓w_is_str_T, ↓w_is_str_F, ↓w_is_lst_N, ↓w_is_lst_B, ↓w_is_lst_I, ↓w_is_lst_S, ↓w_is_lst_T, ↓w_is_lst_F, ↓w_guT, ↓w_guF, ↓w_guS, ↓w_lsF, ↓w_enT, ↓w_enF, ↓w_zpT, ↓w_zpF, ↓w_gadd, ↓w_gsub, ↓w_fs1, ↓w_fs2, ↓w_fs3, ↓w_fs4, ↓w_fs5, ↓w_fs6, ↓w_un2, ↓w_un3, ↓w_un4, ↓w_goN, ↓w_goR, ↓w_goB, ↓w_goC, ↓w_feN, ↓w_feR, ↓w_repr, true_and, and_true, and_self, if_true, if_false, Bool.false_eq_true, Bool.not_true, Bool.not_false, decide_true, decide_false]
    have hb' : 0 < b := by omega
    have hr : a % b < b := Nat.mod_lt _ hb'
    have hgg : Nat.gcd b (a % b) = Nat.gcd x y := by rw [← hg, Nat.gcd_comm b, ← Nat.gcd_rec, Nat.gcd_comm]
    rcases hn with rfl | ⟨hba, hn⟩
    · refine ⟨400, by omega, b, a % b, by rw [Int.natCast_emod], hgg, hb2, by omega, .inr ⟨by omega, ?_⟩⟩
      have h2 : b * (a % b) < 2 ^ 200 * 2 ^ 200 := Nat.mul_lt_mul'' hb2 (by omega)
      have e : 2 ^ 200 * 2 ^ 200 = 2 ^ 400 := by decide +kernel
      omega
    · have hn0 : 0 < n := by
        rcases Nat.eq_zero_or_pos n with rfl | h
        · have := Nat.mul_le_mul (show 1 ≤ a by omega) (show 1 ≤ b by omega)
          simp at hn
          omega
        · exact h
      refine ⟨n - 1, by omega, b, a % b, by rw [Int.natCast_emod], hgg, hb2, by omega, .inr ⟨by omega, ?_⟩⟩
      have := half_mod hb' hba
      have e : 2 ^ n = 2 * 2 ^ (n - 1) := by
        rw [show n = n - 1 + 1 by omega, Nat.pow_succ]
        simp
        omega
      omega
  · simp -failIfUnchanged only [hb, ↓wp_ret, ↓wp_bad, ↓wp_bnd, ↓wp_nxt, ↓wp_brk, ↓wp_cnt, ↓wp_rtn, ↓wp_seq, ↓wp_iff, ↓wp_fnM, ↓wp_binM, ↓wp_cmpM, ↓wp_idxM, ↓wp_negM, ↓wp_notM, ↓wp_andM, ↓wp_orM, ↓wp_iteM, ↓wp_chnM, ↓wp_chnS, ↓wp_ls0, ↓wp_ls1, ↓wp_tupM, ↓wp_lstM, ↓wp_lshM, ↓wp_ownM, ↓wp_idxL, ↓wp_slcM, ↓wp_noP, ↓wp_soP, ↓wp_calM, ↓wp_isiM, ↓wp_forM, ↓wp_seqI, ↓wp_rng1, ↓wp_rng2, ↓wp_enum, ↓wp_enum2, ↓enum2_t, ↓enum2_f, ↓wp_zip, ↓rng1_int, ↓rng2_int, ↓wp_lcM, ↓wp_lcO, ↓wp_appO, ↓wp_extO, ↓wp_fldM, ↓wp_fldT, ↓wp_mthM, ↓wp_makM, ↓wp_augF, ↓tpT2, ↓nonS_non, ↓wp_subT, ↓w_add, ↓w_sub, ↓w_mul, ↓w_fdiv, ↓w_mod, ↓w_pow, ↓w_shl, ↓w_addT, ↓w_addL, ↓w_lt, ↓w_le, ↓w_gt, ↓w_ge, ↓w_eqI, ↓w_neI, ↓w_eqS, ↓w_neS, ↓w_isN, ↓w_ntN, ↓w_isI, ↓w_ntI, ↓w_isT, ↓w_ntT, ↓w_isF, ↓w_ntF, ↓w_isR, ↓w_ntR, ↓w_isB, ↓w_ntB, ↓w_isS, ↓w_ntS, ↓w_trB, ↓w_trI, ↓w_trN, ↓w_trT, ↓w_trF, ↓w_ixT0, ↓w_ixT1, ↓w_ixT2, ↓w_ixT3, ↓w_ixF0, ↓w_ixF1, ↓w_ixF2, ↓w_ixF3, ↓w_ixS0, ↓w_ixS1, ↓w_ixS2, ↓w_ixS3, ↓w_idL, ↓w_neg, ↓w_slT, ↓w_slF, ↓w_soP, ↓w_lenT, ↓w_lenF, ↓w_lenS, ↓w_abs, ↓w_min, ↓w_max, ↓w_intI, ↓w_intB, ↓w_tupT, ↓w_tupF, ↓w_lstT, ↓w_lstF, ↓w_sum, ↓w_all, ↓w_any, ↓w_is_int_N, ↓w_is_int_B, ↓w_is_int_I, ↓w_is_int_S, ↓w_is_int_T, ↓w_is_int_F, ↓w_is_bl_N, ↓w_is_bl_B, ↓w_is_bl_I, ↓w_is_bl_S, ↓w_is_bl_T, ↓w_is_bl_F, ↓w_is_tup_N, ↓w_is_tup_B, ↓w_is_tup_I, ↓w_is_tup_S, ↓w_is_tup_T, ↓w_is_tup_F, ↓w_is_str_N, ↓w_is_str_B, ↓w_is_str_I, ↓w_is_str_S, ↓w_is_str_T, ↓w_is_str_F, ↓w_is_lst_N, ↓w_is_lst_B, ↓w_is_lst_I, ↓w_is_lst_S, ↓w_is_lst_T, ↓w_is_lst_F, ↓w_guT, ↓w_guF, ↓w_guS, ↓w_lsF, ↓w_enT, ↓w_enF, ↓w_zpT, ↓w_zpF, ↓w_gadd, ↓w_gsub, ↓w_fs1, ↓w_fs2, ↓w_fs3, ↓w_fs4, ↓w_fs5, ↓w_fs6, ↓w_un2, ↓w_un3, ↓w_un4, ↓w_goN, ↓w_goR, ↓w_goB, ↓w_goC, ↓w_feN, ↓w_feR, ↓w_repr, true_and, and_true, and_self, if_true, if_false, Bool.false_eq_true, Bool.not_true, Bool.not_false, decide_true, decide_false]
    have : b = 0 := by omega
    subst this
    rw [Nat.gcd_zero_right] at hg
    subst hg
    exact q
theorem fmt_textL (ts : List Str) : (listText ts).length ≤ piled ts + 2 := by
  have e1 : ((("[" : String) : Str)).length = 1 := rfl
  have e3 : ((("]" : String) : Str)).length = 1 := rfl
  have e2 : (ts.map (·.length)).sum + 2 * ts.length = piled ts := by
    clear e1 e3
    induction ts with
    | nil => rfl
    | cons t ts ih =>
      rw [piled_cons, ← ih]
      simp
      omega
  unfold listText
  rw [strLen_append, e3]
  have := textFrom_len_le ts 0 "["
  omega
theorem Pl.fl {k w : Nat} {xs : List D} (h : PlL k w xs) : Pl (k + 1) (w + 2) (.fl xs) := by
  obtain ⟨ps, h1, h2, h3⟩ := h
  refine ⟨.list ps, fun m => by simp only [pyD, h1]; rfl, by simpa [PyData.showable] using h2, ?_⟩
  simp only [PyData.shown]
  have := fmt_textL (PyData.shownAll ps)
  omega
theorem PlL.one {k w : Nat} {x : D} (h : Pl k w x) : PlL k (w + 2) [x] := PlL.cons h PlL.nil
theorem PlL.two {k w v : Nat} {x y : D} (h : Pl k w x) (h' : Pl k v y) : PlL k (w + 2 + (v + 2)) [x, y] := PlL.cons h (PlL.one h')
theorem zipL_map : ∀ (xs ys : List Int), zipL (xs.map D.int) (ys.map D.int) = (xs.zip ys).map prD
  | [], _ => by simp [zipL]
  | _ :: _, [] => by simp [zipL]
  | x :: xs, y :: ys => by
    simp only [List.map_cons, zipL, List.zip_cons_cons, zipL_map xs ys]
    rfl
end G

set_option Elab.async false
set_option linter.all false
namespace G
open PySem
theorem w_sumF {is : List Int} {m : Hs} {Q : D → Hs → Prop} : wp (sumAS [.fl (is.map D.int)]) m Q = Q (.int is.sum) m := w_sum
theorem w_sumT {is : List Int} {m : Hs} {Q : D → Hs → Prop} : wp (sumAS [.tup (is.map D.int)]) m Q = Q (.int is.sum) m := by
  show wp (bnd (opt (sumI (is.map D.int))) fun k => ret (.int k)) m Q = _
  rw [wp_bnd, wp_opt, sumI_map]
  simp only [Option.some.injEq, exists_eq_left', wp_ret]
theorem intsOf_map : ∀ l : List Int, intsOf (l.map D.int) = some l
  | [] => rfl
  | a :: l => by simp only [List.map_cons, intsOf, intsOf_map l, Option.map_some]
theorem w_srt {is : List Int} {m : Hs} {Q : D → Hs → Prop} : wp (srtS [.fl (is.map D.int)]) m Q = (is.length < 64 ∧ Q (.fl ((srtU is).map D.int)) m) := by
  show wp (bnd (ask (lstOf (.fl (is.map D.int)))) srtI) m Q = _
  rw [wp_bnd, w_lsF]
  unfold srtI
  rw [intsOf_map]
  show wp (if is.length < 64 then _ else bad) m Q = _
  rw [wp_gd, wp_ret]
theorem w_maxL {a : Int} {is : List Int} {m : Hs} {Q : D → Hs → Prop} : wp (maxLS [.fl ((a :: is).map D.int)]) m Q = Q (.int (mxI a is)) m := by
  show wp (bnd (ask (lstOf (.fl ((a :: is).map D.int)))) (ext1 mxI)) m Q = _
  rw [wp_bnd, w_lsF]
  unfold ext1
  rw [intsOf_map]
  rfl
theorem w_minL {a : Int} {is : List Int} {m : Hs} {Q : D → Hs → Prop} : wp (minLS [.fl ((a :: is).map D.int)]) m Q = Q (.int (mnI a is)) m := by
  show wp (bnd (ask (lstOf (.fl ((a :: is).map D.int)))) (ext1 mnI)) m Q = _
  rw [wp_bnd, w_lsF]
  unfold ext1
  rw [intsOf_map]
  rfl
theorem sum_zip {K : Int} : ∀ (cs ls : List Int) (n : Nat), n ≤ cs.length → n ≤ ls.length → (((cs.zip ls).take n).map fun p => p.1 + p.2 + K).sum = (cs.take n).sum + (ls.take n).sum + K * n
  | _, _, 0, _, _ => by simp
  | [], _, n + 1, h, _ => by simp at h
  | _ :: _, [], n + 1, _, h => by simp at h
  | c :: cs, l :: ls, n + 1, h1, h2 => by
    have ih := sum_zip (K := K) cs ls n (by simpa using h1) (by simpa using h2)
    simp only [List.zip_cons_cons, List.take_succ_cons, List.map_cons, List.sum_cons, ih, Int.natCast_succ, Int.mul_add]
    omega
theorem drop_zip : ∀ (cs ls : List Int) (a : Nat), (cs.zip ls).drop a = (cs.drop a).zip (ls.drop a)
  | _, _, 0 => by simp
  | [], _, _ + 1 => by simp
  | _ :: _, [], a + 1 => by simp
  | c :: cs, l :: ls, a + 1 => by
    simp only [List.zip_cons_cons, List.drop_succ_cons]
    exact drop_zip cs ls a
theorem sum_le {B : Int} : ∀ (l : List Int), (∀ x, x ∈ l → 0 ≤ x ∧ x ≤ B) → 0 ≤ l.sum ∧ l.sum ≤ B * l.length
  | [], _ => by simp
  | x :: l, h => by
    have ih := sum_le l fun y hy => h y (by simp [hy])
    have hx := h x (by simp)
    simp only [List.sum_cons, List.length_cons, Int.natCast_succ, Int.mul_add]
    omega
/-- sums over some boundaries -/
def sg (P : List (Int × Int)) (f : Int × Int → Int) (a n : Nat) : Int := (((P.drop a).take n).map f).sum
theorem sg_0 {P : List (Int × Int)} {f : Int × Int → Int} {a : Nat} : sg P f a 0 = 0 := by simp [sg]
theorem sg_snoc {P : List (Int × Int)} {f : Int × Int → Int} {a n : Nat} {p : Int × Int} (h : P[a + n]? = some p) : sg P f a (n + 1) = sg P f a n + f p := by
  unfold sg
  rw [List.take_add_one, List.getElem?_drop, h]
  simp
end G

set_option Elab.async false
set_option linter.all false
namespace G
open PySem
theorem lc_any {turn : D → M (Option D)} {xs : List D} {m : Hs} {Q : D → Hs → Prop} (f : D → Bool) (h : ∀ x, x ∈ xs → turn x = ret (some (.bl (f x)))) (hl : xs.length ≤ 16777216) (q : Q (.bl (xs.any f)) m) : wp (lcL [] turn xs []) m fun ys m2 => wp (anyS [.fl ys]) m2 Q := by
  refine lc_map_wp (fun x => .bl (f x)) h hl ?_
  have e : xs.map (fun x => D.bl (f x)) = (xs.map f).map D.bl := by rw [List.map_map]; rfl
  rw [e, w_any]
  have e2 : (xs.map f).any id = xs.any f := by
    rw [List.any_map]; rfl
  rw [e2]
  exact q
mutual
theorem eqv_pyD {m : Hs} : ∀ (k : Nat) (x : D) (p : PyData), pyD m k x = some p → PyData.eqv p p = true
  | _, .non, p, h => by simp [pyD] at h; subst h; rfl
  | _, .bl b, p, h => by simp [pyD] at h; subst h; simp [PyData.eqv]
  | _, .int i, p, h => by simp [pyD] at h; subst h; simp [PyData.eqv]
  | _, .str s, p, h => by
    simp only [pyD] at h
    split at h
    · cases h; simp [PyData.eqv]
    · cases h
  | 0, .tup _, p, h => by simp [pyD] at h
  | 0, .fl _, p, h => by simp [pyD] at h
  | 0, .sc _, p, h => by simp [pyD] at h
  | 0, .fd _ _, p, h => by simp [pyD] at h
  | _ + 1, .fd _ _, p, h => by simp [pyD] at h
  | 0, .ref _, p, h => by simp [pyD] at h
  | n + 1, .tup xs, p, h => by
    simp only [pyD, Option.map_eq_some_iff] at h
    obtain ⟨ps, h1, rfl⟩ := h
    rw [PyData.eqv]
    exact eqv_mapO n xs ps h1
  | n + 1, .fl xs, p, h => by
    simp only [pyD, Option.map_eq_some_iff] at h
    obtain ⟨ps, h1, rfl⟩ := h
    rw [PyData.eqv]
    exact eqv_mapO n xs ps h1
  | n + 1, .sc xs, p, h => by
    simp only [pyD, Option.map_eq_some_iff] at h
    obtain ⟨ps, h1, rfl⟩ := h
    rw [PyData.eqv]
    exact eqv_mapO n xs ps h1
  | n + 1, .ref j, p, h => by
    simp only [pyD] at h
    split at h
    · rename_i xs _
      simp only [Option.map_eq_some_iff] at h
      obtain ⟨ps, h1, rfl⟩ := h
      rw [PyData.eqv]
      exact eqv_mapO n xs ps h1
    · cases h
theorem eqv_mapO {m : Hs} : ∀ (k : Nat) (xs : List D) (ps : List PyData), mapO (pyD m k) xs = some ps → PyData.eqvAll ps ps = true
  | _, [], ps, h => by cases h; rfl
  | k, x :: xs, ps, h => by
    simp only [mapO] at h
    split at h
    · rename_i y ys h1 h2
      cases h
      rw [PyData.eqvAll, eqv_pyD k x y h1, eqv_mapO k xs ys h2]
      rfl
    · cases h
end
/-! ### a policy with bounds -/
structure PB (L : Nat) (B F : Int) (cs ls : List Int) (fx : Int) : Prop where
  v : Vp cs ls
  len : cs.length ≤ L
  cB : ∀ c, c ∈ cs → 1 ≤ c ∧ c ≤ B
  f0 : 0 ≤ fx
  f1 : fx ≤ F
theorem PB.llen {L : Nat} {B F : Int} {cs ls : List Int} {fx : Int} (h : PB L B F cs ls fx) : ls.length + 1 ≤ L := by
  have := h.v.len
  have := h.len
  omega
theorem PB.lB {L : Nat} {B F : Int} {cs ls : List Int} {fx : Int} (h : PB L B F cs ls fx) {l : Int} (hl : l ∈ ls) : 0 ≤ l ∧ l ≤ B := by
  obtain ⟨i, hi⟩ := List.getElem?_of_mem hl
  have := h.v.len
  obtain ⟨c, hc⟩ := get_ex (l := cs) (i := i) (by have := get_lt hi; omega)
  have h1 := h.v.le i l c hi hc
  have h2 := h.cB c (List.mem_of_getElem? hc)
  exact ⟨h.v.lpos i l hi, by omega⟩
theorem PB.cAt {L : Nat} {B F : Int} {cs ls : List Int} {fx c : Int} {i : Nat} (h : PB L B F cs ls fx) (hc : cs[i]? = some c) : 1 ≤ c ∧ c ≤ B := h.cB c (List.mem_of_getElem? hc)
theorem PB.lAt {L : Nat} {B F : Int} {cs ls : List Int} {fx l : Int} {i : Nat} (h : PB L B F cs ls fx) (hl : ls[i]? = some l) : 0 ≤ l ∧ l ≤ B := h.lB (List.mem_of_getElem? hl)
theorem PB.pl {L : Nat} {B F : Int} {cs ls : List Int} {fx : Int} {k : Nat} (h : PB L B F cs ls fx) (hL : L ≤ 100) (hB : B < 2 ^ 200) (hF : F < 2 ^ 200) : Pl (k + 2) 400000 (pol cs ls fx) := by
  have := h.len
  have := h.llen
  have h0 := h.f0
  have h1 := h.f1
  exact (pl_pol (n := 100) (fun c hc => by have := h.cB c hc; omega) (fun c hc => by have := h.lB hc; omega) ⟨by omega, by omega⟩ (by omega) (by omega)).mono (by decide)
theorem PB.rp {L : Nat} {B F : Int} {cs ls : List Int} {fx : Int} (h : PB L B F cs ls fx) (hL : L ≤ 100 := by decide) (hB : B < 2 ^ 200 := by decide) (hF : F < 2 ^ 200 := by decide) : reprS [pol cs ls fx] = ret (.str (rp (pol cs ls fx))) := repr_eq (h.pl (k := 48) hL hB hF) (by decide)
theorem PB.mono {L L' : Nat} {B B' F F' : Int} {cs ls : List Int} {fx : Int} (h : PB L B F cs ls fx) (hL : L ≤ L') (hB : B ≤ B') (hF : F ≤ F') : PB L' B' F' cs ls fx := by
  have h1 := h.len
  have h2 := h.f1
  exact ⟨h.v, by omega, fun c hc => by have := h.cB c hc; omega, h.f0, by omega⟩
end G

set_option Elab.async false
set_option linter.all false
set_option maxRecDepth 100000
namespace G
open PySem
/-! ### generators, and loops over them, by what must hold behind -/
section
variable {A B β : Type} {m : Hs}
theorem wp_yldM {acc : List D} {t : M D} {k : List D → M β} {R : β → Hs → Prop} : wp (yldM acc t k) m R = wp t m fun y m1 => (m1.isEmpty = true ∧ pureD y = true ∧ acc.length < sizeLine) ∧ wp (k (acc ++ [y])) m1 R := by
  unfold yldM
  rw [wp_bnd]
  congr 1
  funext y m1
  by_cases h : m1.isEmpty = true ∧ pureD y = true ∧ acc.length < sizeLine
  · unfold wp
    simp only [h, and_self, if_true, true_and]
  · unfold wp
    simp only [h, if_false, false_and]
theorem wp_forG {src : M Its} {s : A} {body : D → A → M (Fl A Empty)} {R : Fl A Empty → Hs → Prop} : wp (forG src s body) m R = wp src m fun z m' => wp (forGL z.2 body z.1 s) m' R := wp_bnd
theorem forGL_wp {body : D → A → M (Fl A Empty)} {R : Fl A Empty → Hs → Prop} (I : List D → A → Prop)
    (step : ∀ x xs s, I (x :: xs) s → wp (body x s) [] fun fl m' => ∃ s', fl = .nx s' ∧ m' = [] ∧ I xs s')
    (done : ∀ s, I [] s → R (.nx s) []) : ∀ (xs : List D) (s : A), I xs s → wp (forGL [] body xs s) [] R
  | [], s, h => done s h
  | x :: xs, s, h => by
    show wp (seq (body x s) (forGL [] body xs)) [] R
    rw [wp_seq]
    refine wp_imp (step x xs s h) fun fl m' q => ?_
    obtain ⟨s', rfl, rfl, q⟩ := q
    exact forGL_wp I step done xs s' q
theorem wp_forP {oi : A → List Sl} {f : D → M (Fl (List D) Empty)} {t : M D} {s0 : A} {b : D → A → M (Fl A A)} {R : Fl A B → Hs → Prop} : wp (forP oi (gen1I f t) s0 b) m R = wp t m fun d m1 => wp (genS f d) m1 fun z m2 => wp (forPL oi b z.1 s0) m2 R := by
  show wp (bnd (bnd t (genS f)) fun z => forPL oi b z.1 s0) m R = _
  rw [wp_bnd, wp_bnd]
theorem wp_genS {f : D → M (Fl (List D) Empty)} {d : D} {L : List D} {R : Its → Hs → Prop} (hp : pureD d = true) (he : ∃ m', f d [] = .ok (.nx L) m') (hl : L.length < 100000) (q : R (L, []) m) : wp (genS f d) m R := by
  obtain ⟨m', he⟩ := he
  unfold wp genS
  rw [if_pos hp, he]
  simp only
  rw [if_pos (show L.length < big from hl)]
  exact q
theorem forPL_wp {oi : A → List Sl} {b : D → A → M (Fl A A)} {R : Fl A B → Hs → Prop} (I : List D → A → Prop) (pur : ∀ xs s, I xs s → (oi s).all slPure = true)
    (step : ∀ x xs s, I (x :: xs) s → wp (b x s) [] fun fl m' => match fl with
      | .nx s' => m' = [] ∧ I xs s'
      | .ct s' => m' = [] ∧ I xs s'
      | .bk s' => R (.nx s') m'
      | .rt d => R (.rt d) m')
    (done : ∀ s, I [] s → R (.nx s) []) : ∀ (xs : List D) (s : A), I xs s → wp (forPL oi b xs s) [] R
  | [], s, h => by
    unfold wp forPL
    rw [if_pos ⟨pur _ _ h, rfl⟩]
    exact done s h
  | x :: xs, s, h => by
    have e : (forPL oi b (x :: xs) s : M (Fl A B)) [] = bnd (calm (b x s)) (turnF (forPL oi b xs)) [] := by
      show (if (oi s).all slPure = true ∧ ([] : Hs) = [] then _ else _) = _
      rw [if_pos ⟨pur _ _ h, rfl⟩]
    unfold wp
    rw [e]
    show wp (bnd (calm (b x s)) (turnF (forPL oi b xs))) [] R
    rw [wp_bnd, wp_calm]
    refine wp_imp (step x xs s h) fun fl m' q => ?_
    cases fl with
    | nx s' =>
      obtain ⟨rfl, q⟩ := q
      exact forPL_wp I pur step done xs s' q
    | ct s' =>
      obtain ⟨rfl, q⟩ := q
      exact forPL_wp I pur step done xs s' q
    | bk s' => exact q
    | rt d => exact q
theorem pcM_ret {f : List D → M D} {ds : List D} {v : D} (hp : pureL ds = true) (hv : pureD v = true) (h : wp (f ds) [] fun d m => d = v ∧ m = []) : pcM f ds = ret v := by
  obtain ⟨a, m', e, rfl, rfl⟩ := wp_iff_ok.1 h
  funext m
  unfold pcM
  rw [if_pos hp, e]
  simp only [hv, if_true]
  rfl
theorem pc1_ret {b : D → M (Fl Unit Empty)} {a v : D} (hp : pureD a = true) (hv : pureD v = true) (h : wp (fnM (b a)) [] fun d m => d = v ∧ m = []) : pc1 b a = ret v :=
  pcM_ret (by simp only [pureL, hp, Bool.and_self]) hv h
theorem gen_ok {f : D → M (Fl (List D) Empty)} {d : D} {L : List D} (h : wp (f d) [] fun fl _ => fl = .nx L) : ∃ m', f d [] = .ok (.nx L) m' := by
  obtain ⟨a, m', e, rfl⟩ := wp_iff_ok.1 h
  exact ⟨m', e⟩
end
theorem pureL_int : ∀ l : List Int, pureL (l.map D.int) = true
  | [] => rfl
  | _ :: l => by simp only [List.map_cons, pureL, pureD, pureL_int l, Bool.and_self]
theorem pure_il {l : List Int} : pureD (il l) = true := by
  unfold il
  simp only [pureD, pureL_int]
theorem pure_pol {cs ls : List Int} {fx : Int} : pureD (pol cs ls fx) = true := by
  unfold pol
  simp only [pureD, pureL, pure_il, Bool.and_self]
theorem enumL_cons {i : Int} {x : D} {xs : List D} : enumL i (x :: xs) = .tup [.int i, x] :: enumL (i + 1) xs := rfl
/-! ### pairs of boundaries, in their order -/
def rowR (a : Nat) : Nat → Nat → List (Nat × Nat)
  | _, 0 => []
  | b, c + 1 => (a, b) :: rowR a (b + 1) c
def prsR : Nat → Nat → List (Nat × Nat)
  | _, 0 => []
  | a, c + 1 => rowR a a (c + 1) ++ prsR (a + 1) c
theorem mem_rowR {a : Nat} {p : Nat × Nat} : ∀ {c b : Nat}, p ∈ rowR a b c → p.1 = a ∧ b ≤ p.2 ∧ p.2 < b + c
  | 0, _, h => by simp [rowR] at h
  | c + 1, b, h => by
    rcases List.mem_cons.1 h with rfl | h
    · exact ⟨rfl, Nat.le_refl _, by omega⟩
    · have := mem_rowR h
      omega
theorem mem_prsR {p : Nat × Nat} : ∀ {c a : Nat}, p ∈ prsR a c → a ≤ p.1 ∧ p.1 ≤ p.2 ∧ p.2 < a + c
  | 0, _, h => by simp [prsR] at h
  | c + 1, a, h => by
    rcases List.mem_append.1 h with h | h
    · have := mem_rowR h
      omega
    · have := mem_prsR h
      omega
theorem len_rowR {a : Nat} : ∀ {c b : Nat}, (rowR a b c).length = c
  | 0, _ => rfl
  | c + 1, b => by simp [rowR, len_rowR (c := c)]
theorem len_prsR : ∀ {c a : Nat}, (prsR a c).length ≤ c * c
  | 0, _ => by simp [prsR]
  | c + 1, a => by
    have := len_prsR (c := c) (a := a + 1)
    simp only [prsR, List.length_append, len_rowR]
    have e : (c + 1) * (c + 1) = c * c + c + c + 1 := by rw [Nat.mul_add, Nat.add_mul]; omega
    omega
def prN (p : Nat × Nat) : D := .tup [.int (p.1 + 1 : Nat), .int (p.2 + 1 : Nat)]
/-- a swing: its cost, its length -/
def swN (P : List (Int × Int)) (ex : Int) (p : Nat × Nat) : Int × Int := (sg P (fun q => q.1 + q.2 + ex) p.1 (p.2 + 1 - p.1), 2 * ((P[p.2]?.getD (0, 0)).1 + 1 - (P[p.1]?.getD (0, 0)).2))
def optD : Option (Nat × Nat) → D
  | some p => prN p
  | none => .non
def swD (P : List (Int × Int)) (ex : Int) (p : Nat × Nat) : D := .tup [.int (p.1 + 1 : Nat), .int (p.2 + 1 : Nat), .int (swN P ex p).1, .int (swN P ex p).2]
theorem cut_from {xs : List D} {a : Nat} (ha : a ≤ xs.length) : cutD xs (some (a : Nat)) none = xs.drop a := by
  unfold cutD sIxD
  simp only
  rw [if_neg (by omega)]
  rw [show min (Int.toNat a) xs.length = a by omega]
  rw [List.take_of_length_le (by rw [List.length_drop]; omega)]
theorem Bd.pl {k d : Nat} {i : Int} (h : Bd d i) (hd : d < 1920) : Pl k 1921 (.int i) := Pl.int (by
  have := h.log
  omega)
abbrev PK (cs ls : List Int) (fx : Int) : Prop := PB 50 1000000000000000000 1000000000000 cs ls fx
theorem swN_bd {cs ls : List Int} {fx : Int} {p : Nat × Nat} (h : PK cs ls fx) (hp : p ∈ prsR 0 ls.length) : 1 ≤ (swN (cs.zip ls) (2 * fx) p).1 ∧ (swN (cs.zip ls) (2 * fx) p).1 < 2 ^ 100 ∧ 2 ≤ (swN (cs.zip ls) (2 * fx) p).2 ∧ (swN (cs.zip ls) (2 * fx) p).2 < 2 ^ 100 := by
  obtain ⟨a, b⟩ := p
  have hm := mem_prsR hp
  simp only at hm
  have hlen := h.v.len
  have hle := h.len
  have hf0 := h.f0
  have hf1 := h.f1
  obtain ⟨c, hc⟩ := get_ex (l := cs) (i := b) (by omega)
  obtain ⟨ca, hca⟩ := get_ex (l := cs) (i := a) (by omega)
  obtain ⟨l, hl1⟩ := get_ex (l := ls) (i := a) (by omega)
  obtain ⟨lb, hlb⟩ := get_ex (l := ls) (i := b) (by omega)
  have h1 := h.v.le a l ca hl1 hca
  have h2 := h.v.mono (b - a) a ca c hca (by rw [show a + (b - a) = b by omega]; exact hc)
  have h3 := h.cAt hc
  have h4 := h.lAt hl1
  have h5 := h.lAt hlb
  have hz := zip_at hc hlb
  have hsm : 0 ≤ sg (cs.zip ls) (fun q => q.1 + q.2 + 2 * fx) a (b - a) ∧ sg (cs.zip ls) (fun q => q.1 + q.2 + 2 * fx) a (b - a) < 2 ^ 99 := by
    have := sum_le (B := 3 * 10 ^ 18) ((((cs.zip ls).drop a).take (b - a)).map fun p => p.1 + p.2 + 2 * fx) fun x hx => by
      obtain ⟨p, hp, rfl⟩ := List.mem_map.1 hx
      have hp2 := List.of_mem_zip (a := p.1) (b := p.2) (List.mem_of_mem_drop (List.mem_of_mem_take hp))
      have := h.cB _ hp2.1
      have := h.lB hp2.2
      omega
    have h2 : ((((cs.zip ls).drop a).take (b - a)).map fun p => p.1 + p.2 + 2 * fx).length ≤ 50 := by
      rw [List.length_map, List.length_take]
      omega
    unfold sg
    omega
  have es := sg_snoc (P := cs.zip ls) (f := fun q => q.1 + q.2 + 2 * fx) (a := a) (n := b - a) (p := (c, lb)) (by rw [show a + (b - a) = b by omega]; exact hz)
  unfold swN
  simp only [hz, zip_at hca hl1, Option.getD_some]
  rw [show b + 1 - a = b - a + 1 by omega, es]
  omega
theorem enum2_of {a b : M D} {xs : List D} {i : Int} {m : Hs} {R : Its → Hs → Prop} (ha : ∀ (m : Hs) (Q : D → Hs → Prop), wp a m Q = Q (.tup xs) m) (hb : ∀ (m : Hs) (Q : D → Hs → Prop), wp b m Q = Q (.int i) m) :
    wp (enum2I a b) m R = ((-(2 ^ 63) ≤ i ∧ i < 2 ^ 63) ∧ R (enumL i xs, []) m) := by
  rw [wp_enum2, ha, hb, enum2_t]
end G

set_option Elab.async false
set_option linter.all false
set_option maxRecDepth 100000
namespace G
open PySem
/-! ### the worst price -/
abbrev Ws : Type := (Int × Int) × Option (Nat × Nat)
def stW (P : List (Int × Int)) (ex : Int) (s : Ws) (ab : Nat × Nat) : Ws := if s.1.1 * (swN P ex ab).2 < (swN P ex ab).1 * s.1.2 then (swN P ex ab, some ab) else s
def wst (cs ls : List Int) (fx : Int) : Ws := (prsR 0 ls.length).foldl (stW (cs.zip ls) (2 * fx)) ((0, 1), none)
structure OkW (ls : List Int) (s : Ws) : Prop where
  n0 : 0 ≤ s.1.1
  n1 : s.1.1 < 2 ^ 100
  d0 : 1 ≤ s.1.2
  d1 : s.1.2 < 2 ^ 100
  mem : ∀ ab, s.2 = some ab → ab ∈ prsR 0 ls.length
theorem OkW.ini {ls : List Int} : OkW ls ((0, 1), none) := ⟨by decide, by decide, by decide, by decide, fun _ h => by cases h⟩
theorem OkW.step {cs ls : List Int} {fx : Int} {s : Ws} {ab : Nat × Nat} (h : PK cs ls fx) (o : OkW ls s) (hm : ab ∈ prsR 0 ls.length) : OkW ls (stW (cs.zip ls) (2 * fx) s ab) := by
  unfold stW
  split
  · have := swN_bd h hm
    exact ⟨by simp only; omega, by simp only; omega, by simp only; omega, by simp only; omega, fun _ e => by cases e; exact hm⟩
  · exact o
theorem OkW.fold {cs ls : List Int} {fx : Int} (h : PK cs ls fx) : ∀ (ps : List (Nat × Nat)) (s : Ws), (∀ x, x ∈ ps → x ∈ prsR 0 ls.length) → OkW ls s → OkW ls (ps.foldl (stW (cs.zip ls) (2 * fx)) s)
  | [], s, _, o => o
  | p :: r, s, hp, o => OkW.fold h r _ (fun x hx => hp x (List.mem_cons_of_mem _ hx)) (o.step h (hp p (List.mem_cons_self ..)))
theorem wst_ok {cs ls : List Int} {fx : Int} (h : PK cs ls fx) : OkW ls (wst cs ls fx) := OkW.fold h _ _ (fun _ hx => hx) OkW.ini
def prI (p : Int × Int) : D := .tup [.int p.1, .int p.2]
theorem OkW.bds {ls : List Int} {s : Ws} (o : OkW ls s) : Bd 1000 s.1.1 ∧ Bd 1000 s.1.2 := by
  have h1 := o.n0
  have h2 := o.n1
  have h3 := o.d0
  have h4 := o.d1
  exact ⟨(Bd.of (k := 100) (by omega) (by omega)).mono (by decide), (Bd.of (k := 100) (by omega) (by omega)).mono (by decide)⟩
theorem pure_opt {o : Option (Nat × Nat)} : pureD (optD o) = true := by cases o <;> rfl
theorem opt_pl {o : Option (Nat × Nat)} {ls : List Int} {k : Nat} (hl : ls.length ≤ 50) (h : ∀ ab, o = some ab → ab ∈ prsR 0 ls.length) : Pl (k + 1) 4000 (optD o) := by
  cases o with
  | none => exact Pl.mono Pl.non (by decide)
  | some ab =>
    have := mem_prsR (h ab rfl)
    exact Pl.mono (pl_pair (k := k) (pl_int (by omega) (by omega)) (pl_int (by omega) (by omega))) (by decide)
end G

set_option Elab.async false
set_option linter.all false
set_option maxRecDepth 100000
namespace G
open PySem
end G

set_option Elab.async false
set_option linter.all false
set_option maxRecDepth 100000
namespace G
open PySem
/-! ### the worst price is the greatest; scaled ones -/
theorem fr_trans {a b c d e f : Int} (hb : 0 ≤ b) (hd : 0 < d) (hf : 0 ≤ f) (h1 : a * d ≤ c * b) (h2 : c * f ≤ e * d) : a * f ≤ e * b := by
  refine Int.le_of_mul_le_mul_right (a := d) ?_ hd
  have k1 := Int.mul_le_mul_of_nonneg_right h1 hf
  have k2 := Int.mul_le_mul_of_nonneg_right h2 hb
  rw [Int.mul_right_comm a f d, Int.mul_right_comm e b d]
  rw [Int.mul_right_comm c b f] at k1
  omega
/-- what a fold over prices tells -/
structure FoldW (P : List (Int × Int)) (ex : Int) (ps : List (Nat × Nat)) (s s' : Ws) : Prop where
  mx : ∀ ab, ab ∈ ps → (swN P ex ab).1 * s'.1.2 ≤ s'.1.1 * (swN P ex ab).2
  up : s.1.1 * s'.1.2 ≤ s'.1.1 * s.1.2
  pos : 0 < s'.1.2
  at' : s' = s ∨ ∃ ab, ab ∈ ps ∧ s'.1 = swN P ex ab ∧ s'.2 = some ab
theorem foldW {P : List (Int × Int)} {ex : Int} : ∀ (ps : List (Nat × Nat)) (s : Ws), (∀ ab, ab ∈ ps → 0 < (swN P ex ab).2) → 0 < s.1.2 → FoldW P ex ps s (ps.foldl (stW P ex) s)
  | [], s, _, h => ⟨fun _ h => by simp at h, Int.le_refl _, h, .inl rfl⟩
  | p :: r, s, hp, h => by
    have hpp := hp p (List.mem_cons_self ..)
    have hpos : 0 < (stW P ex s p).1.2 := by
      unfold stW
      split
      · exact hpp
      · exact h
    have ih := foldW r (stW P ex s p) (fun ab hab => hp ab (List.mem_cons_of_mem _ hab)) hpos
    have h1 : (swN P ex p).1 * (stW P ex s p).1.2 ≤ (stW P ex s p).1.1 * (swN P ex p).2 := by
      unfold stW
      split
      · exact Int.le_refl _
      · rename_i hn
        omega
    have h2 : s.1.1 * (stW P ex s p).1.2 ≤ (stW P ex s p).1.1 * s.1.2 := by
      unfold stW
      split
      · rename_i hn
        simp only
        omega
      · exact Int.le_refl _
    rw [List.foldl_cons]
    refine ⟨fun ab hab => ?_, fr_trans (Int.le_of_lt h) hpos (Int.le_of_lt ih.pos) h2 ih.up, ih.pos, ?_⟩
    · rcases List.mem_cons.1 hab with rfl | hab
      · exact fr_trans (Int.le_of_lt hpp) hpos (Int.le_of_lt ih.pos) h1 ih.up
      · exact ih.mx ab hab
    · rcases ih.at' with e | ⟨ab, hab, e⟩
      · rw [e]
        unfold stW
        split
        · exact .inr ⟨p, List.mem_cons_self .., rfl, rfl⟩
        · exact .inl rfl
      · exact .inr ⟨ab, List.mem_cons_of_mem _ hab, e⟩
theorem wst_fold {cs ls : List Int} {fx : Int} (h : PK cs ls fx) : FoldW (cs.zip ls) (2 * fx) (prsR 0 ls.length) ((0, 1), none) (wst cs ls fx) :=
  foldW _ _ (fun ab hab => by
    have := swN_bd h hab
    omega) (by decide)
/-! ### wastes -/
structure FoldB (cs ls : List Int) (n : Nat) (b : Fr) : Prop where
  mx : ∀ i, i < n → (qOf cs ls i).1 * b.2 ≤ b.1 * (qOf cs ls i).2
  pos : 0 < b.2
  at' : b = (0, 1) ∨ ∃ i, i < n ∧ b = qOf cs ls i
theorem frN_trans {a b c d e f : Nat} (hd : 0 < d) (h1 : a * d ≤ c * b) (h2 : c * f ≤ e * d) : a * f ≤ e * b := by
  refine Nat.le_of_mul_le_mul_right (c := d) ?_ hd
  calc a * f * d = a * d * f := by ac_rfl
    _ ≤ c * b * f := Nat.mul_le_mul_right _ h1
    _ = c * f * b := by ac_rfl
    _ ≤ e * d * b := Nat.mul_le_mul_right _ h2
    _ = e * b * d := by ac_rfl
end G

set_option Elab.async false
set_option linter.all false
set_option maxRecDepth 100000
namespace G
open PySem
end G

set_option Elab.async false
set_option linter.all false
set_option maxRecDepth 100000
namespace G
open PySem
section
variable {m : Hs} {Q : D → Hs → Prop} {R : List D → Hs → Prop}
theorem wp_starM {t : M D} {u : M (List D)} : wp (starM t u) m R = wp t m fun x m1 => wp (ask (itemsOf x)) m1 fun xs m2 => wp u m2 fun ys m3 => R (xs ++ ys) m3 := by
  unfold starM
  rw [wp_bnd]
  congr 1
  funext x m1
  rw [wp_bnd]
  congr 1
  funext xs m2
  rw [wp_bnd]
  rfl
theorem wp_consM {t : M D} {u : M (List D)} : wp (consM t u) m R = wp t m fun x m1 => wp u m1 fun ys m2 => R (x :: ys) m2 := by
  unfold consM
  rw [wp_bnd]
  congr 1
  funext x m1
  rw [wp_bnd]
  rfl
theorem w_itT {xs : List D} : wp (ask (itemsOf (.tup xs))) m R = R xs m := id rfl
theorem w_itF {xs : List D} : wp (ask (itemsOf (.fl xs))) m R = R xs m := id rfl
theorem wp_rl2M {f : List D → D} {t u : M D} : wp (rl2M f t u) m Q = wp t m fun x m1 => wp u m1 fun y m2 => wp (rlS f x y) m2 Q := by
  unfold rl2M
  rw [wp_bnd]
  congr 1
  funext x m1
  rw [wp_bnd]
theorem wp_rl1M {f : List D → D} {t : M D} : wp (rl1M f t) m Q = wp t m fun x m1 => wp (rlS f (.int 0) x) m1 Q := by
  unfold rl1M
  rw [wp_bnd]
theorem w_rl {f : List D → D} {i j : Int} : wp (rlS f (.int i) (.int j)) m Q = (rngOk i j ∧ Q (f (rngL i (j - i).toNat)) m) := by
  show wp (if rngOk i j then ret (f (rngL i (j - i).toNat)) else bad) m Q = _
  rw [wp_gd, wp_ret]
theorem wp_dn3I {t u w : M D} {R : Its → Hs → Prop} : wp (dn3I t u w) m R = wp t m fun x m1 => wp u m1 fun y m2 => wp w m2 fun z m3 => wp (dn3S x y z) m3 R := by
  unfold dn3I
  rw [wp_bnd]
  congr 1
  funext x m1
  rw [wp_bnd]
  congr 1
  funext y m2
  rw [wp_bnd]
theorem w_dn3 {i j : Int} {R : Its → Hs → Prop} : wp (dn3S (.int i) (.int j) (.int (-1))) m R = ((-(2 ^ 62) ≤ i ∧ i < 2 ^ 62 ∧ -(2 ^ 62) ≤ j ∧ j < 2 ^ 62) ∧ R (dnL i (i - j).toNat, []) m) := by
  show wp (if (-1 : Int) = -1 ∧ -(2 ^ 62) ≤ i ∧ i < 2 ^ 62 ∧ -(2 ^ 62) ≤ j ∧ j < 2 ^ 62 then ret (dnL i (i - j).toNat, ([] : List (Nat × List D))) else bad) m R = _
  rw [wp_gd, wp_ret]
  simp only [true_and]
end
end G

set_option Elab.async false
set_option linter.all false
set_option maxRecDepth 100000
namespace G
open PySem
theorem wp_mulTM {a b : M D} {m : Hs} {Q : D → Hs → Prop} : wp (mulTM a b) m Q = wp a m fun x m1 => wp b m1 fun y m2 => wp (mulTS x y) m2 Q := by
  unfold mulTM
  rw [wp_bnd]
  congr 1
  funext x m1
  rw [wp_bnd]
theorem w_mulT {xs : List D} {k : Int} {m : Hs} {Q : D → Hs → Prop} : wp (mulTS (.tup xs) (.int k)) m Q = ((xs ≠ [] ∧ 0 ≤ k ∧ k ≤ 1000 ∧ xs.length ≤ 1000) ∧ Q (.tup (List.replicate k.toNat xs).flatten) m) := by
  show wp (if xs ≠ [] ∧ 0 ≤ k ∧ k ≤ 1000 ∧ xs.length ≤ 1000 then ret (.tup (List.replicate k.toNat xs).flatten) else bad) m Q = _
  rw [wp_gd, wp_ret]
end G

set_option Elab.async false
set_option linter.all false
set_option maxRecDepth 100000
namespace G
open PySem
/-! ### limits that are changed -/
def lmt (ls : List Int) : Nat → Int
  | 0 => -1
  | i + 1 => ls[i]?.getD 0
def hiL (cs ls : List Int) (i : Nat) : Int := match ls[i + 1]? with
  | some l => if l - 1 < cs[i]?.getD 0 then l - 1 else cs[i]?.getD 0
  | none => cs[i]?.getD 0
theorem lset_get {l : List Int} {i j : Nat} {x a : Int} (h : (l.set i x)[j]? = some a) : (j = i ∧ a = x ∧ i < l.length) ∨ (j ≠ i ∧ l[j]? = some a) := by
  rw [List.getElem?_set] at h
  split at h
  · rename_i e
    subst e
    split at h
    · rename_i hl
      exact .inl ⟨rfl, by simpa using h.symm, hl⟩
    · cases h
  · rename_i e
    exact .inr ⟨fun z => e z.symm, h⟩
theorem Vp.set {cs ls : List Int} (v : Vp cs ls) {i : Nat} {x : Int} (hi : i < ls.length) (h1 : lmt ls i < x) (h2 : x ≤ hiL cs ls i) : Vp cs (ls.set i x) := by
  have hlen := v.len
  obtain ⟨c, hc⟩ := get_ex (l := cs) (i := i) (by omega)
  have hx0 : 0 ≤ x := by
    cases i with
    | zero => simp only [lmt] at h1; omega
    | succ j =>
      obtain ⟨l, hl⟩ := get_ex (l := ls) (i := j) (by omega)
      simp only [lmt, hl, Option.getD_some] at h1
      have := v.lpos j l hl
      omega
  have hxc : x ≤ c := by
    unfold hiL at h2
    rw [hc] at h2
    split at h2
    · split at h2 <;> simp only [Option.getD_some] at * <;> omega
    · exact h2
  refine ⟨by simp [hlen], v.asc, v.pos, fun j a b ha hb => ?_, fun j a ha => ?_, fun j a b ha hb => ?_⟩
  · rcases lset_get ha with ⟨rfl, rfl, _⟩ | ⟨h3, ha⟩
    · rcases lset_get hb with ⟨h4, _, _⟩ | ⟨h4, hb⟩
      · omega
      · unfold hiL at h2
        rw [hb, hc] at h2
        simp only [Option.getD_some] at h2
        split at h2 <;> omega
    · have ha2 := ha
      rcases lset_get hb with ⟨rfl, rfl, _⟩ | ⟨h4, hb⟩
      · have e : lmt ls (j + 1) = a := by
          show ls[j]?.getD 0 = a
          rw [ha2]
          rfl
        rw [e] at h1
        exact h1
      · exact v.lasc j a b ha hb
  · rcases lset_get ha with ⟨rfl, rfl, _⟩ | ⟨h3, ha⟩
    · exact hx0
    · exact v.lpos j a ha
  · rcases lset_get ha with ⟨rfl, rfl, _⟩ | ⟨h3, ha⟩
    · rw [hc] at hb
      cases hb
      exact hxc
    · exact v.le j a b ha hb
/-- a limit stands between its bounds -/
theorem Vp.btw {cs ls : List Int} (v : Vp cs ls) {i : Nat} {l : Int} (hl : ls[i]? = some l) : lmt ls i < l ∧ l ≤ hiL cs ls i := by
  have hlen := v.len
  have hi := get_lt hl
  obtain ⟨c, hc⟩ := get_ex (l := cs) (i := i) (by omega)
  have h1 := v.le i l c hl hc
  refine ⟨?_, ?_⟩
  · cases i with
    | zero =>
      have := v.lpos 0 l hl
      simp only [lmt]
      omega
    | succ j =>
      obtain ⟨l2, hl2⟩ := get_ex (l := ls) (i := j) (by omega)
      have := v.lasc j l2 l hl2 hl
      simp only [lmt, hl2, Option.getD_some]
      exact this
  · unfold hiL
    rw [hc]
    cases hl2 : ls[i + 1]? with
    | none => exact h1
    | some l2 =>
      have := v.lasc i l l2 hl hl2
      simp only [Option.getD_some]
      split <;> omega
theorem PB.set {L : Nat} {B F : Int} {cs ls : List Int} {fx x : Int} {i : Nat} (h : PB L B F cs ls fx) (hi : i < ls.length) (h1 : lmt ls i < x) (h2 : x ≤ hiL cs ls i) : PB L B F cs (ls.set i x) fx :=
  ⟨h.v.set hi h1 h2, h.len, h.cB, h.f0, h.f1⟩
theorem set_self {l : List Int} {i : Nat} {x : Int} (h : l[i]? = some x) : l.set i x = l := by
  apply List.ext_getElem?
  intro j
  rw [List.getElem?_set]
  split
  · rename_i e
    subst e
    rw [if_pos (get_lt h), h]
  · rfl
/-! ### smaller limits are cheaper -/
def LeL (l l' : List Int) : Prop := l.length = l'.length ∧ ∀ (i : Nat) (a b : Int), l[i]? = some a → l'[i]? = some b → a ≤ b
theorem LeL.refl (l : List Int) : LeL l l := ⟨rfl, fun i a b h1 h2 => by
  rw [h1] at h2
  cases h2
  exact Int.le_refl _⟩
theorem LeL.set {l : List Int} {i : Nat} {x y : Int} (h : x ≤ y) : LeL (l.set i x) (l.set i y) := ⟨by simp, fun j a b ha hb => by
  rcases lset_get ha with ⟨rfl, rfl, _⟩ | ⟨h1, ha⟩
  · rcases lset_get hb with ⟨_, rfl, _⟩ | ⟨h2, _⟩
    · exact h
    · exact absurd rfl h2
  · rcases lset_get hb with ⟨h2, _, _⟩ | ⟨_, hb⟩
    · exact absurd h2 h1
    · rw [ha] at hb
      cases hb
      exact Int.le_refl _⟩
theorem LeL.trans {a b c : List Int} (h : LeL a b) (h' : LeL b c) : LeL a c := ⟨h.1.trans h'.1, fun i x z hx hz => by
  obtain ⟨y, hy⟩ := get_ex (l := b) (i := i) (by rw [← h.1]; exact get_lt hx)
  exact Int.le_trans (h.2 i x y hx hy) (h'.2 i y z hy hz)⟩
theorem LeL.drop {l l' : List Int} (h : LeL l l') (n : Nat) : LeL (l.drop n) (l'.drop n) := ⟨by simp [h.1], fun i a b ha hb => by
  rw [List.getElem?_drop] at ha hb
  exact h.2 _ a b ha hb⟩
theorem LeL.take {l l' : List Int} (h : LeL l l') (n : Nat) : LeL (l.take n) (l'.take n) := ⟨by simp [h.1], fun i a b ha hb => by
  rw [List.getElem?_take] at ha hb
  split at ha
  · rename_i hi
    rw [if_pos hi] at hb
    exact h.2 _ a b ha hb
  · cases ha⟩
theorem LeL.sum : ∀ {l l' : List Int}, LeL l l' → l.sum ≤ l'.sum
  | [], [], _ => Int.le_refl _
  | [], _ :: _, h => by cases h.1
  | _ :: _, [], h => by cases h.1
  | a :: l, b :: l', h => by
    have h1 := h.2 0 a b rfl rfl
    have h2 := LeL.sum (l := l) (l' := l') (h.drop 1)
    rw [List.sum_cons, List.sum_cons]
    omega
theorem swN_mono {cs ls ls' : List Int} {fx : Int} {ab : Nat × Nat} (hlen : cs.length = ls.length + 1) (h : LeL ls ls') (hm : ab ∈ prsR 0 ls.length) : (swN (cs.zip ls) (2 * fx) ab).1 ≤ (swN (cs.zip ls') (2 * fx) ab).1 ∧ (swN (cs.zip ls') (2 * fx) ab).2 ≤ (swN (cs.zip ls) (2 * fx) ab).2 := by
  obtain ⟨a, b⟩ := ab
  have hp := mem_prsR hm
  simp only at hp
  have hl := h.1
  constructor
  · unfold swN sg
    simp only
    rw [drop_zip, drop_zip, sum_zip _ _ _ (by rw [List.length_drop]; omega) (by rw [List.length_drop]; omega), sum_zip _ _ _ (by rw [List.length_drop]; omega) (by rw [List.length_drop]; omega)]
    have := ((h.drop a).take (b + 1 - a)).sum
    omega
  · obtain ⟨c, hc⟩ := get_ex (l := cs) (i := b) (by omega)
    obtain ⟨ca, hca⟩ := get_ex (l := cs) (i := a) (by omega)
    obtain ⟨lb, hlb⟩ := get_ex (l := ls) (i := b) (by omega)
    obtain ⟨la, hla⟩ := get_ex (l := ls) (i := a) (by omega)
    obtain ⟨lb', hlb'⟩ := get_ex (l := ls') (i := b) (by omega)
    obtain ⟨la', hla'⟩ := get_ex (l := ls') (i := a) (by omega)
    have h1 := h.2 a la la' hla hla'
    unfold swN
    simp only [zip_at hc hlb, zip_at hca hla, zip_at hc hlb', zip_at hca hla', Option.getD_some]
    omega
/-- a price is kept -/
def Kp (cs ls : List Int) (fx p q : Int) : Prop := ∀ ab, ab ∈ prsR 0 ls.length → (swN (cs.zip ls) (2 * fx) ab).1 * q ≤ p * (swN (cs.zip ls) (2 * fx) ab).2
theorem Kp.mono {cs ls ls' : List Int} {fx p q : Int} (hlen : cs.length = ls.length + 1) (h : LeL ls ls') (hp : 0 ≤ p) (hq : 0 ≤ q) (k : Kp cs ls' fx p q) : Kp cs ls fx p q := fun ab hab => by
  obtain ⟨h1, h2⟩ := swN_mono (fx := fx) hlen h hab
  have h3 := k ab (by rw [← h.1]; exact hab)
  have h4 := Int.mul_le_mul_of_nonneg_right h1 hq
  have h5 := Int.mul_le_mul_of_nonneg_left h2 hp
  omega
/-- a greater price is kept, too -/
theorem Kp.more {cs ls : List Int} {fx p q p' q' : Int} (hp : PK cs ls fx) (hq : 0 < q) (hq' : 0 ≤ q') (h : p * q' ≤ p' * q) (k : Kp cs ls fx p q) : Kp cs ls fx p' q' := fun ab hab => by
  have hb := swN_bd hp hab
  exact fr_trans (by omega) hq hq' (k ab hab) h
theorem wst_K {cs ls : List Int} {fx : Int} (h : PK cs ls fx) : Kp cs ls fx (wst cs ls fx).1.1 (wst cs ls fx).1.2 := fun ab hab => (wst_fold h).mx ab hab
theorem red_pos {b : Fr} (hb : 0 < b.2) : 0 < (red b).2 := Nat.div_pos (Nat.le_of_dvd hb (Nat.gcd_dvd_right _ _)) (Nat.gcd_pos_of_pos_right _ hb)
theorem red_le (q : Fr) : (red q).1 ≤ q.1 ∧ (red q).2 ≤ q.2 := ⟨Nat.div_le_self _ _, Nat.div_le_self _ _⟩
end G

set_option Elab.async false
set_option linter.all false
set_option maxRecDepth 100000
namespace G
open PySem
/-- no limit can be made greater alone -/
def Mx (cs ls : List Int) (fx p q : Int) (a : Nat) : Prop := ∀ (j : Nat) (l y : Int), a ≤ j → ls[j]? = some l → l < y → y ≤ hiL cs ls j → ¬ Kp cs (ls.set j y) fx p q
theorem LeL.set2 {l l' : List Int} (h : LeL l l') (j : Nat) (y : Int) : LeL (l.set j y) (l'.set j y) := ⟨by simp [h.1], fun i a b ha hb => by
  rcases lset_get ha with ⟨rfl, rfl, _⟩ | ⟨h1, ha⟩
  · rcases lset_get hb with ⟨_, rfl, _⟩ | ⟨h2, _⟩
    · exact Int.le_refl _
    · exact absurd rfl h2
  · rcases lset_get hb with ⟨h2, _, _⟩ | ⟨_, hb⟩
    · exact absurd h2 h1
    · exact h.2 i a b ha hb⟩
theorem LeL.up {l : List Int} {j : Nat} {a y : Int} (h : l[j]? = some a) (hy : a ≤ y) : LeL l (l.set j y) := by
  have := LeL.set (l := l) (i := j) hy
  rwa [set_self h] at this
theorem LeL.set1 {l l' : List Int} (h : LeL l l') {j : Nat} {y b : Int} (hb : l'[j]? = some b) (hy : y ≤ b) : LeL (l.set j y) l' := by
  have h1 := h.set2 j y
  have h2 := LeL.set (l := l') (i := j) (x := y) (y := b) hy
  rw [set_self hb] at h2
  exact h1.trans h2
theorem Mx.stay {cs ls ls' : List Int} {fx p q : Int} (hv : cs.length = ls.length + 1) (hp : 0 ≤ p) (hq : 0 ≤ q) (h : Mx cs ls fx p q 0) (v' : Vp cs ls') (le : LeL ls ls') (k : Kp cs ls' fx p q) : ls' = ls := by
  have key : ∀ d j, j + d = ls.length → ls'[j]? = ls[j]? := fun d => by
    induction d using Nat.strongRecOn with
    | ind d ih =>
      intro j hj
      rcases Nat.eq_zero_or_pos d with rfl | hd
      · have hl := le.1
        rw [show ls'[j]? = none from List.getElem?_eq_none_iff.2 (by omega), show ls[j]? = none from List.getElem?_eq_none_iff.2 (by omega)]
      · obtain ⟨l, hl⟩ := get_ex (l := ls) (i := j) (by omega)
        obtain ⟨l', hl'⟩ := get_ex (l := ls') (i := j) (by rw [← le.1]; omega)
        have h1 := le.2 j l l' hl hl'
        rw [hl, hl']
        congr 1
        rcases Int.lt_trichotomy l l' with z | z | z
        · have hb := (v'.btw hl').2
          have e : hiL cs ls' j = hiL cs ls j := by
            unfold hiL
            rw [ih (d - 1) (by omega) (j + 1) (by omega)]
          rw [e] at hb
          exact absurd (k.mono (by rw [List.length_set]; exact hv) (le.set1 hl' (Int.le_refl _)) hp hq) (h j l l' (Nat.zero_le _) hl z hb)
        · exact z.symm
        · omega
  apply List.ext_getElem?
  intro j
  rcases Nat.lt_or_ge j ls.length with h1 | h1
  · exact key (ls.length - j) j (by omega)
  · have hl := le.1
    rw [show ls'[j]? = none from List.getElem?_eq_none_iff.2 (by omega), show ls[j]? = none from List.getElem?_eq_none_iff.2 h1]
/-! ### wastes -/
def Wq (cs ls : List Int) (p q : Int) : Prop := ∀ i, i < cs.length → ((qOf cs ls i).1 : Int) * q ≤ p * (qOf cs ls i).2
theorem qOf_int {cs ls : List Int} (v : Vp cs ls) {i : Nat} {c : Int} (hc : cs[i]? = some c) : ((qOf cs ls i).1 : Int) = c ∧ ((qOf cs ls i).2 : Int) = lmt ls i + (if i = 0 then 2 else 1) := by
  have hp := v.pos i c hc
  have hlen := v.len
  have hi := get_lt hc
  unfold qOf
  rw [hc]
  refine ⟨by simp only [Option.getD_some]; omega, ?_⟩
  cases i with
  | zero => simp [lmt]
  | succ j =>
    obtain ⟨l, hl⟩ := get_ex (l := ls) (i := j) (by omega)
    have := v.lpos j l hl
    simp only [lmt, hl, Option.getD_some]
    rw [if_neg (by omega)]
    omega
theorem lmt_le {ls ls' : List Int} (h : LeL ls ls') (i : Nat) : lmt ls i ≤ lmt ls' i := by
  cases i with
  | zero => exact Int.le_refl _
  | succ j =>
    simp only [lmt]
    cases hl : ls[j]? with
    | none =>
      rw [List.getElem?_eq_none_iff] at hl
      rw [List.getElem?_eq_none_iff.2 (by rw [← h.1]; exact hl)]
      exact Int.le_refl _
    | some l =>
      obtain ⟨l', hl'⟩ := get_ex (l := ls') (i := j) (by rw [← h.1]; exact get_lt hl)
      rw [hl']
      exact h.2 j l l' hl hl'
theorem Wq.mono {cs ls ls' : List Int} {p q : Int} (v : Vp cs ls) (v' : Vp cs ls') (le : LeL ls ls') (hp : 0 ≤ p) (w : Wq cs ls p q) : Wq cs ls' p q := fun i hi => by
  obtain ⟨c, hc⟩ := get_ex hi
  have h1 := w i hi
  obtain ⟨e1, e2⟩ := qOf_int v hc
  obtain ⟨e3, e4⟩ := qOf_int v' hc
  have h2 := lmt_le le i
  rw [e1, e2] at h1
  rw [e3, e4]
  have h3 := Int.mul_le_mul_of_nonneg_left (show lmt ls i + (if i = 0 then 2 else 1) ≤ lmt ls' i + (if i = 0 then 2 else 1) by omega) hp
  omega
end G

set_option Elab.async false
set_option linter.all false
set_option maxRecDepth 100000
namespace G
open PySem
structure Swg (cs ls : List Int) (a b : Nat) (c l : Int) : Prop where
  hab : a ≤ b
  hb : b < ls.length
  hc : cs[b]? = some c
  hl : ls[a]? = some l
theorem Swg.of {cs ls : List Int} {ab : Nat × Nat} (v : Vp cs ls) (h : ab ∈ prsR 0 ls.length) : ∃ c l, Swg cs ls ab.1 ab.2 c l := by
  have hm := mem_prsR h
  have hlen := v.len
  obtain ⟨c, hc⟩ := get_ex (l := cs) (i := ab.2) (by omega)
  obtain ⟨l, hl⟩ := get_ex (l := ls) (i := ab.1) (by omega)
  exact ⟨c, l, hm.2.1, by omega, hc, hl⟩
section
variable {cs ls : List Int} {fx c l : Int} {a b : Nat}
end
end G

set_option Elab.async false
set_option linter.all false
set_option maxRecDepth 100000
namespace G
open PySem
/-! ### the moves of a run, one behind the other -/
/-- growings from the level on: each to the next level, of its capacity; off: number less place -/
def UpC (cs : List Int) (off sz : Int) : Nat → List Mv → Prop
  | _, [] => True
  | lv, v :: vs => v.up = true ∧ v.lv = lv + 1 ∧ cs[lv]? = some v.cp ∧ lv + 1 < cs.length ∧ v.no = off + v.cp ∧ sz ≤ v.cp ∧ UpC cs off sz (lv + 1) vs
def DnC (ls : List Int) (off sz : Int) : Nat → List Mv → Prop
  | _, [] => True
  | lv, v :: vs => v.up = false ∧ 0 < lv ∧ v.lv = lv - 1 ∧ ls[lv - 1]? = some v.cp ∧ v.no = off - v.cp - 1 ∧ v.cp < sz ∧ DnC ls off sz (lv - 1) vs
def cpS (fx : Int) (vs : List Mv) : Int := (vs.map fun v => v.cp + fx).sum
def upS1 (vs : List Mv) : Int := (vs.map fun v => if v.up then (1 : Int) else -1).sum
theorem cpS_app {fx : Int} {a b : List Mv} : cpS fx (a ++ b) = cpS fx a + cpS fx b := by simp [cpS]
theorem upS1_app {a b : List Mv} : upS1 (a ++ b) = upS1 a + upS1 b := by simp [upS1]
theorem UpC.mono {cs : List Int} {off sz sz' : Int} (h : sz' ≤ sz) : ∀ {lv : Nat} {vs : List Mv}, UpC cs off sz lv vs → UpC cs off sz' lv vs
  | _, [], _ => trivial
  | lv, v :: vs, ⟨h1, h2, h3, h4, h5, h6, h7⟩ => ⟨h1, h2, h3, h4, h5, by omega, UpC.mono h h7⟩
theorem DnC.mono {ls : List Int} {off sz sz' : Int} (h : sz ≤ sz') : ∀ {lv : Nat} {vs : List Mv}, DnC ls off sz lv vs → DnC ls off sz' lv vs
  | _, [], _ => trivial
  | lv, v :: vs, ⟨h1, h2, h3, h4, h5, h6, h7⟩ => ⟨h1, h2, h3, h4, h5, by omega, DnC.mono h h7⟩
structure RunC (fx : Int) (t : Tk) (r : Tk × List Mv) : Prop where
  pd : r.1.pd = t.pd + cpS fx r.2
  lv : (r.1.lv : Int) = t.lv + upS1 r.2
theorem RunC.trans {fx : Int} {t : Tk} {r q : Tk × List Mv} (a : RunC fx t r) (b : RunC fx r.1 q) : RunC fx t (q.1, r.2 ++ q.2) :=
  ⟨by have := a.pd; have := b.pd; simp only [cpS_app]; omega, by have := a.lv; have := b.lv; simp only [upS1_app]; omega⟩
end G

set_option Elab.async false
set_option linter.all false
set_option maxRecDepth 100000
namespace G
open PySem
/-- each pair in one or two -/
inductive Parted : List Opn → List Opn → Prop
  | nil : Parted [] []
  | one {o : Opn} {os qs : List Opn} : Parted os qs → Parted (o :: os) (o :: qs)
  | two {b : Bool} {x y : Int} {os qs : List Opn} : 1 ≤ x → 1 ≤ y → Parted os qs → Parted ((b, x + y) :: os) ((b, x) :: (b, y) :: qs)
theorem Parted.ok {os qs : List Opn} (h : Parted os qs) : (∀ o, o ∈ os → okOp o) → ∀ o, o ∈ qs → okOp o := by
  induction h with
  | nil => exact fun h => h
  | one _ ih =>
    intro h q hq
    rcases List.mem_cons.1 hq with rfl | hq
    · exact h _ (by simp)
    · exact ih (fun o ho => h o (by simp [ho])) q hq
  | @two b x y os qs hx hy _ ih =>
    intro h q hq
    have h1 := h (b, x + y) (by simp)
    unfold okOp at h1
    simp only at h1
    simp only [List.mem_cons] at hq
    rcases hq with rfl | rfl | hq
    · exact ⟨hx, by simp only; omega⟩
    · exact ⟨hy, by simp only; omega⟩
    · exact ih (fun o ho => h o (by simp [ho])) q hq
theorem Parted.len {os qs : List Opn} (h : Parted os qs) : qs.length ≤ 2 * os.length := by
  induction h with
  | nil => simp
  | one _ ih => simp only [List.length_cons]; omega
  | two _ _ _ ih => simp only [List.length_cons]; omega
theorem Parted.sum {os qs : List Opn} (h : Parted os qs) : (qs.map fun o => o.2).sum = (os.map fun o => o.2).sum := by
  induction h with
  | nil => rfl
  | one _ ih => simp only [List.map_cons, List.sum_cons]; omega
  | two _ _ _ ih => simp only [List.map_cons, List.sum_cons]; omega
theorem Parted.app {a b c d : List Opn} (h : Parted a b) (h2 : Parted c d) : Parted (a ++ c) (b ++ d) := by
  induction h with
  | nil => exact h2
  | one _ ih => exact .one ih
  | two hx hy _ ih => exact .two hx hy ih
end G

set_option Elab.async false
set_option linter.all false
set_option maxRecDepth 100000
set_option maxHeartbeats 1000000
namespace G
open PySem
/-! ### comprehensions over mapped lists -/
theorem lcL_fm {α : Type} {turn : D → M (Option D)} {g : α → D} (f : α → Option D) : ∀ (l : List α) (acc : List D), (∀ a, a ∈ l → turn (g a) = ret (f a)) → acc.length + l.length ≤ sizeLine → lcL [] turn (l.map g) acc = ret (acc ++ l.filterMap f)
  | [], acc, _, _ => by simp [lcL, stay_nil]
  | x :: xs, acc, h, hl => by
    show bnd (calm (turn (g x))) _ = _
    rw [h x (by simp), calm_ret, bnd_ret]
    simp only [List.length_cons] at hl
    cases hf : f x with
    | none =>
      simp only [List.filterMap_cons, hf]
      exact lcL_fm f xs acc (fun y hy => h y (by simp [hy])) (by omega)
    | some y =>
      simp only [List.filterMap_cons, hf]
      rw [if_pos (by omega), lcL_fm f xs (acc ++ [y]) (fun y hy => h y (by simp [hy])) (by simp; omega)]
      simp
theorem lc_fm {α : Type} {turn : D → M (Option D)} {g : α → D} {l : List α} {m : Hs} {R : List D → Hs → Prop} (f : α → Option D) (h : ∀ a, a ∈ l → turn (g a) = ret (f a)) (hl : l.length ≤ 16777216) (q : R (l.filterMap f) m) : wp (lcL [] turn (l.map g) []) m R := by
  have h3 : l.length ≤ sizeLine := hl
  rw [lcL_fm f l [] h (by simpa using h3)]
  exact q
theorem lc_mm {α : Type} {turn : D → M (Option D)} {g : α → D} {l : List α} {m : Hs} {R : List D → Hs → Prop} (f : α → D) (h : ∀ a, a ∈ l → turn (g a) = ret (some (f a))) (hl : l.length ≤ 16777216) (q : R (l.map f) m) : wp (lcL [] turn (l.map g) []) m R := by
  refine lc_fm (fun a => some (f a)) h hl ?_
  have e : l.filterMap (fun a => some (f a)) = l.map f := by induction l <;> simp_all
  rw [e]
  exact q
theorem mapO_map {α β γ : Type} {f : β → Option γ} {g : α → β} {h : α → γ} (e : ∀ a, f (g a) = some (h a)) : ∀ l : List α, mapO f (l.map g) = some (l.map h)
  | [] => rfl
  | a :: l => by simp only [List.map_cons, mapO, e, mapO_map e l]
theorem niD_in {α : Type} {g : α → D} {h : α → PyData} {l : List α} {a : α} (e : ∀ (m : Hs) (k : Nat) (b : α), pyD m (k + 2) (g b) = some (h b)) (ha : a ∈ l) {m : Hs} {Q : D → Hs → Prop} (q : Q (.bl false) m) : wp (niDS (g a) (.fl (l.map g))) m Q := by
  unfold niDS
  rw [wp_bnd, wp_ask]
  refine ⟨true, ?_, q⟩
  have e1 : pyD m deepest (g a) = some (h a) := e m 48 a
  have e2 : pyD m deepest (.fl (l.map g)) = some (.list (l.map h)) := by
    show (mapO (pyD m 49) (l.map g)).map PyData.list = _
    rw [mapO_map (fun b => e m 47 b)]
    rfl
  unfold inD
  rw [e1, e2]
  simp only [Option.some.injEq, List.any_eq_true]
  exact ⟨h a, List.mem_map_of_mem ha, eqv_pyD deepest (g a) (h a) e1⟩
/-- capacities -/
structure Cp0 (cs : List Int) : Prop where
  ne : cs ≠ []
  asc : ∀ (i : Nat) (a b : Int), cs[i]? = some a → cs[i + 1]? = some b → a < b
  pos : ∀ (i : Nat) (a : Int), cs[i]? = some a → 1 ≤ a
/-! ### rules -/
theorem wp_niDM {a b : M D} {m : Hs} {Q : D → Hs → Prop} : wp (niDM a b) m Q = wp a m fun x m1 => wp b m1 fun y m2 => wp (niDS x y) m2 Q := by
  unfold niDM
  rw [wp_bnd]
  congr 1
  funext x m1
  rw [wp_bnd]
theorem wp_inDM {a b : M D} {m : Hs} {Q : D → Hs → Prop} : wp (inDM a b) m Q = wp a m fun x m1 => wp b m1 fun y m2 => wp (inDS x y) m2 Q := by
  unfold inDM
  rw [wp_bnd]
  congr 1
  funext x m1
  rw [wp_bnd]
theorem wp_zpM {f : List D → D} {a b : M D} {m : Hs} {Q : D → Hs → Prop} : wp (zpM f a b) m Q = wp a m fun x m1 => wp b m1 fun y m2 => wp (zpS f x y) m2 Q := by
  unfold zpM
  rw [wp_bnd]
  congr 1
  funext x m1
  rw [wp_bnd]
theorem w_zpFF {f : List D → D} {xs ys : List D} {m : Hs} {Q : D → Hs → Prop} : wp (zpS f (.fl xs) (.fl ys)) m Q = Q (f (zpL xs ys)) m := id rfl
theorem wp_isBM {a b : M D} {m : Hs} {Q : D → Hs → Prop} : wp (isBM a b) m Q = wp a m fun x m1 => wp b m1 fun y m2 => wp (isBS x y) m2 Q := by
  unfold isBM
  rw [wp_bnd]
  congr 1
  funext x m1
  rw [wp_bnd]
theorem wp_nsBM {a b : M D} {m : Hs} {Q : D → Hs → Prop} : wp (nsBM a b) m Q = wp a m fun x m1 => wp b m1 fun y m2 => wp (nsBS x y) m2 Q := by
  unfold nsBM
  rw [wp_bnd]
  congr 1
  funext x m1
  rw [wp_bnd]
theorem w_isBB {a b : Bool} {m : Hs} {Q : D → Hs → Prop} : wp (isBS (.bl a) (.bl b)) m Q = Q (.bl (decide (a = b))) m := id rfl
theorem w_nsBB {a b : Bool} {m : Hs} {Q : D → Hs → Prop} : wp (nsBS (.bl a) (.bl b)) m Q = Q (.bl (!decide (a = b))) m := id rfl
end G

set_option Elab.async false
set_option linter.all false
set_option maxRecDepth 100000
set_option maxHeartbeats 1000000
namespace G
open PySem
/-! ### rounds over a graph, until nothing changes -/
theorem mxI_mem (r : List Int) (a : Int) : mxI a r ∈ a :: r := (mxI_ok r a).1
theorem mxI_ge (r : List Int) (a : Int) {y : Int} (h : y ∈ a :: r) : y ≤ mxI a r := (mxI_ok r a).2 y h
theorem mxI_le {r : List Int} {a b : Int} (h : ∀ y, y ∈ a :: r → y ≤ b) : mxI a r ≤ b := h _ (mxI_mem r a)
section
variable {V : Type} (w : V → Int) (suc : V → List (V × Int))
def stp (X : V → Int) (v : V) : Int := w v + mxI 0 ((suc v).map fun e => X e.1 - e.2)
variable {w suc}
end
end G

set_option Elab.async false
set_option linter.all false
set_option maxRecDepth 100000
set_option maxHeartbeats 1000000
namespace G
open PySem
/-! ### the places of a policy: over each boundary, up and down -/
def us (cs : List Int) (k : Nat) : Int := cs[k]?.getD 0
abbrev Nd := Bool × Nat
def wG (cs ls : List Int) (fx q : Int) : Nd → Int
  | (true, k) => q * (us cs k + fx)
  | (false, k) => q * (us ls k + fx)
def sucG (cs ls : List Int) (p : Int) : Nd → List (Nd × Int)
  | (true, k) => (if k + 1 < ls.length then [((true, k + 1), p * (us cs (k + 1) - us cs k))] else []) ++ [((false, k), p * (us cs k + 1 - us ls k))]
  | (false, k) => ((true, k), p * (us cs k + 1 - us ls k)) :: (if 0 < k then [((false, k - 1), p * (us ls k - us ls (k - 1)))] else [])
def ndS (N : Nat) : List Nd := (List.range N).map (fun k => (true, k)) ++ (List.range N).map fun k => (false, k)
theorem mem_ndS {N : Nat} {v : Nd} : v ∈ ndS N ↔ v.2 < N := by
  obtain ⟨b, k⟩ := v
  unfold ndS
  rw [List.mem_append, List.mem_map, List.mem_map]
  constructor
  · rintro (⟨j, h, e⟩ | ⟨j, h, e⟩) <;> cases e <;> exact List.mem_range.1 h
  · intro h
    cases b
    · exact .inr ⟨k, List.mem_range.2 h, rfl⟩
    · exact .inl ⟨k, List.mem_range.2 h, rfl⟩
section
variable {cs ls : List Int} {fx p q : Int}
theorem us_at {k : Nat} {c : Int} (h : cs[k]? = some c) : us cs k = c := by simp [us, h]
theorem rowR_mem {a : Nat} : ∀ {c b x : Nat}, b ≤ x → x < b + c → (a, x) ∈ rowR a b c
  | 0, b, x, h1, h2 => by omega
  | c + 1, b, x, h1, h2 => by
    unfold rowR
    rcases Nat.lt_or_ge b x with h | h
    · exact List.mem_cons_of_mem _ (rowR_mem (by omega) (by omega))
    · rw [show x = b by omega]
      exact List.mem_cons_self
theorem prsR_mem : ∀ {c a0 a b : Nat}, a0 ≤ a → a ≤ b → b < a0 + c → (a, b) ∈ prsR a0 c
  | 0, a0, a, b, h1, h2, h3 => by omega
  | c + 1, a0, a, b, h1, h2, h3 => by
    unfold prsR
    rw [List.mem_append]
    rcases Nat.lt_or_ge a0 a with h | h
    · exact .inr (prsR_mem (by omega) h2 (by omega))
    · rw [show a = a0 by omega]
      exact .inl (rowR_mem (by omega) (by omega))
/-! ### a kept price: numbers that ask for nothing more -/
theorem descend {N : Nat} (L M : Nat → Int) (h : ∀ a b, a ≤ b → b < N → L b ≤ M a) : ∃ g : Nat → Int, (∀ k, k < N → L k ≤ g k) ∧ (∀ k, k < N → g k ≤ M k) ∧ ∀ k, k + 1 < N → g (k + 1) ≤ g k := by
  refine ⟨fun k => mxI (L k) (((List.range N).filter fun b => decide (k ≤ b)).map L), fun k _ => mxI_ge _ _ List.mem_cons_self, fun k hk => mxI_le fun y hy => ?_, fun k hk => mxI_le fun y hy => ?_⟩
  · rcases List.mem_cons.1 hy with rfl | hy
    · exact h k k (Nat.le_refl _) hk
    · obtain ⟨b, hb, rfl⟩ := List.mem_map.1 hy
      rw [List.mem_filter, List.mem_range] at hb
      exact h k b (by simpa using hb.2) hb.1
  · have : ∀ b, k ≤ b → b < N → L b ≤ mxI (L k) (((List.range N).filter fun b => decide (k ≤ b)).map L) := fun b h1 h2 =>
      mxI_ge _ _ (List.mem_cons_of_mem _ (List.mem_map_of_mem (List.mem_filter.2 ⟨List.mem_range.2 h2, by simpa using h1⟩)))
    rcases List.mem_cons.1 hy with rfl | hy
    · exact this _ (by omega) hk
    · obtain ⟨b, hb, rfl⟩ := List.mem_map.1 hy
      rw [List.mem_filter, List.mem_range] at hb
      have hb2 : k + 1 ≤ b := by simpa using hb.2
      exact this b (by omega) hb.1
theorem bd_all (f : Nat → Int) : ∀ N : Nat, ∃ K : Int, 0 ≤ K ∧ ∀ k, k < N → f k ≤ K
  | 0 => ⟨0, Int.le_refl _, fun k h => absurd h (Nat.not_lt_zero _)⟩
  | N + 1 => by
    obtain ⟨K, h0, h⟩ := bd_all f N
    refine ⟨K + (if 0 ≤ f N then f N else 0), by split <;> omega, fun k hk => ?_⟩
    rcases Nat.lt_or_ge k N with h1 | h1
    · have := h k h1
      split <;> omega
    · rw [show k = N by omega]
      split <;> omega
def sU (cs : List Int) (fx q : Int) : Nat → Int
  | 0 => 0
  | k + 1 => sU cs fx q k + q * (us cs k + fx)
theorem sg_q {a : Nat} (hlen : cs.length = ls.length + 1) : ∀ n : Nat, a + n ≤ ls.length → sg (cs.zip ls) (fun x => x.1 + x.2 + 2 * fx) a n * q = (sU cs fx q (a + n) + sU ls fx q (a + n)) - (sU cs fx q a + sU ls fx q a)
  | 0, _ => by simp [sg]
  | n + 1, h => by
    obtain ⟨c, hc⟩ := get_ex (l := cs) (i := a + n) (by omega)
    obtain ⟨l, hl⟩ := get_ex (l := ls) (i := a + n) (by omega)
    have ih := sg_q (a := a) hlen n (by omega)
    rw [sg_snoc (zip_at hc hl), Int.add_mul, ih]
    have e : a + (n + 1) = (a + n) + 1 := by omega
    rw [e]
    simp only [sU]
    rw [us_at hc, us_at hl]
    have : (c + l + 2 * fx) * q = q * (c + fx) + q * (l + fx) := by
      rw [← Int.mul_add, Int.mul_comm]
      congr 1
      omega
    rw [this]
    omega
theorem pre_ex {n : Nat} {B F : Int} (h : PB n B F cs ls fx) (k : Kp cs ls fx p q) : ∃ T : Nd → Int, ∀ v, v ∈ ndS ls.length → stp (wG cs ls fx q) (sucG cs ls p) T v ≤ T v := by
  have hlen := h.v.len
  obtain ⟨g, g1, g2, g3⟩ := descend (N := ls.length) (fun b => (sU cs fx q (b + 1) + sU ls fx q (b + 1)) - (2 * (p * us cs b) + p)) (fun a => (sU cs fx q a + sU ls fx q a) - (2 * (p * us ls a) - p)) (fun a b hab hb => by
    have h1 := k (a, b) (prsR_mem (Nat.zero_le _) hab (by omega))
    obtain ⟨cb, hcb⟩ := get_ex (l := cs) (i := b) (by omega)
    obtain ⟨lb, hlb⟩ := get_ex hb
    obtain ⟨ca, hca⟩ := get_ex (l := cs) (i := a) (by omega)
    obtain ⟨la, hla⟩ := get_ex (l := ls) (i := a) (by omega)
    unfold swN at h1
    simp only [zip_at hcb hlb, zip_at hca hla, Option.getD_some] at h1
    have h2 := sg_q (fx := fx) (q := q) (a := a) hlen (b + 1 - a) (by omega)
    rw [show a + (b + 1 - a) = b + 1 by omega] at h2
    rw [h2] at h1
    rw [us_at hcb, us_at hla]
    have e : p * (2 * (cb + 1 - la)) = 2 * (p * cb) + 2 * p - 2 * (p * la) := by
      rw [show 2 * (cb + 1 - la) = cb + cb + (1 + 1) - (la + la) by omega]
      simp only [Int.mul_sub, Int.mul_add, Int.mul_one]
      omega
    rw [e] at h1
    omega)
  obtain ⟨K1, _, hK1⟩ := bd_all (fun k => q * (us cs k + fx) - (g k - sU cs fx q k + p * us cs k)) ls.length
  obtain ⟨K2, _, hK2⟩ := bd_all (fun k => q * (us ls k + fx) - (sU ls fx q (k + 1) - p * us ls k)) ls.length
  refine ⟨fun v => match v with
    | (true, k) => g k + (if K1 ≤ K2 then K2 else K1) - sU cs fx q k + p * us cs k
    | (false, k) => (if K1 ≤ K2 then K2 else K1) + sU ls fx q (k + 1) - p * us ls k, fun v hv => ?_⟩
  have hKK : K1 ≤ (if K1 ≤ K2 then K2 else K1) ∧ K2 ≤ (if K1 ≤ K2 then K2 else K1) := by split <;> omega
  generalize (if K1 ≤ K2 then K2 else K1) = K at *
  rw [mem_ndS] at hv
  obtain ⟨b, i⟩ := v
  simp only at hv
  have a1 := g1 i hv
  have a2 := g2 i hv
  have b1 := hK1 i hv
  have b2 := hK2 i hv
  have eU : sU cs fx q (i + 1) = sU cs fx q i + q * (us cs i + fx) := rfl
  have eL : sU ls fx q (i + 1) = sU ls fx q i + q * (us ls i + fx) := rfl
  have e5 : p * (us cs i + 1 - us ls i) = p * us cs i + p - p * us ls i := by rw [Int.mul_sub, Int.mul_add, Int.mul_one]
  unfold stp
  cases b
  · simp only [wG]
    have : mxI 0 ((sucG cs ls p (false, i)).map fun e => (match e.1 with
      | (true, k) => g k + K - sU cs fx q k + p * us cs k
      | (false, k) => K + sU ls fx q (k + 1) - p * us ls k) - e.2) ≤ K + sU ls fx q (i + 1) - p * us ls i - q * (us ls i + fx) := mxI_le fun y hy => by
      rcases List.mem_cons.1 hy with rfl | hy
      · omega
      · obtain ⟨e, he, rfl⟩ := List.mem_map.1 hy
        simp only [sucG, List.mem_cons] at he
        rcases he with rfl | he
        · simp only [e5]
          omega
        · split at he
          · rw [List.mem_singleton.1 he]
            have e3 : sU ls fx q (i - 1 + 1) = sU ls fx q i := by rw [show i - 1 + 1 = i by omega]
            simp only [Int.mul_sub, e3]
            omega
          · cases he
    omega
  · simp only [wG]
    have : mxI 0 ((sucG cs ls p (true, i)).map fun e => (match e.1 with
      | (true, k) => g k + K - sU cs fx q k + p * us cs k
      | (false, k) => K + sU ls fx q (k + 1) - p * us ls k) - e.2) ≤ g i + K - sU cs fx q i + p * us cs i - q * (us cs i + fx) := mxI_le fun y hy => by
      rcases List.mem_cons.1 hy with rfl | hy
      · omega
      · obtain ⟨e, he, rfl⟩ := List.mem_map.1 hy
        simp only [sucG, List.mem_append, List.mem_singleton] at he
        rcases he with he | rfl
        · split at he
          · rename_i hi
            rw [List.mem_singleton.1 he]
            have a3 := g3 i hi
            simp only [Int.mul_sub, eU]
            omega
          · cases he
        · simp only [e5]
          omega
    omega
end
end G

set_option Elab.async false
set_option linter.all false
set_option maxRecDepth 100000
set_option maxHeartbeats 1000000
namespace G
open PySem
abbrev Rw := Option Int × Option Int
/-! ### the table of numbers at the places -/
def rwT (N : Nat) (X : Nd → Int) (i : Nat) : Rw := (if i < N then some (X (true, i)) else none, if 0 < i then some (X (false, i - 1)) else none)
/-! ### claims -/
def ups (p c sz : Int) (r : Option Int) : Option Int := r.map fun x => x - p * (c + 1 - sz)
def dws (p lm sz : Int) (r : Option Int) : Option Int := r.map fun x => x - p * (sz - lm)
def crd (p c lm sz : Int) (r : Rw) : List Int := (ups p c sz r.1).toList ++ (dws p lm sz r.2).toList
theorem crd_up {cs ls : List Int} {p : Int} {X : Nd → Int} {k : Nat} (hk : k < ls.length) : crd p (us cs (k + 1)) (us ls k) (us cs k + 1) (rwT ls.length X (k + 1)) = (sucG cs ls p (true, k)).map fun e => X e.1 - e.2 := by
  have e1 : us cs (k + 1) + 1 - (us cs k + 1) = us cs (k + 1) - us cs k := by omega
  unfold crd rwT ups dws
  simp only [sucG]
  by_cases h : k + 1 < ls.length
  · simp [h, e1]
  · simp [h]
theorem crd_dn {cs ls : List Int} {p : Int} {X : Nd → Int} {k : Nat} (hk : k < ls.length) : crd p (us cs k) (lmt ls k) (us ls k) (rwT ls.length X k) = (sucG cs ls p (false, k)).map fun e => X e.1 - e.2 := by
  unfold crd rwT ups dws
  simp only [sucG, if_pos hk]
  cases k with
  | zero => simp
  | succ j =>
    have e1 : lmt ls (j + 1) = us ls j := rfl
    simp [e1]
end G

set_option Elab.async false
set_option linter.all false
set_option maxRecDepth 100000
set_option maxHeartbeats 1000000
namespace G
open PySem
/-! ### the youngest list with a handle -/
section
variable {m : Hs} {xs ys : List D} {x y z : D} {Q : D → Hs → Prop}
end
theorem kw_04 {f : List D → M D} {is : List Nat} {a b c d : D} {m : Hs} {Q : D → Hs → Prop} : wp (kwS f 0 4 is [] [a, b, c, d]) m Q = wp (f (pick is [a, b, c, d])) m Q := rfl
theorem pick_3210 {a b c d : D} : pick [3, 2, 1, 0] [a, b, c, d] = [d, c, b, a] := rfl
def catS (x y : D) : M (List D) := bnd (ask (lstOf x)) fun xs => bnd (ask (lstOf y)) fun ys => if xs.length + ys.length ≤ sizeLine then ret (xs ++ ys) else bad
theorem wp_catO {a b : M D} {m : Hs} {R : List D → Hs → Prop} : wp (catO a b) m R = wp a m fun x m1 => wp b m1 fun y m2 => wp (catS x y) m2 R := by
  unfold catO
  rw [wp_bnd]
  congr 1
  funext x m1
  rw [wp_bnd]
  congr 1
theorem w_catF {xs ys : List D} {m : Hs} {R : List D → Hs → Prop} : wp (catS (.fl xs) (.fl ys)) m R = (xs.length + ys.length ≤ sizeLine ∧ R (xs ++ ys) m) := by
  unfold catS
  rw [wp_bnd, wp_ask]
  simp only [lstOf, Option.some.injEq, exists_eq_left']
  rw [wp_bnd, wp_ask]
  simp only [lstOf, Option.some.injEq, exists_eq_left']
  by_cases h : xs.length + ys.length ≤ sizeLine
  · rw [if_pos h, wp_ret]
    simp [h]
  · rw [if_neg h]
    simp [h]
    exact id
/-! ### what overdraws -/
def crdv (cs ls : List Int) (p : Int) (X : Nd → Int) (st : Nat × Int) : Int := mxI 0 (crd p (us cs st.1) (lmt ls st.1) st.2 (rwT ls.length X st.1))
section
variable {cs ls : List Int} {fx p q : Int} {X : Nd → Int} {i : Nat} {sz : Int}
theorem Sv.cap (h : Sv cs ls i sz) : cs[i]? = some (us cs i) ∧ sz ≤ us cs i := by
  obtain ⟨c, h1, h2⟩ := h.top
  rw [us_at h1]
  exact ⟨h1, h2⟩
theorem Sv.lo (v : Vp cs ls) (h : Sv cs ls i sz) : lmt ls i < sz := by
  cases i with
  | zero =>
    have := h.low
    simp only [lmt]
    omega
  | succ k =>
    have hc := get_lt h.cap.1
    have hlen := v.len
    obtain ⟨l, hl⟩ := get_ex (l := ls) (i := k) (by omega)
    have := h.lim k l rfl hl
    simp only [lmt, hl, Option.getD_some]
    exact this
end
end G

set_option Elab.async false
set_option linter.all false
set_option maxRecDepth 100000
set_option maxHeartbeats 1000000
namespace G
open PySem
section
variable {cs ls : List Int} {fx p q : Int} {X : Nd → Int}
theorem crdv_up (hk : i < ls.length) : crdv cs ls p X (i + 1, us cs i + 1) = mxI 0 ((sucG cs ls p (true, i)).map fun e => X e.1 - e.2) := by
  rw [← crd_up hk]
  unfold crdv
  simp only
  rw [show lmt ls (i + 1) = us ls i from rfl]
theorem crdv_dn (hk : i < ls.length) : crdv cs ls p X (i, us ls i) = mxI 0 ((sucG cs ls p (false, i)).map fun e => X e.1 - e.2) := by
  rw [← crd_dn hk]
  rfl
end
end G

set_option Elab.async false
set_option linter.all false
set_option maxRecDepth 100000
set_option maxHeartbeats 1000000
namespace G
open PySem
/-! ### a credit table that shows a price keeps every account -/
section
variable {cs ls : List Int} {fx p q : Int} {X : Nd → Int} {i : Nat} {sz : Int} {t : Tk}
theorem crdv_0 : 0 ≤ crdv cs ls p X (i, sz) := mxI_ge _ 0 (by simp)
theorem crdv_geU (h : i < ls.length) : X (true, i) - p * (us cs i + 1 - sz) ≤ crdv cs ls p X (i, sz) := mxI_ge _ 0 (by simp [crd, rwT, ups, h])
theorem crdv_geD {k : Nat} : X (false, k) - p * (sz - lmt ls (k + 1)) ≤ crdv cs ls p X (k + 1, sz) := mxI_ge _ 0 (by simp [crd, rwT, dws])
theorem crdv_le {z : Int} (h0 : 0 ≤ z) (hu : i < ls.length → X (true, i) - p * (us cs i + 1 - sz) ≤ z) (hd : ∀ k, i = k + 1 → X (false, k) - p * (sz - lmt ls i) ≤ z) : crdv cs ls p X (i, sz) ≤ z := by
  unfold crdv
  refine mxI_le fun y hy => ?_
  simp only [crd, List.mem_cons, List.mem_append, Option.mem_toList] at hy
  rcases hy with rfl | hy | hy
  · exact h0
  · simp only [ups, rwT] at hy
    split at hy
    · rename_i h
      simp at hy
      have := hu h
      omega
    · cases hy
  · simp only [dws, rwT] at hy
    split at hy
    · rename_i h
      simp at hy
      have := hd (i - 1) (by omega)
      omega
    · cases hy
theorem crdv_move {sz' : Int} (hp : 0 ≤ p) (h : sz' = sz + 1 ∨ sz' = sz - 1) : crdv cs ls p X (i, sz') ≤ crdv cs ls p X (i, sz) + p := by
  have h0 := crdv_0 (cs := cs) (ls := ls) (p := p) (X := X) (i := i) (sz := sz)
  refine crdv_le (by omega) (fun hi => ?_) (fun k hk => ?_)
  · have := crdv_geU (cs := cs) (p := p) (X := X) (sz := sz) hi
    rcases h with rfl | rfl
    · have e : p * (us cs i + 1 - (sz + 1)) = p * (us cs i + 1 - sz) - p := by rw [show us cs i + 1 - (sz + 1) = (us cs i + 1 - sz) - 1 by omega, Int.mul_sub, Int.mul_one]
      omega
    · have e : p * (us cs i + 1 - (sz - 1)) = p * (us cs i + 1 - sz) + p := by rw [show us cs i + 1 - (sz - 1) = (us cs i + 1 - sz) + 1 by omega, Int.mul_add, Int.mul_one]
      omega
  · subst hk
    have := crdv_geD (cs := cs) (ls := ls) (p := p) (X := X) (sz := sz) (k := k)
    rcases h with rfl | rfl
    · have e : p * (sz + 1 - lmt ls (k + 1)) = p * (sz - lmt ls (k + 1)) + p := by rw [show sz + 1 - lmt ls (k + 1) = (sz - lmt ls (k + 1)) + 1 by omega, Int.mul_add, Int.mul_one]
      omega
    · have e : p * (sz - 1 - lmt ls (k + 1)) = p * (sz - lmt ls (k + 1)) - p := by rw [show sz - 1 - lmt ls (k + 1) = (sz - lmt ls (k + 1)) - 1 by omega, Int.mul_sub, Int.mul_one]
      omega
theorem crd_one (v : Vp cs ls) (hX : ∀ v, v ∈ ndS ls.length → stp (wG cs ls fx q) (sucG cs ls p) X v ≤ X v) (hp : 0 ≤ p) (s : Sv cs ls t.lv t.sz) {b : Bool} (h1 : b = true → t.sz < us cs t.lv ∨ t.lv < ls.length) :
    crdv cs ls p X ((stS cs ls fx b t).1.lv, (stS cs ls fx b t).1.sz) + q * ((stS cs ls fx b t).1.pd - t.pd) ≤ crdv cs ls p X (t.lv, t.sz) + p := by
  obtain ⟨c1, c2⟩ := s.cap
  have hlen := v.len
  cases b with
  | true =>
    have h1 := h1 rfl
    simp only [stS, if_true, upS, c1]
    split
    · rename_i h
      simp only
      rw [Int.sub_self, Int.mul_zero]
      have := crdv_move (cs := cs) (ls := ls) (X := X) (i := t.lv) (sz := t.sz) hp (.inl rfl)
      omega
    · rename_i h
      have hi : t.lv < ls.length := by omega
      have e : t.sz = us cs t.lv := by omega
      have g := crdv_geU (cs := cs) (p := p) (X := X) (sz := t.sz) hi
      have g2 := hX (true, t.lv) (mem_ndS.2 hi)
      have e3 : stp (wG cs ls fx q) (sucG cs ls p) X (true, t.lv) = q * (us cs t.lv + fx) + mxI 0 ((sucG cs ls p (true, t.lv)).map fun e => X e.1 - e.2) := rfl
      rw [e3, ← crdv_up hi] at g2
      simp only
      rw [e] at g ⊢
      rw [show us cs t.lv + 1 - us cs t.lv = 1 by omega, Int.mul_one] at g
      rw [show t.pd + (us cs t.lv + fx) - t.pd = us cs t.lv + fx by omega]
      omega
  | false =>
    simp only [stS, Bool.false_eq_true, if_false, dnS]
    cases hl : t.lv with
    | zero =>
      simp only
      rw [Int.sub_self, Int.mul_zero]
      have := crdv_move (cs := cs) (ls := ls) (X := X) (i := 0) (sz := t.sz) hp (.inr rfl)
      omega
    | succ k =>
      obtain ⟨l, hl2⟩ := get_ex (l := ls) (i := k) (by have := get_lt c1; omega)
      have e1 : lmt ls (k + 1) = l := by simp [lmt, hl2]
      have e2 : us ls k = l := us_at hl2
      simp only [hl2]
      split
      · rename_i h
        have g := crdv_geD (cs := cs) (ls := ls) (p := p) (X := X) (sz := t.sz) (k := k)
        have hk := get_lt hl2
        have g2 := hX (false, k) (mem_ndS.2 hk)
        have e3 : stp (wG cs ls fx q) (sucG cs ls p) X (false, k) = q * (us ls k + fx) + mxI 0 ((sucG cs ls p (false, k)).map fun e => X e.1 - e.2) := rfl
        rw [e3, ← crdv_dn hk] at g2
        simp only
        rw [e1, show t.sz - l = 1 by omega, Int.mul_one] at g
        rw [e2] at g2
        rw [h, show t.pd + (l + fx) - t.pd = l + fx by omega]
        omega
      · simp only
        rw [Int.sub_self, Int.mul_zero]
        have := crdv_move (cs := cs) (ls := ls) (X := X) (i := k + 1) (sz := t.sz) hp (.inr rfl)
        omega
end
end G

set_option Elab.async false
set_option linter.all false
set_option maxRecDepth 100000
set_option maxHeartbeats 1000000
namespace G
open PySem
/-! ### a policy cut off: its first boundaries -/
theorem zip_take {cs ls : List Int} {n : Nat} : (cs.take (n + 1)).zip (ls.take n) = (cs.zip ls).take n := by
  apply List.ext_getElem?
  intro i
  rw [List.getElem?_take]
  rcases Nat.lt_or_ge i n with h | h
  · rw [if_pos h]
    rcases h1 : cs[i]? with _ | c
    · rw [List.getElem?_eq_none_iff.2 (by rw [List.length_zip, List.length_take, List.length_take]; have := List.getElem?_eq_none_iff.1 h1; omega), List.getElem?_eq_none_iff.2 (by rw [List.length_zip]; have := List.getElem?_eq_none_iff.1 h1; omega)]
    · rcases h2 : ls[i]? with _ | l
      · rw [List.getElem?_eq_none_iff.2 (by rw [List.length_zip, List.length_take, List.length_take]; have := List.getElem?_eq_none_iff.1 h2; omega), List.getElem?_eq_none_iff.2 (by rw [List.length_zip]; have := List.getElem?_eq_none_iff.1 h2; omega)]
      · rw [zip_at h1 h2, zip_at (c := c) (l := l) (by rw [List.getElem?_take, if_pos (by omega)]; exact h1) (by rw [List.getElem?_take, if_pos h]; exact h2)]
  · rw [if_neg (by omega), List.getElem?_eq_none_iff.2 (by rw [List.length_zip, List.length_take, List.length_take]; omega)]
theorem sg_take {P : List (Int × Int)} {f : Int × Int → Int} {a n k : Nat} (h : a + n ≤ k) : sg (P.take k) f a n = sg P f a n := by
  unfold sg
  rw [List.drop_take, List.take_take, Nat.min_eq_left (by omega)]
theorem swN_take {P : List (Int × Int)} {ex : Int} {ab : Nat × Nat} {k : Nat} (h1 : ab.1 ≤ ab.2) (h2 : ab.2 < k) : swN (P.take k) ex ab = swN P ex ab := by
  unfold swN
  rw [sg_take (by omega), List.getElem?_take, List.getElem?_take, if_pos (by omega), if_pos (by omega)]
theorem Vp.take {cs ls : List Int} {n : Nat} (v : Vp cs ls) (hn : n ≤ ls.length) : Vp (cs.take (n + 1)) (ls.take n) := by
  have hl := v.len
  have gc : ∀ (i : Nat) (a : Int), (cs.take (n + 1))[i]? = some a → cs[i]? = some a := fun i a h => by
    rw [List.getElem?_take] at h
    split at h
    · exact h
    · cases h
  have gl : ∀ (i : Nat) (a : Int), (ls.take n)[i]? = some a → ls[i]? = some a := fun i a h => by
    rw [List.getElem?_take] at h
    split at h
    · exact h
    · cases h
  exact ⟨by rw [List.length_take, List.length_take]; omega, fun i a b h1 h2 => v.asc i a b (gc _ _ h1) (gc _ _ h2), fun i a h => v.pos i a (gc _ _ h), fun i a b h1 h2 => v.lasc i a b (gl _ _ h1) (gl _ _ h2), fun i a h => v.lpos i a (gl _ _ h), fun i a b h1 h2 => v.le i a b (gl _ _ h1) (gc _ _ h2)⟩
theorem Kp.take {cs ls : List Int} {fx p q : Int} {n : Nat} (hn : n ≤ ls.length) (k : Kp cs ls fx p q) : Kp (cs.take (n + 1)) (ls.take n) fx p q := fun ab hab => by
  rw [List.length_take, Nat.min_eq_left hn] at hab
  have hm := mem_prsR hab
  have := k ab (prsR_mem (by omega) hm.2.1 (by omega))
  rw [zip_take, swN_take hm.2.1 (by omega)]
  exact this
end G

set_option Elab.async false
set_option linter.all false
set_option maxRecDepth 100000
namespace G
open PySem
/-- the halves of a pair -/
def hlv (o : Opn) : List Opn := if o.2 / 2 > 0 then [(o.1, o.2 / 2), (o.1, o.2 - o.2 / 2)] else [(o.1, o.2 - o.2 / 2)]
end G

set_option Elab.async false
set_option linter.all false
set_option maxRecDepth 100000
set_option maxHeartbeats 2000000
/-! values of any kind: their depth, their weight, and the text that repr shows -/
namespace G
open PySem L2 PySem.Spec PyProof.Rows
mutual
def wt : D → Nat
  | .non => 4
  | .bl _ => 5
  | .int _ => 1921
  | .str s => (reprText s).length
  | .tup xs => wtL xs + 2
  | .fl xs => wtL xs + 2
  | .sc xs => wtL xs + 2
  | .fd ks vs => wtL ks + wtL vs + 7
  | .ref _ => 0
def wtL : List D → Nat
  | [] => 0
  | x :: xs => wt x + 2 + wtL xs
end
theorem wtL_len : ∀ xs : List D, 2 * xs.length ≤ wtL xs
  | [] => by simp [wtL]
  | x :: xs => by
    have := wtL_len xs
    simp only [wtL, List.length_cons]
    omega
/-- data: whole numbers up to B, at most k deep -/
inductive Kd (B : Nat) : Nat → D → Prop
  | non {k : Nat} : Kd B k .non
  | bl {k : Nat} (b : Bool) : Kd B k (.bl b)
  | int {k : Nat} {i : Int} : i.natAbs ≤ B → Kd B k (.int i)
  | str {k : Nat} {s : Str} : PyData.strOk s = true → Kd B k (.str s)
  | tup {k : Nat} {xs : List D} : (∀ x, x ∈ xs → Kd B k x) → Kd B (k + 1) (.tup xs)
  | fl {k : Nat} {xs : List D} : (∀ x, x ∈ xs → Kd B k x) → Kd B (k + 1) (.fl xs)
  | fd0 {k : Nat} : Kd B (k + 1) (.fd [] [])
  | fd1 {k : Nat} {a x : D} (h0 : isKt [a] = false) : Kd B k a → Kd B k x → Kd B (k + 1) (.fd [a] [x])
theorem Kd.mono {B C j k : Nat} {d : D} (h : Kd B j d) (hB : B ≤ C) (hk : j ≤ k) : Kd C k d := by
  induction h generalizing k with
  | non => exact .non
  | bl b => exact .bl b
  | int h => exact .int (Nat.le_trans h hB)
  | str h => exact .str h
  | tup h ih =>
    obtain ⟨k, rfl⟩ : ∃ q, k = q + 1 := ⟨k - 1, by omega⟩
    exact .tup fun x hx => ih x hx (by omega)
  | fl h ih =>
    obtain ⟨k, rfl⟩ : ∃ q, k = q + 1 := ⟨k - 1, by omega⟩
    exact .fl fun x hx => ih x hx (by omega)
  | fd0 =>
    obtain ⟨k, rfl⟩ : ∃ q, k = q + 1 := ⟨k - 1, by omega⟩
    exact .fd0
  | fd1 h0 h1 h2 ih1 ih2 =>
    obtain ⟨k, rfl⟩ : ∃ q, k = q + 1 := ⟨k - 1, by omega⟩
    exact .fd1 h0 (ih1 (by omega)) (ih2 (by omega))
def Qd (k w : Nat) (x : D) : Prop := ∃ p, (∀ m, pyQ m k x = some p) ∧ p.showable = true ∧ p.shown.length ≤ w
def QdL (k w : Nat) (xs : List D) : Prop := ∃ ps, (∀ m, mapO (pyQ m k) xs = some ps) ∧ PyData.showableAll ps = true ∧ piled (PyData.shownAll ps) ≤ w
theorem QdL.of {k : Nat} : ∀ {xs : List D}, (∀ x, x ∈ xs → Qd k (wt x) x) → QdL k (wtL xs) xs
  | [], _ => ⟨[], fun m => rfl, rfl, Nat.le_refl _⟩
  | x :: xs, h => by
    obtain ⟨p, h1, h2, h3⟩ := h x List.mem_cons_self
    obtain ⟨ps, h4, h5, h6⟩ := QdL.of (xs := xs) fun y hy => h y (List.mem_cons_of_mem _ hy)
    refine ⟨p :: ps, fun m => by simp only [mapO, h1, h4], by simp [PyData.showableAll, h2, h5], ?_⟩
    simp only [PyData.shownAll, piled_cons, wtL]
    omega
/-- data, with its weight -/
structure Th (B k w : Nat) (d : D) : Prop where
  dt : Kd B k d
  wg : G.wt d ≤ w
theorem Th.mono {B C j k v w : Nat} {d : D} (h : Th B j v d) (hB : B ≤ C) (hk : j ≤ k) (hw : v ≤ w) : Th C k w d := ⟨h.dt.mono hB hk, Nat.le_trans h.wg hw⟩
theorem Th.non {B k w : Nat} (h : 4 ≤ w := by decide) : Th B k w .non := ⟨.non, h⟩
theorem Th.bl {B k w : Nat} (b : Bool) (h : 5 ≤ w := by decide) : Th B k w (.bl b) := ⟨.bl b, h⟩
theorem Th.int {B k w : Nat} {i : Int} (hi : i.natAbs ≤ B) (h : 1921 ≤ w := by decide) : Th B k w (.int i) := ⟨.int hi, h⟩
theorem Th.tup {B k w : Nat} {xs : List D} (h : ∀ x, x ∈ xs → Kd B k x) (hw : wtL xs + 2 ≤ w) : Th B (k + 1) w (.tup xs) := ⟨.tup h, hw⟩
theorem Th.fl {B k w : Nat} {xs : List D} (h : ∀ x, x ∈ xs → Kd B k x) (hw : wtL xs + 2 ≤ w) : Th B (k + 1) w (.fl xs) := ⟨.fl h, hw⟩
/-- one item more around it -/
theorem Th.one {B k w : Nat} {d : D} (h : Th B k w d) : Th B (k + 1) (w + 4) (.tup [d]) := ⟨.tup (by simpa using h.dt), by
  have := h.wg
  simp only [G.wt, wtL]
  omega⟩
theorem Th.len {B k w : Nat} {xs : List D} (h : Th B k w (.tup xs)) : xs.length ≤ w := by
  have := wtL_len xs
  have := h.wg
  simp only [G.wt] at this
  omega
section
variable {xs ys : List D} {m : Hs} {Q : D → Hs → Prop} {a b : M D} {o : Op} {i j : Int} {p q : Bool} {x : D}
end
end G

set_option Elab.async false
set_option linter.all false
set_option maxRecDepth 100000
set_option maxHeartbeats 2000000
/-! the youngest dict with a handle: its rules, and what it holds -/
namespace G
open PySem
section
variable {m : Hs} {Q : D → Hs → Prop} {ks ds : List D} {x y z : D}
theorem get_newD {o : O} : (m ++ [o])[m.length]? = some o := by simp
theorem w_dnew : wp dnew m Q = Q (.ref m.length) (m ++ [.dct [] []]) := id rfl
theorem w_key {t : M (List D)} : wp (keyM t) m Q = wp t m fun xs m1 => xs.length ≤ sizeLine ∧ Q (.fd [.non] xs) m1 := by
  unfold keyM
  rw [wp_bnd]
  congr 1
  funext xs m1
  rw [wp_gd]
  rfl
theorem w_dget {a b : M D} : wp (dgetM a b) m Q = wp a m fun x m1 => wp b m1 fun y m2 => wp (dgetS x y) m2 Q := by
  unfold dgetM
  rw [wp_bnd]
  simp only [wp_bnd]
theorem w_dgetR : wp (dgetS (.ref m.length) y) (m ++ [.dct ks ds]) Q = (isKy y = true ∧ ∃ d, lookD ks ds y = some d ∧ Q d (m ++ [.dct ks ds])) := by
  unfold dgetS
  rw [wp_bnd, wp_ask]
  simp only [dctOf, get_newD, Option.some.injEq]
  by_cases h : isKy y = true
  · simp only [h, if_true, true_and, wp_bnd, wp_ask, wp_ret, exists_eq_left']
  · simp only [h, if_false, false_and, exists_eq_left', Bool.false_eq_true]
    rfl
theorem w_din {a b : M D} : wp (dinM a b) m Q = wp a m fun y m1 => wp b m1 fun x m2 => wp (dinS y x) m2 Q := by
  unfold dinM
  rw [wp_bnd]
  simp only [wp_bnd]
theorem w_dinR : wp (dinS y (.ref m.length)) (m ++ [.dct ks ds]) Q = (isKy y = true ∧ Q (.bl (lookD ks ds y).isSome) (m ++ [.dct ks ds])) := by
  unfold dinS
  rw [wp_bnd, wp_ask]
  simp only [dctOf, get_newD, Option.some.injEq]
  by_cases h : isKy y = true
  · simp only [h, if_true, true_and, wp_ret, exists_eq_left']
  · simp only [h, if_false, false_and, exists_eq_left', Bool.false_eq_true]
    rfl
theorem wp_dsub {a b : M D} {R : Unit → Hs → Prop} : wp (dsubT a b z) m R = wp a m fun x m1 => wp b m1 fun y m2 => wp (put (dputF x y z)) m2 R := by
  unfold dsubT
  rw [wp_bnd]
  simp only [wp_bnd]
theorem wp_dputR {R : Unit → Hs → Prop} : wp (put (dputF (.ref m.length) y z)) (m ++ [.dct ks ds]) R = (isKy y = true ∧ ks.length < sizeLine ∧ R () (m ++ [.dct (putE ks ds y z).1 (putE ks ds y z).2])) := by
  rw [wp_put]
  simp only [dputF, get_newD]
  by_cases h : isKy y = true ∧ ks.length < sizeLine
  · simp [h]
  · simp only [h, if_false, reduceCtorEq, false_and, exists_const]
    by_cases h1 : isKy y = true
    · simp only [h1, true_and] at h
      simp [h]
    · simp [h1]
end
/-! ### what a dict holds -/
theorem beqD_iff {a b : D} : beqD a b = true ↔ a = b := ⟨beqD_eq a b, fun h => by rw [h]; exact beqD_rfl b⟩
instance decD : DecidableEq D := fun a b => decidable_of_iff (beqD a b = true) beqD_iff
theorem hasD_iff {ks : List D} {k : D} : hasD ks k = true ↔ k ∈ ks := by
  unfold hasD
  rw [List.any_eq_true]
  constructor
  · rintro ⟨a, h1, h2⟩
    rw [← beqD_iff.1 h2]
    exact h1
  · exact fun h => ⟨k, h, beqD_rfl k⟩
theorem lookD_some : ∀ {ks ds : List D} {k : D}, ks.length = ds.length → k ∈ ks → ∃ d, lookD ks ds k = some d
  | a :: ks, v :: ds, k, hl, h => by
    by_cases h1 : beqD a k = true
    · exact ⟨v, by simp only [lookD, h1, if_true]⟩
    · simp only [lookD, h1, if_false]
      refine lookD_some (by simpa using hl) ?_
      rcases List.mem_cons.1 h with z | z
      · exact absurd (beqD_iff.2 z.symm) h1
      · exact z
theorem lookD_app : ∀ {ks ds : List D} {k j v : D}, ks.length = ds.length → k ∉ ks → lookD (ks ++ [k]) (ds ++ [v]) j = if k = j then some v else lookD ks ds j
  | [], [], k, j, v, _, _ => by
    by_cases h : k = j
    · simp [lookD, beqD_iff, h]
    · simp [lookD, beqD_iff, h]
  | a :: ks, w :: ds, k, j, v, hl, hn => by
    have ih := lookD_app (ks := ks) (ds := ds) (k := k) (j := j) (v := v) (by simpa using hl) fun z => hn (List.mem_cons_of_mem _ z)
    show (if beqD a j = true then some w else lookD (ks ++ [k]) (ds ++ [v]) j) = if k = j then some v else if beqD a j = true then some w else lookD ks ds j
    rw [ih]
    by_cases h1 : beqD a j = true
    · have h2 : ¬ k = j := fun z => hn (by rw [z, ← beqD_iff.1 h1]; exact List.mem_cons_self)
      simp only [h1, h2, if_true, if_false]
    · rw [if_neg h1, if_neg h1]
theorem lookD_putV : ∀ {ks ds : List D} {k j v : D}, ks.length = ds.length → lookD ks (putV ks ds k v) j = if k = j ∧ k ∈ ks then some v else lookD ks ds j
  | [], [], k, j, v, _ => by simp [lookD, putV]
  | a :: ks, w :: ds, k, j, v, hl => by
    have ih := lookD_putV (ks := ks) (ds := ds) (k := k) (j := j) (v := v) (by simpa using hl)
    show (if beqD a j = true then some (if beqD a k = true then v else w) else lookD ks (putV ks ds k v) j) = if k = j ∧ k ∈ a :: ks then some v else if beqD a j = true then some w else lookD ks ds j
    rw [ih]
    by_cases h1 : a = j
    · subst h1
      by_cases h2 : a = k
      · subst h2; simp [beqD_rfl]
      · have h3 : ¬ k = a := fun z => h2 z.symm
        simp [beqD_iff, h2, h3]
    · by_cases h2 : k = j
      · subst h2
        have h3 : ¬ k = a := fun z => h1 z.symm
        simp [beqD_iff, h1, h3]
      · simp [beqD_iff, h1, h2]
theorem putV_len : ∀ {ks ds : List D} {k v : D}, ks.length = ds.length → (putV ks ds k v).length = ks.length
  | [], [], _, _, _ => rfl
  | a :: ks, w :: ds, k, v, hl => by
    simp only [putV, List.length_cons]
    rw [putV_len (by simpa using hl)]
theorem lookD_put {ks ds : List D} {k j v : D} (hl : ks.length = ds.length) : lookD (putE ks ds k v).1 (putE ks ds k v).2 j = if k = j then some v else lookD ks ds j := by
  unfold putE
  by_cases h : hasD ks k = true
  · rw [if_pos h]
    show lookD ks (putV ks ds k v) j = _
    rw [lookD_putV hl]
    simp [hasD_iff.1 h]
  · rw [if_neg h]
    exact lookD_app hl fun z => h (hasD_iff.2 z)
theorem putE_len {ks ds : List D} {k v : D} (hl : ks.length = ds.length) : (putE ks ds k v).1.length = (putE ks ds k v).2.length := by
  unfold putE
  split
  · exact (putV_len hl).symm
  · simp [hl]
theorem putE_le {ks ds : List D} {k v : D} : (putE ks ds k v).1.length ≤ ks.length + 1 := by
  unfold putE
  split <;> simp
theorem putE_mem {ks ds : List D} {k v a : D} : a ∈ (putE ks ds k v).1 ↔ a ∈ ks ∨ a = k := by
  unfold putE
  split
  · rename_i h
    exact ⟨.inl, fun z => z.elim id fun z => by rw [z]; exact hasD_iff.1 h⟩
  · simp
/-- the key of a state -/
def stK (l s : Int) : D := .fd [.non] [.int l, .int s]
theorem stK_inj {l s l' s' : Int} : stK l s = stK l' s' ↔ l = l' ∧ s = s' := by simp [stK]
end G

set_option Elab.async false
set_option linter.all false
set_option maxRecDepth 100000
set_option maxHeartbeats 4000000
namespace G.K75
open PySem G
theorem below_wp {m : Hs} {n : Nat} {k many : Int} {Q : D → Hs → Prop} (hd : Dw m n k) (hk : k < 2 ^ 60) (h0 : 0 < many) (h1 : many < 2 ^ 200)
    (h : ∀ (v : Int) (o : O), 0 ≤ v → v < many → Dw (m.set n o) n (k + 1) → Q (.int v) (m.set n o)) : wp (t_law_below (.ref n) (.int many)) m Q := by
  obtain ⟨g, x, s, hm, hg, hx, hx2, hs, hsk⟩ := hd
  unfold t_law_below bd_law_below
  simp -failIfUnchanged only [↓ixr0 hm, ↓ixr1 hm, ↓ixr2 hm, ↓wp_subT, ↓itm0 hm, ↓itm2 hm, ↓ixr1 (hs_set hm), ↓wp_retE, ↓wp_bad, ↓wp_bnd, ↓wp_nxt, ↓wp_brk, ↓wp_cnt, ↓wp_rtn, ↓wp_seq, ↓wp_iff, ↓wp_fnM, ↓wp_binM, ↓wp_cmpM, ↓wp_idxM, ↓wp_negM, ↓wp_notM, ↓wp_andM, ↓wp_orM, ↓wp_iteM, ↓wp_chnM, ↓wp_chnS, ↓wp_ls0, ↓wp_ls1, ↓wp_tupM, ↓wp_lstM, ↓wp_lshM, ↓wp_ownM, ↓wp_idxL, ↓wp_slcM, ↓wp_noP, ↓wp_soP, ↓wp_calM, ↓wp_isiM, ↓wp_forM, ↓wp_seqI, ↓wp_rng1, ↓wp_rng2, ↓wp_enum, ↓wp_enum2, ↓enum2_t, ↓enum2_f, ↓wp_zip, ↓rng1_int, ↓rng2_int, ↓wp_lcM, ↓wp_lcO, ↓wp_appO, ↓wp_extO, ↓wp_fldM, ↓wp_fldT, ↓wp_mthM, ↓wp_makM, ↓wp_augF, ↓tpT2, ↓nonS_non, ↓wp_subT, ↓w_add, ↓w_sub, ↓w_mul, ↓w_fdiv, ↓w_mod, ↓w_pow, ↓w_shl, ↓w_addT, ↓w_addL, ↓w_lt, ↓w_le, ↓w_gt, ↓w_ge, ↓w_eqI, ↓w_neI, ↓w_eqS, ↓w_neS, ↓w_isN, ↓w_ntN, ↓w_isI, ↓w_ntI, ↓w_isT, ↓w_ntT, ↓w_isF, ↓w_ntF, ↓w_isR, ↓w_ntR, ↓w_isB, ↓w_ntB, ↓w_isS, ↓w_ntS, ↓w_trB, ↓w_trI, ↓w_trN, ↓w_trT, ↓w_trF, ↓w_ixT0, ↓w_ixT1, ↓w_ixT2, ↓w_ixT3, ↓w_ixF0, ↓w_ixF1, ↓w_ixF2, ↓w_ixF3, ↓w_ixS0, ↓w_ixS1, ↓w_ixS2, ↓w_ixS3, ↓w_idL, ↓w_neg, ↓w_slT, ↓w_slF, ↓w_soP, ↓w_lenT, ↓w_lenF, ↓w_lenS, ↓w_abs, ↓w_min, ↓w_max, ↓w_intI, ↓w_intB, ↓w_tupT, ↓w_tupF, ↓w_lstT, ↓w_lstF, ↓w_sum, ↓w_all, ↓w_any, ↓w_is_int_N, ↓w_is_int_B, ↓w_is_int_I, ↓w_is_int_S, ↓w_is_int_T, ↓w_is_int_F, ↓w_is_bl_N, ↓w_is_bl_B, ↓w_is_bl_I, ↓w_is_bl_S, ↓w_is_bl_T, ↓w_is_bl_F, ↓w_is_tup_N, ↓w_is_tup_B, ↓w_is_tup_I, ↓w_is_tup_S, ↓w_is_tup_T, ↓w_is_tup_F, ↓w_is_str_N, ↓w_is_str_B, ↓w_is_str_I, ↓w_is_str_S, ↓w_is_str_T, ↓w_is_str_F, ↓w_is_lst_N, ↓w_is_lst_B, ↓w_is_lst_I, ↓w_is_lst_S, ↓w_is_lst_T, ↓w_is_lst_F, ↓w_guT, ↓w_guF, ↓w_guS, ↓w_lsF, ↓w_enT, ↓w_enF, ↓w_zpT, ↓w_zpF, ↓w_gadd, ↓w_gsub, ↓w_fs1, ↓w_fs2, ↓w_fs3, ↓w_fs4, ↓w_fs5, ↓w_fs6, ↓w_un2, ↓w_un3, ↓w_un4, ↓w_goN, ↓w_goR, ↓w_goB, ↓w_goC, ↓w_feN, ↓w_feR, ↓w_repr, true_and, and_true, and_self, if_true, if_false, Bool.false_eq_true, Bool.not_true, Bool.not_false, decide_true, decide_false, ↓wp_calK, ↓kw_03, ↓kw_02, ↓kw_01, ↓pick_210, ↓pick_10, ↓pick_01, ↓pick_0, ↓w_sumF, ↓w_sumT, ↓w_srt, ↓w_maxL, ↓w_minL, ↓wp_starM, ↓wp_consM, ↓w_itT, ↓w_itF, ↓wp_rl2M, ↓wp_rl1M, ↓w_rl, ↓wp_dn3I, ↓w_dn3, ↓wp_mulTM, ↓w_mulT, ↓wp_niDM, ↓wp_inDM, ↓wp_zpM, ↓w_zpFF, ↓wp_isBM, ↓wp_nsBM, ↓w_isBB, ↓w_nsBB, ↓wp_catO, ↓w_catF, ↓kw_04, ↓pick_3210]
  by_cases hgz : 0 < g
  · simp -failIfUnchanged only [hgz, ↓ixr0 hm, ↓itm0 hm, ↓wp_subT, ↓wp_retE, ↓wp_bad, ↓wp_bnd, ↓wp_nxt, ↓wp_brk, ↓wp_cnt, ↓wp_rtn, ↓wp_seq, ↓wp_iff, ↓wp_fnM, ↓wp_binM, ↓wp_cmpM, ↓wp_idxM, ↓wp_negM, ↓wp_notM, ↓wp_andM, ↓wp_orM, ↓wp_iteM, ↓wp_chnM, ↓wp_chnS, ↓wp_ls0, ↓wp_ls1, ↓wp_tupM, ↓wp_lstM, ↓wp_lshM, ↓wp_ownM, ↓wp_idxL, ↓wp_slcM, ↓wp_noP, ↓wp_soP, ↓wp_calM, ↓wp_isiM, ↓wp_forM, ↓wp_seqI, ↓wp_rng1, ↓wp_rng2, ↓wp_enum, ↓wp_enum2, ↓enum2_t, ↓enum2_f, ↓wp_zip, ↓rng1_int, ↓rng2_int, ↓wp_lcM, ↓wp_lcO, ↓wp_appO, ↓wp_extO, ↓wp_fldM, ↓wp_fldT, ↓wp_mthM, ↓wp_makM, ↓wp_augF, ↓tpT2, ↓nonS_non, ↓wp_subT, ↓w_add, ↓w_sub, ↓w_mul, ↓w_fdiv, ↓w_mod, ↓w_pow, ↓w_shl, ↓w_addT, ↓w_addL, ↓w_lt, ↓w_le, ↓w_gt, ↓w_ge, ↓w_eqI, ↓w_neI, ↓w_eqS, ↓w_neS, ↓w_isN, ↓w_ntN, ↓w_isI, ↓w_ntI, ↓w_isT, ↓w_ntT, ↓w_isF, ↓w_ntF, ↓w_isR, ↓w_ntR, ↓w_isB, ↓w_ntB, ↓w_isS, ↓w_ntS, ↓w_trB, ↓w_trI, ↓w_trN, ↓w_trT, ↓w_trF, ↓w_ixT0, ↓w_ixT1, ↓w_ixT2, ↓w_ixT3, ↓w_ixF0, ↓w_ixF1, ↓w_ixF2, ↓w_ixF3, ↓w_ixS0, ↓w_ixS1, ↓w_ixS2, ↓w_ixS3, ↓w_idL, ↓w_neg, ↓w_slT, ↓w_slF, ↓w_soP, ↓w_lenT, ↓w_lenF, ↓w_lenS, ↓w_abs, ↓w_min, ↓w_max, ↓w_intI, ↓w_intB, ↓w_tupT, ↓w_tupF, ↓w_lstT, ↓w_lstF, ↓w_sum, ↓w_all, ↓w_any, ↓w_is_int_N, ↓w_is_int_B, ↓w_is_int_I, ↓w_is_int_S, ↓w_is_int_T, ↓w_is_int_F, ↓w_is_bl_N, ↓w_is_bl_B, ↓w_is_bl_I, ↓w_is_bl_S, ↓w_is_bl_T, ↓w_is_bl_F, ↓w_is_tup_N, ↓w_is_tup_B, ↓w_is_tup_I, ↓w_is_tup_S, ↓w_is_tup_T, ↓w_is_tup_F, ↓w_is_str_N, ↓w_is_str_B, ↓w_is_str_I, ↓w_is_str_S, ↓w_is_str_T, ↓w_is_str_F, ↓w_is_lst_N, ↓w_is_lst_B, ↓w_is_lst_I, ↓w_is_lst_S, ↓w_is_lst_T, ↓w_is_lst_F, ↓w_guT, ↓w_guF, ↓w_guS, ↓w_lsF, ↓w_enT, ↓w_enF, ↓w_zpT, ↓w_zpF, ↓w_gadd, ↓w_gsub, ↓w_fs1, ↓w_fs2, ↓w_fs3, ↓w_fs4, ↓w_fs5, ↓w_fs6, ↓w_un2, ↓w_un3, ↓w_un4, ↓w_goN, ↓w_goR, ↓w_goB, ↓w_goC, ↓w_feN, ↓w_feR, ↓w_repr, true_and, and_true, and_self, if_true, if_false, Bool.false_eq_true, Bool.not_true, Bool.not_false, decide_true, decide_false, ↓wp_calK, ↓kw_03, ↓kw_02, ↓kw_01, ↓pick_210, ↓pick_10, ↓pick_01, ↓pick_0, ↓w_sumF, ↓w_sumT, ↓w_srt, ↓w_maxL, ↓w_minL, ↓wp_starM, ↓wp_consM, ↓w_itT, ↓w_itF, ↓wp_rl2M, ↓wp_rl1M, ↓w_rl, ↓wp_dn3I, ↓w_dn3, ↓wp_mulTM, ↓w_mulT, ↓wp_niDM, ↓wp_inDM, ↓wp_zpM, ↓w_zpFF, ↓wp_isBM, ↓wp_nsBM, ↓w_isBB, ↓w_nsBB, ↓wp_catO, ↓w_catF, ↓kw_04, ↓pick_3210]
    refine ⟨h0, div_ok h0 h1, ?_⟩
    refine h _ _ (Int.emod_nonneg _ (by omega)) (Int.emod_lt_of_pos _ h0) ⟨g / many, x, s, hs_set hm, Int.ediv_nonneg hg (by omega), hx, hx2, hs, by omega⟩
  · simp -failIfUnchanged only [hgz, ↓ixr1 hm, ↓ixr2 hm, ↓wp_subT, ↓itm2 hm, ↓ixr1 (hs_set hm), ↓wp_retE, ↓wp_bad, ↓wp_bnd, ↓wp_nxt, ↓wp_brk, ↓wp_cnt, ↓wp_rtn, ↓wp_seq, ↓wp_iff, ↓wp_fnM, ↓wp_binM, ↓wp_cmpM, ↓wp_idxM, ↓wp_negM, ↓wp_notM, ↓wp_andM, ↓wp_orM, ↓wp_iteM, ↓wp_chnM, ↓wp_chnS, ↓wp_ls0, ↓wp_ls1, ↓wp_tupM, ↓wp_lstM, ↓wp_lshM, ↓wp_ownM, ↓wp_idxL, ↓wp_slcM, ↓wp_noP, ↓wp_soP, ↓wp_calM, ↓wp_isiM, ↓wp_forM, ↓wp_seqI, ↓wp_rng1, ↓wp_rng2, ↓wp_enum, ↓wp_enum2, ↓enum2_t, ↓enum2_f, ↓wp_zip, ↓rng1_int, ↓rng2_int, ↓wp_lcM, ↓wp_lcO, ↓wp_appO, ↓wp_extO, ↓wp_fldM, ↓wp_fldT, ↓wp_mthM, ↓wp_makM, ↓wp_augF, ↓tpT2, ↓nonS_non, ↓wp_subT, ↓w_add, ↓w_sub, ↓w_mul, ↓w_fdiv, ↓w_mod, ↓w_pow, ↓w_shl, ↓w_addT, ↓w_addL, ↓w_lt, ↓w_le, ↓w_gt, ↓w_ge, ↓w_eqI, ↓w_neI, ↓w_eqS, ↓w_neS, ↓w_isN, ↓w_ntN, ↓w_isI, ↓w_ntI, ↓w_isT, ↓w_ntT, ↓w_isF, ↓w_ntF, ↓w_isR, ↓w_ntR, ↓w_isB, ↓w_ntB, ↓w_isS, ↓w_ntS, ↓w_trB, ↓w_trI, ↓w_trN, ↓w_trT, ↓w_trF, ↓w_ixT0, ↓w_ixT1, ↓w_ixT2, ↓w_ixT3, ↓w_ixF0, ↓w_ixF1, ↓w_ixF2, ↓w_ixF3, ↓w_ixS0, ↓w_ixS1, ↓w_ixS2, ↓w_ixS3, ↓w_idL, ↓w_neg, ↓w_slT, ↓w_slF, ↓w_soP, ↓w_lenT, ↓w_lenF, ↓w_lenS, ↓w_abs, ↓w_min, ↓w_max, ↓w_intI, ↓w_intB, ↓w_tupT, ↓w_tupF, ↓w_lstT, ↓w_lstF, ↓w_sum, ↓w_all, ↓w_any, ↓w_is_int_N, ↓w_is_int_B, ↓w_is_int_I, ↓w_is_int_S, ↓w_is_int_T, ↓w_is_int_F, ↓w_is_bl_N, ↓w_is_bl_B, ↓w_is_bl_I, ↓w_is_bl_S, ↓w_is_bl_T, ↓w_is_bl_F, ↓w_is_tup_N, ↓w_is_tup_B, ↓w_is_tup_I, ↓w_is_tup_S, ↓w_is_tup_T, ↓w_is_tup_F, ↓w_is_str_N, ↓w_is_str_B, ↓w_is_str_I, ↓w_is_str_S, ↓w_is_str_T, ↓w_is_str_F, ↓w_is_lst_N, ↓w_is_lst_B, ↓w_is_lst_I, ↓w_is_lst_S, ↓w_is_lst_T, ↓w_is_lst_F, ↓w_guT, ↓w_guF, ↓w_guS, ↓w_lsF, ↓w_enT, ↓w_enF, ↓w_zpT, ↓w_zpF, ↓w_gadd, ↓w_gsub, ↓w_fs1, ↓w_fs2, ↓w_fs3, ↓w_fs4, ↓w_fs5, ↓w_fs6, ↓w_un2, ↓w_un3, ↓w_un4, ↓w_goN, ↓w_goR, ↓w_goB, ↓w_goC, ↓w_feN, ↓w_feR, ↓w_repr, true_and, and_true, and_self, if_true, if_false, Bool.false_eq_true, Bool.not_true, Bool.not_false, decide_true, decide_false, ↓wp_calK, ↓kw_03, ↓kw_02, ↓kw_01, ↓pick_210, ↓pick_10, ↓pick_01, ↓pick_0, ↓w_sumF, ↓w_sumT, ↓w_srt, ↓w_maxL, ↓w_minL, ↓wp_starM, ↓wp_consM, ↓w_itT, ↓w_itF, ↓wp_rl2M, ↓wp_rl1M, ↓w_rl, ↓wp_dn3I, ↓w_dn3, ↓wp_mulTM, ↓w_mulT, ↓wp_niDM, ↓wp_inDM, ↓wp_zpM, ↓w_zpFF, ↓wp_isBM, ↓wp_nsBM, ↓w_isBB, ↓w_nsBB, ↓wp_catO, ↓w_catF, ↓kw_04, ↓pick_3210]
    refine ⟨sz_le (by decide), by decide, ?_⟩
    have hr := mod2 (a := s + 1) (b := 4) (by decide)
    refine ix_one (ns := [2305843009213693951, 999999999989, 1000000000039, 67280421310721]) (P := fun p => 0 < p ∧ p < 2 ^ 62) hr.1 (by simpa using hr.2) (by decide) fun p _ hp => ?_
    have hm2 := hs_set (o := .lst [.int g, .int x, .int (s + 1)]) hm
    have q1 : (7919 * (s + 1)).natAbs.log2 + (s + 1).natAbs.log2 < 1000000 := mul_ok (by omega) (by omega) (by omega) (by omega)
    simp -failIfUnchanged only [↓ixr1 hm2, ↓wp_retE, ↓wp_bad, ↓wp_bnd, ↓wp_nxt, ↓wp_brk, ↓wp_cnt, ↓wp_rtn, ↓wp_seq, ↓wp_iff, ↓wp_fnM, ↓wp_binM, ↓wp_cmpM, ↓wp_idxM, ↓wp_negM, ↓wp_notM, ↓wp_andM, ↓wp_orM, ↓wp_iteM, ↓wp_chnM, ↓wp_chnS, ↓wp_ls0, ↓wp_ls1, ↓wp_tupM, ↓wp_lstM, ↓wp_lshM, ↓wp_ownM, ↓wp_idxL, ↓wp_slcM, ↓wp_noP, ↓wp_soP, ↓wp_calM, ↓wp_isiM, ↓wp_forM, ↓wp_seqI, ↓wp_rng1, ↓wp_rng2, ↓wp_enum, ↓wp_enum2, ↓enum2_t, ↓enum2_f, ↓wp_zip, ↓rng1_int, ↓rng2_int, ↓wp_lcM, ↓wp_lcO, ↓wp_appO, ↓wp_extO, ↓wp_fldM, ↓wp_fldT, ↓wp_mthM, ↓wp_makM, ↓wp_augF, ↓tpT2, ↓nonS_non, ↓wp_subT, ↓w_add, ↓w_sub, ↓w_mul, ↓w_fdiv, ↓w_mod, ↓w_pow, ↓w_shl, ↓w_addT, ↓w_addL, ↓w_lt, ↓w_le, ↓w_gt, ↓w_ge, ↓w_eqI, ↓w_neI, ↓w_eqS, ↓w_neS, ↓w_isN, ↓w_ntN, ↓w_isI, ↓w_ntI, ↓w_isT, ↓w_ntT, ↓w_isF, ↓w_ntF, ↓w_isR, ↓w_ntR, ↓w_isB, ↓w_ntB, ↓w_isS, ↓w_ntS, ↓w_trB, ↓w_trI, ↓w_trN, ↓w_trT, ↓w_trF, ↓w_ixT0, ↓w_ixT1, ↓w_ixT2, ↓w_ixT3, ↓w_ixF0, ↓w_ixF1, ↓w_ixF2, ↓w_ixF3, ↓w_ixS0, ↓w_ixS1, ↓w_ixS2, ↓w_ixS3, ↓w_idL, ↓w_neg, ↓w_slT, ↓w_slF, ↓w_soP, ↓w_lenT, ↓w_lenF, ↓w_lenS, ↓w_abs, ↓w_min, ↓w_max, ↓w_intI, ↓w_intB, ↓w_tupT, ↓w_tupF, ↓w_lstT, ↓w_lstF, ↓w_sum, ↓w_all, ↓w_any, ↓w_is_int_N, ↓w_is_int_B, ↓w_is_int_I, ↓w_is_int_S, ↓w_is_int_T, ↓w_is_int_F, ↓w_is_bl_N, ↓w_is_bl_B, ↓w_is_bl_I, ↓w_is_bl_S, ↓w_is_bl_T, ↓w_is_bl_F, ↓w_is_tup_N, ↓w_is_tup_B, ↓w_is_tup_I, ↓w_is_tup_S, ↓w_is_tup_T, ↓w_is_tup_F, ↓w_is_str_N, ↓w_is_str_B, ↓w_is_str_I, ↓w_is_str_S, ↓w_is_str_T, ↓w_is_str_F, ↓w_is_lst_N, ↓w_is_lst_B, ↓w_is_lst_I, ↓w_is_lst_S, ↓w_is_lst_T, ↓w_is_lst_F, ↓w_guT, ↓w_guF, ↓w_guS, ↓w_lsF, ↓w_enT, ↓w_enF, ↓w_zpT, ↓w_zpF, ↓w_gadd, ↓w_gsub, ↓w_fs1, ↓w_fs2, ↓w_fs3, ↓w_fs4, ↓w_fs5, ↓w_fs6, ↓w_un2, ↓w_un3, ↓w_un4, ↓w_goN, ↓w_goR, ↓w_goB, ↓w_goC, ↓w_feN, ↓w_feR, ↓w_repr, true_and, and_true, and_self, if_true, if_false, Bool.false_eq_true, Bool.not_true, Bool.not_false, decide_true, decide_false, ↓wp_calK, ↓kw_03, ↓kw_02, ↓kw_01, ↓pick_210, ↓pick_10, ↓pick_01, ↓pick_0, ↓w_sumF, ↓w_sumT, ↓w_srt, ↓w_maxL, ↓w_minL, ↓wp_starM, ↓wp_consM, ↓w_itT, ↓w_itF, ↓wp_rl2M, ↓wp_rl1M, ↓w_rl, ↓wp_dn3I, ↓w_dn3, ↓wp_mulTM, ↓w_mulT, ↓wp_niDM, ↓wp_inDM, ↓wp_zpM, ↓w_zpFF, ↓wp_isBM, ↓wp_nsBM, ↓w_isBB, ↓w_nsBB, ↓wp_catO, ↓w_catF, ↓kw_04, ↓pick_3210]
    refine ⟨mul_ok (by decide) (by decide) (by omega) (by omega), q1, mul_ok (by decide) (by decide) (by omega) (by omega), hp.1, ?_⟩
    have a1 := mod2 (a := x + 7919 * (s + 1) * (s + 1) + 65537 * (s + 1)) hp.1
    refine ⟨pow_ok (k := 62) (Bd.of (by omega) (by omega)) (by decide) (by decide), hp.1, ?_⟩
    generalize (x + 7919 * (s + 1) * (s + 1) + 65537 * (s + 1)) % p = y at a1
    have a2 := mod2 (a := y ^ (5 : Int).toNat) hp.1
    generalize (y ^ (5 : Int).toNat) % p = z at a2
    refine ⟨div_ok (by decide) (by decide), div_ok (by decide) (by decide), mul_ok (by omega) (by omega) (by decide) (by decide), h0, ?_⟩
    have a3 := mod2 (a := z / 4099 + z / 1000003 * 7) h0
    exact h _ _ a3.1 a3.2 ⟨g, x, s + 1, hm2, hg, hx, hx2, by omega, by omega⟩
/-- one of some things -/
theorem pick_wp {m : Hs} {n : Nat} {k : Int} {xs : List D} {Q : D → Hs → Prop} (hd : Dw m n k) (hk : k < 2 ^ 60) (h0 : 0 < xs.length) (h1 : xs.length < 16777216)
    (h : ∀ (x : D) (o : O), x ∈ xs → Dw (m.set n o) n (k + 1) → Q x (m.set n o)) : wp (t_law_pick (.ref n) (.fl xs)) m Q := by
  unfold t_law_pick bd_law_pick
  simp -failIfUnchanged only [↓wp_retE, ↓wp_bad, ↓wp_bnd, ↓wp_nxt, ↓wp_brk, ↓wp_cnt, ↓wp_rtn, ↓wp_seq, ↓wp_iff, ↓wp_fnM, ↓wp_binM, ↓wp_cmpM, ↓wp_idxM, ↓wp_negM, ↓wp_notM, ↓wp_andM, ↓wp_orM, ↓wp_iteM, ↓wp_chnM, ↓wp_chnS, ↓wp_ls0, ↓wp_ls1, ↓wp_tupM, ↓wp_lstM, ↓wp_lshM, ↓wp_ownM, ↓wp_idxL, ↓wp_slcM, ↓wp_noP, ↓wp_soP, ↓wp_calM, ↓wp_isiM, ↓wp_forM, ↓wp_seqI, ↓wp_rng1, ↓wp_rng2, ↓wp_enum, ↓wp_enum2, ↓enum2_t, ↓enum2_f, ↓wp_zip, ↓rng1_int, ↓rng2_int, ↓wp_lcM, ↓wp_lcO, ↓wp_appO, ↓wp_extO, ↓wp_fldM, ↓wp_fldT, ↓wp_mthM, ↓wp_makM, ↓wp_augF, ↓tpT2, ↓nonS_non, ↓wp_subT, ↓w_add, ↓w_sub, ↓w_mul, ↓w_fdiv, ↓w_mod, ↓w_pow, ↓w_shl, ↓w_addT, ↓w_addL, ↓w_lt, ↓w_le, ↓w_gt, ↓w_ge, ↓w_eqI, ↓w_neI, ↓w_eqS, ↓w_neS, ↓w_isN, ↓w_ntN, ↓w_isI, ↓w_ntI, ↓w_isT, ↓w_ntT, ↓w_isF, ↓w_ntF, ↓w_isR, ↓w_ntR, ↓w_isB, ↓w_ntB, ↓w_isS, ↓w_ntS, ↓w_trB, ↓w_trI, ↓w_trN, ↓w_trT, ↓w_trF, ↓w_ixT0, ↓w_ixT1, ↓w_ixT2, ↓w_ixT3, ↓w_ixF0, ↓w_ixF1, ↓w_ixF2, ↓w_ixF3, ↓w_ixS0, ↓w_ixS1, ↓w_ixS2, ↓w_ixS3, ↓w_idL, ↓w_neg, ↓w_slT, ↓w_slF, ↓w_soP, ↓w_lenT, ↓w_lenF, ↓w_lenS, ↓w_abs, ↓w_min, ↓w_max, ↓w_intI, ↓w_intB, ↓w_tupT, ↓w_tupF, ↓w_lstT, ↓w_lstF, ↓w_sum, ↓w_all, ↓w_any, ↓w_is_int_N, ↓w_is_int_B, ↓w_is_int_I, ↓w_is_int_S, ↓w_is_int_T, ↓w_is_int_F, ↓w_is_bl_N, ↓w_is_bl_B, ↓w_is_bl_I, ↓w_is_bl_S, ↓w_is_bl_T, ↓w_is_bl_F, ↓w_is_tup_N, ↓w_is_tup_B, ↓w_is_tup_I, ↓w_is_tup_S, ↓w_is_tup_T, ↓w_is_tup_F, ↓w_is_str_N, ↓w_is_str_B, ↓w_is_str_I, ↓w_is_str_S, ↓w_is_str_T, ↓w_is_str_F, ↓w_is_lst_N, ↓w_is_lst_B, ↓w_is_lst_I, ↓w_is_lst_S, ↓w_is_lst_T, ↓w_is_lst_F, ↓w_guT, ↓w_guF, ↓w_guS, ↓w_lsF, ↓w_enT, ↓w_enF, ↓w_zpT, ↓w_zpF, ↓w_gadd, ↓w_gsub, ↓w_fs1, ↓w_fs2, ↓w_fs3, ↓w_fs4, ↓w_fs5, ↓w_fs6, ↓w_un2, ↓w_un3, ↓w_un4, ↓w_goN, ↓w_goR, ↓w_goB, ↓w_goC, ↓w_feN, ↓w_feR, ↓w_repr, true_and, and_true, and_self, if_true, if_false, Bool.false_eq_true, Bool.not_true, Bool.not_false, decide_true, decide_false, ↓wp_calK, ↓kw_03, ↓kw_02, ↓kw_01, ↓pick_210, ↓pick_10, ↓pick_01, ↓pick_0, ↓w_sumF, ↓w_sumT, ↓w_srt, ↓w_maxL, ↓w_minL, ↓wp_starM, ↓wp_consM, ↓w_itT, ↓w_itF, ↓wp_rl2M, ↓wp_rl1M, ↓w_rl, ↓wp_dn3I, ↓w_dn3, ↓wp_mulTM, ↓w_mulT, ↓wp_niDM, ↓wp_inDM, ↓wp_zpM, ↓w_zpFF, ↓wp_isBM, ↓wp_nsBM, ↓w_isBB, ↓w_nsBB, ↓wp_catO, ↓w_catF, ↓kw_04, ↓pick_3210]
  refine below_wp hd hk (by omega) (by omega) fun v o hv0 hv1 hd' => ?_
  exact ix_any hv0 hv1 fun x hx => h x o hx hd'
theorem draws_wp {m : Hs} {ns : List Int} {k : Nat} {Q : D → Hs → Prop} (hk : k < 100) (h : ∀ o : O, Dw (m ++ [o]) m.length 0 → Q (.ref m.length) (m ++ [o])) : wp (t_law_draws (.sc (ns.map .int)) (.int k)) m Q := by
  unfold t_law_draws bd_law_draws
  rw [wp_fnM, wp_bnd]
  refine wp_imp (Q := fun d m' => ∃ cell : Int, d = .int cell ∧ m' = m) ?_ ?_
  · simp -failIfUnchanged only [List.length_map, ↓wp_retE, ↓wp_bad, ↓wp_bnd, ↓wp_nxt, ↓wp_brk, ↓wp_cnt, ↓wp_rtn, ↓wp_seq, ↓wp_iff, ↓wp_fnM, ↓wp_binM, ↓wp_cmpM, ↓wp_idxM, ↓wp_negM, ↓wp_notM, ↓wp_andM, ↓wp_orM, ↓wp_iteM, ↓wp_chnM, ↓wp_chnS, ↓wp_ls0, ↓wp_ls1, ↓wp_tupM, ↓wp_lstM, ↓wp_lshM, ↓wp_ownM, ↓wp_idxL, ↓wp_slcM, ↓wp_noP, ↓wp_soP, ↓wp_calM, ↓wp_isiM, ↓wp_forM, ↓wp_seqI, ↓wp_rng1, ↓wp_rng2, ↓wp_enum, ↓wp_enum2, ↓enum2_t, ↓enum2_f, ↓wp_zip, ↓rng1_int, ↓rng2_int, ↓wp_lcM, ↓wp_lcO, ↓wp_appO, ↓wp_extO, ↓wp_fldM, ↓wp_fldT, ↓wp_mthM, ↓wp_makM, ↓wp_augF, ↓tpT2, ↓nonS_non, ↓wp_subT, ↓w_add, ↓w_sub, ↓w_mul, ↓w_fdiv, ↓w_mod, ↓w_pow, ↓w_shl, ↓w_addT, ↓w_addL, ↓w_lt, ↓w_le, ↓w_gt, ↓w_ge, ↓w_eqI, ↓w_neI, ↓w_eqS, ↓w_neS, ↓w_isN, ↓w_ntN, ↓w_isI, ↓w_ntI, ↓w_isT, ↓w_ntT, ↓w_isF, ↓w_ntF, ↓w_isR, ↓w_ntR, ↓w_isB, ↓w_ntB, ↓w_isS, ↓w_ntS, ↓w_trB, ↓w_trI, ↓w_trN, ↓w_trT, ↓w_trF, ↓w_ixT0, ↓w_ixT1, ↓w_ixT2, ↓w_ixT3, ↓w_ixF0, ↓w_ixF1, ↓w_ixF2, ↓w_ixF3, ↓w_ixS0, ↓w_ixS1, ↓w_ixS2, ↓w_ixS3, ↓w_idL, ↓w_neg, ↓w_slT, ↓w_slF, ↓w_soP, ↓w_lenT, ↓w_lenF, ↓w_lenS, ↓w_abs, ↓w_min, ↓w_max, ↓w_intI, ↓w_intB, ↓w_tupT, ↓w_tupF, ↓w_lstT, ↓w_lstF, ↓w_sum, ↓w_all, ↓w_any, ↓w_is_int_N, ↓w_is_int_B, ↓w_is_int_I, ↓w_is_int_S, ↓w_is_int_T, ↓w_is_int_F, ↓w_is_bl_N, ↓w_is_bl_B, ↓w_is_bl_I, ↓w_is_bl_S, ↓w_is_bl_T, ↓w_is_bl_F, ↓w_is_tup_N, ↓w_is_tup_B, ↓w_is_tup_I, ↓w_is_tup_S, ↓w_is_tup_T, ↓w_is_tup_F, ↓w_is_str_N, ↓w_is_str_B, ↓w_is_str_I, ↓w_is_str_S, ↓w_is_str_T, ↓w_is_str_F, ↓w_is_lst_N, ↓w_is_lst_B, ↓w_is_lst_I, ↓w_is_lst_S, ↓w_is_lst_T, ↓w_is_lst_F, ↓w_guT, ↓w_guF, ↓w_guS, ↓w_lsF, ↓w_enT, ↓w_enF, ↓w_zpT, ↓w_zpF, ↓w_gadd, ↓w_gsub, ↓w_fs1, ↓w_fs2, ↓w_fs3, ↓w_fs4, ↓w_fs5, ↓w_fs6, ↓w_un2, ↓w_un3, ↓w_un4, ↓w_goN, ↓w_goR, ↓w_goB, ↓w_goC, ↓w_feN, ↓w_feR, ↓w_repr, true_and, and_true, and_self, if_true, if_false, Bool.false_eq_true, Bool.not_true, Bool.not_false, decide_true, decide_false, ↓wp_calK, ↓kw_03, ↓kw_02, ↓kw_01, ↓pick_210, ↓pick_10, ↓pick_01, ↓pick_0, ↓w_sumF, ↓w_sumT, ↓w_srt, ↓w_maxL, ↓w_minL, ↓wp_starM, ↓wp_consM, ↓w_itT, ↓w_itF, ↓wp_rl2M, ↓wp_rl1M, ↓w_rl, ↓wp_dn3I, ↓w_dn3, ↓wp_mulTM, ↓w_mulT, ↓wp_niDM, ↓wp_inDM, ↓wp_zpM, ↓w_zpFF, ↓wp_isBM, ↓wp_nsBM, ↓w_isBB, ↓w_nsBB, ↓wp_catO, ↓w_catF, ↓kw_04, ↓pick_3210]
    by_cases hl : (k : Int) < ns.length
    · simp -failIfUnchanged only [hl, ↓wp_retE, ↓wp_bad, ↓wp_bnd, ↓wp_nxt, ↓wp_brk, ↓wp_cnt, ↓wp_rtn, ↓wp_seq, ↓wp_iff, ↓wp_fnM, ↓wp_binM, ↓wp_cmpM, ↓wp_idxM, ↓wp_negM, ↓wp_notM, ↓wp_andM, ↓wp_orM, ↓wp_iteM, ↓wp_chnM, ↓wp_chnS, ↓wp_ls0, ↓wp_ls1, ↓wp_tupM, ↓wp_lstM, ↓wp_lshM, ↓wp_ownM, ↓wp_idxL, ↓wp_slcM, ↓wp_noP, ↓wp_soP, ↓wp_calM, ↓wp_isiM, ↓wp_forM, ↓wp_seqI, ↓wp_rng1, ↓wp_rng2, ↓wp_enum, ↓wp_enum2, ↓enum2_t, ↓enum2_f, ↓wp_zip, ↓rng1_int, ↓rng2_int, ↓wp_lcM, ↓wp_lcO, ↓wp_appO, ↓wp_extO, ↓wp_fldM, ↓wp_fldT, ↓wp_mthM, ↓wp_makM, ↓wp_augF, ↓tpT2, ↓nonS_non, ↓wp_subT, ↓w_add, ↓w_sub, ↓w_mul, ↓w_fdiv, ↓w_mod, ↓w_pow, ↓w_shl, ↓w_addT, ↓w_addL, ↓w_lt, ↓w_le, ↓w_gt, ↓w_ge, ↓w_eqI, ↓w_neI, ↓w_eqS, ↓w_neS, ↓w_isN, ↓w_ntN, ↓w_isI, ↓w_ntI, ↓w_isT, ↓w_ntT, ↓w_isF, ↓w_ntF, ↓w_isR, ↓w_ntR, ↓w_isB, ↓w_ntB, ↓w_isS, ↓w_ntS, ↓w_trB, ↓w_trI, ↓w_trN, ↓w_trT, ↓w_trF, ↓w_ixT0, ↓w_ixT1, ↓w_ixT2, ↓w_ixT3, ↓w_ixF0, ↓w_ixF1, ↓w_ixF2, ↓w_ixF3, ↓w_ixS0, ↓w_ixS1, ↓w_ixS2, ↓w_ixS3, ↓w_idL, ↓w_neg, ↓w_slT, ↓w_slF, ↓w_soP, ↓w_lenT, ↓w_lenF, ↓w_lenS, ↓w_abs, ↓w_min, ↓w_max, ↓w_intI, ↓w_intB, ↓w_tupT, ↓w_tupF, ↓w_lstT, ↓w_lstF, ↓w_sum, ↓w_all, ↓w_any, ↓w_is_int_N, ↓w_is_int_B, ↓w_is_int_I, ↓w_is_int_S, ↓w_is_int_T, ↓w_is_int_F, ↓w_is_bl_N, ↓w_is_bl_B, ↓w_is_bl_I, ↓w_is_bl_S, ↓w_is_bl_T, ↓w_is_bl_F, ↓w_is_tup_N, ↓w_is_tup_B, ↓w_is_tup_I, ↓w_is_tup_S, ↓w_is_tup_T, ↓w_is_tup_F, ↓w_is_str_N, ↓w_is_str_B, ↓w_is_str_I, ↓w_is_str_S, ↓w_is_str_T, ↓w_is_str_F, ↓w_is_lst_N, ↓w_is_lst_B, ↓w_is_lst_I, ↓w_is_lst_S, ↓w_is_lst_T, ↓w_is_lst_F, ↓w_guT, ↓w_guF, ↓w_guS, ↓w_lsF, ↓w_enT, ↓w_enF, ↓w_zpT, ↓w_zpF, ↓w_gadd, ↓w_gsub, ↓w_fs1, ↓w_fs2, ↓w_fs3, ↓w_fs4, ↓w_fs5, ↓w_fs6, ↓w_un2, ↓w_un3, ↓w_un4, ↓w_goN, ↓w_goR, ↓w_goB, ↓w_goC, ↓w_feN, ↓w_feR, ↓w_repr, true_and, and_true, and_self, if_true, if_false, Bool.false_eq_true, Bool.not_true, Bool.not_false, decide_true, decide_false, ↓wp_calK, ↓kw_03, ↓kw_02, ↓kw_01, ↓pick_210, ↓pick_10, ↓pick_01, ↓pick_0, ↓w_sumF, ↓w_sumT, ↓w_srt, ↓w_maxL, ↓w_minL, ↓wp_starM, ↓wp_consM, ↓w_itT, ↓w_itF, ↓wp_rl2M, ↓wp_rl1M, ↓w_rl, ↓wp_dn3I, ↓w_dn3, ↓wp_mulTM, ↓w_mulT, ↓wp_niDM, ↓wp_inDM, ↓wp_zpM, ↓w_zpFF, ↓wp_isBM, ↓wp_nsBM, ↓w_isBB, ↓w_nsBB, ↓wp_catO, ↓w_catF, ↓kw_04, ↓pick_3210]
      rw [w_ixS]
      have hk' : k < ns.length := by omega
      refine ⟨.int ns[k], ?_, _, rfl, rfl⟩
      rw [at_nat, List.getElem?_map, List.getElem?_eq_getElem hk']
      rfl
    · simp -failIfUnchanged only [hl, ↓wp_retE, ↓wp_bad, ↓wp_bnd, ↓wp_nxt, ↓wp_brk, ↓wp_cnt, ↓wp_rtn, ↓wp_seq, ↓wp_iff, ↓wp_fnM, ↓wp_binM, ↓wp_cmpM, ↓wp_idxM, ↓wp_negM, ↓wp_notM, ↓wp_andM, ↓wp_orM, ↓wp_iteM, ↓wp_chnM, ↓wp_chnS, ↓wp_ls0, ↓wp_ls1, ↓wp_tupM, ↓wp_lstM, ↓wp_lshM, ↓wp_ownM, ↓wp_idxL, ↓wp_slcM, ↓wp_noP, ↓wp_soP, ↓wp_calM, ↓wp_isiM, ↓wp_forM, ↓wp_seqI, ↓wp_rng1, ↓wp_rng2, ↓wp_enum, ↓wp_enum2, ↓enum2_t, ↓enum2_f, ↓wp_zip, ↓rng1_int, ↓rng2_int, ↓wp_lcM, ↓wp_lcO, ↓wp_appO, ↓wp_extO, ↓wp_fldM, ↓wp_fldT, ↓wp_mthM, ↓wp_makM, ↓wp_augF, ↓tpT2, ↓nonS_non, ↓wp_subT, ↓w_add, ↓w_sub, ↓w_mul, ↓w_fdiv, ↓w_mod, ↓w_pow, ↓w_shl, ↓w_addT, ↓w_addL, ↓w_lt, ↓w_le, ↓w_gt, ↓w_ge, ↓w_eqI, ↓w_neI, ↓w_eqS, ↓w_neS, ↓w_isN, ↓w_ntN, ↓w_isI, ↓w_ntI, ↓w_isT, ↓w_ntT, ↓w_isF, ↓w_ntF, ↓w_isR, ↓w_ntR, ↓w_isB, ↓w_ntB, ↓w_isS, ↓w_ntS, ↓w_trB, ↓w_trI, ↓w_trN, ↓w_trT, ↓w_trF, ↓w_ixT0, ↓w_ixT1, ↓w_ixT2, ↓w_ixT3, ↓w_ixF0, ↓w_ixF1, ↓w_ixF2, ↓w_ixF3, ↓w_ixS0, ↓w_ixS1, ↓w_ixS2, ↓w_ixS3, ↓w_idL, ↓w_neg, ↓w_slT, ↓w_slF, ↓w_soP, ↓w_lenT, ↓w_lenF, ↓w_lenS, ↓w_abs, ↓w_min, ↓w_max, ↓w_intI, ↓w_intB, ↓w_tupT, ↓w_tupF, ↓w_lstT, ↓w_lstF, ↓w_sum, ↓w_all, ↓w_any, ↓w_is_int_N, ↓w_is_int_B, ↓w_is_int_I, ↓w_is_int_S, ↓w_is_int_T, ↓w_is_int_F, ↓w_is_bl_N, ↓w_is_bl_B, ↓w_is_bl_I, ↓w_is_bl_S, ↓w_is_bl_T, ↓w_is_bl_F, ↓w_is_tup_N, ↓w_is_tup_B, ↓w_is_tup_I, ↓w_is_tup_S, ↓w_is_tup_T, ↓w_is_tup_F, ↓w_is_str_N, ↓w_is_str_B, ↓w_is_str_I, ↓w_is_str_S, ↓w_is_str_T, ↓w_is_str_F, ↓w_is_lst_N, ↓w_is_lst_B, ↓w_is_lst_I, ↓w_is_lst_S, ↓w_is_lst_T, ↓w_is_lst_F, ↓w_guT, ↓w_guF, ↓w_guS, ↓w_lsF, ↓w_enT, ↓w_enF, ↓w_zpT, ↓w_zpF, ↓w_gadd, ↓w_gsub, ↓w_fs1, ↓w_fs2, ↓w_fs3, ↓w_fs4, ↓w_fs5, ↓w_fs6, ↓w_un2, ↓w_un3, ↓w_un4, ↓w_goN, ↓w_goR, ↓w_goB, ↓w_goC, ↓w_feN, ↓w_feR, ↓w_repr, true_and, and_true, and_self, if_true, if_false, Bool.false_eq_true, Bool.not_true, Bool.not_false, decide_true, decide_false, ↓wp_calK, ↓kw_03, ↓kw_02, ↓kw_01, ↓pick_210, ↓pick_10, ↓pick_01, ↓pick_0, ↓w_sumF, ↓w_sumT, ↓w_srt, ↓w_maxL, ↓w_minL, ↓wp_starM, ↓wp_consM, ↓w_itT, ↓w_itF, ↓wp_rl2M, ↓wp_rl1M, ↓w_rl, ↓wp_dn3I, ↓w_dn3, ↓wp_mulTM, ↓w_mulT, ↓wp_niDM, ↓wp_inDM, ↓wp_zpM, ↓w_zpFF, ↓wp_isBM, ↓wp_nsBM, ↓w_isBB, ↓w_nsBB, ↓wp_catO, ↓w_catF, ↓kw_04, ↓pick_3210]
      exact ⟨mul_ok (by decide) (by decide) (by omega) (by omega), _, rfl⟩
  · rintro _ _ ⟨cell, rfl, rfl⟩
    simp -failIfUnchanged only [↓wp_retE, ↓wp_bad, ↓wp_bnd, ↓wp_nxt, ↓wp_brk, ↓wp_cnt, ↓wp_rtn, ↓wp_seq, ↓wp_iff, ↓wp_fnM, ↓wp_binM, ↓wp_cmpM, ↓wp_idxM, ↓wp_negM, ↓wp_notM, ↓wp_andM, ↓wp_orM, ↓wp_iteM, ↓wp_chnM, ↓wp_chnS, ↓wp_ls0, ↓wp_ls1, ↓wp_tupM, ↓wp_lstM, ↓wp_lshM, ↓wp_ownM, ↓wp_idxL, ↓wp_slcM, ↓wp_noP, ↓wp_soP, ↓wp_calM, ↓wp_isiM, ↓wp_forM, ↓wp_seqI, ↓wp_rng1, ↓wp_rng2, ↓wp_enum, ↓wp_enum2, ↓enum2_t, ↓enum2_f, ↓wp_zip, ↓rng1_int, ↓rng2_int, ↓wp_lcM, ↓wp_lcO, ↓wp_appO, ↓wp_extO, ↓wp_fldM, ↓wp_fldT, ↓wp_mthM, ↓wp_makM, ↓wp_augF, ↓tpT2, ↓nonS_non, ↓wp_subT, ↓w_add, ↓w_sub, ↓w_mul, ↓w_fdiv, ↓w_mod, ↓w_pow, ↓w_shl, ↓w_addT, ↓w_addL, ↓w_lt, ↓w_le, ↓w_gt, ↓w_ge, ↓w_eqI, ↓w_neI, ↓w_eqS, ↓w_neS, ↓w_isN, ↓w_ntN, ↓w_isI, ↓w_ntI, ↓w_isT, ↓w_ntT, ↓w_isF, ↓w_ntF, ↓w_isR, ↓w_ntR, ↓w_isB, ↓w_ntB, ↓w_isS, ↓w_ntS, ↓w_trB, ↓w_trI, ↓w_trN, ↓w_trT, ↓w_trF, ↓w_ixT0, ↓w_ixT1, ↓w_ixT2, ↓w_ixT3, ↓w_ixF0, ↓w_ixF1, ↓w_ixF2, ↓w_ixF3, ↓w_ixS0, ↓w_ixS1, ↓w_ixS2, ↓w_ixS3, ↓w_idL, ↓w_neg, ↓w_slT, ↓w_slF, ↓w_soP, ↓w_lenT, ↓w_lenF, ↓w_lenS, ↓w_abs, ↓w_min, ↓w_max, ↓w_intI, ↓w_intB, ↓w_tupT, ↓w_tupF, ↓w_lstT, ↓w_lstF, ↓w_sum, ↓w_all, ↓w_any, ↓w_is_int_N, ↓w_is_int_B, ↓w_is_int_I, ↓w_is_int_S, ↓w_is_int_T, ↓w_is_int_F, ↓w_is_bl_N, ↓w_is_bl_B, ↓w_is_bl_I, ↓w_is_bl_S, ↓w_is_bl_T, ↓w_is_bl_F, ↓w_is_tup_N, ↓w_is_tup_B, ↓w_is_tup_I, ↓w_is_tup_S, ↓w_is_tup_T, ↓w_is_tup_F, ↓w_is_str_N, ↓w_is_str_B, ↓w_is_str_I, ↓w_is_str_S, ↓w_is_str_T, ↓w_is_str_F, ↓w_is_lst_N, ↓w_is_lst_B, ↓w_is_lst_I, ↓w_is_lst_S, ↓w_is_lst_T, ↓w_is_lst_F, ↓w_guT, ↓w_guF, ↓w_guS, ↓w_lsF, ↓w_enT, ↓w_enF, ↓w_zpT, ↓w_zpF, ↓w_gadd, ↓w_gsub, ↓w_fs1, ↓w_fs2, ↓w_fs3, ↓w_fs4, ↓w_fs5, ↓w_fs6, ↓w_un2, ↓w_un3, ↓w_un4, ↓w_goN, ↓w_goR, ↓w_goB, ↓w_goC, ↓w_feN, ↓w_feR, ↓w_repr, true_and, and_true, and_self, if_true, if_false, Bool.false_eq_true, Bool.not_true, Bool.not_false, decide_true, decide_false, ↓wp_calK, ↓kw_03, ↓kw_02, ↓kw_01, ↓pick_210, ↓pick_10, ↓pick_01, ↓pick_0, ↓w_sumF, ↓w_sumT, ↓w_srt, ↓w_maxL, ↓w_minL, ↓wp_starM, ↓wp_consM, ↓w_itT, ↓w_itF, ↓wp_rl2M, ↓wp_rl1M, ↓w_rl, ↓wp_dn3I, ↓w_dn3, ↓wp_mulTM, ↓w_mulT, ↓wp_niDM, ↓wp_inDM, ↓wp_zpM, ↓w_zpFF, ↓wp_isBM, ↓wp_nsBM, ↓w_isBB, ↓w_nsBB, ↓wp_catO, ↓w_catF, ↓kw_04, ↓pick_3210]
    generalize habs : (if cell < 0 then -cell else cell) = ab
    have hab : 0 ≤ ab := by
      rw [← habs]
      split <;> omega
    have h10 : (0 : Int) < (10 ^ Int.toNat 60) ^ Int.toNat 5 := by decide +kernel
    have hb10 : Bd 1000 ((10 ^ Int.toNat 60) ^ Int.toNat 5) := by
      unfold Bd
      decide +kernel
    have a1 := mod2 (a := ab) h10
    have hbm : Bd 1000 (ab % (10 ^ Int.toNat 60) ^ Int.toNat 5) := by
      unfold Bd at *
      omega
    generalize ab % (10 ^ Int.toNat 60) ^ Int.toNat 5 = gr at a1 hbm
    have a2 := mod2 (a := cell) (b := 2305843009213693951) (by decide)
    have a3 := mod2 (a := (cell % 2305843009213693951 + 7919 * k * k + 17) * 48271) (b := 2305843009213693921) (by decide)
    have hkk : (7919 : Int) * k * k ≤ 7919 * 100 * 100 := by
      have : (k : Int) * k ≤ 100 * 100 := Int.mul_le_mul (by omega) (by omega) (by omega) (by omega)
      rw [Int.mul_assoc, Int.mul_assoc]
      omega
    have hk0 : (0 : Int) ≤ 7919 * k * k := Int.mul_nonneg (Int.mul_nonneg (by decide) (by omega)) (by omega)
    refine ⟨⟨by decide, by decide +kernel⟩, ⟨by decide, by decide +kernel⟩, h10, ⟨by decide, by decide +kernel⟩, mul_bd (l := 1) hbm (by unfold Bd; split <;> decide) (by decide), by decide, mul_ok (by decide) (by decide) (by omega) (by omega), mul_ok (by omega) (by omega) (by omega) (by omega), mul_ok (by omega) (by omega) (by decide) (by decide), by decide, sz_le (by simp), ?_⟩
    refine h _ ⟨_, _, _, hs_new, ?_, a3.1, by omega, by decide, by decide⟩
    split <;> omega

end G.K75

set_option Elab.async false
set_option linter.all false
set_option maxRecDepth 100000
set_option maxHeartbeats 4000000
namespace G.K75
open PySem G
/-- capacities under way -/
structure Cv (step : Int) (cs : List Int) : Prop where
  ne : cs ≠ []
  asc : Asc cs
  pos : ∀ (i : Nat) (a : Int), cs[i]? = some a → 1 ≤ a ∧ a ≤ 2 * step * 2 ^ i
theorem pow_mul {s : Int} {i : Nat} (hs : 0 ≤ s) : s ≤ s * 2 ^ i := by
  have : (1 : Int) ≤ 2 ^ i := by
    have : (0 : Int) < 2 ^ i := Int.pow_pos (by decide)
    omega
  have h2 := Int.mul_le_mul_of_nonneg_left this hs
  omega
theorem Cv.snoc {step : Int} {cs : List Int} {c d : Int} (h : Cv step cs) (hs : 1 ≤ step) (hc : cs.getLast? = some c) (h1 : c < d) (h2 : d ≤ c + c ∨ d ≤ c + 2 * step) : Cv step (cs ++ [d]) := by
  have hl : 0 < cs.length := by
    cases cs with
    | nil => exact absurd rfl h.ne
    | cons _ _ => simp
  have hc' := hc
  rw [List.getLast?_eq_getElem?] at hc'
  obtain ⟨p1, p2⟩ := h.pos _ c hc'
  refine ⟨by simp, h.asc.snoc fun y hy => ?_, all_snoc h.pos ⟨by omega, ?_⟩⟩
  · rw [hc] at hy
    cases hy
    exact h1
  · have e : (2 : Int) ^ cs.length = 2 * 2 ^ (cs.length - 1) := by
      rw [show cs.length = (cs.length - 1) + 1 by omega, Int.pow_succ]
      simp
      omega
    have e2 : 2 * step * 2 ^ cs.length = 2 * step * 2 ^ (cs.length - 1) + 2 * step * 2 ^ (cs.length - 1) := by
      rw [e, show 2 * step * (2 * 2 ^ (cs.length - 1)) = 2 * (2 * step * 2 ^ (cs.length - 1)) by rw [← Int.mul_assoc, ← Int.mul_assoc]; congr 1; omega]
      omega
    have e3 : 2 * step ≤ 2 * step * 2 ^ (cs.length - 1) := pow_mul (by omega)
    omega
/-- limits under way -/
structure Lm (cs ls : List Int) : Prop where
  asc : Asc ls
  ok : ∀ (i : Nat) (a : Int), ls[i]? = some a → 0 ≤ a ∧ ∃ b, cs[i]? = some b ∧ a ≤ b
theorem Lm.snoc {cs ls : List Int} {l r : Int} (h : Lm cs ls) (hr : cs[ls.length]? = some r) (h0 : 0 ≤ l) (h1 : l ≤ r) (h2 : ∀ y, ls.getLast? = some y → y < l) : Lm cs (ls ++ [l]) :=
  ⟨h.asc.snoc h2, all_snoc h.ok ⟨h0, r, hr, h1⟩⟩
theorem last_map {l : List Int} {c : Int} (h : l.getLast? = some c) : atD (l.map D.int) (-1) = some (.int c) := by
  obtain ⟨i, a, rfl⟩ := snoc_ex (l := l) (fun e => by rw [e] at h; simp at h)
  simp at h
  subst h
  exact at_lastI

theorem policy_wp {m : Hs} {n : Nat} {k : Int} {levels : Nat} {step : Int} {Q : D → Hs → Prop} (hd : Dw m n k) (hk : k < 2 ^ 50) (hl : 1 ≤ levels) (hl2 : levels ≤ 50) (hs : 1 ≤ step) (hs2 : step ≤ 1000000)
    (h : ∀ (cs ls : List Int) (fx : Int) (m' : Hs), Vp cs ls → cs.length ≤ levels → (∀ (i : Nat) (a : Int), cs[i]? = some a → a ≤ 2 * step * 2 ^ i) → 0 ≤ fx → fx < 20 → m'.length = m.length → Dw m' n (k + 300) → Q (pol cs ls fx) m') : wp (t_law_policy (.ref n) (.int levels) (.int step)) m Q := by
  unfold t_law_policy bd_law_policy
  simp -failIfUnchanged only [↓wp_retE, ↓wp_bad, ↓wp_bnd, ↓wp_nxt, ↓wp_brk, ↓wp_cnt, ↓wp_rtn, ↓wp_seq, ↓wp_iff, ↓wp_fnM, ↓wp_binM, ↓wp_cmpM, ↓wp_idxM, ↓wp_negM, ↓wp_notM, ↓wp_andM, ↓wp_orM, ↓wp_iteM, ↓wp_chnM, ↓wp_chnS, ↓wp_ls0, ↓wp_ls1, ↓wp_tupM, ↓wp_lstM, ↓wp_lshM, ↓wp_ownM, ↓wp_idxL, ↓wp_slcM, ↓wp_noP, ↓wp_soP, ↓wp_calM, ↓wp_isiM, ↓wp_forM, ↓wp_seqI, ↓wp_rng1, ↓wp_rng2, ↓wp_enum, ↓wp_enum2, ↓enum2_t, ↓enum2_f, ↓wp_zip, ↓rng1_int, ↓rng2_int, ↓wp_lcM, ↓wp_lcO, ↓wp_appO, ↓wp_extO, ↓wp_fldM, ↓wp_fldT, ↓wp_mthM, ↓wp_makM, ↓wp_augF, ↓tpT2, ↓nonS_non, ↓wp_subT, ↓w_add, ↓w_sub, ↓w_mul, ↓w_fdiv, ↓w_mod, ↓w_pow, ↓w_shl, ↓w_addT, ↓w_addL, ↓w_lt, ↓w_le, ↓w_gt, ↓w_ge, ↓w_eqI, ↓w_neI, ↓w_eqS, ↓w_neS, ↓w_isN, ↓w_ntN, ↓w_isI, ↓w_ntI, ↓w_isT, ↓w_ntT, ↓w_isF, ↓w_ntF, ↓w_isR, ↓w_ntR, ↓w_isB, ↓w_ntB, ↓w_isS, ↓w_ntS, ↓w_trB, ↓w_trI, ↓w_trN, ↓w_trT, ↓w_trF, ↓w_ixT0, ↓w_ixT1, ↓w_ixT2, ↓w_ixT3, ↓w_ixF0, ↓w_ixF1, ↓w_ixF2, ↓w_ixF3, ↓w_ixS0, ↓w_ixS1, ↓w_ixS2, ↓w_ixS3, ↓w_idL, ↓w_neg, ↓w_slT, ↓w_slF, ↓w_soP, ↓w_lenT, ↓w_lenF, ↓w_lenS, ↓w_abs, ↓w_min, ↓w_max, ↓w_intI, ↓w_intB, ↓w_tupT, ↓w_tupF, ↓w_lstT, ↓w_lstF, ↓w_sum, ↓w_all, ↓w_any, ↓w_is_int_N, ↓w_is_int_B, ↓w_is_int_I, ↓w_is_int_S, ↓w_is_int_T, ↓w_is_int_F, ↓w_is_bl_N, ↓w_is_bl_B, ↓w_is_bl_I, ↓w_is_bl_S, ↓w_is_bl_T, ↓w_is_bl_F, ↓w_is_tup_N, ↓w_is_tup_B, ↓w_is_tup_I, ↓w_is_tup_S, ↓w_is_tup_T, ↓w_is_tup_F, ↓w_is_str_N, ↓w_is_str_B, ↓w_is_str_I, ↓w_is_str_S, ↓w_is_str_T, ↓w_is_str_F, ↓w_is_lst_N, ↓w_is_lst_B, ↓w_is_lst_I, ↓w_is_lst_S, ↓w_is_lst_T, ↓w_is_lst_F, ↓w_guT, ↓w_guF, ↓w_guS, ↓w_lsF, ↓w_enT, ↓w_enF, ↓w_zpT, ↓w_zpF, ↓w_gadd, ↓w_gsub, ↓w_fs1, ↓w_fs2, ↓w_fs3, ↓w_fs4, ↓w_fs5, ↓w_fs6, ↓w_un2, ↓w_un3, ↓w_un4, ↓w_goN, ↓w_goR, ↓w_goB, ↓w_goC, ↓w_feN, ↓w_feR, ↓w_repr, true_and, and_true, and_self, if_true, if_false, Bool.false_eq_true, Bool.not_true, Bool.not_false, decide_true, decide_false, ↓wp_calK, ↓kw_03, ↓kw_02, ↓kw_01, ↓pick_210, ↓pick_10, ↓pick_01, ↓pick_0, ↓w_sumF, ↓w_sumT, ↓w_srt, ↓w_maxL, ↓w_minL, ↓wp_starM, ↓wp_consM, ↓w_itT, ↓w_itF, ↓wp_rl2M, ↓wp_rl1M, ↓w_rl, ↓wp_dn3I, ↓w_dn3, ↓wp_mulTM, ↓w_mulT, ↓wp_niDM, ↓wp_inDM, ↓wp_zpM, ↓w_zpFF, ↓wp_isBM, ↓wp_nsBM, ↓w_isBB, ↓w_nsBB, ↓wp_catO, ↓w_catF, ↓kw_04, ↓pick_3210]
  refine below_wp hd (by omega) (by decide) (by decide) fun way o1 hw0 hw1 hd1 => ?_
  simp -failIfUnchanged only [↓wp_retE, ↓wp_bad, ↓wp_bnd, ↓wp_nxt, ↓wp_brk, ↓wp_cnt, ↓wp_rtn, ↓wp_seq, ↓wp_iff, ↓wp_fnM, ↓wp_binM, ↓wp_cmpM, ↓wp_idxM, ↓wp_negM, ↓wp_notM, ↓wp_andM, ↓wp_orM, ↓wp_iteM, ↓wp_chnM, ↓wp_chnS, ↓wp_ls0, ↓wp_ls1, ↓wp_tupM, ↓wp_lstM, ↓wp_lshM, ↓wp_ownM, ↓wp_idxL, ↓wp_slcM, ↓wp_noP, ↓wp_soP, ↓wp_calM, ↓wp_isiM, ↓wp_forM, ↓wp_seqI, ↓wp_rng1, ↓wp_rng2, ↓wp_enum, ↓wp_enum2, ↓enum2_t, ↓enum2_f, ↓wp_zip, ↓rng1_int, ↓rng2_int, ↓wp_lcM, ↓wp_lcO, ↓wp_appO, ↓wp_extO, ↓wp_fldM, ↓wp_fldT, ↓wp_mthM, ↓wp_makM, ↓wp_augF, ↓tpT2, ↓nonS_non, ↓wp_subT, ↓w_add, ↓w_sub, ↓w_mul, ↓w_fdiv, ↓w_mod, ↓w_pow, ↓w_shl, ↓w_addT, ↓w_addL, ↓w_lt, ↓w_le, ↓w_gt, ↓w_ge, ↓w_eqI, ↓w_neI, ↓w_eqS, ↓w_neS, ↓w_isN, ↓w_ntN, ↓w_isI, ↓w_ntI, ↓w_isT, ↓w_ntT, ↓w_isF, ↓w_ntF, ↓w_isR, ↓w_ntR, ↓w_isB, ↓w_ntB, ↓w_isS, ↓w_ntS, ↓w_trB, ↓w_trI, ↓w_trN, ↓w_trT, ↓w_trF, ↓w_ixT0, ↓w_ixT1, ↓w_ixT2, ↓w_ixT3, ↓w_ixF0, ↓w_ixF1, ↓w_ixF2, ↓w_ixF3, ↓w_ixS0, ↓w_ixS1, ↓w_ixS2, ↓w_ixS3, ↓w_idL, ↓w_neg, ↓w_slT, ↓w_slF, ↓w_soP, ↓w_lenT, ↓w_lenF, ↓w_lenS, ↓w_abs, ↓w_min, ↓w_max, ↓w_intI, ↓w_intB, ↓w_tupT, ↓w_tupF, ↓w_lstT, ↓w_lstF, ↓w_sum, ↓w_all, ↓w_any, ↓w_is_int_N, ↓w_is_int_B, ↓w_is_int_I, ↓w_is_int_S, ↓w_is_int_T, ↓w_is_int_F, ↓w_is_bl_N, ↓w_is_bl_B, ↓w_is_bl_I, ↓w_is_bl_S, ↓w_is_bl_T, ↓w_is_bl_F, ↓w_is_tup_N, ↓w_is_tup_B, ↓w_is_tup_I, ↓w_is_tup_S, ↓w_is_tup_T, ↓w_is_tup_F, ↓w_is_str_N, ↓w_is_str_B, ↓w_is_str_I, ↓w_is_str_S, ↓w_is_str_T, ↓w_is_str_F, ↓w_is_lst_N, ↓w_is_lst_B, ↓w_is_lst_I, ↓w_is_lst_S, ↓w_is_lst_T, ↓w_is_lst_F, ↓w_guT, ↓w_guF, ↓w_guS, ↓w_lsF, ↓w_enT, ↓w_enF, ↓w_zpT, ↓w_zpF, ↓w_gadd, ↓w_gsub, ↓w_fs1, ↓w_fs2, ↓w_fs3, ↓w_fs4, ↓w_fs5, ↓w_fs6, ↓w_un2, ↓w_un3, ↓w_un4, ↓w_goN, ↓w_goR, ↓w_goB, ↓w_goC, ↓w_feN, ↓w_feR, ↓w_repr, true_and, and_true, and_self, if_true, if_false, Bool.false_eq_true, Bool.not_true, Bool.not_false, decide_true, decide_false, ↓wp_calK, ↓kw_03, ↓kw_02, ↓kw_01, ↓pick_210, ↓pick_10, ↓pick_01, ↓pick_0, ↓w_sumF, ↓w_sumT, ↓w_srt, ↓w_maxL, ↓w_minL, ↓wp_starM, ↓wp_consM, ↓w_itT, ↓w_itF, ↓wp_rl2M, ↓wp_rl1M, ↓w_rl, ↓wp_dn3I, ↓w_dn3, ↓wp_mulTM, ↓w_mulT, ↓wp_niDM, ↓wp_inDM, ↓wp_zpM, ↓w_zpFF, ↓wp_isBM, ↓wp_nsBM, ↓w_isBB, ↓w_nsBB, ↓wp_catO, ↓w_catF, ↓kw_04, ↓pick_3210]
  refine below_wp hd1 (by omega) (by omega) (by omega) fun v o2 hv0 hv1 hd2 => ?_
  simp -failIfUnchanged only [↓wp_retE, ↓wp_bad, ↓wp_bnd, ↓wp_nxt, ↓wp_brk, ↓wp_cnt, ↓wp_rtn, ↓wp_seq, ↓wp_iff, ↓wp_fnM, ↓wp_binM, ↓wp_cmpM, ↓wp_idxM, ↓wp_negM, ↓wp_notM, ↓wp_andM, ↓wp_orM, ↓wp_iteM, ↓wp_chnM, ↓wp_chnS, ↓wp_ls0, ↓wp_ls1, ↓wp_tupM, ↓wp_lstM, ↓wp_lshM, ↓wp_ownM, ↓wp_idxL, ↓wp_slcM, ↓wp_noP, ↓wp_soP, ↓wp_calM, ↓wp_isiM, ↓wp_forM, ↓wp_seqI, ↓wp_rng1, ↓wp_rng2, ↓wp_enum, ↓wp_enum2, ↓enum2_t, ↓enum2_f, ↓wp_zip, ↓rng1_int, ↓rng2_int, ↓wp_lcM, ↓wp_lcO, ↓wp_appO, ↓wp_extO, ↓wp_fldM, ↓wp_fldT, ↓wp_mthM, ↓wp_makM, ↓wp_augF, ↓tpT2, ↓nonS_non, ↓wp_subT, ↓w_add, ↓w_sub, ↓w_mul, ↓w_fdiv, ↓w_mod, ↓w_pow, ↓w_shl, ↓w_addT, ↓w_addL, ↓w_lt, ↓w_le, ↓w_gt, ↓w_ge, ↓w_eqI, ↓w_neI, ↓w_eqS, ↓w_neS, ↓w_isN, ↓w_ntN, ↓w_isI, ↓w_ntI, ↓w_isT, ↓w_ntT, ↓w_isF, ↓w_ntF, ↓w_isR, ↓w_ntR, ↓w_isB, ↓w_ntB, ↓w_isS, ↓w_ntS, ↓w_trB, ↓w_trI, ↓w_trN, ↓w_trT, ↓w_trF, ↓w_ixT0, ↓w_ixT1, ↓w_ixT2, ↓w_ixT3, ↓w_ixF0, ↓w_ixF1, ↓w_ixF2, ↓w_ixF3, ↓w_ixS0, ↓w_ixS1, ↓w_ixS2, ↓w_ixS3, ↓w_idL, ↓w_neg, ↓w_slT, ↓w_slF, ↓w_soP, ↓w_lenT, ↓w_lenF, ↓w_lenS, ↓w_abs, ↓w_min, ↓w_max, ↓w_intI, ↓w_intB, ↓w_tupT, ↓w_tupF, ↓w_lstT, ↓w_lstF, ↓w_sum, ↓w_all, ↓w_any, ↓w_is_int_N, ↓w_is_int_B, ↓w_is_int_I, ↓w_is_int_S, ↓w_is_int_T, ↓w_is_int_F, ↓w_is_bl_N, ↓w_is_bl_B, ↓w_is_bl_I, ↓w_is_bl_S, ↓w_is_bl_T, ↓w_is_bl_F, ↓w_is_tup_N, ↓w_is_tup_B, ↓w_is_tup_I, ↓w_is_tup_S, ↓w_is_tup_T, ↓w_is_tup_F, ↓w_is_str_N, ↓w_is_str_B, ↓w_is_str_I, ↓w_is_str_S, ↓w_is_str_T, ↓w_is_str_F, ↓w_is_lst_N, ↓w_is_lst_B, ↓w_is_lst_I, ↓w_is_lst_S, ↓w_is_lst_T, ↓w_is_lst_F, ↓w_guT, ↓w_guF, ↓w_guS, ↓w_lsF, ↓w_enT, ↓w_enF, ↓w_zpT, ↓w_zpF, ↓w_gadd, ↓w_gsub, ↓w_fs1, ↓w_fs2, ↓w_fs3, ↓w_fs4, ↓w_fs5, ↓w_fs6, ↓w_un2, ↓w_un3, ↓w_un4, ↓w_goN, ↓w_goR, ↓w_goB, ↓w_goC, ↓w_feN, ↓w_feR, ↓w_repr, true_and, and_true, and_self, if_true, if_false, Bool.false_eq_true, Bool.not_true, Bool.not_false, decide_true, decide_false, ↓wp_calK, ↓kw_03, ↓kw_02, ↓kw_01, ↓pick_210, ↓pick_10, ↓pick_01, ↓pick_0, ↓w_sumF, ↓w_sumT, ↓w_srt, ↓w_maxL, ↓w_minL, ↓wp_starM, ↓wp_consM, ↓w_itT, ↓w_itF, ↓wp_rl2M, ↓wp_rl1M, ↓w_rl, ↓wp_dn3I, ↓w_dn3, ↓wp_mulTM, ↓w_mulT, ↓wp_niDM, ↓wp_inDM, ↓wp_zpM, ↓w_zpFF, ↓wp_isBM, ↓wp_nsBM, ↓w_isBB, ↓w_nsBB, ↓wp_catO, ↓w_catF, ↓kw_04, ↓pick_3210]
  refine ⟨sz_le (by simp), ?_⟩
  refine below_wp hd2 (by omega) (by omega) (by omega) fun many o3 hm0 hm1 hd3 => ?_
  simp -failIfUnchanged only [↓wp_retE, ↓wp_bad, ↓wp_bnd, ↓wp_nxt, ↓wp_brk, ↓wp_cnt, ↓wp_rtn, ↓wp_seq, ↓wp_iff, ↓wp_fnM, ↓wp_binM, ↓wp_cmpM, ↓wp_idxM, ↓wp_negM, ↓wp_notM, ↓wp_andM, ↓wp_orM, ↓wp_iteM, ↓wp_chnM, ↓wp_chnS, ↓wp_ls0, ↓wp_ls1, ↓wp_tupM, ↓wp_lstM, ↓wp_lshM, ↓wp_ownM, ↓wp_idxL, ↓wp_slcM, ↓wp_noP, ↓wp_soP, ↓wp_calM, ↓wp_isiM, ↓wp_forM, ↓wp_seqI, ↓wp_rng1, ↓wp_rng2, ↓wp_enum, ↓wp_enum2, ↓enum2_t, ↓enum2_f, ↓wp_zip, ↓rng1_int, ↓rng2_int, ↓wp_lcM, ↓wp_lcO, ↓wp_appO, ↓wp_extO, ↓wp_fldM, ↓wp_fldT, ↓wp_mthM, ↓wp_makM, ↓wp_augF, ↓tpT2, ↓nonS_non, ↓wp_subT, ↓w_add, ↓w_sub, ↓w_mul, ↓w_fdiv, ↓w_mod, ↓w_pow, ↓w_shl, ↓w_addT, ↓w_addL, ↓w_lt, ↓w_le, ↓w_gt, ↓w_ge, ↓w_eqI, ↓w_neI, ↓w_eqS, ↓w_neS, ↓w_isN, ↓w_ntN, ↓w_isI, ↓w_ntI, ↓w_isT, ↓w_ntT, ↓w_isF, ↓w_ntF, ↓w_isR, ↓w_ntR, ↓w_isB, ↓w_ntB, ↓w_isS, ↓w_ntS, ↓w_trB, ↓w_trI, ↓w_trN, ↓w_trT, ↓w_trF, ↓w_ixT0, ↓w_ixT1, ↓w_ixT2, ↓w_ixT3, ↓w_ixF0, ↓w_ixF1, ↓w_ixF2, ↓w_ixF3, ↓w_ixS0, ↓w_ixS1, ↓w_ixS2, ↓w_ixS3, ↓w_idL, ↓w_neg, ↓w_slT, ↓w_slF, ↓w_soP, ↓w_lenT, ↓w_lenF, ↓w_lenS, ↓w_abs, ↓w_min, ↓w_max, ↓w_intI, ↓w_intB, ↓w_tupT, ↓w_tupF, ↓w_lstT, ↓w_lstF, ↓w_sum, ↓w_all, ↓w_any, ↓w_is_int_N, ↓w_is_int_B, ↓w_is_int_I, ↓w_is_int_S, ↓w_is_int_T, ↓w_is_int_F, ↓w_is_bl_N, ↓w_is_bl_B, ↓w_is_bl_I, ↓w_is_bl_S, ↓w_is_bl_T, ↓w_is_bl_F, ↓w_is_tup_N, ↓w_is_tup_B, ↓w_is_tup_I, ↓w_is_tup_S, ↓w_is_tup_T, ↓w_is_tup_F, ↓w_is_str_N, ↓w_is_str_B, ↓w_is_str_I, ↓w_is_str_S, ↓w_is_str_T, ↓w_is_str_F, ↓w_is_lst_N, ↓w_is_lst_B, ↓w_is_lst_I, ↓w_is_lst_S, ↓w_is_lst_T, ↓w_is_lst_F, ↓w_guT, ↓w_guF, ↓w_guS, ↓w_lsF, ↓w_enT, ↓w_enF, ↓w_zpT, ↓w_zpF, ↓w_gadd, ↓w_gsub, ↓w_fs1, ↓w_fs2, ↓w_fs3, ↓w_fs4, ↓w_fs5, ↓w_fs6, ↓w_un2, ↓w_un3, ↓w_un4, ↓w_goN, ↓w_goR, ↓w_goB, ↓w_goC, ↓w_feN, ↓w_feR, ↓w_repr, true_and, and_true, and_self, if_true, if_false, Bool.false_eq_true, Bool.not_true, Bool.not_false, decide_true, decide_false, ↓wp_calK, ↓kw_03, ↓kw_02, ↓kw_01, ↓pick_210, ↓pick_10, ↓pick_01, ↓pick_0, ↓w_sumF, ↓w_sumT, ↓w_srt, ↓w_maxL, ↓w_minL, ↓wp_starM, ↓wp_consM, ↓w_itT, ↓w_itF, ↓wp_rl2M, ↓wp_rl1M, ↓w_rl, ↓wp_dn3I, ↓w_dn3, ↓wp_mulTM, ↓w_mulT, ↓wp_niDM, ↓wp_inDM, ↓wp_zpM, ↓w_zpFF, ↓wp_isBM, ↓wp_nsBM, ↓w_isBB, ↓w_nsBB, ↓wp_catO, ↓w_catF, ↓kw_04, ↓pick_3210]
  refine ⟨⟨by omega, by omega⟩, ?_⟩
  refine rng_wp (fun j s m' => ∃ cs : List Int, s = cs.map D.int ∧ Cv step cs ∧ cs.length + j ≤ levels ∧ m'.length = m.length ∧ Dw m' n (k + 103 - 2 * j)) ?_ ?_ _ _ _ _ ⟨[1 + v], rfl, ⟨by simp, Asc.one _, fun i a hi => ?_⟩, by simp; omega, by simp, hd3.mono (by omega)⟩
  rotate_left 2
  · have := get_lt hi
    simp at this
    subst this
    simp at hi
    subst hi
    simp
    omega
  · rintro i j s m' ⟨cs, rfl, hcv, hcl, hml, hd4⟩
    simp -failIfUnchanged only [↓wp_retE, ↓wp_bad, ↓wp_bnd, ↓wp_nxt, ↓wp_brk, ↓wp_cnt, ↓wp_rtn, ↓wp_seq, ↓wp_iff, ↓wp_fnM, ↓wp_binM, ↓wp_cmpM, ↓wp_idxM, ↓wp_negM, ↓wp_notM, ↓wp_andM, ↓wp_orM, ↓wp_iteM, ↓wp_chnM, ↓wp_chnS, ↓wp_ls0, ↓wp_ls1, ↓wp_tupM, ↓wp_lstM, ↓wp_lshM, ↓wp_ownM, ↓wp_idxL, ↓wp_slcM, ↓wp_noP, ↓wp_soP, ↓wp_calM, ↓wp_isiM, ↓wp_forM, ↓wp_seqI, ↓wp_rng1, ↓wp_rng2, ↓wp_enum, ↓wp_enum2, ↓enum2_t, ↓enum2_f, ↓wp_zip, ↓rng1_int, ↓rng2_int, ↓wp_lcM, ↓wp_lcO, ↓wp_appO, ↓wp_extO, ↓wp_fldM, ↓wp_fldT, ↓wp_mthM, ↓wp_makM, ↓wp_augF, ↓tpT2, ↓nonS_non, ↓wp_subT, ↓w_add, ↓w_sub, ↓w_mul, ↓w_fdiv, ↓w_mod, ↓w_pow, ↓w_shl, ↓w_addT, ↓w_addL, ↓w_lt, ↓w_le, ↓w_gt, ↓w_ge, ↓w_eqI, ↓w_neI, ↓w_eqS, ↓w_neS, ↓w_isN, ↓w_ntN, ↓w_isI, ↓w_ntI, ↓w_isT, ↓w_ntT, ↓w_isF, ↓w_ntF, ↓w_isR, ↓w_ntR, ↓w_isB, ↓w_ntB, ↓w_isS, ↓w_ntS, ↓w_trB, ↓w_trI, ↓w_trN, ↓w_trT, ↓w_trF, ↓w_ixT0, ↓w_ixT1, ↓w_ixT2, ↓w_ixT3, ↓w_ixF0, ↓w_ixF1, ↓w_ixF2, ↓w_ixF3, ↓w_ixS0, ↓w_ixS1, ↓w_ixS2, ↓w_ixS3, ↓w_idL, ↓w_neg, ↓w_slT, ↓w_slF, ↓w_soP, ↓w_lenT, ↓w_lenF, ↓w_lenS, ↓w_abs, ↓w_min, ↓w_max, ↓w_intI, ↓w_intB, ↓w_tupT, ↓w_tupF, ↓w_lstT, ↓w_lstF, ↓w_sum, ↓w_all, ↓w_any, ↓w_is_int_N, ↓w_is_int_B, ↓w_is_int_I, ↓w_is_int_S, ↓w_is_int_T, ↓w_is_int_F, ↓w_is_bl_N, ↓w_is_bl_B, ↓w_is_bl_I, ↓w_is_bl_S, ↓w_is_bl_T, ↓w_is_bl_F, ↓w_is_tup_N, ↓w_is_tup_B, ↓w_is_tup_I, ↓w_is_tup_S, ↓w_is_tup_T, ↓w_is_tup_F, ↓w_is_str_N, ↓w_is_str_B, ↓w_is_str_I, ↓w_is_str_S, ↓w_is_str_T, ↓w_is_str_F, ↓w_is_lst_N, ↓w_is_lst_B, ↓w_is_lst_I, ↓w_is_lst_S, ↓w_is_lst_T, ↓w_is_lst_F, ↓w_guT, ↓w_guF, ↓w_guS, ↓w_lsF, ↓w_enT, ↓w_enF, ↓w_zpT, ↓w_zpF, ↓w_gadd, ↓w_gsub, ↓w_fs1, ↓w_fs2, ↓w_fs3, ↓w_fs4, ↓w_fs5, ↓w_fs6, ↓w_un2, ↓w_un3, ↓w_un4, ↓w_goN, ↓w_goR, ↓w_goB, ↓w_goC, ↓w_feN, ↓w_feR, ↓w_repr, true_and, and_true, and_self, if_true, if_false, Bool.false_eq_true, Bool.not_true, Bool.not_false, decide_true, decide_false, ↓wp_calK, ↓kw_03, ↓kw_02, ↓kw_01, ↓pick_210, ↓pick_10, ↓pick_01, ↓pick_0, ↓w_sumF, ↓w_sumT, ↓w_srt, ↓w_maxL, ↓w_minL, ↓wp_starM, ↓wp_consM, ↓w_itT, ↓w_itF, ↓wp_rl2M, ↓wp_rl1M, ↓w_rl, ↓wp_dn3I, ↓w_dn3, ↓wp_mulTM, ↓w_mulT, ↓wp_niDM, ↓wp_inDM, ↓wp_zpM, ↓w_zpFF, ↓wp_isBM, ↓wp_nsBM, ↓w_isBB, ↓w_nsBB, ↓wp_catO, ↓w_catF, ↓kw_04, ↓pick_3210]
    obtain ⟨c, hc⟩ : ∃ c, cs.getLast? = some c := by
      cases hcs : cs.getLast? with
      | none => exact absurd (List.getLast?_eq_none_iff.1 hcs) hcv.ne
      | some c => exact ⟨c, rfl⟩
    have hc2 := hc
    rw [List.getLast?_eq_getElem?] at hc2
    have hcp := hcv.pos _ c hc2
    refine below_wp hd4 (by omega) (by omega) (by omega) fun v1 o4 hv10 hv11 hd5 => ?_
    simp -failIfUnchanged only [↓wp_retE, ↓wp_bad, ↓wp_bnd, ↓wp_nxt, ↓wp_brk, ↓wp_cnt, ↓wp_rtn, ↓wp_seq, ↓wp_iff, ↓wp_fnM, ↓wp_binM, ↓wp_cmpM, ↓wp_idxM, ↓wp_negM, ↓wp_notM, ↓wp_andM, ↓wp_orM, ↓wp_iteM, ↓wp_chnM, ↓wp_chnS, ↓wp_ls0, ↓wp_ls1, ↓wp_tupM, ↓wp_lstM, ↓wp_lshM, ↓wp_ownM, ↓wp_idxL, ↓wp_slcM, ↓wp_noP, ↓wp_soP, ↓wp_calM, ↓wp_isiM, ↓wp_forM, ↓wp_seqI, ↓wp_rng1, ↓wp_rng2, ↓wp_enum, ↓wp_enum2, ↓enum2_t, ↓enum2_f, ↓wp_zip, ↓rng1_int, ↓rng2_int, ↓wp_lcM, ↓wp_lcO, ↓wp_appO, ↓wp_extO, ↓wp_fldM, ↓wp_fldT, ↓wp_mthM, ↓wp_makM, ↓wp_augF, ↓tpT2, ↓nonS_non, ↓wp_subT, ↓w_add, ↓w_sub, ↓w_mul, ↓w_fdiv, ↓w_mod, ↓w_pow, ↓w_shl, ↓w_addT, ↓w_addL, ↓w_lt, ↓w_le, ↓w_gt, ↓w_ge, ↓w_eqI, ↓w_neI, ↓w_eqS, ↓w_neS, ↓w_isN, ↓w_ntN, ↓w_isI, ↓w_ntI, ↓w_isT, ↓w_ntT, ↓w_isF, ↓w_ntF, ↓w_isR, ↓w_ntR, ↓w_isB, ↓w_ntB, ↓w_isS, ↓w_ntS, ↓w_trB, ↓w_trI, ↓w_trN, ↓w_trT, ↓w_trF, ↓w_ixT0, ↓w_ixT1, ↓w_ixT2, ↓w_ixT3, ↓w_ixF0, ↓w_ixF1, ↓w_ixF2, ↓w_ixF3, ↓w_ixS0, ↓w_ixS1, ↓w_ixS2, ↓w_ixS3, ↓w_idL, ↓w_neg, ↓w_slT, ↓w_slF, ↓w_soP, ↓w_lenT, ↓w_lenF, ↓w_lenS, ↓w_abs, ↓w_min, ↓w_max, ↓w_intI, ↓w_intB, ↓w_tupT, ↓w_tupF, ↓w_lstT, ↓w_lstF, ↓w_sum, ↓w_all, ↓w_any, ↓w_is_int_N, ↓w_is_int_B, ↓w_is_int_I, ↓w_is_int_S, ↓w_is_int_T, ↓w_is_int_F, ↓w_is_bl_N, ↓w_is_bl_B, ↓w_is_bl_I, ↓w_is_bl_S, ↓w_is_bl_T, ↓w_is_bl_F, ↓w_is_tup_N, ↓w_is_tup_B, ↓w_is_tup_I, ↓w_is_tup_S, ↓w_is_tup_T, ↓w_is_tup_F, ↓w_is_str_N, ↓w_is_str_B, ↓w_is_str_I, ↓w_is_str_S, ↓w_is_str_T, ↓w_is_str_F, ↓w_is_lst_N, ↓w_is_lst_B, ↓w_is_lst_I, ↓w_is_lst_S, ↓w_is_lst_T, ↓w_is_lst_F, ↓w_guT, ↓w_guF, ↓w_guS, ↓w_lsF, ↓w_enT, ↓w_enF, ↓w_zpT, ↓w_zpF, ↓w_gadd, ↓w_gsub, ↓w_fs1, ↓w_fs2, ↓w_fs3, ↓w_fs4, ↓w_fs5, ↓w_fs6, ↓w_un2, ↓w_un3, ↓w_un4, ↓w_goN, ↓w_goR, ↓w_goB, ↓w_goC, ↓w_feN, ↓w_feR, ↓w_repr, true_and, and_true, and_self, if_true, if_false, Bool.false_eq_true, Bool.not_true, Bool.not_false, decide_true, decide_false, ↓wp_calK, ↓kw_03, ↓kw_02, ↓kw_01, ↓pick_210, ↓pick_10, ↓pick_01, ↓pick_0, ↓w_sumF, ↓w_sumT, ↓w_srt, ↓w_maxL, ↓w_minL, ↓wp_starM, ↓wp_consM, ↓w_itT, ↓w_itF, ↓wp_rl2M, ↓wp_rl1M, ↓w_rl, ↓wp_dn3I, ↓w_dn3, ↓wp_mulTM, ↓w_mulT, ↓wp_niDM, ↓wp_inDM, ↓wp_zpM, ↓w_zpFF, ↓wp_isBM, ↓wp_nsBM, ↓w_isBB, ↓w_nsBB, ↓wp_catO, ↓w_catF, ↓kw_04, ↓pick_3210]
    refine ⟨_, last_map hc, mul_ok (by decide) (by decide) (by omega) (by omega), ?_⟩
    refine below_wp hd5 (by omega) (by omega) (by omega) fun v2 o5 hv20 hv21 hd6 => ?_
    simp -failIfUnchanged only [↓wp_retE, ↓wp_bad, ↓wp_bnd, ↓wp_nxt, ↓wp_brk, ↓wp_cnt, ↓wp_rtn, ↓wp_seq, ↓wp_iff, ↓wp_fnM, ↓wp_binM, ↓wp_cmpM, ↓wp_idxM, ↓wp_negM, ↓wp_notM, ↓wp_andM, ↓wp_orM, ↓wp_iteM, ↓wp_chnM, ↓wp_chnS, ↓wp_ls0, ↓wp_ls1, ↓wp_tupM, ↓wp_lstM, ↓wp_lshM, ↓wp_ownM, ↓wp_idxL, ↓wp_slcM, ↓wp_noP, ↓wp_soP, ↓wp_calM, ↓wp_isiM, ↓wp_forM, ↓wp_seqI, ↓wp_rng1, ↓wp_rng2, ↓wp_enum, ↓wp_enum2, ↓enum2_t, ↓enum2_f, ↓wp_zip, ↓rng1_int, ↓rng2_int, ↓wp_lcM, ↓wp_lcO, ↓wp_appO, ↓wp_extO, ↓wp_fldM, ↓wp_fldT, ↓wp_mthM, ↓wp_makM, ↓wp_augF, ↓tpT2, ↓nonS_non, ↓wp_subT, ↓w_add, ↓w_sub, ↓w_mul, ↓w_fdiv, ↓w_mod, ↓w_pow, ↓w_shl, ↓w_addT, ↓w_addL, ↓w_lt, ↓w_le, ↓w_gt, ↓w_ge, ↓w_eqI, ↓w_neI, ↓w_eqS, ↓w_neS, ↓w_isN, ↓w_ntN, ↓w_isI, ↓w_ntI, ↓w_isT, ↓w_ntT, ↓w_isF, ↓w_ntF, ↓w_isR, ↓w_ntR, ↓w_isB, ↓w_ntB, ↓w_isS, ↓w_ntS, ↓w_trB, ↓w_trI, ↓w_trN, ↓w_trT, ↓w_trF, ↓w_ixT0, ↓w_ixT1, ↓w_ixT2, ↓w_ixT3, ↓w_ixF0, ↓w_ixF1, ↓w_ixF2, ↓w_ixF3, ↓w_ixS0, ↓w_ixS1, ↓w_ixS2, ↓w_ixS3, ↓w_idL, ↓w_neg, ↓w_slT, ↓w_slF, ↓w_soP, ↓w_lenT, ↓w_lenF, ↓w_lenS, ↓w_abs, ↓w_min, ↓w_max, ↓w_intI, ↓w_intB, ↓w_tupT, ↓w_tupF, ↓w_lstT, ↓w_lstF, ↓w_sum, ↓w_all, ↓w_any, ↓w_is_int_N, ↓w_is_int_B, ↓w_is_int_I, ↓w_is_int_S, ↓w_is_int_T, ↓w_is_int_F, ↓w_is_bl_N, ↓w_is_bl_B, ↓w_is_bl_I, ↓w_is_bl_S, ↓w_is_bl_T, ↓w_is_bl_F, ↓w_is_tup_N, ↓w_is_tup_B, ↓w_is_tup_I, ↓w_is_tup_S, ↓w_is_tup_T, ↓w_is_tup_F, ↓w_is_str_N, ↓w_is_str_B, ↓w_is_str_I, ↓w_is_str_S, ↓w_is_str_T, ↓w_is_str_F, ↓w_is_lst_N, ↓w_is_lst_B, ↓w_is_lst_I, ↓w_is_lst_S, ↓w_is_lst_T, ↓w_is_lst_F, ↓w_guT, ↓w_guF, ↓w_guS, ↓w_lsF, ↓w_enT, ↓w_enF, ↓w_zpT, ↓w_zpF, ↓w_gadd, ↓w_gsub, ↓w_fs1, ↓w_fs2, ↓w_fs3, ↓w_fs4, ↓w_fs5, ↓w_fs6, ↓w_un2, ↓w_un3, ↓w_un4, ↓w_goN, ↓w_goR, ↓w_goB, ↓w_goC, ↓w_feN, ↓w_feR, ↓w_repr, true_and, and_true, and_self, if_true, if_false, Bool.false_eq_true, Bool.not_true, Bool.not_false, decide_true, decide_false, ↓wp_calK, ↓kw_03, ↓kw_02, ↓kw_01, ↓pick_210, ↓pick_10, ↓pick_01, ↓pick_0, ↓w_sumF, ↓w_sumT, ↓w_srt, ↓w_maxL, ↓w_minL, ↓wp_starM, ↓wp_consM, ↓w_itT, ↓w_itF, ↓wp_rl2M, ↓wp_rl1M, ↓w_rl, ↓wp_dn3I, ↓w_dn3, ↓wp_mulTM, ↓w_mulT, ↓wp_niDM, ↓wp_inDM, ↓wp_zpM, ↓w_zpFF, ↓wp_isBM, ↓wp_nsBM, ↓w_isBB, ↓w_nsBB, ↓wp_catO, ↓w_catF, ↓kw_04, ↓pick_3210]
    refine ⟨sz_le (by simp), ?_⟩
    refine ix_one (ns := [1 + v1, c, 1, 1 + v2]) (P := fun x => 1 ≤ x ∧ (x ≤ c ∨ x ≤ 2 * step)) hw0 (by simpa using hw1) ?_ fun more _ hp => ?_
    · intro x hx
      simp at hx
      rcases hx with rfl | rfl | rfl | rfl <;> omega
    simp -failIfUnchanged only [↓wp_retE, ↓wp_bad, ↓wp_bnd, ↓wp_nxt, ↓wp_brk, ↓wp_cnt, ↓wp_rtn, ↓wp_seq, ↓wp_iff, ↓wp_fnM, ↓wp_binM, ↓wp_cmpM, ↓wp_idxM, ↓wp_negM, ↓wp_notM, ↓wp_andM, ↓wp_orM, ↓wp_iteM, ↓wp_chnM, ↓wp_chnS, ↓wp_ls0, ↓wp_ls1, ↓wp_tupM, ↓wp_lstM, ↓wp_lshM, ↓wp_ownM, ↓wp_idxL, ↓wp_slcM, ↓wp_noP, ↓wp_soP, ↓wp_calM, ↓wp_isiM, ↓wp_forM, ↓wp_seqI, ↓wp_rng1, ↓wp_rng2, ↓wp_enum, ↓wp_enum2, ↓enum2_t, ↓enum2_f, ↓wp_zip, ↓rng1_int, ↓rng2_int, ↓wp_lcM, ↓wp_lcO, ↓wp_appO, ↓wp_extO, ↓wp_fldM, ↓wp_fldT, ↓wp_mthM, ↓wp_makM, ↓wp_augF, ↓tpT2, ↓nonS_non, ↓wp_subT, ↓w_add, ↓w_sub, ↓w_mul, ↓w_fdiv, ↓w_mod, ↓w_pow, ↓w_shl, ↓w_addT, ↓w_addL, ↓w_lt, ↓w_le, ↓w_gt, ↓w_ge, ↓w_eqI, ↓w_neI, ↓w_eqS, ↓w_neS, ↓w_isN, ↓w_ntN, ↓w_isI, ↓w_ntI, ↓w_isT, ↓w_ntT, ↓w_isF, ↓w_ntF, ↓w_isR, ↓w_ntR, ↓w_isB, ↓w_ntB, ↓w_isS, ↓w_ntS, ↓w_trB, ↓w_trI, ↓w_trN, ↓w_trT, ↓w_trF, ↓w_ixT0, ↓w_ixT1, ↓w_ixT2, ↓w_ixT3, ↓w_ixF0, ↓w_ixF1, ↓w_ixF2, ↓w_ixF3, ↓w_ixS0, ↓w_ixS1, ↓w_ixS2, ↓w_ixS3, ↓w_idL, ↓w_neg, ↓w_slT, ↓w_slF, ↓w_soP, ↓w_lenT, ↓w_lenF, ↓w_lenS, ↓w_abs, ↓w_min, ↓w_max, ↓w_intI, ↓w_intB, ↓w_tupT, ↓w_tupF, ↓w_lstT, ↓w_lstF, ↓w_sum, ↓w_all, ↓w_any, ↓w_is_int_N, ↓w_is_int_B, ↓w_is_int_I, ↓w_is_int_S, ↓w_is_int_T, ↓w_is_int_F, ↓w_is_bl_N, ↓w_is_bl_B, ↓w_is_bl_I, ↓w_is_bl_S, ↓w_is_bl_T, ↓w_is_bl_F, ↓w_is_tup_N, ↓w_is_tup_B, ↓w_is_tup_I, ↓w_is_tup_S, ↓w_is_tup_T, ↓w_is_tup_F, ↓w_is_str_N, ↓w_is_str_B, ↓w_is_str_I, ↓w_is_str_S, ↓w_is_str_T, ↓w_is_str_F, ↓w_is_lst_N, ↓w_is_lst_B, ↓w_is_lst_I, ↓w_is_lst_S, ↓w_is_lst_T, ↓w_is_lst_F, ↓w_guT, ↓w_guF, ↓w_guS, ↓w_lsF, ↓w_enT, ↓w_enF, ↓w_zpT, ↓w_zpF, ↓w_gadd, ↓w_gsub, ↓w_fs1, ↓w_fs2, ↓w_fs3, ↓w_fs4, ↓w_fs5, ↓w_fs6, ↓w_un2, ↓w_un3, ↓w_un4, ↓w_goN, ↓w_goR, ↓w_goB, ↓w_goC, ↓w_feN, ↓w_feR, ↓w_repr, true_and, and_true, and_self, if_true, if_false, Bool.false_eq_true, Bool.not_true, Bool.not_false, decide_true, decide_false, ↓wp_calK, ↓kw_03, ↓kw_02, ↓kw_01, ↓pick_210, ↓pick_10, ↓pick_01, ↓pick_0, ↓w_sumF, ↓w_sumT, ↓w_srt, ↓w_maxL, ↓w_minL, ↓wp_starM, ↓wp_consM, ↓w_itT, ↓w_itF, ↓wp_rl2M, ↓wp_rl1M, ↓w_rl, ↓wp_dn3I, ↓w_dn3, ↓wp_mulTM, ↓w_mulT, ↓wp_niDM, ↓wp_inDM, ↓wp_zpM, ↓w_zpFF, ↓wp_isBM, ↓wp_nsBM, ↓w_isBB, ↓w_nsBB, ↓wp_catO, ↓w_catF, ↓kw_04, ↓pick_3210]
    refine ⟨_, last_map hc, ?_⟩
    simp -failIfUnchanged only [↓wp_retE, ↓wp_bad, ↓wp_bnd, ↓wp_nxt, ↓wp_brk, ↓wp_cnt, ↓wp_rtn, ↓wp_seq, ↓wp_iff, ↓wp_fnM, ↓wp_binM, ↓wp_cmpM, ↓wp_idxM, ↓wp_negM, ↓wp_notM, ↓wp_andM, ↓wp_orM, ↓wp_iteM, ↓wp_chnM, ↓wp_chnS, ↓wp_ls0, ↓wp_ls1, ↓wp_tupM, ↓wp_lstM, ↓wp_lshM, ↓wp_ownM, ↓wp_idxL, ↓wp_slcM, ↓wp_noP, ↓wp_soP, ↓wp_calM, ↓wp_isiM, ↓wp_forM, ↓wp_seqI, ↓wp_rng1, ↓wp_rng2, ↓wp_enum, ↓wp_enum2, ↓enum2_t, ↓enum2_f, ↓wp_zip, ↓rng1_int, ↓rng2_int, ↓wp_lcM, ↓wp_lcO, ↓wp_appO, ↓wp_extO, ↓wp_fldM, ↓wp_fldT, ↓wp_mthM, ↓wp_makM, ↓wp_augF, ↓tpT2, ↓nonS_non, ↓wp_subT, ↓w_add, ↓w_sub, ↓w_mul, ↓w_fdiv, ↓w_mod, ↓w_pow, ↓w_shl, ↓w_addT, ↓w_addL, ↓w_lt, ↓w_le, ↓w_gt, ↓w_ge, ↓w_eqI, ↓w_neI, ↓w_eqS, ↓w_neS, ↓w_isN, ↓w_ntN, ↓w_isI, ↓w_ntI, ↓w_isT, ↓w_ntT, ↓w_isF, ↓w_ntF, ↓w_isR, ↓w_ntR, ↓w_isB, ↓w_ntB, ↓w_isS, ↓w_ntS, ↓w_trB, ↓w_trI, ↓w_trN, ↓w_trT, ↓w_trF, ↓w_ixT0, ↓w_ixT1, ↓w_ixT2, ↓w_ixT3, ↓w_ixF0, ↓w_ixF1, ↓w_ixF2, ↓w_ixF3, ↓w_ixS0, ↓w_ixS1, ↓w_ixS2, ↓w_ixS3, ↓w_idL, ↓w_neg, ↓w_slT, ↓w_slF, ↓w_soP, ↓w_lenT, ↓w_lenF, ↓w_lenS, ↓w_abs, ↓w_min, ↓w_max, ↓w_intI, ↓w_intB, ↓w_tupT, ↓w_tupF, ↓w_lstT, ↓w_lstF, ↓w_sum, ↓w_all, ↓w_any, ↓w_is_int_N, ↓w_is_int_B, ↓w_is_int_I, ↓w_is_int_S, ↓w_is_int_T, ↓w_is_int_F, ↓w_is_bl_N, ↓w_is_bl_B, ↓w_is_bl_I, ↓w_is_bl_S, ↓w_is_bl_T, ↓w_is_bl_F, ↓w_is_tup_N, ↓w_is_tup_B, ↓w_is_tup_I, ↓w_is_tup_S, ↓w_is_tup_T, ↓w_is_tup_F, ↓w_is_str_N, ↓w_is_str_B, ↓w_is_str_I, ↓w_is_str_S, ↓w_is_str_T, ↓w_is_str_F, ↓w_is_lst_N, ↓w_is_lst_B, ↓w_is_lst_I, ↓w_is_lst_S, ↓w_is_lst_T, ↓w_is_lst_F, ↓w_guT, ↓w_guF, ↓w_guS, ↓w_lsF, ↓w_enT, ↓w_enF, ↓w_zpT, ↓w_zpF, ↓w_gadd, ↓w_gsub, ↓w_fs1, ↓w_fs2, ↓w_fs3, ↓w_fs4, ↓w_fs5, ↓w_fs6, ↓w_un2, ↓w_un3, ↓w_un4, ↓w_goN, ↓w_goR, ↓w_goB, ↓w_goC, ↓w_feN, ↓w_feR, ↓w_repr, true_and, and_true, and_self, if_true, if_false, Bool.false_eq_true, Bool.not_true, Bool.not_false, decide_true, decide_false, ↓wp_calK, ↓kw_03, ↓kw_02, ↓kw_01, ↓pick_210, ↓pick_10, ↓pick_01, ↓pick_0, ↓w_sumF, ↓w_sumT, ↓w_srt, ↓w_maxL, ↓w_minL, ↓wp_starM, ↓wp_consM, ↓w_itT, ↓w_itF, ↓wp_rl2M, ↓wp_rl1M, ↓w_rl, ↓wp_dn3I, ↓w_dn3, ↓wp_mulTM, ↓w_mulT, ↓wp_niDM, ↓wp_inDM, ↓wp_zpM, ↓w_zpFF, ↓wp_isBM, ↓wp_nsBM, ↓w_isBB, ↓w_nsBB, ↓wp_catO, ↓w_catF, ↓kw_04, ↓pick_3210]
    refine ⟨?_, cs ++ [c + more], by simp, hcv.snoc hs hc (by omega) (by omega), by simp; omega, by simpa using hml, hd6.mono (by omega)⟩
    rw [List.length_map]
    exact sz_lt (by omega)
  · rintro s m' ⟨cs, rfl, hcv, hcl, hml, hd4⟩
    simp -failIfUnchanged only [↓wp_retE, ↓wp_bad, ↓wp_bnd, ↓wp_nxt, ↓wp_brk, ↓wp_cnt, ↓wp_rtn, ↓wp_seq, ↓wp_iff, ↓wp_fnM, ↓wp_binM, ↓wp_cmpM, ↓wp_idxM, ↓wp_negM, ↓wp_notM, ↓wp_andM, ↓wp_orM, ↓wp_iteM, ↓wp_chnM, ↓wp_chnS, ↓wp_ls0, ↓wp_ls1, ↓wp_tupM, ↓wp_lstM, ↓wp_lshM, ↓wp_ownM, ↓wp_idxL, ↓wp_slcM, ↓wp_noP, ↓wp_soP, ↓wp_calM, ↓wp_isiM, ↓wp_forM, ↓wp_seqI, ↓wp_rng1, ↓wp_rng2, ↓wp_enum, ↓wp_enum2, ↓enum2_t, ↓enum2_f, ↓wp_zip, ↓rng1_int, ↓rng2_int, ↓wp_lcM, ↓wp_lcO, ↓wp_appO, ↓wp_extO, ↓wp_fldM, ↓wp_fldT, ↓wp_mthM, ↓wp_makM, ↓wp_augF, ↓tpT2, ↓nonS_non, ↓wp_subT, ↓w_add, ↓w_sub, ↓w_mul, ↓w_fdiv, ↓w_mod, ↓w_pow, ↓w_shl, ↓w_addT, ↓w_addL, ↓w_lt, ↓w_le, ↓w_gt, ↓w_ge, ↓w_eqI, ↓w_neI, ↓w_eqS, ↓w_neS, ↓w_isN, ↓w_ntN, ↓w_isI, ↓w_ntI, ↓w_isT, ↓w_ntT, ↓w_isF, ↓w_ntF, ↓w_isR, ↓w_ntR, ↓w_isB, ↓w_ntB, ↓w_isS, ↓w_ntS, ↓w_trB, ↓w_trI, ↓w_trN, ↓w_trT, ↓w_trF, ↓w_ixT0, ↓w_ixT1, ↓w_ixT2, ↓w_ixT3, ↓w_ixF0, ↓w_ixF1, ↓w_ixF2, ↓w_ixF3, ↓w_ixS0, ↓w_ixS1, ↓w_ixS2, ↓w_ixS3, ↓w_idL, ↓w_neg, ↓w_slT, ↓w_slF, ↓w_soP, ↓w_lenT, ↓w_lenF, ↓w_lenS, ↓w_abs, ↓w_min, ↓w_max, ↓w_intI, ↓w_intB, ↓w_tupT, ↓w_tupF, ↓w_lstT, ↓w_lstF, ↓w_sum, ↓w_all, ↓w_any, ↓w_is_int_N, ↓w_is_int_B, ↓w_is_int_I, ↓w_is_int_S, ↓w_is_int_T, ↓w_is_int_F, ↓w_is_bl_N, ↓w_is_bl_B, ↓w_is_bl_I, ↓w_is_bl_S, ↓w_is_bl_T, ↓w_is_bl_F, ↓w_is_tup_N, ↓w_is_tup_B, ↓w_is_tup_I, ↓w_is_tup_S, ↓w_is_tup_T, ↓w_is_tup_F, ↓w_is_str_N, ↓w_is_str_B, ↓w_is_str_I, ↓w_is_str_S, ↓w_is_str_T, ↓w_is_str_F, ↓w_is_lst_N, ↓w_is_lst_B, ↓w_is_lst_I, ↓w_is_lst_S, ↓w_is_lst_T, ↓w_is_lst_F, ↓w_guT, ↓w_guF, ↓w_guS, ↓w_lsF, ↓w_enT, ↓w_enF, ↓w_zpT, ↓w_zpF, ↓w_gadd, ↓w_gsub, ↓w_fs1, ↓w_fs2, ↓w_fs3, ↓w_fs4, ↓w_fs5, ↓w_fs6, ↓w_un2, ↓w_un3, ↓w_un4, ↓w_goN, ↓w_goR, ↓w_goB, ↓w_goC, ↓w_feN, ↓w_feR, ↓w_repr, true_and, and_true, and_self, if_true, if_false, Bool.false_eq_true, Bool.not_true, Bool.not_false, decide_true, decide_false, ↓wp_calK, ↓kw_03, ↓kw_02, ↓kw_01, ↓pick_210, ↓pick_10, ↓pick_01, ↓pick_0, ↓w_sumF, ↓w_sumT, ↓w_srt, ↓w_maxL, ↓w_minL, ↓wp_starM, ↓wp_consM, ↓w_itT, ↓w_itF, ↓wp_rl2M, ↓wp_rl1M, ↓w_rl, ↓wp_dn3I, ↓w_dn3, ↓wp_mulTM, ↓w_mulT, ↓wp_niDM, ↓wp_inDM, ↓wp_zpM, ↓w_zpFF, ↓wp_isBM, ↓wp_nsBM, ↓w_isBB, ↓w_nsBB, ↓wp_catO, ↓w_catF, ↓kw_04, ↓pick_3210]
    refine below_wp hd4 (by omega) (by decide) (by decide) fun way1 o4 hw10 hw11 hd5 => ?_
    simp -failIfUnchanged only [cut_init, ↓wp_retE, ↓wp_bad, ↓wp_bnd, ↓wp_nxt, ↓wp_brk, ↓wp_cnt, ↓wp_rtn, ↓wp_seq, ↓wp_iff, ↓wp_fnM, ↓wp_binM, ↓wp_cmpM, ↓wp_idxM, ↓wp_negM, ↓wp_notM, ↓wp_andM, ↓wp_orM, ↓wp_iteM, ↓wp_chnM, ↓wp_chnS, ↓wp_ls0, ↓wp_ls1, ↓wp_tupM, ↓wp_lstM, ↓wp_lshM, ↓wp_ownM, ↓wp_idxL, ↓wp_slcM, ↓wp_noP, ↓wp_soP, ↓wp_calM, ↓wp_isiM, ↓wp_forM, ↓wp_seqI, ↓wp_rng1, ↓wp_rng2, ↓wp_enum, ↓wp_enum2, ↓enum2_t, ↓enum2_f, ↓wp_zip, ↓rng1_int, ↓rng2_int, ↓wp_lcM, ↓wp_lcO, ↓wp_appO, ↓wp_extO, ↓wp_fldM, ↓wp_fldT, ↓wp_mthM, ↓wp_makM, ↓wp_augF, ↓tpT2, ↓nonS_non, ↓wp_subT, ↓w_add, ↓w_sub, ↓w_mul, ↓w_fdiv, ↓w_mod, ↓w_pow, ↓w_shl, ↓w_addT, ↓w_addL, ↓w_lt, ↓w_le, ↓w_gt, ↓w_ge, ↓w_eqI, ↓w_neI, ↓w_eqS, ↓w_neS, ↓w_isN, ↓w_ntN, ↓w_isI, ↓w_ntI, ↓w_isT, ↓w_ntT, ↓w_isF, ↓w_ntF, ↓w_isR, ↓w_ntR, ↓w_isB, ↓w_ntB, ↓w_isS, ↓w_ntS, ↓w_trB, ↓w_trI, ↓w_trN, ↓w_trT, ↓w_trF, ↓w_ixT0, ↓w_ixT1, ↓w_ixT2, ↓w_ixT3, ↓w_ixF0, ↓w_ixF1, ↓w_ixF2, ↓w_ixF3, ↓w_ixS0, ↓w_ixS1, ↓w_ixS2, ↓w_ixS3, ↓w_idL, ↓w_neg, ↓w_slT, ↓w_slF, ↓w_soP, ↓w_lenT, ↓w_lenF, ↓w_lenS, ↓w_abs, ↓w_min, ↓w_max, ↓w_intI, ↓w_intB, ↓w_tupT, ↓w_tupF, ↓w_lstT, ↓w_lstF, ↓w_sum, ↓w_all, ↓w_any, ↓w_is_int_N, ↓w_is_int_B, ↓w_is_int_I, ↓w_is_int_S, ↓w_is_int_T, ↓w_is_int_F, ↓w_is_bl_N, ↓w_is_bl_B, ↓w_is_bl_I, ↓w_is_bl_S, ↓w_is_bl_T, ↓w_is_bl_F, ↓w_is_tup_N, ↓w_is_tup_B, ↓w_is_tup_I, ↓w_is_tup_S, ↓w_is_tup_T, ↓w_is_tup_F, ↓w_is_str_N, ↓w_is_str_B, ↓w_is_str_I, ↓w_is_str_S, ↓w_is_str_T, ↓w_is_str_F, ↓w_is_lst_N, ↓w_is_lst_B, ↓w_is_lst_I, ↓w_is_lst_S, ↓w_is_lst_T, ↓w_is_lst_F, ↓w_guT, ↓w_guF, ↓w_guS, ↓w_lsF, ↓w_enT, ↓w_enF, ↓w_zpT, ↓w_zpF, ↓w_gadd, ↓w_gsub, ↓w_fs1, ↓w_fs2, ↓w_fs3, ↓w_fs4, ↓w_fs5, ↓w_fs6, ↓w_un2, ↓w_un3, ↓w_un4, ↓w_goN, ↓w_goR, ↓w_goB, ↓w_goC, ↓w_feN, ↓w_feR, ↓w_repr, true_and, and_true, and_self, if_true, if_false, Bool.false_eq_true, Bool.not_true, Bool.not_false, decide_true, decide_false, ↓wp_calK, ↓kw_03, ↓kw_02, ↓kw_01, ↓pick_210, ↓pick_10, ↓pick_01, ↓pick_0, ↓w_sumF, ↓w_sumT, ↓w_srt, ↓w_maxL, ↓w_minL, ↓wp_starM, ↓wp_consM, ↓w_itT, ↓w_itF, ↓wp_rl2M, ↓wp_rl1M, ↓w_rl, ↓wp_dn3I, ↓w_dn3, ↓wp_mulTM, ↓w_mulT, ↓wp_niDM, ↓wp_inDM, ↓wp_zpM, ↓w_zpFF, ↓wp_isBM, ↓wp_nsBM, ↓w_isBB, ↓w_nsBB, ↓wp_catO, ↓w_catF, ↓kw_04, ↓pick_3210]
    refine ⟨sz_le (by simp), ?_⟩
    have hinit : (cs.map D.int).dropLast = cs.dropLast.map D.int := by rw [List.map_dropLast]
    rw [hinit]
    have hcl0 : 0 < cs.length := by
      have := hcv.ne
      cases cs with
      | nil => exact absurd rfl this
      | cons _ _ => simp
    refine forL_wp (fun xs s m' => ∃ (ls : List Int) (low : Int), xs = (cs.dropLast.drop ls.length).map D.int ∧ s = (.int low, ls.map D.int) ∧ Lm cs ls ∧ ls.length < cs.length ∧ (ls.getLast? = some low ∨ (ls = [] ∧ low = -1)) ∧ m'.length = m.length ∧ Dw m' n (k + 110 + ls.length)) ?_ ?_ _ _ _ ⟨[], -1, rfl, rfl, ⟨Asc.nil, fun i a h => by simp at h⟩, hcl0, .inr ⟨rfl, rfl⟩, by simpa using hml, hd5.mono (by simp; omega)⟩
    · rintro x xs s m'' ⟨ls, low, hx, rfl, hlm, hll, hlow, hml2, hd6⟩
      obtain ⟨r, hr⟩ := get_ex hll
      have hlt : ls.length < cs.dropLast.length := by
        have := congrArg List.length hx
        simp at this
        simp
        omega
      have hr2 : cs.dropLast[ls.length]? = some r := by
        rw [List.getElem?_dropLast, if_pos (by simpa using hlt)]
        exact hr
      rw [drop_at hr2, List.map_cons] at hx
      obtain ⟨rfl, rfl⟩ := List.cons.inj hx
      have hrp := hcv.pos _ r hr
      have hlr : low < r ∧ -1 ≤ low := by
        rcases hlow with hlow | ⟨rfl, rfl⟩
        · have h2 := hlow
          rw [List.getLast?_eq_getElem?] at h2
          obtain ⟨h0, b, hb, hle⟩ := hlm.ok _ _ h2
          have hne := get_lt h2
          have := hcv.asc (ls.length - 1) b r hb (by rw [show ls.length - 1 + 1 = ls.length by omega]; exact hr)
          omega
        · omega
      have hr50 : r < 2 ^ 100 := by
        have h3 : (2 : Int) ^ ls.length ≤ 2 ^ 50 := by
          have : (2 : Nat) ^ ls.length ≤ 2 ^ 50 := Nat.pow_le_pow_right (by decide) (by omega)
          exact_mod_cast this
        have h4 : 2 * step * 2 ^ ls.length ≤ 2000000 * 2 ^ 50 := Int.mul_le_mul (by omega) h3 (Int.le_of_lt (Int.pow_pos (by decide))) (by decide)
        omega
      simp -failIfUnchanged only [↓wp_retE, ↓wp_bad, ↓wp_bnd, ↓wp_nxt, ↓wp_brk, ↓wp_cnt, ↓wp_rtn, ↓wp_seq, ↓wp_iff, ↓wp_fnM, ↓wp_binM, ↓wp_cmpM, ↓wp_idxM, ↓wp_negM, ↓wp_notM, ↓wp_andM, ↓wp_orM, ↓wp_iteM, ↓wp_chnM, ↓wp_chnS, ↓wp_ls0, ↓wp_ls1, ↓wp_tupM, ↓wp_lstM, ↓wp_lshM, ↓wp_ownM, ↓wp_idxL, ↓wp_slcM, ↓wp_noP, ↓wp_soP, ↓wp_calM, ↓wp_isiM, ↓wp_forM, ↓wp_seqI, ↓wp_rng1, ↓wp_rng2, ↓wp_enum, ↓wp_enum2, ↓enum2_t, ↓enum2_f, ↓wp_zip, ↓rng1_int, ↓rng2_int, ↓wp_lcM, ↓wp_lcO, ↓wp_appO, ↓wp_extO, ↓wp_fldM, ↓wp_fldT, ↓wp_mthM, ↓wp_makM, ↓wp_augF, ↓tpT2, ↓nonS_non, ↓wp_subT, ↓w_add, ↓w_sub, ↓w_mul, ↓w_fdiv, ↓w_mod, ↓w_pow, ↓w_shl, ↓w_addT, ↓w_addL, ↓w_lt, ↓w_le, ↓w_gt, ↓w_ge, ↓w_eqI, ↓w_neI, ↓w_eqS, ↓w_neS, ↓w_isN, ↓w_ntN, ↓w_isI, ↓w_ntI, ↓w_isT, ↓w_ntT, ↓w_isF, ↓w_ntF, ↓w_isR, ↓w_ntR, ↓w_isB, ↓w_ntB, ↓w_isS, ↓w_ntS, ↓w_trB, ↓w_trI, ↓w_trN, ↓w_trT, ↓w_trF, ↓w_ixT0, ↓w_ixT1, ↓w_ixT2, ↓w_ixT3, ↓w_ixF0, ↓w_ixF1, ↓w_ixF2, ↓w_ixF3, ↓w_ixS0, ↓w_ixS1, ↓w_ixS2, ↓w_ixS3, ↓w_idL, ↓w_neg, ↓w_slT, ↓w_slF, ↓w_soP, ↓w_lenT, ↓w_lenF, ↓w_lenS, ↓w_abs, ↓w_min, ↓w_max, ↓w_intI, ↓w_intB, ↓w_tupT, ↓w_tupF, ↓w_lstT, ↓w_lstF, ↓w_sum, ↓w_all, ↓w_any, ↓w_is_int_N, ↓w_is_int_B, ↓w_is_int_I, ↓w_is_int_S, ↓w_is_int_T, ↓w_is_int_F, ↓w_is_bl_N, ↓w_is_bl_B, ↓w_is_bl_I, ↓w_is_bl_S, ↓w_is_bl_T, ↓w_is_bl_F, ↓w_is_tup_N, ↓w_is_tup_B, ↓w_is_tup_I, ↓w_is_tup_S, ↓w_is_tup_T, ↓w_is_tup_F, ↓w_is_str_N, ↓w_is_str_B, ↓w_is_str_I, ↓w_is_str_S, ↓w_is_str_T, ↓w_is_str_F, ↓w_is_lst_N, ↓w_is_lst_B, ↓w_is_lst_I, ↓w_is_lst_S, ↓w_is_lst_T, ↓w_is_lst_F, ↓w_guT, ↓w_guF, ↓w_guS, ↓w_lsF, ↓w_enT, ↓w_enF, ↓w_zpT, ↓w_zpF, ↓w_gadd, ↓w_gsub, ↓w_fs1, ↓w_fs2, ↓w_fs3, ↓w_fs4, ↓w_fs5, ↓w_fs6, ↓w_un2, ↓w_un3, ↓w_un4, ↓w_goN, ↓w_goR, ↓w_goB, ↓w_goC, ↓w_feN, ↓w_feR, ↓w_repr, true_and, and_true, and_self, if_true, if_false, Bool.false_eq_true, Bool.not_true, Bool.not_false, decide_true, decide_false, ↓wp_calK, ↓kw_03, ↓kw_02, ↓kw_01, ↓pick_210, ↓pick_10, ↓pick_01, ↓pick_0, ↓w_sumF, ↓w_sumT, ↓w_srt, ↓w_maxL, ↓w_minL, ↓wp_starM, ↓wp_consM, ↓w_itT, ↓w_itF, ↓wp_rl2M, ↓wp_rl1M, ↓w_rl, ↓wp_dn3I, ↓w_dn3, ↓wp_mulTM, ↓w_mulT, ↓wp_niDM, ↓wp_inDM, ↓wp_zpM, ↓w_zpFF, ↓wp_isBM, ↓wp_nsBM, ↓w_isBB, ↓w_nsBB, ↓wp_catO, ↓w_catF, ↓kw_04, ↓pick_3210]
      refine below_wp hd6 (by omega) (by omega) (by omega) fun v1 o5 hv10 hv11 hd7 => ?_
      simp -failIfUnchanged only [↓wp_retE, ↓wp_bad, ↓wp_bnd, ↓wp_nxt, ↓wp_brk, ↓wp_cnt, ↓wp_rtn, ↓wp_seq, ↓wp_iff, ↓wp_fnM, ↓wp_binM, ↓wp_cmpM, ↓wp_idxM, ↓wp_negM, ↓wp_notM, ↓wp_andM, ↓wp_orM, ↓wp_iteM, ↓wp_chnM, ↓wp_chnS, ↓wp_ls0, ↓wp_ls1, ↓wp_tupM, ↓wp_lstM, ↓wp_lshM, ↓wp_ownM, ↓wp_idxL, ↓wp_slcM, ↓wp_noP, ↓wp_soP, ↓wp_calM, ↓wp_isiM, ↓wp_forM, ↓wp_seqI, ↓wp_rng1, ↓wp_rng2, ↓wp_enum, ↓wp_enum2, ↓enum2_t, ↓enum2_f, ↓wp_zip, ↓rng1_int, ↓rng2_int, ↓wp_lcM, ↓wp_lcO, ↓wp_appO, ↓wp_extO, ↓wp_fldM, ↓wp_fldT, ↓wp_mthM, ↓wp_makM, ↓wp_augF, ↓tpT2, ↓nonS_non, ↓wp_subT, ↓w_add, ↓w_sub, ↓w_mul, ↓w_fdiv, ↓w_mod, ↓w_pow, ↓w_shl, ↓w_addT, ↓w_addL, ↓w_lt, ↓w_le, ↓w_gt, ↓w_ge, ↓w_eqI, ↓w_neI, ↓w_eqS, ↓w_neS, ↓w_isN, ↓w_ntN, ↓w_isI, ↓w_ntI, ↓w_isT, ↓w_ntT, ↓w_isF, ↓w_ntF, ↓w_isR, ↓w_ntR, ↓w_isB, ↓w_ntB, ↓w_isS, ↓w_ntS, ↓w_trB, ↓w_trI, ↓w_trN, ↓w_trT, ↓w_trF, ↓w_ixT0, ↓w_ixT1, ↓w_ixT2, ↓w_ixT3, ↓w_ixF0, ↓w_ixF1, ↓w_ixF2, ↓w_ixF3, ↓w_ixS0, ↓w_ixS1, ↓w_ixS2, ↓w_ixS3, ↓w_idL, ↓w_neg, ↓w_slT, ↓w_slF, ↓w_soP, ↓w_lenT, ↓w_lenF, ↓w_lenS, ↓w_abs, ↓w_min, ↓w_max, ↓w_intI, ↓w_intB, ↓w_tupT, ↓w_tupF, ↓w_lstT, ↓w_lstF, ↓w_sum, ↓w_all, ↓w_any, ↓w_is_int_N, ↓w_is_int_B, ↓w_is_int_I, ↓w_is_int_S, ↓w_is_int_T, ↓w_is_int_F, ↓w_is_bl_N, ↓w_is_bl_B, ↓w_is_bl_I, ↓w_is_bl_S, ↓w_is_bl_T, ↓w_is_bl_F, ↓w_is_tup_N, ↓w_is_tup_B, ↓w_is_tup_I, ↓w_is_tup_S, ↓w_is_tup_T, ↓w_is_tup_F, ↓w_is_str_N, ↓w_is_str_B, ↓w_is_str_I, ↓w_is_str_S, ↓w_is_str_T, ↓w_is_str_F, ↓w_is_lst_N, ↓w_is_lst_B, ↓w_is_lst_I, ↓w_is_lst_S, ↓w_is_lst_T, ↓w_is_lst_F, ↓w_guT, ↓w_guF, ↓w_guS, ↓w_lsF, ↓w_enT, ↓w_enF, ↓w_zpT, ↓w_zpF, ↓w_gadd, ↓w_gsub, ↓w_fs1, ↓w_fs2, ↓w_fs3, ↓w_fs4, ↓w_fs5, ↓w_fs6, ↓w_un2, ↓w_un3, ↓w_un4, ↓w_goN, ↓w_goR, ↓w_goB, ↓w_goC, ↓w_feN, ↓w_feR, ↓w_repr, true_and, and_true, and_self, if_true, if_false, Bool.false_eq_true, Bool.not_true, Bool.not_false, decide_true, decide_false, ↓wp_calK, ↓kw_03, ↓kw_02, ↓kw_01, ↓pick_210, ↓pick_10, ↓pick_01, ↓pick_0, ↓w_sumF, ↓w_sumT, ↓w_srt, ↓w_maxL, ↓w_minL, ↓wp_starM, ↓wp_consM, ↓w_itT, ↓w_itF, ↓wp_rl2M, ↓wp_rl1M, ↓w_rl, ↓wp_dn3I, ↓w_dn3, ↓wp_mulTM, ↓w_mulT, ↓wp_niDM, ↓wp_inDM, ↓wp_zpM, ↓w_zpFF, ↓wp_isBM, ↓wp_nsBM, ↓w_isBB, ↓w_nsBB, ↓wp_catO, ↓w_catF, ↓kw_04, ↓pick_3210]
      refine ⟨div_ok (by decide) (by decide), sz_le (by simp), ?_⟩
      refine ix_one (ns := [low + 1, r, low + 1 + v1, if r / 2 > low + 1 then r / 2 else low + 1]) (P := fun x => low < x ∧ x ≤ r ∧ 0 ≤ x) hw10 (by simpa using hw11) ?_ fun l _ hp => ?_
      · intro x hx
        simp only [List.mem_cons, List.not_mem_nil, or_false] at hx
        rcases hx with rfl | rfl | rfl | rfl
        · omega
        · omega
        · omega
        · split <;> omega
      simp -failIfUnchanged only [↓wp_retE, ↓wp_bad, ↓wp_bnd, ↓wp_nxt, ↓wp_brk, ↓wp_cnt, ↓wp_rtn, ↓wp_seq, ↓wp_iff, ↓wp_fnM, ↓wp_binM, ↓wp_cmpM, ↓wp_idxM, ↓wp_negM, ↓wp_notM, ↓wp_andM, ↓wp_orM, ↓wp_iteM, ↓wp_chnM, ↓wp_chnS, ↓wp_ls0, ↓wp_ls1, ↓wp_tupM, ↓wp_lstM, ↓wp_lshM, ↓wp_ownM, ↓wp_idxL, ↓wp_slcM, ↓wp_noP, ↓wp_soP, ↓wp_calM, ↓wp_isiM, ↓wp_forM, ↓wp_seqI, ↓wp_rng1, ↓wp_rng2, ↓wp_enum, ↓wp_enum2, ↓enum2_t, ↓enum2_f, ↓wp_zip, ↓rng1_int, ↓rng2_int, ↓wp_lcM, ↓wp_lcO, ↓wp_appO, ↓wp_extO, ↓wp_fldM, ↓wp_fldT, ↓wp_mthM, ↓wp_makM, ↓wp_augF, ↓tpT2, ↓nonS_non, ↓wp_subT, ↓w_add, ↓w_sub, ↓w_mul, ↓w_fdiv, ↓w_mod, ↓w_pow, ↓w_shl, ↓w_addT, ↓w_addL, ↓w_lt, ↓w_le, ↓w_gt, ↓w_ge, ↓w_eqI, ↓w_neI, ↓w_eqS, ↓w_neS, ↓w_isN, ↓w_ntN, ↓w_isI, ↓w_ntI, ↓w_isT, ↓w_ntT, ↓w_isF, ↓w_ntF, ↓w_isR, ↓w_ntR, ↓w_isB, ↓w_ntB, ↓w_isS, ↓w_ntS, ↓w_trB, ↓w_trI, ↓w_trN, ↓w_trT, ↓w_trF, ↓w_ixT0, ↓w_ixT1, ↓w_ixT2, ↓w_ixT3, ↓w_ixF0, ↓w_ixF1, ↓w_ixF2, ↓w_ixF3, ↓w_ixS0, ↓w_ixS1, ↓w_ixS2, ↓w_ixS3, ↓w_idL, ↓w_neg, ↓w_slT, ↓w_slF, ↓w_soP, ↓w_lenT, ↓w_lenF, ↓w_lenS, ↓w_abs, ↓w_min, ↓w_max, ↓w_intI, ↓w_intB, ↓w_tupT, ↓w_tupF, ↓w_lstT, ↓w_lstF, ↓w_sum, ↓w_all, ↓w_any, ↓w_is_int_N, ↓w_is_int_B, ↓w_is_int_I, ↓w_is_int_S, ↓w_is_int_T, ↓w_is_int_F, ↓w_is_bl_N, ↓w_is_bl_B, ↓w_is_bl_I, ↓w_is_bl_S, ↓w_is_bl_T, ↓w_is_bl_F, ↓w_is_tup_N, ↓w_is_tup_B, ↓w_is_tup_I, ↓w_is_tup_S, ↓w_is_tup_T, ↓w_is_tup_F, ↓w_is_str_N, ↓w_is_str_B, ↓w_is_str_I, ↓w_is_str_S, ↓w_is_str_T, ↓w_is_str_F, ↓w_is_lst_N, ↓w_is_lst_B, ↓w_is_lst_I, ↓w_is_lst_S, ↓w_is_lst_T, ↓w_is_lst_F, ↓w_guT, ↓w_guF, ↓w_guS, ↓w_lsF, ↓w_enT, ↓w_enF, ↓w_zpT, ↓w_zpF, ↓w_gadd, ↓w_gsub, ↓w_fs1, ↓w_fs2, ↓w_fs3, ↓w_fs4, ↓w_fs5, ↓w_fs6, ↓w_un2, ↓w_un3, ↓w_un4, ↓w_goN, ↓w_goR, ↓w_goB, ↓w_goC, ↓w_feN, ↓w_feR, ↓w_repr, true_and, and_true, and_self, if_true, if_false, Bool.false_eq_true, Bool.not_true, Bool.not_false, decide_true, decide_false, ↓wp_calK, ↓kw_03, ↓kw_02, ↓kw_01, ↓pick_210, ↓pick_10, ↓pick_01, ↓pick_0, ↓w_sumF, ↓w_sumT, ↓w_srt, ↓w_maxL, ↓w_minL, ↓wp_starM, ↓wp_consM, ↓w_itT, ↓w_itF, ↓wp_rl2M, ↓wp_rl1M, ↓w_rl, ↓wp_dn3I, ↓w_dn3, ↓wp_mulTM, ↓w_mulT, ↓wp_niDM, ↓wp_inDM, ↓wp_zpM, ↓w_zpFF, ↓wp_isBM, ↓wp_nsBM, ↓w_isBB, ↓w_nsBB, ↓wp_catO, ↓w_catF, ↓kw_04, ↓pick_3210]
      refine ⟨?_, ls ++ [l], l, ?_, by simp, hlm.snoc hr hp.2.2 hp.2.1 ?_, ?_, .inl (by simp), by simpa using hml2, hd7.mono (by simp; omega)⟩
      · rw [List.length_map]
        exact sz_lt (by omega)
      · simp
      · intro y hy
        rcases hlow with hlow | ⟨e, _⟩
        · rw [hlow] at hy
          cases hy
          exact hp.1
        · rw [e] at hy
          simp at hy
      · simp at hlt ⊢
        omega
    · rintro s m'' ⟨ls, low, hx, rfl, hlm, hll, hlow, hml2, hd6⟩
      have hlen : cs.length = ls.length + 1 := by
        have := congrArg List.length hx
        simp at this
        omega
      simp -failIfUnchanged only [↓wp_retE, ↓wp_bad, ↓wp_bnd, ↓wp_nxt, ↓wp_brk, ↓wp_cnt, ↓wp_rtn, ↓wp_seq, ↓wp_iff, ↓wp_fnM, ↓wp_binM, ↓wp_cmpM, ↓wp_idxM, ↓wp_negM, ↓wp_notM, ↓wp_andM, ↓wp_orM, ↓wp_iteM, ↓wp_chnM, ↓wp_chnS, ↓wp_ls0, ↓wp_ls1, ↓wp_tupM, ↓wp_lstM, ↓wp_lshM, ↓wp_ownM, ↓wp_idxL, ↓wp_slcM, ↓wp_noP, ↓wp_soP, ↓wp_calM, ↓wp_isiM, ↓wp_forM, ↓wp_seqI, ↓wp_rng1, ↓wp_rng2, ↓wp_enum, ↓wp_enum2, ↓enum2_t, ↓enum2_f, ↓wp_zip, ↓rng1_int, ↓rng2_int, ↓wp_lcM, ↓wp_lcO, ↓wp_appO, ↓wp_extO, ↓wp_fldM, ↓wp_fldT, ↓wp_mthM, ↓wp_makM, ↓wp_augF, ↓tpT2, ↓nonS_non, ↓wp_subT, ↓w_add, ↓w_sub, ↓w_mul, ↓w_fdiv, ↓w_mod, ↓w_pow, ↓w_shl, ↓w_addT, ↓w_addL, ↓w_lt, ↓w_le, ↓w_gt, ↓w_ge, ↓w_eqI, ↓w_neI, ↓w_eqS, ↓w_neS, ↓w_isN, ↓w_ntN, ↓w_isI, ↓w_ntI, ↓w_isT, ↓w_ntT, ↓w_isF, ↓w_ntF, ↓w_isR, ↓w_ntR, ↓w_isB, ↓w_ntB, ↓w_isS, ↓w_ntS, ↓w_trB, ↓w_trI, ↓w_trN, ↓w_trT, ↓w_trF, ↓w_ixT0, ↓w_ixT1, ↓w_ixT2, ↓w_ixT3, ↓w_ixF0, ↓w_ixF1, ↓w_ixF2, ↓w_ixF3, ↓w_ixS0, ↓w_ixS1, ↓w_ixS2, ↓w_ixS3, ↓w_idL, ↓w_neg, ↓w_slT, ↓w_slF, ↓w_soP, ↓w_lenT, ↓w_lenF, ↓w_lenS, ↓w_abs, ↓w_min, ↓w_max, ↓w_intI, ↓w_intB, ↓w_tupT, ↓w_tupF, ↓w_lstT, ↓w_lstF, ↓w_sum, ↓w_all, ↓w_any, ↓w_is_int_N, ↓w_is_int_B, ↓w_is_int_I, ↓w_is_int_S, ↓w_is_int_T, ↓w_is_int_F, ↓w_is_bl_N, ↓w_is_bl_B, ↓w_is_bl_I, ↓w_is_bl_S, ↓w_is_bl_T, ↓w_is_bl_F, ↓w_is_tup_N, ↓w_is_tup_B, ↓w_is_tup_I, ↓w_is_tup_S, ↓w_is_tup_T, ↓w_is_tup_F, ↓w_is_str_N, ↓w_is_str_B, ↓w_is_str_I, ↓w_is_str_S, ↓w_is_str_T, ↓w_is_str_F, ↓w_is_lst_N, ↓w_is_lst_B, ↓w_is_lst_I, ↓w_is_lst_S, ↓w_is_lst_T, ↓w_is_lst_F, ↓w_guT, ↓w_guF, ↓w_guS, ↓w_lsF, ↓w_enT, ↓w_enF, ↓w_zpT, ↓w_zpF, ↓w_gadd, ↓w_gsub, ↓w_fs1, ↓w_fs2, ↓w_fs3, ↓w_fs4, ↓w_fs5, ↓w_fs6, ↓w_un2, ↓w_un3, ↓w_un4, ↓w_goN, ↓w_goR, ↓w_goB, ↓w_goC, ↓w_feN, ↓w_feR, ↓w_repr, true_and, and_true, and_self, if_true, if_false, Bool.false_eq_true, Bool.not_true, Bool.not_false, decide_true, decide_false, ↓wp_calK, ↓kw_03, ↓kw_02, ↓kw_01, ↓pick_210, ↓pick_10, ↓pick_01, ↓pick_0, ↓w_sumF, ↓w_sumT, ↓w_srt, ↓w_maxL, ↓w_minL, ↓wp_starM, ↓wp_consM, ↓w_itT, ↓w_itF, ↓wp_rl2M, ↓wp_rl1M, ↓w_rl, ↓wp_dn3I, ↓w_dn3, ↓wp_mulTM, ↓w_mulT, ↓wp_niDM, ↓wp_inDM, ↓wp_zpM, ↓w_zpFF, ↓wp_isBM, ↓wp_nsBM, ↓w_isBB, ↓w_nsBB, ↓wp_catO, ↓w_catF, ↓kw_04, ↓pick_3210]
      refine below_wp hd6 (by omega) (by decide) (by decide) fun v1 o5 hv10 hv11 hd7 => ?_
      simp -failIfUnchanged only [↓wp_retE, ↓wp_bad, ↓wp_bnd, ↓wp_nxt, ↓wp_brk, ↓wp_cnt, ↓wp_rtn, ↓wp_seq, ↓wp_iff, ↓wp_fnM, ↓wp_binM, ↓wp_cmpM, ↓wp_idxM, ↓wp_negM, ↓wp_notM, ↓wp_andM, ↓wp_orM, ↓wp_iteM, ↓wp_chnM, ↓wp_chnS, ↓wp_ls0, ↓wp_ls1, ↓wp_tupM, ↓wp_lstM, ↓wp_lshM, ↓wp_ownM, ↓wp_idxL, ↓wp_slcM, ↓wp_noP, ↓wp_soP, ↓wp_calM, ↓wp_isiM, ↓wp_forM, ↓wp_seqI, ↓wp_rng1, ↓wp_rng2, ↓wp_enum, ↓wp_enum2, ↓enum2_t, ↓enum2_f, ↓wp_zip, ↓rng1_int, ↓rng2_int, ↓wp_lcM, ↓wp_lcO, ↓wp_appO, ↓wp_extO, ↓wp_fldM, ↓wp_fldT, ↓wp_mthM, ↓wp_makM, ↓wp_augF, ↓tpT2, ↓nonS_non, ↓wp_subT, ↓w_add, ↓w_sub, ↓w_mul, ↓w_fdiv, ↓w_mod, ↓w_pow, ↓w_shl, ↓w_addT, ↓w_addL, ↓w_lt, ↓w_le, ↓w_gt, ↓w_ge, ↓w_eqI, ↓w_neI, ↓w_eqS, ↓w_neS, ↓w_isN, ↓w_ntN, ↓w_isI, ↓w_ntI, ↓w_isT, ↓w_ntT, ↓w_isF, ↓w_ntF, ↓w_isR, ↓w_ntR, ↓w_isB, ↓w_ntB, ↓w_isS, ↓w_ntS, ↓w_trB, ↓w_trI, ↓w_trN, ↓w_trT, ↓w_trF, ↓w_ixT0, ↓w_ixT1, ↓w_ixT2, ↓w_ixT3, ↓w_ixF0, ↓w_ixF1, ↓w_ixF2, ↓w_ixF3, ↓w_ixS0, ↓w_ixS1, ↓w_ixS2, ↓w_ixS3, ↓w_idL, ↓w_neg, ↓w_slT, ↓w_slF, ↓w_soP, ↓w_lenT, ↓w_lenF, ↓w_lenS, ↓w_abs, ↓w_min, ↓w_max, ↓w_intI, ↓w_intB, ↓w_tupT, ↓w_tupF, ↓w_lstT, ↓w_lstF, ↓w_sum, ↓w_all, ↓w_any, ↓w_is_int_N, ↓w_is_int_B, ↓w_is_int_I, ↓w_is_int_S, ↓w_is_int_T, ↓w_is_int_F, ↓w_is_bl_N, ↓w_is_bl_B, ↓w_is_bl_I, ↓w_is_bl_S, ↓w_is_bl_T, ↓w_is_bl_F, ↓w_is_tup_N, ↓w_is_tup_B, ↓w_is_tup_I, ↓w_is_tup_S, ↓w_is_tup_T, ↓w_is_tup_F, ↓w_is_str_N, ↓w_is_str_B, ↓w_is_str_I, ↓w_is_str_S, ↓w_is_str_T, ↓w_is_str_F, ↓w_is_lst_N, ↓w_is_lst_B, ↓w_is_lst_I, ↓w_is_lst_S, ↓w_is_lst_T, ↓w_is_lst_F, ↓w_guT, ↓w_guF, ↓w_guS, ↓w_lsF, ↓w_enT, ↓w_enF, ↓w_zpT, ↓w_zpF, ↓w_gadd, ↓w_gsub, ↓w_fs1, ↓w_fs2, ↓w_fs3, ↓w_fs4, ↓w_fs5, ↓w_fs6, ↓w_un2, ↓w_un3, ↓w_un4, ↓w_goN, ↓w_goR, ↓w_goB, ↓w_goC, ↓w_feN, ↓w_feR, ↓w_repr, true_and, and_true, and_self, if_true, if_false, Bool.false_eq_true, Bool.not_true, Bool.not_false, decide_true, decide_false, ↓wp_calK, ↓kw_03, ↓kw_02, ↓kw_01, ↓pick_210, ↓pick_10, ↓pick_01, ↓pick_0, ↓w_sumF, ↓w_sumT, ↓w_srt, ↓w_maxL, ↓w_minL, ↓wp_starM, ↓wp_consM, ↓w_itT, ↓w_itF, ↓wp_rl2M, ↓wp_rl1M, ↓w_rl, ↓wp_dn3I, ↓w_dn3, ↓wp_mulTM, ↓w_mulT, ↓wp_niDM, ↓wp_inDM, ↓wp_zpM, ↓w_zpFF, ↓wp_isBM, ↓wp_nsBM, ↓w_isBB, ↓w_nsBB, ↓wp_catO, ↓w_catF, ↓kw_04, ↓pick_3210]
      refine ⟨sz_le (by simp), ?_⟩
      refine pick_wp hd7 (by omega) (by simp) (by simp) fun x o6 hx hd8 => ?_
      have hfx : ∃ fx : Int, x = .int fx ∧ 0 ≤ fx ∧ fx < 20 := by
        simp only [List.mem_cons, List.not_mem_nil, or_false] at hx
        rcases hx with rfl | rfl | rfl | rfl
        · exact ⟨_, rfl, by decide, by decide⟩
        · exact ⟨_, rfl, by decide, by decide⟩
        · exact ⟨_, rfl, by decide, by decide⟩
        · exact ⟨_, rfl, hv10, hv11⟩
      obtain ⟨fx, rfl, hf0, hf1⟩ := hfx
      simp -failIfUnchanged only [↓wp_retE, ↓wp_bad, ↓wp_bnd, ↓wp_nxt, ↓wp_brk, ↓wp_cnt, ↓wp_rtn, ↓wp_seq, ↓wp_iff, ↓wp_fnM, ↓wp_binM, ↓wp_cmpM, ↓wp_idxM, ↓wp_negM, ↓wp_notM, ↓wp_andM, ↓wp_orM, ↓wp_iteM, ↓wp_chnM, ↓wp_chnS, ↓wp_ls0, ↓wp_ls1, ↓wp_tupM, ↓wp_lstM, ↓wp_lshM, ↓wp_ownM, ↓wp_idxL, ↓wp_slcM, ↓wp_noP, ↓wp_soP, ↓wp_calM, ↓wp_isiM, ↓wp_forM, ↓wp_seqI, ↓wp_rng1, ↓wp_rng2, ↓wp_enum, ↓wp_enum2, ↓enum2_t, ↓enum2_f, ↓wp_zip, ↓rng1_int, ↓rng2_int, ↓wp_lcM, ↓wp_lcO, ↓wp_appO, ↓wp_extO, ↓wp_fldM, ↓wp_fldT, ↓wp_mthM, ↓wp_makM, ↓wp_augF, ↓tpT2, ↓nonS_non, ↓wp_subT, ↓w_add, ↓w_sub, ↓w_mul, ↓w_fdiv, ↓w_mod, ↓w_pow, ↓w_shl, ↓w_addT, ↓w_addL, ↓w_lt, ↓w_le, ↓w_gt, ↓w_ge, ↓w_eqI, ↓w_neI, ↓w_eqS, ↓w_neS, ↓w_isN, ↓w_ntN, ↓w_isI, ↓w_ntI, ↓w_isT, ↓w_ntT, ↓w_isF, ↓w_ntF, ↓w_isR, ↓w_ntR, ↓w_isB, ↓w_ntB, ↓w_isS, ↓w_ntS, ↓w_trB, ↓w_trI, ↓w_trN, ↓w_trT, ↓w_trF, ↓w_ixT0, ↓w_ixT1, ↓w_ixT2, ↓w_ixT3, ↓w_ixF0, ↓w_ixF1, ↓w_ixF2, ↓w_ixF3, ↓w_ixS0, ↓w_ixS1, ↓w_ixS2, ↓w_ixS3, ↓w_idL, ↓w_neg, ↓w_slT, ↓w_slF, ↓w_soP, ↓w_lenT, ↓w_lenF, ↓w_lenS, ↓w_abs, ↓w_min, ↓w_max, ↓w_intI, ↓w_intB, ↓w_tupT, ↓w_tupF, ↓w_lstT, ↓w_lstF, ↓w_sum, ↓w_all, ↓w_any, ↓w_is_int_N, ↓w_is_int_B, ↓w_is_int_I, ↓w_is_int_S, ↓w_is_int_T, ↓w_is_int_F, ↓w_is_bl_N, ↓w_is_bl_B, ↓w_is_bl_I, ↓w_is_bl_S, ↓w_is_bl_T, ↓w_is_bl_F, ↓w_is_tup_N, ↓w_is_tup_B, ↓w_is_tup_I, ↓w_is_tup_S, ↓w_is_tup_T, ↓w_is_tup_F, ↓w_is_str_N, ↓w_is_str_B, ↓w_is_str_I, ↓w_is_str_S, ↓w_is_str_T, ↓w_is_str_F, ↓w_is_lst_N, ↓w_is_lst_B, ↓w_is_lst_I, ↓w_is_lst_S, ↓w_is_lst_T, ↓w_is_lst_F, ↓w_guT, ↓w_guF, ↓w_guS, ↓w_lsF, ↓w_enT, ↓w_enF, ↓w_zpT, ↓w_zpF, ↓w_gadd, ↓w_gsub, ↓w_fs1, ↓w_fs2, ↓w_fs3, ↓w_fs4, ↓w_fs5, ↓w_fs6, ↓w_un2, ↓w_un3, ↓w_un4, ↓w_goN, ↓w_goR, ↓w_goB, ↓w_goC, ↓w_feN, ↓w_feR, ↓w_repr, true_and, and_true, and_self, if_true, if_false, Bool.false_eq_true, Bool.not_true, Bool.not_false, decide_true, decide_false, ↓wp_calK, ↓kw_03, ↓kw_02, ↓kw_01, ↓pick_210, ↓pick_10, ↓pick_01, ↓pick_0, ↓w_sumF, ↓w_sumT, ↓w_srt, ↓w_maxL, ↓w_minL, ↓wp_starM, ↓wp_consM, ↓w_itT, ↓w_itF, ↓wp_rl2M, ↓wp_rl1M, ↓w_rl, ↓wp_dn3I, ↓w_dn3, ↓wp_mulTM, ↓w_mulT, ↓wp_niDM, ↓wp_inDM, ↓wp_zpM, ↓w_zpFF, ↓wp_isBM, ↓wp_nsBM, ↓w_isBB, ↓w_nsBB, ↓wp_catO, ↓w_catF, ↓kw_04, ↓pick_3210]
      refine ⟨sz_le (by simp), h cs ls fx _ ⟨hlen, hcv.asc, fun i a hi => (hcv.pos i a hi).1, hlm.asc, fun i a hi => (hlm.ok i a hi).1, fun i a b h1 h2 => ?_⟩ (by omega) (fun i a hi => (hcv.pos i a hi).2) hf0 hf1 (by simpa using hml2) (hd8.mono (by omega))⟩
      obtain ⟨b', hb', hle⟩ := (hlm.ok i a h1).2
      rw [h2] at hb'
      cases hb'
      exact hle

end G.K75

set_option Elab.async false
set_option linter.all false
set_option maxRecDepth 100000
set_option maxHeartbeats 4000000
namespace G.K75
open PySem G
theorem bnds_eq {cs ls : List Int} {fx : Int} (hl : cs.length ≤ 1000) : t_boundaries (pol cs ls fx) = ret (plc (cs.zip ls)) := ret_of fun m Q q => by
  unfold t_boundaries bd_boundaries pol il
  simp -failIfUnchanged only [↓wp_retE, ↓wp_bad, ↓wp_bnd, ↓wp_nxt, ↓wp_brk, ↓wp_cnt, ↓wp_rtn, ↓wp_seq, ↓wp_iff, ↓wp_fnM, ↓wp_binM, ↓wp_cmpM, ↓wp_idxM, ↓wp_negM, ↓wp_notM, ↓wp_andM, ↓wp_orM, ↓wp_iteM, ↓wp_chnM, ↓wp_chnS, ↓wp_ls0, ↓wp_ls1, ↓wp_tupM, ↓wp_lstM, ↓wp_lshM, ↓wp_ownM, ↓wp_idxL, ↓wp_slcM, ↓wp_noP, ↓wp_soP, ↓wp_calM, ↓wp_isiM, ↓wp_forM, ↓wp_seqI, ↓wp_rng1, ↓wp_rng2, ↓wp_enum, ↓wp_enum2, ↓enum2_t, ↓enum2_f, ↓wp_zip, ↓rng1_int, ↓rng2_int, ↓wp_lcM, ↓wp_lcO, ↓wp_appO, ↓wp_extO, ↓wp_fldM, ↓wp_fldT, ↓wp_mthM, ↓wp_makM, ↓wp_augF, ↓tpT2, ↓nonS_non, ↓wp_subT, ↓w_add, ↓w_sub, ↓w_mul, ↓w_fdiv, ↓w_mod, ↓w_pow, ↓w_shl, ↓w_addT, ↓w_addL, ↓w_lt, ↓w_le, ↓w_gt, ↓w_ge, ↓w_eqI, ↓w_neI, ↓w_eqS, ↓w_neS, ↓w_isN, ↓w_ntN, ↓w_isI, ↓w_ntI, ↓w_isT, ↓w_ntT, ↓w_isF, ↓w_ntF, ↓w_isR, ↓w_ntR, ↓w_isB, ↓w_ntB, ↓w_isS, ↓w_ntS, ↓w_trB, ↓w_trI, ↓w_trN, ↓w_trT, ↓w_trF, ↓w_ixT0, ↓w_ixT1, ↓w_ixT2, ↓w_ixT3, ↓w_ixF0, ↓w_ixF1, ↓w_ixF2, ↓w_ixF3, ↓w_ixS0, ↓w_ixS1, ↓w_ixS2, ↓w_ixS3, ↓w_idL, ↓w_neg, ↓w_slT, ↓w_slF, ↓w_soP, ↓w_lenT, ↓w_lenF, ↓w_lenS, ↓w_abs, ↓w_min, ↓w_max, ↓w_intI, ↓w_intB, ↓w_tupT, ↓w_tupF, ↓w_lstT, ↓w_lstF, ↓w_sum, ↓w_all, ↓w_any, ↓w_is_int_N, ↓w_is_int_B, ↓w_is_int_I, ↓w_is_int_S, ↓w_is_int_T, ↓w_is_int_F, ↓w_is_bl_N, ↓w_is_bl_B, ↓w_is_bl_I, ↓w_is_bl_S, ↓w_is_bl_T, ↓w_is_bl_F, ↓w_is_tup_N, ↓w_is_tup_B, ↓w_is_tup_I, ↓w_is_tup_S, ↓w_is_tup_T, ↓w_is_tup_F, ↓w_is_str_N, ↓w_is_str_B, ↓w_is_str_I, ↓w_is_str_S, ↓w_is_str_T, ↓w_is_str_F, ↓w_is_lst_N, ↓w_is_lst_B, ↓w_is_lst_I, ↓w_is_lst_S, ↓w_is_lst_T, ↓w_is_lst_F, ↓w_guT, ↓w_guF, ↓w_guS, ↓w_lsF, ↓w_enT, ↓w_enF, ↓w_zpT, ↓w_zpF, ↓w_gadd, ↓w_gsub, ↓w_fs1, ↓w_fs2, ↓w_fs3, ↓w_fs4, ↓w_fs5, ↓w_fs6, ↓w_un2, ↓w_un3, ↓w_un4, ↓w_goN, ↓w_goR, ↓w_goB, ↓w_goC, ↓w_feN, ↓w_feR, ↓w_repr, true_and, and_true, and_self, if_true, if_false, Bool.false_eq_true, Bool.not_true, Bool.not_false, decide_true, decide_false, ↓wp_calK, ↓kw_03, ↓kw_02, ↓kw_01, ↓pick_210, ↓pick_10, ↓pick_01, ↓pick_0, ↓w_sumF, ↓w_sumT, ↓w_srt, ↓w_maxL, ↓w_minL, ↓wp_starM, ↓wp_consM, ↓w_itT, ↓w_itF, ↓wp_rl2M, ↓wp_rl1M, ↓w_rl, ↓wp_dn3I, ↓w_dn3, ↓wp_mulTM, ↓w_mulT, ↓wp_niDM, ↓wp_inDM, ↓wp_zpM, ↓w_zpFF, ↓wp_isBM, ↓wp_nsBM, ↓w_isBB, ↓w_nsBB, ↓wp_catO, ↓w_catF, ↓kw_04, ↓pick_3210]
  rw [zipL_map]
  refine lc_map_wp id (fun x hx => ?_) (by rw [List.length_map, List.length_zip]; omega) ?_
  · obtain ⟨p, _, rfl⟩ := List.mem_map.1 hx
    rfl
  · rw [List.map_id]
    simp -failIfUnchanged only [↓wp_retE, ↓wp_bad, ↓wp_bnd, ↓wp_nxt, ↓wp_brk, ↓wp_cnt, ↓wp_rtn, ↓wp_seq, ↓wp_iff, ↓wp_fnM, ↓wp_binM, ↓wp_cmpM, ↓wp_idxM, ↓wp_negM, ↓wp_notM, ↓wp_andM, ↓wp_orM, ↓wp_iteM, ↓wp_chnM, ↓wp_chnS, ↓wp_ls0, ↓wp_ls1, ↓wp_tupM, ↓wp_lstM, ↓wp_lshM, ↓wp_ownM, ↓wp_idxL, ↓wp_slcM, ↓wp_noP, ↓wp_soP, ↓wp_calM, ↓wp_isiM, ↓wp_forM, ↓wp_seqI, ↓wp_rng1, ↓wp_rng2, ↓wp_enum, ↓wp_enum2, ↓enum2_t, ↓enum2_f, ↓wp_zip, ↓rng1_int, ↓rng2_int, ↓wp_lcM, ↓wp_lcO, ↓wp_appO, ↓wp_extO, ↓wp_fldM, ↓wp_fldT, ↓wp_mthM, ↓wp_makM, ↓wp_augF, ↓tpT2, ↓nonS_non, ↓wp_subT, ↓w_add, ↓w_sub, ↓w_mul, ↓w_fdiv, ↓w_mod, ↓w_pow, ↓w_shl, ↓w_addT, ↓w_addL, ↓w_lt, ↓w_le, ↓w_gt, ↓w_ge, ↓w_eqI, ↓w_neI, ↓w_eqS, ↓w_neS, ↓w_isN, ↓w_ntN, ↓w_isI, ↓w_ntI, ↓w_isT, ↓w_ntT, ↓w_isF, ↓w_ntF, ↓w_isR, ↓w_ntR, ↓w_isB, ↓w_ntB, ↓w_isS, ↓w_ntS, ↓w_trB, ↓w_trI, ↓w_trN, ↓w_trT, ↓w_trF, ↓w_ixT0, ↓w_ixT1, ↓w_ixT2, ↓w_ixT3, ↓w_ixF0, ↓w_ixF1, ↓w_ixF2, ↓w_ixF3, ↓w_ixS0, ↓w_ixS1, ↓w_ixS2, ↓w_ixS3, ↓w_idL, ↓w_neg, ↓w_slT, ↓w_slF, ↓w_soP, ↓w_lenT, ↓w_lenF, ↓w_lenS, ↓w_abs, ↓w_min, ↓w_max, ↓w_intI, ↓w_intB, ↓w_tupT, ↓w_tupF, ↓w_lstT, ↓w_lstF, ↓w_sum, ↓w_all, ↓w_any, ↓w_is_int_N, ↓w_is_int_B, ↓w_is_int_I, ↓w_is_int_S, ↓w_is_int_T, ↓w_is_int_F, ↓w_is_bl_N, ↓w_is_bl_B, ↓w_is_bl_I, ↓w_is_bl_S, ↓w_is_bl_T, ↓w_is_bl_F, ↓w_is_tup_N, ↓w_is_tup_B, ↓w_is_tup_I, ↓w_is_tup_S, ↓w_is_tup_T, ↓w_is_tup_F, ↓w_is_str_N, ↓w_is_str_B, ↓w_is_str_I, ↓w_is_str_S, ↓w_is_str_T, ↓w_is_str_F, ↓w_is_lst_N, ↓w_is_lst_B, ↓w_is_lst_I, ↓w_is_lst_S, ↓w_is_lst_T, ↓w_is_lst_F, ↓w_guT, ↓w_guF, ↓w_guS, ↓w_lsF, ↓w_enT, ↓w_enF, ↓w_zpT, ↓w_zpF, ↓w_gadd, ↓w_gsub, ↓w_fs1, ↓w_fs2, ↓w_fs3, ↓w_fs4, ↓w_fs5, ↓w_fs6, ↓w_un2, ↓w_un3, ↓w_un4, ↓w_goN, ↓w_goR, ↓w_goB, ↓w_goC, ↓w_feN, ↓w_feR, ↓w_repr, true_and, and_true, and_self, if_true, if_false, Bool.false_eq_true, Bool.not_true, Bool.not_false, decide_true, decide_false, ↓wp_calK, ↓kw_03, ↓kw_02, ↓kw_01, ↓pick_210, ↓pick_10, ↓pick_01, ↓pick_0, ↓w_sumF, ↓w_sumT, ↓w_srt, ↓w_maxL, ↓w_minL, ↓wp_starM, ↓wp_consM, ↓w_itT, ↓w_itF, ↓wp_rl2M, ↓wp_rl1M, ↓w_rl, ↓wp_dn3I, ↓w_dn3, ↓wp_mulTM, ↓w_mulT, ↓wp_niDM, ↓wp_inDM, ↓wp_zpM, ↓w_zpFF, ↓wp_isBM, ↓wp_nsBM, ↓w_isBB, ↓w_nsBB, ↓wp_catO, ↓w_catF, ↓kw_04, ↓pick_3210]
    exact q

end G.K75

set_option Elab.async false
set_option linter.all false
set_option maxRecDepth 100000
set_option maxHeartbeats 4000000
namespace G.K75
open PySem G
theorem swings_ok {cs ls : List Int} {fx : Int} (hpk : PK cs ls fx) : ∃ m', g_swings_of (pol cs ls fx) [] = .ok (.nx ((prsR 0 ls.length).map (swD (cs.zip ls) (2 * fx)))) m' := gen_ok (by
  have hlen := hpk.v.len
  have hzl := hpk.v.zlen
  have hl := hpk.len
  have hf0 := hpk.f0
  have hf1 := hpk.f1
  have bd : ∀ (i : Nat) (p : Int × Int), (cs.zip ls)[i]? = some p → 0 ≤ p.1 ∧ p.1 < 2 ^ 100 ∧ 0 ≤ p.2 ∧ p.2 < 2 ^ 100 := fun i p hp => by
    have h2 := List.of_mem_zip (a := p.1) (b := p.2) (List.mem_of_getElem? hp)
    have := hpk.cB _ h2.1
    have := hpk.lB h2.2
    omega
  have hW : ((prsR 0 ls.length).map (swD (cs.zip ls) (2 * fx))).length ≤ 2500 := by
    rw [List.length_map]
    have h1 := len_prsR (c := ls.length) (a := 0)
    have h2 : ls.length * ls.length ≤ 50 * 50 := Nat.mul_le_mul (by omega) (by omega)
    omega
  unfold g_swings_of
  generalize hP : cs.zip ls = P at *
  generalize hWd : (prsR 0 ls.length).map (swD P (2 * fx)) = W at *
  have hb : t_boundaries (pol cs ls fx) = ret (plc P) := by rw [← hP]; exact bnds_eq (by omega)
  simp -failIfUnchanged only [↓hb, ↓pol_2, ↓wp_forG, ↓wp_retE, ↓wp_bad, ↓wp_bnd, ↓wp_nxt, ↓wp_brk, ↓wp_cnt, ↓wp_rtn, ↓wp_seq, ↓wp_iff, ↓wp_fnM, ↓wp_binM, ↓wp_cmpM, ↓wp_idxM, ↓wp_negM, ↓wp_notM, ↓wp_andM, ↓wp_orM, ↓wp_iteM, ↓wp_chnM, ↓wp_chnS, ↓wp_ls0, ↓wp_ls1, ↓wp_tupM, ↓wp_lstM, ↓wp_lshM, ↓wp_ownM, ↓wp_idxL, ↓wp_slcM, ↓wp_noP, ↓wp_soP, ↓wp_calM, ↓wp_isiM, ↓wp_forM, ↓wp_seqI, ↓wp_rng1, ↓wp_rng2, ↓wp_enum, ↓wp_enum2, ↓enum2_t, ↓enum2_f, ↓wp_zip, ↓rng1_int, ↓rng2_int, ↓wp_lcM, ↓wp_lcO, ↓wp_appO, ↓wp_extO, ↓wp_fldM, ↓wp_fldT, ↓wp_mthM, ↓wp_makM, ↓wp_augF, ↓tpT2, ↓nonS_non, ↓wp_subT, ↓w_add, ↓w_sub, ↓w_mul, ↓w_fdiv, ↓w_mod, ↓w_pow, ↓w_shl, ↓w_addT, ↓w_addL, ↓w_lt, ↓w_le, ↓w_gt, ↓w_ge, ↓w_eqI, ↓w_neI, ↓w_eqS, ↓w_neS, ↓w_isN, ↓w_ntN, ↓w_isI, ↓w_ntI, ↓w_isT, ↓w_ntT, ↓w_isF, ↓w_ntF, ↓w_isR, ↓w_ntR, ↓w_isB, ↓w_ntB, ↓w_isS, ↓w_ntS, ↓w_trB, ↓w_trI, ↓w_trN, ↓w_trT, ↓w_trF, ↓w_ixT0, ↓w_ixT1, ↓w_ixT2, ↓w_ixT3, ↓w_ixF0, ↓w_ixF1, ↓w_ixF2, ↓w_ixF3, ↓w_ixS0, ↓w_ixS1, ↓w_ixS2, ↓w_ixS3, ↓w_idL, ↓w_neg, ↓w_slT, ↓w_slF, ↓w_soP, ↓w_lenT, ↓w_lenF, ↓w_lenS, ↓w_abs, ↓w_min, ↓w_max, ↓w_intI, ↓w_intB, ↓w_tupT, ↓w_tupF, ↓w_lstT, ↓w_lstF, ↓w_sum, ↓w_all, ↓w_any, ↓w_is_int_N, ↓w_is_int_B, ↓w_is_int_I, ↓w_is_int_S, ↓w_is_int_T, ↓w_is_int_F, ↓w_is_bl_N, ↓w_is_bl_B, ↓w_is_bl_I, ↓w_is_bl_S, ↓w_is_bl_T, ↓w_is_bl_F, ↓w_is_tup_N, ↓w_is_tup_B, ↓w_is_tup_I, ↓w_is_tup_S, ↓w_is_tup_T, ↓w_is_tup_F, ↓w_is_str_N, ↓w_is_str_B, ↓w_is_str_I, ↓w_is_str_S, ↓w_is_str_T, ↓w_is_str_F, ↓w_is_lst_N, ↓w_is_lst_B, ↓w_is_lst_I, ↓w_is_lst_S, ↓w_is_lst_T, ↓w_is_lst_F, ↓w_guT, ↓w_guF, ↓w_guS, ↓w_lsF, ↓w_enT, ↓w_enF, ↓w_zpT, ↓w_zpF, ↓w_gadd, ↓w_gsub, ↓w_fs1, ↓w_fs2, ↓w_fs3, ↓w_fs4, ↓w_fs5, ↓w_fs6, ↓w_un2, ↓w_un3, ↓w_un4, ↓w_goN, ↓w_goR, ↓w_goB, ↓w_goC, ↓w_feN, ↓w_feR, ↓w_repr, true_and, and_true, and_self, if_true, if_false, Bool.false_eq_true, Bool.not_true, Bool.not_false, decide_true, decide_false, ↓wp_calK, ↓kw_03, ↓kw_02, ↓kw_01, ↓pick_210, ↓pick_10, ↓pick_01, ↓pick_0, ↓w_sumF, ↓w_sumT, ↓w_srt, ↓w_maxL, ↓w_minL, ↓wp_starM, ↓wp_consM, ↓w_itT, ↓w_itF, ↓wp_rl2M, ↓wp_rl1M, ↓w_rl, ↓wp_dn3I, ↓w_dn3, ↓wp_mulTM, ↓w_mulT, ↓wp_niDM, ↓wp_inDM, ↓wp_zpM, ↓w_zpFF, ↓wp_isBM, ↓wp_nsBM, ↓w_isBB, ↓w_nsBB, ↓wp_catO, ↓w_catF, ↓kw_04, ↓pick_3210]
  refine ⟨mul_ok (by decide) (by decide) (by omega) (by omega), ?_⟩
  unfold plc
  simp -failIfUnchanged only [↓wp_forG, ↓wp_retE, ↓wp_bad, ↓wp_bnd, ↓wp_nxt, ↓wp_brk, ↓wp_cnt, ↓wp_rtn, ↓wp_seq, ↓wp_iff, ↓wp_fnM, ↓wp_binM, ↓wp_cmpM, ↓wp_idxM, ↓wp_negM, ↓wp_notM, ↓wp_andM, ↓wp_orM, ↓wp_iteM, ↓wp_chnM, ↓wp_chnS, ↓wp_ls0, ↓wp_ls1, ↓wp_tupM, ↓wp_lstM, ↓wp_lshM, ↓wp_ownM, ↓wp_idxL, ↓wp_slcM, ↓wp_noP, ↓wp_soP, ↓wp_calM, ↓wp_isiM, ↓wp_forM, ↓wp_seqI, ↓wp_rng1, ↓wp_rng2, ↓wp_enum, ↓wp_enum2, ↓enum2_t, ↓enum2_f, ↓wp_zip, ↓rng1_int, ↓rng2_int, ↓wp_lcM, ↓wp_lcO, ↓wp_appO, ↓wp_extO, ↓wp_fldM, ↓wp_fldT, ↓wp_mthM, ↓wp_makM, ↓wp_augF, ↓tpT2, ↓nonS_non, ↓wp_subT, ↓w_add, ↓w_sub, ↓w_mul, ↓w_fdiv, ↓w_mod, ↓w_pow, ↓w_shl, ↓w_addT, ↓w_addL, ↓w_lt, ↓w_le, ↓w_gt, ↓w_ge, ↓w_eqI, ↓w_neI, ↓w_eqS, ↓w_neS, ↓w_isN, ↓w_ntN, ↓w_isI, ↓w_ntI, ↓w_isT, ↓w_ntT, ↓w_isF, ↓w_ntF, ↓w_isR, ↓w_ntR, ↓w_isB, ↓w_ntB, ↓w_isS, ↓w_ntS, ↓w_trB, ↓w_trI, ↓w_trN, ↓w_trT, ↓w_trF, ↓w_ixT0, ↓w_ixT1, ↓w_ixT2, ↓w_ixT3, ↓w_ixF0, ↓w_ixF1, ↓w_ixF2, ↓w_ixF3, ↓w_ixS0, ↓w_ixS1, ↓w_ixS2, ↓w_ixS3, ↓w_idL, ↓w_neg, ↓w_slT, ↓w_slF, ↓w_soP, ↓w_lenT, ↓w_lenF, ↓w_lenS, ↓w_abs, ↓w_min, ↓w_max, ↓w_intI, ↓w_intB, ↓w_tupT, ↓w_tupF, ↓w_lstT, ↓w_lstF, ↓w_sum, ↓w_all, ↓w_any, ↓w_is_int_N, ↓w_is_int_B, ↓w_is_int_I, ↓w_is_int_S, ↓w_is_int_T, ↓w_is_int_F, ↓w_is_bl_N, ↓w_is_bl_B, ↓w_is_bl_I, ↓w_is_bl_S, ↓w_is_bl_T, ↓w_is_bl_F, ↓w_is_tup_N, ↓w_is_tup_B, ↓w_is_tup_I, ↓w_is_tup_S, ↓w_is_tup_T, ↓w_is_tup_F, ↓w_is_str_N, ↓w_is_str_B, ↓w_is_str_I, ↓w_is_str_S, ↓w_is_str_T, ↓w_is_str_F, ↓w_is_lst_N, ↓w_is_lst_B, ↓w_is_lst_I, ↓w_is_lst_S, ↓w_is_lst_T, ↓w_is_lst_F, ↓w_guT, ↓w_guF, ↓w_guS, ↓w_lsF, ↓w_enT, ↓w_enF, ↓w_zpT, ↓w_zpF, ↓w_gadd, ↓w_gsub, ↓w_fs1, ↓w_fs2, ↓w_fs3, ↓w_fs4, ↓w_fs5, ↓w_fs6, ↓w_un2, ↓w_un3, ↓w_un4, ↓w_goN, ↓w_goR, ↓w_goB, ↓w_goC, ↓w_feN, ↓w_feR, ↓w_repr, true_and, and_true, and_self, if_true, if_false, Bool.false_eq_true, Bool.not_true, Bool.not_false, decide_true, decide_false, ↓wp_calK, ↓kw_03, ↓kw_02, ↓kw_01, ↓pick_210, ↓pick_10, ↓pick_01, ↓pick_0, ↓w_sumF, ↓w_sumT, ↓w_srt, ↓w_maxL, ↓w_minL, ↓wp_starM, ↓wp_consM, ↓w_itT, ↓w_itF, ↓wp_rl2M, ↓wp_rl1M, ↓w_rl, ↓wp_dn3I, ↓w_dn3, ↓wp_mulTM, ↓w_mulT, ↓wp_niDM, ↓wp_inDM, ↓wp_zpM, ↓w_zpFF, ↓wp_isBM, ↓wp_nsBM, ↓w_isBB, ↓w_nsBB, ↓wp_catO, ↓w_catF, ↓kw_04, ↓pick_3210]
  refine ⟨by decide, ?_⟩
  refine forGL_wp (fun xs (s : List D) => ∃ a c, a + c = ls.length ∧ xs = enumL (a + 1 : Nat) ((P.drop a).map prD) ∧ s ++ (prsR a c).map (swD P (2 * fx)) = W) ?_ ?_ _ _ ⟨0, ls.length, by omega, rfl, hWd⟩
  · rintro x xs s ⟨a, c, hac, hx, hs⟩
    cases c with
    | zero =>
      rw [List.drop_eq_nil_of_le (by omega)] at hx
      cases hx
    | succ c =>
      obtain ⟨⟨h0, l0⟩, hp0⟩ := get_ex (l := P) (i := a) (by omega)
      have hb0 := bd a _ hp0
      rw [drop_at hp0, List.map_cons, enumL_cons] at hx
      obtain ⟨rfl, rfl⟩ := List.cons.inj hx
      have ea : ((a + 1 : Nat) : Int) - 1 = (a : Nat) := by omega
      have ec : cutD (P.map prD) (some (a : Nat)) none = (P.drop a).map prD := by
        rw [cut_from (by rw [List.length_map]; omega), List.map_drop]
      have he : ∀ {m : Hs} {R : Its → Hs → Prop}, wp (enum2I (slcM (ret (.tup (P.map prD))) (soP (binM .sub (ret (.int (a + 1 : Nat))) (ret (.int 1)))) noP) (ret (.int (a + 1 : Nat)))) m R = ((-(2 ^ 63) ≤ ((a + 1 : Nat) : Int) ∧ ((a + 1 : Nat) : Int) < 2 ^ 63) ∧ R (enumL (a + 1 : Nat) ((P.drop a).map prD), []) m) := fun {m R} => enum2_of (fun m Q => by
        simp -failIfUnchanged only [ea, ec, ↓wp_retE, ↓wp_bad, ↓wp_bnd, ↓wp_nxt, ↓wp_brk, ↓wp_cnt, ↓wp_rtn, ↓wp_seq, ↓wp_iff, ↓wp_fnM, ↓wp_binM, ↓wp_cmpM, ↓wp_idxM, ↓wp_negM, ↓wp_notM, ↓wp_andM, ↓wp_orM, ↓wp_iteM, ↓wp_chnM, ↓wp_chnS, ↓wp_ls0, ↓wp_ls1, ↓wp_tupM, ↓wp_lstM, ↓wp_lshM, ↓wp_ownM, ↓wp_idxL, ↓wp_slcM, ↓wp_noP, ↓wp_soP, ↓wp_calM, ↓wp_isiM, ↓wp_forM, ↓wp_seqI, ↓wp_rng1, ↓wp_rng2, ↓wp_enum, ↓wp_enum2, ↓enum2_t, ↓enum2_f, ↓wp_zip, ↓rng1_int, ↓rng2_int, ↓wp_lcM, ↓wp_lcO, ↓wp_appO, ↓wp_extO, ↓wp_fldM, ↓wp_fldT, ↓wp_mthM, ↓wp_makM, ↓wp_augF, ↓tpT2, ↓nonS_non, ↓wp_subT, ↓w_add, ↓w_sub, ↓w_mul, ↓w_fdiv, ↓w_mod, ↓w_pow, ↓w_shl, ↓w_addT, ↓w_addL, ↓w_lt, ↓w_le, ↓w_gt, ↓w_ge, ↓w_eqI, ↓w_neI, ↓w_eqS, ↓w_neS, ↓w_isN, ↓w_ntN, ↓w_isI, ↓w_ntI, ↓w_isT, ↓w_ntT, ↓w_isF, ↓w_ntF, ↓w_isR, ↓w_ntR, ↓w_isB, ↓w_ntB, ↓w_isS, ↓w_ntS, ↓w_trB, ↓w_trI, ↓w_trN, ↓w_trT, ↓w_trF, ↓w_ixT0, ↓w_ixT1, ↓w_ixT2, ↓w_ixT3, ↓w_ixF0, ↓w_ixF1, ↓w_ixF2, ↓w_ixF3, ↓w_ixS0, ↓w_ixS1, ↓w_ixS2, ↓w_ixS3, ↓w_idL, ↓w_neg, ↓w_slT, ↓w_slF, ↓w_soP, ↓w_lenT, ↓w_lenF, ↓w_lenS, ↓w_abs, ↓w_min, ↓w_max, ↓w_intI, ↓w_intB, ↓w_tupT, ↓w_tupF, ↓w_lstT, ↓w_lstF, ↓w_sum, ↓w_all, ↓w_any, ↓w_is_int_N, ↓w_is_int_B, ↓w_is_int_I, ↓w_is_int_S, ↓w_is_int_T, ↓w_is_int_F, ↓w_is_bl_N, ↓w_is_bl_B, ↓w_is_bl_I, ↓w_is_bl_S, ↓w_is_bl_T, ↓w_is_bl_F, ↓w_is_tup_N, ↓w_is_tup_B, ↓w_is_tup_I, ↓w_is_tup_S, ↓w_is_tup_T, ↓w_is_tup_F, ↓w_is_str_N, ↓w_is_str_B, ↓w_is_str_I, ↓w_is_str_S, ↓w_is_str_T, ↓w_is_str_F, ↓w_is_lst_N, ↓w_is_lst_B, ↓w_is_lst_I, ↓w_is_lst_S, ↓w_is_lst_T, ↓w_is_lst_F, ↓w_guT, ↓w_guF, ↓w_guS, ↓w_lsF, ↓w_enT, ↓w_enF, ↓w_zpT, ↓w_zpF, ↓w_gadd, ↓w_gsub, ↓w_fs1, ↓w_fs2, ↓w_fs3, ↓w_fs4, ↓w_fs5, ↓w_fs6, ↓w_un2, ↓w_un3, ↓w_un4, ↓w_goN, ↓w_goR, ↓w_goB, ↓w_goC, ↓w_feN, ↓w_feR, ↓w_repr, true_and, and_true, and_self, if_true, if_false, Bool.false_eq_true, Bool.not_true, Bool.not_false, decide_true, decide_false, ↓wp_calK, ↓kw_03, ↓kw_02, ↓kw_01, ↓pick_210, ↓pick_10, ↓pick_01, ↓pick_0, ↓w_sumF, ↓w_sumT, ↓w_srt, ↓w_maxL, ↓w_minL, ↓wp_starM, ↓wp_consM, ↓w_itT, ↓w_itF, ↓wp_rl2M, ↓wp_rl1M, ↓w_rl, ↓wp_dn3I, ↓w_dn3, ↓wp_mulTM, ↓w_mulT, ↓wp_niDM, ↓wp_inDM, ↓wp_zpM, ↓w_zpFF, ↓wp_isBM, ↓wp_nsBM, ↓w_isBB, ↓w_nsBB, ↓wp_catO, ↓w_catF, ↓kw_04, ↓pick_3210]) (fun m Q => wp_retE)
      simp -failIfUnchanged only [↓wp_forG, ↓he, ↓wp_retE, ↓wp_bad, ↓wp_bnd, ↓wp_nxt, ↓wp_brk, ↓wp_cnt, ↓wp_rtn, ↓wp_seq, ↓wp_iff, ↓wp_fnM, ↓wp_binM, ↓wp_cmpM, ↓wp_idxM, ↓wp_negM, ↓wp_notM, ↓wp_andM, ↓wp_orM, ↓wp_iteM, ↓wp_chnM, ↓wp_chnS, ↓wp_ls0, ↓wp_ls1, ↓wp_tupM, ↓wp_lstM, ↓wp_lshM, ↓wp_ownM, ↓wp_idxL, ↓wp_slcM, ↓wp_noP, ↓wp_soP, ↓wp_calM, ↓wp_isiM, ↓wp_forM, ↓wp_seqI, ↓wp_rng1, ↓wp_rng2, ↓wp_enum, ↓wp_enum2, ↓enum2_t, ↓enum2_f, ↓wp_zip, ↓rng1_int, ↓rng2_int, ↓wp_lcM, ↓wp_lcO, ↓wp_appO, ↓wp_extO, ↓wp_fldM, ↓wp_fldT, ↓wp_mthM, ↓wp_makM, ↓wp_augF, ↓tpT2, ↓nonS_non, ↓wp_subT, ↓w_add, ↓w_sub, ↓w_mul, ↓w_fdiv, ↓w_mod, ↓w_pow, ↓w_shl, ↓w_addT, ↓w_addL, ↓w_lt, ↓w_le, ↓w_gt, ↓w_ge, ↓w_eqI, ↓w_neI, ↓w_eqS, ↓w_neS, ↓w_isN, ↓w_ntN, ↓w_isI, ↓w_ntI, ↓w_isT, ↓w_ntT, ↓w_isF, ↓w_ntF, ↓w_isR, ↓w_ntR, ↓w_isB, ↓w_ntB, ↓w_isS, ↓w_ntS, ↓w_trB, ↓w_trI, ↓w_trN, ↓w_trT, ↓w_trF, ↓w_ixT0, ↓w_ixT1, ↓w_ixT2, ↓w_ixT3, ↓w_ixF0, ↓w_ixF1, ↓w_ixF2, ↓w_ixF3, ↓w_ixS0, ↓w_ixS1, ↓w_ixS2, ↓w_ixS3, ↓w_idL, ↓w_neg, ↓w_slT, ↓w_slF, ↓w_soP, ↓w_lenT, ↓w_lenF, ↓w_lenS, ↓w_abs, ↓w_min, ↓w_max, ↓w_intI, ↓w_intB, ↓w_tupT, ↓w_tupF, ↓w_lstT, ↓w_lstF, ↓w_sum, ↓w_all, ↓w_any, ↓w_is_int_N, ↓w_is_int_B, ↓w_is_int_I, ↓w_is_int_S, ↓w_is_int_T, ↓w_is_int_F, ↓w_is_bl_N, ↓w_is_bl_B, ↓w_is_bl_I, ↓w_is_bl_S, ↓w_is_bl_T, ↓w_is_bl_F, ↓w_is_tup_N, ↓w_is_tup_B, ↓w_is_tup_I, ↓w_is_tup_S, ↓w_is_tup_T, ↓w_is_tup_F, ↓w_is_str_N, ↓w_is_str_B, ↓w_is_str_I, ↓w_is_str_S, ↓w_is_str_T, ↓w_is_str_F, ↓w_is_lst_N, ↓w_is_lst_B, ↓w_is_lst_I, ↓w_is_lst_S, ↓w_is_lst_T, ↓w_is_lst_F, ↓w_guT, ↓w_guF, ↓w_guS, ↓w_lsF, ↓w_enT, ↓w_enF, ↓w_zpT, ↓w_zpF, ↓w_gadd, ↓w_gsub, ↓w_fs1, ↓w_fs2, ↓w_fs3, ↓w_fs4, ↓w_fs5, ↓w_fs6, ↓w_un2, ↓w_un3, ↓w_un4, ↓w_goN, ↓w_goR, ↓w_goB, ↓w_goC, ↓w_feN, ↓w_feR, ↓w_repr, true_and, and_true, and_self, if_true, if_false, Bool.false_eq_true, Bool.not_true, Bool.not_false, decide_true, decide_false, ↓wp_calK, ↓kw_03, ↓kw_02, ↓kw_01, ↓pick_210, ↓pick_10, ↓pick_01, ↓pick_0, ↓w_sumF, ↓w_sumT, ↓w_srt, ↓w_maxL, ↓w_minL, ↓wp_starM, ↓wp_consM, ↓w_itT, ↓w_itF, ↓wp_rl2M, ↓wp_rl1M, ↓w_rl, ↓wp_dn3I, ↓w_dn3, ↓wp_mulTM, ↓w_mulT, ↓wp_niDM, ↓wp_inDM, ↓wp_zpM, ↓w_zpFF, ↓wp_isBM, ↓wp_nsBM, ↓w_isBB, ↓w_nsBB, ↓wp_catO, ↓w_catF, ↓kw_04, ↓pick_3210]
      refine ⟨by omega, ?_⟩
      refine forGL_wp (fun xs (s : List D × D) => ∃ b d, b + d = ls.length ∧ a ≤ b ∧ xs = enumL (b + 1 : Nat) ((P.drop b).map prD) ∧ s.2 = .int (sg P (fun q => q.1 + q.2 + 2 * fx) a (b - a)) ∧ s.1 ++ (rowR a b d).map (swD P (2 * fx)) ++ (prsR (a + 1) c).map (swD P (2 * fx)) = W) ?_ ?_ _ _ ⟨a, c + 1, by omega, Nat.le_refl _, rfl, by rw [Nat.sub_self, sg_0], by rw [List.append_assoc, ← List.map_append]; exact hs⟩
      · rintro x xs ⟨s1, s2⟩ ⟨b, d, hbd, hab, hx, hs2, hs1⟩
        cases d with
        | zero =>
          rw [List.drop_eq_nil_of_le (by omega)] at hx
          cases hx
        | succ d =>
          obtain ⟨⟨h1, l1⟩, hp1⟩ := get_ex (l := P) (i := b) (by omega)
          have hb1 := bd b _ hp1
          rw [drop_at hp1, List.map_cons, enumL_cons] at hx
          obtain ⟨rfl, rfl⟩ := List.cons.inj hx
          simp only at hs2 hs1
          subst hs2
          have es := sg_snoc (P := P) (f := fun q => q.1 + q.2 + 2 * fx) (a := a) (n := b - a) (p := (h1, l1)) (by rw [show a + (b - a) = b by omega]; exact hp1)
          have hsw : swD P (2 * fx) (a, b) = .tup [.int (a + 1 : Nat), .int (b + 1 : Nat), .int (sg P (fun q => q.1 + q.2 + 2 * fx) a (b - a) + (h1 + l1 + 2 * fx)), .int (2 * (h1 + 1 - l0))] := by
            unfold swD swN
            simp only [hp1, hp0, Option.getD_some]
            rw [show b + 1 - a = b - a + 1 by omega, es]
          have hsl : s1.length < 2500 := by
            have := congrArg List.length hs1
            simp only [rowR, List.map_cons, List.length_append, List.length_cons] at this
            omega
          simp only [prD]
          simp -failIfUnchanged only [↓wp_yldM, ↓wp_retE, ↓wp_bad, ↓wp_bnd, ↓wp_nxt, ↓wp_brk, ↓wp_cnt, ↓wp_rtn, ↓wp_seq, ↓wp_iff, ↓wp_fnM, ↓wp_binM, ↓wp_cmpM, ↓wp_idxM, ↓wp_negM, ↓wp_notM, ↓wp_andM, ↓wp_orM, ↓wp_iteM, ↓wp_chnM, ↓wp_chnS, ↓wp_ls0, ↓wp_ls1, ↓wp_tupM, ↓wp_lstM, ↓wp_lshM, ↓wp_ownM, ↓wp_idxL, ↓wp_slcM, ↓wp_noP, ↓wp_soP, ↓wp_calM, ↓wp_isiM, ↓wp_forM, ↓wp_seqI, ↓wp_rng1, ↓wp_rng2, ↓wp_enum, ↓wp_enum2, ↓enum2_t, ↓enum2_f, ↓wp_zip, ↓rng1_int, ↓rng2_int, ↓wp_lcM, ↓wp_lcO, ↓wp_appO, ↓wp_extO, ↓wp_fldM, ↓wp_fldT, ↓wp_mthM, ↓wp_makM, ↓wp_augF, ↓tpT2, ↓nonS_non, ↓wp_subT, ↓w_add, ↓w_sub, ↓w_mul, ↓w_fdiv, ↓w_mod, ↓w_pow, ↓w_shl, ↓w_addT, ↓w_addL, ↓w_lt, ↓w_le, ↓w_gt, ↓w_ge, ↓w_eqI, ↓w_neI, ↓w_eqS, ↓w_neS, ↓w_isN, ↓w_ntN, ↓w_isI, ↓w_ntI, ↓w_isT, ↓w_ntT, ↓w_isF, ↓w_ntF, ↓w_isR, ↓w_ntR, ↓w_isB, ↓w_ntB, ↓w_isS, ↓w_ntS, ↓w_trB, ↓w_trI, ↓w_trN, ↓w_trT, ↓w_trF, ↓w_ixT0, ↓w_ixT1, ↓w_ixT2, ↓w_ixT3, ↓w_ixF0, ↓w_ixF1, ↓w_ixF2, ↓w_ixF3, ↓w_ixS0, ↓w_ixS1, ↓w_ixS2, ↓w_ixS3, ↓w_idL, ↓w_neg, ↓w_slT, ↓w_slF, ↓w_soP, ↓w_lenT, ↓w_lenF, ↓w_lenS, ↓w_abs, ↓w_min, ↓w_max, ↓w_intI, ↓w_intB, ↓w_tupT, ↓w_tupF, ↓w_lstT, ↓w_lstF, ↓w_sum, ↓w_all, ↓w_any, ↓w_is_int_N, ↓w_is_int_B, ↓w_is_int_I, ↓w_is_int_S, ↓w_is_int_T, ↓w_is_int_F, ↓w_is_bl_N, ↓w_is_bl_B, ↓w_is_bl_I, ↓w_is_bl_S, ↓w_is_bl_T, ↓w_is_bl_F, ↓w_is_tup_N, ↓w_is_tup_B, ↓w_is_tup_I, ↓w_is_tup_S, ↓w_is_tup_T, ↓w_is_tup_F, ↓w_is_str_N, ↓w_is_str_B, ↓w_is_str_I, ↓w_is_str_S, ↓w_is_str_T, ↓w_is_str_F, ↓w_is_lst_N, ↓w_is_lst_B, ↓w_is_lst_I, ↓w_is_lst_S, ↓w_is_lst_T, ↓w_is_lst_F, ↓w_guT, ↓w_guF, ↓w_guS, ↓w_lsF, ↓w_enT, ↓w_enF, ↓w_zpT, ↓w_zpF, ↓w_gadd, ↓w_gsub, ↓w_fs1, ↓w_fs2, ↓w_fs3, ↓w_fs4, ↓w_fs5, ↓w_fs6, ↓w_un2, ↓w_un3, ↓w_un4, ↓w_goN, ↓w_goR, ↓w_goB, ↓w_goC, ↓w_feN, ↓w_feR, ↓w_repr, true_and, and_true, and_self, if_true, if_false, Bool.false_eq_true, Bool.not_true, Bool.not_false, decide_true, decide_false, ↓wp_calK, ↓kw_03, ↓kw_02, ↓kw_01, ↓pick_210, ↓pick_10, ↓pick_01, ↓pick_0, ↓w_sumF, ↓w_sumT, ↓w_srt, ↓w_maxL, ↓w_minL, ↓wp_starM, ↓wp_consM, ↓w_itT, ↓w_itF, ↓wp_rl2M, ↓wp_rl1M, ↓w_rl, ↓wp_dn3I, ↓w_dn3, ↓wp_mulTM, ↓w_mulT, ↓wp_niDM, ↓wp_inDM, ↓wp_zpM, ↓w_zpFF, ↓wp_isBM, ↓wp_nsBM, ↓w_isBB, ↓w_nsBB, ↓wp_catO, ↓w_catF, ↓kw_04, ↓pick_3210]
          refine ⟨mul_ok (by decide) (by decide) (by simp only at hb1 hb0; omega) (by simp only at hb1 hb0; omega), sz_le (by simp), ⟨rfl, by simp only [pureD, pureL, Bool.and_self], sz_lt (by omega)⟩, ?_⟩
          refine ⟨_, rfl, b + 1, d, by omega, by omega, ?_, ?_, ?_⟩
          · rw [show ((b + 1 : Nat) : Int) + 1 = ((b + 1 + 1 : Nat) : Int) by omega]
          · rw [show b + 1 - a = b - a + 1 by omega, es]
          · rw [← hs1, ← hsw]
            simp only [rowR, List.map_cons, List.append_assoc, List.singleton_append]
      · rintro ⟨s1, s2⟩ ⟨b, d, hbd, hab, hx, hs2, hs1⟩
        have hd : d = 0 := by
          cases d with
          | zero => rfl
          | succ d =>
            obtain ⟨p, hp⟩ := get_ex (l := P) (i := b) (by omega)
            rw [drop_at hp] at hx
            cases hx
        subst hd
        simp -failIfUnchanged only [↓wp_retE, ↓wp_bad, ↓wp_bnd, ↓wp_nxt, ↓wp_brk, ↓wp_cnt, ↓wp_rtn, ↓wp_seq, ↓wp_iff, ↓wp_fnM, ↓wp_binM, ↓wp_cmpM, ↓wp_idxM, ↓wp_negM, ↓wp_notM, ↓wp_andM, ↓wp_orM, ↓wp_iteM, ↓wp_chnM, ↓wp_chnS, ↓wp_ls0, ↓wp_ls1, ↓wp_tupM, ↓wp_lstM, ↓wp_lshM, ↓wp_ownM, ↓wp_idxL, ↓wp_slcM, ↓wp_noP, ↓wp_soP, ↓wp_calM, ↓wp_isiM, ↓wp_forM, ↓wp_seqI, ↓wp_rng1, ↓wp_rng2, ↓wp_enum, ↓wp_enum2, ↓enum2_t, ↓enum2_f, ↓wp_zip, ↓rng1_int, ↓rng2_int, ↓wp_lcM, ↓wp_lcO, ↓wp_appO, ↓wp_extO, ↓wp_fldM, ↓wp_fldT, ↓wp_mthM, ↓wp_makM, ↓wp_augF, ↓tpT2, ↓nonS_non, ↓wp_subT, ↓w_add, ↓w_sub, ↓w_mul, ↓w_fdiv, ↓w_mod, ↓w_pow, ↓w_shl, ↓w_addT, ↓w_addL, ↓w_lt, ↓w_le, ↓w_gt, ↓w_ge, ↓w_eqI, ↓w_neI, ↓w_eqS, ↓w_neS, ↓w_isN, ↓w_ntN, ↓w_isI, ↓w_ntI, ↓w_isT, ↓w_ntT, ↓w_isF, ↓w_ntF, ↓w_isR, ↓w_ntR, ↓w_isB, ↓w_ntB, ↓w_isS, ↓w_ntS, ↓w_trB, ↓w_trI, ↓w_trN, ↓w_trT, ↓w_trF, ↓w_ixT0, ↓w_ixT1, ↓w_ixT2, ↓w_ixT3, ↓w_ixF0, ↓w_ixF1, ↓w_ixF2, ↓w_ixF3, ↓w_ixS0, ↓w_ixS1, ↓w_ixS2, ↓w_ixS3, ↓w_idL, ↓w_neg, ↓w_slT, ↓w_slF, ↓w_soP, ↓w_lenT, ↓w_lenF, ↓w_lenS, ↓w_abs, ↓w_min, ↓w_max, ↓w_intI, ↓w_intB, ↓w_tupT, ↓w_tupF, ↓w_lstT, ↓w_lstF, ↓w_sum, ↓w_all, ↓w_any, ↓w_is_int_N, ↓w_is_int_B, ↓w_is_int_I, ↓w_is_int_S, ↓w_is_int_T, ↓w_is_int_F, ↓w_is_bl_N, ↓w_is_bl_B, ↓w_is_bl_I, ↓w_is_bl_S, ↓w_is_bl_T, ↓w_is_bl_F, ↓w_is_tup_N, ↓w_is_tup_B, ↓w_is_tup_I, ↓w_is_tup_S, ↓w_is_tup_T, ↓w_is_tup_F, ↓w_is_str_N, ↓w_is_str_B, ↓w_is_str_I, ↓w_is_str_S, ↓w_is_str_T, ↓w_is_str_F, ↓w_is_lst_N, ↓w_is_lst_B, ↓w_is_lst_I, ↓w_is_lst_S, ↓w_is_lst_T, ↓w_is_lst_F, ↓w_guT, ↓w_guF, ↓w_guS, ↓w_lsF, ↓w_enT, ↓w_enF, ↓w_zpT, ↓w_zpF, ↓w_gadd, ↓w_gsub, ↓w_fs1, ↓w_fs2, ↓w_fs3, ↓w_fs4, ↓w_fs5, ↓w_fs6, ↓w_un2, ↓w_un3, ↓w_un4, ↓w_goN, ↓w_goR, ↓w_goB, ↓w_goC, ↓w_feN, ↓w_feR, ↓w_repr, true_and, and_true, and_self, if_true, if_false, Bool.false_eq_true, Bool.not_true, Bool.not_false, decide_true, decide_false, ↓wp_calK, ↓kw_03, ↓kw_02, ↓kw_01, ↓pick_210, ↓pick_10, ↓pick_01, ↓pick_0, ↓w_sumF, ↓w_sumT, ↓w_srt, ↓w_maxL, ↓w_minL, ↓wp_starM, ↓wp_consM, ↓w_itT, ↓w_itF, ↓wp_rl2M, ↓wp_rl1M, ↓w_rl, ↓wp_dn3I, ↓w_dn3, ↓wp_mulTM, ↓w_mulT, ↓wp_niDM, ↓wp_inDM, ↓wp_zpM, ↓w_zpFF, ↓wp_isBM, ↓wp_nsBM, ↓w_isBB, ↓w_nsBB, ↓wp_catO, ↓w_catF, ↓kw_04, ↓pick_3210]
        refine ⟨_, rfl, a + 1, c, by omega, ?_, ?_⟩
        · rw [show ((a + 1 : Nat) : Int) + 1 = ((a + 1 + 1 : Nat) : Int) by omega]
        · simpa only [rowR, List.map_nil, List.append_nil] using hs1
  · rintro s ⟨a, c, hac, hx, hs⟩
    have hc : c = 0 := by
      cases c with
      | zero => rfl
      | succ d =>
        obtain ⟨p, hp⟩ := get_ex (l := P) (i := a) (by omega)
        rw [drop_at hp] at hx
        cases hx
    subst hc
    simp -failIfUnchanged only [↓wp_retE, ↓wp_bad, ↓wp_bnd, ↓wp_nxt, ↓wp_brk, ↓wp_cnt, ↓wp_rtn, ↓wp_seq, ↓wp_iff, ↓wp_fnM, ↓wp_binM, ↓wp_cmpM, ↓wp_idxM, ↓wp_negM, ↓wp_notM, ↓wp_andM, ↓wp_orM, ↓wp_iteM, ↓wp_chnM, ↓wp_chnS, ↓wp_ls0, ↓wp_ls1, ↓wp_tupM, ↓wp_lstM, ↓wp_lshM, ↓wp_ownM, ↓wp_idxL, ↓wp_slcM, ↓wp_noP, ↓wp_soP, ↓wp_calM, ↓wp_isiM, ↓wp_forM, ↓wp_seqI, ↓wp_rng1, ↓wp_rng2, ↓wp_enum, ↓wp_enum2, ↓enum2_t, ↓enum2_f, ↓wp_zip, ↓rng1_int, ↓rng2_int, ↓wp_lcM, ↓wp_lcO, ↓wp_appO, ↓wp_extO, ↓wp_fldM, ↓wp_fldT, ↓wp_mthM, ↓wp_makM, ↓wp_augF, ↓tpT2, ↓nonS_non, ↓wp_subT, ↓w_add, ↓w_sub, ↓w_mul, ↓w_fdiv, ↓w_mod, ↓w_pow, ↓w_shl, ↓w_addT, ↓w_addL, ↓w_lt, ↓w_le, ↓w_gt, ↓w_ge, ↓w_eqI, ↓w_neI, ↓w_eqS, ↓w_neS, ↓w_isN, ↓w_ntN, ↓w_isI, ↓w_ntI, ↓w_isT, ↓w_ntT, ↓w_isF, ↓w_ntF, ↓w_isR, ↓w_ntR, ↓w_isB, ↓w_ntB, ↓w_isS, ↓w_ntS, ↓w_trB, ↓w_trI, ↓w_trN, ↓w_trT, ↓w_trF, ↓w_ixT0, ↓w_ixT1, ↓w_ixT2, ↓w_ixT3, ↓w_ixF0, ↓w_ixF1, ↓w_ixF2, ↓w_ixF3, ↓w_ixS0, ↓w_ixS1, ↓w_ixS2, ↓w_ixS3, ↓w_idL, ↓w_neg, ↓w_slT, ↓w_slF, ↓w_soP, ↓w_lenT, ↓w_lenF, ↓w_lenS, ↓w_abs, ↓w_min, ↓w_max, ↓w_intI, ↓w_intB, ↓w_tupT, ↓w_tupF, ↓w_lstT, ↓w_lstF, ↓w_sum, ↓w_all, ↓w_any, ↓w_is_int_N, ↓w_is_int_B, ↓w_is_int_I, ↓w_is_int_S, ↓w_is_int_T, ↓w_is_int_F, ↓w_is_bl_N, ↓w_is_bl_B, ↓w_is_bl_I, ↓w_is_bl_S, ↓w_is_bl_T, ↓w_is_bl_F, ↓w_is_tup_N, ↓w_is_tup_B, ↓w_is_tup_I, ↓w_is_tup_S, ↓w_is_tup_T, ↓w_is_tup_F, ↓w_is_str_N, ↓w_is_str_B, ↓w_is_str_I, ↓w_is_str_S, ↓w_is_str_T, ↓w_is_str_F, ↓w_is_lst_N, ↓w_is_lst_B, ↓w_is_lst_I, ↓w_is_lst_S, ↓w_is_lst_T, ↓w_is_lst_F, ↓w_guT, ↓w_guF, ↓w_guS, ↓w_lsF, ↓w_enT, ↓w_enF, ↓w_zpT, ↓w_zpF, ↓w_gadd, ↓w_gsub, ↓w_fs1, ↓w_fs2, ↓w_fs3, ↓w_fs4, ↓w_fs5, ↓w_fs6, ↓w_un2, ↓w_un3, ↓w_un4, ↓w_goN, ↓w_goR, ↓w_goB, ↓w_goC, ↓w_feN, ↓w_feR, ↓w_repr, true_and, and_true, and_self, if_true, if_false, Bool.false_eq_true, Bool.not_true, Bool.not_false, decide_true, decide_false, ↓wp_calK, ↓kw_03, ↓kw_02, ↓kw_01, ↓pick_210, ↓pick_10, ↓pick_01, ↓pick_0, ↓w_sumF, ↓w_sumT, ↓w_srt, ↓w_maxL, ↓w_minL, ↓wp_starM, ↓wp_consM, ↓w_itT, ↓w_itF, ↓wp_rl2M, ↓wp_rl1M, ↓w_rl, ↓wp_dn3I, ↓w_dn3, ↓wp_mulTM, ↓w_mulT, ↓wp_niDM, ↓wp_inDM, ↓wp_zpM, ↓w_zpFF, ↓wp_isBM, ↓wp_nsBM, ↓w_isBB, ↓w_nsBB, ↓wp_catO, ↓w_catF, ↓kw_04, ↓pick_3210]
    rw [← hs]
    simp only [prsR, List.map_nil, List.append_nil])

end G.K75

set_option Elab.async false
set_option linter.all false
set_option maxRecDepth 100000
set_option maxHeartbeats 4000000
namespace G.K75
open PySem G
theorem less_eqW {a b c d : Int} (ha : Bd 1000 a) (hb : Bd 1000 b) (hc : Bd 1000 c) (hd : Bd 1000 d) : t_is_less (.tup [.int a, .int b]) (.tup [.int c, .int d]) = ret (.bl (decide (a * d < c * b))) := ret_of fun m Q q => by
  unfold t_is_less bd_is_less
  simp -failIfUnchanged only [↓wp_retE, ↓wp_bad, ↓wp_bnd, ↓wp_nxt, ↓wp_brk, ↓wp_cnt, ↓wp_rtn, ↓wp_seq, ↓wp_iff, ↓wp_fnM, ↓wp_binM, ↓wp_cmpM, ↓wp_idxM, ↓wp_negM, ↓wp_notM, ↓wp_andM, ↓wp_orM, ↓wp_iteM, ↓wp_chnM, ↓wp_chnS, ↓wp_ls0, ↓wp_ls1, ↓wp_tupM, ↓wp_lstM, ↓wp_lshM, ↓wp_ownM, ↓wp_idxL, ↓wp_slcM, ↓wp_noP, ↓wp_soP, ↓wp_calM, ↓wp_isiM, ↓wp_forM, ↓wp_seqI, ↓wp_rng1, ↓wp_rng2, ↓wp_enum, ↓wp_enum2, ↓enum2_t, ↓enum2_f, ↓wp_zip, ↓rng1_int, ↓rng2_int, ↓wp_lcM, ↓wp_lcO, ↓wp_appO, ↓wp_extO, ↓wp_fldM, ↓wp_fldT, ↓wp_mthM, ↓wp_makM, ↓wp_augF, ↓tpT2, ↓nonS_non, ↓wp_subT, ↓w_add, ↓w_sub, ↓w_mul, ↓w_fdiv, ↓w_mod, ↓w_pow, ↓w_shl, ↓w_addT, ↓w_addL, ↓w_lt, ↓w_le, ↓w_gt, ↓w_ge, ↓w_eqI, ↓w_neI, ↓w_eqS, ↓w_neS, ↓w_isN, ↓w_ntN, ↓w_isI, ↓w_ntI, ↓w_isT, ↓w_ntT, ↓w_isF, ↓w_ntF, ↓w_isR, ↓w_ntR, ↓w_isB, ↓w_ntB, ↓w_isS, ↓w_ntS, ↓w_trB, ↓w_trI, ↓w_trN, ↓w_trT, ↓w_trF, ↓w_ixT0, ↓w_ixT1, ↓w_ixT2, ↓w_ixT3, ↓w_ixF0, ↓w_ixF1, ↓w_ixF2, ↓w_ixF3, ↓w_ixS0, ↓w_ixS1, ↓w_ixS2, ↓w_ixS3, ↓w_idL, ↓w_neg, ↓w_slT, ↓w_slF, ↓w_soP, ↓w_lenT, ↓w_lenF, ↓w_lenS, ↓w_abs, ↓w_min, ↓w_max, ↓w_intI, ↓w_intB, ↓w_tupT, ↓w_tupF, ↓w_lstT, ↓w_lstF, ↓w_sum, ↓w_all, ↓w_any, ↓w_is_int_N, ↓w_is_int_B, ↓w_is_int_I, ↓w_is_int_S, ↓w_is_int_T, ↓w_is_int_F, ↓w_is_bl_N, ↓w_is_bl_B, ↓w_is_bl_I, ↓w_is_bl_S, ↓w_is_bl_T, ↓w_is_bl_F, ↓w_is_tup_N, ↓w_is_tup_B, ↓w_is_tup_I, ↓w_is_tup_S, ↓w_is_tup_T, ↓w_is_tup_F, ↓w_is_str_N, ↓w_is_str_B, ↓w_is_str_I, ↓w_is_str_S, ↓w_is_str_T, ↓w_is_str_F, ↓w_is_lst_N, ↓w_is_lst_B, ↓w_is_lst_I, ↓w_is_lst_S, ↓w_is_lst_T, ↓w_is_lst_F, ↓w_guT, ↓w_guF, ↓w_guS, ↓w_lsF, ↓w_enT, ↓w_enF, ↓w_zpT, ↓w_zpF, ↓w_gadd, ↓w_gsub, ↓w_fs1, ↓w_fs2, ↓w_fs3, ↓w_fs4, ↓w_fs5, ↓w_fs6, ↓w_un2, ↓w_un3, ↓w_un4, ↓w_goN, ↓w_goR, ↓w_goB, ↓w_goC, ↓w_feN, ↓w_feR, ↓w_repr, true_and, and_true, and_self, if_true, if_false, Bool.false_eq_true, Bool.not_true, Bool.not_false, decide_true, decide_false, ↓wp_calK, ↓kw_03, ↓kw_02, ↓kw_01, ↓pick_210, ↓pick_10, ↓pick_01, ↓pick_0, ↓w_sumF, ↓w_sumT, ↓w_srt, ↓w_maxL, ↓w_minL, ↓wp_starM, ↓wp_consM, ↓w_itT, ↓w_itF, ↓wp_rl2M, ↓wp_rl1M, ↓w_rl, ↓wp_dn3I, ↓w_dn3, ↓wp_mulTM, ↓w_mulT, ↓wp_niDM, ↓wp_inDM, ↓wp_zpM, ↓w_zpFF, ↓wp_isBM, ↓wp_nsBM, ↓w_isBB, ↓w_nsBB, ↓wp_catO, ↓w_catF, ↓kw_04, ↓pick_3210]
  exact ⟨mul_bd ha hd (by decide), mul_bd hc hb (by decide), q⟩
theorem sw_bds {cs ls : List Int} {fx : Int} {p : Nat × Nat} (h : PK cs ls fx) (hp : p ∈ prsR 0 ls.length) : Bd 1000 (swN (cs.zip ls) (2 * fx) p).1 ∧ Bd 1000 (swN (cs.zip ls) (2 * fx) p).2 := by
  have := swN_bd h hp
  exact ⟨(Bd.of (k := 100) (by omega) (by omega)).mono (by decide), (Bd.of (k := 100) (by omega) (by omega)).mono (by decide)⟩
theorem prs_len {ls : List Int} (h : ls.length < 50) : (prsR 0 ls.length).length ≤ 2500 := by
  have h1 := len_prsR (c := ls.length) (a := 0)
  have h2 : ls.length * ls.length ≤ 50 * 50 := Nat.mul_le_mul (by omega) (by omega)
  omega

end G.K75

set_option Elab.async false
set_option linter.all false
set_option maxRecDepth 100000
set_option maxHeartbeats 4000000
namespace G.K75
open PySem G
/-- a fraction in lowest terms -/
def lowD (x y : Nat) : D := .tup [.int (x / Nat.gcd x y : Nat), .int (y / Nat.gcd x y : Nat)]
theorem comdiv_eq {x y : Nat} (hx : x < 2 ^ 200) (hy : y < 2 ^ 200) : t_common_divisor (.int x) (.int y) = ret (.int (Nat.gcd x y : Nat)) := ret_of fun m Q q => by
  unfold t_common_divisor bd_common_divisor
  simp -failIfUnchanged only [↓wp_retE, ↓wp_bad, ↓wp_bnd, ↓wp_nxt, ↓wp_brk, ↓wp_cnt, ↓wp_rtn, ↓wp_seq, ↓wp_iff, ↓wp_fnM, ↓wp_binM, ↓wp_cmpM, ↓wp_idxM, ↓wp_negM, ↓wp_notM, ↓wp_andM, ↓wp_orM, ↓wp_iteM, ↓wp_chnM, ↓wp_chnS, ↓wp_ls0, ↓wp_ls1, ↓wp_tupM, ↓wp_lstM, ↓wp_lshM, ↓wp_ownM, ↓wp_idxL, ↓wp_slcM, ↓wp_noP, ↓wp_soP, ↓wp_calM, ↓wp_isiM, ↓wp_forM, ↓wp_seqI, ↓wp_rng1, ↓wp_rng2, ↓wp_enum, ↓wp_enum2, ↓enum2_t, ↓enum2_f, ↓wp_zip, ↓rng1_int, ↓rng2_int, ↓wp_lcM, ↓wp_lcO, ↓wp_appO, ↓wp_extO, ↓wp_fldM, ↓wp_fldT, ↓wp_mthM, ↓wp_makM, ↓wp_augF, ↓tpT2, ↓nonS_non, ↓wp_subT, ↓w_add, ↓w_sub, ↓w_mul, ↓w_fdiv, ↓w_mod, ↓w_pow, ↓w_shl, ↓w_addT, ↓w_addL, ↓w_lt, ↓w_le, ↓w_gt, ↓w_ge, ↓w_eqI, ↓w_neI, ↓w_eqS, ↓w_neS, ↓w_isN, ↓w_ntN, ↓w_isI, ↓w_ntI, ↓w_isT, ↓w_ntT, ↓w_isF, ↓w_ntF, ↓w_isR, ↓w_ntR, ↓w_isB, ↓w_ntB, ↓w_isS, ↓w_ntS, ↓w_trB, ↓w_trI, ↓w_trN, ↓w_trT, ↓w_trF, ↓w_ixT0, ↓w_ixT1, ↓w_ixT2, ↓w_ixT3, ↓w_ixF0, ↓w_ixF1, ↓w_ixF2, ↓w_ixF3, ↓w_ixS0, ↓w_ixS1, ↓w_ixS2, ↓w_ixS3, ↓w_idL, ↓w_neg, ↓w_slT, ↓w_slF, ↓w_soP, ↓w_lenT, ↓w_lenF, ↓w_lenS, ↓w_abs, ↓w_min, ↓w_max, ↓w_intI, ↓w_intB, ↓w_tupT, ↓w_tupF, ↓w_lstT, ↓w_lstF, ↓w_sum, ↓w_all, ↓w_any, ↓w_is_int_N, ↓w_is_int_B, ↓w_is_int_I, ↓w_is_int_S, ↓w_is_int_T, ↓w_is_int_F, ↓w_is_bl_N, ↓w_is_bl_B, ↓w_is_bl_I, ↓w_is_bl_S, ↓w_is_bl_T, ↓w_is_bl_F, ↓w_is_tup_N, ↓w_is_tup_B, ↓w_is_tup_I, ↓w_is_tup_S, ↓w_is_tup_T, ↓w_is_tup_F, ↓w_is_str_N, ↓w_is_str_B, ↓w_is_str_I, ↓w_is_str_S, ↓w_is_str_T, ↓w_is_str_F, ↓w_is_lst_N, ↓w_is_lst_B, ↓w_is_lst_I, ↓w_is_lst_S, ↓w_is_lst_T, ↓w_is_lst_F, ↓w_guT, ↓w_guF, ↓w_guS, ↓w_lsF, ↓w_enT, ↓w_enF, ↓w_zpT, ↓w_zpF, ↓w_gadd, ↓w_gsub, ↓w_fs1, ↓w_fs2, ↓w_fs3, ↓w_fs4, ↓w_fs5, ↓w_fs6, ↓w_un2, ↓w_un3, ↓w_un4, ↓w_goN, ↓w_goR, ↓w_goB, ↓w_goC, ↓w_feN, ↓w_feR, ↓w_repr, true_and, and_true, and_self, if_true, if_false, Bool.false_eq_true, Bool.not_true, Bool.not_false, decide_true, decide_false, ↓wp_calK, ↓kw_03, ↓kw_02, ↓kw_01, ↓pick_210, ↓pick_10, ↓pick_01, ↓pick_0, ↓w_sumF, ↓w_sumT, ↓w_srt, ↓w_maxL, ↓w_minL, ↓wp_starM, ↓wp_consM, ↓w_itT, ↓w_itF, ↓wp_rl2M, ↓wp_rl1M, ↓w_rl, ↓wp_dn3I, ↓w_dn3, ↓wp_mulTM, ↓w_mulT, ↓wp_niDM, ↓wp_inDM, ↓wp_zpM, ↓w_zpFF, ↓wp_isBM, ↓wp_nsBM, ↓w_isBB, ↓w_nsBB, ↓wp_catO, ↓w_catF, ↓kw_04, ↓pick_3210]
  refine gcd_loop hx hy ?_
  simp -failIfUnchanged only [↓wp_retE, ↓wp_bad, ↓wp_bnd, ↓wp_nxt, ↓wp_brk, ↓wp_cnt, ↓wp_rtn, ↓wp_seq, ↓wp_iff, ↓wp_fnM, ↓wp_binM, ↓wp_cmpM, ↓wp_idxM, ↓wp_negM, ↓wp_notM, ↓wp_andM, ↓wp_orM, ↓wp_iteM, ↓wp_chnM, ↓wp_chnS, ↓wp_ls0, ↓wp_ls1, ↓wp_tupM, ↓wp_lstM, ↓wp_lshM, ↓wp_ownM, ↓wp_idxL, ↓wp_slcM, ↓wp_noP, ↓wp_soP, ↓wp_calM, ↓wp_isiM, ↓wp_forM, ↓wp_seqI, ↓wp_rng1, ↓wp_rng2, ↓wp_enum, ↓wp_enum2, ↓enum2_t, ↓enum2_f, ↓wp_zip, ↓rng1_int, ↓rng2_int, ↓wp_lcM, ↓wp_lcO, ↓wp_appO, ↓wp_extO, ↓wp_fldM, ↓wp_fldT, ↓wp_mthM, ↓wp_makM, ↓wp_augF, ↓tpT2, ↓nonS_non, ↓wp_subT, ↓w_add, ↓w_sub, ↓w_mul, ↓w_fdiv, ↓w_mod, ↓w_pow, ↓w_shl, ↓w_addT, ↓w_addL, ↓w_lt, ↓w_le, ↓w_gt, ↓w_ge, ↓w_eqI, ↓w_neI, ↓w_eqS, ↓w_neS, ↓w_isN, ↓w_ntN, ↓w_isI, ↓w_ntI, ↓w_isT, ↓w_ntT, ↓w_isF, ↓w_ntF, ↓w_isR, ↓w_ntR, ↓w_isB, ↓w_ntB, ↓w_isS, ↓w_ntS, ↓w_trB, ↓w_trI, ↓w_trN, ↓w_trT, ↓w_trF, ↓w_ixT0, ↓w_ixT1, ↓w_ixT2, ↓w_ixT3, ↓w_ixF0, ↓w_ixF1, ↓w_ixF2, ↓w_ixF3, ↓w_ixS0, ↓w_ixS1, ↓w_ixS2, ↓w_ixS3, ↓w_idL, ↓w_neg, ↓w_slT, ↓w_slF, ↓w_soP, ↓w_lenT, ↓w_lenF, ↓w_lenS, ↓w_abs, ↓w_min, ↓w_max, ↓w_intI, ↓w_intB, ↓w_tupT, ↓w_tupF, ↓w_lstT, ↓w_lstF, ↓w_sum, ↓w_all, ↓w_any, ↓w_is_int_N, ↓w_is_int_B, ↓w_is_int_I, ↓w_is_int_S, ↓w_is_int_T, ↓w_is_int_F, ↓w_is_bl_N, ↓w_is_bl_B, ↓w_is_bl_I, ↓w_is_bl_S, ↓w_is_bl_T, ↓w_is_bl_F, ↓w_is_tup_N, ↓w_is_tup_B, ↓w_is_tup_I, ↓w_is_tup_S, ↓w_is_tup_T, ↓w_is_tup_F, ↓w_is_str_N, ↓w_is_str_B, ↓w_is_str_I, ↓w_is_str_S, ↓w_is_str_T, ↓w_is_str_F, ↓w_is_lst_N, ↓w_is_lst_B, ↓w_is_lst_I, ↓w_is_lst_S, ↓w_is_lst_T, ↓w_is_lst_F, ↓w_guT, ↓w_guF, ↓w_guS, ↓w_lsF, ↓w_enT, ↓w_enF, ↓w_zpT, ↓w_zpF, ↓w_gadd, ↓w_gsub, ↓w_fs1, ↓w_fs2, ↓w_fs3, ↓w_fs4, ↓w_fs5, ↓w_fs6, ↓w_un2, ↓w_un3, ↓w_un4, ↓w_goN, ↓w_goR, ↓w_goB, ↓w_goC, ↓w_feN, ↓w_feR, ↓w_repr, true_and, and_true, and_self, if_true, if_false, Bool.false_eq_true, Bool.not_true, Bool.not_false, decide_true, decide_false, ↓wp_calK, ↓kw_03, ↓kw_02, ↓kw_01, ↓pick_210, ↓pick_10, ↓pick_01, ↓pick_0, ↓w_sumF, ↓w_sumT, ↓w_srt, ↓w_maxL, ↓w_minL, ↓wp_starM, ↓wp_consM, ↓w_itT, ↓w_itF, ↓wp_rl2M, ↓wp_rl1M, ↓w_rl, ↓wp_dn3I, ↓w_dn3, ↓wp_mulTM, ↓w_mulT, ↓wp_niDM, ↓wp_inDM, ↓wp_zpM, ↓w_zpFF, ↓wp_isBM, ↓wp_nsBM, ↓w_isBB, ↓w_nsBB, ↓wp_catO, ↓w_catF, ↓kw_04, ↓pick_3210]
  exact q
theorem frac_eq {x y : Nat} (hx : x < 2 ^ 200) (hy : y < 2 ^ 200) (h2 : 0 < y) : t_fraction (.int x) (.int y) = ret (lowD x y) := ret_of fun m Q q => by
  unfold t_fraction bd_fraction
  have hg : 0 < Nat.gcd x y := Nat.gcd_pos_of_pos_right _ h2
  have hg2 : Nat.gcd x y ≤ y := Nat.gcd_le_right _ h2
  simp -failIfUnchanged only [↓comdiv_eq hx hy, sz_2, ↓wp_retE, ↓wp_bad, ↓wp_bnd, ↓wp_nxt, ↓wp_brk, ↓wp_cnt, ↓wp_rtn, ↓wp_seq, ↓wp_iff, ↓wp_fnM, ↓wp_binM, ↓wp_cmpM, ↓wp_idxM, ↓wp_negM, ↓wp_notM, ↓wp_andM, ↓wp_orM, ↓wp_iteM, ↓wp_chnM, ↓wp_chnS, ↓wp_ls0, ↓wp_ls1, ↓wp_tupM, ↓wp_lstM, ↓wp_lshM, ↓wp_ownM, ↓wp_idxL, ↓wp_slcM, ↓wp_noP, ↓wp_soP, ↓wp_calM, ↓wp_isiM, ↓wp_forM, ↓wp_seqI, ↓wp_rng1, ↓wp_rng2, ↓wp_enum, ↓wp_enum2, ↓enum2_t, ↓enum2_f, ↓wp_zip, ↓rng1_int, ↓rng2_int, ↓wp_lcM, ↓wp_lcO, ↓wp_appO, ↓wp_extO, ↓wp_fldM, ↓wp_fldT, ↓wp_mthM, ↓wp_makM, ↓wp_augF, ↓tpT2, ↓nonS_non, ↓wp_subT, ↓w_add, ↓w_sub, ↓w_mul, ↓w_fdiv, ↓w_mod, ↓w_pow, ↓w_shl, ↓w_addT, ↓w_addL, ↓w_lt, ↓w_le, ↓w_gt, ↓w_ge, ↓w_eqI, ↓w_neI, ↓w_eqS, ↓w_neS, ↓w_isN, ↓w_ntN, ↓w_isI, ↓w_ntI, ↓w_isT, ↓w_ntT, ↓w_isF, ↓w_ntF, ↓w_isR, ↓w_ntR, ↓w_isB, ↓w_ntB, ↓w_isS, ↓w_ntS, ↓w_trB, ↓w_trI, ↓w_trN, ↓w_trT, ↓w_trF, ↓w_ixT0, ↓w_ixT1, ↓w_ixT2, ↓w_ixT3, ↓w_ixF0, ↓w_ixF1, ↓w_ixF2, ↓w_ixF3, ↓w_ixS0, ↓w_ixS1, ↓w_ixS2, ↓w_ixS3, ↓w_idL, ↓w_neg, ↓w_slT, ↓w_slF, ↓w_soP, ↓w_lenT, ↓w_lenF, ↓w_lenS, ↓w_abs, ↓w_min, ↓w_max, ↓w_intI, ↓w_intB, ↓w_tupT, ↓w_tupF, ↓w_lstT, ↓w_lstF, ↓w_sum, ↓w_all, ↓w_any, ↓w_is_int_N, ↓w_is_int_B, ↓w_is_int_I, ↓w_is_int_S, ↓w_is_int_T, ↓w_is_int_F, ↓w_is_bl_N, ↓w_is_bl_B, ↓w_is_bl_I, ↓w_is_bl_S, ↓w_is_bl_T, ↓w_is_bl_F, ↓w_is_tup_N, ↓w_is_tup_B, ↓w_is_tup_I, ↓w_is_tup_S, ↓w_is_tup_T, ↓w_is_tup_F, ↓w_is_str_N, ↓w_is_str_B, ↓w_is_str_I, ↓w_is_str_S, ↓w_is_str_T, ↓w_is_str_F, ↓w_is_lst_N, ↓w_is_lst_B, ↓w_is_lst_I, ↓w_is_lst_S, ↓w_is_lst_T, ↓w_is_lst_F, ↓w_guT, ↓w_guF, ↓w_guS, ↓w_lsF, ↓w_enT, ↓w_enF, ↓w_zpT, ↓w_zpF, ↓w_gadd, ↓w_gsub, ↓w_fs1, ↓w_fs2, ↓w_fs3, ↓w_fs4, ↓w_fs5, ↓w_fs6, ↓w_un2, ↓w_un3, ↓w_un4, ↓w_goN, ↓w_goR, ↓w_goB, ↓w_goC, ↓w_feN, ↓w_feR, ↓w_repr, true_and, and_true, and_self, if_true, if_false, Bool.false_eq_true, Bool.not_true, Bool.not_false, decide_true, decide_false, ↓wp_calK, ↓kw_03, ↓kw_02, ↓kw_01, ↓pick_210, ↓pick_10, ↓pick_01, ↓pick_0, ↓w_sumF, ↓w_sumT, ↓w_srt, ↓w_maxL, ↓w_minL, ↓wp_starM, ↓wp_consM, ↓w_itT, ↓w_itF, ↓wp_rl2M, ↓wp_rl1M, ↓w_rl, ↓wp_dn3I, ↓w_dn3, ↓wp_mulTM, ↓w_mulT, ↓wp_niDM, ↓wp_inDM, ↓wp_zpM, ↓w_zpFF, ↓wp_isBM, ↓wp_nsBM, ↓w_isBB, ↓w_nsBB, ↓wp_catO, ↓w_catF, ↓kw_04, ↓pick_3210]
  refine ⟨div_ok (by omega) (by omega), div_ok (by omega) (by omega), ?_⟩
  unfold lowD at q
  rw [Int.natCast_ediv, Int.natCast_ediv] at q
  exact q
end G.K75

set_option Elab.async false
set_option linter.all false
set_option maxRecDepth 100000
set_option maxHeartbeats 4000000
namespace G.K75
open PySem G
theorem dearest_eq {cs ls : List Int} {fx : Int} (h : PK cs ls fx) : t_dearest_swing (pol cs ls fx) = ret (.tup [prI (wst cs ls fx).1, optD (wst cs ls fx).2]) := by
  have hll := h.llen
  have hlen := prs_len (ls := ls) (by omega)
  have hv : pureD (.tup [prI (wst cs ls fx).1, optD (wst cs ls fx).2]) = true := by
    simp only [pureD, pureL, prI, pure_opt, Bool.and_self]
  refine pc1_ret pure_pol hv ?_
  unfold bd_dearest_swing
  simp -failIfUnchanged only [↓wp_forP, ↓wp_retE, ↓wp_bad, ↓wp_bnd, ↓wp_nxt, ↓wp_brk, ↓wp_cnt, ↓wp_rtn, ↓wp_seq, ↓wp_iff, ↓wp_fnM, ↓wp_binM, ↓wp_cmpM, ↓wp_idxM, ↓wp_negM, ↓wp_notM, ↓wp_andM, ↓wp_orM, ↓wp_iteM, ↓wp_chnM, ↓wp_chnS, ↓wp_ls0, ↓wp_ls1, ↓wp_tupM, ↓wp_lstM, ↓wp_lshM, ↓wp_ownM, ↓wp_idxL, ↓wp_slcM, ↓wp_noP, ↓wp_soP, ↓wp_calM, ↓wp_isiM, ↓wp_forM, ↓wp_seqI, ↓wp_rng1, ↓wp_rng2, ↓wp_enum, ↓wp_enum2, ↓enum2_t, ↓enum2_f, ↓wp_zip, ↓rng1_int, ↓rng2_int, ↓wp_lcM, ↓wp_lcO, ↓wp_appO, ↓wp_extO, ↓wp_fldM, ↓wp_fldT, ↓wp_mthM, ↓wp_makM, ↓wp_augF, ↓tpT2, ↓nonS_non, ↓wp_subT, ↓w_add, ↓w_sub, ↓w_mul, ↓w_fdiv, ↓w_mod, ↓w_pow, ↓w_shl, ↓w_addT, ↓w_addL, ↓w_lt, ↓w_le, ↓w_gt, ↓w_ge, ↓w_eqI, ↓w_neI, ↓w_eqS, ↓w_neS, ↓w_isN, ↓w_ntN, ↓w_isI, ↓w_ntI, ↓w_isT, ↓w_ntT, ↓w_isF, ↓w_ntF, ↓w_isR, ↓w_ntR, ↓w_isB, ↓w_ntB, ↓w_isS, ↓w_ntS, ↓w_trB, ↓w_trI, ↓w_trN, ↓w_trT, ↓w_trF, ↓w_ixT0, ↓w_ixT1, ↓w_ixT2, ↓w_ixT3, ↓w_ixF0, ↓w_ixF1, ↓w_ixF2, ↓w_ixF3, ↓w_ixS0, ↓w_ixS1, ↓w_ixS2, ↓w_ixS3, ↓w_idL, ↓w_neg, ↓w_slT, ↓w_slF, ↓w_soP, ↓w_lenT, ↓w_lenF, ↓w_lenS, ↓w_abs, ↓w_min, ↓w_max, ↓w_intI, ↓w_intB, ↓w_tupT, ↓w_tupF, ↓w_lstT, ↓w_lstF, ↓w_sum, ↓w_all, ↓w_any, ↓w_is_int_N, ↓w_is_int_B, ↓w_is_int_I, ↓w_is_int_S, ↓w_is_int_T, ↓w_is_int_F, ↓w_is_bl_N, ↓w_is_bl_B, ↓w_is_bl_I, ↓w_is_bl_S, ↓w_is_bl_T, ↓w_is_bl_F, ↓w_is_tup_N, ↓w_is_tup_B, ↓w_is_tup_I, ↓w_is_tup_S, ↓w_is_tup_T, ↓w_is_tup_F, ↓w_is_str_N, ↓w_is_str_B, ↓w_is_str_I, ↓w_is_str_S, ↓w_is_str_T, ↓w_is_str_F, ↓w_is_lst_N, ↓w_is_lst_B, ↓w_is_lst_I, ↓w_is_lst_S, ↓w_is_lst_T, ↓w_is_lst_F, ↓w_guT, ↓w_guF, ↓w_guS, ↓w_lsF, ↓w_enT, ↓w_enF, ↓w_zpT, ↓w_zpF, ↓w_gadd, ↓w_gsub, ↓w_fs1, ↓w_fs2, ↓w_fs3, ↓w_fs4, ↓w_fs5, ↓w_fs6, ↓w_un2, ↓w_un3, ↓w_un4, ↓w_goN, ↓w_goR, ↓w_goB, ↓w_goC, ↓w_feN, ↓w_feR, ↓w_repr, true_and, and_true, and_self, if_true, if_false, Bool.false_eq_true, Bool.not_true, Bool.not_false, decide_true, decide_false, ↓wp_calK, ↓kw_03, ↓kw_02, ↓kw_01, ↓pick_210, ↓pick_10, ↓pick_01, ↓pick_0, ↓w_sumF, ↓w_sumT, ↓w_srt, ↓w_maxL, ↓w_minL, ↓wp_starM, ↓wp_consM, ↓w_itT, ↓w_itF, ↓wp_rl2M, ↓wp_rl1M, ↓w_rl, ↓wp_dn3I, ↓w_dn3, ↓wp_mulTM, ↓w_mulT, ↓wp_niDM, ↓wp_inDM, ↓wp_zpM, ↓w_zpFF, ↓wp_isBM, ↓wp_nsBM, ↓w_isBB, ↓w_nsBB, ↓wp_catO, ↓w_catF, ↓kw_04, ↓pick_3210]
  refine wp_genS pure_pol (swings_ok h) (by rw [List.length_map]; omega) ?_
  refine forPL_wp (fun xs s => ∃ ps st, (∀ x, x ∈ ps → x ∈ prsR 0 ls.length) ∧ xs = ps.map (swD (cs.zip ls) (2 * fx)) ∧ s = (prI st.1, optD st.2) ∧ OkW ls st ∧ wst cs ls fx = ps.foldl (stW (cs.zip ls) (2 * fx)) st) ?_ ?_ ?_ _ _ ⟨_, ((0, 1), none), fun _ hx => hx, rfl, rfl, OkW.ini, rfl⟩
  · rintro xs s ⟨ps, st, _, _, rfl, _⟩
    simp only [List.all_cons, List.all_nil, slPure, pure_pol, pure_opt, pureD, pureL, prI, Bool.and_self]
  · rintro x xs s ⟨ps, st, hps, hx, rfl, ho, hf⟩
    cases ps with
    | nil => cases hx
    | cons ab r =>
      rw [List.map_cons] at hx
      obtain ⟨rfl, rfl⟩ := List.cons.inj hx
      have hm := hps _ (List.mem_cons_self ..)
      obtain ⟨b1, b2⟩ := sw_bds h hm
      obtain ⟨b3, b4⟩ := ho.bds
      rw [List.foldl_cons] at hf
      have ho2 := ho.step h hm
      unfold swD prI
      by_cases ht : st.1.1 * (swN (cs.zip ls) (2 * fx) ab).2 < (swN (cs.zip ls) (2 * fx) ab).1 * st.1.2
      · simp -failIfUnchanged only [↓less_eqW b3 b4 b1 b2, sz_2, ht, ↓wp_retE, ↓wp_bad, ↓wp_bnd, ↓wp_nxt, ↓wp_brk, ↓wp_cnt, ↓wp_rtn, ↓wp_seq, ↓wp_iff, ↓wp_fnM, ↓wp_binM, ↓wp_cmpM, ↓wp_idxM, ↓wp_negM, ↓wp_notM, ↓wp_andM, ↓wp_orM, ↓wp_iteM, ↓wp_chnM, ↓wp_chnS, ↓wp_ls0, ↓wp_ls1, ↓wp_tupM, ↓wp_lstM, ↓wp_lshM, ↓wp_ownM, ↓wp_idxL, ↓wp_slcM, ↓wp_noP, ↓wp_soP, ↓wp_calM, ↓wp_isiM, ↓wp_forM, ↓wp_seqI, ↓wp_rng1, ↓wp_rng2, ↓wp_enum, ↓wp_enum2, ↓enum2_t, ↓enum2_f, ↓wp_zip, ↓rng1_int, ↓rng2_int, ↓wp_lcM, ↓wp_lcO, ↓wp_appO, ↓wp_extO, ↓wp_fldM, ↓wp_fldT, ↓wp_mthM, ↓wp_makM, ↓wp_augF, ↓tpT2, ↓nonS_non, ↓wp_subT, ↓w_add, ↓w_sub, ↓w_mul, ↓w_fdiv, ↓w_mod, ↓w_pow, ↓w_shl, ↓w_addT, ↓w_addL, ↓w_lt, ↓w_le, ↓w_gt, ↓w_ge, ↓w_eqI, ↓w_neI, ↓w_eqS, ↓w_neS, ↓w_isN, ↓w_ntN, ↓w_isI, ↓w_ntI, ↓w_isT, ↓w_ntT, ↓w_isF, ↓w_ntF, ↓w_isR, ↓w_ntR, ↓w_isB, ↓w_ntB, ↓w_isS, ↓w_ntS, ↓w_trB, ↓w_trI, ↓w_trN, ↓w_trT, ↓w_trF, ↓w_ixT0, ↓w_ixT1, ↓w_ixT2, ↓w_ixT3, ↓w_ixF0, ↓w_ixF1, ↓w_ixF2, ↓w_ixF3, ↓w_ixS0, ↓w_ixS1, ↓w_ixS2, ↓w_ixS3, ↓w_idL, ↓w_neg, ↓w_slT, ↓w_slF, ↓w_soP, ↓w_lenT, ↓w_lenF, ↓w_lenS, ↓w_abs, ↓w_min, ↓w_max, ↓w_intI, ↓w_intB, ↓w_tupT, ↓w_tupF, ↓w_lstT, ↓w_lstF, ↓w_sum, ↓w_all, ↓w_any, ↓w_is_int_N, ↓w_is_int_B, ↓w_is_int_I, ↓w_is_int_S, ↓w_is_int_T, ↓w_is_int_F, ↓w_is_bl_N, ↓w_is_bl_B, ↓w_is_bl_I, ↓w_is_bl_S, ↓w_is_bl_T, ↓w_is_bl_F, ↓w_is_tup_N, ↓w_is_tup_B, ↓w_is_tup_I, ↓w_is_tup_S, ↓w_is_tup_T, ↓w_is_tup_F, ↓w_is_str_N, ↓w_is_str_B, ↓w_is_str_I, ↓w_is_str_S, ↓w_is_str_T, ↓w_is_str_F, ↓w_is_lst_N, ↓w_is_lst_B, ↓w_is_lst_I, ↓w_is_lst_S, ↓w_is_lst_T, ↓w_is_lst_F, ↓w_guT, ↓w_guF, ↓w_guS, ↓w_lsF, ↓w_enT, ↓w_enF, ↓w_zpT, ↓w_zpF, ↓w_gadd, ↓w_gsub, ↓w_fs1, ↓w_fs2, ↓w_fs3, ↓w_fs4, ↓w_fs5, ↓w_fs6, ↓w_un2, ↓w_un3, ↓w_un4, ↓w_goN, ↓w_goR, ↓w_goB, ↓w_goC, ↓w_feN, ↓w_feR, ↓w_repr, true_and, and_true, and_self, if_true, if_false, Bool.false_eq_true, Bool.not_true, Bool.not_false, decide_true, decide_false, ↓wp_calK, ↓kw_03, ↓kw_02, ↓kw_01, ↓pick_210, ↓pick_10, ↓pick_01, ↓pick_0, ↓w_sumF, ↓w_sumT, ↓w_srt, ↓w_maxL, ↓w_minL, ↓wp_starM, ↓wp_consM, ↓w_itT, ↓w_itF, ↓wp_rl2M, ↓wp_rl1M, ↓w_rl, ↓wp_dn3I, ↓w_dn3, ↓wp_mulTM, ↓w_mulT, ↓wp_niDM, ↓wp_inDM, ↓wp_zpM, ↓w_zpFF, ↓wp_isBM, ↓wp_nsBM, ↓w_isBB, ↓w_nsBB, ↓wp_catO, ↓w_catF, ↓kw_04, ↓pick_3210]
        unfold stW at hf ho2
        rw [if_pos ht] at hf ho2
        exact ⟨r, _, fun x hx => hps x (List.mem_cons_of_mem _ hx), rfl, rfl, ho2, hf⟩
      · simp -failIfUnchanged only [↓less_eqW b3 b4 b1 b2, sz_2, ht, ↓wp_retE, ↓wp_bad, ↓wp_bnd, ↓wp_nxt, ↓wp_brk, ↓wp_cnt, ↓wp_rtn, ↓wp_seq, ↓wp_iff, ↓wp_fnM, ↓wp_binM, ↓wp_cmpM, ↓wp_idxM, ↓wp_negM, ↓wp_notM, ↓wp_andM, ↓wp_orM, ↓wp_iteM, ↓wp_chnM, ↓wp_chnS, ↓wp_ls0, ↓wp_ls1, ↓wp_tupM, ↓wp_lstM, ↓wp_lshM, ↓wp_ownM, ↓wp_idxL, ↓wp_slcM, ↓wp_noP, ↓wp_soP, ↓wp_calM, ↓wp_isiM, ↓wp_forM, ↓wp_seqI, ↓wp_rng1, ↓wp_rng2, ↓wp_enum, ↓wp_enum2, ↓enum2_t, ↓enum2_f, ↓wp_zip, ↓rng1_int, ↓rng2_int, ↓wp_lcM, ↓wp_lcO, ↓wp_appO, ↓wp_extO, ↓wp_fldM, ↓wp_fldT, ↓wp_mthM, ↓wp_makM, ↓wp_augF, ↓tpT2, ↓nonS_non, ↓wp_subT, ↓w_add, ↓w_sub, ↓w_mul, ↓w_fdiv, ↓w_mod, ↓w_pow, ↓w_shl, ↓w_addT, ↓w_addL, ↓w_lt, ↓w_le, ↓w_gt, ↓w_ge, ↓w_eqI, ↓w_neI, ↓w_eqS, ↓w_neS, ↓w_isN, ↓w_ntN, ↓w_isI, ↓w_ntI, ↓w_isT, ↓w_ntT, ↓w_isF, ↓w_ntF, ↓w_isR, ↓w_ntR, ↓w_isB, ↓w_ntB, ↓w_isS, ↓w_ntS, ↓w_trB, ↓w_trI, ↓w_trN, ↓w_trT, ↓w_trF, ↓w_ixT0, ↓w_ixT1, ↓w_ixT2, ↓w_ixT3, ↓w_ixF0, ↓w_ixF1, ↓w_ixF2, ↓w_ixF3, ↓w_ixS0, ↓w_ixS1, ↓w_ixS2, ↓w_ixS3, ↓w_idL, ↓w_neg, ↓w_slT, ↓w_slF, ↓w_soP, ↓w_lenT, ↓w_lenF, ↓w_lenS, ↓w_abs, ↓w_min, ↓w_max, ↓w_intI, ↓w_intB, ↓w_tupT, ↓w_tupF, ↓w_lstT, ↓w_lstF, ↓w_sum, ↓w_all, ↓w_any, ↓w_is_int_N, ↓w_is_int_B, ↓w_is_int_I, ↓w_is_int_S, ↓w_is_int_T, ↓w_is_int_F, ↓w_is_bl_N, ↓w_is_bl_B, ↓w_is_bl_I, ↓w_is_bl_S, ↓w_is_bl_T, ↓w_is_bl_F, ↓w_is_tup_N, ↓w_is_tup_B, ↓w_is_tup_I, ↓w_is_tup_S, ↓w_is_tup_T, ↓w_is_tup_F, ↓w_is_str_N, ↓w_is_str_B, ↓w_is_str_I, ↓w_is_str_S, ↓w_is_str_T, ↓w_is_str_F, ↓w_is_lst_N, ↓w_is_lst_B, ↓w_is_lst_I, ↓w_is_lst_S, ↓w_is_lst_T, ↓w_is_lst_F, ↓w_guT, ↓w_guF, ↓w_guS, ↓w_lsF, ↓w_enT, ↓w_enF, ↓w_zpT, ↓w_zpF, ↓w_gadd, ↓w_gsub, ↓w_fs1, ↓w_fs2, ↓w_fs3, ↓w_fs4, ↓w_fs5, ↓w_fs6, ↓w_un2, ↓w_un3, ↓w_un4, ↓w_goN, ↓w_goR, ↓w_goB, ↓w_goC, ↓w_feN, ↓w_feR, ↓w_repr, true_and, and_true, and_self, if_true, if_false, Bool.false_eq_true, Bool.not_true, Bool.not_false, decide_true, decide_false, ↓wp_calK, ↓kw_03, ↓kw_02, ↓kw_01, ↓pick_210, ↓pick_10, ↓pick_01, ↓pick_0, ↓w_sumF, ↓w_sumT, ↓w_srt, ↓w_maxL, ↓w_minL, ↓wp_starM, ↓wp_consM, ↓w_itT, ↓w_itF, ↓wp_rl2M, ↓wp_rl1M, ↓w_rl, ↓wp_dn3I, ↓w_dn3, ↓wp_mulTM, ↓w_mulT, ↓wp_niDM, ↓wp_inDM, ↓wp_zpM, ↓w_zpFF, ↓wp_isBM, ↓wp_nsBM, ↓w_isBB, ↓w_nsBB, ↓wp_catO, ↓w_catF, ↓kw_04, ↓pick_3210]
        unfold stW at hf
        rw [if_neg ht] at hf
        exact ⟨r, st, fun x hx => hps x (List.mem_cons_of_mem _ hx), rfl, rfl, ho, hf⟩
  · rintro s ⟨ps, st, hps, hx, rfl, ho, hf⟩
    have : ps = [] := by simpa using hx.symm
    subst this
    simp -failIfUnchanged only [sz_2, ↓wp_retE, ↓wp_bad, ↓wp_bnd, ↓wp_nxt, ↓wp_brk, ↓wp_cnt, ↓wp_rtn, ↓wp_seq, ↓wp_iff, ↓wp_fnM, ↓wp_binM, ↓wp_cmpM, ↓wp_idxM, ↓wp_negM, ↓wp_notM, ↓wp_andM, ↓wp_orM, ↓wp_iteM, ↓wp_chnM, ↓wp_chnS, ↓wp_ls0, ↓wp_ls1, ↓wp_tupM, ↓wp_lstM, ↓wp_lshM, ↓wp_ownM, ↓wp_idxL, ↓wp_slcM, ↓wp_noP, ↓wp_soP, ↓wp_calM, ↓wp_isiM, ↓wp_forM, ↓wp_seqI, ↓wp_rng1, ↓wp_rng2, ↓wp_enum, ↓wp_enum2, ↓enum2_t, ↓enum2_f, ↓wp_zip, ↓rng1_int, ↓rng2_int, ↓wp_lcM, ↓wp_lcO, ↓wp_appO, ↓wp_extO, ↓wp_fldM, ↓wp_fldT, ↓wp_mthM, ↓wp_makM, ↓wp_augF, ↓tpT2, ↓nonS_non, ↓wp_subT, ↓w_add, ↓w_sub, ↓w_mul, ↓w_fdiv, ↓w_mod, ↓w_pow, ↓w_shl, ↓w_addT, ↓w_addL, ↓w_lt, ↓w_le, ↓w_gt, ↓w_ge, ↓w_eqI, ↓w_neI, ↓w_eqS, ↓w_neS, ↓w_isN, ↓w_ntN, ↓w_isI, ↓w_ntI, ↓w_isT, ↓w_ntT, ↓w_isF, ↓w_ntF, ↓w_isR, ↓w_ntR, ↓w_isB, ↓w_ntB, ↓w_isS, ↓w_ntS, ↓w_trB, ↓w_trI, ↓w_trN, ↓w_trT, ↓w_trF, ↓w_ixT0, ↓w_ixT1, ↓w_ixT2, ↓w_ixT3, ↓w_ixF0, ↓w_ixF1, ↓w_ixF2, ↓w_ixF3, ↓w_ixS0, ↓w_ixS1, ↓w_ixS2, ↓w_ixS3, ↓w_idL, ↓w_neg, ↓w_slT, ↓w_slF, ↓w_soP, ↓w_lenT, ↓w_lenF, ↓w_lenS, ↓w_abs, ↓w_min, ↓w_max, ↓w_intI, ↓w_intB, ↓w_tupT, ↓w_tupF, ↓w_lstT, ↓w_lstF, ↓w_sum, ↓w_all, ↓w_any, ↓w_is_int_N, ↓w_is_int_B, ↓w_is_int_I, ↓w_is_int_S, ↓w_is_int_T, ↓w_is_int_F, ↓w_is_bl_N, ↓w_is_bl_B, ↓w_is_bl_I, ↓w_is_bl_S, ↓w_is_bl_T, ↓w_is_bl_F, ↓w_is_tup_N, ↓w_is_tup_B, ↓w_is_tup_I, ↓w_is_tup_S, ↓w_is_tup_T, ↓w_is_tup_F, ↓w_is_str_N, ↓w_is_str_B, ↓w_is_str_I, ↓w_is_str_S, ↓w_is_str_T, ↓w_is_str_F, ↓w_is_lst_N, ↓w_is_lst_B, ↓w_is_lst_I, ↓w_is_lst_S, ↓w_is_lst_T, ↓w_is_lst_F, ↓w_guT, ↓w_guF, ↓w_guS, ↓w_lsF, ↓w_enT, ↓w_enF, ↓w_zpT, ↓w_zpF, ↓w_gadd, ↓w_gsub, ↓w_fs1, ↓w_fs2, ↓w_fs3, ↓w_fs4, ↓w_fs5, ↓w_fs6, ↓w_un2, ↓w_un3, ↓w_un4, ↓w_goN, ↓w_goR, ↓w_goB, ↓w_goC, ↓w_feN, ↓w_feR, ↓w_repr, true_and, and_true, and_self, if_true, if_false, Bool.false_eq_true, Bool.not_true, Bool.not_false, decide_true, decide_false, ↓wp_calK, ↓kw_03, ↓kw_02, ↓kw_01, ↓pick_210, ↓pick_10, ↓pick_01, ↓pick_0, ↓w_sumF, ↓w_sumT, ↓w_srt, ↓w_maxL, ↓w_minL, ↓wp_starM, ↓wp_consM, ↓w_itT, ↓w_itF, ↓wp_rl2M, ↓wp_rl1M, ↓w_rl, ↓wp_dn3I, ↓w_dn3, ↓wp_mulTM, ↓w_mulT, ↓wp_niDM, ↓wp_inDM, ↓wp_zpM, ↓w_zpFF, ↓wp_isBM, ↓wp_nsBM, ↓w_isBB, ↓w_nsBB, ↓wp_catO, ↓w_catF, ↓kw_04, ↓pick_3210]
    rw [List.foldl_nil] at hf
    rw [hf]
theorem worst_eq {cs ls : List Int} {fx : Int} (h : PK cs ls fx) : t_worst_price (pol cs ls fx) = ret (lowD (wst cs ls fx).1.1.toNat (wst cs ls fx).1.2.toNat) := ret_of fun m Q q => by
  have ho := wst_ok h
  have e := dearest_eq h
  unfold t_worst_price bd_worst_price
  generalize wst cs ls fx = w at *
  obtain ⟨⟨a, b⟩, o⟩ := w
  obtain ⟨h1, h2, h3, h4, _⟩ := ho
  simp only at h1 h2 h3 h4
  obtain ⟨x, rfl⟩ := Int.eq_ofNat_of_zero_le h1
  obtain ⟨y, rfl⟩ := Int.eq_ofNat_of_zero_le (show 0 ≤ b by omega)
  have f := frac_eq (x := x) (y := y) (by omega) (by omega) (by omega)
  unfold prI at e
  simp -failIfUnchanged only [↓e, ↓f, ↓wp_retE, ↓wp_bad, ↓wp_bnd, ↓wp_nxt, ↓wp_brk, ↓wp_cnt, ↓wp_rtn, ↓wp_seq, ↓wp_iff, ↓wp_fnM, ↓wp_binM, ↓wp_cmpM, ↓wp_idxM, ↓wp_negM, ↓wp_notM, ↓wp_andM, ↓wp_orM, ↓wp_iteM, ↓wp_chnM, ↓wp_chnS, ↓wp_ls0, ↓wp_ls1, ↓wp_tupM, ↓wp_lstM, ↓wp_lshM, ↓wp_ownM, ↓wp_idxL, ↓wp_slcM, ↓wp_noP, ↓wp_soP, ↓wp_calM, ↓wp_isiM, ↓wp_forM, ↓wp_seqI, ↓wp_rng1, ↓wp_rng2, ↓wp_enum, ↓wp_enum2, ↓enum2_t, ↓enum2_f, ↓wp_zip, ↓rng1_int, ↓rng2_int, ↓wp_lcM, ↓wp_lcO, ↓wp_appO, ↓wp_extO, ↓wp_fldM, ↓wp_fldT, ↓wp_mthM, ↓wp_makM, ↓wp_augF, ↓tpT2, ↓nonS_non, ↓wp_subT, ↓w_add, ↓w_sub, ↓w_mul, ↓w_fdiv, ↓w_mod, ↓w_pow, ↓w_shl, ↓w_addT, ↓w_addL, ↓w_lt, ↓w_le, ↓w_gt, ↓w_ge, ↓w_eqI, ↓w_neI, ↓w_eqS, ↓w_neS, ↓w_isN, ↓w_ntN, ↓w_isI, ↓w_ntI, ↓w_isT, ↓w_ntT, ↓w_isF, ↓w_ntF, ↓w_isR, ↓w_ntR, ↓w_isB, ↓w_ntB, ↓w_isS, ↓w_ntS, ↓w_trB, ↓w_trI, ↓w_trN, ↓w_trT, ↓w_trF, ↓w_ixT0, ↓w_ixT1, ↓w_ixT2, ↓w_ixT3, ↓w_ixF0, ↓w_ixF1, ↓w_ixF2, ↓w_ixF3, ↓w_ixS0, ↓w_ixS1, ↓w_ixS2, ↓w_ixS3, ↓w_idL, ↓w_neg, ↓w_slT, ↓w_slF, ↓w_soP, ↓w_lenT, ↓w_lenF, ↓w_lenS, ↓w_abs, ↓w_min, ↓w_max, ↓w_intI, ↓w_intB, ↓w_tupT, ↓w_tupF, ↓w_lstT, ↓w_lstF, ↓w_sum, ↓w_all, ↓w_any, ↓w_is_int_N, ↓w_is_int_B, ↓w_is_int_I, ↓w_is_int_S, ↓w_is_int_T, ↓w_is_int_F, ↓w_is_bl_N, ↓w_is_bl_B, ↓w_is_bl_I, ↓w_is_bl_S, ↓w_is_bl_T, ↓w_is_bl_F, ↓w_is_tup_N, ↓w_is_tup_B, ↓w_is_tup_I, ↓w_is_tup_S, ↓w_is_tup_T, ↓w_is_tup_F, ↓w_is_str_N, ↓w_is_str_B, ↓w_is_str_I, ↓w_is_str_S, ↓w_is_str_T, ↓w_is_str_F, ↓w_is_lst_N, ↓w_is_lst_B, ↓w_is_lst_I, ↓w_is_lst_S, ↓w_is_lst_T, ↓w_is_lst_F, ↓w_guT, ↓w_guF, ↓w_guS, ↓w_lsF, ↓w_enT, ↓w_enF, ↓w_zpT, ↓w_zpF, ↓w_gadd, ↓w_gsub, ↓w_fs1, ↓w_fs2, ↓w_fs3, ↓w_fs4, ↓w_fs5, ↓w_fs6, ↓w_un2, ↓w_un3, ↓w_un4, ↓w_goN, ↓w_goR, ↓w_goB, ↓w_goC, ↓w_feN, ↓w_feR, ↓w_repr, true_and, and_true, and_self, if_true, if_false, Bool.false_eq_true, Bool.not_true, Bool.not_false, decide_true, decide_false, ↓wp_calK, ↓kw_03, ↓kw_02, ↓kw_01, ↓pick_210, ↓pick_10, ↓pick_01, ↓pick_0, ↓w_sumF, ↓w_sumT, ↓w_srt, ↓w_maxL, ↓w_minL, ↓wp_starM, ↓wp_consM, ↓w_itT, ↓w_itF, ↓wp_rl2M, ↓wp_rl1M, ↓w_rl, ↓wp_dn3I, ↓w_dn3, ↓wp_mulTM, ↓w_mulT, ↓wp_niDM, ↓wp_inDM, ↓wp_zpM, ↓w_zpFF, ↓wp_isBM, ↓wp_nsBM, ↓w_isBB, ↓w_nsBB, ↓wp_catO, ↓w_catF, ↓kw_04, ↓pick_3210]
  exact q

end G.K75

set_option Elab.async false
set_option linter.all false
set_option maxRecDepth 100000
set_option maxHeartbeats 4000000
namespace G.K75
open PySem G
theorem worstsw_eq {cs ls : List Int} {fx : Int} (h : PK cs ls fx) : t_worst_swing (pol cs ls fx) = ret (optD (wst cs ls fx).2) := ret_of fun m Q q => by
  unfold t_worst_swing bd_worst_swing
  simp -failIfUnchanged only [↓dearest_eq h, ↓wp_retE, ↓wp_bad, ↓wp_bnd, ↓wp_nxt, ↓wp_brk, ↓wp_cnt, ↓wp_rtn, ↓wp_seq, ↓wp_iff, ↓wp_fnM, ↓wp_binM, ↓wp_cmpM, ↓wp_idxM, ↓wp_negM, ↓wp_notM, ↓wp_andM, ↓wp_orM, ↓wp_iteM, ↓wp_chnM, ↓wp_chnS, ↓wp_ls0, ↓wp_ls1, ↓wp_tupM, ↓wp_lstM, ↓wp_lshM, ↓wp_ownM, ↓wp_idxL, ↓wp_slcM, ↓wp_noP, ↓wp_soP, ↓wp_calM, ↓wp_isiM, ↓wp_forM, ↓wp_seqI, ↓wp_rng1, ↓wp_rng2, ↓wp_enum, ↓wp_enum2, ↓enum2_t, ↓enum2_f, ↓wp_zip, ↓rng1_int, ↓rng2_int, ↓wp_lcM, ↓wp_lcO, ↓wp_appO, ↓wp_extO, ↓wp_fldM, ↓wp_fldT, ↓wp_mthM, ↓wp_makM, ↓wp_augF, ↓tpT2, ↓nonS_non, ↓wp_subT, ↓w_add, ↓w_sub, ↓w_mul, ↓w_fdiv, ↓w_mod, ↓w_pow, ↓w_shl, ↓w_addT, ↓w_addL, ↓w_lt, ↓w_le, ↓w_gt, ↓w_ge, ↓w_eqI, ↓w_neI, ↓w_eqS, ↓w_neS, ↓w_isN, ↓w_ntN, ↓w_isI, ↓w_ntI, ↓w_isT, ↓w_ntT, ↓w_isF, ↓w_ntF, ↓w_isR, ↓w_ntR, ↓w_isB, ↓w_ntB, ↓w_isS, ↓w_ntS, ↓w_trB, ↓w_trI, ↓w_trN, ↓w_trT, ↓w_trF, ↓w_ixT0, ↓w_ixT1, ↓w_ixT2, ↓w_ixT3, ↓w_ixF0, ↓w_ixF1, ↓w_ixF2, ↓w_ixF3, ↓w_ixS0, ↓w_ixS1, ↓w_ixS2, ↓w_ixS3, ↓w_idL, ↓w_neg, ↓w_slT, ↓w_slF, ↓w_soP, ↓w_lenT, ↓w_lenF, ↓w_lenS, ↓w_abs, ↓w_min, ↓w_max, ↓w_intI, ↓w_intB, ↓w_tupT, ↓w_tupF, ↓w_lstT, ↓w_lstF, ↓w_sum, ↓w_all, ↓w_any, ↓w_is_int_N, ↓w_is_int_B, ↓w_is_int_I, ↓w_is_int_S, ↓w_is_int_T, ↓w_is_int_F, ↓w_is_bl_N, ↓w_is_bl_B, ↓w_is_bl_I, ↓w_is_bl_S, ↓w_is_bl_T, ↓w_is_bl_F, ↓w_is_tup_N, ↓w_is_tup_B, ↓w_is_tup_I, ↓w_is_tup_S, ↓w_is_tup_T, ↓w_is_tup_F, ↓w_is_str_N, ↓w_is_str_B, ↓w_is_str_I, ↓w_is_str_S, ↓w_is_str_T, ↓w_is_str_F, ↓w_is_lst_N, ↓w_is_lst_B, ↓w_is_lst_I, ↓w_is_lst_S, ↓w_is_lst_T, ↓w_is_lst_F, ↓w_guT, ↓w_guF, ↓w_guS, ↓w_lsF, ↓w_enT, ↓w_enF, ↓w_zpT, ↓w_zpF, ↓w_gadd, ↓w_gsub, ↓w_fs1, ↓w_fs2, ↓w_fs3, ↓w_fs4, ↓w_fs5, ↓w_fs6, ↓w_un2, ↓w_un3, ↓w_un4, ↓w_goN, ↓w_goR, ↓w_goB, ↓w_goC, ↓w_feN, ↓w_feR, ↓w_repr, true_and, and_true, and_self, if_true, if_false, Bool.false_eq_true, Bool.not_true, Bool.not_false, decide_true, decide_false, ↓wp_calK, ↓kw_03, ↓kw_02, ↓kw_01, ↓pick_210, ↓pick_10, ↓pick_01, ↓pick_0, ↓w_sumF, ↓w_sumT, ↓w_srt, ↓w_maxL, ↓w_minL, ↓wp_starM, ↓wp_consM, ↓w_itT, ↓w_itF, ↓wp_rl2M, ↓wp_rl1M, ↓w_rl, ↓wp_dn3I, ↓w_dn3, ↓wp_mulTM, ↓w_mulT, ↓wp_niDM, ↓wp_inDM, ↓wp_zpM, ↓w_zpFF, ↓wp_isBM, ↓wp_nsBM, ↓w_isBB, ↓w_nsBB, ↓wp_catO, ↓w_catF, ↓kw_04, ↓pick_3210]
  exact q

end G.K75

set_option Elab.async false
set_option linter.all false
set_option maxRecDepth 100000
set_option maxHeartbeats 4000000
namespace G.K75
open PySem G
theorem bdN {x : Int} (h0 : -(2 ^ 100) < x) (h : x < 2 ^ 100) : Bd 1000 x := (Bd.of (k := 100) (by omega) (by omega)).mono (by decide)
theorem fr_uniq {x y a b : Nat} (c1 : Nat.Coprime x y) (c2 : Nat.Coprime a b) (hb : 0 < b) (e : x * b = a * y) : x = a ∧ y = b := by
  have d1 : y ∣ b := c1.symm.dvd_of_dvd_mul_left (by rw [e]; exact Nat.dvd_mul_left _ _)
  have d2 : b ∣ y := c2.symm.dvd_of_dvd_mul_left (by rw [← e]; exact Nat.dvd_mul_left _ _)
  have e2 : y = b := Nat.dvd_antisymm d1 d2
  rw [e2] at e
  exact ⟨Nat.eq_of_mul_eq_mul_right hb e, e2⟩
/-- a policy and its worst price in lowest terms -/
structure Wp (e : D × Nat × Nat) : Prop where
  eq : t_worst_price e.1 = ret (.tup [.int e.2.1, .int e.2.2])
  n : e.2.1 < 2 ^ 100
  d : e.2.2 < 2 ^ 100
  p : 0 < e.2.2
  c : Nat.Coprime e.2.1 e.2.2
theorem joint_any {L : List (D × Nat × Nat)} {a b : Nat} (hl : L.length ≤ 1000) (hw : ∀ e, e ∈ L → Wp e) (hle : ∀ e, e ∈ L → e.2.1 * b ≤ a * e.2.2) (hm : (∃ e, e ∈ L ∧ e.2 = (a, b)) ∨ (a = 0 ∧ b = 1)) (hb : 0 < b) (hc : Nat.Coprime a b) :
    starF t_joint_price (L.map (·.1)) = ret (.tup [.int a, .int b]) := by
  unfold starF
  rw [if_pos (by rw [List.length_map]; exact sz_le (by omega))]
  refine ret_of fun m Q q => ?_
  have bd : ∀ {x : Nat}, x < 2 ^ 100 → Bd 1000 (x : Int) := fun {x} hx => bdN (by omega) (by omega)
  unfold t_joint_price bd_joint_price
  simp -failIfUnchanged only [↓wp_retE, ↓wp_bad, ↓wp_bnd, ↓wp_nxt, ↓wp_brk, ↓wp_cnt, ↓wp_rtn, ↓wp_seq, ↓wp_iff, ↓wp_fnM, ↓wp_binM, ↓wp_cmpM, ↓wp_idxM, ↓wp_negM, ↓wp_notM, ↓wp_andM, ↓wp_orM, ↓wp_iteM, ↓wp_chnM, ↓wp_chnS, ↓wp_ls0, ↓wp_ls1, ↓wp_tupM, ↓wp_lstM, ↓wp_lshM, ↓wp_ownM, ↓wp_idxL, ↓wp_slcM, ↓wp_noP, ↓wp_soP, ↓wp_calM, ↓wp_isiM, ↓wp_forM, ↓wp_seqI, ↓wp_rng1, ↓wp_rng2, ↓wp_enum, ↓wp_enum2, ↓enum2_t, ↓enum2_f, ↓wp_zip, ↓rng1_int, ↓rng2_int, ↓wp_lcM, ↓wp_lcO, ↓wp_appO, ↓wp_extO, ↓wp_fldM, ↓wp_fldT, ↓wp_mthM, ↓wp_makM, ↓wp_augF, ↓tpT2, ↓nonS_non, ↓wp_subT, ↓w_add, ↓w_sub, ↓w_mul, ↓w_fdiv, ↓w_mod, ↓w_pow, ↓w_shl, ↓w_addT, ↓w_addL, ↓w_lt, ↓w_le, ↓w_gt, ↓w_ge, ↓w_eqI, ↓w_neI, ↓w_eqS, ↓w_neS, ↓w_isN, ↓w_ntN, ↓w_isI, ↓w_ntI, ↓w_isT, ↓w_ntT, ↓w_isF, ↓w_ntF, ↓w_isR, ↓w_ntR, ↓w_isB, ↓w_ntB, ↓w_isS, ↓w_ntS, ↓w_trB, ↓w_trI, ↓w_trN, ↓w_trT, ↓w_trF, ↓w_ixT0, ↓w_ixT1, ↓w_ixT2, ↓w_ixT3, ↓w_ixF0, ↓w_ixF1, ↓w_ixF2, ↓w_ixF3, ↓w_ixS0, ↓w_ixS1, ↓w_ixS2, ↓w_ixS3, ↓w_idL, ↓w_neg, ↓w_slT, ↓w_slF, ↓w_soP, ↓w_lenT, ↓w_lenF, ↓w_lenS, ↓w_abs, ↓w_min, ↓w_max, ↓w_intI, ↓w_intB, ↓w_tupT, ↓w_tupF, ↓w_lstT, ↓w_lstF, ↓w_sum, ↓w_all, ↓w_any, ↓w_is_int_N, ↓w_is_int_B, ↓w_is_int_I, ↓w_is_int_S, ↓w_is_int_T, ↓w_is_int_F, ↓w_is_bl_N, ↓w_is_bl_B, ↓w_is_bl_I, ↓w_is_bl_S, ↓w_is_bl_T, ↓w_is_bl_F, ↓w_is_tup_N, ↓w_is_tup_B, ↓w_is_tup_I, ↓w_is_tup_S, ↓w_is_tup_T, ↓w_is_tup_F, ↓w_is_str_N, ↓w_is_str_B, ↓w_is_str_I, ↓w_is_str_S, ↓w_is_str_T, ↓w_is_str_F, ↓w_is_lst_N, ↓w_is_lst_B, ↓w_is_lst_I, ↓w_is_lst_S, ↓w_is_lst_T, ↓w_is_lst_F, ↓w_guT, ↓w_guF, ↓w_guS, ↓w_lsF, ↓w_enT, ↓w_enF, ↓w_zpT, ↓w_zpF, ↓w_gadd, ↓w_gsub, ↓w_fs1, ↓w_fs2, ↓w_fs3, ↓w_fs4, ↓w_fs5, ↓w_fs6, ↓w_un2, ↓w_un3, ↓w_un4, ↓w_goN, ↓w_goR, ↓w_goB, ↓w_goC, ↓w_feN, ↓w_feR, ↓w_repr, true_and, and_true, and_self, if_true, if_false, Bool.false_eq_true, Bool.not_true, Bool.not_false, decide_true, decide_false, ↓wp_calK, ↓kw_03, ↓kw_02, ↓kw_01, ↓pick_210, ↓pick_10, ↓pick_01, ↓pick_0, ↓w_sumF, ↓w_sumT, ↓w_srt, ↓w_maxL, ↓w_minL, ↓wp_starM, ↓wp_consM, ↓w_itT, ↓w_itF, ↓wp_rl2M, ↓wp_rl1M, ↓w_rl, ↓wp_dn3I, ↓w_dn3, ↓wp_mulTM, ↓w_mulT, ↓wp_niDM, ↓wp_inDM, ↓wp_zpM, ↓w_zpFF, ↓wp_isBM, ↓wp_nsBM, ↓w_isBB, ↓w_nsBB, ↓wp_catO, ↓w_catF, ↓kw_04, ↓pick_3210]
  refine forL_wp (fun xs s m' => ∃ (L' : List (D × Nat × Nat)) (x y : Nat), (∀ e, e ∈ L' → e ∈ L) ∧ xs = L'.map (·.1) ∧ s = .tup [.int x, .int y] ∧ x < 2 ^ 100 ∧ y < 2 ^ 100 ∧ 0 < y ∧ Nat.Coprime x y ∧ x * b ≤ a * y ∧ ((∃ e, e ∈ L' ∧ e.2 = (a, b)) ∨ a * y ≤ x * b) ∧ m' = m) ?_ ?_ _ _ _ ⟨L, 0, 1, fun _ h => h, rfl, rfl, by decide, by decide, by decide, by decide, by omega, ?_, rfl⟩
  · rintro z xs s m' ⟨L', x, y, hL, hx, rfl, hx1, hy1, hy0, hcx, hxa, hmx, rfl⟩
    cases L' with
    | nil => cases hx
    | cons e L' =>
      rw [List.map_cons] at hx
      obtain ⟨rfl, rfl⟩ := List.cons.inj hx
      have w := hw e (hL e (List.mem_cons_self ..))
      have le := hle e (hL e (List.mem_cons_self ..))
      have hL' : ∀ e, e ∈ L' → e ∈ L := fun e he => hL e (List.mem_cons_of_mem _ he)
      have w1 := w.eq
      have s1 := less_eqW (bd hx1) (bd hy1) (bd w.n) (bd w.d)
      simp -failIfUnchanged only [↓w1, ↓s1, ↓wp_retE, ↓wp_bad, ↓wp_bnd, ↓wp_nxt, ↓wp_brk, ↓wp_cnt, ↓wp_rtn, ↓wp_seq, ↓wp_iff, ↓wp_fnM, ↓wp_binM, ↓wp_cmpM, ↓wp_idxM, ↓wp_negM, ↓wp_notM, ↓wp_andM, ↓wp_orM, ↓wp_iteM, ↓wp_chnM, ↓wp_chnS, ↓wp_ls0, ↓wp_ls1, ↓wp_tupM, ↓wp_lstM, ↓wp_lshM, ↓wp_ownM, ↓wp_idxL, ↓wp_slcM, ↓wp_noP, ↓wp_soP, ↓wp_calM, ↓wp_isiM, ↓wp_forM, ↓wp_seqI, ↓wp_rng1, ↓wp_rng2, ↓wp_enum, ↓wp_enum2, ↓enum2_t, ↓enum2_f, ↓wp_zip, ↓rng1_int, ↓rng2_int, ↓wp_lcM, ↓wp_lcO, ↓wp_appO, ↓wp_extO, ↓wp_fldM, ↓wp_fldT, ↓wp_mthM, ↓wp_makM, ↓wp_augF, ↓tpT2, ↓nonS_non, ↓wp_subT, ↓w_add, ↓w_sub, ↓w_mul, ↓w_fdiv, ↓w_mod, ↓w_pow, ↓w_shl, ↓w_addT, ↓w_addL, ↓w_lt, ↓w_le, ↓w_gt, ↓w_ge, ↓w_eqI, ↓w_neI, ↓w_eqS, ↓w_neS, ↓w_isN, ↓w_ntN, ↓w_isI, ↓w_ntI, ↓w_isT, ↓w_ntT, ↓w_isF, ↓w_ntF, ↓w_isR, ↓w_ntR, ↓w_isB, ↓w_ntB, ↓w_isS, ↓w_ntS, ↓w_trB, ↓w_trI, ↓w_trN, ↓w_trT, ↓w_trF, ↓w_ixT0, ↓w_ixT1, ↓w_ixT2, ↓w_ixT3, ↓w_ixF0, ↓w_ixF1, ↓w_ixF2, ↓w_ixF3, ↓w_ixS0, ↓w_ixS1, ↓w_ixS2, ↓w_ixS3, ↓w_idL, ↓w_neg, ↓w_slT, ↓w_slF, ↓w_soP, ↓w_lenT, ↓w_lenF, ↓w_lenS, ↓w_abs, ↓w_min, ↓w_max, ↓w_intI, ↓w_intB, ↓w_tupT, ↓w_tupF, ↓w_lstT, ↓w_lstF, ↓w_sum, ↓w_all, ↓w_any, ↓w_is_int_N, ↓w_is_int_B, ↓w_is_int_I, ↓w_is_int_S, ↓w_is_int_T, ↓w_is_int_F, ↓w_is_bl_N, ↓w_is_bl_B, ↓w_is_bl_I, ↓w_is_bl_S, ↓w_is_bl_T, ↓w_is_bl_F, ↓w_is_tup_N, ↓w_is_tup_B, ↓w_is_tup_I, ↓w_is_tup_S, ↓w_is_tup_T, ↓w_is_tup_F, ↓w_is_str_N, ↓w_is_str_B, ↓w_is_str_I, ↓w_is_str_S, ↓w_is_str_T, ↓w_is_str_F, ↓w_is_lst_N, ↓w_is_lst_B, ↓w_is_lst_I, ↓w_is_lst_S, ↓w_is_lst_T, ↓w_is_lst_F, ↓w_guT, ↓w_guF, ↓w_guS, ↓w_lsF, ↓w_enT, ↓w_enF, ↓w_zpT, ↓w_zpF, ↓w_gadd, ↓w_gsub, ↓w_fs1, ↓w_fs2, ↓w_fs3, ↓w_fs4, ↓w_fs5, ↓w_fs6, ↓w_un2, ↓w_un3, ↓w_un4, ↓w_goN, ↓w_goR, ↓w_goB, ↓w_goC, ↓w_feN, ↓w_feR, ↓w_repr, true_and, and_true, and_self, if_true, if_false, Bool.false_eq_true, Bool.not_true, Bool.not_false, decide_true, decide_false, ↓wp_calK, ↓kw_03, ↓kw_02, ↓kw_01, ↓pick_210, ↓pick_10, ↓pick_01, ↓pick_0, ↓w_sumF, ↓w_sumT, ↓w_srt, ↓w_maxL, ↓w_minL, ↓wp_starM, ↓wp_consM, ↓w_itT, ↓w_itF, ↓wp_rl2M, ↓wp_rl1M, ↓w_rl, ↓wp_dn3I, ↓w_dn3, ↓wp_mulTM, ↓w_mulT, ↓wp_niDM, ↓wp_inDM, ↓wp_zpM, ↓w_zpFF, ↓wp_isBM, ↓wp_nsBM, ↓w_isBB, ↓w_nsBB, ↓wp_catO, ↓w_catF, ↓kw_04, ↓pick_3210]
      by_cases h0 : (x : Int) * (e.2.2 : Nat) < (e.2.1 : Nat) * (y : Nat)
      · have h1 : x * e.2.2 < e.2.1 * y := by exact_mod_cast h0
        simp -failIfUnchanged only [h0, ↓wp_retE, ↓wp_bad, ↓wp_bnd, ↓wp_nxt, ↓wp_brk, ↓wp_cnt, ↓wp_rtn, ↓wp_seq, ↓wp_iff, ↓wp_fnM, ↓wp_binM, ↓wp_cmpM, ↓wp_idxM, ↓wp_negM, ↓wp_notM, ↓wp_andM, ↓wp_orM, ↓wp_iteM, ↓wp_chnM, ↓wp_chnS, ↓wp_ls0, ↓wp_ls1, ↓wp_tupM, ↓wp_lstM, ↓wp_lshM, ↓wp_ownM, ↓wp_idxL, ↓wp_slcM, ↓wp_noP, ↓wp_soP, ↓wp_calM, ↓wp_isiM, ↓wp_forM, ↓wp_seqI, ↓wp_rng1, ↓wp_rng2, ↓wp_enum, ↓wp_enum2, ↓enum2_t, ↓enum2_f, ↓wp_zip, ↓rng1_int, ↓rng2_int, ↓wp_lcM, ↓wp_lcO, ↓wp_appO, ↓wp_extO, ↓wp_fldM, ↓wp_fldT, ↓wp_mthM, ↓wp_makM, ↓wp_augF, ↓tpT2, ↓nonS_non, ↓wp_subT, ↓w_add, ↓w_sub, ↓w_mul, ↓w_fdiv, ↓w_mod, ↓w_pow, ↓w_shl, ↓w_addT, ↓w_addL, ↓w_lt, ↓w_le, ↓w_gt, ↓w_ge, ↓w_eqI, ↓w_neI, ↓w_eqS, ↓w_neS, ↓w_isN, ↓w_ntN, ↓w_isI, ↓w_ntI, ↓w_isT, ↓w_ntT, ↓w_isF, ↓w_ntF, ↓w_isR, ↓w_ntR, ↓w_isB, ↓w_ntB, ↓w_isS, ↓w_ntS, ↓w_trB, ↓w_trI, ↓w_trN, ↓w_trT, ↓w_trF, ↓w_ixT0, ↓w_ixT1, ↓w_ixT2, ↓w_ixT3, ↓w_ixF0, ↓w_ixF1, ↓w_ixF2, ↓w_ixF3, ↓w_ixS0, ↓w_ixS1, ↓w_ixS2, ↓w_ixS3, ↓w_idL, ↓w_neg, ↓w_slT, ↓w_slF, ↓w_soP, ↓w_lenT, ↓w_lenF, ↓w_lenS, ↓w_abs, ↓w_min, ↓w_max, ↓w_intI, ↓w_intB, ↓w_tupT, ↓w_tupF, ↓w_lstT, ↓w_lstF, ↓w_sum, ↓w_all, ↓w_any, ↓w_is_int_N, ↓w_is_int_B, ↓w_is_int_I, ↓w_is_int_S, ↓w_is_int_T, ↓w_is_int_F, ↓w_is_bl_N, ↓w_is_bl_B, ↓w_is_bl_I, ↓w_is_bl_S, ↓w_is_bl_T, ↓w_is_bl_F, ↓w_is_tup_N, ↓w_is_tup_B, ↓w_is_tup_I, ↓w_is_tup_S, ↓w_is_tup_T, ↓w_is_tup_F, ↓w_is_str_N, ↓w_is_str_B, ↓w_is_str_I, ↓w_is_str_S, ↓w_is_str_T, ↓w_is_str_F, ↓w_is_lst_N, ↓w_is_lst_B, ↓w_is_lst_I, ↓w_is_lst_S, ↓w_is_lst_T, ↓w_is_lst_F, ↓w_guT, ↓w_guF, ↓w_guS, ↓w_lsF, ↓w_enT, ↓w_enF, ↓w_zpT, ↓w_zpF, ↓w_gadd, ↓w_gsub, ↓w_fs1, ↓w_fs2, ↓w_fs3, ↓w_fs4, ↓w_fs5, ↓w_fs6, ↓w_un2, ↓w_un3, ↓w_un4, ↓w_goN, ↓w_goR, ↓w_goB, ↓w_goC, ↓w_feN, ↓w_feR, ↓w_repr, true_and, and_true, and_self, if_true, if_false, Bool.false_eq_true, Bool.not_true, Bool.not_false, decide_true, decide_false, ↓wp_calK, ↓kw_03, ↓kw_02, ↓kw_01, ↓pick_210, ↓pick_10, ↓pick_01, ↓pick_0, ↓w_sumF, ↓w_sumT, ↓w_srt, ↓w_maxL, ↓w_minL, ↓wp_starM, ↓wp_consM, ↓w_itT, ↓w_itF, ↓wp_rl2M, ↓wp_rl1M, ↓w_rl, ↓wp_dn3I, ↓w_dn3, ↓wp_mulTM, ↓w_mulT, ↓wp_niDM, ↓wp_inDM, ↓wp_zpM, ↓w_zpFF, ↓wp_isBM, ↓wp_nsBM, ↓w_isBB, ↓w_nsBB, ↓wp_catO, ↓w_catF, ↓kw_04, ↓pick_3210]
        refine ⟨L', _, _, hL', rfl, rfl, w.n, w.d, w.p, w.c, le, ?_⟩
        rcases hmx with ⟨e2, he2, e3⟩ | hmx
        · rcases List.mem_cons.1 he2 with rfl | he2
          · rw [e3]
            exact .inr (Nat.le_refl _)
          · exact .inl ⟨e2, he2, e3⟩
        · exact .inr (frN_trans hy0 hmx (Nat.le_of_lt h1))
      · have h1 : ¬ x * e.2.2 < e.2.1 * y := fun hh => h0 (by exact_mod_cast hh)
        simp -failIfUnchanged only [h0, ↓wp_retE, ↓wp_bad, ↓wp_bnd, ↓wp_nxt, ↓wp_brk, ↓wp_cnt, ↓wp_rtn, ↓wp_seq, ↓wp_iff, ↓wp_fnM, ↓wp_binM, ↓wp_cmpM, ↓wp_idxM, ↓wp_negM, ↓wp_notM, ↓wp_andM, ↓wp_orM, ↓wp_iteM, ↓wp_chnM, ↓wp_chnS, ↓wp_ls0, ↓wp_ls1, ↓wp_tupM, ↓wp_lstM, ↓wp_lshM, ↓wp_ownM, ↓wp_idxL, ↓wp_slcM, ↓wp_noP, ↓wp_soP, ↓wp_calM, ↓wp_isiM, ↓wp_forM, ↓wp_seqI, ↓wp_rng1, ↓wp_rng2, ↓wp_enum, ↓wp_enum2, ↓enum2_t, ↓enum2_f, ↓wp_zip, ↓rng1_int, ↓rng2_int, ↓wp_lcM, ↓wp_lcO, ↓wp_appO, ↓wp_extO, ↓wp_fldM, ↓wp_fldT, ↓wp_mthM, ↓wp_makM, ↓wp_augF, ↓tpT2, ↓nonS_non, ↓wp_subT, ↓w_add, ↓w_sub, ↓w_mul, ↓w_fdiv, ↓w_mod, ↓w_pow, ↓w_shl, ↓w_addT, ↓w_addL, ↓w_lt, ↓w_le, ↓w_gt, ↓w_ge, ↓w_eqI, ↓w_neI, ↓w_eqS, ↓w_neS, ↓w_isN, ↓w_ntN, ↓w_isI, ↓w_ntI, ↓w_isT, ↓w_ntT, ↓w_isF, ↓w_ntF, ↓w_isR, ↓w_ntR, ↓w_isB, ↓w_ntB, ↓w_isS, ↓w_ntS, ↓w_trB, ↓w_trI, ↓w_trN, ↓w_trT, ↓w_trF, ↓w_ixT0, ↓w_ixT1, ↓w_ixT2, ↓w_ixT3, ↓w_ixF0, ↓w_ixF1, ↓w_ixF2, ↓w_ixF3, ↓w_ixS0, ↓w_ixS1, ↓w_ixS2, ↓w_ixS3, ↓w_idL, ↓w_neg, ↓w_slT, ↓w_slF, ↓w_soP, ↓w_lenT, ↓w_lenF, ↓w_lenS, ↓w_abs, ↓w_min, ↓w_max, ↓w_intI, ↓w_intB, ↓w_tupT, ↓w_tupF, ↓w_lstT, ↓w_lstF, ↓w_sum, ↓w_all, ↓w_any, ↓w_is_int_N, ↓w_is_int_B, ↓w_is_int_I, ↓w_is_int_S, ↓w_is_int_T, ↓w_is_int_F, ↓w_is_bl_N, ↓w_is_bl_B, ↓w_is_bl_I, ↓w_is_bl_S, ↓w_is_bl_T, ↓w_is_bl_F, ↓w_is_tup_N, ↓w_is_tup_B, ↓w_is_tup_I, ↓w_is_tup_S, ↓w_is_tup_T, ↓w_is_tup_F, ↓w_is_str_N, ↓w_is_str_B, ↓w_is_str_I, ↓w_is_str_S, ↓w_is_str_T, ↓w_is_str_F, ↓w_is_lst_N, ↓w_is_lst_B, ↓w_is_lst_I, ↓w_is_lst_S, ↓w_is_lst_T, ↓w_is_lst_F, ↓w_guT, ↓w_guF, ↓w_guS, ↓w_lsF, ↓w_enT, ↓w_enF, ↓w_zpT, ↓w_zpF, ↓w_gadd, ↓w_gsub, ↓w_fs1, ↓w_fs2, ↓w_fs3, ↓w_fs4, ↓w_fs5, ↓w_fs6, ↓w_un2, ↓w_un3, ↓w_un4, ↓w_goN, ↓w_goR, ↓w_goB, ↓w_goC, ↓w_feN, ↓w_feR, ↓w_repr, true_and, and_true, and_self, if_true, if_false, Bool.false_eq_true, Bool.not_true, Bool.not_false, decide_true, decide_false, ↓wp_calK, ↓kw_03, ↓kw_02, ↓kw_01, ↓pick_210, ↓pick_10, ↓pick_01, ↓pick_0, ↓w_sumF, ↓w_sumT, ↓w_srt, ↓w_maxL, ↓w_minL, ↓wp_starM, ↓wp_consM, ↓w_itT, ↓w_itF, ↓wp_rl2M, ↓wp_rl1M, ↓w_rl, ↓wp_dn3I, ↓w_dn3, ↓wp_mulTM, ↓w_mulT, ↓wp_niDM, ↓wp_inDM, ↓wp_zpM, ↓w_zpFF, ↓wp_isBM, ↓wp_nsBM, ↓w_isBB, ↓w_nsBB, ↓wp_catO, ↓w_catF, ↓kw_04, ↓pick_3210]
        refine ⟨L', x, y, hL', rfl, rfl, hx1, hy1, hy0, hcx, hxa, ?_⟩
        rcases hmx with ⟨e2, he2, e3⟩ | hmx
        · rcases List.mem_cons.1 he2 with rfl | he2
          · rw [e3] at h1
            exact .inr (by simp only at h1; omega)
          · exact .inl ⟨e2, he2, e3⟩
        · exact .inr hmx
  · rintro s m' ⟨L', x, y, hL, hx, rfl, hx1, hy1, hy0, hcx, hxa, hmx, rfl⟩
    have : L' = [] := by simpa using hx.symm
    subst this
    have hmx2 : a * y ≤ x * b := by
      rcases hmx with ⟨e, he, _⟩ | h
      · cases he
      · exact h
    obtain ⟨rfl, rfl⟩ := fr_uniq hcx hc hb (Nat.le_antisymm hxa hmx2)
    simp -failIfUnchanged only [↓wp_retE, ↓wp_bad, ↓wp_bnd, ↓wp_nxt, ↓wp_brk, ↓wp_cnt, ↓wp_rtn, ↓wp_seq, ↓wp_iff, ↓wp_fnM, ↓wp_binM, ↓wp_cmpM, ↓wp_idxM, ↓wp_negM, ↓wp_notM, ↓wp_andM, ↓wp_orM, ↓wp_iteM, ↓wp_chnM, ↓wp_chnS, ↓wp_ls0, ↓wp_ls1, ↓wp_tupM, ↓wp_lstM, ↓wp_lshM, ↓wp_ownM, ↓wp_idxL, ↓wp_slcM, ↓wp_noP, ↓wp_soP, ↓wp_calM, ↓wp_isiM, ↓wp_forM, ↓wp_seqI, ↓wp_rng1, ↓wp_rng2, ↓wp_enum, ↓wp_enum2, ↓enum2_t, ↓enum2_f, ↓wp_zip, ↓rng1_int, ↓rng2_int, ↓wp_lcM, ↓wp_lcO, ↓wp_appO, ↓wp_extO, ↓wp_fldM, ↓wp_fldT, ↓wp_mthM, ↓wp_makM, ↓wp_augF, ↓tpT2, ↓nonS_non, ↓wp_subT, ↓w_add, ↓w_sub, ↓w_mul, ↓w_fdiv, ↓w_mod, ↓w_pow, ↓w_shl, ↓w_addT, ↓w_addL, ↓w_lt, ↓w_le, ↓w_gt, ↓w_ge, ↓w_eqI, ↓w_neI, ↓w_eqS, ↓w_neS, ↓w_isN, ↓w_ntN, ↓w_isI, ↓w_ntI, ↓w_isT, ↓w_ntT, ↓w_isF, ↓w_ntF, ↓w_isR, ↓w_ntR, ↓w_isB, ↓w_ntB, ↓w_isS, ↓w_ntS, ↓w_trB, ↓w_trI, ↓w_trN, ↓w_trT, ↓w_trF, ↓w_ixT0, ↓w_ixT1, ↓w_ixT2, ↓w_ixT3, ↓w_ixF0, ↓w_ixF1, ↓w_ixF2, ↓w_ixF3, ↓w_ixS0, ↓w_ixS1, ↓w_ixS2, ↓w_ixS3, ↓w_idL, ↓w_neg, ↓w_slT, ↓w_slF, ↓w_soP, ↓w_lenT, ↓w_lenF, ↓w_lenS, ↓w_abs, ↓w_min, ↓w_max, ↓w_intI, ↓w_intB, ↓w_tupT, ↓w_tupF, ↓w_lstT, ↓w_lstF, ↓w_sum, ↓w_all, ↓w_any, ↓w_is_int_N, ↓w_is_int_B, ↓w_is_int_I, ↓w_is_int_S, ↓w_is_int_T, ↓w_is_int_F, ↓w_is_bl_N, ↓w_is_bl_B, ↓w_is_bl_I, ↓w_is_bl_S, ↓w_is_bl_T, ↓w_is_bl_F, ↓w_is_tup_N, ↓w_is_tup_B, ↓w_is_tup_I, ↓w_is_tup_S, ↓w_is_tup_T, ↓w_is_tup_F, ↓w_is_str_N, ↓w_is_str_B, ↓w_is_str_I, ↓w_is_str_S, ↓w_is_str_T, ↓w_is_str_F, ↓w_is_lst_N, ↓w_is_lst_B, ↓w_is_lst_I, ↓w_is_lst_S, ↓w_is_lst_T, ↓w_is_lst_F, ↓w_guT, ↓w_guF, ↓w_guS, ↓w_lsF, ↓w_enT, ↓w_enF, ↓w_zpT, ↓w_zpF, ↓w_gadd, ↓w_gsub, ↓w_fs1, ↓w_fs2, ↓w_fs3, ↓w_fs4, ↓w_fs5, ↓w_fs6, ↓w_un2, ↓w_un3, ↓w_un4, ↓w_goN, ↓w_goR, ↓w_goB, ↓w_goC, ↓w_feN, ↓w_feR, ↓w_repr, true_and, and_true, and_self, if_true, if_false, Bool.false_eq_true, Bool.not_true, Bool.not_false, decide_true, decide_false, ↓wp_calK, ↓kw_03, ↓kw_02, ↓kw_01, ↓pick_210, ↓pick_10, ↓pick_01, ↓pick_0, ↓w_sumF, ↓w_sumT, ↓w_srt, ↓w_maxL, ↓w_minL, ↓wp_starM, ↓wp_consM, ↓w_itT, ↓w_itF, ↓wp_rl2M, ↓wp_rl1M, ↓w_rl, ↓wp_dn3I, ↓w_dn3, ↓wp_mulTM, ↓w_mulT, ↓wp_niDM, ↓wp_inDM, ↓wp_zpM, ↓w_zpFF, ↓wp_isBM, ↓wp_nsBM, ↓w_isBB, ↓w_nsBB, ↓wp_catO, ↓w_catF, ↓kw_04, ↓pick_3210]
    exact q
  · rcases hm with h | ⟨h1, h2⟩
    · exact .inl h
    · subst h1
      exact .inr (by omega)

end G.K75

set_option Elab.async false
set_option linter.all false
set_option maxRecDepth 100000
set_option maxHeartbeats 4000000
namespace G.K75
open PySem G
def stpD (t u : Tk) : D := .tup [.int u.lv, .int u.sz, .int (u.pd - t.pd)]
theorem pushed_eq {cs ls : List Int} {fx mo : Int} {t : Tk} (v : Vp cs ls) (hmo : cs.getLast? = some mo) (s : Sv cs ls t.lv t.sz) (hlt : t.sz < mo) : t_law_pushed (pol cs ls fx) (.int t.lv) (.int t.sz) = ret (stpD t (upS cs fx t).1) := ret_of fun m Q q => by
  obtain ⟨c, hc, hs⟩ := s.top
  have hl := v.last hmo hc
  have hlv := get_lt hc
  unfold t_law_pushed bd_law_pushed
  have e : pol cs ls fx = .tup [il cs, il ls, .int fx] := rfl
  rw [e]
  have el : ∀ {m : Hs} {Q : D → Hs → Prop}, wp (lenS [il cs]) m Q = Q (.int cs.length) m := fun {m Q} => by unfold il; rw [w_lenT, List.length_map]
  unfold upS stpD at q
  simp only [hc] at q
  simp -failIfUnchanged only [↓il_at hc, ↓el, ↓wp_retE, ↓wp_bad, ↓wp_bnd, ↓wp_nxt, ↓wp_brk, ↓wp_cnt, ↓wp_rtn, ↓wp_seq, ↓wp_iff, ↓wp_fnM, ↓wp_binM, ↓wp_cmpM, ↓wp_idxM, ↓wp_negM, ↓wp_notM, ↓wp_andM, ↓wp_orM, ↓wp_iteM, ↓wp_chnM, ↓wp_chnS, ↓wp_ls0, ↓wp_ls1, ↓wp_tupM, ↓wp_lstM, ↓wp_lshM, ↓wp_ownM, ↓wp_idxL, ↓wp_slcM, ↓wp_noP, ↓wp_soP, ↓wp_calM, ↓wp_isiM, ↓wp_forM, ↓wp_seqI, ↓wp_rng1, ↓wp_rng2, ↓wp_enum, ↓wp_enum2, ↓enum2_t, ↓enum2_f, ↓wp_zip, ↓rng1_int, ↓rng2_int, ↓wp_lcM, ↓wp_lcO, ↓wp_appO, ↓wp_extO, ↓wp_fldM, ↓wp_fldT, ↓wp_mthM, ↓wp_makM, ↓wp_augF, ↓tpT2, ↓nonS_non, ↓wp_subT, ↓w_add, ↓w_sub, ↓w_mul, ↓w_fdiv, ↓w_mod, ↓w_pow, ↓w_shl, ↓w_addT, ↓w_addL, ↓w_lt, ↓w_le, ↓w_gt, ↓w_ge, ↓w_eqI, ↓w_neI, ↓w_eqS, ↓w_neS, ↓w_isN, ↓w_ntN, ↓w_isI, ↓w_ntI, ↓w_isT, ↓w_ntT, ↓w_isF, ↓w_ntF, ↓w_isR, ↓w_ntR, ↓w_isB, ↓w_ntB, ↓w_isS, ↓w_ntS, ↓w_trB, ↓w_trI, ↓w_trN, ↓w_trT, ↓w_trF, ↓w_ixT0, ↓w_ixT1, ↓w_ixT2, ↓w_ixT3, ↓w_ixF0, ↓w_ixF1, ↓w_ixF2, ↓w_ixF3, ↓w_ixS0, ↓w_ixS1, ↓w_ixS2, ↓w_ixS3, ↓w_idL, ↓w_neg, ↓w_slT, ↓w_slF, ↓w_soP, ↓w_lenT, ↓w_lenF, ↓w_lenS, ↓w_abs, ↓w_min, ↓w_max, ↓w_intI, ↓w_intB, ↓w_tupT, ↓w_tupF, ↓w_lstT, ↓w_lstF, ↓w_sum, ↓w_all, ↓w_any, ↓w_is_int_N, ↓w_is_int_B, ↓w_is_int_I, ↓w_is_int_S, ↓w_is_int_T, ↓w_is_int_F, ↓w_is_bl_N, ↓w_is_bl_B, ↓w_is_bl_I, ↓w_is_bl_S, ↓w_is_bl_T, ↓w_is_bl_F, ↓w_is_tup_N, ↓w_is_tup_B, ↓w_is_tup_I, ↓w_is_tup_S, ↓w_is_tup_T, ↓w_is_tup_F, ↓w_is_str_N, ↓w_is_str_B, ↓w_is_str_I, ↓w_is_str_S, ↓w_is_str_T, ↓w_is_str_F, ↓w_is_lst_N, ↓w_is_lst_B, ↓w_is_lst_I, ↓w_is_lst_S, ↓w_is_lst_T, ↓w_is_lst_F, ↓w_guT, ↓w_guF, ↓w_guS, ↓w_lsF, ↓w_enT, ↓w_enF, ↓w_zpT, ↓w_zpF, ↓w_gadd, ↓w_gsub, ↓w_fs1, ↓w_fs2, ↓w_fs3, ↓w_fs4, ↓w_fs5, ↓w_fs6, ↓w_un2, ↓w_un3, ↓w_un4, ↓w_goN, ↓w_goR, ↓w_goB, ↓w_goC, ↓w_feN, ↓w_feR, ↓w_repr, true_and, and_true, and_self, if_true, if_false, Bool.false_eq_true, Bool.not_true, Bool.not_false, decide_true, decide_false, ↓wp_calK, ↓kw_03, ↓kw_02, ↓kw_01, ↓pick_210, ↓pick_10, ↓pick_01, ↓pick_0, ↓w_sumF, ↓w_sumT, ↓w_srt, ↓w_maxL, ↓w_minL, ↓wp_starM, ↓wp_consM, ↓w_itT, ↓w_itF, ↓wp_rl2M, ↓wp_rl1M, ↓w_rl, ↓wp_dn3I, ↓w_dn3, ↓wp_mulTM, ↓w_mulT, ↓wp_niDM, ↓wp_inDM, ↓wp_zpM, ↓w_zpFF, ↓wp_isBM, ↓wp_nsBM, ↓w_isBB, ↓w_nsBB, ↓wp_catO, ↓w_catF, ↓kw_04, ↓pick_3210]
  by_cases hz : t.sz < c
  · rw [if_pos hz] at q
    simp only [Int.sub_self] at q
    simp -failIfUnchanged only [hz, ↓wp_retE, ↓wp_bad, ↓wp_bnd, ↓wp_nxt, ↓wp_brk, ↓wp_cnt, ↓wp_rtn, ↓wp_seq, ↓wp_iff, ↓wp_fnM, ↓wp_binM, ↓wp_cmpM, ↓wp_idxM, ↓wp_negM, ↓wp_notM, ↓wp_andM, ↓wp_orM, ↓wp_iteM, ↓wp_chnM, ↓wp_chnS, ↓wp_ls0, ↓wp_ls1, ↓wp_tupM, ↓wp_lstM, ↓wp_lshM, ↓wp_ownM, ↓wp_idxL, ↓wp_slcM, ↓wp_noP, ↓wp_soP, ↓wp_calM, ↓wp_isiM, ↓wp_forM, ↓wp_seqI, ↓wp_rng1, ↓wp_rng2, ↓wp_enum, ↓wp_enum2, ↓enum2_t, ↓enum2_f, ↓wp_zip, ↓rng1_int, ↓rng2_int, ↓wp_lcM, ↓wp_lcO, ↓wp_appO, ↓wp_extO, ↓wp_fldM, ↓wp_fldT, ↓wp_mthM, ↓wp_makM, ↓wp_augF, ↓tpT2, ↓nonS_non, ↓wp_subT, ↓w_add, ↓w_sub, ↓w_mul, ↓w_fdiv, ↓w_mod, ↓w_pow, ↓w_shl, ↓w_addT, ↓w_addL, ↓w_lt, ↓w_le, ↓w_gt, ↓w_ge, ↓w_eqI, ↓w_neI, ↓w_eqS, ↓w_neS, ↓w_isN, ↓w_ntN, ↓w_isI, ↓w_ntI, ↓w_isT, ↓w_ntT, ↓w_isF, ↓w_ntF, ↓w_isR, ↓w_ntR, ↓w_isB, ↓w_ntB, ↓w_isS, ↓w_ntS, ↓w_trB, ↓w_trI, ↓w_trN, ↓w_trT, ↓w_trF, ↓w_ixT0, ↓w_ixT1, ↓w_ixT2, ↓w_ixT3, ↓w_ixF0, ↓w_ixF1, ↓w_ixF2, ↓w_ixF3, ↓w_ixS0, ↓w_ixS1, ↓w_ixS2, ↓w_ixS3, ↓w_idL, ↓w_neg, ↓w_slT, ↓w_slF, ↓w_soP, ↓w_lenT, ↓w_lenF, ↓w_lenS, ↓w_abs, ↓w_min, ↓w_max, ↓w_intI, ↓w_intB, ↓w_tupT, ↓w_tupF, ↓w_lstT, ↓w_lstF, ↓w_sum, ↓w_all, ↓w_any, ↓w_is_int_N, ↓w_is_int_B, ↓w_is_int_I, ↓w_is_int_S, ↓w_is_int_T, ↓w_is_int_F, ↓w_is_bl_N, ↓w_is_bl_B, ↓w_is_bl_I, ↓w_is_bl_S, ↓w_is_bl_T, ↓w_is_bl_F, ↓w_is_tup_N, ↓w_is_tup_B, ↓w_is_tup_I, ↓w_is_tup_S, ↓w_is_tup_T, ↓w_is_tup_F, ↓w_is_str_N, ↓w_is_str_B, ↓w_is_str_I, ↓w_is_str_S, ↓w_is_str_T, ↓w_is_str_F, ↓w_is_lst_N, ↓w_is_lst_B, ↓w_is_lst_I, ↓w_is_lst_S, ↓w_is_lst_T, ↓w_is_lst_F, ↓w_guT, ↓w_guF, ↓w_guS, ↓w_lsF, ↓w_enT, ↓w_enF, ↓w_zpT, ↓w_zpF, ↓w_gadd, ↓w_gsub, ↓w_fs1, ↓w_fs2, ↓w_fs3, ↓w_fs4, ↓w_fs5, ↓w_fs6, ↓w_un2, ↓w_un3, ↓w_un4, ↓w_goN, ↓w_goR, ↓w_goB, ↓w_goC, ↓w_feN, ↓w_feR, ↓w_repr, true_and, and_true, and_self, if_true, if_false, Bool.false_eq_true, Bool.not_true, Bool.not_false, decide_true, decide_false, ↓wp_calK, ↓kw_03, ↓kw_02, ↓kw_01, ↓pick_210, ↓pick_10, ↓pick_01, ↓pick_0, ↓w_sumF, ↓w_sumT, ↓w_srt, ↓w_maxL, ↓w_minL, ↓wp_starM, ↓wp_consM, ↓w_itT, ↓w_itF, ↓wp_rl2M, ↓wp_rl1M, ↓w_rl, ↓wp_dn3I, ↓w_dn3, ↓wp_mulTM, ↓w_mulT, ↓wp_niDM, ↓wp_inDM, ↓wp_zpM, ↓w_zpFF, ↓wp_isBM, ↓wp_nsBM, ↓w_isBB, ↓w_nsBB, ↓wp_catO, ↓w_catF, ↓kw_04, ↓pick_3210]
    exact ⟨sz_le (by simp), q⟩
  · rw [if_neg hz] at q
    have hne : ((t.lv : Int) + 1 < cs.length) := by
      have : t.lv + 1 ≠ cs.length := fun e => by
        have := hl.2 e
        omega
      omega
    have e1 : ((t.lv : Int) + 1) = ((t.lv + 1 : Nat) : Int) := by omega
    have e2 : t.pd + (t.sz + fx) - t.pd = t.sz + fx := by omega
    simp only [e2] at q
    simp -failIfUnchanged only [hz, hne, ↓wp_retE, ↓wp_bad, ↓wp_bnd, ↓wp_nxt, ↓wp_brk, ↓wp_cnt, ↓wp_rtn, ↓wp_seq, ↓wp_iff, ↓wp_fnM, ↓wp_binM, ↓wp_cmpM, ↓wp_idxM, ↓wp_negM, ↓wp_notM, ↓wp_andM, ↓wp_orM, ↓wp_iteM, ↓wp_chnM, ↓wp_chnS, ↓wp_ls0, ↓wp_ls1, ↓wp_tupM, ↓wp_lstM, ↓wp_lshM, ↓wp_ownM, ↓wp_idxL, ↓wp_slcM, ↓wp_noP, ↓wp_soP, ↓wp_calM, ↓wp_isiM, ↓wp_forM, ↓wp_seqI, ↓wp_rng1, ↓wp_rng2, ↓wp_enum, ↓wp_enum2, ↓enum2_t, ↓enum2_f, ↓wp_zip, ↓rng1_int, ↓rng2_int, ↓wp_lcM, ↓wp_lcO, ↓wp_appO, ↓wp_extO, ↓wp_fldM, ↓wp_fldT, ↓wp_mthM, ↓wp_makM, ↓wp_augF, ↓tpT2, ↓nonS_non, ↓wp_subT, ↓w_add, ↓w_sub, ↓w_mul, ↓w_fdiv, ↓w_mod, ↓w_pow, ↓w_shl, ↓w_addT, ↓w_addL, ↓w_lt, ↓w_le, ↓w_gt, ↓w_ge, ↓w_eqI, ↓w_neI, ↓w_eqS, ↓w_neS, ↓w_isN, ↓w_ntN, ↓w_isI, ↓w_ntI, ↓w_isT, ↓w_ntT, ↓w_isF, ↓w_ntF, ↓w_isR, ↓w_ntR, ↓w_isB, ↓w_ntB, ↓w_isS, ↓w_ntS, ↓w_trB, ↓w_trI, ↓w_trN, ↓w_trT, ↓w_trF, ↓w_ixT0, ↓w_ixT1, ↓w_ixT2, ↓w_ixT3, ↓w_ixF0, ↓w_ixF1, ↓w_ixF2, ↓w_ixF3, ↓w_ixS0, ↓w_ixS1, ↓w_ixS2, ↓w_ixS3, ↓w_idL, ↓w_neg, ↓w_slT, ↓w_slF, ↓w_soP, ↓w_lenT, ↓w_lenF, ↓w_lenS, ↓w_abs, ↓w_min, ↓w_max, ↓w_intI, ↓w_intB, ↓w_tupT, ↓w_tupF, ↓w_lstT, ↓w_lstF, ↓w_sum, ↓w_all, ↓w_any, ↓w_is_int_N, ↓w_is_int_B, ↓w_is_int_I, ↓w_is_int_S, ↓w_is_int_T, ↓w_is_int_F, ↓w_is_bl_N, ↓w_is_bl_B, ↓w_is_bl_I, ↓w_is_bl_S, ↓w_is_bl_T, ↓w_is_bl_F, ↓w_is_tup_N, ↓w_is_tup_B, ↓w_is_tup_I, ↓w_is_tup_S, ↓w_is_tup_T, ↓w_is_tup_F, ↓w_is_str_N, ↓w_is_str_B, ↓w_is_str_I, ↓w_is_str_S, ↓w_is_str_T, ↓w_is_str_F, ↓w_is_lst_N, ↓w_is_lst_B, ↓w_is_lst_I, ↓w_is_lst_S, ↓w_is_lst_T, ↓w_is_lst_F, ↓w_guT, ↓w_guF, ↓w_guS, ↓w_lsF, ↓w_enT, ↓w_enF, ↓w_zpT, ↓w_zpF, ↓w_gadd, ↓w_gsub, ↓w_fs1, ↓w_fs2, ↓w_fs3, ↓w_fs4, ↓w_fs5, ↓w_fs6, ↓w_un2, ↓w_un3, ↓w_un4, ↓w_goN, ↓w_goR, ↓w_goB, ↓w_goC, ↓w_feN, ↓w_feR, ↓w_repr, true_and, and_true, and_self, if_true, if_false, Bool.false_eq_true, Bool.not_true, Bool.not_false, decide_true, decide_false, ↓wp_calK, ↓kw_03, ↓kw_02, ↓kw_01, ↓pick_210, ↓pick_10, ↓pick_01, ↓pick_0, ↓w_sumF, ↓w_sumT, ↓w_srt, ↓w_maxL, ↓w_minL, ↓wp_starM, ↓wp_consM, ↓w_itT, ↓w_itF, ↓wp_rl2M, ↓wp_rl1M, ↓w_rl, ↓wp_dn3I, ↓w_dn3, ↓wp_mulTM, ↓w_mulT, ↓wp_niDM, ↓wp_inDM, ↓wp_zpM, ↓w_zpFF, ↓wp_isBM, ↓wp_nsBM, ↓w_isBB, ↓w_nsBB, ↓wp_catO, ↓w_catF, ↓kw_04, ↓pick_3210]
    rw [e1]
    exact ⟨sz_le (by simp), q⟩
theorem popped_eq {cs ls : List Int} {fx : Int} {t : Tk} (v : Vp cs ls) (s : Sv cs ls t.lv t.sz) : t_law_popped (pol cs ls fx) (.int t.lv) (.int t.sz) = ret (if t.sz = 0 then .non else stpD t (dnS ls fx t).1) := ret_of fun m Q q => by
  obtain ⟨c, hc, hs⟩ := s.top
  have hlv := get_lt hc
  have hlen := v.len
  unfold t_law_popped bd_law_popped
  have e : pol cs ls fx = .tup [il cs, il ls, .int fx] := rfl
  rw [e]
  by_cases hz : t.sz = 0
  · rw [if_pos hz] at q
    simp -failIfUnchanged only [hz, show ((0 : Int) == 0) = true from rfl, ↓wp_retE, ↓wp_bad, ↓wp_bnd, ↓wp_nxt, ↓wp_brk, ↓wp_cnt, ↓wp_rtn, ↓wp_seq, ↓wp_iff, ↓wp_fnM, ↓wp_binM, ↓wp_cmpM, ↓wp_idxM, ↓wp_negM, ↓wp_notM, ↓wp_andM, ↓wp_orM, ↓wp_iteM, ↓wp_chnM, ↓wp_chnS, ↓wp_ls0, ↓wp_ls1, ↓wp_tupM, ↓wp_lstM, ↓wp_lshM, ↓wp_ownM, ↓wp_idxL, ↓wp_slcM, ↓wp_noP, ↓wp_soP, ↓wp_calM, ↓wp_isiM, ↓wp_forM, ↓wp_seqI, ↓wp_rng1, ↓wp_rng2, ↓wp_enum, ↓wp_enum2, ↓enum2_t, ↓enum2_f, ↓wp_zip, ↓rng1_int, ↓rng2_int, ↓wp_lcM, ↓wp_lcO, ↓wp_appO, ↓wp_extO, ↓wp_fldM, ↓wp_fldT, ↓wp_mthM, ↓wp_makM, ↓wp_augF, ↓tpT2, ↓nonS_non, ↓wp_subT, ↓w_add, ↓w_sub, ↓w_mul, ↓w_fdiv, ↓w_mod, ↓w_pow, ↓w_shl, ↓w_addT, ↓w_addL, ↓w_lt, ↓w_le, ↓w_gt, ↓w_ge, ↓w_eqI, ↓w_neI, ↓w_eqS, ↓w_neS, ↓w_isN, ↓w_ntN, ↓w_isI, ↓w_ntI, ↓w_isT, ↓w_ntT, ↓w_isF, ↓w_ntF, ↓w_isR, ↓w_ntR, ↓w_isB, ↓w_ntB, ↓w_isS, ↓w_ntS, ↓w_trB, ↓w_trI, ↓w_trN, ↓w_trT, ↓w_trF, ↓w_ixT0, ↓w_ixT1, ↓w_ixT2, ↓w_ixT3, ↓w_ixF0, ↓w_ixF1, ↓w_ixF2, ↓w_ixF3, ↓w_ixS0, ↓w_ixS1, ↓w_ixS2, ↓w_ixS3, ↓w_idL, ↓w_neg, ↓w_slT, ↓w_slF, ↓w_soP, ↓w_lenT, ↓w_lenF, ↓w_lenS, ↓w_abs, ↓w_min, ↓w_max, ↓w_intI, ↓w_intB, ↓w_tupT, ↓w_tupF, ↓w_lstT, ↓w_lstF, ↓w_sum, ↓w_all, ↓w_any, ↓w_is_int_N, ↓w_is_int_B, ↓w_is_int_I, ↓w_is_int_S, ↓w_is_int_T, ↓w_is_int_F, ↓w_is_bl_N, ↓w_is_bl_B, ↓w_is_bl_I, ↓w_is_bl_S, ↓w_is_bl_T, ↓w_is_bl_F, ↓w_is_tup_N, ↓w_is_tup_B, ↓w_is_tup_I, ↓w_is_tup_S, ↓w_is_tup_T, ↓w_is_tup_F, ↓w_is_str_N, ↓w_is_str_B, ↓w_is_str_I, ↓w_is_str_S, ↓w_is_str_T, ↓w_is_str_F, ↓w_is_lst_N, ↓w_is_lst_B, ↓w_is_lst_I, ↓w_is_lst_S, ↓w_is_lst_T, ↓w_is_lst_F, ↓w_guT, ↓w_guF, ↓w_guS, ↓w_lsF, ↓w_enT, ↓w_enF, ↓w_zpT, ↓w_zpF, ↓w_gadd, ↓w_gsub, ↓w_fs1, ↓w_fs2, ↓w_fs3, ↓w_fs4, ↓w_fs5, ↓w_fs6, ↓w_un2, ↓w_un3, ↓w_un4, ↓w_goN, ↓w_goR, ↓w_goB, ↓w_goC, ↓w_feN, ↓w_feR, ↓w_repr, true_and, and_true, and_self, if_true, if_false, Bool.false_eq_true, Bool.not_true, Bool.not_false, decide_true, decide_false, ↓wp_calK, ↓kw_03, ↓kw_02, ↓kw_01, ↓pick_210, ↓pick_10, ↓pick_01, ↓pick_0, ↓w_sumF, ↓w_sumT, ↓w_srt, ↓w_maxL, ↓w_minL, ↓wp_starM, ↓wp_consM, ↓w_itT, ↓w_itF, ↓wp_rl2M, ↓wp_rl1M, ↓w_rl, ↓wp_dn3I, ↓w_dn3, ↓wp_mulTM, ↓w_mulT, ↓wp_niDM, ↓wp_inDM, ↓wp_zpM, ↓w_zpFF, ↓wp_isBM, ↓wp_nsBM, ↓w_isBB, ↓w_nsBB, ↓wp_catO, ↓w_catF, ↓kw_04, ↓pick_3210]
    exact q
  · rw [if_neg hz] at q
    have hb : (t.sz == 0) = false := by simpa using hz
    cases hlv2 : t.lv with
    | zero =>
      unfold dnS stpD at q
      simp only [hlv2, Int.sub_self] at q
      simp -failIfUnchanged only [hb, show ¬ ((0 : Int) < ((0 : Nat) : Int)) by decide, ↓wp_retE, ↓wp_bad, ↓wp_bnd, ↓wp_nxt, ↓wp_brk, ↓wp_cnt, ↓wp_rtn, ↓wp_seq, ↓wp_iff, ↓wp_fnM, ↓wp_binM, ↓wp_cmpM, ↓wp_idxM, ↓wp_negM, ↓wp_notM, ↓wp_andM, ↓wp_orM, ↓wp_iteM, ↓wp_chnM, ↓wp_chnS, ↓wp_ls0, ↓wp_ls1, ↓wp_tupM, ↓wp_lstM, ↓wp_lshM, ↓wp_ownM, ↓wp_idxL, ↓wp_slcM, ↓wp_noP, ↓wp_soP, ↓wp_calM, ↓wp_isiM, ↓wp_forM, ↓wp_seqI, ↓wp_rng1, ↓wp_rng2, ↓wp_enum, ↓wp_enum2, ↓enum2_t, ↓enum2_f, ↓wp_zip, ↓rng1_int, ↓rng2_int, ↓wp_lcM, ↓wp_lcO, ↓wp_appO, ↓wp_extO, ↓wp_fldM, ↓wp_fldT, ↓wp_mthM, ↓wp_makM, ↓wp_augF, ↓tpT2, ↓nonS_non, ↓wp_subT, ↓w_add, ↓w_sub, ↓w_mul, ↓w_fdiv, ↓w_mod, ↓w_pow, ↓w_shl, ↓w_addT, ↓w_addL, ↓w_lt, ↓w_le, ↓w_gt, ↓w_ge, ↓w_eqI, ↓w_neI, ↓w_eqS, ↓w_neS, ↓w_isN, ↓w_ntN, ↓w_isI, ↓w_ntI, ↓w_isT, ↓w_ntT, ↓w_isF, ↓w_ntF, ↓w_isR, ↓w_ntR, ↓w_isB, ↓w_ntB, ↓w_isS, ↓w_ntS, ↓w_trB, ↓w_trI, ↓w_trN, ↓w_trT, ↓w_trF, ↓w_ixT0, ↓w_ixT1, ↓w_ixT2, ↓w_ixT3, ↓w_ixF0, ↓w_ixF1, ↓w_ixF2, ↓w_ixF3, ↓w_ixS0, ↓w_ixS1, ↓w_ixS2, ↓w_ixS3, ↓w_idL, ↓w_neg, ↓w_slT, ↓w_slF, ↓w_soP, ↓w_lenT, ↓w_lenF, ↓w_lenS, ↓w_abs, ↓w_min, ↓w_max, ↓w_intI, ↓w_intB, ↓w_tupT, ↓w_tupF, ↓w_lstT, ↓w_lstF, ↓w_sum, ↓w_all, ↓w_any, ↓w_is_int_N, ↓w_is_int_B, ↓w_is_int_I, ↓w_is_int_S, ↓w_is_int_T, ↓w_is_int_F, ↓w_is_bl_N, ↓w_is_bl_B, ↓w_is_bl_I, ↓w_is_bl_S, ↓w_is_bl_T, ↓w_is_bl_F, ↓w_is_tup_N, ↓w_is_tup_B, ↓w_is_tup_I, ↓w_is_tup_S, ↓w_is_tup_T, ↓w_is_tup_F, ↓w_is_str_N, ↓w_is_str_B, ↓w_is_str_I, ↓w_is_str_S, ↓w_is_str_T, ↓w_is_str_F, ↓w_is_lst_N, ↓w_is_lst_B, ↓w_is_lst_I, ↓w_is_lst_S, ↓w_is_lst_T, ↓w_is_lst_F, ↓w_guT, ↓w_guF, ↓w_guS, ↓w_lsF, ↓w_enT, ↓w_enF, ↓w_zpT, ↓w_zpF, ↓w_gadd, ↓w_gsub, ↓w_fs1, ↓w_fs2, ↓w_fs3, ↓w_fs4, ↓w_fs5, ↓w_fs6, ↓w_un2, ↓w_un3, ↓w_un4, ↓w_goN, ↓w_goR, ↓w_goB, ↓w_goC, ↓w_feN, ↓w_feR, ↓w_repr, true_and, and_true, and_self, if_true, if_false, Bool.false_eq_true, Bool.not_true, Bool.not_false, decide_true, decide_false, ↓wp_calK, ↓kw_03, ↓kw_02, ↓kw_01, ↓pick_210, ↓pick_10, ↓pick_01, ↓pick_0, ↓w_sumF, ↓w_sumT, ↓w_srt, ↓w_maxL, ↓w_minL, ↓wp_starM, ↓wp_consM, ↓w_itT, ↓w_itF, ↓wp_rl2M, ↓wp_rl1M, ↓w_rl, ↓wp_dn3I, ↓w_dn3, ↓wp_mulTM, ↓w_mulT, ↓wp_niDM, ↓wp_inDM, ↓wp_zpM, ↓w_zpFF, ↓wp_isBM, ↓wp_nsBM, ↓w_isBB, ↓w_nsBB, ↓wp_catO, ↓w_catF, ↓kw_04, ↓pick_3210]
      exact ⟨sz_le (by simp), q⟩
    | succ p =>
      obtain ⟨l, hl⟩ := get_ex (l := ls) (i := p) (by omega)
      have e1 : (((p + 1 : Nat) : Int) - 1) = (p : Int) := by omega
      have e0 : (0 : Int) < ((p + 1 : Nat) : Int) := by omega
      unfold dnS stpD at q
      simp only [hlv2, hl] at q
      simp -failIfUnchanged only [hb, e0, e1, ↓il_at hl, ↓wp_retE, ↓wp_bad, ↓wp_bnd, ↓wp_nxt, ↓wp_brk, ↓wp_cnt, ↓wp_rtn, ↓wp_seq, ↓wp_iff, ↓wp_fnM, ↓wp_binM, ↓wp_cmpM, ↓wp_idxM, ↓wp_negM, ↓wp_notM, ↓wp_andM, ↓wp_orM, ↓wp_iteM, ↓wp_chnM, ↓wp_chnS, ↓wp_ls0, ↓wp_ls1, ↓wp_tupM, ↓wp_lstM, ↓wp_lshM, ↓wp_ownM, ↓wp_idxL, ↓wp_slcM, ↓wp_noP, ↓wp_soP, ↓wp_calM, ↓wp_isiM, ↓wp_forM, ↓wp_seqI, ↓wp_rng1, ↓wp_rng2, ↓wp_enum, ↓wp_enum2, ↓enum2_t, ↓enum2_f, ↓wp_zip, ↓rng1_int, ↓rng2_int, ↓wp_lcM, ↓wp_lcO, ↓wp_appO, ↓wp_extO, ↓wp_fldM, ↓wp_fldT, ↓wp_mthM, ↓wp_makM, ↓wp_augF, ↓tpT2, ↓nonS_non, ↓wp_subT, ↓w_add, ↓w_sub, ↓w_mul, ↓w_fdiv, ↓w_mod, ↓w_pow, ↓w_shl, ↓w_addT, ↓w_addL, ↓w_lt, ↓w_le, ↓w_gt, ↓w_ge, ↓w_eqI, ↓w_neI, ↓w_eqS, ↓w_neS, ↓w_isN, ↓w_ntN, ↓w_isI, ↓w_ntI, ↓w_isT, ↓w_ntT, ↓w_isF, ↓w_ntF, ↓w_isR, ↓w_ntR, ↓w_isB, ↓w_ntB, ↓w_isS, ↓w_ntS, ↓w_trB, ↓w_trI, ↓w_trN, ↓w_trT, ↓w_trF, ↓w_ixT0, ↓w_ixT1, ↓w_ixT2, ↓w_ixT3, ↓w_ixF0, ↓w_ixF1, ↓w_ixF2, ↓w_ixF3, ↓w_ixS0, ↓w_ixS1, ↓w_ixS2, ↓w_ixS3, ↓w_idL, ↓w_neg, ↓w_slT, ↓w_slF, ↓w_soP, ↓w_lenT, ↓w_lenF, ↓w_lenS, ↓w_abs, ↓w_min, ↓w_max, ↓w_intI, ↓w_intB, ↓w_tupT, ↓w_tupF, ↓w_lstT, ↓w_lstF, ↓w_sum, ↓w_all, ↓w_any, ↓w_is_int_N, ↓w_is_int_B, ↓w_is_int_I, ↓w_is_int_S, ↓w_is_int_T, ↓w_is_int_F, ↓w_is_bl_N, ↓w_is_bl_B, ↓w_is_bl_I, ↓w_is_bl_S, ↓w_is_bl_T, ↓w_is_bl_F, ↓w_is_tup_N, ↓w_is_tup_B, ↓w_is_tup_I, ↓w_is_tup_S, ↓w_is_tup_T, ↓w_is_tup_F, ↓w_is_str_N, ↓w_is_str_B, ↓w_is_str_I, ↓w_is_str_S, ↓w_is_str_T, ↓w_is_str_F, ↓w_is_lst_N, ↓w_is_lst_B, ↓w_is_lst_I, ↓w_is_lst_S, ↓w_is_lst_T, ↓w_is_lst_F, ↓w_guT, ↓w_guF, ↓w_guS, ↓w_lsF, ↓w_enT, ↓w_enF, ↓w_zpT, ↓w_zpF, ↓w_gadd, ↓w_gsub, ↓w_fs1, ↓w_fs2, ↓w_fs3, ↓w_fs4, ↓w_fs5, ↓w_fs6, ↓w_un2, ↓w_un3, ↓w_un4, ↓w_goN, ↓w_goR, ↓w_goB, ↓w_goC, ↓w_feN, ↓w_feR, ↓w_repr, true_and, and_true, and_self, if_true, if_false, Bool.false_eq_true, Bool.not_true, Bool.not_false, decide_true, decide_false, ↓wp_calK, ↓kw_03, ↓kw_02, ↓kw_01, ↓pick_210, ↓pick_10, ↓pick_01, ↓pick_0, ↓w_sumF, ↓w_sumT, ↓w_srt, ↓w_maxL, ↓w_minL, ↓wp_starM, ↓wp_consM, ↓w_itT, ↓w_itF, ↓wp_rl2M, ↓wp_rl1M, ↓w_rl, ↓wp_dn3I, ↓w_dn3, ↓wp_mulTM, ↓w_mulT, ↓wp_niDM, ↓wp_inDM, ↓wp_zpM, ↓w_zpFF, ↓wp_isBM, ↓wp_nsBM, ↓w_isBB, ↓w_nsBB, ↓wp_catO, ↓w_catF, ↓kw_04, ↓pick_3210]
      by_cases hl2 : t.sz - 1 = l
      · rw [if_pos hl2] at q
        have e2 : t.pd + (t.sz - 1 + fx) - t.pd = t.sz - 1 + fx := by omega
        simp only [e2] at q
        simp -failIfUnchanged only [hl2, beq_self_eq_true, ↓wp_retE, ↓wp_bad, ↓wp_bnd, ↓wp_nxt, ↓wp_brk, ↓wp_cnt, ↓wp_rtn, ↓wp_seq, ↓wp_iff, ↓wp_fnM, ↓wp_binM, ↓wp_cmpM, ↓wp_idxM, ↓wp_negM, ↓wp_notM, ↓wp_andM, ↓wp_orM, ↓wp_iteM, ↓wp_chnM, ↓wp_chnS, ↓wp_ls0, ↓wp_ls1, ↓wp_tupM, ↓wp_lstM, ↓wp_lshM, ↓wp_ownM, ↓wp_idxL, ↓wp_slcM, ↓wp_noP, ↓wp_soP, ↓wp_calM, ↓wp_isiM, ↓wp_forM, ↓wp_seqI, ↓wp_rng1, ↓wp_rng2, ↓wp_enum, ↓wp_enum2, ↓enum2_t, ↓enum2_f, ↓wp_zip, ↓rng1_int, ↓rng2_int, ↓wp_lcM, ↓wp_lcO, ↓wp_appO, ↓wp_extO, ↓wp_fldM, ↓wp_fldT, ↓wp_mthM, ↓wp_makM, ↓wp_augF, ↓tpT2, ↓nonS_non, ↓wp_subT, ↓w_add, ↓w_sub, ↓w_mul, ↓w_fdiv, ↓w_mod, ↓w_pow, ↓w_shl, ↓w_addT, ↓w_addL, ↓w_lt, ↓w_le, ↓w_gt, ↓w_ge, ↓w_eqI, ↓w_neI, ↓w_eqS, ↓w_neS, ↓w_isN, ↓w_ntN, ↓w_isI, ↓w_ntI, ↓w_isT, ↓w_ntT, ↓w_isF, ↓w_ntF, ↓w_isR, ↓w_ntR, ↓w_isB, ↓w_ntB, ↓w_isS, ↓w_ntS, ↓w_trB, ↓w_trI, ↓w_trN, ↓w_trT, ↓w_trF, ↓w_ixT0, ↓w_ixT1, ↓w_ixT2, ↓w_ixT3, ↓w_ixF0, ↓w_ixF1, ↓w_ixF2, ↓w_ixF3, ↓w_ixS0, ↓w_ixS1, ↓w_ixS2, ↓w_ixS3, ↓w_idL, ↓w_neg, ↓w_slT, ↓w_slF, ↓w_soP, ↓w_lenT, ↓w_lenF, ↓w_lenS, ↓w_abs, ↓w_min, ↓w_max, ↓w_intI, ↓w_intB, ↓w_tupT, ↓w_tupF, ↓w_lstT, ↓w_lstF, ↓w_sum, ↓w_all, ↓w_any, ↓w_is_int_N, ↓w_is_int_B, ↓w_is_int_I, ↓w_is_int_S, ↓w_is_int_T, ↓w_is_int_F, ↓w_is_bl_N, ↓w_is_bl_B, ↓w_is_bl_I, ↓w_is_bl_S, ↓w_is_bl_T, ↓w_is_bl_F, ↓w_is_tup_N, ↓w_is_tup_B, ↓w_is_tup_I, ↓w_is_tup_S, ↓w_is_tup_T, ↓w_is_tup_F, ↓w_is_str_N, ↓w_is_str_B, ↓w_is_str_I, ↓w_is_str_S, ↓w_is_str_T, ↓w_is_str_F, ↓w_is_lst_N, ↓w_is_lst_B, ↓w_is_lst_I, ↓w_is_lst_S, ↓w_is_lst_T, ↓w_is_lst_F, ↓w_guT, ↓w_guF, ↓w_guS, ↓w_lsF, ↓w_enT, ↓w_enF, ↓w_zpT, ↓w_zpF, ↓w_gadd, ↓w_gsub, ↓w_fs1, ↓w_fs2, ↓w_fs3, ↓w_fs4, ↓w_fs5, ↓w_fs6, ↓w_un2, ↓w_un3, ↓w_un4, ↓w_goN, ↓w_goR, ↓w_goB, ↓w_goC, ↓w_feN, ↓w_feR, ↓w_repr, true_and, and_true, and_self, if_true, if_false, Bool.false_eq_true, Bool.not_true, Bool.not_false, decide_true, decide_false, ↓wp_calK, ↓kw_03, ↓kw_02, ↓kw_01, ↓pick_210, ↓pick_10, ↓pick_01, ↓pick_0, ↓w_sumF, ↓w_sumT, ↓w_srt, ↓w_maxL, ↓w_minL, ↓wp_starM, ↓wp_consM, ↓w_itT, ↓w_itF, ↓wp_rl2M, ↓wp_rl1M, ↓w_rl, ↓wp_dn3I, ↓w_dn3, ↓wp_mulTM, ↓w_mulT, ↓wp_niDM, ↓wp_inDM, ↓wp_zpM, ↓w_zpFF, ↓wp_isBM, ↓wp_nsBM, ↓w_isBB, ↓w_nsBB, ↓wp_catO, ↓w_catF, ↓kw_04, ↓pick_3210]
        rw [hl2] at q
        exact ⟨sz_le (by simp), q⟩
      · rw [if_neg hl2] at q
        have hb2 : (t.sz - 1 == l) = false := by simpa using hl2
        simp only [Int.sub_self] at q
        simp -failIfUnchanged only [hb2, ↓wp_retE, ↓wp_bad, ↓wp_bnd, ↓wp_nxt, ↓wp_brk, ↓wp_cnt, ↓wp_rtn, ↓wp_seq, ↓wp_iff, ↓wp_fnM, ↓wp_binM, ↓wp_cmpM, ↓wp_idxM, ↓wp_negM, ↓wp_notM, ↓wp_andM, ↓wp_orM, ↓wp_iteM, ↓wp_chnM, ↓wp_chnS, ↓wp_ls0, ↓wp_ls1, ↓wp_tupM, ↓wp_lstM, ↓wp_lshM, ↓wp_ownM, ↓wp_idxL, ↓wp_slcM, ↓wp_noP, ↓wp_soP, ↓wp_calM, ↓wp_isiM, ↓wp_forM, ↓wp_seqI, ↓wp_rng1, ↓wp_rng2, ↓wp_enum, ↓wp_enum2, ↓enum2_t, ↓enum2_f, ↓wp_zip, ↓rng1_int, ↓rng2_int, ↓wp_lcM, ↓wp_lcO, ↓wp_appO, ↓wp_extO, ↓wp_fldM, ↓wp_fldT, ↓wp_mthM, ↓wp_makM, ↓wp_augF, ↓tpT2, ↓nonS_non, ↓wp_subT, ↓w_add, ↓w_sub, ↓w_mul, ↓w_fdiv, ↓w_mod, ↓w_pow, ↓w_shl, ↓w_addT, ↓w_addL, ↓w_lt, ↓w_le, ↓w_gt, ↓w_ge, ↓w_eqI, ↓w_neI, ↓w_eqS, ↓w_neS, ↓w_isN, ↓w_ntN, ↓w_isI, ↓w_ntI, ↓w_isT, ↓w_ntT, ↓w_isF, ↓w_ntF, ↓w_isR, ↓w_ntR, ↓w_isB, ↓w_ntB, ↓w_isS, ↓w_ntS, ↓w_trB, ↓w_trI, ↓w_trN, ↓w_trT, ↓w_trF, ↓w_ixT0, ↓w_ixT1, ↓w_ixT2, ↓w_ixT3, ↓w_ixF0, ↓w_ixF1, ↓w_ixF2, ↓w_ixF3, ↓w_ixS0, ↓w_ixS1, ↓w_ixS2, ↓w_ixS3, ↓w_idL, ↓w_neg, ↓w_slT, ↓w_slF, ↓w_soP, ↓w_lenT, ↓w_lenF, ↓w_lenS, ↓w_abs, ↓w_min, ↓w_max, ↓w_intI, ↓w_intB, ↓w_tupT, ↓w_tupF, ↓w_lstT, ↓w_lstF, ↓w_sum, ↓w_all, ↓w_any, ↓w_is_int_N, ↓w_is_int_B, ↓w_is_int_I, ↓w_is_int_S, ↓w_is_int_T, ↓w_is_int_F, ↓w_is_bl_N, ↓w_is_bl_B, ↓w_is_bl_I, ↓w_is_bl_S, ↓w_is_bl_T, ↓w_is_bl_F, ↓w_is_tup_N, ↓w_is_tup_B, ↓w_is_tup_I, ↓w_is_tup_S, ↓w_is_tup_T, ↓w_is_tup_F, ↓w_is_str_N, ↓w_is_str_B, ↓w_is_str_I, ↓w_is_str_S, ↓w_is_str_T, ↓w_is_str_F, ↓w_is_lst_N, ↓w_is_lst_B, ↓w_is_lst_I, ↓w_is_lst_S, ↓w_is_lst_T, ↓w_is_lst_F, ↓w_guT, ↓w_guF, ↓w_guS, ↓w_lsF, ↓w_enT, ↓w_enF, ↓w_zpT, ↓w_zpF, ↓w_gadd, ↓w_gsub, ↓w_fs1, ↓w_fs2, ↓w_fs3, ↓w_fs4, ↓w_fs5, ↓w_fs6, ↓w_un2, ↓w_un3, ↓w_un4, ↓w_goN, ↓w_goR, ↓w_goB, ↓w_goC, ↓w_feN, ↓w_feR, ↓w_repr, true_and, and_true, and_self, if_true, if_false, Bool.false_eq_true, Bool.not_true, Bool.not_false, decide_true, decide_false, ↓wp_calK, ↓kw_03, ↓kw_02, ↓kw_01, ↓pick_210, ↓pick_10, ↓pick_01, ↓pick_0, ↓w_sumF, ↓w_sumT, ↓w_srt, ↓w_maxL, ↓w_minL, ↓wp_starM, ↓wp_consM, ↓w_itT, ↓w_itF, ↓wp_rl2M, ↓wp_rl1M, ↓w_rl, ↓wp_dn3I, ↓w_dn3, ↓wp_mulTM, ↓w_mulT, ↓wp_niDM, ↓wp_inDM, ↓wp_zpM, ↓w_zpFF, ↓wp_isBM, ↓wp_nsBM, ↓w_isBB, ↓w_nsBB, ↓wp_catO, ↓w_catF, ↓kw_04, ↓pick_3210]
        exact ⟨sz_le (by simp), q⟩

end G.K75

set_option Elab.async false
set_option linter.all false
set_option maxRecDepth 100000
set_option maxHeartbeats 4000000
namespace G.K75
open PySem G
theorem way_wp {m : Hs} {cs ls : List Int} {fx mo goal q p : Int} {Φ : Nat → Int → Int} (v : Vp cs ls) (hmo : cs.getLast? = some mo) (hb : mo < 90000) (hg0 : 0 ≤ goal) (hg1 : goal ≤ mo)
    (hU : ∀ t : Tk, Sv cs ls t.lv t.sz → t.sz < mo → Sv cs ls (upS cs fx t).1.lv (upS cs fx t).1.sz ∧ (upS cs fx t).1.sz = t.sz + 1 ∧ (upS cs fx t).1.dn = t.dn + 1 ∧ Φ (upS cs fx t).1.lv (upS cs fx t).1.sz + q * ((upS cs fx t).1.pd - t.pd) ≤ Φ t.lv t.sz + p ∧ 0 ≤ (upS cs fx t).1.pd - t.pd ∧ (upS cs fx t).1.pd - t.pd ≤ 100000)
    (hD : ∀ t : Tk, Sv cs ls t.lv t.sz → 0 < t.sz → Sv cs ls (dnS ls fx t).1.lv (dnS ls fx t).1.sz ∧ (dnS ls fx t).1.sz = t.sz - 1 ∧ (dnS ls fx t).1.dn = t.dn + 1 ∧ Φ (dnS ls fx t).1.lv (dnS ls fx t).1.sz + q * ((dnS ls fx t).1.pd - t.pd) ≤ Φ t.lv t.sz + p ∧ 0 ≤ (dnS ls fx t).1.pd - t.pd ∧ (dnS ls fx t).1.pd - t.pd ≤ 100000)
    {t : Tk} (s : Sv cs ls t.lv t.sz) (ht : t.sz ≤ mo) {B : Type} {R : Fl (D × D × D × D) B → Hs → Prop}
    (hR : ∀ u : Tk, Sv cs ls u.lv u.sz → u.sz = goal → t.dn ≤ u.dn → Φ u.lv u.sz + q * (u.pd - t.pd) ≤ Φ t.lv t.sz + p * (u.dn - t.dn) → u.dn - t.dn ≤ 90000 → 0 ≤ u.pd - t.pd → u.pd - t.pd ≤ 100000 * (u.dn - t.dn) → R (.nx (.int u.lv, .int u.sz, .int u.pd, .int u.dn)) m) :
    wp (whlM (fun s_1 => cmpM .ne (ret s_1.2.1) (ret (.int goal))) ((.int t.lv, .int t.sz, .int t.pd, .int t.dn) : D × D × D × D) fun s_1 => bnd (calM (fs3 t_law_popped) (lsM [ret (pol cs ls fx), ret s_1.1, ret s_1.2.1])) fun step => seq (iff (cmpM .gt (ret (.int goal)) (ret s_1.2.1)) (bnd (calM (fs3 t_law_pushed) (lsM [ret (pol cs ls fx), ret s_1.1, ret s_1.2.1])) fun step_1 => nxt step_1) (nxt step)) fun (s_2 : D) => seq (iff (cmpM .is (ret s_2) (ret .non)) (rtn (tupM (lsM [ret (.int 0), ret (.int 1)]))) (nxt ())) fun (s_3 : Unit) => bnd (idxM (ret s_2) (ret (.int 0))) fun level_1 => bnd (idxM (ret s_2) (ret (.int 1))) fun size_1 => bnd (binM .add (ret s_1.2.2.1) (idxM (ret s_2) (ret (.int 2)))) fun paid_1 => bnd (binM .add (ret s_1.2.2.2) (ret (.int 1))) fun done_1 => nxt (level_1, size_1, paid_1, done_1)) m R := by
  refine wp_whlM (fun n z m1 => m1 = m ∧ ∃ u : Tk, z = (.int u.lv, .int u.sz, .int u.pd, .int u.dn) ∧ Sv cs ls u.lv u.sz ∧ u.sz ≤ mo ∧ n = (goal - u.sz).natAbs ∧ t.dn ≤ u.dn ∧ Φ u.lv u.sz + q * (u.pd - t.pd) ≤ Φ t.lv t.sz + p * (u.dn - t.dn) ∧ (n : Int) + (u.dn - t.dn) ≤ 90000 ∧ 0 ≤ u.pd - t.pd ∧ u.pd - t.pd ≤ 100000 * (u.dn - t.dn)) (goal - t.sz).natAbs (by have := s.low; omega) ⟨rfl, t, rfl, s, ht, rfl, Int.le_refl _, by simp, by have := s.low; omega, by omega, by omega⟩ fun n z m1 hI => ?_
  obtain ⟨rfl, u, rfl, su, hu, rfl, hd, hc, hb1, hb2, hb3⟩ := hI
  by_cases he : u.sz = goal
  · have hbz : (u.sz == goal) = true := by simpa using he
    simp -failIfUnchanged only [hbz, Bool.not_true, Bool.false_eq_true, if_false, ↓wp_retE, ↓wp_bad, ↓wp_bnd, ↓wp_nxt, ↓wp_brk, ↓wp_cnt, ↓wp_rtn, ↓wp_seq, ↓wp_iff, ↓wp_fnM, ↓wp_binM, ↓wp_cmpM, ↓wp_idxM, ↓wp_negM, ↓wp_notM, ↓wp_andM, ↓wp_orM, ↓wp_iteM, ↓wp_chnM, ↓wp_chnS, ↓wp_ls0, ↓wp_ls1, ↓wp_tupM, ↓wp_lstM, ↓wp_lshM, ↓wp_ownM, ↓wp_idxL, ↓wp_slcM, ↓wp_noP, ↓wp_soP, ↓wp_calM, ↓wp_isiM, ↓wp_forM, ↓wp_seqI, ↓wp_rng1, ↓wp_rng2, ↓wp_enum, ↓wp_enum2, ↓enum2_t, ↓enum2_f, ↓wp_zip, ↓rng1_int, ↓rng2_int, ↓wp_lcM, ↓wp_lcO, ↓wp_appO, ↓wp_extO, ↓wp_fldM, ↓wp_fldT, ↓wp_mthM, ↓wp_makM, ↓wp_augF, ↓tpT2, ↓nonS_non, ↓wp_subT, ↓w_add, ↓w_sub, ↓w_mul, ↓w_fdiv, ↓w_mod, ↓w_pow, ↓w_shl, ↓w_addT, ↓w_addL, ↓w_lt, ↓w_le, ↓w_gt, ↓w_ge, ↓w_eqI, ↓w_neI, ↓w_eqS, ↓w_neS, ↓w_isN, ↓w_ntN, ↓w_isI, ↓w_ntI, ↓w_isT, ↓w_ntT, ↓w_isF, ↓w_ntF, ↓w_isR, ↓w_ntR, ↓w_isB, ↓w_ntB, ↓w_isS, ↓w_ntS, ↓w_trB, ↓w_trI, ↓w_trN, ↓w_trT, ↓w_trF, ↓w_ixT0, ↓w_ixT1, ↓w_ixT2, ↓w_ixT3, ↓w_ixF0, ↓w_ixF1, ↓w_ixF2, ↓w_ixF3, ↓w_ixS0, ↓w_ixS1, ↓w_ixS2, ↓w_ixS3, ↓w_idL, ↓w_neg, ↓w_slT, ↓w_slF, ↓w_soP, ↓w_lenT, ↓w_lenF, ↓w_lenS, ↓w_abs, ↓w_min, ↓w_max, ↓w_intI, ↓w_intB, ↓w_tupT, ↓w_tupF, ↓w_lstT, ↓w_lstF, ↓w_sum, ↓w_all, ↓w_any, ↓w_is_int_N, ↓w_is_int_B, ↓w_is_int_I, ↓w_is_int_S, ↓w_is_int_T, ↓w_is_int_F, ↓w_is_bl_N, ↓w_is_bl_B, ↓w_is_bl_I, ↓w_is_bl_S, ↓w_is_bl_T, ↓w_is_bl_F, ↓w_is_tup_N, ↓w_is_tup_B, ↓w_is_tup_I, ↓w_is_tup_S, ↓w_is_tup_T, ↓w_is_tup_F, ↓w_is_str_N, ↓w_is_str_B, ↓w_is_str_I, ↓w_is_str_S, ↓w_is_str_T, ↓w_is_str_F, ↓w_is_lst_N, ↓w_is_lst_B, ↓w_is_lst_I, ↓w_is_lst_S, ↓w_is_lst_T, ↓w_is_lst_F, ↓w_guT, ↓w_guF, ↓w_guS, ↓w_lsF, ↓w_enT, ↓w_enF, ↓w_zpT, ↓w_zpF, ↓w_gadd, ↓w_gsub, ↓w_fs1, ↓w_fs2, ↓w_fs3, ↓w_fs4, ↓w_fs5, ↓w_fs6, ↓w_un2, ↓w_un3, ↓w_un4, ↓w_goN, ↓w_goR, ↓w_goB, ↓w_goC, ↓w_feN, ↓w_feR, ↓w_repr, true_and, and_true, and_self, if_true, if_false, Bool.false_eq_true, Bool.not_true, Bool.not_false, decide_true, decide_false, ↓wp_calK, ↓kw_03, ↓kw_02, ↓kw_01, ↓pick_210, ↓pick_10, ↓pick_01, ↓pick_0, ↓w_sumF, ↓w_sumT, ↓w_srt, ↓w_maxL, ↓w_minL, ↓wp_starM, ↓wp_consM, ↓w_itT, ↓w_itF, ↓wp_rl2M, ↓wp_rl1M, ↓w_rl, ↓wp_dn3I, ↓w_dn3, ↓wp_mulTM, ↓w_mulT, ↓wp_niDM, ↓wp_inDM, ↓wp_zpM, ↓w_zpFF, ↓wp_isBM, ↓wp_nsBM, ↓w_isBB, ↓w_nsBB, ↓wp_catO, ↓w_catF, ↓kw_04, ↓pick_3210]
    exact hR u su he hd hc (by omega) hb2 hb3
  · have hbz : (u.sz == goal) = false := by simpa using he
    have e1 := popped_eq (fx := fx) v su
    by_cases hg : u.sz < goal
    · have e2 := pushed_eq (fx := fx) v hmo su (by omega)
      obtain ⟨a1, a2, a3, a4, a5, a6⟩ := hU u su (by omega)
      generalize (upS cs fx u).1 = w at e2 a1 a2 a3 a4 a5 a6
      unfold stpD at e2
      simp -failIfUnchanged only [hbz, Bool.not_false, if_true, hg, ↓e1, ↓e2, ↓wp_retE, ↓wp_bad, ↓wp_bnd, ↓wp_nxt, ↓wp_brk, ↓wp_cnt, ↓wp_rtn, ↓wp_seq, ↓wp_iff, ↓wp_fnM, ↓wp_binM, ↓wp_cmpM, ↓wp_idxM, ↓wp_negM, ↓wp_notM, ↓wp_andM, ↓wp_orM, ↓wp_iteM, ↓wp_chnM, ↓wp_chnS, ↓wp_ls0, ↓wp_ls1, ↓wp_tupM, ↓wp_lstM, ↓wp_lshM, ↓wp_ownM, ↓wp_idxL, ↓wp_slcM, ↓wp_noP, ↓wp_soP, ↓wp_calM, ↓wp_isiM, ↓wp_forM, ↓wp_seqI, ↓wp_rng1, ↓wp_rng2, ↓wp_enum, ↓wp_enum2, ↓enum2_t, ↓enum2_f, ↓wp_zip, ↓rng1_int, ↓rng2_int, ↓wp_lcM, ↓wp_lcO, ↓wp_appO, ↓wp_extO, ↓wp_fldM, ↓wp_fldT, ↓wp_mthM, ↓wp_makM, ↓wp_augF, ↓tpT2, ↓nonS_non, ↓wp_subT, ↓w_add, ↓w_sub, ↓w_mul, ↓w_fdiv, ↓w_mod, ↓w_pow, ↓w_shl, ↓w_addT, ↓w_addL, ↓w_lt, ↓w_le, ↓w_gt, ↓w_ge, ↓w_eqI, ↓w_neI, ↓w_eqS, ↓w_neS, ↓w_isN, ↓w_ntN, ↓w_isI, ↓w_ntI, ↓w_isT, ↓w_ntT, ↓w_isF, ↓w_ntF, ↓w_isR, ↓w_ntR, ↓w_isB, ↓w_ntB, ↓w_isS, ↓w_ntS, ↓w_trB, ↓w_trI, ↓w_trN, ↓w_trT, ↓w_trF, ↓w_ixT0, ↓w_ixT1, ↓w_ixT2, ↓w_ixT3, ↓w_ixF0, ↓w_ixF1, ↓w_ixF2, ↓w_ixF3, ↓w_ixS0, ↓w_ixS1, ↓w_ixS2, ↓w_ixS3, ↓w_idL, ↓w_neg, ↓w_slT, ↓w_slF, ↓w_soP, ↓w_lenT, ↓w_lenF, ↓w_lenS, ↓w_abs, ↓w_min, ↓w_max, ↓w_intI, ↓w_intB, ↓w_tupT, ↓w_tupF, ↓w_lstT, ↓w_lstF, ↓w_sum, ↓w_all, ↓w_any, ↓w_is_int_N, ↓w_is_int_B, ↓w_is_int_I, ↓w_is_int_S, ↓w_is_int_T, ↓w_is_int_F, ↓w_is_bl_N, ↓w_is_bl_B, ↓w_is_bl_I, ↓w_is_bl_S, ↓w_is_bl_T, ↓w_is_bl_F, ↓w_is_tup_N, ↓w_is_tup_B, ↓w_is_tup_I, ↓w_is_tup_S, ↓w_is_tup_T, ↓w_is_tup_F, ↓w_is_str_N, ↓w_is_str_B, ↓w_is_str_I, ↓w_is_str_S, ↓w_is_str_T, ↓w_is_str_F, ↓w_is_lst_N, ↓w_is_lst_B, ↓w_is_lst_I, ↓w_is_lst_S, ↓w_is_lst_T, ↓w_is_lst_F, ↓w_guT, ↓w_guF, ↓w_guS, ↓w_lsF, ↓w_enT, ↓w_enF, ↓w_zpT, ↓w_zpF, ↓w_gadd, ↓w_gsub, ↓w_fs1, ↓w_fs2, ↓w_fs3, ↓w_fs4, ↓w_fs5, ↓w_fs6, ↓w_un2, ↓w_un3, ↓w_un4, ↓w_goN, ↓w_goR, ↓w_goB, ↓w_goC, ↓w_feN, ↓w_feR, ↓w_repr, true_and, and_true, and_self, if_true, if_false, Bool.false_eq_true, Bool.not_true, Bool.not_false, decide_true, decide_false, ↓wp_calK, ↓kw_03, ↓kw_02, ↓kw_01, ↓pick_210, ↓pick_10, ↓pick_01, ↓pick_0, ↓w_sumF, ↓w_sumT, ↓w_srt, ↓w_maxL, ↓w_minL, ↓wp_starM, ↓wp_consM, ↓w_itT, ↓w_itF, ↓wp_rl2M, ↓wp_rl1M, ↓w_rl, ↓wp_dn3I, ↓w_dn3, ↓wp_mulTM, ↓w_mulT, ↓wp_niDM, ↓wp_inDM, ↓wp_zpM, ↓w_zpFF, ↓wp_isBM, ↓wp_nsBM, ↓w_isBB, ↓w_nsBB, ↓wp_catO, ↓w_catF, ↓kw_04, ↓pick_3210]
      refine ⟨(goal - w.sz).natAbs, by omega, w, ?_, a1, by omega, rfl, by omega, ?_, by omega, by omega, by omega⟩
      · have e3 : u.pd + (w.pd - u.pd) = w.pd := by omega
        rw [e3, a3]
      · have : p * (w.dn - t.dn) = p * (u.dn - t.dn) + p := by rw [a3, show u.dn + 1 - t.dn = (u.dn - t.dn) + 1 by omega, Int.mul_add, Int.mul_one]
        have : q * (w.pd - t.pd) = q * (w.pd - u.pd) + q * (u.pd - t.pd) := by rw [← Int.mul_add]; congr 1; omega
        omega
    · obtain ⟨a1, a2, a3, a4, a5, a6⟩ := hD u su (by omega)
      have hz : ¬ u.sz = 0 := by omega
      rw [if_neg hz] at e1
      generalize (dnS ls fx u).1 = w at e1 a1 a2 a3 a4 a5 a6
      unfold stpD at e1
      simp -failIfUnchanged only [hbz, Bool.not_false, if_true, hg, ↓e1, ↓wp_retE, ↓wp_bad, ↓wp_bnd, ↓wp_nxt, ↓wp_brk, ↓wp_cnt, ↓wp_rtn, ↓wp_seq, ↓wp_iff, ↓wp_fnM, ↓wp_binM, ↓wp_cmpM, ↓wp_idxM, ↓wp_negM, ↓wp_notM, ↓wp_andM, ↓wp_orM, ↓wp_iteM, ↓wp_chnM, ↓wp_chnS, ↓wp_ls0, ↓wp_ls1, ↓wp_tupM, ↓wp_lstM, ↓wp_lshM, ↓wp_ownM, ↓wp_idxL, ↓wp_slcM, ↓wp_noP, ↓wp_soP, ↓wp_calM, ↓wp_isiM, ↓wp_forM, ↓wp_seqI, ↓wp_rng1, ↓wp_rng2, ↓wp_enum, ↓wp_enum2, ↓enum2_t, ↓enum2_f, ↓wp_zip, ↓rng1_int, ↓rng2_int, ↓wp_lcM, ↓wp_lcO, ↓wp_appO, ↓wp_extO, ↓wp_fldM, ↓wp_fldT, ↓wp_mthM, ↓wp_makM, ↓wp_augF, ↓tpT2, ↓nonS_non, ↓wp_subT, ↓w_add, ↓w_sub, ↓w_mul, ↓w_fdiv, ↓w_mod, ↓w_pow, ↓w_shl, ↓w_addT, ↓w_addL, ↓w_lt, ↓w_le, ↓w_gt, ↓w_ge, ↓w_eqI, ↓w_neI, ↓w_eqS, ↓w_neS, ↓w_isN, ↓w_ntN, ↓w_isI, ↓w_ntI, ↓w_isT, ↓w_ntT, ↓w_isF, ↓w_ntF, ↓w_isR, ↓w_ntR, ↓w_isB, ↓w_ntB, ↓w_isS, ↓w_ntS, ↓w_trB, ↓w_trI, ↓w_trN, ↓w_trT, ↓w_trF, ↓w_ixT0, ↓w_ixT1, ↓w_ixT2, ↓w_ixT3, ↓w_ixF0, ↓w_ixF1, ↓w_ixF2, ↓w_ixF3, ↓w_ixS0, ↓w_ixS1, ↓w_ixS2, ↓w_ixS3, ↓w_idL, ↓w_neg, ↓w_slT, ↓w_slF, ↓w_soP, ↓w_lenT, ↓w_lenF, ↓w_lenS, ↓w_abs, ↓w_min, ↓w_max, ↓w_intI, ↓w_intB, ↓w_tupT, ↓w_tupF, ↓w_lstT, ↓w_lstF, ↓w_sum, ↓w_all, ↓w_any, ↓w_is_int_N, ↓w_is_int_B, ↓w_is_int_I, ↓w_is_int_S, ↓w_is_int_T, ↓w_is_int_F, ↓w_is_bl_N, ↓w_is_bl_B, ↓w_is_bl_I, ↓w_is_bl_S, ↓w_is_bl_T, ↓w_is_bl_F, ↓w_is_tup_N, ↓w_is_tup_B, ↓w_is_tup_I, ↓w_is_tup_S, ↓w_is_tup_T, ↓w_is_tup_F, ↓w_is_str_N, ↓w_is_str_B, ↓w_is_str_I, ↓w_is_str_S, ↓w_is_str_T, ↓w_is_str_F, ↓w_is_lst_N, ↓w_is_lst_B, ↓w_is_lst_I, ↓w_is_lst_S, ↓w_is_lst_T, ↓w_is_lst_F, ↓w_guT, ↓w_guF, ↓w_guS, ↓w_lsF, ↓w_enT, ↓w_enF, ↓w_zpT, ↓w_zpF, ↓w_gadd, ↓w_gsub, ↓w_fs1, ↓w_fs2, ↓w_fs3, ↓w_fs4, ↓w_fs5, ↓w_fs6, ↓w_un2, ↓w_un3, ↓w_un4, ↓w_goN, ↓w_goR, ↓w_goB, ↓w_goC, ↓w_feN, ↓w_feR, ↓w_repr, true_and, and_true, and_self, if_true, if_false, Bool.false_eq_true, Bool.not_true, Bool.not_false, decide_true, decide_false, ↓wp_calK, ↓kw_03, ↓kw_02, ↓kw_01, ↓pick_210, ↓pick_10, ↓pick_01, ↓pick_0, ↓w_sumF, ↓w_sumT, ↓w_srt, ↓w_maxL, ↓w_minL, ↓wp_starM, ↓wp_consM, ↓w_itT, ↓w_itF, ↓wp_rl2M, ↓wp_rl1M, ↓w_rl, ↓wp_dn3I, ↓w_dn3, ↓wp_mulTM, ↓w_mulT, ↓wp_niDM, ↓wp_inDM, ↓wp_zpM, ↓w_zpFF, ↓wp_isBM, ↓wp_nsBM, ↓w_isBB, ↓w_nsBB, ↓wp_catO, ↓w_catF, ↓kw_04, ↓pick_3210]
      refine ⟨(goal - w.sz).natAbs, by omega, w, ?_, a1, by omega, rfl, by omega, ?_, by omega, by omega, by omega⟩
      · have e3 : u.pd + (w.pd - u.pd) = w.pd := by omega
        rw [e3, a3]
      · have : p * (w.dn - t.dn) = p * (u.dn - t.dn) + p := by rw [a3, show u.dn + 1 - t.dn = (u.dn - t.dn) + 1 by omega, Int.mul_add, Int.mul_one]
        have : q * (w.pd - t.pd) = q * (w.pd - u.pd) + q * (u.pd - t.pd) := by rw [← Int.mul_add]; congr 1; omega
        omega

end G.K75

set_option Elab.async false
set_option linter.all false
set_option maxRecDepth 100000
set_option maxHeartbeats 4000000
namespace G.K75
open PySem G
theorem upS_dn {cs : List Int} {fx : Int} {t : Tk} {c : Int} (h : cs[t.lv]? = some c) : (upS cs fx t).1.dn = t.dn + 1 := by
  unfold upS
  rw [h]
  dsimp only
  split <;> rfl
theorem dnS_dn {ls : List Int} {fx : Int} {t : Tk} (h : t.lv ≤ ls.length) : (dnS ls fx t).1.dn = t.dn + 1 := by
  obtain ⟨lv, sz, pd, dn⟩ := t
  cases lv with
  | zero => rfl
  | succ k =>
    obtain ⟨l, hl⟩ := get_ex (l := ls) (i := k) (by have h : k + 1 ≤ ls.length := h; omega)
    unfold dnS
    simp only [hl]
    split <;> rfl
section
variable {cs ls : List Int} {fx mo q p : Int} {X : Bool × Nat → Int}
theorem step_up (v : Vp cs ls) (hmo : cs.getLast? = some mo) (hX : ∀ v, v ∈ ndS ls.length → stp (wG cs ls fx q) (sucG cs ls p) X v ≤ X v) (hp : 0 ≤ p) (hf0 : 0 ≤ fx) (hf1 : fx ≤ 1000) (hb : mo < 90000) (t : Tk) (s : Sv cs ls t.lv t.sz) (ht : t.sz < mo) :
    Sv cs ls (upS cs fx t).1.lv (upS cs fx t).1.sz ∧ (upS cs fx t).1.sz = t.sz + 1 ∧ (upS cs fx t).1.dn = t.dn + 1 ∧ crdv cs ls p X ((upS cs fx t).1.lv, (upS cs fx t).1.sz) + q * ((upS cs fx t).1.pd - t.pd) ≤ crdv cs ls p X (t.lv, t.sz) + p ∧ 0 ≤ (upS cs fx t).1.pd - t.pd ∧ (upS cs fx t).1.pd - t.pd ≤ 100000 := by
  obtain ⟨a1, a2, _⟩ := up_ok (fx := fx) (goal := mo) v hmo s ht (Int.le_refl _)
  obtain ⟨c, hc, hs⟩ := s.top
  have h0 := s.low
  have hbd : 0 ≤ (upS cs fx t).1.pd - t.pd ∧ (upS cs fx t).1.pd - t.pd ≤ 100000 := by
    unfold upS
    rw [hc]
    dsimp only
    split <;> simp only <;> omega
  refine ⟨a1, a2, upS_dn hc, ?_, hbd⟩
  refine crd_one (b := true) v hX hp s fun _ => ?_
  obtain ⟨c1, c2⟩ := s.cap
  have hl := v.last hmo hc
  have hlt := get_lt hc
  have hlen := v.len
  have e : us cs t.lv = c := by
    rw [hc] at c1
    exact (Option.some.inj c1).symm
  by_cases z : t.lv < ls.length
  · exact .inr z
  · have := hl.2 (by omega)
    exact .inl (by omega)
theorem step_dn (v : Vp cs ls) (hmo : cs.getLast? = some mo) (hX : ∀ v, v ∈ ndS ls.length → stp (wG cs ls fx q) (sucG cs ls p) X v ≤ X v) (hp : 0 ≤ p) (hf0 : 0 ≤ fx) (hf1 : fx ≤ 1000) (hb : mo < 90000) (t : Tk) (s : Sv cs ls t.lv t.sz) (ht : 0 < t.sz) :
    Sv cs ls (dnS ls fx t).1.lv (dnS ls fx t).1.sz ∧ (dnS ls fx t).1.sz = t.sz - 1 ∧ (dnS ls fx t).1.dn = t.dn + 1 ∧ crdv cs ls p X ((dnS ls fx t).1.lv, (dnS ls fx t).1.sz) + q * ((dnS ls fx t).1.pd - t.pd) ≤ crdv cs ls p X (t.lv, t.sz) + p ∧ 0 ≤ (dnS ls fx t).1.pd - t.pd ∧ (dnS ls fx t).1.pd - t.pd ≤ 100000 := by
  obtain ⟨a1, a2, _⟩ := dn_ok (fx := fx) (goal := 0) v s ht (Int.le_refl _)
  obtain ⟨c, hc, hs⟩ := s.top
  have hlt := get_lt hc
  have hlen := v.len
  have h0 := s.low
  have hle := (v.last hmo hc).1
  have hbd : 0 ≤ (dnS ls fx t).1.pd - t.pd ∧ (dnS ls fx t).1.pd - t.pd ≤ 100000 := by
    unfold dnS
    split
    · simp only; omega
    · split
      · split
        · rename_i l _ he
          simp only
          omega
        · simp only; omega
      · simp only; omega
  refine ⟨a1, a2, dnS_dn (by omega), ?_, hbd⟩
  exact crd_one (b := false) v hX hp s fun z => by cases z
end

end G.K75

set_option Elab.async false
set_option linter.all false
set_option maxRecDepth 100000
set_option maxHeartbeats 4000000
namespace G.K75
open PySem G
theorem fil_lt {α : Type} {f g : α → Bool} (h : ∀ a, g a = true → f a = true) : ∀ {S : List α} {x : α}, x ∈ S → f x = true → g x = false → (S.filter g).length < (S.filter f).length
  | a :: S, x, hx, h1, h2 => by
    have le : ∀ S : List α, (S.filter g).length ≤ (S.filter f).length := fun S => by
      induction S with
      | nil => exact Nat.le_refl _
      | cons b S ih =>
        rw [List.filter_cons, List.filter_cons]
        by_cases hb : g b = true
        · rw [if_pos hb, if_pos (h b hb)]; simpa using ih
        · rw [if_neg hb]
          split
          · simp only [List.length_cons]; omega
          · exact ih
    rw [List.filter_cons, List.filter_cons]
    rcases List.mem_cons.1 hx with rfl | hx
    · rw [if_pos h1, if_neg (by simp [h2])]
      have := le S
      simp only [List.length_cons]
      omega
    · have ih := fil_lt h hx h1 h2
      by_cases hb : g a = true
      · rw [if_pos hb, if_pos (h a hb)]; simpa using ih
      · rw [if_neg hb]
        split
        · simp only [List.length_cons]; omega
        · exact ih
def sts (n : Nat) (low high : Int) : List D := (List.range n).map (fun i => stK (i : Nat) low) ++ (List.range n).map (fun i => stK (i : Nat) high)
theorem sts_mem {n k : Nat} {low high g : Int} (h : k < n) (hg : g = low ∨ g = high) : stK (k : Nat) g ∈ sts n low high := by
  unfold sts
  rw [List.mem_append]
  rcases hg with rfl | rfl
  · exact .inl (List.mem_map.2 ⟨k, List.mem_range.2 h, rfl⟩)
  · exact .inr (List.mem_map.2 ⟨k, List.mem_range.2 h, rfl⟩)
theorem sts_len {n : Nat} {low high : Int} : (sts n low high).length = 2 * n := by
  simp [sts]
  omega
def fre (n : Nat) (low high : Int) (ks : List D) : Nat := ((sts n low high).filter fun k => !hasD ks k).length
theorem fre_put {n : Nat} {low high : Int} {ks ds : List D} {k y : D} (h1 : k ∈ sts n low high) (h2 : k ∉ ks) : fre n low high (putE ks ds k y).1 < fre n low high ks := by
  refine fil_lt (fun a ha => ?_) h1 ?_ ?_
  · rw [Bool.not_eq_true'] at ha ⊢
    cases hh : hasD ks a with
    | false => rfl
    | true =>
      have := hasD_iff.2 (putE_mem (ds := ds) (k := k) (v := y).2 (.inl (hasD_iff.1 hh)))
      rw [this] at ha
      cases ha
  · rw [Bool.not_eq_true']
    cases hh : hasD ks k with
    | false => rfl
    | true => exact absurd (hasD_iff.1 hh) h2
  · rw [Bool.not_eq_false', hasD_iff]
    exact putE_mem.2 (.inr rfl)

end G.K75

set_option Elab.async false
set_option linter.all false
set_option maxRecDepth 100000
set_option maxHeartbeats 4000000
namespace G.K75
open PySem G
theorem cycle_wp {m : Hs} {cs ls : List Int} {fx mo q p low high : Int} {X : Bool × Nat → Int} (v : Vp cs ls) (hmo : cs.getLast? = some mo) (hb : mo < 90000) (hn : cs.length ≤ 1000) (h0 : 0 ≤ low) (h1 : low ≤ mo) (h2 : 0 ≤ high) (h3 : high ≤ mo)
    (hX : ∀ v, v ∈ ndS ls.length → stp (wG cs ls fx q) (sucG cs ls p) X v ≤ X v) (hp : 0 ≤ p) (hf0 : 0 ≤ fx) (hf1 : fx ≤ 1000) (s0 : Sv cs ls 0 0) {Q : D → Hs → Prop}
    (hQ : ∀ a b o, q * a ≤ p * b → 0 ≤ a → a < 2 ^ 90 → 0 ≤ b → b < 2 ^ 90 → Q (.tup [.int a, .int b]) (m ++ [o])) : wp (t_law_cycle (pol cs ls fx) (.int low) (.int high)) m Q := by
  unfold t_law_cycle bd_law_cycle
  simp -failIfUnchanged only [w_dnew, un5, ↓wp_retE, ↓wp_bad, ↓wp_bnd, ↓wp_nxt, ↓wp_brk, ↓wp_cnt, ↓wp_rtn, ↓wp_iff, ↓wp_fnM, ↓wp_binM, ↓wp_cmpM, ↓wp_idxM, ↓wp_negM, ↓wp_notM, ↓wp_andM, ↓wp_orM, ↓wp_iteM, ↓wp_chnM, ↓wp_chnS, ↓wp_ls0, ↓wp_ls1, ↓wp_tupM, ↓wp_lstM, ↓wp_lshM, ↓wp_ownM, ↓wp_idxL, ↓wp_slcM, ↓wp_noP, ↓wp_soP, ↓wp_calM, ↓wp_isiM, ↓wp_forM, ↓wp_seqI, ↓wp_rng1, ↓wp_rng2, ↓wp_enum, ↓wp_enum2, ↓enum2_t, ↓enum2_f, ↓wp_zip, ↓rng1_int, ↓rng2_int, ↓wp_lcM, ↓wp_lcO, ↓wp_appO, ↓wp_extO, ↓wp_fldM, ↓wp_fldT, ↓wp_mthM, ↓wp_makM, ↓wp_augF, ↓tpT2, ↓nonS_non, ↓wp_subT, ↓w_add, ↓w_sub, ↓w_mul, ↓w_fdiv, ↓w_mod, ↓w_pow, ↓w_shl, ↓w_addT, ↓w_addL, ↓w_lt, ↓w_le, ↓w_gt, ↓w_ge, ↓w_eqI, ↓w_neI, ↓w_eqS, ↓w_neS, ↓w_isN, ↓w_ntN, ↓w_isI, ↓w_ntI, ↓w_isT, ↓w_ntT, ↓w_isF, ↓w_ntF, ↓w_isR, ↓w_ntR, ↓w_isB, ↓w_ntB, ↓w_isS, ↓w_ntS, ↓w_trB, ↓w_trI, ↓w_trN, ↓w_trT, ↓w_trF, ↓w_ixT0, ↓w_ixT1, ↓w_ixT2, ↓w_ixT3, ↓w_ixF0, ↓w_ixF1, ↓w_ixF2, ↓w_ixF3, ↓w_ixS0, ↓w_ixS1, ↓w_ixS2, ↓w_ixS3, ↓w_idL, ↓w_neg, ↓w_slT, ↓w_slF, ↓w_soP, ↓w_lenT, ↓w_lenF, ↓w_lenS, ↓w_abs, ↓w_min, ↓w_max, ↓w_intI, ↓w_intB, ↓w_tupT, ↓w_tupF, ↓w_lstT, ↓w_lstF, ↓w_sum, ↓w_all, ↓w_any, ↓w_is_int_N, ↓w_is_int_B, ↓w_is_int_I, ↓w_is_int_S, ↓w_is_int_T, ↓w_is_int_F, ↓w_is_bl_N, ↓w_is_bl_B, ↓w_is_bl_I, ↓w_is_bl_S, ↓w_is_bl_T, ↓w_is_bl_F, ↓w_is_tup_N, ↓w_is_tup_B, ↓w_is_tup_I, ↓w_is_tup_S, ↓w_is_tup_T, ↓w_is_tup_F, ↓w_is_str_N, ↓w_is_str_B, ↓w_is_str_I, ↓w_is_str_S, ↓w_is_str_T, ↓w_is_str_F, ↓w_is_lst_N, ↓w_is_lst_B, ↓w_is_lst_I, ↓w_is_lst_S, ↓w_is_lst_T, ↓w_is_lst_F, ↓w_guT, ↓w_guF, ↓w_guS, ↓w_lsF, ↓w_enT, ↓w_enF, ↓w_zpT, ↓w_zpF, ↓w_gadd, ↓w_gsub, ↓w_fs1, ↓w_fs2, ↓w_fs3, ↓w_fs4, ↓w_fs5, ↓w_fs6, ↓w_un2, ↓w_un3, ↓w_un4, ↓w_goN, ↓w_goR, ↓w_goB, ↓w_goC, ↓w_feN, ↓w_feR, ↓w_repr, true_and, and_true, and_self, if_true, if_false, Bool.false_eq_true, Bool.not_true, Bool.not_false, decide_true, decide_false, ↓wp_calK, ↓kw_03, ↓kw_02, ↓kw_01, ↓pick_210, ↓pick_10, ↓pick_01, ↓pick_0, ↓w_sumF, ↓w_sumT, ↓w_srt, ↓w_maxL, ↓w_minL, ↓wp_starM, ↓wp_consM, ↓w_itT, ↓w_itF, ↓wp_rl2M, ↓wp_rl1M, ↓w_rl, ↓wp_dn3I, ↓w_dn3, ↓wp_mulTM, ↓w_mulT, ↓wp_niDM, ↓wp_inDM, ↓wp_zpM, ↓w_zpFF, ↓wp_isBM, ↓wp_nsBM, ↓w_isBB, ↓w_nsBB, ↓wp_catO, ↓w_catF, ↓kw_04, ↓pick_3210]
  refine ⟨sz_le (by simp), ?_⟩
  simp -failIfUnchanged only [↓wp_retE, ↓wp_bad, ↓wp_bnd, ↓wp_nxt, ↓wp_brk, ↓wp_cnt, ↓wp_rtn, ↓wp_iff, ↓wp_fnM, ↓wp_binM, ↓wp_cmpM, ↓wp_idxM, ↓wp_negM, ↓wp_notM, ↓wp_andM, ↓wp_orM, ↓wp_iteM, ↓wp_chnM, ↓wp_chnS, ↓wp_ls0, ↓wp_ls1, ↓wp_tupM, ↓wp_lstM, ↓wp_lshM, ↓wp_ownM, ↓wp_idxL, ↓wp_slcM, ↓wp_noP, ↓wp_soP, ↓wp_calM, ↓wp_isiM, ↓wp_forM, ↓wp_seqI, ↓wp_rng1, ↓wp_rng2, ↓wp_enum, ↓wp_enum2, ↓enum2_t, ↓enum2_f, ↓wp_zip, ↓rng1_int, ↓rng2_int, ↓wp_lcM, ↓wp_lcO, ↓wp_appO, ↓wp_extO, ↓wp_fldM, ↓wp_fldT, ↓wp_mthM, ↓wp_makM, ↓wp_augF, ↓tpT2, ↓nonS_non, ↓wp_subT, ↓w_add, ↓w_sub, ↓w_mul, ↓w_fdiv, ↓w_mod, ↓w_pow, ↓w_shl, ↓w_addT, ↓w_addL, ↓w_lt, ↓w_le, ↓w_gt, ↓w_ge, ↓w_eqI, ↓w_neI, ↓w_eqS, ↓w_neS, ↓w_isN, ↓w_ntN, ↓w_isI, ↓w_ntI, ↓w_isT, ↓w_ntT, ↓w_isF, ↓w_ntF, ↓w_isR, ↓w_ntR, ↓w_isB, ↓w_ntB, ↓w_isS, ↓w_ntS, ↓w_trB, ↓w_trI, ↓w_trN, ↓w_trT, ↓w_trF, ↓w_ixT0, ↓w_ixT1, ↓w_ixT2, ↓w_ixT3, ↓w_ixF0, ↓w_ixF1, ↓w_ixF2, ↓w_ixF3, ↓w_ixS0, ↓w_ixS1, ↓w_ixS2, ↓w_ixS3, ↓w_idL, ↓w_neg, ↓w_slT, ↓w_slF, ↓w_soP, ↓w_lenT, ↓w_lenF, ↓w_lenS, ↓w_abs, ↓w_min, ↓w_max, ↓w_intI, ↓w_intB, ↓w_tupT, ↓w_tupF, ↓w_lstT, ↓w_lstF, ↓w_sum, ↓w_all, ↓w_any, ↓w_is_int_N, ↓w_is_int_B, ↓w_is_int_I, ↓w_is_int_S, ↓w_is_int_T, ↓w_is_int_F, ↓w_is_bl_N, ↓w_is_bl_B, ↓w_is_bl_I, ↓w_is_bl_S, ↓w_is_bl_T, ↓w_is_bl_F, ↓w_is_tup_N, ↓w_is_tup_B, ↓w_is_tup_I, ↓w_is_tup_S, ↓w_is_tup_T, ↓w_is_tup_F, ↓w_is_str_N, ↓w_is_str_B, ↓w_is_str_I, ↓w_is_str_S, ↓w_is_str_T, ↓w_is_str_F, ↓w_is_lst_N, ↓w_is_lst_B, ↓w_is_lst_I, ↓w_is_lst_S, ↓w_is_lst_T, ↓w_is_lst_F, ↓w_guT, ↓w_guF, ↓w_guS, ↓w_lsF, ↓w_enT, ↓w_enF, ↓w_zpT, ↓w_zpF, ↓w_gadd, ↓w_gsub, ↓w_fs1, ↓w_fs2, ↓w_fs3, ↓w_fs4, ↓w_fs5, ↓w_fs6, ↓w_un2, ↓w_un3, ↓w_un4, ↓w_goN, ↓w_goR, ↓w_goB, ↓w_goC, ↓w_feN, ↓w_feR, ↓w_repr, true_and, and_true, and_self, if_true, if_false, Bool.false_eq_true, Bool.not_true, Bool.not_false, decide_true, decide_false, ↓wp_calK, ↓kw_03, ↓kw_02, ↓kw_01, ↓pick_210, ↓pick_10, ↓pick_01, ↓pick_0, ↓w_sumF, ↓w_sumT, ↓w_srt, ↓w_maxL, ↓w_minL, ↓wp_starM, ↓wp_consM, ↓w_itT, ↓w_itF, ↓wp_rl2M, ↓wp_rl1M, ↓w_rl, ↓wp_dn3I, ↓w_dn3, ↓wp_mulTM, ↓w_mulT, ↓wp_niDM, ↓wp_inDM, ↓wp_zpM, ↓w_zpFF, ↓wp_isBM, ↓wp_nsBM, ↓w_isBB, ↓w_nsBB, ↓wp_catO, ↓w_catF, ↓kw_04, ↓pick_3210]
  rw [wp_seq]
  refine wp_whlM (fun n z m1 => ∃ (u : Tk) (g : Int) (ks ds : List D), ks.length = ds.length ∧ m1 = m ++ [.dct ks ds] ∧ z = (.int u.lv, .int u.sz, .int u.pd, .int u.dn, .int g) ∧ Sv cs ls u.lv u.sz ∧ (g = low ∨ g = high) ∧ n = fre cs.length low high ks ∧ ks.length + n ≤ 2 * cs.length ∧ (0 ≤ u.dn ∧ u.dn + 90000 * (n : Int) ≤ 90000 * (2 * cs.length : Nat) ∧ 0 ≤ u.pd ∧ u.pd ≤ 100000 * u.dn) ∧
    ∀ (lv : Nat) (sz : Int) (d : D), lookD ks ds (stK lv sz) = some d → ∃ a b, d = .tup [.int a, .int b] ∧ (0 ≤ a ∧ a ≤ u.pd ∧ 0 ≤ b ∧ b ≤ u.dn) ∧ crdv cs ls p X (u.lv, u.sz) + q * (u.pd - a) ≤ crdv cs ls p X (lv, sz) + p * (u.dn - b)) (fre cs.length low high []) ?_ ?_ ?_
  · have : fre cs.length low high [] ≤ (sts cs.length low high).length := List.length_filter_le _ _
    rw [sts_len] at this
    omega
  · have : fre cs.length low high [] ≤ (sts cs.length low high).length := List.length_filter_le _ _
    rw [sts_len] at this
    exact ⟨⟨0, 0, 0, 0⟩, high, [], [], rfl, rfl, rfl, s0, .inr rfl, rfl, by simpa using this, ⟨by simp, by simp only; omega, by simp, by simp⟩, fun lv sz d h => by cases h⟩
  · intro n z m1 hI
    obtain ⟨u, g, ks, ds, hl, rfl, rfl, su, hg, rfl, hk, ⟨hq1, hq2, hq3, hq4⟩, hd⟩ := hI
    simp -failIfUnchanged only [↓wp_retE, ↓wp_bad, ↓wp_bnd, ↓wp_nxt, ↓wp_brk, ↓wp_cnt, ↓wp_rtn, ↓wp_iff, ↓wp_fnM, ↓wp_binM, ↓wp_cmpM, ↓wp_idxM, ↓wp_negM, ↓wp_notM, ↓wp_andM, ↓wp_orM, ↓wp_iteM, ↓wp_chnM, ↓wp_chnS, ↓wp_ls0, ↓wp_ls1, ↓wp_tupM, ↓wp_lstM, ↓wp_lshM, ↓wp_ownM, ↓wp_idxL, ↓wp_slcM, ↓wp_noP, ↓wp_soP, ↓wp_calM, ↓wp_isiM, ↓wp_forM, ↓wp_seqI, ↓wp_rng1, ↓wp_rng2, ↓wp_enum, ↓wp_enum2, ↓enum2_t, ↓enum2_f, ↓wp_zip, ↓rng1_int, ↓rng2_int, ↓wp_lcM, ↓wp_lcO, ↓wp_appO, ↓wp_extO, ↓wp_fldM, ↓wp_fldT, ↓wp_mthM, ↓wp_makM, ↓wp_augF, ↓tpT2, ↓nonS_non, ↓wp_subT, ↓w_add, ↓w_sub, ↓w_mul, ↓w_fdiv, ↓w_mod, ↓w_pow, ↓w_shl, ↓w_addT, ↓w_addL, ↓w_lt, ↓w_le, ↓w_gt, ↓w_ge, ↓w_eqI, ↓w_neI, ↓w_eqS, ↓w_neS, ↓w_isN, ↓w_ntN, ↓w_isI, ↓w_ntI, ↓w_isT, ↓w_ntT, ↓w_isF, ↓w_ntF, ↓w_isR, ↓w_ntR, ↓w_isB, ↓w_ntB, ↓w_isS, ↓w_ntS, ↓w_trB, ↓w_trI, ↓w_trN, ↓w_trT, ↓w_trF, ↓w_ixT0, ↓w_ixT1, ↓w_ixT2, ↓w_ixT3, ↓w_ixF0, ↓w_ixF1, ↓w_ixF2, ↓w_ixF3, ↓w_ixS0, ↓w_ixS1, ↓w_ixS2, ↓w_ixS3, ↓w_idL, ↓w_neg, ↓w_slT, ↓w_slF, ↓w_soP, ↓w_lenT, ↓w_lenF, ↓w_lenS, ↓w_abs, ↓w_min, ↓w_max, ↓w_intI, ↓w_intB, ↓w_tupT, ↓w_tupF, ↓w_lstT, ↓w_lstF, ↓w_sum, ↓w_all, ↓w_any, ↓w_is_int_N, ↓w_is_int_B, ↓w_is_int_I, ↓w_is_int_S, ↓w_is_int_T, ↓w_is_int_F, ↓w_is_bl_N, ↓w_is_bl_B, ↓w_is_bl_I, ↓w_is_bl_S, ↓w_is_bl_T, ↓w_is_bl_F, ↓w_is_tup_N, ↓w_is_tup_B, ↓w_is_tup_I, ↓w_is_tup_S, ↓w_is_tup_T, ↓w_is_tup_F, ↓w_is_str_N, ↓w_is_str_B, ↓w_is_str_I, ↓w_is_str_S, ↓w_is_str_T, ↓w_is_str_F, ↓w_is_lst_N, ↓w_is_lst_B, ↓w_is_lst_I, ↓w_is_lst_S, ↓w_is_lst_T, ↓w_is_lst_F, ↓w_guT, ↓w_guF, ↓w_guS, ↓w_lsF, ↓w_enT, ↓w_enF, ↓w_zpT, ↓w_zpF, ↓w_gadd, ↓w_gsub, ↓w_fs1, ↓w_fs2, ↓w_fs3, ↓w_fs4, ↓w_fs5, ↓w_fs6, ↓w_un2, ↓w_un3, ↓w_un4, ↓w_goN, ↓w_goR, ↓w_goB, ↓w_goC, ↓w_feN, ↓w_feR, ↓w_repr, true_and, and_true, and_self, if_true, if_false, Bool.false_eq_true, Bool.not_true, Bool.not_false, decide_true, decide_false, ↓wp_calK, ↓kw_03, ↓kw_02, ↓kw_01, ↓pick_210, ↓pick_10, ↓pick_01, ↓pick_0, ↓w_sumF, ↓w_sumT, ↓w_srt, ↓w_maxL, ↓w_minL, ↓wp_starM, ↓wp_consM, ↓w_itT, ↓w_itF, ↓wp_rl2M, ↓wp_rl1M, ↓w_rl, ↓wp_dn3I, ↓w_dn3, ↓wp_mulTM, ↓w_mulT, ↓wp_niDM, ↓wp_inDM, ↓wp_zpM, ↓w_zpFF, ↓wp_isBM, ↓wp_nsBM, ↓w_isBB, ↓w_nsBB, ↓wp_catO, ↓w_catF, ↓kw_04, ↓pick_3210]
    rw [wp_seq]
    have hgo : 0 ≤ g ∧ g ≤ mo := by rcases hg with rfl | rfl <;> exact ⟨by assumption, by assumption⟩
    with_reducible refine way_wp (Φ := fun a b => crdv cs ls p X (a, b)) (q := q) (p := p) v hmo hb hgo.1 hgo.2 (fun t st ht => step_up v hmo hX hp hf0 hf1 hb t st ht) (fun t st ht => step_dn v hmo hX hp hf0 hf1 hb t st ht) su ?_ fun w sw hw hdn hc hw1 hw2 hw3 => ?_
    · obtain ⟨c, hc, hs⟩ := su.top
      have := (v.last hmo hc).1
      omega
    have hky : ∀ {a b : Int}, isKy (.fd [.non] [.int a, .int b]) = true := rfl
    have hmem : stK w.lv w.sz ∈ sts cs.length low high := sts_mem (get_lt sw.top.choose_spec.1) (by rw [hw]; exact hg)
    cases hh : lookD ks ds (stK w.lv w.sz) with
    | some d =>
      obtain ⟨a, b, rfl, ⟨r1, r2, r3, r4⟩, hab⟩ := hd _ _ _ hh
      have hh : lookD ks ds (.fd [.non] [.int w.lv, .int w.sz]) = some (.tup [.int a, .int b]) := hh
      simp -failIfUnchanged only [w_din, w_dget, w_key, w_dinR, w_dgetR, hh, ↓wp_retE, ↓wp_bad, ↓wp_bnd, ↓wp_nxt, ↓wp_brk, ↓wp_cnt, ↓wp_rtn, ↓wp_seq, ↓wp_iff, ↓wp_fnM, ↓wp_binM, ↓wp_cmpM, ↓wp_idxM, ↓wp_negM, ↓wp_notM, ↓wp_andM, ↓wp_orM, ↓wp_iteM, ↓wp_chnM, ↓wp_chnS, ↓wp_ls0, ↓wp_ls1, ↓wp_tupM, ↓wp_lstM, ↓wp_lshM, ↓wp_ownM, ↓wp_idxL, ↓wp_slcM, ↓wp_noP, ↓wp_soP, ↓wp_calM, ↓wp_isiM, ↓wp_forM, ↓wp_seqI, ↓wp_rng1, ↓wp_rng2, ↓wp_enum, ↓wp_enum2, ↓enum2_t, ↓enum2_f, ↓wp_zip, ↓rng1_int, ↓rng2_int, ↓wp_lcM, ↓wp_lcO, ↓wp_appO, ↓wp_extO, ↓wp_fldM, ↓wp_fldT, ↓wp_mthM, ↓wp_makM, ↓wp_augF, ↓tpT2, ↓nonS_non, ↓wp_subT, ↓w_add, ↓w_sub, ↓w_mul, ↓w_fdiv, ↓w_mod, ↓w_pow, ↓w_shl, ↓w_addT, ↓w_addL, ↓w_lt, ↓w_le, ↓w_gt, ↓w_ge, ↓w_eqI, ↓w_neI, ↓w_eqS, ↓w_neS, ↓w_isN, ↓w_ntN, ↓w_isI, ↓w_ntI, ↓w_isT, ↓w_ntT, ↓w_isF, ↓w_ntF, ↓w_isR, ↓w_ntR, ↓w_isB, ↓w_ntB, ↓w_isS, ↓w_ntS, ↓w_trB, ↓w_trI, ↓w_trN, ↓w_trT, ↓w_trF, ↓w_ixT0, ↓w_ixT1, ↓w_ixT2, ↓w_ixT3, ↓w_ixF0, ↓w_ixF1, ↓w_ixF2, ↓w_ixF3, ↓w_ixS0, ↓w_ixS1, ↓w_ixS2, ↓w_ixS3, ↓w_idL, ↓w_neg, ↓w_slT, ↓w_slF, ↓w_soP, ↓w_lenT, ↓w_lenF, ↓w_lenS, ↓w_abs, ↓w_min, ↓w_max, ↓w_intI, ↓w_intB, ↓w_tupT, ↓w_tupF, ↓w_lstT, ↓w_lstF, ↓w_sum, ↓w_all, ↓w_any, ↓w_is_int_N, ↓w_is_int_B, ↓w_is_int_I, ↓w_is_int_S, ↓w_is_int_T, ↓w_is_int_F, ↓w_is_bl_N, ↓w_is_bl_B, ↓w_is_bl_I, ↓w_is_bl_S, ↓w_is_bl_T, ↓w_is_bl_F, ↓w_is_tup_N, ↓w_is_tup_B, ↓w_is_tup_I, ↓w_is_tup_S, ↓w_is_tup_T, ↓w_is_tup_F, ↓w_is_str_N, ↓w_is_str_B, ↓w_is_str_I, ↓w_is_str_S, ↓w_is_str_T, ↓w_is_str_F, ↓w_is_lst_N, ↓w_is_lst_B, ↓w_is_lst_I, ↓w_is_lst_S, ↓w_is_lst_T, ↓w_is_lst_F, ↓w_guT, ↓w_guF, ↓w_guS, ↓w_lsF, ↓w_enT, ↓w_enF, ↓w_zpT, ↓w_zpF, ↓w_gadd, ↓w_gsub, ↓w_fs1, ↓w_fs2, ↓w_fs3, ↓w_fs4, ↓w_fs5, ↓w_fs6, ↓w_un2, ↓w_un3, ↓w_un4, ↓w_goN, ↓w_goR, ↓w_goB, ↓w_goC, ↓w_feN, ↓w_feR, ↓w_repr, true_and, and_true, and_self, if_true, if_false, Bool.false_eq_true, Bool.not_true, Bool.not_false, decide_true, decide_false, ↓wp_calK, ↓kw_03, ↓kw_02, ↓kw_01, ↓pick_210, ↓pick_10, ↓pick_01, ↓pick_0, ↓w_sumF, ↓w_sumT, ↓w_srt, ↓w_maxL, ↓w_minL, ↓wp_starM, ↓wp_consM, ↓w_itT, ↓w_itF, ↓wp_rl2M, ↓wp_rl1M, ↓w_rl, ↓wp_dn3I, ↓w_dn3, ↓wp_mulTM, ↓w_mulT, ↓wp_niDM, ↓wp_inDM, ↓wp_zpM, ↓w_zpFF, ↓wp_isBM, ↓wp_nsBM, ↓w_isBB, ↓w_nsBB, ↓wp_catO, ↓w_catF, ↓kw_04, ↓pick_3210]
      refine ⟨sz_le (by simp), rfl, ?_⟩
      rw [if_pos (show (some (D.tup [D.int a, D.int b])).isSome = true from rfl)]
      refine ⟨sz_le (by simp), rfl, _, rfl, ?_⟩
      simp -failIfUnchanged only [↓wp_retE, ↓wp_bad, ↓wp_bnd, ↓wp_nxt, ↓wp_brk, ↓wp_cnt, ↓wp_rtn, ↓wp_seq, ↓wp_iff, ↓wp_fnM, ↓wp_binM, ↓wp_cmpM, ↓wp_idxM, ↓wp_negM, ↓wp_notM, ↓wp_andM, ↓wp_orM, ↓wp_iteM, ↓wp_chnM, ↓wp_chnS, ↓wp_ls0, ↓wp_ls1, ↓wp_tupM, ↓wp_lstM, ↓wp_lshM, ↓wp_ownM, ↓wp_idxL, ↓wp_slcM, ↓wp_noP, ↓wp_soP, ↓wp_calM, ↓wp_isiM, ↓wp_forM, ↓wp_seqI, ↓wp_rng1, ↓wp_rng2, ↓wp_enum, ↓wp_enum2, ↓enum2_t, ↓enum2_f, ↓wp_zip, ↓rng1_int, ↓rng2_int, ↓wp_lcM, ↓wp_lcO, ↓wp_appO, ↓wp_extO, ↓wp_fldM, ↓wp_fldT, ↓wp_mthM, ↓wp_makM, ↓wp_augF, ↓tpT2, ↓nonS_non, ↓wp_subT, ↓w_add, ↓w_sub, ↓w_mul, ↓w_fdiv, ↓w_mod, ↓w_pow, ↓w_shl, ↓w_addT, ↓w_addL, ↓w_lt, ↓w_le, ↓w_gt, ↓w_ge, ↓w_eqI, ↓w_neI, ↓w_eqS, ↓w_neS, ↓w_isN, ↓w_ntN, ↓w_isI, ↓w_ntI, ↓w_isT, ↓w_ntT, ↓w_isF, ↓w_ntF, ↓w_isR, ↓w_ntR, ↓w_isB, ↓w_ntB, ↓w_isS, ↓w_ntS, ↓w_trB, ↓w_trI, ↓w_trN, ↓w_trT, ↓w_trF, ↓w_ixT0, ↓w_ixT1, ↓w_ixT2, ↓w_ixT3, ↓w_ixF0, ↓w_ixF1, ↓w_ixF2, ↓w_ixF3, ↓w_ixS0, ↓w_ixS1, ↓w_ixS2, ↓w_ixS3, ↓w_idL, ↓w_neg, ↓w_slT, ↓w_slF, ↓w_soP, ↓w_lenT, ↓w_lenF, ↓w_lenS, ↓w_abs, ↓w_min, ↓w_max, ↓w_intI, ↓w_intB, ↓w_tupT, ↓w_tupF, ↓w_lstT, ↓w_lstF, ↓w_sum, ↓w_all, ↓w_any, ↓w_is_int_N, ↓w_is_int_B, ↓w_is_int_I, ↓w_is_int_S, ↓w_is_int_T, ↓w_is_int_F, ↓w_is_bl_N, ↓w_is_bl_B, ↓w_is_bl_I, ↓w_is_bl_S, ↓w_is_bl_T, ↓w_is_bl_F, ↓w_is_tup_N, ↓w_is_tup_B, ↓w_is_tup_I, ↓w_is_tup_S, ↓w_is_tup_T, ↓w_is_tup_F, ↓w_is_str_N, ↓w_is_str_B, ↓w_is_str_I, ↓w_is_str_S, ↓w_is_str_T, ↓w_is_str_F, ↓w_is_lst_N, ↓w_is_lst_B, ↓w_is_lst_I, ↓w_is_lst_S, ↓w_is_lst_T, ↓w_is_lst_F, ↓w_guT, ↓w_guF, ↓w_guS, ↓w_lsF, ↓w_enT, ↓w_enF, ↓w_zpT, ↓w_zpF, ↓w_gadd, ↓w_gsub, ↓w_fs1, ↓w_fs2, ↓w_fs3, ↓w_fs4, ↓w_fs5, ↓w_fs6, ↓w_un2, ↓w_un3, ↓w_un4, ↓w_goN, ↓w_goR, ↓w_goB, ↓w_goC, ↓w_feN, ↓w_feR, ↓w_repr, true_and, and_true, and_self, if_true, if_false, Bool.false_eq_true, Bool.not_true, Bool.not_false, decide_true, decide_false, ↓wp_calK, ↓kw_03, ↓kw_02, ↓kw_01, ↓pick_210, ↓pick_10, ↓pick_01, ↓pick_0, ↓w_sumF, ↓w_sumT, ↓w_srt, ↓w_maxL, ↓w_minL, ↓wp_starM, ↓wp_consM, ↓w_itT, ↓w_itF, ↓wp_rl2M, ↓wp_rl1M, ↓w_rl, ↓wp_dn3I, ↓w_dn3, ↓wp_mulTM, ↓w_mulT, ↓wp_niDM, ↓wp_inDM, ↓wp_zpM, ↓w_zpFF, ↓wp_isBM, ↓wp_nsBM, ↓w_isBB, ↓w_nsBB, ↓wp_catO, ↓w_catF, ↓kw_04, ↓pick_3210]
      refine ⟨sz_le (by simp), hQ _ _ _ ?_ (by omega) (by omega) (by omega) (by omega)⟩
      have e1 : q * (w.pd - a) = q * (w.pd - u.pd) + q * (u.pd - a) := by rw [← Int.mul_add]; congr 1; omega
      have e2 : p * (w.dn - b) = p * (w.dn - u.dn) + p * (u.dn - b) := by rw [← Int.mul_add]; congr 1; omega
      omega
    | none =>
      have hh2 : lookD ks ds (.fd [.non] [.int w.lv, .int w.sz]) = none := hh
      have hni : stK w.lv w.sz ∉ ks := fun z => by
        obtain ⟨d, hd⟩ := lookD_some hl z
        rw [hd] at hh
        cases hh
      have hf := fre_put (ds := ds) (y := .tup [.int w.pd, .int w.dn]) hmem hni
      have hle := putE_le (ks := ks) (ds := ds) (k := stK w.lv w.sz) (v := .tup [.int w.pd, .int w.dn])
      have hln := putE_len (k := stK w.lv w.sz) (v := .tup [.int w.pd, .int w.dn]) hl
      have hnew : ∀ (lv : Nat) (sz : Int) (d : D), lookD (putE ks ds (stK w.lv w.sz) (.tup [.int w.pd, .int w.dn])).1 (putE ks ds (stK w.lv w.sz) (.tup [.int w.pd, .int w.dn])).2 (stK lv sz) = some d → ∃ a b, d = .tup [.int a, .int b] ∧ (0 ≤ a ∧ a ≤ w.pd ∧ 0 ≤ b ∧ b ≤ w.dn) ∧ crdv cs ls p X (w.lv, w.sz) + q * (w.pd - a) ≤ crdv cs ls p X (lv, sz) + p * (w.dn - b) := fun lv sz d h => by
        rw [lookD_put hl] at h
        by_cases z : stK w.lv w.sz = stK lv sz
        · rw [if_pos z] at h
          cases h
          obtain ⟨z1, z2⟩ := stK_inj.1 z
          refine ⟨_, _, rfl, ⟨by omega, by omega, by omega, by omega⟩, ?_⟩
          rw [show lv = w.lv by omega, ← z2, Int.sub_self, Int.sub_self]
          omega
        · rw [if_neg z] at h
          obtain ⟨a, b, rfl, ⟨r1, r2, r3, r4⟩, hab⟩ := hd _ _ _ h
          refine ⟨a, b, rfl, ⟨by omega, by omega, by omega, by omega⟩, ?_⟩
          have e1 : q * (w.pd - a) = q * (w.pd - u.pd) + q * (u.pd - a) := by rw [← Int.mul_add]; congr 1; omega
          have e2 : p * (w.dn - b) = p * (w.dn - u.dn) + p * (u.dn - b) := by rw [← Int.mul_add]; congr 1; omega
          omega
      simp -failIfUnchanged only [w_din, w_dget, w_key, w_dinR, w_dgetR, hh2, ↓wp_retE, ↓wp_bad, ↓wp_bnd, ↓wp_nxt, ↓wp_brk, ↓wp_cnt, ↓wp_rtn, ↓wp_seq, ↓wp_iff, ↓wp_fnM, ↓wp_binM, ↓wp_cmpM, ↓wp_idxM, ↓wp_negM, ↓wp_notM, ↓wp_andM, ↓wp_orM, ↓wp_iteM, ↓wp_chnM, ↓wp_chnS, ↓wp_ls0, ↓wp_ls1, ↓wp_tupM, ↓wp_lstM, ↓wp_lshM, ↓wp_ownM, ↓wp_idxL, ↓wp_slcM, ↓wp_noP, ↓wp_soP, ↓wp_calM, ↓wp_isiM, ↓wp_forM, ↓wp_seqI, ↓wp_rng1, ↓wp_rng2, ↓wp_enum, ↓wp_enum2, ↓enum2_t, ↓enum2_f, ↓wp_zip, ↓rng1_int, ↓rng2_int, ↓wp_lcM, ↓wp_lcO, ↓wp_appO, ↓wp_extO, ↓wp_fldM, ↓wp_fldT, ↓wp_mthM, ↓wp_makM, ↓wp_augF, ↓tpT2, ↓nonS_non, ↓wp_subT, ↓w_add, ↓w_sub, ↓w_mul, ↓w_fdiv, ↓w_mod, ↓w_pow, ↓w_shl, ↓w_addT, ↓w_addL, ↓w_lt, ↓w_le, ↓w_gt, ↓w_ge, ↓w_eqI, ↓w_neI, ↓w_eqS, ↓w_neS, ↓w_isN, ↓w_ntN, ↓w_isI, ↓w_ntI, ↓w_isT, ↓w_ntT, ↓w_isF, ↓w_ntF, ↓w_isR, ↓w_ntR, ↓w_isB, ↓w_ntB, ↓w_isS, ↓w_ntS, ↓w_trB, ↓w_trI, ↓w_trN, ↓w_trT, ↓w_trF, ↓w_ixT0, ↓w_ixT1, ↓w_ixT2, ↓w_ixT3, ↓w_ixF0, ↓w_ixF1, ↓w_ixF2, ↓w_ixF3, ↓w_ixS0, ↓w_ixS1, ↓w_ixS2, ↓w_ixS3, ↓w_idL, ↓w_neg, ↓w_slT, ↓w_slF, ↓w_soP, ↓w_lenT, ↓w_lenF, ↓w_lenS, ↓w_abs, ↓w_min, ↓w_max, ↓w_intI, ↓w_intB, ↓w_tupT, ↓w_tupF, ↓w_lstT, ↓w_lstF, ↓w_sum, ↓w_all, ↓w_any, ↓w_is_int_N, ↓w_is_int_B, ↓w_is_int_I, ↓w_is_int_S, ↓w_is_int_T, ↓w_is_int_F, ↓w_is_bl_N, ↓w_is_bl_B, ↓w_is_bl_I, ↓w_is_bl_S, ↓w_is_bl_T, ↓w_is_bl_F, ↓w_is_tup_N, ↓w_is_tup_B, ↓w_is_tup_I, ↓w_is_tup_S, ↓w_is_tup_T, ↓w_is_tup_F, ↓w_is_str_N, ↓w_is_str_B, ↓w_is_str_I, ↓w_is_str_S, ↓w_is_str_T, ↓w_is_str_F, ↓w_is_lst_N, ↓w_is_lst_B, ↓w_is_lst_I, ↓w_is_lst_S, ↓w_is_lst_T, ↓w_is_lst_F, ↓w_guT, ↓w_guF, ↓w_guS, ↓w_lsF, ↓w_enT, ↓w_enF, ↓w_zpT, ↓w_zpF, ↓w_gadd, ↓w_gsub, ↓w_fs1, ↓w_fs2, ↓w_fs3, ↓w_fs4, ↓w_fs5, ↓w_fs6, ↓w_un2, ↓w_un3, ↓w_un4, ↓w_goN, ↓w_goR, ↓w_goB, ↓w_goC, ↓w_feN, ↓w_feR, ↓w_repr, true_and, and_true, and_self, if_true, if_false, Bool.false_eq_true, Bool.not_true, Bool.not_false, decide_true, decide_false, ↓wp_calK, ↓kw_03, ↓kw_02, ↓kw_01, ↓pick_210, ↓pick_10, ↓pick_01, ↓pick_0, ↓w_sumF, ↓w_sumT, ↓w_srt, ↓w_maxL, ↓w_minL, ↓wp_starM, ↓wp_consM, ↓w_itT, ↓w_itF, ↓wp_rl2M, ↓wp_rl1M, ↓w_rl, ↓wp_dn3I, ↓w_dn3, ↓wp_mulTM, ↓w_mulT, ↓wp_niDM, ↓wp_inDM, ↓wp_zpM, ↓w_zpFF, ↓wp_isBM, ↓wp_nsBM, ↓w_isBB, ↓w_nsBB, ↓wp_catO, ↓w_catF, ↓kw_04, ↓pick_3210]
      refine ⟨sz_le (by simp), rfl, ?_⟩
      rw [if_neg (show ¬ (none : Option D).isSome = true from by simp)]
      refine ⟨sz_le (by simp), ?_⟩
      simp -failIfUnchanged only [wp_dsub, w_key, wp_dputR, ↓wp_retE, ↓wp_bad, ↓wp_bnd, ↓wp_nxt, ↓wp_brk, ↓wp_cnt, ↓wp_rtn, ↓wp_seq, ↓wp_iff, ↓wp_fnM, ↓wp_binM, ↓wp_cmpM, ↓wp_idxM, ↓wp_negM, ↓wp_notM, ↓wp_andM, ↓wp_orM, ↓wp_iteM, ↓wp_chnM, ↓wp_chnS, ↓wp_ls0, ↓wp_ls1, ↓wp_tupM, ↓wp_lstM, ↓wp_lshM, ↓wp_ownM, ↓wp_idxL, ↓wp_slcM, ↓wp_noP, ↓wp_soP, ↓wp_calM, ↓wp_isiM, ↓wp_forM, ↓wp_seqI, ↓wp_rng1, ↓wp_rng2, ↓wp_enum, ↓wp_enum2, ↓enum2_t, ↓enum2_f, ↓wp_zip, ↓rng1_int, ↓rng2_int, ↓wp_lcM, ↓wp_lcO, ↓wp_appO, ↓wp_extO, ↓wp_fldM, ↓wp_fldT, ↓wp_mthM, ↓wp_makM, ↓wp_augF, ↓tpT2, ↓nonS_non, ↓wp_subT, ↓w_add, ↓w_sub, ↓w_mul, ↓w_fdiv, ↓w_mod, ↓w_pow, ↓w_shl, ↓w_addT, ↓w_addL, ↓w_lt, ↓w_le, ↓w_gt, ↓w_ge, ↓w_eqI, ↓w_neI, ↓w_eqS, ↓w_neS, ↓w_isN, ↓w_ntN, ↓w_isI, ↓w_ntI, ↓w_isT, ↓w_ntT, ↓w_isF, ↓w_ntF, ↓w_isR, ↓w_ntR, ↓w_isB, ↓w_ntB, ↓w_isS, ↓w_ntS, ↓w_trB, ↓w_trI, ↓w_trN, ↓w_trT, ↓w_trF, ↓w_ixT0, ↓w_ixT1, ↓w_ixT2, ↓w_ixT3, ↓w_ixF0, ↓w_ixF1, ↓w_ixF2, ↓w_ixF3, ↓w_ixS0, ↓w_ixS1, ↓w_ixS2, ↓w_ixS3, ↓w_idL, ↓w_neg, ↓w_slT, ↓w_slF, ↓w_soP, ↓w_lenT, ↓w_lenF, ↓w_lenS, ↓w_abs, ↓w_min, ↓w_max, ↓w_intI, ↓w_intB, ↓w_tupT, ↓w_tupF, ↓w_lstT, ↓w_lstF, ↓w_sum, ↓w_all, ↓w_any, ↓w_is_int_N, ↓w_is_int_B, ↓w_is_int_I, ↓w_is_int_S, ↓w_is_int_T, ↓w_is_int_F, ↓w_is_bl_N, ↓w_is_bl_B, ↓w_is_bl_I, ↓w_is_bl_S, ↓w_is_bl_T, ↓w_is_bl_F, ↓w_is_tup_N, ↓w_is_tup_B, ↓w_is_tup_I, ↓w_is_tup_S, ↓w_is_tup_T, ↓w_is_tup_F, ↓w_is_str_N, ↓w_is_str_B, ↓w_is_str_I, ↓w_is_str_S, ↓w_is_str_T, ↓w_is_str_F, ↓w_is_lst_N, ↓w_is_lst_B, ↓w_is_lst_I, ↓w_is_lst_S, ↓w_is_lst_T, ↓w_is_lst_F, ↓w_guT, ↓w_guF, ↓w_guS, ↓w_lsF, ↓w_enT, ↓w_enF, ↓w_zpT, ↓w_zpF, ↓w_gadd, ↓w_gsub, ↓w_fs1, ↓w_fs2, ↓w_fs3, ↓w_fs4, ↓w_fs5, ↓w_fs6, ↓w_un2, ↓w_un3, ↓w_un4, ↓w_goN, ↓w_goR, ↓w_goB, ↓w_goC, ↓w_feN, ↓w_feR, ↓w_repr, true_and, and_true, and_self, if_true, if_false, Bool.false_eq_true, Bool.not_true, Bool.not_false, decide_true, decide_false, ↓wp_calK, ↓kw_03, ↓kw_02, ↓kw_01, ↓pick_210, ↓pick_10, ↓pick_01, ↓pick_0, ↓w_sumF, ↓w_sumT, ↓w_srt, ↓w_maxL, ↓w_minL, ↓wp_starM, ↓wp_consM, ↓w_itT, ↓w_itF, ↓wp_rl2M, ↓wp_rl1M, ↓w_rl, ↓wp_dn3I, ↓w_dn3, ↓wp_mulTM, ↓w_mulT, ↓wp_niDM, ↓wp_inDM, ↓wp_zpM, ↓w_zpFF, ↓wp_isBM, ↓wp_nsBM, ↓w_isBB, ↓w_nsBB, ↓wp_catO, ↓w_catF, ↓kw_04, ↓pick_3210]
      refine ⟨sz_le (by simp), rfl, sz_le (n := ks.length + 1) (by omega), ?_⟩
      by_cases hz : g = high
      · rw [if_pos (by simpa using hz)]
        exact ⟨_, hf, w, low, _, _, hln, rfl, rfl, sw, .inl rfl, rfl, by omega, ⟨by omega, by omega, by omega, by omega⟩, hnew⟩
      · rw [if_neg (by simpa using hz)]
        exact ⟨_, hf, w, high, _, _, hln, rfl, rfl, sw, .inr rfl, rfl, by omega, ⟨by omega, by omega, by omega, by omega⟩, hnew⟩

end G.K75

set_option Elab.async false
set_option linter.all false
set_option maxRecDepth 100000
set_option maxHeartbeats 4000000
namespace G.K75
open PySem G
theorem own_eq {cs ls : List Int} {fx : Int} (h : PK cs ls fx) : t_law_own (pol cs ls fx) = ret (.tup [prI (wst cs ls fx).1, optD (wst cs ls fx).2]) := ret_of fun m Q q => by
  have hll := h.llen
  have hlen := h.v.len
  have el : ∀ {m : Hs} {Q : D → Hs → Prop}, wp (lenS [il ls]) m Q = Q (.int ls.length) m := fun {m Q} => by unfold il; rw [w_lenT, List.length_map]
  unfold t_law_own bd_law_own
  have e : pol cs ls fx = .tup [il cs, il ls, .int fx] := rfl
  rw [e]
  simp -failIfUnchanged only [↓el, sz_2, ↓wp_retE, ↓wp_bad, ↓wp_bnd, ↓wp_nxt, ↓wp_brk, ↓wp_cnt, ↓wp_rtn, ↓wp_seq, ↓wp_iff, ↓wp_fnM, ↓wp_binM, ↓wp_cmpM, ↓wp_idxM, ↓wp_negM, ↓wp_notM, ↓wp_andM, ↓wp_orM, ↓wp_iteM, ↓wp_chnM, ↓wp_chnS, ↓wp_ls0, ↓wp_ls1, ↓wp_tupM, ↓wp_lstM, ↓wp_lshM, ↓wp_ownM, ↓wp_idxL, ↓wp_slcM, ↓wp_noP, ↓wp_soP, ↓wp_calM, ↓wp_isiM, ↓wp_forM, ↓wp_seqI, ↓wp_rng1, ↓wp_rng2, ↓wp_enum, ↓wp_enum2, ↓enum2_t, ↓enum2_f, ↓wp_zip, ↓rng1_int, ↓rng2_int, ↓wp_lcM, ↓wp_lcO, ↓wp_appO, ↓wp_extO, ↓wp_fldM, ↓wp_fldT, ↓wp_mthM, ↓wp_makM, ↓wp_augF, ↓tpT2, ↓nonS_non, ↓wp_subT, ↓w_add, ↓w_sub, ↓w_mul, ↓w_fdiv, ↓w_mod, ↓w_pow, ↓w_shl, ↓w_addT, ↓w_addL, ↓w_lt, ↓w_le, ↓w_gt, ↓w_ge, ↓w_eqI, ↓w_neI, ↓w_eqS, ↓w_neS, ↓w_isN, ↓w_ntN, ↓w_isI, ↓w_ntI, ↓w_isT, ↓w_ntT, ↓w_isF, ↓w_ntF, ↓w_isR, ↓w_ntR, ↓w_isB, ↓w_ntB, ↓w_isS, ↓w_ntS, ↓w_trB, ↓w_trI, ↓w_trN, ↓w_trT, ↓w_trF, ↓w_ixT0, ↓w_ixT1, ↓w_ixT2, ↓w_ixT3, ↓w_ixF0, ↓w_ixF1, ↓w_ixF2, ↓w_ixF3, ↓w_ixS0, ↓w_ixS1, ↓w_ixS2, ↓w_ixS3, ↓w_idL, ↓w_neg, ↓w_slT, ↓w_slF, ↓w_soP, ↓w_lenT, ↓w_lenF, ↓w_lenS, ↓w_abs, ↓w_min, ↓w_max, ↓w_intI, ↓w_intB, ↓w_tupT, ↓w_tupF, ↓w_lstT, ↓w_lstF, ↓w_sum, ↓w_all, ↓w_any, ↓w_is_int_N, ↓w_is_int_B, ↓w_is_int_I, ↓w_is_int_S, ↓w_is_int_T, ↓w_is_int_F, ↓w_is_bl_N, ↓w_is_bl_B, ↓w_is_bl_I, ↓w_is_bl_S, ↓w_is_bl_T, ↓w_is_bl_F, ↓w_is_tup_N, ↓w_is_tup_B, ↓w_is_tup_I, ↓w_is_tup_S, ↓w_is_tup_T, ↓w_is_tup_F, ↓w_is_str_N, ↓w_is_str_B, ↓w_is_str_I, ↓w_is_str_S, ↓w_is_str_T, ↓w_is_str_F, ↓w_is_lst_N, ↓w_is_lst_B, ↓w_is_lst_I, ↓w_is_lst_S, ↓w_is_lst_T, ↓w_is_lst_F, ↓w_guT, ↓w_guF, ↓w_guS, ↓w_lsF, ↓w_enT, ↓w_enF, ↓w_zpT, ↓w_zpF, ↓w_gadd, ↓w_gsub, ↓w_fs1, ↓w_fs2, ↓w_fs3, ↓w_fs4, ↓w_fs5, ↓w_fs6, ↓w_un2, ↓w_un3, ↓w_un4, ↓w_goN, ↓w_goR, ↓w_goB, ↓w_goC, ↓w_feN, ↓w_feR, ↓w_repr, true_and, and_true, and_self, if_true, if_false, Bool.false_eq_true, Bool.not_true, Bool.not_false, decide_true, decide_false, ↓wp_calK, ↓kw_03, ↓kw_02, ↓kw_01, ↓pick_210, ↓pick_10, ↓pick_01, ↓pick_0, ↓w_sumF, ↓w_sumT, ↓w_srt, ↓w_maxL, ↓w_minL, ↓wp_starM, ↓wp_consM, ↓w_itT, ↓w_itF, ↓wp_rl2M, ↓wp_rl1M, ↓w_rl, ↓wp_dn3I, ↓w_dn3, ↓wp_mulTM, ↓w_mulT, ↓wp_niDM, ↓wp_inDM, ↓wp_zpM, ↓w_zpFF, ↓wp_isBM, ↓wp_nsBM, ↓w_isBB, ↓w_nsBB, ↓wp_catO, ↓w_catF, ↓kw_04, ↓pick_3210]
  refine ⟨by omega, ?_⟩
  refine rngI_wp (fun i j s m' => ∃ (k : Nat) (st : Ws), i = k ∧ k + j = ls.length ∧ s = (prI st.1, optD st.2) ∧ OkW ls st ∧ wst cs ls fx = (prsR k j).foldl (stW (cs.zip ls) (2 * fx)) st ∧ m' = m) ?_ ?_ _ _ _ _ ⟨0, ((0, 1), none), rfl, by omega, rfl, OkW.ini, by rw [show ((ls.length : Int)).toNat = ls.length by omega]; rfl, rfl⟩
  · intro i j s m1 hI
    obtain ⟨k, st, hi, hk, hs, ho, hf, hm⟩ := hI
    subst hm
    subst hs
    subst hi
    simp -failIfUnchanged only [↓wp_retE, ↓wp_bad, ↓wp_bnd, ↓wp_nxt, ↓wp_brk, ↓wp_cnt, ↓wp_rtn, ↓wp_iff, ↓wp_fnM, ↓wp_binM, ↓wp_cmpM, ↓wp_idxM, ↓wp_negM, ↓wp_notM, ↓wp_andM, ↓wp_orM, ↓wp_iteM, ↓wp_chnM, ↓wp_chnS, ↓wp_ls0, ↓wp_ls1, ↓wp_tupM, ↓wp_lstM, ↓wp_lshM, ↓wp_ownM, ↓wp_idxL, ↓wp_slcM, ↓wp_noP, ↓wp_soP, ↓wp_calM, ↓wp_isiM, ↓wp_forM, ↓wp_seqI, ↓wp_rng1, ↓wp_rng2, ↓wp_enum, ↓wp_enum2, ↓enum2_t, ↓enum2_f, ↓wp_zip, ↓rng1_int, ↓rng2_int, ↓wp_lcM, ↓wp_lcO, ↓wp_appO, ↓wp_extO, ↓wp_fldM, ↓wp_fldT, ↓wp_mthM, ↓wp_makM, ↓wp_augF, ↓tpT2, ↓nonS_non, ↓wp_subT, ↓w_add, ↓w_sub, ↓w_mul, ↓w_fdiv, ↓w_mod, ↓w_pow, ↓w_shl, ↓w_addT, ↓w_addL, ↓w_lt, ↓w_le, ↓w_gt, ↓w_ge, ↓w_eqI, ↓w_neI, ↓w_eqS, ↓w_neS, ↓w_isN, ↓w_ntN, ↓w_isI, ↓w_ntI, ↓w_isT, ↓w_ntT, ↓w_isF, ↓w_ntF, ↓w_isR, ↓w_ntR, ↓w_isB, ↓w_ntB, ↓w_isS, ↓w_ntS, ↓w_trB, ↓w_trI, ↓w_trN, ↓w_trT, ↓w_trF, ↓w_ixT0, ↓w_ixT1, ↓w_ixT2, ↓w_ixT3, ↓w_ixF0, ↓w_ixF1, ↓w_ixF2, ↓w_ixF3, ↓w_ixS0, ↓w_ixS1, ↓w_ixS2, ↓w_ixS3, ↓w_idL, ↓w_neg, ↓w_slT, ↓w_slF, ↓w_soP, ↓w_lenT, ↓w_lenF, ↓w_lenS, ↓w_abs, ↓w_min, ↓w_max, ↓w_intI, ↓w_intB, ↓w_tupT, ↓w_tupF, ↓w_lstT, ↓w_lstF, ↓w_sum, ↓w_all, ↓w_any, ↓w_is_int_N, ↓w_is_int_B, ↓w_is_int_I, ↓w_is_int_S, ↓w_is_int_T, ↓w_is_int_F, ↓w_is_bl_N, ↓w_is_bl_B, ↓w_is_bl_I, ↓w_is_bl_S, ↓w_is_bl_T, ↓w_is_bl_F, ↓w_is_tup_N, ↓w_is_tup_B, ↓w_is_tup_I, ↓w_is_tup_S, ↓w_is_tup_T, ↓w_is_tup_F, ↓w_is_str_N, ↓w_is_str_B, ↓w_is_str_I, ↓w_is_str_S, ↓w_is_str_T, ↓w_is_str_F, ↓w_is_lst_N, ↓w_is_lst_B, ↓w_is_lst_I, ↓w_is_lst_S, ↓w_is_lst_T, ↓w_is_lst_F, ↓w_guT, ↓w_guF, ↓w_guS, ↓w_lsF, ↓w_enT, ↓w_enF, ↓w_zpT, ↓w_zpF, ↓w_gadd, ↓w_gsub, ↓w_fs1, ↓w_fs2, ↓w_fs3, ↓w_fs4, ↓w_fs5, ↓w_fs6, ↓w_un2, ↓w_un3, ↓w_un4, ↓w_goN, ↓w_goR, ↓w_goB, ↓w_goC, ↓w_feN, ↓w_feR, ↓w_repr, true_and, and_true, and_self, if_true, if_false, Bool.false_eq_true, Bool.not_true, Bool.not_false, decide_true, decide_false, ↓wp_calK, ↓kw_03, ↓kw_02, ↓kw_01, ↓pick_210, ↓pick_10, ↓pick_01, ↓pick_0, ↓w_sumF, ↓w_sumT, ↓w_srt, ↓w_maxL, ↓w_minL, ↓wp_starM, ↓wp_consM, ↓w_itT, ↓w_itF, ↓wp_rl2M, ↓wp_rl1M, ↓w_rl, ↓wp_dn3I, ↓w_dn3, ↓wp_mulTM, ↓w_mulT, ↓wp_niDM, ↓wp_inDM, ↓wp_zpM, ↓w_zpFF, ↓wp_isBM, ↓wp_nsBM, ↓w_isBB, ↓w_nsBB, ↓wp_catO, ↓w_catF, ↓kw_04, ↓pick_3210]
    rw [wp_seq]
    simp -failIfUnchanged only [↓wp_retE, ↓wp_bad, ↓wp_bnd, ↓wp_nxt, ↓wp_brk, ↓wp_cnt, ↓wp_rtn, ↓wp_seq, ↓wp_iff, ↓wp_fnM, ↓wp_binM, ↓wp_cmpM, ↓wp_idxM, ↓wp_negM, ↓wp_notM, ↓wp_andM, ↓wp_orM, ↓wp_iteM, ↓wp_chnM, ↓wp_chnS, ↓wp_ls0, ↓wp_ls1, ↓wp_tupM, ↓wp_lstM, ↓wp_lshM, ↓wp_ownM, ↓wp_idxL, ↓wp_slcM, ↓wp_noP, ↓wp_soP, ↓wp_calM, ↓wp_isiM, ↓wp_forM, ↓wp_seqI, ↓wp_rng1, ↓wp_rng2, ↓wp_enum, ↓wp_enum2, ↓enum2_t, ↓enum2_f, ↓wp_zip, ↓rng1_int, ↓rng2_int, ↓wp_lcM, ↓wp_lcO, ↓wp_appO, ↓wp_extO, ↓wp_fldM, ↓wp_fldT, ↓wp_mthM, ↓wp_makM, ↓wp_augF, ↓tpT2, ↓nonS_non, ↓wp_subT, ↓w_add, ↓w_sub, ↓w_mul, ↓w_fdiv, ↓w_mod, ↓w_pow, ↓w_shl, ↓w_addT, ↓w_addL, ↓w_lt, ↓w_le, ↓w_gt, ↓w_ge, ↓w_eqI, ↓w_neI, ↓w_eqS, ↓w_neS, ↓w_isN, ↓w_ntN, ↓w_isI, ↓w_ntI, ↓w_isT, ↓w_ntT, ↓w_isF, ↓w_ntF, ↓w_isR, ↓w_ntR, ↓w_isB, ↓w_ntB, ↓w_isS, ↓w_ntS, ↓w_trB, ↓w_trI, ↓w_trN, ↓w_trT, ↓w_trF, ↓w_ixT0, ↓w_ixT1, ↓w_ixT2, ↓w_ixT3, ↓w_ixF0, ↓w_ixF1, ↓w_ixF2, ↓w_ixF3, ↓w_ixS0, ↓w_ixS1, ↓w_ixS2, ↓w_ixS3, ↓w_idL, ↓w_neg, ↓w_slT, ↓w_slF, ↓w_soP, ↓w_lenT, ↓w_lenF, ↓w_lenS, ↓w_abs, ↓w_min, ↓w_max, ↓w_intI, ↓w_intB, ↓w_tupT, ↓w_tupF, ↓w_lstT, ↓w_lstF, ↓w_sum, ↓w_all, ↓w_any, ↓w_is_int_N, ↓w_is_int_B, ↓w_is_int_I, ↓w_is_int_S, ↓w_is_int_T, ↓w_is_int_F, ↓w_is_bl_N, ↓w_is_bl_B, ↓w_is_bl_I, ↓w_is_bl_S, ↓w_is_bl_T, ↓w_is_bl_F, ↓w_is_tup_N, ↓w_is_tup_B, ↓w_is_tup_I, ↓w_is_tup_S, ↓w_is_tup_T, ↓w_is_tup_F, ↓w_is_str_N, ↓w_is_str_B, ↓w_is_str_I, ↓w_is_str_S, ↓w_is_str_T, ↓w_is_str_F, ↓w_is_lst_N, ↓w_is_lst_B, ↓w_is_lst_I, ↓w_is_lst_S, ↓w_is_lst_T, ↓w_is_lst_F, ↓w_guT, ↓w_guF, ↓w_guS, ↓w_lsF, ↓w_enT, ↓w_enF, ↓w_zpT, ↓w_zpF, ↓w_gadd, ↓w_gsub, ↓w_fs1, ↓w_fs2, ↓w_fs3, ↓w_fs4, ↓w_fs5, ↓w_fs6, ↓w_un2, ↓w_un3, ↓w_un4, ↓w_goN, ↓w_goR, ↓w_goB, ↓w_goC, ↓w_feN, ↓w_feR, ↓w_repr, true_and, and_true, and_self, if_true, if_false, Bool.false_eq_true, Bool.not_true, Bool.not_false, decide_true, decide_false, ↓wp_calK, ↓kw_03, ↓kw_02, ↓kw_01, ↓pick_210, ↓pick_10, ↓pick_01, ↓pick_0, ↓w_sumF, ↓w_sumT, ↓w_srt, ↓w_maxL, ↓w_minL, ↓wp_starM, ↓wp_consM, ↓w_itT, ↓w_itF, ↓wp_rl2M, ↓wp_rl1M, ↓w_rl, ↓wp_dn3I, ↓w_dn3, ↓wp_mulTM, ↓w_mulT, ↓wp_niDM, ↓wp_inDM, ↓wp_zpM, ↓w_zpFF, ↓wp_isBM, ↓wp_nsBM, ↓w_isBB, ↓w_nsBB, ↓wp_catO, ↓w_catF, ↓kw_04, ↓pick_3210]
    refine ⟨by omega, ?_⟩
    obtain ⟨la, hla⟩ := get_ex (l := ls) (i := k) (by omega)
    obtain ⟨ca, hca⟩ := get_ex (l := cs) (i := k) (by omega)
    refine rngI_wp (fun i j' s m' => ∃ (b : Nat) (st : Ws), i = b ∧ k ≤ b ∧ b + j' = ls.length ∧ s = (prI st.1, optD st.2, .int (sg (cs.zip ls) (fun q => q.1 + q.2 + 2 * fx) k (b - k))) ∧ OkW ls st ∧ wst cs ls fx = (rowR k b j' ++ prsR (k + 1) j).foldl (stW (cs.zip ls) (2 * fx)) st ∧ m' = m1) ?_ ?_ _ _ _ _ ⟨k, st, rfl, Nat.le_refl _, by omega, by rw [Nat.sub_self, sg_0], ho, by rw [show ((ls.length : Int) - (k : Int)).toNat = j + 1 by omega]; exact hf, rfl⟩
    · intro i j' s m' hI
      obtain ⟨b, st, hi, hkb, hb, hs, ho, hf, hm⟩ := hI
      subst hm
      subst hs
      subst hi
      obtain ⟨c, hc⟩ := get_ex (l := cs) (i := b) (by omega)
      obtain ⟨l, hl⟩ := get_ex (l := ls) (i := b) (by omega)
      have hm : (k, b) ∈ prsR 0 ls.length := prsR_mem (Nat.zero_le _) hkb (by omega)
      have b0 := swN_bd h hm
      have es := sg_snoc (P := cs.zip ls) (f := fun q => q.1 + q.2 + 2 * fx) (a := k) (n := b - k) (p := (c, l)) (by rw [show k + (b - k) = b by omega]; exact zip_at hc hl)
      have ew : swN (cs.zip ls) (2 * fx) (k, b) = (sg (cs.zip ls) (fun q => q.1 + q.2 + 2 * fx) k (b - k + 1), 2 * (c + 1 - la)) := by
        unfold swN
        simp only [zip_at hc hl, zip_at hca hla, Option.getD_some]
        rw [show b + 1 - k = b - k + 1 by omega]
      have e3 : b + 1 - k = b - k + 1 := by omega
      have e2 : sg (cs.zip ls) (fun q => q.1 + q.2 + 2 * fx) k (b - k) + c + l + 2 * fx = sg (cs.zip ls) (fun q => q.1 + q.2 + 2 * fx) k (b - k + 1) := by rw [es]; omega
      have hst : rowR k b (j' + 1) = (k, b) :: rowR k (b + 1) j' := rfl
      rw [hst, List.cons_append, List.foldl_cons] at hf
      have ho2 := ho.step h hm
      obtain ⟨b3, b4⟩ := ho.bds
      obtain ⟨b5, b6⟩ := sw_bds h hm
      unfold stW at hf ho2
      rw [ew] at hf ho2 b5 b6 b0
      simp only at b5 b6 b0
      have c1 := h.cAt hc
      have c2 := h.lAt hl
      have c3 := h.f0
      have c4 := h.f1
      unfold prI
      simp -failIfUnchanged only [↓il_at hc, ↓il_at hl, ↓il_at hla, ↓wp_retE, ↓wp_bad, ↓wp_bnd, ↓wp_nxt, ↓wp_brk, ↓wp_cnt, ↓wp_rtn, ↓wp_seq, ↓wp_iff, ↓wp_fnM, ↓wp_binM, ↓wp_cmpM, ↓wp_idxM, ↓wp_negM, ↓wp_notM, ↓wp_andM, ↓wp_orM, ↓wp_iteM, ↓wp_chnM, ↓wp_chnS, ↓wp_ls0, ↓wp_ls1, ↓wp_tupM, ↓wp_lstM, ↓wp_lshM, ↓wp_ownM, ↓wp_idxL, ↓wp_slcM, ↓wp_noP, ↓wp_soP, ↓wp_calM, ↓wp_isiM, ↓wp_forM, ↓wp_seqI, ↓wp_rng1, ↓wp_rng2, ↓wp_enum, ↓wp_enum2, ↓enum2_t, ↓enum2_f, ↓wp_zip, ↓rng1_int, ↓rng2_int, ↓wp_lcM, ↓wp_lcO, ↓wp_appO, ↓wp_extO, ↓wp_fldM, ↓wp_fldT, ↓wp_mthM, ↓wp_makM, ↓wp_augF, ↓tpT2, ↓nonS_non, ↓wp_subT, ↓w_add, ↓w_sub, ↓w_mul, ↓w_fdiv, ↓w_mod, ↓w_pow, ↓w_shl, ↓w_addT, ↓w_addL, ↓w_lt, ↓w_le, ↓w_gt, ↓w_ge, ↓w_eqI, ↓w_neI, ↓w_eqS, ↓w_neS, ↓w_isN, ↓w_ntN, ↓w_isI, ↓w_ntI, ↓w_isT, ↓w_ntT, ↓w_isF, ↓w_ntF, ↓w_isR, ↓w_ntR, ↓w_isB, ↓w_ntB, ↓w_isS, ↓w_ntS, ↓w_trB, ↓w_trI, ↓w_trN, ↓w_trT, ↓w_trF, ↓w_ixT0, ↓w_ixT1, ↓w_ixT2, ↓w_ixT3, ↓w_ixF0, ↓w_ixF1, ↓w_ixF2, ↓w_ixF3, ↓w_ixS0, ↓w_ixS1, ↓w_ixS2, ↓w_ixS3, ↓w_idL, ↓w_neg, ↓w_slT, ↓w_slF, ↓w_soP, ↓w_lenT, ↓w_lenF, ↓w_lenS, ↓w_abs, ↓w_min, ↓w_max, ↓w_intI, ↓w_intB, ↓w_tupT, ↓w_tupF, ↓w_lstT, ↓w_lstF, ↓w_sum, ↓w_all, ↓w_any, ↓w_is_int_N, ↓w_is_int_B, ↓w_is_int_I, ↓w_is_int_S, ↓w_is_int_T, ↓w_is_int_F, ↓w_is_bl_N, ↓w_is_bl_B, ↓w_is_bl_I, ↓w_is_bl_S, ↓w_is_bl_T, ↓w_is_bl_F, ↓w_is_tup_N, ↓w_is_tup_B, ↓w_is_tup_I, ↓w_is_tup_S, ↓w_is_tup_T, ↓w_is_tup_F, ↓w_is_str_N, ↓w_is_str_B, ↓w_is_str_I, ↓w_is_str_S, ↓w_is_str_T, ↓w_is_str_F, ↓w_is_lst_N, ↓w_is_lst_B, ↓w_is_lst_I, ↓w_is_lst_S, ↓w_is_lst_T, ↓w_is_lst_F, ↓w_guT, ↓w_guF, ↓w_guS, ↓w_lsF, ↓w_enT, ↓w_enF, ↓w_zpT, ↓w_zpF, ↓w_gadd, ↓w_gsub, ↓w_fs1, ↓w_fs2, ↓w_fs3, ↓w_fs4, ↓w_fs5, ↓w_fs6, ↓w_un2, ↓w_un3, ↓w_un4, ↓w_goN, ↓w_goR, ↓w_goB, ↓w_goC, ↓w_feN, ↓w_feR, ↓w_repr, true_and, and_true, and_self, if_true, if_false, Bool.false_eq_true, Bool.not_true, Bool.not_false, decide_true, decide_false, ↓wp_calK, ↓kw_03, ↓kw_02, ↓kw_01, ↓pick_210, ↓pick_10, ↓pick_01, ↓pick_0, ↓w_sumF, ↓w_sumT, ↓w_srt, ↓w_maxL, ↓w_minL, ↓wp_starM, ↓wp_consM, ↓w_itT, ↓w_itF, ↓wp_rl2M, ↓wp_rl1M, ↓w_rl, ↓wp_dn3I, ↓w_dn3, ↓wp_mulTM, ↓w_mulT, ↓wp_niDM, ↓wp_inDM, ↓wp_zpM, ↓w_zpFF, ↓wp_isBM, ↓wp_nsBM, ↓w_isBB, ↓w_nsBB, ↓wp_catO, ↓w_catF, ↓kw_04, ↓pick_3210]
      rw [e2]
      have hx : ((k : Int) + 1) = ((k + 1 : Nat) : Int) := by omega
      have hx2 : ((b : Int) + 1) = ((b + 1 : Nat) : Int) := by omega
      refine ⟨mul_ok (by decide) (by decide) (by omega) (by omega), mul_ok (by decide) (by decide) (by omega) (by omega), mul_bd b5 b4 (by decide), mul_bd b3 b6 (by decide), ?_⟩
      by_cases ht : st.1.1 * (2 * (c + 1 - la)) < sg (cs.zip ls) (fun q => q.1 + q.2 + 2 * fx) k (b - k + 1) * st.1.2
      · rw [if_pos ht] at hf ho2
        simp -failIfUnchanged only [ht, gt_iff_lt, ↓wp_retE, ↓wp_bad, ↓wp_bnd, ↓wp_nxt, ↓wp_brk, ↓wp_cnt, ↓wp_rtn, ↓wp_seq, ↓wp_iff, ↓wp_fnM, ↓wp_binM, ↓wp_cmpM, ↓wp_idxM, ↓wp_negM, ↓wp_notM, ↓wp_andM, ↓wp_orM, ↓wp_iteM, ↓wp_chnM, ↓wp_chnS, ↓wp_ls0, ↓wp_ls1, ↓wp_tupM, ↓wp_lstM, ↓wp_lshM, ↓wp_ownM, ↓wp_idxL, ↓wp_slcM, ↓wp_noP, ↓wp_soP, ↓wp_calM, ↓wp_isiM, ↓wp_forM, ↓wp_seqI, ↓wp_rng1, ↓wp_rng2, ↓wp_enum, ↓wp_enum2, ↓enum2_t, ↓enum2_f, ↓wp_zip, ↓rng1_int, ↓rng2_int, ↓wp_lcM, ↓wp_lcO, ↓wp_appO, ↓wp_extO, ↓wp_fldM, ↓wp_fldT, ↓wp_mthM, ↓wp_makM, ↓wp_augF, ↓tpT2, ↓nonS_non, ↓wp_subT, ↓w_add, ↓w_sub, ↓w_mul, ↓w_fdiv, ↓w_mod, ↓w_pow, ↓w_shl, ↓w_addT, ↓w_addL, ↓w_lt, ↓w_le, ↓w_gt, ↓w_ge, ↓w_eqI, ↓w_neI, ↓w_eqS, ↓w_neS, ↓w_isN, ↓w_ntN, ↓w_isI, ↓w_ntI, ↓w_isT, ↓w_ntT, ↓w_isF, ↓w_ntF, ↓w_isR, ↓w_ntR, ↓w_isB, ↓w_ntB, ↓w_isS, ↓w_ntS, ↓w_trB, ↓w_trI, ↓w_trN, ↓w_trT, ↓w_trF, ↓w_ixT0, ↓w_ixT1, ↓w_ixT2, ↓w_ixT3, ↓w_ixF0, ↓w_ixF1, ↓w_ixF2, ↓w_ixF3, ↓w_ixS0, ↓w_ixS1, ↓w_ixS2, ↓w_ixS3, ↓w_idL, ↓w_neg, ↓w_slT, ↓w_slF, ↓w_soP, ↓w_lenT, ↓w_lenF, ↓w_lenS, ↓w_abs, ↓w_min, ↓w_max, ↓w_intI, ↓w_intB, ↓w_tupT, ↓w_tupF, ↓w_lstT, ↓w_lstF, ↓w_sum, ↓w_all, ↓w_any, ↓w_is_int_N, ↓w_is_int_B, ↓w_is_int_I, ↓w_is_int_S, ↓w_is_int_T, ↓w_is_int_F, ↓w_is_bl_N, ↓w_is_bl_B, ↓w_is_bl_I, ↓w_is_bl_S, ↓w_is_bl_T, ↓w_is_bl_F, ↓w_is_tup_N, ↓w_is_tup_B, ↓w_is_tup_I, ↓w_is_tup_S, ↓w_is_tup_T, ↓w_is_tup_F, ↓w_is_str_N, ↓w_is_str_B, ↓w_is_str_I, ↓w_is_str_S, ↓w_is_str_T, ↓w_is_str_F, ↓w_is_lst_N, ↓w_is_lst_B, ↓w_is_lst_I, ↓w_is_lst_S, ↓w_is_lst_T, ↓w_is_lst_F, ↓w_guT, ↓w_guF, ↓w_guS, ↓w_lsF, ↓w_enT, ↓w_enF, ↓w_zpT, ↓w_zpF, ↓w_gadd, ↓w_gsub, ↓w_fs1, ↓w_fs2, ↓w_fs3, ↓w_fs4, ↓w_fs5, ↓w_fs6, ↓w_un2, ↓w_un3, ↓w_un4, ↓w_goN, ↓w_goR, ↓w_goB, ↓w_goC, ↓w_feN, ↓w_feR, ↓w_repr, true_and, and_true, and_self, if_true, if_false, Bool.false_eq_true, Bool.not_true, Bool.not_false, decide_true, decide_false, ↓wp_calK, ↓kw_03, ↓kw_02, ↓kw_01, ↓pick_210, ↓pick_10, ↓pick_01, ↓pick_0, ↓w_sumF, ↓w_sumT, ↓w_srt, ↓w_maxL, ↓w_minL, ↓wp_starM, ↓wp_consM, ↓w_itT, ↓w_itF, ↓wp_rl2M, ↓wp_rl1M, ↓w_rl, ↓wp_dn3I, ↓w_dn3, ↓wp_mulTM, ↓w_mulT, ↓wp_niDM, ↓wp_inDM, ↓wp_zpM, ↓w_zpFF, ↓wp_isBM, ↓wp_nsBM, ↓w_isBB, ↓w_nsBB, ↓wp_catO, ↓w_catF, ↓kw_04, ↓pick_3210]
        rw [hx, hx2]
        exact ⟨sz_le (by simp), sz_le (by simp), b + 1, _, by omega, by omega, by omega, by rw [e3]; rfl, ho2, hf⟩
      · rw [if_neg ht] at hf
        simp -failIfUnchanged only [ht, gt_iff_lt, ↓wp_retE, ↓wp_bad, ↓wp_bnd, ↓wp_nxt, ↓wp_brk, ↓wp_cnt, ↓wp_rtn, ↓wp_seq, ↓wp_iff, ↓wp_fnM, ↓wp_binM, ↓wp_cmpM, ↓wp_idxM, ↓wp_negM, ↓wp_notM, ↓wp_andM, ↓wp_orM, ↓wp_iteM, ↓wp_chnM, ↓wp_chnS, ↓wp_ls0, ↓wp_ls1, ↓wp_tupM, ↓wp_lstM, ↓wp_lshM, ↓wp_ownM, ↓wp_idxL, ↓wp_slcM, ↓wp_noP, ↓wp_soP, ↓wp_calM, ↓wp_isiM, ↓wp_forM, ↓wp_seqI, ↓wp_rng1, ↓wp_rng2, ↓wp_enum, ↓wp_enum2, ↓enum2_t, ↓enum2_f, ↓wp_zip, ↓rng1_int, ↓rng2_int, ↓wp_lcM, ↓wp_lcO, ↓wp_appO, ↓wp_extO, ↓wp_fldM, ↓wp_fldT, ↓wp_mthM, ↓wp_makM, ↓wp_augF, ↓tpT2, ↓nonS_non, ↓wp_subT, ↓w_add, ↓w_sub, ↓w_mul, ↓w_fdiv, ↓w_mod, ↓w_pow, ↓w_shl, ↓w_addT, ↓w_addL, ↓w_lt, ↓w_le, ↓w_gt, ↓w_ge, ↓w_eqI, ↓w_neI, ↓w_eqS, ↓w_neS, ↓w_isN, ↓w_ntN, ↓w_isI, ↓w_ntI, ↓w_isT, ↓w_ntT, ↓w_isF, ↓w_ntF, ↓w_isR, ↓w_ntR, ↓w_isB, ↓w_ntB, ↓w_isS, ↓w_ntS, ↓w_trB, ↓w_trI, ↓w_trN, ↓w_trT, ↓w_trF, ↓w_ixT0, ↓w_ixT1, ↓w_ixT2, ↓w_ixT3, ↓w_ixF0, ↓w_ixF1, ↓w_ixF2, ↓w_ixF3, ↓w_ixS0, ↓w_ixS1, ↓w_ixS2, ↓w_ixS3, ↓w_idL, ↓w_neg, ↓w_slT, ↓w_slF, ↓w_soP, ↓w_lenT, ↓w_lenF, ↓w_lenS, ↓w_abs, ↓w_min, ↓w_max, ↓w_intI, ↓w_intB, ↓w_tupT, ↓w_tupF, ↓w_lstT, ↓w_lstF, ↓w_sum, ↓w_all, ↓w_any, ↓w_is_int_N, ↓w_is_int_B, ↓w_is_int_I, ↓w_is_int_S, ↓w_is_int_T, ↓w_is_int_F, ↓w_is_bl_N, ↓w_is_bl_B, ↓w_is_bl_I, ↓w_is_bl_S, ↓w_is_bl_T, ↓w_is_bl_F, ↓w_is_tup_N, ↓w_is_tup_B, ↓w_is_tup_I, ↓w_is_tup_S, ↓w_is_tup_T, ↓w_is_tup_F, ↓w_is_str_N, ↓w_is_str_B, ↓w_is_str_I, ↓w_is_str_S, ↓w_is_str_T, ↓w_is_str_F, ↓w_is_lst_N, ↓w_is_lst_B, ↓w_is_lst_I, ↓w_is_lst_S, ↓w_is_lst_T, ↓w_is_lst_F, ↓w_guT, ↓w_guF, ↓w_guS, ↓w_lsF, ↓w_enT, ↓w_enF, ↓w_zpT, ↓w_zpF, ↓w_gadd, ↓w_gsub, ↓w_fs1, ↓w_fs2, ↓w_fs3, ↓w_fs4, ↓w_fs5, ↓w_fs6, ↓w_un2, ↓w_un3, ↓w_un4, ↓w_goN, ↓w_goR, ↓w_goB, ↓w_goC, ↓w_feN, ↓w_feR, ↓w_repr, true_and, and_true, and_self, if_true, if_false, Bool.false_eq_true, Bool.not_true, Bool.not_false, decide_true, decide_false, ↓wp_calK, ↓kw_03, ↓kw_02, ↓kw_01, ↓pick_210, ↓pick_10, ↓pick_01, ↓pick_0, ↓w_sumF, ↓w_sumT, ↓w_srt, ↓w_maxL, ↓w_minL, ↓wp_starM, ↓wp_consM, ↓w_itT, ↓w_itF, ↓wp_rl2M, ↓wp_rl1M, ↓w_rl, ↓wp_dn3I, ↓w_dn3, ↓wp_mulTM, ↓w_mulT, ↓wp_niDM, ↓wp_inDM, ↓wp_zpM, ↓w_zpFF, ↓wp_isBM, ↓wp_nsBM, ↓w_isBB, ↓w_nsBB, ↓wp_catO, ↓w_catF, ↓kw_04, ↓pick_3210]
        exact ⟨b + 1, st, by omega, by omega, by omega, by rw [e3], ho, hf⟩
    · intro i s m' hI
      obtain ⟨b, st, hi, hkb, hb, hs, ho, hf, hm⟩ := hI
      subst hm
      subst hs
      subst hi
      simp -failIfUnchanged only [↓wp_retE, ↓wp_bad, ↓wp_bnd, ↓wp_nxt, ↓wp_brk, ↓wp_cnt, ↓wp_rtn, ↓wp_seq, ↓wp_iff, ↓wp_fnM, ↓wp_binM, ↓wp_cmpM, ↓wp_idxM, ↓wp_negM, ↓wp_notM, ↓wp_andM, ↓wp_orM, ↓wp_iteM, ↓wp_chnM, ↓wp_chnS, ↓wp_ls0, ↓wp_ls1, ↓wp_tupM, ↓wp_lstM, ↓wp_lshM, ↓wp_ownM, ↓wp_idxL, ↓wp_slcM, ↓wp_noP, ↓wp_soP, ↓wp_calM, ↓wp_isiM, ↓wp_forM, ↓wp_seqI, ↓wp_rng1, ↓wp_rng2, ↓wp_enum, ↓wp_enum2, ↓enum2_t, ↓enum2_f, ↓wp_zip, ↓rng1_int, ↓rng2_int, ↓wp_lcM, ↓wp_lcO, ↓wp_appO, ↓wp_extO, ↓wp_fldM, ↓wp_fldT, ↓wp_mthM, ↓wp_makM, ↓wp_augF, ↓tpT2, ↓nonS_non, ↓wp_subT, ↓w_add, ↓w_sub, ↓w_mul, ↓w_fdiv, ↓w_mod, ↓w_pow, ↓w_shl, ↓w_addT, ↓w_addL, ↓w_lt, ↓w_le, ↓w_gt, ↓w_ge, ↓w_eqI, ↓w_neI, ↓w_eqS, ↓w_neS, ↓w_isN, ↓w_ntN, ↓w_isI, ↓w_ntI, ↓w_isT, ↓w_ntT, ↓w_isF, ↓w_ntF, ↓w_isR, ↓w_ntR, ↓w_isB, ↓w_ntB, ↓w_isS, ↓w_ntS, ↓w_trB, ↓w_trI, ↓w_trN, ↓w_trT, ↓w_trF, ↓w_ixT0, ↓w_ixT1, ↓w_ixT2, ↓w_ixT3, ↓w_ixF0, ↓w_ixF1, ↓w_ixF2, ↓w_ixF3, ↓w_ixS0, ↓w_ixS1, ↓w_ixS2, ↓w_ixS3, ↓w_idL, ↓w_neg, ↓w_slT, ↓w_slF, ↓w_soP, ↓w_lenT, ↓w_lenF, ↓w_lenS, ↓w_abs, ↓w_min, ↓w_max, ↓w_intI, ↓w_intB, ↓w_tupT, ↓w_tupF, ↓w_lstT, ↓w_lstF, ↓w_sum, ↓w_all, ↓w_any, ↓w_is_int_N, ↓w_is_int_B, ↓w_is_int_I, ↓w_is_int_S, ↓w_is_int_T, ↓w_is_int_F, ↓w_is_bl_N, ↓w_is_bl_B, ↓w_is_bl_I, ↓w_is_bl_S, ↓w_is_bl_T, ↓w_is_bl_F, ↓w_is_tup_N, ↓w_is_tup_B, ↓w_is_tup_I, ↓w_is_tup_S, ↓w_is_tup_T, ↓w_is_tup_F, ↓w_is_str_N, ↓w_is_str_B, ↓w_is_str_I, ↓w_is_str_S, ↓w_is_str_T, ↓w_is_str_F, ↓w_is_lst_N, ↓w_is_lst_B, ↓w_is_lst_I, ↓w_is_lst_S, ↓w_is_lst_T, ↓w_is_lst_F, ↓w_guT, ↓w_guF, ↓w_guS, ↓w_lsF, ↓w_enT, ↓w_enF, ↓w_zpT, ↓w_zpF, ↓w_gadd, ↓w_gsub, ↓w_fs1, ↓w_fs2, ↓w_fs3, ↓w_fs4, ↓w_fs5, ↓w_fs6, ↓w_un2, ↓w_un3, ↓w_un4, ↓w_goN, ↓w_goR, ↓w_goB, ↓w_goC, ↓w_feN, ↓w_feR, ↓w_repr, true_and, and_true, and_self, if_true, if_false, Bool.false_eq_true, Bool.not_true, Bool.not_false, decide_true, decide_false, ↓wp_calK, ↓kw_03, ↓kw_02, ↓kw_01, ↓pick_210, ↓pick_10, ↓pick_01, ↓pick_0, ↓w_sumF, ↓w_sumT, ↓w_srt, ↓w_maxL, ↓w_minL, ↓wp_starM, ↓wp_consM, ↓w_itT, ↓w_itF, ↓wp_rl2M, ↓wp_rl1M, ↓w_rl, ↓wp_dn3I, ↓w_dn3, ↓wp_mulTM, ↓w_mulT, ↓wp_niDM, ↓wp_inDM, ↓wp_zpM, ↓w_zpFF, ↓wp_isBM, ↓wp_nsBM, ↓w_isBB, ↓w_nsBB, ↓wp_catO, ↓w_catF, ↓kw_04, ↓pick_3210]
      exact ⟨k + 1, st, by omega, by omega, rfl, ho, hf⟩
  · intro i s m' hI
    obtain ⟨k, st, hi, hk, hs, ho, hf, hm⟩ := hI
    subst hm
    subst hs
    subst hi
    simp -failIfUnchanged only [sz_2, ↓wp_retE, ↓wp_bad, ↓wp_bnd, ↓wp_nxt, ↓wp_brk, ↓wp_cnt, ↓wp_rtn, ↓wp_seq, ↓wp_iff, ↓wp_fnM, ↓wp_binM, ↓wp_cmpM, ↓wp_idxM, ↓wp_negM, ↓wp_notM, ↓wp_andM, ↓wp_orM, ↓wp_iteM, ↓wp_chnM, ↓wp_chnS, ↓wp_ls0, ↓wp_ls1, ↓wp_tupM, ↓wp_lstM, ↓wp_lshM, ↓wp_ownM, ↓wp_idxL, ↓wp_slcM, ↓wp_noP, ↓wp_soP, ↓wp_calM, ↓wp_isiM, ↓wp_forM, ↓wp_seqI, ↓wp_rng1, ↓wp_rng2, ↓wp_enum, ↓wp_enum2, ↓enum2_t, ↓enum2_f, ↓wp_zip, ↓rng1_int, ↓rng2_int, ↓wp_lcM, ↓wp_lcO, ↓wp_appO, ↓wp_extO, ↓wp_fldM, ↓wp_fldT, ↓wp_mthM, ↓wp_makM, ↓wp_augF, ↓tpT2, ↓nonS_non, ↓wp_subT, ↓w_add, ↓w_sub, ↓w_mul, ↓w_fdiv, ↓w_mod, ↓w_pow, ↓w_shl, ↓w_addT, ↓w_addL, ↓w_lt, ↓w_le, ↓w_gt, ↓w_ge, ↓w_eqI, ↓w_neI, ↓w_eqS, ↓w_neS, ↓w_isN, ↓w_ntN, ↓w_isI, ↓w_ntI, ↓w_isT, ↓w_ntT, ↓w_isF, ↓w_ntF, ↓w_isR, ↓w_ntR, ↓w_isB, ↓w_ntB, ↓w_isS, ↓w_ntS, ↓w_trB, ↓w_trI, ↓w_trN, ↓w_trT, ↓w_trF, ↓w_ixT0, ↓w_ixT1, ↓w_ixT2, ↓w_ixT3, ↓w_ixF0, ↓w_ixF1, ↓w_ixF2, ↓w_ixF3, ↓w_ixS0, ↓w_ixS1, ↓w_ixS2, ↓w_ixS3, ↓w_idL, ↓w_neg, ↓w_slT, ↓w_slF, ↓w_soP, ↓w_lenT, ↓w_lenF, ↓w_lenS, ↓w_abs, ↓w_min, ↓w_max, ↓w_intI, ↓w_intB, ↓w_tupT, ↓w_tupF, ↓w_lstT, ↓w_lstF, ↓w_sum, ↓w_all, ↓w_any, ↓w_is_int_N, ↓w_is_int_B, ↓w_is_int_I, ↓w_is_int_S, ↓w_is_int_T, ↓w_is_int_F, ↓w_is_bl_N, ↓w_is_bl_B, ↓w_is_bl_I, ↓w_is_bl_S, ↓w_is_bl_T, ↓w_is_bl_F, ↓w_is_tup_N, ↓w_is_tup_B, ↓w_is_tup_I, ↓w_is_tup_S, ↓w_is_tup_T, ↓w_is_tup_F, ↓w_is_str_N, ↓w_is_str_B, ↓w_is_str_I, ↓w_is_str_S, ↓w_is_str_T, ↓w_is_str_F, ↓w_is_lst_N, ↓w_is_lst_B, ↓w_is_lst_I, ↓w_is_lst_S, ↓w_is_lst_T, ↓w_is_lst_F, ↓w_guT, ↓w_guF, ↓w_guS, ↓w_lsF, ↓w_enT, ↓w_enF, ↓w_zpT, ↓w_zpF, ↓w_gadd, ↓w_gsub, ↓w_fs1, ↓w_fs2, ↓w_fs3, ↓w_fs4, ↓w_fs5, ↓w_fs6, ↓w_un2, ↓w_un3, ↓w_un4, ↓w_goN, ↓w_goR, ↓w_goB, ↓w_goC, ↓w_feN, ↓w_feR, ↓w_repr, true_and, and_true, and_self, if_true, if_false, Bool.false_eq_true, Bool.not_true, Bool.not_false, decide_true, decide_false, ↓wp_calK, ↓kw_03, ↓kw_02, ↓kw_01, ↓pick_210, ↓pick_10, ↓pick_01, ↓pick_0, ↓w_sumF, ↓w_sumT, ↓w_srt, ↓w_maxL, ↓w_minL, ↓wp_starM, ↓wp_consM, ↓w_itT, ↓w_itF, ↓wp_rl2M, ↓wp_rl1M, ↓w_rl, ↓wp_dn3I, ↓w_dn3, ↓wp_mulTM, ↓w_mulT, ↓wp_niDM, ↓wp_inDM, ↓wp_zpM, ↓w_zpFF, ↓wp_isBM, ↓wp_nsBM, ↓w_isBB, ↓w_nsBB, ↓wp_catO, ↓w_catF, ↓kw_04, ↓pick_3210]
    simp only [prsR, List.foldl_nil] at hf
    rw [hf] at q
    exact q

end G.K75

set_option Elab.async false
set_option linter.all false
set_option maxRecDepth 100000
set_option maxHeartbeats 4000000
namespace G.K75
open PySem G
theorem il_last {cs : List Int} {c : Int} {m : Hs} {Q : D → Hs → Prop} (h : cs.getLast? = some c) : wp (idxS (il cs) (.int (-1))) m Q = Q (.int c) m := by
  unfold il
  rw [w_ixT, last_map h]
  simp

theorem PK_pol {cs ls : List Int} {fx step : Int} {L : Nat} (v : Vp cs ls) (hL : cs.length ≤ L) (hL2 : L ≤ 8) (hs : 1 ≤ step ∧ step ≤ 1000) (hb : ∀ (i : Nat) (a : Int), cs[i]? = some a → a ≤ 2 * step * 2 ^ i) (h0 : 0 ≤ fx) (h1 : fx < 20) : PK cs ls fx := ⟨v, by omega, fun c hc => by
  obtain ⟨i, hi⟩ := List.getElem?_of_mem hc
  have h2 := hb i c hi
  have h3 := get_lt hi
  have h4 : (2 : Int) ^ i ≤ 2 ^ 8 := by exact_mod_cast Nat.pow_le_pow_right (n := 2) (by decide) (show i ≤ 8 by omega)
  have h5 : 2 * step * 2 ^ i ≤ 2000 * 2 ^ 8 := Int.mul_le_mul (by omega) h4 (Int.pow_nonneg (by decide)) (by decide)
  exact ⟨v.pos i c hi, by omega⟩, h0, by omega⟩
theorem red_K {cs ls : List Int} {fx : Int} (h : PK cs ls fx) {x y : Nat} (hy : 0 < y) (k : Kp cs ls fx x y) : Kp cs ls fx ((x / Nat.gcd x y : Nat) : Int) ((y / Nat.gcd x y : Nat) : Int) := by
  have hg : 0 < Nat.gcd x y := Nat.gcd_pos_of_pos_right _ hy
  have e1 : x = x / Nat.gcd x y * Nat.gcd x y := (Nat.div_mul_cancel (Nat.gcd_dvd_left _ _)).symm
  have e2 : y = y / Nat.gcd x y * Nat.gcd x y := (Nat.div_mul_cancel (Nat.gcd_dvd_right _ _)).symm
  refine Kp.more h (by omega) (Int.natCast_nonneg _) ?_ k
  generalize Nat.gcd x y = g at *
  generalize x / g = a at *
  generalize y / g = b at *
  subst e1 e2
  have : a * g * b = a * (b * g) := by ac_rfl
  have h2 : ((a * g * b : Nat) : Int) = ((a * (b * g) : Nat) : Int) := by rw [this]
  simp only [Int.natCast_mul] at h2 ⊢
  omega
theorem sv00 {cs ls : List Int} (v : Vp cs ls) : Sv cs ls 0 0 := by
  have hlen := v.len
  obtain ⟨c, hc⟩ := get_ex (l := cs) (i := 0) (by omega)
  have := v.pos _ _ hc
  exact ⟨⟨c, hc, by omega⟩, Int.le_refl _, fun q l e _ => by omega⟩
/-- the worst price in lowest terms: what the program tells, that it is kept, that it is the law's fraction -/
theorem wx_of {cs ls : List Int} {fx : Int} (h : PK cs ls fx) : ∃ a b, Wp (pol cs ls fx, a, b) ∧ Kp cs ls fx a b ∧ (a : Int) * (wst cs ls fx).1.2 = (wst cs ls fx).1.1 * b := by
  have o := wst_ok h
  have k1 := wst_K h
  have w1 := o.n0
  have w2 := o.n1
  have w3 := o.d0
  have w4 := o.d1
  have hp : 0 < (wst cs ls fx).1.2.toNat := by omega
  have ex : (((wst cs ls fx).1.1.toNat : Nat) : Int) = (wst cs ls fx).1.1 := Int.toNat_of_nonneg w1
  have ey : (((wst cs ls fx).1.2.toNat : Nat) : Int) = (wst cs ls fx).1.2 := Int.toNat_of_nonneg (by omega)
  refine ⟨(red ((wst cs ls fx).1.1.toNat, (wst cs ls fx).1.2.toNat)).1, (red ((wst cs ls fx).1.1.toNat, (wst cs ls fx).1.2.toNat)).2, ⟨worst_eq h, ?_, ?_, red_pos hp, Nat.coprime_div_gcd_div_gcd (Nat.gcd_pos_of_pos_right _ hp)⟩, ?_, ?_⟩
  · exact Nat.lt_of_le_of_lt (red_le _).1 (by simp only; omega)
  · exact Nat.lt_of_le_of_lt (red_le _).2 (by simp only; omega)
  · refine red_K h hp ?_
    rw [ex, ey]
    exact k1
  · have key : ∀ x y : Nat, ((x / Nat.gcd x y : Nat) : Int) * (y : Int) = (x : Int) * ((y / Nat.gcd x y : Nat) : Int) := fun x y => by
      have d1 := Nat.div_mul_cancel (Nat.gcd_dvd_left x y)
      have d2 := Nat.div_mul_cancel (Nat.gcd_dvd_right x y)
      have : x / Nat.gcd x y * y = x * (y / Nat.gcd x y) := by
        generalize hA : x / Nat.gcd x y = A at *
        generalize hB : y / Nat.gcd x y = B at *
        generalize Nat.gcd x y = g at *
        rw [← d1, ← d2]
        ac_rfl
      exact_mod_cast this
    have := key (wst cs ls fx).1.1.toNat (wst cs ls fx).1.2.toNat
    rw [ex, ey] at this
    exact this
theorem last_bd {cs ls : List Int} {mo : Int} (v : Vp cs ls) (hl : cs.length ≤ 8) (h : cs.getLast? = some mo) (hb : ∀ (i : Nat) (a : Int), cs[i]? = some a → a ≤ 2 * 5 * 2 ^ i) : 1 ≤ mo ∧ mo < 90000 := by
  rw [List.getLast?_eq_getElem?] at h
  have h1 := v.pos _ _ h
  have h2 := hb _ _ h
  have h3 := get_lt h
  have h4 : (2 : Int) ^ (cs.length - 1) ≤ 2 ^ 8 := by exact_mod_cast Nat.pow_le_pow_right (n := 2) (by decide) (show cs.length - 1 ≤ 8 by omega)
  omega
theorem joint3 {L : List (D × Nat × Nat)} (hl : L.length = 3) (hw : ∀ e, e ∈ L → Wp e) : ∃ e, e ∈ L ∧ (∀ f, f ∈ L → f.2.1 * e.2.2 ≤ e.2.1 * f.2.2) := by
  have key : ∀ L : List (D × Nat × Nat), L ≠ [] → (∀ e, e ∈ L → Wp e) → ∃ e, e ∈ L ∧ (∀ f, f ∈ L → f.2.1 * e.2.2 ≤ e.2.1 * f.2.2) := fun L => by
    induction L with
    | nil => intro h; exact absurd rfl h
    | cons a r ih =>
      intro _ hw
      by_cases hr : r = []
      · subst hr
        refine ⟨a, List.mem_cons_self, fun f hf => ?_⟩
        rw [List.mem_singleton.1 hf]
        exact Nat.le_refl _
      · obtain ⟨e, he, hm⟩ := ih hr (fun e he => hw e (List.mem_cons_of_mem _ he))
        rcases Nat.le_total (a.2.1 * e.2.2) (e.2.1 * a.2.2) with h | h
        · refine ⟨e, List.mem_cons_of_mem _ he, fun f hf => ?_⟩
          rcases List.mem_cons.1 hf with rfl | hf
          · exact h
          · exact hm f hf
        · refine ⟨a, List.mem_cons_self, fun f hf => ?_⟩
          rcases List.mem_cons.1 hf with rfl | hf
          · exact Nat.le_refl _
          · exact frN_trans (hw e (List.mem_cons_of_mem _ he)).p (hm f hf) h
  exact key L (fun e => by rw [e] at hl; simp at hl) hw
theorem law_true (ns : List Int) (hl : ns.length ≤ 63) : ∃ m, t_law (.sc (ns.map .int)) [] = .ok (.bl true) m := by
  have key : wp (t_law (.sc (ns.map .int))) [] fun d _ => d = .bl true := by
    unfold t_law bd_law
    simp -failIfUnchanged only [List.length_map, ↓wp_retE, ↓wp_bad, ↓wp_bnd, ↓wp_nxt, ↓wp_brk, ↓wp_cnt, ↓wp_rtn, ↓wp_iff, ↓wp_fnM, ↓wp_binM, ↓wp_cmpM, ↓wp_idxM, ↓wp_negM, ↓wp_notM, ↓wp_andM, ↓wp_orM, ↓wp_iteM, ↓wp_chnM, ↓wp_chnS, ↓wp_ls0, ↓wp_ls1, ↓wp_tupM, ↓wp_lstM, ↓wp_lshM, ↓wp_ownM, ↓wp_idxL, ↓wp_slcM, ↓wp_noP, ↓wp_soP, ↓wp_calM, ↓wp_isiM, ↓wp_forM, ↓wp_seqI, ↓wp_rng1, ↓wp_rng2, ↓wp_enum, ↓wp_enum2, ↓enum2_t, ↓enum2_f, ↓wp_zip, ↓rng1_int, ↓rng2_int, ↓wp_lcM, ↓wp_lcO, ↓wp_appO, ↓wp_extO, ↓wp_fldM, ↓wp_fldT, ↓wp_mthM, ↓wp_makM, ↓wp_augF, ↓tpT2, ↓nonS_non, ↓wp_subT, ↓w_add, ↓w_sub, ↓w_mul, ↓w_fdiv, ↓w_mod, ↓w_pow, ↓w_shl, ↓w_addT, ↓w_addL, ↓w_lt, ↓w_le, ↓w_gt, ↓w_ge, ↓w_eqI, ↓w_neI, ↓w_eqS, ↓w_neS, ↓w_isN, ↓w_ntN, ↓w_isI, ↓w_ntI, ↓w_isT, ↓w_ntT, ↓w_isF, ↓w_ntF, ↓w_isR, ↓w_ntR, ↓w_isB, ↓w_ntB, ↓w_isS, ↓w_ntS, ↓w_trB, ↓w_trI, ↓w_trN, ↓w_trT, ↓w_trF, ↓w_ixT0, ↓w_ixT1, ↓w_ixT2, ↓w_ixT3, ↓w_ixF0, ↓w_ixF1, ↓w_ixF2, ↓w_ixF3, ↓w_ixS0, ↓w_ixS1, ↓w_ixS2, ↓w_ixS3, ↓w_idL, ↓w_neg, ↓w_slT, ↓w_slF, ↓w_soP, ↓w_lenT, ↓w_lenF, ↓w_lenS, ↓w_abs, ↓w_min, ↓w_max, ↓w_intI, ↓w_intB, ↓w_tupT, ↓w_tupF, ↓w_lstT, ↓w_lstF, ↓w_sum, ↓w_all, ↓w_any, ↓w_is_int_N, ↓w_is_int_B, ↓w_is_int_I, ↓w_is_int_S, ↓w_is_int_T, ↓w_is_int_F, ↓w_is_bl_N, ↓w_is_bl_B, ↓w_is_bl_I, ↓w_is_bl_S, ↓w_is_bl_T, ↓w_is_bl_F, ↓w_is_tup_N, ↓w_is_tup_B, ↓w_is_tup_I, ↓w_is_tup_S, ↓w_is_tup_T, ↓w_is_tup_F, ↓w_is_str_N, ↓w_is_str_B, ↓w_is_str_I, ↓w_is_str_S, ↓w_is_str_T, ↓w_is_str_F, ↓w_is_lst_N, ↓w_is_lst_B, ↓w_is_lst_I, ↓w_is_lst_S, ↓w_is_lst_T, ↓w_is_lst_F, ↓w_guT, ↓w_guF, ↓w_guS, ↓w_lsF, ↓w_enT, ↓w_enF, ↓w_zpT, ↓w_zpF, ↓w_gadd, ↓w_gsub, ↓w_fs1, ↓w_fs2, ↓w_fs3, ↓w_fs4, ↓w_fs5, ↓w_fs6, ↓w_un2, ↓w_un3, ↓w_un4, ↓w_goN, ↓w_goR, ↓w_goB, ↓w_goC, ↓w_feN, ↓w_feR, ↓w_repr, true_and, and_true, and_self, if_true, if_false, Bool.false_eq_true, Bool.not_true, Bool.not_false, decide_true, decide_false, ↓wp_calK, ↓kw_03, ↓kw_02, ↓kw_01, ↓pick_210, ↓pick_10, ↓pick_01, ↓pick_0, ↓w_sumF, ↓w_sumT, ↓w_srt, ↓w_maxL, ↓w_minL, ↓wp_starM, ↓wp_consM, ↓w_itT, ↓w_itF, ↓wp_rl2M, ↓wp_rl1M, ↓w_rl, ↓wp_dn3I, ↓w_dn3, ↓wp_mulTM, ↓w_mulT, ↓wp_niDM, ↓wp_inDM, ↓wp_zpM, ↓w_zpFF, ↓wp_isBM, ↓wp_nsBM, ↓w_isBB, ↓w_nsBB, ↓wp_catO, ↓w_catF, ↓kw_04, ↓pick_3210]
    rw [wp_seq]
    simp -failIfUnchanged only [List.length_map, ↓wp_retE, ↓wp_bad, ↓wp_bnd, ↓wp_nxt, ↓wp_brk, ↓wp_cnt, ↓wp_rtn, ↓wp_iff, ↓wp_fnM, ↓wp_binM, ↓wp_cmpM, ↓wp_idxM, ↓wp_negM, ↓wp_notM, ↓wp_andM, ↓wp_orM, ↓wp_iteM, ↓wp_chnM, ↓wp_chnS, ↓wp_ls0, ↓wp_ls1, ↓wp_tupM, ↓wp_lstM, ↓wp_lshM, ↓wp_ownM, ↓wp_idxL, ↓wp_slcM, ↓wp_noP, ↓wp_soP, ↓wp_calM, ↓wp_isiM, ↓wp_forM, ↓wp_seqI, ↓wp_rng1, ↓wp_rng2, ↓wp_enum, ↓wp_enum2, ↓enum2_t, ↓enum2_f, ↓wp_zip, ↓rng1_int, ↓rng2_int, ↓wp_lcM, ↓wp_lcO, ↓wp_appO, ↓wp_extO, ↓wp_fldM, ↓wp_fldT, ↓wp_mthM, ↓wp_makM, ↓wp_augF, ↓tpT2, ↓nonS_non, ↓wp_subT, ↓w_add, ↓w_sub, ↓w_mul, ↓w_fdiv, ↓w_mod, ↓w_pow, ↓w_shl, ↓w_addT, ↓w_addL, ↓w_lt, ↓w_le, ↓w_gt, ↓w_ge, ↓w_eqI, ↓w_neI, ↓w_eqS, ↓w_neS, ↓w_isN, ↓w_ntN, ↓w_isI, ↓w_ntI, ↓w_isT, ↓w_ntT, ↓w_isF, ↓w_ntF, ↓w_isR, ↓w_ntR, ↓w_isB, ↓w_ntB, ↓w_isS, ↓w_ntS, ↓w_trB, ↓w_trI, ↓w_trN, ↓w_trT, ↓w_trF, ↓w_ixT0, ↓w_ixT1, ↓w_ixT2, ↓w_ixT3, ↓w_ixF0, ↓w_ixF1, ↓w_ixF2, ↓w_ixF3, ↓w_ixS0, ↓w_ixS1, ↓w_ixS2, ↓w_ixS3, ↓w_idL, ↓w_neg, ↓w_slT, ↓w_slF, ↓w_soP, ↓w_lenT, ↓w_lenF, ↓w_lenS, ↓w_abs, ↓w_min, ↓w_max, ↓w_intI, ↓w_intB, ↓w_tupT, ↓w_tupF, ↓w_lstT, ↓w_lstF, ↓w_sum, ↓w_all, ↓w_any, ↓w_is_int_N, ↓w_is_int_B, ↓w_is_int_I, ↓w_is_int_S, ↓w_is_int_T, ↓w_is_int_F, ↓w_is_bl_N, ↓w_is_bl_B, ↓w_is_bl_I, ↓w_is_bl_S, ↓w_is_bl_T, ↓w_is_bl_F, ↓w_is_tup_N, ↓w_is_tup_B, ↓w_is_tup_I, ↓w_is_tup_S, ↓w_is_tup_T, ↓w_is_tup_F, ↓w_is_str_N, ↓w_is_str_B, ↓w_is_str_I, ↓w_is_str_S, ↓w_is_str_T, ↓w_is_str_F, ↓w_is_lst_N, ↓w_is_lst_B, ↓w_is_lst_I, ↓w_is_lst_S, ↓w_is_lst_T, ↓w_is_lst_F, ↓w_guT, ↓w_guF, ↓w_guS, ↓w_lsF, ↓w_enT, ↓w_enF, ↓w_zpT, ↓w_zpF, ↓w_gadd, ↓w_gsub, ↓w_fs1, ↓w_fs2, ↓w_fs3, ↓w_fs4, ↓w_fs5, ↓w_fs6, ↓w_un2, ↓w_un3, ↓w_un4, ↓w_goN, ↓w_goR, ↓w_goB, ↓w_goC, ↓w_feN, ↓w_feR, ↓w_repr, true_and, and_true, and_self, if_true, if_false, Bool.false_eq_true, Bool.not_true, Bool.not_false, decide_true, decide_false, ↓wp_calK, ↓kw_03, ↓kw_02, ↓kw_01, ↓pick_210, ↓pick_10, ↓pick_01, ↓pick_0, ↓w_sumF, ↓w_sumT, ↓w_srt, ↓w_maxL, ↓w_minL, ↓wp_starM, ↓wp_consM, ↓w_itT, ↓w_itF, ↓wp_rl2M, ↓wp_rl1M, ↓w_rl, ↓wp_dn3I, ↓w_dn3, ↓wp_mulTM, ↓w_mulT, ↓wp_niDM, ↓wp_inDM, ↓wp_zpM, ↓w_zpFF, ↓wp_isBM, ↓wp_nsBM, ↓w_isBB, ↓w_nsBB, ↓wp_catO, ↓w_catF, ↓kw_04, ↓pick_3210]
    generalize hcount : (if (if (ns.length : Int) < 3 then (ns.length : Int) else 3) > 1 then (if (ns.length : Int) < 3 then (ns.length : Int) else 3) else 1) = count
    have hc3 : 0 ≤ count ∧ count ≤ 3 := by
      rw [← hcount]
      split <;> split <;> omega
    refine ⟨⟨by omega, by omega⟩, ?_⟩
    refine rngI_wp (fun i j s m => ∃ k : Nat, i = k ∧ k + j ≤ 3) ?_ ?_ _ _ _ _ ⟨0, rfl, by omega⟩
    · rintro i j s m ⟨k, rfl, hkj⟩
      simp -failIfUnchanged only [↓wp_retE, ↓wp_bad, ↓wp_bnd, ↓wp_nxt, ↓wp_brk, ↓wp_cnt, ↓wp_rtn, ↓wp_iff, ↓wp_fnM, ↓wp_binM, ↓wp_cmpM, ↓wp_idxM, ↓wp_negM, ↓wp_notM, ↓wp_andM, ↓wp_orM, ↓wp_iteM, ↓wp_chnM, ↓wp_chnS, ↓wp_ls0, ↓wp_ls1, ↓wp_tupM, ↓wp_lstM, ↓wp_lshM, ↓wp_ownM, ↓wp_idxL, ↓wp_slcM, ↓wp_noP, ↓wp_soP, ↓wp_calM, ↓wp_isiM, ↓wp_forM, ↓wp_seqI, ↓wp_rng1, ↓wp_rng2, ↓wp_enum, ↓wp_enum2, ↓enum2_t, ↓enum2_f, ↓wp_zip, ↓rng1_int, ↓rng2_int, ↓wp_lcM, ↓wp_lcO, ↓wp_appO, ↓wp_extO, ↓wp_fldM, ↓wp_fldT, ↓wp_mthM, ↓wp_makM, ↓wp_augF, ↓tpT2, ↓nonS_non, ↓wp_subT, ↓w_add, ↓w_sub, ↓w_mul, ↓w_fdiv, ↓w_mod, ↓w_pow, ↓w_shl, ↓w_addT, ↓w_addL, ↓w_lt, ↓w_le, ↓w_gt, ↓w_ge, ↓w_eqI, ↓w_neI, ↓w_eqS, ↓w_neS, ↓w_isN, ↓w_ntN, ↓w_isI, ↓w_ntI, ↓w_isT, ↓w_ntT, ↓w_isF, ↓w_ntF, ↓w_isR, ↓w_ntR, ↓w_isB, ↓w_ntB, ↓w_isS, ↓w_ntS, ↓w_trB, ↓w_trI, ↓w_trN, ↓w_trT, ↓w_trF, ↓w_ixT0, ↓w_ixT1, ↓w_ixT2, ↓w_ixT3, ↓w_ixF0, ↓w_ixF1, ↓w_ixF2, ↓w_ixF3, ↓w_ixS0, ↓w_ixS1, ↓w_ixS2, ↓w_ixS3, ↓w_idL, ↓w_neg, ↓w_slT, ↓w_slF, ↓w_soP, ↓w_lenT, ↓w_lenF, ↓w_lenS, ↓w_abs, ↓w_min, ↓w_max, ↓w_intI, ↓w_intB, ↓w_tupT, ↓w_tupF, ↓w_lstT, ↓w_lstF, ↓w_sum, ↓w_all, ↓w_any, ↓w_is_int_N, ↓w_is_int_B, ↓w_is_int_I, ↓w_is_int_S, ↓w_is_int_T, ↓w_is_int_F, ↓w_is_bl_N, ↓w_is_bl_B, ↓w_is_bl_I, ↓w_is_bl_S, ↓w_is_bl_T, ↓w_is_bl_F, ↓w_is_tup_N, ↓w_is_tup_B, ↓w_is_tup_I, ↓w_is_tup_S, ↓w_is_tup_T, ↓w_is_tup_F, ↓w_is_str_N, ↓w_is_str_B, ↓w_is_str_I, ↓w_is_str_S, ↓w_is_str_T, ↓w_is_str_F, ↓w_is_lst_N, ↓w_is_lst_B, ↓w_is_lst_I, ↓w_is_lst_S, ↓w_is_lst_T, ↓w_is_lst_F, ↓w_guT, ↓w_guF, ↓w_guS, ↓w_lsF, ↓w_enT, ↓w_enF, ↓w_zpT, ↓w_zpF, ↓w_gadd, ↓w_gsub, ↓w_fs1, ↓w_fs2, ↓w_fs3, ↓w_fs4, ↓w_fs5, ↓w_fs6, ↓w_un2, ↓w_un3, ↓w_un4, ↓w_goN, ↓w_goR, ↓w_goB, ↓w_goC, ↓w_feN, ↓w_feR, ↓w_repr, true_and, and_true, and_self, if_true, if_false, Bool.false_eq_true, Bool.not_true, Bool.not_false, decide_true, decide_false, ↓wp_calK, ↓kw_03, ↓kw_02, ↓kw_01, ↓pick_210, ↓pick_10, ↓pick_01, ↓pick_0, ↓w_sumF, ↓w_sumT, ↓w_srt, ↓w_maxL, ↓w_minL, ↓wp_starM, ↓wp_consM, ↓w_itT, ↓w_itF, ↓wp_rl2M, ↓wp_rl1M, ↓w_rl, ↓wp_dn3I, ↓w_dn3, ↓wp_mulTM, ↓w_mulT, ↓wp_niDM, ↓wp_inDM, ↓wp_zpM, ↓w_zpFF, ↓wp_isBM, ↓wp_nsBM, ↓w_isBB, ↓w_nsBB, ↓wp_catO, ↓w_catF, ↓kw_04, ↓pick_3210]
      refine draws_wp (by omega) fun o hd => ?_
      simp -failIfUnchanged only [↓wp_retE, ↓wp_bad, ↓wp_bnd, ↓wp_nxt, ↓wp_brk, ↓wp_cnt, ↓wp_rtn, ↓wp_iff, ↓wp_fnM, ↓wp_binM, ↓wp_cmpM, ↓wp_idxM, ↓wp_negM, ↓wp_notM, ↓wp_andM, ↓wp_orM, ↓wp_iteM, ↓wp_chnM, ↓wp_chnS, ↓wp_ls0, ↓wp_ls1, ↓wp_tupM, ↓wp_lstM, ↓wp_lshM, ↓wp_ownM, ↓wp_idxL, ↓wp_slcM, ↓wp_noP, ↓wp_soP, ↓wp_calM, ↓wp_isiM, ↓wp_forM, ↓wp_seqI, ↓wp_rng1, ↓wp_rng2, ↓wp_enum, ↓wp_enum2, ↓enum2_t, ↓enum2_f, ↓wp_zip, ↓rng1_int, ↓rng2_int, ↓wp_lcM, ↓wp_lcO, ↓wp_appO, ↓wp_extO, ↓wp_fldM, ↓wp_fldT, ↓wp_mthM, ↓wp_makM, ↓wp_augF, ↓tpT2, ↓nonS_non, ↓wp_subT, ↓w_add, ↓w_sub, ↓w_mul, ↓w_fdiv, ↓w_mod, ↓w_pow, ↓w_shl, ↓w_addT, ↓w_addL, ↓w_lt, ↓w_le, ↓w_gt, ↓w_ge, ↓w_eqI, ↓w_neI, ↓w_eqS, ↓w_neS, ↓w_isN, ↓w_ntN, ↓w_isI, ↓w_ntI, ↓w_isT, ↓w_ntT, ↓w_isF, ↓w_ntF, ↓w_isR, ↓w_ntR, ↓w_isB, ↓w_ntB, ↓w_isS, ↓w_ntS, ↓w_trB, ↓w_trI, ↓w_trN, ↓w_trT, ↓w_trF, ↓w_ixT0, ↓w_ixT1, ↓w_ixT2, ↓w_ixT3, ↓w_ixF0, ↓w_ixF1, ↓w_ixF2, ↓w_ixF3, ↓w_ixS0, ↓w_ixS1, ↓w_ixS2, ↓w_ixS3, ↓w_idL, ↓w_neg, ↓w_slT, ↓w_slF, ↓w_soP, ↓w_lenT, ↓w_lenF, ↓w_lenS, ↓w_abs, ↓w_min, ↓w_max, ↓w_intI, ↓w_intB, ↓w_tupT, ↓w_tupF, ↓w_lstT, ↓w_lstF, ↓w_sum, ↓w_all, ↓w_any, ↓w_is_int_N, ↓w_is_int_B, ↓w_is_int_I, ↓w_is_int_S, ↓w_is_int_T, ↓w_is_int_F, ↓w_is_bl_N, ↓w_is_bl_B, ↓w_is_bl_I, ↓w_is_bl_S, ↓w_is_bl_T, ↓w_is_bl_F, ↓w_is_tup_N, ↓w_is_tup_B, ↓w_is_tup_I, ↓w_is_tup_S, ↓w_is_tup_T, ↓w_is_tup_F, ↓w_is_str_N, ↓w_is_str_B, ↓w_is_str_I, ↓w_is_str_S, ↓w_is_str_T, ↓w_is_str_F, ↓w_is_lst_N, ↓w_is_lst_B, ↓w_is_lst_I, ↓w_is_lst_S, ↓w_is_lst_T, ↓w_is_lst_F, ↓w_guT, ↓w_guF, ↓w_guS, ↓w_lsF, ↓w_enT, ↓w_enF, ↓w_zpT, ↓w_zpF, ↓w_gadd, ↓w_gsub, ↓w_fs1, ↓w_fs2, ↓w_fs3, ↓w_fs4, ↓w_fs5, ↓w_fs6, ↓w_un2, ↓w_un3, ↓w_un4, ↓w_goN, ↓w_goR, ↓w_goB, ↓w_goC, ↓w_feN, ↓w_feR, ↓w_repr, true_and, and_true, and_self, if_true, if_false, Bool.false_eq_true, Bool.not_true, Bool.not_false, decide_true, decide_false, ↓wp_calK, ↓kw_03, ↓kw_02, ↓kw_01, ↓pick_210, ↓pick_10, ↓pick_01, ↓pick_0, ↓w_sumF, ↓w_sumT, ↓w_srt, ↓w_maxL, ↓w_minL, ↓wp_starM, ↓wp_consM, ↓w_itT, ↓w_itF, ↓wp_rl2M, ↓wp_rl1M, ↓w_rl, ↓wp_dn3I, ↓w_dn3, ↓wp_mulTM, ↓w_mulT, ↓wp_niDM, ↓wp_inDM, ↓wp_zpM, ↓w_zpFF, ↓wp_isBM, ↓wp_nsBM, ↓w_isBB, ↓w_nsBB, ↓wp_catO, ↓w_catF, ↓kw_04, ↓pick_3210]
      rw [wp_seq]
      simp -failIfUnchanged only [↓wp_retE, ↓wp_bad, ↓wp_bnd, ↓wp_nxt, ↓wp_brk, ↓wp_cnt, ↓wp_rtn, ↓wp_iff, ↓wp_fnM, ↓wp_binM, ↓wp_cmpM, ↓wp_idxM, ↓wp_negM, ↓wp_notM, ↓wp_andM, ↓wp_orM, ↓wp_iteM, ↓wp_chnM, ↓wp_chnS, ↓wp_ls0, ↓wp_ls1, ↓wp_tupM, ↓wp_lstM, ↓wp_lshM, ↓wp_ownM, ↓wp_idxL, ↓wp_slcM, ↓wp_noP, ↓wp_soP, ↓wp_calM, ↓wp_isiM, ↓wp_forM, ↓wp_seqI, ↓wp_rng1, ↓wp_rng2, ↓wp_enum, ↓wp_enum2, ↓enum2_t, ↓enum2_f, ↓wp_zip, ↓rng1_int, ↓rng2_int, ↓wp_lcM, ↓wp_lcO, ↓wp_appO, ↓wp_extO, ↓wp_fldM, ↓wp_fldT, ↓wp_mthM, ↓wp_makM, ↓wp_augF, ↓tpT2, ↓nonS_non, ↓wp_subT, ↓w_add, ↓w_sub, ↓w_mul, ↓w_fdiv, ↓w_mod, ↓w_pow, ↓w_shl, ↓w_addT, ↓w_addL, ↓w_lt, ↓w_le, ↓w_gt, ↓w_ge, ↓w_eqI, ↓w_neI, ↓w_eqS, ↓w_neS, ↓w_isN, ↓w_ntN, ↓w_isI, ↓w_ntI, ↓w_isT, ↓w_ntT, ↓w_isF, ↓w_ntF, ↓w_isR, ↓w_ntR, ↓w_isB, ↓w_ntB, ↓w_isS, ↓w_ntS, ↓w_trB, ↓w_trI, ↓w_trN, ↓w_trT, ↓w_trF, ↓w_ixT0, ↓w_ixT1, ↓w_ixT2, ↓w_ixT3, ↓w_ixF0, ↓w_ixF1, ↓w_ixF2, ↓w_ixF3, ↓w_ixS0, ↓w_ixS1, ↓w_ixS2, ↓w_ixS3, ↓w_idL, ↓w_neg, ↓w_slT, ↓w_slF, ↓w_soP, ↓w_lenT, ↓w_lenF, ↓w_lenS, ↓w_abs, ↓w_min, ↓w_max, ↓w_intI, ↓w_intB, ↓w_tupT, ↓w_tupF, ↓w_lstT, ↓w_lstF, ↓w_sum, ↓w_all, ↓w_any, ↓w_is_int_N, ↓w_is_int_B, ↓w_is_int_I, ↓w_is_int_S, ↓w_is_int_T, ↓w_is_int_F, ↓w_is_bl_N, ↓w_is_bl_B, ↓w_is_bl_I, ↓w_is_bl_S, ↓w_is_bl_T, ↓w_is_bl_F, ↓w_is_tup_N, ↓w_is_tup_B, ↓w_is_tup_I, ↓w_is_tup_S, ↓w_is_tup_T, ↓w_is_tup_F, ↓w_is_str_N, ↓w_is_str_B, ↓w_is_str_I, ↓w_is_str_S, ↓w_is_str_T, ↓w_is_str_F, ↓w_is_lst_N, ↓w_is_lst_B, ↓w_is_lst_I, ↓w_is_lst_S, ↓w_is_lst_T, ↓w_is_lst_F, ↓w_guT, ↓w_guF, ↓w_guS, ↓w_lsF, ↓w_enT, ↓w_enF, ↓w_zpT, ↓w_zpF, ↓w_gadd, ↓w_gsub, ↓w_fs1, ↓w_fs2, ↓w_fs3, ↓w_fs4, ↓w_fs5, ↓w_fs6, ↓w_un2, ↓w_un3, ↓w_un4, ↓w_goN, ↓w_goR, ↓w_goB, ↓w_goC, ↓w_feN, ↓w_feR, ↓w_repr, true_and, and_true, and_self, if_true, if_false, Bool.false_eq_true, Bool.not_true, Bool.not_false, decide_true, decide_false, ↓wp_calK, ↓kw_03, ↓kw_02, ↓kw_01, ↓pick_210, ↓pick_10, ↓pick_01, ↓pick_0, ↓w_sumF, ↓w_sumT, ↓w_srt, ↓w_maxL, ↓w_minL, ↓wp_starM, ↓wp_consM, ↓w_itT, ↓w_itF, ↓wp_rl2M, ↓wp_rl1M, ↓w_rl, ↓wp_dn3I, ↓w_dn3, ↓wp_mulTM, ↓w_mulT, ↓wp_niDM, ↓wp_inDM, ↓wp_zpM, ↓w_zpFF, ↓wp_isBM, ↓wp_nsBM, ↓w_isBB, ↓w_nsBB, ↓wp_catO, ↓w_catF, ↓kw_04, ↓pick_3210]
      generalize m.length = n at hd
      generalize m ++ [o] = m0 at hd
      clear o
      refine ⟨sz_le (by simp), ⟨by decide, by decide⟩, ?_⟩
      refine rng_wp (fun j s m' => ∃ L : List (D × Nat × Nat), s = L.map (·.1) ∧ L.length + j = 12 ∧ (∀ e, e ∈ L → Wp e) ∧ Dw m' n (2000 * L.length)) ?_ ?_ _ _ _ _ ⟨[], by simp, by simp, by simp, hd.mono (by simp)⟩
      · rintro i j s m1 ⟨L, rfl, hL, hW, hd1⟩
        simp -failIfUnchanged only [↓wp_retE, ↓wp_bad, ↓wp_bnd, ↓wp_nxt, ↓wp_brk, ↓wp_cnt, ↓wp_rtn, ↓wp_iff, ↓wp_fnM, ↓wp_binM, ↓wp_cmpM, ↓wp_idxM, ↓wp_negM, ↓wp_notM, ↓wp_andM, ↓wp_orM, ↓wp_iteM, ↓wp_chnM, ↓wp_chnS, ↓wp_ls0, ↓wp_ls1, ↓wp_tupM, ↓wp_lstM, ↓wp_lshM, ↓wp_ownM, ↓wp_idxL, ↓wp_slcM, ↓wp_noP, ↓wp_soP, ↓wp_calM, ↓wp_isiM, ↓wp_forM, ↓wp_seqI, ↓wp_rng1, ↓wp_rng2, ↓wp_enum, ↓wp_enum2, ↓enum2_t, ↓enum2_f, ↓wp_zip, ↓rng1_int, ↓rng2_int, ↓wp_lcM, ↓wp_lcO, ↓wp_appO, ↓wp_extO, ↓wp_fldM, ↓wp_fldT, ↓wp_mthM, ↓wp_makM, ↓wp_augF, ↓tpT2, ↓nonS_non, ↓wp_subT, ↓w_add, ↓w_sub, ↓w_mul, ↓w_fdiv, ↓w_mod, ↓w_pow, ↓w_shl, ↓w_addT, ↓w_addL, ↓w_lt, ↓w_le, ↓w_gt, ↓w_ge, ↓w_eqI, ↓w_neI, ↓w_eqS, ↓w_neS, ↓w_isN, ↓w_ntN, ↓w_isI, ↓w_ntI, ↓w_isT, ↓w_ntT, ↓w_isF, ↓w_ntF, ↓w_isR, ↓w_ntR, ↓w_isB, ↓w_ntB, ↓w_isS, ↓w_ntS, ↓w_trB, ↓w_trI, ↓w_trN, ↓w_trT, ↓w_trF, ↓w_ixT0, ↓w_ixT1, ↓w_ixT2, ↓w_ixT3, ↓w_ixF0, ↓w_ixF1, ↓w_ixF2, ↓w_ixF3, ↓w_ixS0, ↓w_ixS1, ↓w_ixS2, ↓w_ixS3, ↓w_idL, ↓w_neg, ↓w_slT, ↓w_slF, ↓w_soP, ↓w_lenT, ↓w_lenF, ↓w_lenS, ↓w_abs, ↓w_min, ↓w_max, ↓w_intI, ↓w_intB, ↓w_tupT, ↓w_tupF, ↓w_lstT, ↓w_lstF, ↓w_sum, ↓w_all, ↓w_any, ↓w_is_int_N, ↓w_is_int_B, ↓w_is_int_I, ↓w_is_int_S, ↓w_is_int_T, ↓w_is_int_F, ↓w_is_bl_N, ↓w_is_bl_B, ↓w_is_bl_I, ↓w_is_bl_S, ↓w_is_bl_T, ↓w_is_bl_F, ↓w_is_tup_N, ↓w_is_tup_B, ↓w_is_tup_I, ↓w_is_tup_S, ↓w_is_tup_T, ↓w_is_tup_F, ↓w_is_str_N, ↓w_is_str_B, ↓w_is_str_I, ↓w_is_str_S, ↓w_is_str_T, ↓w_is_str_F, ↓w_is_lst_N, ↓w_is_lst_B, ↓w_is_lst_I, ↓w_is_lst_S, ↓w_is_lst_T, ↓w_is_lst_F, ↓w_guT, ↓w_guF, ↓w_guS, ↓w_lsF, ↓w_enT, ↓w_enF, ↓w_zpT, ↓w_zpF, ↓w_gadd, ↓w_gsub, ↓w_fs1, ↓w_fs2, ↓w_fs3, ↓w_fs4, ↓w_fs5, ↓w_fs6, ↓w_un2, ↓w_un3, ↓w_un4, ↓w_goN, ↓w_goR, ↓w_goB, ↓w_goC, ↓w_feN, ↓w_feR, ↓w_repr, true_and, and_true, and_self, if_true, if_false, Bool.false_eq_true, Bool.not_true, Bool.not_false, decide_true, decide_false, ↓wp_calK, ↓kw_03, ↓kw_02, ↓kw_01, ↓pick_210, ↓pick_10, ↓pick_01, ↓pick_0, ↓w_sumF, ↓w_sumT, ↓w_srt, ↓w_maxL, ↓w_minL, ↓wp_starM, ↓wp_consM, ↓w_itT, ↓w_itF, ↓wp_rl2M, ↓wp_rl1M, ↓w_rl, ↓wp_dn3I, ↓w_dn3, ↓wp_mulTM, ↓w_mulT, ↓wp_niDM, ↓wp_inDM, ↓wp_zpM, ↓w_zpFF, ↓wp_isBM, ↓wp_nsBM, ↓w_isBB, ↓w_nsBB, ↓wp_catO, ↓w_catF, ↓kw_04, ↓pick_3210]
        rw [show (D.int 8) = D.int ((8 : Nat) : Int) from rfl]
        with_reducible refine policy_wp (levels := 8) (step := 5) hd1 (by omega) (by decide) (by decide) (by decide) (by decide) fun cs ls fx m2 v z1 b1 x1 y1 _ hd2 => ?_
        have p : PK cs ls fx := PK_pol v z1 (by decide) (by decide) b1 x1 y1
        with_reducible refine Exists.elim (wx_of p) fun a ha => ?_
        with_reducible refine Exists.elim ha fun b hab => ?_
        have w := hab.1
        have kp := hab.2.1
        have cr := hab.2.2
        have w1 := w.eq
        have wn := w.n
        have wb := w.d
        have wp0 := w.p
        simp only at w1 wn wb wp0
        have o := wst_ok p
        have o1 := o.bds.1
        have o2 := o.bds.2
        have bda : Bd 1000 (a : Int) := bdN (by omega) (by omega)
        have bdb : Bd 1000 (b : Int) := bdN (by omega) (by omega)
        have hll := p.llen
        have pr := repr_eq (opt_pl (k := 49) (show ls.length ≤ 50 by omega) o.mem) (by decide)
        have oe := own_eq p
        have ws := worstsw_eq p
        unfold prI at oe
        simp -failIfUnchanged only [↓oe, ↓w1, ↓ws, ↓pr, cr, beq_self_eq_true, ↓wp_retE, ↓wp_bad, ↓wp_bnd, ↓wp_nxt, ↓wp_brk, ↓wp_cnt, ↓wp_rtn, ↓wp_iff, ↓wp_fnM, ↓wp_binM, ↓wp_cmpM, ↓wp_idxM, ↓wp_negM, ↓wp_notM, ↓wp_andM, ↓wp_orM, ↓wp_iteM, ↓wp_chnM, ↓wp_chnS, ↓wp_ls0, ↓wp_ls1, ↓wp_tupM, ↓wp_lstM, ↓wp_lshM, ↓wp_ownM, ↓wp_idxL, ↓wp_slcM, ↓wp_noP, ↓wp_soP, ↓wp_calM, ↓wp_isiM, ↓wp_forM, ↓wp_seqI, ↓wp_rng1, ↓wp_rng2, ↓wp_enum, ↓wp_enum2, ↓enum2_t, ↓enum2_f, ↓wp_zip, ↓rng1_int, ↓rng2_int, ↓wp_lcM, ↓wp_lcO, ↓wp_appO, ↓wp_extO, ↓wp_fldM, ↓wp_fldT, ↓wp_mthM, ↓wp_makM, ↓wp_augF, ↓tpT2, ↓nonS_non, ↓wp_subT, ↓w_add, ↓w_sub, ↓w_mul, ↓w_fdiv, ↓w_mod, ↓w_pow, ↓w_shl, ↓w_addT, ↓w_addL, ↓w_lt, ↓w_le, ↓w_gt, ↓w_ge, ↓w_eqI, ↓w_neI, ↓w_eqS, ↓w_neS, ↓w_isN, ↓w_ntN, ↓w_isI, ↓w_ntI, ↓w_isT, ↓w_ntT, ↓w_isF, ↓w_ntF, ↓w_isR, ↓w_ntR, ↓w_isB, ↓w_ntB, ↓w_isS, ↓w_ntS, ↓w_trB, ↓w_trI, ↓w_trN, ↓w_trT, ↓w_trF, ↓w_ixT0, ↓w_ixT1, ↓w_ixT2, ↓w_ixT3, ↓w_ixF0, ↓w_ixF1, ↓w_ixF2, ↓w_ixF3, ↓w_ixS0, ↓w_ixS1, ↓w_ixS2, ↓w_ixS3, ↓w_idL, ↓w_neg, ↓w_slT, ↓w_slF, ↓w_soP, ↓w_lenT, ↓w_lenF, ↓w_lenS, ↓w_abs, ↓w_min, ↓w_max, ↓w_intI, ↓w_intB, ↓w_tupT, ↓w_tupF, ↓w_lstT, ↓w_lstF, ↓w_sum, ↓w_all, ↓w_any, ↓w_is_int_N, ↓w_is_int_B, ↓w_is_int_I, ↓w_is_int_S, ↓w_is_int_T, ↓w_is_int_F, ↓w_is_bl_N, ↓w_is_bl_B, ↓w_is_bl_I, ↓w_is_bl_S, ↓w_is_bl_T, ↓w_is_bl_F, ↓w_is_tup_N, ↓w_is_tup_B, ↓w_is_tup_I, ↓w_is_tup_S, ↓w_is_tup_T, ↓w_is_tup_F, ↓w_is_str_N, ↓w_is_str_B, ↓w_is_str_I, ↓w_is_str_S, ↓w_is_str_T, ↓w_is_str_F, ↓w_is_lst_N, ↓w_is_lst_B, ↓w_is_lst_I, ↓w_is_lst_S, ↓w_is_lst_T, ↓w_is_lst_F, ↓w_guT, ↓w_guF, ↓w_guS, ↓w_lsF, ↓w_enT, ↓w_enF, ↓w_zpT, ↓w_zpF, ↓w_gadd, ↓w_gsub, ↓w_fs1, ↓w_fs2, ↓w_fs3, ↓w_fs4, ↓w_fs5, ↓w_fs6, ↓w_un2, ↓w_un3, ↓w_un4, ↓w_goN, ↓w_goR, ↓w_goB, ↓w_goC, ↓w_feN, ↓w_feR, ↓w_repr, true_and, and_true, and_self, if_true, if_false, Bool.false_eq_true, Bool.not_true, Bool.not_false, decide_true, decide_false, ↓wp_calK, ↓kw_03, ↓kw_02, ↓kw_01, ↓pick_210, ↓pick_10, ↓pick_01, ↓pick_0, ↓w_sumF, ↓w_sumT, ↓w_srt, ↓w_maxL, ↓w_minL, ↓wp_starM, ↓wp_consM, ↓w_itT, ↓w_itF, ↓wp_rl2M, ↓wp_rl1M, ↓w_rl, ↓wp_dn3I, ↓w_dn3, ↓wp_mulTM, ↓w_mulT, ↓wp_niDM, ↓wp_inDM, ↓wp_zpM, ↓w_zpFF, ↓wp_isBM, ↓wp_nsBM, ↓w_isBB, ↓w_nsBB, ↓wp_catO, ↓w_catF, ↓kw_04, ↓pick_3210]
        have hne : cs ≠ [] := fun z => by
          have := p.v.len
          rw [z] at this
          simp at this
        with_reducible refine Exists.elim (List.getLast?_isSome.2 hne |> Option.isSome_iff_exists.1) fun mo hmo => ?_
        with_reducible refine Exists.elim (pre_ex p kp) fun X hX => ?_
        have hmo1 : 1 ≤ mo ∧ mo < 90000 := last_bd p.v (by omega) hmo b1
        have htop : ∃ top : Int, (if (90 : Int) < mo then 90 else mo) = top ∧ 1 ≤ top ∧ top ≤ mo ∧ top ≤ 90 := ⟨_, rfl, by split <;> omega, by split <;> omega, by split <;> omega⟩
        with_reducible refine Exists.elim htop fun top ht => ?_
        rw [wp_seq]
        simp -failIfUnchanged only [↓ws, ↓pr, cr, beq_self_eq_true, ↓il_last hmo, ↓pol_0, ht.1, ↓wp_retE, ↓wp_bad, ↓wp_bnd, ↓wp_nxt, ↓wp_brk, ↓wp_cnt, ↓wp_rtn, ↓wp_iff, ↓wp_fnM, ↓wp_binM, ↓wp_cmpM, ↓wp_idxM, ↓wp_negM, ↓wp_notM, ↓wp_andM, ↓wp_orM, ↓wp_iteM, ↓wp_chnM, ↓wp_chnS, ↓wp_ls0, ↓wp_ls1, ↓wp_tupM, ↓wp_lstM, ↓wp_lshM, ↓wp_ownM, ↓wp_idxL, ↓wp_slcM, ↓wp_noP, ↓wp_soP, ↓wp_calM, ↓wp_isiM, ↓wp_forM, ↓wp_seqI, ↓wp_rng1, ↓wp_rng2, ↓wp_enum, ↓wp_enum2, ↓enum2_t, ↓enum2_f, ↓wp_zip, ↓rng1_int, ↓rng2_int, ↓wp_lcM, ↓wp_lcO, ↓wp_appO, ↓wp_extO, ↓wp_fldM, ↓wp_fldT, ↓wp_mthM, ↓wp_makM, ↓wp_augF, ↓tpT2, ↓nonS_non, ↓wp_subT, ↓w_add, ↓w_sub, ↓w_mul, ↓w_fdiv, ↓w_mod, ↓w_pow, ↓w_shl, ↓w_addT, ↓w_addL, ↓w_lt, ↓w_le, ↓w_gt, ↓w_ge, ↓w_eqI, ↓w_neI, ↓w_eqS, ↓w_neS, ↓w_isN, ↓w_ntN, ↓w_isI, ↓w_ntI, ↓w_isT, ↓w_ntT, ↓w_isF, ↓w_ntF, ↓w_isR, ↓w_ntR, ↓w_isB, ↓w_ntB, ↓w_isS, ↓w_ntS, ↓w_trB, ↓w_trI, ↓w_trN, ↓w_trT, ↓w_trF, ↓w_ixT0, ↓w_ixT1, ↓w_ixT2, ↓w_ixT3, ↓w_ixF0, ↓w_ixF1, ↓w_ixF2, ↓w_ixF3, ↓w_ixS0, ↓w_ixS1, ↓w_ixS2, ↓w_ixS3, ↓w_idL, ↓w_neg, ↓w_slT, ↓w_slF, ↓w_soP, ↓w_lenT, ↓w_lenF, ↓w_lenS, ↓w_abs, ↓w_min, ↓w_max, ↓w_intI, ↓w_intB, ↓w_tupT, ↓w_tupF, ↓w_lstT, ↓w_lstF, ↓w_sum, ↓w_all, ↓w_any, ↓w_is_int_N, ↓w_is_int_B, ↓w_is_int_I, ↓w_is_int_S, ↓w_is_int_T, ↓w_is_int_F, ↓w_is_bl_N, ↓w_is_bl_B, ↓w_is_bl_I, ↓w_is_bl_S, ↓w_is_bl_T, ↓w_is_bl_F, ↓w_is_tup_N, ↓w_is_tup_B, ↓w_is_tup_I, ↓w_is_tup_S, ↓w_is_tup_T, ↓w_is_tup_F, ↓w_is_str_N, ↓w_is_str_B, ↓w_is_str_I, ↓w_is_str_S, ↓w_is_str_T, ↓w_is_str_F, ↓w_is_lst_N, ↓w_is_lst_B, ↓w_is_lst_I, ↓w_is_lst_S, ↓w_is_lst_T, ↓w_is_lst_F, ↓w_guT, ↓w_guF, ↓w_guS, ↓w_lsF, ↓w_enT, ↓w_enF, ↓w_zpT, ↓w_zpF, ↓w_gadd, ↓w_gsub, ↓w_fs1, ↓w_fs2, ↓w_fs3, ↓w_fs4, ↓w_fs5, ↓w_fs6, ↓w_un2, ↓w_un3, ↓w_un4, ↓w_goN, ↓w_goR, ↓w_goB, ↓w_goC, ↓w_feN, ↓w_feR, true_and, and_true, and_self, if_true, if_false, Bool.false_eq_true, Bool.not_true, Bool.not_false, decide_true, decide_false, ↓wp_calK, ↓kw_03, ↓kw_02, ↓kw_01, ↓pick_210, ↓pick_10, ↓pick_01, ↓pick_0, ↓w_sumF, ↓w_sumT, ↓w_srt, ↓w_maxL, ↓w_minL, ↓wp_starM, ↓wp_consM, ↓w_itT, ↓w_itF, ↓wp_rl2M, ↓wp_rl1M, ↓w_rl, ↓wp_dn3I, ↓w_dn3, ↓wp_mulTM, ↓w_mulT, ↓wp_niDM, ↓wp_inDM, ↓wp_zpM, ↓w_zpFF, ↓wp_isBM, ↓wp_nsBM, ↓w_isBB, ↓w_nsBB, ↓wp_catO, ↓w_catF, ↓kw_04, ↓pick_3210]
        refine ⟨mul_bd bda o2 (by decide), mul_bd o1 bdb (by decide), ?_⟩
        rw [wp_seq]
        simp -failIfUnchanged only [↓wp_retE, ↓wp_bad, ↓wp_bnd, ↓wp_nxt, ↓wp_brk, ↓wp_cnt, ↓wp_rtn, ↓wp_iff, ↓wp_fnM, ↓wp_binM, ↓wp_cmpM, ↓wp_idxM, ↓wp_negM, ↓wp_notM, ↓wp_andM, ↓wp_orM, ↓wp_iteM, ↓wp_chnM, ↓wp_chnS, ↓wp_ls0, ↓wp_ls1, ↓wp_tupM, ↓wp_lstM, ↓wp_lshM, ↓wp_ownM, ↓wp_idxL, ↓wp_slcM, ↓wp_noP, ↓wp_soP, ↓wp_calM, ↓wp_isiM, ↓wp_forM, ↓wp_seqI, ↓wp_rng1, ↓wp_rng2, ↓wp_enum, ↓wp_enum2, ↓enum2_t, ↓enum2_f, ↓wp_zip, ↓rng1_int, ↓rng2_int, ↓wp_lcM, ↓wp_lcO, ↓wp_appO, ↓wp_extO, ↓wp_fldM, ↓wp_fldT, ↓wp_mthM, ↓wp_makM, ↓wp_augF, ↓tpT2, ↓nonS_non, ↓wp_subT, ↓w_add, ↓w_sub, ↓w_mul, ↓w_fdiv, ↓w_mod, ↓w_pow, ↓w_shl, ↓w_addT, ↓w_addL, ↓w_lt, ↓w_le, ↓w_gt, ↓w_ge, ↓w_eqI, ↓w_neI, ↓w_eqS, ↓w_neS, ↓w_isN, ↓w_ntN, ↓w_isI, ↓w_ntI, ↓w_isT, ↓w_ntT, ↓w_isF, ↓w_ntF, ↓w_isR, ↓w_ntR, ↓w_isB, ↓w_ntB, ↓w_isS, ↓w_ntS, ↓w_trB, ↓w_trI, ↓w_trN, ↓w_trT, ↓w_trF, ↓w_ixT0, ↓w_ixT1, ↓w_ixT2, ↓w_ixT3, ↓w_ixF0, ↓w_ixF1, ↓w_ixF2, ↓w_ixF3, ↓w_ixS0, ↓w_ixS1, ↓w_ixS2, ↓w_ixS3, ↓w_idL, ↓w_neg, ↓w_slT, ↓w_slF, ↓w_soP, ↓w_lenT, ↓w_lenF, ↓w_lenS, ↓w_abs, ↓w_min, ↓w_max, ↓w_intI, ↓w_intB, ↓w_tupT, ↓w_tupF, ↓w_lstT, ↓w_lstF, ↓w_sum, ↓w_all, ↓w_any, ↓w_is_int_N, ↓w_is_int_B, ↓w_is_int_I, ↓w_is_int_S, ↓w_is_int_T, ↓w_is_int_F, ↓w_is_bl_N, ↓w_is_bl_B, ↓w_is_bl_I, ↓w_is_bl_S, ↓w_is_bl_T, ↓w_is_bl_F, ↓w_is_tup_N, ↓w_is_tup_B, ↓w_is_tup_I, ↓w_is_tup_S, ↓w_is_tup_T, ↓w_is_tup_F, ↓w_is_str_N, ↓w_is_str_B, ↓w_is_str_I, ↓w_is_str_S, ↓w_is_str_T, ↓w_is_str_F, ↓w_is_lst_N, ↓w_is_lst_B, ↓w_is_lst_I, ↓w_is_lst_S, ↓w_is_lst_T, ↓w_is_lst_F, ↓w_guT, ↓w_guF, ↓w_guS, ↓w_lsF, ↓w_enT, ↓w_enF, ↓w_zpT, ↓w_zpF, ↓w_gadd, ↓w_gsub, ↓w_fs1, ↓w_fs2, ↓w_fs3, ↓w_fs4, ↓w_fs5, ↓w_fs6, ↓w_un2, ↓w_un3, ↓w_un4, ↓w_goN, ↓w_goR, ↓w_goB, ↓w_goC, ↓w_feN, ↓w_feR, ↓w_repr, true_and, and_true, and_self, if_true, if_false, Bool.false_eq_true, Bool.not_true, Bool.not_false, decide_true, decide_false, ↓wp_calK, ↓kw_03, ↓kw_02, ↓kw_01, ↓pick_210, ↓pick_10, ↓pick_01, ↓pick_0, ↓w_sumF, ↓w_sumT, ↓w_srt, ↓w_maxL, ↓w_minL, ↓wp_starM, ↓wp_consM, ↓w_itT, ↓w_itF, ↓wp_rl2M, ↓wp_rl1M, ↓w_rl, ↓wp_dn3I, ↓w_dn3, ↓wp_mulTM, ↓w_mulT, ↓wp_niDM, ↓wp_inDM, ↓wp_zpM, ↓w_zpFF, ↓wp_isBM, ↓wp_nsBM, ↓w_isBB, ↓w_nsBB, ↓wp_catO, ↓w_catF, ↓kw_04, ↓pick_3210]
        refine ⟨⟨by decide, by decide⟩, ?_⟩
        rw [show Int.toNat 6 = 6 from rfl]
        refine rng_wp (fun j' s m' => j' ≤ 6 ∧ Dw m' n (2000 * (L.length : Int) + 300 + 10 * (6 - (j' : Int)))) ?_ ?_ _ _ _ _ ⟨Nat.le_refl _, hd2.mono (by omega)⟩
        · intro i j' s m3 hI
          have hj := hI.1
          have hd3 := hI.2
          simp -failIfUnchanged only [↓wp_retE, ↓wp_bad, ↓wp_bnd, ↓wp_nxt, ↓wp_brk, ↓wp_cnt, ↓wp_rtn, ↓wp_iff, ↓wp_fnM, ↓wp_binM, ↓wp_cmpM, ↓wp_idxM, ↓wp_negM, ↓wp_notM, ↓wp_andM, ↓wp_orM, ↓wp_iteM, ↓wp_chnM, ↓wp_chnS, ↓wp_ls0, ↓wp_ls1, ↓wp_tupM, ↓wp_lstM, ↓wp_lshM, ↓wp_ownM, ↓wp_idxL, ↓wp_slcM, ↓wp_noP, ↓wp_soP, ↓wp_calM, ↓wp_isiM, ↓wp_forM, ↓wp_seqI, ↓wp_rng1, ↓wp_rng2, ↓wp_enum, ↓wp_enum2, ↓enum2_t, ↓enum2_f, ↓wp_zip, ↓rng1_int, ↓rng2_int, ↓wp_lcM, ↓wp_lcO, ↓wp_appO, ↓wp_extO, ↓wp_fldM, ↓wp_fldT, ↓wp_mthM, ↓wp_makM, ↓wp_augF, ↓tpT2, ↓nonS_non, ↓wp_subT, ↓w_add, ↓w_sub, ↓w_mul, ↓w_fdiv, ↓w_mod, ↓w_pow, ↓w_shl, ↓w_addT, ↓w_addL, ↓w_lt, ↓w_le, ↓w_gt, ↓w_ge, ↓w_eqI, ↓w_neI, ↓w_eqS, ↓w_neS, ↓w_isN, ↓w_ntN, ↓w_isI, ↓w_ntI, ↓w_isT, ↓w_ntT, ↓w_isF, ↓w_ntF, ↓w_isR, ↓w_ntR, ↓w_isB, ↓w_ntB, ↓w_isS, ↓w_ntS, ↓w_trB, ↓w_trI, ↓w_trN, ↓w_trT, ↓w_trF, ↓w_ixT0, ↓w_ixT1, ↓w_ixT2, ↓w_ixT3, ↓w_ixF0, ↓w_ixF1, ↓w_ixF2, ↓w_ixF3, ↓w_ixS0, ↓w_ixS1, ↓w_ixS2, ↓w_ixS3, ↓w_idL, ↓w_neg, ↓w_slT, ↓w_slF, ↓w_soP, ↓w_lenT, ↓w_lenF, ↓w_lenS, ↓w_abs, ↓w_min, ↓w_max, ↓w_intI, ↓w_intB, ↓w_tupT, ↓w_tupF, ↓w_lstT, ↓w_lstF, ↓w_sum, ↓w_all, ↓w_any, ↓w_is_int_N, ↓w_is_int_B, ↓w_is_int_I, ↓w_is_int_S, ↓w_is_int_T, ↓w_is_int_F, ↓w_is_bl_N, ↓w_is_bl_B, ↓w_is_bl_I, ↓w_is_bl_S, ↓w_is_bl_T, ↓w_is_bl_F, ↓w_is_tup_N, ↓w_is_tup_B, ↓w_is_tup_I, ↓w_is_tup_S, ↓w_is_tup_T, ↓w_is_tup_F, ↓w_is_str_N, ↓w_is_str_B, ↓w_is_str_I, ↓w_is_str_S, ↓w_is_str_T, ↓w_is_str_F, ↓w_is_lst_N, ↓w_is_lst_B, ↓w_is_lst_I, ↓w_is_lst_S, ↓w_is_lst_T, ↓w_is_lst_F, ↓w_guT, ↓w_guF, ↓w_guS, ↓w_lsF, ↓w_enT, ↓w_enF, ↓w_zpT, ↓w_zpF, ↓w_gadd, ↓w_gsub, ↓w_fs1, ↓w_fs2, ↓w_fs3, ↓w_fs4, ↓w_fs5, ↓w_fs6, ↓w_un2, ↓w_un3, ↓w_un4, ↓w_goN, ↓w_goR, ↓w_goB, ↓w_goC, ↓w_feN, ↓w_feR, ↓w_repr, true_and, and_true, and_self, if_true, if_false, Bool.false_eq_true, Bool.not_true, Bool.not_false, decide_true, decide_false, ↓wp_calK, ↓kw_03, ↓kw_02, ↓kw_01, ↓pick_210, ↓pick_10, ↓pick_01, ↓pick_0, ↓w_sumF, ↓w_sumT, ↓w_srt, ↓w_maxL, ↓w_minL, ↓wp_starM, ↓wp_consM, ↓w_itT, ↓w_itF, ↓wp_rl2M, ↓wp_rl1M, ↓w_rl, ↓wp_dn3I, ↓w_dn3, ↓wp_mulTM, ↓w_mulT, ↓wp_niDM, ↓wp_inDM, ↓wp_zpM, ↓w_zpFF, ↓wp_isBM, ↓wp_nsBM, ↓w_isBB, ↓w_nsBB, ↓wp_catO, ↓w_catF, ↓kw_04, ↓pick_3210]
          with_reducible refine below_wp hd3 (by omega) (by omega) (by omega) fun low o1 hv0 hv1 hd4 => ?_
          simp -failIfUnchanged only [↓wp_retE, ↓wp_bad, ↓wp_bnd, ↓wp_nxt, ↓wp_brk, ↓wp_cnt, ↓wp_rtn, ↓wp_iff, ↓wp_fnM, ↓wp_binM, ↓wp_cmpM, ↓wp_idxM, ↓wp_negM, ↓wp_notM, ↓wp_andM, ↓wp_orM, ↓wp_iteM, ↓wp_chnM, ↓wp_chnS, ↓wp_ls0, ↓wp_ls1, ↓wp_tupM, ↓wp_lstM, ↓wp_lshM, ↓wp_ownM, ↓wp_idxL, ↓wp_slcM, ↓wp_noP, ↓wp_soP, ↓wp_calM, ↓wp_isiM, ↓wp_forM, ↓wp_seqI, ↓wp_rng1, ↓wp_rng2, ↓wp_enum, ↓wp_enum2, ↓enum2_t, ↓enum2_f, ↓wp_zip, ↓rng1_int, ↓rng2_int, ↓wp_lcM, ↓wp_lcO, ↓wp_appO, ↓wp_extO, ↓wp_fldM, ↓wp_fldT, ↓wp_mthM, ↓wp_makM, ↓wp_augF, ↓tpT2, ↓nonS_non, ↓wp_subT, ↓w_add, ↓w_sub, ↓w_mul, ↓w_fdiv, ↓w_mod, ↓w_pow, ↓w_shl, ↓w_addT, ↓w_addL, ↓w_lt, ↓w_le, ↓w_gt, ↓w_ge, ↓w_eqI, ↓w_neI, ↓w_eqS, ↓w_neS, ↓w_isN, ↓w_ntN, ↓w_isI, ↓w_ntI, ↓w_isT, ↓w_ntT, ↓w_isF, ↓w_ntF, ↓w_isR, ↓w_ntR, ↓w_isB, ↓w_ntB, ↓w_isS, ↓w_ntS, ↓w_trB, ↓w_trI, ↓w_trN, ↓w_trT, ↓w_trF, ↓w_ixT0, ↓w_ixT1, ↓w_ixT2, ↓w_ixT3, ↓w_ixF0, ↓w_ixF1, ↓w_ixF2, ↓w_ixF3, ↓w_ixS0, ↓w_ixS1, ↓w_ixS2, ↓w_ixS3, ↓w_idL, ↓w_neg, ↓w_slT, ↓w_slF, ↓w_soP, ↓w_lenT, ↓w_lenF, ↓w_lenS, ↓w_abs, ↓w_min, ↓w_max, ↓w_intI, ↓w_intB, ↓w_tupT, ↓w_tupF, ↓w_lstT, ↓w_lstF, ↓w_sum, ↓w_all, ↓w_any, ↓w_is_int_N, ↓w_is_int_B, ↓w_is_int_I, ↓w_is_int_S, ↓w_is_int_T, ↓w_is_int_F, ↓w_is_bl_N, ↓w_is_bl_B, ↓w_is_bl_I, ↓w_is_bl_S, ↓w_is_bl_T, ↓w_is_bl_F, ↓w_is_tup_N, ↓w_is_tup_B, ↓w_is_tup_I, ↓w_is_tup_S, ↓w_is_tup_T, ↓w_is_tup_F, ↓w_is_str_N, ↓w_is_str_B, ↓w_is_str_I, ↓w_is_str_S, ↓w_is_str_T, ↓w_is_str_F, ↓w_is_lst_N, ↓w_is_lst_B, ↓w_is_lst_I, ↓w_is_lst_S, ↓w_is_lst_T, ↓w_is_lst_F, ↓w_guT, ↓w_guF, ↓w_guS, ↓w_lsF, ↓w_enT, ↓w_enF, ↓w_zpT, ↓w_zpF, ↓w_gadd, ↓w_gsub, ↓w_fs1, ↓w_fs2, ↓w_fs3, ↓w_fs4, ↓w_fs5, ↓w_fs6, ↓w_un2, ↓w_un3, ↓w_un4, ↓w_goN, ↓w_goR, ↓w_goB, ↓w_goC, ↓w_feN, ↓w_feR, ↓w_repr, true_and, and_true, and_self, if_true, if_false, Bool.false_eq_true, Bool.not_true, Bool.not_false, decide_true, decide_false, ↓wp_calK, ↓kw_03, ↓kw_02, ↓kw_01, ↓pick_210, ↓pick_10, ↓pick_01, ↓pick_0, ↓w_sumF, ↓w_sumT, ↓w_srt, ↓w_maxL, ↓w_minL, ↓wp_starM, ↓wp_consM, ↓w_itT, ↓w_itF, ↓wp_rl2M, ↓wp_rl1M, ↓w_rl, ↓wp_dn3I, ↓w_dn3, ↓wp_mulTM, ↓w_mulT, ↓wp_niDM, ↓wp_inDM, ↓wp_zpM, ↓w_zpFF, ↓wp_isBM, ↓wp_nsBM, ↓w_isBB, ↓w_nsBB, ↓wp_catO, ↓w_catF, ↓kw_04, ↓pick_3210]
          with_reducible refine below_wp hd4 (by omega) (by omega) (by omega) fun v1 o2 hu0 hu1 hd5 => ?_
          simp -failIfUnchanged only [↓wp_retE, ↓wp_bad, ↓wp_bnd, ↓wp_nxt, ↓wp_brk, ↓wp_cnt, ↓wp_rtn, ↓wp_iff, ↓wp_fnM, ↓wp_binM, ↓wp_cmpM, ↓wp_idxM, ↓wp_negM, ↓wp_notM, ↓wp_andM, ↓wp_orM, ↓wp_iteM, ↓wp_chnM, ↓wp_chnS, ↓wp_ls0, ↓wp_ls1, ↓wp_tupM, ↓wp_lstM, ↓wp_lshM, ↓wp_ownM, ↓wp_idxL, ↓wp_slcM, ↓wp_noP, ↓wp_soP, ↓wp_calM, ↓wp_isiM, ↓wp_forM, ↓wp_seqI, ↓wp_rng1, ↓wp_rng2, ↓wp_enum, ↓wp_enum2, ↓enum2_t, ↓enum2_f, ↓wp_zip, ↓rng1_int, ↓rng2_int, ↓wp_lcM, ↓wp_lcO, ↓wp_appO, ↓wp_extO, ↓wp_fldM, ↓wp_fldT, ↓wp_mthM, ↓wp_makM, ↓wp_augF, ↓tpT2, ↓nonS_non, ↓wp_subT, ↓w_add, ↓w_sub, ↓w_mul, ↓w_fdiv, ↓w_mod, ↓w_pow, ↓w_shl, ↓w_addT, ↓w_addL, ↓w_lt, ↓w_le, ↓w_gt, ↓w_ge, ↓w_eqI, ↓w_neI, ↓w_eqS, ↓w_neS, ↓w_isN, ↓w_ntN, ↓w_isI, ↓w_ntI, ↓w_isT, ↓w_ntT, ↓w_isF, ↓w_ntF, ↓w_isR, ↓w_ntR, ↓w_isB, ↓w_ntB, ↓w_isS, ↓w_ntS, ↓w_trB, ↓w_trI, ↓w_trN, ↓w_trT, ↓w_trF, ↓w_ixT0, ↓w_ixT1, ↓w_ixT2, ↓w_ixT3, ↓w_ixF0, ↓w_ixF1, ↓w_ixF2, ↓w_ixF3, ↓w_ixS0, ↓w_ixS1, ↓w_ixS2, ↓w_ixS3, ↓w_idL, ↓w_neg, ↓w_slT, ↓w_slF, ↓w_soP, ↓w_lenT, ↓w_lenF, ↓w_lenS, ↓w_abs, ↓w_min, ↓w_max, ↓w_intI, ↓w_intB, ↓w_tupT, ↓w_tupF, ↓w_lstT, ↓w_lstF, ↓w_sum, ↓w_all, ↓w_any, ↓w_is_int_N, ↓w_is_int_B, ↓w_is_int_I, ↓w_is_int_S, ↓w_is_int_T, ↓w_is_int_F, ↓w_is_bl_N, ↓w_is_bl_B, ↓w_is_bl_I, ↓w_is_bl_S, ↓w_is_bl_T, ↓w_is_bl_F, ↓w_is_tup_N, ↓w_is_tup_B, ↓w_is_tup_I, ↓w_is_tup_S, ↓w_is_tup_T, ↓w_is_tup_F, ↓w_is_str_N, ↓w_is_str_B, ↓w_is_str_I, ↓w_is_str_S, ↓w_is_str_T, ↓w_is_str_F, ↓w_is_lst_N, ↓w_is_lst_B, ↓w_is_lst_I, ↓w_is_lst_S, ↓w_is_lst_T, ↓w_is_lst_F, ↓w_guT, ↓w_guF, ↓w_guS, ↓w_lsF, ↓w_enT, ↓w_enF, ↓w_zpT, ↓w_zpF, ↓w_gadd, ↓w_gsub, ↓w_fs1, ↓w_fs2, ↓w_fs3, ↓w_fs4, ↓w_fs5, ↓w_fs6, ↓w_un2, ↓w_un3, ↓w_un4, ↓w_goN, ↓w_goR, ↓w_goB, ↓w_goC, ↓w_feN, ↓w_feR, ↓w_repr, true_and, and_true, and_self, if_true, if_false, Bool.false_eq_true, Bool.not_true, Bool.not_false, decide_true, decide_false, ↓wp_calK, ↓kw_03, ↓kw_02, ↓kw_01, ↓pick_210, ↓pick_10, ↓pick_01, ↓pick_0, ↓w_sumF, ↓w_sumT, ↓w_srt, ↓w_maxL, ↓w_minL, ↓wp_starM, ↓wp_consM, ↓w_itT, ↓w_itF, ↓wp_rl2M, ↓wp_rl1M, ↓w_rl, ↓wp_dn3I, ↓w_dn3, ↓wp_mulTM, ↓w_mulT, ↓wp_niDM, ↓wp_inDM, ↓wp_zpM, ↓w_zpFF, ↓wp_isBM, ↓wp_nsBM, ↓w_isBB, ↓w_nsBB, ↓wp_catO, ↓w_catF, ↓kw_04, ↓pick_3210]
          with_reducible refine cycle_wp p.v hmo hmo1.2 (by omega) (by omega) (by omega) (by omega) (by omega) hX (by omega) (by omega) (by omega) (sv00 p.v) fun x y o hxy hx0 hx1 hy0 hy1 => ?_
          simp -failIfUnchanged only [↓wp_retE, ↓wp_bad, ↓wp_bnd, ↓wp_nxt, ↓wp_brk, ↓wp_cnt, ↓wp_rtn, ↓wp_iff, ↓wp_fnM, ↓wp_binM, ↓wp_cmpM, ↓wp_idxM, ↓wp_negM, ↓wp_notM, ↓wp_andM, ↓wp_orM, ↓wp_iteM, ↓wp_chnM, ↓wp_chnS, ↓wp_ls0, ↓wp_ls1, ↓wp_tupM, ↓wp_lstM, ↓wp_lshM, ↓wp_ownM, ↓wp_idxL, ↓wp_slcM, ↓wp_noP, ↓wp_soP, ↓wp_calM, ↓wp_isiM, ↓wp_forM, ↓wp_seqI, ↓wp_rng1, ↓wp_rng2, ↓wp_enum, ↓wp_enum2, ↓enum2_t, ↓enum2_f, ↓wp_zip, ↓rng1_int, ↓rng2_int, ↓wp_lcM, ↓wp_lcO, ↓wp_appO, ↓wp_extO, ↓wp_fldM, ↓wp_fldT, ↓wp_mthM, ↓wp_makM, ↓wp_augF, ↓tpT2, ↓nonS_non, ↓wp_subT, ↓w_add, ↓w_sub, ↓w_mul, ↓w_fdiv, ↓w_mod, ↓w_pow, ↓w_shl, ↓w_addT, ↓w_addL, ↓w_lt, ↓w_le, ↓w_gt, ↓w_ge, ↓w_eqI, ↓w_neI, ↓w_eqS, ↓w_neS, ↓w_isN, ↓w_ntN, ↓w_isI, ↓w_ntI, ↓w_isT, ↓w_ntT, ↓w_isF, ↓w_ntF, ↓w_isR, ↓w_ntR, ↓w_isB, ↓w_ntB, ↓w_isS, ↓w_ntS, ↓w_trB, ↓w_trI, ↓w_trN, ↓w_trT, ↓w_trF, ↓w_ixT0, ↓w_ixT1, ↓w_ixT2, ↓w_ixT3, ↓w_ixF0, ↓w_ixF1, ↓w_ixF2, ↓w_ixF3, ↓w_ixS0, ↓w_ixS1, ↓w_ixS2, ↓w_ixS3, ↓w_idL, ↓w_neg, ↓w_slT, ↓w_slF, ↓w_soP, ↓w_lenT, ↓w_lenF, ↓w_lenS, ↓w_abs, ↓w_min, ↓w_max, ↓w_intI, ↓w_intB, ↓w_tupT, ↓w_tupF, ↓w_lstT, ↓w_lstF, ↓w_sum, ↓w_all, ↓w_any, ↓w_is_int_N, ↓w_is_int_B, ↓w_is_int_I, ↓w_is_int_S, ↓w_is_int_T, ↓w_is_int_F, ↓w_is_bl_N, ↓w_is_bl_B, ↓w_is_bl_I, ↓w_is_bl_S, ↓w_is_bl_T, ↓w_is_bl_F, ↓w_is_tup_N, ↓w_is_tup_B, ↓w_is_tup_I, ↓w_is_tup_S, ↓w_is_tup_T, ↓w_is_tup_F, ↓w_is_str_N, ↓w_is_str_B, ↓w_is_str_I, ↓w_is_str_S, ↓w_is_str_T, ↓w_is_str_F, ↓w_is_lst_N, ↓w_is_lst_B, ↓w_is_lst_I, ↓w_is_lst_S, ↓w_is_lst_T, ↓w_is_lst_F, ↓w_guT, ↓w_guF, ↓w_guS, ↓w_lsF, ↓w_enT, ↓w_enF, ↓w_zpT, ↓w_zpF, ↓w_gadd, ↓w_gsub, ↓w_fs1, ↓w_fs2, ↓w_fs3, ↓w_fs4, ↓w_fs5, ↓w_fs6, ↓w_un2, ↓w_un3, ↓w_un4, ↓w_goN, ↓w_goR, ↓w_goB, ↓w_goC, ↓w_feN, ↓w_feR, ↓w_repr, true_and, and_true, and_self, if_true, if_false, Bool.false_eq_true, Bool.not_true, Bool.not_false, decide_true, decide_false, ↓wp_calK, ↓kw_03, ↓kw_02, ↓kw_01, ↓pick_210, ↓pick_10, ↓pick_01, ↓pick_0, ↓w_sumF, ↓w_sumT, ↓w_srt, ↓w_maxL, ↓w_minL, ↓wp_starM, ↓wp_consM, ↓w_itT, ↓w_itF, ↓wp_rl2M, ↓wp_rl1M, ↓w_rl, ↓wp_dn3I, ↓w_dn3, ↓wp_mulTM, ↓w_mulT, ↓wp_niDM, ↓wp_inDM, ↓wp_zpM, ↓w_zpFF, ↓wp_isBM, ↓wp_nsBM, ↓w_isBB, ↓w_nsBB, ↓wp_catO, ↓w_catF, ↓kw_04, ↓pick_3210]
          refine ⟨mul_bd (bdN (by omega) (by omega)) bdb (by decide), mul_bd bda (bdN (by omega) (by omega)) (by decide), ?_⟩
          have hgt : ¬ (x * (b : Int) > a * y) := by
            rw [Int.mul_comm x]
            omega
          simp -failIfUnchanged only [hgt, ↓wp_retE, ↓wp_bad, ↓wp_bnd, ↓wp_nxt, ↓wp_brk, ↓wp_cnt, ↓wp_rtn, ↓wp_seq, ↓wp_iff, ↓wp_fnM, ↓wp_binM, ↓wp_cmpM, ↓wp_idxM, ↓wp_negM, ↓wp_notM, ↓wp_andM, ↓wp_orM, ↓wp_iteM, ↓wp_chnM, ↓wp_chnS, ↓wp_ls0, ↓wp_ls1, ↓wp_tupM, ↓wp_lstM, ↓wp_lshM, ↓wp_ownM, ↓wp_idxL, ↓wp_slcM, ↓wp_noP, ↓wp_soP, ↓wp_calM, ↓wp_isiM, ↓wp_forM, ↓wp_seqI, ↓wp_rng1, ↓wp_rng2, ↓wp_enum, ↓wp_enum2, ↓enum2_t, ↓enum2_f, ↓wp_zip, ↓rng1_int, ↓rng2_int, ↓wp_lcM, ↓wp_lcO, ↓wp_appO, ↓wp_extO, ↓wp_fldM, ↓wp_fldT, ↓wp_mthM, ↓wp_makM, ↓wp_augF, ↓tpT2, ↓nonS_non, ↓wp_subT, ↓w_add, ↓w_sub, ↓w_mul, ↓w_fdiv, ↓w_mod, ↓w_pow, ↓w_shl, ↓w_addT, ↓w_addL, ↓w_lt, ↓w_le, ↓w_gt, ↓w_ge, ↓w_eqI, ↓w_neI, ↓w_eqS, ↓w_neS, ↓w_isN, ↓w_ntN, ↓w_isI, ↓w_ntI, ↓w_isT, ↓w_ntT, ↓w_isF, ↓w_ntF, ↓w_isR, ↓w_ntR, ↓w_isB, ↓w_ntB, ↓w_isS, ↓w_ntS, ↓w_trB, ↓w_trI, ↓w_trN, ↓w_trT, ↓w_trF, ↓w_ixT0, ↓w_ixT1, ↓w_ixT2, ↓w_ixT3, ↓w_ixF0, ↓w_ixF1, ↓w_ixF2, ↓w_ixF3, ↓w_ixS0, ↓w_ixS1, ↓w_ixS2, ↓w_ixS3, ↓w_idL, ↓w_neg, ↓w_slT, ↓w_slF, ↓w_soP, ↓w_lenT, ↓w_lenF, ↓w_lenS, ↓w_abs, ↓w_min, ↓w_max, ↓w_intI, ↓w_intB, ↓w_tupT, ↓w_tupF, ↓w_lstT, ↓w_lstF, ↓w_sum, ↓w_all, ↓w_any, ↓w_is_int_N, ↓w_is_int_B, ↓w_is_int_I, ↓w_is_int_S, ↓w_is_int_T, ↓w_is_int_F, ↓w_is_bl_N, ↓w_is_bl_B, ↓w_is_bl_I, ↓w_is_bl_S, ↓w_is_bl_T, ↓w_is_bl_F, ↓w_is_tup_N, ↓w_is_tup_B, ↓w_is_tup_I, ↓w_is_tup_S, ↓w_is_tup_T, ↓w_is_tup_F, ↓w_is_str_N, ↓w_is_str_B, ↓w_is_str_I, ↓w_is_str_S, ↓w_is_str_T, ↓w_is_str_F, ↓w_is_lst_N, ↓w_is_lst_B, ↓w_is_lst_I, ↓w_is_lst_S, ↓w_is_lst_T, ↓w_is_lst_F, ↓w_guT, ↓w_guF, ↓w_guS, ↓w_lsF, ↓w_enT, ↓w_enF, ↓w_zpT, ↓w_zpF, ↓w_gadd, ↓w_gsub, ↓w_fs1, ↓w_fs2, ↓w_fs3, ↓w_fs4, ↓w_fs5, ↓w_fs6, ↓w_un2, ↓w_un3, ↓w_un4, ↓w_goN, ↓w_goR, ↓w_goB, ↓w_goC, ↓w_feN, ↓w_feR, ↓w_repr, true_and, and_true, and_self, if_true, if_false, Bool.false_eq_true, Bool.not_true, Bool.not_false, decide_true, decide_false, ↓wp_calK, ↓kw_03, ↓kw_02, ↓kw_01, ↓pick_210, ↓pick_10, ↓pick_01, ↓pick_0, ↓w_sumF, ↓w_sumT, ↓w_srt, ↓w_maxL, ↓w_minL, ↓wp_starM, ↓wp_consM, ↓w_itT, ↓w_itF, ↓wp_rl2M, ↓wp_rl1M, ↓w_rl, ↓wp_dn3I, ↓w_dn3, ↓wp_mulTM, ↓w_mulT, ↓wp_niDM, ↓wp_inDM, ↓wp_zpM, ↓w_zpFF, ↓wp_isBM, ↓wp_nsBM, ↓w_isBB, ↓w_nsBB, ↓wp_catO, ↓w_catF, ↓kw_04, ↓pick_3210]
          exact ⟨by omega, (hd5.mono (by omega)).app⟩
        · intro s m3 hI
          simp -failIfUnchanged only [↓wp_retE, ↓wp_bad, ↓wp_bnd, ↓wp_nxt, ↓wp_brk, ↓wp_cnt, ↓wp_rtn, ↓wp_seq, ↓wp_iff, ↓wp_fnM, ↓wp_binM, ↓wp_cmpM, ↓wp_idxM, ↓wp_negM, ↓wp_notM, ↓wp_andM, ↓wp_orM, ↓wp_iteM, ↓wp_chnM, ↓wp_chnS, ↓wp_ls0, ↓wp_ls1, ↓wp_tupM, ↓wp_lstM, ↓wp_lshM, ↓wp_ownM, ↓wp_idxL, ↓wp_slcM, ↓wp_noP, ↓wp_soP, ↓wp_calM, ↓wp_isiM, ↓wp_forM, ↓wp_seqI, ↓wp_rng1, ↓wp_rng2, ↓wp_enum, ↓wp_enum2, ↓enum2_t, ↓enum2_f, ↓wp_zip, ↓rng1_int, ↓rng2_int, ↓wp_lcM, ↓wp_lcO, ↓wp_appO, ↓wp_extO, ↓wp_fldM, ↓wp_fldT, ↓wp_mthM, ↓wp_makM, ↓wp_augF, ↓tpT2, ↓nonS_non, ↓wp_subT, ↓w_add, ↓w_sub, ↓w_mul, ↓w_fdiv, ↓w_mod, ↓w_pow, ↓w_shl, ↓w_addT, ↓w_addL, ↓w_lt, ↓w_le, ↓w_gt, ↓w_ge, ↓w_eqI, ↓w_neI, ↓w_eqS, ↓w_neS, ↓w_isN, ↓w_ntN, ↓w_isI, ↓w_ntI, ↓w_isT, ↓w_ntT, ↓w_isF, ↓w_ntF, ↓w_isR, ↓w_ntR, ↓w_isB, ↓w_ntB, ↓w_isS, ↓w_ntS, ↓w_trB, ↓w_trI, ↓w_trN, ↓w_trT, ↓w_trF, ↓w_ixT0, ↓w_ixT1, ↓w_ixT2, ↓w_ixT3, ↓w_ixF0, ↓w_ixF1, ↓w_ixF2, ↓w_ixF3, ↓w_ixS0, ↓w_ixS1, ↓w_ixS2, ↓w_ixS3, ↓w_idL, ↓w_neg, ↓w_slT, ↓w_slF, ↓w_soP, ↓w_lenT, ↓w_lenF, ↓w_lenS, ↓w_abs, ↓w_min, ↓w_max, ↓w_intI, ↓w_intB, ↓w_tupT, ↓w_tupF, ↓w_lstT, ↓w_lstF, ↓w_sum, ↓w_all, ↓w_any, ↓w_is_int_N, ↓w_is_int_B, ↓w_is_int_I, ↓w_is_int_S, ↓w_is_int_T, ↓w_is_int_F, ↓w_is_bl_N, ↓w_is_bl_B, ↓w_is_bl_I, ↓w_is_bl_S, ↓w_is_bl_T, ↓w_is_bl_F, ↓w_is_tup_N, ↓w_is_tup_B, ↓w_is_tup_I, ↓w_is_tup_S, ↓w_is_tup_T, ↓w_is_tup_F, ↓w_is_str_N, ↓w_is_str_B, ↓w_is_str_I, ↓w_is_str_S, ↓w_is_str_T, ↓w_is_str_F, ↓w_is_lst_N, ↓w_is_lst_B, ↓w_is_lst_I, ↓w_is_lst_S, ↓w_is_lst_T, ↓w_is_lst_F, ↓w_guT, ↓w_guF, ↓w_guS, ↓w_lsF, ↓w_enT, ↓w_enF, ↓w_zpT, ↓w_zpF, ↓w_gadd, ↓w_gsub, ↓w_fs1, ↓w_fs2, ↓w_fs3, ↓w_fs4, ↓w_fs5, ↓w_fs6, ↓w_un2, ↓w_un3, ↓w_un4, ↓w_goN, ↓w_goR, ↓w_goB, ↓w_goC, ↓w_feN, ↓w_feR, ↓w_repr, true_and, and_true, and_self, if_true, if_false, Bool.false_eq_true, Bool.not_true, Bool.not_false, decide_true, decide_false, ↓wp_calK, ↓kw_03, ↓kw_02, ↓kw_01, ↓pick_210, ↓pick_10, ↓pick_01, ↓pick_0, ↓w_sumF, ↓w_sumT, ↓w_srt, ↓w_maxL, ↓w_minL, ↓wp_starM, ↓wp_consM, ↓w_itT, ↓w_itF, ↓wp_rl2M, ↓wp_rl1M, ↓w_rl, ↓wp_dn3I, ↓w_dn3, ↓wp_mulTM, ↓w_mulT, ↓wp_niDM, ↓wp_inDM, ↓wp_zpM, ↓w_zpFF, ↓wp_isBM, ↓wp_nsBM, ↓w_isBB, ↓w_nsBB, ↓wp_catO, ↓w_catF, ↓kw_04, ↓pick_3210]
          have hlL : L.length ≤ 12 := by omega
          refine ⟨sz_lt (by simp; omega), L ++ [(pol cs ls fx, a, b)], by simp, by simp; omega, fun e he => ?_, hI.2.mono (by simp; omega)⟩
          rcases List.mem_append.1 he with he | he
          · exact hW e he
          · rw [List.mem_singleton.1 he]
            exact w
      · rintro s m1 ⟨L, rfl, hL, hW, hd1⟩
        obtain ⟨e0, e1, e2, r, rfl⟩ : ∃ e0 e1 e2 r, L = e0 :: e1 :: e2 :: r := by
          match L, hL with
          | e0 :: e1 :: e2 :: r, _ => exact ⟨e0, e1, e2, r, rfl⟩
        have hm3 : ∀ e, e ∈ [e0, e1, e2] → Wp e := fun e he => hW e (by simp at he ⊢; rcases he with h | h | h <;> simp [h])
        obtain ⟨f, hf, hmx⟩ := joint3 (L := [e0, e1, e2]) rfl hm3
        have ja := joint_any (L := [e0, e1, e2]) (a := f.2.1) (b := f.2.2) (by simp) hm3 hmx (.inl ⟨f, hf, rfl⟩) (hm3 f hf).p (hm3 f hf).c
        simp only [List.map_cons, List.map_nil] at ja
        have pr3 : ∀ a, a ∈ e0 :: e1 :: e2 :: r → elM (calM (fs1 t_worst_price) (lsM [ret a.1])) = ret (some (.tup [.int a.2.1, .int a.2.2])) := fun a ha => ret_of fun m Q q => by
          have w1 := (hW a ha).eq
          unfold elM
          simp -failIfUnchanged only [↓w1, ↓wp_retE, ↓wp_bad, ↓wp_bnd, ↓wp_nxt, ↓wp_brk, ↓wp_cnt, ↓wp_rtn, ↓wp_seq, ↓wp_iff, ↓wp_fnM, ↓wp_binM, ↓wp_cmpM, ↓wp_idxM, ↓wp_negM, ↓wp_notM, ↓wp_andM, ↓wp_orM, ↓wp_iteM, ↓wp_chnM, ↓wp_chnS, ↓wp_ls0, ↓wp_ls1, ↓wp_tupM, ↓wp_lstM, ↓wp_lshM, ↓wp_ownM, ↓wp_idxL, ↓wp_slcM, ↓wp_noP, ↓wp_soP, ↓wp_calM, ↓wp_isiM, ↓wp_forM, ↓wp_seqI, ↓wp_rng1, ↓wp_rng2, ↓wp_enum, ↓wp_enum2, ↓enum2_t, ↓enum2_f, ↓wp_zip, ↓rng1_int, ↓rng2_int, ↓wp_lcM, ↓wp_lcO, ↓wp_appO, ↓wp_extO, ↓wp_fldM, ↓wp_fldT, ↓wp_mthM, ↓wp_makM, ↓wp_augF, ↓tpT2, ↓nonS_non, ↓wp_subT, ↓w_add, ↓w_sub, ↓w_mul, ↓w_fdiv, ↓w_mod, ↓w_pow, ↓w_shl, ↓w_addT, ↓w_addL, ↓w_lt, ↓w_le, ↓w_gt, ↓w_ge, ↓w_eqI, ↓w_neI, ↓w_eqS, ↓w_neS, ↓w_isN, ↓w_ntN, ↓w_isI, ↓w_ntI, ↓w_isT, ↓w_ntT, ↓w_isF, ↓w_ntF, ↓w_isR, ↓w_ntR, ↓w_isB, ↓w_ntB, ↓w_isS, ↓w_ntS, ↓w_trB, ↓w_trI, ↓w_trN, ↓w_trT, ↓w_trF, ↓w_ixT0, ↓w_ixT1, ↓w_ixT2, ↓w_ixT3, ↓w_ixF0, ↓w_ixF1, ↓w_ixF2, ↓w_ixF3, ↓w_ixS0, ↓w_ixS1, ↓w_ixS2, ↓w_ixS3, ↓w_idL, ↓w_neg, ↓w_slT, ↓w_slF, ↓w_soP, ↓w_lenT, ↓w_lenF, ↓w_lenS, ↓w_abs, ↓w_min, ↓w_max, ↓w_intI, ↓w_intB, ↓w_tupT, ↓w_tupF, ↓w_lstT, ↓w_lstF, ↓w_sum, ↓w_all, ↓w_any, ↓w_is_int_N, ↓w_is_int_B, ↓w_is_int_I, ↓w_is_int_S, ↓w_is_int_T, ↓w_is_int_F, ↓w_is_bl_N, ↓w_is_bl_B, ↓w_is_bl_I, ↓w_is_bl_S, ↓w_is_bl_T, ↓w_is_bl_F, ↓w_is_tup_N, ↓w_is_tup_B, ↓w_is_tup_I, ↓w_is_tup_S, ↓w_is_tup_T, ↓w_is_tup_F, ↓w_is_str_N, ↓w_is_str_B, ↓w_is_str_I, ↓w_is_str_S, ↓w_is_str_T, ↓w_is_str_F, ↓w_is_lst_N, ↓w_is_lst_B, ↓w_is_lst_I, ↓w_is_lst_S, ↓w_is_lst_T, ↓w_is_lst_F, ↓w_guT, ↓w_guF, ↓w_guS, ↓w_lsF, ↓w_enT, ↓w_enF, ↓w_zpT, ↓w_zpF, ↓w_gadd, ↓w_gsub, ↓w_fs1, ↓w_fs2, ↓w_fs3, ↓w_fs4, ↓w_fs5, ↓w_fs6, ↓w_un2, ↓w_un3, ↓w_un4, ↓w_goN, ↓w_goR, ↓w_goB, ↓w_goC, ↓w_feN, ↓w_feR, ↓w_repr, true_and, and_true, and_self, if_true, if_false, Bool.false_eq_true, Bool.not_true, Bool.not_false, decide_true, decide_false, ↓wp_calK, ↓kw_03, ↓kw_02, ↓kw_01, ↓pick_210, ↓pick_10, ↓pick_01, ↓pick_0, ↓w_sumF, ↓w_sumT, ↓w_srt, ↓w_maxL, ↓w_minL, ↓wp_starM, ↓wp_consM, ↓w_itT, ↓w_itF, ↓wp_rl2M, ↓wp_rl1M, ↓w_rl, ↓wp_dn3I, ↓w_dn3, ↓wp_mulTM, ↓w_mulT, ↓wp_niDM, ↓wp_inDM, ↓wp_zpM, ↓w_zpFF, ↓wp_isBM, ↓wp_nsBM, ↓w_isBB, ↓w_nsBB, ↓wp_catO, ↓w_catF, ↓kw_04, ↓pick_3210]
          exact q
        simp -failIfUnchanged only [↓ja, ↓List.map_cons, ↓wp_retE, ↓wp_bad, ↓wp_bnd, ↓wp_nxt, ↓wp_brk, ↓wp_cnt, ↓wp_rtn, ↓wp_seq, ↓wp_iff, ↓wp_fnM, ↓wp_binM, ↓wp_cmpM, ↓wp_idxM, ↓wp_negM, ↓wp_notM, ↓wp_andM, ↓wp_orM, ↓wp_iteM, ↓wp_chnM, ↓wp_chnS, ↓wp_ls0, ↓wp_ls1, ↓wp_tupM, ↓wp_lstM, ↓wp_lshM, ↓wp_ownM, ↓wp_idxL, ↓wp_slcM, ↓wp_noP, ↓wp_soP, ↓wp_calM, ↓wp_isiM, ↓wp_forM, ↓wp_seqI, ↓wp_rng1, ↓wp_rng2, ↓wp_enum, ↓wp_enum2, ↓enum2_t, ↓enum2_f, ↓wp_zip, ↓rng1_int, ↓rng2_int, ↓wp_lcM, ↓wp_lcO, ↓wp_appO, ↓wp_extO, ↓wp_fldM, ↓wp_fldT, ↓wp_mthM, ↓wp_makM, ↓wp_augF, ↓tpT2, ↓nonS_non, ↓wp_subT, ↓w_add, ↓w_sub, ↓w_mul, ↓w_fdiv, ↓w_mod, ↓w_pow, ↓w_shl, ↓w_addT, ↓w_addL, ↓w_lt, ↓w_le, ↓w_gt, ↓w_ge, ↓w_eqI, ↓w_neI, ↓w_eqS, ↓w_neS, ↓w_isN, ↓w_ntN, ↓w_isI, ↓w_ntI, ↓w_isT, ↓w_ntT, ↓w_isF, ↓w_ntF, ↓w_isR, ↓w_ntR, ↓w_isB, ↓w_ntB, ↓w_isS, ↓w_ntS, ↓w_trB, ↓w_trI, ↓w_trN, ↓w_trT, ↓w_trF, ↓w_ixT0, ↓w_ixT1, ↓w_ixT2, ↓w_ixT3, ↓w_ixF0, ↓w_ixF1, ↓w_ixF2, ↓w_ixF3, ↓w_ixS0, ↓w_ixS1, ↓w_ixS2, ↓w_ixS3, ↓w_idL, ↓w_neg, ↓w_slT, ↓w_slF, ↓w_soP, ↓w_lenT, ↓w_lenF, ↓w_lenS, ↓w_abs, ↓w_min, ↓w_max, ↓w_intI, ↓w_intB, ↓w_tupT, ↓w_tupF, ↓w_lstT, ↓w_lstF, ↓w_sum, ↓w_all, ↓w_any, ↓w_is_int_N, ↓w_is_int_B, ↓w_is_int_I, ↓w_is_int_S, ↓w_is_int_T, ↓w_is_int_F, ↓w_is_bl_N, ↓w_is_bl_B, ↓w_is_bl_I, ↓w_is_bl_S, ↓w_is_bl_T, ↓w_is_bl_F, ↓w_is_tup_N, ↓w_is_tup_B, ↓w_is_tup_I, ↓w_is_tup_S, ↓w_is_tup_T, ↓w_is_tup_F, ↓w_is_str_N, ↓w_is_str_B, ↓w_is_str_I, ↓w_is_str_S, ↓w_is_str_T, ↓w_is_str_F, ↓w_is_lst_N, ↓w_is_lst_B, ↓w_is_lst_I, ↓w_is_lst_S, ↓w_is_lst_T, ↓w_is_lst_F, ↓w_guT, ↓w_guF, ↓w_guS, ↓w_lsF, ↓w_enT, ↓w_enF, ↓w_zpT, ↓w_zpF, ↓w_gadd, ↓w_gsub, ↓w_fs1, ↓w_fs2, ↓w_fs3, ↓w_fs4, ↓w_fs5, ↓w_fs6, ↓w_un2, ↓w_un3, ↓w_un4, ↓w_goN, ↓w_goR, ↓w_goB, ↓w_goC, ↓w_feN, ↓w_feR, ↓w_repr, true_and, and_true, and_self, if_true, if_false, Bool.false_eq_true, Bool.not_true, Bool.not_false, decide_true, decide_false, ↓wp_calK, ↓kw_03, ↓kw_02, ↓kw_01, ↓pick_210, ↓pick_10, ↓pick_01, ↓pick_0, ↓w_sumF, ↓w_sumT, ↓w_srt, ↓w_maxL, ↓w_minL, ↓wp_starM, ↓wp_consM, ↓w_itT, ↓w_itF, ↓wp_rl2M, ↓wp_rl1M, ↓w_rl, ↓wp_dn3I, ↓w_dn3, ↓wp_mulTM, ↓w_mulT, ↓wp_niDM, ↓wp_inDM, ↓wp_zpM, ↓w_zpFF, ↓wp_isBM, ↓wp_nsBM, ↓w_isBB, ↓w_nsBB, ↓wp_catO, ↓w_catF, ↓kw_04, ↓pick_3210]
        refine lc_mm (g := fun e : D × Nat × Nat => e.1) (l := e0 :: e1 :: e2 :: r) (fun e => .tup [.int e.2.1, .int e.2.2]) pr3 (by simp at hL ⊢; omega) ?_
        have cut3 : ∀ (a b c : D) (r : List D), cutD (a :: b :: c :: r) none (some 3) = [a, b, c] := fun a b c r => by
          unfold cutD sIxD
          simp
        rw [List.map_cons, List.map_cons, List.map_cons, cut3]
        refine niD_in (g := fun e : D × Nat × Nat => .tup [.int e.2.1, .int e.2.2]) (h := fun e => .tuple [.int e.2.1, .int e.2.2]) (l := [e0, e1, e2]) (fun m k b => by simp [pyD, mapO]) hf ?_
        simp -failIfUnchanged only [↓wp_retE, ↓wp_bad, ↓wp_bnd, ↓wp_nxt, ↓wp_brk, ↓wp_cnt, ↓wp_rtn, ↓wp_seq, ↓wp_iff, ↓wp_fnM, ↓wp_binM, ↓wp_cmpM, ↓wp_idxM, ↓wp_negM, ↓wp_notM, ↓wp_andM, ↓wp_orM, ↓wp_iteM, ↓wp_chnM, ↓wp_chnS, ↓wp_ls0, ↓wp_ls1, ↓wp_tupM, ↓wp_lstM, ↓wp_lshM, ↓wp_ownM, ↓wp_idxL, ↓wp_slcM, ↓wp_noP, ↓wp_soP, ↓wp_calM, ↓wp_isiM, ↓wp_forM, ↓wp_seqI, ↓wp_rng1, ↓wp_rng2, ↓wp_enum, ↓wp_enum2, ↓enum2_t, ↓enum2_f, ↓wp_zip, ↓rng1_int, ↓rng2_int, ↓wp_lcM, ↓wp_lcO, ↓wp_appO, ↓wp_extO, ↓wp_fldM, ↓wp_fldT, ↓wp_mthM, ↓wp_makM, ↓wp_augF, ↓tpT2, ↓nonS_non, ↓wp_subT, ↓w_add, ↓w_sub, ↓w_mul, ↓w_fdiv, ↓w_mod, ↓w_pow, ↓w_shl, ↓w_addT, ↓w_addL, ↓w_lt, ↓w_le, ↓w_gt, ↓w_ge, ↓w_eqI, ↓w_neI, ↓w_eqS, ↓w_neS, ↓w_isN, ↓w_ntN, ↓w_isI, ↓w_ntI, ↓w_isT, ↓w_ntT, ↓w_isF, ↓w_ntF, ↓w_isR, ↓w_ntR, ↓w_isB, ↓w_ntB, ↓w_isS, ↓w_ntS, ↓w_trB, ↓w_trI, ↓w_trN, ↓w_trT, ↓w_trF, ↓w_ixT0, ↓w_ixT1, ↓w_ixT2, ↓w_ixT3, ↓w_ixF0, ↓w_ixF1, ↓w_ixF2, ↓w_ixF3, ↓w_ixS0, ↓w_ixS1, ↓w_ixS2, ↓w_ixS3, ↓w_idL, ↓w_neg, ↓w_slT, ↓w_slF, ↓w_soP, ↓w_lenT, ↓w_lenF, ↓w_lenS, ↓w_abs, ↓w_min, ↓w_max, ↓w_intI, ↓w_intB, ↓w_tupT, ↓w_tupF, ↓w_lstT, ↓w_lstF, ↓w_sum, ↓w_all, ↓w_any, ↓w_is_int_N, ↓w_is_int_B, ↓w_is_int_I, ↓w_is_int_S, ↓w_is_int_T, ↓w_is_int_F, ↓w_is_bl_N, ↓w_is_bl_B, ↓w_is_bl_I, ↓w_is_bl_S, ↓w_is_bl_T, ↓w_is_bl_F, ↓w_is_tup_N, ↓w_is_tup_B, ↓w_is_tup_I, ↓w_is_tup_S, ↓w_is_tup_T, ↓w_is_tup_F, ↓w_is_str_N, ↓w_is_str_B, ↓w_is_str_I, ↓w_is_str_S, ↓w_is_str_T, ↓w_is_str_F, ↓w_is_lst_N, ↓w_is_lst_B, ↓w_is_lst_I, ↓w_is_lst_S, ↓w_is_lst_T, ↓w_is_lst_F, ↓w_guT, ↓w_guF, ↓w_guS, ↓w_lsF, ↓w_enT, ↓w_enF, ↓w_zpT, ↓w_zpF, ↓w_gadd, ↓w_gsub, ↓w_fs1, ↓w_fs2, ↓w_fs3, ↓w_fs4, ↓w_fs5, ↓w_fs6, ↓w_un2, ↓w_un3, ↓w_un4, ↓w_goN, ↓w_goR, ↓w_goB, ↓w_goC, ↓w_feN, ↓w_feR, ↓w_repr, true_and, and_true, and_self, if_true, if_false, Bool.false_eq_true, Bool.not_true, Bool.not_false, decide_true, decide_false, ↓wp_calK, ↓kw_03, ↓kw_02, ↓kw_01, ↓pick_210, ↓pick_10, ↓pick_01, ↓pick_0, ↓w_sumF, ↓w_sumT, ↓w_srt, ↓w_maxL, ↓w_minL, ↓wp_starM, ↓wp_consM, ↓w_itT, ↓w_itF, ↓wp_rl2M, ↓wp_rl1M, ↓w_rl, ↓wp_dn3I, ↓w_dn3, ↓wp_mulTM, ↓w_mulT, ↓wp_niDM, ↓wp_inDM, ↓wp_zpM, ↓w_zpFF, ↓wp_isBM, ↓wp_nsBM, ↓w_isBB, ↓w_nsBB, ↓wp_catO, ↓w_catF, ↓kw_04, ↓pick_3210]
        refine lc_any (fun _ => false) (fun x hx => ?_) (by simp) ?_
        · obtain ⟨e, he, rfl⟩ : ∃ e, e ∈ [e0, e1, e2] ∧ x = .tup [.int e.2.1, .int e.2.2] := by
            simp at hx
            rcases hx with h | h | h
            · exact ⟨e0, by simp, h⟩
            · exact ⟨e1, by simp, h⟩
            · exact ⟨e2, by simp, h⟩
          have h1 := hmx e he
          have wf := hm3 f hf
          have we := hm3 e he
          have bd : ∀ {x : Nat}, x < 2 ^ 100 → Bd 1000 (x : Int) := fun {x} hx => bdN (by omega) (by omega)
          have hgt : ¬ ((e.2.1 : Int) * (f.2.2 : Int) > f.2.1 * e.2.2) := by
            have : ((e.2.1 * f.2.2 : Nat) : Int) ≤ ((f.2.1 * e.2.2 : Nat) : Int) := by exact_mod_cast h1
            push_cast at this
            omega
          refine ret_of fun m Q q => ?_
          unfold elM
          simp -failIfUnchanged only [hgt, ↓wp_retE, ↓wp_bad, ↓wp_bnd, ↓wp_nxt, ↓wp_brk, ↓wp_cnt, ↓wp_rtn, ↓wp_seq, ↓wp_iff, ↓wp_fnM, ↓wp_binM, ↓wp_cmpM, ↓wp_idxM, ↓wp_negM, ↓wp_notM, ↓wp_andM, ↓wp_orM, ↓wp_iteM, ↓wp_chnM, ↓wp_chnS, ↓wp_ls0, ↓wp_ls1, ↓wp_tupM, ↓wp_lstM, ↓wp_lshM, ↓wp_ownM, ↓wp_idxL, ↓wp_slcM, ↓wp_noP, ↓wp_soP, ↓wp_calM, ↓wp_isiM, ↓wp_forM, ↓wp_seqI, ↓wp_rng1, ↓wp_rng2, ↓wp_enum, ↓wp_enum2, ↓enum2_t, ↓enum2_f, ↓wp_zip, ↓rng1_int, ↓rng2_int, ↓wp_lcM, ↓wp_lcO, ↓wp_appO, ↓wp_extO, ↓wp_fldM, ↓wp_fldT, ↓wp_mthM, ↓wp_makM, ↓wp_augF, ↓tpT2, ↓nonS_non, ↓wp_subT, ↓w_add, ↓w_sub, ↓w_mul, ↓w_fdiv, ↓w_mod, ↓w_pow, ↓w_shl, ↓w_addT, ↓w_addL, ↓w_lt, ↓w_le, ↓w_gt, ↓w_ge, ↓w_eqI, ↓w_neI, ↓w_eqS, ↓w_neS, ↓w_isN, ↓w_ntN, ↓w_isI, ↓w_ntI, ↓w_isT, ↓w_ntT, ↓w_isF, ↓w_ntF, ↓w_isR, ↓w_ntR, ↓w_isB, ↓w_ntB, ↓w_isS, ↓w_ntS, ↓w_trB, ↓w_trI, ↓w_trN, ↓w_trT, ↓w_trF, ↓w_ixT0, ↓w_ixT1, ↓w_ixT2, ↓w_ixT3, ↓w_ixF0, ↓w_ixF1, ↓w_ixF2, ↓w_ixF3, ↓w_ixS0, ↓w_ixS1, ↓w_ixS2, ↓w_ixS3, ↓w_idL, ↓w_neg, ↓w_slT, ↓w_slF, ↓w_soP, ↓w_lenT, ↓w_lenF, ↓w_lenS, ↓w_abs, ↓w_min, ↓w_max, ↓w_intI, ↓w_intB, ↓w_tupT, ↓w_tupF, ↓w_lstT, ↓w_lstF, ↓w_sum, ↓w_all, ↓w_any, ↓w_is_int_N, ↓w_is_int_B, ↓w_is_int_I, ↓w_is_int_S, ↓w_is_int_T, ↓w_is_int_F, ↓w_is_bl_N, ↓w_is_bl_B, ↓w_is_bl_I, ↓w_is_bl_S, ↓w_is_bl_T, ↓w_is_bl_F, ↓w_is_tup_N, ↓w_is_tup_B, ↓w_is_tup_I, ↓w_is_tup_S, ↓w_is_tup_T, ↓w_is_tup_F, ↓w_is_str_N, ↓w_is_str_B, ↓w_is_str_I, ↓w_is_str_S, ↓w_is_str_T, ↓w_is_str_F, ↓w_is_lst_N, ↓w_is_lst_B, ↓w_is_lst_I, ↓w_is_lst_S, ↓w_is_lst_T, ↓w_is_lst_F, ↓w_guT, ↓w_guF, ↓w_guS, ↓w_lsF, ↓w_enT, ↓w_enF, ↓w_zpT, ↓w_zpF, ↓w_gadd, ↓w_gsub, ↓w_fs1, ↓w_fs2, ↓w_fs3, ↓w_fs4, ↓w_fs5, ↓w_fs6, ↓w_un2, ↓w_un3, ↓w_un4, ↓w_goN, ↓w_goR, ↓w_goB, ↓w_goC, ↓w_feN, ↓w_feR, ↓w_repr, true_and, and_true, and_self, if_true, if_false, Bool.false_eq_true, Bool.not_true, Bool.not_false, decide_true, decide_false, ↓wp_calK, ↓kw_03, ↓kw_02, ↓kw_01, ↓pick_210, ↓pick_10, ↓pick_01, ↓pick_0, ↓w_sumF, ↓w_sumT, ↓w_srt, ↓w_maxL, ↓w_minL, ↓wp_starM, ↓wp_consM, ↓w_itT, ↓w_itF, ↓wp_rl2M, ↓wp_rl1M, ↓w_rl, ↓wp_dn3I, ↓w_dn3, ↓wp_mulTM, ↓w_mulT, ↓wp_niDM, ↓wp_inDM, ↓wp_zpM, ↓w_zpFF, ↓wp_isBM, ↓wp_nsBM, ↓w_isBB, ↓w_nsBB, ↓wp_catO, ↓w_catF, ↓kw_04, ↓pick_3210]
          exact ⟨mul_bd (bd we.n) (bd wf.d) (by decide), mul_bd (bd wf.n) (bd we.d) (by decide), q⟩
        · simp -failIfUnchanged only [List.any_cons, List.any_nil, Bool.or_false, ↓wp_retE, ↓wp_bad, ↓wp_bnd, ↓wp_nxt, ↓wp_brk, ↓wp_cnt, ↓wp_rtn, ↓wp_seq, ↓wp_iff, ↓wp_fnM, ↓wp_binM, ↓wp_cmpM, ↓wp_idxM, ↓wp_negM, ↓wp_notM, ↓wp_andM, ↓wp_orM, ↓wp_iteM, ↓wp_chnM, ↓wp_chnS, ↓wp_ls0, ↓wp_ls1, ↓wp_tupM, ↓wp_lstM, ↓wp_lshM, ↓wp_ownM, ↓wp_idxL, ↓wp_slcM, ↓wp_noP, ↓wp_soP, ↓wp_calM, ↓wp_isiM, ↓wp_forM, ↓wp_seqI, ↓wp_rng1, ↓wp_rng2, ↓wp_enum, ↓wp_enum2, ↓enum2_t, ↓enum2_f, ↓wp_zip, ↓rng1_int, ↓rng2_int, ↓wp_lcM, ↓wp_lcO, ↓wp_appO, ↓wp_extO, ↓wp_fldM, ↓wp_fldT, ↓wp_mthM, ↓wp_makM, ↓wp_augF, ↓tpT2, ↓nonS_non, ↓wp_subT, ↓w_add, ↓w_sub, ↓w_mul, ↓w_fdiv, ↓w_mod, ↓w_pow, ↓w_shl, ↓w_addT, ↓w_addL, ↓w_lt, ↓w_le, ↓w_gt, ↓w_ge, ↓w_eqI, ↓w_neI, ↓w_eqS, ↓w_neS, ↓w_isN, ↓w_ntN, ↓w_isI, ↓w_ntI, ↓w_isT, ↓w_ntT, ↓w_isF, ↓w_ntF, ↓w_isR, ↓w_ntR, ↓w_isB, ↓w_ntB, ↓w_isS, ↓w_ntS, ↓w_trB, ↓w_trI, ↓w_trN, ↓w_trT, ↓w_trF, ↓w_ixT0, ↓w_ixT1, ↓w_ixT2, ↓w_ixT3, ↓w_ixF0, ↓w_ixF1, ↓w_ixF2, ↓w_ixF3, ↓w_ixS0, ↓w_ixS1, ↓w_ixS2, ↓w_ixS3, ↓w_idL, ↓w_neg, ↓w_slT, ↓w_slF, ↓w_soP, ↓w_lenT, ↓w_lenF, ↓w_lenS, ↓w_abs, ↓w_min, ↓w_max, ↓w_intI, ↓w_intB, ↓w_tupT, ↓w_tupF, ↓w_lstT, ↓w_lstF, ↓w_sum, ↓w_all, ↓w_any, ↓w_is_int_N, ↓w_is_int_B, ↓w_is_int_I, ↓w_is_int_S, ↓w_is_int_T, ↓w_is_int_F, ↓w_is_bl_N, ↓w_is_bl_B, ↓w_is_bl_I, ↓w_is_bl_S, ↓w_is_bl_T, ↓w_is_bl_F, ↓w_is_tup_N, ↓w_is_tup_B, ↓w_is_tup_I, ↓w_is_tup_S, ↓w_is_tup_T, ↓w_is_tup_F, ↓w_is_str_N, ↓w_is_str_B, ↓w_is_str_I, ↓w_is_str_S, ↓w_is_str_T, ↓w_is_str_F, ↓w_is_lst_N, ↓w_is_lst_B, ↓w_is_lst_I, ↓w_is_lst_S, ↓w_is_lst_T, ↓w_is_lst_F, ↓w_guT, ↓w_guF, ↓w_guS, ↓w_lsF, ↓w_enT, ↓w_enF, ↓w_zpT, ↓w_zpF, ↓w_gadd, ↓w_gsub, ↓w_fs1, ↓w_fs2, ↓w_fs3, ↓w_fs4, ↓w_fs5, ↓w_fs6, ↓w_un2, ↓w_un3, ↓w_un4, ↓w_goN, ↓w_goR, ↓w_goB, ↓w_goC, ↓w_feN, ↓w_feR, ↓w_repr, true_and, and_true, and_self, if_true, if_false, Bool.false_eq_true, Bool.not_true, Bool.not_false, decide_true, decide_false, ↓wp_calK, ↓kw_03, ↓kw_02, ↓kw_01, ↓pick_210, ↓pick_10, ↓pick_01, ↓pick_0, ↓w_sumF, ↓w_sumT, ↓w_srt, ↓w_maxL, ↓w_minL, ↓wp_starM, ↓wp_consM, ↓w_itT, ↓w_itF, ↓wp_rl2M, ↓wp_rl1M, ↓w_rl, ↓wp_dn3I, ↓w_dn3, ↓wp_mulTM, ↓w_mulT, ↓wp_niDM, ↓wp_inDM, ↓wp_zpM, ↓w_zpFF, ↓wp_isBM, ↓wp_nsBM, ↓w_isBB, ↓w_nsBB, ↓wp_catO, ↓w_catF, ↓kw_04, ↓pick_3210]
          exact ⟨k + 1, by omega, by omega⟩
    · rintro i s m _
      simp -failIfUnchanged only [↓wp_retE, ↓wp_bad, ↓wp_bnd, ↓wp_nxt, ↓wp_brk, ↓wp_cnt, ↓wp_rtn, ↓wp_seq, ↓wp_iff, ↓wp_fnM, ↓wp_binM, ↓wp_cmpM, ↓wp_idxM, ↓wp_negM, ↓wp_notM, ↓wp_andM, ↓wp_orM, ↓wp_iteM, ↓wp_chnM, ↓wp_chnS, ↓wp_ls0, ↓wp_ls1, ↓wp_tupM, ↓wp_lstM, ↓wp_lshM, ↓wp_ownM, ↓wp_idxL, ↓wp_slcM, ↓wp_noP, ↓wp_soP, ↓wp_calM, ↓wp_isiM, ↓wp_forM, ↓wp_seqI, ↓wp_rng1, ↓wp_rng2, ↓wp_enum, ↓wp_enum2, ↓enum2_t, ↓enum2_f, ↓wp_zip, ↓rng1_int, ↓rng2_int, ↓wp_lcM, ↓wp_lcO, ↓wp_appO, ↓wp_extO, ↓wp_fldM, ↓wp_fldT, ↓wp_mthM, ↓wp_makM, ↓wp_augF, ↓tpT2, ↓nonS_non, ↓wp_subT, ↓w_add, ↓w_sub, ↓w_mul, ↓w_fdiv, ↓w_mod, ↓w_pow, ↓w_shl, ↓w_addT, ↓w_addL, ↓w_lt, ↓w_le, ↓w_gt, ↓w_ge, ↓w_eqI, ↓w_neI, ↓w_eqS, ↓w_neS, ↓w_isN, ↓w_ntN, ↓w_isI, ↓w_ntI, ↓w_isT, ↓w_ntT, ↓w_isF, ↓w_ntF, ↓w_isR, ↓w_ntR, ↓w_isB, ↓w_ntB, ↓w_isS, ↓w_ntS, ↓w_trB, ↓w_trI, ↓w_trN, ↓w_trT, ↓w_trF, ↓w_ixT0, ↓w_ixT1, ↓w_ixT2, ↓w_ixT3, ↓w_ixF0, ↓w_ixF1, ↓w_ixF2, ↓w_ixF3, ↓w_ixS0, ↓w_ixS1, ↓w_ixS2, ↓w_ixS3, ↓w_idL, ↓w_neg, ↓w_slT, ↓w_slF, ↓w_soP, ↓w_lenT, ↓w_lenF, ↓w_lenS, ↓w_abs, ↓w_min, ↓w_max, ↓w_intI, ↓w_intB, ↓w_tupT, ↓w_tupF, ↓w_lstT, ↓w_lstF, ↓w_sum, ↓w_all, ↓w_any, ↓w_is_int_N, ↓w_is_int_B, ↓w_is_int_I, ↓w_is_int_S, ↓w_is_int_T, ↓w_is_int_F, ↓w_is_bl_N, ↓w_is_bl_B, ↓w_is_bl_I, ↓w_is_bl_S, ↓w_is_bl_T, ↓w_is_bl_F, ↓w_is_tup_N, ↓w_is_tup_B, ↓w_is_tup_I, ↓w_is_tup_S, ↓w_is_tup_T, ↓w_is_tup_F, ↓w_is_str_N, ↓w_is_str_B, ↓w_is_str_I, ↓w_is_str_S, ↓w_is_str_T, ↓w_is_str_F, ↓w_is_lst_N, ↓w_is_lst_B, ↓w_is_lst_I, ↓w_is_lst_S, ↓w_is_lst_T, ↓w_is_lst_F, ↓w_guT, ↓w_guF, ↓w_guS, ↓w_lsF, ↓w_enT, ↓w_enF, ↓w_zpT, ↓w_zpF, ↓w_gadd, ↓w_gsub, ↓w_fs1, ↓w_fs2, ↓w_fs3, ↓w_fs4, ↓w_fs5, ↓w_fs6, ↓w_un2, ↓w_un3, ↓w_un4, ↓w_goN, ↓w_goR, ↓w_goB, ↓w_goC, ↓w_feN, ↓w_feR, ↓w_repr, true_and, and_true, and_self, if_true, if_false, Bool.false_eq_true, Bool.not_true, Bool.not_false, decide_true, decide_false, ↓wp_calK, ↓kw_03, ↓kw_02, ↓kw_01, ↓pick_210, ↓pick_10, ↓pick_01, ↓pick_0, ↓w_sumF, ↓w_sumT, ↓w_srt, ↓w_maxL, ↓w_minL, ↓wp_starM, ↓wp_consM, ↓w_itT, ↓w_itF, ↓wp_rl2M, ↓wp_rl1M, ↓w_rl, ↓wp_dn3I, ↓w_dn3, ↓wp_mulTM, ↓w_mulT, ↓wp_niDM, ↓wp_inDM, ↓wp_zpM, ↓w_zpFF, ↓wp_isBM, ↓wp_nsBM, ↓w_isBB, ↓w_nsBB, ↓wp_catO, ↓w_catF, ↓kw_04, ↓pick_3210]
  obtain ⟨d, m, e, rfl⟩ := wp_iff_ok.1 key
  exact ⟨m, e⟩

end G.K75

set_option Elab.async false
set_option linter.all false
set_option maxRecDepth 100000
set_option maxHeartbeats 4000000
namespace G.K75
open PySem L2 PySem.Spec PyProof.Rows G
theorem walk {l : PySem.W.OpenLaw} {q : Program} {loose : List Str} {XP : (Str → Option Value) → Heap → Prop} {YP : World → Heap → Prop} {d : DefRec} {K : Params → PySem.W.Frag} (hn : l.most = some 63) (hdf : d.params.defaults = [])
    (hY : ∀ (w : World) (h : Heap), YP w h → (K w.params).In h)
    (F : ∀ (w : World) (mg : Str → Option Value) (fa : Addr) (h : Heap), (K w.params).In h → h.Ns mainGlobals mg → mg d.name = some (.ref fa) →
      ∃ (fd : FuncData) (z : Ad), (clsA z).T = [] ∧ (∀ (s : Shared) (u : Value), BindsTo s fd ⟨[u], []⟩ [("_law_script", u)]) ∧ ∀ base : Heap, (K w.params).In base → base.Ns mainGlobals mg → FnG true l.prog w (K w.params) mg base (L2.CX l.prog w) 7 fa fd ["_law_script"] (spM ⟨K w.params, clsA z⟩ (fs1 t_law))) :
    PySem.W.WalkO q loose XP YP l.row.toRowW d [] (fun f vs => PySem.call f vs) :=
  walkG (n := 63) (k := 7) (x := "_law_script") (CX := fun w => L2.CX l.prog w) (sp := fun w => fun vs H Q E => ∀ z : Ad, (clsA z).T = [] → spM ⟨K w.params, clsA z⟩ (fs1 t_law) vs H Q E) hn (by decide) hdf ⟨rfl, by decide, by decide⟩ hY
    (fun w mg fa h a b c => by
      obtain ⟨fd, z, hz, hb, hF⟩ := F w mg fa h a b c
      exact ⟨fd, hb, fun base h1 h2 => (hF base h1 h2).imp fun vs H Q E q => q z hz⟩)
    (fun w H a ns hl hO hS z hz => law_sp (only3 hO) (fun t ht => by rw [hz] at ht; cases ht) hS (law_true ns hl)) fun w H s e s' h => by
      obtain ⟨_, _, _, _, _, _, _, _, _, _, _, _, q⟩ := h
      exact q
end G.K75

open PySem PySem.W PyProof.Rows in
set_option maxRecDepth 100000 in
set_option maxHeartbeats 0 in
theorem PySem.Challenge.cw_growshrink_k75_whole_several_boundaries_holds : PySem.Challenge.rw_growshrink_k75_whole_several_boundaries.Holds := by
  w_on; o_law; k_head; (case hw => w_witness2)
  k_fill
  refine G.K75.walk (l := PySem.Challenge.rw_growshrink_k75_whole_several_boundaries) rfl rfl (fun w h Y => PySem.W.kIn_of Y) ?F
  case F =>
    intro w mg fa h KX G0 hmg
    refine' G.K75.all_mk KX G0 hmg ?a_common_divisor ?l_common_divisor ?c_common_divisor ?k_common_divisor ?a_fraction ?l_fraction ?c_fraction ?k_fraction ?a_is_less ?l_is_less ?c_is_less ?k_is_less ?a_boundaries ?l_boundaries ?c_boundaries ?k_boundaries ?a_swings_of ?l_swings_of ?c_swings_of ?k_swings_of ?a_dearest_swing ?l_dearest_swing ?c_dearest_swing ?k_dearest_swing ?a_worst_price ?l_worst_price ?c_worst_price ?k_worst_price ?a_worst_swing ?l_worst_swing ?c_worst_swing ?k_worst_swing ?a_joint_price ?l_joint_price ?c_joint_price ?k_joint_price ?a_law_draws ?l_law_draws ?c_law_draws ?k_law_draws ?a_law_below ?l_law_below ?c_law_below ?k_law_below ?a_law_pick ?l_law_pick ?c_law_pick ?k_law_pick ?a_law_policy ?l_law_policy ?c_law_policy ?k_law_policy ?a_law_pushed ?l_law_pushed ?c_law_pushed ?k_law_pushed ?a_law_popped ?l_law_popped ?c_law_popped ?k_law_popped ?a_law_own ?l_law_own ?c_law_own ?k_law_own ?a_law_cycle ?l_law_cycle ?c_law_cycle ?k_law_cycle ?a_law ?l_law ?c_law ?k_law ?z_abs ?z_any ?z_enumerate ?z_int ?z_len ?z_max ?z_min ?z_range ?z_repr ?z_tuple ?z_zip ?q_NO_PRICE ?w_NO_PRICE
    (case a_common_divisor => k_is)
    (case l_common_divisor => k_is)
    (case c_common_divisor => k_is)
    (case k_common_divisor => k_is)
    (case a_fraction => k_is)
    (case l_fraction => k_is)
    (case c_fraction => k_is)
    (case k_fraction => k_is)
    (case a_is_less => k_is)
    (case l_is_less => k_is)
    (case c_is_less => k_is)
    (case k_is_less => k_is)
    (case a_boundaries => k_is)
    (case l_boundaries => k_is)
    (case c_boundaries => k_is)
    (case k_boundaries => k_is)
    (case a_swings_of => k_is)
    (case l_swings_of => k_is)
    (case c_swings_of => k_is)
    (case k_swings_of => k_is)
    (case a_dearest_swing => k_is)
    (case l_dearest_swing => k_is)
    (case c_dearest_swing => k_is)
    (case k_dearest_swing => k_is)
    (case a_worst_price => k_is)
    (case l_worst_price => k_is)
    (case c_worst_price => k_is)
    (case k_worst_price => k_is)
    (case a_worst_swing => k_is)
    (case l_worst_swing => k_is)
    (case c_worst_swing => k_is)
    (case k_worst_swing => k_is)
    (case a_joint_price => k_is)
    (case l_joint_price => k_is)
    (case c_joint_price => k_is)
    (case k_joint_price => k_is)
    (case a_law_draws => k_is)
    (case l_law_draws => k_is)
    (case c_law_draws => k_is)
    (case k_law_draws => k_is)
    (case a_law_below => k_is)
    (case l_law_below => k_is)
    (case c_law_below => k_is)
    (case k_law_below => k_is)
    (case a_law_pick => k_is)
    (case l_law_pick => k_is)
    (case c_law_pick => k_is)
    (case k_law_pick => k_is)
    (case a_law_policy => k_is)
    (case l_law_policy => k_is)
    (case c_law_policy => k_is)
    (case k_law_policy => k_is)
    (case a_law_pushed => k_is)
    (case l_law_pushed => k_is)
    (case c_law_pushed => k_is)
    (case k_law_pushed => k_is)
    (case a_law_popped => k_is)
    (case l_law_popped => k_is)
    (case c_law_popped => k_is)
    (case k_law_popped => k_is)
    (case a_law_own => k_is)
    (case l_law_own => k_is)
    (case c_law_own => k_is)
    (case k_law_own => k_is)
    (case a_law_cycle => k_is)
    (case l_law_cycle => k_is)
    (case c_law_cycle => k_is)
    (case k_law_cycle => k_is)
    (case a_law => k_is)
    (case l_law => k_is)
    (case c_law => k_is)
    (case k_law => k_is)
    (case z_abs => k_is)
    (case z_any => k_is)
    (case z_enumerate => k_is)
    (case z_int => k_is)
    (case z_len => k_is)
    (case z_max => k_is)
    (case z_min => k_is)
    (case z_range => k_is)
    (case z_repr => k_is)
    (case z_tuple => k_is)
    (case z_zip => k_is)
    (case q_NO_PRICE => k_is)
    (case w_NO_PRICE => k_is)

