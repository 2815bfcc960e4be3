import PyProof.Rows.All
import Wide.All
import OpenK.AllK
import Wide.FinOn
import HandS.ForMost
import HandS.ForExc
import HandS.Wide
import HandS.IsInst
import HandS.Flow
import HandS.Zip
import HandS.TupAny
import HandS.Conv
import HandS.CallSlots
import HandS.Style
import KE.GoesEnum
import PySem.Challenge.RW_growshrink_k13_tables_that_double
set_option Elab.async false
set_option linter.all false
namespace G
open PySem

/-! ### values, objects, results -/
inductive D where
  | non | bl (b : Bool) | int (i : Int) | str (s : Str) | tup (xs : List D) | fl (xs : List D) | ref (n : Nat)
inductive O where
  | lst (xs : List D) | ins (c : Nat) (fs : List (Str × D))
abbrev Hs := List O
abbrev Rho := List (Option D)
inductive Rs (α : Type) where
  | ok (a : α) (m : Hs) | ex (c : Nat) (fs : List (Str × D)) (m : Hs) | bad
def Rs.bind {α β : Type} (r : Rs α) (f : α → Hs → Rs β) : Rs β := match r with
  | .ok a m => f a m
  | .ex c fs m => .ex c fs m
  | .bad => .bad
theorem bind_ok {α β : Type} {a : α} {m : Hs} {f : α → Hs → Rs β} : (Rs.ok a m).bind f = f a m := rfl
theorem bind_ex {α β : Type} {c : Nat} {fs : List (Str × D)} {m : Hs} {f : α → Hs → Rs β} : (Rs.ex c fs m).bind f = .ex c fs m := rfl
theorem bind_bad {α β : Type} {f : α → Hs → Rs β} : (Rs.bad : Rs α).bind f = .bad := rfl

mutual
def beqD : D → D → Bool
  | .non, .non => true
  | .bl a, .bl b => a == b
  | .int a, .int b => a == b
  | .str a, .str b => decide (a = b)
  | .tup a, .tup b => beqL a b
  | .fl a, .fl b => beqL a b
  | .ref a, .ref b => a == b
  | _, _ => false
def beqL : List D → List D → Bool
  | [], [] => true
  | a :: as, b :: bs => beqD a b && beqL as bs
  | _, _ => false
end
mutual
theorem beqD_eq : ∀ (a b : D), beqD a b = true → a = b
  | .non, b, h => by cases b <;> simp_all [beqD]
  | .bl _, b, h => by cases b <;> simp_all [beqD]
  | .int _, b, h => by cases b <;> simp_all [beqD]
  | .str _, b, h => by cases b <;> simp_all [beqD]
  | .tup x, b, h => by
    cases b <;> simp only [beqD, Bool.false_eq_true] at h
    rw [beqL_eq x _ h]
  | .fl x, b, h => by
    cases b <;> simp only [beqD, Bool.false_eq_true] at h
    rw [beqL_eq x _ h]
  | .ref _, b, h => by cases b <;> simp_all [beqD]
theorem beqL_eq : ∀ (a b : List D), beqL a b = true → a = b
  | [], b, h => by cases b <;> simp_all [beqL]
  | x :: xs, b, h => by
    cases b with
    | nil => simp [beqL] at h
    | cons y ys =>
      simp only [beqL, Bool.and_eq_true] at h
      rw [beqD_eq x y h.1, beqL_eq xs ys h.2]
end
mutual
theorem beqD_rfl : ∀ a : D, beqD a a = true
  | .non => by simp [beqD]
  | .bl _ => by simp [beqD]
  | .int _ => by simp [beqD]
  | .str _ => by simp [beqD]
  | .tup x => by simp only [beqD]; exact beqL_rfl x
  | .fl x => by simp only [beqD]; exact beqL_rfl x
  | .ref _ => by simp [beqD]
theorem beqL_rfl : ∀ a : List D, beqL a a = true
  | [] => by simp [beqL]
  | x :: xs => by simp only [beqL, Bool.and_eq_true]; exact ⟨beqD_rfl x, beqL_rfl xs⟩
end
mutual
def below (n : Nat) : D → Bool
  | .ref k => decide (k < n)
  | .tup xs => belowL n xs
  | .fl xs => belowL n xs
  | _ => true
def belowL (n : Nat) : List D → Bool
  | [] => true
  | x :: xs => below n x && belowL n xs
end
def belowF (n : Nat) (fs : List (Str × D)) : Bool := fs.all fun p => below n p.2
def beqF : List (Str × D) → List (Str × D) → Bool
  | [], [] => true
  | a :: as, b :: bs => decide (a.1 = b.1) && beqD a.2 b.2 && beqF as bs
  | _, _ => false
theorem beqF_eq : ∀ (a b : List (Str × D)), beqF a b = true → a = b
  | [], b, h => by cases b <;> simp_all [beqF]
  | x :: xs, b, h => by
    cases b with
    | nil => simp [beqF] at h
    | cons y ys =>
      simp only [beqF, Bool.and_eq_true, decide_eq_true_eq] at h
      obtain ⟨⟨h1, h2⟩, h3⟩ := h
      obtain ⟨x1, x2⟩ := x
      obtain ⟨y1, y2⟩ := y
      have e1 : x1 = y1 := h1
      have e2 : x2 = y2 := beqD_eq _ _ h2
      rw [e1, e2, beqF_eq xs ys h3]
theorem beqF_rfl : ∀ a : List (Str × D), beqF a a = true
  | [] => by simp [beqF]
  | x :: xs => by simp [beqF, beqD_rfl, beqF_rfl xs]
def belowO (n : Nat) : O → Bool
  | .lst xs => belowL n xs
  | .ins _ fs => belowF n fs
def beqO : O → O → Bool
  | .lst a, .lst b => beqL a b
  | .ins c a, .ins d b => c == d && beqF a b
  | _, _ => false
theorem beqO_eq (a b : O) (h : beqO a b = true) : a = b := by
  cases a <;> cases b <;> simp only [beqO, Bool.false_eq_true, Bool.and_eq_true, beq_iff_eq] at h
  · rw [beqL_eq _ _ h]
  · rw [h.1, beqF_eq _ _ h.2]
theorem beqO_rfl (a : O) : beqO a a = true := by
  cases a <;> simp [beqO, beqL_rfl, beqF_rfl]
/-- what stood ahead of a call (the first argument) is the same behind it, or holds no handle of the call's own -/
def gcL (n : Nat) : Hs → Hs → Bool
  | [], _ => true
  | o :: os, p :: ps => (beqO o p || belowO n p) && gcL n os ps
  | _ :: _, [] => false

/-! ### the small language -/
inductive Op where | add | sub | mul | fdiv | mod | pow | shl
inductive Cp where | lt | le | gt | ge | eq | ne | is | isnot | isin | notin
inductive Ty where | non | bl | int | str | tup | lst
  deriving DecidableEq
inductive Bi where
  | len | abs | min2 | max2 | sum | all | any | int | tuple | list | isi (t : Ty) | repr | str | sorted | min1 | max1
inductive ItK where | seq | rng1 | rng2 | enum | enum2 | zip
mutual
inductive Pat where | nm (i : Nat) | tp (ps : Pats)
inductive Pats where | nil | cons (p : Pat) (ps : Pats)
end
mutual
inductive E where
  | var (i : Nat)
  | cst (d : D)
  | bin (o : Op) (a b : E)
  | neg (a : E)
  | not (a : E)
  | and (a b : E)
  | or (a b : E)
  | cmp (o : Cp) (a b : E)
  | chn (o p : Cp) (a b c : E)
  | ite (c a b : E)
  | tup (es : Es)
  | lst (es : Es)
  | idx (a i : E)
  | slc (a : E) (lo hi : Es)
  | call (f : Nat) (es : Es)
  | meth (a : E) (m : Str) (es : Es)
  | make (c : Nat) (es : Es)
  | fld (a : E) (f : Str)
  | bi (b : Bi) (es : Es)
  | lc (k : ItK) (src : Es) (p : Pat) (tst : Es) (elt : E) (own : List Nat)
inductive Es where | nil | cons (e : E) (es : Es)
end
mutual
inductive Tg where | nm (i : Nat) | fld (a : E) (f : Str) | sub (a i : E) | tp (ts : Tgs)
inductive Tgs where | nil | cons (t : Tg) (ts : Tgs)
end
mutual
inductive S where
  | pass
  | exp (e : E)
  | app (a e : E)
  | ext (a e : E)
  | asg (t : Tg) (e : E)
  | asg2 (t u : Tg) (e : E)
  | par (i j : Nat) (a b : E)
  | par3 (i j l : Nat) (a b c : E)
  | ifw (i : Nat) (a : E) (o : Cp) (b : E) (t u : Ss)
  | whw (i : Nat) (a : E) (o : Cp) (b : E) (body : Ss)
  | aug (i : Nat) (o : Op) (e : E)
  | augF (a : E) (f : Str) (o : Op) (e : E)
  | ret (e : E)
  | retN
  | ife (c : E) (t u : Ss)
  | forS (t : Pat) (k : ItK) (src : Es) (b : Ss)
  | whl (c : E) (b : Ss)
  | brk
  | cnt
  | never
inductive Ss where | nil | cons (s : S) (ss : Ss)
end
/-- a def: how many parameters, how many slots, the body -/
structure Fn where
  np : Nat
  ns : Nat
  body : Ss
abbrev Call := Nat → List D → Hs → Rs D
/-- a class's methods -/
structure Cl where
  init : Nat
  meths : List (Str × Nat)
  attrs : List Str

/-! ### what the operators do -/
def truth : D → Hs → Option Bool
  | .non, _ => some false
  | .bl b, _ => some b
  | .int i, _ => some (i != 0)
  | .str s, _ => if s.length ≤ sizeLine then some (s.length != 0) else none
  | .tup xs, _ => some (!xs.isEmpty)
  | .fl xs, _ => some (!xs.isEmpty)
  | .ref n, m => match m[n]? with
    | some (.lst xs) => some (!xs.isEmpty)
    | _ => none
def binS : Op → D → D → Hs → Rs D
  | .add, .int i, .int j, m => .ok (.int (i + j)) m
  | .add, .str i, .str j, m => if i.length + j.length ≤ sizeLine then .ok (.str (i ++ j)) m else .bad
  | .add, .tup xs, .tup ys, m => if xs.length + ys.length ≤ sizeLine then .ok (.tup (xs ++ ys)) m else .bad
  | .add, .ref a, .ref b, m => match m[a]?, m[b]? with
    | some (.lst xs), some (.lst ys) => if xs.length + ys.length ≤ sizeLine then .ok (.ref m.length) (m ++ [.lst (xs ++ ys)]) else .bad
    | _, _ => .bad
  | .sub, .int i, .int j, m => .ok (.int (i - j)) m
  | .mul, .int i, .int j, m => if i.natAbs.log2 + j.natAbs.log2 < 1000000 then .ok (.int (i * j)) m else .bad
  | .mul, .ref a, .int k, m => match m[a]? with
    | some (.lst xs) => if -(2 ^ 63) ≤ k ∧ k < 2 ^ 63 ∧ xs.length * k.toNat ≤ sizeLine then .ok (.ref m.length) (m ++ [.lst (List.replicate k.toNat xs).flatten]) else .bad
    | _ => .bad
  | .fdiv, .int i, .int j, m => if 0 < j ∧ j.natAbs.log2 < 9000 then .ok (.int (i / j)) m else .bad
  | .mod, .int i, .int j, m => if 0 < j then .ok (.int (i % j)) m else .bad
  | .pow, .int i, .int j, m => if 0 ≤ j ∧ (i.natAbs.log2 + 1) * j.toNat ≤ 134217728 then .ok (.int (i ^ j.toNat)) m else .bad
  | .shl, .int i, .int j, m => if 0 ≤ j ∧ j ≤ 1000000 ∧ i.natAbs < 18446744073709551616 then .ok (.int (i * 2 ^ j.toNat)) m else .bad
  | _, _, _, _ => .bad
def mapO {α β : Type} (f : α → Option β) : List α → Option (List β)
  | [] => some []
  | x :: xs => match f x, mapO f xs with
    | some y, some ys => some (y :: ys)
    | _, _ => none
/-- data (handles are looked up), at most n deep -/
def pyD (m : Hs) : Nat → D → Option PyData
  | _, .non => some .none
  | _, .bl b => some (.bool b)
  | _, .int i => some (.int i)
  | _, .str s => if PyData.strOk s then some (.str s) else none
  | 0, _ => none
  | n + 1, .tup xs => (mapO (pyD m n) xs).map .tuple
  | n + 1, .fl xs => (mapO (pyD m n) xs).map .list
  | n + 1, .ref k => match m[k]? with
    | some (.lst xs) => (mapO (pyD m n) xs).map .list
    | _ => none
def deepest : Nat := 50
def eqP (x y : D) (m : Hs) : Option Bool := match pyD m deepest x, pyD m deepest y with
  | some a, some b => some (PyData.eqv a b)
  | _, _ => none
def eqS (x y : D) (m : Hs) : Option Bool := match x, y with
  | .str a, .str b => some (decide (a = b))
  | x, y => eqP x y m
def flatD : D → Bool
  | .non | .bl _ | .int _ | .str _ => true
  | _ => false
def itemsOf : D → Hs → Option (List D)
  | .tup xs, _ => some xs
  | .fl xs, _ => some xs
  | .ref n, m => match m[n]? with
    | some (.lst xs) => some xs
    | _ => none
  | _, _ => none
def b2z (b : Bool) : Int := if b then 1 else 0
/-- == of flat things -/
def eqF : D → D → Bool
  | .non, .non => true
  | .bl a, .bl b => a == b
  | .bl a, .int j => b2z a == j
  | .int i, .bl b => i == b2z b
  | .int i, .int j => i == j
  | .str x, .str y => decide (x = y)
  | _, _ => false
def inS (x y : D) (m : Hs) : Option Bool := match itemsOf y m with
  | some xs => if flatD x && xs.all flatD then some (xs.any fun z => eqF z x) else none
  | none => none
def lexLt : List Int → List Int → Bool
  | [], [] => false
  | [], _ :: _ => true
  | _ :: _, [] => false
  | a :: as, b :: bs => if a = b then lexLt as bs else decide (a < b)
def intsOf : List D → Option (List Int)
  | [] => some []
  | .int i :: xs => (intsOf xs).map (i :: ·)
  | _ => none
def cmpS : Cp → D → D → Hs → Rs D
  | .lt, .int i, .int j, m => .ok (.bl (decide (i < j))) m
  | .le, .int i, .int j, m => .ok (.bl (decide (i ≤ j))) m
  | .gt, .int i, .int j, m => .ok (.bl (decide (j < i))) m
  | .ge, .int i, .int j, m => .ok (.bl (decide (j ≤ i))) m
  | .eq, x, y, m => match eqS x y m with | some b => .ok (.bl b) m | none => .bad
  | .ne, x, y, m => match eqS x y m with | some b => .ok (.bl (!b)) m | none => .bad
  | .is, x, .non, m => .ok (.bl (match x with | .non => true | _ => false)) m
  | .isnot, x, .non, m => .ok (.bl (match x with | .non => false | _ => true)) m
  | .isin, x, y, m => match inS x y m with | some b => .ok (.bl b) m | none => .bad
  | .notin, x, y, m => match inS x y m with | some b => .ok (.bl (!b)) m | none => .bad
  | _, _, _, _ => .bad
def augS : Op → D → D → Hs → Rs D
  | .add, .int i, .int j, m => .ok (.int (i + j)) m
  | .sub, .int i, .int j, m => .ok (.int (i - j)) m
  | _, _, _, _ => .bad
/-- the place of an index -/
def ixD (n : Nat) (i : Int) : Option Nat := if 0 ≤ i then (if i < n then some i.toNat else none) else if -(n : Int) ≤ i then some (i + n).toNat else none
def idxS : D → D → Hs → Rs D
  | x, .int i, m => match itemsOf x m with
    | some xs => match (ixD xs.length i).bind fun j => xs[j]? with
      | some v => .ok v m
      | none => .bad
    | none => .bad
  | _, _, _ => .bad
def sIxD (n d : Nat) : Option Int → Nat
  | none => d
  | some i => if i < 0 then (i + n).toNat else min i.toNat n
def cutD (xs : List D) (lo hi : Option Int) : List D := (xs.drop (sIxD xs.length 0 lo)).take (sIxD xs.length xs.length hi - sIxD xs.length 0 lo)
def partOf : List D → Hs → Rs (Option Int)
  | [], m => .ok none m
  | [.int i], m => .ok (some i) m
  | _, _ => .bad
def slcS (x : D) (lo hi : Option Int) (m : Hs) : Rs D := match x with
  | .tup xs => .ok (.tup (cutD xs lo hi)) m
  | .fl xs => .ok (.ref m.length) (m ++ [.lst (cutD xs lo hi)])
  | .ref n => match m[n]? with
    | some (.lst xs) => .ok (.ref m.length) (m ++ [.lst (cutD xs lo hi)])
    | _ => .bad
  | _ => .bad
def sumI : List D → Option Int
  | [] => some 0
  | .int i :: xs => (sumI xs).map (i + ·)
  | _ => none
def boolsOf : List D → Option (List Bool)
  | [] => some []
  | .bl b :: xs => (boolsOf xs).map (b :: ·)
  | _ => none
def rngL (lo : Int) (n : Nat) : List D := (List.range n).map fun k => .int (lo + (k : Nat))
def tyD : D → Hs → Option Ty
  | .non, _ => some .non
  | .bl _, _ => some .bl
  | .int _, _ => some .int
  | .str _, _ => some .str
  | .tup _, _ => some .tup
  | .fl _, _ => some .lst
  | .ref n, m => match m[n]? with
    | some (.lst _) => some .lst
    | _ => none
def biS : Bi → List D → Hs → Rs D
  | .len, [.str s], m => if s.length ≤ sizeLine then .ok (.int s.length) m else .bad
  | .len, [x], m => match itemsOf x m with | some xs => .ok (.int xs.length) m | none => .bad
  | .abs, [.int i], m => .ok (.int (if i < 0 then -i else i)) m
  | .min2, [.int i, .int j], m => .ok (.int (if j < i then j else i)) m
  | .max2, [.int i, .int j], m => .ok (.int (if j > i then j else i)) m
  | .sum, [.ref n], m => match m[n]? with
    | some (.lst xs) => match sumI xs with | some k => .ok (.int k) m | none => .bad
    | _ => .bad
  | .all, [.ref n], m => match m[n]? with
    | some (.lst xs) => match boolsOf xs with | some bs => .ok (.bl (bs.all id)) m | none => .bad
    | _ => .bad
  | .any, [.ref n], m => match m[n]? with
    | some (.lst xs) => match boolsOf xs with | some bs => .ok (.bl (bs.any id)) m | none => .bad
    | _ => .bad
  | .int, [.int i], m => .ok (.int i) m
  | .int, [.bl b], m => .ok (.int (if b then 1 else 0)) m
  | .tuple, [.tup xs], m => .ok (.tup xs) m
  | .tuple, [.fl xs], m => .ok (.tup xs) m
  | .tuple, [.ref n], m => match m[n]? with
    | some (.lst xs) => .ok (.tup xs) m
    | _ => .bad
  | .list, [x], m => match itemsOf x m with | some xs => .ok (.ref m.length) (m ++ [.lst xs]) | none => .bad
  | .isi t, [x], m => match tyD x m with
    | some u => .ok (.bl (decide (u = t) || (decide (u = .bl) && decide (t = .int)))) m
    | none => .bad
  | _, _, _ => .bad
/-- what a loop walks: the items, and the lists that must stay as they are meanwhile -/
def guardOf : D → Hs → Option (List D × List (Nat × List D))
  | .ref n, m => match m[n]? with | some (.lst xs) => some (xs, [(n, xs)]) | _ => none
  | .tup xs, _ => some (xs, [])
  | .fl xs, _ => some (xs, [])
  | _, _ => none
def enumL (s : Int) : List D → List D
  | [] => []
  | x :: xs => .tup [.int s, x] :: enumL (s + 1) xs
def zipL : List D → List D → List D
  | x :: xs, y :: ys => .tup [x, y] :: zipL xs ys
  | _, _ => []
def isT : D → Bool
  | .tup _ => true
  | _ => false
def itS : ItK → List D → Hs → Option (List D × List (Nat × List D))
  | .seq, [x], m => guardOf x m
  | .rng1, [.int n], _ => if -(2 ^ 62) ≤ n ∧ n < 2 ^ 62 then some (rngL 0 n.toNat, []) else none
  | .rng2, [.int a, .int b], _ => if -(2 ^ 62) ≤ a ∧ a < 2 ^ 62 ∧ -(2 ^ 62) ≤ b ∧ b < 2 ^ 62 then some (rngL a (b - a).toNat, []) else none
  | .enum, [x], m => match guardOf x m with | some (xs, g) => some (enumL 0 xs, g) | none => none
  | .enum2, [x, .int s], m => if -(2 ^ 63) ≤ s ∧ s < 2 ^ 63 then match guardOf x m with | some (xs, g) => some (enumL s xs, g) | none => none else none
  | .zip, [x, y], m => match guardOf x m, guardOf y m with | some (xs, g), some (ys, h) => if isT x = isT y then some (zipL xs ys, g ++ h) else none | _, _ => none
  | _, _, _ => none
def itR (k : ItK) (xs : List D) (m : Hs) : Rs (List D × List (Nat × List D)) := match itS k xs m with
  | some z => .ok z m
  | none => .bad
def stays (g : List (Nat × List D)) (m : Hs) : Bool := g.all fun p => match m[p.1]? with | some (.lst xs) => beqL xs p.2 | _ => false

/-! ### patterns -/
mutual
def bindP : Pat → D → Rho → Option Rho
  | .nm i, d, r => some (r.set i (some d))
  | .tp ps, d, r => match d with
    | .tup xs => bindPs ps xs r
    | _ => none
def bindPs : Pats → List D → Rho → Option Rho
  | .nil, [], r => some r
  | .cons p ps, x :: xs, r => match bindP p x r with
    | some r' => bindPs ps xs r'
    | none => none
  | _, _, _ => none
end
def wipeD (r : Rho) : List Nat → Rho
  | [] => r
  | i :: is => (wipeD r is).set i none

/-! ### expressions -/
/-- a comprehension's loop: h the new list's handle -/
def lcL (h : Nat) (g : List (Nat × List D)) (turn : D → Hs → Rs (Option D)) : List D → Hs → Rs Unit
  | [], m => if stays g m then .ok () m else .bad
  | x :: xs, m => if stays g m then (turn x m).bind fun o m1 => match o with
      | none => lcL h g turn xs m1
      | some y => match m1[h]? with
        | some (.lst acc) => if acc.length < sizeLine then lcL h g turn xs (m1.set h (.lst (acc ++ [y]))) else .bad
        | _ => .bad
    else .bad
def fldOf (fs : List (Str × D)) (f : Str) : Option D := fs.lookup f
/-- within a comprehension nothing is raised -/
def Rs.calm {α : Type} : Rs α → Rs α
  | .ex _ _ _ => .bad
  | r => r
def testsOf : List D → Hs → Option Bool
  | [], _ => some true
  | [t], m => truth t m
  | _, _ => none
structure Sig where
  call : Call
  cls : Nat → Option Cl
section
variable (κ : Sig)
mutual
def evE : E → Rho → Hs → Rs D
  | .var i, r, m => match r[i]? with
    | some (some d) => .ok d m
    | _ => .bad
  | .cst d, _, m => .ok d m
  | .bin o a b, r, m => (evE a r m).bind fun x m1 => (evE b r m1).bind fun y m2 => binS o x y m2
  | .neg a, r, m => (evE a r m).bind fun x m1 => match x with
    | .int i => .ok (.int (-i)) m1
    | _ => .bad
  | .not a, r, m => (evE a r m).bind fun x m1 => match truth x m1 with
    | some b => .ok (.bl (!b)) m1
    | none => .bad
  | .and a b, r, m => (evE a r m).bind fun x m1 => match truth x m1 with
    | some true => evE b r m1
    | some false => .ok x m1
    | none => .bad
  | .or a b, r, m => (evE a r m).bind fun x m1 => match truth x m1 with
    | some true => .ok x m1
    | some false => evE b r m1
    | none => .bad
  | .cmp o a b, r, m => (evE a r m).bind fun x m1 => (evE b r m1).bind fun y m2 => cmpS o x y m2
  | .chn o p a b c, r, m => (evE a r m).bind fun x m1 => (evE b r m1).bind fun y m2 => (cmpS o x y m2).bind fun z m3 => match z with
    | .bl true => (evE c r m3).bind fun w m4 => cmpS p y w m4
    | .bl false => .ok (.bl false) m3
    | _ => .bad
  | .ite c a b, r, m => (evE c r m).bind fun x m1 => match truth x m1 with
    | some true => evE a r m1
    | some false => evE b r m1
    | none => .bad
  | .tup es, r, m => (evEs es r m).bind fun xs m1 => if xs.length ≤ sizeLine then .ok (.tup xs) m1 else .bad
  | .lst es, r, m => (evEs es r m).bind fun xs m1 => if xs.length ≤ sizeLine then .ok (.ref m1.length) (m1 ++ [.lst xs]) else .bad
  | .idx a i, r, m => (evE a r m).bind fun x m1 => (evE i r m1).bind fun y m2 => idxS x y m2
  | .slc a lo hi, r, m => (evE a r m).bind fun x m1 => ((evEs lo r m1).bind partOf).bind fun l m2 => ((evEs hi r m2).bind partOf).bind fun u m3 => slcS x l u m3
  | .call f es, r, m => (evEs es r m).bind fun xs m1 => κ.call f xs m1
  | .meth a f es, r, m => (evE a r m).bind fun x m1 => match x with
    | .ref n => match m1[n]? with
      | some (.ins c fs) => match fs.lookup f, (κ.cls c).bind fun k => k.meths.lookup f with
        | none, some g => (evEs es r m1).bind fun xs m2 => κ.call g (.ref n :: xs) m2
        | _, _ => .bad
      | _ => .bad
    | _ => .bad
  | .make c es, r, m => (evEs es r m).bind fun xs m1 => match κ.cls c with
    | some k => (κ.call k.init (.ref m1.length :: xs) (m1 ++ [.ins c []])).bind fun z m2 => match z with
      | .non => .ok (.ref m1.length) m2
      | _ => .bad
    | none => .bad
  | .fld a f, r, m => (evE a r m).bind fun x m1 => match x with
    | .ref n => match m1[n]? with
      | some (.ins c fs) => match fs.lookup f, (κ.cls c).map fun k => k.attrs.contains f with
        | some v, some true => .ok v m1
        | _, _ => .bad
      | _ => .bad
    | _ => .bad
  | .bi b es, r, m => (evEs es r m).bind fun xs m1 => biS b xs m1
  | .lc k src p tst elt own, r, m => ((evEs src r m).bind (itR k)).bind fun z m1 =>
      (lcL m1.length z.2 (fun x m2 => match bindP p x (wipeD r own) with
        | some r2 => Rs.calm ((evEs tst r2 m2).bind fun ts m3 => match testsOf ts m3 with
          | some true => (evE elt r2 m3).bind fun y m4 => .ok (some y) m4
          | some false => .ok none m3
          | none => .bad)
        | none => .bad) z.1 (m1 ++ [.lst []])).bind fun _ m5 => .ok (.ref m1.length) m5
def evEs : Es → Rho → Hs → Rs (List D)
  | .nil, _, m => .ok [] m
  | .cons e es, r, m => (evE e r m).bind fun x m1 => (evEs es r m1).bind fun xs m2 => .ok (x :: xs) m2
end

/-! ### targets, statements -/
def putD (f : Str) (v : D) : List (Str × D) → List (Str × D)
  | [] => [(f, v)]
  | (g, u) :: r => if g = f then (g, v) :: r else (g, u) :: putD f v r
def lenTs : Tgs → Nat
  | .nil => 0
  | .cons _ ts => lenTs ts + 1
mutual
def tgS : Tg → D → Rho → Hs → Rs Rho
  | .nm i, d, r, m => .ok (r.set i (some d)) m
  | .fld a f, d, r, m => (evE κ a r m).bind fun x m1 => match x with
    | .ref n => match m1[n]? with
      | some (.ins c fs) => if fs.length < 900 ∧ ((κ.cls c).map fun k => k.attrs.contains f) = some true then .ok r (m1.set n (.ins c (putD f d fs))) else .bad
      | _ => .bad
    | _ => .bad
  | .sub a i, d, r, m => (evE κ a r m).bind fun x m1 => (evE κ i r m1).bind fun y m2 => match x, y with
    | .ref n, .int k => match m2[n]? with
      | some (.lst xs) => match ixD xs.length k with
        | some j => .ok r (m2.set n (.lst (xs.set j d)))
        | none => .bad
      | _ => .bad
    | _, _ => .bad
  | .tp ts, d, r, m => match d with
    | .tup xs => if xs.length = lenTs ts then tgsS ts xs r m else .bad
    | _ => .bad
def tgsS : Tgs → List D → Rho → Hs → Rs Rho
  | .nil, [], r, m => .ok r m
  | .cons t ts, x :: xs, r, m => (tgS t x r m).bind fun r1 m1 => tgsS ts xs r1 m1
  | _, _, _, _ => .bad
end
inductive Out where
  | nx (r : Rho) | rt (d : D) | bk (r : Rho) | ct (r : Rho)
def forL (g : List (Nat × List D)) (p : Pat) (body : Rho → Hs → Rs Out) : List D → Rho → Hs → Rs Out
  | [], r, m => if stays g m then .ok (.nx r) m else .bad
  | x :: xs, r, m => if stays g m then match bindP p x r with
      | some r1 => (body r1 m).bind fun o m1 => match o with
        | .nx r2 => forL g p body xs r2 m1
        | .ct r2 => forL g p body xs r2 m1
        | .bk r2 => .ok (.nx r2) m1
        | .rt d => .ok (.rt d) m1
      | none => .bad
    else .bad
def whlL (c : Rho → Hs → Rs D) (body : Rho → Hs → Rs Out) : Nat → Rho → Hs → Rs Out
  | 0, _, _ => .bad
  | n + 1, r, m => (c r m).bind fun x m1 => match truth x m1 with
    | some true => (body r m1).bind fun o m2 => match o with
      | .nx r2 => whlL c body n r2 m2
      | .ct r2 => whlL c body n r2 m2
      | .bk r2 => .ok (.nx r2) m2
      | .rt d => .ok (.rt d) m2
    | some false => .ok (.nx r) m1
    | none => .bad
def whwL (i : Nat) (a : Rho → Hs → Rs D) (o : Cp) (b : Rho → Hs → Rs D) (body : Rho → Hs → Rs Out) : Nat → Rho → Hs → Rs Out
  | 0, _, _ => .bad
  | n + 1, r, m => (a r m).bind fun x m1 => (b (r.set i (some x)) m1).bind fun y m2 => (cmpS o x y m2).bind fun z m3 => match z with
    | .bl true => (body (r.set i (some x)) m3).bind fun ot m4 => match ot with
      | .nx r2 => whwL i a o b body n r2 m4
      | .ct r2 => whwL i a o b body n r2 m4
      | .bk r2 => .ok (.nx r2) m4
      | .rt d => .ok (.rt d) m4
    | .bl false => .ok (.nx (r.set i (some x))) m3
    | _ => .bad
def whileMost : Nat := 100000
mutual
def evS : S → Rho → Hs → Rs Out
  | .pass, r, m => .ok (.nx r) m
  | .exp e, r, m => (evE κ e r m).bind fun _ m1 => .ok (.nx r) m1
  | .app a e, r, m => (evE κ a r m).bind fun x m1 => match x with
    | .ref n => match m1[n]? with
      | some (.lst _) => (evE κ e r m1).bind fun y m2 => match m2[n]? with
        | some (.lst xs) => if xs.length < sizeLine then .ok (.nx r) (m2.set n (.lst (xs ++ [y]))) else .bad
        | _ => .bad
      | _ => .bad
    | _ => .bad
  | .ext a e, r, m => (evE κ a r m).bind fun x m1 => match x with
    | .ref n => match m1[n]? with
      | some (.lst _) => (evE κ e r m1).bind fun y m2 => match m2[n]?, y with
        | some (.lst xs), .ref k => match m2[k]? with
          | some (.lst ys) => if xs.length + ys.length ≤ sizeLine then .ok (.nx r) (m2.set n (.lst (xs ++ ys))) else .bad
          | _ => .bad
        | _, _ => .bad
      | _ => .bad
    | _ => .bad
  | .asg t e, r, m => (evE κ e r m).bind fun x m1 => (tgS κ t x r m1).bind fun r1 m2 => .ok (.nx r1) m2
  | .asg2 t u e, r, m => (evE κ e r m).bind fun x m1 => (tgS κ t x r m1).bind fun r1 m2 => (tgS κ u x r1 m2).bind fun r2 m3 => .ok (.nx r2) m3
  | .par i j a b, r, m => (evE κ a r m).bind fun x m1 => (evE κ b r m1).bind fun y m2 => .ok (.nx ((r.set i (some x)).set j (some y))) m2
  | .par3 i j l a b c, r, m => (evE κ a r m).bind fun x m1 => (evE κ b r m1).bind fun y m2 => (evE κ c r m2).bind fun z m3 => .ok (.nx (((r.set i (some x)).set j (some y)).set l (some z))) m3
  | .ifw i a o b t u, r, m => (evE κ a r m).bind fun x m1 => (evE κ b (r.set i (some x)) m1).bind fun y m2 => (cmpS o x y m2).bind fun z m3 => match z with
    | .bl true => evSs t (r.set i (some x)) m3
    | .bl false => evSs u (r.set i (some x)) m3
    | _ => .bad
  | .whw i a o b body, r, m => whwL i (evE κ a) o (evE κ b) (evSs body) whileMost r m
  | .aug i o e, r, m => match r[i]? with
    | some (some x) => (evE κ e r m).bind fun y m1 => (augS o x y m1).bind fun z m2 => .ok (.nx (r.set i (some z))) m2
    | _ => .bad
  | .augF a f o e, r, m => (evE κ a r m).bind fun x m1 => match x with
    | .ref n => match m1[n]? with
      | some (.ins c fs) => match fs.lookup f with
        | some v => if ((κ.cls c).map fun k => k.attrs.contains f) = some true then (evE κ e r m1).bind fun y m2 => (augS o v y m2).bind fun z m3 => match m3[n]? with
          | some (.ins c2 fs2) => if c2 = c ∧ fs2.length < 900 then .ok (.nx r) (m3.set n (.ins c (putD f z fs2))) else .bad
          | _ => .bad else .bad
        | none => .bad
      | _ => .bad
    | _ => .bad
  | .ret e, r, m => (evE κ e r m).bind fun x m1 => .ok (.rt x) m1
  | .retN, _, m => .ok (.rt .non) m
  | .ife c t u, r, m => (evE κ c r m).bind fun x m1 => match truth x m1 with
    | some true => evSs t r m1
    | some false => evSs u r m1
    | none => .bad
  | .forS p k src b, r, m => ((evEs κ src r m).bind (itR k)).bind fun z m1 => forL z.2 p (evSs b) z.1 r m1
  | .whl c b, r, m => whlL (evE κ c) (evSs b) whileMost r m
  | .brk, r, m => .ok (.bk r) m
  | .cnt, r, m => .ok (.ct r) m
  | .never, _, _ => .bad
def evSs : Ss → Rho → Hs → Rs Out
  | .nil, r, m => .ok (.nx r) m
  | .cons s ss, r, m => (evS s r m).bind fun o m1 => match o with
    | .nx r1 => evSs ss r1 m1
    | o => .ok o m1
end
def gcR (m : Hs) (d : D) (m1 : Hs) : Rs D := if below m.length d && gcL m.length m m1 then .ok d (m1.take m.length) else .ok d m1
def evFn (fn : Fn) (args : List D) (m : Hs) : Rs D :=
  match evSs κ fn.body (args.map some ++ List.replicate (fn.ns - args.length) none) m with
  | .ok (.rt d) m1 => gcR m d m1
  | .ok (.nx _) m1 => gcR m .non m1
  | .ok _ _ => .bad
  | .ex c fs m1 => if belowF m.length fs && gcL m.length m m1 then .ex c fs (m1.take m.length) else .ex c fs m1
  | .bad => .bad
end
structure Prog where
  fn : Nat → Option Fn
  cls : Nat → Option Cl
def callN (Δ : Prog) : Nat → Call
  | 0 => fun _ _ _ => .bad
  | k + 1 => fun f args m => match Δ.fn f with
    | some fn => if args.length = fn.np then evFn ⟨callN Δ k, Δ.cls⟩ fn args m else .bad
    | none => .bad
end G
set_option maxRecDepth 100000
namespace G
open PySem L2

/-! ### the small heap within the abstract one -/
mutual
inductive Rep (K : PySem.W.Frag) (g : List Addr) (H : Hp) : V → D → Prop
  | non : Rep K g H .non .non
  | bl (b : Bool) : Rep K g H (.bl b) (.bl b)
  | int (i : Int) : Rep K g H (.int i) (.int i)
  | str (x : Str) : Rep K g H (.str x) (.str x)
  | tup {a : Addr} {xs : List V} {ds : List D} : SqT K H a xs → RepL K g H xs ds → Rep K g H (.ref a) (.tup ds)
  | fl {a : Addr} {xs : List V} {ds : List D} : ((∃ o, H a = some (.frz o (.lst xs))) ∨ ∀ H', SqL K H' a xs) → RepL K g H xs ds → Rep K g H (.ref a) (.fl ds)
  | ref {a : Addr} {n : Nat} : g[n]? = some a → Rep K g H (.ref a) (.ref n)
inductive RepL (K : PySem.W.Frag) (g : List Addr) (H : Hp) : List V → List D → Prop
  | nil : RepL K g H [] []
  | cons {v : V} {vs : List V} {d : D} {ds : List D} : Rep K g H v d → RepL K g H vs ds → RepL K g H (v :: vs) (d :: ds)
end
/-- fields -/
inductive RepF (K : PySem.W.Frag) (g : List Addr) (H : Hp) : List (Str × V) → List (Str × D) → Prop
  | nil : RepF K g H [] []
  | cons {f : Str} {v : V} {vs : List (Str × V)} {d : D} {ds : List (Str × D)} : Rep K g H v d → RepF K g H vs ds → RepF K g H ((f, v) :: vs) ((f, d) :: ds)
/-- tuples and locked things stay -/
structure TK (H H' : Hp) : Prop where
  tup : ∀ a xs, H a = some (.tup xs) → H' a = some (.tup xs)
  frz : ∀ a o u, H a = some (.frz o u) → H' a = some (.frz o u)
theorem TK.refl (H : Hp) : TK H H := ⟨fun _ _ h => h, fun _ _ _ h => h⟩
theorem TK.trans {H H1 H2 : Hp} (a : TK H H1) (b : TK H1 H2) : TK H H2 := ⟨fun x xs h => b.tup x xs (a.tup x xs h), fun x o u h => b.frz x o u (a.frz x o u h)⟩
theorem TK.new {H : Hp} {p : Addr} {o : HO} (h : H p = none) : TK H (upd H p o) := ⟨fun a xs e => by rw [upd_ne (ne_of_none e h)]; exact e, fun a o u e => by rw [upd_ne (ne_of_none e h)]; exact e⟩
theorem TK.mut {H : Hp} {p : Addr} {o : HO} (h : Mut (H p)) : TK H (upd H p o) := ⟨fun a xs e => by
    rw [upd_ne (fun z => by subst z; rw [e] at h; exact h)]; exact e, fun a ob u e => by
    rw [upd_ne (fun z => by subst z; rw [e] at h; exact h)]; exact e⟩
section
variable {K : PySem.W.Frag} {g g' : List Addr} {H H' : Hp}
theorem TK.seqT {a : Addr} {xs : List V} (t : TK H H') (h : SqT K H a xs) : SqT K H' a xs := by
  rcases h with (h | ⟨o, h⟩) | h
  · exact .inl (.inl (t.tup _ _ h))
  · exact .inl (.inr ⟨o, t.frz _ _ _ h⟩)
  · exact .inr h
theorem pre_get {n : Nat} {a : Addr} (p : g <+: g') (h : g[n]? = some a) : g'[n]? = some a := by
  obtain ⟨r, rfl⟩ := p
  rw [List.getElem?_append_left (List.getElem?_eq_some_iff.mp h).1]
  exact h
mutual
theorem Rep.mono (p : g <+: g') (t : TK H H') : ∀ {v : V} {d : D}, Rep K g H v d → Rep K g' H' v d
  | _, _, .non => .non
  | _, _, .bl b => .bl b
  | _, _, .int i => .int i
  | _, _, .str x => .str x
  | _, _, .tup h r => .tup (t.seqT h) (RepL.mono p t r)
  | _, _, .fl h r => .fl (by
      rcases h with ⟨o, h⟩ | h
      · exact .inl ⟨o, t.frz _ _ _ h⟩
      · exact .inr h) (RepL.mono p t r)
  | _, _, .ref h => .ref (pre_get p h)
theorem RepL.mono (p : g <+: g') (t : TK H H') : ∀ {vs : List V} {ds : List D}, RepL K g H vs ds → RepL K g' H' vs ds
  | _, _, .nil => .nil
  | _, _, .cons r s => .cons (Rep.mono p t r) (RepL.mono p t s)
end
theorem RepF.mono (p : g <+: g') (t : TK H H') : ∀ {vs : List (Str × V)} {ds : List (Str × D)}, RepF K g H vs ds → RepF K g' H' vs ds
  | _, _, .nil => .nil
  | _, _, .cons r s => .cons (r.mono p t) (RepF.mono p t s)
theorem RepL.length : ∀ {vs : List V} {ds : List D}, RepL K g H vs ds → vs.length = ds.length
  | _, _, .nil => rfl
  | _, _, .cons _ s => congrArg (· + 1) (RepL.length s)
theorem RepL.get : ∀ {vs : List V} {ds : List D} {i : Nat} {d : D}, RepL K g H vs ds → ds[i]? = some d → ∃ v, vs[i]? = some v ∧ Rep K g H v d
  | _, _, _, _, .nil, e => by simp at e
  | _, _, 0, _, .cons r _, e => by simp at e; subst e; exact ⟨_, rfl, r⟩
  | _, _, i + 1, d, .cons _ s, e => by
    obtain ⟨v, h1, h2⟩ := RepL.get (i := i) (d := d) s (by simpa using e)
    exact ⟨v, by simpa using h1, h2⟩
theorem RepL.getV : ∀ {vs : List V} {ds : List D} {i : Nat} {v : V}, RepL K g H vs ds → vs[i]? = some v → ∃ d, ds[i]? = some d ∧ Rep K g H v d
  | _, _, _, _, .nil, e => by simp at e
  | _, _, 0, _, .cons r _, e => by simp at e; subst e; exact ⟨_, rfl, r⟩
  | _, _, i + 1, d, .cons _ s, e => by
    obtain ⟨v, h1, h2⟩ := RepL.getV (i := i) (v := d) s (by simpa using e)
    exact ⟨v, by simpa using h1, h2⟩
theorem RepL.append : ∀ {vs ws : List V} {ds es : List D}, RepL K g H vs ds → RepL K g H ws es → RepL K g H (vs ++ ws) (ds ++ es)
  | _, _, _, _, .nil, s => s
  | _, _, _, _, .cons r t, s => .cons r (RepL.append t s)
theorem RepL.set {v : V} {d : D} (q : Rep K g H v d) : ∀ {vs : List V} {ds : List D} (i : Nat), RepL K g H vs ds → RepL K g H (vs.set i v) (ds.set i d)
  | _, _, _, .nil => .nil
  | _, _, 0, .cons _ t => .cons q t
  | _, _, i + 1, .cons r t => .cons r (RepL.set q i t)
theorem RepL.drop : ∀ {vs : List V} {ds : List D} (n : Nat), RepL K g H vs ds → RepL K g H (vs.drop n) (ds.drop n)
  | _, _, 0, r => r
  | _, _, _ + 1, .nil => .nil
  | _, _, n + 1, .cons _ t => RepL.drop n t
theorem RepL.take : ∀ {vs : List V} {ds : List D} (n : Nat), RepL K g H vs ds → RepL K g H (vs.take n) (ds.take n)
  | _, _, 0, _ => .nil
  | _, _, _ + 1, .nil => .nil
  | _, _, n + 1, .cons r t => .cons r (RepL.take n t)
theorem RepF.lookup : ∀ {vs : List (Str × V)} {ds : List (Str × D)} {f : Str}, RepF K g H vs ds → (∀ d, ds.lookup f = some d → ∃ v, vs.lookup f = some v ∧ Rep K g H v d) ∧ (ds.lookup f = none → vs.lookup f = none)
  | _, _, _, .nil => ⟨fun d e => by simp at e, fun _ => rfl⟩
  | _, _, f, .cons (f := f') r s => by
    have ih := RepF.lookup (f := f) s
    by_cases h : f = f'
    · subst h
      refine ⟨fun d e => ?_, fun e => ?_⟩
      · simp only [List.lookup, beq_self_eq_true] at e ⊢
        cases e
        exact ⟨_, rfl, r⟩
      · simp only [List.lookup, beq_self_eq_true] at e
        cases e
    · have hb : (f == f') = false := beq_eq_false_iff_ne.mpr h
      refine ⟨fun d e => ?_, fun e => ?_⟩
      · simp only [List.lookup, hb] at e ⊢
        exact ih.1 d e
      · simp only [List.lookup, hb] at e ⊢
        exact ih.2 e
theorem RepF.put {f : Str} {v : V} {d : D} (q : Rep K g H v d) : ∀ {vs : List (Str × V)} {ds : List (Str × D)}, RepF K g H vs ds → RepF K g H (putF f v vs) (putD f d ds)
  | _, _, .nil => .cons q .nil
  | _, _, .cons (f := f') (v := u) (d := e) r s => by
    show RepF K g H (if f' = f then (f', v) :: _ else (f', u) :: putF f v _) (if f' = f then (f', d) :: _ else (f', e) :: putD f d _)
    by_cases h : f' = f
    · rw [if_pos h, if_pos h]
      exact .cons q s
    · rw [if_neg h, if_neg h]
      exact .cons r (RepF.put q s)
theorem RepF.length : ∀ {vs : List (Str × V)} {ds : List (Str × D)}, RepF K g H vs ds → vs.length = ds.length
  | _, _, .nil => rfl
  | _, _, .cons _ s => congrArg (· + 1) (RepF.length s)
mutual
theorem Rep.bel : ∀ {v : V} {d : D}, Rep K g H v d → below g.length d = true
  | _, _, .non => by simp [G.below]
  | _, _, .bl _ => by simp [G.below]
  | _, _, .int _ => by simp [G.below]
  | _, _, .str _ => by simp [G.below]
  | _, _, .tup _ r => by simp only [G.below]; exact RepL.bel r
  | _, _, .fl _ r => by simp only [G.below]; exact RepL.bel r
  | _, _, .ref h => by simp only [G.below, decide_eq_true_eq]; exact (List.getElem?_eq_some_iff.mp h).1
theorem RepL.bel : ∀ {vs : List V} {ds : List D}, RepL K g H vs ds → belowL g.length ds = true
  | _, _, .nil => by simp [belowL]
  | _, _, .cons r s => by simp only [belowL, Bool.and_eq_true]; exact ⟨Rep.bel r, RepL.bel s⟩
end
theorem RepF.bel : ∀ {vs : List (Str × V)} {ds : List (Str × D)}, RepF K g H vs ds → belowF g.length ds = true
  | _, _, .nil => by simp [belowF]
  | _, _, .cons r s => by
    have h := RepF.bel s
    simp only [belowF, List.all_cons, Bool.and_eq_true] at h ⊢
    exact ⟨Rep.bel r, h⟩
mutual
theorem Rep.shrink {n : Nat} : ∀ {v : V} {d : D}, Rep K g H v d → G.below n d = true → Rep K (g.take n) H v d
  | _, _, .non, _ => .non
  | _, _, .bl b, _ => .bl b
  | _, _, .int i, _ => .int i
  | _, _, .str x, _ => .str x
  | _, _, .tup h r, b => .tup h (RepL.shrink r (by simpa only [G.below] using b))
  | _, _, .fl h r, b => .fl h (RepL.shrink r (by simpa only [G.below] using b))
  | _, _, .ref h, b => .ref (by
      simp only [G.below, decide_eq_true_eq] at b
      rw [List.getElem?_take_of_lt b]
      exact h)
theorem RepL.shrink {n : Nat} : ∀ {vs : List V} {ds : List D}, RepL K g H vs ds → belowL n ds = true → RepL K (g.take n) H vs ds
  | _, _, .nil, _ => .nil
  | _, _, .cons r s, b => by
    simp only [belowL, Bool.and_eq_true] at b
    exact .cons (Rep.shrink r b.1) (RepL.shrink s b.2)
end
theorem RepF.shrink {n : Nat} : ∀ {vs : List (Str × V)} {ds : List (Str × D)}, RepF K g H vs ds → belowF n ds = true → RepF K (g.take n) H vs ds
  | _, _, .nil, _ => .nil
  | _, _, .cons r s, b => by
    simp only [belowF, List.all_cons, Bool.and_eq_true] at b
    exact .cons (r.shrink b.1) (RepF.shrink s (by simpa only [belowF] using b.2))
end

/-! ### the heap as a whole -/
/-- where the classes stand: of instances, of exceptions -/
structure Cst where
  K : PySem.W.Frag
  cls : Nat → Option Addr
section
variable (Γ : Cst)
def ObjR (g : List Addr) (H : Hp) (a : Addr) : O → Prop
  | .lst ds => ∃ xs, H a = some (.lst xs) ∧ RepL Γ.K g H xs ds
  | .ins c fs => ∃ C dx vs, Γ.cls c = some C ∧ H a = some (.ins C dx vs) ∧ RepF Γ.K g H vs fs
structure Rel (g : List Addr) (m : Hs) (H : Hp) : Prop where
  len : g.length = m.length
  inj : g.Nodup
  obj : ∀ (n : Nat) (o : O) (a : Addr), m[n]? = some o → g[n]? = some a → ObjR Γ g H a o
structure RelS (g : List Addr) (H : Hp) (r : Rho) (σ : St) : Prop where
  len : r.length = σ.length
  get : ∀ (i : Nat) (d : D), r[i]? = some (some d) → ∃ v, σ[i]? = some (some v) ∧ Rep Γ.K g H v d
end
section
variable {Γ : Cst} {g g' : List Addr} {m m' : Hs} {H H' : Hp} {r : Rho} {σ : St} {a p : Addr} {n : Nat}
theorem RelS.mono (p : g <+: g') (t : TK H H') (h : RelS Γ g H r σ) : RelS Γ g' H' r σ := ⟨h.len, fun i d e => by
  obtain ⟨v, h1, h2⟩ := h.get i d e
  exact ⟨v, h1, h2.mono p t⟩⟩
theorem RelS.set {v : V} {d : D} (h : RelS Γ g H r σ) (q : Rep Γ.K g H v d) (i : Nat) : RelS Γ g H (r.set i (some d)) (σ.set i (some v)) := by
  refine ⟨by rw [List.length_set, List.length_set]; exact h.len, fun j e hj => ?_⟩
  by_cases hij : i = j
  · subst hij
    rw [List.getElem?_set_self'] at hj
    cases hr : r[i]? with
    | none => rw [hr] at hj; cases hj
    | some o =>
      rw [hr] at hj
      have hj' : some d = some e := Option.some.inj hj
      cases hj'
      have hi : i < σ.length := by rw [← h.len]; exact (List.getElem?_eq_some_iff.mp hr).1
      exact ⟨v, by rw [List.getElem?_set_self hi], q⟩
  · rw [List.getElem?_set_ne hij] at hj
    obtain ⟨u, h1, h2⟩ := h.get j e hj
    exact ⟨u, by rw [List.getElem?_set_ne hij]; exact h1, h2⟩
theorem RelS.unset (h : RelS Γ g H r σ) (i : Nat) : RelS Γ g H (r.set i none) (σ.set i none) := by
  refine ⟨by rw [List.length_set, List.length_set]; exact h.len, fun j e hj => ?_⟩
  by_cases hij : i = j
  · subst hij
    rw [List.getElem?_set_self'] at hj
    cases hr : r[i]? with
    | none => rw [hr] at hj; cases hj
    | some o => rw [hr] at hj; cases (Option.some.inj hj)
  · rw [List.getElem?_set_ne hij] at hj
    obtain ⟨u, h1, h2⟩ := h.get j e hj
    exact ⟨u, by rw [List.getElem?_set_ne hij]; exact h1, h2⟩
theorem RelS.wipe (h : RelS Γ g H r σ) : ∀ is : List Nat, RelS Γ g H (wipeD r is) (L2.wipe σ is)
  | [] => h
  | i :: is => (RelS.wipe h is).unset i
theorem ObjR.mono (pg : g <+: g') (t : TK H H') (e : ∀ o, H a = some o → H' a = some o) {o : O} (h : ObjR Γ g H a o) : ObjR Γ g' H' a o := by
  cases o with
  | lst ds => obtain ⟨xs, h1, h2⟩ := h; exact ⟨xs, e _ h1, h2.mono pg t⟩
  | ins c fs => obtain ⟨C, dx, vs, h0, h1, h2⟩ := h; exact ⟨C, dx, vs, h0, e _ h1, h2.mono pg t⟩
theorem ObjR.there {o : O} (h : ObjR Γ g H a o) : H a ≠ none := by
  cases o with
  | lst ds => obtain ⟨xs, h1, _⟩ := h; rw [h1]; simp
  | ins c fs => obtain ⟨C, dx, vs, _, h1, _⟩ := h; rw [h1]; simp
theorem Rel.there (R : Rel Γ g m H) (h : a ∈ g) : H a ≠ none := by
  obtain ⟨n, hn⟩ := List.getElem?_of_mem h
  have hl : n < m.length := by rw [← R.len]; exact (List.getElem?_eq_some_iff.mp hn).1
  exact (R.obj n _ a (List.getElem?_eq_getElem hl) hn).there
theorem Rel.fresh (R : Rel Γ g m H) (h : H p = none) : p ∉ g := fun z => R.there z h
/-- an object that the small heap does not know is laid -/
theorem Rel.laid {o : HO} (R : Rel Γ g m H) (h : H p = none) : Rel Γ g m (upd H p o) := ⟨R.len, R.inj, fun n ob a h1 h2 =>
  (R.obj n ob a h1 h2).mono (List.prefix_refl g) (TK.new h) fun u hu => by rw [upd_ne (ne_of_none hu h)]; exact hu⟩
theorem Rel.any (R : Rel Γ g m H) (t : TK H H') (k : ∀ b ∈ g, H' b = H b) : Rel Γ g m H' := ⟨R.len, R.inj, fun n ob a h1 h2 =>
  (R.obj n ob a h1 h2).mono (List.prefix_refl g) t fun u hu => by rw [k a (List.mem_of_getElem? h2)]; exact hu⟩
/-- a new object with a handle -/
theorem Rel.push {u : HO} {o : O} (R : Rel Γ g m H) (h : H p = none) (ho : ObjR Γ (g ++ [p]) (upd H p u) p o) : Rel Γ (g ++ [p]) (m ++ [o]) (upd H p u) := by
  refine ⟨by simp [R.len], ?_, fun n ob a h1 h2 => ?_⟩
  · rw [List.nodup_append]
    refine ⟨R.inj, by simp, fun x hx y hy => ?_⟩
    have e : y = p := by simpa using hy
    subst e
    exact fun z => R.fresh h (z ▸ hx)
  · by_cases hn : n < m.length
    · rw [List.getElem?_append_left hn] at h1
      rw [List.getElem?_append_left (by rw [R.len]; exact hn)] at h2
      exact (R.obj n ob a h1 h2).mono (List.prefix_append g [p]) (TK.new h) fun w hw => by rw [upd_ne (ne_of_none hw h)]; exact hw
    · have hl : n < (m ++ [o]).length := (List.getElem?_eq_some_iff.mp h1).1
      have e : n = m.length := by simp at hl; omega
      subst e
      have e1 : (m ++ [o])[m.length]? = some o := by simp
      rw [e1] at h1
      cases h1
      rw [← R.len] at h2
      have e2 : (g ++ [p])[g.length]? = some p := by simp
      rw [e2] at h2
      cases h2
      exact ho
/-- the object at a handle changes -/
theorem Rel.write {u : HO} {o : O} (R : Rel Γ g m H) (hm : Mut (H a)) (hn : g[n]? = some a) (ho : ObjR Γ g (upd H a u) a o) : Rel Γ g (m.set n o) (upd H a u) := by
  refine ⟨by rw [List.length_set]; exact R.len, R.inj, fun k ob b h1 h2 => ?_⟩
  by_cases hk : n = k
  · subst hk
    have hl : n < m.length := by rw [← R.len]; exact (List.getElem?_eq_some_iff.mp hn).1
    rw [List.getElem?_set_self hl] at h1
    cases h1
    rw [hn] at h2
    cases h2
    exact ho
  · rw [List.getElem?_set_ne hk] at h1
    have hab : b ≠ a := fun z => by
      subst z
      have h3 := List.getElem?_eq_some_iff.mp hn
      have h4 := List.getElem?_eq_some_iff.mp h2
      exact hk ((List.getElem_inj R.inj).mp (h3.2.trans h4.2.symm))
    exact (R.obj k ob b h1 h2).mono (List.prefix_refl g) (TK.mut hm) fun w hw => by rw [upd_ne hab]; exact hw
theorem Rel.at (R : Rel Γ g m H) {o : O} (h : m[n]? = some o) : ∃ a, g[n]? = some a ∧ ObjR Γ g H a o := by
  have hl : n < g.length := by rw [R.len]; exact (List.getElem?_eq_some_iff.mp h).1
  exact ⟨g[n], List.getElem?_eq_getElem hl, R.obj n o _ h (List.getElem?_eq_getElem hl)⟩
theorem Rel.lst (R : Rel Γ g m H) {ds : List D} {a : Addr} (h : m[n]? = some (.lst ds)) (hg : g[n]? = some a) : ∃ xs, H a = some (.lst xs) ∧ RepL Γ.K g H xs ds := R.obj n _ a h hg
theorem Rel.ins (R : Rel Γ g m H) {c : Nat} {fs : List (Str × D)} {a : Addr} (h : m[n]? = some (.ins c fs)) (hg : g[n]? = some a) : ∃ C dx vs, Γ.cls c = some C ∧ H a = some (.ins C dx vs) ∧ RepF Γ.K g H vs fs := R.obj n _ a h hg
end

/-! ### readings by the small language -/
section
variable (Γ : Cst) (W : WX)
/-- an exception of the class c with the fields fs is as W wishes -/
def PostX (σ : St) (g : List Addr) (H : Hp) (c : Nat) (fs : List (Str × D)) (m : Hs) : Prop :=
  ∀ g' H' C d vs, g <+: g' → TK H H' → Rel Γ g' m H' → Γ.cls c = some C → H' d = some (.xd vs) → RepF Γ.K g' H' vs fs → W (.ref C) (some d) σ H'
def Post {α A : Type} (rep : List Addr → Hp → A → α → Prop) (σ : St) (g : List Addr) (H : Hp) (Q : A → Hp → Prop) : Rs α → Prop
  | .ok x m => ∀ g' H' v, g <+: g' → TK H H' → Rel Γ g' m H' → rep g' H' v x → Q v H'
  | .ex c fs m => PostX Γ W σ g H c fs m
  | .bad => False
def tG {α A : Type} (rep : List Addr → Hp → A → α → Prop) (f : Rho → Hs → Rs α) : St → Hp → (A → Hp → Prop) → Prop := fun σ H Q =>
  ∃ g m r, Rel Γ g m H ∧ RelS Γ g H r σ ∧ Post Γ W rep σ g H Q (f r m)
end
section
variable {Γ : Cst} {W : WX} {α β A B : Type} {rep : List Addr → Hp → A → α → Prop} {repB : List Addr → Hp → B → β → Prop} {σ : St} {g g' : List Addr} {H H' : Hp}
theorem PostX.mono {c : Nat} {fs : List (Str × D)} {m : Hs} (p : g <+: g') (t : TK H H') (h : PostX Γ W σ g H c fs m) : PostX Γ W σ g' H' c fs m :=
  fun g2 H2 C d vs p2 t2 => h g2 H2 C d vs (p.trans p2) (t.trans t2)
theorem Post.mono {Q : A → Hp → Prop} {r : Rs α} (p : g <+: g') (t : TK H H') (h : Post Γ W rep σ g H Q r) : Post Γ W rep σ g' H' Q r := by
  cases r with
  | ok x m => exact fun g2 H2 v p2 t2 => h g2 H2 v (p.trans p2) (t.trans t2)
  | ex c fs m => exact PostX.mono p t h
  | bad => exact h
/-- one computation after another -/
theorem Post.bind {Q : B → Hp → Prop} {R : A → Hp → Prop} {r : Rs α} {h : α → Hs → Rs β} (q : Post Γ W repB σ g H Q (r.bind h))
    (k : ∀ g' H' m v x, g <+: g' → TK H H' → Rel Γ g' m H' → rep g' H' v x → Post Γ W repB σ g' H' Q (h x m) → R v H') : Post Γ W rep σ g H R r := by
  cases r with
  | ok x m => exact fun g' H' v p t rel hv => k g' H' m v x p t rel hv (Post.mono p t q)
  | ex c fs m => exact q
  | bad => exact q
theorem tG.bind {Q : B → Hp → Prop} {R : A → Hp → Prop} {f : Rho → Hs → Rs α} {h : α → Rho → Hs → Rs β} (q : tG Γ W repB (fun r m => (f r m).bind fun x m1 => h x r m1) σ H Q)
    (k : ∀ g' H' m r v x, Rel Γ g' m H' → RelS Γ g' H' r σ → rep g' H' v x → Post Γ W repB σ g' H' Q (h x r m) → R v H') : tG Γ W rep f σ H R := by
  obtain ⟨g, m, r, rel, rs, q⟩ := q
  exact ⟨g, m, r, rel, rs, Post.bind q fun g' H' m' v x p t rel' hv q' => k g' H' m' r v x rel' (rs.mono p t) hv q'⟩
/-- the end: the value as it is -/
theorem Post.ret {Q : A → Hp → Prop} {x : α} {m : Hs} {v : A} (q : Post Γ W rep σ g H Q (.ok x m)) (rel : Rel Γ g m H) (hv : rep g H v x) : Q v H := q g H v (List.prefix_refl g) (TK.refl H) rel hv
end
abbrev rD (Γ : Cst) : List Addr → Hp → V → D → Prop := fun g H v d => Rep Γ.K g H v d
abbrev rL (Γ : Cst) : List Addr → Hp → List V → List D → Prop := fun g H v d => RepL Γ.K g H v d
def tE (Γ : Cst) (W : WX) (κ : Sig) (c : E) : TE := tG Γ W (rD Γ) (evE κ c)
def tEs (Γ : Cst) (W : WX) (κ : Sig) (c : Es) : TA := tG Γ W (rL Γ) (evEs κ c)
/-- a test: the truth of the value -/
def evT (κ : Sig) (c : E) (r : Rho) (m : Hs) : Rs Bool := (evE κ c r m).bind fun x m1 => match truth x m1 with
  | some b => .ok b m1
  | none => .bad
def tT (Γ : Cst) (W : WX) (κ : Sig) (c : E) : TT := tG Γ W (fun _ _ (v : Bool) (b : Bool) => v = b) (evT κ c)
/-- statements -/
def PostS (Γ : Cst) (W : WX) (g : List Addr) (H : Hp) (De : Ends) (σ0 : St) : Rs Out → Prop
  | .ok (.nx r) m => ∀ g' H' σ, g <+: g' → TK H H' → Rel Γ g' m H' → RelS Γ g' H' r σ → De.nx σ H'
  | .ok (.bk r) m => ∀ g' H' σ, g <+: g' → TK H H' → Rel Γ g' m H' → RelS Γ g' H' r σ → De.bk σ H'
  | .ok (.ct r) m => ∀ g' H' σ, g <+: g' → TK H H' → Rel Γ g' m H' → RelS Γ g' H' r σ → De.ct σ H'
  | .ok (.rt d) m => ∀ g' H' v, g <+: g' → TK H H' → Rel Γ g' m H' → Rep Γ.K g' H' v d → De.rt v H'
  | .ex c fs m => ∀ σ, PostX Γ W σ g H c fs m
  | .bad => False
def tS (Γ : Cst) (W : WX) (f : Rho → Hs → Rs Out) : TS := fun De σ H => ∃ g m r, Rel Γ g m H ∧ RelS Γ g H r σ ∧ PostS Γ W g H De σ (f r m)

theorem pe_imp {X : Cx} {e : Expr} {t t' : TE} (h : PE X e t) (k : ∀ σ H Q, t' σ H Q → t σ H Q) : PE X e t' := ⟨fun pins s σ H Q I q => h.run pins s σ H Q I (k σ H Q q)⟩
theorem pt_imp {X : Cx} {e : Expr} {t t' : TT} (h : PT X e t) (k : ∀ σ H Q, t' σ H Q → t σ H Q) : PT X e t' := ⟨fun pins s σ H Q I q => h.run pins s σ H Q I (k σ H Q q)⟩
theorem pw_imp {X : Cx} {e : Expr} {t t' : TT} (h : PW X e t) (k : ∀ σ H Q, t' σ H Q → t σ H Q) : PW X e t' := ⟨fun wh pins s σ H Q I q => h.run wh pins s σ H Q I (k σ H Q q)⟩
theorem pa_imp {X : Cx} {e : List Expr} {t t' : TA} (h : PA X e t) (k : ∀ σ H Q, t' σ H Q → t σ H Q) : PA X e t' := ⟨fun pos pins s σ H Q I q => h.run pos pins s σ H Q I (k σ H Q q)⟩
theorem ps_imp {X : Cx} {e : Stmt} {t t' : TS} (h : PS X e t) (k : ∀ De σ H, t' De σ H → t De σ H) : PS X e t' := ⟨fun pins s σ H De I q => h.run pins s σ H De I (k De σ H q)⟩
theorem pss_imp {X : Cx} {e : List Stmt} {t t' : TS} (h : PSs X e t) (k : ∀ De σ H, t' De σ H → t De σ H) : PSs X e t' := ⟨fun pins s σ H De I q => h.run pins s σ H De I (k De σ H q)⟩
end G
set_option maxRecDepth 100000
set_option maxHeartbeats 1000000
namespace G
open PySem L2
section
variable {X : Cx} {cls : Nat → Option Addr} {W : WX} {κ : Sig}
abbrev cst (X : Cx) (cls : Nat → Option Addr) : Cst := ⟨X.K, cls⟩
abbrev PEc (X : Cx) (cls : Nat → Option Addr) (W : WX) (κ : Sig) (e : Expr) (c : E) : Prop := PE X e (tE ⟨X.K, cls⟩ W κ c)
abbrev PTc (X : Cx) (cls : Nat → Option Addr) (W : WX) (κ : Sig) (e : Expr) (c : E) : Prop := PT X e (tT ⟨X.K, cls⟩ W κ c)
abbrev PWc (X : Cx) (cls : Nat → Option Addr) (W : WX) (κ : Sig) (e : Expr) (c : E) : Prop := PW X e (tT ⟨X.K, cls⟩ W κ c)
abbrev PAc (X : Cx) (cls : Nat → Option Addr) (W : WX) (κ : Sig) (e : List Expr) (c : Es) : Prop := PA X e (tEs ⟨X.K, cls⟩ W κ c)

/-! ### names, constants -/
theorem c_var {e : Expr} {i : Nat} (h : PE X e (tVar i)) : PEc X cls W κ e (.var i) := pe_imp h fun σ H Q q => by
  obtain ⟨g, m, r, rel, rs, q⟩ := q
  simp only [evE] at q
  split at q
  · rename_i d hd
    obtain ⟨v, h1, h2⟩ := rs.get i d hd
    exact ⟨v, h1, q.ret rel h2⟩
  · exact q.elim
theorem c_cst {e : Expr} {v : V} {d : D} (h : PE X e (tC v)) (hv : ∀ g H, Rep X.K g H v d) : PEc X cls W κ e (.cst d) := pe_imp h fun σ H Q q => by
  obtain ⟨g, m, r, rel, rs, q⟩ := q
  simp only [evE] at q
  exact q.ret rel (hv g H)
theorem c_int {i : Int} {j pos} : PEc X cls W κ (.Constant (.int i) j pos) (.cst (.int i)) := c_cst pe_int fun _ _ => .int i
theorem c_bl {i : Bool} {j pos} : PEc X cls W κ (.Constant (.bool i) j pos) (.cst (.bl i)) := c_cst pe_bl fun _ _ => .bl i
theorem c_non {j pos} : PEc X cls W κ (.Constant .none j pos) (.cst .non) := c_cst pe_non fun _ _ => .non
theorem c_str {i : Str} {j pos} : PEc X cls W κ (.Constant (.str i) j pos) (.cst (.str i)) := c_cst pe_str fun _ _ => .str i

/-! ### two operands -/
theorem opOr {f : Value → Value → Sem Value} {r r' : R2} (h : OpR X f r) (h' : OpR X f r') : OpR X f (fun x y H Q => r x y H Q ∨ r' x y H Q) := fun pins s σ H x y u v Q I rx ry q => by
  rcases q with q | q
  · exact h pins s σ H x y u v Q I rx ry q
  · exact h' pins s σ H x y u v Q I rx ry q
/-- an operator's rule serves an operation of the small language -/
def Serves (X : Cx) (cls : Nat → Option Addr) (r : R2) (f : D → D → Hs → Rs D) : Prop := ∀ (W : WX) (σ : St) (g : List Addr) (H : Hp) (m : Hs) (vx vy : V) (x y : D) (Q : VK),
  Rel ⟨X.K, cls⟩ g m H → Rep X.K g H vx x → Rep X.K g H vy y → Post ⟨X.K, cls⟩ W (rD ⟨X.K, cls⟩) σ g H Q (f x y m) → r vx vy H Q
theorem two {r : R2} {f : D → D → Hs → Rs D} {a b : E} {σ : St} {H : Hp} {Q : VK} (sv : Serves X cls r f)
    (q : tG ⟨X.K, cls⟩ W (rD ⟨X.K, cls⟩) (fun r m => (evE κ a r m).bind fun x m1 => (evE κ b r m1).bind fun y m2 => f x y m2) σ H Q) : tOp r (tE ⟨X.K, cls⟩ W κ a) (tE ⟨X.K, cls⟩ W κ b) σ H Q := by
  refine tG.bind (h := fun x r m1 => (evE κ b r m1).bind fun y m2 => f x y m2) q fun g1 H1 m1 r1 v1 x1 rel1 rs1 hv1 q1 => ?_
  refine ⟨g1, m1, r1, rel1, rs1, Post.bind q1 fun g2 H2 m2 v2 x2 p t rel2 hv2 q2 => ?_⟩
  exact sv W σ g2 H2 m2 v1 v2 x1 x2 Q rel2 (hv1.mono p t) hv2 q2
theorem c_bin {e1 e2 : Expr} {a b : E} {o : Op} {op : Operator} {r : R2} {pos : Pos} (ho : OpR X (binaryOp op) r) (sv : Serves X cls r (binS o)) (ha : PEc X cls W κ e1 a) (hb : PEc X cls W κ e2 b) : PEc X cls W κ (.BinOp e1 op e2 pos) (.bin o a b) :=
  pe_imp (pe_op ho ha hb) fun σ H Q q => two sv (by simpa only [tE, evE] using q)
theorem c_cmp {e1 e2 : Expr} {a b : E} {o : Cp} {op : CmpOp} {r : R2} {pos : Pos} (ho : OpR X (compareOp op) r) (sv : Serves X cls r (cmpS o)) (hm : behindInMarks op e2 = false) (ha : PEc X cls W κ e1 a) (hb : PEc X cls W κ e2 b) : PEc X cls W κ (.Compare e1 [op] [e2] pos) (.cmp o a b) :=
  pe_imp (pe_cmpR ho ha hb hm) fun σ H Q q => two sv (by simpa only [tE, evE] using q)

/-! ### the operators -/
theorem rep_int {g : List Addr} {H : Hp} {K : PySem.W.Frag} {v : V} {i : Int} (h : Rep K g H v (.int i)) : v = .int i := by cases h; rfl
theorem rep_str {g : List Addr} {H : Hp} {K : PySem.W.Frag} {v : V} {i : Str} (h : Rep K g H v (.str i)) : v = .str i := by cases h; rfl
theorem rep_bl {g : List Addr} {H : Hp} {K : PySem.W.Frag} {v : V} {i : Bool} (h : Rep K g H v (.bl i)) : v = .bl i := by cases h; rfl
theorem rep_non {g : List Addr} {H : Hp} {K : PySem.W.Frag} {v : V} (h : Rep K g H v .non) : v = .non := by cases h; rfl
theorem rep_tup {g : List Addr} {H : Hp} {K : PySem.W.Frag} {v : V} {ds : List D} (h : Rep K g H v (.tup ds)) : ∃ a xs, v = .ref a ∧ SqT K H a xs ∧ RepL K g H xs ds := by
  cases h with
  | tup h r => exact ⟨_, _, rfl, h, r⟩
theorem rep_ref {g : List Addr} {H : Hp} {K : PySem.W.Frag} {v : V} {n : Nat} (h : Rep K g H v (.ref n)) : ∃ a, v = .ref a ∧ g[n]? = some a := by
  cases h with
  | ref h => exact ⟨_, rfl, h⟩
/-- a new tuple -/
theorem Post.newT {g : List Addr} {H : Hp} {m : Hs} {σ : St} {Q : VK} {Γ : Cst} {ds : List D} {xs : List V} {p : Addr} (q : Post Γ W (rD Γ) σ g H Q (.ok (.tup ds) m)) (rel : Rel Γ g m H) (r : RepL Γ.K g H xs ds) (hp : H p = none) : Q (.ref p) (upd H p (.tup xs)) :=
  q g _ _ (List.prefix_refl g) (TK.new hp) (rel.laid hp) (.tup (SqT.of upd_same) (r.mono (List.prefix_refl g) (TK.new hp)))
/-- a new list -/
theorem Post.newL {g : List Addr} {H : Hp} {m : Hs} {σ : St} {Q : VK} {Γ : Cst} {ds : List D} {xs : List V} {p : Addr} (q : Post Γ W (rD Γ) σ g H Q (.ok (.ref m.length) (m ++ [.lst ds]))) (rel : Rel Γ g m H) (r : RepL Γ.K g H xs ds) (hp : H p = none) : Q (.ref p) (upd H p (.lst xs)) :=
  q (g ++ [p]) _ _ (List.prefix_append g [p]) (TK.new hp) (rel.push hp ⟨xs, upd_same, r.mono (List.prefix_append g [p]) (TK.new hp)⟩) (.ref (by rw [← rel.len]; simp))
/-- any sequence -/
theorem rep_seq {g : List Addr} {H : Hp} {m : Hs} {v : V} {x : D} {ds : List D} (rel : Rel ⟨X.K, cls⟩ g m H) (h : Rep X.K g H v x) (e : itemsOf x m = some ds) : ∃ a xs, v = .ref a ∧ (SqL X.K H a xs ∨ SqT X.K H a xs) ∧ RepL X.K g H xs ds := by
  cases h with
  | tup h r => simp only [itemsOf, Option.some.injEq] at e; subst e; exact ⟨_, _, rfl, .inr h, r⟩
  | fl h r =>
    simp only [itemsOf, Option.some.injEq] at e
    subst e
    refine ⟨_, _, rfl, .inl ?_, r⟩
    rcases h with ⟨o, h⟩ | h
    · exact .inl (.inr ⟨o, h⟩)
    · exact h H
  | ref h =>
    simp only [itemsOf] at e
    split at e
    · rename_i ys hy
      cases e
      obtain ⟨xs, h1, h2⟩ := rel.lst hy h
      exact ⟨_, xs, rfl, .inl (SqL.of h1), h2⟩
    · cases e
  | non => simp [itemsOf] at e
  | bl _ => simp [itemsOf] at e
  | int _ => simp [itemsOf] at e
  | str _ => simp [itemsOf] at e

def rAddA (K : PySem.W.Frag) : R2 := fun x y H Q => rI0 (fun i j => .int (i + j)) x y H Q ∨ ((∃ i j, x = .str i ∧ y = .str j ∧ i.length + j.length ≤ sizeLine ∧ Q (.str (i ++ j)) H) ∨ (rCatA K x y H Q ∨ rCat x y H Q))
theorem op_addA : OpR X (binaryOp .Add) (rAddA X.K) := opOr op_add (opOr op_add_str (opOr op_catA op_cat))
theorem sv_add : Serves X cls (rAddA X.K) (binS .add) := by
  intro W σ g H m vx vy x y Q rel hx hy q
  cases hx with
  | int i => cases hy with
    | int j => exact .inl ⟨i, j, rfl, rfl, q.ret rel (.int _)⟩
    | _ => exact q.elim
  | str i => cases hy with
    | str j =>
      simp only [binS] at q
      split at q
      · rename_i hz
        exact .inr (.inl ⟨i, j, rfl, rfl, hz, q.ret rel (.str _)⟩)
      · exact q.elim
    | _ => exact q.elim
  | tup h r => cases hy with
    | tup h' r' =>
      simp only [binS] at q
      split at q
      · rename_i hz
        refine .inr (.inr (.inl ⟨_, _, _, _, rfl, rfl, h, h', by rw [r.length, r'.length]; exact hz, fun e => ?_, fun e1 e2 => ?_, fun e1 e2 p hp => ?_⟩))
        · subst e
          cases r
          exact q.ret rel (.tup h' r')
        · subst e2
          cases r'
          exact q.ret rel (.tup h (by rw [List.append_nil]; exact r))
        · exact q.newT rel (r.append r') hp
      · exact q.elim
    | _ => exact q.elim
  | ref h => cases hy with
    | ref h' =>
      simp only [binS] at q
      split at q
      · rename_i e1 e2
        split at q
        · rename_i hz
          obtain ⟨xs, a1, a2⟩ := rel.lst e1 h
          obtain ⟨ys, b1, b2⟩ := rel.lst e2 h'
          exact .inr (.inr (.inr ⟨_, _, xs, ys, rfl, rfl, a1, b1, by rw [a2.length, b2.length]; exact hz, fun p hp => q.newL rel (a2.append b2) hp⟩))
        · exact q.elim
      · exact q.elim
    | _ => exact q.elim
  | _ => exact q.elim
theorem sv_sub : Serves X cls (rI0 fun i j => .int (i - j)) (binS .sub) := by
  intro W σ g H m vx vy x y Q rel hx hy q
  cases hx with
  | int i => cases hy with
    | int j => exact ⟨i, j, rfl, rfl, q.ret rel (.int _)⟩
    | _ => exact q.elim
  | _ => cases hy <;> exact q.elim
def rMulA : R2 := fun x y H Q => rI CMulW (fun i j => .int (i * j)) x y H Q ∨ rRep x y H Q
theorem op_mulA : OpR X (binaryOp .Mult) rMulA := opOr op_mulW op_rep
theorem repL_rep {g : List Addr} {H : Hp} {K : PySem.W.Frag} {xs : List V} {ds : List D} (r : RepL K g H xs ds) : ∀ n : Nat, RepL K g H (List.replicate n xs).flatten (List.replicate n ds).flatten
  | 0 => .nil
  | n + 1 => by
    rw [List.replicate_succ, List.replicate_succ, List.flatten_cons, List.flatten_cons]
    exact r.append (repL_rep r n)
theorem sv_mul : Serves X cls rMulA (binS .mul) := by
  intro W σ g H m vx vy x y Q rel hx hy q
  cases hx with
  | int i => cases hy with
    | int j =>
      simp only [binS] at q
      split at q
      · rename_i hz
        exact .inl ⟨i, j, rfl, rfl, hz, q.ret rel (.int _)⟩
      · exact q.elim
    | _ => exact q.elim
  | ref h => cases hy with
    | int j =>
      simp only [binS] at q
      split at q
      · rename_i e1
        split at q
        · rename_i hz
          obtain ⟨xs, a1, a2⟩ := rel.lst e1 h
          exact .inr ⟨_, j, xs, rfl, rfl, a1, hz.1, hz.2.1, by rw [a2.length]; exact hz.2.2, fun p hp => q.newL rel (repL_rep a2 _) hp⟩
        · exact q.elim
      · exact q.elim
    | _ => exact q.elim
  | _ => cases hy <;> exact q.elim
theorem sv_fdiv : Serves X cls (rI CDivW fun i j => .int (i / j)) (binS .fdiv) := by
  intro W σ g H m vx vy x y Q rel hx hy q
  cases hx with
  | int i => cases hy with
    | int j =>
      simp only [binS] at q
      split at q
      · rename_i hz
        exact ⟨i, j, rfl, rfl, hz, q.ret rel (.int _)⟩
      · exact q.elim
    | _ => exact q.elim
  | _ => cases hy <;> exact q.elim
theorem sv_mod : Serves X cls (rI (fun _ j => 0 < j) fun i j => .int (i % j)) (binS .mod) := by
  intro W σ g H m vx vy x y Q rel hx hy q
  cases hx with
  | int i => cases hy with
    | int j =>
      simp only [binS] at q
      split at q
      · rename_i hz
        exact ⟨i, j, rfl, rfl, hz, q.ret rel (.int _)⟩
      · exact q.elim
    | _ => exact q.elim
  | _ => cases hy <;> exact q.elim
theorem op_powW : OpR X (binaryOp .Pow) (rI (fun i j => 0 ≤ j ∧ (i.natAbs.log2 + 1) * j.toNat ≤ 134217728) fun i j => .int (i ^ j.toNat)) := opI fun i j _ _ _ _ _ hc q => PyProof.Rows.pow_int hc.1 (by
  have b : Builtin.Int.intBits i ≤ i.natAbs.log2 + 1 := by
    unfold Builtin.Int.intBits
    split <;> omega
  have e : ((j.toNat : Nat) : Int) = j := Int.toNat_of_nonneg hc.1
  have h1 : Builtin.Int.intBits i * j.toNat ≤ 134217728 := Nat.le_trans (Nat.mul_le_mul_right _ b) hc.2
  rw [← e]
  exact_mod_cast h1) q
theorem sv_pow : Serves X cls (rI (fun i j => 0 ≤ j ∧ (i.natAbs.log2 + 1) * j.toNat ≤ 134217728) fun i j => .int (i ^ j.toNat)) (binS .pow) := by
  intro W σ g H m vx vy x y Q rel hx hy q
  cases hx with
  | int i => cases hy with
    | int j =>
      simp only [binS] at q
      split at q
      · rename_i hz
        exact ⟨i, j, rfl, rfl, hz, q.ret rel (.int _)⟩
      · exact q.elim
    | _ => exact q.elim
  | _ => cases hy <;> exact q.elim
theorem sv_shl : Serves X cls (rI CPow fun i j => .int (i * 2 ^ j.toNat)) (binS .shl) := by
  intro W σ g H m vx vy x y Q rel hx hy q
  cases hx with
  | int i => cases hy with
    | int j =>
      simp only [binS] at q
      split at q
      · rename_i hz
        exact ⟨i, j, rfl, rfl, ⟨hz.1, hz.2.1, hz.2.2⟩, q.ret rel (.int _)⟩
      · exact q.elim
    | _ => exact q.elim
  | _ => cases hy <;> exact q.elim

/-! ### comparisons -/
theorem sv_lt : Serves X cls (rI0 fun i j => .bl (decide (i < j))) (cmpS .lt) := by
  intro W σ g H m vx vy x y Q rel hx hy q
  cases hx with
  | int i => cases hy with
    | int j => exact ⟨i, j, rfl, rfl, q.ret rel (.bl _)⟩
    | _ => exact q.elim
  | _ => cases hy <;> exact q.elim
theorem sv_le : Serves X cls (rI0 fun i j => .bl (decide (i ≤ j))) (cmpS .le) := by
  intro W σ g H m vx vy x y Q rel hx hy q
  cases hx with
  | int i => cases hy with
    | int j => exact ⟨i, j, rfl, rfl, q.ret rel (.bl _)⟩
    | _ => exact q.elim
  | _ => cases hy <;> exact q.elim
theorem sv_gt : Serves X cls (rI0 fun i j => .bl (decide (j < i))) (cmpS .gt) := by
  intro W σ g H m vx vy x y Q rel hx hy q
  cases hx with
  | int i => cases hy with
    | int j => exact ⟨i, j, rfl, rfl, q.ret rel (.bl _)⟩
    | _ => exact q.elim
  | _ => cases hy <;> exact q.elim
theorem sv_ge : Serves X cls (rI0 fun i j => .bl (decide (j ≤ i))) (cmpS .ge) := by
  intro W σ g H m vx vy x y Q rel hx hy q
  cases hx with
  | int i => cases hy with
    | int j => exact ⟨i, j, rfl, rfl, q.ret rel (.bl _)⟩
    | _ => exact q.elim
  | _ => cases hy <;> exact q.elim
theorem sv_is : Serves X cls (fun x y H Q => y = .non ∧ Q (.bl (decide (x = .non))) H) (cmpS .is) := by
  intro W σ g H m vx vy x y Q rel hx hy q
  cases hy with
  | non => cases hx <;> exact ⟨rfl, q.ret rel (.bl _)⟩
  | _ => cases hx <;> exact q.elim
theorem sv_isnot : Serves X cls (fun x y H Q => y = .non ∧ Q (.bl (!decide (x = .non))) H) (cmpS .isnot) := by
  intro W σ g H m vx vy x y Q rel hx hy q
  cases hy with
  | non => cases hx <;> exact ⟨rfl, q.ret rel (.bl _)⟩
  | _ => cases hx <;> exact q.elim
end
section
variable {X : Cx} {cls : Nat → Option Addr} {W : WX} {κ : Sig}
/-- data as the layer reads it -/
theorem mapO_dp {g : List Addr} {H : Hp} {f : D → Option PyData} (ih : ∀ d v p, f d = some p → Rep X.K g H v d → Dp X.K H v p) : ∀ {xs : List V} {ds : List D} {ps : List PyData}, mapO f ds = some ps → RepL X.K g H xs ds → DpAll X.K H xs ps
  | _, _, _, e, .nil => by simp only [mapO, Option.some.injEq] at e; subst e; exact .nil
  | _, _, ps, e, .cons r s => by
    simp only [mapO] at e
    split at e
    · rename_i h1 h2
      cases e
      exact .cons (ih _ _ _ h1 r) (mapO_dp ih h2 s)
    · cases e
theorem pyD_dp {g : List Addr} {H : Hp} {m : Hs} (rel : Rel ⟨X.K, cls⟩ g m H) : ∀ (n : Nat) (d : D) (v : V) (p : PyData), pyD m n d = some p → Rep X.K g H v d → Dp X.K H v p
  | n, .non, _, p, e, .non => by simp only [pyD, Option.some.injEq] at e; subst e; exact .non
  | n, .bl b, _, p, e, .bl _ => by simp only [pyD, Option.some.injEq] at e; subst e; exact .bl b
  | n, .int b, _, p, e, .int _ => by simp only [pyD, Option.some.injEq] at e; subst e; exact .int b
  | n, .str b, _, p, e, .str _ => by
    simp only [pyD] at e
    split at e
    · cases e; exact .str b
    · cases e
  | 0, .tup _, _, p, e, _ => by simp [pyD] at e
  | 0, .fl _, _, p, e, _ => by simp [pyD] at e
  | 0, .ref _, _, p, e, _ => by simp [pyD] at e
  | n + 1, .tup ds, _, p, e, .tup h r => by
    simp only [pyD, Option.map_eq_some_iff] at e
    obtain ⟨ps, e, rfl⟩ := e
    exact .tup h (mapO_dp (pyD_dp rel n) e r)
  | n + 1, .fl ds, _, p, e, .fl h r => by
    simp only [pyD, Option.map_eq_some_iff] at e
    obtain ⟨ps, e, rfl⟩ := e
    refine .lst ?_ (mapO_dp (pyD_dp rel n) e r)
    rcases h with ⟨o, h⟩ | h
    · exact .inl (.inr ⟨o, h⟩)
    · exact h H
  | n + 1, .ref k, _, p, e, .ref h => by
    simp only [pyD] at e
    split at e
    · rename_i xs hx
      simp only [Option.map_eq_some_iff] at e
      obtain ⟨ps, e, rfl⟩ := e
      obtain ⟨vs, a1, a2⟩ := rel.lst hx h
      exact .lst (SqL.of a1) (mapO_dp (pyD_dp rel n) e a2)
    · cases e
theorem mapO_lay {f : D → Option PyData} {n : Nat} (ih : ∀ d p, f d = some p → p.canLay0 = true ∧ p.depth ≤ n) : ∀ {ds : List D} {ps : List PyData}, mapO f ds = some ps → PyData.canLayAll0 ps = true ∧ PyData.depthAll ps ≤ n
  | [], _, e => by simp only [mapO, Option.some.injEq] at e; subst e; exact ⟨rfl, Nat.zero_le _⟩
  | d :: ds, ps, e => by
    simp only [mapO] at e
    split at e
    · rename_i h1 h2
      cases e
      have a := ih _ _ h1
      have b := mapO_lay ih h2
      exact ⟨by simp [PyData.canLayAll0, a.1, b.1], by simp only [PyData.depthAll]; omega⟩
    · cases e
theorem pyD_lay {m : Hs} : ∀ (n : Nat) (d : D) (p : PyData), pyD m n d = some p → p.canLay0 = true ∧ p.depth ≤ n
  | n, .non, p, e => by simp only [pyD, Option.some.injEq] at e; subst e; exact ⟨rfl, Nat.zero_le _⟩
  | n, .bl b, p, e => by simp only [pyD, Option.some.injEq] at e; subst e; exact ⟨rfl, Nat.zero_le _⟩
  | n, .int b, p, e => by simp only [pyD, Option.some.injEq] at e; subst e; exact ⟨rfl, Nat.zero_le _⟩
  | n, .str b, p, e => by
    simp only [pyD] at e
    split at e
    · rename_i h
      cases e; exact ⟨h, Nat.zero_le _⟩
    · cases e
  | 0, .tup _, p, e => by simp [pyD] at e
  | 0, .fl _, p, e => by simp [pyD] at e
  | 0, .ref _, p, e => by simp [pyD] at e
  | n + 1, .tup ds, p, e => by
    simp only [pyD, Option.map_eq_some_iff] at e
    obtain ⟨ps, e, rfl⟩ := e
    have a := mapO_lay (pyD_lay n) e
    exact ⟨by simp [PyData.canLay0, a.1], by simp only [PyData.depth]; omega⟩
  | n + 1, .fl ds, p, e => by
    simp only [pyD, Option.map_eq_some_iff] at e
    obtain ⟨ps, e, rfl⟩ := e
    have a := mapO_lay (pyD_lay n) e
    exact ⟨by simp [PyData.canLay0, a.1], by simp only [PyData.depth]; omega⟩
  | n + 1, .ref k, p, e => by
    simp only [pyD] at e
    split at e
    · simp only [Option.map_eq_some_iff] at e
      obtain ⟨ps, e, rfl⟩ := e
      have a := mapO_lay (pyD_lay n) e
      exact ⟨by simp [PyData.canLay0, a.1], by simp only [PyData.depth]; omega⟩
    · cases e
theorem shaped_of {m : Hs} {d : D} {p : PyData} (h : pyD m deepest d = some p) : SeqAt.shaped p = true := by
  have a := pyD_lay deepest d p h
  have b : deepest = 50 := rfl
  unfold SeqAt.shaped
  rw [a.1, Bool.true_and, decide_eq_true_eq]
  omega
theorem eqP_ok {g : List Addr} {H : Hp} {m : Hs} {vx vy : V} {x y : D} {b : Bool} (rel : Rel ⟨X.K, cls⟩ g m H) (hx : Rep X.K g H vx x) (hy : Rep X.K g H vy y) (h : eqP x y m = some b) : ∃ d e, Dp X.K H vx d ∧ Dp X.K H vy e ∧ SeqAt.shaped d = true ∧ SeqAt.shaped e = true ∧ PyData.eqv d e = b := by
  unfold eqP at h
  split at h
  · rename_i h1 h2
    cases h
    exact ⟨_, _, pyD_dp rel _ _ _ _ h1 hx, pyD_dp rel _ _ _ _ h2 hy, shaped_of h1, shaped_of h2, rfl⟩
  · cases h
theorem eqS_ok {g : List Addr} {H : Hp} {m : Hs} {vx vy : V} {x y : D} {b : Bool} (rel : Rel ⟨X.K, cls⟩ g m H) (hx : Rep X.K g H vx x) (hy : Rep X.K g H vy y) (h : eqS x y m = some b) :
    (scal vx vy = true ∧ decide (vx = vy) = b) ∨ ∃ d e, Dp X.K H vx d ∧ Dp X.K H vy e ∧ SeqAt.shaped d = true ∧ SeqAt.shaped e = true ∧ PyData.eqv d e = b := by
  unfold eqS at h
  split at h
  · rw [rep_str hx, rep_str hy]
    refine .inl ⟨rfl, ?_⟩
    rw [← Option.some.inj h]
    simp
  · exact .inr (eqP_ok rel hx hy h)
def rEqA (K : PySem.W.Frag) : R2 := fun x y H Q => rEq x y H Q ∨ rEqD K x y H Q
def rNeA (K : PySem.W.Frag) : R2 := fun x y H Q => rNe x y H Q ∨ rNeD K x y H Q
theorem op_eqA (hu : X.A.units + 64 < cLine) : OpR X (compareOp .Eq) (rEqA X.K) := opOr op_eq (op_eqD hu)
theorem op_neA (hu : X.A.units + 64 < cLine) : OpR X (compareOp .NotEq) (rNeA X.K) := opOr op_ne (op_neD hu)
theorem sv_eq : Serves X cls (rEqA X.K) (cmpS .eq) := by
  intro W σ g H m vx vy x y Q rel hx hy q
  simp only [cmpS] at q
  split at q
  · rename_i b hb
    rcases eqS_ok rel hx hy hb with ⟨h1, h2⟩ | ⟨d, e, h1, h2, h3, h4, h5⟩
    · exact .inl ⟨h1, by rw [h2]; exact q.ret rel (.bl _)⟩
    · exact .inr ⟨d, e, h1, h2, h3, h4, by rw [h5]; exact q.ret rel (.bl _)⟩
  · exact q.elim
theorem sv_ne : Serves X cls (rNeA X.K) (cmpS .ne) := by
  intro W σ g H m vx vy x y Q rel hx hy q
  simp only [cmpS] at q
  split at q
  · rename_i b hb
    rcases eqS_ok rel hx hy hb with ⟨h1, h2⟩ | ⟨d, e, h1, h2, h3, h4, h5⟩
    · exact .inl ⟨h1, by rw [h2]; exact q.ret rel (.bl _)⟩
    · exact .inr ⟨d, e, h1, h2, h3, h4, by rw [h5]; exact q.ret rel (.bl _)⟩
  · exact q.elim
end
end G
set_option maxRecDepth 100000
set_option maxHeartbeats 1000000
namespace G
open PySem L2
section
variable {X : Cx} {cls : Nat → Option Addr} {W : WX} {κ : Sig}
/-! ### truth -/
theorem truth_ok {g : List Addr} {H : Hp} {m : Hs} {v : V} {x : D} {b : Bool} (rel : Rel ⟨X.K, cls⟩ g m H) (h : Rep X.K g H v x) (e : truth x m = some b) : TruV X.K v H b := by
  cases h with
  | non => simp only [truth, Option.some.injEq] at e; exact e.symm
  | bl _ => simp only [truth, Option.some.injEq] at e; exact e.symm
  | int _ => simp only [truth, Option.some.injEq] at e; exact e.symm
  | str y =>
    simp only [truth] at e
    split at e
    · rename_i hz
      refine ⟨hz, ?_⟩
      rw [← Option.some.inj e, Bool.eq_iff_iff]
      simp
    · cases e
  | @tup a xs ds h r =>
    simp only [truth, Option.some.injEq] at e
    refine .inr (.inl ⟨xs, h, ?_⟩)
    rw [← e]
    cases r <;> rfl
  | @fl a xs ds h r =>
    simp only [truth, Option.some.injEq] at e
    refine .inl ⟨xs, ?_, ?_⟩
    · rcases h with ⟨o, h⟩ | h
      · exact .inl (.inr ⟨o, h⟩)
      · exact h H
    · rw [← e]
      cases r <;> rfl
  | ref h =>
    simp only [truth] at e
    split at e
    · rename_i ds hd
      obtain ⟨xs, a1, a2⟩ := rel.lst hd h
      refine .inl ⟨xs, SqL.of a1, ?_⟩
      rw [← Option.some.inj e]
      cases a2 <;> rfl
    · cases e
theorem rep_tru {g : List Addr} {H : Hp} {K : PySem.W.Frag} {x : D} {v : V} (h : Rep K g H v x) : True := trivial

/-! ### one operand -/
theorem c_neg {e : Expr} {a : E} {pos : Pos} (ha : PEc X cls W κ e a) : PEc X cls W κ (.UnaryOp .USub e pos) (.neg a) :=
  pe_imp (pe_un un_neg ha) fun σ H Q q => by
    simp only [tE, evE] at q
    refine tG.bind (h := fun x r m1 => _) q fun g H' m r v x rel rs hv q => ?_
    cases hv with
    | int i => exact ⟨i, rfl, q.ret rel (.int _)⟩
    | _ => exact q.elim
theorem c_not {e : Expr} {a : E} {pos : Pos} (ha : PEc X cls W κ e a) : PEc X cls W κ (.UnaryOp .Not e pos) (.not a) :=
  pe_imp (pe_notT ha) fun σ H Q q => by
    simp only [tE, evE] at q
    refine tG.bind (h := fun x r m1 => _) q fun g H' m r v x rel rs hv q => ?_
    split at q
    · rename_i b hb
      exact ⟨b, truth_ok rel hv hb, q.ret rel (.bl _)⟩
    · exact q.elim
theorem c_one {e : Expr} {a : E} {op : BoolOp} {pos : Pos} (ha : PEc X cls W κ e a) : PEc X cls W κ (.BoolOp op [e] pos) a := pe_one ha
theorem c_and {e1 e2 : Expr} {rest : List Expr} {a b : E} {pos : Pos} (ha : PEc X cls W κ e1 a) (hb : PEc X cls W κ (.BoolOp .And (e2 :: rest) pos) b) : PEc X cls W κ (.BoolOp .And (e1 :: e2 :: rest) pos) (.and a b) :=
  pe_imp (pe_andT ha hb) fun σ H Q q => by
    simp only [tE, evE] at q
    refine tG.bind (h := fun x r m1 => _) q fun g H' m r v x rel rs hv q => ?_
    split at q
    · rename_i hb
      exact ⟨true, truth_ok rel hv hb, iteT ⟨g, m, r, rel, rs, q⟩⟩
    · rename_i hb
      exact ⟨false, truth_ok rel hv hb, iteF (q.ret rel hv)⟩
    · exact q.elim
theorem c_or {e1 e2 : Expr} {rest : List Expr} {a b : E} {pos : Pos} (ha : PEc X cls W κ e1 a) (hb : PEc X cls W κ (.BoolOp .Or (e2 :: rest) pos) b) : PEc X cls W κ (.BoolOp .Or (e1 :: e2 :: rest) pos) (.or a b) :=
  pe_imp (pe_orT ha hb) fun σ H Q q => by
    simp only [tE, evE] at q
    refine tG.bind (h := fun x r m1 => _) q fun g H' m r v x rel rs hv q => ?_
    split at q
    · rename_i hb
      exact ⟨true, truth_ok rel hv hb, iteT (q.ret rel hv)⟩
    · rename_i hb
      exact ⟨false, truth_ok rel hv hb, iteF ⟨g, m, r, rel, rs, q⟩⟩
    · exact q.elim

/-! ### tests -/
theorem p_truth {e : Expr} {a : E} (ha : PEc X cls W κ e a) (he : ∀ whole, isTrue e X.env whole = (do let v ← whole; standAt e.pos; holding [v] (truthy v)) := by intro _; rfl) : PTc X cls W κ e a :=
  pt_imp (pt_truth ha he) fun σ H Q q => by
    unfold tT evT at q
    refine tG.bind (h := fun x r m1 => _) q fun g H' m r v x rel rs hv q => ?_
    split at q
    · rename_i b hb
      exact ⟨b, truth_ok rel hv hb, q.ret rel rfl⟩
    · exact q.elim
theorem cmpS_bl {o : Cp} {x y z : D} {m m' : Hs} (h : cmpS o x y m = .ok z m') : ∃ b, z = .bl b ∧ m' = m := by
  unfold cmpS at h
  split at h <;> first
    | (cases h; exact ⟨_, rfl, rfl⟩)
    | (split at h <;> first | (cases h; exact ⟨_, rfl, rfl⟩) | cases h)
    | cases h
theorem cmpS_ex {o : Cp} {x y : D} {c : Nat} {fs : List (Str × D)} {m m' : Hs} (h : cmpS o x y m = .ex c fs m') : False := by
  unfold cmpS at h
  split at h <;> first
    | cases h
    | (split at h <;> cases h)
theorem p_cmp {e1 e2 : Expr} {a b : E} {o : Cp} {op : CmpOp} {r : R2} {pos : Pos} (ho : OpR X (compareOp op) r) (sv : Serves X cls r (cmpS o)) (hm : behindInMarks op e2 = false) (ha : PEc X cls W κ e1 a) (hb : PEc X cls W κ e2 b) : PTc X cls W κ (.Compare e1 [op] [e2] pos) (.cmp o a b) :=
  pt_imp (pt_cmpR ho ha hb hm) fun σ H Q q => by
    unfold tT at q
    have e : evT κ (.cmp o a b) = fun r m => (evE κ a r m).bind fun x m1 => (evE κ b r m1).bind fun y m2 => (cmpS o x y m2).bind fun z m3 => match truth z m3 with | some b => .ok b m3 | none => .bad := by
      funext r m
      simp only [evT, evE]
      cases evE κ a r m with
      | ok x m1 =>
        simp only [Rs.bind]
        cases evE κ b r m1 <;> rfl
      | ex c fs m1 => rfl
      | bad => rfl
    rw [e] at q
    refine tG.bind (h := fun x r m1 => (evE κ b r m1).bind fun y m2 => (cmpS o x y m2).bind fun z m3 => match truth z m3 with | some b => .ok b m3 | none => .bad) q fun g1 H1 m1 r1 v1 x1 rel1 rs1 hv1 q1 => ?_
    refine ⟨g1, m1, r1, rel1, rs1, Post.bind q1 fun g2 H2 m2 v2 x2 p t rel2 hv2 q2 => ?_⟩
    refine sv W σ g2 H2 m2 v1 v2 x1 x2 _ rel2 (hv1.mono p t) hv2 ?_
    cases hz : cmpS o x1 x2 m2 with
    | ok z m3 =>
      rw [hz] at q2
      obtain ⟨k, rfl, rfl⟩ := cmpS_bl hz
      intro g3 H3 v3 p3 t3 rel3 hv3
      rw [rep_bl hv3]
      exact ⟨k, rfl, q2 g3 H3 k p3 t3 rel3 rfl⟩
    | ex c fs m3 => exact (cmpS_ex hz).elim
    | bad => rw [hz] at q2; exact q2
theorem p_not {e : Expr} {a : E} {pos : Pos} (ha : PTc X cls W κ e a) : PTc X cls W κ (.UnaryOp .Not e pos) (.not a) :=
  pt_imp (pt_not ha) fun σ H Q q => by
    obtain ⟨g, m, r, rel, rs, q⟩ := q
    refine ⟨g, m, r, rel, rs, ?_⟩
    simp only [evT, evE] at q ⊢
    cases h : evE κ a r m with
    | ok x m1 =>
      rw [h] at q
      simp only [Rs.bind] at q ⊢
      cases hb : truth x m1 with
      | none => rw [hb] at q; exact q
      | some b =>
        rw [hb] at q
        intro g' H' v p t rel' e
        subst e
        exact q g' H' (!v) p t rel' rfl
    | ex c fs m1 => rw [h] at q; exact q
    | bad => rw [h] at q; exact q
theorem p_one {e : Expr} {a : E} {pos : Pos} (ha : PTc X cls W κ e a) : PWc X cls W κ (.BoolOp .And [e] pos) a := pw_and1 ha
theorem p_one' {e : Expr} {a : E} {pos : Pos} (ha : PTc X cls W κ e a) : PWc X cls W κ (.BoolOp .Or [e] pos) a := pw_or1 ha
theorem p_and {e1 e2 : Expr} {rest : List Expr} {a b : E} {pos : Pos} (ha : PTc X cls W κ e1 a) (hb : PWc X cls W κ (.BoolOp .And (e2 :: rest) pos) b) : PWc X cls W κ (.BoolOp .And (e1 :: e2 :: rest) pos) (.and a b) :=
  pw_imp (pw_and ha hb) fun σ H Q q => by
    obtain ⟨g, m, r, rel, rs, q⟩ := q
    refine ⟨g, m, r, rel, rs, ?_⟩
    simp only [evT, evE] at q ⊢
    cases h : evE κ a r m with
    | ok x m1 =>
      rw [h] at q
      simp only [Rs.bind] at q ⊢
      cases hb : truth x m1 with
      | none => rw [hb] at q; exact q
      | some b =>
        rw [hb] at q
        cases b with
        | true =>
          intro g' H' v p t rel' e
          subst e
          exact iteT ⟨g', m1, r, rel', rs.mono p t, Post.mono p t q⟩
        | false =>
          intro g' H' v p t rel' e
          subst e
          refine iteF ?_
          simp only [hb] at q
          exact q g' H' false p t rel' rfl
    | ex c fs m1 => rw [h] at q; exact q
    | bad => rw [h] at q; exact q
theorem p_or {e1 e2 : Expr} {rest : List Expr} {a b : E} {pos : Pos} (ha : PTc X cls W κ e1 a) (hb : PWc X cls W κ (.BoolOp .Or (e2 :: rest) pos) b) : PWc X cls W κ (.BoolOp .Or (e1 :: e2 :: rest) pos) (.or a b) :=
  pw_imp (pw_or ha hb) fun σ H Q q => by
    obtain ⟨g, m, r, rel, rs, q⟩ := q
    refine ⟨g, m, r, rel, rs, ?_⟩
    simp only [evT, evE] at q ⊢
    cases h : evE κ a r m with
    | ok x m1 =>
      rw [h] at q
      simp only [Rs.bind] at q ⊢
      cases hb : truth x m1 with
      | none => rw [hb] at q; exact q
      | some b =>
        rw [hb] at q
        cases b with
        | false =>
          intro g' H' v p t rel' e
          subst e
          exact iteF ⟨g', m1, r, rel', rs.mono p t, Post.mono p t q⟩
        | true =>
          intro g' H' v p t rel' e
          subst e
          refine iteT ?_
          simp only [hb] at q
          exact q g' H' true p t rel' rfl
    | ex c fs m1 => rw [h] at q; exact q
    | bad => rw [h] at q; exact q
theorem c_ite {ec e1 e2 : Expr} {c a b : E} {pos : Pos} (hc : PTc X cls W κ ec c) (ha : PEc X cls W κ e1 a) (hb : PEc X cls W κ e2 b) : PEc X cls W κ (.IfExp ec e1 e2 pos) (.ite c a b) :=
  pe_imp (pe_ifExp hc ha hb) fun σ H Q q => by
    obtain ⟨g, m, r, rel, rs, q⟩ := q
    refine ⟨g, m, r, rel, rs, ?_⟩
    simp only [evT, evE] at q ⊢
    cases h : evE κ c r m with
    | ok x m1 =>
      rw [h] at q
      simp only [Rs.bind] at q ⊢
      cases hb : truth x m1 with
      | none => rw [hb] at q; exact q
      | some b =>
        rw [hb] at q
        cases b with
        | false =>
          intro g' H' v p t rel' e
          subst e
          exact iteF ⟨g', m1, r, rel', rs.mono p t, Post.mono p t q⟩
        | true =>
          intro g' H' v p t rel' e
          subst e
          exact iteT ⟨g', m1, r, rel', rs.mono p t, Post.mono p t q⟩
    | ex c fs m1 => rw [h] at q; exact q
    | bad => rw [h] at q; exact q
theorem c_chn {e1 e2 e3 : Expr} {a b c : E} {o p : Cp} {op op' : CmpOp} {r r' : R2} {pos : Pos} (ho : OpR X (compareOp op) r) (sv : Serves X cls r (cmpS o)) (ho' : OpR X (compareOp op') r') (sv' : Serves X cls r' (cmpS p))
    (ha : PEc X cls W κ e1 a) (hb : PEc X cls W κ e2 b) (hc : PEc X cls W κ e3 c) (hm : lastMarks [op, op'] [e2, e3] = false := by with_unfolding_all rfl) : PEc X cls W κ (.Compare e1 [op, op'] [e2, e3] pos) (.chn o p a b c) :=
  pe_imp (pe_chain ho ho' ha hb hc hm) fun σ H Q q => by
    simp only [tE, evE] at q
    refine tG.bind (h := fun x r m1 => _) q fun g1 H1 m1 r1 v1 x1 rel1 rs1 hv1 q1 => ?_
    refine ⟨g1, m1, r1, rel1, rs1, Post.bind q1 fun g2 H2 m2 v2 x2 p t rel2 hv2 q2 => ?_⟩
    have rs2 := rs1.mono p t
    refine sv W σ g2 H2 m2 v1 v2 x1 x2 _ rel2 (hv1.mono p t) hv2 ?_
    cases hz : cmpS o x1 x2 m2 with
    | ok z m3 =>
      rw [hz] at q2
      obtain ⟨k, rfl, rfl⟩ := cmpS_bl hz
      intro g3 H3 v3 p3 t3 rel3 hv3
      rw [rep_bl hv3]
      refine ⟨k, rfl, ?_⟩
      cases k with
      | true =>
        refine iteT ⟨g3, m3, r1, rel3, rs2.mono p3 t3, Post.bind (Post.mono p3 t3 q2) fun g4 H4 m4 v4 x4 p4 t4 rel4 hv4 q4 => ?_⟩
        exact sv' W σ g4 H4 m4 v2 v4 x2 x4 Q rel4 ((hv2.mono p3 t3).mono p4 t4) hv4 q4
      | false => exact iteF ((Post.mono p3 t3 q2).ret rel3 (.bl false))
    | ex c fs m3 => exact (cmpS_ex hz).elim
    | bad => rw [hz] at q2; exact q2.elim

/-! ### argument lists, displays -/
theorem a_nil : PAc X cls W κ [] .nil := pa_imp pa_nil fun σ H Q q => by
  obtain ⟨g, m, r, rel, rs, q⟩ := q
  simp only [evEs] at q
  exact q.ret rel .nil
theorem a_cons {e : Expr} {es : List Expr} {c : E} {cs : Es} (ha : PEc X cls W κ e c) (hr : PAc X cls W κ es cs) (hs : starEach (e :: es) X.env = (false, eval e X.env) :: starEach es X.env := by rfl) : PAc X cls W κ (e :: es) (.cons c cs) :=
  pa_imp (pa_cons ha hr hs) fun σ H Q q => by
    simp only [tEs, evEs] at q
    refine tG.bind (h := fun x r m1 => _) q fun g1 H1 m1 r1 v1 x1 rel1 rs1 hv1 q1 => ?_
    refine ⟨g1, m1, r1, rel1, rs1, Post.bind q1 fun g2 H2 m2 v2 x2 p t rel2 hv2 q2 => ?_⟩
    exact q2.ret rel2 (.cons (hv1.mono p t) hv2)
theorem c_tup {es : List Expr} {cs : Es} {x1 : Nat} {pos : Pos} (h : PAc X cls W κ es cs) : PEc X cls W κ (.Tuple es x1 pos) (.tup cs) :=
  pe_imp (pe_tup h) fun σ H Q q => by
    simp only [tE, evE] at q
    refine tG.bind (h := fun x r m1 => _) q fun g1 H1 m1 r1 v1 x1 rel1 rs1 hv1 q1 => ?_
    split at q1
    · rename_i hz
      exact ⟨by rw [hv1.length]; exact hz, fun p hp => q1.newT rel1 hv1 hp⟩
    · exact q1.elim
theorem c_lst {es : List Expr} {cs : Es} {pos : Pos} (h : PAc X cls W κ es cs) : PEc X cls W κ (.List es pos) (.lst cs) :=
  pe_imp (pe_lst h) fun σ H Q q => by
    simp only [tE, evE] at q
    refine tG.bind (h := fun x r m1 => _) q fun g1 H1 m1 r1 v1 x1 rel1 rs1 hv1 q1 => ?_
    split at q1
    · rename_i hz
      exact ⟨by rw [hv1.length]; exact hz, fun p hp => q1.newL rel1 hv1 hp⟩
    · exact q1.elim

/-! ### subscripts -/
theorem atI_ok {g : List Addr} {H : Hp} {xs : List V} {ds : List D} {i : Int} {d : D} (r : RepL X.K g H xs ds) (h : ((ixD ds.length i).bind fun j => ds[j]?) = some d) : ∃ v, atI xs i = some v ∧ Rep X.K g H v d := by
  unfold atI
  have e : ixN xs.length i = ixD ds.length i := by rw [r.length]; rfl
  rw [e]
  cases hj : ixD ds.length i with
  | none => rw [hj] at h; cases h
  | some j =>
    rw [hj] at h
    exact r.get h
theorem sv_idx : Serves X cls (rIx X.K) idxS := by
  intro W σ g H m vx vy x y Q rel hx hy q
  cases hy with
  | int i =>
    simp only [idxS] at q
    split at q
    · rename_i ds hd
      split at q
      · rename_i d hat
        obtain ⟨a, xs, rfl, hs, r⟩ := rep_seq rel hx hd
        obtain ⟨v, h1, h2⟩ := atI_ok r hat
        rcases hs with hs | hs
        · exact .inl ⟨a, xs, i, v, rfl, rfl, hs, h1, q.ret rel h2⟩
        · exact .inr (.inl ⟨a, xs, i, v, rfl, rfl, hs, h1, q.ret rel h2⟩)
      · exact q.elim
    · exact q.elim
  | _ => exact q.elim
theorem c_idx {e1 e2 : Expr} {a b : E} {pos : Pos} (ha : PEc X cls W κ e1 a) (hb : PEc X cls W κ e2 b) (hs : PlainIx e2 := by exact fun _ _ => rfl) : PEc X cls W κ (.Subscript e1 e2 pos) (.idx a b) :=
  pe_imp (pe_ix ix_seq ha hb hs) fun σ H Q q => two sv_idx (by simpa only [tE, evE] using q)
abbrev POc (X : Cx) (cls : Nat → Option Addr) (W : WX) (κ : Sig) (e : Option Expr) (c : Es) : Prop := PO X e (fun σ H Q => tG ⟨X.K, cls⟩ W (fun _ _ (v : Option Int) (o : Option Int) => v = o) (fun r m => (evEs κ c r m).bind partOf) σ H Q)
theorem po_imp {X : Cx} {e : Option Expr} {t t' : TO} (h : PO X e t) (k : ∀ σ H Q, t' σ H Q → t σ H Q) : PO X e t' := ⟨fun pins s σ H Q I q => h.run pins s σ H Q I (k σ H Q q)⟩
theorem o_none : POc X cls W κ none .nil := po_imp po_none fun σ H Q q => by
  obtain ⟨g, m, r, rel, rs, q⟩ := q
  simp only [evEs] at q
  exact q.ret rel rfl
theorem o_some {e : Expr} {c : E} (h : PEc X cls W κ e c) : POc X cls W κ (some e) (.cons c .nil) := po_imp (po_some h) fun σ H Q q => by
  obtain ⟨g, m, r, rel, rs, q⟩ := q
  refine ⟨g, m, r, rel, rs, ?_⟩
  simp only [evEs] at q
  cases h : evE κ c r m with
  | ok x m1 =>
    rw [h] at q
    simp only [Rs.bind] at q
    intro g' H' v p t rel' hv
    cases hv with
    | int i => exact ⟨i, rfl, q g' H' (some i) p t rel' rfl⟩
    | _ => exact q.elim
  | ex c fs m1 => rw [h] at q; exact q
  | bad => rw [h] at q; exact q
theorem sIx_eq (n d : Nat) (o : Option Int) : sIxD n d o = HT.sIx n d o := by
  cases o <;> rfl
theorem cut_ok {g : List Addr} {H : Hp} {xs : List V} {ds : List D} (r : RepL X.K g H xs ds) (lo hi : Option Int) : RepL X.K g H (cutV xs lo hi) (cutD ds lo hi) := by
  unfold cutV cutD
  rw [sIx_eq, sIx_eq, ← r.length]
  exact (r.drop _).take _
theorem cut_all {ds : List D} {lo hi : Option Int} (h : sIxD ds.length 0 lo = 0 ∧ sIxD ds.length ds.length hi = ds.length) : cutD ds lo hi = ds := by
  unfold cutD
  rw [h.1, h.2]
  simp
def rSlc (K : PySem.W.Frag) : V → Option Int → Option Int → Hp → VK → Prop := fun x lo hi H Q => rSlA K x lo hi H Q ∨ rSlL K x lo hi H Q
theorem sl_any : SlR X (rSlc X.K) := sl_tupA.or sl_list
theorem slc_ok {g : List Addr} {H : Hp} {m : Hs} {v : V} {x : D} {lo hi : Option Int} {Q : VK} {σ : St} (rel : Rel ⟨X.K, cls⟩ g m H) (hx : Rep X.K g H v x) (q : Post ⟨X.K, cls⟩ W (rD ⟨X.K, cls⟩) σ g H Q (slcS x lo hi m)) : rSlc X.K v lo hi H Q := by
  cases hx with
  | @tup a xs ds h r =>
    refine .inl ⟨a, xs, rfl, h, fun e => ?_, fun e p hp => ?_⟩
    · have e' : cutD ds lo hi = ds := cut_all (by rw [sIx_eq, sIx_eq, ← r.length]; exact e)
      simp only [slcS, e'] at q
      exact q.ret rel (.tup h r)
    · exact q.newT rel (cut_ok r lo hi) hp
  | @fl a xs ds h r =>
    refine .inr ⟨a, xs, rfl, ?_, fun p hp => q.newL rel (cut_ok r lo hi) hp⟩
    rcases h with ⟨o, h⟩ | h
    · exact .inl (.inr ⟨o, h⟩)
    · exact h H
  | ref h =>
    simp only [slcS] at q
    split at q
    · rename_i ds hd
      obtain ⟨xs, a1, a2⟩ := rel.lst hd h
      exact .inr ⟨_, xs, rfl, SqL.of a1, fun p hp => q.newL rel (cut_ok a2 lo hi) hp⟩
    · exact q.elim
  | _ => exact q.elim
theorem c_slc {e : Expr} {lo hi : Option Expr} {a : E} {l u : Es} {p2 pos : Pos} (ha : PEc X cls W κ e a) (hl : POc X cls W κ lo l) (hu : POc X cls W κ hi u) : PEc X cls W κ (.Subscript e (.Slice lo hi none p2) pos) (.slc a l u) :=
  pe_imp (pe_slice sl_any ha hl hu) fun σ H Q q => by
    simp only [tE, evE] at q
    refine tG.bind (h := fun x r m1 => _) q fun g1 H1 m1 r1 v1 x1 rel1 rs1 hv1 q1 => ?_
    refine ⟨g1, m1, r1, rel1, rs1, Post.bind q1 fun g2 H2 m2 v2 x2 p t rel2 hv2 q2 => ?_⟩
    refine ⟨g2, m2, r1, rel2, rs1.mono p t, Post.bind q2 fun g3 H3 m3 v3 x3 p3 t3 rel3 hv3 q3 => ?_⟩
    subst hv2
    subst hv3
    exact slc_ok rel3 ((hv1.mono p t).mono p3 t3) q3
end
end G
set_option maxRecDepth 100000
set_option maxHeartbeats 1000000
namespace G
open PySem L2

/-! ### what is called -/
def spOf (Γ : Cst) (call : Call) (f : Nat) : Sp := fun vs H Q E => ∃ g m ds, Rel Γ g m H ∧ RepL Γ.K g H vs ds ∧ Post Γ (fun c d _ H' => E c d H') (rD Γ) [] g H Q (call f ds m)
/-- the module's name x is the def f -/
def IsFn (P : Program) (w : World) (K : PySem.W.Frag) (mg : Str → Option Value) (base : Heap) (cls : Nat → Option Addr) (call : Call) (k : Nat) (x : Str) (f : Nat) : Prop :=
  ∃ (a : Addr) (fd : FuncData) (ps : List Str), mg x = some (.ref a) ∧ PySem.W.keepIn K (.ref a) = true ∧ Binds K fd ps [] ∧ FnOk P w K mg base (L2.CX P w) k a fd ps (spOf ⟨K, cls⟩ call f)
/-- the classes -/
structure ClsOk (P : Program) (w : World) (K : PySem.W.Frag) (mg : Str → Option Value) (base : Heap) (cls : Nat → Option Addr) (call : Call) (k : Nat) (C : Addr) (kl : Cl) : Prop where
  cl : Cls K C
  meth : ∀ m f, kl.meths.lookup m = some f → ∃ (a : Addr) (fd : FuncData) (ps : List Str), Meth K C m a ∧ Binds K fd ps [] ∧ FnOk P w K mg base (L2.CX P w) k a fd ps (spOf ⟨K, cls⟩ call f)
  attr : ∀ f, kl.attrs.contains f = true → NoAttr K C f
def ClsT (P : Program) (w : World) (K : PySem.W.Frag) (mg : Str → Option Value) (base : Heap) (cls : Nat → Option Addr) (κ : Sig) (k : Nat) : Prop :=
  ∀ c cl, κ.cls c = some cl → ∃ C, cls c = some C ∧ ClsOk P w K mg base cls κ.call k C cl
/-- the module's name x is the class c, made by its __init__ -/
def IsCl (P : Program) (w : World) (K : PySem.W.Frag) (mg : Str → Option Value) (base : Heap) (cls : Nat → Option Addr) (κ : Sig) (k : Nat) (x : Str) (c : Nat) : Prop :=
  ∃ (C a : Addr) (fd : FuncData) (ps : List Str) (cl : Cl), cls c = some C ∧ κ.cls c = some cl ∧ mg x = some (.ref C) ∧ Mk K C a ∧ Binds K fd ps [] ∧ FnOk P w K mg base (L2.CX P w) k a fd ps (spOf ⟨K, cls⟩ κ.call cl.init)
section
variable {X : Cx} {cls : Nat → Option Addr} {W : WX} {κ : Sig} {k : Nat}
theorem Post.wish {Γ : Cst} {σ : St} {g : List Addr} {H : Hp} {Q : VK} {r : Rs D} (q : Post Γ W (rD Γ) σ g H Q r) : Post Γ (fun c d _ H' => WE W σ c d H') (rD Γ) [] g H Q r := by
  cases r with
  | ok x m => exact q
  | ex c fs m => exact q
  | bad => exact q
theorem c_call {x : Str} {f : Nat} {e : Expr} {es : List Expr} {cs : Es} {p pos : Pos} (h : IsFn X.prog X.w X.K X.mg X.base cls κ.call k x f) (hr : Room k X.A) (tk : Takes X W) (hg : Gl X x) (ha : PAc X cls W κ (e :: es) cs)
    (hdb : (x == ("__debug__" : Str)) = false := by decide) (he : starEach (e :: es) X.env = (false, eval e X.env) :: starEach es X.env := by rfl) (hpl : (backTo pos (starEach es X.env)).any (·.1) = false := by rfl) : PEc X cls W κ (.Call (.Name x p) (e :: es) [] pos) (.call f cs) := by
  obtain ⟨a, fd, ps, h1, h2, h3, F⟩ := h
  refine pe_imp (pe_callS F hr hg h1 h2 h3 (fun σ => passAt tk σ) ha hdb he hpl) fun σ H Q q => ?_
  simp only [tE, evE] at q
  refine tG.bind (h := fun x r m1 => _) q fun g1 H1 m1 r1 v1 x1 rel1 rs1 hv1 q1 => ?_
  exact ⟨g1, m1, x1, rel1, hv1, q1.wish⟩
/-- o.m(e, ..), whatever the class -/
theorem pe_methA {o e : Expr} {es : List Expr} {ta : TE} {t : TA} {m : Str} {apos pos : Pos} {pl : Sem Bool} {sp : Nat → Sp} {ok : Addr → Nat → Prop} (he : PE X o ta) (hr : Room k X.A) (tk : Takes X W)
    (hM : ∀ C n, ok C n → ∃ (f : Addr) (fd : FuncData) (ps : List Str), Cls X.K C ∧ Meth X.K C m f ∧ Binds X.K fd ps [] ∧ FnOk X.prog X.w X.K X.mg X.base (L2.CX X.prog X.w) k f fd ps (sp n)) (ha : PA X (e :: es) t)
    (hst : starEach (e :: es) X.env = (false, eval e X.env) :: starEach es X.env := by rfl) (hpl : (backTo pos (starEach es X.env)).any (·.1) = false := by rfl)
    (ht : eval (.Call (.Attribute o m apos) (e :: es) [] pos) X.env = (do
      let ov ← eval o X.env
      standAt apos.atName
      let (f, first) ← holding [ov] (getMethod ov m pl)
      callWith pos f first (backTo pos (starEach (e :: es) X.env)) (backToKw pos (keywordEach [] X.env))) := by rfl) :
    PE X (.Call (.Attribute o m apos) (e :: es) [] pos) (fun σ H Q => ta σ H fun x H1 => ∃ C n a dx fs, x = .ref a ∧ ok C n ∧ H1 a = some (.ins C dx fs) ∧ fs.lookup m = none ∧ t σ H1 fun vs H2 => sp n (x :: vs) H2 Q (WE W σ)) := by
  refine ⟨fun pins s σ H Q I h => ?_⟩
  refine PySem.W.methodCall_KW (pl := pl) (thn (he.run pins s σ H _ I h) fun u s1 ⟨x, H1, I1, rx, C, n, a, dx, fs, ex, hok, ea, l, q⟩ => ?_) ht
  subst ex
  obtain rfl : u = Value.ref a := rx
  obtain ⟨f, fd, ps, c, hm, hb, F⟩ := hM C n hok
  refine getmeth_ok I1 ea c hm l ?_
  refine PySem.W.callWith_K (first := [.ref a]) (h₀ := X.base) I.ok.mod.kin hm.kp (thn (ha.run pos pins s1 σ H1 _ I1 q) fun us s2 ⟨vs, H2, I2, r, q2⟩ => ⟨I2.kIn, ?_⟩) hst hpl
  exact run_fnS (us := .ref a :: us) (vs := .ref a :: vs) (E := WE W) F hr hb (passAt tk σ) I2 (.cons rfl r) q2
theorem pe_meth0A {o : Expr} {ta : TE} {m : Str} {apos pos : Pos} {pl : Sem Bool} {sp : Nat → Sp} {ok : Addr → Nat → Prop} (he : PE X o ta) (hr : Room k X.A) (tk : Takes X W)
    (hM : ∀ C n, ok C n → ∃ (f : Addr) (fd : FuncData) (ps : List Str), Cls X.K C ∧ Meth X.K C m f ∧ Binds X.K fd ps [] ∧ FnOk X.prog X.w X.K X.mg X.base (L2.CX X.prog X.w) k f fd ps (sp n))
    (ht : eval (.Call (.Attribute o m apos) [] [] pos) X.env = (do
      let ov ← eval o X.env
      standAt apos.atName
      let (f, first) ← holding [ov] (getMethod ov m pl)
      callWith pos f first (backTo pos (starEach [] X.env)) (backToKw pos (keywordEach [] X.env))) := by rfl) :
    PE X (.Call (.Attribute o m apos) [] [] pos) (fun σ H Q => ta σ H fun x H1 => ∃ C n a dx fs, x = .ref a ∧ ok C n ∧ H1 a = some (.ins C dx fs) ∧ fs.lookup m = none ∧ sp n [x] H1 Q (WE W σ)) := by
  refine ⟨fun pins s σ H Q I h => ?_⟩
  refine PySem.W.methodCall_KW (pl := pl) (thn (he.run pins s σ H _ I h) fun u s1 ⟨x, H1, I1, rx, C, n, a, dx, fs, ex, hok, ea, l, q⟩ => ?_) ht
  subst ex
  obtain rfl : u = Value.ref a := rx
  obtain ⟨f, fd, ps, c, hm, hb, F⟩ := hM C n hok
  refine getmeth_ok I1 ea c hm l ?_
  exact PySem.W.callWith_K0 (first := [.ref a]) I1.kIn hm.kp (run_fnS (us := [.ref a]) (vs := [.ref a]) (E := WE W) F hr hb (passAt tk σ) I1 (.cons rfl .nil) q)
theorem meth_ok {cls : Nat → Option Addr} {m : Str} (T : ClsT X.prog X.w X.K X.mg X.base cls κ k) :
    ∀ (C : Addr) (n : Nat), (∃ c cl, κ.cls c = some cl ∧ cls c = some C ∧ cl.meths.lookup m = some n) → ∃ (f : Addr) (fd : FuncData) (ps : List Str), Cls X.K C ∧ Meth X.K C m f ∧ Binds X.K fd ps [] ∧ FnOk X.prog X.w X.K X.mg X.base (L2.CX X.prog X.w) k f fd ps (spOf ⟨X.K, cls⟩ κ.call n) := by
  rintro C f ⟨c, cl, h1, h2, h3⟩
  obtain ⟨C', e, ok⟩ := T c cl h1
  rw [h2] at e
  cases e
  obtain ⟨a, fd, ps, a1, a2, a3⟩ := ok.meth m f h3
  exact ⟨a, fd, ps, ok.cl, a1, a2, a3⟩
theorem c_meth {o e : Expr} {es : List Expr} {a : E} {cs : Es} {m : Str} {apos pos : Pos} {pl : Sem Bool} (T : ClsT X.prog X.w X.K X.mg X.base cls κ k) (hr : Room k X.A) (tk : Takes X W) (ho : PEc X cls W κ o a) (ha : PAc X cls W κ (e :: es) cs)
    (hst : starEach (e :: es) X.env = (false, eval e X.env) :: starEach es X.env := by rfl) (hpl : (backTo pos (starEach es X.env)).any (·.1) = false := by rfl)
    (ht : eval (.Call (.Attribute o m apos) (e :: es) [] pos) X.env = (do
      let ov ← eval o X.env
      standAt apos.atName
      let (f, first) ← holding [ov] (getMethod ov m pl)
      callWith pos f first (backTo pos (starEach (e :: es) X.env)) (backToKw pos (keywordEach [] X.env))) := by rfl) : PEc X cls W κ (.Call (.Attribute o m apos) (e :: es) [] pos) (.meth a m cs) :=
  pe_imp (pe_methA ho hr tk (meth_ok T) ha hst hpl ht) fun σ H Q q => by
    simp only [tE, evE] at q
    refine tG.bind (h := fun x r m1 => _) q fun g1 H1 m1 r1 v1 x1 rel1 rs1 hv1 q1 => ?_
    cases hv1 with
    | ref hg =>
      simp only at q1
      split at q1
      · rename_i c fs hn
        split at q1
        · rename_i f hl hf
          obtain ⟨C, dx, vs, hC, hH, hF⟩ := rel1.ins hn hg
          obtain ⟨kl, hk, hm⟩ := Option.bind_eq_some_iff.mp hf
          refine ⟨C, f, _, dx, vs, rfl, ⟨c, kl, hk, hC, hm⟩, hH, hF.lookup.2 hl, g1, m1, r1, rel1, rs1, Post.bind q1 fun g2 H2 m2 v2 x2 p t rel2 hv2 q2 => ?_⟩
          exact ⟨g2, m2, _, rel2, .cons (.ref (pre_get p hg)) hv2, q2.wish⟩
        · exact q1.elim
      · exact q1.elim
    | _ => exact q1.elim
theorem c_meth0 {o : Expr} {a : E} {m : Str} {apos pos : Pos} {pl : Sem Bool} (T : ClsT X.prog X.w X.K X.mg X.base cls κ k) (hr : Room k X.A) (tk : Takes X W) (ho : PEc X cls W κ o a)
    (ht : eval (.Call (.Attribute o m apos) [] [] pos) X.env = (do
      let ov ← eval o X.env
      standAt apos.atName
      let (f, first) ← holding [ov] (getMethod ov m pl)
      callWith pos f first (backTo pos (starEach [] X.env)) (backToKw pos (keywordEach [] X.env))) := by rfl) : PEc X cls W κ (.Call (.Attribute o m apos) [] [] pos) (.meth a m .nil) :=
  pe_imp (pe_meth0A ho hr tk (meth_ok T) ht) fun σ H Q q => by
    simp only [tE, evE] at q
    refine tG.bind (h := fun x r m1 => _) q fun g1 H1 m1 r1 v1 x1 rel1 rs1 hv1 q1 => ?_
    cases hv1 with
    | ref hg =>
      simp only at q1
      split at q1
      · rename_i c fs hn
        split at q1
        · rename_i f hl hf
          obtain ⟨C, dx, vs, hC, hH, hF⟩ := rel1.ins hn hg
          obtain ⟨kl, hk, hm⟩ := Option.bind_eq_some_iff.mp hf
          simp only [evEs, Rs.bind] at q1
          exact ⟨C, f, _, dx, vs, rfl, ⟨c, kl, hk, hC, hm⟩, hH, hF.lookup.2 hl, g1, m1, _, rel1, .cons (.ref hg) .nil, q1.wish⟩
        · exact q1.elim
      · exact q1.elim
    | _ => exact q1.elim
/-! ### fields -/
theorem attr_ok {cls : Nat → Option Addr} {c : Nat} {C : Addr} {f : Str} (T : ClsT X.prog X.w X.K X.mg X.base cls κ k) (hC : cls c = some C) (h : ((κ.cls c).map fun k => k.attrs.contains f) = some true) : Cls X.K C ∧ NoAttr X.K C f := by
  obtain ⟨kl, h1, h2⟩ := Option.map_eq_some_iff.mp h
  obtain ⟨C', e, ok⟩ := T c kl h1
  rw [hC] at e
  cases e
  exact ⟨ok.cl, ok.attr f h2⟩
theorem c_fld {o : Expr} {a : E} {f : Str} {pos : Pos} (T : ClsT X.prog X.w X.K X.mg X.base cls κ k) (ho : PEc X cls W κ o a) (hb : attributeBase o f X.env (eval o X.env) = eval o X.env := by rfl) : PEc X cls W κ (.Attribute o f pos) (.fld a f) :=
  pe_imp (pe_fld ho hb) fun σ H Q q => by
    simp only [tE, evE] at q
    refine tG.bind (h := fun x r m1 => _) q fun g1 H1 m1 r1 v1 x1 rel1 rs1 hv1 q1 => ?_
    cases hv1 with
    | ref hg =>
      simp only at q1
      split at q1
      · rename_i c fs hn
        split at q1
        · rename_i v hl hf
          obtain ⟨C, dx, vs, hC, hH, hF⟩ := rel1.ins hn hg
          obtain ⟨a1, a2⟩ := attr_ok T hC hf
          obtain ⟨w, b1, b2⟩ := hF.lookup.1 v hl
          exact ⟨_, C, dx, vs, w, rfl, hH, a1, a2, b1, q1.ret rel1 b2⟩
        · exact q1.elim
      · exact q1.elim
    | _ => exact q1.elim
/-! ### a new instance -/
theorem pe_makeA {x : Str} {C f : Addr} {fd : FuncData} {ps : List Str} {sp : Sp} {e : Expr} {es : List Expr} {t : TA} {p pos : Pos} (M : Mk X.K C f) (F : FnOk X.prog X.w X.K X.mg X.base (L2.CX X.prog X.w) k f fd ps sp) (hr : Room (k + 1) X.A) (hg : Gl X x) (hm : X.mg x = some (.ref C)) (hb : Binds X.K fd ps []) (tk : Takes X W)
    (ha : PA X (e :: es) t) (hdb : (x == ("__debug__" : Str)) = false := by decide) (he : starEach (e :: es) X.env = (false, eval e X.env) :: starEach es X.env := by rfl) (hpl : (backTo pos (starEach es X.env)).any (·.1) = false := by rfl) :
    PE X (.Call (.Name x p) (e :: es) [] pos) (fun σ H Q => t σ H fun vs H1 => ∀ x dx, H1 x = none → H1 dx = none → dx ≠ x → sp (.ref x :: vs) (upd (upd H1 dx (.own x)) x (.ins C dx [])) (fun v H2 => v = .non ∧ Q (.ref x) H2) (WE W σ)) := by
  refine ⟨fun pins s σ H Q I h => ?_⟩
  refine wpAny_Call_Name_kw (ld_glob I hg hm ?_ hdb)
  refine PySem.W.callWith_K (h₀ := X.base) I.ok.mod.kin M.kp (thn (ha.run pos pins s σ H _ I h) fun us s1 ⟨vs, H1, I1, r, q⟩ => ⟨I1.kIn, ?_⟩) he hpl
  have hq := q (s1.heap.objs.size + 1) s1.heap.objs.size (I1.hok.fresh (Nat.le_succ _)) (I1.hok.fresh (Nat.le_refl _)) (Nat.ne_of_lt (Nat.lt_succ_self _))
  have I2 := Inv.made (C := C) I1
  have r2 : Vals (V.ref (s1.heap.objs.size + 1) :: vs) (Value.ref (s1.heap.objs.size + 1) :: us) := .cons rfl r
  have hl : (Value.ref (s1.heap.objs.size + 1) :: us).length = ps.length := by
    have e := r2.length
    rw [F.len _ _ _ _ hq] at e
    exact e.symm
  refine wpAny_call (make_map (f := f) I1.kIn M.makes M.init (beq_iff_eq.mp M.fn) (codeAny_mono (F.run _ X.stack _ _ ⟨Value.ref (s1.heap.objs.size + 1) :: us, []⟩ (Value.ref (s1.heap.objs.size + 1) :: us) _ _ (WE W σ) (hr.make C us [])
    (I2.env0.make C us []) (by
      have b := hb _ (Value.ref (s1.heap.objs.size + 1) :: us) I2.kIn (by rw [List.append_nil]; exact hl)
      rw [List.append_nil] at b
      exact b) r2 hq) fun r s' hq' => ?_))
  cases r with
  | error e => exact passAt tk σ pins _ _ e s' I2 hq'
  | ok fl =>
    cases fl with
    | ret u =>
      obtain ⟨v, H', I3, rv, ev, q3⟩ := I2.after hq'
      subst ev
      exact ⟨rv, ⟨V.ref (s1.heap.objs.size + 1), H', I3, rfl, q3⟩⟩
    | next => exact False.elim hq'
    | brk => exact False.elim hq'
    | cont => exact False.elim hq'
theorem c_make {x : Str} {c : Nat} {e : Expr} {es : List Expr} {cs : Es} {p pos : Pos} (h : IsCl X.prog X.w X.K X.mg X.base cls κ k x c) (hr : Room (k + 1) X.A) (tk : Takes X W) (hg : Gl X x) (ha : PAc X cls W κ (e :: es) cs)
    (hdb : (x == ("__debug__" : Str)) = false := by decide) (he : starEach (e :: es) X.env = (false, eval e X.env) :: starEach es X.env := by rfl) (hpl : (backTo pos (starEach es X.env)).any (·.1) = false := by rfl) : PEc X cls W κ (.Call (.Name x p) (e :: es) [] pos) (.make c cs) := by
  obtain ⟨C, a, fd, ps, cl, h1, h2, h3, h4, h5, F⟩ := h
  refine pe_imp (pe_makeA h4 F hr hg h3 h5 tk ha hdb he hpl) fun σ H Q q => ?_
  simp only [tE, evE, h2] at q
  refine tG.bind (h := fun x r m1 => _) q fun g1 H1 m1 r1 v1 x1 rel1 rs1 hv1 q1 => ?_
  intro x dx hx hdx hne
  have hx2 : upd H1 dx (.own x) x = none := by rw [upd_ne hne.symm]; exact hx
  have rel2 : Rel ⟨X.K, cls⟩ g1 m1 (upd H1 dx (.own x)) := rel1.laid hdx
  have rel3 := rel2.push (u := .ins C dx []) (o := .ins c []) hx2 ⟨C, dx, [], h1, upd_same, .nil⟩
  have tk3 : TK H1 (upd (upd H1 dx (.own x)) x (.ins C dx [])) := (TK.new hdx).trans (TK.new hx2)
  have pg : g1 <+: g1 ++ [x] := List.prefix_append g1 [x]
  refine ⟨g1 ++ [x], _, .ref m1.length :: x1, rel3, .cons (.ref (by rw [← rel1.len]; simp)) (hv1.mono pg tk3), ?_⟩
  have q2 := (Post.mono pg tk3 q1)
  cases hz : κ.call cl.init (.ref m1.length :: x1) (m1 ++ [.ins c []]) with
  | ok z m2 =>
    rw [hz] at q2
    intro g' H' v p t rel' hv
    simp only [Rs.bind] at q2
    cases z with
    | non =>
      refine ⟨rep_non hv, q2 g' H' (.ref x) p t rel' (.ref ?_)⟩
      exact pre_get p (by rw [← rel1.len]; simp)
    | _ => exact q2.elim
  | ex c fs m2 => rw [hz] at q2; exact q2
  | bad => rw [hz] at q2; exact q2.elim
end
end G
set_option maxRecDepth 100000
set_option maxHeartbeats 1000000
namespace G
open PySem L2
section
variable {X : Cx} {cls : Nat → Option Addr} {W : WX} {κ : Sig} {k : Nat}
/-! ### patterns: names and tuples of them -/
mutual
def slotsP : Pat → List Nat
  | .nm i => [i]
  | .tp ps => slotsPs ps
def slotsPs : Pats → List Nat
  | .nil => []
  | .cons p ps => slotsP p ++ slotsPs ps
end
/-- the same but for the slots is -/
def SameBut (is : List Nat) (σ σ' : St) : Prop := σ'.length = σ.length ∧ ∀ i, i ∉ is → σ'[i]? = σ[i]?
theorem SameBut.refl (is : List Nat) (σ : St) : SameBut is σ σ := ⟨rfl, fun _ _ => rfl⟩
theorem SameBut.trans {is js : List Nat} {σ σ1 σ2 : St} (a : SameBut is σ σ1) (b : SameBut js σ1 σ2) : SameBut (is ++ js) σ σ2 :=
  ⟨b.1.trans a.1, fun i hi => (b.2 i fun z => hi (List.mem_append_right _ z)).trans (a.2 i fun z => hi (List.mem_append_left _ z))⟩
theorem SameBut.mono {is js : List Nat} {σ σ' : St} (a : SameBut is σ σ') (h : ∀ i ∈ is, i ∈ js) : SameBut js σ σ' := ⟨a.1, fun i hi => a.2 i fun z => hi (h i z)⟩
theorem SameBut.set {i : Nat} {σ : St} {o : Option V} : SameBut [i] σ (σ.set i o) := ⟨List.length_set, fun j hj => List.getElem?_set_ne (fun z => hj (by simp [z]))⟩
theorem wipe_len {σ : St} : ∀ {is : List Nat}, (wipe σ is).length = σ.length
  | [] => rfl
  | i :: is => by
    show ((wipe σ is).set i none).length = _
    rw [List.length_set]
    exact wipe_len
theorem wipe_at {σ : St} {j : Nat} : ∀ {is : List Nat}, j ∈ is → j < σ.length → (wipe σ is)[j]? = some none
  | i :: is, h, hl => by
    show ((wipe σ is).set i none)[j]? = _
    by_cases e : i = j
    · subst e
      rw [List.getElem?_set_self (by rw [wipe_len]; exact hl)]
    · rw [List.getElem?_set_ne e]
      refine wipe_at ?_ hl
      rcases List.mem_cons.mp h with z | z
      · exact absurd z.symm e
      · exact z
theorem wipe_eq {is : List Nat} {σ σ' : St} (a : SameBut is σ σ') : wipe σ' is = wipe σ is := by
  apply List.ext_getElem?
  intro j
  by_cases hj : j ∈ is
  · by_cases hl : j < σ.length
    · rw [wipe_at hj hl, wipe_at hj (by rw [a.1]; exact hl)]
    · rw [List.getElem?_eq_none (by rw [wipe_len, a.1]; omega), List.getElem?_eq_none (by rw [wipe_len]; omega)]
  · rw [wipe_out hj, wipe_out hj]
    exact a.2 j hj
theorem wipe_wipe {is : List Nat} {σ : St} : wipe (wipe σ is) is = wipe σ is := wipe_eq ⟨wipe_len, fun i hi => wipe_out hi⟩
def gPat (K : PySem.W.Frag) (cls : Nat → Option Addr) (p : Pat) : TG := fun v σ H Q => ∃ g d r r', RelS ⟨K, cls⟩ g H r σ ∧ Rep K g H v d ∧ bindP p d r = some r' ∧ ∀ σ', RelS ⟨K, cls⟩ g H r' σ' → SameBut (slotsP p) σ σ' → Q σ' H
def gPats (K : PySem.W.Frag) (cls : Nat → Option Addr) (p : Pats) : TGs := fun vs σ H Q => ∃ g ds r r', RelS ⟨K, cls⟩ g H r σ ∧ RepL K g H vs ds ∧ bindPs p ds r = some r' ∧ ∀ σ', RelS ⟨K, cls⟩ g H r' σ' → SameBut (slotsPs p) σ σ' → Q σ' H
abbrev PGc (X : Cx) (cls : Nat → Option Addr) (e : Expr) (p : Pat) : Prop := PG X e (gPat X.K cls p)
abbrev PGsc (X : Cx) (cls : Nat → Option Addr) (es : List Expr) (p : Pats) : Prop := PGs X es (gPats X.K cls p)
theorem pg_imp {X : Cx} {e : Expr} {t t' : TG} (h : PG X e t) (k : ∀ v σ H Q, t' v σ H Q → t v σ H Q) : PG X e t' := ⟨fun pins s σ H v u Q I r q => h.run pins s σ H v u Q I r (k v σ H Q q)⟩
theorem pgs_imp {X : Cx} {e : List Expr} {t t' : TGs} (h : PGs X e t) (k : ∀ v σ H Q, t' v σ H Q → t v σ H Q) : PGs X e t' := ⟨fun pins s σ H v u Q I r q => h.run pins s σ H v u Q I r (k v σ H Q q)⟩
theorem g_nm {e : Expr} {i : Nat} (h : PG X e (gName i)) : PGc X cls e (.nm i) := pg_imp h fun v σ H Q q => by
  obtain ⟨g, d, r, r', rs, hv, hb, q⟩ := q
  simp only [bindP, Option.some.injEq] at hb
  subst hb
  exact q _ (rs.set hv i) SameBut.set
theorem gs_nil : PGsc X cls [] .nil := pgs_imp pgs_nil fun v σ H Q q => by
  obtain ⟨g, d, r, r', rs, hv, hb, q⟩ := q
  cases hv with
  | nil =>
    simp only [bindPs, Option.some.injEq] at hb
    subst hb
    exact ⟨rfl, q _ rs (SameBut.refl _ _)⟩
  | cons _ _ => simp [bindPs] at hb
theorem gs_cons {e : Expr} {es : List Expr} {p : Pat} {ps : Pats} (h1 : PGc X cls e p) (h2 : PGsc X cls es ps)
    (hs : (assignEach (e :: es) X.env).map (·.2) = assign e X.env :: (assignEach es X.env).map (·.2) := by rfl) : PGsc X cls (e :: es) (.cons p ps) := pgs_imp (pgs_cons h1 h2 hs) fun v σ H Q q => by
  obtain ⟨g, d, r, r', rs, hv, hb, q⟩ := q
  cases hv with
  | nil => simp [bindPs] at hb
  | cons a b =>
    simp only [bindPs] at hb
    split at hb
    · rename_i r1 h1
      refine ⟨_, _, rfl, g, _, r, r1, rs, a, h1, fun σ1 rs1 s1 => ?_⟩
      exact ⟨g, _, r1, r', rs1, b, hb, fun σ2 rs2 s2 => q σ2 rs2 (by simp only [slotsPs]; exact s1.trans s2)⟩
    · cases hb
theorem bindPs_len : ∀ {ps : Pats} {ds : List D} {r r' : Rho} {n : Nat}, bindPs ps ds r = some r' → (∀ ds r r', bindPs ps ds r = some r' → ds.length = n) → ds.length = n := fun h k => k _ _ _ h
def lenPs : Pats → Nat
  | .nil => 0
  | .cons _ ps => lenPs ps + 1
theorem bindPs_length : ∀ {ps : Pats} {ds : List D} {r r' : Rho}, bindPs ps ds r = some r' → ds.length = lenPs ps
  | .nil, [], _, _, _ => rfl
  | .nil, _ :: _, _, _, h => by simp [bindPs] at h
  | .cons _ _, [], _, _, h => by simp [bindPs] at h
  | .cons p ps, x :: xs, r, r', h => by
    simp only [bindPs] at h
    split at h
    · simp only [List.length_cons, lenPs, bindPs_length h]
    · cases h
theorem g_tp {es : List Expr} {n : Nat} {ps : Pats} {pos : Pos} (hc : X.calm = true) (h : PGsc X cls es ps) (hn : (assignEach es X.env).length = lenPs ps := by rfl) (hst : (assignEach es X.env).findIdx? (·.1) = none := by rfl) : PGc X cls (.Tuple es n pos) (.tp ps) :=
  pg_imp (pg_tup hc h hn hst) fun v σ H Q q => by
    obtain ⟨g, d, r, r', rs, hv, hb, q⟩ := q
    simp only [bindP] at hb
    split at hb
    · obtain ⟨a, xs, rfl, h1, h2⟩ := rep_tup hv
      exact ⟨a, xs, rfl, h1, by rw [h2.length]; exact bindPs_length hb, g, _, r, r', rs, h2, hb, fun σ' rs' s' => q σ' rs' (by simp only [slotsP]; exact s')⟩
    · cases hb

/-! ### what is walked -/
def ItR (Γ : Cst) (g0 : List Addr) (H0 : Hp) (J : It) (z : List D × List (Nat × List D)) : Prop := ∀ g m H, g0 <+: g → TK H0 H → Rel Γ g m H → stays z.2 m = true → ∀ i : Nat,
  (∀ d, z.1[i]? = some d → J.go i H ∧ ∀ v H', J.yld i H v H' → TK H H' ∧ Rel Γ g m H' ∧ Rep Γ.K g H' v d) ∧ (z.1[i]? = none → J.stop i H)
abbrev PIc (X : Cx) (cls : Nat → Option Addr) (W : WX) (κ : Sig) (tg e : Expr) (k : ItK) (src : Es) : Prop := PI X tg e (tG ⟨X.K, cls⟩ W (ItR ⟨X.K, cls⟩) (fun r m => (evEs κ src r m).bind (itR k)))
theorem pi_imp {X : Cx} {tg e : Expr} {t t' : TI} (h : PI X tg e t) (k : ∀ σ H Q, t' σ H Q → t σ H Q) : PI X tg e t' := ⟨fun pins s σ H Q I q => h.run pins s σ H Q I (k σ H Q q)⟩
theorem pi_seq {tg l : Expr} {tl : TE} (hl : PE X l tl) : PI X tg l (fun σ H R => tl σ H fun x H1 => ∃ a, x = .ref a ∧ (((∃ xs, SqL X.K H1 a xs) ∧ R (Itl X.K a) H1) ∨ ((∃ xs, SqT X.K H1 a xs) ∧ R (Itt X.K a) H1))) := by
  refine ⟨fun pins s σ H R I h => ?_⟩
  refine thn (hl.run pins s σ H _ I h) fun v s1 ⟨x, H1, I1, r1, q1⟩ => ?_
  obtain ⟨a, e, q1⟩ := q1
  subst e
  cases r1
  rcases q1 with ⟨⟨xs, hq⟩, q⟩ | ⟨⟨xs, hq⟩, q⟩
  · obtain ⟨its, rv, p, hz⟩ := I1.list hq
    refine wpAny_pyIter_list p.isList ?_
    refine ⟨s1.heap.objs.size, [s1.heap.objs.size], _, _, H1, rfl, I1.kept (t' := s1.toks) fun b o e => Heap.get?_push_of_some _ e, turn_list a _, ⟨_, Heap.get?_push_size _ rfl, rfl, rfl⟩, fun b hb => ?_, q⟩
    have e : b = s1.heap.objs.size := by simpa using hb
    subst e
    exact I1.fpOk (Nat.le_refl _) (I1.hok.fresh (Nat.le_refl _))
  · obtain ⟨its, rv, p, hz⟩ := I1.tuple hq
    refine wpAny_pyIter_tuple (show s1.heap.IsTuple a its.toArray from p) ?_
    refine ⟨s1.heap.objs.size, [s1.heap.objs.size], _, _, H1, rfl, I1.kept (t' := s1.toks) fun b o e => Heap.get?_push_of_some _ e, turn_tuple a _, ⟨_, Heap.get?_push_size _ rfl, rfl, rfl⟩, fun b hb => ?_, q⟩
    have e : b = s1.heap.objs.size := by simpa using hb
    subst e
    exact I1.fpOk (Nat.le_refl _) (I1.hok.fresh (Nat.le_refl _))
theorem stays_at {gd : List (Nat × List D)} {m : Hs} {n : Nat} {xs : List D} (h : stays gd m = true) (hm : (n, xs) ∈ gd) : m[n]? = some (.lst xs) := by
  unfold stays at h
  have q := List.all_eq_true.mp h _ hm
  simp only at q
  split at q
  · rename_i ys hy
    rw [hy, beqL_eq _ _ q]
  · cases q
theorem go_list {a : Addr} {vs : List V} {ds : List D} {g : List Addr} {m : Hs} {H : Hp} (hs : SqL X.K H a vs) (r : RepL X.K g H vs ds) (rel : Rel ⟨X.K, cls⟩ g m H) (i : Nat) :
    (∀ d, ds[i]? = some d → (Itl X.K a).go i H ∧ ∀ v H', (Itl X.K a).yld i H v H' → TK H H' ∧ Rel ⟨X.K, cls⟩ g m H' ∧ Rep X.K g H' v d) ∧ (ds[i]? = none → (Itl X.K a).stop i H) := by
  refine ⟨fun d hd => ?_, fun hn => ⟨vs, hs, by rw [r.length]; exact List.getElem?_eq_none_iff.mp hn⟩⟩
  obtain ⟨v, h1, h2⟩ := r.get hd
  refine ⟨⟨vs, v, hs, h1⟩, fun w H' y => ?_⟩
  obtain ⟨e, y⟩ := y
  subst e
  have e2 := y vs hs
  rw [h1] at e2
  cases e2
  exact ⟨TK.refl _, rel, h2⟩
theorem go_tup {a : Addr} {vs : List V} {ds : List D} {g : List Addr} {m : Hs} {H : Hp} (hs : SqT X.K H a vs) (r : RepL X.K g H vs ds) (rel : Rel ⟨X.K, cls⟩ g m H) (i : Nat) :
    (∀ d, ds[i]? = some d → (Itt X.K a).go i H ∧ ∀ v H', (Itt X.K a).yld i H v H' → TK H H' ∧ Rel ⟨X.K, cls⟩ g m H' ∧ Rep X.K g H' v d) ∧ (ds[i]? = none → (Itt X.K a).stop i H) := by
  refine ⟨fun d hd => ?_, fun hn => ⟨vs, hs, by rw [r.length]; exact List.getElem?_eq_none_iff.mp hn⟩⟩
  obtain ⟨v, h1, h2⟩ := r.get hd
  refine ⟨⟨vs, v, hs, h1⟩, fun w H' y => ?_⟩
  obtain ⟨e, y⟩ := y
  subst e
  have e2 := y vs hs
  rw [h1] at e2
  cases e2
  exact ⟨TK.refl _, rel, h2⟩
/-- a thing that can be walked by its items: a list (with its guard) or a tuple -/
theorem guard_ok {v : V} {x : D} {ds : List D} {gd : List (Nat × List D)} {g0 : List Addr} {m0 : Hs} {H0 : Hp} (rel0 : Rel ⟨X.K, cls⟩ g0 m0 H0) (hv : Rep X.K g0 H0 v x) (h : guardOf x m0 = some (ds, gd)) :
    ∃ a, v = .ref a ∧ (isT x = false ∧ (∃ vs, SqL X.K H0 a vs) ∧ (∀ g m H, g0 <+: g → TK H0 H → Rel ⟨X.K, cls⟩ g m H → stays gd m = true → ∃ vs, SqL X.K H a vs ∧ RepL X.K g H vs ds) ∨
      isT x = true ∧ (∃ vs, SqT X.K H0 a vs) ∧ (∀ g m H, g0 <+: g → TK H0 H → Rel ⟨X.K, cls⟩ g m H → stays gd m = true → ∃ vs, SqT X.K H a vs ∧ RepL X.K g H vs ds)) := by
  cases hv with
  | @tup a vs _ hs r =>
    simp only [guardOf, Option.some.injEq, Prod.mk.injEq] at h
    obtain ⟨rfl, rfl⟩ := h
    exact ⟨a, rfl, .inr ⟨rfl, ⟨vs, hs⟩, fun g m H p t rel _ => ⟨vs, t.seqT hs, r.mono p t⟩⟩⟩
  | @fl a vs _ hs r =>
    simp only [guardOf, Option.some.injEq, Prod.mk.injEq] at h
    obtain ⟨rfl, rfl⟩ := h
    have sq : ∀ H, TK H0 H → SqL X.K H a vs := fun H t => by
      rcases hs with ⟨o, h⟩ | h
      · exact .inl (.inr ⟨o, t.frz _ _ _ h⟩)
      · exact h H
    exact ⟨a, rfl, .inl ⟨rfl, ⟨vs, sq _ (TK.refl _)⟩, fun g m H p t rel _ => ⟨vs, sq H t, r.mono p t⟩⟩⟩
  | @ref a n hg =>
    simp only [guardOf] at h
    split at h
    · rename_i xs hx
      simp only [Option.some.injEq, Prod.mk.injEq] at h
      obtain ⟨rfl, rfl⟩ := h
      refine ⟨a, rfl, .inl ⟨rfl, ?_, fun g m H p t rel st => ?_⟩⟩
      · obtain ⟨vs, h1, _⟩ := rel0.lst hx hg
        exact ⟨vs, SqL.of h1⟩
      · obtain ⟨vs, h1, h2⟩ := rel.lst (stays_at st (List.mem_singleton.mpr rfl)) (pre_get p hg)
        exact ⟨vs, SqL.of h1, h2⟩
    · cases h
  | non => simp [guardOf] at h
  | bl _ => simp [guardOf] at h
  | int _ => simp [guardOf] at h
  | str _ => simp [guardOf] at h
theorem i_seq {tg e : Expr} {c : E} (h : PEc X cls W κ e c) : PIc X cls W κ tg e .seq (.cons c .nil) := pi_imp (pi_seq h) fun σ H R q => by
  obtain ⟨g, m, r, rel, rs, q⟩ := q
  refine ⟨g, m, r, rel, rs, ?_⟩
  simp only [evEs] at q
  cases hz : evE κ c r m with
  | ok x m1 =>
    rw [hz] at q
    simp only [Rs.bind, itR] at q
    intro g' H' v p t rel' hv
    split at q
    · rename_i z hi
      simp only [itS] at hi
      obtain ⟨ds, gd⟩ := z
      obtain ⟨a, rfl, h⟩ := guard_ok rel' hv hi
      refine ⟨a, rfl, ?_⟩
      rcases h with ⟨_, h0, h⟩ | ⟨_, h0, h⟩
      · refine .inl ⟨h0, q g' H' _ p t rel' fun g2 m2 H2 p2 t2 rel2 st i => ?_⟩
        obtain ⟨vs, a1, a2⟩ := h g2 m2 H2 p2 t2 rel2 st
        exact go_list a1 a2 rel2 i
      · refine .inr ⟨h0, q g' H' _ p t rel' fun g2 m2 H2 p2 t2 rel2 st i => ?_⟩
        obtain ⟨vs, a1, a2⟩ := h g2 m2 H2 p2 t2 rel2 st
        exact go_tup a1 a2 rel2 i
    · exact q.elim
  | ex c fs m1 => rw [hz] at q; exact q
  | bad => rw [hz] at q; exact q
theorem rng_ok {lo : Int} {n : Nat} {g0 : List Addr} {H0 : Hp} : ItR ⟨X.K, cls⟩ g0 H0 (Itr lo n) (rngL lo n, []) := fun g m H p t rel st i => by
  refine ⟨fun d hd => ?_, fun hn => ?_⟩
  · unfold rngL at hd
    rw [List.getElem?_map, Option.map_eq_some_iff] at hd
    obtain ⟨j, h1, h2⟩ := hd
    have hi : i < n := by
      have := (List.getElem?_eq_some_iff.mp h1).1
      simpa using this
    rw [List.getElem?_range hi] at h1
    cases h1
    refine ⟨hi, fun v H' y => ?_⟩
    obtain ⟨e1, e2⟩ := y
    subst e1
    subst e2
    rw [← h2]
    exact ⟨TK.refl _, rel, .int _⟩
  · have := List.getElem?_eq_none_iff.mp hn
    unfold rngL at this
    rw [List.length_map, List.length_range] at this
    exact this
theorem rng1_inv {xs : List D} {m : Hs} {z : List D × List (Nat × List D)} (h : itS .rng1 xs m = some z) : ∃ n : Int, xs = [.int n] ∧ (-(2 ^ 62) ≤ n ∧ n < 2 ^ 62) ∧ z = (rngL 0 n.toNat, []) := by
  rcases xs with _ | ⟨d, _ | ⟨d2, t⟩⟩
  · simp [itS] at h
  · cases d <;> simp only [itS, reduceCtorEq] at h
    rename_i n
    split at h
    · rename_i hn
      exact ⟨n, rfl, hn, (Option.some.inj h).symm⟩
    · cases h
  · cases d <;> simp [itS] at h
theorem rng2_inv {xs : List D} {m : Hs} {z : List D × List (Nat × List D)} (h : itS .rng2 xs m = some z) : ∃ a b : Int, xs = [.int a, .int b] ∧ (-(2 ^ 62) ≤ a ∧ a < 2 ^ 62 ∧ -(2 ^ 62) ≤ b ∧ b < 2 ^ 62) ∧ z = (rngL a (b - a).toNat, []) := by
  rcases xs with _ | ⟨d, _ | ⟨d2, _ | ⟨d3, t⟩⟩⟩
  · simp [itS] at h
  · cases d <;> simp [itS] at h
  · cases d <;> first | (simp only [itS, reduceCtorEq] at h; done) | (cases d2 <;> simp only [itS, reduceCtorEq] at h)
    rename_i a b
    split at h
    · rename_i hn
      exact ⟨a, b, rfl, hn, (Option.some.inj h).symm⟩
    · cases h
  · cases d <;> first | (simp only [itS, reduceCtorEq] at h; done) | (cases d2 <;> simp [itS] at h)
theorem i_rng1 {tg e : Expr} {c : E} {p pos : Pos} (h : PAc X cls W κ [e] (.cons c .nil)) (hi : ∀ {t : TA}, PA X [e] t → PI X tg (.Call (.Name "range" p) [e] [] pos) (iRng1 t)) : PIc X cls W κ tg (.Call (.Name "range" p) [e] [] pos) .rng1 (.cons c .nil) := pi_imp (hi h) fun σ H R q => by
  refine tG.bind (h := fun x r m1 => itR .rng1 x m1) q fun g1 H1 m1 r1 v1 x1 rel1 rs1 hv1 q1 => ?_
  unfold itR at q1
  split at q1
  · rename_i z hz
    obtain ⟨n, rfl, hn, rfl⟩ := rng1_inv hz
    cases hv1 with
    | cons a b =>
      cases a
      cases b
      exact ⟨n, rfl, hn.1, hn.2, q1.ret rel1 rng_ok⟩
  · exact q1.elim
theorem i_rng2 {tg e e2 : Expr} {c c2 : E} {p pos : Pos} (h : PAc X cls W κ [e, e2] (.cons c (.cons c2 .nil))) (hi : ∀ {t : TA}, PA X [e, e2] t → PI X tg (.Call (.Name "range" p) [e, e2] [] pos) (iRng2 t)) : PIc X cls W κ tg (.Call (.Name "range" p) [e, e2] [] pos) .rng2 (.cons c (.cons c2 .nil)) := pi_imp (hi h) fun σ H R q => by
  refine tG.bind (h := fun x r m1 => itR .rng2 x m1) q fun g1 H1 m1 r1 v1 x1 rel1 rs1 hv1 q1 => ?_
  unfold itR at q1
  split at q1
  · rename_i z hz
    obtain ⟨a, b, rfl, hn, rfl⟩ := rng2_inv hz
    cases hv1 with
    | cons a b =>
      cases a
      cases b with
      | cons a b =>
        cases a
        cases b
        exact ⟨_, _, rfl, hn, q1.ret rel1 rng_ok⟩
  · exact q1.elim
/-! ### zip -/
theorem zipL_get : ∀ (xs ys : List D) (i : Nat), (zipL xs ys)[i]? = match xs[i]?, ys[i]? with | some x, some y => some (.tup [x, y]) | _, _ => none
  | [], ys, i => by simp [zipL]
  | x :: xs, [], i => by
    simp [zipL]
  | x :: xs, y :: ys, 0 => by simp [zipL]
  | x :: xs, y :: ys, i + 1 => by simp only [zipL, List.getElem?_cons_succ]; exact zipL_get xs ys i
theorem stays_app {g h : List (Nat × List D)} {m : Hs} (s : stays (g ++ h) m = true) : stays g m = true ∧ stays h m = true := by
  unfold stays at s ⊢
  rw [List.all_append, Bool.and_eq_true] at s
  exact s
theorem zip_step {H : Hp} {g : List Addr} {m : Hs} {x y : V} {d e : D} {T : Addr} (rel : Rel ⟨X.K, cls⟩ g m H) (hx : Rep X.K g H x d) (hy : Rep X.K g H y e) (hT : H T = none) : TK H (upd H T (.tup [x, y])) ∧ Rel ⟨X.K, cls⟩ g m (upd H T (.tup [x, y])) ∧ Rep X.K g (upd H T (.tup [x, y])) (.ref T) (.tup [d, e]) :=
  ⟨TK.new hT, rel.laid hT, .tup (SqT.of upd_same) (.cons (hx.mono (List.prefix_refl g) (TK.new hT)) (.cons (hy.mono (List.prefix_refl g) (TK.new hT)) .nil))⟩
theorem zipinv {xs : List D} {m : Hs} {z : List D × List (Nat × List D)} (h : itS .zip xs m = some z) : ∃ x y ds gd es ge, xs = [x, y] ∧ guardOf x m = some (ds, gd) ∧ guardOf y m = some (es, ge) ∧ isT x = isT y ∧ z = (zipL ds es, gd ++ ge) := by
  rcases xs with _ | ⟨d, _ | ⟨d2, _ | ⟨d3, t⟩⟩⟩
  · simp [itS] at h
  · simp [itS] at h
  · simp only [itS] at h
    split at h
    · rename_i h1 h2
      split at h
      · rename_i h3
        exact ⟨d, d2, _, _, _, _, rfl, h1, h2, h3, (Option.some.inj h).symm⟩
      · cases h
    · cases h
  · simp [itS] at h
theorem i_zip {e e2 : Expr} {c c2 : E} {p pos tpos : Pos} {elts : List Expr} {kk : Nat} (hg : Gl X "zip") (hm : X.mg "zip" = none) (h : PAc X cls W κ [e, e2] (.cons c (.cons c2 .nil)))
    (hs : starEach [e, e2] X.env = (false, eval e X.env) :: starEach [e2] X.env := by rfl) (hpl : (backTo pos (starEach [e2] X.env)).any (·.1) = false := by rfl) : PIc X cls W κ (.Tuple elts kk tpos) (.Call (.Name "zip" p) [e, e2] [] pos) .zip (.cons c (.cons c2 .nil)) :=
  pi_imp (RZ.pi_zipA hg hm h hs hpl) fun σ H R q => by
    refine tG.bind (h := fun x r m1 => itR .zip x m1) q fun g1 H1 m1 r1 v1 x1 rel1 rs1 hv1 q1 => ?_
    unfold itR at q1
    split at q1
    · rename_i z hz
      obtain ⟨x, y, ds, gd, es, ge, rfl, hgx, hgy, hT, rfl⟩ := zipinv hz
      cases hv1 with
      | cons ax b =>
        cases b with
        | cons ay b =>
          cases b
          obtain ⟨a, rfl, ha⟩ := guard_ok rel1 ax hgx
          obtain ⟨b, rfl, hb⟩ := guard_ok rel1 ay hgy
          rcases ha with ⟨ka, ⟨vs, ha0⟩, ha⟩ | ⟨ka, ⟨vs, ha0⟩, ha⟩
          · rcases hb with ⟨kb, ⟨ws, hb0⟩, hb⟩ | ⟨kb, ⟨ws, hb0⟩, hb⟩
            · refine ⟨a, b, vs, ws, rfl, .inl ⟨ha0, hb0, q1.ret rel1 fun g m H p t rel st i => ?_⟩⟩
              obtain ⟨xs, a1, a2⟩ := ha g m H p t rel (stays_app st).1
              obtain ⟨ys, b1, b2⟩ := hb g m H p t rel (stays_app st).2
              refine ⟨fun d hd => ?_, fun hn => ?_⟩
              · rw [zipL_get] at hd
                split at hd
                · rename_i h1 h2
                  cases hd
                  obtain ⟨v, c1, c2⟩ := a2.get h1
                  obtain ⟨w, d1, d2⟩ := b2.get h2
                  refine ⟨⟨xs, ys, v, w, a1, b1, c1, d1⟩, fun u H' yl => ?_⟩
                  obtain ⟨T, x', y', rfl, hT, rfl, e1, e2⟩ := yl
                  have f1 := e1 xs a1
                  have f2 := e2 ys b1
                  rw [c1] at f1
                  rw [d1] at f2
                  cases f1
                  cases f2
                  exact zip_step rel c2 d2 hT
                · cases hd
              · rw [zipL_get] at hn
                refine ⟨xs, ys, a1, b1, ?_⟩
                split at hn
                · cases hn
                · rename_i hno
                  cases h1 : ds[i]? with
                  | none => exact .inl (by rw [a2.length]; exact List.getElem?_eq_none_iff.mp h1)
                  | some d =>
                    cases h2 : es[i]? with
                    | none => exact .inr (by rw [b2.length]; exact List.getElem?_eq_none_iff.mp h2)
                    | some e => exact (hno d e h1 h2).elim
            · rw [ka, kb] at hT
              cases hT
          · rcases hb with ⟨kb, ⟨ws, hb0⟩, hb⟩ | ⟨kb, ⟨ws, hb0⟩, hb⟩
            · rw [ka, kb] at hT
              cases hT
            · refine ⟨a, b, vs, ws, rfl, .inr ⟨ha0, hb0, q1.ret rel1 fun g m H p t rel st i => ?_⟩⟩
              obtain ⟨xs, a1, a2⟩ := ha g m H p t rel (stays_app st).1
              obtain ⟨ys, b1, b2⟩ := hb g m H p t rel (stays_app st).2
              refine ⟨fun d hd => ?_, fun hn => ?_⟩
              · rw [zipL_get] at hd
                split at hd
                · rename_i h1 h2
                  cases hd
                  obtain ⟨v, c1, c2⟩ := a2.get h1
                  obtain ⟨w, d1, d2⟩ := b2.get h2
                  refine ⟨⟨xs, ys, v, w, a1, b1, c1, d1⟩, fun u H' yl => ?_⟩
                  obtain ⟨T, x', y', rfl, hT, rfl, e1, e2⟩ := yl
                  have f1 := e1 xs a1
                  have f2 := e2 ys b1
                  rw [c1] at f1
                  rw [d1] at f2
                  cases f1
                  cases f2
                  exact zip_step rel c2 d2 hT
                · cases hd
              · rw [zipL_get] at hn
                refine ⟨xs, ys, a1, b1, ?_⟩
                split at hn
                · cases hn
                · rename_i hno
                  cases h1 : ds[i]? with
                  | none => exact .inl (by rw [a2.length]; exact List.getElem?_eq_none_iff.mp h1)
                  | some d =>
                    cases h2 : es[i]? with
                    | none => exact .inr (by rw [b2.length]; exact List.getElem?_eq_none_iff.mp h2)
                    | some e => exact (hno d e h1 h2).elim
    · exact q1.elim
end
end G
set_option maxRecDepth 100000
set_option maxHeartbeats 2000000
namespace G
open PySem L2 PySem.Spec PyProof.Rows
open AutoSeq1 (wpAny_loadPart')

theorem meets_enumT (l : Addr) (items : Array Value) (n : Nat) (dct : Option Addr) (sl : Array (Option Value)) :
    Meets (Builtin.«enumerate.__new__» ⟨[.type "enumerate", .ref l], []⟩) (fun _ R s => s.heap.get? l = some { cls := .type "tuple", dict := dct, data := .seq items n, slots := sl } ∧
      R (.ok (.ret (.ref (s.heap.push { cls := .type "tuple_iterator", data := .fields #[.ref l, .int 0 0] }).objs.size)))
        { s with heap := (s.heap.push { cls := .type "tuple_iterator", data := .fields #[.ref l, .int 0 0] }).push { cls := .type "enumerate", data := .fields #[.none, .bool false, .ref s.heap.objs.size, rawInt 0, .none, .none] } }) :=
  .of_wp fun prog w A R s h => by
    obtain ⟨hp, g, d, tk, os⟩ := s; obtain ⟨hl, h⟩ := h
    have hsub := sub_enumerate
    have hL : Heap.IsTuple (Shared.heap ⟨hp, g, d, tk, os⟩) l items := ⟨_, hl, rfl, n, rfl⟩
    wp_walk using wpAny_loadPart' hl
    refine wpAny_stack_any fun st => wpAny_pure ?_
    split
    · rename_i c _ _ _ _ _
      cases (c == Value.type "enumerate")
      · wp_walk using wpAny_loadPart' hl, wpAny_pyIter_tuple hL
        exact ⟨_, rfl, h⟩
      · wp_walk using wpAny_loadPart' hl, wpAny_pyIter_tuple hL
        exact ⟨_, rfl, h⟩
    · wp_walk using wpAny_loadPart' hl, wpAny_pyIter_tuple hL
      exact ⟨_, rfl, h⟩
section
variable {prog : Program} {w : World} {A : Around} {E : Value → Shared → Prop} {s : Shared}
theorem call_enumerate_tuple {l : Addr} {items : Array Value} {Q : Value → Shared → Prop} (hL : s.heap.IsTuple l items)
    (h : ∀ h', IsEnum h' (s.heap.objs.size + 1) s.heap.objs.size 0 .none → h'.IsTupleIter s.heap.objs.size l 0 → h'.objs.size = s.heap.objs.size + 2 →
      (∀ b o, s.heap.get? b = some o → h'.get? b = some o) → Q (.ref (s.heap.objs.size + 1)) { s with heap := h' }) :
    wpAny (model prog w) A (PySem.call (.type "enumerate") [.ref l]) Q E s := by
  obtain ⟨⟨c, dct, dt, sl⟩, hl, hc, n, hd⟩ := hL
  replace hc : c = .type "tuple" := hc
  replace hd : dt = .seq items n := hd
  subst hc hd
  refine callType_new F.called_enumerate (by decide) (F.typeCall_enumerate_1 _) (F.newCall_enumerate_1 _) (fun obj => F.args_object_init_2 obj _) F.entry_enumerate_new
    (meets_enumT l items n dct sl) ⟨hl, ?_⟩
  have hz : (s.heap.push { cls := .type "tuple_iterator", data := .fields #[.ref l, .int 0 0] }).objs.size = s.heap.objs.size + 1 := Heap.size_push ..
  show _ ∧ _
  rw [hz]
  have he : IsEnum ((s.heap.push { cls := .type "tuple_iterator", data := .fields #[.ref l, .int 0 0] }).push
      { cls := .type "enumerate", data := .fields #[.none, .bool false, .ref s.heap.objs.size, rawInt 0, .none, .none] }) (s.heap.objs.size + 1) s.heap.objs.size 0 .none := by
    have := Heap.get?_push_size (s.heap.push { cls := .type "tuple_iterator", data := .fields #[.ref l, .int 0 0] })
      (o := { cls := .type "enumerate", data := .fields #[.none, .bool false, .ref s.heap.objs.size, rawInt 0, .none, .none] }) rfl
    rw [hz] at this; exact this
  refine ⟨⟨_, he, rfl⟩, h _ he ⟨_, Heap.get?_push_of_some _ (Heap.get?_push_size _ rfl), rfl, rfl⟩ (by rw [Heap.size_push, hz]) fun b o x => Heap.get?_push_of_some _ (Heap.get?_push_of_some _ x)⟩
end
section
variable {prog : Program} {w : World} {A : Around} {E : Value → Shared → Prop} {s : Shared}
theorem wpAny_pyNext_enum_endT {e it l : Addr} {i : Nat} {c : Int} {items : Array Value} {old : Value} {Q : Option Value → Shared → Prop} (hh : A.handled = none)
    (he : IsEnum s.heap e it c old) (hit : s.heap.IsTupleIter it l i) (hl : s.heap.IsTuple l items) (hx : items[i]? = none)
    (hQ : ∀ h', Heap.ExtBut it s.heap h' → Q none { s with heap := h' }) : wpAny (model prog w) A (pyNext (.ref e)) Q E s := by
  have hT : s.TypeIs (.ref e) "enumerate" := ⟨_, he, rfl⟩
  unfold pyNext
  refine wpAny_bind (wpAny_attempt (wpAny_callSpecial?_slot (name := Str.ofString "__next__") hT F.slot_enumerate_next
    (wpAny_call_entry F.slot_enumerate_next hT F.entry_enumerate_next ?_ (F.args_enumerate_next_1 _))))
  show wpAny _ _ (field (.ref e) 2 >>= _) _ _ _
  refine wpAny_bind (wpAny_field he rfl (x := .ref it) rfl ?_)
  refine wpAny_bind (wpAny_nextOf_tuple_end hh hit hl hx fun h' x he' hx' => ?_)
  obtain ⟨o, ho, hc⟩ := hx'
  refine wpAny_bind (wpAny_isInstance (T := "StopIteration") (b := true) ⟨o, ho, hc⟩ isSubtype_stop ?_)
  exact wpAny_pure (hQ _ he')
theorem wpAny_pyNext_enum_endL {e it l : Addr} {i : Nat} {c : Int} {items : Array Value} {old : Value} {Q : Option Value → Shared → Prop} (hh : A.handled = none)
    (he : IsEnum s.heap e it c old) (hit : s.heap.IsListIter it l i) (hl : s.heap.IsList l items) (hx : items[i]? = none)
    (hQ : ∀ h', Heap.ExtBut it s.heap h' → Q none { s with heap := h' }) : wpAny (model prog w) A (pyNext (.ref e)) Q E s := by
  have hT : s.TypeIs (.ref e) "enumerate" := ⟨_, he, rfl⟩
  unfold pyNext
  refine wpAny_bind (wpAny_attempt (wpAny_callSpecial?_slot (name := Str.ofString "__next__") hT F.slot_enumerate_next
    (wpAny_call_entry F.slot_enumerate_next hT F.entry_enumerate_next ?_ (F.args_enumerate_next_1 _))))
  show wpAny _ _ (field (.ref e) 2 >>= _) _ _ _
  refine wpAny_bind (wpAny_field he rfl (x := .ref it) rfl ?_)
  refine wpAny_bind (wpAny_nextOf_list_end hh hit hl hx fun h' x he' hx' => ?_)
  obtain ⟨o, ho, hc⟩ := hx'
  refine wpAny_bind (wpAny_isInstance (T := "StopIteration") (b := true) ⟨o, ho, hc⟩ isSubtype_stop ?_)
  exact wpAny_pure (hQ _ he')
end
/-- counted items of what sq tells -/
def ItE (sq : Hp → List V → Prop) (k : Int) : It :=
  ⟨fun i H => ∃ xs x, sq H xs ∧ xs[i]? = some x, fun i H v H' => ∃ T x, v = .ref T ∧ H T = none ∧ H' = upd H T (.tup [.int (k + i), x]) ∧ ∀ xs, sq H xs → xs[i]? = some x, fun i H => ∃ xs, sq H xs ∧ xs.length ≤ i⟩
section
variable {P : Program} {w : World} {K : PySem.W.Frag} {elts : List Expr} {kk : Nat} {tpos : Pos}
theorem turn_enumT (a e it : Addr) (k : Int) :
    Turn P w K (.Tuple elts kk tpos) (ItE (fun H xs => SqT K H a xs) k) [e, it] e (fun i h => (∃ old, IsEnum h e it (k + ((i : Nat) : Int)) old) ∧ h.IsTupleIter it a i ∧ e ≠ it ∧ a ≠ it ∧ a ≠ e) where
  mem := by simp
  obj := fun i h st b hb => by
    obtain ⟨⟨old, he⟩, ⟨o, ho, hc, hd⟩, _⟩ := st
    have e' : b = e ∨ b = it := by simpa using hb
    rcases e' with z | z
    · rw [z]; exact ⟨_, he, fun v q => nomatch q⟩
    · rw [z]; exact ⟨o, ho, fun v q => by rw [hd] at q; cases q⟩
  keep := fun i h h' st kp => let ⟨⟨old, he⟩, hi, hne⟩ := st; ⟨⟨old, kp e (by simp) _ he⟩, hi.at fun o q => kp it (by simp) o q, hne⟩
  item := by
    intro X hP hw hK hc i pins s σ H E I hf st hg
    subst hP hw hK
    obtain ⟨⟨old, he⟩, hit, hne, hai, hae⟩ := st
    obtain ⟨xs, x, hq, hx⟩ := hg
    obtain ⟨its, rv, p, hz⟩ := I.tuple hq
    obtain ⟨u, hu, ru⟩ := rv.get hx
    have hel : e < s.heap.objs.size := Heap.lt_size he
    have hil : it < s.heap.objs.size := by obtain ⟨_, q, _⟩ := hit; exact Heap.lt_size q
    have hlt : i < its.toArray.size := by
      rw [List.size_toArray]
      exact (List.getElem?_eq_some_iff.mp hu).1
    refine wpAny_pyNext_enum_itemC (Draws.tuple (prog := X.prog) (w := X.w) (A := X.A.in1) (show X.A.in1.handled = none from I.ok.hd hc) it a hai its.toArray) he ⟨hit, p⟩ hlt hne (fun z => (List.mem_cons.mp z).elim hne fun z => hae (List.mem_singleton.mp z).symm) fun x2 h' tk hP ho hs' hT hsz hk => ?_
    have hx2 : x2 = u := by
      have q : its.toArray[i]? = some u := by simpa using hu
      rw [hP] at q
      exact Option.some.inj q
    subst hx2
    refine ⟨_, rfl, wpAny_letOwnedTupleGo_enum (s := { s with heap := h', toks := tk + 1 }) ho fun h'' he' sb => ?_⟩
    have hT2 : h''.get? s.heap.objs.size = some { cls := .type "tuple", data := .seq #[.int (k + ((i : Nat) : Int)) tk, x2] } := (sb.2 _ (Nat.ne_of_gt hel)).trans hT
    have new : ObjOk X.prog X.w (upd H s.heap.objs.size (.tup [.int (k + ((i : Nat) : Int)), x])) h'' s.heap.objs.size (.tup [.int (k + ((i : Nat) : Int)), x]) :=
      ⟨by show 2 ≤ sizeLine; decide, [.int (k + ((i : Nat) : Int)) tk, x2], .cons ⟨_, rfl⟩ (.cons ru .nil), ⟨_, hT2, rfl, _, rfl⟩⟩
    have I1 : Inv X pins σ (upd H s.heap.objs.size (.tup [.int (k + ((i : Nat) : Int)), x])) { s with heap := h'', toks := tk + 1 } :=
      I.turnedNew (ch := [e, it]) (fun b ob hb q => (sb.2 b (fun z => hb (by simp [z]))).trans (hk b ob (fun z => hb (by simp [z])) (fun z => hb (by simp [z])) q)) hf (Nat.le_refl _) new
    refine ⟨.ref s.heap.objs.size, _, I1, rfl, ⟨_, x, rfl, I.hok.fresh (Nat.le_refl _), rfl, fun ys hy => by rw [I.tuple_inj hy hq]; exact hx⟩, ⟨⟨x2, ?_⟩, hs'.1.at fun o q => (sb.2 it (Ne.symm hne)).trans q, hne, hai, hae⟩, fun b hb => ?_⟩
    · have e1 : k + ((i + 1 : Nat) : Int) = k + (i : Int) + 1 := by omega
      rw [e1]; exact he'
    · have hb' : b < s.heap.objs.size := by
        have e' : b = e ∨ b = it := by simpa using hb
        rcases e' with z | z
        · rw [z]; exact hel
        · rw [z]; exact hil
      rw [upd_ne (Nat.ne_of_lt hb')]
      exact (hf b hb).1
  done := by
    intro X hP hw hK hc i pins s σ H E I hf st hg
    subst hP hw hK
    obtain ⟨⟨old, he⟩, hit, hne, hai, hae⟩ := st
    obtain ⟨xs, hq, hx⟩ := hg
    obtain ⟨its, rv, p, hz⟩ := I.tuple hq
    obtain ⟨f0, f1, f2, f3, f4, f5⟩ := hf it (by simp)
    have hl := rv.length
    exact wpAny_pyNext_enum_endT (i := i) (I.ok.hd hc) he hit p (by simp; omega) fun h' eb => ⟨rfl, I.turned (t' := s.toks) (fun b o hb q => eb b o hb q) f0 f1 f3 f4 f5⟩
  self := fun A i s Q E st h => let ⟨⟨_, he⟩, _⟩ := st; wpAny_pyIter_enum he h
theorem turn_enumL (a e it : Addr) (k : Int) :
    Turn P w K (.Tuple elts kk tpos) (ItE (fun H xs => SqL K H a xs) k) [e, it] e (fun i h => (∃ old, IsEnum h e it (k + ((i : Nat) : Int)) old) ∧ h.IsListIter it a i ∧ e ≠ it ∧ a ≠ it ∧ a ≠ e) where
  mem := by simp
  obj := fun i h st b hb => by
    obtain ⟨⟨old, he⟩, ⟨o, ho, hc, hd⟩, _⟩ := st
    have e' : b = e ∨ b = it := by simpa using hb
    rcases e' with z | z
    · rw [z]; exact ⟨_, he, fun v q => nomatch q⟩
    · rw [z]; exact ⟨o, ho, fun v q => by rw [hd] at q; cases q⟩
  keep := fun i h h' st kp => let ⟨⟨old, he⟩, hi, hne⟩ := st; ⟨⟨old, kp e (by simp) _ he⟩, hi.at fun o q => kp it (by simp) o q, hne⟩
  item := by
    intro X hP hw hK hc i pins s σ H E I hf st hg
    subst hP hw hK
    obtain ⟨⟨old, he⟩, hit, hne, hai, hae⟩ := st
    obtain ⟨xs, x, hq, hx⟩ := hg
    obtain ⟨its, rv, p, hz⟩ := I.list hq
    obtain ⟨u, hu, ru⟩ := rv.get hx
    have hel : e < s.heap.objs.size := Heap.lt_size he
    have hil : it < s.heap.objs.size := by obtain ⟨_, q, _⟩ := hit; exact Heap.lt_size q
    have hlt : i < its.toArray.size := by
      rw [List.size_toArray]
      exact (List.getElem?_eq_some_iff.mp hu).1
    refine wpAny_pyNext_enum_itemC (Draws.list (prog := X.prog) (w := X.w) (A := X.A.in1) (show X.A.in1.handled = none from I.ok.hd hc) it a hai its.toArray) he ⟨hit, p.isList⟩ hlt hne (fun z => (List.mem_cons.mp z).elim hne fun z => hae (List.mem_singleton.mp z).symm) fun x2 h' tk hP ho hs' hT hsz hk => ?_
    have hx2 : x2 = u := by
      have q : its.toArray[i]? = some u := by simpa using hu
      rw [hP] at q
      exact Option.some.inj q
    subst hx2
    refine ⟨_, rfl, wpAny_letOwnedTupleGo_enum (s := { s with heap := h', toks := tk + 1 }) ho fun h'' he' sb => ?_⟩
    have hT2 : h''.get? s.heap.objs.size = some { cls := .type "tuple", data := .seq #[.int (k + ((i : Nat) : Int)) tk, x2] } := (sb.2 _ (Nat.ne_of_gt hel)).trans hT
    have new : ObjOk X.prog X.w (upd H s.heap.objs.size (.tup [.int (k + ((i : Nat) : Int)), x])) h'' s.heap.objs.size (.tup [.int (k + ((i : Nat) : Int)), x]) :=
      ⟨by show 2 ≤ sizeLine; decide, [.int (k + ((i : Nat) : Int)) tk, x2], .cons ⟨_, rfl⟩ (.cons ru .nil), ⟨_, hT2, rfl, _, rfl⟩⟩
    have I1 : Inv X pins σ (upd H s.heap.objs.size (.tup [.int (k + ((i : Nat) : Int)), x])) { s with heap := h'', toks := tk + 1 } :=
      I.turnedNew (ch := [e, it]) (fun b ob hb q => (sb.2 b (fun z => hb (by simp [z]))).trans (hk b ob (fun z => hb (by simp [z])) (fun z => hb (by simp [z])) q)) hf (Nat.le_refl _) new
    refine ⟨.ref s.heap.objs.size, _, I1, rfl, ⟨_, x, rfl, I.hok.fresh (Nat.le_refl _), rfl, fun ys hy => by rw [I.list_inj hy hq]; exact hx⟩, ⟨⟨x2, ?_⟩, hs'.1.at fun o q => (sb.2 it (Ne.symm hne)).trans q, hne, hai, hae⟩, fun b hb => ?_⟩
    · have e1 : k + ((i + 1 : Nat) : Int) = k + (i : Int) + 1 := by omega
      rw [e1]; exact he'
    · have hb' : b < s.heap.objs.size := by
        have e' : b = e ∨ b = it := by simpa using hb
        rcases e' with z | z
        · rw [z]; exact hel
        · rw [z]; exact hil
      rw [upd_ne (Nat.ne_of_lt hb')]
      exact (hf b hb).1
  done := by
    intro X hP hw hK hc i pins s σ H E I hf st hg
    subst hP hw hK
    obtain ⟨⟨old, he⟩, hit, hne, hai, hae⟩ := st
    obtain ⟨xs, hq, hx⟩ := hg
    obtain ⟨its, rv, p, hz⟩ := I.list hq
    obtain ⟨f0, f1, f2, f3, f4, f5⟩ := hf it (by simp)
    have hl := rv.length
    exact wpAny_pyNext_enum_endL (i := i) (I.ok.hd hc) he hit p.isList (by simp; omega) fun h' eb => ⟨rfl, I.turned (t' := s.toks) (fun b o hb q => eb b o hb q) f0 f1 f3 f4 f5⟩
  self := fun A i s Q E st h => let ⟨⟨_, he⟩, _⟩ := st; wpAny_pyIter_enum he h

/-! ### enumerate(x), enumerate(x, k) -/
theorem fp2 {X : Cx} {pins : List (Addr × Obj)} {σ : L2.St} {H : Hp} {s : Shared} (I : Inv X pins σ H s) : ∀ b ∈ [s.heap.objs.size + 1, s.heap.objs.size], FpOk X pins H b := fun b hb => by
  have e' : b = s.heap.objs.size + 1 ∨ b = s.heap.objs.size := by simpa using hb
  have hle : s.heap.objs.size ≤ b := by
    rcases e' with z | z
    · rw [z]; exact Nat.le_add_right _ _
    · rw [z]; exact Nat.le_refl _
  exact I.fpOk hle (I.hok.fresh hle)
def iEnA (K : PySem.W.Frag) (ta : TA) : TI := fun σ H R => ta σ H fun vs H1 => ∃ a xs, vs = [.ref a] ∧ ((SqL K H1 a xs ∧ R (ItE (fun H xs => SqL K H a xs) 0) H1) ∨ (SqT K H1 a xs ∧ R (ItE (fun H xs => SqT K H a xs) 0) H1))
theorem pi_enumA {X : Cx} {e : Expr} {ta : TA} {p pos tpos : Pos} {elts : List Expr} {kk : Nat} (hg : Gl X "enumerate") (hm : X.mg "enumerate" = none) (ha : PA X [e] ta) (hs : starEach [e] X.env = [(false, eval e X.env)] := by rfl) :
    PI X (.Tuple elts kk tpos) (.Call (.Name "enumerate" p) [e] [] pos) (iEnA X.K ta) := by
  refine ⟨fun pins s σ H R I h => ?_⟩
  refine Call_ (ld_blt I hg hm boot_enumerate (PyProof.Rows.callWith_type1 (thn (ha.run pos pins s σ H _ I h) fun us s1 ⟨vs, H1, I1, r1, q1⟩ => ?_) hs rfl))
  obtain ⟨a, xs, ex, q1⟩ := q1
  subst ex
  cases r1 with
  | cons r rr =>
    cases rr
    cases r
    rcases q1 with ⟨hq, q⟩ | ⟨hq, q⟩
    · obtain ⟨its, rv, p', hz⟩ := I1.list hq
      have ha : a < s1.heap.objs.size := by obtain ⟨o, ho, _⟩ := p'.isList; exact Heap.lt_size ho
      refine call_enumerate_list p'.isList fun h' he hit hsz hk => wpAny_pyIter_enum he ?_
      have I2 : Inv X pins σ H1 { s1 with heap := h' } := I1.kept (t' := s1.toks) hk
      exact ⟨s1.heap.objs.size + 1, [s1.heap.objs.size + 1, s1.heap.objs.size], _, _, H1, rfl, I2, turn_enumL a (s1.heap.objs.size + 1) s1.heap.objs.size 0, ⟨⟨.none, by simpa using he⟩, hit, Nat.succ_ne_self _, Nat.ne_of_lt ha, Nat.ne_of_lt (Nat.lt_succ_of_lt ha)⟩, fp2 I1, q⟩
    · obtain ⟨its, rv, p', hz⟩ := I1.tuple hq
      have ha : a < s1.heap.objs.size := p'.lt
      refine call_enumerate_tuple p' fun h' he hit hsz hk => wpAny_pyIter_enum he ?_
      have I2 : Inv X pins σ H1 { s1 with heap := h' } := I1.kept (t' := s1.toks) hk
      exact ⟨s1.heap.objs.size + 1, [s1.heap.objs.size + 1, s1.heap.objs.size], _, _, H1, rfl, I2, turn_enumT a (s1.heap.objs.size + 1) s1.heap.objs.size 0, ⟨⟨.none, by simpa using he⟩, hit, Nat.succ_ne_self _, Nat.ne_of_lt ha, Nat.ne_of_lt (Nat.lt_succ_of_lt ha)⟩, fp2 I1, q⟩
def iEnB (K : PySem.W.Frag) (ta : TA) : TI := fun σ H R => ta σ H fun vs H1 => ∃ a xs k, vs = [.ref a, .int k] ∧ (-(2 ^ 63) ≤ k ∧ k < 2 ^ 63) ∧ ((SqL K H1 a xs ∧ R (ItE (fun H xs => SqL K H a xs) k) H1) ∨ (SqT K H1 a xs ∧ R (ItE (fun H xs => SqT K H a xs) k) H1))
theorem pi_enumB {X : Cx} {e e2 : Expr} {ta : TA} {p pos tpos : Pos} {elts : List Expr} {kk : Nat} (hg : Gl X "enumerate") (hm : X.mg "enumerate" = none) (ha : PA X [e, e2] ta) (hs : starEach [e, e2] X.env = (false, eval e X.env) :: starEach [e2] X.env := by rfl) (hpl : (backTo pos (starEach [e2] X.env)).any (·.1) = false := by rfl) :
    PI X (.Tuple elts kk tpos) (.Call (.Name "enumerate" p) [e, e2] [] pos) (iEnB X.K ta) := by
  refine ⟨fun pins s σ H R I h => ?_⟩
  refine Call_ (ld_blt I hg hm boot_enumerate (PyProof.Rows.callWith_type1 (thn (ha.run pos pins s σ H _ I h) fun us s1 ⟨vs, H1, I1, r1, q1⟩ => ?_) hs hpl))
  obtain ⟨a, xs, k, ex, hk, q1⟩ := q1
  subst ex
  cases r1 with
  | cons r rr =>
    cases rr with
    | cons r2 rr =>
      cases rr
      cases r
      obtain ⟨t, rfl⟩ := r2
      rcases q1 with ⟨hq, q⟩ | ⟨hq, q⟩
      · obtain ⟨its, rv, p', hz⟩ := I1.list hq
        have ha : a < s1.heap.objs.size := by obtain ⟨o, ho, _⟩ := p'.isList; exact Heap.lt_size ho
        refine enum_begins (begins_list a its.toArray) p'.isList hk.1 hk.2 fun h' he hit hsz hkk => wpAny_pyIter_enum he ?_
        have I2 : Inv X pins σ H1 { s1 with heap := h' } := I1.kept (t' := s1.toks) hkk
        exact ⟨s1.heap.objs.size + 1, [s1.heap.objs.size + 1, s1.heap.objs.size], _, _, H1, rfl, I2, turn_enumL a (s1.heap.objs.size + 1) s1.heap.objs.size k, ⟨⟨.none, by simpa using he⟩, ⟨_, hit, rfl, rfl⟩, Nat.succ_ne_self _, Nat.ne_of_lt ha, Nat.ne_of_lt (Nat.lt_succ_of_lt ha)⟩, fp2 I1, q⟩
      · obtain ⟨its, rv, p', hz⟩ := I1.tuple hq
        have ha : a < s1.heap.objs.size := p'.lt
        refine enum_begins (begins_tuple a its.toArray) p' hk.1 hk.2 fun h' he hit hsz hkk => wpAny_pyIter_enum he ?_
        have I2 : Inv X pins σ H1 { s1 with heap := h' } := I1.kept (t' := s1.toks) hkk
        exact ⟨s1.heap.objs.size + 1, [s1.heap.objs.size + 1, s1.heap.objs.size], _, _, H1, rfl, I2, turn_enumT a (s1.heap.objs.size + 1) s1.heap.objs.size k, ⟨⟨.none, by simpa using he⟩, ⟨_, hit, rfl, rfl⟩, Nat.succ_ne_self _, Nat.ne_of_lt ha, Nat.ne_of_lt (Nat.lt_succ_of_lt ha)⟩, fp2 I1, q⟩
end
section
variable {X : Cx} {cls : Nat → Option Addr} {W : WX} {κ : Sig} {k : Nat}
theorem enumL_get : ∀ (s : Int) (xs : List D) (i : Nat), (enumL s xs)[i]? = (xs[i]?).map fun x => .tup [.int (s + (i : Nat)), x]
  | s, [], i => by simp [enumL]
  | s, x :: xs, 0 => by simp [enumL]
  | s, x :: xs, i + 1 => by
    simp only [enumL, List.getElem?_cons_succ]
    rw [enumL_get (s + 1) xs i]
    have e : s + 1 + ((i : Nat) : Int) = s + ((i + 1 : Nat) : Int) := by omega
    rw [e]
theorem enum_go {sq : Hp → List V → Prop} {g : List Addr} {m : Hs} {H : Hp} {vs : List V} {ds : List D} {s : Int} (hs : sq H vs) (hu : ∀ ws, sq H ws → True) (r : RepL X.K g H vs ds) (rel : Rel ⟨X.K, cls⟩ g m H) (i : Nat) :
    (∀ d, (enumL s ds)[i]? = some d → (ItE sq s).go i H ∧ ∀ v H', (ItE sq s).yld i H v H' → TK H H' ∧ Rel ⟨X.K, cls⟩ g m H' ∧ Rep X.K g H' v d) ∧ ((enumL s ds)[i]? = none → (ItE sq s).stop i H) := by
  refine ⟨fun d hd => ?_, fun hn => ?_⟩
  · rw [enumL_get, Option.map_eq_some_iff] at hd
    obtain ⟨x, h1, h2⟩ := hd
    obtain ⟨v, c1, c2⟩ := r.get h1
    refine ⟨⟨vs, v, hs, c1⟩, fun u H' yl => ?_⟩
    obtain ⟨T, x', rfl, hT, rfl, e1⟩ := yl
    have f1 := e1 vs hs
    rw [c1] at f1
    cases f1
    rw [← h2]
    exact zip_step rel (.int _) c2 hT
  · rw [enumL_get, Option.map_eq_none_iff] at hn
    exact ⟨vs, hs, by rw [r.length]; exact List.getElem?_eq_none_iff.mp hn⟩
theorem enuminv {xs : List D} {m : Hs} {z : List D × List (Nat × List D)} (h : itS .enum xs m = some z) : ∃ x ds gd, xs = [x] ∧ guardOf x m = some (ds, gd) ∧ z = (enumL 0 ds, gd) := by
  rcases xs with _ | ⟨d, _ | ⟨d2, t⟩⟩
  · simp [itS] at h
  · simp only [itS] at h
    split at h
    · rename_i h1
      exact ⟨d, _, _, rfl, h1, (Option.some.inj h).symm⟩
    · cases h
  · simp [itS] at h
theorem enum2inv {xs : List D} {m : Hs} {z : List D × List (Nat × List D)} (h : itS .enum2 xs m = some z) : ∃ x s ds gd, xs = [x, .int s] ∧ (-(2 ^ 63) ≤ s ∧ s < 2 ^ 63) ∧ guardOf x m = some (ds, gd) ∧ z = (enumL s ds, gd) := by
  rcases xs with _ | ⟨d, _ | ⟨d2, _ | ⟨d3, t⟩⟩⟩
  · simp [itS] at h
  · simp [itS] at h
  · cases d2 <;> simp only [itS, reduceCtorEq] at h
    rename_i s
    split at h
    · rename_i hs
      split at h
      · rename_i h1
        exact ⟨d, s, _, _, rfl, hs, h1, (Option.some.inj h).symm⟩
      · cases h
    · cases h
  · simp [itS] at h
theorem i_enum {e : Expr} {c : E} {p pos tpos : Pos} {elts : List Expr} {kk : Nat} (hg : Gl X "enumerate") (hm : X.mg "enumerate" = none) (h : PAc X cls W κ [e] (.cons c .nil)) (hs : starEach [e] X.env = [(false, eval e X.env)] := by rfl) :
    PIc X cls W κ (.Tuple elts kk tpos) (.Call (.Name "enumerate" p) [e] [] pos) .enum (.cons c .nil) :=
  pi_imp (pi_enumA hg hm h hs) fun σ H R q => by
    refine tG.bind (h := fun x r m1 => itR .enum x m1) q fun g1 H1 m1 r1 v1 x1 rel1 rs1 hv1 q1 => ?_
    unfold itR at q1
    split at q1
    · rename_i z hz
      obtain ⟨x, ds, gd, rfl, hx, rfl⟩ := enuminv hz
      · cases hv1 with
        | cons ax b =>
          cases b
          obtain ⟨a, rfl, ha⟩ := guard_ok rel1 ax hx
          rcases ha with ⟨ka, ⟨vs, ha0⟩, ha⟩ | ⟨ka, ⟨vs, ha0⟩, ha⟩
          · refine ⟨a, vs, rfl, .inl ⟨ha0, q1.ret rel1 fun g m H p t rel st i => ?_⟩⟩
            obtain ⟨xs, a1, a2⟩ := ha g m H p t rel st
            exact enum_go a1 (fun _ _ => trivial) a2 rel i
          · refine ⟨a, vs, rfl, .inr ⟨ha0, q1.ret rel1 fun g m H p t rel st i => ?_⟩⟩
            obtain ⟨xs, a1, a2⟩ := ha g m H p t rel st
            exact enum_go a1 (fun _ _ => trivial) a2 rel i
    · exact q1.elim
theorem i_enum2 {e e2 : Expr} {c c2 : E} {p pos tpos : Pos} {elts : List Expr} {kk : Nat} (hg : Gl X "enumerate") (hm : X.mg "enumerate" = none) (h : PAc X cls W κ [e, e2] (.cons c (.cons c2 .nil))) (hs : starEach [e, e2] X.env = (false, eval e X.env) :: starEach [e2] X.env := by rfl) (hpl : (backTo pos (starEach [e2] X.env)).any (·.1) = false := by rfl) :
    PIc X cls W κ (.Tuple elts kk tpos) (.Call (.Name "enumerate" p) [e, e2] [] pos) .enum2 (.cons c (.cons c2 .nil)) :=
  pi_imp (pi_enumB hg hm h hs hpl) fun σ H R q => by
    refine tG.bind (h := fun x r m1 => itR .enum2 x m1) q fun g1 H1 m1 r1 v1 x1 rel1 rs1 hv1 q1 => ?_
    unfold itR at q1
    split at q1
    · rename_i z hz
      obtain ⟨x, s, ds, gd, rfl, hs, hx, rfl⟩ := enum2inv hz
      · cases hv1 with
        | cons ax b =>
          cases b with
          | cons ay b =>
            cases b
            cases ay
            obtain ⟨a, rfl, ha⟩ := guard_ok rel1 ax hx
            rcases ha with ⟨ka, ⟨vs, ha0⟩, ha⟩ | ⟨ka, ⟨vs, ha0⟩, ha⟩
            · refine ⟨a, vs, s, rfl, hs, .inl ⟨ha0, q1.ret rel1 fun g m H p t rel st i => ?_⟩⟩
              obtain ⟨xs, a1, a2⟩ := ha g m H p t rel st
              exact enum_go a1 (fun _ _ => trivial) a2 rel i
            · refine ⟨a, vs, s, rfl, hs, .inr ⟨ha0, q1.ret rel1 fun g m H p t rel st i => ?_⟩⟩
              obtain ⟨xs, a1, a2⟩ := ha g m H p t rel st
              exact enum_go a1 (fun _ _ => trivial) a2 rel i
    · exact q1.elim
end
end G
set_option maxRecDepth 100000
set_option maxHeartbeats 2000000
namespace G
open PySem L2
section
variable {X : Cx} {cls : Nat → Option Addr} {W : WX} {κ : Sig} {k : Nat}
/-! ### built-in functions -/
def ServesC (X : Cx) (cls : Nat → Option Addr) (r : List V → Hp → VK → Prop) (f : List D → Hs → Rs D) : Prop := ∀ (W : WX) (σ : St) (g : List Addr) (H : Hp) (m : Hs) (vs : List V) (ds : List D) (Q : VK),
  Rel ⟨X.K, cls⟩ g m H → RepL X.K g H vs ds → Post ⟨X.K, cls⟩ W (rD ⟨X.K, cls⟩) σ g H Q (f ds m) → r vs H Q
theorem c_bi {e : Expr} {es : List Expr} {fe : Expr} {pos : Pos} {b : Bi} {cs : Es} {r : List V → Hp → VK → Prop} (sv : ServesC X cls r (biS b)) (ha : PAc X cls W κ es cs) (h : ∀ {t : TA}, PA X es t → PE X e (tCB r t)) : PEc X cls W κ e (.bi b cs) :=
  pe_imp (h ha) fun σ H Q q => by
    simp only [tE, evE] at q
    refine tG.bind (h := fun x r m1 => _) q fun g1 H1 m1 r1 v1 x1 rel1 rs1 hv1 q1 => ?_
    exact sv W σ g1 H1 m1 v1 x1 Q rel1 hv1 q1
def rLenA (K : PySem.W.Frag) : List V → Hp → VK → Prop := fun xs H Q => (∃ p ys, xs = [.ref p] ∧ (SqL K H p ys ∨ SqT K H p ys) ∧ Q (.int ys.length) H) ∨ (∃ z, xs = [.str z] ∧ z.length ≤ sizeLine ∧ Q (.int z.length) H)
theorem call_lenA : CallR X (.builtin "len") (rLenA X.K) := call_len_seq.or call_len_str
theorem sv_len : ServesC X cls (rLenA X.K) (biS .len) := by
  intro W σ g H m vs ds Q rel hv q
  rcases ds with _ | ⟨d, _ | ⟨d2, t⟩⟩
  · exact q.elim
  · cases hv with
    | cons a b =>
      cases b
      cases hd : d with
      | str s =>
        subst hd
        simp only [biS] at q
        split at q
        · rename_i hz
          rw [rep_str a]
          exact .inr ⟨s, rfl, hz, q.ret rel (.int _)⟩
        · exact q.elim
      | _ =>
        rw [hd] at q a
        simp only [biS] at q
        split at q
        · rename_i xs hx
          obtain ⟨p, ys, rfl, hs, r⟩ := rep_seq rel a hx
          exact .inl ⟨p, ys, rfl, hs, by rw [r.length]; exact q.ret rel (.int _)⟩
        · exact q.elim
  · cases d <;> exact q.elim
theorem sv_abs : ServesC X cls (fun xs H Q => ∃ i, xs = [.int i] ∧ Q (.int (if i < 0 then -i else i)) H) (biS .abs) := by
  intro W σ g H m vs ds Q rel hv q
  rcases ds with _ | ⟨d, _ | ⟨d2, t⟩⟩
  · exact q.elim
  · cases hv with
    | cons a b =>
      cases b
      cases a with
      | int i => exact ⟨i, rfl, q.ret rel (.int _)⟩
      | _ => exact q.elim
  · cases d <;> exact q.elim
theorem sv_min2 : ServesC X cls (fun xs H Q => ∃ i j, xs = [.int i, .int j] ∧ Q (.int (if j < i then j else i)) H) (biS .min2) := by
  intro W σ g H m vs ds Q rel hv q
  rcases ds with _ | ⟨d, _ | ⟨d2, _ | ⟨d3, t⟩⟩⟩
  · exact q.elim
  · cases d <;> exact q.elim
  · cases hv with
    | cons a b =>
      cases b with
      | cons a' b =>
        cases b
        cases a with
        | int i => cases a' with
          | int j => exact ⟨i, j, rfl, q.ret rel (.int _)⟩
          | _ => exact q.elim
        | _ => cases a' <;> exact q.elim
  · cases d <;> cases d2 <;> exact q.elim
theorem sv_max2 : ServesC X cls (fun xs H Q => ∃ i j, xs = [.int i, .int j] ∧ Q (.int (if j > i then j else i)) H) (biS .max2) := by
  intro W σ g H m vs ds Q rel hv q
  rcases ds with _ | ⟨d, _ | ⟨d2, _ | ⟨d3, t⟩⟩⟩
  · exact q.elim
  · cases d <;> exact q.elim
  · cases hv with
    | cons a b =>
      cases b with
      | cons a' b =>
        cases b
        cases a with
        | int i => cases a' with
          | int j => exact ⟨i, j, rfl, q.ret rel (.int _)⟩
          | _ => exact q.elim
        | _ => cases a' <;> exact q.elim
  · cases d <;> cases d2 <;> exact q.elim
theorem sv_int : ServesC X cls (fun xs H Q => (∃ i, xs = [.int i] ∧ Q (.int i) H) ∨ ∃ k, xs = [.bl k] ∧ Q (.int (if k then 1 else 0)) H) (biS .int) := by
  intro W σ g H m vs ds Q rel hv q
  rcases ds with _ | ⟨d, _ | ⟨d2, t⟩⟩
  · exact q.elim
  · cases hv with
    | cons a b =>
      cases b
      cases a with
      | int i => exact .inl ⟨i, rfl, q.ret rel (.int _)⟩
      | bl i => exact .inr ⟨i, rfl, q.ret rel (.int _)⟩
      | _ => exact q.elim
  · cases d <;> exact q.elim
theorem sumI_ok {g : List Addr} {H : Hp} : ∀ {ds : List D} {vs : List V} {s : Int}, sumI ds = some s → RepL X.K g H vs ds → ∃ ns : List Int, vs = ns.map V.int ∧ ns.sum = s
  | [], _, s, h, .nil => ⟨[], rfl, by simp only [sumI, Option.some.injEq] at h; exact h⟩
  | .int i :: ds, _, s, h, .cons (.int _) r => by
    simp only [sumI, Option.map_eq_some_iff] at h
    obtain ⟨t, h1, h2⟩ := h
    obtain ⟨ns, rfl, e⟩ := sumI_ok h1 r
    exact ⟨i :: ns, rfl, by rw [List.sum_cons, e]; exact h2⟩
  | .non :: ds, _, s, h, _ => by simp [sumI] at h
  | .bl _ :: ds, _, s, h, _ => by simp [sumI] at h
  | .str _ :: ds, _, s, h, _ => by simp [sumI] at h
  | .tup _ :: ds, _, s, h, _ => by simp [sumI] at h
  | .fl _ :: ds, _, s, h, _ => by simp [sumI] at h
  | .ref _ :: ds, _, s, h, _ => by simp [sumI] at h
theorem bools_ok {g : List Addr} {H : Hp} : ∀ {ds : List D} {vs : List V} {bs : List Bool}, boolsOf ds = some bs → RepL X.K g H vs ds → vs = bs.map V.bl
  | [], _, s, h, .nil => by simp only [boolsOf, Option.some.injEq] at h; subst h; rfl
  | .bl i :: ds, _, s, h, .cons (.bl _) r => by
    simp only [boolsOf, Option.map_eq_some_iff] at h
    obtain ⟨t, h1, rfl⟩ := h
    rw [bools_ok h1 r]
    rfl
  | .non :: ds, _, s, h, _ => by simp [boolsOf] at h
  | .int _ :: ds, _, s, h, _ => by simp [boolsOf] at h
  | .str _ :: ds, _, s, h, _ => by simp [boolsOf] at h
  | .tup _ :: ds, _, s, h, _ => by simp [boolsOf] at h
  | .fl _ :: ds, _, s, h, _ => by simp [boolsOf] at h
  | .ref _ :: ds, _, s, h, _ => by simp [boolsOf] at h
theorem sv_sum : ServesC X cls (rSum X.K) (biS .sum) := by
  intro W σ g H m vs ds Q rel hv q
  rcases ds with _ | ⟨d, _ | ⟨d2, t⟩⟩
  · exact q.elim
  · cases hv with
    | cons a b =>
      cases b
      cases a with
      | ref hg =>
        simp only [biS] at q
        split at q
        · rename_i xs hx
          split at q
          · rename_i s hs
            obtain ⟨ys, h1, h2⟩ := rel.lst hx hg
            obtain ⟨ns, rfl, e⟩ := sumI_ok hs h2
            exact ⟨_, ns, rfl, SqL.of h1, by rw [e]; exact q.ret rel (.int _)⟩
          · exact q.elim
        · exact q.elim
      | _ => exact q.elim
  · cases d <;> exact q.elim
theorem sv_all : ServesC X cls (rAll X.K) (biS .all) := by
  intro W σ g H m vs ds Q rel hv q
  rcases ds with _ | ⟨d, _ | ⟨d2, t⟩⟩
  · exact q.elim
  · cases hv with
    | cons a b =>
      cases b
      cases a with
      | ref hg =>
        simp only [biS] at q
        split at q
        · rename_i xs hx
          split at q
          · rename_i s hs
            obtain ⟨ys, h1, h2⟩ := rel.lst hx hg
            rw [bools_ok hs h2] at h1
            exact ⟨_, s, rfl, SqL.of h1, q.ret rel (.bl _)⟩
          · exact q.elim
        · exact q.elim
      | _ => exact q.elim
  · cases d <;> exact q.elim
theorem sv_any : ServesC X cls (rAny X.K) (biS .any) := by
  intro W σ g H m vs ds Q rel hv q
  rcases ds with _ | ⟨d, _ | ⟨d2, t⟩⟩
  · exact q.elim
  · cases hv with
    | cons a b =>
      cases b
      cases a with
      | ref hg =>
        simp only [biS] at q
        split at q
        · rename_i xs hx
          split at q
          · rename_i s hs
            obtain ⟨ys, h1, h2⟩ := rel.lst hx hg
            rw [bools_ok hs h2] at h1
            exact ⟨_, s, rfl, SqL.of h1, q.ret rel (.bl _)⟩
          · exact q.elim
        · exact q.elim
      | _ => exact q.elim
  · cases d <;> exact q.elim
theorem sv_tuple : ServesC X cls (fun xs H Q => ∃ p ys, xs = [.ref p] ∧ ((SqL X.K H p ys ∧ ∀ l, H l = none → Q (.ref l) (upd H l (.tup ys))) ∨ (SqT X.K H p ys ∧ Q (.ref p) H))) (biS .tuple) := by
  intro W σ g H m vs ds Q rel hv q
  rcases ds with _ | ⟨d, _ | ⟨d2, t⟩⟩
  · exact q.elim
  · cases hv with
    | cons a b =>
      cases b
      cases a with
      | ref hg =>
        simp only [biS] at q
        split at q
        · rename_i xs hx
          obtain ⟨ys, h1, h2⟩ := rel.lst hx hg
          exact ⟨_, ys, rfl, .inl ⟨SqL.of h1, fun l hl => q.newT rel h2 hl⟩⟩
        · exact q.elim
      | tup h r => exact ⟨_, _, rfl, .inr ⟨h, q.ret rel (.tup h r)⟩⟩
      | fl h r =>
        refine ⟨_, _, rfl, .inl ⟨?_, fun l hl => q.newT rel r hl⟩⟩
        rcases h with ⟨o, h⟩ | h
        · exact .inl (.inr ⟨o, h⟩)
        · exact h H
      | _ => exact q.elim
  · cases d <;> exact q.elim
theorem sv_list : ServesC X cls (fun xs H Q => ∃ p ys, xs = [.ref p] ∧ (SqL X.K H p ys ∨ SqT X.K H p ys) ∧ ∀ l, H l = none → Q (.ref l) (upd H l (.lst ys))) (biS .list) := by
  intro W σ g H m vs ds Q rel hv q
  rcases ds with _ | ⟨d, _ | ⟨d2, t⟩⟩
  · exact q.elim
  · cases hv with
    | cons a b =>
      cases b
      simp only [biS] at q
      split at q
      · rename_i xs hx
        obtain ⟨p, ys, rfl, hs, r⟩ := rep_seq rel a hx
        exact ⟨p, ys, rfl, hs, fun l hl => q.newL rel r hl⟩
      · exact q.elim
  · exact q.elim
/-! ### isinstance -/
def tyN : Ty → String
  | .non => "NoneType" | .bl => "bool" | .int => "int" | .str => "str" | .tup => "tuple" | .lst => "list"
theorem ty_ok {g : List Addr} {H : Hp} {m : Hs} {v : V} {x : D} {t : Ty} (rel : Rel ⟨X.K, cls⟩ g m H) (h : Rep X.K g H v x) (e : tyD x m = some t) : TyX X.K H v (.type (tyN t)) := by
  cases h with
  | non => simp only [tyD, Option.some.injEq] at e; subst e; exact .base .non
  | bl b => simp only [tyD, Option.some.injEq] at e; subst e; exact .base (.bl b)
  | int b => simp only [tyD, Option.some.injEq] at e; subst e; exact .base (.int b)
  | str b => simp only [tyD, Option.some.injEq] at e; subst e; exact .base (.str b)
  | tup h r =>
    simp only [tyD, Option.some.injEq] at e
    subst e
    rcases h with (h | ⟨o, h⟩) | ⟨o, its, n, h, hc, _⟩
    · exact .base (.tup h)
    · exact .fTuple h
    · exact .kTuple h hc
  | fl h r =>
    simp only [tyD, Option.some.injEq] at e
    subst e
    rcases h with ⟨o, h⟩ | h
    · exact .base (.frz h)
    · rcases h (fun _ => none) with (h | ⟨o, h⟩) | ⟨o, its, n, h, hc, _⟩
      · cases h
      · cases h
      · exact .kList h hc
  | ref h =>
    simp only [tyD] at e
    split at e
    · rename_i xs hx
      cases e
      obtain ⟨ys, h1, h2⟩ := rel.lst hx h
      exact .base (.lst h1)
    · cases e
theorem kit_all {K : PySem.W.Frag} (u t : Ty) (ht : t ≠ .non) : PySem.W.kitOne K (.type (tyN u)) (.type (tyN t)) = some (decide (u = t) || (decide (u = .bl) && decide (t = .int))) := by
  apply kit_ty
  cases t <;> first | exact absurd rfl ht | (cases u <;> decide +kernel)
theorem c_isi {e : Expr} {c : E} {T : Str} {t : Ty} {p p2 pos : Pos} (ht : t ≠ .non) (hg : Gl X "isinstance") (hm : X.mg "isinstance" = none) (hg2 : Gl X T) (hm2 : X.mg T = none) (hv2 : bootBuiltins T = some (.type (tyN t))) (ha : PEc X cls W κ e c)
    (hn : T ≠ "__name__" := by decide) (hd : (T == ("__debug__" : Str)) = false := by decide) (hs : starEach [e, .Name T p2] X.env = (false, eval e X.env) :: starEach [.Name T p2] X.env := by rfl) (hpl : (backTo pos (starEach [.Name T p2] X.env)).any (·.1) = false := by rfl) :
    PEc X cls W κ (.Call (.Name "isinstance" p) [e, .Name T p2] [] pos) (.bi (.isi t) (.cons c .nil)) :=
  pe_imp (pe_callB (pos := pos) call_isi hg hm (by decide +kernel) (pa_cons ha (pa_cons (pe_bltn hg2 hm2 hv2 (show RelV (.ty (tyN t)) _ from rfl) hn hd) pa_nil) hs) (by decide) (by decide) hs hpl) fun σ H Q q => by
    obtain ⟨g, m, r, rel, rs, q⟩ := q
    refine ⟨g, m, r, rel, rs, ?_⟩
    simp only [evE, evEs] at q
    cases hz : evE κ c r m with
    | ok x m1 =>
      rw [hz] at q
      simp only [Rs.bind, biS] at q
      intro g' H' v p t' rel' hv
      split at q
      · rename_i u hu
        exact ⟨v, .ty (tyN t), _, _, _, rfl, .ty _, ty_ok rel' hv hu, kit_all u t ht, q g' H' _ p t' rel' (.bl _)⟩
      · exact q.elim
    | ex c fs m1 => rw [hz] at q; exact q
    | bad => rw [hz] at q; exact q
end
end G
set_option maxRecDepth 100000
set_option maxHeartbeats 2000000
namespace G
open PySem L2
abbrev WF : WX := fun _ _ _ _ => False
section
variable {X : Cx} {cls : Nat → Option Addr} {W : WX} {κ : Sig} {k : Nat}
/-! ### list comprehensions -/
theorem calm_bind {Γ : Cst} {σ : St} {g : List Addr} {H : Hp} {Q : VK} {α β : Type} {r : Rs α} {f : α → Hs → Rs β} {h : β → Hs → Rs D} (q : Post Γ W (rD Γ) σ g H Q ((Rs.calm (r.bind f)).bind h)) :
    (∃ x m, r = .ok x m ∧ Post Γ W (rD Γ) σ g H Q ((Rs.calm (f x m)).bind h)) := by
  cases r with
  | ok x m => exact ⟨x, m, rfl, q⟩
  | ex c fs m => exact q.elim
  | bad => exact q.elim
/-- what a turn of a comprehension does -/
def lcT (κ : Sig) (p : Pat) (tst : Es) (elt : E) (own : List Nat) (r : Rho) (x : D) (m2 : Hs) : Rs (Option D) := match bindP p x (wipeD r own) with
  | some r2 => Rs.calm ((evEs κ tst r2 m2).bind fun ts m3 => match testsOf ts m3 with
    | some true => (evE κ elt r2 m3).bind fun y m4 => .ok (some y) m4
    | some false => .ok none m3
    | none => .bad)
  | none => .bad
theorem evE_lc {κ : Sig} {kd : ItK} {src : Es} {p : Pat} {tst : Es} {elt : E} {own : List Nat} {r : Rho} {m : Hs} : evE κ (.lc kd src p tst elt own) r m = ((evEs κ src r m).bind (itR kd)).bind fun z m1 =>
      (lcL m1.length z.2 (lcT κ p tst elt own r) z.1 (m1 ++ [.lst []])).bind fun _ m5 => .ok (.ref m1.length) m5 := by
  simp only [evE]
  rfl
/-- the tests of a clause: none, or one -/
def tTs (Γ : Cst) (κ : Sig) (tst : Es) : TT := tG Γ WF (fun _ _ (v : Bool) (b : Bool) => v = b) (fun r m => (evEs κ tst r m).bind fun ts m1 => match testsOf ts m1 with | some b => .ok b m1 | none => .bad)
abbrev PTsc (X : Cx) (cls : Nat → Option Addr) (κ : Sig) (e : List Expr) (c : Es) : Prop := PTs X e (tTs ⟨X.K, cls⟩ κ c)
theorem pts_imp {X : Cx} {e : List Expr} {t t' : TT} (h : PTs X e t) (k : ∀ σ H Q, t' σ H Q → t σ H Q) : PTs X e t' := ⟨fun pins s σ H Q I q => h.run pins s σ H Q I (k σ H Q q)⟩
theorem t_nil : PTsc X cls κ [] .nil := pts_imp pts_nil fun σ H Q q => by
  obtain ⟨g, m, r, rel, rs, q⟩ := q
  simp only [evEs, Rs.bind, testsOf] at q
  exact q.ret rel rfl
theorem t_one {e : Expr} {c : E} (h : PTc X cls WF κ e c) : PTsc X cls κ [e] (.cons c .nil) := pts_imp (pts_one h) fun σ H Q q => by
  obtain ⟨g, m, r, rel, rs, q⟩ := q
  refine ⟨g, m, r, rel, rs, ?_⟩
  simp only [evT, evEs] at q ⊢
  cases hz : evE κ c r m with
  | ok x m1 => rw [hz] at q; exact q
  | ex c fs m1 => rw [hz] at q; exact q
  | bad => rw [hz] at q; exact q
theorem lc_ok {kd : ItK} {src : Es} {p : Pat} {tst : Es} {elt : E} {own : List Nat} {σ : St} {H : Hp} {Q : VK} (hp : ∀ i ∈ slotsP p, i ∈ own)
    (q : tG ⟨X.K, cls⟩ W (rD ⟨X.K, cls⟩) (evE κ (.lc kd src p tst elt own)) σ H Q) :
    tLc (tG ⟨X.K, cls⟩ W (ItR ⟨X.K, cls⟩) (fun r m => (evEs κ src r m).bind (itR kd))) (gPat X.K cls p) (tTs ⟨X.K, cls⟩ κ tst) (tE ⟨X.K, cls⟩ WF κ elt) own σ H Q := by
  have e : evE κ (.lc kd src p tst elt own) = fun r m => ((evEs κ src r m).bind (itR kd)).bind fun z m1 => (lcL m1.length z.2 (lcT κ p tst elt own r) z.1 (m1 ++ [.lst []])).bind fun _ m5 => .ok (.ref m1.length) m5 := by
    funext r m
    exact evE_lc
  rw [e] at q
  refine tG.bind (h := fun z r m1 => (lcL m1.length z.2 (lcT κ p tst elt own r) z.1 (m1 ++ [.lst []])).bind fun _ m5 => .ok (D.ref m1.length) m5) q fun g1 H1 m1 r1 J z rel1 rs1 hv1 q1 => ?_
  intro A hA
  obtain ⟨its, gd⟩ := z
  have pg : g1 <+: g1 ++ [A] := List.prefix_append g1 [A]
  have rel2 : Rel ⟨X.K, cls⟩ (g1 ++ [A]) (m1 ++ [.lst []]) (upd H1 A (.lst [])) := rel1.push hA ⟨[], upd_same, .nil⟩
  have hh : (g1 ++ [A])[m1.length]? = some A := by rw [← rel1.len]; simp
  refine ⟨fun i n H' => n = its.length - i ∧ ∃ g m, g1 ++ [A] <+: g ∧ TK H1 H' ∧ Rel ⟨X.K, cls⟩ g m H' ∧ RelS ⟨X.K, cls⟩ g H' r1 σ ∧
    Post ⟨X.K, cls⟩ W (rD ⟨X.K, cls⟩) σ g H' Q ((lcL m1.length gd (lcT κ p tst elt own r1) (its.drop i) m).bind fun _ m5 => .ok (.ref m1.length) m5),
    ⟨its.length, by simp, _, _, List.prefix_refl _, TK.new hA, rel2, rs1.mono pg (TK.new hA), by simpa using Post.mono pg (TK.new hA) q1⟩, ?_⟩
  rintro i n H' ⟨rfl, g, m, pgg, tk, rel, rs, q2⟩
  have st : stays gd m = true := by
    cases hd : its.drop i with
    | nil =>
      rw [hd] at q2
      simp only [lcL] at q2
      split at q2
      · assumption
      · exact q2.elim
    | cons x xs =>
      rw [hd] at q2
      simp only [lcL] at q2
      split at q2
      · assumption
      · exact q2.elim
  have hI := hv1 g m H' (pg.trans pgg) tk rel st i
  cases hi : its[i]? with
  | none =>
    refine .inl ⟨hI.2 hi, ?_⟩
    have hd : its.drop i = [] := List.drop_eq_nil_of_le (List.getElem?_eq_none_iff.mp hi)
    rw [hd] at q2
    simp only [lcL, st, if_true] at q2
    exact q2.ret rel (.ref (pre_get pgg hh))
  | some d =>
    obtain ⟨hgo, hy⟩ := hI.1 d hi
    have hil : i < its.length := (List.getElem?_eq_some_iff.mp hi).1
    have hd : its.drop i = d :: its.drop (i + 1) := by
      rw [List.drop_eq_getElem_cons hil]
      congr 1
      exact (List.getElem?_eq_some_iff.mp hi).2
    rw [hd] at q2
    simp only [lcL, st, if_true] at q2
    refine .inr ⟨hgo, fun H2 => ∃ g m, g1 ++ [A] <+: g ∧ TK H1 H2 ∧ Rel ⟨X.K, cls⟩ g m H2 ∧ RelS ⟨X.K, cls⟩ g H2 r1 σ ∧
      Post ⟨X.K, cls⟩ W (rD ⟨X.K, cls⟩) σ g H2 Q ((lcL m1.length gd (lcT κ p tst elt own r1) (its.drop (i + 1)) m).bind fun _ m5 => .ok (.ref m1.length) m5),
      fun H2 h2 => ⟨its.length - (i + 1), by omega, rfl, h2⟩, fun x H3 y => ?_⟩
    obtain ⟨tk3, rel3, hx3⟩ := hy x H3 y
    have q3 := Post.mono (List.prefix_refl g) tk3 q2
    have rs3 := rs.mono (List.prefix_refl g) tk3
    cases hb : bindP p d (wipeD r1 own) with
    | none =>
      have hl : lcT κ p tst elt own r1 d m = .bad := by simp only [lcT, hb]
      rw [hl] at q3
      exact q3.elim
    | some r2 =>
      refine ⟨g, d, wipeD r1 own, r2, rs3.wipe own, hx3, hb, fun σ2 rs2 sb => ⟨?_, ?_⟩⟩
      · rw [wipe_eq (sb.mono hp), wipe_wipe]
      · cases ht : evEs κ tst r2 m with
        | ok ts m3 =>
          refine ⟨g, m, r2, rel3, rs2, ?_⟩
          simp only [ht, Rs.bind]
          cases hb2 : testsOf ts m3 with
          | none =>
            have hl : lcT κ p tst elt own r1 d m = .bad := by simp only [lcT, hb, ht, Rs.bind, hb2, Rs.calm]
            rw [hl] at q3
            exact q3.elim
          | some b =>
            intro g4 H4 v4 p4 t4 rel4 e4
            subst e4
            cases v4 with
            | false =>
              have hl : lcT κ p tst elt own r1 d m = .ok none m3 := by simp only [lcT, hb, ht, Rs.bind, hb2, Rs.calm]
              rw [hl] at q3
              refine iteF ⟨g4, m3, pgg.trans p4, (tk.trans tk3).trans t4, rel4, (rs3.mono p4 t4), ?_⟩
              exact Post.mono p4 t4 q3
            | true =>
              refine iteT ⟨g4, m3, r2, rel4, rs2.mono p4 t4, ?_⟩
              cases he : evE κ elt r2 m3 with
              | ok y m4 =>
                have hl : lcT κ p tst elt own r1 d m = .ok (some y) m4 := by simp only [lcT, hb, ht, Rs.bind, hb2, Rs.calm, he]
                rw [hl, bind_ok] at q3
                intro g5 H5 v5 p5 t5 rel5 h5
                have q5 := Post.mono p5 t5 (Post.mono p4 t4 q3)
                cases hm : m4[m1.length]? with
                | none => simp only [hm, bind_bad] at q5; exact q5.elim
                | some o =>
                  cases o with
                  | ins c fs => simp only [hm, bind_bad] at q5; exact q5.elim
                  | lst acc =>
                    simp only [hm] at q5
                    have hA5 : g5[m1.length]? = some A := pre_get ((pgg.trans p4).trans p5) hh
                    obtain ⟨vs, a1, a2⟩ := rel5.lst hm hA5
                    by_cases hz : acc.length < sizeLine
                    · rw [if_pos hz] at q5
                      have mu : Mut (H5 A) := by rw [a1]; trivial
                      refine ⟨vs, a1, by rw [a2.length]; exact hz, g5, _, (pgg.trans p4).trans p5, (((tk.trans tk3).trans t4).trans t5).trans (TK.mut mu), rel5.write (o := .lst (acc ++ [y])) mu hA5 ⟨_, upd_same, ?_⟩, ((rs3.mono p4 t4).mono p5 t5).mono (List.prefix_refl g5) (TK.mut mu), Post.mono (List.prefix_refl g5) (TK.mut mu) q5⟩
                      exact (a2.append (.cons h5 .nil)).mono (List.prefix_refl g5) (TK.mut mu)
                    · rw [if_neg hz] at q5
                      exact q5.elim
              | ex c fs m4 =>
                have hl : lcT κ p tst elt own r1 d m = .bad := by simp only [lcT, hb, ht, Rs.bind, hb2, Rs.calm, he]
                rw [hl] at q3
                exact q3.elim
              | bad =>
                have hl : lcT κ p tst elt own r1 d m = .bad := by simp only [lcT, hb, ht, Rs.bind, hb2, Rs.calm, he]
                rw [hl] at q3
                exact q3.elim
        | ex c fs m3 =>
          have hl : lcT κ p tst elt own r1 d m = .bad := by simp only [lcT, hb, ht, Rs.bind, Rs.calm]
          rw [hl] at q3
          exact q3.elim
        | bad =>
          have hl : lcT κ p tst elt own r1 d m = .bad := by simp only [lcT, hb, ht, Rs.bind, Rs.calm]
          rw [hl] at q3
          exact q3.elim
end
end G
set_option maxRecDepth 100000
set_option maxHeartbeats 2000000
namespace G
open PySem L2
section
variable {X : Cx} {cls : Nat → Option Addr} {W : WX} {κ : Sig} {k : Nat}
theorem c_lc {elt tg iter : Expr} {ifs : List Expr} {scope : Scope} {own : List (Str × Nat)} {pos : Pos} {kd : ItK} {src : Es} {p : Pat} {tst : Es} {ce : E} (hc : X.calm = true) (hN : X.N.Nodup) (hi : PIc X cls W κ tg iter kd src) (ok : BlkOk X.N X.env.scope scope own)
    (hp : ∀ i ∈ slotsP p, i ∈ own.map (·.2))
    (hg : ∀ (s : Shared) (H : Hp) (C : Addr) (cl : List (Str × Addr)) (fp : List Addr), PGc (X.blk s H scope (compEnvC scope cl C X.env) fp) cls tg p) (ht : ∀ (s : Shared) (H : Hp) (C : Addr) (cl : List (Str × Addr)) (fp : List Addr), PTsc (X.blk s H scope (compEnvC scope cl C X.env) fp) cls κ ifs tst)
    (he : ∀ (s : Shared) (H : Hp) (C : Addr) (cl : List (Str × Addr)) (fp : List Addr), PEc (X.blk s H scope (compEnvC scope cl C X.env) fp) cls WF κ elt ce) (hs : ∀ x, foldedSetIterable iter X.env x = pure x := by intro _; rfl) :
    PEc X cls W κ (.ListComp elt [⟨tg, iter, ifs, 0⟩] scope pos) (.lc kd src p tst ce (own.map (·.2))) :=
  pe_imp (pe_lc hc hN hi ok hg ht he hs) fun σ H Q q => lc_ok hp q

/-! ### statements -/
abbrev PSc (X : Cx) (cls : Nat → Option Addr) (W : WX) (κ : Sig) (e : Stmt) (c : S) : Prop := PS X e (tS ⟨X.K, cls⟩ W (evS κ c))
abbrev PSsc (X : Cx) (cls : Nat → Option Addr) (W : WX) (κ : Sig) (e : List Stmt) (c : Ss) : Prop := PSs X e (tS ⟨X.K, cls⟩ W (evSs κ c))
theorem PostS.mono {Γ : Cst} {g g' : List Addr} {H H' : Hp} {De : Ends} {σ0 σ1 : St} {r : Rs Out} (p : g <+: g') (t : TK H H') (h : PostS Γ W g H De σ0 r) : PostS Γ W g' H' De σ1 r := by
  cases r with
  | ok o m =>
    cases o with
    | nx r => exact fun g2 H2 σ p2 t2 => h g2 H2 σ (p.trans p2) (t.trans t2)
    | bk r => exact fun g2 H2 σ p2 t2 => h g2 H2 σ (p.trans p2) (t.trans t2)
    | ct r => exact fun g2 H2 σ p2 t2 => h g2 H2 σ (p.trans p2) (t.trans t2)
    | rt d => exact fun g2 H2 v p2 t2 => h g2 H2 v (p.trans p2) (t.trans t2)
  | ex c fs m => exact fun σ => PostX.mono p t (h σ)
  | bad => exact h
theorem PostS.bind {Γ : Cst} {α A : Type} {rep : List Addr → Hp → A → α → Prop} {g : List Addr} {H : Hp} {De : Ends} {σ0 : St} {r : Rs α} {f : α → Hs → Rs Out} {R : A → Hp → Prop} (q : PostS Γ W g H De σ0 (r.bind f))
    (k : ∀ g' H' m v x, g <+: g' → TK H H' → Rel Γ g' m H' → rep g' H' v x → PostS Γ W g' H' De σ0 (f x m) → R v H') : Post Γ W rep σ0 g H R r := by
  cases r with
  | ok x m => exact fun g' H' v p t rel hv => k g' H' m v x p t rel hv (PostS.mono p t q)
  | ex c fs m => exact q σ0
  | bad => exact q
theorem PostS.nx {Γ : Cst} {g : List Addr} {H : Hp} {De : Ends} {σ0 σ : St} {r : Rho} {m : Hs} (q : PostS Γ W g H De σ0 (.ok (.nx r) m)) (rel : Rel Γ g m H) (rs : RelS Γ g H r σ) : De.nx σ H := q g H σ (List.prefix_refl g) (TK.refl H) rel rs
theorem PostS.rt {Γ : Cst} {g : List Addr} {H : Hp} {De : Ends} {σ0 : St} {d : D} {m : Hs} {v : V} (q : PostS Γ W g H De σ0 (.ok (.rt d) m)) (rel : Rel Γ g m H) (hv : Rep Γ.K g H v d) : De.rt v H := q g H v (List.prefix_refl g) (TK.refl H) rel hv
theorem s_nil : PSsc X cls W κ [] .nil := pss_imp pss_nil fun De σ H q => by
  obtain ⟨g, m, r, rel, rs, q⟩ := q
  simp only [evSs] at q
  exact q.nx rel rs
theorem seq_ok {s : S} {ss : Ss} {De : Ends} {σ : St} {H : Hp} (q : tS ⟨X.K, cls⟩ W (evSs κ (.cons s ss)) De σ H) : tSeq (tS ⟨X.K, cls⟩ W (evS κ s)) (tS ⟨X.K, cls⟩ W (evSs κ ss)) De σ H := by
  obtain ⟨g, m, r, rel, rs, q⟩ := q
  refine ⟨g, m, r, rel, rs, ?_⟩
  simp only [evSs] at q
  cases hz : evS κ s r m with
  | ok o m1 =>
    rw [hz] at q
    simp only [bind_ok] at q
    cases o with
    | nx r1 => exact fun g' H' σ' p t rel' rs' => ⟨g', m1, r1, rel', rs', PostS.mono p t q⟩
    | bk r1 => exact q
    | ct r1 => exact q
    | rt d => exact q
  | ex c fs m1 => rw [hz] at q; exact q
  | bad => rw [hz] at q; exact q
theorem s_cons {st : Stmt} {rest : List Stmt} {s : S} {ss : Ss} (h1 : PSc X cls W κ st s) (h2 : PSsc X cls W κ rest ss) : PSsc X cls W κ (st :: rest) (.cons s ss) :=
  pss_imp (pss_cons h1 h2) fun _ _ _ q => seq_ok q
theorem s_pass {pos : Pos} : PSc X cls W κ (.Pass pos) .pass := ps_imp ps_pass fun De σ H q => by
  obtain ⟨g, m, r, rel, rs, q⟩ := q
  exact PostS.nx (by simpa only [evS] using q) rel rs
theorem s_brk {pos : Pos} : PSc X cls W κ (.Break pos) .brk := ps_imp ps_break fun De σ H q => by
  obtain ⟨g, m, r, rel, rs, q⟩ := q
  simp only [evS] at q
  exact q g H σ (List.prefix_refl g) (TK.refl H) rel rs
theorem s_cnt {pos : Pos} : PSc X cls W κ (.Continue pos) .cnt := ps_imp ps_continue fun De σ H q => by
  obtain ⟨g, m, r, rel, rs, q⟩ := q
  simp only [evS] at q
  exact q g H σ (List.prefix_refl g) (TK.refl H) rel rs
theorem s_never {st : Stmt} : PSc X cls W κ st .never := ps_imp ps_never fun De σ H q => by
  obtain ⟨g, m, r, rel, rs, q⟩ := q
  simp only [evS] at q
  exact q
theorem s_exp {e : Expr} {c : E} {pos : Pos} (h : PEc X cls W κ e c) (hs : swapsWith e none pos.line X.env = pure false := by rfl) : PSc X cls W κ (.Expr e pos) (.exp c) := ps_imp (ps_expr h hs) fun De σ H q => by
  obtain ⟨g, m, r, rel, rs, q⟩ := q
  refine ⟨g, m, r, rel, rs, ?_⟩
  simp only [evS] at q
  exact PostS.bind q fun g' H' m' v x p t rel' hv q' => q'.nx rel' (rs.mono p t)
theorem s_ret {e : Expr} {c : E} {pos : Pos} (h : PEc X cls W κ e c) : PSc X cls W κ (.Return (some e) pos) (.ret c) := ps_imp (ps_ret h) fun De σ H q => by
  obtain ⟨g, m, r, rel, rs, q⟩ := q
  refine ⟨g, m, r, rel, rs, ?_⟩
  simp only [evS] at q
  exact PostS.bind q fun g' H' m' v x p t rel' hv q' => q'.rt rel' hv
theorem s_retN {pos : Pos} : PSc X cls W κ (.Return none pos) .retN := ps_imp ps_retN fun De σ H q => by
  obtain ⟨g, m, r, rel, rs, q⟩ := q
  simp only [evS] at q
  exact q.rt rel .non
theorem s_if {e : Expr} {c : E} {a b : List Stmt} {t u : Ss} {pos : Pos} (hc : PTc X cls W κ e c) (ha : PSsc X cls W κ a t) (hb : PSsc X cls W κ b u) : PSc X cls W κ (.If e a b pos) (.ife c t u) := ps_imp (ps_if hc ha hb) fun De σ H q => by
  obtain ⟨g, m, r, rel, rs, q⟩ := q
  refine ⟨g, m, r, rel, rs, ?_⟩
  simp only [evS] at q
  unfold evT
  cases hz : evE κ c r m with
  | ok x m1 =>
    rw [hz, bind_ok] at q
    rw [bind_ok]
    cases hb : truth x m1 with
    | none => rw [hb] at q; exact q
    | some b =>
      rw [hb] at q
      cases b with
      | true =>
        intro g' H' v p t rel' e
        subst e
        exact iteT ⟨g', m1, r, rel', rs.mono p t, PostS.mono p t q⟩
      | false =>
        intro g' H' v p t rel' e
        subst e
        exact iteF ⟨g', m1, r, rel', rs.mono p t, PostS.mono p t q⟩
  | ex c fs m1 => rw [hz] at q; exact q σ
  | bad => rw [hz] at q; exact q
/-! ### targets -/
def gT (Γ : Cst) (W : WX) (κ : Sig) (c : Tg) : TG := fun v σ H Q => ∃ g m r d, Rel Γ g m H ∧ RelS Γ g H r σ ∧ Rep Γ.K g H v d ∧
  (match tgS κ c d r m with
    | .ok r' m' => ∀ g' H' σ', g <+: g' → TK H H' → Rel Γ g' m' H' → RelS Γ g' H' r' σ' → Q σ' H'
    | .ex c fs m' => ∀ σ, PostX Γ W σ g H c fs m'
    | .bad => False)
def gTs (Γ : Cst) (W : WX) (κ : Sig) (c : Tgs) : TGs := fun vs σ H Q => ∃ g m r ds, Rel Γ g m H ∧ RelS Γ g H r σ ∧ RepL Γ.K g H vs ds ∧
  (match tgsS κ c ds r m with
    | .ok r' m' => ∀ g' H' σ', g <+: g' → TK H H' → Rel Γ g' m' H' → RelS Γ g' H' r' σ' → Q σ' H'
    | .ex c fs m' => ∀ σ, PostX Γ W σ g H c fs m'
    | .bad => False)
abbrev PTg (X : Cx) (cls : Nat → Option Addr) (W : WX) (κ : Sig) (e : Expr) (c : Tg) : Prop := PG X e (gT ⟨X.K, cls⟩ W κ c)
abbrev PTgs (X : Cx) (cls : Nat → Option Addr) (W : WX) (κ : Sig) (e : List Expr) (c : Tgs) : Prop := PGs X e (gTs ⟨X.K, cls⟩ W κ c)
theorem tg_nm {e : Expr} {i : Nat} (h : PG X e (gName i)) : PTg X cls W κ e (.nm i) := pg_imp h fun v σ H Q q => by
  obtain ⟨g, m, r, d, rel, rs, hv, q⟩ := q
  simp only [tgS] at q
  exact q g H _ (List.prefix_refl g) (TK.refl H) rel (rs.set hv i)
theorem pg_fldA {o : Expr} {f : Str} {ta : TE} {pos : Pos} (ho : PE X o ta) : PG X (.Attribute o f pos) (fun v σ H Q => ta σ H fun x H1 => ∃ a C dx fs, x = .ref a ∧ H1 a = some (.ins C dx fs) ∧ Cls X.K C ∧ NoAttr X.K C f ∧ fs.length < 1000 ∧ Q σ (upd H1 a (.ins C dx (putF f v fs)))) := by
  refine ⟨fun pins s σ H v u Q I r h => ?_⟩
  show wpAny _ _ (do
    let ov ← holding [u] (eval o X.env)
    standAt pos.atName
    holding [u, ov] (setAttr ov f u)
    release [u, ov] []) _ _ s
  refine wpAny_bind (wpAny_holding (thn (ho.run pins s σ H _ I h) fun ov s1 ⟨x, H1, I1, r1, a, C, dx, fs, ex, ea, c, n, l, q1⟩ => ?_))
  subst ex
  obtain rfl : ov = Value.ref a := r1
  refine wpAny_bind (wpAny_standAt (wpAny_bind (wpAny_holding (setattr_ok I1 ea c n l r fun s2 I2 => ?_))))
  exact wpAny_release ⟨σ, _, I2, q1⟩
theorem tg_fld {o : Expr} {a : E} {f : Str} {pos : Pos} (T : ClsT X.prog X.w X.K X.mg X.base cls κ k) (ho : PEc X cls W κ o a) : PTg X cls W κ (.Attribute o f pos) (.fld a f) := pg_imp (pg_fldA ho) fun v σ H Q q => by
  obtain ⟨g, m, r, d, rel, rs, hv, q⟩ := q
  refine ⟨g, m, r, rel, rs, ?_⟩
  simp only [tgS] at q
  cases hz : evE κ a r m with
  | ok x m1 =>
    rw [hz, bind_ok] at q
    intro g' H' w p t rel' hw
    cases hw with
    | @ref aa nn hg =>
      simp only at q
      split at q
      · rename_i hq
        split at hq
        · rename_i c fs hn
          split at hq
          · rename_i hl
            cases hq
            obtain ⟨C, dx, vs, hC, hH, hF⟩ := rel'.ins hn hg
            obtain ⟨a1, a2⟩ := attr_ok T hC hl.2
            have mu : Mut (H' aa) := by rw [hH]; trivial
            refine ⟨_, C, dx, vs, rfl, hH, a1, a2, by rw [hF.length]; omega, q g' _ σ p (t.trans (TK.mut mu)) (rel'.write mu hg ⟨C, dx, _, hC, upd_same, ?_⟩) ((rs.mono p t).mono (List.prefix_refl g') (TK.mut mu))⟩
            exact (hF.mono (List.prefix_refl g') (TK.mut mu)).put ((hv.mono p t).mono (List.prefix_refl g') (TK.mut mu))
          · cases hq
        · cases hq
      · rename_i hq
        split at hq
        · split at hq <;> cases hq
        · cases hq
      · exact q.elim
    | _ => exact q.elim
  | ex c fs m1 => rw [hz] at q; exact q σ
  | bad => rw [hz] at q; exact q
theorem tg_sub {o i : Expr} {a b : E} {pos : Pos} (ho : PEc X cls W κ o a) (hi : PEc X cls W κ i b) (ha : ∀ v, assign (.Subscript o i pos) X.env v = (do
      let ov ← holding [v] (eval o X.env)
      let iv ← holding [v, ov] (eval i X.env)
      standAt pos
      holding [v, ov, iv] (setItem ov iv v)
      release [v, ov, iv] []) := by intro _; rfl) : PTg X cls W κ (.Subscript o i pos) (.sub a b) := pg_imp (pg_sub ho hi set_list ha) fun v σ H Q q => by
  obtain ⟨g, m, r, d, rel, rs, hv, q⟩ := q
  refine ⟨g, m, r, rel, rs, ?_⟩
  simp only [tgS] at q
  cases hz : evE κ a r m with
  | ok x m1 =>
    rw [hz, bind_ok] at q
    intro g1 H1 w p t rel1 hw
    refine ⟨g1, m1, r, rel1, rs.mono p t, ?_⟩
    cases hz2 : evE κ b r m1 with
    | ok y m2 =>
      rw [hz2, bind_ok] at q
      intro g2 H2 w2 p2 t2 rel2 hw2
      have hw' := hw.mono p2 t2
      cases hw' with
      | @ref aa nn hg =>
        cases hw2 with
        | int kk =>
          simp only at q
          cases hn : m2[nn]? with
          | none => rw [hn] at q; exact q.elim
          | some ob =>
            rw [hn] at q
            cases ob with
            | ins c fs => exact q.elim
            | lst ds =>
              simp only at q
              cases hj : ixD ds.length kk with
              | none => rw [hj] at q; exact q.elim
              | some j =>
                rw [hj] at q
                obtain ⟨xs, h1, h2⟩ := rel2.lst hn hg
                have mu : Mut (H2 aa) := by rw [h1]; trivial
                refine ⟨_, xs, kk, j, rfl, rfl, h1, by rw [h2.length]; exact hj, q g2 _ σ (p.trans p2) ((t.trans t2).trans (TK.mut mu)) (rel2.write mu hg ⟨_, upd_same, ?_⟩) (((rs.mono p t).mono p2 t2).mono (List.prefix_refl g2) (TK.mut mu))⟩
                exact (h2.mono (List.prefix_refl g2) (TK.mut mu)).set (((hv.mono p t).mono p2 t2).mono (List.prefix_refl g2) (TK.mut mu)) j
        | _ => exact q.elim
      | _ => cases hw2 <;> exact q.elim
    | ex c fs m2 => rw [hz2] at q; exact PostX.mono p t (q σ)
    | bad => rw [hz2] at q; exact q
  | ex c fs m1 => rw [hz] at q; exact q σ
  | bad => rw [hz] at q; exact q
theorem tgs_nil : PTgs X cls W κ [] .nil := pgs_imp pgs_nil fun v σ H Q q => by
  obtain ⟨g, m, r, d, rel, rs, hv, q⟩ := q
  cases hv with
  | nil =>
    simp only [tgsS] at q
    exact ⟨rfl, q g H σ (List.prefix_refl g) (TK.refl H) rel rs⟩
  | cons _ _ => simp only [tgsS] at q
theorem tgs_cons {e : Expr} {es : List Expr} {c : Tg} {cs : Tgs} (h1 : PTg X cls W κ e c) (h2 : PTgs X cls W κ es cs)
    (hs : (assignEach (e :: es) X.env).map (·.2) = assign e X.env :: (assignEach es X.env).map (·.2) := by rfl) : PTgs X cls W κ (e :: es) (.cons c cs) := pgs_imp (pgs_cons h1 h2 hs) fun v σ H Q q => by
  obtain ⟨g, m, r, d, rel, rs, hv, q⟩ := q
  cases hv with
  | nil => simp only [tgsS] at q
  | cons a b =>
    simp only [tgsS] at q
    refine ⟨_, _, rfl, g, m, r, _, rel, rs, a, ?_⟩
    cases hz : tgS κ c _ r m with
    | ok r1 m1 =>
      rw [hz, bind_ok] at q
      intro g1 H1 σ1 p t rel1 rs1
      refine ⟨g1, m1, r1, _, rel1, rs1, b.mono p t, ?_⟩
      cases hz2 : tgsS κ cs _ r1 m1 with
      | ok r2 m2 =>
        rw [hz2] at q
        exact fun g2 H2 σ2 p2 t2 => q g2 H2 σ2 (p.trans p2) (t.trans t2)
      | ex c fs m2 => rw [hz2] at q; exact fun σ => PostX.mono p t (q σ)
      | bad => rw [hz2] at q; exact q
    | ex c fs m1 => rw [hz] at q; exact q
    | bad => rw [hz] at q; exact q
/-- the targets' number is looked at first -/
theorem tg_tp {es : List Expr} {n : Nat} {cs : Tgs} {pos : Pos} (hc : X.calm = true) (h : PTgs X cls W κ es cs) (hn : (assignEach es X.env).length = lenTs cs := by rfl) (hst : (assignEach es X.env).findIdx? (·.1) = none := by rfl) : PTg X cls W κ (.Tuple es n pos) (.tp cs) :=
  pg_imp (pg_tup hc h hn hst) fun v σ H Q q => by
    obtain ⟨g, m, r, d, rel, rs, hv, q⟩ := q
    cases hv with
    | @tup a xs ds hs r' =>
      simp only [tgS] at q
      by_cases hl : ds.length = lenTs cs
      · rw [if_pos hl] at q
        exact ⟨a, xs, rfl, hs, by rw [r'.length]; exact hl, g, m, r, ds, rel, rs, r', q⟩
      · rw [if_neg hl] at q
        exact q.elim
    | _ => exact q.elim
/-! ### assignments -/
theorem s_asg {tg e : Expr} {c : E} {t : Tg} {pos : Pos} (he : PEc X cls W κ e c) (hg : PTg X cls W κ tg t) (hs : swapsWithSole [tg] e pos.line X.env = pure false := by rfl) (hw : swappedStores [tg] e X.env = pure none := by rfl)
    (h1 : (assignEach [tg] X.env).map (·.2) = [assign tg X.env] := by rfl) : PSc X cls W κ (.Assign [tg] e pos) (.asg t c) := ps_imp (ps_asg he hg hs hw h1) fun De σ H q => by
  obtain ⟨g, m, r, rel, rs, q⟩ := q
  refine ⟨g, m, r, rel, rs, ?_⟩
  simp only [evS] at q
  refine PostS.bind q fun g1 H1 m1 v x p t1 rel1 hv q1 => ?_
  refine ⟨g1, m1, r, x, rel1, rs.mono p t1, hv, ?_⟩
  cases hz : tgS κ t x r m1 with
  | ok r1 m2 => rw [hz, bind_ok] at q1; exact q1
  | ex c fs m2 => rw [hz] at q1; exact q1
  | bad => rw [hz] at q1; exact q1
theorem s_setLc {i : Nat} {y : Str} {py : Pos} {elt tg iter : Expr} {ifs : List Expr} {scope : Scope} {own : List (Str × Nat)} {pos spos : Pos} {kd : ItK} {src : Es} {p : Pat} {tst : Es} {ce : E} (hc : X.calm = true) (hN : X.N.Nodup) (hy : X.N[i]? = some y) (hyl : X.env.scope.names.lookup y = some .local)
    (hsw : swapsWith (.ListComp elt [⟨tg, iter, ifs, 0⟩] scope pos) (some (.Name y py)) spos.line X.env = pure true) (hi : PIc X cls W κ tg iter kd src) (ok : BlkOk X.N X.env.scope scope own)
    (hp : ∀ i ∈ slotsP p, i ∈ own.map (·.2))
    (hg : ∀ (s : Shared) (H : Hp) (C : Addr) (cl : List (Str × Addr)) (fp : List Addr), PGc (X.blk s H scope (compEnvC scope cl C X.env) fp) cls tg p) (ht : ∀ (s : Shared) (H : Hp) (C : Addr) (cl : List (Str × Addr)) (fp : List Addr), PTsc (X.blk s H scope (compEnvC scope cl C X.env) fp) cls κ ifs tst)
    (he : ∀ (s : Shared) (H : Hp) (C : Addr) (cl : List (Str × Addr)) (fp : List Addr), PEc (X.blk s H scope (compEnvC scope cl C X.env) fp) cls WF κ elt ce) (hs : ∀ x, foldedSetIterable iter X.env x = pure x := by intro _; rfl) :
    PSc X cls W κ (.Assign [.Name y py] (.ListComp elt [⟨tg, iter, ifs, 0⟩] scope pos) spos) (.asg (.nm i) (.lc kd src p tst ce (own.map (·.2)))) :=
  ps_imp (ps_setLc (tt := tTs ⟨X.K, cls⟩ κ tst) (te := tE ⟨X.K, cls⟩ WF κ ce) hc hN hy hyl hsw hi ok hg ht he hs) fun De σ H q => by
    refine lc_ok (W := W) (tst := tst) (elt := ce) hp ?_
    obtain ⟨g, m, r, rel, rs, q⟩ := q
    refine ⟨g, m, r, rel, rs, ?_⟩
    simp only [evS] at q
    refine PostS.bind q fun g1 H1 m1 v x p t1 rel1 hv q1 => ?_
    simp only [tgS, bind_ok] at q1
    exact q1.nx rel1 ((rs.mono p t1).set hv i)
theorem s_asg2 {t1 t2 e : Expr} {c : E} {a b : Tg} {pos : Pos} (he : PEc X cls W κ e c) (h1 : PTg X cls W κ t1 a) (h2 : PTg X cls W κ t2 b) (ha : (assignEach [t1, t2] X.env).map (·.2) = [assign t1 X.env, assign t2 X.env] := by rfl) (hw : swappedStores [t1, t2] e X.env = pure none := by rfl) : PSc X cls W κ (.Assign [t1, t2] e pos) (.asg2 a b c) := ps_imp (ps_asg2 he h1 h2 ha hw) fun De σ H q => by
  obtain ⟨g, m, r, rel, rs, q⟩ := q
  refine ⟨g, m, r, rel, rs, ?_⟩
  simp only [evS] at q
  refine PostS.bind q fun g1 H1 m1 v x p t1 rel1 hv q1 => ?_
  refine ⟨g1, m1, r, x, rel1, rs.mono p t1, hv, ?_⟩
  cases hz : tgS κ a x r m1 with
  | ok r1 m2 =>
    rw [hz, bind_ok] at q1
    intro g2 H2 σ2 p2 t2 rel2 rs2
    refine ⟨g2, m2, r1, x, rel2, rs2, hv.mono p2 t2, ?_⟩
    have q2 := PostS.mono (σ1 := σ) p2 t2 q1
    cases hz2 : tgS κ b x r1 m2 with
    | ok r2 m3 => rw [hz2, bind_ok] at q2; exact q2
    | ex c fs m3 => rw [hz2] at q2; exact q2
    | bad => rw [hz2] at q2; exact q2
  | ex c fs m2 => rw [hz] at q1; exact q1
  | bad => rw [hz] at q1; exact q1
end
end G
set_option maxRecDepth 100000
set_option maxHeartbeats 2000000
namespace G
open PySem L2
section
variable {X : Cx} {cls : Nat → Option Addr} {W : WX} {κ : Sig} {k : Nat}
theorem s_par {i j : Nat} {x y : Str} {a b : Expr} {ca cb : E} {px py pt pos : Pos} {kt k2 pt2} (hc : X.calm = true) (hN : X.N.Nodup) (hi : X.N[i]? = some x) (hj : X.N[j]? = some y) (hij : i ≠ j)
    (hx : X.env.scope.names.lookup x = some .local) (hy : X.env.scope.names.lookup y = some .local) (ha : PAc X cls W κ [a, b] (.cons ca (.cons cb .nil)))
    (hw : swappedStores [.Tuple [.Name x px, .Name y py] kt pt] (.Tuple [a, b] k2 pt2) X.env = pure (some [x, y]))
    (hs : swapsWithSole [.Tuple [.Name x px, .Name y py] kt pt] (.Tuple [a, b] k2 pt2) pos.line X.env = pure false := by rfl) :
    PSc X cls W κ (.Assign [.Tuple [.Name x px, .Name y py] kt pt] (.Tuple [a, b] k2 pt2) pos) (.par i j ca cb) := ps_imp (ps_par hc hN hi hj hij hx hy ha hw hs) fun De σ H q => by
  obtain ⟨g, m, r, rel, rs, q⟩ := q
  refine ⟨g, m, r, rel, rs, ?_⟩
  simp only [evS] at q
  simp only [evEs]
  cases h1 : evE κ ca r m with
  | ok x1 m1 =>
    rw [h1, bind_ok] at q
    rw [bind_ok]
    cases h2 : evE κ cb r m1 with
    | ok x2 m2 =>
      rw [h2, bind_ok] at q
      rw [bind_ok, bind_ok, bind_ok]
      intro g' H' vs p t rel' hv
      cases hv with
      | cons v1 hv =>
        cases hv with
        | cons v2 hv =>
          cases hv
          exact ⟨_, _, rfl, q g' H' _ p t rel' (((rs.mono p t).set v1 i).set v2 j)⟩
    | ex c fs m2 => rw [h2] at q; exact q σ
    | bad => rw [h2] at q; exact q
  | ex c fs m1 => rw [h1] at q; exact q σ
  | bad => rw [h1] at q; exact q
theorem s_par3 {i j l : Nat} {x y z : Str} {a b c : Expr} {ca cb cc : E} {px py pz pt pos : Pos} {kt k2 pt2} (hc : X.calm = true) (hN : X.N.Nodup) (hi : X.N[i]? = some x) (hj : X.N[j]? = some y) (hl : X.N[l]? = some z) (hij : i ≠ j) (hil : i ≠ l) (hjl : j ≠ l)
    (hx : X.env.scope.names.lookup x = some .local) (hy : X.env.scope.names.lookup y = some .local) (hz : X.env.scope.names.lookup z = some .local) (ha : PAc X cls W κ [a, b, c] (.cons ca (.cons cb (.cons cc .nil))))
    (hw : swappedStores [.Tuple [.Name x px, .Name y py, .Name z pz] kt pt] (.Tuple [a, b, c] k2 pt2) X.env = pure (some [x, y, z]))
    (hs : swapsWithSole [.Tuple [.Name x px, .Name y py, .Name z pz] kt pt] (.Tuple [a, b, c] k2 pt2) pos.line X.env = pure false := by rfl) :
    PSc X cls W κ (.Assign [.Tuple [.Name x px, .Name y py, .Name z pz] kt pt] (.Tuple [a, b, c] k2 pt2) pos) (.par3 i j l ca cb cc) := ps_imp (ps_par3 hc hN hi hj hl hij hil hjl hx hy hz ha hw hs) fun De σ H q => by
  obtain ⟨g, m, r, rel, rs, q⟩ := q
  refine ⟨g, m, r, rel, rs, ?_⟩
  simp only [evS] at q
  simp only [evEs]
  cases h1 : evE κ ca r m with
  | ok x1 m1 =>
    rw [h1, bind_ok] at q
    rw [bind_ok]
    cases h2 : evE κ cb r m1 with
    | ok x2 m2 =>
      rw [h2, bind_ok] at q
      rw [bind_ok]
      cases h3 : evE κ cc r m2 with
      | ok x3 m3 =>
        rw [h3, bind_ok] at q
        rw [bind_ok, bind_ok, bind_ok, bind_ok]
        intro g' H' vs p t rel' hv
        cases hv with
        | cons v1 hv =>
          cases hv with
          | cons v2 hv =>
            cases hv with
            | cons v3 hv =>
              cases hv
              exact ⟨_, _, _, rfl, q g' H' _ p t rel' ((((rs.mono p t).set v1 i).set v2 j).set v3 l)⟩
      | ex c fs m3 => rw [h3] at q; exact q σ
      | bad => rw [h3] at q; exact q
    | ex c fs m2 => rw [h2] at q; exact q σ
    | bad => rw [h2] at q; exact q
  | ex c fs m1 => rw [h1] at q; exact q σ
  | bad => rw [h1] at q; exact q
/-! ### x op= e -/
theorem aug_ok {o : Op} {f : Int → Int → Int} (hf : ∀ i j m, augS o (.int i) (.int j) m = .ok (.int (f i j)) m) (hb : ∀ x y m, (∀ i j, ¬ (x = .int i ∧ y = .int j)) → augS o x y m = .bad) {g : List Addr} {H : Hp} {m : Hs} {De : Ends} {σ0 : St} {h : D → Hs → Rs Out} {vx vy : V} {x y : D} (hx : Rep X.K g H vx x) (hy : Rep X.K g H vy y) (q : PostS ⟨X.K, cls⟩ W g H De σ0 ((augS o x y m).bind h)) :
    ∃ i j, vx = .int i ∧ vy = .int j ∧ PostS ⟨X.K, cls⟩ W g H De σ0 (h (.int (f i j)) m) := by
  cases hx with
  | int i => cases hy with
    | int j => rw [hf, bind_ok] at q; exact ⟨i, j, rfl, rfl, q⟩
    | _ => rw [hb _ _ _ (fun i j z => by cases z.2)] at q; exact q.elim
  | _ => rw [hb _ _ _ (fun i j z => by cases z.1)] at q; exact q.elim
theorem augS_add (x y : D) (m : Hs) (h : ∀ i j, ¬ (x = .int i ∧ y = .int j)) : augS .add x y m = .bad := by
  cases x <;> cases y <;> first | rfl | exact absurd ⟨rfl, rfl⟩ (h _ _)
theorem augS_sub (x y : D) (m : Hs) (h : ∀ i j, ¬ (x = .int i ∧ y = .int j)) : augS .sub x y m = .bad := by
  cases x <;> cases y <;> first | rfl | exact absurd ⟨rfl, rfl⟩ (h _ _)
theorem s_aug {i : Nat} {x : Str} {e : Expr} {c : E} {o : Op} {op : Operator} {f : Int → Int → Int} {pos pos' : Pos} (hf : ∀ i j m, augS o (.int i) (.int j) m = .ok (.int (f i j)) m) (hb : ∀ x y m, (∀ i j, ¬ (x = .int i ∧ y = .int j)) → augS o x y m = .bad) (ho : PIp X op (ipI f))
    (hN : X.N.Nodup) (hi : X.N[i]? = some x) (hx : Loc X.env.scope x) (he : PEc X cls W κ e c) (hfn : X.fn x = true ∨ X.env.scope.names.lookup x = some .local := by first | exact .inl rfl | exact .inr rfl | assumption) : PSc X cls W κ (.AugAssign (.Name x pos') op e pos) (.aug i o c) :=
  ps_imp (ps_aug hN hi hx he ho hfn) fun De σ H q => by
    obtain ⟨g, m, r, rel, rs, q⟩ := q
    simp only [evS] at q
    split at q
    · rename_i d hd
      obtain ⟨v, h1, h2⟩ := rs.get i d hd
      refine ⟨v, h1, g, m, r, rel, rs, ?_⟩
      refine PostS.bind q fun g1 H1 m1 w y p t rel1 hw q1 => ?_
      obtain ⟨a, b, rfl, rfl, q2⟩ := aug_ok hf hb (h2.mono p t) hw q1
      exact ⟨a, b, rfl, rfl, q2.nx rel1 ((rs.mono p t).set (.int _) i)⟩
    · exact q.elim
theorem s_augF {ob e : Expr} {a c : E} {fl : Str} {o : Op} {op : Operator} {f : Int → Int → Int} {pos tpos : Pos} (T : ClsT X.prog X.w X.K X.mg X.base cls κ k) (hf : ∀ i j m, augS o (.int i) (.int j) m = .ok (.int (f i j)) m) (hb : ∀ x y m, (∀ i j, ¬ (x = .int i ∧ y = .int j)) → augS o x y m = .bad) (ho : InOp X op (fun x y H Q => ∃ i j, x = .int i ∧ y = .int j ∧ Q (.int (f i j)) H))
    (ha : PEc X cls W κ ob a) (he : PEc X cls W κ e c) : PSc X cls W κ (.AugAssign (.Attribute ob fl tpos) op e pos) (.augF a fl o c) :=
  ps_imp (ps_fldaug ha he ho) fun De σ H q => by
    obtain ⟨g, m, r, rel, rs, q⟩ := q
    refine ⟨g, m, r, rel, rs, ?_⟩
    simp only [evS] at q
    refine PostS.bind q fun g1 H1 m1 v x p t rel1 hv q1 => ?_
    cases hv with
    | @ref aa nn hg =>
      simp only at q1
      cases hn : m1[nn]? with
      | none => rw [hn] at q1; exact q1.elim
      | some oo =>
        rw [hn] at q1
        cases oo with
        | lst ds => exact q1.elim
        | ins cc fs =>
          simp only at q1
          cases hl : fs.lookup fl with
          | none => rw [hl] at q1; exact q1.elim
          | some d =>
            rw [hl] at q1
            simp only at q1
            obtain ⟨C, dx, vs, hC, hH, hF⟩ := rel1.ins hn hg
            obtain ⟨w, b1, b2⟩ := hF.lookup.1 d hl
            by_cases hat : ((κ.cls cc).map fun k => k.attrs.contains fl) = some true
            · rw [if_pos hat] at q1
              obtain ⟨a1, a2⟩ := attr_ok T hC hat
              refine ⟨aa, C, dx, vs, w, rfl, hH, a1, a2, b1, g1, m1, r, rel1, rs.mono p t, ?_⟩
              refine PostS.bind q1 fun g2 H2 m2 u y p2 t2 rel2 hu q2 => ?_
              obtain ⟨i, j, rfl, rfl, q3⟩ := aug_ok hf hb (b2.mono p2 t2) hu q2
              refine ⟨i, j, rfl, rfl, ?_⟩
              cases hn2 : m2[nn]? with
              | none => rw [hn2] at q3; exact q3.elim
              | some o2 =>
                rw [hn2] at q3
                cases o2 with
                | lst ds => exact q3.elim
                | ins c2 fs2 =>
                  simp only at q3
                  split at q3
                  · rename_i hl2
                    obtain ⟨rfl, hlen⟩ := hl2
                    have hg2 := pre_get p2 hg
                    obtain ⟨C2, dx2, vs2, hC2, hH2, hF2⟩ := rel2.ins hn2 hg2
                    rw [hC] at hC2
                    cases hC2
                    have mu : Mut (H2 aa) := by rw [hH2]; trivial
                    refine ⟨dx2, vs2, hH2, by rw [hF2.length]; omega, q3 g2 _ σ (List.prefix_refl g2) (TK.mut mu) (rel2.write mu hg2 ⟨C, dx2, _, hC, upd_same, ?_⟩) (((rs.mono p t).mono p2 t2).mono (List.prefix_refl g2) (TK.mut mu))⟩
                    exact (hF2.mono (List.prefix_refl g2) (TK.mut mu)).put (.int _)
                  · exact q3.elim
            · rw [if_neg hat] at q1
              exact q1.elim
    | _ => exact q1.elim

/-! ### append, extend -/
theorem s_app {o e : Expr} {a c : E} {pos : Pos} {ap cp : Pos} (ho : PEc X cls W κ o a) (he : PEc X cls W κ e c) (h : ∀ {to : TE} {t : TA}, PE X o to → PA X [e] t → PE X (.Call (.Attribute o "append" ap) [e] [] cp) (tBM X.K "list" rAppend to t)) (hst : starEach [e] X.env = [(false, eval e X.env)] := by rfl) (hs : swapsWith (.Call (.Attribute o "append" ap) [e] [] cp) none pos.line X.env = pure false := by rfl) :
    PSc X cls W κ (.Expr (.Call (.Attribute o "append" ap) [e] [] cp) pos) (.app a c) := ps_imp (ps_expr (h ho (pa_cons he pa_nil hst)) hs) fun De σ H q => by
  obtain ⟨g, m, r, rel, rs, q⟩ := q
  refine ⟨g, m, r, rel, rs, ?_⟩
  simp only [evS] at q
  refine PostS.bind q fun g1 H1 m1 v x p t rel1 hv q1 => ?_
  cases hv with
  | @ref aa nn hg =>
    simp only at q1
    cases hn0 : m1[nn]? with
    | none => rw [hn0] at q1; exact q1.elim
    | some oo =>
      rw [hn0] at q1
      cases oo with
      | ins cc fs => exact q1.elim
      | lst ds0 =>
        simp only at q1
        obtain ⟨xs0, h10, _⟩ := rel1.lst hn0 hg
        refine ⟨.inl ⟨rfl, _, SqL.of h10⟩, g1, m1, r, rel1, rs.mono p t, ?_⟩
        refine PostS.bind q1 fun g2 H2 m2 w y p2 t2 rel2 hw q2 => ?_
        have hg2 := pre_get p2 hg
        cases hn : m2[nn]? with
        | none => rw [hn] at q2; exact q2.elim
        | some oo =>
          rw [hn] at q2
          cases oo with
          | ins cc fs => exact q2.elim
          | lst ds =>
            simp only at q2
            split at q2
            · rename_i hlen
              obtain ⟨xs, h1, h2⟩ := rel2.lst hn hg2
              have mu : Mut (H2 aa) := by rw [h1]; trivial
              refine ⟨aa, xs, w, rfl, rfl, h1, by rw [h2.length]; exact hlen, q2 g2 _ σ (List.prefix_refl g2) (TK.mut mu) (rel2.write mu hg2 ⟨_, upd_same, ?_⟩) (((rs.mono p t).mono p2 t2).mono (List.prefix_refl g2) (TK.mut mu))⟩
              exact (h2.append (.cons hw .nil)).mono (List.prefix_refl g2) (TK.mut mu)
            · exact q2.elim
  | _ => exact q1.elim
theorem s_ext {o e : Expr} {a c : E} {pos : Pos} {ap cp : Pos} (ho : PEc X cls W κ o a) (he : PEc X cls W κ e c) (h : ∀ {to : TE} {t : TA}, PE X o to → PA X [e] t → PE X (.Call (.Attribute o "extend" ap) [e] [] cp) (tBM X.K "list" rExtend to t)) (hst : starEach [e] X.env = [(false, eval e X.env)] := by rfl) (hs : swapsWith (.Call (.Attribute o "extend" ap) [e] [] cp) none pos.line X.env = pure false := by rfl) :
    PSc X cls W κ (.Expr (.Call (.Attribute o "extend" ap) [e] [] cp) pos) (.ext a c) := ps_imp (ps_expr (h ho (pa_cons he pa_nil hst)) hs) fun De σ H q => by
  obtain ⟨g, m, r, rel, rs, q⟩ := q
  refine ⟨g, m, r, rel, rs, ?_⟩
  simp only [evS] at q
  refine PostS.bind q fun g1 H1 m1 v x p t rel1 hv q1 => ?_
  cases hv with
  | @ref aa nn hg =>
    simp only at q1
    cases hn0 : m1[nn]? with
    | none => rw [hn0] at q1; exact q1.elim
    | some oo =>
      rw [hn0] at q1
      cases oo with
      | ins cc fs => exact q1.elim
      | lst ds0 =>
        simp only at q1
        obtain ⟨xs0, h10, _⟩ := rel1.lst hn0 hg
        refine ⟨.inl ⟨rfl, _, SqL.of h10⟩, g1, m1, r, rel1, rs.mono p t, ?_⟩
        refine PostS.bind q1 fun g2 H2 m2 w y p2 t2 rel2 hw q2 => ?_
        have hg2 := pre_get p2 hg
        cases hn : m2[nn]? with
        | none => rw [hn] at q2; exact q2.elim
        | some oo =>
          rw [hn] at q2
          cases oo with
          | ins cc fs => exact q2.elim
          | lst ds =>
            cases hw with
            | @ref bb kk hk =>
              simp only at q2
              cases hn2 : m2[kk]? with
              | none => rw [hn2] at q2; exact q2.elim
              | some o2 =>
                rw [hn2] at q2
                cases o2 with
                | ins cc fs => exact q2.elim
                | lst es =>
                  simp only at q2
                  split at q2
                  · rename_i hlen
                    obtain ⟨xs, h1, h2⟩ := rel2.lst hn hg2
                    obtain ⟨ys, b1, b2⟩ := rel2.lst hn2 hk
                    have mu : Mut (H2 aa) := by rw [h1]; trivial
                    refine ⟨aa, bb, xs, ys, rfl, rfl, h1, b1, by rw [h2.length, b2.length]; exact hlen, q2 g2 _ σ (List.prefix_refl g2) (TK.mut mu) (rel2.write mu hg2 ⟨_, upd_same, ?_⟩) (((rs.mono p t).mono p2 t2).mono (List.prefix_refl g2) (TK.mut mu))⟩
                    exact (h2.append b2).mono (List.prefix_refl g2) (TK.mut mu)
                  · exact q2.elim
            | _ => exact q2.elim
  | _ => exact q1.elim
/-! ### for -/
theorem s_for {tg iter : Expr} {body : List Stmt} {p : Pat} {kd : ItK} {src : Es} {b : Ss} {pos : Pos} (hp : PassesOwn (model X.prog X.w) X.A X.env X.xe) (hc : X.calm = true) (hi : PIc X cls W κ tg iter kd src) (hg : PGc X cls tg p) (hb : PSsc X cls W κ body b)
    (hs : ∀ x, foldedSetIterable iter X.env x = pure x := by intro _; rfl) : PSc X cls W κ (.For tg iter body [] pos) (.forS p kd src b) := ps_imp (ps_for hp hc hi hg hb hs) fun De σ H q => by
  obtain ⟨g, m, r, rel, rs, q⟩ := q
  refine ⟨g, m, r, rel, rs, ?_⟩
  simp only [evS] at q
  refine PostS.bind q fun g1 H1 m1 J z p1 t1 rel1 hv1 q1 => ?_
  obtain ⟨its, gd⟩ := z
  refine ⟨fun i n σ' H' => n = its.length - i ∧ ∃ g m r, g1 <+: g ∧ TK H1 H' ∧ Rel ⟨X.K, cls⟩ g m H' ∧ RelS ⟨X.K, cls⟩ g H' r σ' ∧ PostS ⟨X.K, cls⟩ W g H' De σ' (forL gd p (evSs κ b) (its.drop i) r m),
    ⟨its.length, by simp, g1, m1, r, List.prefix_refl _, TK.refl _, rel1, rs.mono p1 t1, by simpa using q1⟩, ?_⟩
  rintro i n σ' H' ⟨rfl, g2, m2, r2, pg, tk, rel2, rs2, q2⟩
  have st : stays gd m2 = true := by
    cases hd : its.drop i with
    | nil =>
      rw [hd] at q2
      simp only [forL] at q2
      split at q2
      · assumption
      · exact q2.elim
    | cons x xs =>
      rw [hd] at q2
      simp only [forL] at q2
      split at q2
      · assumption
      · exact q2.elim
  have hI := hv1 g2 m2 H' pg tk rel2 st i
  cases hit : its[i]? with
  | none =>
    refine .inl ⟨hI.2 hit, ?_⟩
    have hd : its.drop i = [] := List.drop_eq_nil_of_le (List.getElem?_eq_none_iff.mp hit)
    rw [hd] at q2
    simp only [forL, st, if_true] at q2
    exact q2.nx rel2 rs2
  | some d =>
    obtain ⟨hgo, hy⟩ := hI.1 d hit
    have hil : i < its.length := (List.getElem?_eq_some_iff.mp hit).1
    have hd : its.drop i = d :: its.drop (i + 1) := by
      rw [List.drop_eq_getElem_cons hil]
      congr 1
      exact (List.getElem?_eq_some_iff.mp hit).2
    rw [hd] at q2
    simp only [forL, st, if_true] at q2
    refine .inr ⟨hgo, fun σ3 H3 => ∃ g m r, g1 <+: g ∧ TK H1 H3 ∧ Rel ⟨X.K, cls⟩ g m H3 ∧ RelS ⟨X.K, cls⟩ g H3 r σ3 ∧ PostS ⟨X.K, cls⟩ W g H3 De σ3 (forL gd p (evSs κ b) (its.drop (i + 1)) r m),
      fun σ3 H3 h3 => ⟨its.length - (i + 1), by omega, rfl, h3⟩, fun x H3 y => ?_⟩
    obtain ⟨tk3, rel3, hx3⟩ := hy x H3 y
    have q3 := PostS.mono (σ1 := σ') (List.prefix_refl g2) tk3 q2
    have rs3 := rs2.mono (List.prefix_refl g2) tk3
    cases hb : bindP p d r2 with
    | none => rw [hb] at q3; exact q3.elim
    | some r3 =>
      rw [hb] at q3
      simp only at q3
      refine ⟨g2, d, r2, r3, rs3, hx3, hb, fun σ4 rs4 _ => ⟨g2, m2, r3, rel3, rs4, ?_⟩⟩
      cases hz : evSs κ b r3 m2 with
      | ok o m3 =>
        rw [hz, bind_ok] at q3
        cases o with
        | nx r4 => exact fun g5 H5 σ5 p5 t5 rel5 rs5 => ⟨g5, m3, r4, pg.trans p5, (tk.trans tk3).trans t5, rel5, rs5, PostS.mono p5 t5 q3⟩
        | ct r4 => exact fun g5 H5 σ5 p5 t5 rel5 rs5 => ⟨g5, m3, r4, pg.trans p5, (tk.trans tk3).trans t5, rel5, rs5, PostS.mono p5 t5 q3⟩
        | bk r4 => exact fun g5 H5 σ5 p5 t5 rel5 rs5 => q3 g5 H5 σ5 p5 t5 rel5 rs5
        | rt d => exact q3
      | ex c fs m3 => rw [hz] at q3; exact q3
      | bad => rw [hz] at q3; exact q3
/-! ### while -/
theorem s_while {e : Expr} {c : E} {body : List Stmt} {b : Ss} {pos : Pos} (hp : PassesOwn (model X.prog X.w) X.A X.env X.xe) (hc : PTc X cls W κ e c) (hb : PSsc X cls W κ body b) : PSc X cls W κ (.While e body [] pos) (.whl c b) := ps_imp (ps_while hp hc hb) fun De σ H q => by
  obtain ⟨g, m, r, rel, rs, q⟩ := q
  simp only [evS] at q
  refine ⟨fun n σ' H' => ∃ g m r, Rel ⟨X.K, cls⟩ g m H' ∧ RelS ⟨X.K, cls⟩ g H' r σ' ∧ PostS ⟨X.K, cls⟩ W g H' De σ' (whlL (evE κ c) (evSs κ b) n r m), ⟨whileMost, g, m, r, rel, rs, q⟩, ?_⟩
  rintro n σ1 H1 ⟨g1, m1, r1, rel1, rs1, q1⟩
  refine ⟨g1, m1, r1, rel1, rs1, ?_⟩
  unfold evT
  cases n with
  | zero => exact q1.elim
  | succ n =>
    simp only [whlL] at q1
    cases hz : evE κ c r1 m1 with
    | ok x m2 =>
      rw [hz, bind_ok] at q1
      rw [bind_ok]
      cases ht : truth x m2 with
      | none => rw [ht] at q1; exact q1
      | some k =>
        rw [ht] at q1
        intro g2 H2 v p t rel2 e
        subst e
        have rs2 := rs1.mono p t
        have q2 := PostS.mono (σ1 := σ1) p t q1
        cases v with
        | false => exact iteF (q2.nx rel2 rs2)
        | true =>
          refine iteT ⟨fun σ3 H3 => ∃ g m r, Rel ⟨X.K, cls⟩ g m H3 ∧ RelS ⟨X.K, cls⟩ g H3 r σ3 ∧ PostS ⟨X.K, cls⟩ W g H3 De σ3 (whlL (evE κ c) (evSs κ b) n r m), fun σ3 H3 h3 => ⟨n, Nat.lt_succ_self n, h3⟩, g2, m2, r1, rel2, rs2, ?_⟩
          simp only at q2
          cases hz2 : evSs κ b r1 m2 with
          | ok o m3 =>
            rw [hz2, bind_ok] at q2
            cases o with
            | nx r4 => exact fun g5 H5 σ5 p5 t5 rel5 rs5 => ⟨g5, m3, r4, rel5, rs5, PostS.mono p5 t5 q2⟩
            | ct r4 => exact fun g5 H5 σ5 p5 t5 rel5 rs5 => ⟨g5, m3, r4, rel5, rs5, PostS.mono p5 t5 q2⟩
            | bk r4 => exact fun g5 H5 σ5 p5 t5 rel5 rs5 => q2 g5 H5 σ5 p5 t5 rel5 rs5
            | rt d => exact q2
          | ex c fs m3 => rw [hz2] at q2; exact q2
          | bad => rw [hz2] at q2; exact q2
    | ex c fs m2 => rw [hz] at q1; exact q1 σ1
    | bad => rw [hz] at q1; exact q1
end
end G
set_option maxRecDepth 100000
set_option maxHeartbeats 2000000
namespace G
open PySem L2 PySem.Spec PyProof.Rows
section
variable {X : Cx} {cls : Nat → Option Addr} {W : WX} {κ : Sig} {k : Nat}
/-! ### if (x := a) op b -/
theorem s_ifw {i : Nat} {x : Str} {a b : Expr} {p q : List Stmt} {ca cb : E} {o : Cp} {op : CmpOp} {r : R2} {t u : Ss} {px pn pc pos : Pos} (ho : OpR X (compareOp op) r) (sv : Serves X cls r (cmpS o)) (hm : behindInMarks op b = false)
    (hN : X.N.Nodup) (hi : X.N[i]? = some x) (hx : Loc X.env.scope x) (ha : PEc X cls W κ a ca) (hb : PEc X cls W κ b cb) (hp : PSsc X cls W κ p t) (hq : PSsc X cls W κ q u)
    (hf : X.fn x = true ∨ X.env.scope.names.lookup x = some .local := by first | exact .inl rfl | exact .inr rfl | assumption) :
    PSc X cls W κ (.If (.Compare (.NamedExpr (.Name x px) a pn) [op] [b] pc) p q pos) (.ifw i ca o cb t u) :=
  ps_imp (ps_ifW (ptw_cmp ho (pew_named hN hi hx (pew_of ha) hf) hb hm) hp hq) fun De σ H z => by
    obtain ⟨g, m, r0, rel, rs, z⟩ := z
    refine ⟨g, m, r0, rel, rs, ?_⟩
    simp only [evS] at z
    refine PostS.bind z fun g1 H1 m1 v x1 p1 t1 rel1 hv1 z1 => ?_
    have rs1 := (rs.mono p1 t1).set hv1 i
    refine ⟨g1, m1, _, rel1, rs1, ?_⟩
    cases hz2 : evE κ cb (r0.set i (some x1)) m1 with
    | ok y m2 =>
      rw [hz2, bind_ok] at z1
      intro g2 H2 v2 p2 t2 rel2 hv2
      refine sv W σ g2 H2 m2 v v2 x1 y _ rel2 (hv1.mono p2 t2) hv2 ?_
      have z2 := PostS.mono (σ1 := σ) p2 t2 z1
      have rs2 := rs1.mono p2 t2
      cases hz3 : cmpS o x1 y m2 with
      | ok zz m3 =>
        obtain ⟨kk, rfl, rfl⟩ := cmpS_bl hz3
        rw [hz3, bind_ok] at z2
        intro g3 H3 v3 p3 t3 rel3 hv3
        rw [rep_bl hv3]
        refine ⟨kk, rfl, ?_⟩
        cases kk with
        | true => exact iteT ⟨g3, m3, _, rel3, rs2.mono p3 t3, PostS.mono p3 t3 z2⟩
        | false => exact iteF ⟨g3, m3, _, rel3, rs2.mono p3 t3, PostS.mono p3 t3 z2⟩
      | ex c fs m3 => exact (cmpS_ex hz3).elim
      | bad => rw [hz3] at z2; exact z2
    | ex c fs m2 => rw [hz2] at z1; exact z1 _
    | bad => rw [hz2] at z1; exact z1
theorem s_whw {i : Nat} {x : Str} {a b : Expr} {p : List Stmt} {ca cb : E} {o : Cp} {op : CmpOp} {r : R2} {t : Ss} {px pn pc pos : Pos} (hpo : PassesOwn (model X.prog X.w) X.A X.env X.xe) (ho : OpR X (compareOp op) r) (sv : Serves X cls r (cmpS o)) (hm : behindInMarks op b = false)
    (hN : X.N.Nodup) (hi : X.N[i]? = some x) (hx : Loc X.env.scope x) (ha : PEc X cls W κ a ca) (hb : PEc X cls W κ b cb) (hp : PSsc X cls W κ p t)
    (hf : X.fn x = true ∨ X.env.scope.names.lookup x = some .local := by first | exact .inl rfl | exact .inr rfl | assumption) :
    PSc X cls W κ (.While (.Compare (.NamedExpr (.Name x px) a pn) [op] [b] pc) p [] pos) (.whw i ca o cb t) :=
  ps_imp (ps_whileW hpo (ptw_cmp ho (pew_named hN hi hx (pew_of ha) hf) hb hm) hp pss_nil) fun De σ H z => by
    obtain ⟨g, m, r0, rel, rs, z⟩ := z
    simp only [evS] at z
    refine ⟨fun n σ' H' => ∃ g m r, Rel ⟨X.K, cls⟩ g m H' ∧ RelS ⟨X.K, cls⟩ g H' r σ' ∧ PostS ⟨X.K, cls⟩ W g H' De σ' (whwL i (evE κ ca) o (evE κ cb) (evSs κ t) n r m), ⟨whileMost, g, m, r0, rel, rs, z⟩, ?_⟩
    rintro n σ0 H0 ⟨g0, m0, r00, rel0, rs0, z0⟩
    cases n with
    | zero => exact z0.elim
    | succ n =>
    refine ⟨g0, m0, r00, rel0, rs0, ?_⟩
    simp only [whwL] at z0
    refine PostS.bind z0 fun g1 H1 m1 v x1 p1 t1 rel1 hv1 z1 => ?_
    have rs1 := (rs0.mono p1 t1).set hv1 i
    refine ⟨g1, m1, _, rel1, rs1, ?_⟩
    cases hz2 : evE κ cb (r00.set i (some x1)) m1 with
    | ok y m2 =>
      rw [hz2, bind_ok] at z1
      intro g2 H2 v2 p2 t2 rel2 hv2
      refine sv W σ g2 H2 m2 v v2 x1 y _ rel2 (hv1.mono p2 t2) hv2 ?_
      have z2 := PostS.mono (σ1 := σ0) p2 t2 z1
      have rs2 := rs1.mono p2 t2
      cases hz3 : cmpS o x1 y m2 with
      | ok zz m3 =>
        obtain ⟨kk, rfl, rfl⟩ := cmpS_bl hz3
        rw [hz3, bind_ok] at z2
        intro g3 H3 v3 p3 t3 rel3 hv3
        rw [rep_bl hv3]
        refine ⟨kk, rfl, ?_⟩
        have z3 := PostS.mono (σ1 := σ0) p3 t3 z2
        have rs3 := rs2.mono p3 t3
        cases kk with
        | true =>
          refine iteT ⟨fun σ3 H3 => ∃ g m r, Rel ⟨X.K, cls⟩ g m H3 ∧ RelS ⟨X.K, cls⟩ g H3 r σ3 ∧ PostS ⟨X.K, cls⟩ W g H3 De σ3 (whwL i (evE κ ca) o (evE κ cb) (evSs κ t) n r m), fun σ3 H3 h3 => ⟨n, Nat.lt_succ_self n, h3⟩, g3, m3, _, rel3, rs3, ?_⟩
          simp only at z3
          cases hz4 : evSs κ t (r00.set i (some x1)) m3 with
          | ok ot m4 =>
            rw [hz4, bind_ok] at z3
            cases ot with
            | nx r4 => exact fun g5 H5 σ5 p5 t5 rel5 rs5 => ⟨g5, m4, r4, rel5, rs5, PostS.mono p5 t5 z3⟩
            | ct r4 => exact fun g5 H5 σ5 p5 t5 rel5 rs5 => ⟨g5, m4, r4, rel5, rs5, PostS.mono p5 t5 z3⟩
            | bk r4 => exact fun g5 H5 σ5 p5 t5 rel5 rs5 => z3 g5 H5 σ5 p5 t5 rel5 rs5
            | rt d => exact z3
          | ex c fs m4 => rw [hz4] at z3; exact z3
          | bad => rw [hz4] at z3; exact z3
        | false => exact iteF (z3.nx rel3 rs3)
      | ex c fs m3 => exact (cmpS_ex hz3).elim
      | bad => rw [hz3] at z2; exact z2
    | ex c fs m2 => rw [hz2] at z1; exact z1 _
    | bad => rw [hz2] at z1; exact z1
end

/-! ### a def -/
theorem gcL_len : ∀ {n : Nat} {m m1 : Hs}, gcL n m m1 = true → m.length ≤ m1.length
  | _, [], _, _ => Nat.zero_le _
  | _, _ :: _, [], h => by simp [gcL] at h
  | n, o :: os, p :: ps, h => by
    simp only [gcL, Bool.and_eq_true] at h
    simp only [List.length_cons]
    exact Nat.succ_le_succ (gcL_len h.2)
theorem gcL_at : ∀ {n : Nat} {m m1 : Hs} {i : Nat} {o p : O}, gcL n m m1 = true → m[i]? = some o → m1[i]? = some p → o = p ∨ belowO n p = true
  | _, [], _, _, _, _, _, h, _ => by simp at h
  | _, _ :: _, [], _, _, _, h, _, _ => by simp [gcL] at h
  | n, a :: os, b :: ps, 0, o, p, h, h1, h2 => by
    simp only [gcL, Bool.and_eq_true, Bool.or_eq_true] at h
    simp at h1 h2
    subst h1
    subst h2
    rcases h.1 with q | q
    · exact .inl (beqO_eq _ _ q)
    · exact .inr q
  | n, a :: os, b :: ps, i + 1, o, p, h, h1, h2 => by
    simp only [gcL, Bool.and_eq_true] at h
    exact gcL_at (i := i) h.2 (by simpa using h1) (by simpa using h2)
section
variable {Γ : Cst} {g g' : List Addr} {m m1 : Hs} {H H' : Hp}
theorem ObjR.bel {a : Addr} {o : O} (h : ObjR Γ g H a o) : belowO g.length o = true := by
  cases o with
  | lst ds => obtain ⟨xs, _, h2⟩ := h; exact h2.bel
  | ins c fs => obtain ⟨C, dx, vs, _, _, h2⟩ := h; exact h2.bel
theorem ObjR.shrink {a : Addr} {o : O} {n : Nat} (h : ObjR Γ g H a o) (b : belowO n o = true) : ObjR Γ (g.take n) H a o := by
  cases o with
  | lst ds => obtain ⟨xs, h1, h2⟩ := h; exact ⟨xs, h1, h2.shrink b⟩
  | ins c fs => obtain ⟨C, dx, vs, h0, h1, h2⟩ := h; exact ⟨C, dx, vs, h0, h1, h2.shrink b⟩
theorem pre_take (p : g <+: g') : g'.take g.length = g := by
  obtain ⟨r, rfl⟩ := p
  simp
theorem Rel.gc (R : Rel Γ g m H) (p : g <+: g') (R' : Rel Γ g' m1 H') (c : gcL m.length m m1 = true) : Rel Γ g (m1.take m.length) H' := by
  have hl := gcL_len c
  refine ⟨by rw [List.length_take, R.len]; omega, R.inj, fun i o a h1 h2 => ?_⟩
  have hi : i < m.length := by rw [← R.len]; exact (List.getElem?_eq_some_iff.mp h2).1
  rw [List.getElem?_take_of_lt hi] at h1
  have q := R'.obj i o a h1 (pre_get p h2)
  have b : belowO m.length o = true := by
    rcases gcL_at c (List.getElem?_eq_getElem hi) h1 with e | e
    · have z := (R.obj i _ a (List.getElem?_eq_getElem hi) h2).bel
      rw [R.len, e] at z
      exact z
    · exact e
  have s := q.shrink b
  rw [← R.len, pre_take p] at s
  exact s
theorem Rep.gc {v : V} {d : D} (R : Rel Γ g m H) (p : g <+: g') (h : Rep Γ.K g' H' v d) (b : G.below m.length d = true) : Rep Γ.K g H' v d := by
  have s := h.shrink b
  rw [← R.len, pre_take p] at s
  exact s
theorem RepF.gc {vs : List (Str × V)} {fs : List (Str × D)} (R : Rel Γ g m H) (p : g <+: g') (h : RepF Γ.K g' H' vs fs) (b : belowF m.length fs = true) : RepF Γ.K g H' vs fs := by
  have s := h.shrink b
  rw [← R.len, pre_take p] at s
  exact s
end
theorem relS_start {Γ : Cst} {g : List Addr} {H : Hp} {vs : List V} {ds : List D} (r : RepL Γ.K g H vs ds) (n : Nat) : RelS Γ g H (ds.map some ++ List.replicate n none) (vs.map some ++ List.replicate n none) := by
  refine ⟨by simp [r.length], fun i d hd => ?_⟩
  by_cases hi : i < ds.length
  · rw [List.getElem?_append_left (by simpa using hi), List.getElem?_map, Option.map_eq_some_iff] at hd
    obtain ⟨e, h1, h2⟩ := hd
    cases h2
    obtain ⟨v, h3, h4⟩ := r.get h1
    exact ⟨v, by rw [List.getElem?_append_left (by simpa [r.length] using hi), List.getElem?_map, h3]; rfl, h4⟩
  · rw [List.getElem?_append_right (by simpa using hi), List.getElem?_replicate] at hd
    split at hd <;> cases hd
section
variable {P : Program} {w : World} {K : PySem.W.Frag} {mg : Str → Option Value} {base : Heap} {cls : Nat → Option Addr} {Δ : Prog} {k n : Nat}
theorem fn_ok {x qual : Str} {st : Stmt} {f : Addr} {fd : FuncData} {N ps : List Str} {fn : Fn} (F : Fun K x qual st f fd) (S : FnScope N ps (defScope st)) (hΔ : Δ.fn n = some fn) (hnp : fn.np = ps.length) (hns : fn.ns = N.length)
    (walk : ∀ (cdv : Value) (A : Around) (outer : List Env) (s : Shared) (H : Hp) (E : XK), Room (2 * k + 1) (A.deeper (envOfC qual (defScope st) s.heap.objs.size f cdv)) →
      PSsc (cxOf (L2.CX P w) P w K mg base N qual (defScope st) f cdv A outer s H E) cls (fun c d _ H' => E c d H') ⟨callN Δ k, Δ.cls⟩ (defBody st) fn.body) :
    FnOk P w K mg base (L2.CX P w) (2 * (k + 1)) f fd ps (spOf ⟨K, cls⟩ (callN Δ (k + 1)) n) := by
  refine F.okX (k := 2 * k + 1) S (fun vs H Q E h => ?_) (fun cdv A outer s H vs Q E hr h => ?_)
  · obtain ⟨g, m, ds, rel, rv, q⟩ := h
    simp only [callN, hΔ] at q
    split at q
    · rename_i hl
      rw [rv.length, hl, hnp]
    · exact q.elim
  · obtain ⟨g, m, ds, rel, rv, q⟩ := h
    simp only [callN, hΔ] at q
    split at q
    · rename_i hl
      refine ⟨_, walk cdv A outer s H E hr, g, m, ds.map some ++ List.replicate (fn.ns - ds.length) none, rel, ?_, ?_⟩
      · unfold L2.start
        rw [hns, rv.length]
        exact relS_start rv _
      · unfold evFn at q
        cases hz : evSs ⟨callN Δ k, Δ.cls⟩ fn.body (ds.map some ++ List.replicate (fn.ns - ds.length) none) m with
        | ok o m1 =>
          rw [hz] at q
          cases o with
          | rt d =>
            intro g' H' v p t rel' hv
            simp only [gcR] at q
            split at q
            · rename_i hc
              rw [Bool.and_eq_true] at hc
              exact q g H' v (List.prefix_refl g) t (rel.gc p rel' hc.2) (hv.gc rel p hc.1)
            · exact q g' H' v p t rel' hv
          | nx r' =>
            intro g' H' σ' p t rel' hv
            simp only [gcR] at q
            split at q
            · rename_i hc
              rw [Bool.and_eq_true] at hc
              exact q g H' _ (List.prefix_refl g) t (rel.gc p rel' hc.2) .non
            · exact q g' H' _ p t rel' .non
          | bk r' => exact q.elim
          | ct r' => exact q.elim
        | ex c fs m1 =>
          rw [hz] at q
          intro σ g' H' C d vs p t rel' hC hd hf
          simp only at q
          split at q
          · rename_i hc
            rw [Bool.and_eq_true] at hc
            exact q g H' C d vs (List.prefix_refl g) t (rel.gc p rel' hc.2) hC hd (hf.gc rel p hc.1)
          · exact q g' H' C d vs p t rel' hC hd hf
        | bad => rw [hz] at q; exact q.elim
    · exact q.elim
theorem fn_zero {f : Addr} {fd : FuncData} {ps : List Str} : FnOk P w K mg base (L2.CX P w) (2 * 0) f fd ps (spOf ⟨K, cls⟩ (callN Δ 0) n) :=
  ⟨fun _ _ _ _ h => by
    obtain ⟨_, _, _, _, _, q⟩ := h
    exact q.elim, fun _ _ _ _ _ _ _ _ _ _ _ _ _ h => by
    obtain ⟨_, _, _, _, _, q⟩ := h
    exact q.elim⟩
/-- the law's promise, from the plain equation -/
theorem law_sp {H : Hp} {a : Addr} {ns : List Int} (hO : L2.Only H) (hS : SqL K H a (ns.map V.int)) (h : ∃ m, callN Δ k n [.fl (ns.map .int)] [] = .ok (.bl true) m) : spOf ⟨K, cls⟩ (callN Δ k) n [.ref a] H (fun v _ => v = .bl true) (fun _ _ _ => False) := by
  obtain ⟨m, h⟩ := h
  have rl : ∀ l : List Int, RepL K [] H (l.map V.int) (l.map D.int) := fun l => by
    induction l with
    | nil => exact .nil
    | cons i l ih => exact .cons (.int i) ih
  refine ⟨[], [], [.fl (ns.map .int)], ⟨rfl, List.nodup_nil, fun i o a h => by simp at h⟩, .cons (.fl (xs := ns.map V.int) ?_ (rl ns)) .nil, ?_⟩
  · rcases hS with (hS | ⟨o, hS⟩) | hS
    · rcases hO a with z | ⟨o, xs, z⟩
      · rw [hS] at z; cases z
      · rw [hS] at z; cases z
    · exact .inl ⟨o, hS⟩
    · exact .inr fun H' => .inr hS
  · rw [h]
    intro g' H' v _ _ _ hv
    exact rep_bl hv
end
end G
set_option maxRecDepth 100000
set_option maxHeartbeats 2000000
namespace G
open PySem L2 PySem.Spec PyProof.Rows
theorem lookup_mem {α β : Type} [BEq α] [LawfulBEq α] {a : α} {b : β} : ∀ {l : List (α × β)}, l.lookup a = some b → (a, b) ∈ l
  | [], h => by simp at h
  | (x, y) :: l, h => by
    simp only [List.lookup] at h
    split at h
    · rename_i e
      have e := eq_of_beq e
      subst e
      cases h
      exact List.mem_cons_self
    · exact List.mem_cons_of_mem _ (lookup_mem h)
section
variable {X : Cx} {cls : Nat → Option Addr} {W : WX} {κ : Sig} {k : Nat}
theorem flat_ok {g : List Addr} {H : Hp} {v : V} {d : D} (h : Rep X.K g H v d) : flatV v = flatD d := by
  cases h <;> rfl
theorem eqF_ok {g : List Addr} {H : Hp} {v w : V} {d e : D} (h : Rep X.K g H v d) (h' : Rep X.K g H w e) (f : flatD d = true) (f' : flatD e = true) : eqV v w = eqF d e := by
  cases h <;> first | (simp [flatD] at f; done) | skip
  all_goals (cases h' <;> first | (simp [flatD] at f'; done) | rfl | skip)
theorem any_ok {g : List Addr} {H : Hp} {w : V} {e : D} (h' : Rep X.K g H w e) (f' : flatD e = true) : ∀ {vs : List V} {ds : List D}, RepL X.K g H vs ds → ds.all flatD = true → (vs.all flatV = true ∧ inV w vs = ds.any fun z => eqF z e)
  | _, _, .nil, _ => ⟨rfl, rfl⟩
  | _, _, .cons r s, f => by
    simp only [List.all_cons, Bool.and_eq_true] at f
    obtain ⟨a1, a2⟩ := any_ok h' f' s f.2
    refine ⟨by simp only [List.all_cons, Bool.and_eq_true]; exact ⟨by rw [flat_ok r]; exact f.1, a1⟩, ?_⟩
    unfold inV at a2 ⊢
    rw [List.any_cons, List.any_cons, a2, eqF_ok r h' f.1 f']
theorem in_ok {g : List Addr} {H : Hp} {m : Hs} {vx vy : V} {x y : D} {b : Bool} (rel : Rel ⟨X.K, cls⟩ g m H) (hx : Rep X.K g H vx x) (hy : Rep X.K g H vy y) (h : inS x y m = some b) : ∃ p xs, vy = .ref p ∧ (SqL X.K H p xs ∨ SqT X.K H p xs) ∧ flatV vx = true ∧ xs.all flatV = true ∧ inV vx xs = b := by
  unfold inS at h
  split at h
  · rename_i ds hd
    split at h
    · rename_i hf
      rw [Bool.and_eq_true] at hf
      obtain ⟨p, xs, rfl, hs, r⟩ := rep_seq rel hy hd
      obtain ⟨a1, a2⟩ := any_ok hx hf.1 r hf.2
      exact ⟨p, xs, rfl, hs, by rw [flat_ok hx]; exact hf.1, a1, by rw [a2]; exact Option.some.inj h⟩
    · cases h
  · cases h
theorem sv_in : Serves X cls (rIn X.K false) (cmpS .isin) := by
  intro W σ g H m vx vy x y Q rel hx hy q
  simp only [cmpS] at q
  split at q
  · rename_i b hb
    obtain ⟨p, xs, rfl, h1, h2, h3, h4⟩ := in_ok rel hx hy hb
    refine ⟨p, xs, rfl, h1, h2, h3, ?_⟩
    rw [if_neg Bool.false_ne_true, h4]
    exact q.ret rel (.bl _)
  · exact q.elim
theorem sv_notin : Serves X cls (rIn X.K true) (cmpS .notin) := by
  intro W σ g H m vx vy x y Q rel hx hy q
  simp only [cmpS] at q
  split at q
  · rename_i b hb
    obtain ⟨p, xs, rfl, h1, h2, h3, h4⟩ := in_ok rel hx hy hb
    refine ⟨p, xs, rfl, h1, h2, h3, ?_⟩
    rw [if_pos rfl, h4]
    exact q.ret rel (.bl _)
  · exact q.elim
end
end G
set_option maxRecDepth 100000
set_option maxHeartbeats 4000000
namespace G.K13
open PySem G
def b_is_integer : Ss := .cons (.ife (.or (.not (.bi (.isi .int) (.cons (.var 0) .nil))) (.or (.bi (.isi .bl) (.cons (.var 0) .nil)) (.cmp .lt (.var 0) (.var 1)))) (.cons (.ret (.cst (.bl false))) (.nil)) (.nil)) (.cons (.ret (.or (.cmp .is (.var 2) (.cst .non)) (.cmp .le (.var 0) (.var 2)))) (.nil))
def f_is_integer : Fn := ⟨3, 3, b_is_integer⟩
def b_top_level : Ss := .cons (.ret (.bin .sub (.bi .len (.cons (.idx (.var 0) (.cst (.int 0))) (.nil))) (.cst (.int 1)))) (.nil)
def f_top_level : Fn := ⟨1, 1, b_top_level⟩
def b_capacity_of : Ss := .cons (.ret (.idx (.idx (.var 0) (.cst (.int 0))) (.var 1))) (.nil)
def f_capacity_of : Fn := ⟨2, 2, b_capacity_of⟩
def b_boundaries : Ss := .cons (.ret (.bi .tuple (.cons (.lc .zip (.cons (.idx (.var 0) (.cst (.int 0))) (.cons (.idx (.var 0) (.cst (.int 1))) (.nil))) (.tp (.cons (.nm 1) (.cons (.nm 2) (.nil)))) (.nil) (.tup (.cons (.var 1) (.cons (.var 2) (.nil)))) [1, 2]) (.nil)))) (.nil)
def f_boundaries : Fn := ⟨1, 3, b_boundaries⟩
def b_is_run : Ss := .cons (.ife (.or (.not (.bi (.isi .tup) (.cons (.var 0) .nil))) (.or (.cmp .ne (.bi .len (.cons (.var 0) (.nil))) (.cst (.int 2))) (.not (.bi (.isi .str) (.cons (.idx (.var 0) (.cst (.int 0))) .nil))))) (.cons (.ret (.cst (.bl false))) (.nil)) (.nil)) (.cons (.ret (.and (.cmp .isin (.idx (.var 0) (.cst (.int 0))) (.tup (.cons (.cst (.str "push")) (.cons (.cst (.str "pop")) (.nil))))) (.call 0 (.cons (.idx (.var 0) (.cst (.int 1))) (.cons (.cst (.int 1)) (.cons (.cst (.int 1000000000000000000)) (.nil))))))) (.nil))
def f_is_run : Fn := ⟨1, 1, b_is_run⟩
def b_are_operations : Ss := .cons (.ret (.and (.bi (.isi .tup) (.cons (.var 0) .nil)) (.and (.cmp .le (.bi .len (.cons (.var 0) (.nil))) (.cst (.int 200))) (.bi .all (.cons (.lc .seq (.cons (.var 0) .nil) (.nm 1) (.nil) (.call 4 (.cons (.var 1) (.nil))) [1]) (.nil)))))) (.nil)
def f_are_operations : Fn := ⟨1, 2, b_are_operations⟩
def b_check_operations : Ss := .cons (.ife (.not (.call 5 (.cons (.var 0) (.nil)))) (.cons (.never) (.nil)) (.nil)) (.nil)
def f_check_operations : Fn := ⟨1, 1, b_check_operations⟩
def b_Track___init__ : Ss := .cons (.asg (.fld (.var 0) "places") (.call 3 (.cons (.var 1) (.nil)))) (.cons (.asg (.fld (.var 0) "fixed") (.idx (.var 1) (.cst (.int 2)))) (.cons (.asg (.fld (.var 0) "most") (.call 2 (.cons (.var 1) (.cons (.call 1 (.cons (.var 1) (.nil))) (.nil))))) (.cons (.asg (.tp (.cons (.fld (.var 0) "at_level") (.cons (.fld (.var 0) "at_size") (.nil)))) (.var 2)) (.cons (.asg2 (.fld (.var 0) "paid") (.fld (.var 0) "done") (.cst (.int 0))) (.nil)))))
def f_Track___init__ : Fn := ⟨3, 3, b_Track___init__⟩
def b_Track_move : Ss := .cons (.augF (.var 0) "done" .add (.bin .add (.bi .abs (.cons (.bin .sub (.var 1) (.fld (.var 0) "at_size")) (.nil))) (.cst (.int 1)))) (.cons (.asg (.nm 3) (.ite (.cmp .gt (.var 2) (.cst (.int 0))) (.var 1) (.bin .sub (.var 1) (.cst (.int 1))))) (.cons (.asg (.tp (.cons (.fld (.var 0) "at_size") (.cons (.fld (.var 0) "at_level") (.nil)))) (.tup (.cons (.bin .add (.var 1) (.var 2)) (.cons (.bin .add (.fld (.var 0) "at_level") (.var 2)) (.nil))))) (.cons (.augF (.var 0) "paid" .add (.bin .add (.var 3) (.fld (.var 0) "fixed"))) (.cons (.ret (.tup (.cons (.bin .sub (.fld (.var 0) "done") (.cst (.int 1))) (.cons (.ite (.cmp .gt (.var 2) (.cst (.int 0))) (.cst (.str "grow")) (.cst (.str "shrink"))) (.cons (.fld (.var 0) "at_level") (.cons (.var 3) (.nil))))))) (.nil)))))
def f_Track_move : Fn := ⟨3, 4, b_Track_move⟩
def b_Track_rest : Ss := .cons (.augF (.var 0) "done" .add (.bi .abs (.cons (.bin .sub (.var 1) (.fld (.var 0) "at_size")) (.nil)))) (.cons (.asg (.fld (.var 0) "at_size") (.var 1)) (.nil))
def f_Track_rest : Fn := ⟨2, 2, b_Track_rest⟩
def b_Track_push : Ss := .cons (.par 2 3 (.bin .add (.fld (.var 0) "at_size") (.var 1)) (.lst (.nil))) (.cons (.whl (.and (.cmp .lt (.fld (.var 0) "at_level") (.bi .len (.cons (.fld (.var 0) "places") (.nil)))) (.cmp .gt (.var 2) (.idx (.idx (.fld (.var 0) "places") (.fld (.var 0) "at_level")) (.cst (.int 0))))) (.cons (.app (.var 3) (.meth (.var 0) "move" (.cons (.idx (.idx (.fld (.var 0) "places") (.fld (.var 0) "at_level")) (.cst (.int 0))) (.cons (.cst (.int 1)) (.nil))))) (.nil))) (.cons (.exp (.meth (.var 0) "rest" (.cons (.var 2) (.nil)))) (.cons (.ret (.var 3)) (.nil))))
def f_Track_push : Fn := ⟨2, 4, b_Track_push⟩
def b_Track_pop : Ss := .cons (.par 2 3 (.bin .sub (.fld (.var 0) "at_size") (.var 1)) (.lst (.nil))) (.cons (.whl (.and (.cmp .gt (.fld (.var 0) "at_level") (.cst (.int 0))) (.cmp .le (.var 2) (.idx (.idx (.fld (.var 0) "places") (.bin .sub (.fld (.var 0) "at_level") (.cst (.int 1)))) (.cst (.int 1))))) (.cons (.app (.var 3) (.meth (.var 0) "move" (.cons (.bin .add (.idx (.idx (.fld (.var 0) "places") (.bin .sub (.fld (.var 0) "at_level") (.cst (.int 1)))) (.cst (.int 1))) (.cst (.int 1))) (.cons (.neg (.cst (.int 1))) (.nil))))) (.nil))) (.cons (.exp (.meth (.var 0) "rest" (.cons (.var 2) (.nil)))) (.cons (.ret (.var 3)) (.nil))))
def f_Track_pop : Fn := ⟨2, 4, b_Track_pop⟩
def b_Track_run : Ss := .cons (.ife (.cmp .eq (.var 1) (.cst (.str "push"))) (.cons (.ret (.ite (.cmp .le (.bin .add (.fld (.var 0) "at_size") (.var 2)) (.fld (.var 0) "most")) (.meth (.var 0) "push" (.cons (.var 2) (.nil))) (.cst .non))) (.nil)) (.nil)) (.cons (.ret (.ite (.cmp .ge (.fld (.var 0) "at_size") (.var 2)) (.meth (.var 0) "pop" (.cons (.var 2) (.nil))) (.cst .non))) (.nil))
def f_Track_run : Fn := ⟨3, 3, b_Track_run⟩
def b_tracked : Ss := .cons (.exp (.call 6 (.cons (.var 2) (.nil)))) (.cons (.par 3 4 (.make 0 (.cons (.var 0) (.cons (.var 1) (.nil)))) (.lst (.nil))) (.cons (.forS (.tp (.cons (.nm 5) (.cons (.tp (.cons (.nm 6) (.cons (.nm 7) (.nil)))) (.nil)))) .enum (.cons (.var 2) (.nil)) (.cons (.ifw 8 (.meth (.var 3) "run" (.cons (.var 6) (.cons (.var 7) (.nil)))) .is (.cst .non) (.cons (.never) (.nil)) (.nil)) (.cons (.ext (.var 4) (.var 8)) (.nil)))) (.cons (.ret (.tup (.cons (.var 3) (.cons (.var 4) (.nil))))) (.nil))))
def f_tracked : Fn := ⟨3, 9, b_tracked⟩
def b_after : Ss := .cons (.asg (.tp (.cons (.nm 3) (.cons (.nm 4) (.nil)))) (.call 13 (.cons (.var 0) (.cons (.var 1) (.cons (.var 2) (.nil)))))) (.cons (.ret (.tup (.cons (.fld (.var 3) "at_level") (.cons (.fld (.var 3) "at_size") (.nil))))) (.nil))
def f_after : Fn := ⟨3, 5, b_after⟩
def b_cost_of : Ss := .cons (.ret (.fld (.idx (.call 13 (.cons (.var 0) (.cons (.var 1) (.cons (.var 2) (.nil))))) (.cst (.int 0))) "paid")) (.nil)
def f_cost_of : Fn := ⟨3, 3, b_cost_of⟩
def b_law_draws : Ss := .cons (.asg (.nm 2) (.ite (.cmp .lt (.var 1) (.bi .len (.cons (.var 0) (.nil)))) (.idx (.var 0) (.var 1)) (.bin .add (.bin .mul (.cst (.int 7)) (.var 1)) (.cst (.int 3))))) (.cons (.asg (.nm 3) (.bin .mul (.bin .mod (.bi .abs (.cons (.var 2) (.nil))) (.bin .pow (.bin .pow (.cst (.int 10)) (.cst (.int 60))) (.cst (.int 5)))) (.bi .int (.cons (.cmp .ge (.bi .abs (.cons (.var 2) (.nil))) (.bin .pow (.cst (.int 10)) (.cst (.int 18)))) (.nil))))) (.cons (.ret (.lst (.cons (.var 3) (.cons (.bin .mod (.bin .mul (.bin .add (.bin .add (.bin .mod (.var 2) (.cst (.int 2305843009213693951))) (.bin .mul (.bin .mul (.cst (.int 7919)) (.var 1)) (.var 1))) (.cst (.int 17))) (.cst (.int 48271))) (.cst (.int 2305843009213693921))) (.cons (.cst (.int 0)) (.nil)))))) (.nil)))
def f_law_draws : Fn := ⟨2, 4, b_law_draws⟩
def b_law_below : Ss := .cons (.ife (.cmp .gt (.idx (.var 0) (.cst (.int 0))) (.cst (.int 0))) (.cons (.asg (.nm 2) (.bin .mod (.idx (.var 0) (.cst (.int 0))) (.var 1))) (.cons (.asg (.sub (.var 0) (.cst (.int 0))) (.bin .fdiv (.idx (.var 0) (.cst (.int 0))) (.var 1))) (.cons (.ret (.var 2)) (.nil)))) (.nil)) (.cons (.asg (.nm 3) (.bin .add (.idx (.var 0) (.cst (.int 2))) (.cst (.int 1)))) (.cons (.asg (.sub (.var 0) (.cst (.int 2))) (.var 3)) (.cons (.asg (.nm 4) (.idx (.lst (.cons (.cst (.int 2305843009213693951)) (.cons (.cst (.int 999999999989)) (.cons (.cst (.int 1000000000039)) (.cons (.cst (.int 67280421310721)) (.nil)))))) (.bin .mod (.var 3) (.cst (.int 4))))) (.cons (.asg (.nm 5) (.bin .mod (.bin .add (.bin .add (.idx (.var 0) (.cst (.int 1))) (.bin .mul (.bin .mul (.cst (.int 7919)) (.var 3)) (.var 3))) (.bin .mul (.cst (.int 65537)) (.var 3))) (.var 4))) (.cons (.asg (.nm 5) (.bin .mod (.bin .pow (.var 5) (.cst (.int 5))) (.var 4))) (.cons (.ret (.bin .mod (.bin .add (.bin .fdiv (.var 5) (.cst (.int 4099))) (.bin .mul (.bin .fdiv (.var 5) (.cst (.int 1000003))) (.cst (.int 7)))) (.var 1))) (.nil)))))))
def f_law_below : Fn := ⟨2, 6, b_law_below⟩
def b_law_pick : Ss := .cons (.ret (.idx (.var 1) (.call 17 (.cons (.var 0) (.cons (.bi .len (.cons (.var 1) (.nil))) (.nil)))))) (.nil)
def f_law_pick : Fn := ⟨2, 2, b_law_pick⟩
def b_law_table : Ss := .cons (.par 1 2 (.bin .add (.cst (.int 2)) (.call 17 (.cons (.var 0) (.cons (.cst (.int 39)) (.nil))))) (.call 18 (.cons (.var 0) (.cons (.lst (.cons (.cst (.int 2)) (.cons (.cst (.int 4)) (.cons (.cst (.int 8)) (.nil))))) (.nil))))) (.cons (.par3 3 4 5 (.lc .rng1 (.cons (.var 1) (.nil)) (.nm 6) (.nil) (.bin .shl (.cst (.int 1)) (.var 6)) [6]) (.lst (.nil)) (.neg (.cst (.int 1)))) (.cons (.forS (.nm 6) .rng2 (.cons (.cst (.int 1)) (.cons (.var 1) (.nil))) (.cons (.asg (.nm 5) (.bi .max2 (.cons (.bin .add (.var 5) (.cst (.int 1))) (.cons (.bin .fdiv (.bin .shl (.cst (.int 1)) (.var 6)) (.var 2)) (.nil))))) (.cons (.app (.var 4) (.var 5)) (.nil)))) (.cons (.ret (.tup (.cons (.bi .tuple (.cons (.var 3) (.nil))) (.cons (.bi .tuple (.cons (.var 4) (.nil))) (.cons (.call 18 (.cons (.var 0) (.cons (.lst (.cons (.cst (.int 0)) (.cons (.cst (.int 1)) (.cons (.call 17 (.cons (.var 0) (.cons (.bin .pow (.cst (.int 10)) (.cst (.int 12))) (.nil)))) (.nil))))) (.nil)))) (.nil)))))) (.nil))))
def f_law_table : Fn := ⟨1, 7, b_law_table⟩
def b_law_level : Ss := .cons (.ret (.idx (.lc .enum (.cons (.var 0) (.nil)) (.tp (.cons (.nm 2) (.cons (.nm 3) (.nil)))) (.cons (.cmp .ge (.var 3) (.var 1)) .nil) (.var 2) [2, 3]) (.cst (.int 0)))) (.nil)
def f_law_level : Fn := ⟨2, 4, b_law_level⟩
def b_law : Ss := .cons (.forS (.nm 1) .rng1 (.cons (.bi .max2 (.cons (.cst (.int 1)) (.cons (.bi .min2 (.cons (.cst (.int 3)) (.cons (.bi .len (.cons (.var 0) (.nil))) (.nil)))) (.nil)))) (.nil)) (.cons (.asg (.nm 2) (.call 16 (.cons (.var 0) (.cons (.var 1) (.nil))))) (.cons (.forS (.nm 3) .rng1 (.cons (.cst (.int 3)) (.nil)) (.cons (.asg (.nm 4) (.call 19 (.cons (.var 2) (.nil)))) (.cons (.asg (.tp (.cons (.nm 5) (.cons (.nm 6) (.cons (.nm 7) (.nil))))) (.var 4)) (.cons (.asg (.nm 8) (.idx (.var 5) (.neg (.cst (.int 1))))) (.cons (.forS (.nm 9) .seq (.cons (.tup (.cons (.cst (.int 1)) (.cons (.cst (.int 2)) (.cons (.var 8) (.cons (.bin .add (.cst (.int 1)) (.call 17 (.cons (.var 2) (.cons (.var 8) (.nil))))) (.cons (.bin .shl (.cst (.int 1)) (.call 17 (.cons (.var 2) (.cons (.bi .len (.cons (.var 5) (.nil))) (.nil))))) (.nil))))))) .nil) (.cons (.asg (.nm 10) (.call 20 (.cons (.var 5) (.cons (.var 9) (.nil))))) (.cons (.ife (.cmp .ne (.call 14 (.cons (.var 4) (.cons (.tup (.cons (.cst (.int 0)) (.cons (.cst (.int 0)) (.nil)))) (.cons (.tup (.cons (.tup (.cons (.cst (.str "push")) (.cons (.var 9) (.nil)))) (.nil))) (.nil))))) (.tup (.cons (.var 10) (.cons (.var 9) (.nil))))) (.cons (.ret (.cst (.bl false))) (.nil)) (.nil)) (.cons (.ife (.cmp .ne (.call 15 (.cons (.var 4) (.cons (.tup (.cons (.cst (.int 0)) (.cons (.cst (.int 0)) (.nil)))) (.cons (.tup (.cons (.tup (.cons (.cst (.str "push")) (.cons (.var 9) (.nil)))) (.nil))) (.nil))))) (.bin .add (.bin .sub (.bin .shl (.cst (.int 1)) (.var 10)) (.cst (.int 1))) (.bin .mul (.var 10) (.var 7)))) (.cons (.ret (.cst (.bl false))) (.nil)) (.nil)) (.cons (.asg (.nm 11) (.lc .seq (.cons (.var 6) .nil) (.nm 14) (.cons (.cmp .ge (.var 14) (.var 9)) .nil) (.var 14) [14])) (.cons (.asg (.nm 12) (.bin .add (.bin .sub (.bin .shl (.cst (.int 1)) (.bin .sub (.bi .len (.cons (.var 5) (.nil))) (.cst (.int 1)))) (.cst (.int 1))) (.bin .mul (.bin .sub (.bi .len (.cons (.var 5) (.nil))) (.cst (.int 1))) (.var 7)))) (.cons (.asg (.nm 13) (.ite (.cmp .lt (.var 9) (.var 8)) (.tup (.cons (.tup (.cons (.cst (.str "push")) (.cons (.var 8) (.nil)))) (.cons (.tup (.cons (.cst (.str "pop")) (.cons (.bin .sub (.var 8) (.var 9)) (.nil)))) (.nil)))) (.tup (.cons (.tup (.cons (.cst (.str "push")) (.cons (.var 8) (.nil)))) (.nil))))) (.cons (.ife (.cmp .ne (.call 14 (.cons (.var 4) (.cons (.tup (.cons (.cst (.int 0)) (.cons (.cst (.int 0)) (.nil)))) (.cons (.var 13) (.nil))))) (.tup (.cons (.bin .sub (.bin .sub (.bi .len (.cons (.var 5) (.nil))) (.cst (.int 1))) (.bi .len (.cons (.var 11) (.nil)))) (.cons (.var 9) (.nil))))) (.cons (.ret (.cst (.bl false))) (.nil)) (.nil)) (.cons (.ife (.cmp .ne (.call 15 (.cons (.var 4) (.cons (.tup (.cons (.cst (.int 0)) (.cons (.cst (.int 0)) (.nil)))) (.cons (.var 13) (.nil))))) (.bin .add (.bin .add (.var 12) (.bi .sum (.cons (.var 11) (.nil)))) (.bin .mul (.bi .len (.cons (.var 11) (.nil))) (.var 7)))) (.cons (.ret (.cst (.bl false))) (.nil)) (.nil)) (.nil)))))))))) (.nil)))))) (.nil)))) (.cons (.ret (.cst (.bl true))) (.nil))
def f_law : Fn := ⟨1, 15, b_law⟩
def fns : List (Nat × Fn) := [(0, f_is_integer), (1, f_top_level), (2, f_capacity_of), (3, f_boundaries), (4, f_is_run), (5, f_are_operations), (6, f_check_operations), (7, f_Track___init__), (8, f_Track_move), (9, f_Track_rest), (10, f_Track_push), (11, f_Track_pop), (12, f_Track_run), (13, f_tracked), (14, f_after), (15, f_cost_of), (16, f_law_draws), (17, f_law_below), (18, f_law_pick), (19, f_law_table), (20, f_law_level), (21, f_law)]
def kls : List (Nat × Cl) := [(0, ⟨7, [("move", 8), ("rest", 9), ("push", 10), ("pop", 11), ("run", 12)], ["at_level", "at_size", "done", "fixed", "most", "paid", "places"]⟩)]
def Dt : Prog := ⟨fun n => fns.lookup n, fun c => kls.lookup c⟩
end G.K13
set_option maxRecDepth 100000
set_option maxHeartbeats 4000000
namespace G.K13
open PySem L2 PySem.Spec PyProof.Rows G
def top (i : Nat) : Stmt := PySem.Challenge.pw_growshrink_k13_tables_that_double.main.body.getD i (.Pass ⟨0, 0, 0, 0⟩)
abbrev st_is_integer : Stmt := top 6
abbrev st_top_level : Stmt := top 7
abbrev st_capacity_of : Stmt := top 8
abbrev st_boundaries : Stmt := top 9
abbrev st_is_run : Stmt := top 17
abbrev st_are_operations : Stmt := top 18
abbrev st_check_operations : Stmt := top 19
abbrev st_Track___init__ : Stmt := inClass (top 20) 0
abbrev st_Track_move : Stmt := inClass (top 20) 1
abbrev st_Track_rest : Stmt := inClass (top 20) 2
abbrev st_Track_push : Stmt := inClass (top 20) 3
abbrev st_Track_pop : Stmt := inClass (top 20) 4
abbrev st_Track_run : Stmt := inClass (top 20) 5
abbrev st_tracked : Stmt := top 21
abbrev st_after : Stmt := top 22
abbrev st_cost_of : Stmt := top 23
abbrev st_law_draws : Stmt := top 25
abbrev st_law_below : Stmt := top 26
abbrev st_law_pick : Stmt := top 27
abbrev st_law_table : Stmt := top 28
abbrev st_law_level : Stmt := top 29
abbrev st_law : Stmt := top 30
structure Ad where
  a_is_integer : Addr
  d_is_integer : FuncData
  a_top_level : Addr
  d_top_level : FuncData
  a_capacity_of : Addr
  d_capacity_of : FuncData
  a_boundaries : Addr
  d_boundaries : FuncData
  a_is_run : Addr
  d_is_run : FuncData
  a_are_operations : Addr
  d_are_operations : FuncData
  a_check_operations : Addr
  d_check_operations : FuncData
  a_Track___init__ : Addr
  d_Track___init__ : FuncData
  a_Track_move : Addr
  d_Track_move : FuncData
  a_Track_rest : Addr
  d_Track_rest : FuncData
  a_Track_push : Addr
  d_Track_push : FuncData
  a_Track_pop : Addr
  d_Track_pop : FuncData
  a_Track_run : Addr
  d_Track_run : FuncData
  a_tracked : Addr
  d_tracked : FuncData
  a_after : Addr
  d_after : FuncData
  a_cost_of : Addr
  d_cost_of : FuncData
  a_law_draws : Addr
  d_law_draws : FuncData
  a_law_below : Addr
  d_law_below : FuncData
  a_law_pick : Addr
  d_law_pick : FuncData
  a_law_table : Addr
  d_law_table : FuncData
  a_law_level : Addr
  d_law_level : FuncData
  a_law : Addr
  d_law : FuncData
  C_Track : Addr
  t_GROW : Tok
  t_MOST_COUNT : Tok
  t_MOST_PAIRS : Tok
  t_PAIR : Tok
  t_POP : Tok
  t_PUSH : Tok
  t_SHRINK : Tok
def clsA (z : Ad) : Nat → Option Addr := fun c => ([(0, z.C_Track)] : List (Nat × Addr)).lookup c
structure Txt (K : PySem.W.Frag) (mg : Str → Option Value) (z : Ad) : Prop where
  F_is_integer : Fun K "is_integer" "is_integer" st_is_integer z.a_is_integer z.d_is_integer
  B_is_integer : Binds K z.d_is_integer ["value", "least", "most"] []
  m_is_integer : mg "is_integer" = some (.ref z.a_is_integer)
  F_top_level : Fun K "top_level" "top_level" st_top_level z.a_top_level z.d_top_level
  B_top_level : Binds K z.d_top_level ["policy"] []
  m_top_level : mg "top_level" = some (.ref z.a_top_level)
  F_capacity_of : Fun K "capacity_of" "capacity_of" st_capacity_of z.a_capacity_of z.d_capacity_of
  B_capacity_of : Binds K z.d_capacity_of ["policy", "level"] []
  m_capacity_of : mg "capacity_of" = some (.ref z.a_capacity_of)
  F_boundaries : Fun K "boundaries" "boundaries" st_boundaries z.a_boundaries z.d_boundaries
  B_boundaries : Binds K z.d_boundaries ["policy"] []
  m_boundaries : mg "boundaries" = some (.ref z.a_boundaries)
  F_is_run : Fun K "is_run" "is_run" st_is_run z.a_is_run z.d_is_run
  B_is_run : Binds K z.d_is_run ["value"] []
  m_is_run : mg "is_run" = some (.ref z.a_is_run)
  F_are_operations : Fun K "are_operations" "are_operations" st_are_operations z.a_are_operations z.d_are_operations
  B_are_operations : Binds K z.d_are_operations ["value"] []
  m_are_operations : mg "are_operations" = some (.ref z.a_are_operations)
  F_check_operations : Fun K "check_operations" "check_operations" st_check_operations z.a_check_operations z.d_check_operations
  B_check_operations : Binds K z.d_check_operations ["value"] []
  m_check_operations : mg "check_operations" = some (.ref z.a_check_operations)
  F_Track___init__ : Fun K "__init__" "Track.__init__" st_Track___init__ z.a_Track___init__ z.d_Track___init__
  B_Track___init__ : Binds K z.d_Track___init__ ["self", "policy", "state"] []
  F_Track_move : Fun K "move" "Track.move" st_Track_move z.a_Track_move z.d_Track_move
  B_Track_move : Binds K z.d_Track_move ["self", "size", "by"] []
  m_Track_move : Meth K z.C_Track "move" z.a_Track_move
  F_Track_rest : Fun K "rest" "Track.rest" st_Track_rest z.a_Track_rest z.d_Track_rest
  B_Track_rest : Binds K z.d_Track_rest ["self", "size"] []
  m_Track_rest : Meth K z.C_Track "rest" z.a_Track_rest
  F_Track_push : Fun K "push" "Track.push" st_Track_push z.a_Track_push z.d_Track_push
  B_Track_push : Binds K z.d_Track_push ["self", "count"] []
  m_Track_push : Meth K z.C_Track "push" z.a_Track_push
  F_Track_pop : Fun K "pop" "Track.pop" st_Track_pop z.a_Track_pop z.d_Track_pop
  B_Track_pop : Binds K z.d_Track_pop ["self", "count"] []
  m_Track_pop : Meth K z.C_Track "pop" z.a_Track_pop
  F_Track_run : Fun K "run" "Track.run" st_Track_run z.a_Track_run z.d_Track_run
  B_Track_run : Binds K z.d_Track_run ["self", "word", "count"] []
  m_Track_run : Meth K z.C_Track "run" z.a_Track_run
  F_tracked : Fun K "tracked" "tracked" st_tracked z.a_tracked z.d_tracked
  B_tracked : Binds K z.d_tracked ["policy", "state", "operations"] []
  m_tracked : mg "tracked" = some (.ref z.a_tracked)
  F_after : Fun K "after" "after" st_after z.a_after z.d_after
  B_after : Binds K z.d_after ["policy", "state", "operations"] []
  m_after : mg "after" = some (.ref z.a_after)
  F_cost_of : Fun K "cost_of" "cost_of" st_cost_of z.a_cost_of z.d_cost_of
  B_cost_of : Binds K z.d_cost_of ["policy", "state", "operations"] []
  m_cost_of : mg "cost_of" = some (.ref z.a_cost_of)
  F_law_draws : Fun K "_law_draws" "_law_draws" st_law_draws z.a_law_draws z.d_law_draws
  B_law_draws : Binds K z.d_law_draws ["_law_script", "_law_k"] []
  m_law_draws : mg "_law_draws" = some (.ref z.a_law_draws)
  F_law_below : Fun K "_law_below" "_law_below" st_law_below z.a_law_below z.d_law_below
  B_law_below : Binds K z.d_law_below ["_law_draws_here", "_law_many"] []
  m_law_below : mg "_law_below" = some (.ref z.a_law_below)
  F_law_pick : Fun K "_law_pick" "_law_pick" st_law_pick z.a_law_pick z.d_law_pick
  B_law_pick : Binds K z.d_law_pick ["_law_draws_here", "_law_items"] []
  m_law_pick : mg "_law_pick" = some (.ref z.a_law_pick)
  F_law_table : Fun K "_law_table" "_law_table" st_law_table z.a_law_table z.d_law_table
  B_law_table : Binds K z.d_law_table ["_law_draws_here"] []
  m_law_table : mg "_law_table" = some (.ref z.a_law_table)
  F_law_level : Fun K "_law_level" "_law_level" st_law_level z.a_law_level z.d_law_level
  B_law_level : Binds K z.d_law_level ["_law_capacities", "_law_size"] []
  m_law_level : mg "_law_level" = some (.ref z.a_law_level)
  F_law : Fun K "law" "law" st_law z.a_law z.d_law
  B_law : Binds K z.d_law ["_law_script"] []
  m_law : mg "law" = some (.ref z.a_law)
  c_Track : Cls K z.C_Track
  g_Track : mg "Track" = some (.ref z.C_Track)
  h_Track : Mk K z.C_Track z.a_Track___init__
  n_Track_at_level : NoAttr K z.C_Track "at_level"
  n_Track_at_size : NoAttr K z.C_Track "at_size"
  n_Track_done : NoAttr K z.C_Track "done"
  n_Track_fixed : NoAttr K z.C_Track "fixed"
  n_Track_most : NoAttr K z.C_Track "most"
  n_Track_paid : NoAttr K z.C_Track "paid"
  n_Track_places : NoAttr K z.C_Track "places"
  z_abs : mg "abs" = none
  z_all : mg "all" = none
  z_bool : mg "bool" = none
  z_enumerate : mg "enumerate" = none
  z_int : mg "int" = none
  z_isinstance : mg "isinstance" = none
  z_len : mg "len" = none
  z_max : mg "max" = none
  z_min : mg "min" = none
  z_range : mg "range" = none
  z_str : mg "str" = none
  z_sum : mg "sum" = none
  z_tuple : mg "tuple" = none
  z_zip : mg "zip" = none
  k_GROW : mg "GROW" = some (.str "grow" z.t_GROW)
  k_MOST_COUNT : mg "MOST_COUNT" = some (.int 1000000000000000000 z.t_MOST_COUNT)
  k_MOST_PAIRS : mg "MOST_PAIRS" = some (.int 200 z.t_MOST_PAIRS)
  k_PAIR : mg "PAIR" = some (.int 2 z.t_PAIR)
  k_POP : mg "POP" = some (.str "pop" z.t_POP)
  k_PUSH : mg "PUSH" = some (.str "push" z.t_PUSH)
  k_SHRINK : mg "SHRINK" = some (.str "shrink" z.t_SHRINK)
structure Lv (P : Program) (w : World) (K : PySem.W.Frag) (mg : Str → Option Value) (base : Heap) (z : Ad) (k : Nat) : Prop where
  o_is_integer : FnOk P w K mg base (L2.CX P w) (2 * k) z.a_is_integer z.d_is_integer ["value", "least", "most"] (spOf ⟨K, clsA z⟩ (callN Dt k) 0)
  o_top_level : FnOk P w K mg base (L2.CX P w) (2 * k) z.a_top_level z.d_top_level ["policy"] (spOf ⟨K, clsA z⟩ (callN Dt k) 1)
  o_capacity_of : FnOk P w K mg base (L2.CX P w) (2 * k) z.a_capacity_of z.d_capacity_of ["policy", "level"] (spOf ⟨K, clsA z⟩ (callN Dt k) 2)
  o_boundaries : FnOk P w K mg base (L2.CX P w) (2 * k) z.a_boundaries z.d_boundaries ["policy"] (spOf ⟨K, clsA z⟩ (callN Dt k) 3)
  o_is_run : FnOk P w K mg base (L2.CX P w) (2 * k) z.a_is_run z.d_is_run ["value"] (spOf ⟨K, clsA z⟩ (callN Dt k) 4)
  o_are_operations : FnOk P w K mg base (L2.CX P w) (2 * k) z.a_are_operations z.d_are_operations ["value"] (spOf ⟨K, clsA z⟩ (callN Dt k) 5)
  o_check_operations : FnOk P w K mg base (L2.CX P w) (2 * k) z.a_check_operations z.d_check_operations ["value"] (spOf ⟨K, clsA z⟩ (callN Dt k) 6)
  o_Track___init__ : FnOk P w K mg base (L2.CX P w) (2 * k) z.a_Track___init__ z.d_Track___init__ ["self", "policy", "state"] (spOf ⟨K, clsA z⟩ (callN Dt k) 7)
  o_Track_move : FnOk P w K mg base (L2.CX P w) (2 * k) z.a_Track_move z.d_Track_move ["self", "size", "by"] (spOf ⟨K, clsA z⟩ (callN Dt k) 8)
  o_Track_rest : FnOk P w K mg base (L2.CX P w) (2 * k) z.a_Track_rest z.d_Track_rest ["self", "size"] (spOf ⟨K, clsA z⟩ (callN Dt k) 9)
  o_Track_push : FnOk P w K mg base (L2.CX P w) (2 * k) z.a_Track_push z.d_Track_push ["self", "count"] (spOf ⟨K, clsA z⟩ (callN Dt k) 10)
  o_Track_pop : FnOk P w K mg base (L2.CX P w) (2 * k) z.a_Track_pop z.d_Track_pop ["self", "count"] (spOf ⟨K, clsA z⟩ (callN Dt k) 11)
  o_Track_run : FnOk P w K mg base (L2.CX P w) (2 * k) z.a_Track_run z.d_Track_run ["self", "word", "count"] (spOf ⟨K, clsA z⟩ (callN Dt k) 12)
  o_tracked : FnOk P w K mg base (L2.CX P w) (2 * k) z.a_tracked z.d_tracked ["policy", "state", "operations"] (spOf ⟨K, clsA z⟩ (callN Dt k) 13)
  o_after : FnOk P w K mg base (L2.CX P w) (2 * k) z.a_after z.d_after ["policy", "state", "operations"] (spOf ⟨K, clsA z⟩ (callN Dt k) 14)
  o_cost_of : FnOk P w K mg base (L2.CX P w) (2 * k) z.a_cost_of z.d_cost_of ["policy", "state", "operations"] (spOf ⟨K, clsA z⟩ (callN Dt k) 15)
  o_law_draws : FnOk P w K mg base (L2.CX P w) (2 * k) z.a_law_draws z.d_law_draws ["_law_script", "_law_k"] (spOf ⟨K, clsA z⟩ (callN Dt k) 16)
  o_law_below : FnOk P w K mg base (L2.CX P w) (2 * k) z.a_law_below z.d_law_below ["_law_draws_here", "_law_many"] (spOf ⟨K, clsA z⟩ (callN Dt k) 17)
  o_law_pick : FnOk P w K mg base (L2.CX P w) (2 * k) z.a_law_pick z.d_law_pick ["_law_draws_here", "_law_items"] (spOf ⟨K, clsA z⟩ (callN Dt k) 18)
  o_law_table : FnOk P w K mg base (L2.CX P w) (2 * k) z.a_law_table z.d_law_table ["_law_draws_here"] (spOf ⟨K, clsA z⟩ (callN Dt k) 19)
  o_law_level : FnOk P w K mg base (L2.CX P w) (2 * k) z.a_law_level z.d_law_level ["_law_capacities", "_law_size"] (spOf ⟨K, clsA z⟩ (callN Dt k) 20)
  o_law : FnOk P w K mg base (L2.CX P w) (2 * k) z.a_law z.d_law ["_law_script"] (spOf ⟨K, clsA z⟩ (callN Dt k) 21)
section
variable {P : Program} {w : World} {K : PySem.W.Frag} {mg : Str → Option Value} {base : Heap} {z : Ad} {k : Nat}
theorem ct_ok (T : Txt K mg z) (V : Lv P w K mg base z k) : ClsT P w K mg base (clsA z) ⟨callN Dt k, Dt.cls⟩ (2 * k) := by
  intro c cl h
  have h := lookup_mem (show kls.lookup c = some cl from h)
  simp only [kls, List.mem_cons, Prod.mk.injEq, List.not_mem_nil, or_false] at h
  obtain ⟨rfl, rfl⟩ := h
  refine ⟨z.C_Track, rfl, ⟨T.c_Track, fun m f hm => ?_, fun f hf => ?_⟩⟩
  · have hm := lookup_mem hm
    simp only [List.mem_cons, Prod.mk.injEq, List.not_mem_nil, or_false] at hm
    rcases hm with ⟨rfl, rfl⟩ | ⟨rfl, rfl⟩ | ⟨rfl, rfl⟩ | ⟨rfl, rfl⟩ | ⟨rfl, rfl⟩
    · exact ⟨_, _, _, T.m_Track_move, T.B_Track_move, V.o_Track_move⟩
    · exact ⟨_, _, _, T.m_Track_rest, T.B_Track_rest, V.o_Track_rest⟩
    · exact ⟨_, _, _, T.m_Track_push, T.B_Track_push, V.o_Track_push⟩
    · exact ⟨_, _, _, T.m_Track_pop, T.B_Track_pop, V.o_Track_pop⟩
    · exact ⟨_, _, _, T.m_Track_run, T.B_Track_run, V.o_Track_run⟩
  · have hf := List.contains_iff_mem.mp hf
    simp only [List.mem_cons, List.not_mem_nil, or_false] at hf
    rcases hf with rfl | rfl | rfl | rfl | rfl | rfl | rfl
    · exact T.n_Track_at_level
    · exact T.n_Track_at_size
    · exact T.n_Track_done
    · exact T.n_Track_fixed
    · exact T.n_Track_most
    · exact T.n_Track_paid
    · exact T.n_Track_places
theorem sc_is_integer : FnScope ["value", "least", "most"] ["value", "least", "most"] (defScope st_is_integer) := ⟨rfl, rfl, rfl, by decide +kernel, rfl, by decide +kernel, by decide +kernel⟩
theorem w_is_integer (T : Txt K mg z) (V : Lv P w K mg base z k) (cdv : Value) (A : Around) (outer : List Env) (s : Shared) (H : Hp) (E : XK) (hr0 : Room (2 * k + 1) (A.deeper (envOfC "is_integer" (defScope st_is_integer) s.heap.objs.size z.a_is_integer cdv))) :
    PSsc (cxOf (L2.CX P w) P w K mg base ["value", "least", "most"] "is_integer" (defScope st_is_integer) z.a_is_integer cdv A outer s H E) (clsA z) (fun c d _ H' => E c d H') ⟨callN Dt k, Dt.cls⟩ (defBody st_is_integer) b_is_integer := by
  have sc := sc_is_integer
  have hr1 : Room (2 * k + 1) (cxOf (L2.CX P w) P w K mg base ["value", "least", "most"] "is_integer" (defScope st_is_integer) z.a_is_integer cdv A outer s H E).A := hr0
  have hr : Room (2 * k) (cxOf (L2.CX P w) P w K mg base ["value", "least", "most"] "is_integer" (defScope st_is_integer) z.a_is_integer cdv A outer s H E).A := hr0.mono (Nat.le_succ _)
  have hu := hr.units
  have tk : Takes (cxOf (L2.CX P w) P w K mg base ["value", "least", "most"] "is_integer" (defScope st_is_integer) z.a_is_integer cdv A outer s H E) (fun c d _ H' => E c d H') := takes_of rfl rfl rfl rfl
  have hp := passes_of (X := cxOf (L2.CX P w) P w K mg base ["value", "least", "most"] "is_integer" (defScope st_is_integer) z.a_is_integer cdv A outer s H E) rfl
  exact s_cons (s_if (PW.pt (p_or (p_not (p_truth (c_isi (t := .int) (by decide) (by rfl) T.z_isinstance (by rfl) T.z_int (by decide +kernel) (c_var (pv 0))))) (p_or (p_truth (c_isi (t := .bl) (by decide) (by rfl) T.z_isinstance (by rfl) T.z_bool (by decide +kernel) (c_var (pv 0)))) (p_one' (p_cmp op_lt sv_lt (nomark _) (c_var (pv 0)) (c_var (pv 1))))))) (s_cons (s_ret (c_bl)) (s_nil)) (s_nil)) (s_cons (s_ret (c_or (c_cmp op_isN sv_is (nomark _) (c_var (pv 2)) (c_non)) (c_one (c_cmp op_le sv_le (nomark _) (c_var (pv 0)) (c_var (pv 2)))))) (s_nil))
theorem sc_top_level : FnScope ["policy"] ["policy"] (defScope st_top_level) := ⟨rfl, rfl, rfl, by decide +kernel, rfl, by decide +kernel, by decide +kernel⟩
theorem w_top_level (T : Txt K mg z) (V : Lv P w K mg base z k) (cdv : Value) (A : Around) (outer : List Env) (s : Shared) (H : Hp) (E : XK) (hr0 : Room (2 * k + 1) (A.deeper (envOfC "top_level" (defScope st_top_level) s.heap.objs.size z.a_top_level cdv))) :
    PSsc (cxOf (L2.CX P w) P w K mg base ["policy"] "top_level" (defScope st_top_level) z.a_top_level cdv A outer s H E) (clsA z) (fun c d _ H' => E c d H') ⟨callN Dt k, Dt.cls⟩ (defBody st_top_level) b_top_level := by
  have sc := sc_top_level
  have hr1 : Room (2 * k + 1) (cxOf (L2.CX P w) P w K mg base ["policy"] "top_level" (defScope st_top_level) z.a_top_level cdv A outer s H E).A := hr0
  have hr : Room (2 * k) (cxOf (L2.CX P w) P w K mg base ["policy"] "top_level" (defScope st_top_level) z.a_top_level cdv A outer s H E).A := hr0.mono (Nat.le_succ _)
  have hu := hr.units
  have tk : Takes (cxOf (L2.CX P w) P w K mg base ["policy"] "top_level" (defScope st_top_level) z.a_top_level cdv A outer s H E) (fun c d _ H' => E c d H') := takes_of rfl rfl rfl rfl
  have hp := passes_of (X := cxOf (L2.CX P w) P w K mg base ["policy"] "top_level" (defScope st_top_level) z.a_top_level cdv A outer s H E) rfl
  exact s_cons (s_ret (c_bin op_sub sv_sub (c_bi (pos := ⟨0, 0, 0, 0⟩) (fe := .Constant .none 0 ⟨0, 0, 0, 0⟩) sv_len (a_cons (c_idx (c_var (pv 0)) (c_int)) (a_nil)) (fun {_} h => pe_callB call_lenA (by rfl) T.z_len (by decide +kernel) h)) (c_int))) (s_nil)
theorem sc_capacity_of : FnScope ["policy", "level"] ["policy", "level"] (defScope st_capacity_of) := ⟨rfl, rfl, rfl, by decide +kernel, rfl, by decide +kernel, by decide +kernel⟩
theorem w_capacity_of (T : Txt K mg z) (V : Lv P w K mg base z k) (cdv : Value) (A : Around) (outer : List Env) (s : Shared) (H : Hp) (E : XK) (hr0 : Room (2 * k + 1) (A.deeper (envOfC "capacity_of" (defScope st_capacity_of) s.heap.objs.size z.a_capacity_of cdv))) :
    PSsc (cxOf (L2.CX P w) P w K mg base ["policy", "level"] "capacity_of" (defScope st_capacity_of) z.a_capacity_of cdv A outer s H E) (clsA z) (fun c d _ H' => E c d H') ⟨callN Dt k, Dt.cls⟩ (defBody st_capacity_of) b_capacity_of := by
  have sc := sc_capacity_of
  have hr1 : Room (2 * k + 1) (cxOf (L2.CX P w) P w K mg base ["policy", "level"] "capacity_of" (defScope st_capacity_of) z.a_capacity_of cdv A outer s H E).A := hr0
  have hr : Room (2 * k) (cxOf (L2.CX P w) P w K mg base ["policy", "level"] "capacity_of" (defScope st_capacity_of) z.a_capacity_of cdv A outer s H E).A := hr0.mono (Nat.le_succ _)
  have hu := hr.units
  have tk : Takes (cxOf (L2.CX P w) P w K mg base ["policy", "level"] "capacity_of" (defScope st_capacity_of) z.a_capacity_of cdv A outer s H E) (fun c d _ H' => E c d H') := takes_of rfl rfl rfl rfl
  have hp := passes_of (X := cxOf (L2.CX P w) P w K mg base ["policy", "level"] "capacity_of" (defScope st_capacity_of) z.a_capacity_of cdv A outer s H E) rfl
  exact s_cons (s_ret (c_idx (c_idx (c_var (pv 0)) (c_int)) (c_var (pv 1)))) (s_nil)
theorem sc_boundaries : FnScope ["policy", "upper", "lower"] ["policy"] (defScope st_boundaries) := ⟨rfl, rfl, rfl, by decide +kernel, rfl, by decide +kernel, by decide +kernel⟩
theorem w_boundaries (T : Txt K mg z) (V : Lv P w K mg base z k) (cdv : Value) (A : Around) (outer : List Env) (s : Shared) (H : Hp) (E : XK) (hr0 : Room (2 * k + 1) (A.deeper (envOfC "boundaries" (defScope st_boundaries) s.heap.objs.size z.a_boundaries cdv))) :
    PSsc (cxOf (L2.CX P w) P w K mg base ["policy", "upper", "lower"] "boundaries" (defScope st_boundaries) z.a_boundaries cdv A outer s H E) (clsA z) (fun c d _ H' => E c d H') ⟨callN Dt k, Dt.cls⟩ (defBody st_boundaries) b_boundaries := by
  have sc := sc_boundaries
  have hr1 : Room (2 * k + 1) (cxOf (L2.CX P w) P w K mg base ["policy", "upper", "lower"] "boundaries" (defScope st_boundaries) z.a_boundaries cdv A outer s H E).A := hr0
  have hr : Room (2 * k) (cxOf (L2.CX P w) P w K mg base ["policy", "upper", "lower"] "boundaries" (defScope st_boundaries) z.a_boundaries cdv A outer s H E).A := hr0.mono (Nat.le_succ _)
  have hu := hr.units
  have tk : Takes (cxOf (L2.CX P w) P w K mg base ["policy", "upper", "lower"] "boundaries" (defScope st_boundaries) z.a_boundaries cdv A outer s H E) (fun c d _ H' => E c d H') := takes_of rfl rfl rfl rfl
  have hp := passes_of (X := cxOf (L2.CX P w) P w K mg base ["policy", "upper", "lower"] "boundaries" (defScope st_boundaries) z.a_boundaries cdv A outer s H E) rfl
  exact s_cons (s_ret (c_bi (pos := ⟨0, 0, 0, 0⟩) (fe := .Constant .none 0 ⟨0, 0, 0, 0⟩) sv_tuple (a_cons (c_lc (own := [("upper", 1), ("lower", 2)]) rfl sc.nd (i_zip (by rfl) T.z_zip (a_cons (c_idx (c_var (pv 0)) (c_int)) (a_cons (c_idx (c_var (pv 0)) (c_int)) (a_nil)))) (blkOk_by (N := ["policy", "upper", "lower"]) (sc := defScope st_boundaries) (by decide +kernel)) (by decide) (fun _ _ _ _ _ => g_tp rfl (gs_cons (g_nm (pg_name (i := 1) sc.nd rfl (by first | exact Or.inl rfl | exact Or.inr rfl))) (gs_cons (g_nm (pg_name (i := 2) sc.nd rfl (by first | exact Or.inl rfl | exact Or.inr rfl))) (gs_nil)))) (fun _ _ _ _ _ => t_nil) (fun _ _ _ _ _ => c_tup (a_cons (c_var (pv 1)) (a_cons (c_var (pv 2)) (a_nil))))) (a_nil)) (fun {_} h => pe_callTy call_tuple_of (by rfl) T.z_tuple (by decide +kernel) h))) (s_nil)
theorem sc_is_run : FnScope ["value"] ["value"] (defScope st_is_run) := ⟨rfl, rfl, rfl, by decide +kernel, rfl, by decide +kernel, by decide +kernel⟩
theorem w_is_run (T : Txt K mg z) (V : Lv P w K mg base z k) (cdv : Value) (A : Around) (outer : List Env) (s : Shared) (H : Hp) (E : XK) (hr0 : Room (2 * k + 1) (A.deeper (envOfC "is_run" (defScope st_is_run) s.heap.objs.size z.a_is_run cdv))) :
    PSsc (cxOf (L2.CX P w) P w K mg base ["value"] "is_run" (defScope st_is_run) z.a_is_run cdv A outer s H E) (clsA z) (fun c d _ H' => E c d H') ⟨callN Dt k, Dt.cls⟩ (defBody st_is_run) b_is_run := by
  have sc := sc_is_run
  have hr1 : Room (2 * k + 1) (cxOf (L2.CX P w) P w K mg base ["value"] "is_run" (defScope st_is_run) z.a_is_run cdv A outer s H E).A := hr0
  have hr : Room (2 * k) (cxOf (L2.CX P w) P w K mg base ["value"] "is_run" (defScope st_is_run) z.a_is_run cdv A outer s H E).A := hr0.mono (Nat.le_succ _)
  have hu := hr.units
  have tk : Takes (cxOf (L2.CX P w) P w K mg base ["value"] "is_run" (defScope st_is_run) z.a_is_run cdv A outer s H E) (fun c d _ H' => E c d H') := takes_of rfl rfl rfl rfl
  have hp := passes_of (X := cxOf (L2.CX P w) P w K mg base ["value"] "is_run" (defScope st_is_run) z.a_is_run cdv A outer s H E) rfl
  have i_is_integer : IsFn P w K mg base (clsA z) (callN Dt k) (2 * k) "is_integer" 0 := ⟨_, _, _, T.m_is_integer, T.F_is_integer.kp, T.B_is_integer, V.o_is_integer⟩
  exact s_cons (s_if (PW.pt (p_or (p_not (p_truth (c_isi (t := .tup) (by decide) (by rfl) T.z_isinstance (by rfl) T.z_tuple (by decide +kernel) (c_var (pv 0))))) (p_or (p_cmp (op_neA hu) sv_ne (nomark _) (c_bi (pos := ⟨0, 0, 0, 0⟩) (fe := .Constant .none 0 ⟨0, 0, 0, 0⟩) sv_len (a_cons (c_var (pv 0)) (a_nil)) (fun {_} h => pe_callB call_lenA (by rfl) T.z_len (by decide +kernel) h)) (c_cst (v := .int 2) (pe_glob (by rfl) T.k_PAIR ⟨_, rfl⟩) (fun _ _ => .int _))) (p_one' (p_not (p_truth (c_isi (t := .str) (by decide) (by rfl) T.z_isinstance (by rfl) T.z_str (by decide +kernel) (c_idx (c_var (pv 0)) (c_int))))))))) (s_cons (s_ret (c_bl)) (s_nil)) (s_nil)) (s_cons (s_ret (c_and (c_cmp op_in_seq sv_in (by rfl) (c_idx (c_var (pv 0)) (c_int)) (c_tup (a_cons (c_cst (v := .str "push") (pe_glob (by rfl) T.k_PUSH ⟨_, rfl⟩) (fun _ _ => .str _)) (a_cons (c_cst (v := .str "pop") (pe_glob (by rfl) T.k_POP ⟨_, rfl⟩) (fun _ _ => .str _)) (a_nil))))) (c_one (c_call i_is_integer hr tk (by rfl) (a_cons (c_idx (c_var (pv 0)) (c_int)) (a_cons (c_int) (a_cons (c_cst (v := .int 1000000000000000000) (pe_glob (by rfl) T.k_MOST_COUNT ⟨_, rfl⟩) (fun _ _ => .int _)) (a_nil)))))))) (s_nil))
theorem sc_are_operations : FnScope ["value", "run"] ["value"] (defScope st_are_operations) := ⟨rfl, rfl, rfl, by decide +kernel, rfl, by decide +kernel, by decide +kernel⟩
theorem w_are_operations (T : Txt K mg z) (V : Lv P w K mg base z k) (cdv : Value) (A : Around) (outer : List Env) (s : Shared) (H : Hp) (E : XK) (hr0 : Room (2 * k + 1) (A.deeper (envOfC "are_operations" (defScope st_are_operations) s.heap.objs.size z.a_are_operations cdv))) :
    PSsc (cxOf (L2.CX P w) P w K mg base ["value", "run"] "are_operations" (defScope st_are_operations) z.a_are_operations cdv A outer s H E) (clsA z) (fun c d _ H' => E c d H') ⟨callN Dt k, Dt.cls⟩ (defBody st_are_operations) b_are_operations := by
  have sc := sc_are_operations
  have hr1 : Room (2 * k + 1) (cxOf (L2.CX P w) P w K mg base ["value", "run"] "are_operations" (defScope st_are_operations) z.a_are_operations cdv A outer s H E).A := hr0
  have hr : Room (2 * k) (cxOf (L2.CX P w) P w K mg base ["value", "run"] "are_operations" (defScope st_are_operations) z.a_are_operations cdv A outer s H E).A := hr0.mono (Nat.le_succ _)
  have hu := hr.units
  have tk : Takes (cxOf (L2.CX P w) P w K mg base ["value", "run"] "are_operations" (defScope st_are_operations) z.a_are_operations cdv A outer s H E) (fun c d _ H' => E c d H') := takes_of rfl rfl rfl rfl
  have hp := passes_of (X := cxOf (L2.CX P w) P w K mg base ["value", "run"] "are_operations" (defScope st_are_operations) z.a_are_operations cdv A outer s H E) rfl
  have i_is_run : IsFn P w K mg base (clsA z) (callN Dt k) (2 * k) "is_run" 4 := ⟨_, _, _, T.m_is_run, T.F_is_run.kp, T.B_is_run, V.o_is_run⟩
  exact s_cons (s_ret (c_and (c_isi (t := .tup) (by decide) (by rfl) T.z_isinstance (by rfl) T.z_tuple (by decide +kernel) (c_var (pv 0))) (c_and (c_cmp op_le sv_le (nomark _) (c_bi (pos := ⟨0, 0, 0, 0⟩) (fe := .Constant .none 0 ⟨0, 0, 0, 0⟩) sv_len (a_cons (c_var (pv 0)) (a_nil)) (fun {_} h => pe_callB call_lenA (by rfl) T.z_len (by decide +kernel) h)) (c_cst (v := .int 200) (pe_glob (by rfl) T.k_MOST_PAIRS ⟨_, rfl⟩) (fun _ _ => .int _))) (c_one (c_bi (pos := ⟨0, 0, 0, 0⟩) (fe := .Constant .none 0 ⟨0, 0, 0, 0⟩) sv_all (a_cons (c_lc (own := [("run", 1)]) rfl sc.nd (i_seq (c_var (pv 0))) (blkOk_by (N := ["value", "run"]) (sc := defScope st_are_operations) (by decide +kernel)) (by decide) (fun _ _ _ _ _ => g_nm (pg_name (i := 1) sc.nd rfl (by first | exact Or.inl rfl | exact Or.inr rfl))) (fun _ _ _ _ _ => t_nil) (fun _ _ _ _ _ => c_call i_is_run hr takes0 (by rfl) (a_cons (c_var (pv 1)) (a_nil)))) (a_nil)) (fun {_} h => pe_callB (cr_all rfl) (by rfl) T.z_all (by decide +kernel) h)))))) (s_nil)
theorem sc_check_operations : FnScope ["value"] ["value"] (defScope st_check_operations) := ⟨rfl, rfl, rfl, by decide +kernel, rfl, by decide +kernel, by decide +kernel⟩
theorem w_check_operations (T : Txt K mg z) (V : Lv P w K mg base z k) (cdv : Value) (A : Around) (outer : List Env) (s : Shared) (H : Hp) (E : XK) (hr0 : Room (2 * k + 1) (A.deeper (envOfC "check_operations" (defScope st_check_operations) s.heap.objs.size z.a_check_operations cdv))) :
    PSsc (cxOf (L2.CX P w) P w K mg base ["value"] "check_operations" (defScope st_check_operations) z.a_check_operations cdv A outer s H E) (clsA z) (fun c d _ H' => E c d H') ⟨callN Dt k, Dt.cls⟩ (defBody st_check_operations) b_check_operations := by
  have sc := sc_check_operations
  have hr1 : Room (2 * k + 1) (cxOf (L2.CX P w) P w K mg base ["value"] "check_operations" (defScope st_check_operations) z.a_check_operations cdv A outer s H E).A := hr0
  have hr : Room (2 * k) (cxOf (L2.CX P w) P w K mg base ["value"] "check_operations" (defScope st_check_operations) z.a_check_operations cdv A outer s H E).A := hr0.mono (Nat.le_succ _)
  have hu := hr.units
  have tk : Takes (cxOf (L2.CX P w) P w K mg base ["value"] "check_operations" (defScope st_check_operations) z.a_check_operations cdv A outer s H E) (fun c d _ H' => E c d H') := takes_of rfl rfl rfl rfl
  have hp := passes_of (X := cxOf (L2.CX P w) P w K mg base ["value"] "check_operations" (defScope st_check_operations) z.a_check_operations cdv A outer s H E) rfl
  have i_are_operations : IsFn P w K mg base (clsA z) (callN Dt k) (2 * k) "are_operations" 5 := ⟨_, _, _, T.m_are_operations, T.F_are_operations.kp, T.B_are_operations, V.o_are_operations⟩
  exact s_cons (s_if (p_not (p_truth (c_call i_are_operations hr tk (by rfl) (a_cons (c_var (pv 0)) (a_nil))))) (s_cons (s_never) (s_nil)) (s_nil)) (s_nil)
theorem sc_Track___init__ : FnScope ["self", "policy", "state"] ["self", "policy", "state"] (defScope st_Track___init__) := ⟨rfl, rfl, rfl, by decide +kernel, rfl, by decide +kernel, by decide +kernel⟩
theorem w_Track___init__ (T : Txt K mg z) (V : Lv P w K mg base z k) (cdv : Value) (A : Around) (outer : List Env) (s : Shared) (H : Hp) (E : XK) (hr0 : Room (2 * k + 1) (A.deeper (envOfC "Track.__init__" (defScope st_Track___init__) s.heap.objs.size z.a_Track___init__ cdv))) :
    PSsc (cxOf (L2.CX P w) P w K mg base ["self", "policy", "state"] "Track.__init__" (defScope st_Track___init__) z.a_Track___init__ cdv A outer s H E) (clsA z) (fun c d _ H' => E c d H') ⟨callN Dt k, Dt.cls⟩ (defBody st_Track___init__) b_Track___init__ := by
  have sc := sc_Track___init__
  have hr1 : Room (2 * k + 1) (cxOf (L2.CX P w) P w K mg base ["self", "policy", "state"] "Track.__init__" (defScope st_Track___init__) z.a_Track___init__ cdv A outer s H E).A := hr0
  have hr : Room (2 * k) (cxOf (L2.CX P w) P w K mg base ["self", "policy", "state"] "Track.__init__" (defScope st_Track___init__) z.a_Track___init__ cdv A outer s H E).A := hr0.mono (Nat.le_succ _)
  have hu := hr.units
  have tk : Takes (cxOf (L2.CX P w) P w K mg base ["self", "policy", "state"] "Track.__init__" (defScope st_Track___init__) z.a_Track___init__ cdv A outer s H E) (fun c d _ H' => E c d H') := takes_of rfl rfl rfl rfl
  have hp := passes_of (X := cxOf (L2.CX P w) P w K mg base ["self", "policy", "state"] "Track.__init__" (defScope st_Track___init__) z.a_Track___init__ cdv A outer s H E) rfl
  have ct := ct_ok T V
  have i_boundaries : IsFn P w K mg base (clsA z) (callN Dt k) (2 * k) "boundaries" 3 := ⟨_, _, _, T.m_boundaries, T.F_boundaries.kp, T.B_boundaries, V.o_boundaries⟩
  have i_capacity_of : IsFn P w K mg base (clsA z) (callN Dt k) (2 * k) "capacity_of" 2 := ⟨_, _, _, T.m_capacity_of, T.F_capacity_of.kp, T.B_capacity_of, V.o_capacity_of⟩
  have i_top_level : IsFn P w K mg base (clsA z) (callN Dt k) (2 * k) "top_level" 1 := ⟨_, _, _, T.m_top_level, T.F_top_level.kp, T.B_top_level, V.o_top_level⟩
  exact s_cons (s_asg (c_call i_boundaries hr tk (by rfl) (a_cons (c_var (pv 1)) (a_nil))) (tg_fld ct (c_var (pv 0)))) (s_cons (s_asg (c_idx (c_var (pv 1)) (c_int)) (tg_fld ct (c_var (pv 0)))) (s_cons (s_asg (c_call i_capacity_of hr tk (by rfl) (a_cons (c_var (pv 1)) (a_cons (c_call i_top_level hr tk (by rfl) (a_cons (c_var (pv 1)) (a_nil))) (a_nil)))) (tg_fld ct (c_var (pv 0)))) (s_cons (s_asg (c_var (pv 2)) (tg_tp rfl (tgs_cons (tg_fld ct (c_var (pv 0))) (tgs_cons (tg_fld ct (c_var (pv 0))) (tgs_nil))))) (s_cons (s_asg2 (c_int) (tg_fld ct (c_var (pv 0))) (tg_fld ct (c_var (pv 0)))) (s_nil)))))
theorem sc_Track_move : FnScope ["self", "size", "by", "copied"] ["self", "size", "by"] (defScope st_Track_move) := ⟨rfl, rfl, rfl, by decide +kernel, rfl, by decide +kernel, by decide +kernel⟩
theorem w_Track_move (T : Txt K mg z) (V : Lv P w K mg base z k) (cdv : Value) (A : Around) (outer : List Env) (s : Shared) (H : Hp) (E : XK) (hr0 : Room (2 * k + 1) (A.deeper (envOfC "Track.move" (defScope st_Track_move) s.heap.objs.size z.a_Track_move cdv))) :
    PSsc (cxOf (L2.CX P w) P w K mg base ["self", "size", "by", "copied"] "Track.move" (defScope st_Track_move) z.a_Track_move cdv A outer s H E) (clsA z) (fun c d _ H' => E c d H') ⟨callN Dt k, Dt.cls⟩ (defBody st_Track_move) b_Track_move := by
  have sc := sc_Track_move
  have hr1 : Room (2 * k + 1) (cxOf (L2.CX P w) P w K mg base ["self", "size", "by", "copied"] "Track.move" (defScope st_Track_move) z.a_Track_move cdv A outer s H E).A := hr0
  have hr : Room (2 * k) (cxOf (L2.CX P w) P w K mg base ["self", "size", "by", "copied"] "Track.move" (defScope st_Track_move) z.a_Track_move cdv A outer s H E).A := hr0.mono (Nat.le_succ _)
  have hu := hr.units
  have tk : Takes (cxOf (L2.CX P w) P w K mg base ["self", "size", "by", "copied"] "Track.move" (defScope st_Track_move) z.a_Track_move cdv A outer s H E) (fun c d _ H' => E c d H') := takes_of rfl rfl rfl rfl
  have hp := passes_of (X := cxOf (L2.CX P w) P w K mg base ["self", "size", "by", "copied"] "Track.move" (defScope st_Track_move) z.a_Track_move cdv A outer s H E) rfl
  have ct := ct_ok T V
  exact s_cons (s_augF (o := .add) (f := fun i j => i + j) ct (fun _ _ _ => rfl) augS_add in_add (c_var (pv 0)) (c_bin op_addA sv_add (c_bi (pos := ⟨0, 0, 0, 0⟩) (fe := .Constant .none 0 ⟨0, 0, 0, 0⟩) sv_abs (a_cons (c_bin op_sub sv_sub (c_var (pv 1)) (c_fld ct (c_var (pv 0)))) (a_nil)) (fun {_} h => pe_callB call_abs (by rfl) T.z_abs (by decide +kernel) h)) (c_int))) (s_cons (s_asg (c_ite (p_cmp op_gt sv_gt (nomark _) (c_var (pv 2)) (c_int)) (c_var (pv 1)) (c_bin op_sub sv_sub (c_var (pv 1)) (c_int))) (tg_nm (pg_name (i := 3) sc.nd rfl (by first | exact Or.inl rfl | exact Or.inr rfl)))) (s_cons (s_asg (c_tup (a_cons (c_bin op_addA sv_add (c_var (pv 1)) (c_var (pv 2))) (a_cons (c_bin op_addA sv_add (c_fld ct (c_var (pv 0))) (c_var (pv 2))) (a_nil)))) (tg_tp rfl (tgs_cons (tg_fld ct (c_var (pv 0))) (tgs_cons (tg_fld ct (c_var (pv 0))) (tgs_nil))))) (s_cons (s_augF (o := .add) (f := fun i j => i + j) ct (fun _ _ _ => rfl) augS_add in_add (c_var (pv 0)) (c_bin op_addA sv_add (c_var (pv 3)) (c_fld ct (c_var (pv 0))))) (s_cons (s_ret (c_tup (a_cons (c_bin op_sub sv_sub (c_fld ct (c_var (pv 0))) (c_int)) (a_cons (c_ite (p_cmp op_gt sv_gt (nomark _) (c_var (pv 2)) (c_int)) (c_cst (v := .str "grow") (pe_glob (by rfl) T.k_GROW ⟨_, rfl⟩) (fun _ _ => .str _)) (c_cst (v := .str "shrink") (pe_glob (by rfl) T.k_SHRINK ⟨_, rfl⟩) (fun _ _ => .str _))) (a_cons (c_fld ct (c_var (pv 0))) (a_cons (c_var (pv 3)) (a_nil))))))) (s_nil)))))
theorem sc_Track_rest : FnScope ["self", "size"] ["self", "size"] (defScope st_Track_rest) := ⟨rfl, rfl, rfl, by decide +kernel, rfl, by decide +kernel, by decide +kernel⟩
theorem w_Track_rest (T : Txt K mg z) (V : Lv P w K mg base z k) (cdv : Value) (A : Around) (outer : List Env) (s : Shared) (H : Hp) (E : XK) (hr0 : Room (2 * k + 1) (A.deeper (envOfC "Track.rest" (defScope st_Track_rest) s.heap.objs.size z.a_Track_rest cdv))) :
    PSsc (cxOf (L2.CX P w) P w K mg base ["self", "size"] "Track.rest" (defScope st_Track_rest) z.a_Track_rest cdv A outer s H E) (clsA z) (fun c d _ H' => E c d H') ⟨callN Dt k, Dt.cls⟩ (defBody st_Track_rest) b_Track_rest := by
  have sc := sc_Track_rest
  have hr1 : Room (2 * k + 1) (cxOf (L2.CX P w) P w K mg base ["self", "size"] "Track.rest" (defScope st_Track_rest) z.a_Track_rest cdv A outer s H E).A := hr0
  have hr : Room (2 * k) (cxOf (L2.CX P w) P w K mg base ["self", "size"] "Track.rest" (defScope st_Track_rest) z.a_Track_rest cdv A outer s H E).A := hr0.mono (Nat.le_succ _)
  have hu := hr.units
  have tk : Takes (cxOf (L2.CX P w) P w K mg base ["self", "size"] "Track.rest" (defScope st_Track_rest) z.a_Track_rest cdv A outer s H E) (fun c d _ H' => E c d H') := takes_of rfl rfl rfl rfl
  have hp := passes_of (X := cxOf (L2.CX P w) P w K mg base ["self", "size"] "Track.rest" (defScope st_Track_rest) z.a_Track_rest cdv A outer s H E) rfl
  have ct := ct_ok T V
  exact s_cons (s_augF (o := .add) (f := fun i j => i + j) ct (fun _ _ _ => rfl) augS_add in_add (c_var (pv 0)) (c_bi (pos := ⟨0, 0, 0, 0⟩) (fe := .Constant .none 0 ⟨0, 0, 0, 0⟩) sv_abs (a_cons (c_bin op_sub sv_sub (c_var (pv 1)) (c_fld ct (c_var (pv 0)))) (a_nil)) (fun {_} h => pe_callB call_abs (by rfl) T.z_abs (by decide +kernel) h))) (s_cons (s_asg (c_var (pv 1)) (tg_fld ct (c_var (pv 0)))) (s_nil))
theorem sc_Track_push : FnScope ["self", "count", "goal", "found"] ["self", "count"] (defScope st_Track_push) := ⟨rfl, rfl, rfl, by decide +kernel, rfl, by decide +kernel, by decide +kernel⟩
theorem w_Track_push (T : Txt K mg z) (V : Lv P w K mg base z k) (cdv : Value) (A : Around) (outer : List Env) (s : Shared) (H : Hp) (E : XK) (hr0 : Room (2 * k + 1) (A.deeper (envOfC "Track.push" (defScope st_Track_push) s.heap.objs.size z.a_Track_push cdv))) :
    PSsc (cxOf (L2.CX P w) P w K mg base ["self", "count", "goal", "found"] "Track.push" (defScope st_Track_push) z.a_Track_push cdv A outer s H E) (clsA z) (fun c d _ H' => E c d H') ⟨callN Dt k, Dt.cls⟩ (defBody st_Track_push) b_Track_push := by
  have sc := sc_Track_push
  have hr1 : Room (2 * k + 1) (cxOf (L2.CX P w) P w K mg base ["self", "count", "goal", "found"] "Track.push" (defScope st_Track_push) z.a_Track_push cdv A outer s H E).A := hr0
  have hr : Room (2 * k) (cxOf (L2.CX P w) P w K mg base ["self", "count", "goal", "found"] "Track.push" (defScope st_Track_push) z.a_Track_push cdv A outer s H E).A := hr0.mono (Nat.le_succ _)
  have hu := hr.units
  have tk : Takes (cxOf (L2.CX P w) P w K mg base ["self", "count", "goal", "found"] "Track.push" (defScope st_Track_push) z.a_Track_push cdv A outer s H E) (fun c d _ H' => E c d H') := takes_of rfl rfl rfl rfl
  have hp := passes_of (X := cxOf (L2.CX P w) P w K mg base ["self", "count", "goal", "found"] "Track.push" (defScope st_Track_push) z.a_Track_push cdv A outer s H E) rfl
  have ct := ct_ok T V
  exact s_cons (s_par (i := 2) (j := 3) rfl sc.nd rfl rfl (by decide) rfl rfl (a_cons (c_bin op_addA sv_add (c_fld ct (c_var (pv 0))) (c_var (pv 1))) (a_cons (c_lst (a_nil)) (a_nil))) (by rfl)) (s_cons (s_while hp (PW.pt (p_and (p_cmp op_lt sv_lt (nomark _) (c_fld ct (c_var (pv 0))) (c_bi (pos := ⟨0, 0, 0, 0⟩) (fe := .Constant .none 0 ⟨0, 0, 0, 0⟩) sv_len (a_cons (c_fld ct (c_var (pv 0))) (a_nil)) (fun {_} h => pe_callB call_lenA (by rfl) T.z_len (by decide +kernel) h))) (p_one (p_cmp op_gt sv_gt (nomark _) (c_var (pv 2)) (c_idx (c_idx (c_fld ct (c_var (pv 0))) (c_fld ct (c_var (pv 0)))) (c_int)))))) (s_cons (s_app (c_var (pv 3)) (c_meth ct hr tk (c_var (pv 0)) (a_cons (c_idx (c_idx (c_fld ct (c_var (pv 0))) (c_fld ct (c_var (pv 0)))) (c_int)) (a_cons (c_int) (a_nil)))) (fun {_} {_} ho ha => pe_bm PySem.F.plainAttrs_list PySem.F.slot_list_append PySem.F.type_list_append mt_append ho ha)) (s_nil))) (s_cons (s_exp (c_meth ct hr tk (c_var (pv 0)) (a_cons (c_var (pv 2)) (a_nil)))) (s_cons (s_ret (c_var (pv 3))) (s_nil))))
theorem sc_Track_pop : FnScope ["self", "count", "goal", "found"] ["self", "count"] (defScope st_Track_pop) := ⟨rfl, rfl, rfl, by decide +kernel, rfl, by decide +kernel, by decide +kernel⟩
theorem w_Track_pop (T : Txt K mg z) (V : Lv P w K mg base z k) (cdv : Value) (A : Around) (outer : List Env) (s : Shared) (H : Hp) (E : XK) (hr0 : Room (2 * k + 1) (A.deeper (envOfC "Track.pop" (defScope st_Track_pop) s.heap.objs.size z.a_Track_pop cdv))) :
    PSsc (cxOf (L2.CX P w) P w K mg base ["self", "count", "goal", "found"] "Track.pop" (defScope st_Track_pop) z.a_Track_pop cdv A outer s H E) (clsA z) (fun c d _ H' => E c d H') ⟨callN Dt k, Dt.cls⟩ (defBody st_Track_pop) b_Track_pop := by
  have sc := sc_Track_pop
  have hr1 : Room (2 * k + 1) (cxOf (L2.CX P w) P w K mg base ["self", "count", "goal", "found"] "Track.pop" (defScope st_Track_pop) z.a_Track_pop cdv A outer s H E).A := hr0
  have hr : Room (2 * k) (cxOf (L2.CX P w) P w K mg base ["self", "count", "goal", "found"] "Track.pop" (defScope st_Track_pop) z.a_Track_pop cdv A outer s H E).A := hr0.mono (Nat.le_succ _)
  have hu := hr.units
  have tk : Takes (cxOf (L2.CX P w) P w K mg base ["self", "count", "goal", "found"] "Track.pop" (defScope st_Track_pop) z.a_Track_pop cdv A outer s H E) (fun c d _ H' => E c d H') := takes_of rfl rfl rfl rfl
  have hp := passes_of (X := cxOf (L2.CX P w) P w K mg base ["self", "count", "goal", "found"] "Track.pop" (defScope st_Track_pop) z.a_Track_pop cdv A outer s H E) rfl
  have ct := ct_ok T V
  exact s_cons (s_par (i := 2) (j := 3) rfl sc.nd rfl rfl (by decide) rfl rfl (a_cons (c_bin op_sub sv_sub (c_fld ct (c_var (pv 0))) (c_var (pv 1))) (a_cons (c_lst (a_nil)) (a_nil))) (by rfl)) (s_cons (s_while hp (PW.pt (p_and (p_cmp op_gt sv_gt (nomark _) (c_fld ct (c_var (pv 0))) (c_int)) (p_one (p_cmp op_le sv_le (nomark _) (c_var (pv 2)) (c_idx (c_idx (c_fld ct (c_var (pv 0))) (c_bin op_sub sv_sub (c_fld ct (c_var (pv 0))) (c_int))) (c_int)))))) (s_cons (s_app (c_var (pv 3)) (c_meth ct hr tk (c_var (pv 0)) (a_cons (c_bin op_addA sv_add (c_idx (c_idx (c_fld ct (c_var (pv 0))) (c_bin op_sub sv_sub (c_fld ct (c_var (pv 0))) (c_int))) (c_int)) (c_int)) (a_cons (c_neg (c_int)) (a_nil)))) (fun {_} {_} ho ha => pe_bm PySem.F.plainAttrs_list PySem.F.slot_list_append PySem.F.type_list_append mt_append ho ha)) (s_nil))) (s_cons (s_exp (c_meth ct hr tk (c_var (pv 0)) (a_cons (c_var (pv 2)) (a_nil)))) (s_cons (s_ret (c_var (pv 3))) (s_nil))))
theorem sc_Track_run : FnScope ["self", "word", "count"] ["self", "word", "count"] (defScope st_Track_run) := ⟨rfl, rfl, rfl, by decide +kernel, rfl, by decide +kernel, by decide +kernel⟩
theorem w_Track_run (T : Txt K mg z) (V : Lv P w K mg base z k) (cdv : Value) (A : Around) (outer : List Env) (s : Shared) (H : Hp) (E : XK) (hr0 : Room (2 * k + 1) (A.deeper (envOfC "Track.run" (defScope st_Track_run) s.heap.objs.size z.a_Track_run cdv))) :
    PSsc (cxOf (L2.CX P w) P w K mg base ["self", "word", "count"] "Track.run" (defScope st_Track_run) z.a_Track_run cdv A outer s H E) (clsA z) (fun c d _ H' => E c d H') ⟨callN Dt k, Dt.cls⟩ (defBody st_Track_run) b_Track_run := by
  have sc := sc_Track_run
  have hr1 : Room (2 * k + 1) (cxOf (L2.CX P w) P w K mg base ["self", "word", "count"] "Track.run" (defScope st_Track_run) z.a_Track_run cdv A outer s H E).A := hr0
  have hr : Room (2 * k) (cxOf (L2.CX P w) P w K mg base ["self", "word", "count"] "Track.run" (defScope st_Track_run) z.a_Track_run cdv A outer s H E).A := hr0.mono (Nat.le_succ _)
  have hu := hr.units
  have tk : Takes (cxOf (L2.CX P w) P w K mg base ["self", "word", "count"] "Track.run" (defScope st_Track_run) z.a_Track_run cdv A outer s H E) (fun c d _ H' => E c d H') := takes_of rfl rfl rfl rfl
  have hp := passes_of (X := cxOf (L2.CX P w) P w K mg base ["self", "word", "count"] "Track.run" (defScope st_Track_run) z.a_Track_run cdv A outer s H E) rfl
  have ct := ct_ok T V
  exact s_cons (s_if (p_cmp (op_eqA hu) sv_eq (nomark _) (c_var (pv 1)) (c_cst (v := .str "push") (pe_glob (by rfl) T.k_PUSH ⟨_, rfl⟩) (fun _ _ => .str _))) (s_cons (s_ret (c_ite (p_cmp op_le sv_le (nomark _) (c_bin op_addA sv_add (c_fld ct (c_var (pv 0))) (c_var (pv 2))) (c_fld ct (c_var (pv 0)))) (c_meth ct hr tk (c_var (pv 0)) (a_cons (c_var (pv 2)) (a_nil))) (c_non))) (s_nil)) (s_nil)) (s_cons (s_ret (c_ite (p_cmp op_ge sv_ge (nomark _) (c_fld ct (c_var (pv 0))) (c_var (pv 2))) (c_meth ct hr tk (c_var (pv 0)) (a_cons (c_var (pv 2)) (a_nil))) (c_non))) (s_nil))
theorem sc_tracked : FnScope ["policy", "state", "operations", "track", "found", "index", "word", "count", "some"] ["policy", "state", "operations"] (defScope st_tracked) := ⟨rfl, rfl, rfl, by decide +kernel, rfl, by decide +kernel, by decide +kernel⟩
theorem w_tracked (T : Txt K mg z) (V : Lv P w K mg base z k) (cdv : Value) (A : Around) (outer : List Env) (s : Shared) (H : Hp) (E : XK) (hr0 : Room (2 * k + 1) (A.deeper (envOfC "tracked" (defScope st_tracked) s.heap.objs.size z.a_tracked cdv))) :
    PSsc (cxOf (L2.CX P w) P w K mg base ["policy", "state", "operations", "track", "found", "index", "word", "count", "some"] "tracked" (defScope st_tracked) z.a_tracked cdv A outer s H E) (clsA z) (fun c d _ H' => E c d H') ⟨callN Dt k, Dt.cls⟩ (defBody st_tracked) b_tracked := by
  have sc := sc_tracked
  have hr1 : Room (2 * k + 1) (cxOf (L2.CX P w) P w K mg base ["policy", "state", "operations", "track", "found", "index", "word", "count", "some"] "tracked" (defScope st_tracked) z.a_tracked cdv A outer s H E).A := hr0
  have hr : Room (2 * k) (cxOf (L2.CX P w) P w K mg base ["policy", "state", "operations", "track", "found", "index", "word", "count", "some"] "tracked" (defScope st_tracked) z.a_tracked cdv A outer s H E).A := hr0.mono (Nat.le_succ _)
  have hu := hr.units
  have tk : Takes (cxOf (L2.CX P w) P w K mg base ["policy", "state", "operations", "track", "found", "index", "word", "count", "some"] "tracked" (defScope st_tracked) z.a_tracked cdv A outer s H E) (fun c d _ H' => E c d H') := takes_of rfl rfl rfl rfl
  have hp := passes_of (X := cxOf (L2.CX P w) P w K mg base ["policy", "state", "operations", "track", "found", "index", "word", "count", "some"] "tracked" (defScope st_tracked) z.a_tracked cdv A outer s H E) rfl
  have ct := ct_ok T V
  have i_check_operations : IsFn P w K mg base (clsA z) (callN Dt k) (2 * k) "check_operations" 6 := ⟨_, _, _, T.m_check_operations, T.F_check_operations.kp, T.B_check_operations, V.o_check_operations⟩
  have j_Track : IsCl P w K mg base (clsA z) ⟨callN Dt k, Dt.cls⟩ (2 * k) "Track" 0 := ⟨_, _, _, _, _, rfl, rfl, T.g_Track, T.h_Track, T.B_Track___init__, V.o_Track___init__⟩
  exact s_cons (s_exp (c_call i_check_operations hr tk (by rfl) (a_cons (c_var (pv 2)) (a_nil)))) (s_cons (s_par (i := 3) (j := 4) rfl sc.nd rfl rfl (by decide) rfl rfl (a_cons (c_make j_Track hr1 tk (by rfl) (a_cons (c_var (pv 0)) (a_cons (c_var (pv 1)) (a_nil)))) (a_cons (c_lst (a_nil)) (a_nil))) (by rfl)) (s_cons (s_for hp rfl (i_enum (by rfl) T.z_enumerate (a_cons (c_var (pv 2)) (a_nil))) (g_tp rfl (gs_cons (g_nm (pg_name (i := 5) sc.nd rfl (by first | exact Or.inl rfl | exact Or.inr rfl))) (gs_cons (g_tp rfl (gs_cons (g_nm (pg_name (i := 6) sc.nd rfl (by first | exact Or.inl rfl | exact Or.inr rfl))) (gs_cons (g_nm (pg_name (i := 7) sc.nd rfl (by first | exact Or.inl rfl | exact Or.inr rfl))) (gs_nil)))) (gs_nil)))) (s_cons (s_ifw (i := 8) op_isN sv_is (nomark _) sc.nd rfl (by first | exact Or.inl rfl | exact Or.inr rfl) (c_meth ct hr tk (c_var (pv 3)) (a_cons (c_var (pv 6)) (a_cons (c_var (pv 7)) (a_nil)))) (c_non) (s_cons (s_never) (s_nil)) (s_nil)) (s_cons (s_ext (c_var (pv 4)) (c_var (pv 8)) (fun {_} {_} ho ha => pe_bm PySem.F.plainAttrs_list PySem.F.slot_list_extend PySem.F.type_list_extend mt_extend ho ha)) (s_nil)))) (s_cons (s_ret (c_tup (a_cons (c_var (pv 3)) (a_cons (c_var (pv 4)) (a_nil))))) (s_nil))))
theorem sc_after : FnScope ["policy", "state", "operations", "track", "found"] ["policy", "state", "operations"] (defScope st_after) := ⟨rfl, rfl, rfl, by decide +kernel, rfl, by decide +kernel, by decide +kernel⟩
theorem w_after (T : Txt K mg z) (V : Lv P w K mg base z k) (cdv : Value) (A : Around) (outer : List Env) (s : Shared) (H : Hp) (E : XK) (hr0 : Room (2 * k + 1) (A.deeper (envOfC "after" (defScope st_after) s.heap.objs.size z.a_after cdv))) :
    PSsc (cxOf (L2.CX P w) P w K mg base ["policy", "state", "operations", "track", "found"] "after" (defScope st_after) z.a_after cdv A outer s H E) (clsA z) (fun c d _ H' => E c d H') ⟨callN Dt k, Dt.cls⟩ (defBody st_after) b_after := by
  have sc := sc_after
  have hr1 : Room (2 * k + 1) (cxOf (L2.CX P w) P w K mg base ["policy", "state", "operations", "track", "found"] "after" (defScope st_after) z.a_after cdv A outer s H E).A := hr0
  have hr : Room (2 * k) (cxOf (L2.CX P w) P w K mg base ["policy", "state", "operations", "track", "found"] "after" (defScope st_after) z.a_after cdv A outer s H E).A := hr0.mono (Nat.le_succ _)
  have hu := hr.units
  have tk : Takes (cxOf (L2.CX P w) P w K mg base ["policy", "state", "operations", "track", "found"] "after" (defScope st_after) z.a_after cdv A outer s H E) (fun c d _ H' => E c d H') := takes_of rfl rfl rfl rfl
  have hp := passes_of (X := cxOf (L2.CX P w) P w K mg base ["policy", "state", "operations", "track", "found"] "after" (defScope st_after) z.a_after cdv A outer s H E) rfl
  have ct := ct_ok T V
  have i_tracked : IsFn P w K mg base (clsA z) (callN Dt k) (2 * k) "tracked" 13 := ⟨_, _, _, T.m_tracked, T.F_tracked.kp, T.B_tracked, V.o_tracked⟩
  exact s_cons (s_asg (c_call i_tracked hr tk (by rfl) (a_cons (c_var (pv 0)) (a_cons (c_var (pv 1)) (a_cons (c_var (pv 2)) (a_nil))))) (tg_tp rfl (tgs_cons (tg_nm (pg_name (i := 3) sc.nd rfl (by first | exact Or.inl rfl | exact Or.inr rfl))) (tgs_cons (tg_nm (pg_name (i := 4) sc.nd rfl (by first | exact Or.inl rfl | exact Or.inr rfl))) (tgs_nil))))) (s_cons (s_ret (c_tup (a_cons (c_fld ct (c_var (pv 3))) (a_cons (c_fld ct (c_var (pv 3))) (a_nil))))) (s_nil))
theorem sc_cost_of : FnScope ["policy", "state", "operations"] ["policy", "state", "operations"] (defScope st_cost_of) := ⟨rfl, rfl, rfl, by decide +kernel, rfl, by decide +kernel, by decide +kernel⟩
theorem w_cost_of (T : Txt K mg z) (V : Lv P w K mg base z k) (cdv : Value) (A : Around) (outer : List Env) (s : Shared) (H : Hp) (E : XK) (hr0 : Room (2 * k + 1) (A.deeper (envOfC "cost_of" (defScope st_cost_of) s.heap.objs.size z.a_cost_of cdv))) :
    PSsc (cxOf (L2.CX P w) P w K mg base ["policy", "state", "operations"] "cost_of" (defScope st_cost_of) z.a_cost_of cdv A outer s H E) (clsA z) (fun c d _ H' => E c d H') ⟨callN Dt k, Dt.cls⟩ (defBody st_cost_of) b_cost_of := by
  have sc := sc_cost_of
  have hr1 : Room (2 * k + 1) (cxOf (L2.CX P w) P w K mg base ["policy", "state", "operations"] "cost_of" (defScope st_cost_of) z.a_cost_of cdv A outer s H E).A := hr0
  have hr : Room (2 * k) (cxOf (L2.CX P w) P w K mg base ["policy", "state", "operations"] "cost_of" (defScope st_cost_of) z.a_cost_of cdv A outer s H E).A := hr0.mono (Nat.le_succ _)
  have hu := hr.units
  have tk : Takes (cxOf (L2.CX P w) P w K mg base ["policy", "state", "operations"] "cost_of" (defScope st_cost_of) z.a_cost_of cdv A outer s H E) (fun c d _ H' => E c d H') := takes_of rfl rfl rfl rfl
  have hp := passes_of (X := cxOf (L2.CX P w) P w K mg base ["policy", "state", "operations"] "cost_of" (defScope st_cost_of) z.a_cost_of cdv A outer s H E) rfl
  have ct := ct_ok T V
  have i_tracked : IsFn P w K mg base (clsA z) (callN Dt k) (2 * k) "tracked" 13 := ⟨_, _, _, T.m_tracked, T.F_tracked.kp, T.B_tracked, V.o_tracked⟩
  exact s_cons (s_ret (c_fld ct (c_idx (c_call i_tracked hr tk (by rfl) (a_cons (c_var (pv 0)) (a_cons (c_var (pv 1)) (a_cons (c_var (pv 2)) (a_nil))))) (c_int)))) (s_nil)
theorem sc_law_draws : FnScope ["_law_script", "_law_k", "_law_cell", "_law_great"] ["_law_script", "_law_k"] (defScope st_law_draws) := ⟨rfl, rfl, rfl, by decide +kernel, rfl, by decide +kernel, by decide +kernel⟩
theorem w_law_draws (T : Txt K mg z) (V : Lv P w K mg base z k) (cdv : Value) (A : Around) (outer : List Env) (s : Shared) (H : Hp) (E : XK) (hr0 : Room (2 * k + 1) (A.deeper (envOfC "_law_draws" (defScope st_law_draws) s.heap.objs.size z.a_law_draws cdv))) :
    PSsc (cxOf (L2.CX P w) P w K mg base ["_law_script", "_law_k", "_law_cell", "_law_great"] "_law_draws" (defScope st_law_draws) z.a_law_draws cdv A outer s H E) (clsA z) (fun c d _ H' => E c d H') ⟨callN Dt k, Dt.cls⟩ (defBody st_law_draws) b_law_draws := by
  have sc := sc_law_draws
  have hr1 : Room (2 * k + 1) (cxOf (L2.CX P w) P w K mg base ["_law_script", "_law_k", "_law_cell", "_law_great"] "_law_draws" (defScope st_law_draws) z.a_law_draws cdv A outer s H E).A := hr0
  have hr : Room (2 * k) (cxOf (L2.CX P w) P w K mg base ["_law_script", "_law_k", "_law_cell", "_law_great"] "_law_draws" (defScope st_law_draws) z.a_law_draws cdv A outer s H E).A := hr0.mono (Nat.le_succ _)
  have hu := hr.units
  have tk : Takes (cxOf (L2.CX P w) P w K mg base ["_law_script", "_law_k", "_law_cell", "_law_great"] "_law_draws" (defScope st_law_draws) z.a_law_draws cdv A outer s H E) (fun c d _ H' => E c d H') := takes_of rfl rfl rfl rfl
  have hp := passes_of (X := cxOf (L2.CX P w) P w K mg base ["_law_script", "_law_k", "_law_cell", "_law_great"] "_law_draws" (defScope st_law_draws) z.a_law_draws cdv A outer s H E) rfl
  exact s_cons (s_asg (c_ite (p_cmp op_lt sv_lt (nomark _) (c_var (pv 1)) (c_bi (pos := ⟨0, 0, 0, 0⟩) (fe := .Constant .none 0 ⟨0, 0, 0, 0⟩) sv_len (a_cons (c_var (pv 0)) (a_nil)) (fun {_} h => pe_callB call_lenA (by rfl) T.z_len (by decide +kernel) h))) (c_idx (c_var (pv 0)) (c_var (pv 1))) (c_bin op_addA sv_add (c_bin op_mulA sv_mul (c_int) (c_var (pv 1))) (c_int))) (tg_nm (pg_name (i := 2) sc.nd rfl (by first | exact Or.inl rfl | exact Or.inr rfl)))) (s_cons (s_asg (c_bin op_mulA sv_mul (c_bin op_mod sv_mod (c_bi (pos := ⟨0, 0, 0, 0⟩) (fe := .Constant .none 0 ⟨0, 0, 0, 0⟩) sv_abs (a_cons (c_var (pv 2)) (a_nil)) (fun {_} h => pe_callB call_abs (by rfl) T.z_abs (by decide +kernel) h)) (c_bin op_powW sv_pow (c_bin op_powW sv_pow (c_int) (c_int)) (c_int))) (c_bi (pos := ⟨0, 0, 0, 0⟩) (fe := .Constant .none 0 ⟨0, 0, 0, 0⟩) sv_int (a_cons (c_cmp op_ge sv_ge (nomark _) (c_bi (pos := ⟨0, 0, 0, 0⟩) (fe := .Constant .none 0 ⟨0, 0, 0, 0⟩) sv_abs (a_cons (c_var (pv 2)) (a_nil)) (fun {_} h => pe_callB call_abs (by rfl) T.z_abs (by decide +kernel) h)) (c_bin op_powW sv_pow (c_int) (c_int))) (a_nil)) (fun {_} h => pe_callTy call_int1 (by rfl) T.z_int (by decide +kernel) h))) (tg_nm (pg_name (i := 3) sc.nd rfl (by first | exact Or.inl rfl | exact Or.inr rfl)))) (s_cons (s_ret (c_lst (a_cons (c_var (pv 3)) (a_cons (c_bin op_mod sv_mod (c_bin op_mulA sv_mul (c_bin op_addA sv_add (c_bin op_addA sv_add (c_bin op_mod sv_mod (c_var (pv 2)) (c_int)) (c_bin op_mulA sv_mul (c_bin op_mulA sv_mul (c_int) (c_var (pv 1))) (c_var (pv 1)))) (c_int)) (c_int)) (c_int)) (a_cons (c_int) (a_nil)))))) (s_nil)))
theorem sc_law_below : FnScope ["_law_draws_here", "_law_many", "_law_digit", "_law_step", "_law_prime", "_law_mixed"] ["_law_draws_here", "_law_many"] (defScope st_law_below) := ⟨rfl, rfl, rfl, by decide +kernel, rfl, by decide +kernel, by decide +kernel⟩
theorem w_law_below (T : Txt K mg z) (V : Lv P w K mg base z k) (cdv : Value) (A : Around) (outer : List Env) (s : Shared) (H : Hp) (E : XK) (hr0 : Room (2 * k + 1) (A.deeper (envOfC "_law_below" (defScope st_law_below) s.heap.objs.size z.a_law_below cdv))) :
    PSsc (cxOf (L2.CX P w) P w K mg base ["_law_draws_here", "_law_many", "_law_digit", "_law_step", "_law_prime", "_law_mixed"] "_law_below" (defScope st_law_below) z.a_law_below cdv A outer s H E) (clsA z) (fun c d _ H' => E c d H') ⟨callN Dt k, Dt.cls⟩ (defBody st_law_below) b_law_below := by
  have sc := sc_law_below
  have hr1 : Room (2 * k + 1) (cxOf (L2.CX P w) P w K mg base ["_law_draws_here", "_law_many", "_law_digit", "_law_step", "_law_prime", "_law_mixed"] "_law_below" (defScope st_law_below) z.a_law_below cdv A outer s H E).A := hr0
  have hr : Room (2 * k) (cxOf (L2.CX P w) P w K mg base ["_law_draws_here", "_law_many", "_law_digit", "_law_step", "_law_prime", "_law_mixed"] "_law_below" (defScope st_law_below) z.a_law_below cdv A outer s H E).A := hr0.mono (Nat.le_succ _)
  have hu := hr.units
  have tk : Takes (cxOf (L2.CX P w) P w K mg base ["_law_draws_here", "_law_many", "_law_digit", "_law_step", "_law_prime", "_law_mixed"] "_law_below" (defScope st_law_below) z.a_law_below cdv A outer s H E) (fun c d _ H' => E c d H') := takes_of rfl rfl rfl rfl
  have hp := passes_of (X := cxOf (L2.CX P w) P w K mg base ["_law_draws_here", "_law_many", "_law_digit", "_law_step", "_law_prime", "_law_mixed"] "_law_below" (defScope st_law_below) z.a_law_below cdv A outer s H E) rfl
  exact s_cons (s_if (p_cmp op_gt sv_gt (nomark _) (c_idx (c_var (pv 0)) (c_int)) (c_int)) (s_cons (s_asg (c_bin op_mod sv_mod (c_idx (c_var (pv 0)) (c_int)) (c_var (pv 1))) (tg_nm (pg_name (i := 2) sc.nd rfl (by first | exact Or.inl rfl | exact Or.inr rfl)))) (s_cons (s_asg (c_bin op_fdivW sv_fdiv (c_idx (c_var (pv 0)) (c_int)) (c_var (pv 1))) (tg_sub (c_var (pv 0)) (c_int))) (s_cons (s_ret (c_var (pv 2))) (s_nil)))) (s_nil)) (s_cons (s_asg (c_bin op_addA sv_add (c_idx (c_var (pv 0)) (c_int)) (c_int)) (tg_nm (pg_name (i := 3) sc.nd rfl (by first | exact Or.inl rfl | exact Or.inr rfl)))) (s_cons (s_asg (c_var (pv 3)) (tg_sub (c_var (pv 0)) (c_int))) (s_cons (s_asg (c_idx (c_lst (a_cons (c_int) (a_cons (c_int) (a_cons (c_int) (a_cons (c_int) (a_nil)))))) (c_bin op_mod sv_mod (c_var (pv 3)) (c_int))) (tg_nm (pg_name (i := 4) sc.nd rfl (by first | exact Or.inl rfl | exact Or.inr rfl)))) (s_cons (s_asg (c_bin op_mod sv_mod (c_bin op_addA sv_add (c_bin op_addA sv_add (c_idx (c_var (pv 0)) (c_int)) (c_bin op_mulA sv_mul (c_bin op_mulA sv_mul (c_int) (c_var (pv 3))) (c_var (pv 3)))) (c_bin op_mulA sv_mul (c_int) (c_var (pv 3)))) (c_var (pv 4))) (tg_nm (pg_name (i := 5) sc.nd rfl (by first | exact Or.inl rfl | exact Or.inr rfl)))) (s_cons (s_asg (c_bin op_mod sv_mod (c_bin op_powW sv_pow (c_var (pv 5)) (c_int)) (c_var (pv 4))) (tg_nm (pg_name (i := 5) sc.nd rfl (by first | exact Or.inl rfl | exact Or.inr rfl)))) (s_cons (s_ret (c_bin op_mod sv_mod (c_bin op_addA sv_add (c_bin op_fdivW sv_fdiv (c_var (pv 5)) (c_int)) (c_bin op_mulA sv_mul (c_bin op_fdivW sv_fdiv (c_var (pv 5)) (c_int)) (c_int))) (c_var (pv 1)))) (s_nil)))))))
theorem sc_law_pick : FnScope ["_law_draws_here", "_law_items"] ["_law_draws_here", "_law_items"] (defScope st_law_pick) := ⟨rfl, rfl, rfl, by decide +kernel, rfl, by decide +kernel, by decide +kernel⟩
theorem w_law_pick (T : Txt K mg z) (V : Lv P w K mg base z k) (cdv : Value) (A : Around) (outer : List Env) (s : Shared) (H : Hp) (E : XK) (hr0 : Room (2 * k + 1) (A.deeper (envOfC "_law_pick" (defScope st_law_pick) s.heap.objs.size z.a_law_pick cdv))) :
    PSsc (cxOf (L2.CX P w) P w K mg base ["_law_draws_here", "_law_items"] "_law_pick" (defScope st_law_pick) z.a_law_pick cdv A outer s H E) (clsA z) (fun c d _ H' => E c d H') ⟨callN Dt k, Dt.cls⟩ (defBody st_law_pick) b_law_pick := by
  have sc := sc_law_pick
  have hr1 : Room (2 * k + 1) (cxOf (L2.CX P w) P w K mg base ["_law_draws_here", "_law_items"] "_law_pick" (defScope st_law_pick) z.a_law_pick cdv A outer s H E).A := hr0
  have hr : Room (2 * k) (cxOf (L2.CX P w) P w K mg base ["_law_draws_here", "_law_items"] "_law_pick" (defScope st_law_pick) z.a_law_pick cdv A outer s H E).A := hr0.mono (Nat.le_succ _)
  have hu := hr.units
  have tk : Takes (cxOf (L2.CX P w) P w K mg base ["_law_draws_here", "_law_items"] "_law_pick" (defScope st_law_pick) z.a_law_pick cdv A outer s H E) (fun c d _ H' => E c d H') := takes_of rfl rfl rfl rfl
  have hp := passes_of (X := cxOf (L2.CX P w) P w K mg base ["_law_draws_here", "_law_items"] "_law_pick" (defScope st_law_pick) z.a_law_pick cdv A outer s H E) rfl
  have i_law_below : IsFn P w K mg base (clsA z) (callN Dt k) (2 * k) "_law_below" 17 := ⟨_, _, _, T.m_law_below, T.F_law_below.kp, T.B_law_below, V.o_law_below⟩
  exact s_cons (s_ret (c_idx (c_var (pv 1)) (c_call i_law_below hr tk (by rfl) (a_cons (c_var (pv 0)) (a_cons (c_bi (pos := ⟨0, 0, 0, 0⟩) (fe := .Constant .none 0 ⟨0, 0, 0, 0⟩) sv_len (a_cons (c_var (pv 1)) (a_nil)) (fun {_} h => pe_callB call_lenA (by rfl) T.z_len (by decide +kernel) h)) (a_nil)))))) (s_nil)
theorem sc_law_table : FnScope ["_law_draws_here", "_law_many", "_law_part", "_law_capacities", "_law_limits", "_law_low", "_law_at"] ["_law_draws_here"] (defScope st_law_table) := ⟨rfl, rfl, rfl, by decide +kernel, rfl, by decide +kernel, by decide +kernel⟩
theorem w_law_table (T : Txt K mg z) (V : Lv P w K mg base z k) (cdv : Value) (A : Around) (outer : List Env) (s : Shared) (H : Hp) (E : XK) (hr0 : Room (2 * k + 1) (A.deeper (envOfC "_law_table" (defScope st_law_table) s.heap.objs.size z.a_law_table cdv))) :
    PSsc (cxOf (L2.CX P w) P w K mg base ["_law_draws_here", "_law_many", "_law_part", "_law_capacities", "_law_limits", "_law_low", "_law_at"] "_law_table" (defScope st_law_table) z.a_law_table cdv A outer s H E) (clsA z) (fun c d _ H' => E c d H') ⟨callN Dt k, Dt.cls⟩ (defBody st_law_table) b_law_table := by
  have sc := sc_law_table
  have hr1 : Room (2 * k + 1) (cxOf (L2.CX P w) P w K mg base ["_law_draws_here", "_law_many", "_law_part", "_law_capacities", "_law_limits", "_law_low", "_law_at"] "_law_table" (defScope st_law_table) z.a_law_table cdv A outer s H E).A := hr0
  have hr : Room (2 * k) (cxOf (L2.CX P w) P w K mg base ["_law_draws_here", "_law_many", "_law_part", "_law_capacities", "_law_limits", "_law_low", "_law_at"] "_law_table" (defScope st_law_table) z.a_law_table cdv A outer s H E).A := hr0.mono (Nat.le_succ _)
  have hu := hr.units
  have tk : Takes (cxOf (L2.CX P w) P w K mg base ["_law_draws_here", "_law_many", "_law_part", "_law_capacities", "_law_limits", "_law_low", "_law_at"] "_law_table" (defScope st_law_table) z.a_law_table cdv A outer s H E) (fun c d _ H' => E c d H') := takes_of rfl rfl rfl rfl
  have hp := passes_of (X := cxOf (L2.CX P w) P w K mg base ["_law_draws_here", "_law_many", "_law_part", "_law_capacities", "_law_limits", "_law_low", "_law_at"] "_law_table" (defScope st_law_table) z.a_law_table cdv A outer s H E) rfl
  have i_law_below : IsFn P w K mg base (clsA z) (callN Dt k) (2 * k) "_law_below" 17 := ⟨_, _, _, T.m_law_below, T.F_law_below.kp, T.B_law_below, V.o_law_below⟩
  have i_law_pick : IsFn P w K mg base (clsA z) (callN Dt k) (2 * k) "_law_pick" 18 := ⟨_, _, _, T.m_law_pick, T.F_law_pick.kp, T.B_law_pick, V.o_law_pick⟩
  exact s_cons (s_par (i := 1) (j := 2) rfl sc.nd rfl rfl (by decide) rfl rfl (a_cons (c_bin op_addA sv_add (c_int) (c_call i_law_below hr tk (by rfl) (a_cons (c_var (pv 0)) (a_cons (c_int) (a_nil))))) (a_cons (c_call i_law_pick hr tk (by rfl) (a_cons (c_var (pv 0)) (a_cons (c_lst (a_cons (c_int) (a_cons (c_int) (a_cons (c_int) (a_nil))))) (a_nil)))) (a_nil))) (by rfl)) (s_cons (s_par3 (i := 3) (j := 4) (l := 5) rfl sc.nd rfl rfl rfl (by decide) (by decide) (by decide) rfl rfl rfl (a_cons (c_lc (own := [("_law_at", 6)]) rfl sc.nd (i_rng1 (a_cons (c_var (pv 1)) (a_nil)) (fun {_} h => pi_range1 (by rfl) T.z_range h)) (blkOk_by (N := ["_law_draws_here", "_law_many", "_law_part", "_law_capacities", "_law_limits", "_law_low", "_law_at"]) (sc := defScope st_law_table) (by decide +kernel)) (by decide) (fun _ _ _ _ _ => g_nm (pg_name (i := 6) sc.nd rfl (by first | exact Or.inl rfl | exact Or.inr rfl))) (fun _ _ _ _ _ => t_nil) (fun _ _ _ _ _ => c_bin op_shl sv_shl (c_int) (c_var (pv 6)))) (a_cons (c_lst (a_nil)) (a_cons (c_neg (c_int)) (a_nil)))) (by rfl)) (s_cons (s_for hp rfl (i_rng2 (a_cons (c_int) (a_cons (c_var (pv 1)) (a_nil))) (fun {_} h => pi_range2 (by rfl) T.z_range h)) (g_nm (pg_name (i := 6) sc.nd rfl (by first | exact Or.inl rfl | exact Or.inr rfl))) (s_cons (s_asg (c_bi (pos := ⟨0, 0, 0, 0⟩) (fe := .Constant .none 0 ⟨0, 0, 0, 0⟩) sv_max2 (a_cons (c_bin op_addA sv_add (c_var (pv 5)) (c_int)) (a_cons (c_bin op_fdivW sv_fdiv (c_bin op_shl sv_shl (c_int) (c_var (pv 6))) (c_var (pv 2))) (a_nil))) (fun {_} h => pe_callB (call_max2 rfl) (by rfl) T.z_max (by decide +kernel) h)) (tg_nm (pg_name (i := 5) sc.nd rfl (by first | exact Or.inl rfl | exact Or.inr rfl)))) (s_cons (s_app (c_var (pv 4)) (c_var (pv 5)) (fun {_} {_} ho ha => pe_bm PySem.F.plainAttrs_list PySem.F.slot_list_append PySem.F.type_list_append mt_append ho ha)) (s_nil)))) (s_cons (s_ret (c_tup (a_cons (c_bi (pos := ⟨0, 0, 0, 0⟩) (fe := .Constant .none 0 ⟨0, 0, 0, 0⟩) sv_tuple (a_cons (c_var (pv 3)) (a_nil)) (fun {_} h => pe_callTy call_tuple_of (by rfl) T.z_tuple (by decide +kernel) h)) (a_cons (c_bi (pos := ⟨0, 0, 0, 0⟩) (fe := .Constant .none 0 ⟨0, 0, 0, 0⟩) sv_tuple (a_cons (c_var (pv 4)) (a_nil)) (fun {_} h => pe_callTy call_tuple_of (by rfl) T.z_tuple (by decide +kernel) h)) (a_cons (c_call i_law_pick hr tk (by rfl) (a_cons (c_var (pv 0)) (a_cons (c_lst (a_cons (c_int) (a_cons (c_int) (a_cons (c_call i_law_below hr tk (by rfl) (a_cons (c_var (pv 0)) (a_cons (c_bin op_powW sv_pow (c_int) (c_int)) (a_nil)))) (a_nil))))) (a_nil)))) (a_nil)))))) (s_nil))))
theorem sc_law_level : FnScope ["_law_capacities", "_law_size", "_law_at", "_law_room"] ["_law_capacities", "_law_size"] (defScope st_law_level) := ⟨rfl, rfl, rfl, by decide +kernel, rfl, by decide +kernel, by decide +kernel⟩
theorem w_law_level (T : Txt K mg z) (V : Lv P w K mg base z k) (cdv : Value) (A : Around) (outer : List Env) (s : Shared) (H : Hp) (E : XK) (hr0 : Room (2 * k + 1) (A.deeper (envOfC "_law_level" (defScope st_law_level) s.heap.objs.size z.a_law_level cdv))) :
    PSsc (cxOf (L2.CX P w) P w K mg base ["_law_capacities", "_law_size", "_law_at", "_law_room"] "_law_level" (defScope st_law_level) z.a_law_level cdv A outer s H E) (clsA z) (fun c d _ H' => E c d H') ⟨callN Dt k, Dt.cls⟩ (defBody st_law_level) b_law_level := by
  have sc := sc_law_level
  have hr1 : Room (2 * k + 1) (cxOf (L2.CX P w) P w K mg base ["_law_capacities", "_law_size", "_law_at", "_law_room"] "_law_level" (defScope st_law_level) z.a_law_level cdv A outer s H E).A := hr0
  have hr : Room (2 * k) (cxOf (L2.CX P w) P w K mg base ["_law_capacities", "_law_size", "_law_at", "_law_room"] "_law_level" (defScope st_law_level) z.a_law_level cdv A outer s H E).A := hr0.mono (Nat.le_succ _)
  have hu := hr.units
  have tk : Takes (cxOf (L2.CX P w) P w K mg base ["_law_capacities", "_law_size", "_law_at", "_law_room"] "_law_level" (defScope st_law_level) z.a_law_level cdv A outer s H E) (fun c d _ H' => E c d H') := takes_of rfl rfl rfl rfl
  have hp := passes_of (X := cxOf (L2.CX P w) P w K mg base ["_law_capacities", "_law_size", "_law_at", "_law_room"] "_law_level" (defScope st_law_level) z.a_law_level cdv A outer s H E) rfl
  exact s_cons (s_ret (c_idx (c_lc (own := [("_law_at", 2), ("_law_room", 3)]) rfl sc.nd (i_enum (by rfl) T.z_enumerate (a_cons (c_var (pv 0)) (a_nil))) (blkOk_by (N := ["_law_capacities", "_law_size", "_law_at", "_law_room"]) (sc := defScope st_law_level) (by decide +kernel)) (by decide) (fun _ _ _ _ _ => g_tp rfl (gs_cons (g_nm (pg_name (i := 2) sc.nd rfl (by first | exact Or.inl rfl | exact Or.inr rfl))) (gs_cons (g_nm (pg_name (i := 3) sc.nd rfl (by first | exact Or.inl rfl | exact Or.inr rfl))) (gs_nil)))) (fun _ _ _ _ _ => t_one (p_cmp op_ge sv_ge (nomark _) (c_var (pv 3)) (c_var (pv 1)))) (fun _ _ _ _ _ => c_var (pv 2))) (c_int))) (s_nil)
theorem sc_law : FnScope ["_law_script", "_law_k", "_law_draws_here", "_law_turn", "_law_policy", "_law_capacities", "_law_limits", "_law_fixed", "_law_top", "_law_size", "_law_level_here", "_law_gone", "_law_up", "_law_pairs", "_law_limit"] ["_law_script"] (defScope st_law) := ⟨rfl, rfl, rfl, by decide +kernel, rfl, by decide +kernel, by decide +kernel⟩
theorem w_law (T : Txt K mg z) (V : Lv P w K mg base z k) (cdv : Value) (A : Around) (outer : List Env) (s : Shared) (H : Hp) (E : XK) (hr0 : Room (2 * k + 1) (A.deeper (envOfC "law" (defScope st_law) s.heap.objs.size z.a_law cdv))) :
    PSsc (cxOf (L2.CX P w) P w K mg base ["_law_script", "_law_k", "_law_draws_here", "_law_turn", "_law_policy", "_law_capacities", "_law_limits", "_law_fixed", "_law_top", "_law_size", "_law_level_here", "_law_gone", "_law_up", "_law_pairs", "_law_limit"] "law" (defScope st_law) z.a_law cdv A outer s H E) (clsA z) (fun c d _ H' => E c d H') ⟨callN Dt k, Dt.cls⟩ (defBody st_law) b_law := by
  have sc := sc_law
  have hr1 : Room (2 * k + 1) (cxOf (L2.CX P w) P w K mg base ["_law_script", "_law_k", "_law_draws_here", "_law_turn", "_law_policy", "_law_capacities", "_law_limits", "_law_fixed", "_law_top", "_law_size", "_law_level_here", "_law_gone", "_law_up", "_law_pairs", "_law_limit"] "law" (defScope st_law) z.a_law cdv A outer s H E).A := hr0
  have hr : Room (2 * k) (cxOf (L2.CX P w) P w K mg base ["_law_script", "_law_k", "_law_draws_here", "_law_turn", "_law_policy", "_law_capacities", "_law_limits", "_law_fixed", "_law_top", "_law_size", "_law_level_here", "_law_gone", "_law_up", "_law_pairs", "_law_limit"] "law" (defScope st_law) z.a_law cdv A outer s H E).A := hr0.mono (Nat.le_succ _)
  have hu := hr.units
  have tk : Takes (cxOf (L2.CX P w) P w K mg base ["_law_script", "_law_k", "_law_draws_here", "_law_turn", "_law_policy", "_law_capacities", "_law_limits", "_law_fixed", "_law_top", "_law_size", "_law_level_here", "_law_gone", "_law_up", "_law_pairs", "_law_limit"] "law" (defScope st_law) z.a_law cdv A outer s H E) (fun c d _ H' => E c d H') := takes_of rfl rfl rfl rfl
  have hp := passes_of (X := cxOf (L2.CX P w) P w K mg base ["_law_script", "_law_k", "_law_draws_here", "_law_turn", "_law_policy", "_law_capacities", "_law_limits", "_law_fixed", "_law_top", "_law_size", "_law_level_here", "_law_gone", "_law_up", "_law_pairs", "_law_limit"] "law" (defScope st_law) z.a_law cdv A outer s H E) rfl
  have i_law_below : IsFn P w K mg base (clsA z) (callN Dt k) (2 * k) "_law_below" 17 := ⟨_, _, _, T.m_law_below, T.F_law_below.kp, T.B_law_below, V.o_law_below⟩
  have i_law_draws : IsFn P w K mg base (clsA z) (callN Dt k) (2 * k) "_law_draws" 16 := ⟨_, _, _, T.m_law_draws, T.F_law_draws.kp, T.B_law_draws, V.o_law_draws⟩
  have i_law_level : IsFn P w K mg base (clsA z) (callN Dt k) (2 * k) "_law_level" 20 := ⟨_, _, _, T.m_law_level, T.F_law_level.kp, T.B_law_level, V.o_law_level⟩
  have i_law_table : IsFn P w K mg base (clsA z) (callN Dt k) (2 * k) "_law_table" 19 := ⟨_, _, _, T.m_law_table, T.F_law_table.kp, T.B_law_table, V.o_law_table⟩
  have i_after : IsFn P w K mg base (clsA z) (callN Dt k) (2 * k) "after" 14 := ⟨_, _, _, T.m_after, T.F_after.kp, T.B_after, V.o_after⟩
  have i_cost_of : IsFn P w K mg base (clsA z) (callN Dt k) (2 * k) "cost_of" 15 := ⟨_, _, _, T.m_cost_of, T.F_cost_of.kp, T.B_cost_of, V.o_cost_of⟩
  exact s_cons (s_for hp rfl (i_rng1 (a_cons (c_bi (pos := ⟨0, 0, 0, 0⟩) (fe := .Constant .none 0 ⟨0, 0, 0, 0⟩) sv_max2 (a_cons (c_int) (a_cons (c_bi (pos := ⟨0, 0, 0, 0⟩) (fe := .Constant .none 0 ⟨0, 0, 0, 0⟩) sv_min2 (a_cons (c_int) (a_cons (c_bi (pos := ⟨0, 0, 0, 0⟩) (fe := .Constant .none 0 ⟨0, 0, 0, 0⟩) sv_len (a_cons (c_var (pv 0)) (a_nil)) (fun {_} h => pe_callB call_lenA (by rfl) T.z_len (by decide +kernel) h)) (a_nil))) (fun {_} h => pe_callB (call_min2 rfl) (by rfl) T.z_min (by decide +kernel) h)) (a_nil))) (fun {_} h => pe_callB (call_max2 rfl) (by rfl) T.z_max (by decide +kernel) h)) (a_nil)) (fun {_} h => pi_range1 (by rfl) T.z_range h)) (g_nm (pg_name (i := 1) sc.nd rfl (by first | exact Or.inl rfl | exact Or.inr rfl))) (s_cons (s_asg (c_call i_law_draws hr tk (by rfl) (a_cons (c_var (pv 0)) (a_cons (c_var (pv 1)) (a_nil)))) (tg_nm (pg_name (i := 2) sc.nd rfl (by first | exact Or.inl rfl | exact Or.inr rfl)))) (s_cons (s_for hp rfl (i_rng1 (a_cons (c_int) (a_nil)) (fun {_} h => pi_range1 (by rfl) T.z_range h)) (g_nm (pg_name (i := 3) sc.nd rfl (by first | exact Or.inl rfl | exact Or.inr rfl))) (s_cons (s_asg (c_call i_law_table hr tk (by rfl) (a_cons (c_var (pv 2)) (a_nil))) (tg_nm (pg_name (i := 4) sc.nd rfl (by first | exact Or.inl rfl | exact Or.inr rfl)))) (s_cons (s_asg (c_var (pv 4)) (tg_tp rfl (tgs_cons (tg_nm (pg_name (i := 5) sc.nd rfl (by first | exact Or.inl rfl | exact Or.inr rfl))) (tgs_cons (tg_nm (pg_name (i := 6) sc.nd rfl (by first | exact Or.inl rfl | exact Or.inr rfl))) (tgs_cons (tg_nm (pg_name (i := 7) sc.nd rfl (by first | exact Or.inl rfl | exact Or.inr rfl))) (tgs_nil)))))) (s_cons (s_asg (c_idx (c_var (pv 5)) (c_neg (c_int))) (tg_nm (pg_name (i := 8) sc.nd rfl (by first | exact Or.inl rfl | exact Or.inr rfl)))) (s_cons (s_for hp rfl (i_seq (c_tup (a_cons (c_int) (a_cons (c_int) (a_cons (c_var (pv 8)) (a_cons (c_bin op_addA sv_add (c_int) (c_call i_law_below hr tk (by rfl) (a_cons (c_var (pv 2)) (a_cons (c_var (pv 8)) (a_nil))))) (a_cons (c_bin op_shl sv_shl (c_int) (c_call i_law_below hr tk (by rfl) (a_cons (c_var (pv 2)) (a_cons (c_bi (pos := ⟨0, 0, 0, 0⟩) (fe := .Constant .none 0 ⟨0, 0, 0, 0⟩) sv_len (a_cons (c_var (pv 5)) (a_nil)) (fun {_} h => pe_callB call_lenA (by rfl) T.z_len (by decide +kernel) h)) (a_nil))))) (a_nil)))))))) (g_nm (pg_name (i := 9) sc.nd rfl (by first | exact Or.inl rfl | exact Or.inr rfl))) (s_cons (s_asg (c_call i_law_level hr tk (by rfl) (a_cons (c_var (pv 5)) (a_cons (c_var (pv 9)) (a_nil)))) (tg_nm (pg_name (i := 10) sc.nd rfl (by first | exact Or.inl rfl | exact Or.inr rfl)))) (s_cons (s_if (p_cmp (op_neA hu) sv_ne (nomark _) (c_call i_after hr tk (by rfl) (a_cons (c_var (pv 4)) (a_cons (c_tup (a_cons (c_int) (a_cons (c_int) (a_nil)))) (a_cons (c_tup (a_cons (c_tup (a_cons (c_str) (a_cons (c_var (pv 9)) (a_nil)))) (a_nil))) (a_nil))))) (c_tup (a_cons (c_var (pv 10)) (a_cons (c_var (pv 9)) (a_nil))))) (s_cons (s_ret (c_bl)) (s_nil)) (s_nil)) (s_cons (s_if (p_cmp (op_neA hu) sv_ne (nomark _) (c_call i_cost_of hr tk (by rfl) (a_cons (c_var (pv 4)) (a_cons (c_tup (a_cons (c_int) (a_cons (c_int) (a_nil)))) (a_cons (c_tup (a_cons (c_tup (a_cons (c_str) (a_cons (c_var (pv 9)) (a_nil)))) (a_nil))) (a_nil))))) (c_bin op_addA sv_add (c_bin op_sub sv_sub (c_bin op_shl sv_shl (c_int) (c_var (pv 10))) (c_int)) (c_bin op_mulA sv_mul (c_var (pv 10)) (c_var (pv 7))))) (s_cons (s_ret (c_bl)) (s_nil)) (s_nil)) (s_cons (s_setLc (i := 11) (own := [("_law_limit", 14)]) rfl sc.nd rfl rfl (sw_true rfl rfl rfl (by decide +kernel)) (i_seq (c_var (pv 6))) (blkOk_by (N := ["_law_script", "_law_k", "_law_draws_here", "_law_turn", "_law_policy", "_law_capacities", "_law_limits", "_law_fixed", "_law_top", "_law_size", "_law_level_here", "_law_gone", "_law_up", "_law_pairs", "_law_limit"]) (sc := defScope st_law) (by decide +kernel)) (by decide) (fun _ _ _ _ _ => g_nm (pg_name (i := 14) sc.nd rfl (by first | exact Or.inl rfl | exact Or.inr rfl))) (fun _ _ _ _ _ => t_one (p_cmp op_ge sv_ge (nomark _) (c_var (pv 14)) (c_var (pv 9)))) (fun _ _ _ _ _ => c_var (pv 14))) (s_cons (s_asg (c_bin op_addA sv_add (c_bin op_sub sv_sub (c_bin op_shl sv_shl (c_int) (c_bin op_sub sv_sub (c_bi (pos := ⟨0, 0, 0, 0⟩) (fe := .Constant .none 0 ⟨0, 0, 0, 0⟩) sv_len (a_cons (c_var (pv 5)) (a_nil)) (fun {_} h => pe_callB call_lenA (by rfl) T.z_len (by decide +kernel) h)) (c_int))) (c_int)) (c_bin op_mulA sv_mul (c_bin op_sub sv_sub (c_bi (pos := ⟨0, 0, 0, 0⟩) (fe := .Constant .none 0 ⟨0, 0, 0, 0⟩) sv_len (a_cons (c_var (pv 5)) (a_nil)) (fun {_} h => pe_callB call_lenA (by rfl) T.z_len (by decide +kernel) h)) (c_int)) (c_var (pv 7)))) (tg_nm (pg_name (i := 12) sc.nd rfl (by first | exact Or.inl rfl | exact Or.inr rfl)))) (s_cons (s_asg (c_ite (p_cmp op_lt sv_lt (nomark _) (c_var (pv 9)) (c_var (pv 8))) (c_tup (a_cons (c_tup (a_cons (c_str) (a_cons (c_var (pv 8)) (a_nil)))) (a_cons (c_tup (a_cons (c_str) (a_cons (c_bin op_sub sv_sub (c_var (pv 8)) (c_var (pv 9))) (a_nil)))) (a_nil)))) (c_tup (a_cons (c_tup (a_cons (c_str) (a_cons (c_var (pv 8)) (a_nil)))) (a_nil)))) (tg_nm (pg_name (i := 13) sc.nd rfl (by first | exact Or.inl rfl | exact Or.inr rfl)))) (s_cons (s_if (p_cmp (op_neA hu) sv_ne (nomark _) (c_call i_after hr tk (by rfl) (a_cons (c_var (pv 4)) (a_cons (c_tup (a_cons (c_int) (a_cons (c_int) (a_nil)))) (a_cons (c_var (pv 13)) (a_nil))))) (c_tup (a_cons (c_bin op_sub sv_sub (c_bin op_sub sv_sub (c_bi (pos := ⟨0, 0, 0, 0⟩) (fe := .Constant .none 0 ⟨0, 0, 0, 0⟩) sv_len (a_cons (c_var (pv 5)) (a_nil)) (fun {_} h => pe_callB call_lenA (by rfl) T.z_len (by decide +kernel) h)) (c_int)) (c_bi (pos := ⟨0, 0, 0, 0⟩) (fe := .Constant .none 0 ⟨0, 0, 0, 0⟩) sv_len (a_cons (c_var (pv 11)) (a_nil)) (fun {_} h => pe_callB call_lenA (by rfl) T.z_len (by decide +kernel) h))) (a_cons (c_var (pv 9)) (a_nil))))) (s_cons (s_ret (c_bl)) (s_nil)) (s_nil)) (s_cons (s_if (p_cmp (op_neA hu) sv_ne (nomark _) (c_call i_cost_of hr tk (by rfl) (a_cons (c_var (pv 4)) (a_cons (c_tup (a_cons (c_int) (a_cons (c_int) (a_nil)))) (a_cons (c_var (pv 13)) (a_nil))))) (c_bin op_addA sv_add (c_bin op_addA sv_add (c_var (pv 12)) (c_bi (pos := ⟨0, 0, 0, 0⟩) (fe := .Constant .none 0 ⟨0, 0, 0, 0⟩) sv_sum (a_cons (c_var (pv 11)) (a_nil)) (fun {_} h => pe_callB (cr_sum rfl) (by rfl) T.z_sum (by decide +kernel) h))) (c_bin op_mulA sv_mul (c_bi (pos := ⟨0, 0, 0, 0⟩) (fe := .Constant .none 0 ⟨0, 0, 0, 0⟩) sv_len (a_cons (c_var (pv 11)) (a_nil)) (fun {_} h => pe_callB call_lenA (by rfl) T.z_len (by decide +kernel) h)) (c_var (pv 7))))) (s_cons (s_ret (c_bl)) (s_nil)) (s_nil)) (s_nil)))))))))) (s_nil)))))) (s_nil)))) (s_cons (s_ret (c_bl)) (s_nil))
theorem lv (T : Txt K mg z) : ∀ k, Lv P w K mg base z k
  | 0 => ⟨fn_zero, fn_zero, fn_zero, fn_zero, fn_zero, fn_zero, fn_zero, fn_zero, fn_zero, fn_zero, fn_zero, fn_zero, fn_zero, fn_zero, fn_zero, fn_zero, fn_zero, fn_zero, fn_zero, fn_zero, fn_zero, fn_zero⟩
  | k + 1 => by
    have V := lv T k
    exact ⟨fn_ok T.F_is_integer sc_is_integer (fn := f_is_integer) rfl rfl rfl (w_is_integer T V),
      fn_ok T.F_top_level sc_top_level (fn := f_top_level) rfl rfl rfl (w_top_level T V),
      fn_ok T.F_capacity_of sc_capacity_of (fn := f_capacity_of) rfl rfl rfl (w_capacity_of T V),
      fn_ok T.F_boundaries sc_boundaries (fn := f_boundaries) rfl rfl rfl (w_boundaries T V),
      fn_ok T.F_is_run sc_is_run (fn := f_is_run) rfl rfl rfl (w_is_run T V),
      fn_ok T.F_are_operations sc_are_operations (fn := f_are_operations) rfl rfl rfl (w_are_operations T V),
      fn_ok T.F_check_operations sc_check_operations (fn := f_check_operations) rfl rfl rfl (w_check_operations T V),
      fn_ok T.F_Track___init__ sc_Track___init__ (fn := f_Track___init__) rfl rfl rfl (w_Track___init__ T V),
      fn_ok T.F_Track_move sc_Track_move (fn := f_Track_move) rfl rfl rfl (w_Track_move T V),
      fn_ok T.F_Track_rest sc_Track_rest (fn := f_Track_rest) rfl rfl rfl (w_Track_rest T V),
      fn_ok T.F_Track_push sc_Track_push (fn := f_Track_push) rfl rfl rfl (w_Track_push T V),
      fn_ok T.F_Track_pop sc_Track_pop (fn := f_Track_pop) rfl rfl rfl (w_Track_pop T V),
      fn_ok T.F_Track_run sc_Track_run (fn := f_Track_run) rfl rfl rfl (w_Track_run T V),
      fn_ok T.F_tracked sc_tracked (fn := f_tracked) rfl rfl rfl (w_tracked T V),
      fn_ok T.F_after sc_after (fn := f_after) rfl rfl rfl (w_after T V),
      fn_ok T.F_cost_of sc_cost_of (fn := f_cost_of) rfl rfl rfl (w_cost_of T V),
      fn_ok T.F_law_draws sc_law_draws (fn := f_law_draws) rfl rfl rfl (w_law_draws T V),
      fn_ok T.F_law_below sc_law_below (fn := f_law_below) rfl rfl rfl (w_law_below T V),
      fn_ok T.F_law_pick sc_law_pick (fn := f_law_pick) rfl rfl rfl (w_law_pick T V),
      fn_ok T.F_law_table sc_law_table (fn := f_law_table) rfl rfl rfl (w_law_table T V),
      fn_ok T.F_law_level sc_law_level (fn := f_law_level) rfl rfl rfl (w_law_level T V),
      fn_ok T.F_law sc_law (fn := f_law) rfl rfl rfl (w_law T V)⟩
end
end G.K13
set_option maxRecDepth 100000
set_option maxHeartbeats 4000000
namespace G.K13
open PySem L2 PySem.Spec PyProof.Rows G
theorem all_mk {l : PySem.W.OpenLaw} {w : World} {K : PySem.W.Frag} {h : Heap} {mg : Str → Option Value} {fa : Addr} (X : K.In h) (G0 : h.Ns mainGlobals mg) (hfa : mg "law" = some (.ref fa))
    {f_is_integer : Addr} {od_is_integer an_is_integer : Option Addr} {sl_is_integer : Array (Option Value)} {oc_is_integer kV_is_integer dc_is_integer pm_is_integer cd_is_integer ct_is_integer : Value}
    {f_top_level : Addr} {od_top_level an_top_level : Option Addr} {sl_top_level : Array (Option Value)} {oc_top_level kV_top_level dc_top_level pm_top_level cd_top_level ct_top_level : Value}
    {f_capacity_of : Addr} {od_capacity_of an_capacity_of : Option Addr} {sl_capacity_of : Array (Option Value)} {oc_capacity_of kV_capacity_of dc_capacity_of pm_capacity_of cd_capacity_of ct_capacity_of : Value}
    {f_boundaries : Addr} {od_boundaries an_boundaries : Option Addr} {sl_boundaries : Array (Option Value)} {oc_boundaries kV_boundaries dc_boundaries pm_boundaries cd_boundaries ct_boundaries : Value}
    {f_is_run : Addr} {od_is_run an_is_run : Option Addr} {sl_is_run : Array (Option Value)} {oc_is_run kV_is_run dc_is_run pm_is_run cd_is_run ct_is_run : Value}
    {f_are_operations : Addr} {od_are_operations an_are_operations : Option Addr} {sl_are_operations : Array (Option Value)} {oc_are_operations kV_are_operations dc_are_operations pm_are_operations cd_are_operations ct_are_operations : Value}
    {f_check_operations : Addr} {od_check_operations an_check_operations : Option Addr} {sl_check_operations : Array (Option Value)} {oc_check_operations kV_check_operations dc_check_operations pm_check_operations cd_check_operations ct_check_operations : Value}
    {f_Track___init__ : Addr} {od_Track___init__ an_Track___init__ : Option Addr} {sl_Track___init__ : Array (Option Value)} {oc_Track___init__ kV_Track___init__ dc_Track___init__ pm_Track___init__ cd_Track___init__ ct_Track___init__ : Value}
    {f_Track_move : Addr} {od_Track_move an_Track_move : Option Addr} {sl_Track_move : Array (Option Value)} {oc_Track_move kV_Track_move dc_Track_move pm_Track_move cd_Track_move ct_Track_move : Value}
    {f_Track_rest : Addr} {od_Track_rest an_Track_rest : Option Addr} {sl_Track_rest : Array (Option Value)} {oc_Track_rest kV_Track_rest dc_Track_rest pm_Track_rest cd_Track_rest ct_Track_rest : Value}
    {f_Track_push : Addr} {od_Track_push an_Track_push : Option Addr} {sl_Track_push : Array (Option Value)} {oc_Track_push kV_Track_push dc_Track_push pm_Track_push cd_Track_push ct_Track_push : Value}
    {f_Track_pop : Addr} {od_Track_pop an_Track_pop : Option Addr} {sl_Track_pop : Array (Option Value)} {oc_Track_pop kV_Track_pop dc_Track_pop pm_Track_pop cd_Track_pop ct_Track_pop : Value}
    {f_Track_run : Addr} {od_Track_run an_Track_run : Option Addr} {sl_Track_run : Array (Option Value)} {oc_Track_run kV_Track_run dc_Track_run pm_Track_run cd_Track_run ct_Track_run : Value}
    {f_tracked : Addr} {od_tracked an_tracked : Option Addr} {sl_tracked : Array (Option Value)} {oc_tracked kV_tracked dc_tracked pm_tracked cd_tracked ct_tracked : Value}
    {f_after : Addr} {od_after an_after : Option Addr} {sl_after : Array (Option Value)} {oc_after kV_after dc_after pm_after cd_after ct_after : Value}
    {f_cost_of : Addr} {od_cost_of an_cost_of : Option Addr} {sl_cost_of : Array (Option Value)} {oc_cost_of kV_cost_of dc_cost_of pm_cost_of cd_cost_of ct_cost_of : Value}
    {f_law_draws : Addr} {od_law_draws an_law_draws : Option Addr} {sl_law_draws : Array (Option Value)} {oc_law_draws kV_law_draws dc_law_draws pm_law_draws cd_law_draws ct_law_draws : Value}
    {f_law_below : Addr} {od_law_below an_law_below : Option Addr} {sl_law_below : Array (Option Value)} {oc_law_below kV_law_below dc_law_below pm_law_below cd_law_below ct_law_below : Value}
    {f_law_pick : Addr} {od_law_pick an_law_pick : Option Addr} {sl_law_pick : Array (Option Value)} {oc_law_pick kV_law_pick dc_law_pick pm_law_pick cd_law_pick ct_law_pick : Value}
    {f_law_table : Addr} {od_law_table an_law_table : Option Addr} {sl_law_table : Array (Option Value)} {oc_law_table kV_law_table dc_law_table pm_law_table cd_law_table ct_law_table : Value}
    {f_law_level : Addr} {od_law_level an_law_level : Option Addr} {sl_law_level : Array (Option Value)} {oc_law_level kV_law_level dc_law_level pm_law_level cd_law_level ct_law_level : Value}
    {f_law : Addr} {od_law an_law : Option Addr} {sl_law : Array (Option Value)} {oc_law kV_law dc_law pm_law cd_law ct_law : Value}
    {C_Track : Addr}
    {t_GROW : Tok}
    {t_MOST_COUNT : Tok}
    {t_MOST_PAIRS : Tok}
    {t_PAIR : Tok}
    {t_POP : Tok}
    {t_PUSH : Tok}
    {t_SHRINK : Tok}
    (gc_Track : PySem.W.nsIn K mainGlobals "Track" = some (some (.ref C_Track)))
    (a_is_integer : PySem.W.nsIn K mainGlobals "is_integer" = some (some (.ref f_is_integer)))
    (l_is_integer : K.lookup f_is_integer = some ⟨oc_is_integer, od_is_integer, .func (PySem.W.fnOf "is_integer" "is_integer" (defArgs st_is_integer) (defBody st_is_integer) (defScope st_is_integer) .none kV_is_integer dc_is_integer pm_is_integer an_is_integer cd_is_integer ct_is_integer), sl_is_integer⟩)
    (c_is_integer : PySem.W.codeIn K cd_is_integer "is_integer" = true)
    (k_is_integer : PySem.W.keepIn K (.ref f_is_integer) = true)
    (a_top_level : PySem.W.nsIn K mainGlobals "top_level" = some (some (.ref f_top_level)))
    (l_top_level : K.lookup f_top_level = some ⟨oc_top_level, od_top_level, .func (PySem.W.fnOf "top_level" "top_level" (defArgs st_top_level) (defBody st_top_level) (defScope st_top_level) .none kV_top_level dc_top_level pm_top_level an_top_level cd_top_level ct_top_level), sl_top_level⟩)
    (c_top_level : PySem.W.codeIn K cd_top_level "top_level" = true)
    (k_top_level : PySem.W.keepIn K (.ref f_top_level) = true)
    (a_capacity_of : PySem.W.nsIn K mainGlobals "capacity_of" = some (some (.ref f_capacity_of)))
    (l_capacity_of : K.lookup f_capacity_of = some ⟨oc_capacity_of, od_capacity_of, .func (PySem.W.fnOf "capacity_of" "capacity_of" (defArgs st_capacity_of) (defBody st_capacity_of) (defScope st_capacity_of) .none kV_capacity_of dc_capacity_of pm_capacity_of an_capacity_of cd_capacity_of ct_capacity_of), sl_capacity_of⟩)
    (c_capacity_of : PySem.W.codeIn K cd_capacity_of "capacity_of" = true)
    (k_capacity_of : PySem.W.keepIn K (.ref f_capacity_of) = true)
    (a_boundaries : PySem.W.nsIn K mainGlobals "boundaries" = some (some (.ref f_boundaries)))
    (l_boundaries : K.lookup f_boundaries = some ⟨oc_boundaries, od_boundaries, .func (PySem.W.fnOf "boundaries" "boundaries" (defArgs st_boundaries) (defBody st_boundaries) (defScope st_boundaries) .none kV_boundaries dc_boundaries pm_boundaries an_boundaries cd_boundaries ct_boundaries), sl_boundaries⟩)
    (c_boundaries : PySem.W.codeIn K cd_boundaries "boundaries" = true)
    (k_boundaries : PySem.W.keepIn K (.ref f_boundaries) = true)
    (a_is_run : PySem.W.nsIn K mainGlobals "is_run" = some (some (.ref f_is_run)))
    (l_is_run : K.lookup f_is_run = some ⟨oc_is_run, od_is_run, .func (PySem.W.fnOf "is_run" "is_run" (defArgs st_is_run) (defBody st_is_run) (defScope st_is_run) .none kV_is_run dc_is_run pm_is_run an_is_run cd_is_run ct_is_run), sl_is_run⟩)
    (c_is_run : PySem.W.codeIn K cd_is_run "is_run" = true)
    (k_is_run : PySem.W.keepIn K (.ref f_is_run) = true)
    (a_are_operations : PySem.W.nsIn K mainGlobals "are_operations" = some (some (.ref f_are_operations)))
    (l_are_operations : K.lookup f_are_operations = some ⟨oc_are_operations, od_are_operations, .func (PySem.W.fnOf "are_operations" "are_operations" (defArgs st_are_operations) (defBody st_are_operations) (defScope st_are_operations) .none kV_are_operations dc_are_operations pm_are_operations an_are_operations cd_are_operations ct_are_operations), sl_are_operations⟩)
    (c_are_operations : PySem.W.codeIn K cd_are_operations "are_operations" = true)
    (k_are_operations : PySem.W.keepIn K (.ref f_are_operations) = true)
    (a_check_operations : PySem.W.nsIn K mainGlobals "check_operations" = some (some (.ref f_check_operations)))
    (l_check_operations : K.lookup f_check_operations = some ⟨oc_check_operations, od_check_operations, .func (PySem.W.fnOf "check_operations" "check_operations" (defArgs st_check_operations) (defBody st_check_operations) (defScope st_check_operations) .none kV_check_operations dc_check_operations pm_check_operations an_check_operations cd_check_operations ct_check_operations), sl_check_operations⟩)
    (c_check_operations : PySem.W.codeIn K cd_check_operations "check_operations" = true)
    (k_check_operations : PySem.W.keepIn K (.ref f_check_operations) = true)
    (a_Track___init__ : PySem.W.findIn K (.ref C_Track) "__init__" = some (some (.ref f_Track___init__)))
    (i_Track___init__ : PySem.W.isFn K (.ref f_Track___init__) = true)
    (l_Track___init__ : K.lookup f_Track___init__ = some ⟨oc_Track___init__, od_Track___init__, .func (PySem.W.fnOf "__init__" "Track.__init__" (defArgs st_Track___init__) (defBody st_Track___init__) (defScope st_Track___init__) .none kV_Track___init__ dc_Track___init__ pm_Track___init__ an_Track___init__ cd_Track___init__ ct_Track___init__), sl_Track___init__⟩)
    (c_Track___init__ : PySem.W.codeIn K cd_Track___init__ "Track.__init__" = true)
    (k_Track___init__ : PySem.W.keepIn K (.ref f_Track___init__) = true)
    (a_Track_move : PySem.W.findIn K (.ref C_Track) "move" = some (some (.ref f_Track_move)))
    (i_Track_move : PySem.W.isFn K (.ref f_Track_move) = true)
    (l_Track_move : K.lookup f_Track_move = some ⟨oc_Track_move, od_Track_move, .func (PySem.W.fnOf "move" "Track.move" (defArgs st_Track_move) (defBody st_Track_move) (defScope st_Track_move) .none kV_Track_move dc_Track_move pm_Track_move an_Track_move cd_Track_move ct_Track_move), sl_Track_move⟩)
    (c_Track_move : PySem.W.codeIn K cd_Track_move "Track.move" = true)
    (k_Track_move : PySem.W.keepIn K (.ref f_Track_move) = true)
    (a_Track_rest : PySem.W.findIn K (.ref C_Track) "rest" = some (some (.ref f_Track_rest)))
    (i_Track_rest : PySem.W.isFn K (.ref f_Track_rest) = true)
    (l_Track_rest : K.lookup f_Track_rest = some ⟨oc_Track_rest, od_Track_rest, .func (PySem.W.fnOf "rest" "Track.rest" (defArgs st_Track_rest) (defBody st_Track_rest) (defScope st_Track_rest) .none kV_Track_rest dc_Track_rest pm_Track_rest an_Track_rest cd_Track_rest ct_Track_rest), sl_Track_rest⟩)
    (c_Track_rest : PySem.W.codeIn K cd_Track_rest "Track.rest" = true)
    (k_Track_rest : PySem.W.keepIn K (.ref f_Track_rest) = true)
    (a_Track_push : PySem.W.findIn K (.ref C_Track) "push" = some (some (.ref f_Track_push)))
    (i_Track_push : PySem.W.isFn K (.ref f_Track_push) = true)
    (l_Track_push : K.lookup f_Track_push = some ⟨oc_Track_push, od_Track_push, .func (PySem.W.fnOf "push" "Track.push" (defArgs st_Track_push) (defBody st_Track_push) (defScope st_Track_push) .none kV_Track_push dc_Track_push pm_Track_push an_Track_push cd_Track_push ct_Track_push), sl_Track_push⟩)
    (c_Track_push : PySem.W.codeIn K cd_Track_push "Track.push" = true)
    (k_Track_push : PySem.W.keepIn K (.ref f_Track_push) = true)
    (a_Track_pop : PySem.W.findIn K (.ref C_Track) "pop" = some (some (.ref f_Track_pop)))
    (i_Track_pop : PySem.W.isFn K (.ref f_Track_pop) = true)
    (l_Track_pop : K.lookup f_Track_pop = some ⟨oc_Track_pop, od_Track_pop, .func (PySem.W.fnOf "pop" "Track.pop" (defArgs st_Track_pop) (defBody st_Track_pop) (defScope st_Track_pop) .none kV_Track_pop dc_Track_pop pm_Track_pop an_Track_pop cd_Track_pop ct_Track_pop), sl_Track_pop⟩)
    (c_Track_pop : PySem.W.codeIn K cd_Track_pop "Track.pop" = true)
    (k_Track_pop : PySem.W.keepIn K (.ref f_Track_pop) = true)
    (a_Track_run : PySem.W.findIn K (.ref C_Track) "run" = some (some (.ref f_Track_run)))
    (i_Track_run : PySem.W.isFn K (.ref f_Track_run) = true)
    (l_Track_run : K.lookup f_Track_run = some ⟨oc_Track_run, od_Track_run, .func (PySem.W.fnOf "run" "Track.run" (defArgs st_Track_run) (defBody st_Track_run) (defScope st_Track_run) .none kV_Track_run dc_Track_run pm_Track_run an_Track_run cd_Track_run ct_Track_run), sl_Track_run⟩)
    (c_Track_run : PySem.W.codeIn K cd_Track_run "Track.run" = true)
    (k_Track_run : PySem.W.keepIn K (.ref f_Track_run) = true)
    (a_tracked : PySem.W.nsIn K mainGlobals "tracked" = some (some (.ref f_tracked)))
    (l_tracked : K.lookup f_tracked = some ⟨oc_tracked, od_tracked, .func (PySem.W.fnOf "tracked" "tracked" (defArgs st_tracked) (defBody st_tracked) (defScope st_tracked) .none kV_tracked dc_tracked pm_tracked an_tracked cd_tracked ct_tracked), sl_tracked⟩)
    (c_tracked : PySem.W.codeIn K cd_tracked "tracked" = true)
    (k_tracked : PySem.W.keepIn K (.ref f_tracked) = true)
    (a_after : PySem.W.nsIn K mainGlobals "after" = some (some (.ref f_after)))
    (l_after : K.lookup f_after = some ⟨oc_after, od_after, .func (PySem.W.fnOf "after" "after" (defArgs st_after) (defBody st_after) (defScope st_after) .none kV_after dc_after pm_after an_after cd_after ct_after), sl_after⟩)
    (c_after : PySem.W.codeIn K cd_after "after" = true)
    (k_after : PySem.W.keepIn K (.ref f_after) = true)
    (a_cost_of : PySem.W.nsIn K mainGlobals "cost_of" = some (some (.ref f_cost_of)))
    (l_cost_of : K.lookup f_cost_of = some ⟨oc_cost_of, od_cost_of, .func (PySem.W.fnOf "cost_of" "cost_of" (defArgs st_cost_of) (defBody st_cost_of) (defScope st_cost_of) .none kV_cost_of dc_cost_of pm_cost_of an_cost_of cd_cost_of ct_cost_of), sl_cost_of⟩)
    (c_cost_of : PySem.W.codeIn K cd_cost_of "cost_of" = true)
    (k_cost_of : PySem.W.keepIn K (.ref f_cost_of) = true)
    (a_law_draws : PySem.W.nsIn K mainGlobals "_law_draws" = some (some (.ref f_law_draws)))
    (l_law_draws : K.lookup f_law_draws = some ⟨oc_law_draws, od_law_draws, .func (PySem.W.fnOf "_law_draws" "_law_draws" (defArgs st_law_draws) (defBody st_law_draws) (defScope st_law_draws) .none kV_law_draws dc_law_draws pm_law_draws an_law_draws cd_law_draws ct_law_draws), sl_law_draws⟩)
    (c_law_draws : PySem.W.codeIn K cd_law_draws "_law_draws" = true)
    (k_law_draws : PySem.W.keepIn K (.ref f_law_draws) = true)
    (a_law_below : PySem.W.nsIn K mainGlobals "_law_below" = some (some (.ref f_law_below)))
    (l_law_below : K.lookup f_law_below = some ⟨oc_law_below, od_law_below, .func (PySem.W.fnOf "_law_below" "_law_below" (defArgs st_law_below) (defBody st_law_below) (defScope st_law_below) .none kV_law_below dc_law_below pm_law_below an_law_below cd_law_below ct_law_below), sl_law_below⟩)
    (c_law_below : PySem.W.codeIn K cd_law_below "_law_below" = true)
    (k_law_below : PySem.W.keepIn K (.ref f_law_below) = true)
    (a_law_pick : PySem.W.nsIn K mainGlobals "_law_pick" = some (some (.ref f_law_pick)))
    (l_law_pick : K.lookup f_law_pick = some ⟨oc_law_pick, od_law_pick, .func (PySem.W.fnOf "_law_pick" "_law_pick" (defArgs st_law_pick) (defBody st_law_pick) (defScope st_law_pick) .none kV_law_pick dc_law_pick pm_law_pick an_law_pick cd_law_pick ct_law_pick), sl_law_pick⟩)
    (c_law_pick : PySem.W.codeIn K cd_law_pick "_law_pick" = true)
    (k_law_pick : PySem.W.keepIn K (.ref f_law_pick) = true)
    (a_law_table : PySem.W.nsIn K mainGlobals "_law_table" = some (some (.ref f_law_table)))
    (l_law_table : K.lookup f_law_table = some ⟨oc_law_table, od_law_table, .func (PySem.W.fnOf "_law_table" "_law_table" (defArgs st_law_table) (defBody st_law_table) (defScope st_law_table) .none kV_law_table dc_law_table pm_law_table an_law_table cd_law_table ct_law_table), sl_law_table⟩)
    (c_law_table : PySem.W.codeIn K cd_law_table "_law_table" = true)
    (k_law_table : PySem.W.keepIn K (.ref f_law_table) = true)
    (a_law_level : PySem.W.nsIn K mainGlobals "_law_level" = some (some (.ref f_law_level)))
    (l_law_level : K.lookup f_law_level = some ⟨oc_law_level, od_law_level, .func (PySem.W.fnOf "_law_level" "_law_level" (defArgs st_law_level) (defBody st_law_level) (defScope st_law_level) .none kV_law_level dc_law_level pm_law_level an_law_level cd_law_level ct_law_level), sl_law_level⟩)
    (c_law_level : PySem.W.codeIn K cd_law_level "_law_level" = true)
    (k_law_level : PySem.W.keepIn K (.ref f_law_level) = true)
    (a_law : PySem.W.nsIn K mainGlobals "law" = some (some (.ref f_law)))
    (l_law : K.lookup f_law = some ⟨oc_law, od_law, .func (PySem.W.fnOf "law" "law" (defArgs st_law) (defBody st_law) (defScope st_law) .none kV_law dc_law pm_law an_law cd_law ct_law), sl_law⟩)
    (c_law : PySem.W.codeIn K cd_law "law" = true)
    (k_law : PySem.W.keepIn K (.ref f_law) = true)
    (pg_Track : PySem.W.plainGet K C_Track Str.empty = true)
    (hd_Track : PySem.W.hasDictIn K C_Track = true)
    (po_Track : PySem.W.plainOver K C_Track = true)
    (sa_Track : PySem.W.findIn K (.ref C_Track) "__setattr__" = some (some (.builtin "object.__setattr__")))
    (mk_Track : PySem.W.makesIn K C_Track = true)
    (kc_Track : PySem.W.keepIn K (.ref C_Track) = true)
    (n_Track_at_level : PySem.W.findIn K (.ref C_Track) "at_level" = some none)
    (n_Track_at_size : PySem.W.findIn K (.ref C_Track) "at_size" = some none)
    (n_Track_done : PySem.W.findIn K (.ref C_Track) "done" = some none)
    (n_Track_fixed : PySem.W.findIn K (.ref C_Track) "fixed" = some none)
    (n_Track_most : PySem.W.findIn K (.ref C_Track) "most" = some none)
    (n_Track_paid : PySem.W.findIn K (.ref C_Track) "paid" = some none)
    (n_Track_places : PySem.W.findIn K (.ref C_Track) "places" = some none)
    (z_abs : PySem.W.nsIn K mainGlobals "abs" = some none)
    (z_all : PySem.W.nsIn K mainGlobals "all" = some none)
    (z_bool : PySem.W.nsIn K mainGlobals "bool" = some none)
    (z_enumerate : PySem.W.nsIn K mainGlobals "enumerate" = some none)
    (z_int : PySem.W.nsIn K mainGlobals "int" = some none)
    (z_isinstance : PySem.W.nsIn K mainGlobals "isinstance" = some none)
    (z_len : PySem.W.nsIn K mainGlobals "len" = some none)
    (z_max : PySem.W.nsIn K mainGlobals "max" = some none)
    (z_min : PySem.W.nsIn K mainGlobals "min" = some none)
    (z_range : PySem.W.nsIn K mainGlobals "range" = some none)
    (z_str : PySem.W.nsIn K mainGlobals "str" = some none)
    (z_sum : PySem.W.nsIn K mainGlobals "sum" = some none)
    (z_tuple : PySem.W.nsIn K mainGlobals "tuple" = some none)
    (z_zip : PySem.W.nsIn K mainGlobals "zip" = some none)
    (q_GROW : PySem.W.nsIn K mainGlobals "GROW" = some (some (.str "grow" t_GROW)))
    (q_MOST_COUNT : PySem.W.nsIn K mainGlobals "MOST_COUNT" = some (some (.int 1000000000000000000 t_MOST_COUNT)))
    (q_MOST_PAIRS : PySem.W.nsIn K mainGlobals "MOST_PAIRS" = some (some (.int 200 t_MOST_PAIRS)))
    (q_PAIR : PySem.W.nsIn K mainGlobals "PAIR" = some (some (.int 2 t_PAIR)))
    (q_POP : PySem.W.nsIn K mainGlobals "POP" = some (some (.str "pop" t_POP)))
    (q_PUSH : PySem.W.nsIn K mainGlobals "PUSH" = some (some (.str "push" t_PUSH)))
    (q_SHRINK : PySem.W.nsIn K mainGlobals "SHRINK" = some (some (.str "shrink" t_SHRINK))) :
    ∃ (fd : FuncData) (z : Ad), (∀ (s : Shared) (v : Value), BindsTo s fd ⟨[v], []⟩ [("_law_script", v)]) ∧ ∀ base : Heap, K.In base → base.Ns mainGlobals mg → FnOk l.prog w K mg base (L2.CX l.prog w) (2 * 12) fa fd ["_law_script"] (spOf ⟨K, clsA z⟩ (callN Dt 12) 21) := by
  have e := hfa.symm.trans (PySem.W.mg_of X G0 a_law)
  cases e
  have F_is_integer := fun_mk (st := st_is_integer) l_is_integer c_is_integer k_is_integer
  have B_is_integer := F_is_integer.binds (ps := ["value", "least", "most"]) fun _ _ _ _ _ _ us hl => match us, hl with | [_, _, _], _ => rfl
  have F_top_level := fun_mk (st := st_top_level) l_top_level c_top_level k_top_level
  have B_top_level := F_top_level.binds (ps := ["policy"]) fun _ _ _ _ _ _ us hl => match us, hl with | [_], _ => rfl
  have F_capacity_of := fun_mk (st := st_capacity_of) l_capacity_of c_capacity_of k_capacity_of
  have B_capacity_of := F_capacity_of.binds (ps := ["policy", "level"]) fun _ _ _ _ _ _ us hl => match us, hl with | [_, _], _ => rfl
  have F_boundaries := fun_mk (st := st_boundaries) l_boundaries c_boundaries k_boundaries
  have B_boundaries := F_boundaries.binds (ps := ["policy"]) fun _ _ _ _ _ _ us hl => match us, hl with | [_], _ => rfl
  have F_is_run := fun_mk (st := st_is_run) l_is_run c_is_run k_is_run
  have B_is_run := F_is_run.binds (ps := ["value"]) fun _ _ _ _ _ _ us hl => match us, hl with | [_], _ => rfl
  have F_are_operations := fun_mk (st := st_are_operations) l_are_operations c_are_operations k_are_operations
  have B_are_operations := F_are_operations.binds (ps := ["value"]) fun _ _ _ _ _ _ us hl => match us, hl with | [_], _ => rfl
  have F_check_operations := fun_mk (st := st_check_operations) l_check_operations c_check_operations k_check_operations
  have B_check_operations := F_check_operations.binds (ps := ["value"]) fun _ _ _ _ _ _ us hl => match us, hl with | [_], _ => rfl
  have F_Track___init__ := fun_mk (st := st_Track___init__) l_Track___init__ c_Track___init__ k_Track___init__
  have B_Track___init__ := F_Track___init__.binds (ps := ["self", "policy", "state"]) fun _ _ _ _ _ _ us hl => match us, hl with | [_, _, _], _ => rfl
  have F_Track_move := fun_mk (st := st_Track_move) l_Track_move c_Track_move k_Track_move
  have B_Track_move := F_Track_move.binds (ps := ["self", "size", "by"]) fun _ _ _ _ _ _ us hl => match us, hl with | [_, _, _], _ => rfl
  have F_Track_rest := fun_mk (st := st_Track_rest) l_Track_rest c_Track_rest k_Track_rest
  have B_Track_rest := F_Track_rest.binds (ps := ["self", "size"]) fun _ _ _ _ _ _ us hl => match us, hl with | [_, _], _ => rfl
  have F_Track_push := fun_mk (st := st_Track_push) l_Track_push c_Track_push k_Track_push
  have B_Track_push := F_Track_push.binds (ps := ["self", "count"]) fun _ _ _ _ _ _ us hl => match us, hl with | [_, _], _ => rfl
  have F_Track_pop := fun_mk (st := st_Track_pop) l_Track_pop c_Track_pop k_Track_pop
  have B_Track_pop := F_Track_pop.binds (ps := ["self", "count"]) fun _ _ _ _ _ _ us hl => match us, hl with | [_, _], _ => rfl
  have F_Track_run := fun_mk (st := st_Track_run) l_Track_run c_Track_run k_Track_run
  have B_Track_run := F_Track_run.binds (ps := ["self", "word", "count"]) fun _ _ _ _ _ _ us hl => match us, hl with | [_, _, _], _ => rfl
  have F_tracked := fun_mk (st := st_tracked) l_tracked c_tracked k_tracked
  have B_tracked := F_tracked.binds (ps := ["policy", "state", "operations"]) fun _ _ _ _ _ _ us hl => match us, hl with | [_, _, _], _ => rfl
  have F_after := fun_mk (st := st_after) l_after c_after k_after
  have B_after := F_after.binds (ps := ["policy", "state", "operations"]) fun _ _ _ _ _ _ us hl => match us, hl with | [_, _, _], _ => rfl
  have F_cost_of := fun_mk (st := st_cost_of) l_cost_of c_cost_of k_cost_of
  have B_cost_of := F_cost_of.binds (ps := ["policy", "state", "operations"]) fun _ _ _ _ _ _ us hl => match us, hl with | [_, _, _], _ => rfl
  have F_law_draws := fun_mk (st := st_law_draws) l_law_draws c_law_draws k_law_draws
  have B_law_draws := F_law_draws.binds (ps := ["_law_script", "_law_k"]) fun _ _ _ _ _ _ us hl => match us, hl with | [_, _], _ => rfl
  have F_law_below := fun_mk (st := st_law_below) l_law_below c_law_below k_law_below
  have B_law_below := F_law_below.binds (ps := ["_law_draws_here", "_law_many"]) fun _ _ _ _ _ _ us hl => match us, hl with | [_, _], _ => rfl
  have F_law_pick := fun_mk (st := st_law_pick) l_law_pick c_law_pick k_law_pick
  have B_law_pick := F_law_pick.binds (ps := ["_law_draws_here", "_law_items"]) fun _ _ _ _ _ _ us hl => match us, hl with | [_, _], _ => rfl
  have F_law_table := fun_mk (st := st_law_table) l_law_table c_law_table k_law_table
  have B_law_table := F_law_table.binds (ps := ["_law_draws_here"]) fun _ _ _ _ _ _ us hl => match us, hl with | [_], _ => rfl
  have F_law_level := fun_mk (st := st_law_level) l_law_level c_law_level k_law_level
  have B_law_level := F_law_level.binds (ps := ["_law_capacities", "_law_size"]) fun _ _ _ _ _ _ us hl => match us, hl with | [_, _], _ => rfl
  have F_law := fun_mk (st := st_law) l_law c_law k_law
  have B_law := F_law.binds (ps := ["_law_script"]) fun _ _ _ _ _ _ us hl => match us, hl with | [_], _ => rfl
  have T : Txt K mg ⟨f_is_integer, _, f_top_level, _, f_capacity_of, _, f_boundaries, _, f_is_run, _, f_are_operations, _, f_check_operations, _, f_Track___init__, _, f_Track_move, _, f_Track_rest, _, f_Track_push, _, f_Track_pop, _, f_Track_run, _, f_tracked, _, f_after, _, f_cost_of, _, f_law_draws, _, f_law_below, _, f_law_pick, _, f_law_table, _, f_law_level, _, fa, _, C_Track, t_GROW, t_MOST_COUNT, t_MOST_PAIRS, t_PAIR, t_POP, t_PUSH, t_SHRINK⟩ := ⟨F_is_integer, B_is_integer, PySem.W.mg_of X G0 a_is_integer, F_top_level, B_top_level, PySem.W.mg_of X G0 a_top_level, F_capacity_of, B_capacity_of, PySem.W.mg_of X G0 a_capacity_of, F_boundaries, B_boundaries, PySem.W.mg_of X G0 a_boundaries, F_is_run, B_is_run, PySem.W.mg_of X G0 a_is_run, F_are_operations, B_are_operations, PySem.W.mg_of X G0 a_are_operations, F_check_operations, B_check_operations, PySem.W.mg_of X G0 a_check_operations, F_Track___init__, B_Track___init__, F_Track_move, B_Track_move, ⟨a_Track_move, i_Track_move, k_Track_move⟩, F_Track_rest, B_Track_rest, ⟨a_Track_rest, i_Track_rest, k_Track_rest⟩, F_Track_push, B_Track_push, ⟨a_Track_push, i_Track_push, k_Track_push⟩, F_Track_pop, B_Track_pop, ⟨a_Track_pop, i_Track_pop, k_Track_pop⟩, F_Track_run, B_Track_run, ⟨a_Track_run, i_Track_run, k_Track_run⟩, F_tracked, B_tracked, PySem.W.mg_of X G0 a_tracked, F_after, B_after, PySem.W.mg_of X G0 a_after, F_cost_of, B_cost_of, PySem.W.mg_of X G0 a_cost_of, F_law_draws, B_law_draws, PySem.W.mg_of X G0 a_law_draws, F_law_below, B_law_below, PySem.W.mg_of X G0 a_law_below, F_law_pick, B_law_pick, PySem.W.mg_of X G0 a_law_pick, F_law_table, B_law_table, PySem.W.mg_of X G0 a_law_table, F_law_level, B_law_level, PySem.W.mg_of X G0 a_law_level, F_law, B_law, PySem.W.mg_of X G0 a_law, ⟨pg_Track, hd_Track, po_Track, sa_Track⟩, PySem.W.mg_of X G0 gc_Track, ⟨mk_Track, a_Track___init__, i_Track___init__, kc_Track⟩, n_Track_at_level, n_Track_at_size, n_Track_done, n_Track_fixed, n_Track_most, n_Track_paid, n_Track_places, PySem.W.mg_none_of X G0 z_abs, PySem.W.mg_none_of X G0 z_all, PySem.W.mg_none_of X G0 z_bool, PySem.W.mg_none_of X G0 z_enumerate, PySem.W.mg_none_of X G0 z_int, PySem.W.mg_none_of X G0 z_isinstance, PySem.W.mg_none_of X G0 z_len, PySem.W.mg_none_of X G0 z_max, PySem.W.mg_none_of X G0 z_min, PySem.W.mg_none_of X G0 z_range, PySem.W.mg_none_of X G0 z_str, PySem.W.mg_none_of X G0 z_sum, PySem.W.mg_none_of X G0 z_tuple, PySem.W.mg_none_of X G0 z_zip, PySem.W.mg_of X G0 q_GROW, PySem.W.mg_of X G0 q_MOST_COUNT, PySem.W.mg_of X G0 q_MOST_PAIRS, PySem.W.mg_of X G0 q_PAIR, PySem.W.mg_of X G0 q_POP, PySem.W.mg_of X G0 q_PUSH, PySem.W.mg_of X G0 q_SHRINK⟩
  exact ⟨_, _, fun s v => .of_eq rfl, fun base _ _ => (lv T 12).o_law⟩
end G.K13
namespace G
open PySem
/-! ### runs: what must hold behind -/
def Rs.sat {α : Type} (r : Rs α) (Q : α → Hs → Prop) : Prop := match r with
  | .ok a m => Q a m
  | _ => False
theorem sat_ok {α : Type} {a : α} {m : Hs} {Q : α → Hs → Prop} : (Rs.ok a m).sat Q = Q a m := rfl
theorem sat_bad {α : Type} {Q : α → Hs → Prop} : (Rs.bad : Rs α).sat Q = False := rfl
theorem sat_bind {α β : Type} {r : Rs α} {f : α → Hs → Rs β} {Q : β → Hs → Prop} : (r.bind f).sat Q = r.sat fun a m => (f a m).sat Q := by
  cases r <;> rfl
theorem Rs.sat.imp {α : Type} {r : Rs α} {Q Q' : α → Hs → Prop} (h : r.sat Q) (k : ∀ a m, Q a m → Q' a m) : r.sat Q' := by
  cases r with
  | ok a m => exact k a m h
  | ex c fs m => exact h
  | bad => exact h
theorem sat_iff {α : Type} {r : Rs α} {Q : α → Hs → Prop} : r.sat Q ↔ ∃ a m, r = .ok a m ∧ Q a m := by
  cases r with
  | ok a m => exact ⟨fun h => ⟨a, m, rfl, h⟩, fun ⟨_, _, e, h⟩ => by cases e; exact h⟩
  | ex c fs m => exact ⟨fun h => h.elim, fun ⟨_, _, e, _⟩ => by cases e⟩
  | bad => exact ⟨fun h => h.elim, fun ⟨_, _, e, _⟩ => by cases e⟩
theorem sat_ite {α : Type} {c : Prop} [Decidable c] {r s : Rs α} {Q : α → Hs → Prop} : (if c then r else s).sat Q = if c then r.sat Q else s.sat Q := by
  split <;> rfl
/-! ### garbage -/
theorem gcL_self (n : Nat) : ∀ (m g : Hs), gcL n m (m ++ g) = true
  | [], _ => rfl
  | o :: os, g => by simp [gcL, beqO_rfl, gcL_self n os g]
theorem gcL_self' (n : Nat) (m : Hs) : gcL n m m = true := by
  have := gcL_self n m []
  rwa [List.append_nil] at this
theorem gcL_set (n : Nat) {o : O} (h : belowO n o = true) : ∀ (m g : Hs) (i : Nat), gcL n m (m.set i o ++ g) = true
  | [], _, _ => rfl
  | p :: ps, g, 0 => by simp [gcL, h, gcL_self n ps g]
  | p :: ps, g, i + 1 => by simp [gcL, beqO_rfl, gcL_set n h ps g i]
theorem gcR_pure {m g : Hs} {d : D} (h : below m.length d = true) : gcR m d (m ++ g) = .ok d m := by
  unfold gcR
  rw [h, gcL_self]
  simp
theorem gcR_same {m : Hs} {d : D} (h : below m.length d = true) : gcR m d m = .ok d m := by
  have := gcR_pure (g := []) h
  rwa [List.append_nil] at this
theorem gcR_set {m g : Hs} {d : D} {i : Nat} {o : O} (h : below m.length d = true) (ho : belowO m.length o = true) : gcR m d (m.set i o ++ g) = .ok d (m.set i o) := by
  unfold gcR
  rw [h, gcL_set _ ho]
  simp
theorem gcR_set' {m : Hs} {d : D} {i : Nat} {o : O} (h : below m.length d = true) (ho : belowO m.length o = true) : gcR m d (m.set i o) = .ok d (m.set i o) := by
  have := gcR_set (g := []) (i := i) h ho
  rwa [List.append_nil] at this
end G
namespace G
open PySem
/-! ### evaluation, outermost first -/
def oSat {α : Type} (o : Option α) (P : α → Prop) : Prop := match o with
  | some a => P a
  | none => False
theorem oSat_some {α : Type} {a : α} {P : α → Prop} : oSat (some a) P = P a := rfl
theorem oSat_none {α : Type} {P : α → Prop} : oSat (none : Option α) P = False := rfl
def vSat (o : Option (Option D)) (P : D → Prop) : Prop := match o with
  | some (some a) => P a
  | _ => False
theorem vSat_some {a : D} {P : D → Prop} : vSat (some (some a)) P = P a := rfl
/-- slots -/
theorem at_0 {α : Type} {a : α} {l : List α} : (a :: l)[0]? = some a := rfl
theorem at_s {α : Type} {a : α} {l : List α} {n : Nat} : (a :: l)[n + 1]? = l[n]? := rfl
section
variable {κ : Sig} {r : Rho} {m : Hs} {Q : D → Hs → Prop} {a b c : E} {i : Nat} {es : Es}
theorem w_v0 {d : D} {rs : Rho} : (evE κ (.var 0) (some d :: rs) m).sat Q = Q d m := by simp only [evE]; rfl
theorem w_v1 {x0 : Option D} {d : D} {rs : Rho} : (evE κ (.var 1) (x0 :: some d :: rs) m).sat Q = Q d m := by simp only [evE]; rfl
theorem w_v2 {x0 x1 : Option D} {d : D} {rs : Rho} : (evE κ (.var 2) (x0 :: x1 :: some d :: rs) m).sat Q = Q d m := by simp only [evE]; rfl
theorem w_v3 {x0 x1 x2 : Option D} {d : D} {rs : Rho} : (evE κ (.var 3) (x0 :: x1 :: x2 :: some d :: rs) m).sat Q = Q d m := by simp only [evE]; rfl
theorem w_v4 {x0 x1 x2 x3 : Option D} {d : D} {rs : Rho} : (evE κ (.var 4) (x0 :: x1 :: x2 :: x3 :: some d :: rs) m).sat Q = Q d m := by simp only [evE]; rfl
theorem w_v5 {x0 x1 x2 x3 x4 : Option D} {d : D} {rs : Rho} : (evE κ (.var 5) (x0 :: x1 :: x2 :: x3 :: x4 :: some d :: rs) m).sat Q = Q d m := by simp only [evE]; rfl
theorem w_v6 {x0 x1 x2 x3 x4 x5 : Option D} {d : D} {rs : Rho} : (evE κ (.var 6) (x0 :: x1 :: x2 :: x3 :: x4 :: x5 :: some d :: rs) m).sat Q = Q d m := by simp only [evE]; rfl
theorem w_v7 {x0 x1 x2 x3 x4 x5 x6 : Option D} {d : D} {rs : Rho} : (evE κ (.var 7) (x0 :: x1 :: x2 :: x3 :: x4 :: x5 :: x6 :: some d :: rs) m).sat Q = Q d m := by simp only [evE]; rfl
theorem w_v8 {x0 x1 x2 x3 x4 x5 x6 x7 : Option D} {d : D} {rs : Rho} : (evE κ (.var 8) (x0 :: x1 :: x2 :: x3 :: x4 :: x5 :: x6 :: x7 :: some d :: rs) m).sat Q = Q d m := by simp only [evE]; rfl
theorem w_v9 {x0 x1 x2 x3 x4 x5 x6 x7 x8 : Option D} {d : D} {rs : Rho} : (evE κ (.var 9) (x0 :: x1 :: x2 :: x3 :: x4 :: x5 :: x6 :: x7 :: x8 :: some d :: rs) m).sat Q = Q d m := by simp only [evE]; rfl
theorem w_v10 {x0 x1 x2 x3 x4 x5 x6 x7 x8 x9 : Option D} {d : D} {rs : Rho} : (evE κ (.var 10) (x0 :: x1 :: x2 :: x3 :: x4 :: x5 :: x6 :: x7 :: x8 :: x9 :: some d :: rs) m).sat Q = Q d m := by simp only [evE]; rfl
theorem w_v11 {x0 x1 x2 x3 x4 x5 x6 x7 x8 x9 x10 : Option D} {d : D} {rs : Rho} : (evE κ (.var 11) (x0 :: x1 :: x2 :: x3 :: x4 :: x5 :: x6 :: x7 :: x8 :: x9 :: x10 :: some d :: rs) m).sat Q = Q d m := by simp only [evE]; rfl
theorem w_v12 {x0 x1 x2 x3 x4 x5 x6 x7 x8 x9 x10 x11 : Option D} {d : D} {rs : Rho} : (evE κ (.var 12) (x0 :: x1 :: x2 :: x3 :: x4 :: x5 :: x6 :: x7 :: x8 :: x9 :: x10 :: x11 :: some d :: rs) m).sat Q = Q d m := by simp only [evE]; rfl
theorem w_v13 {x0 x1 x2 x3 x4 x5 x6 x7 x8 x9 x10 x11 x12 : Option D} {d : D} {rs : Rho} : (evE κ (.var 13) (x0 :: x1 :: x2 :: x3 :: x4 :: x5 :: x6 :: x7 :: x8 :: x9 :: x10 :: x11 :: x12 :: some d :: rs) m).sat Q = Q d m := by simp only [evE]; rfl
theorem w_v14 {x0 x1 x2 x3 x4 x5 x6 x7 x8 x9 x10 x11 x12 x13 : Option D} {d : D} {rs : Rho} : (evE κ (.var 14) (x0 :: x1 :: x2 :: x3 :: x4 :: x5 :: x6 :: x7 :: x8 :: x9 :: x10 :: x11 :: x12 :: x13 :: some d :: rs) m).sat Q = Q d m := by simp only [evE]; rfl
theorem w_v15 {x0 x1 x2 x3 x4 x5 x6 x7 x8 x9 x10 x11 x12 x13 x14 : Option D} {d : D} {rs : Rho} : (evE κ (.var 15) (x0 :: x1 :: x2 :: x3 :: x4 :: x5 :: x6 :: x7 :: x8 :: x9 :: x10 :: x11 :: x12 :: x13 :: x14 :: some d :: rs) m).sat Q = Q d m := by simp only [evE]; rfl
theorem w_v16 {x0 x1 x2 x3 x4 x5 x6 x7 x8 x9 x10 x11 x12 x13 x14 x15 : Option D} {d : D} {rs : Rho} : (evE κ (.var 16) (x0 :: x1 :: x2 :: x3 :: x4 :: x5 :: x6 :: x7 :: x8 :: x9 :: x10 :: x11 :: x12 :: x13 :: x14 :: x15 :: some d :: rs) m).sat Q = Q d m := by simp only [evE]; rfl
theorem w_v17 {x0 x1 x2 x3 x4 x5 x6 x7 x8 x9 x10 x11 x12 x13 x14 x15 x16 : Option D} {d : D} {rs : Rho} : (evE κ (.var 17) (x0 :: x1 :: x2 :: x3 :: x4 :: x5 :: x6 :: x7 :: x8 :: x9 :: x10 :: x11 :: x12 :: x13 :: x14 :: x15 :: x16 :: some d :: rs) m).sat Q = Q d m := by simp only [evE]; rfl
theorem w_v18 {x0 x1 x2 x3 x4 x5 x6 x7 x8 x9 x10 x11 x12 x13 x14 x15 x16 x17 : Option D} {d : D} {rs : Rho} : (evE κ (.var 18) (x0 :: x1 :: x2 :: x3 :: x4 :: x5 :: x6 :: x7 :: x8 :: x9 :: x10 :: x11 :: x12 :: x13 :: x14 :: x15 :: x16 :: x17 :: some d :: rs) m).sat Q = Q d m := by simp only [evE]; rfl
theorem w_v19 {x0 x1 x2 x3 x4 x5 x6 x7 x8 x9 x10 x11 x12 x13 x14 x15 x16 x17 x18 : Option D} {d : D} {rs : Rho} : (evE κ (.var 19) (x0 :: x1 :: x2 :: x3 :: x4 :: x5 :: x6 :: x7 :: x8 :: x9 :: x10 :: x11 :: x12 :: x13 :: x14 :: x15 :: x16 :: x17 :: x18 :: some d :: rs) m).sat Q = Q d m := by simp only [evE]; rfl
theorem w_v20 {x0 x1 x2 x3 x4 x5 x6 x7 x8 x9 x10 x11 x12 x13 x14 x15 x16 x17 x18 x19 : Option D} {d : D} {rs : Rho} : (evE κ (.var 20) (x0 :: x1 :: x2 :: x3 :: x4 :: x5 :: x6 :: x7 :: x8 :: x9 :: x10 :: x11 :: x12 :: x13 :: x14 :: x15 :: x16 :: x17 :: x18 :: x19 :: some d :: rs) m).sat Q = Q d m := by simp only [evE]; rfl
theorem w_v21 {x0 x1 x2 x3 x4 x5 x6 x7 x8 x9 x10 x11 x12 x13 x14 x15 x16 x17 x18 x19 x20 : Option D} {d : D} {rs : Rho} : (evE κ (.var 21) (x0 :: x1 :: x2 :: x3 :: x4 :: x5 :: x6 :: x7 :: x8 :: x9 :: x10 :: x11 :: x12 :: x13 :: x14 :: x15 :: x16 :: x17 :: x18 :: x19 :: x20 :: some d :: rs) m).sat Q = Q d m := by simp only [evE]; rfl
theorem w_v22 {x0 x1 x2 x3 x4 x5 x6 x7 x8 x9 x10 x11 x12 x13 x14 x15 x16 x17 x18 x19 x20 x21 : Option D} {d : D} {rs : Rho} : (evE κ (.var 22) (x0 :: x1 :: x2 :: x3 :: x4 :: x5 :: x6 :: x7 :: x8 :: x9 :: x10 :: x11 :: x12 :: x13 :: x14 :: x15 :: x16 :: x17 :: x18 :: x19 :: x20 :: x21 :: some d :: rs) m).sat Q = Q d m := by simp only [evE]; rfl
theorem w_v23 {x0 x1 x2 x3 x4 x5 x6 x7 x8 x9 x10 x11 x12 x13 x14 x15 x16 x17 x18 x19 x20 x21 x22 : Option D} {d : D} {rs : Rho} : (evE κ (.var 23) (x0 :: x1 :: x2 :: x3 :: x4 :: x5 :: x6 :: x7 :: x8 :: x9 :: x10 :: x11 :: x12 :: x13 :: x14 :: x15 :: x16 :: x17 :: x18 :: x19 :: x20 :: x21 :: x22 :: some d :: rs) m).sat Q = Q d m := by simp only [evE]; rfl
theorem w_v24 {x0 x1 x2 x3 x4 x5 x6 x7 x8 x9 x10 x11 x12 x13 x14 x15 x16 x17 x18 x19 x20 x21 x22 x23 : Option D} {d : D} {rs : Rho} : (evE κ (.var 24) (x0 :: x1 :: x2 :: x3 :: x4 :: x5 :: x6 :: x7 :: x8 :: x9 :: x10 :: x11 :: x12 :: x13 :: x14 :: x15 :: x16 :: x17 :: x18 :: x19 :: x20 :: x21 :: x22 :: x23 :: some d :: rs) m).sat Q = Q d m := by simp only [evE]; rfl
theorem w_v25 {x0 x1 x2 x3 x4 x5 x6 x7 x8 x9 x10 x11 x12 x13 x14 x15 x16 x17 x18 x19 x20 x21 x22 x23 x24 : Option D} {d : D} {rs : Rho} : (evE κ (.var 25) (x0 :: x1 :: x2 :: x3 :: x4 :: x5 :: x6 :: x7 :: x8 :: x9 :: x10 :: x11 :: x12 :: x13 :: x14 :: x15 :: x16 :: x17 :: x18 :: x19 :: x20 :: x21 :: x22 :: x23 :: x24 :: some d :: rs) m).sat Q = Q d m := by simp only [evE]; rfl
theorem w_cst {d : D} : (evE κ (.cst d) r m).sat Q = Q d m := by simp only [evE, sat_ok]
theorem w_bin {o : Op} : (evE κ (.bin o a b) r m).sat Q = (evE κ a r m).sat fun x m1 => (evE κ b r m1).sat fun y m2 => (binS o x y m2).sat Q := by
  simp only [evE, sat_bind]
theorem w_cmp {o : Cp} : (evE κ (.cmp o a b) r m).sat Q = (evE κ a r m).sat fun x m1 => (evE κ b r m1).sat fun y m2 => (cmpS o x y m2).sat Q := by
  simp only [evE, sat_bind]
def negS (x : D) (Q : D → Prop) : Prop := match x with
  | .int i => Q (.int (-i))
  | _ => False
theorem negS_int {j : Int} {P : D → Prop} : negS (.int j) P = P (.int (-j)) := rfl
theorem w_neg : (evE κ (.neg a) r m).sat Q = (evE κ a r m).sat fun x m1 => negS x fun y => Q y m1 := by
  simp only [evE, sat_bind]
  congr 1
  funext x m1
  cases x <;> rfl
theorem w_not : (evE κ (.not a) r m).sat Q = (evE κ a r m).sat fun x m1 => oSat (truth x m1) fun b => Q (.bl (!b)) m1 := by
  simp only [evE, sat_bind]
  congr 1
  funext x m1
  cases truth x m1 <;> rfl
theorem w_and : (evE κ (.and a b) r m).sat Q = (evE κ a r m).sat fun x m1 => oSat (truth x m1) fun k => if k = true then (evE κ b r m1).sat Q else Q x m1 := by
  simp only [evE, sat_bind]
  congr 1
  funext x m1
  cases truth x m1 with
  | none => rfl
  | some k => cases k <;> simp [oSat, sat_ok]
theorem w_or : (evE κ (.or a b) r m).sat Q = (evE κ a r m).sat fun x m1 => oSat (truth x m1) fun k => if k = true then Q x m1 else (evE κ b r m1).sat Q := by
  simp only [evE, sat_bind]
  congr 1
  funext x m1
  cases truth x m1 with
  | none => rfl
  | some k => cases k <;> simp [oSat, sat_ok]
theorem w_ite : (evE κ (.ite c a b) r m).sat Q = (evE κ c r m).sat fun x m1 => oSat (truth x m1) fun k => if k = true then (evE κ a r m1).sat Q else (evE κ b r m1).sat Q := by
  simp only [evE, sat_bind]
  congr 1
  funext x m1
  cases truth x m1 with
  | none => rfl
  | some k => cases k <;> simp [oSat]
def chnS (z : D) (P : Prop) (R : Prop) : Prop := match z with
  | .bl true => P
  | .bl false => R
  | _ => False
theorem chnS_bl {k : Bool} {P R : Prop} : chnS (.bl k) P R = if k = true then P else R := by cases k <;> simp [chnS]
theorem w_chn {o p : Cp} : (evE κ (.chn o p a b c) r m).sat Q = (evE κ a r m).sat fun x m1 => (evE κ b r m1).sat fun y m2 => (cmpS o x y m2).sat fun z m3 => chnS z ((evE κ c r m3).sat fun w m4 => (cmpS p y w m4).sat Q) (Q (.bl false) m3) := by
  simp only [evE, sat_bind]
  congr 1
  funext x m1
  congr 1
  funext y m2
  congr 1
  funext z m3
  cases z with
  | bl k => cases k <;> simp [chnS, sat_bind, sat_ok]
  | _ => rfl
theorem w_tup : (evE κ (.tup es) r m).sat Q = (evEs κ es r m).sat fun xs m1 => xs.length ≤ sizeLine ∧ Q (.tup xs) m1 := by
  simp only [evE, sat_bind]
  congr 1
  funext xs m1
  split
  · simp [sat_ok, *]
  · simp [sat_bad, *]
theorem w_lst : (evE κ (.lst es) r m).sat Q = (evEs κ es r m).sat fun xs m1 => xs.length ≤ sizeLine ∧ Q (.ref m1.length) (m1 ++ [.lst xs]) := by
  simp only [evE, sat_bind]
  congr 1
  funext xs m1
  split
  · simp [sat_ok, *]
  · simp [sat_bad, *]
theorem w_idx : (evE κ (.idx a b) r m).sat Q = (evE κ a r m).sat fun x m1 => (evE κ b r m1).sat fun y m2 => (idxS x y m2).sat Q := by
  simp only [evE, sat_bind]
theorem w_slc {l u : Es} : (evE κ (.slc a l u) r m).sat Q = (evE κ a r m).sat fun x m1 => (evEs κ l r m1).sat fun p m2 => (partOf p m2).sat fun lo m3 => (evEs κ u r m3).sat fun q m4 => (partOf q m4).sat fun hi m5 => (slcS x lo hi m5).sat Q := by
  simp only [evE, sat_bind]
theorem w_call {f : Nat} {cl : Call} {ks : Nat → Option Cl} : (evE ⟨cl, ks⟩ (.call f es) r m).sat Q = (evEs ⟨cl, ks⟩ es r m).sat fun xs m1 => (cl f xs m1).sat Q := by
  simp only [evE, sat_bind]
theorem w_bi {f : Bi} : (evE κ (.bi f es) r m).sat Q = (evEs κ es r m).sat fun xs m1 => (biS f xs m1).sat Q := by
  simp only [evE, sat_bind]
def insS (x : D) (m : Hs) (P : Nat → Nat → List (Str × D) → Prop) : Prop := match x with
  | .ref n => match m[n]? with
    | some (.ins c fs) => P n c fs
    | _ => False
  | _ => False
theorem insS_ref {n : Nat} {P : Nat → Nat → List (Str × D) → Prop} {cc : Nat} {fs : List (Str × D)} (h : m[n]? = some (.ins cc fs)) : insS (.ref n) m P = P n cc fs := by
  simp only [insS, h]
theorem w_fld {f : Str} : (evE κ (.fld a f) r m).sat Q = (evE κ a r m).sat fun x m1 => insS x m1 fun n cc fs => oSat (fs.lookup f) fun v => ((κ.cls cc).map fun k => k.attrs.contains f) = some true ∧ Q v m1 := by
  simp only [evE, sat_bind]
  congr 1
  funext x m1
  cases x with
  | ref n =>
    simp only [insS]
    cases m1[n]? with
    | none => rfl
    | some o =>
      cases o with
      | lst _ => rfl
      | ins cc fs =>
        simp only
        cases fs.lookup f with
        | none => rfl
        | some v =>
          simp only [oSat]
          cases ((κ.cls cc).map fun k => k.attrs.contains f) with
          | none => simp [sat_bad]
          | some k => cases k <;> simp [sat_bad, sat_ok]
  | _ => rfl
theorem w_meth {f : Str} : (evE κ (.meth a f es) r m).sat Q = (evE κ a r m).sat fun x m1 => insS x m1 fun n cc fs => fs.lookup f = none ∧ oSat ((κ.cls cc).bind fun k => k.meths.lookup f) fun g => (evEs κ es r m1).sat fun xs m2 => (κ.call g (.ref n :: xs) m2).sat Q := by
  simp only [evE, sat_bind]
  congr 1
  funext x m1
  cases x with
  | ref n =>
    simp only [insS]
    cases m1[n]? with
    | none => rfl
    | some o =>
      cases o with
      | lst _ => rfl
      | ins cc fs =>
        simp only
        cases fs.lookup f with
        | some v => simp [sat_bad]
        | none =>
          simp only [true_and]
          cases ((κ.cls cc).bind fun k => k.meths.lookup f) with
          | none => rfl
          | some g => simp only [oSat, sat_bind]
  | _ => rfl
def nonS (x : D) (P : Prop) : Prop := match x with
  | .non => P
  | _ => False
theorem nonS_non {P : Prop} : nonS .non P = P := rfl
theorem w_make {cc : Nat} : (evE κ (.make cc es) r m).sat Q = (evEs κ es r m).sat fun xs m1 => oSat (κ.cls cc) fun k => (κ.call k.init (.ref m1.length :: xs) (m1 ++ [.ins cc []])).sat fun z m2 => nonS z (Q (.ref m1.length) m2) := by
  simp only [evE, sat_bind]
  congr 1
  funext xs m1
  cases κ.cls cc with
  | none => rfl
  | some k =>
    simp only [oSat, sat_bind]
    congr 1
    funext z m2
    cases z <;> rfl
theorem ws_nil {Q : List D → Hs → Prop} : (evEs κ .nil r m).sat Q = Q [] m := by simp only [evEs, sat_ok]
theorem ws_cons {Q : List D → Hs → Prop} : (evEs κ (.cons a es) r m).sat Q = (evE κ a r m).sat fun x m1 => (evEs κ es r m1).sat fun xs m2 => Q (x :: xs) m2 := by
  simp only [evEs, sat_bind, sat_ok]
/-! ### operators on known kinds -/
theorem b_add {x y : Int} : (binS .add (.int x) (.int y) m).sat Q = Q (.int (x + y)) m := rfl
theorem b_sub {x y : Int} : (binS .sub (.int x) (.int y) m).sat Q = Q (.int (x - y)) m := rfl
theorem b_mul {x y : Int} : (binS .mul (.int x) (.int y) m).sat Q = (x.natAbs.log2 + y.natAbs.log2 < 1000000 ∧ Q (.int (x * y)) m) := by
  simp only [binS, sat_ite, sat_ok, sat_bad]
  split <;> simp [*]
theorem b_fdiv {x y : Int} : (binS .fdiv (.int x) (.int y) m).sat Q = ((0 < y ∧ y.natAbs.log2 < 9000) ∧ Q (.int (x / y)) m) := by
  simp only [binS, sat_ite, sat_ok, sat_bad]
  split <;> simp [*]
theorem b_mod {x y : Int} : (binS .mod (.int x) (.int y) m).sat Q = (0 < y ∧ Q (.int (x % y)) m) := by
  simp only [binS, sat_ite, sat_ok, sat_bad]
  split <;> simp [*]
theorem b_pow {x y : Int} : (binS .pow (.int x) (.int y) m).sat Q = ((0 ≤ y ∧ (x.natAbs.log2 + 1) * y.toNat ≤ 134217728) ∧ Q (.int (x ^ y.toNat)) m) := by
  simp only [binS, sat_ite, sat_ok, sat_bad]
  split <;> simp [*]
theorem b_shl {x y : Int} : (binS .shl (.int x) (.int y) m).sat Q = ((0 ≤ y ∧ y ≤ 1000000 ∧ x.natAbs < 18446744073709551616) ∧ Q (.int (x * 2 ^ y.toNat)) m) := by
  simp only [binS, sat_ite, sat_ok, sat_bad]
  split <;> simp [*]
theorem b_addT {x y : List D} : (binS .add (.tup x) (.tup y) m).sat Q = (x.length + y.length ≤ sizeLine ∧ Q (.tup (x ++ y)) m) := by
  simp only [binS, sat_ite, sat_ok, sat_bad]
  split <;> simp [*]
theorem k_lt {x y : Int} : (cmpS .lt (.int x) (.int y) m).sat Q = Q (.bl (decide (x < y))) m := rfl
theorem k_le {x y : Int} : (cmpS .le (.int x) (.int y) m).sat Q = Q (.bl (decide (x ≤ y))) m := rfl
theorem k_gt {x y : Int} : (cmpS .gt (.int x) (.int y) m).sat Q = Q (.bl (decide (y < x))) m := rfl
theorem k_ge {x y : Int} : (cmpS .ge (.int x) (.int y) m).sat Q = Q (.bl (decide (y ≤ x))) m := rfl
theorem k_eqI {x y : Int} : (cmpS .eq (.int x) (.int y) m).sat Q = Q (.bl (x == y)) m := rfl
theorem k_neI {x y : Int} : (cmpS .ne (.int x) (.int y) m).sat Q = Q (.bl (!(x == y))) m := rfl
theorem k_eqStr {x y : Str} : (cmpS .eq (.str x) (.str y) m).sat Q = Q (.bl (decide (x = y))) m := rfl
theorem k_neStr {x y : Str} : (cmpS .ne (.str x) (.str y) m).sat Q = Q (.bl (!decide (x = y))) m := rfl
theorem k_eq {x y : D} : (cmpS .eq x y m).sat Q = oSat (eqS x y m) fun b => Q (.bl b) m := by
  simp only [cmpS]
  cases eqS x y m <;> rfl
theorem k_ne {x y : D} : (cmpS .ne x y m).sat Q = oSat (eqS x y m) fun b => Q (.bl (!b)) m := by
  simp only [cmpS]
  cases eqS x y m <;> rfl
def isN : D → Bool
  | .non => true
  | _ => false
theorem isN_non : isN .non = true := rfl
theorem isN_int {j : Int} : isN (.int j) = false := rfl
theorem isN_tup {j : List D} : isN (.tup j) = false := rfl
theorem isN_ref {j : Nat} : isN (.ref j) = false := rfl
theorem isN_bl {j : Bool} : isN (.bl j) = false := rfl
theorem isN_str {j : Str} : isN (.str j) = false := rfl
theorem k_is {x : D} : (cmpS .is x .non m).sat Q = Q (.bl (isN x)) m := by cases x <;> rfl
theorem k_isnot {x : D} : (cmpS .isnot x .non m).sat Q = Q (.bl (!isN x)) m := by cases x <;> rfl
theorem k_in {x y : D} : (cmpS .isin x y m).sat Q = oSat (inS x y m) fun b => Q (.bl b) m := by
  simp only [cmpS]
  cases inS x y m <;> rfl
theorem k_notin {x y : D} : (cmpS .notin x y m).sat Q = oSat (inS x y m) fun b => Q (.bl (!b)) m := by
  simp only [cmpS]
  cases inS x y m <;> rfl
theorem t_bl {k : Bool} : truth (.bl k) m = some k := rfl
theorem t_non : truth .non m = some false := rfl
theorem t_int {j : Int} : truth (.int j) m = some (j != 0) := rfl
theorem t_tup {j : List D} : truth (.tup j) m = some (!j.isEmpty) := rfl
theorem ix_tup {xs : List D} {j : Int} : (idxS (.tup xs) (.int j) m).sat Q = oSat ((ixD xs.length j).bind fun n => xs[n]?) fun v => Q v m := by
  simp only [idxS, itemsOf]
  cases ((ixD xs.length j).bind fun n => xs[n]?) <;> rfl
theorem ix_fl {xs : List D} {j : Int} : (idxS (.fl xs) (.int j) m).sat Q = oSat ((ixD xs.length j).bind fun n => xs[n]?) fun v => Q v m := by
  simp only [idxS, itemsOf]
  cases ((ixD xs.length j).bind fun n => xs[n]?) <;> rfl
theorem ix_ref {n : Nat} {xs : List D} {j : Int} (h : m[n]? = some (.lst xs)) : (idxS (.ref n) (.int j) m).sat Q = oSat ((ixD xs.length j).bind fun n => xs[n]?) fun v => Q v m := by
  simp only [idxS, itemsOf, h]
  cases ((ixD xs.length j).bind fun n => xs[n]?) <;> rfl
theorem sl_tup {xs : List D} {lo hi : Option Int} : (slcS (.tup xs) lo hi m).sat Q = Q (.tup (cutD xs lo hi)) m := rfl
theorem sl_ref {n : Nat} {xs : List D} {lo hi : Option Int} (h : m[n]? = some (.lst xs)) : (slcS (.ref n) lo hi m).sat Q = Q (.ref m.length) (m ++ [.lst (cutD xs lo hi)]) := by
  simp only [slcS, h, sat_ok]
theorem po_nil {Q : Option Int → Hs → Prop} : (partOf [] m).sat Q = Q none m := rfl
theorem po_int {Q : Option Int → Hs → Prop} {j : Int} : (partOf [.int j] m).sat Q = Q (some j) m := rfl
theorem f_lenT {xs : List D} : (biS .len [.tup xs] m).sat Q = Q (.int xs.length) m := rfl
theorem f_lenF {xs : List D} : (biS .len [.fl xs] m).sat Q = Q (.int xs.length) m := rfl
theorem f_lenR {n : Nat} {xs : List D} (h : m[n]? = some (.lst xs)) : (biS .len [.ref n] m).sat Q = Q (.int xs.length) m := by
  simp only [biS, itemsOf, h, sat_ok]
theorem f_abs {j : Int} : (biS .abs [.int j] m).sat Q = Q (.int (if j < 0 then -j else j)) m := rfl
theorem f_min {x y : Int} : (biS .min2 [.int x, .int y] m).sat Q = Q (.int (if y < x then y else x)) m := rfl
theorem f_max {x y : Int} : (biS .max2 [.int x, .int y] m).sat Q = Q (.int (if y > x then y else x)) m := rfl
theorem f_intB {k : Bool} : (biS .int [.bl k] m).sat Q = Q (.int (if k then 1 else 0)) m := rfl
theorem f_tupR {n : Nat} {xs : List D} (h : m[n]? = some (.lst xs)) : (biS .tuple [.ref n] m).sat Q = Q (.tup xs) m := by
  simp only [biS, h, sat_ok]
theorem f_sumR {n : Nat} {xs : List D} (h : m[n]? = some (.lst xs)) : (biS .sum [.ref n] m).sat Q = oSat (sumI xs) fun s => Q (.int s) m := by
  simp only [biS, h]
  cases sumI xs <;> rfl
theorem f_allR {n : Nat} {xs : List D} (h : m[n]? = some (.lst xs)) : (biS .all [.ref n] m).sat Q = oSat (boolsOf xs) fun s => Q (.bl (s.all id)) m := by
  simp only [biS, h]
  cases boolsOf xs <;> rfl
theorem f_isi {t : Ty} {x : D} : (biS (.isi t) [x] m).sat Q = oSat (tyD x m) fun u => Q (.bl (decide (u = t) || (decide (u = .bl) && decide (t = .int)))) m := by
  simp only [biS]
  cases tyD x m <;> rfl
def placeS (n : Nat) : D → Option Nat
  | .int k => ixD n k
  | _ => none
theorem place_int {n : Nat} {j : Int} : placeS n (.int j) = ixD n j := rfl
end
/-! ### statements -/
section
variable {κ : Sig} {r : Rho} {m : Hs} {Q : Out → Hs → Prop} {a b c : E} {i : Nat} {es : Es} {t u ss : Ss} {s : S}
def seqS (κ : Sig) (ss : Ss) (Q : Out → Hs → Prop) (o : Out) (m : Hs) : Prop := match o with
  | .nx r => (evSs κ ss r m).sat Q
  | o => Q o m
theorem seq_nx : seqS κ ss Q (.nx r) m = (evSs κ ss r m).sat Q := rfl
theorem seq_rt {d : D} : seqS κ ss Q (.rt d) m = Q (.rt d) m := rfl
theorem seq_bk : seqS κ ss Q (.bk r) m = Q (.bk r) m := rfl
theorem seq_ct : seqS κ ss Q (.ct r) m = Q (.ct r) m := rfl
theorem v_nil : (evSs κ .nil r m).sat Q = Q (.nx r) m := by simp only [evSs, sat_ok]
theorem v_cons : (evSs κ (.cons s ss) r m).sat Q = (evS κ s r m).sat (seqS κ ss Q) := by
  simp only [evSs, sat_bind]
  congr 1
  funext o m1
  cases o <;> rfl
theorem v_pass : (evS κ .pass r m).sat Q = Q (.nx r) m := by simp only [evS, sat_ok]
theorem v_exp : (evS κ (.exp a) r m).sat Q = (evE κ a r m).sat fun _ m1 => Q (.nx r) m1 := by simp only [evS, sat_bind, sat_ok]
theorem v_ret : (evS κ (.ret a) r m).sat Q = (evE κ a r m).sat fun x m1 => Q (.rt x) m1 := by simp only [evS, sat_bind, sat_ok]
theorem v_retN : (evS κ .retN r m).sat Q = Q (.rt .non) m := by simp only [evS, sat_ok]
theorem v_brk : (evS κ .brk r m).sat Q = Q (.bk r) m := by simp only [evS, sat_ok]
theorem v_cnt : (evS κ .cnt r m).sat Q = Q (.ct r) m := by simp only [evS, sat_ok]
theorem v_ife : (evS κ (.ife c t u) r m).sat Q = (evE κ c r m).sat fun x m1 => oSat (truth x m1) fun k => if k = true then (evSs κ t r m1).sat Q else (evSs κ u r m1).sat Q := by
  simp only [evS, sat_bind]
  congr 1
  funext x m1
  cases truth x m1 with
  | none => rfl
  | some k => cases k <;> simp [oSat]
def setN (r : Rho) (i : Nat) (d : D) : Rho := r.set i (some d)
theorem v_asg {tg : Tg} : (evS κ (.asg tg a) r m).sat Q = (evE κ a r m).sat fun x m1 => (tgS κ tg x r m1).sat fun r1 m2 => Q (.nx r1) m2 := by simp only [evS, sat_bind, sat_ok]
theorem v_asg2 {tg tu : Tg} : (evS κ (.asg2 tg tu a) r m).sat Q = (evE κ a r m).sat fun x m1 => (tgS κ tg x r m1).sat fun r1 m2 => (tgS κ tu x r1 m2).sat fun r2 m3 => Q (.nx r2) m3 := by simp only [evS, sat_bind, sat_ok]
/-- the way on behind a change of slots -/
def nxS (Q : Out → Hs → Prop) (r : Rho) (m : Hs) : Prop := Q (.nx r) m
theorem v_par {j : Nat} : (evS κ (.par i j a b) r m).sat Q = (evE κ a r m).sat fun x m1 => (evE κ b r m1).sat fun y m2 => (tgS κ (.nm i) x r m2).sat fun r1 m3 => (tgS κ (.nm j) y r1 m3).sat fun r2 m4 => Q (.nx r2) m4 := by simp only [evS, sat_bind, sat_ok, tgS]
theorem v_par3 {j l : Nat} : (evS κ (.par3 i j l a b c) r m).sat Q = (evE κ a r m).sat fun x m1 => (evE κ b r m1).sat fun y m2 => (evE κ c r m2).sat fun z m3 => (tgS κ (.nm i) x r m3).sat fun r1 m4 => (tgS κ (.nm j) y r1 m4).sat fun r2 m5 => (tgS κ (.nm l) z r2 m5).sat fun r3 m6 => Q (.nx r3) m6 := by simp only [evS, sat_bind, sat_ok, tgS]
theorem v_ifw {o : Cp} : (evS κ (.ifw i a o b t u) r m).sat Q = (evE κ a r m).sat fun x m1 => (tgS κ (.nm i) x r m1).sat fun r1 m2 => (evE κ b r1 m2).sat fun y m3 => (cmpS o x y m3).sat fun z m4 => chnS z ((evSs κ t r1 m4).sat Q) ((evSs κ u r1 m4).sat Q) := by
  simp only [evS, sat_bind, sat_ok, tgS]
  congr 1
  funext x m1
  congr 1
  funext y m2
  congr 1
  funext z m3
  cases z with
  | bl k => cases k <;> rfl
  | _ => rfl
/-- a list at a handle -/
def lstS (x : D) (m : Hs) (P : Nat → List D → Prop) : Prop := match x with
  | .ref n => match m[n]? with
    | some (.lst xs) => P n xs
    | _ => False
  | _ => False
theorem lstS_ref {n : Nat} {P : Nat → List D → Prop} {xs : List D} (h : m[n]? = some (.lst xs)) : lstS (.ref n) m P = P n xs := by
  simp only [lstS, h]
theorem lstS_app {P : Nat → List D → Prop} {xs : List D} : lstS (.ref m.length) (m ++ [.lst xs]) P = P m.length xs := by
  simp [lstS]
theorem lstS_set {n : Nat} {P : Nat → List D → Prop} {xs : List D} (h : n < m.length) : lstS (.ref n) (m.set n (.lst xs)) P = P n xs := by
  simp [lstS, h]
theorem insS_app {P : Nat → Nat → List (Str × D) → Prop} {cc : Nat} {fs : List (Str × D)} : insS (.ref m.length) (m ++ [.ins cc fs]) P = P m.length cc fs := by
  simp [insS]
theorem insS_set {n : Nat} {P : Nat → Nat → List (Str × D) → Prop} {cc : Nat} {fs : List (Str × D)} (h : n < m.length) : insS (.ref n) (m.set n (.ins cc fs)) P = P n cc fs := by
  simp [insS, h]
theorem v_app : (evS κ (.app a b) r m).sat Q = (evE κ a r m).sat fun x m1 => lstS x m1 fun n _ => (evE κ b r m1).sat fun y m2 => lstS (.ref n) m2 fun _ xs => xs.length < sizeLine ∧ Q (.nx r) (m2.set n (.lst (xs ++ [y]))) := by
  simp only [evS, sat_bind]
  congr 1
  funext x m1
  cases x with
  | ref n =>
    simp only [lstS]
    cases m1[n]? with
    | none => rfl
    | some o =>
      cases o with
      | ins _ _ => rfl
      | lst ys =>
        simp only [sat_bind]
        congr 1
        funext y m2
        cases m2[n]? with
        | none => rfl
        | some o =>
          cases o with
          | ins _ _ => rfl
          | lst ys =>
            simp only [sat_ite, sat_ok, sat_bad]
            split <;> simp [*]
  | _ => rfl
theorem v_ext : (evS κ (.ext a b) r m).sat Q = (evE κ a r m).sat fun x m1 => lstS x m1 fun n _ => (evE κ b r m1).sat fun y m2 => lstS (.ref n) m2 fun _ xs => lstS y m2 fun _ ys => xs.length + ys.length ≤ sizeLine ∧ Q (.nx r) (m2.set n (.lst (xs ++ ys))) := by
  simp only [evS, sat_bind]
  congr 1
  funext x m1
  cases x with
  | ref n =>
    simp only [lstS]
    cases m1[n]? with
    | none => rfl
    | some o =>
      cases o with
      | ins _ _ => rfl
      | lst ys =>
        simp only [sat_bind]
        congr 1
        funext y m2
        cases m2[n]? with
        | none => rfl
        | some o =>
          cases o with
          | ins _ _ => rfl
          | lst ys =>
            cases y with
            | ref k =>
              simp only
              cases m2[k]? with
              | none => rfl
              | some o =>
                cases o with
                | ins _ _ => rfl
                | lst zs =>
                  simp only [sat_ite, sat_ok, sat_bad]
                  split <;> simp [*]
            | _ => rfl
  | _ => rfl
theorem tq_fld {f : Str} {d : D} {Q : Rho → Hs → Prop} : (tgS κ (.fld a f) d r m).sat Q = (evE κ a r m).sat fun x m1 => insS x m1 fun n cc fs => (fs.length < 900 ∧ ((κ.cls cc).map fun k => k.attrs.contains f) = some true) ∧ Q r (m1.set n (.ins cc (putD f d fs))) := by
  simp only [tgS, sat_bind]
  congr 1
  funext x m1
  cases x with
  | ref n =>
    simp only [insS]
    cases m1[n]? with
    | none => rfl
    | some o =>
      cases o with
      | lst _ => rfl
      | ins cc fs =>
        simp only [sat_ite, sat_ok, sat_bad]
        split
        · rename_i hh
          simp only [hh, and_self, true_and]
        · rename_i hh
          simp only [hh, false_and]
  | _ => rfl
theorem tq_sub {d : D} {Q : Rho → Hs → Prop} : (tgS κ (.sub a b) d r m).sat Q = (evE κ a r m).sat fun x m1 => (evE κ b r m1).sat fun y m2 => lstS x m2 fun n xs => oSat (placeS xs.length y) fun j => Q r (m2.set n (.lst (xs.set j d))) := by
  simp only [tgS, sat_bind]
  congr 1
  funext x m1
  congr 1
  funext y m2
  cases x with
  | ref n =>
    cases y with
    | int k =>
      simp only [lstS]
      cases m2[n]? with
      | none => rfl
      | some o =>
        cases o with
        | ins _ _ => rfl
        | lst xs =>
          simp only [placeS]
          cases ixD xs.length k <;> rfl
    | _ =>
      simp only [lstS, placeS, oSat, sat_bad]
      cases m2[n]? with
      | none => rfl
      | some o => cases o <;> rfl
  | _ => rfl
def tupS (x : D) (P : List D → Prop) : Prop := match x with
  | .tup xs => P xs
  | _ => False
theorem tupS_tup {xs : List D} {P : List D → Prop} : tupS (.tup xs) P = P xs := rfl
theorem tq_tp {ts : Tgs} {d : D} {Q : Rho → Hs → Prop} : (tgS κ (.tp ts) d r m).sat Q = tupS d fun xs => xs.length = lenTs ts ∧ (tgsS κ ts xs r m).sat Q := by
  cases d with
  | tup xs =>
    simp only [tgS, tupS, sat_ite, sat_bad]
    split <;> simp [*]
  | _ => simp only [tgS, tupS, sat_bad]
theorem tqs_nil {Q : Rho → Hs → Prop} : (tgsS κ .nil [] r m).sat Q = Q r m := by simp only [tgsS, sat_ok]
theorem tqs_cons {tg : Tg} {ts : Tgs} {x : D} {xs : List D} {Q : Rho → Hs → Prop} : (tgsS κ (.cons tg ts) (x :: xs) r m).sat Q = (tgS κ tg x r m).sat fun r1 m1 => (tgsS κ ts xs r1 m1).sat Q := by simp only [tgsS, sat_bind]
theorem v_augF {f : Str} {o : Op} : (evS κ (.augF a f o b) r m).sat Q = (evE κ a r m).sat fun x m1 => insS x m1 fun n cc fs => oSat (fs.lookup f) fun v => ((κ.cls cc).map fun k => k.attrs.contains f) = some true ∧ (evE κ b r m1).sat fun y m2 => (augS o v y m2).sat fun z m3 => insS (.ref n) m3 fun _ c2 fs2 => (c2 = cc ∧ fs2.length < 900) ∧ Q (.nx r) (m3.set n (.ins cc (putD f z fs2))) := by
  simp only [evS, sat_bind]
  congr 1
  funext x m1
  cases x with
  | ref n =>
    simp only [insS]
    cases m1[n]? with
    | none => rfl
    | some o =>
      cases o with
      | lst _ => rfl
      | ins cc fs =>
        simp only
        cases fs.lookup f with
        | none => rfl
        | some v =>
          simp only [oSat, sat_ite, sat_bad]
          split
          · rename_i hh
            simp only [hh, true_and, sat_bind]
            congr 1
            funext y m2
            congr 1
            funext z m3
            cases m3[n]? with
            | none => rfl
            | some o =>
              cases o with
              | lst _ => rfl
              | ins c2 fs2 =>
                simp only [sat_ite, sat_ok, sat_bad]
                split
                · rename_i h2
                  simp only [h2, and_self, true_and]
                · rename_i h2
                  simp only [h2, false_and]
          · rename_i hh
            simp only [hh, false_and]
  | _ => rfl
theorem g_add {x y : Int} {Q : D → Hs → Prop} : (augS .add (.int x) (.int y) m).sat Q = Q (.int (x + y)) m := rfl
theorem g_sub {x y : Int} {Q : D → Hs → Prop} : (augS .sub (.int x) (.int y) m).sat Q = Q (.int (x - y)) m := rfl
/-! ### loops -/
theorem v_for {p : Pat} {k : ItK} {bd : Ss} : (evS κ (.forS p k es bd) r m).sat Q = (evEs κ es r m).sat fun xs m1 => (itR k xs m1).sat fun z m2 => (forL z.2 p (evSs κ bd) z.1 r m2).sat Q := by
  simp only [evS, sat_bind]
theorem v_whl {bd : Ss} : (evS κ (.whl c bd) r m).sat Q = (whlL (evE κ c) (evSs κ bd) whileMost r m).sat Q := by
  simp only [evS]
/-- the way on behind one turn -/
def turnS (I : Rho → Hs → Prop) (Q : Out → Hs → Prop) (o : Out) (m : Hs) : Prop := match o with
  | .nx r => I r m
  | .ct r => I r m
  | .bk r => Q (.nx r) m
  | .rt d => Q (.rt d) m
theorem turn_nx {I : Rho → Hs → Prop} : turnS I Q (.nx r) m = I r m := rfl
theorem turn_ct {I : Rho → Hs → Prop} : turnS I Q (.ct r) m = I r m := rfl
theorem turn_bk {I : Rho → Hs → Prop} : turnS I Q (.bk r) m = Q (.nx r) m := rfl
theorem turn_rt {I : Rho → Hs → Prop} {d : D} : turnS I Q (.rt d) m = Q (.rt d) m := rfl
theorem forL_rule {g : List (Nat × List D)} {p : Pat} {body : Rho → Hs → Rs Out} (I : List D → Rho → Hs → Prop)
    (hI : ∀ x xs r m, I (x :: xs) r m → stays g m = true ∧ ∃ r1, bindP p x r = some r1 ∧ (body r1 m).sat (turnS (I xs) Q))
    (h0 : ∀ r m, I [] r m → stays g m = true ∧ Q (.nx r) m) : ∀ xs r m, I xs r m → (forL g p body xs r m).sat Q
  | [], r, m, h => by
    obtain ⟨a, b⟩ := h0 r m h
    simp only [forL, a, if_true, sat_ok]
    exact b
  | x :: xs, r, m, h => by
    obtain ⟨a, r1, e, b⟩ := hI x xs r m h
    simp only [forL, a, if_true, e, sat_bind]
    refine b.imp fun o m1 ho => ?_
    cases o with
    | nx r2 => exact forL_rule I hI h0 xs r2 m1 ho
    | ct r2 => exact forL_rule I hI h0 xs r2 m1 ho
    | bk r2 => exact ho
    | rt d => exact ho
theorem whlL_rule {cc : Rho → Hs → Rs D} {body : Rho → Hs → Rs Out} (I : Nat → Rho → Hs → Prop)
    (hI : ∀ n r m, I n r m → (cc r m).sat fun x m1 => oSat (truth x m1) fun k => if k = true then (body r m1).sat (turnS (fun r2 m2 => ∃ n', n' < n ∧ I n' r2 m2) Q) else Q (.nx r) m1) :
    ∀ N n r m, n < N → I n r m → (whlL cc body N r m).sat Q
  | 0, n, r, m, h, _ => by omega
  | N + 1, n, r, m, h, hi => by
    simp only [whlL, sat_bind]
    refine (hI n r m hi).imp fun x m1 hx => ?_
    cases hk : truth x m1 with
    | none => rw [hk] at hx; exact hx.elim
    | some k =>
      rw [hk] at hx
      cases k with
      | false => simpa [oSat, sat_ok] using hx
      | true =>
        simp only [oSat, if_true] at hx
        simp only [sat_bind]
        refine hx.imp fun o m2 ho => ?_
        cases o with
        | nx r2 => obtain ⟨n', hn, hi'⟩ := ho; exact whlL_rule I hI N n' r2 m2 (by omega) hi'
        | ct r2 => obtain ⟨n', hn, hi'⟩ := ho; exact whlL_rule I hI N n' r2 m2 (by omega) hi'
        | bk r2 => exact ho
        | rt d => exact ho
/-! ### comprehensions -/
def lcU (κ : Sig) (p : Pat) (tst : Es) (elt : E) (own : List Nat) (r : Rho) (x : D) (m2 : Hs) : Rs (Option D) := match bindP p x (wipeD r own) with
  | some r2 => Rs.calm ((evEs κ tst r2 m2).bind fun ts m3 => match testsOf ts m3 with
    | some true => (evE κ elt r2 m3).bind fun y m4 => .ok (some y) m4
    | some false => .ok none m3
    | none => .bad)
  | none => .bad
theorem w_lc {k : ItK} {p : Pat} {tst : Es} {elt : E} {own : List Nat} {Q : D → Hs → Prop} : (evE κ (.lc k es p tst elt own) r m).sat Q = (evEs κ es r m).sat fun xs m1 => (itR k xs m1).sat fun z m2 => (lcL m2.length z.2 (lcU κ p tst elt own r) z.1 (m2 ++ [.lst []])).sat fun _ m5 => Q (.ref m2.length) m5 := by
  simp only [evE, sat_bind, sat_ok]
  rfl
theorem lcU_sat {p : Pat} {tst : Es} {elt : E} {own : List Nat} {x : D} {r2 : Rho} (h : bindP p x (wipeD r own) = some r2) {Q : Option D → Hs → Prop} (hh : (evEs κ tst r2 m).sat fun ts m3 => oSat (testsOf ts m3) fun k => if k = true then (evE κ elt r2 m3).sat fun y m4 => Q (some y) m4 else Q none m3) : (lcU κ p tst elt own r x m).sat Q := by
  unfold lcU
  rw [h]
  obtain ⟨ts, m3, e, h2⟩ := sat_iff.1 hh
  simp only [e, bind_ok]
  cases ht : testsOf ts m3 with
  | none => rw [ht] at h2; exact h2.elim
  | some k =>
    rw [ht] at h2
    cases k with
    | false => simpa [oSat, Rs.calm, sat_ok] using h2
    | true =>
      simp only [oSat, if_true] at h2
      obtain ⟨y, m4, e, h3⟩ := sat_iff.1 h2
      simp only [e, bind_ok, Rs.calm, sat_ok]
      exact h3
theorem lcL_pure {g : List (Nat × List D)} {turn : D → Hs → Rs (Option D)} (f : D → Option D) (hs : ∀ acc, stays g (m ++ [.lst acc]) = true) : ∀ (xs : List D) (acc : List D)
    (ht : ∀ x, x ∈ xs → ∀ acc, (turn x (m ++ [.lst acc])).sat fun o m2 => o = f x ∧ m2 = m ++ [.lst acc])
    (hl : acc.length + xs.length ≤ sizeLine), lcL m.length g turn xs (m ++ [.lst acc]) = .ok () (m ++ [.lst (acc ++ xs.filterMap f)])
  | [], acc, _, _ => by simp [lcL, hs]
  | x :: xs, acc, ht, hl => by
    obtain ⟨o, m2, e, e1, e2⟩ := sat_iff.1 (ht x (by simp) acc)
    subst e1 e2
    simp only [lcL, hs, if_true, e, bind_ok]
    simp only [List.length_cons] at hl
    cases hf : f x with
    | none =>
      simp only [List.filterMap_cons, hf]
      exact lcL_pure f hs xs acc (fun y hy => ht y (by simp [hy])) (by omega)
    | some y =>
      have e3 : (m ++ [O.lst acc])[m.length]? = some (.lst acc) := by simp
      have e4 : (m ++ [O.lst acc]).set m.length (.lst (acc ++ [y])) = m ++ [.lst (acc ++ [y])] := by simp
      simp only [e3, e4, List.filterMap_cons, hf]
      rw [if_pos (by omega)]
      rw [lcL_pure f hs xs (acc ++ [y]) (fun y hy => ht y (by simp [hy])) (by simp; omega)]
      simp
/-! ### defs -/
def endS (Q : D → Hs → Prop) (m : Hs) (o : Out) (m1 : Hs) : Prop := match o with
  | .rt d => (gcR m d m1).sat Q
  | .nx _ => (gcR m .non m1).sat Q
  | _ => False
theorem end_rt {Q : D → Hs → Prop} {d : D} {m1 : Hs} : endS Q m (.rt d) m1 = (gcR m d m1).sat Q := rfl
theorem end_nx {Q : D → Hs → Prop} {m1 : Hs} : endS Q m (.nx r) m1 = (gcR m .non m1).sat Q := rfl
theorem fn_sat {Δ : Prog} {k f : Nat} {fn : Fn} {args : List D} {Q : D → Hs → Prop} (hf : Δ.fn f = some fn) (hn : args.length = fn.np) (r0 : Rho) (hr : args.map some ++ List.replicate (fn.ns - args.length) none = r0)
    (h : (evSs ⟨callN Δ k, Δ.cls⟩ fn.body r0 m).sat (endS Q m)) : (callN Δ (k + 1) f args m).sat Q := by
  simp only [callN, hf, hn, if_true, evFn]
  rw [← hn, hr]
  obtain ⟨o, m1, e, h2⟩ := sat_iff.1 h
  rw [e]
  cases o with
  | rt d => exact h2
  | nx r => exact h2
  | bk r => exact h2.elim
  | ct r => exact h2.elim
theorem gc_pure {g : Hs} {d : D} {Q : D → Hs → Prop} (h : below m.length d = true) : (gcR m d (m ++ g)).sat Q = Q d m := by rw [gcR_pure h, sat_ok]
theorem gc_same {d : D} {Q : D → Hs → Prop} (h : below m.length d = true) : (gcR m d m).sat Q = Q d m := by rw [gcR_same h, sat_ok]
theorem gc_set {d : D} {n : Nat} {o : O} {Q : D → Hs → Prop} (h : below m.length d = true) (ho : belowO m.length o = true) : (gcR m d (m.set n o)).sat Q = Q d (m.set n o) := by rw [gcR_set' h ho, sat_ok]
/-- the heap is left as it lies -/
theorem gc_new {d : D} {m1 : Hs} {Q : D → Hs → Prop} (h : below m.length d = false) : (gcR m d m1).sat Q = Q d m1 := by
  unfold gcR
  rw [h]
  rfl
theorem n_s0 {x0 : Option D} {d : D} {rs : Rho} : setN (x0 :: rs) 0 d = some d :: rs := rfl
theorem v_a0 {x0 : Option D} {rs : Rho} : (evS κ (.asg (.nm 0) a) (x0 :: rs) m).sat Q = (evE κ a (x0 :: rs) m).sat fun d m1 => Q (.nx (some d :: rs)) m1 := by simp only [evS, tgS, sat_bind, sat_ok]; rfl
theorem v_au0 {d : D} {rs : Rho} {o : Op} : (evS κ (.aug 0 o a) (some d :: rs) m).sat Q = (evE κ a (some d :: rs) m).sat fun y m1 => (augS o d y m1).sat fun z m2 => Q (.nx (some z :: rs)) m2 := by simp only [evS]; rw [show (some d :: rs)[0]? = some (some d) from rfl]; simp only [sat_bind, sat_ok]; rfl
theorem tg_n0 {x0 : Option D} {d : D} {rs : Rho} {Q : Rho → Hs → Prop} : (tgS κ (.nm 0) d (x0 :: rs) m).sat Q = Q (some d :: rs) m := by simp only [tgS, sat_ok]; rfl
theorem n_s1 {x0 x1 : Option D} {d : D} {rs : Rho} : setN (x0 :: x1 :: rs) 1 d = x0 :: some d :: rs := rfl
theorem v_a1 {x0 x1 : Option D} {rs : Rho} : (evS κ (.asg (.nm 1) a) (x0 :: x1 :: rs) m).sat Q = (evE κ a (x0 :: x1 :: rs) m).sat fun d m1 => Q (.nx (x0 :: some d :: rs)) m1 := by simp only [evS, tgS, sat_bind, sat_ok]; rfl
theorem v_au1 {x0 : Option D} {d : D} {rs : Rho} {o : Op} : (evS κ (.aug 1 o a) (x0 :: some d :: rs) m).sat Q = (evE κ a (x0 :: some d :: rs) m).sat fun y m1 => (augS o d y m1).sat fun z m2 => Q (.nx (x0 :: some z :: rs)) m2 := by simp only [evS]; rw [show (x0 :: some d :: rs)[1]? = some (some d) from rfl]; simp only [sat_bind, sat_ok]; rfl
theorem tg_n1 {x0 x1 : Option D} {d : D} {rs : Rho} {Q : Rho → Hs → Prop} : (tgS κ (.nm 1) d (x0 :: x1 :: rs) m).sat Q = Q (x0 :: some d :: rs) m := by simp only [tgS, sat_ok]; rfl
theorem n_s2 {x0 x1 x2 : Option D} {d : D} {rs : Rho} : setN (x0 :: x1 :: x2 :: rs) 2 d = x0 :: x1 :: some d :: rs := rfl
theorem v_a2 {x0 x1 x2 : Option D} {rs : Rho} : (evS κ (.asg (.nm 2) a) (x0 :: x1 :: x2 :: rs) m).sat Q = (evE κ a (x0 :: x1 :: x2 :: rs) m).sat fun d m1 => Q (.nx (x0 :: x1 :: some d :: rs)) m1 := by simp only [evS, tgS, sat_bind, sat_ok]; rfl
theorem v_au2 {x0 x1 : Option D} {d : D} {rs : Rho} {o : Op} : (evS κ (.aug 2 o a) (x0 :: x1 :: some d :: rs) m).sat Q = (evE κ a (x0 :: x1 :: some d :: rs) m).sat fun y m1 => (augS o d y m1).sat fun z m2 => Q (.nx (x0 :: x1 :: some z :: rs)) m2 := by simp only [evS]; rw [show (x0 :: x1 :: some d :: rs)[2]? = some (some d) from rfl]; simp only [sat_bind, sat_ok]; rfl
theorem tg_n2 {x0 x1 x2 : Option D} {d : D} {rs : Rho} {Q : Rho → Hs → Prop} : (tgS κ (.nm 2) d (x0 :: x1 :: x2 :: rs) m).sat Q = Q (x0 :: x1 :: some d :: rs) m := by simp only [tgS, sat_ok]; rfl
theorem n_s3 {x0 x1 x2 x3 : Option D} {d : D} {rs : Rho} : setN (x0 :: x1 :: x2 :: x3 :: rs) 3 d = x0 :: x1 :: x2 :: some d :: rs := rfl
theorem v_a3 {x0 x1 x2 x3 : Option D} {rs : Rho} : (evS κ (.asg (.nm 3) a) (x0 :: x1 :: x2 :: x3 :: rs) m).sat Q = (evE κ a (x0 :: x1 :: x2 :: x3 :: rs) m).sat fun d m1 => Q (.nx (x0 :: x1 :: x2 :: some d :: rs)) m1 := by simp only [evS, tgS, sat_bind, sat_ok]; rfl
theorem v_au3 {x0 x1 x2 : Option D} {d : D} {rs : Rho} {o : Op} : (evS κ (.aug 3 o a) (x0 :: x1 :: x2 :: some d :: rs) m).sat Q = (evE κ a (x0 :: x1 :: x2 :: some d :: rs) m).sat fun y m1 => (augS o d y m1).sat fun z m2 => Q (.nx (x0 :: x1 :: x2 :: some z :: rs)) m2 := by simp only [evS]; rw [show (x0 :: x1 :: x2 :: some d :: rs)[3]? = some (some d) from rfl]; simp only [sat_bind, sat_ok]; rfl
theorem tg_n3 {x0 x1 x2 x3 : Option D} {d : D} {rs : Rho} {Q : Rho → Hs → Prop} : (tgS κ (.nm 3) d (x0 :: x1 :: x2 :: x3 :: rs) m).sat Q = Q (x0 :: x1 :: x2 :: some d :: rs) m := by simp only [tgS, sat_ok]; rfl
theorem n_s4 {x0 x1 x2 x3 x4 : Option D} {d : D} {rs : Rho} : setN (x0 :: x1 :: x2 :: x3 :: x4 :: rs) 4 d = x0 :: x1 :: x2 :: x3 :: some d :: rs := rfl
theorem v_a4 {x0 x1 x2 x3 x4 : Option D} {rs : Rho} : (evS κ (.asg (.nm 4) a) (x0 :: x1 :: x2 :: x3 :: x4 :: rs) m).sat Q = (evE κ a (x0 :: x1 :: x2 :: x3 :: x4 :: rs) m).sat fun d m1 => Q (.nx (x0 :: x1 :: x2 :: x3 :: some d :: rs)) m1 := by simp only [evS, tgS, sat_bind, sat_ok]; rfl
theorem v_au4 {x0 x1 x2 x3 : Option D} {d : D} {rs : Rho} {o : Op} : (evS κ (.aug 4 o a) (x0 :: x1 :: x2 :: x3 :: some d :: rs) m).sat Q = (evE κ a (x0 :: x1 :: x2 :: x3 :: some d :: rs) m).sat fun y m1 => (augS o d y m1).sat fun z m2 => Q (.nx (x0 :: x1 :: x2 :: x3 :: some z :: rs)) m2 := by simp only [evS]; rw [show (x0 :: x1 :: x2 :: x3 :: some d :: rs)[4]? = some (some d) from rfl]; simp only [sat_bind, sat_ok]; rfl
theorem tg_n4 {x0 x1 x2 x3 x4 : Option D} {d : D} {rs : Rho} {Q : Rho → Hs → Prop} : (tgS κ (.nm 4) d (x0 :: x1 :: x2 :: x3 :: x4 :: rs) m).sat Q = Q (x0 :: x1 :: x2 :: x3 :: some d :: rs) m := by simp only [tgS, sat_ok]; rfl
theorem n_s5 {x0 x1 x2 x3 x4 x5 : Option D} {d : D} {rs : Rho} : setN (x0 :: x1 :: x2 :: x3 :: x4 :: x5 :: rs) 5 d = x0 :: x1 :: x2 :: x3 :: x4 :: some d :: rs := rfl
theorem v_a5 {x0 x1 x2 x3 x4 x5 : Option D} {rs : Rho} : (evS κ (.asg (.nm 5) a) (x0 :: x1 :: x2 :: x3 :: x4 :: x5 :: rs) m).sat Q = (evE κ a (x0 :: x1 :: x2 :: x3 :: x4 :: x5 :: rs) m).sat fun d m1 => Q (.nx (x0 :: x1 :: x2 :: x3 :: x4 :: some d :: rs)) m1 := by simp only [evS, tgS, sat_bind, sat_ok]; rfl
theorem v_au5 {x0 x1 x2 x3 x4 : Option D} {d : D} {rs : Rho} {o : Op} : (evS κ (.aug 5 o a) (x0 :: x1 :: x2 :: x3 :: x4 :: some d :: rs) m).sat Q = (evE κ a (x0 :: x1 :: x2 :: x3 :: x4 :: some d :: rs) m).sat fun y m1 => (augS o d y m1).sat fun z m2 => Q (.nx (x0 :: x1 :: x2 :: x3 :: x4 :: some z :: rs)) m2 := by simp only [evS]; rw [show (x0 :: x1 :: x2 :: x3 :: x4 :: some d :: rs)[5]? = some (some d) from rfl]; simp only [sat_bind, sat_ok]; rfl
theorem tg_n5 {x0 x1 x2 x3 x4 x5 : Option D} {d : D} {rs : Rho} {Q : Rho → Hs → Prop} : (tgS κ (.nm 5) d (x0 :: x1 :: x2 :: x3 :: x4 :: x5 :: rs) m).sat Q = Q (x0 :: x1 :: x2 :: x3 :: x4 :: some d :: rs) m := by simp only [tgS, sat_ok]; rfl
theorem n_s6 {x0 x1 x2 x3 x4 x5 x6 : Option D} {d : D} {rs : Rho} : setN (x0 :: x1 :: x2 :: x3 :: x4 :: x5 :: x6 :: rs) 6 d = x0 :: x1 :: x2 :: x3 :: x4 :: x5 :: some d :: rs := rfl
theorem v_a6 {x0 x1 x2 x3 x4 x5 x6 : Option D} {rs : Rho} : (evS κ (.asg (.nm 6) a) (x0 :: x1 :: x2 :: x3 :: x4 :: x5 :: x6 :: rs) m).sat Q = (evE κ a (x0 :: x1 :: x2 :: x3 :: x4 :: x5 :: x6 :: rs) m).sat fun d m1 => Q (.nx (x0 :: x1 :: x2 :: x3 :: x4 :: x5 :: some d :: rs)) m1 := by simp only [evS, tgS, sat_bind, sat_ok]; rfl
theorem v_au6 {x0 x1 x2 x3 x4 x5 : Option D} {d : D} {rs : Rho} {o : Op} : (evS κ (.aug 6 o a) (x0 :: x1 :: x2 :: x3 :: x4 :: x5 :: some d :: rs) m).sat Q = (evE κ a (x0 :: x1 :: x2 :: x3 :: x4 :: x5 :: some d :: rs) m).sat fun y m1 => (augS o d y m1).sat fun z m2 => Q (.nx (x0 :: x1 :: x2 :: x3 :: x4 :: x5 :: some z :: rs)) m2 := by simp only [evS]; rw [show (x0 :: x1 :: x2 :: x3 :: x4 :: x5 :: some d :: rs)[6]? = some (some d) from rfl]; simp only [sat_bind, sat_ok]; rfl
theorem tg_n6 {x0 x1 x2 x3 x4 x5 x6 : Option D} {d : D} {rs : Rho} {Q : Rho → Hs → Prop} : (tgS κ (.nm 6) d (x0 :: x1 :: x2 :: x3 :: x4 :: x5 :: x6 :: rs) m).sat Q = Q (x0 :: x1 :: x2 :: x3 :: x4 :: x5 :: some d :: rs) m := by simp only [tgS, sat_ok]; rfl
theorem n_s7 {x0 x1 x2 x3 x4 x5 x6 x7 : Option D} {d : D} {rs : Rho} : setN (x0 :: x1 :: x2 :: x3 :: x4 :: x5 :: x6 :: x7 :: rs) 7 d = x0 :: x1 :: x2 :: x3 :: x4 :: x5 :: x6 :: some d :: rs := rfl
theorem v_a7 {x0 x1 x2 x3 x4 x5 x6 x7 : Option D} {rs : Rho} : (evS κ (.asg (.nm 7) a) (x0 :: x1 :: x2 :: x3 :: x4 :: x5 :: x6 :: x7 :: rs) m).sat Q = (evE κ a (x0 :: x1 :: x2 :: x3 :: x4 :: x5 :: x6 :: x7 :: rs) m).sat fun d m1 => Q (.nx (x0 :: x1 :: x2 :: x3 :: x4 :: x5 :: x6 :: some d :: rs)) m1 := by simp only [evS, tgS, sat_bind, sat_ok]; rfl
theorem v_au7 {x0 x1 x2 x3 x4 x5 x6 : Option D} {d : D} {rs : Rho} {o : Op} : (evS κ (.aug 7 o a) (x0 :: x1 :: x2 :: x3 :: x4 :: x5 :: x6 :: some d :: rs) m).sat Q = (evE κ a (x0 :: x1 :: x2 :: x3 :: x4 :: x5 :: x6 :: some d :: rs) m).sat fun y m1 => (augS o d y m1).sat fun z m2 => Q (.nx (x0 :: x1 :: x2 :: x3 :: x4 :: x5 :: x6 :: some z :: rs)) m2 := by simp only [evS]; rw [show (x0 :: x1 :: x2 :: x3 :: x4 :: x5 :: x6 :: some d :: rs)[7]? = some (some d) from rfl]; simp only [sat_bind, sat_ok]; rfl
theorem tg_n7 {x0 x1 x2 x3 x4 x5 x6 x7 : Option D} {d : D} {rs : Rho} {Q : Rho → Hs → Prop} : (tgS κ (.nm 7) d (x0 :: x1 :: x2 :: x3 :: x4 :: x5 :: x6 :: x7 :: rs) m).sat Q = Q (x0 :: x1 :: x2 :: x3 :: x4 :: x5 :: x6 :: some d :: rs) m := by simp only [tgS, sat_ok]; rfl
theorem n_s8 {x0 x1 x2 x3 x4 x5 x6 x7 x8 : Option D} {d : D} {rs : Rho} : setN (x0 :: x1 :: x2 :: x3 :: x4 :: x5 :: x6 :: x7 :: x8 :: rs) 8 d = x0 :: x1 :: x2 :: x3 :: x4 :: x5 :: x6 :: x7 :: some d :: rs := rfl
theorem v_a8 {x0 x1 x2 x3 x4 x5 x6 x7 x8 : Option D} {rs : Rho} : (evS κ (.asg (.nm 8) a) (x0 :: x1 :: x2 :: x3 :: x4 :: x5 :: x6 :: x7 :: x8 :: rs) m).sat Q = (evE κ a (x0 :: x1 :: x2 :: x3 :: x4 :: x5 :: x6 :: x7 :: x8 :: rs) m).sat fun d m1 => Q (.nx (x0 :: x1 :: x2 :: x3 :: x4 :: x5 :: x6 :: x7 :: some d :: rs)) m1 := by simp only [evS, tgS, sat_bind, sat_ok]; rfl
theorem v_au8 {x0 x1 x2 x3 x4 x5 x6 x7 : Option D} {d : D} {rs : Rho} {o : Op} : (evS κ (.aug 8 o a) (x0 :: x1 :: x2 :: x3 :: x4 :: x5 :: x6 :: x7 :: some d :: rs) m).sat Q = (evE κ a (x0 :: x1 :: x2 :: x3 :: x4 :: x5 :: x6 :: x7 :: some d :: rs) m).sat fun y m1 => (augS o d y m1).sat fun z m2 => Q (.nx (x0 :: x1 :: x2 :: x3 :: x4 :: x5 :: x6 :: x7 :: some z :: rs)) m2 := by simp only [evS]; rw [show (x0 :: x1 :: x2 :: x3 :: x4 :: x5 :: x6 :: x7 :: some d :: rs)[8]? = some (some d) from rfl]; simp only [sat_bind, sat_ok]; rfl
theorem tg_n8 {x0 x1 x2 x3 x4 x5 x6 x7 x8 : Option D} {d : D} {rs : Rho} {Q : Rho → Hs → Prop} : (tgS κ (.nm 8) d (x0 :: x1 :: x2 :: x3 :: x4 :: x5 :: x6 :: x7 :: x8 :: rs) m).sat Q = Q (x0 :: x1 :: x2 :: x3 :: x4 :: x5 :: x6 :: x7 :: some d :: rs) m := by simp only [tgS, sat_ok]; rfl
theorem n_s9 {x0 x1 x2 x3 x4 x5 x6 x7 x8 x9 : Option D} {d : D} {rs : Rho} : setN (x0 :: x1 :: x2 :: x3 :: x4 :: x5 :: x6 :: x7 :: x8 :: x9 :: rs) 9 d = x0 :: x1 :: x2 :: x3 :: x4 :: x5 :: x6 :: x7 :: x8 :: some d :: rs := rfl
theorem v_a9 {x0 x1 x2 x3 x4 x5 x6 x7 x8 x9 : Option D} {rs : Rho} : (evS κ (.asg (.nm 9) a) (x0 :: x1 :: x2 :: x3 :: x4 :: x5 :: x6 :: x7 :: x8 :: x9 :: rs) m).sat Q = (evE κ a (x0 :: x1 :: x2 :: x3 :: x4 :: x5 :: x6 :: x7 :: x8 :: x9 :: rs) m).sat fun d m1 => Q (.nx (x0 :: x1 :: x2 :: x3 :: x4 :: x5 :: x6 :: x7 :: x8 :: some d :: rs)) m1 := by simp only [evS, tgS, sat_bind, sat_ok]; rfl
theorem v_au9 {x0 x1 x2 x3 x4 x5 x6 x7 x8 : Option D} {d : D} {rs : Rho} {o : Op} : (evS κ (.aug 9 o a) (x0 :: x1 :: x2 :: x3 :: x4 :: x5 :: x6 :: x7 :: x8 :: some d :: rs) m).sat Q = (evE κ a (x0 :: x1 :: x2 :: x3 :: x4 :: x5 :: x6 :: x7 :: x8 :: some d :: rs) m).sat fun y m1 => (augS o d y m1).sat fun z m2 => Q (.nx (x0 :: x1 :: x2 :: x3 :: x4 :: x5 :: x6 :: x7 :: x8 :: some z :: rs)) m2 := by simp only [evS]; rw [show (x0 :: x1 :: x2 :: x3 :: x4 :: x5 :: x6 :: x7 :: x8 :: some d :: rs)[9]? = some (some d) from rfl]; simp only [sat_bind, sat_ok]; rfl
theorem tg_n9 {x0 x1 x2 x3 x4 x5 x6 x7 x8 x9 : Option D} {d : D} {rs : Rho} {Q : Rho → Hs → Prop} : (tgS κ (.nm 9) d (x0 :: x1 :: x2 :: x3 :: x4 :: x5 :: x6 :: x7 :: x8 :: x9 :: rs) m).sat Q = Q (x0 :: x1 :: x2 :: x3 :: x4 :: x5 :: x6 :: x7 :: x8 :: some d :: rs) m := by simp only [tgS, sat_ok]; rfl
theorem n_s10 {x0 x1 x2 x3 x4 x5 x6 x7 x8 x9 x10 : Option D} {d : D} {rs : Rho} : setN (x0 :: x1 :: x2 :: x3 :: x4 :: x5 :: x6 :: x7 :: x8 :: x9 :: x10 :: rs) 10 d = x0 :: x1 :: x2 :: x3 :: x4 :: x5 :: x6 :: x7 :: x8 :: x9 :: some d :: rs := rfl
theorem v_a10 {x0 x1 x2 x3 x4 x5 x6 x7 x8 x9 x10 : Option D} {rs : Rho} : (evS κ (.asg (.nm 10) a) (x0 :: x1 :: x2 :: x3 :: x4 :: x5 :: x6 :: x7 :: x8 :: x9 :: x10 :: rs) m).sat Q = (evE κ a (x0 :: x1 :: x2 :: x3 :: x4 :: x5 :: x6 :: x7 :: x8 :: x9 :: x10 :: rs) m).sat fun d m1 => Q (.nx (x0 :: x1 :: x2 :: x3 :: x4 :: x5 :: x6 :: x7 :: x8 :: x9 :: some d :: rs)) m1 := by simp only [evS, tgS, sat_bind, sat_ok]; rfl
theorem v_au10 {x0 x1 x2 x3 x4 x5 x6 x7 x8 x9 : Option D} {d : D} {rs : Rho} {o : Op} : (evS κ (.aug 10 o a) (x0 :: x1 :: x2 :: x3 :: x4 :: x5 :: x6 :: x7 :: x8 :: x9 :: some d :: rs) m).sat Q = (evE κ a (x0 :: x1 :: x2 :: x3 :: x4 :: x5 :: x6 :: x7 :: x8 :: x9 :: some d :: rs) m).sat fun y m1 => (augS o d y m1).sat fun z m2 => Q (.nx (x0 :: x1 :: x2 :: x3 :: x4 :: x5 :: x6 :: x7 :: x8 :: x9 :: some z :: rs)) m2 := by simp only [evS]; rw [show (x0 :: x1 :: x2 :: x3 :: x4 :: x5 :: x6 :: x7 :: x8 :: x9 :: some d :: rs)[10]? = some (some d) from rfl]; simp only [sat_bind, sat_ok]; rfl
theorem tg_n10 {x0 x1 x2 x3 x4 x5 x6 x7 x8 x9 x10 : Option D} {d : D} {rs : Rho} {Q : Rho → Hs → Prop} : (tgS κ (.nm 10) d (x0 :: x1 :: x2 :: x3 :: x4 :: x5 :: x6 :: x7 :: x8 :: x9 :: x10 :: rs) m).sat Q = Q (x0 :: x1 :: x2 :: x3 :: x4 :: x5 :: x6 :: x7 :: x8 :: x9 :: some d :: rs) m := by simp only [tgS, sat_ok]; rfl
theorem n_s11 {x0 x1 x2 x3 x4 x5 x6 x7 x8 x9 x10 x11 : Option D} {d : D} {rs : Rho} : setN (x0 :: x1 :: x2 :: x3 :: x4 :: x5 :: x6 :: x7 :: x8 :: x9 :: x10 :: x11 :: rs) 11 d = x0 :: x1 :: x2 :: x3 :: x4 :: x5 :: x6 :: x7 :: x8 :: x9 :: x10 :: some d :: rs := rfl
theorem v_a11 {x0 x1 x2 x3 x4 x5 x6 x7 x8 x9 x10 x11 : Option D} {rs : Rho} : (evS κ (.asg (.nm 11) a) (x0 :: x1 :: x2 :: x3 :: x4 :: x5 :: x6 :: x7 :: x8 :: x9 :: x10 :: x11 :: rs) m).sat Q = (evE κ a (x0 :: x1 :: x2 :: x3 :: x4 :: x5 :: x6 :: x7 :: x8 :: x9 :: x10 :: x11 :: rs) m).sat fun d m1 => Q (.nx (x0 :: x1 :: x2 :: x3 :: x4 :: x5 :: x6 :: x7 :: x8 :: x9 :: x10 :: some d :: rs)) m1 := by simp only [evS, tgS, sat_bind, sat_ok]; rfl
theorem v_au11 {x0 x1 x2 x3 x4 x5 x6 x7 x8 x9 x10 : Option D} {d : D} {rs : Rho} {o : Op} : (evS κ (.aug 11 o a) (x0 :: x1 :: x2 :: x3 :: x4 :: x5 :: x6 :: x7 :: x8 :: x9 :: x10 :: some d :: rs) m).sat Q = (evE κ a (x0 :: x1 :: x2 :: x3 :: x4 :: x5 :: x6 :: x7 :: x8 :: x9 :: x10 :: some d :: rs) m).sat fun y m1 => (augS o d y m1).sat fun z m2 => Q (.nx (x0 :: x1 :: x2 :: x3 :: x4 :: x5 :: x6 :: x7 :: x8 :: x9 :: x10 :: some z :: rs)) m2 := by simp only [evS]; rw [show (x0 :: x1 :: x2 :: x3 :: x4 :: x5 :: x6 :: x7 :: x8 :: x9 :: x10 :: some d :: rs)[11]? = some (some d) from rfl]; simp only [sat_bind, sat_ok]; rfl
theorem tg_n11 {x0 x1 x2 x3 x4 x5 x6 x7 x8 x9 x10 x11 : Option D} {d : D} {rs : Rho} {Q : Rho → Hs → Prop} : (tgS κ (.nm 11) d (x0 :: x1 :: x2 :: x3 :: x4 :: x5 :: x6 :: x7 :: x8 :: x9 :: x10 :: x11 :: rs) m).sat Q = Q (x0 :: x1 :: x2 :: x3 :: x4 :: x5 :: x6 :: x7 :: x8 :: x9 :: x10 :: some d :: rs) m := by simp only [tgS, sat_ok]; rfl
theorem n_s12 {x0 x1 x2 x3 x4 x5 x6 x7 x8 x9 x10 x11 x12 : Option D} {d : D} {rs : Rho} : setN (x0 :: x1 :: x2 :: x3 :: x4 :: x5 :: x6 :: x7 :: x8 :: x9 :: x10 :: x11 :: x12 :: rs) 12 d = x0 :: x1 :: x2 :: x3 :: x4 :: x5 :: x6 :: x7 :: x8 :: x9 :: x10 :: x11 :: some d :: rs := rfl
theorem v_a12 {x0 x1 x2 x3 x4 x5 x6 x7 x8 x9 x10 x11 x12 : Option D} {rs : Rho} : (evS κ (.asg (.nm 12) a) (x0 :: x1 :: x2 :: x3 :: x4 :: x5 :: x6 :: x7 :: x8 :: x9 :: x10 :: x11 :: x12 :: rs) m).sat Q = (evE κ a (x0 :: x1 :: x2 :: x3 :: x4 :: x5 :: x6 :: x7 :: x8 :: x9 :: x10 :: x11 :: x12 :: rs) m).sat fun d m1 => Q (.nx (x0 :: x1 :: x2 :: x3 :: x4 :: x5 :: x6 :: x7 :: x8 :: x9 :: x10 :: x11 :: some d :: rs)) m1 := by simp only [evS, tgS, sat_bind, sat_ok]; rfl
theorem v_au12 {x0 x1 x2 x3 x4 x5 x6 x7 x8 x9 x10 x11 : Option D} {d : D} {rs : Rho} {o : Op} : (evS κ (.aug 12 o a) (x0 :: x1 :: x2 :: x3 :: x4 :: x5 :: x6 :: x7 :: x8 :: x9 :: x10 :: x11 :: some d :: rs) m).sat Q = (evE κ a (x0 :: x1 :: x2 :: x3 :: x4 :: x5 :: x6 :: x7 :: x8 :: x9 :: x10 :: x11 :: some d :: rs) m).sat fun y m1 => (augS o d y m1).sat fun z m2 => Q (.nx (x0 :: x1 :: x2 :: x3 :: x4 :: x5 :: x6 :: x7 :: x8 :: x9 :: x10 :: x11 :: some z :: rs)) m2 := by simp only [evS]; rw [show (x0 :: x1 :: x2 :: x3 :: x4 :: x5 :: x6 :: x7 :: x8 :: x9 :: x10 :: x11 :: some d :: rs)[12]? = some (some d) from rfl]; simp only [sat_bind, sat_ok]; rfl
theorem tg_n12 {x0 x1 x2 x3 x4 x5 x6 x7 x8 x9 x10 x11 x12 : Option D} {d : D} {rs : Rho} {Q : Rho → Hs → Prop} : (tgS κ (.nm 12) d (x0 :: x1 :: x2 :: x3 :: x4 :: x5 :: x6 :: x7 :: x8 :: x9 :: x10 :: x11 :: x12 :: rs) m).sat Q = Q (x0 :: x1 :: x2 :: x3 :: x4 :: x5 :: x6 :: x7 :: x8 :: x9 :: x10 :: x11 :: some d :: rs) m := by simp only [tgS, sat_ok]; rfl
theorem n_s13 {x0 x1 x2 x3 x4 x5 x6 x7 x8 x9 x10 x11 x12 x13 : Option D} {d : D} {rs : Rho} : setN (x0 :: x1 :: x2 :: x3 :: x4 :: x5 :: x6 :: x7 :: x8 :: x9 :: x10 :: x11 :: x12 :: x13 :: rs) 13 d = x0 :: x1 :: x2 :: x3 :: x4 :: x5 :: x6 :: x7 :: x8 :: x9 :: x10 :: x11 :: x12 :: some d :: rs := rfl
theorem v_a13 {x0 x1 x2 x3 x4 x5 x6 x7 x8 x9 x10 x11 x12 x13 : Option D} {rs : Rho} : (evS κ (.asg (.nm 13) a) (x0 :: x1 :: x2 :: x3 :: x4 :: x5 :: x6 :: x7 :: x8 :: x9 :: x10 :: x11 :: x12 :: x13 :: rs) m).sat Q = (evE κ a (x0 :: x1 :: x2 :: x3 :: x4 :: x5 :: x6 :: x7 :: x8 :: x9 :: x10 :: x11 :: x12 :: x13 :: rs) m).sat fun d m1 => Q (.nx (x0 :: x1 :: x2 :: x3 :: x4 :: x5 :: x6 :: x7 :: x8 :: x9 :: x10 :: x11 :: x12 :: some d :: rs)) m1 := by simp only [evS, tgS, sat_bind, sat_ok]; rfl
theorem v_au13 {x0 x1 x2 x3 x4 x5 x6 x7 x8 x9 x10 x11 x12 : Option D} {d : D} {rs : Rho} {o : Op} : (evS κ (.aug 13 o a) (x0 :: x1 :: x2 :: x3 :: x4 :: x5 :: x6 :: x7 :: x8 :: x9 :: x10 :: x11 :: x12 :: some d :: rs) m).sat Q = (evE κ a (x0 :: x1 :: x2 :: x3 :: x4 :: x5 :: x6 :: x7 :: x8 :: x9 :: x10 :: x11 :: x12 :: some d :: rs) m).sat fun y m1 => (augS o d y m1).sat fun z m2 => Q (.nx (x0 :: x1 :: x2 :: x3 :: x4 :: x5 :: x6 :: x7 :: x8 :: x9 :: x10 :: x11 :: x12 :: some z :: rs)) m2 := by simp only [evS]; rw [show (x0 :: x1 :: x2 :: x3 :: x4 :: x5 :: x6 :: x7 :: x8 :: x9 :: x10 :: x11 :: x12 :: some d :: rs)[13]? = some (some d) from rfl]; simp only [sat_bind, sat_ok]; rfl
theorem tg_n13 {x0 x1 x2 x3 x4 x5 x6 x7 x8 x9 x10 x11 x12 x13 : Option D} {d : D} {rs : Rho} {Q : Rho → Hs → Prop} : (tgS κ (.nm 13) d (x0 :: x1 :: x2 :: x3 :: x4 :: x5 :: x6 :: x7 :: x8 :: x9 :: x10 :: x11 :: x12 :: x13 :: rs) m).sat Q = Q (x0 :: x1 :: x2 :: x3 :: x4 :: x5 :: x6 :: x7 :: x8 :: x9 :: x10 :: x11 :: x12 :: some d :: rs) m := by simp only [tgS, sat_ok]; rfl
theorem n_s14 {x0 x1 x2 x3 x4 x5 x6 x7 x8 x9 x10 x11 x12 x13 x14 : Option D} {d : D} {rs : Rho} : setN (x0 :: x1 :: x2 :: x3 :: x4 :: x5 :: x6 :: x7 :: x8 :: x9 :: x10 :: x11 :: x12 :: x13 :: x14 :: rs) 14 d = x0 :: x1 :: x2 :: x3 :: x4 :: x5 :: x6 :: x7 :: x8 :: x9 :: x10 :: x11 :: x12 :: x13 :: some d :: rs := rfl
theorem v_a14 {x0 x1 x2 x3 x4 x5 x6 x7 x8 x9 x10 x11 x12 x13 x14 : Option D} {rs : Rho} : (evS κ (.asg (.nm 14) a) (x0 :: x1 :: x2 :: x3 :: x4 :: x5 :: x6 :: x7 :: x8 :: x9 :: x10 :: x11 :: x12 :: x13 :: x14 :: rs) m).sat Q = (evE κ a (x0 :: x1 :: x2 :: x3 :: x4 :: x5 :: x6 :: x7 :: x8 :: x9 :: x10 :: x11 :: x12 :: x13 :: x14 :: rs) m).sat fun d m1 => Q (.nx (x0 :: x1 :: x2 :: x3 :: x4 :: x5 :: x6 :: x7 :: x8 :: x9 :: x10 :: x11 :: x12 :: x13 :: some d :: rs)) m1 := by simp only [evS, tgS, sat_bind, sat_ok]; rfl
theorem v_au14 {x0 x1 x2 x3 x4 x5 x6 x7 x8 x9 x10 x11 x12 x13 : Option D} {d : D} {rs : Rho} {o : Op} : (evS κ (.aug 14 o a) (x0 :: x1 :: x2 :: x3 :: x4 :: x5 :: x6 :: x7 :: x8 :: x9 :: x10 :: x11 :: x12 :: x13 :: some d :: rs) m).sat Q = (evE κ a (x0 :: x1 :: x2 :: x3 :: x4 :: x5 :: x6 :: x7 :: x8 :: x9 :: x10 :: x11 :: x12 :: x13 :: some d :: rs) m).sat fun y m1 => (augS o d y m1).sat fun z m2 => Q (.nx (x0 :: x1 :: x2 :: x3 :: x4 :: x5 :: x6 :: x7 :: x8 :: x9 :: x10 :: x11 :: x12 :: x13 :: some z :: rs)) m2 := by simp only [evS]; rw [show (x0 :: x1 :: x2 :: x3 :: x4 :: x5 :: x6 :: x7 :: x8 :: x9 :: x10 :: x11 :: x12 :: x13 :: some d :: rs)[14]? = some (some d) from rfl]; simp only [sat_bind, sat_ok]; rfl
theorem tg_n14 {x0 x1 x2 x3 x4 x5 x6 x7 x8 x9 x10 x11 x12 x13 x14 : Option D} {d : D} {rs : Rho} {Q : Rho → Hs → Prop} : (tgS κ (.nm 14) d (x0 :: x1 :: x2 :: x3 :: x4 :: x5 :: x6 :: x7 :: x8 :: x9 :: x10 :: x11 :: x12 :: x13 :: x14 :: rs) m).sat Q = Q (x0 :: x1 :: x2 :: x3 :: x4 :: x5 :: x6 :: x7 :: x8 :: x9 :: x10 :: x11 :: x12 :: x13 :: some d :: rs) m := by simp only [tgS, sat_ok]; rfl
theorem n_s15 {x0 x1 x2 x3 x4 x5 x6 x7 x8 x9 x10 x11 x12 x13 x14 x15 : Option D} {d : D} {rs : Rho} : setN (x0 :: x1 :: x2 :: x3 :: x4 :: x5 :: x6 :: x7 :: x8 :: x9 :: x10 :: x11 :: x12 :: x13 :: x14 :: x15 :: rs) 15 d = x0 :: x1 :: x2 :: x3 :: x4 :: x5 :: x6 :: x7 :: x8 :: x9 :: x10 :: x11 :: x12 :: x13 :: x14 :: some d :: rs := rfl
theorem v_a15 {x0 x1 x2 x3 x4 x5 x6 x7 x8 x9 x10 x11 x12 x13 x14 x15 : Option D} {rs : Rho} : (evS κ (.asg (.nm 15) a) (x0 :: x1 :: x2 :: x3 :: x4 :: x5 :: x6 :: x7 :: x8 :: x9 :: x10 :: x11 :: x12 :: x13 :: x14 :: x15 :: rs) m).sat Q = (evE κ a (x0 :: x1 :: x2 :: x3 :: x4 :: x5 :: x6 :: x7 :: x8 :: x9 :: x10 :: x11 :: x12 :: x13 :: x14 :: x15 :: rs) m).sat fun d m1 => Q (.nx (x0 :: x1 :: x2 :: x3 :: x4 :: x5 :: x6 :: x7 :: x8 :: x9 :: x10 :: x11 :: x12 :: x13 :: x14 :: some d :: rs)) m1 := by simp only [evS, tgS, sat_bind, sat_ok]; rfl
theorem v_au15 {x0 x1 x2 x3 x4 x5 x6 x7 x8 x9 x10 x11 x12 x13 x14 : Option D} {d : D} {rs : Rho} {o : Op} : (evS κ (.aug 15 o a) (x0 :: x1 :: x2 :: x3 :: x4 :: x5 :: x6 :: x7 :: x8 :: x9 :: x10 :: x11 :: x12 :: x13 :: x14 :: some d :: rs) m).sat Q = (evE κ a (x0 :: x1 :: x2 :: x3 :: x4 :: x5 :: x6 :: x7 :: x8 :: x9 :: x10 :: x11 :: x12 :: x13 :: x14 :: some d :: rs) m).sat fun y m1 => (augS o d y m1).sat fun z m2 => Q (.nx (x0 :: x1 :: x2 :: x3 :: x4 :: x5 :: x6 :: x7 :: x8 :: x9 :: x10 :: x11 :: x12 :: x13 :: x14 :: some z :: rs)) m2 := by simp only [evS]; rw [show (x0 :: x1 :: x2 :: x3 :: x4 :: x5 :: x6 :: x7 :: x8 :: x9 :: x10 :: x11 :: x12 :: x13 :: x14 :: some d :: rs)[15]? = some (some d) from rfl]; simp only [sat_bind, sat_ok]; rfl
theorem tg_n15 {x0 x1 x2 x3 x4 x5 x6 x7 x8 x9 x10 x11 x12 x13 x14 x15 : Option D} {d : D} {rs : Rho} {Q : Rho → Hs → Prop} : (tgS κ (.nm 15) d (x0 :: x1 :: x2 :: x3 :: x4 :: x5 :: x6 :: x7 :: x8 :: x9 :: x10 :: x11 :: x12 :: x13 :: x14 :: x15 :: rs) m).sat Q = Q (x0 :: x1 :: x2 :: x3 :: x4 :: x5 :: x6 :: x7 :: x8 :: x9 :: x10 :: x11 :: x12 :: x13 :: x14 :: some d :: rs) m := by simp only [tgS, sat_ok]; rfl
theorem n_s16 {x0 x1 x2 x3 x4 x5 x6 x7 x8 x9 x10 x11 x12 x13 x14 x15 x16 : Option D} {d : D} {rs : Rho} : setN (x0 :: x1 :: x2 :: x3 :: x4 :: x5 :: x6 :: x7 :: x8 :: x9 :: x10 :: x11 :: x12 :: x13 :: x14 :: x15 :: x16 :: rs) 16 d = x0 :: x1 :: x2 :: x3 :: x4 :: x5 :: x6 :: x7 :: x8 :: x9 :: x10 :: x11 :: x12 :: x13 :: x14 :: x15 :: some d :: rs := rfl
theorem v_a16 {x0 x1 x2 x3 x4 x5 x6 x7 x8 x9 x10 x11 x12 x13 x14 x15 x16 : Option D} {rs : Rho} : (evS κ (.asg (.nm 16) a) (x0 :: x1 :: x2 :: x3 :: x4 :: x5 :: x6 :: x7 :: x8 :: x9 :: x10 :: x11 :: x12 :: x13 :: x14 :: x15 :: x16 :: rs) m).sat Q = (evE κ a (x0 :: x1 :: x2 :: x3 :: x4 :: x5 :: x6 :: x7 :: x8 :: x9 :: x10 :: x11 :: x12 :: x13 :: x14 :: x15 :: x16 :: rs) m).sat fun d m1 => Q (.nx (x0 :: x1 :: x2 :: x3 :: x4 :: x5 :: x6 :: x7 :: x8 :: x9 :: x10 :: x11 :: x12 :: x13 :: x14 :: x15 :: some d :: rs)) m1 := by simp only [evS, tgS, sat_bind, sat_ok]; rfl
theorem v_au16 {x0 x1 x2 x3 x4 x5 x6 x7 x8 x9 x10 x11 x12 x13 x14 x15 : Option D} {d : D} {rs : Rho} {o : Op} : (evS κ (.aug 16 o a) (x0 :: x1 :: x2 :: x3 :: x4 :: x5 :: x6 :: x7 :: x8 :: x9 :: x10 :: x11 :: x12 :: x13 :: x14 :: x15 :: some d :: rs) m).sat Q = (evE κ a (x0 :: x1 :: x2 :: x3 :: x4 :: x5 :: x6 :: x7 :: x8 :: x9 :: x10 :: x11 :: x12 :: x13 :: x14 :: x15 :: some d :: rs) m).sat fun y m1 => (augS o d y m1).sat fun z m2 => Q (.nx (x0 :: x1 :: x2 :: x3 :: x4 :: x5 :: x6 :: x7 :: x8 :: x9 :: x10 :: x11 :: x12 :: x13 :: x14 :: x15 :: some z :: rs)) m2 := by simp only [evS]; rw [show (x0 :: x1 :: x2 :: x3 :: x4 :: x5 :: x6 :: x7 :: x8 :: x9 :: x10 :: x11 :: x12 :: x13 :: x14 :: x15 :: some d :: rs)[16]? = some (some d) from rfl]; simp only [sat_bind, sat_ok]; rfl
theorem tg_n16 {x0 x1 x2 x3 x4 x5 x6 x7 x8 x9 x10 x11 x12 x13 x14 x15 x16 : Option D} {d : D} {rs : Rho} {Q : Rho → Hs → Prop} : (tgS κ (.nm 16) d (x0 :: x1 :: x2 :: x3 :: x4 :: x5 :: x6 :: x7 :: x8 :: x9 :: x10 :: x11 :: x12 :: x13 :: x14 :: x15 :: x16 :: rs) m).sat Q = Q (x0 :: x1 :: x2 :: x3 :: x4 :: x5 :: x6 :: x7 :: x8 :: x9 :: x10 :: x11 :: x12 :: x13 :: x14 :: x15 :: some d :: rs) m := by simp only [tgS, sat_ok]; rfl
theorem n_s17 {x0 x1 x2 x3 x4 x5 x6 x7 x8 x9 x10 x11 x12 x13 x14 x15 x16 x17 : Option D} {d : D} {rs : Rho} : setN (x0 :: x1 :: x2 :: x3 :: x4 :: x5 :: x6 :: x7 :: x8 :: x9 :: x10 :: x11 :: x12 :: x13 :: x14 :: x15 :: x16 :: x17 :: rs) 17 d = x0 :: x1 :: x2 :: x3 :: x4 :: x5 :: x6 :: x7 :: x8 :: x9 :: x10 :: x11 :: x12 :: x13 :: x14 :: x15 :: x16 :: some d :: rs := rfl
theorem v_a17 {x0 x1 x2 x3 x4 x5 x6 x7 x8 x9 x10 x11 x12 x13 x14 x15 x16 x17 : Option D} {rs : Rho} : (evS κ (.asg (.nm 17) a) (x0 :: x1 :: x2 :: x3 :: x4 :: x5 :: x6 :: x7 :: x8 :: x9 :: x10 :: x11 :: x12 :: x13 :: x14 :: x15 :: x16 :: x17 :: rs) m).sat Q = (evE κ a (x0 :: x1 :: x2 :: x3 :: x4 :: x5 :: x6 :: x7 :: x8 :: x9 :: x10 :: x11 :: x12 :: x13 :: x14 :: x15 :: x16 :: x17 :: rs) m).sat fun d m1 => Q (.nx (x0 :: x1 :: x2 :: x3 :: x4 :: x5 :: x6 :: x7 :: x8 :: x9 :: x10 :: x11 :: x12 :: x13 :: x14 :: x15 :: x16 :: some d :: rs)) m1 := by simp only [evS, tgS, sat_bind, sat_ok]; rfl
theorem v_au17 {x0 x1 x2 x3 x4 x5 x6 x7 x8 x9 x10 x11 x12 x13 x14 x15 x16 : Option D} {d : D} {rs : Rho} {o : Op} : (evS κ (.aug 17 o a) (x0 :: x1 :: x2 :: x3 :: x4 :: x5 :: x6 :: x7 :: x8 :: x9 :: x10 :: x11 :: x12 :: x13 :: x14 :: x15 :: x16 :: some d :: rs) m).sat Q = (evE κ a (x0 :: x1 :: x2 :: x3 :: x4 :: x5 :: x6 :: x7 :: x8 :: x9 :: x10 :: x11 :: x12 :: x13 :: x14 :: x15 :: x16 :: some d :: rs) m).sat fun y m1 => (augS o d y m1).sat fun z m2 => Q (.nx (x0 :: x1 :: x2 :: x3 :: x4 :: x5 :: x6 :: x7 :: x8 :: x9 :: x10 :: x11 :: x12 :: x13 :: x14 :: x15 :: x16 :: some z :: rs)) m2 := by simp only [evS]; rw [show (x0 :: x1 :: x2 :: x3 :: x4 :: x5 :: x6 :: x7 :: x8 :: x9 :: x10 :: x11 :: x12 :: x13 :: x14 :: x15 :: x16 :: some d :: rs)[17]? = some (some d) from rfl]; simp only [sat_bind, sat_ok]; rfl
theorem tg_n17 {x0 x1 x2 x3 x4 x5 x6 x7 x8 x9 x10 x11 x12 x13 x14 x15 x16 x17 : Option D} {d : D} {rs : Rho} {Q : Rho → Hs → Prop} : (tgS κ (.nm 17) d (x0 :: x1 :: x2 :: x3 :: x4 :: x5 :: x6 :: x7 :: x8 :: x9 :: x10 :: x11 :: x12 :: x13 :: x14 :: x15 :: x16 :: x17 :: rs) m).sat Q = Q (x0 :: x1 :: x2 :: x3 :: x4 :: x5 :: x6 :: x7 :: x8 :: x9 :: x10 :: x11 :: x12 :: x13 :: x14 :: x15 :: x16 :: some d :: rs) m := by simp only [tgS, sat_ok]; rfl
theorem n_s18 {x0 x1 x2 x3 x4 x5 x6 x7 x8 x9 x10 x11 x12 x13 x14 x15 x16 x17 x18 : Option D} {d : D} {rs : Rho} : setN (x0 :: x1 :: x2 :: x3 :: x4 :: x5 :: x6 :: x7 :: x8 :: x9 :: x10 :: x11 :: x12 :: x13 :: x14 :: x15 :: x16 :: x17 :: x18 :: rs) 18 d = x0 :: x1 :: x2 :: x3 :: x4 :: x5 :: x6 :: x7 :: x8 :: x9 :: x10 :: x11 :: x12 :: x13 :: x14 :: x15 :: x16 :: x17 :: some d :: rs := rfl
theorem v_a18 {x0 x1 x2 x3 x4 x5 x6 x7 x8 x9 x10 x11 x12 x13 x14 x15 x16 x17 x18 : Option D} {rs : Rho} : (evS κ (.asg (.nm 18) a) (x0 :: x1 :: x2 :: x3 :: x4 :: x5 :: x6 :: x7 :: x8 :: x9 :: x10 :: x11 :: x12 :: x13 :: x14 :: x15 :: x16 :: x17 :: x18 :: rs) m).sat Q = (evE κ a (x0 :: x1 :: x2 :: x3 :: x4 :: x5 :: x6 :: x7 :: x8 :: x9 :: x10 :: x11 :: x12 :: x13 :: x14 :: x15 :: x16 :: x17 :: x18 :: rs) m).sat fun d m1 => Q (.nx (x0 :: x1 :: x2 :: x3 :: x4 :: x5 :: x6 :: x7 :: x8 :: x9 :: x10 :: x11 :: x12 :: x13 :: x14 :: x15 :: x16 :: x17 :: some d :: rs)) m1 := by simp only [evS, tgS, sat_bind, sat_ok]; rfl
theorem v_au18 {x0 x1 x2 x3 x4 x5 x6 x7 x8 x9 x10 x11 x12 x13 x14 x15 x16 x17 : Option D} {d : D} {rs : Rho} {o : Op} : (evS κ (.aug 18 o a) (x0 :: x1 :: x2 :: x3 :: x4 :: x5 :: x6 :: x7 :: x8 :: x9 :: x10 :: x11 :: x12 :: x13 :: x14 :: x15 :: x16 :: x17 :: some d :: rs) m).sat Q = (evE κ a (x0 :: x1 :: x2 :: x3 :: x4 :: x5 :: x6 :: x7 :: x8 :: x9 :: x10 :: x11 :: x12 :: x13 :: x14 :: x15 :: x16 :: x17 :: some d :: rs) m).sat fun y m1 => (augS o d y m1).sat fun z m2 => Q (.nx (x0 :: x1 :: x2 :: x3 :: x4 :: x5 :: x6 :: x7 :: x8 :: x9 :: x10 :: x11 :: x12 :: x13 :: x14 :: x15 :: x16 :: x17 :: some z :: rs)) m2 := by simp only [evS]; rw [show (x0 :: x1 :: x2 :: x3 :: x4 :: x5 :: x6 :: x7 :: x8 :: x9 :: x10 :: x11 :: x12 :: x13 :: x14 :: x15 :: x16 :: x17 :: some d :: rs)[18]? = some (some d) from rfl]; simp only [sat_bind, sat_ok]; rfl
theorem tg_n18 {x0 x1 x2 x3 x4 x5 x6 x7 x8 x9 x10 x11 x12 x13 x14 x15 x16 x17 x18 : Option D} {d : D} {rs : Rho} {Q : Rho → Hs → Prop} : (tgS κ (.nm 18) d (x0 :: x1 :: x2 :: x3 :: x4 :: x5 :: x6 :: x7 :: x8 :: x9 :: x10 :: x11 :: x12 :: x13 :: x14 :: x15 :: x16 :: x17 :: x18 :: rs) m).sat Q = Q (x0 :: x1 :: x2 :: x3 :: x4 :: x5 :: x6 :: x7 :: x8 :: x9 :: x10 :: x11 :: x12 :: x13 :: x14 :: x15 :: x16 :: x17 :: some d :: rs) m := by simp only [tgS, sat_ok]; rfl
theorem n_s19 {x0 x1 x2 x3 x4 x5 x6 x7 x8 x9 x10 x11 x12 x13 x14 x15 x16 x17 x18 x19 : Option D} {d : D} {rs : Rho} : setN (x0 :: x1 :: x2 :: x3 :: x4 :: x5 :: x6 :: x7 :: x8 :: x9 :: x10 :: x11 :: x12 :: x13 :: x14 :: x15 :: x16 :: x17 :: x18 :: x19 :: rs) 19 d = x0 :: x1 :: x2 :: x3 :: x4 :: x5 :: x6 :: x7 :: x8 :: x9 :: x10 :: x11 :: x12 :: x13 :: x14 :: x15 :: x16 :: x17 :: x18 :: some d :: rs := rfl
theorem v_a19 {x0 x1 x2 x3 x4 x5 x6 x7 x8 x9 x10 x11 x12 x13 x14 x15 x16 x17 x18 x19 : Option D} {rs : Rho} : (evS κ (.asg (.nm 19) a) (x0 :: x1 :: x2 :: x3 :: x4 :: x5 :: x6 :: x7 :: x8 :: x9 :: x10 :: x11 :: x12 :: x13 :: x14 :: x15 :: x16 :: x17 :: x18 :: x19 :: rs) m).sat Q = (evE κ a (x0 :: x1 :: x2 :: x3 :: x4 :: x5 :: x6 :: x7 :: x8 :: x9 :: x10 :: x11 :: x12 :: x13 :: x14 :: x15 :: x16 :: x17 :: x18 :: x19 :: rs) m).sat fun d m1 => Q (.nx (x0 :: x1 :: x2 :: x3 :: x4 :: x5 :: x6 :: x7 :: x8 :: x9 :: x10 :: x11 :: x12 :: x13 :: x14 :: x15 :: x16 :: x17 :: x18 :: some d :: rs)) m1 := by simp only [evS, tgS, sat_bind, sat_ok]; rfl
theorem v_au19 {x0 x1 x2 x3 x4 x5 x6 x7 x8 x9 x10 x11 x12 x13 x14 x15 x16 x17 x18 : Option D} {d : D} {rs : Rho} {o : Op} : (evS κ (.aug 19 o a) (x0 :: x1 :: x2 :: x3 :: x4 :: x5 :: x6 :: x7 :: x8 :: x9 :: x10 :: x11 :: x12 :: x13 :: x14 :: x15 :: x16 :: x17 :: x18 :: some d :: rs) m).sat Q = (evE κ a (x0 :: x1 :: x2 :: x3 :: x4 :: x5 :: x6 :: x7 :: x8 :: x9 :: x10 :: x11 :: x12 :: x13 :: x14 :: x15 :: x16 :: x17 :: x18 :: some d :: rs) m).sat fun y m1 => (augS o d y m1).sat fun z m2 => Q (.nx (x0 :: x1 :: x2 :: x3 :: x4 :: x5 :: x6 :: x7 :: x8 :: x9 :: x10 :: x11 :: x12 :: x13 :: x14 :: x15 :: x16 :: x17 :: x18 :: some z :: rs)) m2 := by simp only [evS]; rw [show (x0 :: x1 :: x2 :: x3 :: x4 :: x5 :: x6 :: x7 :: x8 :: x9 :: x10 :: x11 :: x12 :: x13 :: x14 :: x15 :: x16 :: x17 :: x18 :: some d :: rs)[19]? = some (some d) from rfl]; simp only [sat_bind, sat_ok]; rfl
theorem tg_n19 {x0 x1 x2 x3 x4 x5 x6 x7 x8 x9 x10 x11 x12 x13 x14 x15 x16 x17 x18 x19 : Option D} {d : D} {rs : Rho} {Q : Rho → Hs → Prop} : (tgS κ (.nm 19) d (x0 :: x1 :: x2 :: x3 :: x4 :: x5 :: x6 :: x7 :: x8 :: x9 :: x10 :: x11 :: x12 :: x13 :: x14 :: x15 :: x16 :: x17 :: x18 :: x19 :: rs) m).sat Q = Q (x0 :: x1 :: x2 :: x3 :: x4 :: x5 :: x6 :: x7 :: x8 :: x9 :: x10 :: x11 :: x12 :: x13 :: x14 :: x15 :: x16 :: x17 :: x18 :: some d :: rs) m := by simp only [tgS, sat_ok]; rfl
theorem n_s20 {x0 x1 x2 x3 x4 x5 x6 x7 x8 x9 x10 x11 x12 x13 x14 x15 x16 x17 x18 x19 x20 : Option D} {d : D} {rs : Rho} : setN (x0 :: x1 :: x2 :: x3 :: x4 :: x5 :: x6 :: x7 :: x8 :: x9 :: x10 :: x11 :: x12 :: x13 :: x14 :: x15 :: x16 :: x17 :: x18 :: x19 :: x20 :: rs) 20 d = x0 :: x1 :: x2 :: x3 :: x4 :: x5 :: x6 :: x7 :: x8 :: x9 :: x10 :: x11 :: x12 :: x13 :: x14 :: x15 :: x16 :: x17 :: x18 :: x19 :: some d :: rs := rfl
theorem v_a20 {x0 x1 x2 x3 x4 x5 x6 x7 x8 x9 x10 x11 x12 x13 x14 x15 x16 x17 x18 x19 x20 : Option D} {rs : Rho} : (evS κ (.asg (.nm 20) a) (x0 :: x1 :: x2 :: x3 :: x4 :: x5 :: x6 :: x7 :: x8 :: x9 :: x10 :: x11 :: x12 :: x13 :: x14 :: x15 :: x16 :: x17 :: x18 :: x19 :: x20 :: rs) m).sat Q = (evE κ a (x0 :: x1 :: x2 :: x3 :: x4 :: x5 :: x6 :: x7 :: x8 :: x9 :: x10 :: x11 :: x12 :: x13 :: x14 :: x15 :: x16 :: x17 :: x18 :: x19 :: x20 :: rs) m).sat fun d m1 => Q (.nx (x0 :: x1 :: x2 :: x3 :: x4 :: x5 :: x6 :: x7 :: x8 :: x9 :: x10 :: x11 :: x12 :: x13 :: x14 :: x15 :: x16 :: x17 :: x18 :: x19 :: some d :: rs)) m1 := by simp only [evS, tgS, sat_bind, sat_ok]; rfl
theorem v_au20 {x0 x1 x2 x3 x4 x5 x6 x7 x8 x9 x10 x11 x12 x13 x14 x15 x16 x17 x18 x19 : Option D} {d : D} {rs : Rho} {o : Op} : (evS κ (.aug 20 o a) (x0 :: x1 :: x2 :: x3 :: x4 :: x5 :: x6 :: x7 :: x8 :: x9 :: x10 :: x11 :: x12 :: x13 :: x14 :: x15 :: x16 :: x17 :: x18 :: x19 :: some d :: rs) m).sat Q = (evE κ a (x0 :: x1 :: x2 :: x3 :: x4 :: x5 :: x6 :: x7 :: x8 :: x9 :: x10 :: x11 :: x12 :: x13 :: x14 :: x15 :: x16 :: x17 :: x18 :: x19 :: some d :: rs) m).sat fun y m1 => (augS o d y m1).sat fun z m2 => Q (.nx (x0 :: x1 :: x2 :: x3 :: x4 :: x5 :: x6 :: x7 :: x8 :: x9 :: x10 :: x11 :: x12 :: x13 :: x14 :: x15 :: x16 :: x17 :: x18 :: x19 :: some z :: rs)) m2 := by simp only [evS]; rw [show (x0 :: x1 :: x2 :: x3 :: x4 :: x5 :: x6 :: x7 :: x8 :: x9 :: x10 :: x11 :: x12 :: x13 :: x14 :: x15 :: x16 :: x17 :: x18 :: x19 :: some d :: rs)[20]? = some (some d) from rfl]; simp only [sat_bind, sat_ok]; rfl
theorem tg_n20 {x0 x1 x2 x3 x4 x5 x6 x7 x8 x9 x10 x11 x12 x13 x14 x15 x16 x17 x18 x19 x20 : Option D} {d : D} {rs : Rho} {Q : Rho → Hs → Prop} : (tgS κ (.nm 20) d (x0 :: x1 :: x2 :: x3 :: x4 :: x5 :: x6 :: x7 :: x8 :: x9 :: x10 :: x11 :: x12 :: x13 :: x14 :: x15 :: x16 :: x17 :: x18 :: x19 :: x20 :: rs) m).sat Q = Q (x0 :: x1 :: x2 :: x3 :: x4 :: x5 :: x6 :: x7 :: x8 :: x9 :: x10 :: x11 :: x12 :: x13 :: x14 :: x15 :: x16 :: x17 :: x18 :: x19 :: some d :: rs) m := by simp only [tgS, sat_ok]; rfl
theorem n_s21 {x0 x1 x2 x3 x4 x5 x6 x7 x8 x9 x10 x11 x12 x13 x14 x15 x16 x17 x18 x19 x20 x21 : Option D} {d : D} {rs : Rho} : setN (x0 :: x1 :: x2 :: x3 :: x4 :: x5 :: x6 :: x7 :: x8 :: x9 :: x10 :: x11 :: x12 :: x13 :: x14 :: x15 :: x16 :: x17 :: x18 :: x19 :: x20 :: x21 :: rs) 21 d = x0 :: x1 :: x2 :: x3 :: x4 :: x5 :: x6 :: x7 :: x8 :: x9 :: x10 :: x11 :: x12 :: x13 :: x14 :: x15 :: x16 :: x17 :: x18 :: x19 :: x20 :: some d :: rs := rfl
theorem v_a21 {x0 x1 x2 x3 x4 x5 x6 x7 x8 x9 x10 x11 x12 x13 x14 x15 x16 x17 x18 x19 x20 x21 : Option D} {rs : Rho} : (evS κ (.asg (.nm 21) a) (x0 :: x1 :: x2 :: x3 :: x4 :: x5 :: x6 :: x7 :: x8 :: x9 :: x10 :: x11 :: x12 :: x13 :: x14 :: x15 :: x16 :: x17 :: x18 :: x19 :: x20 :: x21 :: rs) m).sat Q = (evE κ a (x0 :: x1 :: x2 :: x3 :: x4 :: x5 :: x6 :: x7 :: x8 :: x9 :: x10 :: x11 :: x12 :: x13 :: x14 :: x15 :: x16 :: x17 :: x18 :: x19 :: x20 :: x21 :: rs) m).sat fun d m1 => Q (.nx (x0 :: x1 :: x2 :: x3 :: x4 :: x5 :: x6 :: x7 :: x8 :: x9 :: x10 :: x11 :: x12 :: x13 :: x14 :: x15 :: x16 :: x17 :: x18 :: x19 :: x20 :: some d :: rs)) m1 := by simp only [evS, tgS, sat_bind, sat_ok]; rfl
theorem v_au21 {x0 x1 x2 x3 x4 x5 x6 x7 x8 x9 x10 x11 x12 x13 x14 x15 x16 x17 x18 x19 x20 : Option D} {d : D} {rs : Rho} {o : Op} : (evS κ (.aug 21 o a) (x0 :: x1 :: x2 :: x3 :: x4 :: x5 :: x6 :: x7 :: x8 :: x9 :: x10 :: x11 :: x12 :: x13 :: x14 :: x15 :: x16 :: x17 :: x18 :: x19 :: x20 :: some d :: rs) m).sat Q = (evE κ a (x0 :: x1 :: x2 :: x3 :: x4 :: x5 :: x6 :: x7 :: x8 :: x9 :: x10 :: x11 :: x12 :: x13 :: x14 :: x15 :: x16 :: x17 :: x18 :: x19 :: x20 :: some d :: rs) m).sat fun y m1 => (augS o d y m1).sat fun z m2 => Q (.nx (x0 :: x1 :: x2 :: x3 :: x4 :: x5 :: x6 :: x7 :: x8 :: x9 :: x10 :: x11 :: x12 :: x13 :: x14 :: x15 :: x16 :: x17 :: x18 :: x19 :: x20 :: some z :: rs)) m2 := by simp only [evS]; rw [show (x0 :: x1 :: x2 :: x3 :: x4 :: x5 :: x6 :: x7 :: x8 :: x9 :: x10 :: x11 :: x12 :: x13 :: x14 :: x15 :: x16 :: x17 :: x18 :: x19 :: x20 :: some d :: rs)[21]? = some (some d) from rfl]; simp only [sat_bind, sat_ok]; rfl
theorem tg_n21 {x0 x1 x2 x3 x4 x5 x6 x7 x8 x9 x10 x11 x12 x13 x14 x15 x16 x17 x18 x19 x20 x21 : Option D} {d : D} {rs : Rho} {Q : Rho → Hs → Prop} : (tgS κ (.nm 21) d (x0 :: x1 :: x2 :: x3 :: x4 :: x5 :: x6 :: x7 :: x8 :: x9 :: x10 :: x11 :: x12 :: x13 :: x14 :: x15 :: x16 :: x17 :: x18 :: x19 :: x20 :: x21 :: rs) m).sat Q = Q (x0 :: x1 :: x2 :: x3 :: x4 :: x5 :: x6 :: x7 :: x8 :: x9 :: x10 :: x11 :: x12 :: x13 :: x14 :: x15 :: x16 :: x17 :: x18 :: x19 :: x20 :: some d :: rs) m := by simp only [tgS, sat_ok]; rfl
theorem n_s22 {x0 x1 x2 x3 x4 x5 x6 x7 x8 x9 x10 x11 x12 x13 x14 x15 x16 x17 x18 x19 x20 x21 x22 : Option D} {d : D} {rs : Rho} : setN (x0 :: x1 :: x2 :: x3 :: x4 :: x5 :: x6 :: x7 :: x8 :: x9 :: x10 :: x11 :: x12 :: x13 :: x14 :: x15 :: x16 :: x17 :: x18 :: x19 :: x20 :: x21 :: x22 :: rs) 22 d = x0 :: x1 :: x2 :: x3 :: x4 :: x5 :: x6 :: x7 :: x8 :: x9 :: x10 :: x11 :: x12 :: x13 :: x14 :: x15 :: x16 :: x17 :: x18 :: x19 :: x20 :: x21 :: some d :: rs := rfl
theorem v_a22 {x0 x1 x2 x3 x4 x5 x6 x7 x8 x9 x10 x11 x12 x13 x14 x15 x16 x17 x18 x19 x20 x21 x22 : Option D} {rs : Rho} : (evS κ (.asg (.nm 22) a) (x0 :: x1 :: x2 :: x3 :: x4 :: x5 :: x6 :: x7 :: x8 :: x9 :: x10 :: x11 :: x12 :: x13 :: x14 :: x15 :: x16 :: x17 :: x18 :: x19 :: x20 :: x21 :: x22 :: rs) m).sat Q = (evE κ a (x0 :: x1 :: x2 :: x3 :: x4 :: x5 :: x6 :: x7 :: x8 :: x9 :: x10 :: x11 :: x12 :: x13 :: x14 :: x15 :: x16 :: x17 :: x18 :: x19 :: x20 :: x21 :: x22 :: rs) m).sat fun d m1 => Q (.nx (x0 :: x1 :: x2 :: x3 :: x4 :: x5 :: x6 :: x7 :: x8 :: x9 :: x10 :: x11 :: x12 :: x13 :: x14 :: x15 :: x16 :: x17 :: x18 :: x19 :: x20 :: x21 :: some d :: rs)) m1 := by simp only [evS, tgS, sat_bind, sat_ok]; rfl
theorem v_au22 {x0 x1 x2 x3 x4 x5 x6 x7 x8 x9 x10 x11 x12 x13 x14 x15 x16 x17 x18 x19 x20 x21 : Option D} {d : D} {rs : Rho} {o : Op} : (evS κ (.aug 22 o a) (x0 :: x1 :: x2 :: x3 :: x4 :: x5 :: x6 :: x7 :: x8 :: x9 :: x10 :: x11 :: x12 :: x13 :: x14 :: x15 :: x16 :: x17 :: x18 :: x19 :: x20 :: x21 :: some d :: rs) m).sat Q = (evE κ a (x0 :: x1 :: x2 :: x3 :: x4 :: x5 :: x6 :: x7 :: x8 :: x9 :: x10 :: x11 :: x12 :: x13 :: x14 :: x15 :: x16 :: x17 :: x18 :: x19 :: x20 :: x21 :: some d :: rs) m).sat fun y m1 => (augS o d y m1).sat fun z m2 => Q (.nx (x0 :: x1 :: x2 :: x3 :: x4 :: x5 :: x6 :: x7 :: x8 :: x9 :: x10 :: x11 :: x12 :: x13 :: x14 :: x15 :: x16 :: x17 :: x18 :: x19 :: x20 :: x21 :: some z :: rs)) m2 := by simp only [evS]; rw [show (x0 :: x1 :: x2 :: x3 :: x4 :: x5 :: x6 :: x7 :: x8 :: x9 :: x10 :: x11 :: x12 :: x13 :: x14 :: x15 :: x16 :: x17 :: x18 :: x19 :: x20 :: x21 :: some d :: rs)[22]? = some (some d) from rfl]; simp only [sat_bind, sat_ok]; rfl
theorem tg_n22 {x0 x1 x2 x3 x4 x5 x6 x7 x8 x9 x10 x11 x12 x13 x14 x15 x16 x17 x18 x19 x20 x21 x22 : Option D} {d : D} {rs : Rho} {Q : Rho → Hs → Prop} : (tgS κ (.nm 22) d (x0 :: x1 :: x2 :: x3 :: x4 :: x5 :: x6 :: x7 :: x8 :: x9 :: x10 :: x11 :: x12 :: x13 :: x14 :: x15 :: x16 :: x17 :: x18 :: x19 :: x20 :: x21 :: x22 :: rs) m).sat Q = Q (x0 :: x1 :: x2 :: x3 :: x4 :: x5 :: x6 :: x7 :: x8 :: x9 :: x10 :: x11 :: x12 :: x13 :: x14 :: x15 :: x16 :: x17 :: x18 :: x19 :: x20 :: x21 :: some d :: rs) m := by simp only [tgS, sat_ok]; rfl
theorem n_s23 {x0 x1 x2 x3 x4 x5 x6 x7 x8 x9 x10 x11 x12 x13 x14 x15 x16 x17 x18 x19 x20 x21 x22 x23 : Option D} {d : D} {rs : Rho} : setN (x0 :: x1 :: x2 :: x3 :: x4 :: x5 :: x6 :: x7 :: x8 :: x9 :: x10 :: x11 :: x12 :: x13 :: x14 :: x15 :: x16 :: x17 :: x18 :: x19 :: x20 :: x21 :: x22 :: x23 :: rs) 23 d = x0 :: x1 :: x2 :: x3 :: x4 :: x5 :: x6 :: x7 :: x8 :: x9 :: x10 :: x11 :: x12 :: x13 :: x14 :: x15 :: x16 :: x17 :: x18 :: x19 :: x20 :: x21 :: x22 :: some d :: rs := rfl
theorem v_a23 {x0 x1 x2 x3 x4 x5 x6 x7 x8 x9 x10 x11 x12 x13 x14 x15 x16 x17 x18 x19 x20 x21 x22 x23 : Option D} {rs : Rho} : (evS κ (.asg (.nm 23) a) (x0 :: x1 :: x2 :: x3 :: x4 :: x5 :: x6 :: x7 :: x8 :: x9 :: x10 :: x11 :: x12 :: x13 :: x14 :: x15 :: x16 :: x17 :: x18 :: x19 :: x20 :: x21 :: x22 :: x23 :: rs) m).sat Q = (evE κ a (x0 :: x1 :: x2 :: x3 :: x4 :: x5 :: x6 :: x7 :: x8 :: x9 :: x10 :: x11 :: x12 :: x13 :: x14 :: x15 :: x16 :: x17 :: x18 :: x19 :: x20 :: x21 :: x22 :: x23 :: rs) m).sat fun d m1 => Q (.nx (x0 :: x1 :: x2 :: x3 :: x4 :: x5 :: x6 :: x7 :: x8 :: x9 :: x10 :: x11 :: x12 :: x13 :: x14 :: x15 :: x16 :: x17 :: x18 :: x19 :: x20 :: x21 :: x22 :: some d :: rs)) m1 := by simp only [evS, tgS, sat_bind, sat_ok]; rfl
theorem v_au23 {x0 x1 x2 x3 x4 x5 x6 x7 x8 x9 x10 x11 x12 x13 x14 x15 x16 x17 x18 x19 x20 x21 x22 : Option D} {d : D} {rs : Rho} {o : Op} : (evS κ (.aug 23 o a) (x0 :: x1 :: x2 :: x3 :: x4 :: x5 :: x6 :: x7 :: x8 :: x9 :: x10 :: x11 :: x12 :: x13 :: x14 :: x15 :: x16 :: x17 :: x18 :: x19 :: x20 :: x21 :: x22 :: some d :: rs) m).sat Q = (evE κ a (x0 :: x1 :: x2 :: x3 :: x4 :: x5 :: x6 :: x7 :: x8 :: x9 :: x10 :: x11 :: x12 :: x13 :: x14 :: x15 :: x16 :: x17 :: x18 :: x19 :: x20 :: x21 :: x22 :: some d :: rs) m).sat fun y m1 => (augS o d y m1).sat fun z m2 => Q (.nx (x0 :: x1 :: x2 :: x3 :: x4 :: x5 :: x6 :: x7 :: x8 :: x9 :: x10 :: x11 :: x12 :: x13 :: x14 :: x15 :: x16 :: x17 :: x18 :: x19 :: x20 :: x21 :: x22 :: some z :: rs)) m2 := by simp only [evS]; rw [show (x0 :: x1 :: x2 :: x3 :: x4 :: x5 :: x6 :: x7 :: x8 :: x9 :: x10 :: x11 :: x12 :: x13 :: x14 :: x15 :: x16 :: x17 :: x18 :: x19 :: x20 :: x21 :: x22 :: some d :: rs)[23]? = some (some d) from rfl]; simp only [sat_bind, sat_ok]; rfl
theorem tg_n23 {x0 x1 x2 x3 x4 x5 x6 x7 x8 x9 x10 x11 x12 x13 x14 x15 x16 x17 x18 x19 x20 x21 x22 x23 : Option D} {d : D} {rs : Rho} {Q : Rho → Hs → Prop} : (tgS κ (.nm 23) d (x0 :: x1 :: x2 :: x3 :: x4 :: x5 :: x6 :: x7 :: x8 :: x9 :: x10 :: x11 :: x12 :: x13 :: x14 :: x15 :: x16 :: x17 :: x18 :: x19 :: x20 :: x21 :: x22 :: x23 :: rs) m).sat Q = Q (x0 :: x1 :: x2 :: x3 :: x4 :: x5 :: x6 :: x7 :: x8 :: x9 :: x10 :: x11 :: x12 :: x13 :: x14 :: x15 :: x16 :: x17 :: x18 :: x19 :: x20 :: x21 :: x22 :: some d :: rs) m := by simp only [tgS, sat_ok]; rfl
theorem n_s24 {x0 x1 x2 x3 x4 x5 x6 x7 x8 x9 x10 x11 x12 x13 x14 x15 x16 x17 x18 x19 x20 x21 x22 x23 x24 : Option D} {d : D} {rs : Rho} : setN (x0 :: x1 :: x2 :: x3 :: x4 :: x5 :: x6 :: x7 :: x8 :: x9 :: x10 :: x11 :: x12 :: x13 :: x14 :: x15 :: x16 :: x17 :: x18 :: x19 :: x20 :: x21 :: x22 :: x23 :: x24 :: rs) 24 d = x0 :: x1 :: x2 :: x3 :: x4 :: x5 :: x6 :: x7 :: x8 :: x9 :: x10 :: x11 :: x12 :: x13 :: x14 :: x15 :: x16 :: x17 :: x18 :: x19 :: x20 :: x21 :: x22 :: x23 :: some d :: rs := rfl
theorem v_a24 {x0 x1 x2 x3 x4 x5 x6 x7 x8 x9 x10 x11 x12 x13 x14 x15 x16 x17 x18 x19 x20 x21 x22 x23 x24 : Option D} {rs : Rho} : (evS κ (.asg (.nm 24) a) (x0 :: x1 :: x2 :: x3 :: x4 :: x5 :: x6 :: x7 :: x8 :: x9 :: x10 :: x11 :: x12 :: x13 :: x14 :: x15 :: x16 :: x17 :: x18 :: x19 :: x20 :: x21 :: x22 :: x23 :: x24 :: rs) m).sat Q = (evE κ a (x0 :: x1 :: x2 :: x3 :: x4 :: x5 :: x6 :: x7 :: x8 :: x9 :: x10 :: x11 :: x12 :: x13 :: x14 :: x15 :: x16 :: x17 :: x18 :: x19 :: x20 :: x21 :: x22 :: x23 :: x24 :: rs) m).sat fun d m1 => Q (.nx (x0 :: x1 :: x2 :: x3 :: x4 :: x5 :: x6 :: x7 :: x8 :: x9 :: x10 :: x11 :: x12 :: x13 :: x14 :: x15 :: x16 :: x17 :: x18 :: x19 :: x20 :: x21 :: x22 :: x23 :: some d :: rs)) m1 := by simp only [evS, tgS, sat_bind, sat_ok]; rfl
theorem v_au24 {x0 x1 x2 x3 x4 x5 x6 x7 x8 x9 x10 x11 x12 x13 x14 x15 x16 x17 x18 x19 x20 x21 x22 x23 : Option D} {d : D} {rs : Rho} {o : Op} : (evS κ (.aug 24 o a) (x0 :: x1 :: x2 :: x3 :: x4 :: x5 :: x6 :: x7 :: x8 :: x9 :: x10 :: x11 :: x12 :: x13 :: x14 :: x15 :: x16 :: x17 :: x18 :: x19 :: x20 :: x21 :: x22 :: x23 :: some d :: rs) m).sat Q = (evE κ a (x0 :: x1 :: x2 :: x3 :: x4 :: x5 :: x6 :: x7 :: x8 :: x9 :: x10 :: x11 :: x12 :: x13 :: x14 :: x15 :: x16 :: x17 :: x18 :: x19 :: x20 :: x21 :: x22 :: x23 :: some d :: rs) m).sat fun y m1 => (augS o d y m1).sat fun z m2 => Q (.nx (x0 :: x1 :: x2 :: x3 :: x4 :: x5 :: x6 :: x7 :: x8 :: x9 :: x10 :: x11 :: x12 :: x13 :: x14 :: x15 :: x16 :: x17 :: x18 :: x19 :: x20 :: x21 :: x22 :: x23 :: some z :: rs)) m2 := by simp only [evS]; rw [show (x0 :: x1 :: x2 :: x3 :: x4 :: x5 :: x6 :: x7 :: x8 :: x9 :: x10 :: x11 :: x12 :: x13 :: x14 :: x15 :: x16 :: x17 :: x18 :: x19 :: x20 :: x21 :: x22 :: x23 :: some d :: rs)[24]? = some (some d) from rfl]; simp only [sat_bind, sat_ok]; rfl
theorem tg_n24 {x0 x1 x2 x3 x4 x5 x6 x7 x8 x9 x10 x11 x12 x13 x14 x15 x16 x17 x18 x19 x20 x21 x22 x23 x24 : Option D} {d : D} {rs : Rho} {Q : Rho → Hs → Prop} : (tgS κ (.nm 24) d (x0 :: x1 :: x2 :: x3 :: x4 :: x5 :: x6 :: x7 :: x8 :: x9 :: x10 :: x11 :: x12 :: x13 :: x14 :: x15 :: x16 :: x17 :: x18 :: x19 :: x20 :: x21 :: x22 :: x23 :: x24 :: rs) m).sat Q = Q (x0 :: x1 :: x2 :: x3 :: x4 :: x5 :: x6 :: x7 :: x8 :: x9 :: x10 :: x11 :: x12 :: x13 :: x14 :: x15 :: x16 :: x17 :: x18 :: x19 :: x20 :: x21 :: x22 :: x23 :: some d :: rs) m := by simp only [tgS, sat_ok]; rfl
theorem n_s25 {x0 x1 x2 x3 x4 x5 x6 x7 x8 x9 x10 x11 x12 x13 x14 x15 x16 x17 x18 x19 x20 x21 x22 x23 x24 x25 : Option D} {d : D} {rs : Rho} : setN (x0 :: x1 :: x2 :: x3 :: x4 :: x5 :: x6 :: x7 :: x8 :: x9 :: x10 :: x11 :: x12 :: x13 :: x14 :: x15 :: x16 :: x17 :: x18 :: x19 :: x20 :: x21 :: x22 :: x23 :: x24 :: x25 :: rs) 25 d = x0 :: x1 :: x2 :: x3 :: x4 :: x5 :: x6 :: x7 :: x8 :: x9 :: x10 :: x11 :: x12 :: x13 :: x14 :: x15 :: x16 :: x17 :: x18 :: x19 :: x20 :: x21 :: x22 :: x23 :: x24 :: some d :: rs := rfl
theorem v_a25 {x0 x1 x2 x3 x4 x5 x6 x7 x8 x9 x10 x11 x12 x13 x14 x15 x16 x17 x18 x19 x20 x21 x22 x23 x24 x25 : Option D} {rs : Rho} : (evS κ (.asg (.nm 25) a) (x0 :: x1 :: x2 :: x3 :: x4 :: x5 :: x6 :: x7 :: x8 :: x9 :: x10 :: x11 :: x12 :: x13 :: x14 :: x15 :: x16 :: x17 :: x18 :: x19 :: x20 :: x21 :: x22 :: x23 :: x24 :: x25 :: rs) m).sat Q = (evE κ a (x0 :: x1 :: x2 :: x3 :: x4 :: x5 :: x6 :: x7 :: x8 :: x9 :: x10 :: x11 :: x12 :: x13 :: x14 :: x15 :: x16 :: x17 :: x18 :: x19 :: x20 :: x21 :: x22 :: x23 :: x24 :: x25 :: rs) m).sat fun d m1 => Q (.nx (x0 :: x1 :: x2 :: x3 :: x4 :: x5 :: x6 :: x7 :: x8 :: x9 :: x10 :: x11 :: x12 :: x13 :: x14 :: x15 :: x16 :: x17 :: x18 :: x19 :: x20 :: x21 :: x22 :: x23 :: x24 :: some d :: rs)) m1 := by simp only [evS, tgS, sat_bind, sat_ok]; rfl
theorem v_au25 {x0 x1 x2 x3 x4 x5 x6 x7 x8 x9 x10 x11 x12 x13 x14 x15 x16 x17 x18 x19 x20 x21 x22 x23 x24 : Option D} {d : D} {rs : Rho} {o : Op} : (evS κ (.aug 25 o a) (x0 :: x1 :: x2 :: x3 :: x4 :: x5 :: x6 :: x7 :: x8 :: x9 :: x10 :: x11 :: x12 :: x13 :: x14 :: x15 :: x16 :: x17 :: x18 :: x19 :: x20 :: x21 :: x22 :: x23 :: x24 :: some d :: rs) m).sat Q = (evE κ a (x0 :: x1 :: x2 :: x3 :: x4 :: x5 :: x6 :: x7 :: x8 :: x9 :: x10 :: x11 :: x12 :: x13 :: x14 :: x15 :: x16 :: x17 :: x18 :: x19 :: x20 :: x21 :: x22 :: x23 :: x24 :: some d :: rs) m).sat fun y m1 => (augS o d y m1).sat fun z m2 => Q (.nx (x0 :: x1 :: x2 :: x3 :: x4 :: x5 :: x6 :: x7 :: x8 :: x9 :: x10 :: x11 :: x12 :: x13 :: x14 :: x15 :: x16 :: x17 :: x18 :: x19 :: x20 :: x21 :: x22 :: x23 :: x24 :: some z :: rs)) m2 := by simp only [evS]; rw [show (x0 :: x1 :: x2 :: x3 :: x4 :: x5 :: x6 :: x7 :: x8 :: x9 :: x10 :: x11 :: x12 :: x13 :: x14 :: x15 :: x16 :: x17 :: x18 :: x19 :: x20 :: x21 :: x22 :: x23 :: x24 :: some d :: rs)[25]? = some (some d) from rfl]; simp only [sat_bind, sat_ok]; rfl
theorem tg_n25 {x0 x1 x2 x3 x4 x5 x6 x7 x8 x9 x10 x11 x12 x13 x14 x15 x16 x17 x18 x19 x20 x21 x22 x23 x24 x25 : Option D} {d : D} {rs : Rho} {Q : Rho → Hs → Prop} : (tgS κ (.nm 25) d (x0 :: x1 :: x2 :: x3 :: x4 :: x5 :: x6 :: x7 :: x8 :: x9 :: x10 :: x11 :: x12 :: x13 :: x14 :: x15 :: x16 :: x17 :: x18 :: x19 :: x20 :: x21 :: x22 :: x23 :: x24 :: x25 :: rs) m).sat Q = Q (x0 :: x1 :: x2 :: x3 :: x4 :: x5 :: x6 :: x7 :: x8 :: x9 :: x10 :: x11 :: x12 :: x13 :: x14 :: x15 :: x16 :: x17 :: x18 :: x19 :: x20 :: x21 :: x22 :: x23 :: x24 :: some d :: rs) m := by simp only [tgS, sat_ok]; rfl
end
end G
namespace G
open PySem
/-! ### more of the same -/
section
variable {m : Hs} {Q : D → Hs → Prop}
theorem ix_t0 {x : D} {xs : List D} : (idxS (.tup (x :: xs)) (.int 0) m).sat Q = Q x m := by simp [idxS, itemsOf, ixD, sat_ok]
theorem ix_t1 {x y : D} {xs : List D} : (idxS (.tup (x :: y :: xs)) (.int 1) m).sat Q = Q y m := by
  simp only [idxS, itemsOf, ixD, List.length_cons]
  rw [if_pos (by omega), if_pos (by omega)]
  rfl
theorem ix_t2 {x y z : D} {xs : List D} : (idxS (.tup (x :: y :: z :: xs)) (.int 2) m).sat Q = Q z m := by
  simp only [idxS, itemsOf, ixD, List.length_cons]
  rw [if_pos (by omega), if_pos (by omega)]
  rfl
theorem ix_r0 {n : Nat} {x : D} {xs : List D} (h : m[n]? = some (.lst (x :: xs))) : (idxS (.ref n) (.int 0) m).sat Q = Q x m := by simp [idxS, itemsOf, ixD, sat_ok, h]
theorem ix_r1 {n : Nat} {x y : D} {xs : List D} (h : m[n]? = some (.lst (x :: y :: xs))) : (idxS (.ref n) (.int 1) m).sat Q = Q y m := by
  simp only [idxS, itemsOf, ixD, List.length_cons, h]
  rw [if_pos (by omega), if_pos (by omega)]
  rfl
theorem ix_r2 {n : Nat} {x y z : D} {xs : List D} (h : m[n]? = some (.lst (x :: y :: z :: xs))) : (idxS (.ref n) (.int 2) m).sat Q = Q z m := by
  simp only [idxS, itemsOf, ixD, List.length_cons, h]
  rw [if_pos (by omega), if_pos (by omega)]
  rfl
theorem ix_at {xs : List D} {j : Int} {v : D} (h0 : 0 ≤ j) (h : xs[j.toNat]? = some v) : (idxS (.tup xs) (.int j) m).sat Q = Q v m := by
  have hl : j.toNat < xs.length := (List.getElem?_eq_some_iff.1 h).1
  simp only [idxS, itemsOf, ixD]
  rw [if_pos h0, if_pos (by omega)]
  simp only [Option.bind, h, sat_ok]
theorem ix_atF {xs : List D} {j : Int} {v : D} (h0 : 0 ≤ j) (h : xs[j.toNat]? = some v) : (idxS (.fl xs) (.int j) m).sat Q = Q v m := by
  have hl : j.toNat < xs.length := (List.getElem?_eq_some_iff.1 h).1
  simp only [idxS, itemsOf, ixD]
  rw [if_pos h0, if_pos (by omega)]
  simp only [Option.bind, h, sat_ok]
theorem ix_atR {n : Nat} {xs : List D} {j : Int} {v : D} (hm : m[n]? = some (.lst xs)) (h0 : 0 ≤ j) (h : xs[j.toNat]? = some v) : (idxS (.ref n) (.int j) m).sat Q = Q v m := by
  have hl : j.toNat < xs.length := (List.getElem?_eq_some_iff.1 h).1
  simp only [idxS, itemsOf, ixD, hm]
  rw [if_pos h0, if_pos (by omega)]
  simp only [Option.bind, h, sat_ok]
theorem ix_last {xs : List D} {v : D} (h : xs.getLast? = some v) : (idxS (.tup xs) (.int (-1)) m).sat Q = Q v m := by
  have hl : 0 < xs.length := by
    cases xs with
    | nil => simp at h
    | cons => simp
  simp only [idxS, itemsOf, ixD]
  rw [if_neg (by omega), if_pos (by omega)]
  have e : (-1 + (xs.length : Int)).toNat = xs.length - 1 := by omega
  rw [List.getLast?_eq_getElem?] at h
  simp only [Option.bind, e, h, sat_ok]
theorem pl_0 {x : D} {xs : List D} {P : Nat → Prop} : oSat (placeS (x :: xs).length (.int 0)) P = P 0 := by simp [placeS, ixD, oSat]
theorem pl_1 {x y : D} {xs : List D} {P : Nat → Prop} : oSat (placeS (x :: y :: xs).length (.int 1)) P = P 1 := by
  simp only [placeS, ixD, List.length_cons]
  rw [if_pos (by omega), if_pos (by omega)]
  rfl
theorem pl_2 {x y z : D} {xs : List D} {P : Nat → Prop} : oSat (placeS (x :: y :: z :: xs).length (.int 2)) P = P 2 := by
  simp only [placeS, ixD, List.length_cons]
  rw [if_pos (by omega), if_pos (by omega)]
  rfl
theorem set_0 {x d : D} {xs : List D} : (x :: xs).set 0 d = d :: xs := rfl
theorem set_1 {x y d : D} {xs : List D} : (x :: y :: xs).set 1 d = x :: d :: xs := rfl
theorem set_2 {x y z d : D} {xs : List D} : (x :: y :: z :: xs).set 2 d = x :: y :: d :: xs := rfl
theorem get_sa {n : Nat} {o : O} {g : Hs} (h : n < m.length) : (m.set n o ++ g)[n]? = some o := by
  rw [List.getElem?_append_left (by simpa using h)]
  simp [h]
theorem get_s {n : Nat} {o : O} (h : n < m.length) : (m.set n o)[n]? = some o := by simp [h]
theorem get_a {n : Nat} {g : Hs} (h : n < m.length) : (m ++ g)[n]? = m[n]? := List.getElem?_append_left h
theorem gt_new {o : O} : (m ++ [o])[m.length]? = some o := by simp
theorem ix_s0 {n : Nat} {x : D} {xs : List D} (h : n < m.length) : (idxS (.ref n) (.int 0) (m.set n (.lst (x :: xs)))).sat Q = Q x (m.set n (.lst (x :: xs))) := ix_r0 (get_s h)
theorem ix_s1 {n : Nat} {x y : D} {xs : List D} (h : n < m.length) : (idxS (.ref n) (.int 1) (m.set n (.lst (x :: y :: xs)))).sat Q = Q y (m.set n (.lst (x :: y :: xs))) := ix_r1 (get_s h)
theorem ix_s2 {n : Nat} {x y z : D} {xs : List D} (h : n < m.length) : (idxS (.ref n) (.int 2) (m.set n (.lst (x :: y :: z :: xs)))).sat Q = Q z (m.set n (.lst (x :: y :: z :: xs))) := ix_r2 (get_s h)
theorem ix_sa0 {n : Nat} {x : D} {xs : List D} {g : Hs} (h : n < m.length) : (idxS (.ref n) (.int 0) (m.set n (.lst (x :: xs)) ++ g)).sat Q = Q x (m.set n (.lst (x :: xs)) ++ g) := ix_r0 (get_sa h)
theorem ix_sa1 {n : Nat} {x y : D} {xs : List D} {g : Hs} (h : n < m.length) : (idxS (.ref n) (.int 1) (m.set n (.lst (x :: y :: xs)) ++ g)).sat Q = Q y (m.set n (.lst (x :: y :: xs)) ++ g) := ix_r1 (get_sa h)
theorem ix_sa2 {n : Nat} {x y z : D} {xs : List D} {g : Hs} (h : n < m.length) : (idxS (.ref n) (.int 2) (m.set n (.lst (x :: y :: z :: xs)) ++ g)).sat Q = Q z (m.set n (.lst (x :: y :: z :: xs)) ++ g) := ix_r2 (get_sa h)
theorem ix_new {xs : List D} {j : Int} : (idxS (.ref m.length) (.int j) (m ++ [.lst xs])).sat Q = (idxS (.tup xs) (.int j) (m ++ [.lst xs])).sat Q := by
  simp only [idxS, itemsOf]
  simp
theorem ix_any {xs : List D} {j : Int} (h0 : 0 ≤ j) (h : j < xs.length) (hq : ∀ x, x ∈ xs → Q x m) : (idxS (.tup xs) (.int j) m).sat Q := by
  have hl : j.toNat < xs.length := by omega
  rw [ix_at h0 (List.getElem?_eq_getElem hl)]
  exact hq _ (List.getElem_mem hl)
theorem f_isiII {j : Int} : (biS (.isi .int) [.int j] m).sat Q = Q (.bl true) m := rfl
theorem f_isiIB {j : Int} : (biS (.isi .bl) [.int j] m).sat Q = Q (.bl false) m := rfl
theorem f_isiTT {j : List D} : (biS (.isi .tup) [.tup j] m).sat Q = Q (.bl true) m := rfl
theorem f_isiSS {j : Str} : (biS (.isi .str) [.str j] m).sat Q = Q (.bl true) m := rfl
theorem f_lenN {xs : List D} : (biS .len [.ref m.length] (m ++ [.lst xs])).sat Q = Q (.int xs.length) (m ++ [.lst xs]) := f_lenR (by simp)
theorem f_tupN {xs : List D} : (biS .tuple [.ref m.length] (m ++ [.lst xs])).sat Q = Q (.tup xs) (m ++ [.lst xs]) := f_tupR (by simp)
theorem f_sumN {xs : List D} : (biS .sum [.ref m.length] (m ++ [.lst xs])).sat Q = oSat (sumI xs) fun s => Q (.int s) (m ++ [.lst xs]) := f_sumR (by simp)
theorem f_allN {xs : List D} : (biS .all [.ref m.length] (m ++ [.lst xs])).sat Q = oSat (boolsOf xs) fun s => Q (.bl (s.all id)) (m ++ [.lst xs]) := f_allR (by simp)
theorem gc_setg {g : Hs} {d : D} {n : Nat} {o : O} (h : below m.length d = true) (ho : belowO m.length o = true) : (gcR m d (m.set n o ++ g)).sat Q = Q d (m.set n o) := by rw [gcR_set h ho, sat_ok]
/-! ### what a loop walks -/
variable {R : List D × List (Nat × List D) → Hs → Prop}
theorem it_rng1 {j : Int} : (itR .rng1 [.int j] m).sat R = ((-(2 ^ 62) ≤ j ∧ j < 2 ^ 62) ∧ R (rngL 0 j.toNat, []) m) := by
  simp only [itR, itS]
  split
  · rename_i z hz
    split at hz
    · rename_i hn
      cases hz
      simp only [hn, and_self, true_and, sat_ok]
    · cases hz
  · rename_i hz
    split at hz
    · cases hz
    · rename_i hn
      simp only [sat_bad, hn, false_and]
theorem it_rng2 {j l : Int} : (itR .rng2 [.int j, .int l] m).sat R = ((-(2 ^ 62) ≤ j ∧ j < 2 ^ 62 ∧ -(2 ^ 62) ≤ l ∧ l < 2 ^ 62) ∧ R (rngL j (l - j).toNat, []) m) := by
  simp only [itR, itS]
  split
  · rename_i z hz
    split at hz
    · rename_i hn
      cases hz
      simp only [hn, and_self, true_and, sat_ok]
    · cases hz
  · rename_i hz
    split at hz
    · cases hz
    · rename_i hn
      simp only [sat_bad, hn, false_and]
theorem it_seqT {xs : List D} : (itR .seq [.tup xs] m).sat R = R (xs, []) m := rfl
theorem it_seqF {xs : List D} : (itR .seq [.fl xs] m).sat R = R (xs, []) m := rfl
theorem it_seqR {n : Nat} {xs : List D} (h : m[n]? = some (.lst xs)) : (itR .seq [.ref n] m).sat R = R (xs, [(n, xs)]) m := by
  simp only [itR, itS, guardOf, h, sat_ok]
theorem it_enumT {xs : List D} : (itR .enum [.tup xs] m).sat R = R (enumL 0 xs, []) m := rfl
theorem it_zipT {xs ys : List D} : (itR .zip [.tup xs, .tup ys] m).sat R = R (zipL xs ys, []) m := rfl
theorem stays_nil : stays [] m = true := rfl
/-! ### == of pairs -/
theorem eq_int {x y : Int} : eqS (.int x) (.int y) m = some (decide (x = y)) := by
  simp [eqS, eqP, pyD, PyData.eqv]
  rfl
theorem eq_pair {a b c d : Int} : eqS (.tup [.int a, .int b]) (.tup [.int c, .int d]) m = some (decide (a = c) && decide (b = d)) := by
  simp [eqS, eqP, pyD, PyData.eqv, deepest, mapO, PyData.eqvAll]
  rfl
/-! ### sizes -/
theorem log2_small {x : Int} (h : x.natAbs < 2 ^ 200) : x.natAbs.log2 < 200 := by
  rcases Nat.eq_zero_or_pos x.natAbs with e | e
  · rw [e]; decide
  · exact (Nat.log2_lt (by omega)).2 h
theorem mul_ok {x y : Int} (h : x.natAbs < 2 ^ 200) (h2 : y.natAbs < 2 ^ 200) : x.natAbs.log2 + y.natAbs.log2 < 1000000 := by
  have := log2_small h
  have := log2_small h2
  omega
end
end G
set_option maxRecDepth 100000
set_option maxHeartbeats 4000000
namespace G.K13
open PySem G
/-- a drawer at n: three whole numbers, at most S draws -/
def Drw (m : Hs) (n : Nat) (S : Int) : Prop := ∃ a b s : Int, m[n]? = some (.lst [.int a, .int b, .int s]) ∧ 0 ≤ a ∧ 0 ≤ b ∧ b < 2 ^ 62 ∧ 0 ≤ s ∧ s ≤ S
def isLst (o : O) : Prop := ∃ a b s : Int, o = .lst [.int a, .int b, .int s]
theorem isLst.below {o : O} (h : isLst o) (n : Nat) : belowO n o = true := by
  obtain ⟨a, b, s, rfl⟩ := h
  rfl
theorem below_sp {k n : Nat} {many S : Int} {m : Hs} (hd : Drw m n S) (hS : S ≤ 2 ^ 40) (h0 : 0 < many) (h1 : many < 2 ^ 100) :
    (callN Dt (k + 1) 17 [.ref n, .int many] m).sat fun d m' => ∃ v o, d = .int v ∧ 0 ≤ v ∧ v < many ∧ m' = m.set n o ∧ isLst o ∧ Drw m' n (S + 1) := by
  obtain ⟨a, b, s, hm, ha, hb, hb2, hs, hs2⟩ := hd
  have hn : n < m.length := (List.getElem?_eq_some_iff.1 hm).1
  refine fn_sat (fn := f_law_below) rfl rfl [some (.ref n), some (.int many), none, none, none, none] rfl ?_
  show (evSs _ b_law_below _ _).sat _
  unfold b_law_below
  simp only [↓w_v0, ↓tg_n0, ↓v_au0, ↓w_v1, ↓tg_n1, ↓v_au1, ↓w_v2, ↓tg_n2, ↓v_au2, ↓w_v3, ↓tg_n3, ↓v_au3, ↓w_v4, ↓tg_n4, ↓v_au4, ↓w_v5, ↓tg_n5, ↓v_au5, ↓w_v6, ↓tg_n6, ↓v_au6, ↓w_v7, ↓tg_n7, ↓v_au7, ↓w_v8, ↓tg_n8, ↓v_au8, ↓w_v9, ↓tg_n9, ↓v_au9, ↓w_v10, ↓tg_n10, ↓v_au10, ↓w_v11, ↓tg_n11, ↓v_au11, ↓w_v12, ↓tg_n12, ↓v_au12, ↓w_v13, ↓tg_n13, ↓v_au13, ↓w_v14, ↓tg_n14, ↓v_au14, ↓w_v15, ↓tg_n15, ↓v_au15, ↓w_v16, ↓tg_n16, ↓v_au16, ↓w_v17, ↓tg_n17, ↓v_au17, ↓w_v18, ↓tg_n18, ↓v_au18, ↓w_v19, ↓tg_n19, ↓v_au19, ↓w_v20, ↓tg_n20, ↓v_au20, ↓w_v21, ↓tg_n21, ↓v_au21, ↓w_v22, ↓tg_n22, ↓v_au22, ↓w_v23, ↓tg_n23, ↓v_au23, ↓w_v24, ↓tg_n24, ↓v_au24, ↓w_v25, ↓tg_n25, ↓v_au25, ↓w_cst, ↓w_bin, ↓w_cmp, ↓w_neg, ↓w_not, ↓w_and, ↓w_or, ↓w_ite, ↓w_chn, ↓w_tup, ↓w_lst, ↓w_idx, ↓w_slc, ↓w_call, ↓w_bi, ↓w_fld, ↓w_meth, ↓w_make, ↓w_lc, ↓ws_nil, ↓ws_cons, ↓b_add, ↓b_sub, ↓b_mul, ↓b_fdiv, ↓b_mod, ↓b_pow, ↓b_shl, ↓b_addT, ↓k_lt, ↓k_le, ↓k_gt, ↓k_ge, ↓k_eqI, ↓k_neI, ↓k_eqStr, ↓k_neStr, ↓k_is, ↓k_isnot, ↓k_in, ↓k_notin, ↓isN_non, ↓isN_int, ↓isN_tup, ↓isN_ref, ↓isN_bl, ↓isN_str, ↓t_bl, ↓t_non, ↓t_int, ↓t_tup, ↓ix_t0, ↓ix_t1, ↓ix_t2, ↓ix_r0, ↓ix_r1, ↓ix_r2, ↓sl_tup, ↓sl_ref, ↓po_nil, ↓po_int, ↓f_lenT, ↓f_lenF, ↓f_lenR, ↓f_abs, ↓f_min, ↓f_max, ↓f_intB, ↓f_tupR, ↓f_sumR, ↓f_allR, ↓f_isiII, ↓f_isiIB, ↓f_isiTT, ↓f_isiSS, ↓negS_int, ↓chnS_bl, ↓nonS_non, ↓oSat_some, ↓insS_ref, ↓insS_app, ↓insS_set, ↓lstS_ref, ↓lstS_app, ↓lstS_set, ↓seq_nx, ↓seq_rt, ↓seq_bk, ↓seq_ct, ↓v_nil, ↓v_cons, ↓v_pass, ↓v_exp, ↓v_ret, ↓v_retN, ↓v_brk, ↓v_cnt, ↓v_ife, ↓v_asg, ↓v_asg2, ↓v_par, ↓v_par3, ↓v_ifw, ↓v_app, ↓v_ext, ↓v_augF, ↓v_for, ↓v_whl, ↓tq_fld, ↓tq_sub, ↓tq_tp, ↓tqs_nil, ↓tqs_cons, ↓tupS_tup, ↓pl_0, ↓pl_1, ↓pl_2, ↓g_add, ↓g_sub, ↓turn_nx, ↓turn_ct, ↓turn_bk, ↓turn_rt, ↓end_rt, ↓end_nx, ↓it_rng1, ↓it_rng2, ↓it_seqT, ↓it_seqF, ↓it_seqR, ↓it_enumT, ↓it_zipT, ↓ix_s0, ↓ix_s1, ↓ix_s2, ↓ix_sa0, ↓ix_sa1, ↓ix_sa2, ↓ix_new, ↓f_lenN, ↓f_tupN, ↓f_sumN, ↓f_allN, ↓sat_ok, ↓List.set_set, List.length_set, true_and, and_true, and_self, set_0, set_1, set_2, ↓ix_r0 hm, ↓ix_r1 hm, ↓ix_r2 hm, ↓lstS_ref hm, hn]
  split
  · refine ⟨h0, ⟨h0, Nat.lt_trans (log2_small (by omega)) (by decide)⟩, ?_⟩
    rw [gc_set rfl rfl]
    refine ⟨_, _, rfl, Int.emod_nonneg _ (by omega), Int.emod_lt_of_pos _ h0, rfl, ⟨_, _, _, rfl⟩, _, _, _, get_s hn, Int.ediv_nonneg ha (by omega), hb, hb2, hs, by omega⟩
  · refine ⟨by decide, by decide, ?_⟩
    refine ix_any (Int.emod_nonneg _ (by decide)) (Int.emod_lt_of_pos _ (by decide)) fun x hx => ?_
    have hx2 : ∃ md : Int, x = .int md ∧ 0 < md ∧ md < 2 ^ 62 := by
      simp only [List.mem_cons, List.not_mem_nil, or_false] at hx
      rcases hx with rfl | rfl | rfl | rfl <;> exact ⟨_, rfl, by decide, by decide⟩
    obtain ⟨md, rfl, hm0, hm1⟩ := hx2
    simp only [↓w_v0, ↓tg_n0, ↓v_au0, ↓w_v1, ↓tg_n1, ↓v_au1, ↓w_v2, ↓tg_n2, ↓v_au2, ↓w_v3, ↓tg_n3, ↓v_au3, ↓w_v4, ↓tg_n4, ↓v_au4, ↓w_v5, ↓tg_n5, ↓v_au5, ↓w_v6, ↓tg_n6, ↓v_au6, ↓w_v7, ↓tg_n7, ↓v_au7, ↓w_v8, ↓tg_n8, ↓v_au8, ↓w_v9, ↓tg_n9, ↓v_au9, ↓w_v10, ↓tg_n10, ↓v_au10, ↓w_v11, ↓tg_n11, ↓v_au11, ↓w_v12, ↓tg_n12, ↓v_au12, ↓w_v13, ↓tg_n13, ↓v_au13, ↓w_v14, ↓tg_n14, ↓v_au14, ↓w_v15, ↓tg_n15, ↓v_au15, ↓w_v16, ↓tg_n16, ↓v_au16, ↓w_v17, ↓tg_n17, ↓v_au17, ↓w_v18, ↓tg_n18, ↓v_au18, ↓w_v19, ↓tg_n19, ↓v_au19, ↓w_v20, ↓tg_n20, ↓v_au20, ↓w_v21, ↓tg_n21, ↓v_au21, ↓w_v22, ↓tg_n22, ↓v_au22, ↓w_v23, ↓tg_n23, ↓v_au23, ↓w_v24, ↓tg_n24, ↓v_au24, ↓w_v25, ↓tg_n25, ↓v_au25, ↓w_cst, ↓w_bin, ↓w_cmp, ↓w_neg, ↓w_not, ↓w_and, ↓w_or, ↓w_ite, ↓w_chn, ↓w_tup, ↓w_lst, ↓w_idx, ↓w_slc, ↓w_call, ↓w_bi, ↓w_fld, ↓w_meth, ↓w_make, ↓w_lc, ↓ws_nil, ↓ws_cons, ↓b_add, ↓b_sub, ↓b_mul, ↓b_fdiv, ↓b_mod, ↓b_pow, ↓b_shl, ↓b_addT, ↓k_lt, ↓k_le, ↓k_gt, ↓k_ge, ↓k_eqI, ↓k_neI, ↓k_eqStr, ↓k_neStr, ↓k_is, ↓k_isnot, ↓k_in, ↓k_notin, ↓isN_non, ↓isN_int, ↓isN_tup, ↓isN_ref, ↓isN_bl, ↓isN_str, ↓t_bl, ↓t_non, ↓t_int, ↓t_tup, ↓ix_t0, ↓ix_t1, ↓ix_t2, ↓ix_r0, ↓ix_r1, ↓ix_r2, ↓sl_tup, ↓sl_ref, ↓po_nil, ↓po_int, ↓f_lenT, ↓f_lenF, ↓f_lenR, ↓f_abs, ↓f_min, ↓f_max, ↓f_intB, ↓f_tupR, ↓f_sumR, ↓f_allR, ↓f_isiII, ↓f_isiIB, ↓f_isiTT, ↓f_isiSS, ↓negS_int, ↓chnS_bl, ↓nonS_non, ↓oSat_some, ↓insS_ref, ↓insS_app, ↓insS_set, ↓lstS_ref, ↓lstS_app, ↓lstS_set, ↓seq_nx, ↓seq_rt, ↓seq_bk, ↓seq_ct, ↓v_nil, ↓v_cons, ↓v_pass, ↓v_exp, ↓v_ret, ↓v_retN, ↓v_brk, ↓v_cnt, ↓v_ife, ↓v_asg, ↓v_asg2, ↓v_par, ↓v_par3, ↓v_ifw, ↓v_app, ↓v_ext, ↓v_augF, ↓v_for, ↓v_whl, ↓tq_fld, ↓tq_sub, ↓tq_tp, ↓tqs_nil, ↓tqs_cons, ↓tupS_tup, ↓pl_0, ↓pl_1, ↓pl_2, ↓g_add, ↓g_sub, ↓turn_nx, ↓turn_ct, ↓turn_bk, ↓turn_rt, ↓end_rt, ↓end_nx, ↓it_rng1, ↓it_rng2, ↓it_seqT, ↓it_seqF, ↓it_seqR, ↓it_enumT, ↓it_zipT, ↓ix_s0, ↓ix_s1, ↓ix_s2, ↓ix_sa0, ↓ix_sa1, ↓ix_sa2, ↓ix_new, ↓f_lenN, ↓f_tupN, ↓f_sumN, ↓f_allN, ↓sat_ok, ↓List.set_set, List.length_set, true_and, and_true, and_self, set_0, set_1, set_2, hn]
    have e1 := Int.emod_nonneg (b + 7919 * (s + 1) * (s + 1) + 65537 * (s + 1)) (b := md) (by omega)
    have e2 := Int.emod_lt_of_pos (b + 7919 * (s + 1) * (s + 1) + 65537 * (s + 1)) hm0
    generalize (b + 7919 * (s + 1) * (s + 1) + 65537 * (s + 1)) % md = y at e1 e2
    have e3 := Int.emod_nonneg (y ^ 5) (b := md) (by omega)
    have e4 := Int.emod_lt_of_pos (y ^ 5) hm0
    have ey : (y ^ (5 : Int).toNat) = y ^ 5 := rfl
    rw [ey]
    generalize (y ^ 5) % md = z at e3 e4
    have hl := log2_small (x := y) (by omega)
    refine ⟨mul_ok (by decide) (by omega), mul_ok (by omega) (by omega), mul_ok (by decide) (by omega), hm0, ⟨by decide, ?_⟩, hm0, ⟨by decide, by decide⟩, ⟨by decide, by decide⟩, mul_ok (by omega) (by decide), h0, ?_⟩
    · show (y.natAbs.log2 + 1) * 5 ≤ 134217728
      omega
    · rw [gc_setg rfl rfl]
      refine ⟨_, _, rfl, Int.emod_nonneg _ (by omega), Int.emod_lt_of_pos _ h0, rfl, ⟨_, _, _, rfl⟩, _, _, _, get_s hn, ha, hb, hb2, by omega, by omega⟩
theorem pick_sp {k n q : Nat} {xs : List D} {S : Int} {m : Hs} (hd : Drw m n S) (hS : S ≤ 2 ^ 40) (hq : m[q]? = some (.lst xs)) (hqn : q ≠ n) (hx : xs ≠ []) (hxl : xs.length ≤ 1000) (hxb : ∀ x, x ∈ xs → ∀ n, below n x = true) :
    (callN Dt (k + 2) 18 [.ref n, .ref q] m).sat fun d m' => ∃ o, d ∈ xs ∧ m' = m.set n o ∧ isLst o ∧ Drw m' n (S + 1) := by
  have hn : n < m.length := by
    obtain ⟨a, b, s, hm, _⟩ := hd
    exact (List.getElem?_eq_some_iff.1 hm).1
  have hx0 : 0 < xs.length := List.length_pos_iff.2 hx
  refine fn_sat (fn := f_law_pick) rfl rfl [some (.ref n), some (.ref q)] rfl ?_
  show (evSs _ b_law_pick _ _).sat _
  unfold b_law_pick
  simp only [↓w_v0, ↓tg_n0, ↓v_au0, ↓w_v1, ↓tg_n1, ↓v_au1, ↓w_v2, ↓tg_n2, ↓v_au2, ↓w_v3, ↓tg_n3, ↓v_au3, ↓w_v4, ↓tg_n4, ↓v_au4, ↓w_v5, ↓tg_n5, ↓v_au5, ↓w_v6, ↓tg_n6, ↓v_au6, ↓w_v7, ↓tg_n7, ↓v_au7, ↓w_v8, ↓tg_n8, ↓v_au8, ↓w_v9, ↓tg_n9, ↓v_au9, ↓w_v10, ↓tg_n10, ↓v_au10, ↓w_v11, ↓tg_n11, ↓v_au11, ↓w_v12, ↓tg_n12, ↓v_au12, ↓w_v13, ↓tg_n13, ↓v_au13, ↓w_v14, ↓tg_n14, ↓v_au14, ↓w_v15, ↓tg_n15, ↓v_au15, ↓w_v16, ↓tg_n16, ↓v_au16, ↓w_v17, ↓tg_n17, ↓v_au17, ↓w_v18, ↓tg_n18, ↓v_au18, ↓w_v19, ↓tg_n19, ↓v_au19, ↓w_v20, ↓tg_n20, ↓v_au20, ↓w_v21, ↓tg_n21, ↓v_au21, ↓w_v22, ↓tg_n22, ↓v_au22, ↓w_v23, ↓tg_n23, ↓v_au23, ↓w_v24, ↓tg_n24, ↓v_au24, ↓w_v25, ↓tg_n25, ↓v_au25, ↓w_cst, ↓w_bin, ↓w_cmp, ↓w_neg, ↓w_not, ↓w_and, ↓w_or, ↓w_ite, ↓w_chn, ↓w_tup, ↓w_lst, ↓w_idx, ↓w_slc, ↓w_call, ↓w_bi, ↓w_fld, ↓w_meth, ↓w_make, ↓w_lc, ↓ws_nil, ↓ws_cons, ↓b_add, ↓b_sub, ↓b_mul, ↓b_fdiv, ↓b_mod, ↓b_pow, ↓b_shl, ↓b_addT, ↓k_lt, ↓k_le, ↓k_gt, ↓k_ge, ↓k_eqI, ↓k_neI, ↓k_eqStr, ↓k_neStr, ↓k_is, ↓k_isnot, ↓k_in, ↓k_notin, ↓isN_non, ↓isN_int, ↓isN_tup, ↓isN_ref, ↓isN_bl, ↓isN_str, ↓t_bl, ↓t_non, ↓t_int, ↓t_tup, ↓ix_t0, ↓ix_t1, ↓ix_t2, ↓ix_r0, ↓ix_r1, ↓ix_r2, ↓sl_tup, ↓sl_ref, ↓po_nil, ↓po_int, ↓f_lenT, ↓f_lenF, ↓f_lenR, ↓f_abs, ↓f_min, ↓f_max, ↓f_intB, ↓f_tupR, ↓f_sumR, ↓f_allR, ↓f_isiII, ↓f_isiIB, ↓f_isiTT, ↓f_isiSS, ↓negS_int, ↓chnS_bl, ↓nonS_non, ↓oSat_some, ↓insS_ref, ↓insS_app, ↓insS_set, ↓lstS_ref, ↓lstS_app, ↓lstS_set, ↓seq_nx, ↓seq_rt, ↓seq_bk, ↓seq_ct, ↓v_nil, ↓v_cons, ↓v_pass, ↓v_exp, ↓v_ret, ↓v_retN, ↓v_brk, ↓v_cnt, ↓v_ife, ↓v_asg, ↓v_asg2, ↓v_par, ↓v_par3, ↓v_ifw, ↓v_app, ↓v_ext, ↓v_augF, ↓v_for, ↓v_whl, ↓tq_fld, ↓tq_sub, ↓tq_tp, ↓tqs_nil, ↓tqs_cons, ↓tupS_tup, ↓pl_0, ↓pl_1, ↓pl_2, ↓g_add, ↓g_sub, ↓turn_nx, ↓turn_ct, ↓turn_bk, ↓turn_rt, ↓end_rt, ↓end_nx, ↓it_rng1, ↓it_rng2, ↓it_seqT, ↓it_seqF, ↓it_seqR, ↓it_enumT, ↓it_zipT, ↓ix_s0, ↓ix_s1, ↓ix_s2, ↓ix_sa0, ↓ix_sa1, ↓ix_sa2, ↓ix_new, ↓f_lenN, ↓f_tupN, ↓f_sumN, ↓f_allN, ↓sat_ok, ↓List.set_set, List.length_set, true_and, and_true, and_self, set_0, set_1, set_2, ↓f_lenR hq]
  refine (below_sp hd hS (by omega) (by omega)).imp ?_
  rintro d m1 ⟨v, o, rfl, hv0, hv1, rfl, ho, hd2⟩
  have hq2 : (m.set n o)[q]? = some (.lst xs) := by
    rw [List.getElem?_set_ne (by omega)]
    exact hq
  have hl : v.toNat < xs.length := by omega
  rw [ix_atR hq2 hv0 (List.getElem?_eq_getElem hl)]
  rw [gc_set (hxb _ (List.getElem_mem hl) _) (ho.below _)]
  exact ⟨o, List.getElem_mem hl, rfl, ho, hd2⟩
theorem log2_mod {x y : Int} (hy : 0 < y) : (x % y).natAbs.log2 ≤ y.natAbs.log2 := by
  have h1 := Int.emod_nonneg x (b := y) (by omega)
  have h2 := Int.emod_lt_of_pos x hy
  rcases Nat.eq_zero_or_pos (x % y).natAbs with e | e
  · rw [e]
    exact Nat.zero_le _
  · refine (Nat.le_log2 (by omega)).2 ?_
    have := Nat.log2_self_le (n := (x % y).natAbs) (by omega)
    omega
theorem draws_sp {k : Nat} {ns : List Int} {j : Int} {m : Hs} (h0 : 0 ≤ j) (h1 : j ≤ 3) :
    (callN Dt (k + 1) 16 [.fl (ns.map .int), .int j] m).sat fun d m' => ∃ o, d = .ref m.length ∧ m' = m ++ [o] ∧ Drw m' m.length 0 := by
  refine fn_sat (fn := f_law_draws) rfl rfl [some (.fl (ns.map .int)), some (.int j), none, none] rfl ?_
  show (evSs _ b_law_draws _ _).sat _
  unfold b_law_draws
  rw [v_cons]
  refine Rs.sat.imp (Q := fun o m1 => ∃ cell : Int, o = .nx [some (.fl (ns.map .int)), some (.int j), some (.int cell), none] ∧ m1 = m) ?_ ?_
  · simp only [↓w_v0, ↓tg_n0, ↓v_au0, ↓w_v1, ↓tg_n1, ↓v_au1, ↓w_v2, ↓tg_n2, ↓v_au2, ↓w_v3, ↓tg_n3, ↓v_au3, ↓w_v4, ↓tg_n4, ↓v_au4, ↓w_v5, ↓tg_n5, ↓v_au5, ↓w_v6, ↓tg_n6, ↓v_au6, ↓w_v7, ↓tg_n7, ↓v_au7, ↓w_v8, ↓tg_n8, ↓v_au8, ↓w_v9, ↓tg_n9, ↓v_au9, ↓w_v10, ↓tg_n10, ↓v_au10, ↓w_v11, ↓tg_n11, ↓v_au11, ↓w_v12, ↓tg_n12, ↓v_au12, ↓w_v13, ↓tg_n13, ↓v_au13, ↓w_v14, ↓tg_n14, ↓v_au14, ↓w_v15, ↓tg_n15, ↓v_au15, ↓w_v16, ↓tg_n16, ↓v_au16, ↓w_v17, ↓tg_n17, ↓v_au17, ↓w_v18, ↓tg_n18, ↓v_au18, ↓w_v19, ↓tg_n19, ↓v_au19, ↓w_v20, ↓tg_n20, ↓v_au20, ↓w_v21, ↓tg_n21, ↓v_au21, ↓w_v22, ↓tg_n22, ↓v_au22, ↓w_v23, ↓tg_n23, ↓v_au23, ↓w_v24, ↓tg_n24, ↓v_au24, ↓w_v25, ↓tg_n25, ↓v_au25, ↓w_cst, ↓w_bin, ↓w_cmp, ↓w_neg, ↓w_not, ↓w_and, ↓w_or, ↓w_ite, ↓w_chn, ↓w_tup, ↓w_lst, ↓w_idx, ↓w_slc, ↓w_call, ↓w_bi, ↓w_fld, ↓w_meth, ↓w_make, ↓w_lc, ↓ws_nil, ↓ws_cons, ↓b_add, ↓b_sub, ↓b_mul, ↓b_fdiv, ↓b_mod, ↓b_pow, ↓b_shl, ↓b_addT, ↓k_lt, ↓k_le, ↓k_gt, ↓k_ge, ↓k_eqI, ↓k_neI, ↓k_eqStr, ↓k_neStr, ↓k_is, ↓k_isnot, ↓k_in, ↓k_notin, ↓isN_non, ↓isN_int, ↓isN_tup, ↓isN_ref, ↓isN_bl, ↓isN_str, ↓t_bl, ↓t_non, ↓t_int, ↓t_tup, ↓ix_t0, ↓ix_t1, ↓ix_t2, ↓ix_r0, ↓ix_r1, ↓ix_r2, ↓sl_tup, ↓sl_ref, ↓po_nil, ↓po_int, ↓f_lenT, ↓f_lenF, ↓f_lenR, ↓f_abs, ↓f_min, ↓f_max, ↓f_intB, ↓f_tupR, ↓f_sumR, ↓f_allR, ↓f_isiII, ↓f_isiIB, ↓f_isiTT, ↓f_isiSS, ↓negS_int, ↓chnS_bl, ↓nonS_non, ↓oSat_some, ↓insS_ref, ↓insS_app, ↓insS_set, ↓lstS_ref, ↓lstS_app, ↓lstS_set, ↓seq_nx, ↓seq_rt, ↓seq_bk, ↓seq_ct, ↓v_nil, ↓v_cons, ↓v_pass, ↓v_exp, ↓v_ret, ↓v_retN, ↓v_brk, ↓v_cnt, ↓v_ife, ↓v_asg, ↓v_asg2, ↓v_par, ↓v_par3, ↓v_ifw, ↓v_app, ↓v_ext, ↓v_augF, ↓v_for, ↓v_whl, ↓tq_fld, ↓tq_sub, ↓tq_tp, ↓tqs_nil, ↓tqs_cons, ↓tupS_tup, ↓pl_0, ↓pl_1, ↓pl_2, ↓g_add, ↓g_sub, ↓turn_nx, ↓turn_ct, ↓turn_bk, ↓turn_rt, ↓end_rt, ↓end_nx, ↓it_rng1, ↓it_rng2, ↓it_seqT, ↓it_seqF, ↓it_seqR, ↓it_enumT, ↓it_zipT, ↓ix_s0, ↓ix_s1, ↓ix_s2, ↓ix_sa0, ↓ix_sa1, ↓ix_sa2, ↓ix_new, ↓f_lenN, ↓f_tupN, ↓f_sumN, ↓f_allN, ↓sat_ok, ↓List.set_set, List.length_set, true_and, and_true, and_self, set_0, set_1, set_2]
    split
    · rename_i hj
      have hj2 : j.toNat < ns.length := by
        simp only [List.length_map, decide_eq_true_eq] at hj
        omega
      rw [ix_atF (v := .int ns[j.toNat]) h0 (by simp [hj2])]
      exact ⟨_, rfl, rfl⟩
    · exact ⟨mul_ok (by decide) (by omega), _, rfl⟩
  · rintro o m1 ⟨cell, rfl, rfl⟩
    simp only [↓w_v0, ↓tg_n0, ↓v_au0, ↓w_v1, ↓tg_n1, ↓v_au1, ↓w_v2, ↓tg_n2, ↓v_au2, ↓w_v3, ↓tg_n3, ↓v_au3, ↓w_v4, ↓tg_n4, ↓v_au4, ↓w_v5, ↓tg_n5, ↓v_au5, ↓w_v6, ↓tg_n6, ↓v_au6, ↓w_v7, ↓tg_n7, ↓v_au7, ↓w_v8, ↓tg_n8, ↓v_au8, ↓w_v9, ↓tg_n9, ↓v_au9, ↓w_v10, ↓tg_n10, ↓v_au10, ↓w_v11, ↓tg_n11, ↓v_au11, ↓w_v12, ↓tg_n12, ↓v_au12, ↓w_v13, ↓tg_n13, ↓v_au13, ↓w_v14, ↓tg_n14, ↓v_au14, ↓w_v15, ↓tg_n15, ↓v_au15, ↓w_v16, ↓tg_n16, ↓v_au16, ↓w_v17, ↓tg_n17, ↓v_au17, ↓w_v18, ↓tg_n18, ↓v_au18, ↓w_v19, ↓tg_n19, ↓v_au19, ↓w_v20, ↓tg_n20, ↓v_au20, ↓w_v21, ↓tg_n21, ↓v_au21, ↓w_v22, ↓tg_n22, ↓v_au22, ↓w_v23, ↓tg_n23, ↓v_au23, ↓w_v24, ↓tg_n24, ↓v_au24, ↓w_v25, ↓tg_n25, ↓v_au25, ↓w_cst, ↓w_bin, ↓w_cmp, ↓w_neg, ↓w_not, ↓w_and, ↓w_or, ↓w_ite, ↓w_chn, ↓w_tup, ↓w_lst, ↓w_idx, ↓w_slc, ↓w_call, ↓w_bi, ↓w_fld, ↓w_meth, ↓w_make, ↓w_lc, ↓ws_nil, ↓ws_cons, ↓b_add, ↓b_sub, ↓b_mul, ↓b_fdiv, ↓b_mod, ↓b_pow, ↓b_shl, ↓b_addT, ↓k_lt, ↓k_le, ↓k_gt, ↓k_ge, ↓k_eqI, ↓k_neI, ↓k_eqStr, ↓k_neStr, ↓k_is, ↓k_isnot, ↓k_in, ↓k_notin, ↓isN_non, ↓isN_int, ↓isN_tup, ↓isN_ref, ↓isN_bl, ↓isN_str, ↓t_bl, ↓t_non, ↓t_int, ↓t_tup, ↓ix_t0, ↓ix_t1, ↓ix_t2, ↓ix_r0, ↓ix_r1, ↓ix_r2, ↓sl_tup, ↓sl_ref, ↓po_nil, ↓po_int, ↓f_lenT, ↓f_lenF, ↓f_lenR, ↓f_abs, ↓f_min, ↓f_max, ↓f_intB, ↓f_tupR, ↓f_sumR, ↓f_allR, ↓f_isiII, ↓f_isiIB, ↓f_isiTT, ↓f_isiSS, ↓negS_int, ↓chnS_bl, ↓nonS_non, ↓oSat_some, ↓insS_ref, ↓insS_app, ↓insS_set, ↓lstS_ref, ↓lstS_app, ↓lstS_set, ↓seq_nx, ↓seq_rt, ↓seq_bk, ↓seq_ct, ↓v_nil, ↓v_cons, ↓v_pass, ↓v_exp, ↓v_ret, ↓v_retN, ↓v_brk, ↓v_cnt, ↓v_ife, ↓v_asg, ↓v_asg2, ↓v_par, ↓v_par3, ↓v_ifw, ↓v_app, ↓v_ext, ↓v_augF, ↓v_for, ↓v_whl, ↓tq_fld, ↓tq_sub, ↓tq_tp, ↓tqs_nil, ↓tqs_cons, ↓tupS_tup, ↓pl_0, ↓pl_1, ↓pl_2, ↓g_add, ↓g_sub, ↓turn_nx, ↓turn_ct, ↓turn_bk, ↓turn_rt, ↓end_rt, ↓end_nx, ↓it_rng1, ↓it_rng2, ↓it_seqT, ↓it_seqF, ↓it_seqR, ↓it_enumT, ↓it_zipT, ↓ix_s0, ↓ix_s1, ↓ix_s2, ↓ix_sa0, ↓ix_sa1, ↓ix_sa2, ↓ix_new, ↓f_lenN, ↓f_tupN, ↓f_sumN, ↓f_allN, ↓sat_ok, ↓List.set_set, List.length_set, true_and, and_true, and_self, set_0, set_1, set_2]
    have e0 := Int.emod_nonneg cell (b := 2305843009213693951) (by decide)
    have e1 := Int.emod_lt_of_pos cell (b := 2305843009213693951) (by decide)
    generalize cell % 2305843009213693951 = y at e0 e1
    generalize hz : (if cell < 0 then -cell else cell) = z
    have hp : (0 : Int) < (10 ^ Int.toNat 60) ^ Int.toNat 5 := by decide +kernel
    have hl := log2_mod (x := z) hp
    have hl2 : ((10 ^ Int.toNat 60) ^ Int.toNat 5 : Int).natAbs.log2 < 1000 := by decide +kernel
    have hz0 := Int.emod_nonneg z (b := (10 ^ Int.toNat 60) ^ Int.toNat 5) (by omega)
    have e2 := Int.emod_nonneg ((y + 7919 * j * j + 17) * 48271) (b := 2305843009213693921) (by decide)
    have e3 := Int.emod_lt_of_pos ((y + 7919 * j * j + 17) * 48271) (b := 2305843009213693921) (by decide)
    have hjj : j = 0 ∨ j = 1 ∨ j = 2 ∨ j = 3 := by omega
    have e4 : ((y + 7919 * j * j + 17)).natAbs < 2 ^ 200 := by
      rcases hjj with rfl | rfl | rfl | rfl <;> omega
    generalize hw : (if decide (10 ^ Int.toNat 18 ≤ z) = true then (1 : Int) else 0) = w
    have hw2 : w = 1 ∨ w = 0 := by
      rw [← hw]
      split
      · exact Or.inl rfl
      · exact Or.inr rfl
    refine ⟨⟨by decide, by decide⟩, ⟨by decide, by decide +kernel⟩, hp, ⟨by decide, by decide⟩, ?_, by decide, mul_ok (by decide) (by omega), mul_ok (by omega) (by omega), mul_ok e4 (by decide), by decide, (show 3 ≤ sizeLine by decide), ?_⟩
    · have : w.natAbs.log2 = 0 := by rcases hw2 with rfl | rfl <;> rfl
      omega
    · rw [gc_new (by simp [below])]
      refine ⟨_, rfl, rfl, _, _, _, gt_new, ?_, e2, by omega, by decide, by decide⟩
      exact Int.mul_nonneg hz0 (by omega)
end G.K13
set_option maxRecDepth 100000
set_option maxHeartbeats 4000000
namespace G
open PySem
theorem rngL_zero {lo : Int} : rngL lo 0 = [] := rfl
theorem rngL_succ {lo : Int} {n : Nat} : rngL lo (n + 1) = .int lo :: rngL (lo + 1) n := by
  unfold rngL
  rw [List.range_succ_eq_map]
  simp only [List.map_cons, List.map_map, Int.natCast_zero, Int.add_zero, List.cons.injEq, true_and]
  refine List.map_congr_left fun a _ => ?_
  simp only [Function.comp]
  congr 1
  omega
theorem below_ints (n : Nat) : ∀ xs : List Int, belowL n (xs.map .int) = true
  | [] => rfl
  | x :: xs => by simp [belowL, below, below_ints n xs]
theorem rngL_len {lo : Int} {n : Nat} : (rngL lo n).length = n := by simp [rngL]
theorem first_of (P : Nat → Prop) [DecidablePred P] : ∀ n, P n → ∃ L, L ≤ n ∧ P L ∧ ∀ i, i < L → ¬ P i
  | n, h => by
    by_cases hc : ∃ i, i < n ∧ P i
    · obtain ⟨i, hi, hp⟩ := hc
      obtain ⟨L, h1, h2, h3⟩ := first_of P i hp
      exact ⟨L, by omega, h2, h3⟩
    · exact ⟨n, Nat.le_refl _, h, fun i hi hp => hc ⟨i, hi, hp⟩⟩
  termination_by n => n
  decreasing_by omega
end G
namespace G.K13
open PySem G
theorem Drw.lt {m : Hs} {n : Nat} {S : Int} (h : Drw m n S) : n < m.length := by
  obtain ⟨a, b, s, hm, _⟩ := h
  exact (List.getElem?_eq_some_iff.1 hm).1
theorem Drw.app {m g : Hs} {n : Nat} {S : Int} (h : Drw m n S) : Drw (m ++ g) n S := by
  obtain ⟨a, b, s, hm, h2⟩ := h
  exact ⟨a, b, s, by rw [List.getElem?_append_left (List.getElem?_eq_some_iff.1 hm).1]; exact hm, h2⟩
theorem Drw.set {m : Hs} {n i : Nat} {o : O} {S : Int} (h : Drw m n S) (hi : i ≠ n) : Drw (m.set i o) n S := by
  obtain ⟨a, b, s, hm, h2⟩ := h
  exact ⟨a, b, s, by rw [List.getElem?_set_ne hi]; exact hm, h2⟩
/-- H is m, but for the drawer at n and what lies behind -/
def Fits (m : Hs) (n : Nat) (H : Hs) : Prop := ∃ o g, H = m.set n o ++ g ∧ isLst o
theorem Fits.refl {m : Hs} {n : Nat} {S : Int} (h : Drw m n S) : Fits m n m := by
  obtain ⟨a, b, s, hm, h2⟩ := h
  refine ⟨_, [], ?_, a, b, s, rfl⟩
  rw [List.append_nil]
  obtain ⟨hl, he⟩ := List.getElem?_eq_some_iff.1 hm
  rw [← he, List.set_getElem_self]
theorem Fits.app {m H g : Hs} {n : Nat} (h : Fits m n H) : Fits m n (H ++ g) := by
  obtain ⟨o, g2, rfl, ho⟩ := h
  exact ⟨o, g2 ++ g, by rw [List.append_assoc], ho⟩
theorem Fits.set {m H : Hs} {n : Nat} {o : O} (h : Fits m n H) (hn : n < m.length) (ho : isLst o) : Fits m n (H.set n o) := by
  obtain ⟨o2, g2, rfl, _⟩ := h
  refine ⟨o, g2, ?_, ho⟩
  rw [List.set_append_left _ _ (by simpa using hn), List.set_set]
theorem Fits.far {m H : Hs} {n i : Nat} {o : O} (h : Fits m n H) (hi : m.length ≤ i) : Fits m n (H.set i o) := by
  obtain ⟨o2, g2, rfl, ho⟩ := h
  refine ⟨o2, g2.set (i - m.length) o, ?_, ho⟩
  rw [List.set_append_right _ _ (by simpa using hi)]
  simp
theorem Fits.le {m H : Hs} {n : Nat} (h : Fits m n H) : m.length ≤ H.length := by
  obtain ⟨o2, g2, rfl, ho⟩ := h
  simp
theorem Fits.gc {m H : Hs} {n : Nat} {S : Int} {d : D} {Q : D → Hs → Prop} (h : Fits m n H) (hd : Drw H n S) (hn : n < m.length) (hb : below m.length d = true) (hq : ∀ o, isLst o → Drw (m.set n o) n S → Q d (m.set n o)) : (gcR m d H).sat Q := by
  obtain ⟨o2, g2, rfl, ho⟩ := h
  rw [gc_setg hb (ho.below _)]
  refine hq _ ho ?_
  obtain ⟨a, b, s, hm, h2⟩ := hd
  rw [List.getElem?_append_left (by simpa using hn)] at hm
  exact ⟨a, b, s, hm, h2⟩
/-- the doubling tables -/
def caps (n : Nat) : List Int := (List.range n).map fun i => (2 : Int) ^ i
def limsL (p : Int) : Int → Nat → Nat → List Int
  | _, _, 0 => []
  | low, i, n + 1 => (if 2 ^ i / p > low + 1 then 2 ^ i / p else low + 1) :: limsL p (if 2 ^ i / p > low + 1 then 2 ^ i / p else low + 1) (i + 1) n
def pol (cs ls : List Int) (fx : Int) : D := .tup [.tup (cs.map .int), .tup (ls.map .int), .int fx]
theorem limsL_len (p : Int) : ∀ n low i, (limsL p low i n).length = n
  | 0, _, _ => rfl
  | n + 1, _, _ => by simp [limsL, limsL_len p n]
theorem caps_map (n : Nat) : (caps n).map D.int = (rngL 0 n).filterMap fun x => match x with
    | .int j => some (.int (1 * 2 ^ j.toNat))
    | _ => none := by
  unfold caps rngL
  rw [List.filterMap_map, List.map_map]
  rw [← List.filterMap_eq_map]
  congr 1
  funext i
  simp
theorem table_sp {k n : Nat} {S : Int} {m : Hs} (hd : Drw m n S) (hS : S ≤ 2 ^ 30) :
    (callN Dt (k + 3) 19 [.ref n] m).sat fun d m' => ∃ (many : Nat) (p fx : Int) (o : O), 2 ≤ many ∧ many ≤ 40 ∧ (p = 2 ∨ p = 4 ∨ p = 8) ∧ 0 ≤ fx ∧ fx < 10 ^ 12 ∧ d = pol (caps many) (limsL p (-1) 1 (many - 1)) fx ∧ m' = m.set n o ∧ isLst o ∧ Drw m' n (S + 4) := by
  have hn := hd.lt
  have F0 := Fits.refl hd
  refine fn_sat (fn := f_law_table) rfl rfl [some (.ref n), none, none, none, none, none, none] rfl ?_
  show (evSs _ b_law_table _ _).sat _
  unfold b_law_table
  simp only [↓w_v0, ↓tg_n0, ↓v_au0, ↓w_v1, ↓tg_n1, ↓v_au1, ↓w_v2, ↓tg_n2, ↓v_au2, ↓w_v3, ↓tg_n3, ↓v_au3, ↓w_v4, ↓tg_n4, ↓v_au4, ↓w_v5, ↓tg_n5, ↓v_au5, ↓w_v6, ↓tg_n6, ↓v_au6, ↓w_v7, ↓tg_n7, ↓v_au7, ↓w_v8, ↓tg_n8, ↓v_au8, ↓w_v9, ↓tg_n9, ↓v_au9, ↓w_v10, ↓tg_n10, ↓v_au10, ↓w_v11, ↓tg_n11, ↓v_au11, ↓w_v12, ↓tg_n12, ↓v_au12, ↓w_v13, ↓tg_n13, ↓v_au13, ↓w_v14, ↓tg_n14, ↓v_au14, ↓w_v15, ↓tg_n15, ↓v_au15, ↓w_v16, ↓tg_n16, ↓v_au16, ↓w_v17, ↓tg_n17, ↓v_au17, ↓w_v18, ↓tg_n18, ↓v_au18, ↓w_v19, ↓tg_n19, ↓v_au19, ↓w_v20, ↓tg_n20, ↓v_au20, ↓w_v21, ↓tg_n21, ↓v_au21, ↓w_v22, ↓tg_n22, ↓v_au22, ↓w_v23, ↓tg_n23, ↓v_au23, ↓w_v24, ↓tg_n24, ↓v_au24, ↓w_v25, ↓tg_n25, ↓v_au25, ↓w_cst, ↓w_bin, ↓w_cmp, ↓w_neg, ↓w_not, ↓w_and, ↓w_or, ↓w_ite, ↓w_chn, ↓w_tup, ↓w_lst, ↓w_idx, ↓w_slc, ↓w_call, ↓w_bi, ↓w_fld, ↓w_meth, ↓w_make, ↓w_lc, ↓ws_nil, ↓ws_cons, ↓b_add, ↓b_sub, ↓b_mul, ↓b_fdiv, ↓b_mod, ↓b_pow, ↓b_shl, ↓b_addT, ↓k_lt, ↓k_le, ↓k_gt, ↓k_ge, ↓k_eqI, ↓k_neI, ↓k_eqStr, ↓k_neStr, ↓k_is, ↓k_isnot, ↓k_in, ↓k_notin, ↓isN_non, ↓isN_int, ↓isN_tup, ↓isN_ref, ↓isN_bl, ↓isN_str, ↓t_bl, ↓t_non, ↓t_int, ↓t_tup, ↓ix_t0, ↓ix_t1, ↓ix_t2, ↓ix_r0, ↓ix_r1, ↓ix_r2, ↓sl_tup, ↓sl_ref, ↓po_nil, ↓po_int, ↓f_lenT, ↓f_lenF, ↓f_lenR, ↓f_abs, ↓f_min, ↓f_max, ↓f_intB, ↓f_tupR, ↓f_sumR, ↓f_allR, ↓f_isiII, ↓f_isiIB, ↓f_isiTT, ↓f_isiSS, ↓negS_int, ↓chnS_bl, ↓nonS_non, ↓oSat_some, ↓insS_ref, ↓insS_app, ↓insS_set, ↓lstS_ref, ↓lstS_app, ↓lstS_set, ↓seq_nx, ↓seq_rt, ↓seq_bk, ↓seq_ct, ↓v_nil, ↓v_cons, ↓v_pass, ↓v_exp, ↓v_ret, ↓v_retN, ↓v_brk, ↓v_cnt, ↓v_ife, ↓v_asg, ↓v_asg2, ↓v_par, ↓v_par3, ↓v_ifw, ↓v_app, ↓v_ext, ↓v_augF, ↓v_for, ↓v_whl, ↓tq_fld, ↓tq_sub, ↓tq_tp, ↓tqs_nil, ↓tqs_cons, ↓tupS_tup, ↓pl_0, ↓pl_1, ↓pl_2, ↓g_add, ↓g_sub, ↓turn_nx, ↓turn_ct, ↓turn_bk, ↓turn_rt, ↓end_rt, ↓end_nx, ↓it_rng1, ↓it_rng2, ↓it_seqT, ↓it_seqF, ↓it_seqR, ↓it_enumT, ↓it_zipT, ↓ix_s0, ↓ix_s1, ↓ix_s2, ↓ix_sa0, ↓ix_sa1, ↓ix_sa2, ↓ix_new, ↓f_lenN, ↓f_tupN, ↓f_sumN, ↓f_allN, ↓sat_ok, ↓List.set_set, List.length_set, true_and, and_true, and_self, set_0, set_1, set_2]
  refine (below_sp hd (by omega) (by decide) (by decide)).imp ?_
  rintro d m1 ⟨v, o, rfl, hv0, hv1, rfl, ho, hd2⟩
  simp only [↓w_v0, ↓tg_n0, ↓v_au0, ↓w_v1, ↓tg_n1, ↓v_au1, ↓w_v2, ↓tg_n2, ↓v_au2, ↓w_v3, ↓tg_n3, ↓v_au3, ↓w_v4, ↓tg_n4, ↓v_au4, ↓w_v5, ↓tg_n5, ↓v_au5, ↓w_v6, ↓tg_n6, ↓v_au6, ↓w_v7, ↓tg_n7, ↓v_au7, ↓w_v8, ↓tg_n8, ↓v_au8, ↓w_v9, ↓tg_n9, ↓v_au9, ↓w_v10, ↓tg_n10, ↓v_au10, ↓w_v11, ↓tg_n11, ↓v_au11, ↓w_v12, ↓tg_n12, ↓v_au12, ↓w_v13, ↓tg_n13, ↓v_au13, ↓w_v14, ↓tg_n14, ↓v_au14, ↓w_v15, ↓tg_n15, ↓v_au15, ↓w_v16, ↓tg_n16, ↓v_au16, ↓w_v17, ↓tg_n17, ↓v_au17, ↓w_v18, ↓tg_n18, ↓v_au18, ↓w_v19, ↓tg_n19, ↓v_au19, ↓w_v20, ↓tg_n20, ↓v_au20, ↓w_v21, ↓tg_n21, ↓v_au21, ↓w_v22, ↓tg_n22, ↓v_au22, ↓w_v23, ↓tg_n23, ↓v_au23, ↓w_v24, ↓tg_n24, ↓v_au24, ↓w_v25, ↓tg_n25, ↓v_au25, ↓w_cst, ↓w_bin, ↓w_cmp, ↓w_neg, ↓w_not, ↓w_and, ↓w_or, ↓w_ite, ↓w_chn, ↓w_tup, ↓w_lst, ↓w_idx, ↓w_slc, ↓w_call, ↓w_bi, ↓w_fld, ↓w_meth, ↓w_make, ↓w_lc, ↓ws_nil, ↓ws_cons, ↓b_add, ↓b_sub, ↓b_mul, ↓b_fdiv, ↓b_mod, ↓b_pow, ↓b_shl, ↓b_addT, ↓k_lt, ↓k_le, ↓k_gt, ↓k_ge, ↓k_eqI, ↓k_neI, ↓k_eqStr, ↓k_neStr, ↓k_is, ↓k_isnot, ↓k_in, ↓k_notin, ↓isN_non, ↓isN_int, ↓isN_tup, ↓isN_ref, ↓isN_bl, ↓isN_str, ↓t_bl, ↓t_non, ↓t_int, ↓t_tup, ↓ix_t0, ↓ix_t1, ↓ix_t2, ↓ix_r0, ↓ix_r1, ↓ix_r2, ↓sl_tup, ↓sl_ref, ↓po_nil, ↓po_int, ↓f_lenT, ↓f_lenF, ↓f_lenR, ↓f_abs, ↓f_min, ↓f_max, ↓f_intB, ↓f_tupR, ↓f_sumR, ↓f_allR, ↓f_isiII, ↓f_isiIB, ↓f_isiTT, ↓f_isiSS, ↓negS_int, ↓chnS_bl, ↓nonS_non, ↓oSat_some, ↓insS_ref, ↓insS_app, ↓insS_set, ↓lstS_ref, ↓lstS_app, ↓lstS_set, ↓seq_nx, ↓seq_rt, ↓seq_bk, ↓seq_ct, ↓v_nil, ↓v_cons, ↓v_pass, ↓v_exp, ↓v_ret, ↓v_retN, ↓v_brk, ↓v_cnt, ↓v_ife, ↓v_asg, ↓v_asg2, ↓v_par, ↓v_par3, ↓v_ifw, ↓v_app, ↓v_ext, ↓v_augF, ↓v_for, ↓v_whl, ↓tq_fld, ↓tq_sub, ↓tq_tp, ↓tqs_nil, ↓tqs_cons, ↓tupS_tup, ↓pl_0, ↓pl_1, ↓pl_2, ↓g_add, ↓g_sub, ↓turn_nx, ↓turn_ct, ↓turn_bk, ↓turn_rt, ↓end_rt, ↓end_nx, ↓it_rng1, ↓it_rng2, ↓it_seqT, ↓it_seqF, ↓it_seqR, ↓it_enumT, ↓it_zipT, ↓ix_s0, ↓ix_s1, ↓ix_s2, ↓ix_sa0, ↓ix_sa1, ↓ix_sa2, ↓ix_new, ↓f_lenN, ↓f_tupN, ↓f_sumN, ↓f_allN, ↓sat_ok, ↓List.set_set, List.length_set, true_and, and_true, and_self, set_0, set_1, set_2]
  refine ⟨by decide, ?_⟩
  have F1 : Fits m n (m.set n o ++ [.lst [.int 2, .int 4, .int 8]]) := (F0.set hn ho).app
  refine (pick_sp (q := m.length) (xs := [.int 2, .int 4, .int 8]) hd2.app (by omega) (by rw [List.getElem?_append_right (by simp)]; simp) (by omega) (by simp) (by simp) ?_).imp ?_
  · intro x hx n
    simp only [List.mem_cons, List.not_mem_nil, or_false] at hx
    rcases hx with rfl | rfl | rfl <;> rfl
  rintro d m1 ⟨o2, hmem, e1, ho2, hd3⟩
  have F2 : Fits m n m1 := e1 ▸ F1.set hn ho2
  clear e1
  have hp : ∃ p : Int, d = .int p ∧ (p = 2 ∨ p = 4 ∨ p = 8) := by
    simp only [List.mem_cons, List.not_mem_nil, or_false] at hmem
    rcases hmem with rfl | rfl | rfl <;> exact ⟨_, rfl, by decide⟩
  obtain ⟨p, rfl, hp⟩ := hp
  refine ⟨by omega, ?_⟩
  obtain ⟨many, hmany⟩ : ∃ many : Nat, 2 + v = many := ⟨(2 + v).toNat, by omega⟩
  rw [hmany]
  simp only [Int.toNat_natCast]
  rw [lcL_pure (m := m1) (fun x => match x with | .int j => some (.int (1 * 2 ^ j.toNat)) | _ => none) (fun _ => rfl) _ _ ?_ ?_]
  rotate_left
  · intro x hx acc
    unfold rngL at hx
    rw [List.mem_map] at hx
    obtain ⟨i, hi, rfl⟩ := hx
    rw [List.mem_range] at hi
    refine lcU_sat (r2 := [some (.ref n), some (.int many), some (.int p), none, none, none, some (.int (0 + (i : Nat)))]) rfl ?_
    simp only [↓w_v0, ↓tg_n0, ↓v_au0, ↓w_v1, ↓tg_n1, ↓v_au1, ↓w_v2, ↓tg_n2, ↓v_au2, ↓w_v3, ↓tg_n3, ↓v_au3, ↓w_v4, ↓tg_n4, ↓v_au4, ↓w_v5, ↓tg_n5, ↓v_au5, ↓w_v6, ↓tg_n6, ↓v_au6, ↓w_v7, ↓tg_n7, ↓v_au7, ↓w_v8, ↓tg_n8, ↓v_au8, ↓w_v9, ↓tg_n9, ↓v_au9, ↓w_v10, ↓tg_n10, ↓v_au10, ↓w_v11, ↓tg_n11, ↓v_au11, ↓w_v12, ↓tg_n12, ↓v_au12, ↓w_v13, ↓tg_n13, ↓v_au13, ↓w_v14, ↓tg_n14, ↓v_au14, ↓w_v15, ↓tg_n15, ↓v_au15, ↓w_v16, ↓tg_n16, ↓v_au16, ↓w_v17, ↓tg_n17, ↓v_au17, ↓w_v18, ↓tg_n18, ↓v_au18, ↓w_v19, ↓tg_n19, ↓v_au19, ↓w_v20, ↓tg_n20, ↓v_au20, ↓w_v21, ↓tg_n21, ↓v_au21, ↓w_v22, ↓tg_n22, ↓v_au22, ↓w_v23, ↓tg_n23, ↓v_au23, ↓w_v24, ↓tg_n24, ↓v_au24, ↓w_v25, ↓tg_n25, ↓v_au25, ↓w_cst, ↓w_bin, ↓w_cmp, ↓w_neg, ↓w_not, ↓w_and, ↓w_or, ↓w_ite, ↓w_chn, ↓w_tup, ↓w_lst, ↓w_idx, ↓w_slc, ↓w_call, ↓w_bi, ↓w_fld, ↓w_meth, ↓w_make, ↓w_lc, ↓ws_nil, ↓ws_cons, ↓b_add, ↓b_sub, ↓b_mul, ↓b_fdiv, ↓b_mod, ↓b_pow, ↓b_shl, ↓b_addT, ↓k_lt, ↓k_le, ↓k_gt, ↓k_ge, ↓k_eqI, ↓k_neI, ↓k_eqStr, ↓k_neStr, ↓k_is, ↓k_isnot, ↓k_in, ↓k_notin, ↓isN_non, ↓isN_int, ↓isN_tup, ↓isN_ref, ↓isN_bl, ↓isN_str, ↓t_bl, ↓t_non, ↓t_int, ↓t_tup, ↓ix_t0, ↓ix_t1, ↓ix_t2, ↓ix_r0, ↓ix_r1, ↓ix_r2, ↓sl_tup, ↓sl_ref, ↓po_nil, ↓po_int, ↓f_lenT, ↓f_lenF, ↓f_lenR, ↓f_abs, ↓f_min, ↓f_max, ↓f_intB, ↓f_tupR, ↓f_sumR, ↓f_allR, ↓f_isiII, ↓f_isiIB, ↓f_isiTT, ↓f_isiSS, ↓negS_int, ↓chnS_bl, ↓nonS_non, ↓oSat_some, ↓insS_ref, ↓insS_app, ↓insS_set, ↓lstS_ref, ↓lstS_app, ↓lstS_set, ↓seq_nx, ↓seq_rt, ↓seq_bk, ↓seq_ct, ↓v_nil, ↓v_cons, ↓v_pass, ↓v_exp, ↓v_ret, ↓v_retN, ↓v_brk, ↓v_cnt, ↓v_ife, ↓v_asg, ↓v_asg2, ↓v_par, ↓v_par3, ↓v_ifw, ↓v_app, ↓v_ext, ↓v_augF, ↓v_for, ↓v_whl, ↓tq_fld, ↓tq_sub, ↓tq_tp, ↓tqs_nil, ↓tqs_cons, ↓tupS_tup, ↓pl_0, ↓pl_1, ↓pl_2, ↓g_add, ↓g_sub, ↓turn_nx, ↓turn_ct, ↓turn_bk, ↓turn_rt, ↓end_rt, ↓end_nx, ↓it_rng1, ↓it_rng2, ↓it_seqT, ↓it_seqF, ↓it_seqR, ↓it_enumT, ↓it_zipT, ↓ix_s0, ↓ix_s1, ↓ix_s2, ↓ix_sa0, ↓ix_sa1, ↓ix_sa2, ↓ix_new, ↓f_lenN, ↓f_tupN, ↓f_sumN, ↓f_allN, ↓sat_ok, ↓List.set_set, List.length_set, true_and, and_true, and_self, set_0, set_1, set_2, testsOf, if_true]
    exact ⟨by omega, by omega, by decide⟩
  · simp only [List.length_nil, rngL_len]
    exact Nat.le_trans (show 0 + many ≤ 41 by omega) (by decide)
  rw [← caps_map, List.nil_append]
  have F3 : Fits m n (m1 ++ [.lst ((caps many).map D.int)]) := F2.app
  have hd4 : Drw (m1 ++ [.lst ((caps many).map D.int)]) n (S + 1 + 1) := hd3.app
  have hcp : (m1 ++ [.lst ((caps many).map D.int)])[m1.length]? = some (.lst ((caps many).map D.int)) := gt_new
  have hlen : (m1 ++ [O.lst ((caps many).map D.int)]).length = m1.length + 1 := by simp
  generalize (m1 ++ [.lst ((caps many).map D.int)]) = M at *
  simp only [↓w_v0, ↓tg_n0, ↓v_au0, ↓w_v1, ↓tg_n1, ↓v_au1, ↓w_v2, ↓tg_n2, ↓v_au2, ↓w_v3, ↓tg_n3, ↓v_au3, ↓w_v4, ↓tg_n4, ↓v_au4, ↓w_v5, ↓tg_n5, ↓v_au5, ↓w_v6, ↓tg_n6, ↓v_au6, ↓w_v7, ↓tg_n7, ↓v_au7, ↓w_v8, ↓tg_n8, ↓v_au8, ↓w_v9, ↓tg_n9, ↓v_au9, ↓w_v10, ↓tg_n10, ↓v_au10, ↓w_v11, ↓tg_n11, ↓v_au11, ↓w_v12, ↓tg_n12, ↓v_au12, ↓w_v13, ↓tg_n13, ↓v_au13, ↓w_v14, ↓tg_n14, ↓v_au14, ↓w_v15, ↓tg_n15, ↓v_au15, ↓w_v16, ↓tg_n16, ↓v_au16, ↓w_v17, ↓tg_n17, ↓v_au17, ↓w_v18, ↓tg_n18, ↓v_au18, ↓w_v19, ↓tg_n19, ↓v_au19, ↓w_v20, ↓tg_n20, ↓v_au20, ↓w_v21, ↓tg_n21, ↓v_au21, ↓w_v22, ↓tg_n22, ↓v_au22, ↓w_v23, ↓tg_n23, ↓v_au23, ↓w_v24, ↓tg_n24, ↓v_au24, ↓w_v25, ↓tg_n25, ↓v_au25, ↓w_cst, ↓w_bin, ↓w_cmp, ↓w_neg, ↓w_not, ↓w_and, ↓w_or, ↓w_ite, ↓w_chn, ↓w_tup, ↓w_lst, ↓w_idx, ↓w_slc, ↓w_call, ↓w_bi, ↓w_fld, ↓w_meth, ↓w_make, ↓w_lc, ↓ws_nil, ↓ws_cons, ↓b_add, ↓b_sub, ↓b_mul, ↓b_fdiv, ↓b_mod, ↓b_pow, ↓b_shl, ↓b_addT, ↓k_lt, ↓k_le, ↓k_gt, ↓k_ge, ↓k_eqI, ↓k_neI, ↓k_eqStr, ↓k_neStr, ↓k_is, ↓k_isnot, ↓k_in, ↓k_notin, ↓isN_non, ↓isN_int, ↓isN_tup, ↓isN_ref, ↓isN_bl, ↓isN_str, ↓t_bl, ↓t_non, ↓t_int, ↓t_tup, ↓ix_t0, ↓ix_t1, ↓ix_t2, ↓ix_r0, ↓ix_r1, ↓ix_r2, ↓sl_tup, ↓sl_ref, ↓po_nil, ↓po_int, ↓f_lenT, ↓f_lenF, ↓f_lenR, ↓f_abs, ↓f_min, ↓f_max, ↓f_intB, ↓f_tupR, ↓f_sumR, ↓f_allR, ↓f_isiII, ↓f_isiIB, ↓f_isiTT, ↓f_isiSS, ↓negS_int, ↓chnS_bl, ↓nonS_non, ↓oSat_some, ↓insS_ref, ↓insS_app, ↓insS_set, ↓lstS_ref, ↓lstS_app, ↓lstS_set, ↓seq_nx, ↓seq_rt, ↓seq_bk, ↓seq_ct, ↓v_nil, ↓v_cons, ↓v_pass, ↓v_exp, ↓v_ret, ↓v_retN, ↓v_brk, ↓v_cnt, ↓v_ife, ↓v_asg, ↓v_asg2, ↓v_par, ↓v_par3, ↓v_ifw, ↓v_app, ↓v_ext, ↓v_augF, ↓v_for, ↓v_whl, ↓tq_fld, ↓tq_sub, ↓tq_tp, ↓tqs_nil, ↓tqs_cons, ↓tupS_tup, ↓pl_0, ↓pl_1, ↓pl_2, ↓g_add, ↓g_sub, ↓turn_nx, ↓turn_ct, ↓turn_bk, ↓turn_rt, ↓end_rt, ↓end_nx, ↓it_rng1, ↓it_rng2, ↓it_seqT, ↓it_seqF, ↓it_seqR, ↓it_enumT, ↓it_zipT, ↓ix_s0, ↓ix_s1, ↓ix_s2, ↓ix_sa0, ↓ix_sa1, ↓ix_sa2, ↓ix_new, ↓f_lenN, ↓f_tupN, ↓f_sumN, ↓f_allN, ↓sat_ok, ↓List.set_set, List.length_set, true_and, and_true, and_self, set_0, set_1, set_2, List.length_nil]
  have h1l := F2.le
  refine ⟨Nat.zero_le _, ⟨by decide, by decide, by omega, by omega⟩, ?_⟩
  have e1 : ((many : Int) - 1).toNat = many - 1 := by omega
  rw [e1]
  refine forL_rule (fun xs r h => ∃ (i t : Nat) (low : Int) (dn : List Int) (s6 : Option D), xs = rngL i t ∧ i + t = many ∧ 1 ≤ i ∧ r = [some (.ref n), some (.int many), some (.int p), some (.ref m1.length), some (.ref M.length), some (.int low), s6] ∧ h = M ++ [.lst (dn.map .int)] ∧ dn ++ limsL p low i t = limsL p (-1) 1 (many - 1) ∧ dn.length + t = many - 1) ?_ ?_ _ _ _ ⟨1, many - 1, -1, [], none, rfl, by omega, by omega, rfl, rfl, rfl, by simp⟩
  · rintro x xs r h ⟨i, t, low, dn, s6, hx, hi, hi1, rfl, rfl, hdn, hdl⟩
    cases t with
    | zero => cases hx
    | succ t =>
      rw [rngL_succ] at hx
      obtain ⟨rfl, rfl⟩ := List.cons.inj hx
      refine ⟨rfl, [some (.ref n), some (.int many), some (.int p), some (.ref m1.length), some (.ref M.length), some (.int low), some (.int i)], rfl, ?_⟩
      simp only [↓w_v0, ↓tg_n0, ↓v_au0, ↓w_v1, ↓tg_n1, ↓v_au1, ↓w_v2, ↓tg_n2, ↓v_au2, ↓w_v3, ↓tg_n3, ↓v_au3, ↓w_v4, ↓tg_n4, ↓v_au4, ↓w_v5, ↓tg_n5, ↓v_au5, ↓w_v6, ↓tg_n6, ↓v_au6, ↓w_v7, ↓tg_n7, ↓v_au7, ↓w_v8, ↓tg_n8, ↓v_au8, ↓w_v9, ↓tg_n9, ↓v_au9, ↓w_v10, ↓tg_n10, ↓v_au10, ↓w_v11, ↓tg_n11, ↓v_au11, ↓w_v12, ↓tg_n12, ↓v_au12, ↓w_v13, ↓tg_n13, ↓v_au13, ↓w_v14, ↓tg_n14, ↓v_au14, ↓w_v15, ↓tg_n15, ↓v_au15, ↓w_v16, ↓tg_n16, ↓v_au16, ↓w_v17, ↓tg_n17, ↓v_au17, ↓w_v18, ↓tg_n18, ↓v_au18, ↓w_v19, ↓tg_n19, ↓v_au19, ↓w_v20, ↓tg_n20, ↓v_au20, ↓w_v21, ↓tg_n21, ↓v_au21, ↓w_v22, ↓tg_n22, ↓v_au22, ↓w_v23, ↓tg_n23, ↓v_au23, ↓w_v24, ↓tg_n24, ↓v_au24, ↓w_v25, ↓tg_n25, ↓v_au25, ↓w_cst, ↓w_bin, ↓w_cmp, ↓w_neg, ↓w_not, ↓w_and, ↓w_or, ↓w_ite, ↓w_chn, ↓w_tup, ↓w_lst, ↓w_idx, ↓w_slc, ↓w_call, ↓w_bi, ↓w_fld, ↓w_meth, ↓w_make, ↓w_lc, ↓ws_nil, ↓ws_cons, ↓b_add, ↓b_sub, ↓b_mul, ↓b_fdiv, ↓b_mod, ↓b_pow, ↓b_shl, ↓b_addT, ↓k_lt, ↓k_le, ↓k_gt, ↓k_ge, ↓k_eqI, ↓k_neI, ↓k_eqStr, ↓k_neStr, ↓k_is, ↓k_isnot, ↓k_in, ↓k_notin, ↓isN_non, ↓isN_int, ↓isN_tup, ↓isN_ref, ↓isN_bl, ↓isN_str, ↓t_bl, ↓t_non, ↓t_int, ↓t_tup, ↓ix_t0, ↓ix_t1, ↓ix_t2, ↓ix_r0, ↓ix_r1, ↓ix_r2, ↓sl_tup, ↓sl_ref, ↓po_nil, ↓po_int, ↓f_lenT, ↓f_lenF, ↓f_lenR, ↓f_abs, ↓f_min, ↓f_max, ↓f_intB, ↓f_tupR, ↓f_sumR, ↓f_allR, ↓f_isiII, ↓f_isiIB, ↓f_isiTT, ↓f_isiSS, ↓negS_int, ↓chnS_bl, ↓nonS_non, ↓oSat_some, ↓insS_ref, ↓insS_app, ↓insS_set, ↓lstS_ref, ↓lstS_app, ↓lstS_set, ↓seq_nx, ↓seq_rt, ↓seq_bk, ↓seq_ct, ↓v_nil, ↓v_cons, ↓v_pass, ↓v_exp, ↓v_ret, ↓v_retN, ↓v_brk, ↓v_cnt, ↓v_ife, ↓v_asg, ↓v_asg2, ↓v_par, ↓v_par3, ↓v_ifw, ↓v_app, ↓v_ext, ↓v_augF, ↓v_for, ↓v_whl, ↓tq_fld, ↓tq_sub, ↓tq_tp, ↓tqs_nil, ↓tqs_cons, ↓tupS_tup, ↓pl_0, ↓pl_1, ↓pl_2, ↓g_add, ↓g_sub, ↓turn_nx, ↓turn_ct, ↓turn_bk, ↓turn_rt, ↓end_rt, ↓end_nx, ↓it_rng1, ↓it_rng2, ↓it_seqT, ↓it_seqF, ↓it_seqR, ↓it_enumT, ↓it_zipT, ↓ix_s0, ↓ix_s1, ↓ix_s2, ↓ix_sa0, ↓ix_sa1, ↓ix_sa2, ↓ix_new, ↓f_lenN, ↓f_tupN, ↓f_sumN, ↓f_allN, ↓sat_ok, ↓List.set_set, List.length_set, true_and, and_true, and_self, set_0, set_1, set_2]
      have hp0 : 0 < p := by omega
      refine ⟨⟨by omega, by omega, by decide⟩, ⟨hp0, ?_⟩, ?_, ?_⟩
      · rcases hp with rfl | rfl | rfl <;> decide
      · simp only [List.length_map]
        exact Nat.lt_of_lt_of_le (show dn.length < 41 by omega) (by decide)
      · have ew : (1 * 2 ^ (i : Int).toNat : Int) = 2 ^ i := by simp
        rw [ew]
        refine ⟨i + 1, t, (if 2 ^ i / p > low + 1 then 2 ^ i / p else low + 1), dn ++ [(if 2 ^ i / p > low + 1 then 2 ^ i / p else low + 1)], _, by simp, by omega, by omega, rfl, ?_, ?_, ?_⟩
        · rw [List.set_append_right _ _ (Nat.le_refl _)]
          simp
        · rw [← hdn, limsL]
          simp
        · simp
          omega
  · rintro r h ⟨i, t, low, dn, s6, hx, hi, hi1, rfl, rfl, hdn, hdl⟩
    have ht : t = 0 := by
      have := congrArg List.length hx
      rw [rngL_len] at this
      exact this.symm
    subst ht
    rw [limsL, List.append_nil] at hdn
    subst hdn
    refine ⟨rfl, ?_⟩
    simp only [↓w_v0, ↓tg_n0, ↓v_au0, ↓w_v1, ↓tg_n1, ↓v_au1, ↓w_v2, ↓tg_n2, ↓v_au2, ↓w_v3, ↓tg_n3, ↓v_au3, ↓w_v4, ↓tg_n4, ↓v_au4, ↓w_v5, ↓tg_n5, ↓v_au5, ↓w_v6, ↓tg_n6, ↓v_au6, ↓w_v7, ↓tg_n7, ↓v_au7, ↓w_v8, ↓tg_n8, ↓v_au8, ↓w_v9, ↓tg_n9, ↓v_au9, ↓w_v10, ↓tg_n10, ↓v_au10, ↓w_v11, ↓tg_n11, ↓v_au11, ↓w_v12, ↓tg_n12, ↓v_au12, ↓w_v13, ↓tg_n13, ↓v_au13, ↓w_v14, ↓tg_n14, ↓v_au14, ↓w_v15, ↓tg_n15, ↓v_au15, ↓w_v16, ↓tg_n16, ↓v_au16, ↓w_v17, ↓tg_n17, ↓v_au17, ↓w_v18, ↓tg_n18, ↓v_au18, ↓w_v19, ↓tg_n19, ↓v_au19, ↓w_v20, ↓tg_n20, ↓v_au20, ↓w_v21, ↓tg_n21, ↓v_au21, ↓w_v22, ↓tg_n22, ↓v_au22, ↓w_v23, ↓tg_n23, ↓v_au23, ↓w_v24, ↓tg_n24, ↓v_au24, ↓w_v25, ↓tg_n25, ↓v_au25, ↓w_cst, ↓w_bin, ↓w_cmp, ↓w_neg, ↓w_not, ↓w_and, ↓w_or, ↓w_ite, ↓w_chn, ↓w_tup, ↓w_lst, ↓w_idx, ↓w_slc, ↓w_call, ↓w_bi, ↓w_fld, ↓w_meth, ↓w_make, ↓w_lc, ↓ws_nil, ↓ws_cons, ↓b_add, ↓b_sub, ↓b_mul, ↓b_fdiv, ↓b_mod, ↓b_pow, ↓b_shl, ↓b_addT, ↓k_lt, ↓k_le, ↓k_gt, ↓k_ge, ↓k_eqI, ↓k_neI, ↓k_eqStr, ↓k_neStr, ↓k_is, ↓k_isnot, ↓k_in, ↓k_notin, ↓isN_non, ↓isN_int, ↓isN_tup, ↓isN_ref, ↓isN_bl, ↓isN_str, ↓t_bl, ↓t_non, ↓t_int, ↓t_tup, ↓ix_t0, ↓ix_t1, ↓ix_t2, ↓ix_r0, ↓ix_r1, ↓ix_r2, ↓sl_tup, ↓sl_ref, ↓po_nil, ↓po_int, ↓f_lenT, ↓f_lenF, ↓f_lenR, ↓f_abs, ↓f_min, ↓f_max, ↓f_intB, ↓f_tupR, ↓f_sumR, ↓f_allR, ↓f_isiII, ↓f_isiIB, ↓f_isiTT, ↓f_isiSS, ↓negS_int, ↓chnS_bl, ↓nonS_non, ↓oSat_some, ↓insS_ref, ↓insS_app, ↓insS_set, ↓lstS_ref, ↓lstS_app, ↓lstS_set, ↓seq_nx, ↓seq_rt, ↓seq_bk, ↓seq_ct, ↓v_nil, ↓v_cons, ↓v_pass, ↓v_exp, ↓v_ret, ↓v_retN, ↓v_brk, ↓v_cnt, ↓v_ife, ↓v_asg, ↓v_asg2, ↓v_par, ↓v_par3, ↓v_ifw, ↓v_app, ↓v_ext, ↓v_augF, ↓v_for, ↓v_whl, ↓tq_fld, ↓tq_sub, ↓tq_tp, ↓tqs_nil, ↓tqs_cons, ↓tupS_tup, ↓pl_0, ↓pl_1, ↓pl_2, ↓g_add, ↓g_sub, ↓turn_nx, ↓turn_ct, ↓turn_bk, ↓turn_rt, ↓end_rt, ↓end_nx, ↓it_rng1, ↓it_rng2, ↓it_seqT, ↓it_seqF, ↓it_seqR, ↓it_enumT, ↓it_zipT, ↓ix_s0, ↓ix_s1, ↓ix_s2, ↓ix_sa0, ↓ix_sa1, ↓ix_sa2, ↓ix_new, ↓f_lenN, ↓f_tupN, ↓f_sumN, ↓f_allN, ↓sat_ok, ↓List.set_set, List.length_set, true_and, and_true, and_self, set_0, set_1, set_2]
    rw [f_tupR (xs := (caps many).map .int) (by rw [get_a (by omega)]; exact hcp), f_tupN]
    refine ⟨⟨by decide, by decide⟩, ?_⟩
    refine (below_sp hd4.app (by omega) (by decide) (by decide)).imp ?_
    rintro d m2 ⟨fx, o3, rfl, hf0, hf1, e2, ho3, hd5⟩
    have F4 : Fits m n m2 := e2 ▸ F3.app.set hn ho3
    clear e2
    refine ⟨(show 3 ≤ sizeLine by decide), ?_⟩
    refine (pick_sp (q := m2.length) hd5.app (by omega) gt_new (by have := F4.le; omega) (by simp) (by simp) ?_).imp ?_
    · intro x hx n
      simp only [List.mem_cons, List.not_mem_nil, or_false] at hx
      rcases hx with rfl | rfl | rfl <;> rfl
    rintro d m3 ⟨o4, hmem4, e2, ho4, hd6⟩
    have F5 : Fits m n m3 := e2 ▸ F4.app.set hn ho4
    clear e2
    have hf : ∃ f : Int, d = .int f ∧ 0 ≤ f ∧ f < 10 ^ 12 := by
      simp only [List.mem_cons, List.not_mem_nil, or_false] at hmem4
      rcases hmem4 with rfl | rfl | rfl
      · exact ⟨_, rfl, by decide, by decide⟩
      · exact ⟨_, rfl, by decide, by decide⟩
      · exact ⟨_, rfl, hf0, hf1⟩
    obtain ⟨f, rfl, hfa, hfb⟩ := hf
    refine ⟨(show 3 ≤ sizeLine by decide), ?_⟩
    refine F5.gc hd6 hn (by simp [below, belowL, below_ints]) fun o5 ho5 hd7 => ?_
    refine ⟨many, p, f, o5, by omega, by omega, hp, hfa, hfb, rfl, rfl, ho5, ?_⟩
    have e9 : S + 1 + 1 + 1 + 1 = S + 4 := by omega
    rw [e9] at hd7
    exact hd7
/-- the level of a size -/
def lvF (size : Int) : D → Option D
  | .tup [.int i, .int c] => if size ≤ c then some (.int i) else none
  | _ => none
theorem lv_first (size : Int) : ∀ (cs : List Int) (s : Int) (L : Nat) (c : Int), cs[L]? = some c → size ≤ c → (∀ i, i < L → ∀ c', cs[i]? = some c' → c' < size) → ∃ rest, (enumL s (cs.map .int)).filterMap (lvF size) = .int (s + L) :: rest
  | [], s, L, c, h, _, _ => by simp at h
  | x :: cs, s, 0, c, h, hc, _ => by
    simp only [List.getElem?_cons_zero, Option.some.injEq] at h
    subst h
    refine ⟨(enumL (s + 1) (cs.map .int)).filterMap (lvF size), ?_⟩
    simp only [List.map_cons, enumL, List.filterMap_cons, lvF, hc, if_true]
    simp
  | x :: cs, s, L + 1, c, h, hc, hb => by
    have hx := hb 0 (by omega) x rfl
    obtain ⟨rest, e⟩ := lv_first size cs (s + 1) L c (by simpa using h) hc (fun i hi c' hc' => hb (i + 1) (by omega) c' (by simpa using hc'))
    refine ⟨rest, ?_⟩
    simp only [List.map_cons, enumL, List.filterMap_cons, lvF]
    rw [if_neg (by omega)]
    simp only [e]
    have e2 : s + 1 + (L : Int) = s + ((L + 1 : Nat) : Int) := by omega
    rw [e2]
theorem enumL_len : ∀ (xs : List D) (s : Int), (enumL s xs).length = xs.length
  | [], _ => rfl
  | x :: xs, s => by simp [enumL, enumL_len xs]
theorem enumL_mem : ∀ (cs : List Int) (s : Int) (x : D), x ∈ enumL s (cs.map .int) → ∃ i c, x = .tup [.int i, .int c]
  | [], _, _, h => by simp [enumL] at h
  | c :: cs, s, x, h => by
    simp only [List.map_cons, enumL, List.mem_cons] at h
    rcases h with rfl | h
    · exact ⟨_, _, rfl⟩
    · exact enumL_mem cs _ _ h
theorem caps_at {n i : Nat} {c : Int} : (caps n)[i]? = some c ↔ i < n ∧ c = 2 ^ i := by
  unfold caps
  rw [List.getElem?_map]
  by_cases h : i < n
  · rw [List.getElem?_range h]
    simp only [Option.map_some, Option.some.injEq, h, true_and]
    exact eq_comm
  · rw [List.getElem?_eq_none (by simpa using h)]
    simp [h]
theorem level_sp {k many : Nat} {size : Int} {m : Hs} {L : Nat} (hm : many ≤ 40) (hL : L < many) (h1 : size ≤ 2 ^ L) (h2 : ∀ i, i < L → (2 : Int) ^ i < size) :
    callN Dt (k + 1) 20 [.tup ((caps many).map .int), .int size] m = .ok (.int L) m := by
  have key : (callN Dt (k + 1) 20 [.tup ((caps many).map .int), .int size] m).sat fun d m' => d = .int L ∧ m' = m := by
    refine fn_sat (fn := f_law_level) rfl rfl [some (.tup ((caps many).map .int)), some (.int size), none, none] rfl ?_
    show (evSs _ b_law_level _ _).sat _
    unfold b_law_level
    simp only [↓w_v0, ↓tg_n0, ↓v_au0, ↓w_v1, ↓tg_n1, ↓v_au1, ↓w_v2, ↓tg_n2, ↓v_au2, ↓w_v3, ↓tg_n3, ↓v_au3, ↓w_v4, ↓tg_n4, ↓v_au4, ↓w_v5, ↓tg_n5, ↓v_au5, ↓w_v6, ↓tg_n6, ↓v_au6, ↓w_v7, ↓tg_n7, ↓v_au7, ↓w_v8, ↓tg_n8, ↓v_au8, ↓w_v9, ↓tg_n9, ↓v_au9, ↓w_v10, ↓tg_n10, ↓v_au10, ↓w_v11, ↓tg_n11, ↓v_au11, ↓w_v12, ↓tg_n12, ↓v_au12, ↓w_v13, ↓tg_n13, ↓v_au13, ↓w_v14, ↓tg_n14, ↓v_au14, ↓w_v15, ↓tg_n15, ↓v_au15, ↓w_v16, ↓tg_n16, ↓v_au16, ↓w_v17, ↓tg_n17, ↓v_au17, ↓w_v18, ↓tg_n18, ↓v_au18, ↓w_v19, ↓tg_n19, ↓v_au19, ↓w_v20, ↓tg_n20, ↓v_au20, ↓w_v21, ↓tg_n21, ↓v_au21, ↓w_v22, ↓tg_n22, ↓v_au22, ↓w_v23, ↓tg_n23, ↓v_au23, ↓w_v24, ↓tg_n24, ↓v_au24, ↓w_v25, ↓tg_n25, ↓v_au25, ↓w_cst, ↓w_bin, ↓w_cmp, ↓w_neg, ↓w_not, ↓w_and, ↓w_or, ↓w_ite, ↓w_chn, ↓w_tup, ↓w_lst, ↓w_idx, ↓w_slc, ↓w_call, ↓w_bi, ↓w_fld, ↓w_meth, ↓w_make, ↓w_lc, ↓ws_nil, ↓ws_cons, ↓b_add, ↓b_sub, ↓b_mul, ↓b_fdiv, ↓b_mod, ↓b_pow, ↓b_shl, ↓b_addT, ↓k_lt, ↓k_le, ↓k_gt, ↓k_ge, ↓k_eqI, ↓k_neI, ↓k_eqStr, ↓k_neStr, ↓k_is, ↓k_isnot, ↓k_in, ↓k_notin, ↓isN_non, ↓isN_int, ↓isN_tup, ↓isN_ref, ↓isN_bl, ↓isN_str, ↓t_bl, ↓t_non, ↓t_int, ↓t_tup, ↓ix_t0, ↓ix_t1, ↓ix_t2, ↓ix_r0, ↓ix_r1, ↓ix_r2, ↓sl_tup, ↓sl_ref, ↓po_nil, ↓po_int, ↓f_lenT, ↓f_lenF, ↓f_lenR, ↓f_abs, ↓f_min, ↓f_max, ↓f_intB, ↓f_tupR, ↓f_sumR, ↓f_allR, ↓f_isiII, ↓f_isiIB, ↓f_isiTT, ↓f_isiSS, ↓negS_int, ↓chnS_bl, ↓nonS_non, ↓oSat_some, ↓insS_ref, ↓insS_app, ↓insS_set, ↓lstS_ref, ↓lstS_app, ↓lstS_set, ↓seq_nx, ↓seq_rt, ↓seq_bk, ↓seq_ct, ↓v_nil, ↓v_cons, ↓v_pass, ↓v_exp, ↓v_ret, ↓v_retN, ↓v_brk, ↓v_cnt, ↓v_ife, ↓v_asg, ↓v_asg2, ↓v_par, ↓v_par3, ↓v_ifw, ↓v_app, ↓v_ext, ↓v_augF, ↓v_for, ↓v_whl, ↓tq_fld, ↓tq_sub, ↓tq_tp, ↓tqs_nil, ↓tqs_cons, ↓tupS_tup, ↓pl_0, ↓pl_1, ↓pl_2, ↓g_add, ↓g_sub, ↓turn_nx, ↓turn_ct, ↓turn_bk, ↓turn_rt, ↓end_rt, ↓end_nx, ↓it_rng1, ↓it_rng2, ↓it_seqT, ↓it_seqF, ↓it_seqR, ↓it_enumT, ↓it_zipT, ↓ix_s0, ↓ix_s1, ↓ix_s2, ↓ix_sa0, ↓ix_sa1, ↓ix_sa2, ↓ix_new, ↓f_lenN, ↓f_tupN, ↓f_sumN, ↓f_allN, ↓sat_ok, ↓List.set_set, List.length_set, true_and, and_true, and_self, set_0, set_1, set_2]
    rw [lcL_pure (lvF size) (fun _ => rfl) _ _ ?_ ?_]
    · obtain ⟨rest, e⟩ := lv_first size (caps many) 0 L _ (caps_at.2 ⟨hL, rfl⟩) h1 fun i hi c' hc' => by
        obtain ⟨_, rfl⟩ := caps_at.1 hc'
        exact h2 i hi
      rw [e, List.nil_append]
      simp only [↓w_v0, ↓tg_n0, ↓v_au0, ↓w_v1, ↓tg_n1, ↓v_au1, ↓w_v2, ↓tg_n2, ↓v_au2, ↓w_v3, ↓tg_n3, ↓v_au3, ↓w_v4, ↓tg_n4, ↓v_au4, ↓w_v5, ↓tg_n5, ↓v_au5, ↓w_v6, ↓tg_n6, ↓v_au6, ↓w_v7, ↓tg_n7, ↓v_au7, ↓w_v8, ↓tg_n8, ↓v_au8, ↓w_v9, ↓tg_n9, ↓v_au9, ↓w_v10, ↓tg_n10, ↓v_au10, ↓w_v11, ↓tg_n11, ↓v_au11, ↓w_v12, ↓tg_n12, ↓v_au12, ↓w_v13, ↓tg_n13, ↓v_au13, ↓w_v14, ↓tg_n14, ↓v_au14, ↓w_v15, ↓tg_n15, ↓v_au15, ↓w_v16, ↓tg_n16, ↓v_au16, ↓w_v17, ↓tg_n17, ↓v_au17, ↓w_v18, ↓tg_n18, ↓v_au18, ↓w_v19, ↓tg_n19, ↓v_au19, ↓w_v20, ↓tg_n20, ↓v_au20, ↓w_v21, ↓tg_n21, ↓v_au21, ↓w_v22, ↓tg_n22, ↓v_au22, ↓w_v23, ↓tg_n23, ↓v_au23, ↓w_v24, ↓tg_n24, ↓v_au24, ↓w_v25, ↓tg_n25, ↓v_au25, ↓w_cst, ↓w_bin, ↓w_cmp, ↓w_neg, ↓w_not, ↓w_and, ↓w_or, ↓w_ite, ↓w_chn, ↓w_tup, ↓w_lst, ↓w_idx, ↓w_slc, ↓w_call, ↓w_bi, ↓w_fld, ↓w_meth, ↓w_make, ↓w_lc, ↓ws_nil, ↓ws_cons, ↓b_add, ↓b_sub, ↓b_mul, ↓b_fdiv, ↓b_mod, ↓b_pow, ↓b_shl, ↓b_addT, ↓k_lt, ↓k_le, ↓k_gt, ↓k_ge, ↓k_eqI, ↓k_neI, ↓k_eqStr, ↓k_neStr, ↓k_is, ↓k_isnot, ↓k_in, ↓k_notin, ↓isN_non, ↓isN_int, ↓isN_tup, ↓isN_ref, ↓isN_bl, ↓isN_str, ↓t_bl, ↓t_non, ↓t_int, ↓t_tup, ↓ix_t0, ↓ix_t1, ↓ix_t2, ↓ix_r0, ↓ix_r1, ↓ix_r2, ↓sl_tup, ↓sl_ref, ↓po_nil, ↓po_int, ↓f_lenT, ↓f_lenF, ↓f_lenR, ↓f_abs, ↓f_min, ↓f_max, ↓f_intB, ↓f_tupR, ↓f_sumR, ↓f_allR, ↓f_isiII, ↓f_isiIB, ↓f_isiTT, ↓f_isiSS, ↓negS_int, ↓chnS_bl, ↓nonS_non, ↓oSat_some, ↓insS_ref, ↓insS_app, ↓insS_set, ↓lstS_ref, ↓lstS_app, ↓lstS_set, ↓seq_nx, ↓seq_rt, ↓seq_bk, ↓seq_ct, ↓v_nil, ↓v_cons, ↓v_pass, ↓v_exp, ↓v_ret, ↓v_retN, ↓v_brk, ↓v_cnt, ↓v_ife, ↓v_asg, ↓v_asg2, ↓v_par, ↓v_par3, ↓v_ifw, ↓v_app, ↓v_ext, ↓v_augF, ↓v_for, ↓v_whl, ↓tq_fld, ↓tq_sub, ↓tq_tp, ↓tqs_nil, ↓tqs_cons, ↓tupS_tup, ↓pl_0, ↓pl_1, ↓pl_2, ↓g_add, ↓g_sub, ↓turn_nx, ↓turn_ct, ↓turn_bk, ↓turn_rt, ↓end_rt, ↓end_nx, ↓it_rng1, ↓it_rng2, ↓it_seqT, ↓it_seqF, ↓it_seqR, ↓it_enumT, ↓it_zipT, ↓ix_s0, ↓ix_s1, ↓ix_s2, ↓ix_sa0, ↓ix_sa1, ↓ix_sa2, ↓ix_new, ↓f_lenN, ↓f_tupN, ↓f_sumN, ↓f_allN, ↓sat_ok, ↓List.set_set, List.length_set, true_and, and_true, and_self, set_0, set_1, set_2]
      rw [gc_pure rfl]
      simp
    · intro x hx acc
      obtain ⟨i, c, rfl⟩ := enumL_mem _ _ _ hx
      refine lcU_sat (r2 := [some (.tup ((caps many).map .int)), some (.int size), some (.int i), some (.int c)]) rfl ?_
      simp only [↓w_v0, ↓tg_n0, ↓v_au0, ↓w_v1, ↓tg_n1, ↓v_au1, ↓w_v2, ↓tg_n2, ↓v_au2, ↓w_v3, ↓tg_n3, ↓v_au3, ↓w_v4, ↓tg_n4, ↓v_au4, ↓w_v5, ↓tg_n5, ↓v_au5, ↓w_v6, ↓tg_n6, ↓v_au6, ↓w_v7, ↓tg_n7, ↓v_au7, ↓w_v8, ↓tg_n8, ↓v_au8, ↓w_v9, ↓tg_n9, ↓v_au9, ↓w_v10, ↓tg_n10, ↓v_au10, ↓w_v11, ↓tg_n11, ↓v_au11, ↓w_v12, ↓tg_n12, ↓v_au12, ↓w_v13, ↓tg_n13, ↓v_au13, ↓w_v14, ↓tg_n14, ↓v_au14, ↓w_v15, ↓tg_n15, ↓v_au15, ↓w_v16, ↓tg_n16, ↓v_au16, ↓w_v17, ↓tg_n17, ↓v_au17, ↓w_v18, ↓tg_n18, ↓v_au18, ↓w_v19, ↓tg_n19, ↓v_au19, ↓w_v20, ↓tg_n20, ↓v_au20, ↓w_v21, ↓tg_n21, ↓v_au21, ↓w_v22, ↓tg_n22, ↓v_au22, ↓w_v23, ↓tg_n23, ↓v_au23, ↓w_v24, ↓tg_n24, ↓v_au24, ↓w_v25, ↓tg_n25, ↓v_au25, ↓w_cst, ↓w_bin, ↓w_cmp, ↓w_neg, ↓w_not, ↓w_and, ↓w_or, ↓w_ite, ↓w_chn, ↓w_tup, ↓w_lst, ↓w_idx, ↓w_slc, ↓w_call, ↓w_bi, ↓w_fld, ↓w_meth, ↓w_make, ↓w_lc, ↓ws_nil, ↓ws_cons, ↓b_add, ↓b_sub, ↓b_mul, ↓b_fdiv, ↓b_mod, ↓b_pow, ↓b_shl, ↓b_addT, ↓k_lt, ↓k_le, ↓k_gt, ↓k_ge, ↓k_eqI, ↓k_neI, ↓k_eqStr, ↓k_neStr, ↓k_is, ↓k_isnot, ↓k_in, ↓k_notin, ↓isN_non, ↓isN_int, ↓isN_tup, ↓isN_ref, ↓isN_bl, ↓isN_str, ↓t_bl, ↓t_non, ↓t_int, ↓t_tup, ↓ix_t0, ↓ix_t1, ↓ix_t2, ↓ix_r0, ↓ix_r1, ↓ix_r2, ↓sl_tup, ↓sl_ref, ↓po_nil, ↓po_int, ↓f_lenT, ↓f_lenF, ↓f_lenR, ↓f_abs, ↓f_min, ↓f_max, ↓f_intB, ↓f_tupR, ↓f_sumR, ↓f_allR, ↓f_isiII, ↓f_isiIB, ↓f_isiTT, ↓f_isiSS, ↓negS_int, ↓chnS_bl, ↓nonS_non, ↓oSat_some, ↓insS_ref, ↓insS_app, ↓insS_set, ↓lstS_ref, ↓lstS_app, ↓lstS_set, ↓seq_nx, ↓seq_rt, ↓seq_bk, ↓seq_ct, ↓v_nil, ↓v_cons, ↓v_pass, ↓v_exp, ↓v_ret, ↓v_retN, ↓v_brk, ↓v_cnt, ↓v_ife, ↓v_asg, ↓v_asg2, ↓v_par, ↓v_par3, ↓v_ifw, ↓v_app, ↓v_ext, ↓v_augF, ↓v_for, ↓v_whl, ↓tq_fld, ↓tq_sub, ↓tq_tp, ↓tqs_nil, ↓tqs_cons, ↓tupS_tup, ↓pl_0, ↓pl_1, ↓pl_2, ↓g_add, ↓g_sub, ↓turn_nx, ↓turn_ct, ↓turn_bk, ↓turn_rt, ↓end_rt, ↓end_nx, ↓it_rng1, ↓it_rng2, ↓it_seqT, ↓it_seqF, ↓it_seqR, ↓it_enumT, ↓it_zipT, ↓ix_s0, ↓ix_s1, ↓ix_s2, ↓ix_sa0, ↓ix_sa1, ↓ix_sa2, ↓ix_new, ↓f_lenN, ↓f_tupN, ↓f_sumN, ↓f_allN, ↓sat_ok, ↓List.set_set, List.length_set, true_and, and_true, and_self, set_0, set_1, set_2, testsOf, lvF]
      split
      · rename_i hh
        simp only [decide_eq_true_eq] at hh
        simp [hh]
      · rename_i hh
        simp only [decide_eq_true_eq] at hh
        simp [hh]
    · simp only [List.length_nil, enumL_len, List.length_map, caps, List.length_range]
      exact Nat.le_trans (show 0 + many ≤ 41 by omega) (by decide)
  obtain ⟨d, m', e, rfl, rfl⟩ := sat_iff.1 key
  exact e
end G.K13
set_option maxRecDepth 100000
set_option maxHeartbeats 4000000
namespace G.K13
open PySem G
def pr (p : Int × Int) : D := .tup [.int p.1, .int p.2]
def plc (P : List (Int × Int)) : D := .tup (P.map pr)
def trk (P : List (Int × Int)) (fx mo lv sz pd dn : Int) : List (Str × D) := [("places", plc P), ("fixed", .int fx), ("most", .int mo), ("at_level", .int lv), ("at_size", .int sz), ("paid", .int pd), ("done", .int dn)]
theorem lookup_ix (f : Str) : ∀ (l : List (Str × D)) (i : Nat) (v : D), (l.map (·.1)).findIdx (fun k => f == k) = i → (l.map (·.2))[i]? = some v → l.lookup f = some v
  | [], i, v, _, h => by simp at h
  | (k, x) :: l, i, v, hi, h => by
    rw [List.map_cons, List.findIdx_cons] at hi
    rw [List.lookup_cons]
    cases hk : f == k with
    | true =>
      rw [hk] at hi
      subst hi
      simpa using h
    | false =>
      simp only [hk, cond_false] at hi
      subst hi
      exact lookup_ix f l _ v rfl (by simpa using h)
theorem lookup_no (f : Str) : ∀ (l : List (Str × D)), (l.map (·.1)).all (fun k => !(f == k)) = true → l.lookup f = none
  | [], _ => rfl
  | (k, x) :: l, h => by
    simp only [List.map_cons, List.all_cons, Bool.and_eq_true, Bool.not_eq_true'] at h
    rw [List.lookup_cons, h.1]
    exact lookup_no f l h.2
theorem put_ix (f : Str) (d : D) : ∀ (l : List (Str × D)) (i : Nat), (l.map (·.1)).findIdx (fun k => decide (k = f)) = i → i < l.length → putD f d l = l.set i (f, d)
  | [], i, _, h => by simp at h
  | (k, x) :: l, i, hi, h => by
    rw [List.map_cons, List.findIdx_cons] at hi
    rw [putD]
    by_cases hk : k = f
    · subst hk
      simp only [decide_true, cond_true] at hi
      subst hi
      rw [if_pos rfl]
      rfl
    · simp only [hk, decide_false, cond_false] at hi
      subst hi
      rw [if_neg hk, put_ix f d l _ rfl (by simpa using h)]
      rfl
theorem meth_ix (f : Str) : ∀ (l : List (Str × Nat)) (i v : Nat), (l.map (·.1)).findIdx (fun k => f == k) = i → (l.map (·.2))[i]? = some v → l.lookup f = some v
  | [], i, v, _, h => by simp at h
  | (k, x) :: l, i, v, hi, h => by
    rw [List.map_cons, List.findIdx_cons] at hi
    rw [List.lookup_cons]
    cases hk : f == k with
    | true =>
      rw [hk] at hi
      subst hi
      simpa using h
    | false =>
      simp only [hk, cond_false] at hi
      subst hi
      exact meth_ix f l _ v rfl (by simpa using h)
section
variable {P : List (Int × Int)} {fx mo lv sz pd dn v : Int} {Q : D → Prop}
def tkeys : List Str := ["places", "fixed", "most", "at_level", "at_size", "paid", "done"]
theorem trk_keys : (trk P fx mo lv sz pd dn).map (·.1) = tkeys := rfl
theorem tk_places : oSat ((trk P fx mo lv sz pd dn).lookup ("places" : Str)) Q = Q (plc P) := by
  rw [lookup_ix "places" (trk P fx mo lv sz pd dn) 0 (plc P) (by rw [trk_keys]; decide +kernel) rfl, oSat_some]
theorem tk_fixed : oSat ((trk P fx mo lv sz pd dn).lookup ("fixed" : Str)) Q = Q (.int fx) := by
  rw [lookup_ix "fixed" (trk P fx mo lv sz pd dn) 1 (.int fx) (by rw [trk_keys]; decide +kernel) rfl, oSat_some]
theorem tp_fixed : putD "fixed" (.int v) (trk P fx mo lv sz pd dn) = trk P v mo lv sz pd dn := by
  rw [put_ix "fixed" (.int v) (trk P fx mo lv sz pd dn) 1 (by rw [trk_keys]; decide +kernel) (by show 1 < 7; decide)]
  rfl
theorem tk_most : oSat ((trk P fx mo lv sz pd dn).lookup ("most" : Str)) Q = Q (.int mo) := by
  rw [lookup_ix "most" (trk P fx mo lv sz pd dn) 2 (.int mo) (by rw [trk_keys]; decide +kernel) rfl, oSat_some]
theorem tp_most : putD "most" (.int v) (trk P fx mo lv sz pd dn) = trk P fx v lv sz pd dn := by
  rw [put_ix "most" (.int v) (trk P fx mo lv sz pd dn) 2 (by rw [trk_keys]; decide +kernel) (by show 2 < 7; decide)]
  rfl
theorem tk_level : oSat ((trk P fx mo lv sz pd dn).lookup ("at_level" : Str)) Q = Q (.int lv) := by
  rw [lookup_ix "at_level" (trk P fx mo lv sz pd dn) 3 (.int lv) (by rw [trk_keys]; decide +kernel) rfl, oSat_some]
theorem tp_level : putD "at_level" (.int v) (trk P fx mo lv sz pd dn) = trk P fx mo v sz pd dn := by
  rw [put_ix "at_level" (.int v) (trk P fx mo lv sz pd dn) 3 (by rw [trk_keys]; decide +kernel) (by show 3 < 7; decide)]
  rfl
theorem tk_size : oSat ((trk P fx mo lv sz pd dn).lookup ("at_size" : Str)) Q = Q (.int sz) := by
  rw [lookup_ix "at_size" (trk P fx mo lv sz pd dn) 4 (.int sz) (by rw [trk_keys]; decide +kernel) rfl, oSat_some]
theorem tp_size : putD "at_size" (.int v) (trk P fx mo lv sz pd dn) = trk P fx mo lv v pd dn := by
  rw [put_ix "at_size" (.int v) (trk P fx mo lv sz pd dn) 4 (by rw [trk_keys]; decide +kernel) (by show 4 < 7; decide)]
  rfl
theorem tk_paid : oSat ((trk P fx mo lv sz pd dn).lookup ("paid" : Str)) Q = Q (.int pd) := by
  rw [lookup_ix "paid" (trk P fx mo lv sz pd dn) 5 (.int pd) (by rw [trk_keys]; decide +kernel) rfl, oSat_some]
theorem tp_paid : putD "paid" (.int v) (trk P fx mo lv sz pd dn) = trk P fx mo lv sz v dn := by
  rw [put_ix "paid" (.int v) (trk P fx mo lv sz pd dn) 5 (by rw [trk_keys]; decide +kernel) (by show 5 < 7; decide)]
  rfl
theorem tk_done : oSat ((trk P fx mo lv sz pd dn).lookup ("done" : Str)) Q = Q (.int dn) := by
  rw [lookup_ix "done" (trk P fx mo lv sz pd dn) 6 (.int dn) (by rw [trk_keys]; decide +kernel) rfl, oSat_some]
theorem tp_done : putD "done" (.int v) (trk P fx mo lv sz pd dn) = trk P fx mo lv sz pd v := by
  rw [put_ix "done" (.int v) (trk P fx mo lv sz pd dn) 6 (by rw [trk_keys]; decide +kernel) (by show 6 < 7; decide)]
  rfl
theorem tm_push : ((trk P fx mo lv sz pd dn).lookup ("push" : Str) = none) = True := by
  rw [lookup_no "push" (trk P fx mo lv sz pd dn) (by rw [trk_keys]; decide +kernel), eq_self]
theorem tm_pop : ((trk P fx mo lv sz pd dn).lookup ("pop" : Str) = none) = True := by
  rw [lookup_no "pop" (trk P fx mo lv sz pd dn) (by rw [trk_keys]; decide +kernel), eq_self]
theorem tm_move : ((trk P fx mo lv sz pd dn).lookup ("move" : Str) = none) = True := by
  rw [lookup_no "move" (trk P fx mo lv sz pd dn) (by rw [trk_keys]; decide +kernel), eq_self]
theorem tm_rest : ((trk P fx mo lv sz pd dn).lookup ("rest" : Str) = none) = True := by
  rw [lookup_no "rest" (trk P fx mo lv sz pd dn) (by rw [trk_keys]; decide +kernel), eq_self]
theorem tm_run : ((trk P fx mo lv sz pd dn).lookup ("run" : Str) = none) = True := by
  rw [lookup_no "run" (trk P fx mo lv sz pd dn) (by rw [trk_keys]; decide +kernel), eq_self]
theorem tl : ((trk P fx mo lv sz pd dn).length < 900) = True := eq_true (show 7 < 900 by decide)
theorem below_plc (n : Nat) : ∀ P : List (Int × Int), belowL n (P.map pr) = true
  | [] => rfl
  | p :: P => by simp [belowL, pr, below, below_plc n P]
theorem below_trk (n : Nat) : belowO n (.ins 0 (trk P fx mo lv sz pd dn)) = true := by
  simp [belowO, belowF, trk, below, plc, below_plc]
end
def tmeths : List (Str × Nat) := [("move", 8), ("rest", 9), ("push", 10), ("pop", 11), ("run", 12)]
def tattrs : List Str := ["at_level", "at_size", "done", "fixed", "most", "paid", "places"]
theorem cls0 : Dt.cls 0 = some ⟨7, tmeths, tattrs⟩ := rfl
section
variable {Q : Nat → Prop}
theorem ci_0 {Q : Cl → Prop} : oSat (Dt.cls 0) Q = Q ⟨7, tmeths, tattrs⟩ := by rw [cls0, oSat_some]
theorem cm_push : oSat ((Dt.cls 0).bind fun k => k.meths.lookup ("push" : Str)) Q = Q 10 := by
  rw [cls0, Option.bind_some]
  show oSat (tmeths.lookup ("push" : Str)) Q = _
  rw [meth_ix "push" tmeths 2 10 (by decide +kernel) rfl, oSat_some]
theorem cm_pop : oSat ((Dt.cls 0).bind fun k => k.meths.lookup ("pop" : Str)) Q = Q 11 := by
  rw [cls0, Option.bind_some]
  show oSat (tmeths.lookup ("pop" : Str)) Q = _
  rw [meth_ix "pop" tmeths 3 11 (by decide +kernel) rfl, oSat_some]
theorem cm_move : oSat ((Dt.cls 0).bind fun k => k.meths.lookup ("move" : Str)) Q = Q 8 := by
  rw [cls0, Option.bind_some]
  show oSat (tmeths.lookup ("move" : Str)) Q = _
  rw [meth_ix "move" tmeths 0 8 (by decide +kernel) rfl, oSat_some]
theorem cm_rest : oSat ((Dt.cls 0).bind fun k => k.meths.lookup ("rest" : Str)) Q = Q 9 := by
  rw [cls0, Option.bind_some]
  show oSat (tmeths.lookup ("rest" : Str)) Q = _
  rw [meth_ix "rest" tmeths 1 9 (by decide +kernel) rfl, oSat_some]
theorem cm_run : oSat ((Dt.cls 0).bind fun k => k.meths.lookup ("run" : Str)) Q = Q 12 := by
  rw [cls0, Option.bind_some]
  show oSat (tmeths.lookup ("run" : Str)) Q = _
  rw [meth_ix "run" tmeths 4 12 (by decide +kernel) rfl, oSat_some]
theorem ca_places : (((Dt.cls 0).map fun k => k.attrs.contains "places") = some true) = True := by
  rw [cls0, Option.map_some]
  exact eq_true (congrArg some (show tattrs.contains "places" = true by decide +kernel))
theorem ca_fixed : (((Dt.cls 0).map fun k => k.attrs.contains "fixed") = some true) = True := by
  rw [cls0, Option.map_some]
  exact eq_true (congrArg some (show tattrs.contains "fixed" = true by decide +kernel))
theorem ca_most : (((Dt.cls 0).map fun k => k.attrs.contains "most") = some true) = True := by
  rw [cls0, Option.map_some]
  exact eq_true (congrArg some (show tattrs.contains "most" = true by decide +kernel))
theorem ca_level : (((Dt.cls 0).map fun k => k.attrs.contains "at_level") = some true) = True := by
  rw [cls0, Option.map_some]
  exact eq_true (congrArg some (show tattrs.contains "at_level" = true by decide +kernel))
theorem ca_size : (((Dt.cls 0).map fun k => k.attrs.contains "at_size") = some true) = True := by
  rw [cls0, Option.map_some]
  exact eq_true (congrArg some (show tattrs.contains "at_size" = true by decide +kernel))
theorem ca_paid : (((Dt.cls 0).map fun k => k.attrs.contains "paid") = some true) = True := by
  rw [cls0, Option.map_some]
  exact eq_true (congrArg some (show tattrs.contains "paid" = true by decide +kernel))
theorem ca_done : (((Dt.cls 0).map fun k => k.attrs.contains "done") = some true) = True := by
  rw [cls0, Option.map_some]
  exact eq_true (congrArg some (show tattrs.contains "done" = true by decide +kernel))
end
section
variable {P : List (Int × Int)} {m : Hs} {Q : D → Hs → Prop}
theorem f_lenP : (biS .len [plc P] m).sat Q = Q (.int P.length) m := by
  unfold plc
  rw [f_lenT, List.length_map]
theorem ix_plc {j : Int} {p : Int × Int} (h0 : 0 ≤ j) (h : P[j.toNat]? = some p) : (idxS (plc P) (.int j) m).sat Q = Q (pr p) m := by
  unfold plc
  rw [ix_at h0 (v := pr p) (by rw [List.getElem?_map, h]; rfl)]
theorem ix_pr0 {p : Int × Int} : (idxS (pr p) (.int 0) m).sat Q = Q (.int p.1) m := ix_t0
theorem ix_pr1 {p : Int × Int} : (idxS (pr p) (.int 1) m).sat Q = Q (.int p.2) m := ix_t1
theorem set_same {n : Nat} {o : O} (hn : m[n]? = some o) : m.set n o = m := by
  obtain ⟨hl, he⟩ := List.getElem?_eq_some_iff.1 hn
  rw [← he, List.set_getElem_self]
theorem get_far {n : Nat} {o q : O} : (m.set n o ++ [q])[m.length]? = some q := by
  rw [List.getElem?_append_right (by simp)]
  simp
end
theorem sat_eq {f : Nat} {args : List D} {m m' : Hs} {k : Nat} {d : D} (h : (callN Dt k f args m).sat fun x h => x = d ∧ h = m') : callN Dt k f args m = .ok d m' := by
  obtain ⟨_, _, e, rfl, rfl⟩ := sat_iff.1 h
  exact e
theorem top_sp {k : Nat} {cs : List D} {ls fx : D} {m : Hs} : callN Dt (k + 1) 1 [.tup [.tup cs, ls, fx]] m = .ok (.int (cs.length - 1)) m := by
  refine sat_eq (fn_sat (fn := f_top_level) rfl rfl [some (.tup [.tup cs, ls, fx])] rfl ?_)
  show (evSs _ b_top_level _ _).sat _
  unfold b_top_level
  simp only [↓w_v0, ↓tg_n0, ↓v_au0, ↓w_v1, ↓tg_n1, ↓v_au1, ↓w_v2, ↓tg_n2, ↓v_au2, ↓w_v3, ↓tg_n3, ↓v_au3, ↓w_v4, ↓tg_n4, ↓v_au4, ↓w_v5, ↓tg_n5, ↓v_au5, ↓w_v6, ↓tg_n6, ↓v_au6, ↓w_v7, ↓tg_n7, ↓v_au7, ↓w_v8, ↓tg_n8, ↓v_au8, ↓w_v9, ↓tg_n9, ↓v_au9, ↓w_v10, ↓tg_n10, ↓v_au10, ↓w_v11, ↓tg_n11, ↓v_au11, ↓w_v12, ↓tg_n12, ↓v_au12, ↓w_v13, ↓tg_n13, ↓v_au13, ↓w_v14, ↓tg_n14, ↓v_au14, ↓w_v15, ↓tg_n15, ↓v_au15, ↓w_v16, ↓tg_n16, ↓v_au16, ↓w_v17, ↓tg_n17, ↓v_au17, ↓w_v18, ↓tg_n18, ↓v_au18, ↓w_v19, ↓tg_n19, ↓v_au19, ↓w_v20, ↓tg_n20, ↓v_au20, ↓w_v21, ↓tg_n21, ↓v_au21, ↓w_v22, ↓tg_n22, ↓v_au22, ↓w_v23, ↓tg_n23, ↓v_au23, ↓w_v24, ↓tg_n24, ↓v_au24, ↓w_v25, ↓tg_n25, ↓v_au25, ↓w_cst, ↓w_bin, ↓w_cmp, ↓w_neg, ↓w_not, ↓w_and, ↓w_or, ↓w_ite, ↓w_chn, ↓w_tup, ↓w_lst, ↓w_idx, ↓w_slc, ↓w_call, ↓w_bi, ↓w_fld, ↓w_meth, ↓w_make, ↓w_lc, ↓ws_nil, ↓ws_cons, ↓b_add, ↓b_sub, ↓b_mul, ↓b_fdiv, ↓b_mod, ↓b_pow, ↓b_shl, ↓b_addT, ↓k_lt, ↓k_le, ↓k_gt, ↓k_ge, ↓k_eqI, ↓k_neI, ↓k_eqStr, ↓k_neStr, ↓k_is, ↓k_isnot, ↓k_in, ↓k_notin, ↓isN_non, ↓isN_int, ↓isN_tup, ↓isN_ref, ↓isN_bl, ↓isN_str, ↓t_bl, ↓t_non, ↓t_int, ↓t_tup, ↓ix_t0, ↓ix_t1, ↓ix_t2, ↓ix_r0, ↓ix_r1, ↓ix_r2, ↓sl_tup, ↓sl_ref, ↓po_nil, ↓po_int, ↓f_lenT, ↓f_lenF, ↓f_lenR, ↓f_abs, ↓f_min, ↓f_max, ↓f_intB, ↓f_tupR, ↓f_sumR, ↓f_allR, ↓f_isiII, ↓f_isiIB, ↓f_isiTT, ↓f_isiSS, ↓negS_int, ↓chnS_bl, ↓nonS_non, ↓oSat_some, ↓insS_ref, ↓insS_app, ↓insS_set, ↓lstS_ref, ↓lstS_app, ↓lstS_set, ↓seq_nx, ↓seq_rt, ↓seq_bk, ↓seq_ct, ↓v_nil, ↓v_cons, ↓v_pass, ↓v_exp, ↓v_ret, ↓v_retN, ↓v_brk, ↓v_cnt, ↓v_ife, ↓v_asg, ↓v_asg2, ↓v_par, ↓v_par3, ↓v_ifw, ↓v_app, ↓v_ext, ↓v_augF, ↓v_for, ↓v_whl, ↓tq_fld, ↓tq_sub, ↓tq_tp, ↓tqs_nil, ↓tqs_cons, ↓tupS_tup, ↓pl_0, ↓pl_1, ↓pl_2, ↓g_add, ↓g_sub, ↓turn_nx, ↓turn_ct, ↓turn_bk, ↓turn_rt, ↓end_rt, ↓end_nx, ↓it_rng1, ↓it_rng2, ↓it_seqT, ↓it_seqF, ↓it_seqR, ↓it_enumT, ↓it_zipT, ↓ix_s0, ↓ix_s1, ↓ix_s2, ↓ix_sa0, ↓ix_sa1, ↓ix_sa2, ↓ix_new, ↓f_lenN, ↓f_tupN, ↓f_sumN, ↓f_allN, ↓sat_ok, ↓List.set_set, List.length_set, true_and, and_true, and_self, set_0, set_1, set_2]
  rw [gc_same rfl]
  exact ⟨rfl, rfl⟩
theorem cap_sp {k : Nat} {cs : List Int} {ls fx : D} {m : Hs} {j : Int} {c : Int} (h0 : 0 ≤ j) (hc : cs[j.toNat]? = some c) : callN Dt (k + 1) 2 [.tup [.tup (cs.map .int), ls, fx], .int j] m = .ok (.int c) m := by
  refine sat_eq (fn_sat (fn := f_capacity_of) rfl rfl [some (.tup [.tup (cs.map .int), ls, fx]), some (.int j)] rfl ?_)
  show (evSs _ b_capacity_of _ _).sat _
  unfold b_capacity_of
  simp only [↓w_v0, ↓tg_n0, ↓v_au0, ↓w_v1, ↓tg_n1, ↓v_au1, ↓w_v2, ↓tg_n2, ↓v_au2, ↓w_v3, ↓tg_n3, ↓v_au3, ↓w_v4, ↓tg_n4, ↓v_au4, ↓w_v5, ↓tg_n5, ↓v_au5, ↓w_v6, ↓tg_n6, ↓v_au6, ↓w_v7, ↓tg_n7, ↓v_au7, ↓w_v8, ↓tg_n8, ↓v_au8, ↓w_v9, ↓tg_n9, ↓v_au9, ↓w_v10, ↓tg_n10, ↓v_au10, ↓w_v11, ↓tg_n11, ↓v_au11, ↓w_v12, ↓tg_n12, ↓v_au12, ↓w_v13, ↓tg_n13, ↓v_au13, ↓w_v14, ↓tg_n14, ↓v_au14, ↓w_v15, ↓tg_n15, ↓v_au15, ↓w_v16, ↓tg_n16, ↓v_au16, ↓w_v17, ↓tg_n17, ↓v_au17, ↓w_v18, ↓tg_n18, ↓v_au18, ↓w_v19, ↓tg_n19, ↓v_au19, ↓w_v20, ↓tg_n20, ↓v_au20, ↓w_v21, ↓tg_n21, ↓v_au21, ↓w_v22, ↓tg_n22, ↓v_au22, ↓w_v23, ↓tg_n23, ↓v_au23, ↓w_v24, ↓tg_n24, ↓v_au24, ↓w_v25, ↓tg_n25, ↓v_au25, ↓w_cst, ↓w_bin, ↓w_cmp, ↓w_neg, ↓w_not, ↓w_and, ↓w_or, ↓w_ite, ↓w_chn, ↓w_tup, ↓w_lst, ↓w_idx, ↓w_slc, ↓w_call, ↓w_bi, ↓w_fld, ↓w_meth, ↓w_make, ↓w_lc, ↓ws_nil, ↓ws_cons, ↓b_add, ↓b_sub, ↓b_mul, ↓b_fdiv, ↓b_mod, ↓b_pow, ↓b_shl, ↓b_addT, ↓k_lt, ↓k_le, ↓k_gt, ↓k_ge, ↓k_eqI, ↓k_neI, ↓k_eqStr, ↓k_neStr, ↓k_is, ↓k_isnot, ↓k_in, ↓k_notin, ↓isN_non, ↓isN_int, ↓isN_tup, ↓isN_ref, ↓isN_bl, ↓isN_str, ↓t_bl, ↓t_non, ↓t_int, ↓t_tup, ↓ix_t0, ↓ix_t1, ↓ix_t2, ↓ix_r0, ↓ix_r1, ↓ix_r2, ↓sl_tup, ↓sl_ref, ↓po_nil, ↓po_int, ↓f_lenT, ↓f_lenF, ↓f_lenR, ↓f_abs, ↓f_min, ↓f_max, ↓f_intB, ↓f_tupR, ↓f_sumR, ↓f_allR, ↓f_isiII, ↓f_isiIB, ↓f_isiTT, ↓f_isiSS, ↓negS_int, ↓chnS_bl, ↓nonS_non, ↓oSat_some, ↓insS_ref, ↓insS_app, ↓insS_set, ↓lstS_ref, ↓lstS_app, ↓lstS_set, ↓seq_nx, ↓seq_rt, ↓seq_bk, ↓seq_ct, ↓v_nil, ↓v_cons, ↓v_pass, ↓v_exp, ↓v_ret, ↓v_retN, ↓v_brk, ↓v_cnt, ↓v_ife, ↓v_asg, ↓v_asg2, ↓v_par, ↓v_par3, ↓v_ifw, ↓v_app, ↓v_ext, ↓v_augF, ↓v_for, ↓v_whl, ↓tq_fld, ↓tq_sub, ↓tq_tp, ↓tqs_nil, ↓tqs_cons, ↓tupS_tup, ↓pl_0, ↓pl_1, ↓pl_2, ↓g_add, ↓g_sub, ↓turn_nx, ↓turn_ct, ↓turn_bk, ↓turn_rt, ↓end_rt, ↓end_nx, ↓it_rng1, ↓it_rng2, ↓it_seqT, ↓it_seqF, ↓it_seqR, ↓it_enumT, ↓it_zipT, ↓ix_s0, ↓ix_s1, ↓ix_s2, ↓ix_sa0, ↓ix_sa1, ↓ix_sa2, ↓ix_new, ↓f_lenN, ↓f_tupN, ↓f_sumN, ↓f_allN, ↓sat_ok, ↓List.set_set, List.length_set, true_and, and_true, and_self, set_0, set_1, set_2]
  rw [ix_at (v := .int c) h0 (by rw [List.getElem?_map, hc]; rfl), gc_same rfl]
  exact ⟨rfl, rfl⟩
theorem zipL_eq : ∀ (cs ls : List Int), zipL (cs.map .int) (ls.map .int) = (cs.zip ls).map pr
  | [], _ => by simp [zipL]
  | _ :: _, [] => by simp [zipL]
  | c :: cs, l :: ls => by simp [zipL, zipL_eq cs ls, pr]
theorem filterMap_id {α : Type} : ∀ xs : List α, xs.filterMap (fun x => some x) = xs
  | [] => rfl
  | x :: xs => by simp
theorem bnd_sp {k : Nat} {cs ls : List Int} {fx : D} {m : Hs} (hl : cs.length ≤ 1000) : callN Dt (k + 1) 3 [.tup [.tup (cs.map .int), .tup (ls.map .int), fx]] m = .ok (plc (cs.zip ls)) m := by
  refine sat_eq (fn_sat (fn := f_boundaries) rfl rfl [some (.tup [.tup (cs.map .int), .tup (ls.map .int), fx]), none, none] rfl ?_)
  show (evSs _ b_boundaries _ _).sat _
  unfold b_boundaries
  simp only [↓w_v0, ↓tg_n0, ↓v_au0, ↓w_v1, ↓tg_n1, ↓v_au1, ↓w_v2, ↓tg_n2, ↓v_au2, ↓w_v3, ↓tg_n3, ↓v_au3, ↓w_v4, ↓tg_n4, ↓v_au4, ↓w_v5, ↓tg_n5, ↓v_au5, ↓w_v6, ↓tg_n6, ↓v_au6, ↓w_v7, ↓tg_n7, ↓v_au7, ↓w_v8, ↓tg_n8, ↓v_au8, ↓w_v9, ↓tg_n9, ↓v_au9, ↓w_v10, ↓tg_n10, ↓v_au10, ↓w_v11, ↓tg_n11, ↓v_au11, ↓w_v12, ↓tg_n12, ↓v_au12, ↓w_v13, ↓tg_n13, ↓v_au13, ↓w_v14, ↓tg_n14, ↓v_au14, ↓w_v15, ↓tg_n15, ↓v_au15, ↓w_v16, ↓tg_n16, ↓v_au16, ↓w_v17, ↓tg_n17, ↓v_au17, ↓w_v18, ↓tg_n18, ↓v_au18, ↓w_v19, ↓tg_n19, ↓v_au19, ↓w_v20, ↓tg_n20, ↓v_au20, ↓w_v21, ↓tg_n21, ↓v_au21, ↓w_v22, ↓tg_n22, ↓v_au22, ↓w_v23, ↓tg_n23, ↓v_au23, ↓w_v24, ↓tg_n24, ↓v_au24, ↓w_v25, ↓tg_n25, ↓v_au25, ↓w_cst, ↓w_bin, ↓w_cmp, ↓w_neg, ↓w_not, ↓w_and, ↓w_or, ↓w_ite, ↓w_chn, ↓w_tup, ↓w_lst, ↓w_idx, ↓w_slc, ↓w_call, ↓w_bi, ↓w_fld, ↓w_meth, ↓w_make, ↓w_lc, ↓ws_nil, ↓ws_cons, ↓b_add, ↓b_sub, ↓b_mul, ↓b_fdiv, ↓b_mod, ↓b_pow, ↓b_shl, ↓b_addT, ↓k_lt, ↓k_le, ↓k_gt, ↓k_ge, ↓k_eqI, ↓k_neI, ↓k_eqStr, ↓k_neStr, ↓k_is, ↓k_isnot, ↓k_in, ↓k_notin, ↓isN_non, ↓isN_int, ↓isN_tup, ↓isN_ref, ↓isN_bl, ↓isN_str, ↓t_bl, ↓t_non, ↓t_int, ↓t_tup, ↓ix_t0, ↓ix_t1, ↓ix_t2, ↓ix_r0, ↓ix_r1, ↓ix_r2, ↓sl_tup, ↓sl_ref, ↓po_nil, ↓po_int, ↓f_lenT, ↓f_lenF, ↓f_lenR, ↓f_abs, ↓f_min, ↓f_max, ↓f_intB, ↓f_tupR, ↓f_sumR, ↓f_allR, ↓f_isiII, ↓f_isiIB, ↓f_isiTT, ↓f_isiSS, ↓negS_int, ↓chnS_bl, ↓nonS_non, ↓oSat_some, ↓insS_ref, ↓insS_app, ↓insS_set, ↓lstS_ref, ↓lstS_app, ↓lstS_set, ↓seq_nx, ↓seq_rt, ↓seq_bk, ↓seq_ct, ↓v_nil, ↓v_cons, ↓v_pass, ↓v_exp, ↓v_ret, ↓v_retN, ↓v_brk, ↓v_cnt, ↓v_ife, ↓v_asg, ↓v_asg2, ↓v_par, ↓v_par3, ↓v_ifw, ↓v_app, ↓v_ext, ↓v_augF, ↓v_for, ↓v_whl, ↓tq_fld, ↓tq_sub, ↓tq_tp, ↓tqs_nil, ↓tqs_cons, ↓tupS_tup, ↓pl_0, ↓pl_1, ↓pl_2, ↓g_add, ↓g_sub, ↓turn_nx, ↓turn_ct, ↓turn_bk, ↓turn_rt, ↓end_rt, ↓end_nx, ↓it_rng1, ↓it_rng2, ↓it_seqT, ↓it_seqF, ↓it_seqR, ↓it_enumT, ↓it_zipT, ↓ix_s0, ↓ix_s1, ↓ix_s2, ↓ix_sa0, ↓ix_sa1, ↓ix_sa2, ↓ix_new, ↓f_lenN, ↓f_tupN, ↓f_sumN, ↓f_allN, ↓sat_ok, ↓List.set_set, List.length_set, true_and, and_true, and_self, set_0, set_1, set_2]
  rw [zipL_eq, lcL_pure (fun x => some x) (fun _ => rfl) _ _ ?_ ?_]
  · simp only [↓w_v0, ↓tg_n0, ↓v_au0, ↓w_v1, ↓tg_n1, ↓v_au1, ↓w_v2, ↓tg_n2, ↓v_au2, ↓w_v3, ↓tg_n3, ↓v_au3, ↓w_v4, ↓tg_n4, ↓v_au4, ↓w_v5, ↓tg_n5, ↓v_au5, ↓w_v6, ↓tg_n6, ↓v_au6, ↓w_v7, ↓tg_n7, ↓v_au7, ↓w_v8, ↓tg_n8, ↓v_au8, ↓w_v9, ↓tg_n9, ↓v_au9, ↓w_v10, ↓tg_n10, ↓v_au10, ↓w_v11, ↓tg_n11, ↓v_au11, ↓w_v12, ↓tg_n12, ↓v_au12, ↓w_v13, ↓tg_n13, ↓v_au13, ↓w_v14, ↓tg_n14, ↓v_au14, ↓w_v15, ↓tg_n15, ↓v_au15, ↓w_v16, ↓tg_n16, ↓v_au16, ↓w_v17, ↓tg_n17, ↓v_au17, ↓w_v18, ↓tg_n18, ↓v_au18, ↓w_v19, ↓tg_n19, ↓v_au19, ↓w_v20, ↓tg_n20, ↓v_au20, ↓w_v21, ↓tg_n21, ↓v_au21, ↓w_v22, ↓tg_n22, ↓v_au22, ↓w_v23, ↓tg_n23, ↓v_au23, ↓w_v24, ↓tg_n24, ↓v_au24, ↓w_v25, ↓tg_n25, ↓v_au25, ↓w_cst, ↓w_bin, ↓w_cmp, ↓w_neg, ↓w_not, ↓w_and, ↓w_or, ↓w_ite, ↓w_chn, ↓w_tup, ↓w_lst, ↓w_idx, ↓w_slc, ↓w_call, ↓w_bi, ↓w_fld, ↓w_meth, ↓w_make, ↓w_lc, ↓ws_nil, ↓ws_cons, ↓b_add, ↓b_sub, ↓b_mul, ↓b_fdiv, ↓b_mod, ↓b_pow, ↓b_shl, ↓b_addT, ↓k_lt, ↓k_le, ↓k_gt, ↓k_ge, ↓k_eqI, ↓k_neI, ↓k_eqStr, ↓k_neStr, ↓k_is, ↓k_isnot, ↓k_in, ↓k_notin, ↓isN_non, ↓isN_int, ↓isN_tup, ↓isN_ref, ↓isN_bl, ↓isN_str, ↓t_bl, ↓t_non, ↓t_int, ↓t_tup, ↓ix_t0, ↓ix_t1, ↓ix_t2, ↓ix_r0, ↓ix_r1, ↓ix_r2, ↓sl_tup, ↓sl_ref, ↓po_nil, ↓po_int, ↓f_lenT, ↓f_lenF, ↓f_lenR, ↓f_abs, ↓f_min, ↓f_max, ↓f_intB, ↓f_tupR, ↓f_sumR, ↓f_allR, ↓f_isiII, ↓f_isiIB, ↓f_isiTT, ↓f_isiSS, ↓negS_int, ↓chnS_bl, ↓nonS_non, ↓oSat_some, ↓insS_ref, ↓insS_app, ↓insS_set, ↓lstS_ref, ↓lstS_app, ↓lstS_set, ↓seq_nx, ↓seq_rt, ↓seq_bk, ↓seq_ct, ↓v_nil, ↓v_cons, ↓v_pass, ↓v_exp, ↓v_ret, ↓v_retN, ↓v_brk, ↓v_cnt, ↓v_ife, ↓v_asg, ↓v_asg2, ↓v_par, ↓v_par3, ↓v_ifw, ↓v_app, ↓v_ext, ↓v_augF, ↓v_for, ↓v_whl, ↓tq_fld, ↓tq_sub, ↓tq_tp, ↓tqs_nil, ↓tqs_cons, ↓tupS_tup, ↓pl_0, ↓pl_1, ↓pl_2, ↓g_add, ↓g_sub, ↓turn_nx, ↓turn_ct, ↓turn_bk, ↓turn_rt, ↓end_rt, ↓end_nx, ↓it_rng1, ↓it_rng2, ↓it_seqT, ↓it_seqF, ↓it_seqR, ↓it_enumT, ↓it_zipT, ↓ix_s0, ↓ix_s1, ↓ix_s2, ↓ix_sa0, ↓ix_sa1, ↓ix_sa2, ↓ix_new, ↓f_lenN, ↓f_tupN, ↓f_sumN, ↓f_allN, ↓sat_ok, ↓List.set_set, List.length_set, true_and, and_true, and_self, set_0, set_1, set_2]
    rw [filterMap_id, List.nil_append, gc_pure (by simp [below, below_plc])]
    exact ⟨rfl, rfl⟩
  · intro x hx acc
    rw [List.mem_map] at hx
    obtain ⟨p, _, rfl⟩ := hx
    refine lcU_sat (r2 := [some (.tup [.tup (cs.map .int), .tup (ls.map .int), fx]), some (.int p.1), some (.int p.2)]) rfl ?_
    simp only [↓w_v0, ↓tg_n0, ↓v_au0, ↓w_v1, ↓tg_n1, ↓v_au1, ↓w_v2, ↓tg_n2, ↓v_au2, ↓w_v3, ↓tg_n3, ↓v_au3, ↓w_v4, ↓tg_n4, ↓v_au4, ↓w_v5, ↓tg_n5, ↓v_au5, ↓w_v6, ↓tg_n6, ↓v_au6, ↓w_v7, ↓tg_n7, ↓v_au7, ↓w_v8, ↓tg_n8, ↓v_au8, ↓w_v9, ↓tg_n9, ↓v_au9, ↓w_v10, ↓tg_n10, ↓v_au10, ↓w_v11, ↓tg_n11, ↓v_au11, ↓w_v12, ↓tg_n12, ↓v_au12, ↓w_v13, ↓tg_n13, ↓v_au13, ↓w_v14, ↓tg_n14, ↓v_au14, ↓w_v15, ↓tg_n15, ↓v_au15, ↓w_v16, ↓tg_n16, ↓v_au16, ↓w_v17, ↓tg_n17, ↓v_au17, ↓w_v18, ↓tg_n18, ↓v_au18, ↓w_v19, ↓tg_n19, ↓v_au19, ↓w_v20, ↓tg_n20, ↓v_au20, ↓w_v21, ↓tg_n21, ↓v_au21, ↓w_v22, ↓tg_n22, ↓v_au22, ↓w_v23, ↓tg_n23, ↓v_au23, ↓w_v24, ↓tg_n24, ↓v_au24, ↓w_v25, ↓tg_n25, ↓v_au25, ↓w_cst, ↓w_bin, ↓w_cmp, ↓w_neg, ↓w_not, ↓w_and, ↓w_or, ↓w_ite, ↓w_chn, ↓w_tup, ↓w_lst, ↓w_idx, ↓w_slc, ↓w_call, ↓w_bi, ↓w_fld, ↓w_meth, ↓w_make, ↓w_lc, ↓ws_nil, ↓ws_cons, ↓b_add, ↓b_sub, ↓b_mul, ↓b_fdiv, ↓b_mod, ↓b_pow, ↓b_shl, ↓b_addT, ↓k_lt, ↓k_le, ↓k_gt, ↓k_ge, ↓k_eqI, ↓k_neI, ↓k_eqStr, ↓k_neStr, ↓k_is, ↓k_isnot, ↓k_in, ↓k_notin, ↓isN_non, ↓isN_int, ↓isN_tup, ↓isN_ref, ↓isN_bl, ↓isN_str, ↓t_bl, ↓t_non, ↓t_int, ↓t_tup, ↓ix_t0, ↓ix_t1, ↓ix_t2, ↓ix_r0, ↓ix_r1, ↓ix_r2, ↓sl_tup, ↓sl_ref, ↓po_nil, ↓po_int, ↓f_lenT, ↓f_lenF, ↓f_lenR, ↓f_abs, ↓f_min, ↓f_max, ↓f_intB, ↓f_tupR, ↓f_sumR, ↓f_allR, ↓f_isiII, ↓f_isiIB, ↓f_isiTT, ↓f_isiSS, ↓negS_int, ↓chnS_bl, ↓nonS_non, ↓oSat_some, ↓insS_ref, ↓insS_app, ↓insS_set, ↓lstS_ref, ↓lstS_app, ↓lstS_set, ↓seq_nx, ↓seq_rt, ↓seq_bk, ↓seq_ct, ↓v_nil, ↓v_cons, ↓v_pass, ↓v_exp, ↓v_ret, ↓v_retN, ↓v_brk, ↓v_cnt, ↓v_ife, ↓v_asg, ↓v_asg2, ↓v_par, ↓v_par3, ↓v_ifw, ↓v_app, ↓v_ext, ↓v_augF, ↓v_for, ↓v_whl, ↓tq_fld, ↓tq_sub, ↓tq_tp, ↓tqs_nil, ↓tqs_cons, ↓tupS_tup, ↓pl_0, ↓pl_1, ↓pl_2, ↓g_add, ↓g_sub, ↓turn_nx, ↓turn_ct, ↓turn_bk, ↓turn_rt, ↓end_rt, ↓end_nx, ↓it_rng1, ↓it_rng2, ↓it_seqT, ↓it_seqF, ↓it_seqR, ↓it_enumT, ↓it_zipT, ↓ix_s0, ↓ix_s1, ↓ix_s2, ↓ix_sa0, ↓ix_sa1, ↓ix_sa2, ↓ix_new, ↓f_lenN, ↓f_tupN, ↓f_sumN, ↓f_allN, ↓sat_ok, ↓List.set_set, List.length_set, true_and, and_true, and_self, set_0, set_1, set_2, testsOf, if_true]
    exact ⟨(show 2 ≤ sizeLine by decide), rfl⟩
  · simp only [List.length_nil, List.length_map, List.length_zip]
    exact Nat.le_trans (show 0 + min cs.length ls.length ≤ 1000 by omega) (by decide)
theorem put_no (f : Str) (d : D) : ∀ (l : List (Str × D)), (l.map (·.1)).all (fun k => !decide (k = f)) = true → putD f d l = l ++ [(f, d)]
  | [], _ => rfl
  | (k, x) :: l, h => by
    simp only [List.map_cons, List.all_cons, Bool.and_eq_true, Bool.not_eq_true', decide_eq_false_iff_not] at h
    rw [putD, if_neg h.1, put_no f d l h.2]
    rfl
theorem t_0 {a0 : D} : putD "places" a0 ([] : List (Str × D)) = ([("places", a0)] : List (Str × D)) := put_no _ _ _ (show (([] : List Str).all fun k => !decide (k = ("places" : Str))) = true by decide +kernel)
theorem t_1 {a0 a1 : D} : putD "fixed" a1 ([("places", a0)] : List (Str × D)) = ([("places", a0), ("fixed", a1)] : List (Str × D)) := put_no _ _ _ (show ((["places"] : List Str).all fun k => !decide (k = ("fixed" : Str))) = true by decide +kernel)
theorem t_2 {a0 a1 a2 : D} : putD "most" a2 ([("places", a0), ("fixed", a1)] : List (Str × D)) = ([("places", a0), ("fixed", a1), ("most", a2)] : List (Str × D)) := put_no _ _ _ (show ((["places", "fixed"] : List Str).all fun k => !decide (k = ("most" : Str))) = true by decide +kernel)
theorem t_3 {a0 a1 a2 a3 : D} : putD "at_level" a3 ([("places", a0), ("fixed", a1), ("most", a2)] : List (Str × D)) = ([("places", a0), ("fixed", a1), ("most", a2), ("at_level", a3)] : List (Str × D)) := put_no _ _ _ (show ((["places", "fixed", "most"] : List Str).all fun k => !decide (k = ("at_level" : Str))) = true by decide +kernel)
theorem t_4 {a0 a1 a2 a3 a4 : D} : putD "at_size" a4 ([("places", a0), ("fixed", a1), ("most", a2), ("at_level", a3)] : List (Str × D)) = ([("places", a0), ("fixed", a1), ("most", a2), ("at_level", a3), ("at_size", a4)] : List (Str × D)) := put_no _ _ _ (show ((["places", "fixed", "most", "at_level"] : List Str).all fun k => !decide (k = ("at_size" : Str))) = true by decide +kernel)
theorem t_5 {a0 a1 a2 a3 a4 a5 : D} : putD "paid" a5 ([("places", a0), ("fixed", a1), ("most", a2), ("at_level", a3), ("at_size", a4)] : List (Str × D)) = ([("places", a0), ("fixed", a1), ("most", a2), ("at_level", a3), ("at_size", a4), ("paid", a5)] : List (Str × D)) := put_no _ _ _ (show ((["places", "fixed", "most", "at_level", "at_size"] : List Str).all fun k => !decide (k = ("paid" : Str))) = true by decide +kernel)
theorem t_6 {a0 a1 a2 a3 a4 a5 a6 : D} : putD "done" a6 ([("places", a0), ("fixed", a1), ("most", a2), ("at_level", a3), ("at_size", a4), ("paid", a5)] : List (Str × D)) = ([("places", a0), ("fixed", a1), ("most", a2), ("at_level", a3), ("at_size", a4), ("paid", a5), ("done", a6)] : List (Str × D)) := put_no _ _ _ (show ((["places", "fixed", "most", "at_level", "at_size", "paid"] : List Str).all fun k => !decide (k = ("done" : Str))) = true by decide +kernel)
theorem init_sp {k n : Nat} {cs ls : List Int} {fx l s c : Int} {m : Hs} (hn : m[n]? = some (.ins 0 [])) (hl : cs.length ≤ 1000) (hc : cs.getLast? = some c) :
    callN Dt (k + 2) 7 [.ref n, pol cs ls fx, .tup [.int l, .int s]] m = .ok .non (m.set n (.ins 0 (trk (cs.zip ls) fx c l s 0 0))) := by
  have hlt : n < m.length := (List.getElem?_eq_some_iff.1 hn).1
  have hcl : 0 < cs.length := by
    cases cs with
    | nil => simp at hc
    | cons => simp
  rw [List.getLast?_eq_getElem?] at hc
  refine sat_eq (fn_sat (fn := f_Track___init__) rfl rfl [some (.ref n), some (pol cs ls fx), some (.tup [.int l, .int s])] rfl ?_)
  show (evSs _ b_Track___init__ _ _).sat _
  unfold b_Track___init__ pol
  have e2 : ((cs.map D.int).length - 1 : Int).toNat = cs.length - 1 := by simp
  simp only [↓w_v0, ↓tg_n0, ↓v_au0, ↓w_v1, ↓tg_n1, ↓v_au1, ↓w_v2, ↓tg_n2, ↓v_au2, ↓w_v3, ↓tg_n3, ↓v_au3, ↓w_v4, ↓tg_n4, ↓v_au4, ↓w_v5, ↓tg_n5, ↓v_au5, ↓w_v6, ↓tg_n6, ↓v_au6, ↓w_v7, ↓tg_n7, ↓v_au7, ↓w_v8, ↓tg_n8, ↓v_au8, ↓w_v9, ↓tg_n9, ↓v_au9, ↓w_v10, ↓tg_n10, ↓v_au10, ↓w_v11, ↓tg_n11, ↓v_au11, ↓w_v12, ↓tg_n12, ↓v_au12, ↓w_v13, ↓tg_n13, ↓v_au13, ↓w_v14, ↓tg_n14, ↓v_au14, ↓w_v15, ↓tg_n15, ↓v_au15, ↓w_v16, ↓tg_n16, ↓v_au16, ↓w_v17, ↓tg_n17, ↓v_au17, ↓w_v18, ↓tg_n18, ↓v_au18, ↓w_v19, ↓tg_n19, ↓v_au19, ↓w_v20, ↓tg_n20, ↓v_au20, ↓w_v21, ↓tg_n21, ↓v_au21, ↓w_v22, ↓tg_n22, ↓v_au22, ↓w_v23, ↓tg_n23, ↓v_au23, ↓w_v24, ↓tg_n24, ↓v_au24, ↓w_v25, ↓tg_n25, ↓v_au25, ↓w_cst, ↓w_bin, ↓w_cmp, ↓w_neg, ↓w_not, ↓w_and, ↓w_or, ↓w_ite, ↓w_chn, ↓w_tup, ↓w_lst, ↓w_idx, ↓w_slc, ↓w_call, ↓w_bi, ↓w_fld, ↓w_meth, ↓w_make, ↓w_lc, ↓ws_nil, ↓ws_cons, ↓b_add, ↓b_sub, ↓b_mul, ↓b_fdiv, ↓b_mod, ↓b_pow, ↓b_shl, ↓b_addT, ↓k_lt, ↓k_le, ↓k_gt, ↓k_ge, ↓k_eqI, ↓k_neI, ↓k_eqStr, ↓k_neStr, ↓k_is, ↓k_isnot, ↓k_in, ↓k_notin, ↓isN_non, ↓isN_int, ↓isN_tup, ↓isN_ref, ↓isN_bl, ↓isN_str, ↓t_bl, ↓t_non, ↓t_int, ↓t_tup, ↓ix_t0, ↓ix_t1, ↓ix_t2, ↓ix_r0, ↓ix_r1, ↓ix_r2, ↓sl_tup, ↓sl_ref, ↓po_nil, ↓po_int, ↓f_lenT, ↓f_lenF, ↓f_lenR, ↓f_abs, ↓f_min, ↓f_max, ↓f_intB, ↓f_tupR, ↓f_sumR, ↓f_allR, ↓f_isiII, ↓f_isiIB, ↓f_isiTT, ↓f_isiSS, ↓negS_int, ↓chnS_bl, ↓nonS_non, ↓oSat_some, ↓insS_ref, ↓insS_app, ↓insS_set, ↓lstS_ref, ↓lstS_app, ↓lstS_set, ↓seq_nx, ↓seq_rt, ↓seq_bk, ↓seq_ct, ↓v_nil, ↓v_cons, ↓v_pass, ↓v_exp, ↓v_ret, ↓v_retN, ↓v_brk, ↓v_cnt, ↓v_ife, ↓v_asg, ↓v_asg2, ↓v_par, ↓v_par3, ↓v_ifw, ↓v_app, ↓v_ext, ↓v_augF, ↓v_for, ↓v_whl, ↓tq_fld, ↓tq_sub, ↓tq_tp, ↓tqs_nil, ↓tqs_cons, ↓tupS_tup, ↓pl_0, ↓pl_1, ↓pl_2, ↓g_add, ↓g_sub, ↓turn_nx, ↓turn_ct, ↓turn_bk, ↓turn_rt, ↓end_rt, ↓end_nx, ↓it_rng1, ↓it_rng2, ↓it_seqT, ↓it_seqF, ↓it_seqR, ↓it_enumT, ↓it_zipT, ↓ix_s0, ↓ix_s1, ↓ix_s2, ↓ix_sa0, ↓ix_sa1, ↓ix_sa2, ↓ix_new, ↓f_lenN, ↓f_tupN, ↓f_sumN, ↓f_allN, ↓sat_ok, ↓List.set_set, List.length_set, true_and, and_true, and_self, set_0, set_1, set_2, bnd_sp hl, top_sp, cap_sp (show (0 : Int) ≤ (cs.map D.int).length - 1 by simp; omega) (e2 ▸ hc), ↓insS_ref hn, hlt, ca_places, ca_fixed, ca_most, ca_level, ca_size, ca_paid, ca_done, t_0, t_1, t_2, t_3, t_4, t_5, t_6, List.length_cons, List.length_nil]
  refine ⟨by decide, by decide, by decide, rfl, by decide, by decide, by decide, by decide, ?_⟩
  show (gcR m .non (m.set n (.ins 0 (trk (cs.zip ls) fx c l s 0 0)))).sat _
  rw [gc_set rfl (below_trk (P := cs.zip ls) (fx := fx) (mo := c) (lv := l) (sz := s) (pd := 0) (dn := 0) _)]
  exact ⟨rfl, rfl⟩
theorem move_sp {k n : Nat} {P : List (Int × Int)} {fx mo lv sz pd dn size b : Int} {m : Hs} (hn : m[n]? = some (.ins 0 (trk P fx mo lv sz pd dn))) :
    (callN Dt (k + 1) 8 [.ref n, .int size, .int b] m).sat fun d m' => (∀ j, below j d = true) ∧ ∃ dn', m' = m.set n (.ins 0 (trk P fx mo (lv + b) (size + b) (pd + ((if 0 < b then size else size - 1) + fx)) dn')) := by
  have hlt : n < m.length := (List.getElem?_eq_some_iff.1 hn).1
  refine fn_sat (fn := f_Track_move) rfl rfl [some (.ref n), some (.int size), some (.int b), none] rfl ?_
  show (evSs _ b_Track_move _ _).sat _
  unfold b_Track_move
  by_cases hb : 0 < b
  · simp only [↓w_v0, ↓tg_n0, ↓v_au0, ↓w_v1, ↓tg_n1, ↓v_au1, ↓w_v2, ↓tg_n2, ↓v_au2, ↓w_v3, ↓tg_n3, ↓v_au3, ↓w_v4, ↓tg_n4, ↓v_au4, ↓w_v5, ↓tg_n5, ↓v_au5, ↓w_v6, ↓tg_n6, ↓v_au6, ↓w_v7, ↓tg_n7, ↓v_au7, ↓w_v8, ↓tg_n8, ↓v_au8, ↓w_v9, ↓tg_n9, ↓v_au9, ↓w_v10, ↓tg_n10, ↓v_au10, ↓w_v11, ↓tg_n11, ↓v_au11, ↓w_v12, ↓tg_n12, ↓v_au12, ↓w_v13, ↓tg_n13, ↓v_au13, ↓w_v14, ↓tg_n14, ↓v_au14, ↓w_v15, ↓tg_n15, ↓v_au15, ↓w_v16, ↓tg_n16, ↓v_au16, ↓w_v17, ↓tg_n17, ↓v_au17, ↓w_v18, ↓tg_n18, ↓v_au18, ↓w_v19, ↓tg_n19, ↓v_au19, ↓w_v20, ↓tg_n20, ↓v_au20, ↓w_v21, ↓tg_n21, ↓v_au21, ↓w_v22, ↓tg_n22, ↓v_au22, ↓w_v23, ↓tg_n23, ↓v_au23, ↓w_v24, ↓tg_n24, ↓v_au24, ↓w_v25, ↓tg_n25, ↓v_au25, ↓w_cst, ↓w_bin, ↓w_cmp, ↓w_neg, ↓w_not, ↓w_and, ↓w_or, ↓w_ite, ↓w_chn, ↓w_tup, ↓w_lst, ↓w_idx, ↓w_slc, ↓w_call, ↓w_bi, ↓w_fld, ↓w_meth, ↓w_make, ↓w_lc, ↓ws_nil, ↓ws_cons, ↓b_add, ↓b_sub, ↓b_mul, ↓b_fdiv, ↓b_mod, ↓b_pow, ↓b_shl, ↓b_addT, ↓k_lt, ↓k_le, ↓k_gt, ↓k_ge, ↓k_eqI, ↓k_neI, ↓k_eqStr, ↓k_neStr, ↓k_is, ↓k_isnot, ↓k_in, ↓k_notin, ↓isN_non, ↓isN_int, ↓isN_tup, ↓isN_ref, ↓isN_bl, ↓isN_str, ↓t_bl, ↓t_non, ↓t_int, ↓t_tup, ↓ix_t0, ↓ix_t1, ↓ix_t2, ↓ix_r0, ↓ix_r1, ↓ix_r2, ↓sl_tup, ↓sl_ref, ↓po_nil, ↓po_int, ↓f_lenT, ↓f_lenF, ↓f_lenR, ↓f_abs, ↓f_min, ↓f_max, ↓f_intB, ↓f_tupR, ↓f_sumR, ↓f_allR, ↓f_isiII, ↓f_isiIB, ↓f_isiTT, ↓f_isiSS, ↓negS_int, ↓chnS_bl, ↓nonS_non, ↓oSat_some, ↓insS_ref, ↓insS_app, ↓insS_set, ↓lstS_ref, ↓lstS_app, ↓lstS_set, ↓seq_nx, ↓seq_rt, ↓seq_bk, ↓seq_ct, ↓v_nil, ↓v_cons, ↓v_pass, ↓v_exp, ↓v_ret, ↓v_retN, ↓v_brk, ↓v_cnt, ↓v_ife, ↓v_asg, ↓v_asg2, ↓v_par, ↓v_par3, ↓v_ifw, ↓v_app, ↓v_ext, ↓v_augF, ↓v_for, ↓v_whl, ↓tq_fld, ↓tq_sub, ↓tq_tp, ↓tqs_nil, ↓tqs_cons, ↓tupS_tup, ↓pl_0, ↓pl_1, ↓pl_2, ↓g_add, ↓g_sub, ↓turn_nx, ↓turn_ct, ↓turn_bk, ↓turn_rt, ↓end_rt, ↓end_nx, ↓it_rng1, ↓it_rng2, ↓it_seqT, ↓it_seqF, ↓it_seqR, ↓it_enumT, ↓it_zipT, ↓ix_s0, ↓ix_s1, ↓ix_s2, ↓ix_sa0, ↓ix_sa1, ↓ix_sa2, ↓ix_new, ↓f_lenN, ↓f_tupN, ↓f_sumN, ↓f_allN, ↓sat_ok, ↓List.set_set, List.length_set, true_and, and_true, and_self, set_0, set_1, set_2, ↓insS_ref hn, hlt, ca_places, ca_fixed, ca_most, ca_level, ca_size, ca_paid, ca_done, ↓tk_places, ↓tk_fixed, ↓tk_most, ↓tk_level, ↓tk_size, ↓tk_paid, ↓tk_done, tp_fixed, tp_most, tp_level, tp_size, tp_paid, tp_done, tl, ↓cm_push, ↓cm_pop, ↓cm_move, ↓cm_rest, ↓cm_run, tm_push, tm_pop, tm_move, tm_rest, tm_run, hb, decide_true, if_true]
    refine ⟨(show 2 ≤ sizeLine by decide), rfl, (show 4 ≤ sizeLine by decide), ?_⟩
    rw [gc_set rfl (below_trk _)]
    exact ⟨fun _ => rfl, _, rfl⟩
  · simp only [↓w_v0, ↓tg_n0, ↓v_au0, ↓w_v1, ↓tg_n1, ↓v_au1, ↓w_v2, ↓tg_n2, ↓v_au2, ↓w_v3, ↓tg_n3, ↓v_au3, ↓w_v4, ↓tg_n4, ↓v_au4, ↓w_v5, ↓tg_n5, ↓v_au5, ↓w_v6, ↓tg_n6, ↓v_au6, ↓w_v7, ↓tg_n7, ↓v_au7, ↓w_v8, ↓tg_n8, ↓v_au8, ↓w_v9, ↓tg_n9, ↓v_au9, ↓w_v10, ↓tg_n10, ↓v_au10, ↓w_v11, ↓tg_n11, ↓v_au11, ↓w_v12, ↓tg_n12, ↓v_au12, ↓w_v13, ↓tg_n13, ↓v_au13, ↓w_v14, ↓tg_n14, ↓v_au14, ↓w_v15, ↓tg_n15, ↓v_au15, ↓w_v16, ↓tg_n16, ↓v_au16, ↓w_v17, ↓tg_n17, ↓v_au17, ↓w_v18, ↓tg_n18, ↓v_au18, ↓w_v19, ↓tg_n19, ↓v_au19, ↓w_v20, ↓tg_n20, ↓v_au20, ↓w_v21, ↓tg_n21, ↓v_au21, ↓w_v22, ↓tg_n22, ↓v_au22, ↓w_v23, ↓tg_n23, ↓v_au23, ↓w_v24, ↓tg_n24, ↓v_au24, ↓w_v25, ↓tg_n25, ↓v_au25, ↓w_cst, ↓w_bin, ↓w_cmp, ↓w_neg, ↓w_not, ↓w_and, ↓w_or, ↓w_ite, ↓w_chn, ↓w_tup, ↓w_lst, ↓w_idx, ↓w_slc, ↓w_call, ↓w_bi, ↓w_fld, ↓w_meth, ↓w_make, ↓w_lc, ↓ws_nil, ↓ws_cons, ↓b_add, ↓b_sub, ↓b_mul, ↓b_fdiv, ↓b_mod, ↓b_pow, ↓b_shl, ↓b_addT, ↓k_lt, ↓k_le, ↓k_gt, ↓k_ge, ↓k_eqI, ↓k_neI, ↓k_eqStr, ↓k_neStr, ↓k_is, ↓k_isnot, ↓k_in, ↓k_notin, ↓isN_non, ↓isN_int, ↓isN_tup, ↓isN_ref, ↓isN_bl, ↓isN_str, ↓t_bl, ↓t_non, ↓t_int, ↓t_tup, ↓ix_t0, ↓ix_t1, ↓ix_t2, ↓ix_r0, ↓ix_r1, ↓ix_r2, ↓sl_tup, ↓sl_ref, ↓po_nil, ↓po_int, ↓f_lenT, ↓f_lenF, ↓f_lenR, ↓f_abs, ↓f_min, ↓f_max, ↓f_intB, ↓f_tupR, ↓f_sumR, ↓f_allR, ↓f_isiII, ↓f_isiIB, ↓f_isiTT, ↓f_isiSS, ↓negS_int, ↓chnS_bl, ↓nonS_non, ↓oSat_some, ↓insS_ref, ↓insS_app, ↓insS_set, ↓lstS_ref, ↓lstS_app, ↓lstS_set, ↓seq_nx, ↓seq_rt, ↓seq_bk, ↓seq_ct, ↓v_nil, ↓v_cons, ↓v_pass, ↓v_exp, ↓v_ret, ↓v_retN, ↓v_brk, ↓v_cnt, ↓v_ife, ↓v_asg, ↓v_asg2, ↓v_par, ↓v_par3, ↓v_ifw, ↓v_app, ↓v_ext, ↓v_augF, ↓v_for, ↓v_whl, ↓tq_fld, ↓tq_sub, ↓tq_tp, ↓tqs_nil, ↓tqs_cons, ↓tupS_tup, ↓pl_0, ↓pl_1, ↓pl_2, ↓g_add, ↓g_sub, ↓turn_nx, ↓turn_ct, ↓turn_bk, ↓turn_rt, ↓end_rt, ↓end_nx, ↓it_rng1, ↓it_rng2, ↓it_seqT, ↓it_seqF, ↓it_seqR, ↓it_enumT, ↓it_zipT, ↓ix_s0, ↓ix_s1, ↓ix_s2, ↓ix_sa0, ↓ix_sa1, ↓ix_sa2, ↓ix_new, ↓f_lenN, ↓f_tupN, ↓f_sumN, ↓f_allN, ↓sat_ok, ↓List.set_set, List.length_set, true_and, and_true, and_self, set_0, set_1, set_2, ↓insS_ref hn, hlt, ca_places, ca_fixed, ca_most, ca_level, ca_size, ca_paid, ca_done, ↓tk_places, ↓tk_fixed, ↓tk_most, ↓tk_level, ↓tk_size, ↓tk_paid, ↓tk_done, tp_fixed, tp_most, tp_level, tp_size, tp_paid, tp_done, tl, ↓cm_push, ↓cm_pop, ↓cm_move, ↓cm_rest, ↓cm_run, tm_push, tm_pop, tm_move, tm_rest, tm_run, hb, decide_false, if_false, Bool.false_eq_true]
    refine ⟨(show 2 ≤ sizeLine by decide), rfl, (show 4 ≤ sizeLine by decide), ?_⟩
    rw [gc_set rfl (below_trk _)]
    exact ⟨fun _ => rfl, _, rfl⟩
theorem rest_sp {k n : Nat} {P : List (Int × Int)} {fx mo lv sz pd dn size : Int} {m : Hs} (hn : m[n]? = some (.ins 0 (trk P fx mo lv sz pd dn))) :
    (callN Dt (k + 1) 9 [.ref n, .int size] m).sat fun d m' => d = .non ∧ ∃ dn', m' = m.set n (.ins 0 (trk P fx mo lv size pd dn')) := by
  have hlt : n < m.length := (List.getElem?_eq_some_iff.1 hn).1
  refine fn_sat (fn := f_Track_rest) rfl rfl [some (.ref n), some (.int size)] rfl ?_
  show (evSs _ b_Track_rest _ _).sat _
  unfold b_Track_rest
  simp only [↓w_v0, ↓tg_n0, ↓v_au0, ↓w_v1, ↓tg_n1, ↓v_au1, ↓w_v2, ↓tg_n2, ↓v_au2, ↓w_v3, ↓tg_n3, ↓v_au3, ↓w_v4, ↓tg_n4, ↓v_au4, ↓w_v5, ↓tg_n5, ↓v_au5, ↓w_v6, ↓tg_n6, ↓v_au6, ↓w_v7, ↓tg_n7, ↓v_au7, ↓w_v8, ↓tg_n8, ↓v_au8, ↓w_v9, ↓tg_n9, ↓v_au9, ↓w_v10, ↓tg_n10, ↓v_au10, ↓w_v11, ↓tg_n11, ↓v_au11, ↓w_v12, ↓tg_n12, ↓v_au12, ↓w_v13, ↓tg_n13, ↓v_au13, ↓w_v14, ↓tg_n14, ↓v_au14, ↓w_v15, ↓tg_n15, ↓v_au15, ↓w_v16, ↓tg_n16, ↓v_au16, ↓w_v17, ↓tg_n17, ↓v_au17, ↓w_v18, ↓tg_n18, ↓v_au18, ↓w_v19, ↓tg_n19, ↓v_au19, ↓w_v20, ↓tg_n20, ↓v_au20, ↓w_v21, ↓tg_n21, ↓v_au21, ↓w_v22, ↓tg_n22, ↓v_au22, ↓w_v23, ↓tg_n23, ↓v_au23, ↓w_v24, ↓tg_n24, ↓v_au24, ↓w_v25, ↓tg_n25, ↓v_au25, ↓w_cst, ↓w_bin, ↓w_cmp, ↓w_neg, ↓w_not, ↓w_and, ↓w_or, ↓w_ite, ↓w_chn, ↓w_tup, ↓w_lst, ↓w_idx, ↓w_slc, ↓w_call, ↓w_bi, ↓w_fld, ↓w_meth, ↓w_make, ↓w_lc, ↓ws_nil, ↓ws_cons, ↓b_add, ↓b_sub, ↓b_mul, ↓b_fdiv, ↓b_mod, ↓b_pow, ↓b_shl, ↓b_addT, ↓k_lt, ↓k_le, ↓k_gt, ↓k_ge, ↓k_eqI, ↓k_neI, ↓k_eqStr, ↓k_neStr, ↓k_is, ↓k_isnot, ↓k_in, ↓k_notin, ↓isN_non, ↓isN_int, ↓isN_tup, ↓isN_ref, ↓isN_bl, ↓isN_str, ↓t_bl, ↓t_non, ↓t_int, ↓t_tup, ↓ix_t0, ↓ix_t1, ↓ix_t2, ↓ix_r0, ↓ix_r1, ↓ix_r2, ↓sl_tup, ↓sl_ref, ↓po_nil, ↓po_int, ↓f_lenT, ↓f_lenF, ↓f_lenR, ↓f_abs, ↓f_min, ↓f_max, ↓f_intB, ↓f_tupR, ↓f_sumR, ↓f_allR, ↓f_isiII, ↓f_isiIB, ↓f_isiTT, ↓f_isiSS, ↓negS_int, ↓chnS_bl, ↓nonS_non, ↓oSat_some, ↓insS_ref, ↓insS_app, ↓insS_set, ↓lstS_ref, ↓lstS_app, ↓lstS_set, ↓seq_nx, ↓seq_rt, ↓seq_bk, ↓seq_ct, ↓v_nil, ↓v_cons, ↓v_pass, ↓v_exp, ↓v_ret, ↓v_retN, ↓v_brk, ↓v_cnt, ↓v_ife, ↓v_asg, ↓v_asg2, ↓v_par, ↓v_par3, ↓v_ifw, ↓v_app, ↓v_ext, ↓v_augF, ↓v_for, ↓v_whl, ↓tq_fld, ↓tq_sub, ↓tq_tp, ↓tqs_nil, ↓tqs_cons, ↓tupS_tup, ↓pl_0, ↓pl_1, ↓pl_2, ↓g_add, ↓g_sub, ↓turn_nx, ↓turn_ct, ↓turn_bk, ↓turn_rt, ↓end_rt, ↓end_nx, ↓it_rng1, ↓it_rng2, ↓it_seqT, ↓it_seqF, ↓it_seqR, ↓it_enumT, ↓it_zipT, ↓ix_s0, ↓ix_s1, ↓ix_s2, ↓ix_sa0, ↓ix_sa1, ↓ix_sa2, ↓ix_new, ↓f_lenN, ↓f_tupN, ↓f_sumN, ↓f_allN, ↓sat_ok, ↓List.set_set, List.length_set, true_and, and_true, and_self, set_0, set_1, set_2, ↓insS_ref hn, hlt, ca_places, ca_fixed, ca_most, ca_level, ca_size, ca_paid, ca_done, ↓tk_places, ↓tk_fixed, ↓tk_most, ↓tk_level, ↓tk_size, ↓tk_paid, ↓tk_done, tp_fixed, tp_most, tp_level, tp_size, tp_paid, tp_done, tl, ↓cm_push, ↓cm_pop, ↓cm_move, ↓cm_rest, ↓cm_run, tm_push, tm_pop, tm_move, tm_rest, tm_run]
  rw [gc_set rfl (below_trk _)]
  exact ⟨rfl, _, rfl⟩
/-- what the moves cost -/
def upC (P : List (Int × Int)) (a b : Nat) : Int := (((P.take b).drop a).map (·.1)).sum
def dnC (P : List (Int × Int)) (a b : Nat) : Int := (((P.take b).drop a).map (·.2)).sum
theorem upC_same (P : List (Int × Int)) (a : Nat) : upC P a a = 0 := by
  unfold upC
  rw [List.drop_eq_nil_of_le (by simp; omega)]
  rfl
theorem upC_step {P : List (Int × Int)} {a b : Nat} {p : Int × Int} (h : a ≤ b) (hp : P[b]? = some p) : upC P a (b + 1) = upC P a b + p.1 := by
  unfold upC
  have hb := (List.getElem?_eq_some_iff.1 hp).1
  rw [List.take_succ, hp, List.drop_append_of_le_length (by simp; omega)]
  simp
theorem dnC_same (P : List (Int × Int)) (a : Nat) : dnC P a a = 0 := by
  unfold dnC
  rw [List.drop_eq_nil_of_le (by simp; omega)]
  rfl
theorem dnC_step {P : List (Int × Int)} {a b : Nat} {p : Int × Int} (h : a < b) (hb : b ≤ P.length) (hp : P[a]? = some p) : dnC P a b = dnC P (a + 1) b + p.2 := by
  unfold dnC
  have e : (P.take b).drop a = p :: (P.take b).drop (a + 1) := by
    have hl : a < (P.take b).length := by simp; omega
    rw [List.drop_eq_getElem_cons hl]
    congr 1
    rw [List.getElem_take]
    exact (List.getElem?_eq_some_iff.1 hp).2
  rw [e]
  simp
  omega
theorem push_sp {k n : Nat} {P : List (Int × Int)} {fx mo sz pd dn count : Int} {lv : Nat} {m : Hs} (hn : m[n]? = some (.ins 0 (trk P fx mo lv sz pd dn))) (hP : P.length ≤ 1000) (hlv : lv ≤ P.length) :
    (callN Dt (k + 2) 10 [.ref n, .int count] m).sat fun d m' => d = .ref m.length ∧ ∃ (L : Nat) (dn' : Int) (f : List D), f.length ≤ 1000 ∧ lv ≤ L ∧ L ≤ P.length ∧ (∀ i, lv ≤ i → i < L → ∀ p, P[i]? = some p → p.1 < sz + count) ∧ (∀ p, P[L]? = some p → sz + count ≤ p.1) ∧
      m' = m.set n (.ins 0 (trk P fx mo L (sz + count) (pd + upC P lv L + (L - lv : Int) * fx) dn')) ++ [.lst f] := by
  have hlt : n < m.length := (List.getElem?_eq_some_iff.1 hn).1
  refine fn_sat (fn := f_Track_push) rfl rfl [some (.ref n), some (.int count), none, none] rfl ?_
  show (evSs _ b_Track_push _ _).sat _
  unfold b_Track_push
  simp only [↓w_v0, ↓tg_n0, ↓v_au0, ↓w_v1, ↓tg_n1, ↓v_au1, ↓w_v2, ↓tg_n2, ↓v_au2, ↓w_v3, ↓tg_n3, ↓v_au3, ↓w_v4, ↓tg_n4, ↓v_au4, ↓w_v5, ↓tg_n5, ↓v_au5, ↓w_v6, ↓tg_n6, ↓v_au6, ↓w_v7, ↓tg_n7, ↓v_au7, ↓w_v8, ↓tg_n8, ↓v_au8, ↓w_v9, ↓tg_n9, ↓v_au9, ↓w_v10, ↓tg_n10, ↓v_au10, ↓w_v11, ↓tg_n11, ↓v_au11, ↓w_v12, ↓tg_n12, ↓v_au12, ↓w_v13, ↓tg_n13, ↓v_au13, ↓w_v14, ↓tg_n14, ↓v_au14, ↓w_v15, ↓tg_n15, ↓v_au15, ↓w_v16, ↓tg_n16, ↓v_au16, ↓w_v17, ↓tg_n17, ↓v_au17, ↓w_v18, ↓tg_n18, ↓v_au18, ↓w_v19, ↓tg_n19, ↓v_au19, ↓w_v20, ↓tg_n20, ↓v_au20, ↓w_v21, ↓tg_n21, ↓v_au21, ↓w_v22, ↓tg_n22, ↓v_au22, ↓w_v23, ↓tg_n23, ↓v_au23, ↓w_v24, ↓tg_n24, ↓v_au24, ↓w_v25, ↓tg_n25, ↓v_au25, ↓w_cst, ↓w_bin, ↓w_cmp, ↓w_neg, ↓w_not, ↓w_and, ↓w_or, ↓w_ite, ↓w_chn, ↓w_tup, ↓w_lst, ↓w_idx, ↓w_slc, ↓w_call, ↓w_bi, ↓w_fld, ↓w_meth, ↓w_make, ↓w_lc, ↓ws_nil, ↓ws_cons, ↓b_add, ↓b_sub, ↓b_mul, ↓b_fdiv, ↓b_mod, ↓b_pow, ↓b_shl, ↓b_addT, ↓k_lt, ↓k_le, ↓k_gt, ↓k_ge, ↓k_eqI, ↓k_neI, ↓k_eqStr, ↓k_neStr, ↓k_is, ↓k_isnot, ↓k_in, ↓k_notin, ↓isN_non, ↓isN_int, ↓isN_tup, ↓isN_ref, ↓isN_bl, ↓isN_str, ↓t_bl, ↓t_non, ↓t_int, ↓t_tup, ↓ix_t0, ↓ix_t1, ↓ix_t2, ↓ix_r0, ↓ix_r1, ↓ix_r2, ↓sl_tup, ↓sl_ref, ↓po_nil, ↓po_int, ↓f_lenT, ↓f_lenF, ↓f_lenR, ↓f_abs, ↓f_min, ↓f_max, ↓f_intB, ↓f_tupR, ↓f_sumR, ↓f_allR, ↓f_isiII, ↓f_isiIB, ↓f_isiTT, ↓f_isiSS, ↓negS_int, ↓chnS_bl, ↓nonS_non, ↓oSat_some, ↓insS_ref, ↓insS_app, ↓insS_set, ↓lstS_ref, ↓lstS_app, ↓lstS_set, ↓seq_nx, ↓seq_rt, ↓seq_bk, ↓seq_ct, ↓v_nil, ↓v_cons, ↓v_pass, ↓v_exp, ↓v_ret, ↓v_retN, ↓v_brk, ↓v_cnt, ↓v_ife, ↓v_asg, ↓v_asg2, ↓v_par, ↓v_par3, ↓v_ifw, ↓v_app, ↓v_ext, ↓v_augF, ↓v_for, ↓v_whl, ↓tq_fld, ↓tq_sub, ↓tq_tp, ↓tqs_nil, ↓tqs_cons, ↓tupS_tup, ↓pl_0, ↓pl_1, ↓pl_2, ↓g_add, ↓g_sub, ↓turn_nx, ↓turn_ct, ↓turn_bk, ↓turn_rt, ↓end_rt, ↓end_nx, ↓it_rng1, ↓it_rng2, ↓it_seqT, ↓it_seqF, ↓it_seqR, ↓it_enumT, ↓it_zipT, ↓ix_s0, ↓ix_s1, ↓ix_s2, ↓ix_sa0, ↓ix_sa1, ↓ix_sa2, ↓ix_new, ↓f_lenN, ↓f_tupN, ↓f_sumN, ↓f_allN, ↓sat_ok, ↓List.set_set, List.length_set, true_and, and_true, and_self, set_0, set_1, set_2, ↓insS_ref hn, hlt, ca_places, ca_fixed, ca_most, ca_level, ca_size, ca_paid, ca_done, ↓tk_places, ↓tk_fixed, ↓tk_most, ↓tk_level, ↓tk_size, ↓tk_paid, ↓tk_done, tp_fixed, tp_most, tp_level, tp_size, tp_paid, tp_done, tl, ↓cm_push, ↓cm_pop, ↓cm_move, ↓cm_rest, ↓cm_run, tm_push, tm_pop, tm_move, tm_rest, tm_run]
  refine ⟨Nat.zero_le _, ?_⟩
  refine whlL_rule (fun t r h => ∃ (L : Nat) (sz' dn' : Int) (f : List D), t = P.length - L ∧ f.length = L - lv ∧ lv ≤ L ∧ L ≤ P.length ∧ (∀ i, lv ≤ i → i < L → ∀ p, P[i]? = some p → p.1 < sz + count) ∧ r = [some (.ref n), some (.int count), some (.int (sz + count)), some (.ref m.length)] ∧ h = m.set n (.ins 0 (trk P fx mo L sz' (pd + upC P lv L + (L - lv : Int) * fx) dn')) ++ [.lst f]) ?_ whileMost (P.length - lv) _ _ (Nat.lt_of_le_of_lt (show P.length - lv ≤ 1000 by omega) (by decide)) ?_
  · rintro t r h ⟨L, sz', dn', f, rfl, hf, hL1, hL2, hall, rfl, rfl⟩
    have hg := get_sa (g := [.lst f]) (o := .ins 0 (trk P fx mo L sz' (pd + upC P lv L + (L - lv : Int) * fx) dn')) hlt
    have fin : (∀ p, P[L]? = some p → sz + count ≤ p.1) → (callN Dt (k + 1) 9 [D.ref n, D.int (sz + count)] (m.set n (.ins 0 (trk P fx mo L sz' (pd + upC P lv L + (L - lv : Int) * fx) dn')) ++ [.lst f])).sat fun x m1 => (gcR m (D.ref m.length) m1).sat fun d m' => d = .ref m.length ∧ ∃ (L : Nat) (dn' : Int) (f : List D), f.length ≤ 1000 ∧ lv ≤ L ∧ L ≤ P.length ∧ (∀ i, lv ≤ i → i < L → ∀ p, P[i]? = some p → p.1 < sz + count) ∧ (∀ p, P[L]? = some p → sz + count ≤ p.1) ∧ m' = m.set n (.ins 0 (trk P fx mo L (sz + count) (pd + upC P lv L + (L - lv : Int) * fx) dn')) ++ [.lst f] := by
      intro hst
      refine (rest_sp hg).imp ?_
      rintro d m1 ⟨rfl, dn2, rfl⟩
      rw [gc_new (by simp [below])]
      refine ⟨rfl, L, dn2, f, by omega, hL1, hL2, hall, hst, ?_⟩
      rw [List.set_append_left _ _ (by simpa using hlt), List.set_set]
    by_cases hLP : L < P.length
    · obtain ⟨p, hp⟩ : ∃ p, P[L]? = some p := ⟨_, List.getElem?_eq_getElem hLP⟩
      have hp' : P[(L : Int).toNat]? = some p := by simpa using hp
      have hL0 : (0 : Int) ≤ L := by omega
      have hLi : (L : Int) < P.length := by omega
      by_cases hc : p.1 < sz + count
      · simp only [↓w_v0, ↓tg_n0, ↓v_au0, ↓w_v1, ↓tg_n1, ↓v_au1, ↓w_v2, ↓tg_n2, ↓v_au2, ↓w_v3, ↓tg_n3, ↓v_au3, ↓w_v4, ↓tg_n4, ↓v_au4, ↓w_v5, ↓tg_n5, ↓v_au5, ↓w_v6, ↓tg_n6, ↓v_au6, ↓w_v7, ↓tg_n7, ↓v_au7, ↓w_v8, ↓tg_n8, ↓v_au8, ↓w_v9, ↓tg_n9, ↓v_au9, ↓w_v10, ↓tg_n10, ↓v_au10, ↓w_v11, ↓tg_n11, ↓v_au11, ↓w_v12, ↓tg_n12, ↓v_au12, ↓w_v13, ↓tg_n13, ↓v_au13, ↓w_v14, ↓tg_n14, ↓v_au14, ↓w_v15, ↓tg_n15, ↓v_au15, ↓w_v16, ↓tg_n16, ↓v_au16, ↓w_v17, ↓tg_n17, ↓v_au17, ↓w_v18, ↓tg_n18, ↓v_au18, ↓w_v19, ↓tg_n19, ↓v_au19, ↓w_v20, ↓tg_n20, ↓v_au20, ↓w_v21, ↓tg_n21, ↓v_au21, ↓w_v22, ↓tg_n22, ↓v_au22, ↓w_v23, ↓tg_n23, ↓v_au23, ↓w_v24, ↓tg_n24, ↓v_au24, ↓w_v25, ↓tg_n25, ↓v_au25, ↓w_cst, ↓w_bin, ↓w_cmp, ↓w_neg, ↓w_not, ↓w_and, ↓w_or, ↓w_ite, ↓w_chn, ↓w_tup, ↓w_lst, ↓w_idx, ↓w_slc, ↓w_call, ↓w_bi, ↓w_fld, ↓w_meth, ↓w_make, ↓w_lc, ↓ws_nil, ↓ws_cons, ↓b_add, ↓b_sub, ↓b_mul, ↓b_fdiv, ↓b_mod, ↓b_pow, ↓b_shl, ↓b_addT, ↓k_lt, ↓k_le, ↓k_gt, ↓k_ge, ↓k_eqI, ↓k_neI, ↓k_eqStr, ↓k_neStr, ↓k_is, ↓k_isnot, ↓k_in, ↓k_notin, ↓isN_non, ↓isN_int, ↓isN_tup, ↓isN_ref, ↓isN_bl, ↓isN_str, ↓t_bl, ↓t_non, ↓t_int, ↓t_tup, ↓ix_t0, ↓ix_t1, ↓ix_t2, ↓ix_r0, ↓ix_r1, ↓ix_r2, ↓sl_tup, ↓sl_ref, ↓po_nil, ↓po_int, ↓f_lenT, ↓f_lenF, ↓f_lenR, ↓f_abs, ↓f_min, ↓f_max, ↓f_intB, ↓f_tupR, ↓f_sumR, ↓f_allR, ↓f_isiII, ↓f_isiIB, ↓f_isiTT, ↓f_isiSS, ↓negS_int, ↓chnS_bl, ↓nonS_non, ↓oSat_some, ↓insS_ref, ↓insS_app, ↓insS_set, ↓lstS_ref, ↓lstS_app, ↓lstS_set, ↓seq_nx, ↓seq_rt, ↓seq_bk, ↓seq_ct, ↓v_nil, ↓v_cons, ↓v_pass, ↓v_exp, ↓v_ret, ↓v_retN, ↓v_brk, ↓v_cnt, ↓v_ife, ↓v_asg, ↓v_asg2, ↓v_par, ↓v_par3, ↓v_ifw, ↓v_app, ↓v_ext, ↓v_augF, ↓v_for, ↓v_whl, ↓tq_fld, ↓tq_sub, ↓tq_tp, ↓tqs_nil, ↓tqs_cons, ↓tupS_tup, ↓pl_0, ↓pl_1, ↓pl_2, ↓g_add, ↓g_sub, ↓turn_nx, ↓turn_ct, ↓turn_bk, ↓turn_rt, ↓end_rt, ↓end_nx, ↓it_rng1, ↓it_rng2, ↓it_seqT, ↓it_seqF, ↓it_seqR, ↓it_enumT, ↓it_zipT, ↓ix_s0, ↓ix_s1, ↓ix_s2, ↓ix_sa0, ↓ix_sa1, ↓ix_sa2, ↓ix_new, ↓f_lenN, ↓f_tupN, ↓f_sumN, ↓f_allN, ↓sat_ok, ↓List.set_set, List.length_set, true_and, and_true, and_self, set_0, set_1, set_2, ↓insS_ref hg, hlt, ca_places, ca_fixed, ca_most, ca_level, ca_size, ca_paid, ca_done, ↓tk_places, ↓tk_fixed, ↓tk_most, ↓tk_level, ↓tk_size, ↓tk_paid, ↓tk_done, tp_fixed, tp_most, tp_level, tp_size, tp_paid, tp_done, tl, ↓cm_push, ↓cm_pop, ↓cm_move, ↓cm_rest, ↓cm_run, tm_push, tm_pop, tm_move, tm_rest, tm_run, ↓f_lenP, ↓ix_pr0, ↓ix_pr1, decide_true, if_true, decide_false, if_false, Bool.false_eq_true, hLi, ↓ix_plc hL0 hp', hc, ↓lstS_ref get_far]
        refine (move_sp hg).imp ?_
        rintro d m1 ⟨hb, dn2, rfl⟩
        rw [List.set_append_left _ _ (by simpa using hlt), List.set_set, lstS_ref get_far]
        refine ⟨Nat.lt_of_lt_of_le (show f.length < 1001 by omega) (by decide), P.length - (L + 1), by omega, L + 1, p.1 + 1, dn2, f ++ [d], rfl, by simp; omega, by omega, by omega, ?_, ?_⟩
        · intro i h1 h2 q hq
          by_cases e : i = L
          · subst e
            rw [hp] at hq
            cases hq
            exact hc
          · exact hall i h1 (by omega) q hq
        · rw [List.set_append_right _ _ (by simp), upC_step hL1 hp]
          have e2 : pd + upC P lv L + (L - lv : Int) * fx + ((if (0 : Int) < 1 then p.1 else p.1 - 1) + fx) = pd + (upC P lv L + p.1) + (((L + 1 : Nat) : Int) - lv) * fx := by
            rw [if_pos (by decide)]
            have : (((L + 1 : Nat) : Int) - lv) * fx = (L - lv : Int) * fx + fx := by
              rw [show (((L + 1 : Nat) : Int) - lv) = (L - lv : Int) + 1 by omega, Int.add_mul, Int.one_mul]
            omega
          rw [e2]
          simp
      · simp only [↓w_v0, ↓tg_n0, ↓v_au0, ↓w_v1, ↓tg_n1, ↓v_au1, ↓w_v2, ↓tg_n2, ↓v_au2, ↓w_v3, ↓tg_n3, ↓v_au3, ↓w_v4, ↓tg_n4, ↓v_au4, ↓w_v5, ↓tg_n5, ↓v_au5, ↓w_v6, ↓tg_n6, ↓v_au6, ↓w_v7, ↓tg_n7, ↓v_au7, ↓w_v8, ↓tg_n8, ↓v_au8, ↓w_v9, ↓tg_n9, ↓v_au9, ↓w_v10, ↓tg_n10, ↓v_au10, ↓w_v11, ↓tg_n11, ↓v_au11, ↓w_v12, ↓tg_n12, ↓v_au12, ↓w_v13, ↓tg_n13, ↓v_au13, ↓w_v14, ↓tg_n14, ↓v_au14, ↓w_v15, ↓tg_n15, ↓v_au15, ↓w_v16, ↓tg_n16, ↓v_au16, ↓w_v17, ↓tg_n17, ↓v_au17, ↓w_v18, ↓tg_n18, ↓v_au18, ↓w_v19, ↓tg_n19, ↓v_au19, ↓w_v20, ↓tg_n20, ↓v_au20, ↓w_v21, ↓tg_n21, ↓v_au21, ↓w_v22, ↓tg_n22, ↓v_au22, ↓w_v23, ↓tg_n23, ↓v_au23, ↓w_v24, ↓tg_n24, ↓v_au24, ↓w_v25, ↓tg_n25, ↓v_au25, ↓w_cst, ↓w_bin, ↓w_cmp, ↓w_neg, ↓w_not, ↓w_and, ↓w_or, ↓w_ite, ↓w_chn, ↓w_tup, ↓w_lst, ↓w_idx, ↓w_slc, ↓w_call, ↓w_bi, ↓w_fld, ↓w_meth, ↓w_make, ↓w_lc, ↓ws_nil, ↓ws_cons, ↓b_add, ↓b_sub, ↓b_mul, ↓b_fdiv, ↓b_mod, ↓b_pow, ↓b_shl, ↓b_addT, ↓k_lt, ↓k_le, ↓k_gt, ↓k_ge, ↓k_eqI, ↓k_neI, ↓k_eqStr, ↓k_neStr, ↓k_is, ↓k_isnot, ↓k_in, ↓k_notin, ↓isN_non, ↓isN_int, ↓isN_tup, ↓isN_ref, ↓isN_bl, ↓isN_str, ↓t_bl, ↓t_non, ↓t_int, ↓t_tup, ↓ix_t0, ↓ix_t1, ↓ix_t2, ↓ix_r0, ↓ix_r1, ↓ix_r2, ↓sl_tup, ↓sl_ref, ↓po_nil, ↓po_int, ↓f_lenT, ↓f_lenF, ↓f_lenR, ↓f_abs, ↓f_min, ↓f_max, ↓f_intB, ↓f_tupR, ↓f_sumR, ↓f_allR, ↓f_isiII, ↓f_isiIB, ↓f_isiTT, ↓f_isiSS, ↓negS_int, ↓chnS_bl, ↓nonS_non, ↓oSat_some, ↓insS_ref, ↓insS_app, ↓insS_set, ↓lstS_ref, ↓lstS_app, ↓lstS_set, ↓seq_nx, ↓seq_rt, ↓seq_bk, ↓seq_ct, ↓v_nil, ↓v_cons, ↓v_pass, ↓v_exp, ↓v_ret, ↓v_retN, ↓v_brk, ↓v_cnt, ↓v_ife, ↓v_asg, ↓v_asg2, ↓v_par, ↓v_par3, ↓v_ifw, ↓v_app, ↓v_ext, ↓v_augF, ↓v_for, ↓v_whl, ↓tq_fld, ↓tq_sub, ↓tq_tp, ↓tqs_nil, ↓tqs_cons, ↓tupS_tup, ↓pl_0, ↓pl_1, ↓pl_2, ↓g_add, ↓g_sub, ↓turn_nx, ↓turn_ct, ↓turn_bk, ↓turn_rt, ↓end_rt, ↓end_nx, ↓it_rng1, ↓it_rng2, ↓it_seqT, ↓it_seqF, ↓it_seqR, ↓it_enumT, ↓it_zipT, ↓ix_s0, ↓ix_s1, ↓ix_s2, ↓ix_sa0, ↓ix_sa1, ↓ix_sa2, ↓ix_new, ↓f_lenN, ↓f_tupN, ↓f_sumN, ↓f_allN, ↓sat_ok, ↓List.set_set, List.length_set, true_and, and_true, and_self, set_0, set_1, set_2, ↓insS_ref hg, hlt, ca_places, ca_fixed, ca_most, ca_level, ca_size, ca_paid, ca_done, ↓tk_places, ↓tk_fixed, ↓tk_most, ↓tk_level, ↓tk_size, ↓tk_paid, ↓tk_done, tp_fixed, tp_most, tp_level, tp_size, tp_paid, tp_done, tl, ↓cm_push, ↓cm_pop, ↓cm_move, ↓cm_rest, ↓cm_run, tm_push, tm_pop, tm_move, tm_rest, tm_run, ↓f_lenP, ↓ix_pr0, ↓ix_pr1, decide_true, if_true, decide_false, if_false, Bool.false_eq_true, hLi, ↓ix_plc hL0 hp', hc]
        exact fin fun q hq => by
          rw [hp] at hq
          cases hq
          omega
    · have hLi : ¬ (L : Int) < P.length := by omega
      simp only [↓w_v0, ↓tg_n0, ↓v_au0, ↓w_v1, ↓tg_n1, ↓v_au1, ↓w_v2, ↓tg_n2, ↓v_au2, ↓w_v3, ↓tg_n3, ↓v_au3, ↓w_v4, ↓tg_n4, ↓v_au4, ↓w_v5, ↓tg_n5, ↓v_au5, ↓w_v6, ↓tg_n6, ↓v_au6, ↓w_v7, ↓tg_n7, ↓v_au7, ↓w_v8, ↓tg_n8, ↓v_au8, ↓w_v9, ↓tg_n9, ↓v_au9, ↓w_v10, ↓tg_n10, ↓v_au10, ↓w_v11, ↓tg_n11, ↓v_au11, ↓w_v12, ↓tg_n12, ↓v_au12, ↓w_v13, ↓tg_n13, ↓v_au13, ↓w_v14, ↓tg_n14, ↓v_au14, ↓w_v15, ↓tg_n15, ↓v_au15, ↓w_v16, ↓tg_n16, ↓v_au16, ↓w_v17, ↓tg_n17, ↓v_au17, ↓w_v18, ↓tg_n18, ↓v_au18, ↓w_v19, ↓tg_n19, ↓v_au19, ↓w_v20, ↓tg_n20, ↓v_au20, ↓w_v21, ↓tg_n21, ↓v_au21, ↓w_v22, ↓tg_n22, ↓v_au22, ↓w_v23, ↓tg_n23, ↓v_au23, ↓w_v24, ↓tg_n24, ↓v_au24, ↓w_v25, ↓tg_n25, ↓v_au25, ↓w_cst, ↓w_bin, ↓w_cmp, ↓w_neg, ↓w_not, ↓w_and, ↓w_or, ↓w_ite, ↓w_chn, ↓w_tup, ↓w_lst, ↓w_idx, ↓w_slc, ↓w_call, ↓w_bi, ↓w_fld, ↓w_meth, ↓w_make, ↓w_lc, ↓ws_nil, ↓ws_cons, ↓b_add, ↓b_sub, ↓b_mul, ↓b_fdiv, ↓b_mod, ↓b_pow, ↓b_shl, ↓b_addT, ↓k_lt, ↓k_le, ↓k_gt, ↓k_ge, ↓k_eqI, ↓k_neI, ↓k_eqStr, ↓k_neStr, ↓k_is, ↓k_isnot, ↓k_in, ↓k_notin, ↓isN_non, ↓isN_int, ↓isN_tup, ↓isN_ref, ↓isN_bl, ↓isN_str, ↓t_bl, ↓t_non, ↓t_int, ↓t_tup, ↓ix_t0, ↓ix_t1, ↓ix_t2, ↓ix_r0, ↓ix_r1, ↓ix_r2, ↓sl_tup, ↓sl_ref, ↓po_nil, ↓po_int, ↓f_lenT, ↓f_lenF, ↓f_lenR, ↓f_abs, ↓f_min, ↓f_max, ↓f_intB, ↓f_tupR, ↓f_sumR, ↓f_allR, ↓f_isiII, ↓f_isiIB, ↓f_isiTT, ↓f_isiSS, ↓negS_int, ↓chnS_bl, ↓nonS_non, ↓oSat_some, ↓insS_ref, ↓insS_app, ↓insS_set, ↓lstS_ref, ↓lstS_app, ↓lstS_set, ↓seq_nx, ↓seq_rt, ↓seq_bk, ↓seq_ct, ↓v_nil, ↓v_cons, ↓v_pass, ↓v_exp, ↓v_ret, ↓v_retN, ↓v_brk, ↓v_cnt, ↓v_ife, ↓v_asg, ↓v_asg2, ↓v_par, ↓v_par3, ↓v_ifw, ↓v_app, ↓v_ext, ↓v_augF, ↓v_for, ↓v_whl, ↓tq_fld, ↓tq_sub, ↓tq_tp, ↓tqs_nil, ↓tqs_cons, ↓tupS_tup, ↓pl_0, ↓pl_1, ↓pl_2, ↓g_add, ↓g_sub, ↓turn_nx, ↓turn_ct, ↓turn_bk, ↓turn_rt, ↓end_rt, ↓end_nx, ↓it_rng1, ↓it_rng2, ↓it_seqT, ↓it_seqF, ↓it_seqR, ↓it_enumT, ↓it_zipT, ↓ix_s0, ↓ix_s1, ↓ix_s2, ↓ix_sa0, ↓ix_sa1, ↓ix_sa2, ↓ix_new, ↓f_lenN, ↓f_tupN, ↓f_sumN, ↓f_allN, ↓sat_ok, ↓List.set_set, List.length_set, true_and, and_true, and_self, set_0, set_1, set_2, ↓insS_ref hg, hlt, ca_places, ca_fixed, ca_most, ca_level, ca_size, ca_paid, ca_done, ↓tk_places, ↓tk_fixed, ↓tk_most, ↓tk_level, ↓tk_size, ↓tk_paid, ↓tk_done, tp_fixed, tp_most, tp_level, tp_size, tp_paid, tp_done, tl, ↓cm_push, ↓cm_pop, ↓cm_move, ↓cm_rest, ↓cm_run, tm_push, tm_pop, tm_move, tm_rest, tm_run, ↓f_lenP, ↓ix_pr0, ↓ix_pr1, decide_true, if_true, decide_false, if_false, Bool.false_eq_true, hLi]
      exact fin fun q hq => by
        have := (List.getElem?_eq_some_iff.1 hq).1
        omega
  · refine ⟨lv, sz, dn, [], rfl, by simp, Nat.le_refl _, hlv, fun i h1 h2 => by omega, rfl, ?_⟩
    rw [upC_same]
    simp only [Int.sub_self, Int.zero_mul, Int.add_zero]
    rw [set_same hn]
theorem pop_sp {k n : Nat} {P : List (Int × Int)} {fx mo sz pd dn count : Int} {lv : Nat} {m : Hs} (hn : m[n]? = some (.ins 0 (trk P fx mo lv sz pd dn))) (hP : P.length ≤ 1000) (hlv : lv ≤ P.length) :
    (callN Dt (k + 2) 11 [.ref n, .int count] m).sat fun d m' => d = .ref m.length ∧ ∃ (L : Nat) (dn' : Int) (f : List D), f.length ≤ 1000 ∧ L ≤ lv ∧ (∀ i, L ≤ i → i < lv → ∀ p, P[i]? = some p → sz - count ≤ p.2) ∧ (∀ i p, L = i + 1 → P[i]? = some p → p.2 < sz - count) ∧
      m' = m.set n (.ins 0 (trk P fx mo L (sz - count) (pd + dnC P L lv + (lv - L : Int) * fx) dn')) ++ [.lst f] := by
  have hlt : n < m.length := (List.getElem?_eq_some_iff.1 hn).1
  refine fn_sat (fn := f_Track_pop) rfl rfl [some (.ref n), some (.int count), none, none] rfl ?_
  show (evSs _ b_Track_pop _ _).sat _
  unfold b_Track_pop
  simp only [↓w_v0, ↓tg_n0, ↓v_au0, ↓w_v1, ↓tg_n1, ↓v_au1, ↓w_v2, ↓tg_n2, ↓v_au2, ↓w_v3, ↓tg_n3, ↓v_au3, ↓w_v4, ↓tg_n4, ↓v_au4, ↓w_v5, ↓tg_n5, ↓v_au5, ↓w_v6, ↓tg_n6, ↓v_au6, ↓w_v7, ↓tg_n7, ↓v_au7, ↓w_v8, ↓tg_n8, ↓v_au8, ↓w_v9, ↓tg_n9, ↓v_au9, ↓w_v10, ↓tg_n10, ↓v_au10, ↓w_v11, ↓tg_n11, ↓v_au11, ↓w_v12, ↓tg_n12, ↓v_au12, ↓w_v13, ↓tg_n13, ↓v_au13, ↓w_v14, ↓tg_n14, ↓v_au14, ↓w_v15, ↓tg_n15, ↓v_au15, ↓w_v16, ↓tg_n16, ↓v_au16, ↓w_v17, ↓tg_n17, ↓v_au17, ↓w_v18, ↓tg_n18, ↓v_au18, ↓w_v19, ↓tg_n19, ↓v_au19, ↓w_v20, ↓tg_n20, ↓v_au20, ↓w_v21, ↓tg_n21, ↓v_au21, ↓w_v22, ↓tg_n22, ↓v_au22, ↓w_v23, ↓tg_n23, ↓v_au23, ↓w_v24, ↓tg_n24, ↓v_au24, ↓w_v25, ↓tg_n25, ↓v_au25, ↓w_cst, ↓w_bin, ↓w_cmp, ↓w_neg, ↓w_not, ↓w_and, ↓w_or, ↓w_ite, ↓w_chn, ↓w_tup, ↓w_lst, ↓w_idx, ↓w_slc, ↓w_call, ↓w_bi, ↓w_fld, ↓w_meth, ↓w_make, ↓w_lc, ↓ws_nil, ↓ws_cons, ↓b_add, ↓b_sub, ↓b_mul, ↓b_fdiv, ↓b_mod, ↓b_pow, ↓b_shl, ↓b_addT, ↓k_lt, ↓k_le, ↓k_gt, ↓k_ge, ↓k_eqI, ↓k_neI, ↓k_eqStr, ↓k_neStr, ↓k_is, ↓k_isnot, ↓k_in, ↓k_notin, ↓isN_non, ↓isN_int, ↓isN_tup, ↓isN_ref, ↓isN_bl, ↓isN_str, ↓t_bl, ↓t_non, ↓t_int, ↓t_tup, ↓ix_t0, ↓ix_t1, ↓ix_t2, ↓ix_r0, ↓ix_r1, ↓ix_r2, ↓sl_tup, ↓sl_ref, ↓po_nil, ↓po_int, ↓f_lenT, ↓f_lenF, ↓f_lenR, ↓f_abs, ↓f_min, ↓f_max, ↓f_intB, ↓f_tupR, ↓f_sumR, ↓f_allR, ↓f_isiII, ↓f_isiIB, ↓f_isiTT, ↓f_isiSS, ↓negS_int, ↓chnS_bl, ↓nonS_non, ↓oSat_some, ↓insS_ref, ↓insS_app, ↓insS_set, ↓lstS_ref, ↓lstS_app, ↓lstS_set, ↓seq_nx, ↓seq_rt, ↓seq_bk, ↓seq_ct, ↓v_nil, ↓v_cons, ↓v_pass, ↓v_exp, ↓v_ret, ↓v_retN, ↓v_brk, ↓v_cnt, ↓v_ife, ↓v_asg, ↓v_asg2, ↓v_par, ↓v_par3, ↓v_ifw, ↓v_app, ↓v_ext, ↓v_augF, ↓v_for, ↓v_whl, ↓tq_fld, ↓tq_sub, ↓tq_tp, ↓tqs_nil, ↓tqs_cons, ↓tupS_tup, ↓pl_0, ↓pl_1, ↓pl_2, ↓g_add, ↓g_sub, ↓turn_nx, ↓turn_ct, ↓turn_bk, ↓turn_rt, ↓end_rt, ↓end_nx, ↓it_rng1, ↓it_rng2, ↓it_seqT, ↓it_seqF, ↓it_seqR, ↓it_enumT, ↓it_zipT, ↓ix_s0, ↓ix_s1, ↓ix_s2, ↓ix_sa0, ↓ix_sa1, ↓ix_sa2, ↓ix_new, ↓f_lenN, ↓f_tupN, ↓f_sumN, ↓f_allN, ↓sat_ok, ↓List.set_set, List.length_set, true_and, and_true, and_self, set_0, set_1, set_2, ↓insS_ref hn, hlt, ca_places, ca_fixed, ca_most, ca_level, ca_size, ca_paid, ca_done, ↓tk_places, ↓tk_fixed, ↓tk_most, ↓tk_level, ↓tk_size, ↓tk_paid, ↓tk_done, tp_fixed, tp_most, tp_level, tp_size, tp_paid, tp_done, tl, ↓cm_push, ↓cm_pop, ↓cm_move, ↓cm_rest, ↓cm_run, tm_push, tm_pop, tm_move, tm_rest, tm_run, ↓f_lenP, ↓ix_pr0, ↓ix_pr1, decide_true, if_true, decide_false, if_false, Bool.false_eq_true]
  refine ⟨Nat.zero_le _, ?_⟩
  refine whlL_rule (fun t r h => ∃ (L : Nat) (sz' dn' : Int) (f : List D), t = L ∧ f.length = lv - L ∧ L ≤ lv ∧ (∀ i, L ≤ i → i < lv → ∀ p, P[i]? = some p → sz - count ≤ p.2) ∧ r = [some (.ref n), some (.int count), some (.int (sz - count)), some (.ref m.length)] ∧ h = m.set n (.ins 0 (trk P fx mo L sz' (pd + dnC P L lv + (lv - L : Int) * fx) dn')) ++ [.lst f]) ?_ whileMost lv _ _ (Nat.lt_of_le_of_lt (show lv ≤ 1000 by omega) (by decide)) ?_
  · rintro t r h ⟨L, sz', dn', f, rfl, hf, hL1, hall, rfl, rfl⟩
    have hg := get_sa (g := [.lst f]) (o := .ins 0 (trk P fx mo t sz' (pd + dnC P t lv + (lv - t : Int) * fx) dn')) hlt
    have fin : (∀ i p, t = i + 1 → P[i]? = some p → p.2 < sz - count) → (callN Dt (k + 1) 9 [D.ref n, D.int (sz - count)] (m.set n (.ins 0 (trk P fx mo t sz' (pd + dnC P t lv + (lv - t : Int) * fx) dn')) ++ [.lst f])).sat fun x m1 => (gcR m (D.ref m.length) m1).sat fun d m' => d = .ref m.length ∧ ∃ (L : Nat) (dn' : Int) (f : List D), f.length ≤ 1000 ∧ L ≤ lv ∧ (∀ i, L ≤ i → i < lv → ∀ p, P[i]? = some p → sz - count ≤ p.2) ∧ (∀ i p, L = i + 1 → P[i]? = some p → p.2 < sz - count) ∧ m' = m.set n (.ins 0 (trk P fx mo L (sz - count) (pd + dnC P L lv + (lv - L : Int) * fx) dn')) ++ [.lst f] := by
      intro hst
      refine (rest_sp hg).imp ?_
      rintro d m1 ⟨rfl, dn2, rfl⟩
      rw [gc_new (by simp [below])]
      refine ⟨rfl, t, dn2, f, by omega, hL1, hall, hst, ?_⟩
      rw [List.set_append_left _ _ (by simpa using hlt), List.set_set]
    cases t with
    | zero =>
      simp only [↓w_v0, ↓tg_n0, ↓v_au0, ↓w_v1, ↓tg_n1, ↓v_au1, ↓w_v2, ↓tg_n2, ↓v_au2, ↓w_v3, ↓tg_n3, ↓v_au3, ↓w_v4, ↓tg_n4, ↓v_au4, ↓w_v5, ↓tg_n5, ↓v_au5, ↓w_v6, ↓tg_n6, ↓v_au6, ↓w_v7, ↓tg_n7, ↓v_au7, ↓w_v8, ↓tg_n8, ↓v_au8, ↓w_v9, ↓tg_n9, ↓v_au9, ↓w_v10, ↓tg_n10, ↓v_au10, ↓w_v11, ↓tg_n11, ↓v_au11, ↓w_v12, ↓tg_n12, ↓v_au12, ↓w_v13, ↓tg_n13, ↓v_au13, ↓w_v14, ↓tg_n14, ↓v_au14, ↓w_v15, ↓tg_n15, ↓v_au15, ↓w_v16, ↓tg_n16, ↓v_au16, ↓w_v17, ↓tg_n17, ↓v_au17, ↓w_v18, ↓tg_n18, ↓v_au18, ↓w_v19, ↓tg_n19, ↓v_au19, ↓w_v20, ↓tg_n20, ↓v_au20, ↓w_v21, ↓tg_n21, ↓v_au21, ↓w_v22, ↓tg_n22, ↓v_au22, ↓w_v23, ↓tg_n23, ↓v_au23, ↓w_v24, ↓tg_n24, ↓v_au24, ↓w_v25, ↓tg_n25, ↓v_au25, ↓w_cst, ↓w_bin, ↓w_cmp, ↓w_neg, ↓w_not, ↓w_and, ↓w_or, ↓w_ite, ↓w_chn, ↓w_tup, ↓w_lst, ↓w_idx, ↓w_slc, ↓w_call, ↓w_bi, ↓w_fld, ↓w_meth, ↓w_make, ↓w_lc, ↓ws_nil, ↓ws_cons, ↓b_add, ↓b_sub, ↓b_mul, ↓b_fdiv, ↓b_mod, ↓b_pow, ↓b_shl, ↓b_addT, ↓k_lt, ↓k_le, ↓k_gt, ↓k_ge, ↓k_eqI, ↓k_neI, ↓k_eqStr, ↓k_neStr, ↓k_is, ↓k_isnot, ↓k_in, ↓k_notin, ↓isN_non, ↓isN_int, ↓isN_tup, ↓isN_ref, ↓isN_bl, ↓isN_str, ↓t_bl, ↓t_non, ↓t_int, ↓t_tup, ↓ix_t0, ↓ix_t1, ↓ix_t2, ↓ix_r0, ↓ix_r1, ↓ix_r2, ↓sl_tup, ↓sl_ref, ↓po_nil, ↓po_int, ↓f_lenT, ↓f_lenF, ↓f_lenR, ↓f_abs, ↓f_min, ↓f_max, ↓f_intB, ↓f_tupR, ↓f_sumR, ↓f_allR, ↓f_isiII, ↓f_isiIB, ↓f_isiTT, ↓f_isiSS, ↓negS_int, ↓chnS_bl, ↓nonS_non, ↓oSat_some, ↓insS_ref, ↓insS_app, ↓insS_set, ↓lstS_ref, ↓lstS_app, ↓lstS_set, ↓seq_nx, ↓seq_rt, ↓seq_bk, ↓seq_ct, ↓v_nil, ↓v_cons, ↓v_pass, ↓v_exp, ↓v_ret, ↓v_retN, ↓v_brk, ↓v_cnt, ↓v_ife, ↓v_asg, ↓v_asg2, ↓v_par, ↓v_par3, ↓v_ifw, ↓v_app, ↓v_ext, ↓v_augF, ↓v_for, ↓v_whl, ↓tq_fld, ↓tq_sub, ↓tq_tp, ↓tqs_nil, ↓tqs_cons, ↓tupS_tup, ↓pl_0, ↓pl_1, ↓pl_2, ↓g_add, ↓g_sub, ↓turn_nx, ↓turn_ct, ↓turn_bk, ↓turn_rt, ↓end_rt, ↓end_nx, ↓it_rng1, ↓it_rng2, ↓it_seqT, ↓it_seqF, ↓it_seqR, ↓it_enumT, ↓it_zipT, ↓ix_s0, ↓ix_s1, ↓ix_s2, ↓ix_sa0, ↓ix_sa1, ↓ix_sa2, ↓ix_new, ↓f_lenN, ↓f_tupN, ↓f_sumN, ↓f_allN, ↓sat_ok, ↓List.set_set, List.length_set, true_and, and_true, and_self, set_0, set_1, set_2, ↓insS_ref hg, hlt, ca_places, ca_fixed, ca_most, ca_level, ca_size, ca_paid, ca_done, ↓tk_places, ↓tk_fixed, ↓tk_most, ↓tk_level, ↓tk_size, ↓tk_paid, ↓tk_done, tp_fixed, tp_most, tp_level, tp_size, tp_paid, tp_done, tl, ↓cm_push, ↓cm_pop, ↓cm_move, ↓cm_rest, ↓cm_run, tm_push, tm_pop, tm_move, tm_rest, tm_run, ↓f_lenP, ↓ix_pr0, ↓ix_pr1, decide_true, if_true, decide_false, if_false, Bool.false_eq_true, show ¬ ((0 : Int) < ((0 : Nat) : Int)) by decide]
      exact fin fun i p h => by omega
    | succ L =>
      have hLP : L < P.length := by omega
      obtain ⟨p, hp⟩ : ∃ p, P[L]? = some p := ⟨_, List.getElem?_eq_getElem hLP⟩
      have hp' : P[(((L + 1 : Nat) : Int) - 1).toNat]? = some p := by
        rw [show (((L + 1 : Nat) : Int) - 1).toNat = L by omega]
        exact hp
      have hL0 : (0 : Int) ≤ ((L + 1 : Nat) : Int) - 1 := by omega
      have hLi : (0 : Int) < ((L + 1 : Nat) : Int) := by omega
      by_cases hc : sz - count ≤ p.2
      · simp only [↓w_v0, ↓tg_n0, ↓v_au0, ↓w_v1, ↓tg_n1, ↓v_au1, ↓w_v2, ↓tg_n2, ↓v_au2, ↓w_v3, ↓tg_n3, ↓v_au3, ↓w_v4, ↓tg_n4, ↓v_au4, ↓w_v5, ↓tg_n5, ↓v_au5, ↓w_v6, ↓tg_n6, ↓v_au6, ↓w_v7, ↓tg_n7, ↓v_au7, ↓w_v8, ↓tg_n8, ↓v_au8, ↓w_v9, ↓tg_n9, ↓v_au9, ↓w_v10, ↓tg_n10, ↓v_au10, ↓w_v11, ↓tg_n11, ↓v_au11, ↓w_v12, ↓tg_n12, ↓v_au12, ↓w_v13, ↓tg_n13, ↓v_au13, ↓w_v14, ↓tg_n14, ↓v_au14, ↓w_v15, ↓tg_n15, ↓v_au15, ↓w_v16, ↓tg_n16, ↓v_au16, ↓w_v17, ↓tg_n17, ↓v_au17, ↓w_v18, ↓tg_n18, ↓v_au18, ↓w_v19, ↓tg_n19, ↓v_au19, ↓w_v20, ↓tg_n20, ↓v_au20, ↓w_v21, ↓tg_n21, ↓v_au21, ↓w_v22, ↓tg_n22, ↓v_au22, ↓w_v23, ↓tg_n23, ↓v_au23, ↓w_v24, ↓tg_n24, ↓v_au24, ↓w_v25, ↓tg_n25, ↓v_au25, ↓w_cst, ↓w_bin, ↓w_cmp, ↓w_neg, ↓w_not, ↓w_and, ↓w_or, ↓w_ite, ↓w_chn, ↓w_tup, ↓w_lst, ↓w_idx, ↓w_slc, ↓w_call, ↓w_bi, ↓w_fld, ↓w_meth, ↓w_make, ↓w_lc, ↓ws_nil, ↓ws_cons, ↓b_add, ↓b_sub, ↓b_mul, ↓b_fdiv, ↓b_mod, ↓b_pow, ↓b_shl, ↓b_addT, ↓k_lt, ↓k_le, ↓k_gt, ↓k_ge, ↓k_eqI, ↓k_neI, ↓k_eqStr, ↓k_neStr, ↓k_is, ↓k_isnot, ↓k_in, ↓k_notin, ↓isN_non, ↓isN_int, ↓isN_tup, ↓isN_ref, ↓isN_bl, ↓isN_str, ↓t_bl, ↓t_non, ↓t_int, ↓t_tup, ↓ix_t0, ↓ix_t1, ↓ix_t2, ↓ix_r0, ↓ix_r1, ↓ix_r2, ↓sl_tup, ↓sl_ref, ↓po_nil, ↓po_int, ↓f_lenT, ↓f_lenF, ↓f_lenR, ↓f_abs, ↓f_min, ↓f_max, ↓f_intB, ↓f_tupR, ↓f_sumR, ↓f_allR, ↓f_isiII, ↓f_isiIB, ↓f_isiTT, ↓f_isiSS, ↓negS_int, ↓chnS_bl, ↓nonS_non, ↓oSat_some, ↓insS_ref, ↓insS_app, ↓insS_set, ↓lstS_ref, ↓lstS_app, ↓lstS_set, ↓seq_nx, ↓seq_rt, ↓seq_bk, ↓seq_ct, ↓v_nil, ↓v_cons, ↓v_pass, ↓v_exp, ↓v_ret, ↓v_retN, ↓v_brk, ↓v_cnt, ↓v_ife, ↓v_asg, ↓v_asg2, ↓v_par, ↓v_par3, ↓v_ifw, ↓v_app, ↓v_ext, ↓v_augF, ↓v_for, ↓v_whl, ↓tq_fld, ↓tq_sub, ↓tq_tp, ↓tqs_nil, ↓tqs_cons, ↓tupS_tup, ↓pl_0, ↓pl_1, ↓pl_2, ↓g_add, ↓g_sub, ↓turn_nx, ↓turn_ct, ↓turn_bk, ↓turn_rt, ↓end_rt, ↓end_nx, ↓it_rng1, ↓it_rng2, ↓it_seqT, ↓it_seqF, ↓it_seqR, ↓it_enumT, ↓it_zipT, ↓ix_s0, ↓ix_s1, ↓ix_s2, ↓ix_sa0, ↓ix_sa1, ↓ix_sa2, ↓ix_new, ↓f_lenN, ↓f_tupN, ↓f_sumN, ↓f_allN, ↓sat_ok, ↓List.set_set, List.length_set, true_and, and_true, and_self, set_0, set_1, set_2, ↓insS_ref hg, hlt, ca_places, ca_fixed, ca_most, ca_level, ca_size, ca_paid, ca_done, ↓tk_places, ↓tk_fixed, ↓tk_most, ↓tk_level, ↓tk_size, ↓tk_paid, ↓tk_done, tp_fixed, tp_most, tp_level, tp_size, tp_paid, tp_done, tl, ↓cm_push, ↓cm_pop, ↓cm_move, ↓cm_rest, ↓cm_run, tm_push, tm_pop, tm_move, tm_rest, tm_run, ↓f_lenP, ↓ix_pr0, ↓ix_pr1, decide_true, if_true, decide_false, if_false, Bool.false_eq_true, hLi, ↓ix_plc hL0 hp', hc, ↓lstS_ref get_far]
        refine (move_sp hg).imp ?_
        rintro d m1 ⟨hb, dn2, rfl⟩
        rw [List.set_append_left _ _ (by simpa using hlt), List.set_set, lstS_ref get_far]
        refine ⟨Nat.lt_of_lt_of_le (show f.length < 1001 by omega) (by decide), L, by omega, L, p.2 + 1 + -1, dn2, f ++ [d], rfl, by simp; omega, by omega, ?_, ?_⟩
        · intro i h1 h2 q hq
          by_cases e : i = L
          · subst e
            rw [hp] at hq
            cases hq
            exact hc
          · exact hall i (by omega) h2 q hq
        · rw [List.set_append_right _ _ (by simp), dnC_step (a := L) (b := lv) (by omega) hlv hp]
          have e2 : pd + dnC P (L + 1) lv + (lv - ((L + 1 : Nat) : Int) : Int) * fx + ((if (0 : Int) < -1 then p.2 + 1 else p.2 + 1 - 1) + fx) = pd + (dnC P (L + 1) lv + p.2) + ((lv : Int) - L) * fx := by
            rw [if_neg (by decide)]
            have : ((lv : Int) - L) * fx = (lv - ((L + 1 : Nat) : Int) : Int) * fx + fx := by
              rw [show ((lv : Int) - L) = (lv - ((L + 1 : Nat) : Int) : Int) + 1 by omega, Int.add_mul, Int.one_mul]
            omega
          rw [e2]
          have e3 : ((L + 1 : Nat) : Int) + -1 = L := by omega
          rw [e3]
          simp
      · simp only [↓w_v0, ↓tg_n0, ↓v_au0, ↓w_v1, ↓tg_n1, ↓v_au1, ↓w_v2, ↓tg_n2, ↓v_au2, ↓w_v3, ↓tg_n3, ↓v_au3, ↓w_v4, ↓tg_n4, ↓v_au4, ↓w_v5, ↓tg_n5, ↓v_au5, ↓w_v6, ↓tg_n6, ↓v_au6, ↓w_v7, ↓tg_n7, ↓v_au7, ↓w_v8, ↓tg_n8, ↓v_au8, ↓w_v9, ↓tg_n9, ↓v_au9, ↓w_v10, ↓tg_n10, ↓v_au10, ↓w_v11, ↓tg_n11, ↓v_au11, ↓w_v12, ↓tg_n12, ↓v_au12, ↓w_v13, ↓tg_n13, ↓v_au13, ↓w_v14, ↓tg_n14, ↓v_au14, ↓w_v15, ↓tg_n15, ↓v_au15, ↓w_v16, ↓tg_n16, ↓v_au16, ↓w_v17, ↓tg_n17, ↓v_au17, ↓w_v18, ↓tg_n18, ↓v_au18, ↓w_v19, ↓tg_n19, ↓v_au19, ↓w_v20, ↓tg_n20, ↓v_au20, ↓w_v21, ↓tg_n21, ↓v_au21, ↓w_v22, ↓tg_n22, ↓v_au22, ↓w_v23, ↓tg_n23, ↓v_au23, ↓w_v24, ↓tg_n24, ↓v_au24, ↓w_v25, ↓tg_n25, ↓v_au25, ↓w_cst, ↓w_bin, ↓w_cmp, ↓w_neg, ↓w_not, ↓w_and, ↓w_or, ↓w_ite, ↓w_chn, ↓w_tup, ↓w_lst, ↓w_idx, ↓w_slc, ↓w_call, ↓w_bi, ↓w_fld, ↓w_meth, ↓w_make, ↓w_lc, ↓ws_nil, ↓ws_cons, ↓b_add, ↓b_sub, ↓b_mul, ↓b_fdiv, ↓b_mod, ↓b_pow, ↓b_shl, ↓b_addT, ↓k_lt, ↓k_le, ↓k_gt, ↓k_ge, ↓k_eqI, ↓k_neI, ↓k_eqStr, ↓k_neStr, ↓k_is, ↓k_isnot, ↓k_in, ↓k_notin, ↓isN_non, ↓isN_int, ↓isN_tup, ↓isN_ref, ↓isN_bl, ↓isN_str, ↓t_bl, ↓t_non, ↓t_int, ↓t_tup, ↓ix_t0, ↓ix_t1, ↓ix_t2, ↓ix_r0, ↓ix_r1, ↓ix_r2, ↓sl_tup, ↓sl_ref, ↓po_nil, ↓po_int, ↓f_lenT, ↓f_lenF, ↓f_lenR, ↓f_abs, ↓f_min, ↓f_max, ↓f_intB, ↓f_tupR, ↓f_sumR, ↓f_allR, ↓f_isiII, ↓f_isiIB, ↓f_isiTT, ↓f_isiSS, ↓negS_int, ↓chnS_bl, ↓nonS_non, ↓oSat_some, ↓insS_ref, ↓insS_app, ↓insS_set, ↓lstS_ref, ↓lstS_app, ↓lstS_set, ↓seq_nx, ↓seq_rt, ↓seq_bk, ↓seq_ct, ↓v_nil, ↓v_cons, ↓v_pass, ↓v_exp, ↓v_ret, ↓v_retN, ↓v_brk, ↓v_cnt, ↓v_ife, ↓v_asg, ↓v_asg2, ↓v_par, ↓v_par3, ↓v_ifw, ↓v_app, ↓v_ext, ↓v_augF, ↓v_for, ↓v_whl, ↓tq_fld, ↓tq_sub, ↓tq_tp, ↓tqs_nil, ↓tqs_cons, ↓tupS_tup, ↓pl_0, ↓pl_1, ↓pl_2, ↓g_add, ↓g_sub, ↓turn_nx, ↓turn_ct, ↓turn_bk, ↓turn_rt, ↓end_rt, ↓end_nx, ↓it_rng1, ↓it_rng2, ↓it_seqT, ↓it_seqF, ↓it_seqR, ↓it_enumT, ↓it_zipT, ↓ix_s0, ↓ix_s1, ↓ix_s2, ↓ix_sa0, ↓ix_sa1, ↓ix_sa2, ↓ix_new, ↓f_lenN, ↓f_tupN, ↓f_sumN, ↓f_allN, ↓sat_ok, ↓List.set_set, List.length_set, true_and, and_true, and_self, set_0, set_1, set_2, ↓insS_ref hg, hlt, ca_places, ca_fixed, ca_most, ca_level, ca_size, ca_paid, ca_done, ↓tk_places, ↓tk_fixed, ↓tk_most, ↓tk_level, ↓tk_size, ↓tk_paid, ↓tk_done, tp_fixed, tp_most, tp_level, tp_size, tp_paid, tp_done, tl, ↓cm_push, ↓cm_pop, ↓cm_move, ↓cm_rest, ↓cm_run, tm_push, tm_pop, tm_move, tm_rest, tm_run, ↓f_lenP, ↓ix_pr0, ↓ix_pr1, decide_true, if_true, decide_false, if_false, Bool.false_eq_true, hLi, ↓ix_plc hL0 hp', hc]
        exact fin fun i q hi hq => by
          have : i = L := by omega
          subst this
          rw [hp] at hq
          cases hq
          omega
  · refine ⟨lv, sz, dn, [], rfl, by simp, Nat.le_refl _, fun i h1 h2 => by omega, rfl, ?_⟩
    rw [dnC_same]
    simp only [Int.sub_self, Int.zero_mul, Int.add_zero]
    rw [set_same hn]
end G.K13
set_option maxRecDepth 100000
set_option maxHeartbeats 4000000
namespace G.K13
open PySem G
def wd (b : Bool) : Str := if b then "push" else "pop"
def opD (o : Bool × Int) : D := .tup [.str (wd o.1), .int o.2]
def okOp (o : Bool × Int) : Prop := 1 ≤ o.2 ∧ o.2 ≤ 1000000000000000000
theorem isint_sp {k : Nat} {m : Hs} {c lo hi : Int} (h1 : lo ≤ c) (h2 : c ≤ hi) : callN Dt (k + 1) 0 [.int c, .int lo, .int hi] m = .ok (.bl true) m := by
  refine sat_eq (fn_sat (fn := f_is_integer) rfl rfl [some (.int c), some (.int lo), some (.int hi)] rfl ?_)
  show (evSs _ b_is_integer _ _).sat _
  unfold b_is_integer
  simp only [↓w_v0, ↓tg_n0, ↓v_au0, ↓w_v1, ↓tg_n1, ↓v_au1, ↓w_v2, ↓tg_n2, ↓v_au2, ↓w_v3, ↓tg_n3, ↓v_au3, ↓w_v4, ↓tg_n4, ↓v_au4, ↓w_v5, ↓tg_n5, ↓v_au5, ↓w_v6, ↓tg_n6, ↓v_au6, ↓w_v7, ↓tg_n7, ↓v_au7, ↓w_v8, ↓tg_n8, ↓v_au8, ↓w_v9, ↓tg_n9, ↓v_au9, ↓w_v10, ↓tg_n10, ↓v_au10, ↓w_v11, ↓tg_n11, ↓v_au11, ↓w_v12, ↓tg_n12, ↓v_au12, ↓w_v13, ↓tg_n13, ↓v_au13, ↓w_v14, ↓tg_n14, ↓v_au14, ↓w_v15, ↓tg_n15, ↓v_au15, ↓w_v16, ↓tg_n16, ↓v_au16, ↓w_v17, ↓tg_n17, ↓v_au17, ↓w_v18, ↓tg_n18, ↓v_au18, ↓w_v19, ↓tg_n19, ↓v_au19, ↓w_v20, ↓tg_n20, ↓v_au20, ↓w_v21, ↓tg_n21, ↓v_au21, ↓w_v22, ↓tg_n22, ↓v_au22, ↓w_v23, ↓tg_n23, ↓v_au23, ↓w_v24, ↓tg_n24, ↓v_au24, ↓w_v25, ↓tg_n25, ↓v_au25, ↓w_cst, ↓w_bin, ↓w_cmp, ↓w_neg, ↓w_not, ↓w_and, ↓w_or, ↓w_ite, ↓w_chn, ↓w_tup, ↓w_lst, ↓w_idx, ↓w_slc, ↓w_call, ↓w_bi, ↓w_fld, ↓w_meth, ↓w_make, ↓w_lc, ↓ws_nil, ↓ws_cons, ↓b_add, ↓b_sub, ↓b_mul, ↓b_fdiv, ↓b_mod, ↓b_pow, ↓b_shl, ↓b_addT, ↓k_lt, ↓k_le, ↓k_gt, ↓k_ge, ↓k_eqI, ↓k_neI, ↓k_eqStr, ↓k_neStr, ↓k_is, ↓k_isnot, ↓k_in, ↓k_notin, ↓isN_non, ↓isN_int, ↓isN_tup, ↓isN_ref, ↓isN_bl, ↓isN_str, ↓t_bl, ↓t_non, ↓t_int, ↓t_tup, ↓ix_t0, ↓ix_t1, ↓ix_t2, ↓ix_r0, ↓ix_r1, ↓ix_r2, ↓sl_tup, ↓sl_ref, ↓po_nil, ↓po_int, ↓f_lenT, ↓f_lenF, ↓f_lenR, ↓f_abs, ↓f_min, ↓f_max, ↓f_intB, ↓f_tupR, ↓f_sumR, ↓f_allR, ↓f_isiII, ↓f_isiIB, ↓f_isiTT, ↓f_isiSS, ↓negS_int, ↓chnS_bl, ↓nonS_non, ↓oSat_some, ↓insS_ref, ↓insS_app, ↓insS_set, ↓lstS_ref, ↓lstS_app, ↓lstS_set, ↓seq_nx, ↓seq_rt, ↓seq_bk, ↓seq_ct, ↓v_nil, ↓v_cons, ↓v_pass, ↓v_exp, ↓v_ret, ↓v_retN, ↓v_brk, ↓v_cnt, ↓v_ife, ↓v_asg, ↓v_asg2, ↓v_par, ↓v_par3, ↓v_ifw, ↓v_app, ↓v_ext, ↓v_augF, ↓v_for, ↓v_whl, ↓tq_fld, ↓tq_sub, ↓tq_tp, ↓tqs_nil, ↓tqs_cons, ↓tupS_tup, ↓pl_0, ↓pl_1, ↓pl_2, ↓g_add, ↓g_sub, ↓turn_nx, ↓turn_ct, ↓turn_bk, ↓turn_rt, ↓end_rt, ↓end_nx, ↓it_rng1, ↓it_rng2, ↓it_seqT, ↓it_seqF, ↓it_seqR, ↓it_enumT, ↓it_zipT, ↓ix_s0, ↓ix_s1, ↓ix_s2, ↓ix_sa0, ↓ix_sa1, ↓ix_sa2, ↓ix_new, ↓f_lenN, ↓f_tupN, ↓f_sumN, ↓f_allN, ↓sat_ok, ↓List.set_set, List.length_set, true_and, and_true, and_self, set_0, set_1, set_2, Bool.not_true, if_true, if_false, Bool.false_eq_true, show ¬ c < lo by omega, h2, decide_true, decide_false]
  rw [gc_same rfl]
  simp
theorem in_ops {b : Bool} {m : Hs} : inS (.str (wd b)) (.tup [.str (Str.ofString "push"), .str (Str.ofString "pop")]) m = some true := by
  simp only [inS, itemsOf, flatD, List.all_cons, List.all_nil, Bool.and_self, if_true, List.any_cons, List.any_nil, eqF]
  cases b with
  | true =>
    rw [show wd true = Str.ofString "push" from rfl]
    simp only [decide_true, Bool.true_or]
  | false =>
    rw [show wd false = Str.ofString "pop" from rfl]
    simp only [decide_true, Bool.true_or, Bool.or_true]
theorem isrun_sp {k : Nat} {m : Hs} {o : Bool × Int} (h : okOp o) : callN Dt (k + 2) 4 [opD o] m = .ok (.bl true) m := by
  refine sat_eq (fn_sat (fn := f_is_run) rfl rfl [some (opD o)] rfl ?_)
  show (evSs _ b_is_run _ _).sat _
  unfold b_is_run opD
  simp only [↓w_v0, ↓tg_n0, ↓v_au0, ↓w_v1, ↓tg_n1, ↓v_au1, ↓w_v2, ↓tg_n2, ↓v_au2, ↓w_v3, ↓tg_n3, ↓v_au3, ↓w_v4, ↓tg_n4, ↓v_au4, ↓w_v5, ↓tg_n5, ↓v_au5, ↓w_v6, ↓tg_n6, ↓v_au6, ↓w_v7, ↓tg_n7, ↓v_au7, ↓w_v8, ↓tg_n8, ↓v_au8, ↓w_v9, ↓tg_n9, ↓v_au9, ↓w_v10, ↓tg_n10, ↓v_au10, ↓w_v11, ↓tg_n11, ↓v_au11, ↓w_v12, ↓tg_n12, ↓v_au12, ↓w_v13, ↓tg_n13, ↓v_au13, ↓w_v14, ↓tg_n14, ↓v_au14, ↓w_v15, ↓tg_n15, ↓v_au15, ↓w_v16, ↓tg_n16, ↓v_au16, ↓w_v17, ↓tg_n17, ↓v_au17, ↓w_v18, ↓tg_n18, ↓v_au18, ↓w_v19, ↓tg_n19, ↓v_au19, ↓w_v20, ↓tg_n20, ↓v_au20, ↓w_v21, ↓tg_n21, ↓v_au21, ↓w_v22, ↓tg_n22, ↓v_au22, ↓w_v23, ↓tg_n23, ↓v_au23, ↓w_v24, ↓tg_n24, ↓v_au24, ↓w_v25, ↓tg_n25, ↓v_au25, ↓w_cst, ↓w_bin, ↓w_cmp, ↓w_neg, ↓w_not, ↓w_and, ↓w_or, ↓w_ite, ↓w_chn, ↓w_tup, ↓w_lst, ↓w_idx, ↓w_slc, ↓w_call, ↓w_bi, ↓w_fld, ↓w_meth, ↓w_make, ↓w_lc, ↓ws_nil, ↓ws_cons, ↓b_add, ↓b_sub, ↓b_mul, ↓b_fdiv, ↓b_mod, ↓b_pow, ↓b_shl, ↓b_addT, ↓k_lt, ↓k_le, ↓k_gt, ↓k_ge, ↓k_eqI, ↓k_neI, ↓k_eqStr, ↓k_neStr, ↓k_is, ↓k_isnot, ↓k_in, ↓k_notin, ↓isN_non, ↓isN_int, ↓isN_tup, ↓isN_ref, ↓isN_bl, ↓isN_str, ↓t_bl, ↓t_non, ↓t_int, ↓t_tup, ↓ix_t0, ↓ix_t1, ↓ix_t2, ↓ix_r0, ↓ix_r1, ↓ix_r2, ↓sl_tup, ↓sl_ref, ↓po_nil, ↓po_int, ↓f_lenT, ↓f_lenF, ↓f_lenR, ↓f_abs, ↓f_min, ↓f_max, ↓f_intB, ↓f_tupR, ↓f_sumR, ↓f_allR, ↓f_isiII, ↓f_isiIB, ↓f_isiTT, ↓f_isiSS, ↓negS_int, ↓chnS_bl, ↓nonS_non, ↓oSat_some, ↓insS_ref, ↓insS_app, ↓insS_set, ↓lstS_ref, ↓lstS_app, ↓lstS_set, ↓seq_nx, ↓seq_rt, ↓seq_bk, ↓seq_ct, ↓v_nil, ↓v_cons, ↓v_pass, ↓v_exp, ↓v_ret, ↓v_retN, ↓v_brk, ↓v_cnt, ↓v_ife, ↓v_asg, ↓v_asg2, ↓v_par, ↓v_par3, ↓v_ifw, ↓v_app, ↓v_ext, ↓v_augF, ↓v_for, ↓v_whl, ↓tq_fld, ↓tq_sub, ↓tq_tp, ↓tqs_nil, ↓tqs_cons, ↓tupS_tup, ↓pl_0, ↓pl_1, ↓pl_2, ↓g_add, ↓g_sub, ↓turn_nx, ↓turn_ct, ↓turn_bk, ↓turn_rt, ↓end_rt, ↓end_nx, ↓it_rng1, ↓it_rng2, ↓it_seqT, ↓it_seqF, ↓it_seqR, ↓it_enumT, ↓it_zipT, ↓ix_s0, ↓ix_s1, ↓ix_s2, ↓ix_sa0, ↓ix_sa1, ↓ix_sa2, ↓ix_new, ↓f_lenN, ↓f_tupN, ↓f_sumN, ↓f_allN, ↓sat_ok, ↓List.set_set, List.length_set, true_and, and_true, and_self, set_0, set_1, set_2, Bool.not_true, if_true, if_false, Bool.false_eq_true, in_ops, isint_sp h.1 h.2, List.length_cons, List.length_nil, show (!(((0 + 1 + 1 : Nat) : Int) == 2)) = false by decide]
  refine ⟨(show 2 ≤ sizeLine by decide), ?_⟩
  rw [gc_same rfl]
  simp
theorem boolsOf_true : ∀ n, boolsOf (List.replicate n (.bl true)) = some (List.replicate n true)
  | 0 => rfl
  | n + 1 => by simp [List.replicate_succ, boolsOf, boolsOf_true n]
theorem ops_sp {k : Nat} {m : Hs} {os : List (Bool × Int)} (h : ∀ o, o ∈ os → okOp o) (hl : os.length ≤ 200) : callN Dt (k + 3) 5 [.tup (os.map opD)] m = .ok (.bl true) m := by
  refine sat_eq (fn_sat (fn := f_are_operations) rfl rfl [some (.tup (os.map opD)), none] rfl ?_)
  show (evSs _ b_are_operations _ _).sat _
  unfold b_are_operations
  simp only [↓w_v0, ↓tg_n0, ↓v_au0, ↓w_v1, ↓tg_n1, ↓v_au1, ↓w_v2, ↓tg_n2, ↓v_au2, ↓w_v3, ↓tg_n3, ↓v_au3, ↓w_v4, ↓tg_n4, ↓v_au4, ↓w_v5, ↓tg_n5, ↓v_au5, ↓w_v6, ↓tg_n6, ↓v_au6, ↓w_v7, ↓tg_n7, ↓v_au7, ↓w_v8, ↓tg_n8, ↓v_au8, ↓w_v9, ↓tg_n9, ↓v_au9, ↓w_v10, ↓tg_n10, ↓v_au10, ↓w_v11, ↓tg_n11, ↓v_au11, ↓w_v12, ↓tg_n12, ↓v_au12, ↓w_v13, ↓tg_n13, ↓v_au13, ↓w_v14, ↓tg_n14, ↓v_au14, ↓w_v15, ↓tg_n15, ↓v_au15, ↓w_v16, ↓tg_n16, ↓v_au16, ↓w_v17, ↓tg_n17, ↓v_au17, ↓w_v18, ↓tg_n18, ↓v_au18, ↓w_v19, ↓tg_n19, ↓v_au19, ↓w_v20, ↓tg_n20, ↓v_au20, ↓w_v21, ↓tg_n21, ↓v_au21, ↓w_v22, ↓tg_n22, ↓v_au22, ↓w_v23, ↓tg_n23, ↓v_au23, ↓w_v24, ↓tg_n24, ↓v_au24, ↓w_v25, ↓tg_n25, ↓v_au25, ↓w_cst, ↓w_bin, ↓w_cmp, ↓w_neg, ↓w_not, ↓w_and, ↓w_or, ↓w_ite, ↓w_chn, ↓w_tup, ↓w_lst, ↓w_idx, ↓w_slc, ↓w_call, ↓w_bi, ↓w_fld, ↓w_meth, ↓w_make, ↓w_lc, ↓ws_nil, ↓ws_cons, ↓b_add, ↓b_sub, ↓b_mul, ↓b_fdiv, ↓b_mod, ↓b_pow, ↓b_shl, ↓b_addT, ↓k_lt, ↓k_le, ↓k_gt, ↓k_ge, ↓k_eqI, ↓k_neI, ↓k_eqStr, ↓k_neStr, ↓k_is, ↓k_isnot, ↓k_in, ↓k_notin, ↓isN_non, ↓isN_int, ↓isN_tup, ↓isN_ref, ↓isN_bl, ↓isN_str, ↓t_bl, ↓t_non, ↓t_int, ↓t_tup, ↓ix_t0, ↓ix_t1, ↓ix_t2, ↓ix_r0, ↓ix_r1, ↓ix_r2, ↓sl_tup, ↓sl_ref, ↓po_nil, ↓po_int, ↓f_lenT, ↓f_lenF, ↓f_lenR, ↓f_abs, ↓f_min, ↓f_max, ↓f_intB, ↓f_tupR, ↓f_sumR, ↓f_allR, ↓f_isiII, ↓f_isiIB, ↓f_isiTT, ↓f_isiSS, ↓negS_int, ↓chnS_bl, ↓nonS_non, ↓oSat_some, ↓insS_ref, ↓insS_app, ↓insS_set, ↓lstS_ref, ↓lstS_app, ↓lstS_set, ↓seq_nx, ↓seq_rt, ↓seq_bk, ↓seq_ct, ↓v_nil, ↓v_cons, ↓v_pass, ↓v_exp, ↓v_ret, ↓v_retN, ↓v_brk, ↓v_cnt, ↓v_ife, ↓v_asg, ↓v_asg2, ↓v_par, ↓v_par3, ↓v_ifw, ↓v_app, ↓v_ext, ↓v_augF, ↓v_for, ↓v_whl, ↓tq_fld, ↓tq_sub, ↓tq_tp, ↓tqs_nil, ↓tqs_cons, ↓tupS_tup, ↓pl_0, ↓pl_1, ↓pl_2, ↓g_add, ↓g_sub, ↓turn_nx, ↓turn_ct, ↓turn_bk, ↓turn_rt, ↓end_rt, ↓end_nx, ↓it_rng1, ↓it_rng2, ↓it_seqT, ↓it_seqF, ↓it_seqR, ↓it_enumT, ↓it_zipT, ↓ix_s0, ↓ix_s1, ↓ix_s2, ↓ix_sa0, ↓ix_sa1, ↓ix_sa2, ↓ix_new, ↓f_lenN, ↓f_tupN, ↓f_sumN, ↓f_allN, ↓sat_ok, ↓List.set_set, List.length_set, true_and, and_true, and_self, set_0, set_1, set_2, if_true, List.length_map, show (os.length : Int) ≤ 200 by omega, decide_true]
  rw [lcL_pure (fun _ => some (.bl true)) (fun _ => rfl) _ _ ?_ ?_]
  · rw [show (os.map opD).filterMap (fun _ => some (D.bl true)) = List.replicate os.length (.bl true) by
      clear h hl
      induction os with
      | nil => rfl
      | cons o os ih => simp [List.replicate_succ, ih]]
    simp only [↓w_v0, ↓tg_n0, ↓v_au0, ↓w_v1, ↓tg_n1, ↓v_au1, ↓w_v2, ↓tg_n2, ↓v_au2, ↓w_v3, ↓tg_n3, ↓v_au3, ↓w_v4, ↓tg_n4, ↓v_au4, ↓w_v5, ↓tg_n5, ↓v_au5, ↓w_v6, ↓tg_n6, ↓v_au6, ↓w_v7, ↓tg_n7, ↓v_au7, ↓w_v8, ↓tg_n8, ↓v_au8, ↓w_v9, ↓tg_n9, ↓v_au9, ↓w_v10, ↓tg_n10, ↓v_au10, ↓w_v11, ↓tg_n11, ↓v_au11, ↓w_v12, ↓tg_n12, ↓v_au12, ↓w_v13, ↓tg_n13, ↓v_au13, ↓w_v14, ↓tg_n14, ↓v_au14, ↓w_v15, ↓tg_n15, ↓v_au15, ↓w_v16, ↓tg_n16, ↓v_au16, ↓w_v17, ↓tg_n17, ↓v_au17, ↓w_v18, ↓tg_n18, ↓v_au18, ↓w_v19, ↓tg_n19, ↓v_au19, ↓w_v20, ↓tg_n20, ↓v_au20, ↓w_v21, ↓tg_n21, ↓v_au21, ↓w_v22, ↓tg_n22, ↓v_au22, ↓w_v23, ↓tg_n23, ↓v_au23, ↓w_v24, ↓tg_n24, ↓v_au24, ↓w_v25, ↓tg_n25, ↓v_au25, ↓w_cst, ↓w_bin, ↓w_cmp, ↓w_neg, ↓w_not, ↓w_and, ↓w_or, ↓w_ite, ↓w_chn, ↓w_tup, ↓w_lst, ↓w_idx, ↓w_slc, ↓w_call, ↓w_bi, ↓w_fld, ↓w_meth, ↓w_make, ↓w_lc, ↓ws_nil, ↓ws_cons, ↓b_add, ↓b_sub, ↓b_mul, ↓b_fdiv, ↓b_mod, ↓b_pow, ↓b_shl, ↓b_addT, ↓k_lt, ↓k_le, ↓k_gt, ↓k_ge, ↓k_eqI, ↓k_neI, ↓k_eqStr, ↓k_neStr, ↓k_is, ↓k_isnot, ↓k_in, ↓k_notin, ↓isN_non, ↓isN_int, ↓isN_tup, ↓isN_ref, ↓isN_bl, ↓isN_str, ↓t_bl, ↓t_non, ↓t_int, ↓t_tup, ↓ix_t0, ↓ix_t1, ↓ix_t2, ↓ix_r0, ↓ix_r1, ↓ix_r2, ↓sl_tup, ↓sl_ref, ↓po_nil, ↓po_int, ↓f_lenT, ↓f_lenF, ↓f_lenR, ↓f_abs, ↓f_min, ↓f_max, ↓f_intB, ↓f_tupR, ↓f_sumR, ↓f_allR, ↓f_isiII, ↓f_isiIB, ↓f_isiTT, ↓f_isiSS, ↓negS_int, ↓chnS_bl, ↓nonS_non, ↓oSat_some, ↓insS_ref, ↓insS_app, ↓insS_set, ↓lstS_ref, ↓lstS_app, ↓lstS_set, ↓seq_nx, ↓seq_rt, ↓seq_bk, ↓seq_ct, ↓v_nil, ↓v_cons, ↓v_pass, ↓v_exp, ↓v_ret, ↓v_retN, ↓v_brk, ↓v_cnt, ↓v_ife, ↓v_asg, ↓v_asg2, ↓v_par, ↓v_par3, ↓v_ifw, ↓v_app, ↓v_ext, ↓v_augF, ↓v_for, ↓v_whl, ↓tq_fld, ↓tq_sub, ↓tq_tp, ↓tqs_nil, ↓tqs_cons, ↓tupS_tup, ↓pl_0, ↓pl_1, ↓pl_2, ↓g_add, ↓g_sub, ↓turn_nx, ↓turn_ct, ↓turn_bk, ↓turn_rt, ↓end_rt, ↓end_nx, ↓it_rng1, ↓it_rng2, ↓it_seqT, ↓it_seqF, ↓it_seqR, ↓it_enumT, ↓it_zipT, ↓ix_s0, ↓ix_s1, ↓ix_s2, ↓ix_sa0, ↓ix_sa1, ↓ix_sa2, ↓ix_new, ↓f_lenN, ↓f_tupN, ↓f_sumN, ↓f_allN, ↓sat_ok, ↓List.set_set, List.length_set, true_and, and_true, and_self, set_0, set_1, set_2, List.nil_append, boolsOf_true]
    rw [gc_pure rfl]
    simp
  · intro x hx acc
    rw [List.mem_map] at hx
    obtain ⟨o, ho, rfl⟩ := hx
    refine lcU_sat (r2 := [some (.tup (os.map opD)), some (opD o)]) rfl ?_
    simp only [↓w_v0, ↓tg_n0, ↓v_au0, ↓w_v1, ↓tg_n1, ↓v_au1, ↓w_v2, ↓tg_n2, ↓v_au2, ↓w_v3, ↓tg_n3, ↓v_au3, ↓w_v4, ↓tg_n4, ↓v_au4, ↓w_v5, ↓tg_n5, ↓v_au5, ↓w_v6, ↓tg_n6, ↓v_au6, ↓w_v7, ↓tg_n7, ↓v_au7, ↓w_v8, ↓tg_n8, ↓v_au8, ↓w_v9, ↓tg_n9, ↓v_au9, ↓w_v10, ↓tg_n10, ↓v_au10, ↓w_v11, ↓tg_n11, ↓v_au11, ↓w_v12, ↓tg_n12, ↓v_au12, ↓w_v13, ↓tg_n13, ↓v_au13, ↓w_v14, ↓tg_n14, ↓v_au14, ↓w_v15, ↓tg_n15, ↓v_au15, ↓w_v16, ↓tg_n16, ↓v_au16, ↓w_v17, ↓tg_n17, ↓v_au17, ↓w_v18, ↓tg_n18, ↓v_au18, ↓w_v19, ↓tg_n19, ↓v_au19, ↓w_v20, ↓tg_n20, ↓v_au20, ↓w_v21, ↓tg_n21, ↓v_au21, ↓w_v22, ↓tg_n22, ↓v_au22, ↓w_v23, ↓tg_n23, ↓v_au23, ↓w_v24, ↓tg_n24, ↓v_au24, ↓w_v25, ↓tg_n25, ↓v_au25, ↓w_cst, ↓w_bin, ↓w_cmp, ↓w_neg, ↓w_not, ↓w_and, ↓w_or, ↓w_ite, ↓w_chn, ↓w_tup, ↓w_lst, ↓w_idx, ↓w_slc, ↓w_call, ↓w_bi, ↓w_fld, ↓w_meth, ↓w_make, ↓w_lc, ↓ws_nil, ↓ws_cons, ↓b_add, ↓b_sub, ↓b_mul, ↓b_fdiv, ↓b_mod, ↓b_pow, ↓b_shl, ↓b_addT, ↓k_lt, ↓k_le, ↓k_gt, ↓k_ge, ↓k_eqI, ↓k_neI, ↓k_eqStr, ↓k_neStr, ↓k_is, ↓k_isnot, ↓k_in, ↓k_notin, ↓isN_non, ↓isN_int, ↓isN_tup, ↓isN_ref, ↓isN_bl, ↓isN_str, ↓t_bl, ↓t_non, ↓t_int, ↓t_tup, ↓ix_t0, ↓ix_t1, ↓ix_t2, ↓ix_r0, ↓ix_r1, ↓ix_r2, ↓sl_tup, ↓sl_ref, ↓po_nil, ↓po_int, ↓f_lenT, ↓f_lenF, ↓f_lenR, ↓f_abs, ↓f_min, ↓f_max, ↓f_intB, ↓f_tupR, ↓f_sumR, ↓f_allR, ↓f_isiII, ↓f_isiIB, ↓f_isiTT, ↓f_isiSS, ↓negS_int, ↓chnS_bl, ↓nonS_non, ↓oSat_some, ↓insS_ref, ↓insS_app, ↓insS_set, ↓lstS_ref, ↓lstS_app, ↓lstS_set, ↓seq_nx, ↓seq_rt, ↓seq_bk, ↓seq_ct, ↓v_nil, ↓v_cons, ↓v_pass, ↓v_exp, ↓v_ret, ↓v_retN, ↓v_brk, ↓v_cnt, ↓v_ife, ↓v_asg, ↓v_asg2, ↓v_par, ↓v_par3, ↓v_ifw, ↓v_app, ↓v_ext, ↓v_augF, ↓v_for, ↓v_whl, ↓tq_fld, ↓tq_sub, ↓tq_tp, ↓tqs_nil, ↓tqs_cons, ↓tupS_tup, ↓pl_0, ↓pl_1, ↓pl_2, ↓g_add, ↓g_sub, ↓turn_nx, ↓turn_ct, ↓turn_bk, ↓turn_rt, ↓end_rt, ↓end_nx, ↓it_rng1, ↓it_rng2, ↓it_seqT, ↓it_seqF, ↓it_seqR, ↓it_enumT, ↓it_zipT, ↓ix_s0, ↓ix_s1, ↓ix_s2, ↓ix_sa0, ↓ix_sa1, ↓ix_sa2, ↓ix_new, ↓f_lenN, ↓f_tupN, ↓f_sumN, ↓f_allN, ↓sat_ok, ↓List.set_set, List.length_set, true_and, and_true, and_self, set_0, set_1, set_2, testsOf, if_true, isrun_sp (h o ho)]
  · simp only [List.length_nil, List.length_map]
    exact Nat.le_trans (show 0 + os.length ≤ 200 by omega) (by decide)
theorem check_sp {k : Nat} {m : Hs} {os : List (Bool × Int)} (h : ∀ o, o ∈ os → okOp o) (hl : os.length ≤ 200) : callN Dt (k + 4) 6 [.tup (os.map opD)] m = .ok .non m := by
  refine sat_eq (fn_sat (fn := f_check_operations) rfl rfl [some (.tup (os.map opD))] rfl ?_)
  show (evSs _ b_check_operations _ _).sat _
  unfold b_check_operations
  simp only [↓w_v0, ↓tg_n0, ↓v_au0, ↓w_v1, ↓tg_n1, ↓v_au1, ↓w_v2, ↓tg_n2, ↓v_au2, ↓w_v3, ↓tg_n3, ↓v_au3, ↓w_v4, ↓tg_n4, ↓v_au4, ↓w_v5, ↓tg_n5, ↓v_au5, ↓w_v6, ↓tg_n6, ↓v_au6, ↓w_v7, ↓tg_n7, ↓v_au7, ↓w_v8, ↓tg_n8, ↓v_au8, ↓w_v9, ↓tg_n9, ↓v_au9, ↓w_v10, ↓tg_n10, ↓v_au10, ↓w_v11, ↓tg_n11, ↓v_au11, ↓w_v12, ↓tg_n12, ↓v_au12, ↓w_v13, ↓tg_n13, ↓v_au13, ↓w_v14, ↓tg_n14, ↓v_au14, ↓w_v15, ↓tg_n15, ↓v_au15, ↓w_v16, ↓tg_n16, ↓v_au16, ↓w_v17, ↓tg_n17, ↓v_au17, ↓w_v18, ↓tg_n18, ↓v_au18, ↓w_v19, ↓tg_n19, ↓v_au19, ↓w_v20, ↓tg_n20, ↓v_au20, ↓w_v21, ↓tg_n21, ↓v_au21, ↓w_v22, ↓tg_n22, ↓v_au22, ↓w_v23, ↓tg_n23, ↓v_au23, ↓w_v24, ↓tg_n24, ↓v_au24, ↓w_v25, ↓tg_n25, ↓v_au25, ↓w_cst, ↓w_bin, ↓w_cmp, ↓w_neg, ↓w_not, ↓w_and, ↓w_or, ↓w_ite, ↓w_chn, ↓w_tup, ↓w_lst, ↓w_idx, ↓w_slc, ↓w_call, ↓w_bi, ↓w_fld, ↓w_meth, ↓w_make, ↓w_lc, ↓ws_nil, ↓ws_cons, ↓b_add, ↓b_sub, ↓b_mul, ↓b_fdiv, ↓b_mod, ↓b_pow, ↓b_shl, ↓b_addT, ↓k_lt, ↓k_le, ↓k_gt, ↓k_ge, ↓k_eqI, ↓k_neI, ↓k_eqStr, ↓k_neStr, ↓k_is, ↓k_isnot, ↓k_in, ↓k_notin, ↓isN_non, ↓isN_int, ↓isN_tup, ↓isN_ref, ↓isN_bl, ↓isN_str, ↓t_bl, ↓t_non, ↓t_int, ↓t_tup, ↓ix_t0, ↓ix_t1, ↓ix_t2, ↓ix_r0, ↓ix_r1, ↓ix_r2, ↓sl_tup, ↓sl_ref, ↓po_nil, ↓po_int, ↓f_lenT, ↓f_lenF, ↓f_lenR, ↓f_abs, ↓f_min, ↓f_max, ↓f_intB, ↓f_tupR, ↓f_sumR, ↓f_allR, ↓f_isiII, ↓f_isiIB, ↓f_isiTT, ↓f_isiSS, ↓negS_int, ↓chnS_bl, ↓nonS_non, ↓oSat_some, ↓insS_ref, ↓insS_app, ↓insS_set, ↓lstS_ref, ↓lstS_app, ↓lstS_set, ↓seq_nx, ↓seq_rt, ↓seq_bk, ↓seq_ct, ↓v_nil, ↓v_cons, ↓v_pass, ↓v_exp, ↓v_ret, ↓v_retN, ↓v_brk, ↓v_cnt, ↓v_ife, ↓v_asg, ↓v_asg2, ↓v_par, ↓v_par3, ↓v_ifw, ↓v_app, ↓v_ext, ↓v_augF, ↓v_for, ↓v_whl, ↓tq_fld, ↓tq_sub, ↓tq_tp, ↓tqs_nil, ↓tqs_cons, ↓tupS_tup, ↓pl_0, ↓pl_1, ↓pl_2, ↓g_add, ↓g_sub, ↓turn_nx, ↓turn_ct, ↓turn_bk, ↓turn_rt, ↓end_rt, ↓end_nx, ↓it_rng1, ↓it_rng2, ↓it_seqT, ↓it_seqF, ↓it_seqR, ↓it_enumT, ↓it_zipT, ↓ix_s0, ↓ix_s1, ↓ix_s2, ↓ix_sa0, ↓ix_sa1, ↓ix_sa2, ↓ix_new, ↓f_lenN, ↓f_tupN, ↓f_sumN, ↓f_allN, ↓sat_ok, ↓List.set_set, List.length_set, true_and, and_true, and_self, set_0, set_1, set_2, ops_sp h hl, Bool.not_true, Bool.false_eq_true, if_false]
  rw [gc_same rfl]
  simp
/-- level, size, paid -/
abbrev St := Nat × Int × Int
def Step (P : List (Int × Int)) (fx : Int) (s : St) (o : Bool × Int) (t : St) : Prop := match o with
  | (true, c) => s.1 ≤ t.1 ∧ t.1 ≤ P.length ∧ t.2.1 = s.2.1 + c ∧ (∀ i, s.1 ≤ i → i < t.1 → ∀ p, P[i]? = some p → p.1 < s.2.1 + c) ∧ (∀ p, P[t.1]? = some p → s.2.1 + c ≤ p.1) ∧ t.2.2 = s.2.2 + upC P s.1 t.1 + (t.1 - s.1 : Int) * fx
  | (false, c) => t.1 ≤ s.1 ∧ t.2.1 = s.2.1 - c ∧ (∀ i, t.1 ≤ i → i < s.1 → ∀ p, P[i]? = some p → s.2.1 - c ≤ p.2) ∧ (∀ i p, t.1 = i + 1 → P[i]? = some p → p.2 < s.2.1 - c) ∧ t.2.2 = s.2.2 + dnC P t.1 s.1 + (s.1 - t.1 : Int) * fx
def goes (mo : Int) (sz : Int) (o : Bool × Int) : Prop := match o with
  | (true, c) => sz + c ≤ mo
  | (false, c) => c ≤ sz
theorem run_sp {k n : Nat} {P : List (Int × Int)} {fx mo sz pd dn : Int} {lv : Nat} {o : Bool × Int} {m : Hs} (hn : m[n]? = some (.ins 0 (trk P fx mo lv sz pd dn))) (hP : P.length ≤ 1000) (hlv : lv ≤ P.length) (hg : goes mo sz o) :
    (callN Dt (k + 3) 12 [.ref n, .str (wd o.1), .int o.2] m).sat fun d m' => d = .ref m.length ∧ ∃ (t : St) (dn' : Int) (f : List D), f.length ≤ 1000 ∧ t.1 ≤ P.length ∧ Step P fx (lv, sz, pd) o t ∧ m' = m.set n (.ins 0 (trk P fx mo t.1 t.2.1 t.2.2 dn')) ++ [.lst f] := by
  refine fn_sat (fn := f_Track_run) rfl rfl [some (.ref n), some (.str (wd o.1)), some (.int o.2)] rfl ?_
  show (evSs _ b_Track_run _ _).sat _
  unfold b_Track_run
  obtain ⟨b, c⟩ := o
  cases b with
  | true =>
    simp only [goes] at hg
    rw [show wd (true, c).1 = Str.ofString "push" from rfl]
    simp only [↓w_v0, ↓tg_n0, ↓v_au0, ↓w_v1, ↓tg_n1, ↓v_au1, ↓w_v2, ↓tg_n2, ↓v_au2, ↓w_v3, ↓tg_n3, ↓v_au3, ↓w_v4, ↓tg_n4, ↓v_au4, ↓w_v5, ↓tg_n5, ↓v_au5, ↓w_v6, ↓tg_n6, ↓v_au6, ↓w_v7, ↓tg_n7, ↓v_au7, ↓w_v8, ↓tg_n8, ↓v_au8, ↓w_v9, ↓tg_n9, ↓v_au9, ↓w_v10, ↓tg_n10, ↓v_au10, ↓w_v11, ↓tg_n11, ↓v_au11, ↓w_v12, ↓tg_n12, ↓v_au12, ↓w_v13, ↓tg_n13, ↓v_au13, ↓w_v14, ↓tg_n14, ↓v_au14, ↓w_v15, ↓tg_n15, ↓v_au15, ↓w_v16, ↓tg_n16, ↓v_au16, ↓w_v17, ↓tg_n17, ↓v_au17, ↓w_v18, ↓tg_n18, ↓v_au18, ↓w_v19, ↓tg_n19, ↓v_au19, ↓w_v20, ↓tg_n20, ↓v_au20, ↓w_v21, ↓tg_n21, ↓v_au21, ↓w_v22, ↓tg_n22, ↓v_au22, ↓w_v23, ↓tg_n23, ↓v_au23, ↓w_v24, ↓tg_n24, ↓v_au24, ↓w_v25, ↓tg_n25, ↓v_au25, ↓w_cst, ↓w_bin, ↓w_cmp, ↓w_neg, ↓w_not, ↓w_and, ↓w_or, ↓w_ite, ↓w_chn, ↓w_tup, ↓w_lst, ↓w_idx, ↓w_slc, ↓w_call, ↓w_bi, ↓w_fld, ↓w_meth, ↓w_make, ↓w_lc, ↓ws_nil, ↓ws_cons, ↓b_add, ↓b_sub, ↓b_mul, ↓b_fdiv, ↓b_mod, ↓b_pow, ↓b_shl, ↓b_addT, ↓k_lt, ↓k_le, ↓k_gt, ↓k_ge, ↓k_eqI, ↓k_neI, ↓k_eqStr, ↓k_neStr, ↓k_is, ↓k_isnot, ↓k_in, ↓k_notin, ↓isN_non, ↓isN_int, ↓isN_tup, ↓isN_ref, ↓isN_bl, ↓isN_str, ↓t_bl, ↓t_non, ↓t_int, ↓t_tup, ↓ix_t0, ↓ix_t1, ↓ix_t2, ↓ix_r0, ↓ix_r1, ↓ix_r2, ↓sl_tup, ↓sl_ref, ↓po_nil, ↓po_int, ↓f_lenT, ↓f_lenF, ↓f_lenR, ↓f_abs, ↓f_min, ↓f_max, ↓f_intB, ↓f_tupR, ↓f_sumR, ↓f_allR, ↓f_isiII, ↓f_isiIB, ↓f_isiTT, ↓f_isiSS, ↓negS_int, ↓chnS_bl, ↓nonS_non, ↓oSat_some, ↓insS_ref, ↓insS_app, ↓insS_set, ↓lstS_ref, ↓lstS_app, ↓lstS_set, ↓seq_nx, ↓seq_rt, ↓seq_bk, ↓seq_ct, ↓v_nil, ↓v_cons, ↓v_pass, ↓v_exp, ↓v_ret, ↓v_retN, ↓v_brk, ↓v_cnt, ↓v_ife, ↓v_asg, ↓v_asg2, ↓v_par, ↓v_par3, ↓v_ifw, ↓v_app, ↓v_ext, ↓v_augF, ↓v_for, ↓v_whl, ↓tq_fld, ↓tq_sub, ↓tq_tp, ↓tqs_nil, ↓tqs_cons, ↓tupS_tup, ↓pl_0, ↓pl_1, ↓pl_2, ↓g_add, ↓g_sub, ↓turn_nx, ↓turn_ct, ↓turn_bk, ↓turn_rt, ↓end_rt, ↓end_nx, ↓it_rng1, ↓it_rng2, ↓it_seqT, ↓it_seqF, ↓it_seqR, ↓it_enumT, ↓it_zipT, ↓ix_s0, ↓ix_s1, ↓ix_s2, ↓ix_sa0, ↓ix_sa1, ↓ix_sa2, ↓ix_new, ↓f_lenN, ↓f_tupN, ↓f_sumN, ↓f_allN, ↓sat_ok, ↓List.set_set, List.length_set, true_and, and_true, and_self, set_0, set_1, set_2, ↓insS_ref hn, ca_places, ca_fixed, ca_most, ca_level, ca_size, ca_paid, ca_done, ↓tk_places, ↓tk_fixed, ↓tk_most, ↓tk_level, ↓tk_size, ↓tk_paid, ↓tk_done, tp_fixed, tp_most, tp_level, tp_size, tp_paid, tp_done, tl, ↓cm_push, ↓cm_pop, ↓cm_move, ↓cm_rest, ↓cm_run, tm_push, tm_pop, tm_move, tm_rest, tm_run, ↓f_lenP, ↓ix_pr0, ↓ix_pr1, decide_true, if_true, decide_false, if_false, Bool.false_eq_true, hg]
    refine (push_sp hn hP hlv).imp ?_
    rintro d m1 ⟨rfl, L, dn', f, h1, h2, h3, h4, h5, rfl⟩
    rw [gc_new (by simp [below])]
    exact ⟨rfl, (L, sz + c, _), dn', f, h1, h3, ⟨h2, h3, rfl, h4, h5, rfl⟩, rfl⟩
  | false =>
    simp only [goes] at hg
    rw [show wd (false, c).1 = Str.ofString "pop" from rfl]
    simp only [↓w_v0, ↓tg_n0, ↓v_au0, ↓w_v1, ↓tg_n1, ↓v_au1, ↓w_v2, ↓tg_n2, ↓v_au2, ↓w_v3, ↓tg_n3, ↓v_au3, ↓w_v4, ↓tg_n4, ↓v_au4, ↓w_v5, ↓tg_n5, ↓v_au5, ↓w_v6, ↓tg_n6, ↓v_au6, ↓w_v7, ↓tg_n7, ↓v_au7, ↓w_v8, ↓tg_n8, ↓v_au8, ↓w_v9, ↓tg_n9, ↓v_au9, ↓w_v10, ↓tg_n10, ↓v_au10, ↓w_v11, ↓tg_n11, ↓v_au11, ↓w_v12, ↓tg_n12, ↓v_au12, ↓w_v13, ↓tg_n13, ↓v_au13, ↓w_v14, ↓tg_n14, ↓v_au14, ↓w_v15, ↓tg_n15, ↓v_au15, ↓w_v16, ↓tg_n16, ↓v_au16, ↓w_v17, ↓tg_n17, ↓v_au17, ↓w_v18, ↓tg_n18, ↓v_au18, ↓w_v19, ↓tg_n19, ↓v_au19, ↓w_v20, ↓tg_n20, ↓v_au20, ↓w_v21, ↓tg_n21, ↓v_au21, ↓w_v22, ↓tg_n22, ↓v_au22, ↓w_v23, ↓tg_n23, ↓v_au23, ↓w_v24, ↓tg_n24, ↓v_au24, ↓w_v25, ↓tg_n25, ↓v_au25, ↓w_cst, ↓w_bin, ↓w_cmp, ↓w_neg, ↓w_not, ↓w_and, ↓w_or, ↓w_ite, ↓w_chn, ↓w_tup, ↓w_lst, ↓w_idx, ↓w_slc, ↓w_call, ↓w_bi, ↓w_fld, ↓w_meth, ↓w_make, ↓w_lc, ↓ws_nil, ↓ws_cons, ↓b_add, ↓b_sub, ↓b_mul, ↓b_fdiv, ↓b_mod, ↓b_pow, ↓b_shl, ↓b_addT, ↓k_lt, ↓k_le, ↓k_gt, ↓k_ge, ↓k_eqI, ↓k_neI, ↓k_eqStr, ↓k_neStr, ↓k_is, ↓k_isnot, ↓k_in, ↓k_notin, ↓isN_non, ↓isN_int, ↓isN_tup, ↓isN_ref, ↓isN_bl, ↓isN_str, ↓t_bl, ↓t_non, ↓t_int, ↓t_tup, ↓ix_t0, ↓ix_t1, ↓ix_t2, ↓ix_r0, ↓ix_r1, ↓ix_r2, ↓sl_tup, ↓sl_ref, ↓po_nil, ↓po_int, ↓f_lenT, ↓f_lenF, ↓f_lenR, ↓f_abs, ↓f_min, ↓f_max, ↓f_intB, ↓f_tupR, ↓f_sumR, ↓f_allR, ↓f_isiII, ↓f_isiIB, ↓f_isiTT, ↓f_isiSS, ↓negS_int, ↓chnS_bl, ↓nonS_non, ↓oSat_some, ↓insS_ref, ↓insS_app, ↓insS_set, ↓lstS_ref, ↓lstS_app, ↓lstS_set, ↓seq_nx, ↓seq_rt, ↓seq_bk, ↓seq_ct, ↓v_nil, ↓v_cons, ↓v_pass, ↓v_exp, ↓v_ret, ↓v_retN, ↓v_brk, ↓v_cnt, ↓v_ife, ↓v_asg, ↓v_asg2, ↓v_par, ↓v_par3, ↓v_ifw, ↓v_app, ↓v_ext, ↓v_augF, ↓v_for, ↓v_whl, ↓tq_fld, ↓tq_sub, ↓tq_tp, ↓tqs_nil, ↓tqs_cons, ↓tupS_tup, ↓pl_0, ↓pl_1, ↓pl_2, ↓g_add, ↓g_sub, ↓turn_nx, ↓turn_ct, ↓turn_bk, ↓turn_rt, ↓end_rt, ↓end_nx, ↓it_rng1, ↓it_rng2, ↓it_seqT, ↓it_seqF, ↓it_seqR, ↓it_enumT, ↓it_zipT, ↓ix_s0, ↓ix_s1, ↓ix_s2, ↓ix_sa0, ↓ix_sa1, ↓ix_sa2, ↓ix_new, ↓f_lenN, ↓f_tupN, ↓f_sumN, ↓f_allN, ↓sat_ok, ↓List.set_set, List.length_set, true_and, and_true, and_self, set_0, set_1, set_2, ↓insS_ref hn, ca_places, ca_fixed, ca_most, ca_level, ca_size, ca_paid, ca_done, ↓tk_places, ↓tk_fixed, ↓tk_most, ↓tk_level, ↓tk_size, ↓tk_paid, ↓tk_done, tp_fixed, tp_most, tp_level, tp_size, tp_paid, tp_done, tl, ↓cm_push, ↓cm_pop, ↓cm_move, ↓cm_rest, ↓cm_run, tm_push, tm_pop, tm_move, tm_rest, tm_run, ↓f_lenP, ↓ix_pr0, ↓ix_pr1, decide_true, if_true, decide_false, if_false, Bool.false_eq_true, hg, show ¬ (Str.ofString "pop" = Str.ofString "push") by decide +kernel]
    refine (pop_sp hn hP hlv).imp ?_
    rintro d m1 ⟨rfl, L, dn', f, h1, h2, h4, h5, rfl⟩
    rw [gc_new (by simp [below])]
    exact ⟨rfl, (L, sz - c, _), dn', f, h1, by simp only; omega, ⟨h2, rfl, h4, h5, rfl⟩, rfl⟩
def Runs (P : List (Int × Int)) (fx : Int) : St → List (Bool × Int) → St → Prop
  | s, [], t => s = t
  | s, o :: os, t => ∃ u, Step P fx s o u ∧ Runs P fx u os t
def goesAll (mo : Int) : Int → List (Bool × Int) → Prop
  | _, [] => True
  | sz, o :: os => goes mo sz o ∧ goesAll mo (if o.1 then sz + o.2 else sz - o.2) os
theorem len_map {α β : Type} {f : α → β} {xs : List α} : (xs.map f).length = xs.length := List.length_map ..
theorem h_at0 {m g : Hs} {a : O} : (m ++ a :: g)[m.length]? = some a := by simp
theorem h_at1 {m g : Hs} {a b : O} : (m ++ a :: b :: g)[m.length + 1]? = some b := by simp
theorem h_set0 {m g : Hs} {a a' : O} : (m ++ a :: g).set m.length a' = m ++ a' :: g := by simp
theorem h_set1 {m g : Hs} {a b b' : O} : (m ++ a :: b :: g).set (m.length + 1) b' = m ++ a :: b' :: g := by
  rw [List.set_append_right _ _ (by omega)]
  simp
theorem tracked_sp {k : Nat} {cs ls : List Int} {fx c sz : Int} {lv : Nat} {os : List (Bool × Int)} {m : Hs} (hl : cs.length ≤ 1000) (hc : cs.getLast? = some c) (hlv : lv ≤ (cs.zip ls).length) (ho : ∀ o, o ∈ os → okOp o) (hol : os.length ≤ 200) (hg : goesAll c sz os) :
    (callN Dt (k + 5) 13 [pol cs ls fx, .tup [.int lv, .int sz], .tup (os.map opD)] m).sat fun d m' => ∃ (t : St) (dn : Int) (b : O) (g : Hs), d = .tup [.ref m.length, .ref (m.length + 1)] ∧ Runs (cs.zip ls) fx (lv, sz, 0) os t ∧ m' = m ++ .ins 0 (trk (cs.zip ls) fx c t.1 t.2.1 t.2.2 dn) :: b :: g := by
  refine fn_sat (fn := f_tracked) rfl rfl [some (pol cs ls fx), some (.tup [.int lv, .int sz]), some (.tup (os.map opD)), none, none, none, none, none, none] rfl ?_
  show (evSs _ b_tracked _ _).sat _
  unfold b_tracked
  have hPl : (cs.zip ls).length ≤ 1000 := by
    rw [List.length_zip]
    omega
  simp only [↓w_v0, ↓tg_n0, ↓v_au0, ↓w_v1, ↓tg_n1, ↓v_au1, ↓w_v2, ↓tg_n2, ↓v_au2, ↓w_v3, ↓tg_n3, ↓v_au3, ↓w_v4, ↓tg_n4, ↓v_au4, ↓w_v5, ↓tg_n5, ↓v_au5, ↓w_v6, ↓tg_n6, ↓v_au6, ↓w_v7, ↓tg_n7, ↓v_au7, ↓w_v8, ↓tg_n8, ↓v_au8, ↓w_v9, ↓tg_n9, ↓v_au9, ↓w_v10, ↓tg_n10, ↓v_au10, ↓w_v11, ↓tg_n11, ↓v_au11, ↓w_v12, ↓tg_n12, ↓v_au12, ↓w_v13, ↓tg_n13, ↓v_au13, ↓w_v14, ↓tg_n14, ↓v_au14, ↓w_v15, ↓tg_n15, ↓v_au15, ↓w_v16, ↓tg_n16, ↓v_au16, ↓w_v17, ↓tg_n17, ↓v_au17, ↓w_v18, ↓tg_n18, ↓v_au18, ↓w_v19, ↓tg_n19, ↓v_au19, ↓w_v20, ↓tg_n20, ↓v_au20, ↓w_v21, ↓tg_n21, ↓v_au21, ↓w_v22, ↓tg_n22, ↓v_au22, ↓w_v23, ↓tg_n23, ↓v_au23, ↓w_v24, ↓tg_n24, ↓v_au24, ↓w_v25, ↓tg_n25, ↓v_au25, ↓w_cst, ↓w_bin, ↓w_cmp, ↓w_neg, ↓w_not, ↓w_and, ↓w_or, ↓w_ite, ↓w_chn, ↓w_tup, ↓w_lst, ↓w_idx, ↓w_slc, ↓w_call, ↓w_bi, ↓w_fld, ↓w_meth, ↓w_make, ↓w_lc, ↓ws_nil, ↓ws_cons, ↓b_add, ↓b_sub, ↓b_mul, ↓b_fdiv, ↓b_mod, ↓b_pow, ↓b_shl, ↓b_addT, ↓k_lt, ↓k_le, ↓k_gt, ↓k_ge, ↓k_eqI, ↓k_neI, ↓k_eqStr, ↓k_neStr, ↓k_is, ↓k_isnot, ↓k_in, ↓k_notin, ↓isN_non, ↓isN_int, ↓isN_tup, ↓isN_ref, ↓isN_bl, ↓isN_str, ↓t_bl, ↓t_non, ↓t_int, ↓t_tup, ↓ix_t0, ↓ix_t1, ↓ix_t2, ↓ix_r0, ↓ix_r1, ↓ix_r2, ↓sl_tup, ↓sl_ref, ↓po_nil, ↓po_int, ↓f_lenT, ↓f_lenF, ↓f_lenR, ↓f_abs, ↓f_min, ↓f_max, ↓f_intB, ↓f_tupR, ↓f_sumR, ↓f_allR, ↓f_isiII, ↓f_isiIB, ↓f_isiTT, ↓f_isiSS, ↓negS_int, ↓chnS_bl, ↓nonS_non, ↓oSat_some, ↓insS_ref, ↓insS_app, ↓insS_set, ↓lstS_ref, ↓lstS_app, ↓lstS_set, ↓seq_nx, ↓seq_rt, ↓seq_bk, ↓seq_ct, ↓v_nil, ↓v_cons, ↓v_pass, ↓v_exp, ↓v_ret, ↓v_retN, ↓v_brk, ↓v_cnt, ↓v_ife, ↓v_asg, ↓v_asg2, ↓v_par, ↓v_par3, ↓v_ifw, ↓v_app, ↓v_ext, ↓v_augF, ↓v_for, ↓v_whl, ↓tq_fld, ↓tq_sub, ↓tq_tp, ↓tqs_nil, ↓tqs_cons, ↓tupS_tup, ↓pl_0, ↓pl_1, ↓pl_2, ↓g_add, ↓g_sub, ↓turn_nx, ↓turn_ct, ↓turn_bk, ↓turn_rt, ↓end_rt, ↓end_nx, ↓it_rng1, ↓it_rng2, ↓it_seqT, ↓it_seqF, ↓it_seqR, ↓it_enumT, ↓it_zipT, ↓ix_s0, ↓ix_s1, ↓ix_s2, ↓ix_sa0, ↓ix_sa1, ↓ix_sa2, ↓ix_new, ↓f_lenN, ↓f_tupN, ↓f_sumN, ↓f_allN, ↓sat_ok, ↓List.set_set, List.length_set, true_and, and_true, and_self, set_0, set_1, set_2, check_sp ho hol, ↓ci_0, init_sp gt_new hl hc, List.length_nil]
  refine ⟨Nat.zero_le _, ?_⟩
  have e0 : (m ++ [O.ins 0 []]).set m.length (O.ins 0 (trk (cs.zip ls) fx c lv sz 0 0)) ++ [O.lst []] = m ++ .ins 0 (trk (cs.zip ls) fx c lv sz 0 0) :: .lst [] :: [] := by
    rw [h_set0]
    simp
  have e1 : ((m ++ [O.ins 0 []]).set m.length (O.ins 0 (trk (cs.zip ls) fx c lv sz 0 0))).length = m.length + 1 := by simp
  have e2 : (m ++ [O.ins 0 []]).length = m.length + 1 := by simp
  rw [e0, e2]
  refine forL_rule (fun xs r h => ∃ (i : Int) (os' : List (Bool × Int)) (t : St) (dn : Int) (f : List D) (g : Hs) (s5 s6 s7 s8 : Option D), xs = enumL i (os'.map opD) ∧ os'.length ≤ 200 ∧ f.length ≤ 1000 * (200 - os'.length) ∧ goesAll c t.2.1 os' ∧ t.1 ≤ (cs.zip ls).length ∧ (∀ u, Runs (cs.zip ls) fx t os' u → Runs (cs.zip ls) fx (lv, sz, 0) os u) ∧ r = [some (pol cs ls fx), some (.tup [.int lv, .int sz]), some (.tup (os.map opD)), some (.ref m.length), some (.ref (m.length + 1)), s5, s6, s7, s8] ∧ h = m ++ .ins 0 (trk (cs.zip ls) fx c t.1 t.2.1 t.2.2 dn) :: .lst f :: g) ?_ ?_ _ _ _ ⟨0, os, (lv, sz, 0), 0, [], [], none, none, none, none, rfl, hol, Nat.zero_le _, hg, hlv, fun u h => h, rfl, rfl⟩
  · rintro x xs r h ⟨i, os', t, dn, f, g, s5, s6, s7, s8, hx, hol', hf, hgo, htl, hruns, rfl, rfl⟩
    cases os' with
    | nil => cases hx
    | cons o os' =>
      simp only [List.map_cons, enumL] at hx
      obtain ⟨rfl, rfl⟩ := List.cons.inj hx
      refine ⟨rfl, [some (pol cs ls fx), some (.tup [.int lv, .int sz]), some (.tup (os.map opD)), some (.ref m.length), some (.ref (m.length + 1)), some (.int i), some (.str (wd o.1)), some (.int o.2), s8], rfl, ?_⟩
      simp only [↓w_v0, ↓tg_n0, ↓v_au0, ↓w_v1, ↓tg_n1, ↓v_au1, ↓w_v2, ↓tg_n2, ↓v_au2, ↓w_v3, ↓tg_n3, ↓v_au3, ↓w_v4, ↓tg_n4, ↓v_au4, ↓w_v5, ↓tg_n5, ↓v_au5, ↓w_v6, ↓tg_n6, ↓v_au6, ↓w_v7, ↓tg_n7, ↓v_au7, ↓w_v8, ↓tg_n8, ↓v_au8, ↓w_v9, ↓tg_n9, ↓v_au9, ↓w_v10, ↓tg_n10, ↓v_au10, ↓w_v11, ↓tg_n11, ↓v_au11, ↓w_v12, ↓tg_n12, ↓v_au12, ↓w_v13, ↓tg_n13, ↓v_au13, ↓w_v14, ↓tg_n14, ↓v_au14, ↓w_v15, ↓tg_n15, ↓v_au15, ↓w_v16, ↓tg_n16, ↓v_au16, ↓w_v17, ↓tg_n17, ↓v_au17, ↓w_v18, ↓tg_n18, ↓v_au18, ↓w_v19, ↓tg_n19, ↓v_au19, ↓w_v20, ↓tg_n20, ↓v_au20, ↓w_v21, ↓tg_n21, ↓v_au21, ↓w_v22, ↓tg_n22, ↓v_au22, ↓w_v23, ↓tg_n23, ↓v_au23, ↓w_v24, ↓tg_n24, ↓v_au24, ↓w_v25, ↓tg_n25, ↓v_au25, ↓w_cst, ↓w_bin, ↓w_cmp, ↓w_neg, ↓w_not, ↓w_and, ↓w_or, ↓w_ite, ↓w_chn, ↓w_tup, ↓w_lst, ↓w_idx, ↓w_slc, ↓w_call, ↓w_bi, ↓w_fld, ↓w_meth, ↓w_make, ↓w_lc, ↓ws_nil, ↓ws_cons, ↓b_add, ↓b_sub, ↓b_mul, ↓b_fdiv, ↓b_mod, ↓b_pow, ↓b_shl, ↓b_addT, ↓k_lt, ↓k_le, ↓k_gt, ↓k_ge, ↓k_eqI, ↓k_neI, ↓k_eqStr, ↓k_neStr, ↓k_is, ↓k_isnot, ↓k_in, ↓k_notin, ↓isN_non, ↓isN_int, ↓isN_tup, ↓isN_ref, ↓isN_bl, ↓isN_str, ↓t_bl, ↓t_non, ↓t_int, ↓t_tup, ↓ix_t0, ↓ix_t1, ↓ix_t2, ↓ix_r0, ↓ix_r1, ↓ix_r2, ↓sl_tup, ↓sl_ref, ↓po_nil, ↓po_int, ↓f_lenT, ↓f_lenF, ↓f_lenR, ↓f_abs, ↓f_min, ↓f_max, ↓f_intB, ↓f_tupR, ↓f_sumR, ↓f_allR, ↓f_isiII, ↓f_isiIB, ↓f_isiTT, ↓f_isiSS, ↓negS_int, ↓chnS_bl, ↓nonS_non, ↓oSat_some, ↓insS_ref, ↓insS_app, ↓insS_set, ↓lstS_ref, ↓lstS_app, ↓lstS_set, ↓seq_nx, ↓seq_rt, ↓seq_bk, ↓seq_ct, ↓v_nil, ↓v_cons, ↓v_pass, ↓v_exp, ↓v_ret, ↓v_retN, ↓v_brk, ↓v_cnt, ↓v_ife, ↓v_asg, ↓v_asg2, ↓v_par, ↓v_par3, ↓v_ifw, ↓v_app, ↓v_ext, ↓v_augF, ↓v_for, ↓v_whl, ↓tq_fld, ↓tq_sub, ↓tq_tp, ↓tqs_nil, ↓tqs_cons, ↓tupS_tup, ↓pl_0, ↓pl_1, ↓pl_2, ↓g_add, ↓g_sub, ↓turn_nx, ↓turn_ct, ↓turn_bk, ↓turn_rt, ↓end_rt, ↓end_nx, ↓it_rng1, ↓it_rng2, ↓it_seqT, ↓it_seqF, ↓it_seqR, ↓it_enumT, ↓it_zipT, ↓ix_s0, ↓ix_s1, ↓ix_s2, ↓ix_sa0, ↓ix_sa1, ↓ix_sa2, ↓ix_new, ↓f_lenN, ↓f_tupN, ↓f_sumN, ↓f_allN, ↓sat_ok, ↓List.set_set, List.length_set, true_and, and_true, and_self, set_0, set_1, set_2, ↓insS_ref h_at0, ca_places, ca_fixed, ca_most, ca_level, ca_size, ca_paid, ca_done, ↓tk_places, ↓tk_fixed, ↓tk_most, ↓tk_level, ↓tk_size, ↓tk_paid, ↓tk_done, tp_fixed, tp_most, tp_level, tp_size, tp_paid, tp_done, tl, ↓cm_push, ↓cm_pop, ↓cm_move, ↓cm_rest, ↓cm_run, tm_push, tm_pop, tm_move, tm_rest, tm_run, ↓f_lenP, ↓ix_pr0, ↓ix_pr1, decide_true, if_true, decide_false, if_false, Bool.false_eq_true]
      refine (run_sp h_at0 hPl htl hgo.1).imp ?_
      rintro d m1 ⟨rfl, t2, dn2, f2, hf2, ht2, hst, rfl⟩
      rw [h_set0]
      have eL : (m ++ O.ins 0 (trk (cs.zip ls) fx c t.1 t.2.1 t.2.2 dn) :: .lst f :: g).length = (m ++ O.ins 0 (trk (cs.zip ls) fx c t2.1 t2.2.1 t2.2.2 dn2) :: .lst f :: g).length := by simp
      have eA : m ++ O.ins 0 (trk (cs.zip ls) fx c t2.1 t2.2.1 t2.2.2 dn2) :: .lst f :: g ++ [O.lst f2] = m ++ O.ins 0 (trk (cs.zip ls) fx c t2.1 t2.2.1 t2.2.2 dn2) :: .lst f :: (g ++ [O.lst f2]) := by simp
      have eB : (m ++ O.ins 0 (trk (cs.zip ls) fx c t2.1 t2.2.1 t2.2.2 dn2) :: .lst f :: (g ++ [O.lst f2]))[(m ++ O.ins 0 (trk (cs.zip ls) fx c t2.1 t2.2.1 t2.2.2 dn2) :: .lst f :: g).length]? = some (.lst f2) := by
        rw [← eA]
        exact gt_new
      rw [eL, eA]
      simp only [↓w_v0, ↓tg_n0, ↓v_au0, ↓w_v1, ↓tg_n1, ↓v_au1, ↓w_v2, ↓tg_n2, ↓v_au2, ↓w_v3, ↓tg_n3, ↓v_au3, ↓w_v4, ↓tg_n4, ↓v_au4, ↓w_v5, ↓tg_n5, ↓v_au5, ↓w_v6, ↓tg_n6, ↓v_au6, ↓w_v7, ↓tg_n7, ↓v_au7, ↓w_v8, ↓tg_n8, ↓v_au8, ↓w_v9, ↓tg_n9, ↓v_au9, ↓w_v10, ↓tg_n10, ↓v_au10, ↓w_v11, ↓tg_n11, ↓v_au11, ↓w_v12, ↓tg_n12, ↓v_au12, ↓w_v13, ↓tg_n13, ↓v_au13, ↓w_v14, ↓tg_n14, ↓v_au14, ↓w_v15, ↓tg_n15, ↓v_au15, ↓w_v16, ↓tg_n16, ↓v_au16, ↓w_v17, ↓tg_n17, ↓v_au17, ↓w_v18, ↓tg_n18, ↓v_au18, ↓w_v19, ↓tg_n19, ↓v_au19, ↓w_v20, ↓tg_n20, ↓v_au20, ↓w_v21, ↓tg_n21, ↓v_au21, ↓w_v22, ↓tg_n22, ↓v_au22, ↓w_v23, ↓tg_n23, ↓v_au23, ↓w_v24, ↓tg_n24, ↓v_au24, ↓w_v25, ↓tg_n25, ↓v_au25, ↓w_cst, ↓w_bin, ↓w_cmp, ↓w_neg, ↓w_not, ↓w_and, ↓w_or, ↓w_ite, ↓w_chn, ↓w_tup, ↓w_lst, ↓w_idx, ↓w_slc, ↓w_call, ↓w_bi, ↓w_fld, ↓w_meth, ↓w_make, ↓w_lc, ↓ws_nil, ↓ws_cons, ↓b_add, ↓b_sub, ↓b_mul, ↓b_fdiv, ↓b_mod, ↓b_pow, ↓b_shl, ↓b_addT, ↓k_lt, ↓k_le, ↓k_gt, ↓k_ge, ↓k_eqI, ↓k_neI, ↓k_eqStr, ↓k_neStr, ↓k_is, ↓k_isnot, ↓k_in, ↓k_notin, ↓isN_non, ↓isN_int, ↓isN_tup, ↓isN_ref, ↓isN_bl, ↓isN_str, ↓t_bl, ↓t_non, ↓t_int, ↓t_tup, ↓ix_t0, ↓ix_t1, ↓ix_t2, ↓ix_r0, ↓ix_r1, ↓ix_r2, ↓sl_tup, ↓sl_ref, ↓po_nil, ↓po_int, ↓f_lenT, ↓f_lenF, ↓f_lenR, ↓f_abs, ↓f_min, ↓f_max, ↓f_intB, ↓f_tupR, ↓f_sumR, ↓f_allR, ↓f_isiII, ↓f_isiIB, ↓f_isiTT, ↓f_isiSS, ↓negS_int, ↓chnS_bl, ↓nonS_non, ↓oSat_some, ↓insS_ref, ↓insS_app, ↓insS_set, ↓lstS_ref, ↓lstS_app, ↓lstS_set, ↓seq_nx, ↓seq_rt, ↓seq_bk, ↓seq_ct, ↓v_nil, ↓v_cons, ↓v_pass, ↓v_exp, ↓v_ret, ↓v_retN, ↓v_brk, ↓v_cnt, ↓v_ife, ↓v_asg, ↓v_asg2, ↓v_par, ↓v_par3, ↓v_ifw, ↓v_app, ↓v_ext, ↓v_augF, ↓v_for, ↓v_whl, ↓tq_fld, ↓tq_sub, ↓tq_tp, ↓tqs_nil, ↓tqs_cons, ↓tupS_tup, ↓pl_0, ↓pl_1, ↓pl_2, ↓g_add, ↓g_sub, ↓turn_nx, ↓turn_ct, ↓turn_bk, ↓turn_rt, ↓end_rt, ↓end_nx, ↓it_rng1, ↓it_rng2, ↓it_seqT, ↓it_seqF, ↓it_seqR, ↓it_enumT, ↓it_zipT, ↓ix_s0, ↓ix_s1, ↓ix_s2, ↓ix_sa0, ↓ix_sa1, ↓ix_sa2, ↓ix_new, ↓f_lenN, ↓f_tupN, ↓f_sumN, ↓f_allN, ↓sat_ok, ↓List.set_set, List.length_set, true_and, and_true, and_self, set_0, set_1, set_2, ca_places, ca_fixed, ca_most, ca_level, ca_size, ca_paid, ca_done, ↓tk_places, ↓tk_fixed, ↓tk_most, ↓tk_level, ↓tk_size, ↓tk_paid, ↓tk_done, tp_fixed, tp_most, tp_level, tp_size, tp_paid, tp_done, tl, ↓cm_push, ↓cm_pop, ↓cm_move, ↓cm_rest, ↓cm_run, tm_push, tm_pop, tm_move, tm_rest, tm_run, ↓f_lenP, ↓ix_pr0, ↓ix_pr1, decide_true, if_true, decide_false, if_false, Bool.false_eq_true, ↓lstS_ref h_at1, ↓lstS_ref eB]
      simp only [List.length_cons] at hol' hf
      refine ⟨Nat.le_trans (show f.length + f2.length ≤ 1000 * 201 by omega) (by decide), ?_⟩
      rw [h_set1]
      refine ⟨i + 1, os', t2, dn2, f ++ f2, g ++ [.lst f2], _, _, _, _, rfl, by omega, by simp; omega, ?_, ht2, fun u hu => hruns u ⟨t2, hst, hu⟩, rfl, rfl⟩
      have := hgo.2
      obtain ⟨b, cc⟩ := o
      cases b with
      | true =>
        simp only [Step] at hst
        simp only [if_true] at this
        rw [hst.2.2.1]
        exact this
      | false =>
        simp only [Step] at hst
        simp only [Bool.false_eq_true, if_false] at this
        rw [hst.2.1]
        exact this
  · rintro r h ⟨i, os', t, dn, f, g, s5, s6, s7, s8, hx, hol', hf, hgo, htl, hruns, rfl, rfl⟩
    cases os' with
    | cons o os' => cases hx
    | nil =>
      refine ⟨rfl, ?_⟩
      simp only [↓w_v0, ↓tg_n0, ↓v_au0, ↓w_v1, ↓tg_n1, ↓v_au1, ↓w_v2, ↓tg_n2, ↓v_au2, ↓w_v3, ↓tg_n3, ↓v_au3, ↓w_v4, ↓tg_n4, ↓v_au4, ↓w_v5, ↓tg_n5, ↓v_au5, ↓w_v6, ↓tg_n6, ↓v_au6, ↓w_v7, ↓tg_n7, ↓v_au7, ↓w_v8, ↓tg_n8, ↓v_au8, ↓w_v9, ↓tg_n9, ↓v_au9, ↓w_v10, ↓tg_n10, ↓v_au10, ↓w_v11, ↓tg_n11, ↓v_au11, ↓w_v12, ↓tg_n12, ↓v_au12, ↓w_v13, ↓tg_n13, ↓v_au13, ↓w_v14, ↓tg_n14, ↓v_au14, ↓w_v15, ↓tg_n15, ↓v_au15, ↓w_v16, ↓tg_n16, ↓v_au16, ↓w_v17, ↓tg_n17, ↓v_au17, ↓w_v18, ↓tg_n18, ↓v_au18, ↓w_v19, ↓tg_n19, ↓v_au19, ↓w_v20, ↓tg_n20, ↓v_au20, ↓w_v21, ↓tg_n21, ↓v_au21, ↓w_v22, ↓tg_n22, ↓v_au22, ↓w_v23, ↓tg_n23, ↓v_au23, ↓w_v24, ↓tg_n24, ↓v_au24, ↓w_v25, ↓tg_n25, ↓v_au25, ↓w_cst, ↓w_bin, ↓w_cmp, ↓w_neg, ↓w_not, ↓w_and, ↓w_or, ↓w_ite, ↓w_chn, ↓w_tup, ↓w_lst, ↓w_idx, ↓w_slc, ↓w_call, ↓w_bi, ↓w_fld, ↓w_meth, ↓w_make, ↓w_lc, ↓ws_nil, ↓ws_cons, ↓b_add, ↓b_sub, ↓b_mul, ↓b_fdiv, ↓b_mod, ↓b_pow, ↓b_shl, ↓b_addT, ↓k_lt, ↓k_le, ↓k_gt, ↓k_ge, ↓k_eqI, ↓k_neI, ↓k_eqStr, ↓k_neStr, ↓k_is, ↓k_isnot, ↓k_in, ↓k_notin, ↓isN_non, ↓isN_int, ↓isN_tup, ↓isN_ref, ↓isN_bl, ↓isN_str, ↓t_bl, ↓t_non, ↓t_int, ↓t_tup, ↓ix_t0, ↓ix_t1, ↓ix_t2, ↓ix_r0, ↓ix_r1, ↓ix_r2, ↓sl_tup, ↓sl_ref, ↓po_nil, ↓po_int, ↓f_lenT, ↓f_lenF, ↓f_lenR, ↓f_abs, ↓f_min, ↓f_max, ↓f_intB, ↓f_tupR, ↓f_sumR, ↓f_allR, ↓f_isiII, ↓f_isiIB, ↓f_isiTT, ↓f_isiSS, ↓negS_int, ↓chnS_bl, ↓nonS_non, ↓oSat_some, ↓insS_ref, ↓insS_app, ↓insS_set, ↓lstS_ref, ↓lstS_app, ↓lstS_set, ↓seq_nx, ↓seq_rt, ↓seq_bk, ↓seq_ct, ↓v_nil, ↓v_cons, ↓v_pass, ↓v_exp, ↓v_ret, ↓v_retN, ↓v_brk, ↓v_cnt, ↓v_ife, ↓v_asg, ↓v_asg2, ↓v_par, ↓v_par3, ↓v_ifw, ↓v_app, ↓v_ext, ↓v_augF, ↓v_for, ↓v_whl, ↓tq_fld, ↓tq_sub, ↓tq_tp, ↓tqs_nil, ↓tqs_cons, ↓tupS_tup, ↓pl_0, ↓pl_1, ↓pl_2, ↓g_add, ↓g_sub, ↓turn_nx, ↓turn_ct, ↓turn_bk, ↓turn_rt, ↓end_rt, ↓end_nx, ↓it_rng1, ↓it_rng2, ↓it_seqT, ↓it_seqF, ↓it_seqR, ↓it_enumT, ↓it_zipT, ↓ix_s0, ↓ix_s1, ↓ix_s2, ↓ix_sa0, ↓ix_sa1, ↓ix_sa2, ↓ix_new, ↓f_lenN, ↓f_tupN, ↓f_sumN, ↓f_allN, ↓sat_ok, ↓List.set_set, List.length_set, true_and, and_true, and_self, set_0, set_1, set_2]
      refine ⟨(show 2 ≤ sizeLine by decide), ?_⟩
      rw [gc_new (by simp [below, belowL])]
      exact ⟨t, dn, _, g, rfl, hruns t rfl, rfl⟩
theorem after_sp {k : Nat} {cs ls : List Int} {fx c sz : Int} {lv : Nat} {os : List (Bool × Int)} {m : Hs} (hl : cs.length ≤ 1000) (hc : cs.getLast? = some c) (hlv : lv ≤ (cs.zip ls).length) (ho : ∀ o, o ∈ os → okOp o) (hol : os.length ≤ 200) (hg : goesAll c sz os) :
    ∃ t : St, Runs (cs.zip ls) fx (lv, sz, 0) os t ∧ callN Dt (k + 6) 14 [pol cs ls fx, .tup [.int lv, .int sz], .tup (os.map opD)] m = .ok (.tup [.int t.1, .int t.2.1]) m := by
  have key : (callN Dt (k + 6) 14 [pol cs ls fx, .tup [.int lv, .int sz], .tup (os.map opD)] m).sat fun d m' => ∃ t : St, Runs (cs.zip ls) fx (lv, sz, 0) os t ∧ d = .tup [.int t.1, .int t.2.1] ∧ m' = m := by
    refine fn_sat (fn := f_after) rfl rfl [some (pol cs ls fx), some (.tup [.int lv, .int sz]), some (.tup (os.map opD)), none, none] rfl ?_
    show (evSs _ b_after _ _).sat _
    unfold b_after
    simp only [↓w_v0, ↓tg_n0, ↓v_au0, ↓w_v1, ↓tg_n1, ↓v_au1, ↓w_v2, ↓tg_n2, ↓v_au2, ↓w_v3, ↓tg_n3, ↓v_au3, ↓w_v4, ↓tg_n4, ↓v_au4, ↓w_v5, ↓tg_n5, ↓v_au5, ↓w_v6, ↓tg_n6, ↓v_au6, ↓w_v7, ↓tg_n7, ↓v_au7, ↓w_v8, ↓tg_n8, ↓v_au8, ↓w_v9, ↓tg_n9, ↓v_au9, ↓w_v10, ↓tg_n10, ↓v_au10, ↓w_v11, ↓tg_n11, ↓v_au11, ↓w_v12, ↓tg_n12, ↓v_au12, ↓w_v13, ↓tg_n13, ↓v_au13, ↓w_v14, ↓tg_n14, ↓v_au14, ↓w_v15, ↓tg_n15, ↓v_au15, ↓w_v16, ↓tg_n16, ↓v_au16, ↓w_v17, ↓tg_n17, ↓v_au17, ↓w_v18, ↓tg_n18, ↓v_au18, ↓w_v19, ↓tg_n19, ↓v_au19, ↓w_v20, ↓tg_n20, ↓v_au20, ↓w_v21, ↓tg_n21, ↓v_au21, ↓w_v22, ↓tg_n22, ↓v_au22, ↓w_v23, ↓tg_n23, ↓v_au23, ↓w_v24, ↓tg_n24, ↓v_au24, ↓w_v25, ↓tg_n25, ↓v_au25, ↓w_cst, ↓w_bin, ↓w_cmp, ↓w_neg, ↓w_not, ↓w_and, ↓w_or, ↓w_ite, ↓w_chn, ↓w_tup, ↓w_lst, ↓w_idx, ↓w_slc, ↓w_call, ↓w_bi, ↓w_fld, ↓w_meth, ↓w_make, ↓w_lc, ↓ws_nil, ↓ws_cons, ↓b_add, ↓b_sub, ↓b_mul, ↓b_fdiv, ↓b_mod, ↓b_pow, ↓b_shl, ↓b_addT, ↓k_lt, ↓k_le, ↓k_gt, ↓k_ge, ↓k_eqI, ↓k_neI, ↓k_eqStr, ↓k_neStr, ↓k_is, ↓k_isnot, ↓k_in, ↓k_notin, ↓isN_non, ↓isN_int, ↓isN_tup, ↓isN_ref, ↓isN_bl, ↓isN_str, ↓t_bl, ↓t_non, ↓t_int, ↓t_tup, ↓ix_t0, ↓ix_t1, ↓ix_t2, ↓ix_r0, ↓ix_r1, ↓ix_r2, ↓sl_tup, ↓sl_ref, ↓po_nil, ↓po_int, ↓f_lenT, ↓f_lenF, ↓f_lenR, ↓f_abs, ↓f_min, ↓f_max, ↓f_intB, ↓f_tupR, ↓f_sumR, ↓f_allR, ↓f_isiII, ↓f_isiIB, ↓f_isiTT, ↓f_isiSS, ↓negS_int, ↓chnS_bl, ↓nonS_non, ↓oSat_some, ↓insS_ref, ↓insS_app, ↓insS_set, ↓lstS_ref, ↓lstS_app, ↓lstS_set, ↓seq_nx, ↓seq_rt, ↓seq_bk, ↓seq_ct, ↓v_nil, ↓v_cons, ↓v_pass, ↓v_exp, ↓v_ret, ↓v_retN, ↓v_brk, ↓v_cnt, ↓v_ife, ↓v_asg, ↓v_asg2, ↓v_par, ↓v_par3, ↓v_ifw, ↓v_app, ↓v_ext, ↓v_augF, ↓v_for, ↓v_whl, ↓tq_fld, ↓tq_sub, ↓tq_tp, ↓tqs_nil, ↓tqs_cons, ↓tupS_tup, ↓pl_0, ↓pl_1, ↓pl_2, ↓g_add, ↓g_sub, ↓turn_nx, ↓turn_ct, ↓turn_bk, ↓turn_rt, ↓end_rt, ↓end_nx, ↓it_rng1, ↓it_rng2, ↓it_seqT, ↓it_seqF, ↓it_seqR, ↓it_enumT, ↓it_zipT, ↓ix_s0, ↓ix_s1, ↓ix_s2, ↓ix_sa0, ↓ix_sa1, ↓ix_sa2, ↓ix_new, ↓f_lenN, ↓f_tupN, ↓f_sumN, ↓f_allN, ↓sat_ok, ↓List.set_set, List.length_set, true_and, and_true, and_self, set_0, set_1, set_2]
    refine (tracked_sp hl hc hlv ho hol hg).imp ?_
    rintro d m1 ⟨t, dn, b, g, rfl, hr, rfl⟩
    simp only [↓w_v0, ↓tg_n0, ↓v_au0, ↓w_v1, ↓tg_n1, ↓v_au1, ↓w_v2, ↓tg_n2, ↓v_au2, ↓w_v3, ↓tg_n3, ↓v_au3, ↓w_v4, ↓tg_n4, ↓v_au4, ↓w_v5, ↓tg_n5, ↓v_au5, ↓w_v6, ↓tg_n6, ↓v_au6, ↓w_v7, ↓tg_n7, ↓v_au7, ↓w_v8, ↓tg_n8, ↓v_au8, ↓w_v9, ↓tg_n9, ↓v_au9, ↓w_v10, ↓tg_n10, ↓v_au10, ↓w_v11, ↓tg_n11, ↓v_au11, ↓w_v12, ↓tg_n12, ↓v_au12, ↓w_v13, ↓tg_n13, ↓v_au13, ↓w_v14, ↓tg_n14, ↓v_au14, ↓w_v15, ↓tg_n15, ↓v_au15, ↓w_v16, ↓tg_n16, ↓v_au16, ↓w_v17, ↓tg_n17, ↓v_au17, ↓w_v18, ↓tg_n18, ↓v_au18, ↓w_v19, ↓tg_n19, ↓v_au19, ↓w_v20, ↓tg_n20, ↓v_au20, ↓w_v21, ↓tg_n21, ↓v_au21, ↓w_v22, ↓tg_n22, ↓v_au22, ↓w_v23, ↓tg_n23, ↓v_au23, ↓w_v24, ↓tg_n24, ↓v_au24, ↓w_v25, ↓tg_n25, ↓v_au25, ↓w_cst, ↓w_bin, ↓w_cmp, ↓w_neg, ↓w_not, ↓w_and, ↓w_or, ↓w_ite, ↓w_chn, ↓w_tup, ↓w_lst, ↓w_idx, ↓w_slc, ↓w_call, ↓w_bi, ↓w_fld, ↓w_meth, ↓w_make, ↓w_lc, ↓ws_nil, ↓ws_cons, ↓b_add, ↓b_sub, ↓b_mul, ↓b_fdiv, ↓b_mod, ↓b_pow, ↓b_shl, ↓b_addT, ↓k_lt, ↓k_le, ↓k_gt, ↓k_ge, ↓k_eqI, ↓k_neI, ↓k_eqStr, ↓k_neStr, ↓k_is, ↓k_isnot, ↓k_in, ↓k_notin, ↓isN_non, ↓isN_int, ↓isN_tup, ↓isN_ref, ↓isN_bl, ↓isN_str, ↓t_bl, ↓t_non, ↓t_int, ↓t_tup, ↓ix_t0, ↓ix_t1, ↓ix_t2, ↓ix_r0, ↓ix_r1, ↓ix_r2, ↓sl_tup, ↓sl_ref, ↓po_nil, ↓po_int, ↓f_lenT, ↓f_lenF, ↓f_lenR, ↓f_abs, ↓f_min, ↓f_max, ↓f_intB, ↓f_tupR, ↓f_sumR, ↓f_allR, ↓f_isiII, ↓f_isiIB, ↓f_isiTT, ↓f_isiSS, ↓negS_int, ↓chnS_bl, ↓nonS_non, ↓oSat_some, ↓insS_ref, ↓insS_app, ↓insS_set, ↓lstS_ref, ↓lstS_app, ↓lstS_set, ↓seq_nx, ↓seq_rt, ↓seq_bk, ↓seq_ct, ↓v_nil, ↓v_cons, ↓v_pass, ↓v_exp, ↓v_ret, ↓v_retN, ↓v_brk, ↓v_cnt, ↓v_ife, ↓v_asg, ↓v_asg2, ↓v_par, ↓v_par3, ↓v_ifw, ↓v_app, ↓v_ext, ↓v_augF, ↓v_for, ↓v_whl, ↓tq_fld, ↓tq_sub, ↓tq_tp, ↓tqs_nil, ↓tqs_cons, ↓tupS_tup, ↓pl_0, ↓pl_1, ↓pl_2, ↓g_add, ↓g_sub, ↓turn_nx, ↓turn_ct, ↓turn_bk, ↓turn_rt, ↓end_rt, ↓end_nx, ↓it_rng1, ↓it_rng2, ↓it_seqT, ↓it_seqF, ↓it_seqR, ↓it_enumT, ↓it_zipT, ↓ix_s0, ↓ix_s1, ↓ix_s2, ↓ix_sa0, ↓ix_sa1, ↓ix_sa2, ↓ix_new, ↓f_lenN, ↓f_tupN, ↓f_sumN, ↓f_allN, ↓sat_ok, ↓List.set_set, List.length_set, true_and, and_true, and_self, set_0, set_1, set_2, ↓insS_ref h_at0, ca_places, ca_fixed, ca_most, ca_level, ca_size, ca_paid, ca_done, ↓tk_places, ↓tk_fixed, ↓tk_most, ↓tk_level, ↓tk_size, ↓tk_paid, ↓tk_done, tp_fixed, tp_most, tp_level, tp_size, tp_paid, tp_done, tl, ↓cm_push, ↓cm_pop, ↓cm_move, ↓cm_rest, ↓cm_run, tm_push, tm_pop, tm_move, tm_rest, tm_run, ↓f_lenP, ↓ix_pr0, ↓ix_pr1, decide_true, if_true, decide_false, if_false, Bool.false_eq_true]
    refine ⟨rfl, (show 2 ≤ sizeLine by decide), ?_⟩
    rw [gc_pure rfl]
    exact ⟨t, hr, rfl, rfl⟩
  obtain ⟨d, m', e, t, hr, rfl, rfl⟩ := sat_iff.1 key
  exact ⟨t, hr, e⟩
theorem cost_sp {k : Nat} {cs ls : List Int} {fx c sz : Int} {lv : Nat} {os : List (Bool × Int)} {m : Hs} (hl : cs.length ≤ 1000) (hc : cs.getLast? = some c) (hlv : lv ≤ (cs.zip ls).length) (ho : ∀ o, o ∈ os → okOp o) (hol : os.length ≤ 200) (hg : goesAll c sz os) :
    ∃ t : St, Runs (cs.zip ls) fx (lv, sz, 0) os t ∧ callN Dt (k + 6) 15 [pol cs ls fx, .tup [.int lv, .int sz], .tup (os.map opD)] m = .ok (.int t.2.2) m := by
  have key : (callN Dt (k + 6) 15 [pol cs ls fx, .tup [.int lv, .int sz], .tup (os.map opD)] m).sat fun d m' => ∃ t : St, Runs (cs.zip ls) fx (lv, sz, 0) os t ∧ d = .int t.2.2 ∧ m' = m := by
    refine fn_sat (fn := f_cost_of) rfl rfl [some (pol cs ls fx), some (.tup [.int lv, .int sz]), some (.tup (os.map opD))] rfl ?_
    show (evSs _ b_cost_of _ _).sat _
    unfold b_cost_of
    simp only [↓w_v0, ↓tg_n0, ↓v_au0, ↓w_v1, ↓tg_n1, ↓v_au1, ↓w_v2, ↓tg_n2, ↓v_au2, ↓w_v3, ↓tg_n3, ↓v_au3, ↓w_v4, ↓tg_n4, ↓v_au4, ↓w_v5, ↓tg_n5, ↓v_au5, ↓w_v6, ↓tg_n6, ↓v_au6, ↓w_v7, ↓tg_n7, ↓v_au7, ↓w_v8, ↓tg_n8, ↓v_au8, ↓w_v9, ↓tg_n9, ↓v_au9, ↓w_v10, ↓tg_n10, ↓v_au10, ↓w_v11, ↓tg_n11, ↓v_au11, ↓w_v12, ↓tg_n12, ↓v_au12, ↓w_v13, ↓tg_n13, ↓v_au13, ↓w_v14, ↓tg_n14, ↓v_au14, ↓w_v15, ↓tg_n15, ↓v_au15, ↓w_v16, ↓tg_n16, ↓v_au16, ↓w_v17, ↓tg_n17, ↓v_au17, ↓w_v18, ↓tg_n18, ↓v_au18, ↓w_v19, ↓tg_n19, ↓v_au19, ↓w_v20, ↓tg_n20, ↓v_au20, ↓w_v21, ↓tg_n21, ↓v_au21, ↓w_v22, ↓tg_n22, ↓v_au22, ↓w_v23, ↓tg_n23, ↓v_au23, ↓w_v24, ↓tg_n24, ↓v_au24, ↓w_v25, ↓tg_n25, ↓v_au25, ↓w_cst, ↓w_bin, ↓w_cmp, ↓w_neg, ↓w_not, ↓w_and, ↓w_or, ↓w_ite, ↓w_chn, ↓w_tup, ↓w_lst, ↓w_idx, ↓w_slc, ↓w_call, ↓w_bi, ↓w_fld, ↓w_meth, ↓w_make, ↓w_lc, ↓ws_nil, ↓ws_cons, ↓b_add, ↓b_sub, ↓b_mul, ↓b_fdiv, ↓b_mod, ↓b_pow, ↓b_shl, ↓b_addT, ↓k_lt, ↓k_le, ↓k_gt, ↓k_ge, ↓k_eqI, ↓k_neI, ↓k_eqStr, ↓k_neStr, ↓k_is, ↓k_isnot, ↓k_in, ↓k_notin, ↓isN_non, ↓isN_int, ↓isN_tup, ↓isN_ref, ↓isN_bl, ↓isN_str, ↓t_bl, ↓t_non, ↓t_int, ↓t_tup, ↓ix_t0, ↓ix_t1, ↓ix_t2, ↓ix_r0, ↓ix_r1, ↓ix_r2, ↓sl_tup, ↓sl_ref, ↓po_nil, ↓po_int, ↓f_lenT, ↓f_lenF, ↓f_lenR, ↓f_abs, ↓f_min, ↓f_max, ↓f_intB, ↓f_tupR, ↓f_sumR, ↓f_allR, ↓f_isiII, ↓f_isiIB, ↓f_isiTT, ↓f_isiSS, ↓negS_int, ↓chnS_bl, ↓nonS_non, ↓oSat_some, ↓insS_ref, ↓insS_app, ↓insS_set, ↓lstS_ref, ↓lstS_app, ↓lstS_set, ↓seq_nx, ↓seq_rt, ↓seq_bk, ↓seq_ct, ↓v_nil, ↓v_cons, ↓v_pass, ↓v_exp, ↓v_ret, ↓v_retN, ↓v_brk, ↓v_cnt, ↓v_ife, ↓v_asg, ↓v_asg2, ↓v_par, ↓v_par3, ↓v_ifw, ↓v_app, ↓v_ext, ↓v_augF, ↓v_for, ↓v_whl, ↓tq_fld, ↓tq_sub, ↓tq_tp, ↓tqs_nil, ↓tqs_cons, ↓tupS_tup, ↓pl_0, ↓pl_1, ↓pl_2, ↓g_add, ↓g_sub, ↓turn_nx, ↓turn_ct, ↓turn_bk, ↓turn_rt, ↓end_rt, ↓end_nx, ↓it_rng1, ↓it_rng2, ↓it_seqT, ↓it_seqF, ↓it_seqR, ↓it_enumT, ↓it_zipT, ↓ix_s0, ↓ix_s1, ↓ix_s2, ↓ix_sa0, ↓ix_sa1, ↓ix_sa2, ↓ix_new, ↓f_lenN, ↓f_tupN, ↓f_sumN, ↓f_allN, ↓sat_ok, ↓List.set_set, List.length_set, true_and, and_true, and_self, set_0, set_1, set_2]
    refine (tracked_sp hl hc hlv ho hol hg).imp ?_
    rintro d m1 ⟨t, dn, b, g, rfl, hr, rfl⟩
    simp only [↓w_v0, ↓tg_n0, ↓v_au0, ↓w_v1, ↓tg_n1, ↓v_au1, ↓w_v2, ↓tg_n2, ↓v_au2, ↓w_v3, ↓tg_n3, ↓v_au3, ↓w_v4, ↓tg_n4, ↓v_au4, ↓w_v5, ↓tg_n5, ↓v_au5, ↓w_v6, ↓tg_n6, ↓v_au6, ↓w_v7, ↓tg_n7, ↓v_au7, ↓w_v8, ↓tg_n8, ↓v_au8, ↓w_v9, ↓tg_n9, ↓v_au9, ↓w_v10, ↓tg_n10, ↓v_au10, ↓w_v11, ↓tg_n11, ↓v_au11, ↓w_v12, ↓tg_n12, ↓v_au12, ↓w_v13, ↓tg_n13, ↓v_au13, ↓w_v14, ↓tg_n14, ↓v_au14, ↓w_v15, ↓tg_n15, ↓v_au15, ↓w_v16, ↓tg_n16, ↓v_au16, ↓w_v17, ↓tg_n17, ↓v_au17, ↓w_v18, ↓tg_n18, ↓v_au18, ↓w_v19, ↓tg_n19, ↓v_au19, ↓w_v20, ↓tg_n20, ↓v_au20, ↓w_v21, ↓tg_n21, ↓v_au21, ↓w_v22, ↓tg_n22, ↓v_au22, ↓w_v23, ↓tg_n23, ↓v_au23, ↓w_v24, ↓tg_n24, ↓v_au24, ↓w_v25, ↓tg_n25, ↓v_au25, ↓w_cst, ↓w_bin, ↓w_cmp, ↓w_neg, ↓w_not, ↓w_and, ↓w_or, ↓w_ite, ↓w_chn, ↓w_tup, ↓w_lst, ↓w_idx, ↓w_slc, ↓w_call, ↓w_bi, ↓w_fld, ↓w_meth, ↓w_make, ↓w_lc, ↓ws_nil, ↓ws_cons, ↓b_add, ↓b_sub, ↓b_mul, ↓b_fdiv, ↓b_mod, ↓b_pow, ↓b_shl, ↓b_addT, ↓k_lt, ↓k_le, ↓k_gt, ↓k_ge, ↓k_eqI, ↓k_neI, ↓k_eqStr, ↓k_neStr, ↓k_is, ↓k_isnot, ↓k_in, ↓k_notin, ↓isN_non, ↓isN_int, ↓isN_tup, ↓isN_ref, ↓isN_bl, ↓isN_str, ↓t_bl, ↓t_non, ↓t_int, ↓t_tup, ↓ix_t0, ↓ix_t1, ↓ix_t2, ↓ix_r0, ↓ix_r1, ↓ix_r2, ↓sl_tup, ↓sl_ref, ↓po_nil, ↓po_int, ↓f_lenT, ↓f_lenF, ↓f_lenR, ↓f_abs, ↓f_min, ↓f_max, ↓f_intB, ↓f_tupR, ↓f_sumR, ↓f_allR, ↓f_isiII, ↓f_isiIB, ↓f_isiTT, ↓f_isiSS, ↓negS_int, ↓chnS_bl, ↓nonS_non, ↓oSat_some, ↓insS_ref, ↓insS_app, ↓insS_set, ↓lstS_ref, ↓lstS_app, ↓lstS_set, ↓seq_nx, ↓seq_rt, ↓seq_bk, ↓seq_ct, ↓v_nil, ↓v_cons, ↓v_pass, ↓v_exp, ↓v_ret, ↓v_retN, ↓v_brk, ↓v_cnt, ↓v_ife, ↓v_asg, ↓v_asg2, ↓v_par, ↓v_par3, ↓v_ifw, ↓v_app, ↓v_ext, ↓v_augF, ↓v_for, ↓v_whl, ↓tq_fld, ↓tq_sub, ↓tq_tp, ↓tqs_nil, ↓tqs_cons, ↓tupS_tup, ↓pl_0, ↓pl_1, ↓pl_2, ↓g_add, ↓g_sub, ↓turn_nx, ↓turn_ct, ↓turn_bk, ↓turn_rt, ↓end_rt, ↓end_nx, ↓it_rng1, ↓it_rng2, ↓it_seqT, ↓it_seqF, ↓it_seqR, ↓it_enumT, ↓it_zipT, ↓ix_s0, ↓ix_s1, ↓ix_s2, ↓ix_sa0, ↓ix_sa1, ↓ix_sa2, ↓ix_new, ↓f_lenN, ↓f_tupN, ↓f_sumN, ↓f_allN, ↓sat_ok, ↓List.set_set, List.length_set, true_and, and_true, and_self, set_0, set_1, set_2, ↓insS_ref h_at0, ca_places, ca_fixed, ca_most, ca_level, ca_size, ca_paid, ca_done, ↓tk_places, ↓tk_fixed, ↓tk_most, ↓tk_level, ↓tk_size, ↓tk_paid, ↓tk_done, tp_fixed, tp_most, tp_level, tp_size, tp_paid, tp_done, tl, ↓cm_push, ↓cm_pop, ↓cm_move, ↓cm_rest, ↓cm_run, tm_push, tm_pop, tm_move, tm_rest, tm_run, ↓f_lenP, ↓ix_pr0, ↓ix_pr1, decide_true, if_true, decide_false, if_false, Bool.false_eq_true]
    rw [gc_pure rfl]
    exact ⟨t, hr, rfl, rfl⟩
  obtain ⟨d, m', e, t, hr, rfl, rfl⟩ := sat_iff.1 key
  exact ⟨t, hr, e⟩
end G.K13
set_option maxRecDepth 100000
set_option maxHeartbeats 4000000
namespace G.K13
open PySem G
theorem pow2_pos (n : Nat) : (0 : Int) < 2 ^ n := Int.pow_pos (by decide)
theorem pow2_succ (n : Nat) : (2 : Int) ^ (n + 1) = 2 * 2 ^ n := by
  rw [Int.pow_succ]
  omega
theorem pow2_le {a b : Nat} (h : a ≤ b) : (2 : Int) ^ a ≤ 2 ^ b := by
  induction b with
  | zero =>
    have : a = 0 := by omega
    subst this
    exact Int.le_refl _
  | succ b ih =>
    rcases Nat.lt_or_ge a (b + 1) with h1 | h1
    · have := ih (by omega)
      have := pow2_pos b
      rw [pow2_succ]
      omega
    · have : a = b + 1 := by omega
      subst this
      exact Int.le_refl _
theorem pow2_lt {a b : Nat} (h : a < b) : (2 : Int) ^ a < 2 ^ b := by
  have := pow2_le (a := a + 1) (b := b) (by omega)
  have := pow2_succ a
  have := pow2_pos a
  omega
theorem div_le {p : Int} (hp : p = 2 ∨ p = 4 ∨ p = 8) (i : Nat) : (2 : Int) ^ (i + 1) / p ≤ 2 ^ i ∧ 0 ≤ (2 : Int) ^ (i + 1) / p := by
  have h1 := pow2_succ i
  have h2 := pow2_pos i
  rcases hp with rfl | rfl | rfl <;> omega
theorem lims_at {p : Int} (hp : p = 2 ∨ p = 4 ∨ p = 8) : ∀ (n : Nat) (low : Int) (i : Nat), low + 1 ≤ 2 ^ i → -1 ≤ low → ∀ (j : Nat) (l : Int), (limsL p low (i + 1) n)[j]? = some l → low < l ∧ l ≤ 2 ^ (i + j)
  | 0, _, _, _, _, _, _, h => by simp [limsL] at h
  | n + 1, low, i, h1, h2, j, l, h => by
    obtain ⟨d1, d2⟩ := div_le hp i
    rw [limsL] at h
    have hm : low < (if (2 : Int) ^ (i + 1) / p > low + 1 then 2 ^ (i + 1) / p else low + 1) ∧ (if (2 : Int) ^ (i + 1) / p > low + 1 then 2 ^ (i + 1) / p else low + 1) ≤ 2 ^ i := by
      split <;> omega
    generalize (if (2 : Int) ^ (i + 1) / p > low + 1 then 2 ^ (i + 1) / p else low + 1) = w at h hm
    cases j with
    | zero =>
      simp only [List.getElem?_cons_zero, Option.some.injEq] at h
      subst h
      exact hm
    | succ j =>
      simp only [List.getElem?_cons_succ] at h
      have := lims_at hp n w (i + 1) (by rw [pow2_succ]; have := pow2_pos i; omega) (by omega) j l h
      rw [show i + (j + 1) = i + 1 + j by omega]
      omega
theorem lims_inc {p : Int} (hp : p = 2 ∨ p = 4 ∨ p = 8) : ∀ (n : Nat) (low : Int) (i : Nat), low + 1 ≤ 2 ^ i → -1 ≤ low → ∀ (a b : Nat) (x y : Int), a < b → (limsL p low (i + 1) n)[a]? = some x → (limsL p low (i + 1) n)[b]? = some y → x < y
  | 0, _, _, _, _, _, _, _, _, _, h, _ => by simp [limsL] at h
  | n + 1, low, i, h1, h2, a, b, x, y, hab, hx, hy => by
    obtain ⟨d1, d2⟩ := div_le hp i
    rw [limsL] at hx hy
    have hm : low < (if (2 : Int) ^ (i + 1) / p > low + 1 then 2 ^ (i + 1) / p else low + 1) ∧ (if (2 : Int) ^ (i + 1) / p > low + 1 then 2 ^ (i + 1) / p else low + 1) ≤ 2 ^ i := by
      split <;> omega
    generalize (if (2 : Int) ^ (i + 1) / p > low + 1 then 2 ^ (i + 1) / p else low + 1) = w at hx hy hm
    have hw : w + 1 ≤ 2 ^ (i + 1) := by
      rw [pow2_succ]
      have := pow2_pos i
      omega
    cases b with
    | zero => omega
    | succ b =>
      simp only [List.getElem?_cons_succ] at hy
      cases a with
      | zero =>
        simp only [List.getElem?_cons_zero, Option.some.injEq] at hx
        subst hx
        exact (lims_at hp n w (i + 1) hw (by omega) b y hy).1
      | succ a =>
        simp only [List.getElem?_cons_succ] at hx
        exact lims_inc hp n w (i + 1) hw (by omega) a b x y (by omega) hx hy
theorem filt (size : Int) : ∀ (xs : List Int) (L : Nat), (∀ i a, i < L → xs[i]? = some a → a < size) → (∀ i a, L ≤ i → xs[i]? = some a → size ≤ a) → xs.filter (fun x => decide (size ≤ x)) = xs.drop L
  | [], L, _, _ => by simp
  | x :: xs, 0, h1, h2 => by
    have hx := h2 0 x (Nat.le_refl _) rfl
    have ih := filt size xs 0 (fun i a h => by omega) (fun i a _ ha => h2 (i + 1) a (by omega) (by simpa using ha))
    rw [List.filter_cons_of_pos (by simpa using hx), ih]
    rfl
  | x :: xs, L + 1, h1, h2 => by
    have hx := h1 0 x (by omega) rfl
    have ih := filt size xs L (fun i a h ha => h1 (i + 1) a (by omega) (by simpa using ha)) (fun i a h ha => h2 (i + 1) a (by omega) (by simpa using ha))
    rw [List.filter_cons_of_neg (by simp; omega), ih]
    rfl
theorem sumI_ints : ∀ xs : List Int, sumI (xs.map .int) = some xs.sum
  | [] => rfl
  | x :: xs => by simp [sumI, sumI_ints xs]
/-- one table -/
structure Tb (many : Nat) (ls : List Int) : Prop where
  m2 : 2 ≤ many
  m40 : many ≤ 40
  len : ls.length = many - 1
  pos : ∀ (j : Nat) (l : Int), ls[j]? = some l → -1 < l ∧ l ≤ 2 ^ j
  inc : ∀ (a b : Nat) (x y : Int), a < b → ls[a]? = some x → ls[b]? = some y → x < y
theorem tb_of {many : Nat} {p : Int} (h2 : 2 ≤ many) (h40 : many ≤ 40) (hp : p = 2 ∨ p = 4 ∨ p = 8) : Tb many (limsL p (-1) 1 (many - 1)) := by
  refine ⟨h2, h40, limsL_len _ _ _ _, fun j l h => ?_, fun a b x y => ?_⟩
  · have := lims_at hp (many - 1) (-1) 0 (by decide) (by decide) j l h
    rwa [Nat.zero_add] at this
  · exact lims_inc hp (many - 1) (-1) 0 (by decide) (by decide) a b x y
section
variable {many : Nat} {ls : List Int} {fx size : Int}
theorem caps_len : (caps many).length = many := by simp [caps]
theorem P_at (T : Tb many ls) {i : Nat} {q : Int × Int} (h : ((caps many).zip ls)[i]? = some q) : i < many - 1 ∧ q.1 = 2 ^ i ∧ ls[i]? = some q.2 := by
  obtain ⟨a, b⟩ := q
  rw [List.getElem?_zip_eq_some] at h
  obtain ⟨h1, h2⟩ := h
  have := (List.getElem?_eq_some_iff.1 h2).1
  rw [T.len] at this
  exact ⟨this, (caps_at.1 h1).2, h2⟩
theorem P_get (T : Tb many ls) {i : Nat} (hi : i < many - 1) : ∃ l, ls[i]? = some l ∧ ((caps many).zip ls)[i]? = some (2 ^ i, l) := by
  have h1 : (caps many)[i]? = some (2 ^ i) := caps_at.2 ⟨by omega, rfl⟩
  obtain ⟨l, hl⟩ : ∃ l, ls[i]? = some l := ⟨_, List.getElem?_eq_getElem (by rw [T.len]; exact hi)⟩
  exact ⟨l, hl, List.getElem?_zip_eq_some.2 ⟨h1, hl⟩⟩
theorem P_len (T : Tb many ls) : ((caps many).zip ls).length = many - 1 := by
  rw [List.length_zip, caps_len, T.len]
  omega
theorem up_caps (T : Tb many ls) : ∀ L, L ≤ many - 1 → upC ((caps many).zip ls) 0 L = 2 ^ L - 1
  | 0, _ => by rw [upC_same]; rfl
  | L + 1, h => by
    obtain ⟨l, _, hl⟩ := P_get T (i := L) (by omega)
    rw [upC_step (Nat.zero_le _) hl, up_caps T L (by omega), pow2_succ]
    simp only
    omega
theorem dn_caps (T : Tb many ls) (L : Nat) : dnC ((caps many).zip ls) L (many - 1) = (ls.drop L).sum := by
  unfold dnC
  rw [List.take_of_length_le (by rw [P_len T]; exact Nat.le_refl _), List.map_drop]
  congr 2
  exact List.map_snd_zip (by rw [T.len, caps_len]; omega)
theorem last_caps (T : Tb many ls) : (caps many).getLast? = some (2 ^ (many - 1)) := by
  rw [List.getLast?_eq_getElem?, caps_len]
  have := T.m2
  exact caps_at.2 ⟨by omega, rfl⟩
/-- where a push from nothing ends -/
theorem push_end (T : Tb many ls) (h1 : 1 ≤ size) (h2 : size ≤ 2 ^ (many - 1)) {t : St} (h : Runs ((caps many).zip ls) fx (0, 0, 0) [(true, size)] t) :
    t.1 < many ∧ size ≤ 2 ^ t.1 ∧ (∀ i, i < t.1 → (2 : Int) ^ i < size) ∧ t.2.1 = size ∧ t.2.2 = 2 ^ t.1 - 1 + t.1 * fx := by
  obtain ⟨u, hs, rfl⟩ := h
  simp only [Step, P_len T] at hs
  obtain ⟨_, a2, a3, a4, a5, a6⟩ := hs
  have hm := T.m2
  refine ⟨by omega, ?_, ?_, by omega, ?_⟩
  · rcases Nat.lt_or_ge u.1 (many - 1) with h | h
    · obtain ⟨l, _, hl⟩ := P_get T h
      have := a5 _ hl
      simp only at this
      omega
    · have : u.1 = many - 1 := by omega
      rw [this]
      exact h2
  · intro i hi
    obtain ⟨l, _, hl⟩ := P_get T (i := i) (by omega)
    have := a4 i (Nat.zero_le _) hi _ hl
    simp only at this
    omega
  · rw [a6, up_caps T _ a2]
    simp
theorem end_one {L L' : Nat} (h1 : size ≤ 2 ^ L) (h2 : ∀ i, i < L → (2 : Int) ^ i < size) (h1' : size ≤ 2 ^ L') (h2' : ∀ i, i < L' → (2 : Int) ^ i < size) : L = L' := by
  rcases Nat.lt_trichotomy L L' with h | h | h
  · have := h2' L h
    omega
  · exact h
  · have := h2 L' h
    omega
theorem top_le (T : Tb many ls) : (2 : Int) ^ (many - 1) ≤ 1000000000000000000 := by
  have h := pow2_le (a := many - 1) (b := 39) (by have := T.m40; omega)
  have e : (2 : Int) ^ 39 = 549755813888 := by decide
  omega
theorem facts1 (T : Tb many ls) (h1 : 1 ≤ size) (h2 : size ≤ 2 ^ (many - 1)) : ∃ L : Nat, L < many ∧
    (∀ k m, callN Dt (k + 1) 20 [.tup ((caps many).map .int), .int size] m = .ok (.int L) m) ∧
    (∀ k m, callN Dt (k + 6) 14 [pol (caps many) ls fx, .tup [.int 0, .int 0], .tup [.tup [.str (Str.ofString "push"), .int size]]] m = .ok (.tup [.int L, .int size]) m) ∧
    (∀ k m, callN Dt (k + 6) 15 [pol (caps many) ls fx, .tup [.int 0, .int 0], .tup [.tup [.str (Str.ofString "push"), .int size]]] m = .ok (.int (2 ^ L - 1 + L * fx)) m) := by
  have hm := T.m40
  have hok : ∀ o, o ∈ [(true, size)] → okOp o := by
    intro o ho
    simp only [List.mem_singleton] at ho
    subst ho
    have := top_le T
    exact ⟨h1, by simp only; omega⟩
  have hgo : goesAll (2 ^ (many - 1)) 0 [(true, size)] := ⟨by simp only [goes]; omega, trivial⟩
  have A := fun k m => after_sp (k := k) (m := m) (ls := ls) (fx := fx) (lv := 0) (by rw [caps_len]; omega) (last_caps T) (Nat.zero_le _) hok (by simp) hgo
  have B := fun k m => cost_sp (k := k) (m := m) (ls := ls) (fx := fx) (lv := 0) (by rw [caps_len]; omega) (last_caps T) (Nat.zero_le _) hok (by simp) hgo
  obtain ⟨t, ht, _⟩ := A 0 []
  obtain ⟨c1, c2, c3, c4, c5⟩ := push_end T h1 h2 ht
  refine ⟨t.1, c1, fun k m => level_sp hm c1 c2 c3, fun k m => ?_, fun k m => ?_⟩
  · obtain ⟨u, hu, e⟩ := A k m
    obtain ⟨d1, d2, d3, d4, d5⟩ := push_end T h1 h2 hu
    rw [end_one c2 c3 d2 d3]
    rw [d4] at e
    exact e
  · obtain ⟨u, hu, e⟩ := B k m
    obtain ⟨d1, d2, d3, d4, d5⟩ := push_end T h1 h2 hu
    rw [end_one c2 c3 d2 d3, ← d5]
    exact e
def gone (ls : List Int) (size : Int) : List Int := ls.filter fun x => decide (size ≤ x)
def prs (size top : Int) : List (Bool × Int) := if size < top then [(true, top), (false, top - size)] else [(true, top)]
theorem prs_end (T : Tb many ls) (h1 : 1 ≤ size) (h2 : size ≤ 2 ^ (many - 1)) {t : St} (h : Runs ((caps many).zip ls) fx (0, 0, 0) (prs size (2 ^ (many - 1))) t) :
    (t.1 : Int) = many - 1 - (gone ls size).length ∧ t.2.1 = size ∧ t.2.2 = 2 ^ (many - 1) - 1 + (many - 1 : Int) * fx + (gone ls size).sum + (gone ls size).length * fx := by
  have hm := T.m2
  have htop : (1 : Int) ≤ 2 ^ (many - 1) := pow2_pos _
  -- the push comes first
  have hpush : ∀ u, Step ((caps many).zip ls) fx (0, 0, 0) (true, 2 ^ (many - 1)) u → u = (many - 1, 2 ^ (many - 1), 2 ^ (many - 1) - 1 + (many - 1 : Int) * fx) := by
    intro u hu
    obtain ⟨d1, d2, d3, d4, d5⟩ := push_end (fx := fx) (size := 2 ^ (many - 1)) T htop (Int.le_refl _) ⟨u, hu, rfl⟩
    have e : u.1 = many - 1 := by
      rcases Nat.lt_or_ge u.1 (many - 1) with h | h
      · have := pow2_lt h
        omega
      · omega
    obtain ⟨u1, u2, u3⟩ := u
    simp only at e d4 d5
    subst e d4 d5
    simp only [Prod.mk.injEq, true_and]
    rw [show ((many - 1 : Nat) : Int) = (many : Int) - 1 by omega]
  have hfin : ∀ L : Nat, L ≤ many - 1 → (∀ i, L ≤ i → i < many - 1 → ∀ p, ((caps many).zip ls)[i]? = some p → size ≤ p.2) → (∀ i p, L = i + 1 → ((caps many).zip ls)[i]? = some p → p.2 < size) → gone ls size = ls.drop L := by
    intro L hL g1 g2
    refine filt size ls L (fun i a hi ha => ?_) (fun i a hi ha => ?_)
    · cases L with
      | zero => omega
      | succ L =>
        obtain ⟨l, hl, hq⟩ := P_get T (i := L) (by omega)
        have := g2 L _ rfl hq
        simp only at this
        rcases Nat.lt_or_ge i L with h | h
        · have := T.inc i L a l h ha hl
          omega
        · have : i = L := by omega
          subst this
          rw [hl] at ha
          cases ha
          exact this
    · have hi2 := (List.getElem?_eq_some_iff.1 ha).1
      rw [T.len] at hi2
      obtain ⟨l, hl, hq⟩ := P_get T hi2
      rw [hl] at ha
      cases ha
      exact g1 i hi hi2 _ hq
  unfold prs at h
  by_cases hs : size < 2 ^ (many - 1)
  · rw [if_pos hs] at h
    obtain ⟨u, hu, v, hv, rfl⟩ := h
    rw [hpush u hu] at hv
    simp only [Step] at hv
    obtain ⟨b1, b2, b3, b4, b5⟩ := hv
    have e1 : (2 : Int) ^ (many - 1) - (2 ^ (many - 1) - size) = size := by omega
    rw [e1] at b2 b3 b4
    have hg := hfin v.1 b1 b3 b4
    have hgl : (gone ls size).length = many - 1 - v.1 := by rw [hg, List.length_drop, T.len]
    refine ⟨by rw [hgl]; omega, b2, ?_⟩
    rw [b5, dn_caps T, ← hg, hgl]
    have : ((many - 1 - v.1 : Nat) : Int) = ((many - 1 : Nat) : Int) - v.1 := by omega
    rw [this]
  · rw [if_neg hs] at h
    obtain ⟨u, hu, rfl⟩ := h
    have hsz : size = 2 ^ (many - 1) := by omega
    rw [hpush u hu]
    have hg : gone ls size = ls.drop (many - 1) := hfin (many - 1) (Nat.le_refl _) (fun i h1 h2 => by omega) (fun i p hi hp => by
      obtain ⟨q1, q2, q3⟩ := P_at T hp
      have := (T.pos _ _ q3).2
      have := pow2_lt q1
      omega)
    have hg0 : gone ls size = [] := by
      rw [hg, List.drop_eq_nil_of_le (by rw [T.len]; exact Nat.le_refl _)]
    rw [hg0]
    refine ⟨?_, hsz.symm, ?_⟩
    · simp only [List.length_nil]
      omega
    · simp
theorem facts2 (T : Tb many ls) (h1 : 1 ≤ size) (h2 : size ≤ 2 ^ (many - 1)) :
    (∀ k m, callN Dt (k + 6) 14 [pol (caps many) ls fx, .tup [.int 0, .int 0], .tup ((prs size (2 ^ (many - 1))).map opD)] m = .ok (.tup [.int (many - 1 - (gone ls size).length), .int size]) m) ∧
    (∀ k m, callN Dt (k + 6) 15 [pol (caps many) ls fx, .tup [.int 0, .int 0], .tup ((prs size (2 ^ (many - 1))).map opD)] m = .ok (.int (2 ^ (many - 1) - 1 + (many - 1 : Int) * fx + (gone ls size).sum + (gone ls size).length * fx)) m) := by
  have hm := T.m40
  have htop : (1 : Int) ≤ 2 ^ (many - 1) := pow2_pos _
  have htl := top_le T
  have hok : ∀ o, o ∈ prs size (2 ^ (many - 1)) → okOp o := by
    intro o ho
    unfold prs at ho
    split at ho
    · simp only [List.mem_cons, List.not_mem_nil, or_false] at ho
      rcases ho with rfl | rfl
      · exact ⟨htop, htl⟩
      · exact ⟨by simp only; omega, by simp only; omega⟩
    · simp only [List.mem_singleton] at ho
      subst ho
      exact ⟨htop, htl⟩
  have hgo : goesAll (2 ^ (many - 1)) 0 (prs size (2 ^ (many - 1))) := by
    unfold prs
    split
    · refine ⟨by simp only [goes]; omega, ?_, trivial⟩
      simp only [goes, if_true]
      omega
    · exact ⟨by simp only [goes]; omega, trivial⟩
  have hpl : (prs size (2 ^ (many - 1))).length ≤ 200 := by
    unfold prs
    split <;> simp
  refine ⟨fun k m => ?_, fun k m => ?_⟩
  · obtain ⟨t, ht, e⟩ := after_sp (k := k) (m := m) (ls := ls) (fx := fx) (lv := 0) (by rw [caps_len]; omega) (last_caps T) (Nat.zero_le _) hok hpl hgo
    obtain ⟨d1, d2, d3⟩ := prs_end T h1 h2 ht
    rw [← d1, ← d2]
    rw [d2]
    rw [d2] at e
    exact e
  · obtain ⟨t, ht, e⟩ := cost_sp (k := k) (m := m) (ls := ls) (fx := fx) (lv := 0) (by rw [caps_len]; omega) (last_caps T) (Nat.zero_le _) hok hpl hgo
    obtain ⟨d1, d2, d3⟩ := prs_end T h1 h2 ht
    rw [← d3]
    exact e
end
end G.K13
set_option maxRecDepth 100000
set_option maxHeartbeats 4000000
namespace G.K13
open PySem G
theorem ne_ok {x y : Int} {m : Hs} {Q : D → Hs → Prop} (h : x = y) : (cmpS .ne (.int x) (.int y) m).sat Q = Q (.bl false) m := by
  rw [k_neI]
  subst h
  simp
theorem ne_pair {a b c d : Int} {m : Hs} {Q : D → Hs → Prop} (h : a = c) (h2 : b = d) : (cmpS .ne (.tup [.int a, .int b]) (.tup [.int c, .int d]) m).sat Q = Q (.bl false) m := by
  rw [k_ne, eq_pair, oSat_some]
  subst h h2
  simp
theorem gone_map (ls : List Int) (size : Int) : (ls.map D.int).filterMap (fun x => match x with | .int j => if size ≤ j then some (.int j) else none | _ => none) = (gone ls size).map D.int := by
  unfold gone
  induction ls with
  | nil => rfl
  | cons l ls ih =>
    by_cases h : size ≤ l
    · simp [h, ih]
    · simp [h, ih]
theorem law_true (ns : List Int) (hl : ns.length ≤ 63) : ∃ m, callN Dt 12 21 [.fl (ns.map .int)] [] = .ok (.bl true) m := by
  have key : (callN Dt 12 21 [.fl (ns.map .int)] []).sat fun d m => d = .bl true := by
    refine fn_sat (fn := f_law) rfl rfl [some (.fl (ns.map .int)), none, none, none, none, none, none, none, none, none, none, none, none, none, none] rfl ?_
    show (evSs _ b_law _ _).sat _
    unfold b_law
    simp only [↓w_v0, ↓tg_n0, ↓v_au0, ↓w_v1, ↓tg_n1, ↓v_au1, ↓w_v2, ↓tg_n2, ↓v_au2, ↓w_v3, ↓tg_n3, ↓v_au3, ↓w_v4, ↓tg_n4, ↓v_au4, ↓w_v5, ↓tg_n5, ↓v_au5, ↓w_v6, ↓tg_n6, ↓v_au6, ↓w_v7, ↓tg_n7, ↓v_au7, ↓w_v8, ↓tg_n8, ↓v_au8, ↓w_v9, ↓tg_n9, ↓v_au9, ↓w_v10, ↓tg_n10, ↓v_au10, ↓w_v11, ↓tg_n11, ↓v_au11, ↓w_v12, ↓tg_n12, ↓v_au12, ↓w_v13, ↓tg_n13, ↓v_au13, ↓w_v14, ↓tg_n14, ↓v_au14, ↓w_v15, ↓tg_n15, ↓v_au15, ↓w_v16, ↓tg_n16, ↓v_au16, ↓w_v17, ↓tg_n17, ↓v_au17, ↓w_v18, ↓tg_n18, ↓v_au18, ↓w_v19, ↓tg_n19, ↓v_au19, ↓w_v20, ↓tg_n20, ↓v_au20, ↓w_v21, ↓tg_n21, ↓v_au21, ↓w_v22, ↓tg_n22, ↓v_au22, ↓w_v23, ↓tg_n23, ↓v_au23, ↓w_v24, ↓tg_n24, ↓v_au24, ↓w_v25, ↓tg_n25, ↓v_au25, ↓w_cst, ↓w_bin, ↓w_cmp, ↓w_neg, ↓w_not, ↓w_and, ↓w_or, ↓w_ite, ↓w_chn, ↓w_tup, ↓w_lst, ↓w_idx, ↓w_slc, ↓w_call, ↓w_bi, ↓w_fld, ↓w_meth, ↓w_make, ↓w_lc, ↓ws_nil, ↓ws_cons, ↓b_add, ↓b_sub, ↓b_mul, ↓b_fdiv, ↓b_mod, ↓b_pow, ↓b_shl, ↓b_addT, ↓k_lt, ↓k_le, ↓k_gt, ↓k_ge, ↓k_eqI, ↓k_neI, ↓k_eqStr, ↓k_neStr, ↓k_is, ↓k_isnot, ↓k_in, ↓k_notin, ↓isN_non, ↓isN_int, ↓isN_tup, ↓isN_ref, ↓isN_bl, ↓isN_str, ↓t_bl, ↓t_non, ↓t_int, ↓t_tup, ↓ix_t0, ↓ix_t1, ↓ix_t2, ↓ix_r0, ↓ix_r1, ↓ix_r2, ↓sl_tup, ↓sl_ref, ↓po_nil, ↓po_int, ↓f_lenT, ↓f_lenF, ↓f_lenR, ↓f_abs, ↓f_min, ↓f_max, ↓f_intB, ↓f_tupR, ↓f_sumR, ↓f_allR, ↓f_isiII, ↓f_isiIB, ↓f_isiTT, ↓f_isiSS, ↓negS_int, ↓chnS_bl, ↓nonS_non, ↓oSat_some, ↓insS_ref, ↓insS_app, ↓insS_set, ↓lstS_ref, ↓lstS_app, ↓lstS_set, ↓seq_nx, ↓seq_rt, ↓seq_bk, ↓seq_ct, ↓v_nil, ↓v_cons, ↓v_pass, ↓v_exp, ↓v_ret, ↓v_retN, ↓v_brk, ↓v_cnt, ↓v_ife, ↓v_asg, ↓v_asg2, ↓v_par, ↓v_par3, ↓v_ifw, ↓v_app, ↓v_ext, ↓v_augF, ↓v_for, ↓v_whl, ↓tq_fld, ↓tq_sub, ↓tq_tp, ↓tqs_nil, ↓tqs_cons, ↓tupS_tup, ↓pl_0, ↓pl_1, ↓pl_2, ↓g_add, ↓g_sub, ↓turn_nx, ↓turn_ct, ↓turn_bk, ↓turn_rt, ↓end_rt, ↓end_nx, ↓it_rng1, ↓it_rng2, ↓it_seqT, ↓it_seqF, ↓it_seqR, ↓it_enumT, ↓it_zipT, ↓ix_s0, ↓ix_s1, ↓ix_s2, ↓ix_sa0, ↓ix_sa1, ↓ix_sa2, ↓ix_new, ↓f_lenN, ↓f_tupN, ↓f_sumN, ↓f_allN, ↓sat_ok, ↓List.set_set, List.length_set, true_and, and_true, and_self, set_0, set_1, set_2]
    generalize hcount : (if (if ((ns.map D.int).length : Int) < 3 then ((ns.map D.int).length : Int) else 3) > 1 then (if ((ns.map D.int).length : Int) < 3 then ((ns.map D.int).length : Int) else 3) else 1) = count
    have hc3 : count ≤ 3 := by
      rw [← hcount]
      split <;> split <;> omega
    have hc0 : 0 ≤ count := by
      rw [← hcount]
      split <;> split <;> omega
    refine ⟨⟨by omega, by omega⟩, ?_⟩
    refine forL_rule (fun xs r h => ∃ (i t : Nat) (rs : Rho), xs = rngL i t ∧ i + t ≤ 3 ∧ r = some (.fl (ns.map .int)) :: rs ∧ rs.length = 14) ?_ ?_ _ _ _ ⟨0, count.toNat, _, rfl, by omega, rfl, rfl⟩
    · rintro x xs r h ⟨i, t, rs, hx, hit, rfl, hrs⟩
      cases t with
      | zero => cases hx
      | succ t =>
        rw [rngL_succ] at hx
        obtain ⟨rfl, rfl⟩ := List.cons.inj hx
        match rs, hrs with
        | [r1, r2, r3, r4, r5, r6, r7, r8, r9, r10, r11, r12, r13, r14], _ =>
        refine ⟨rfl, [some (.fl (ns.map .int)), some (.int i), r2, r3, r4, r5, r6, r7, r8, r9, r10, r11, r12, r13, r14], rfl, ?_⟩
        simp only [↓w_v0, ↓tg_n0, ↓v_au0, ↓w_v1, ↓tg_n1, ↓v_au1, ↓w_v2, ↓tg_n2, ↓v_au2, ↓w_v3, ↓tg_n3, ↓v_au3, ↓w_v4, ↓tg_n4, ↓v_au4, ↓w_v5, ↓tg_n5, ↓v_au5, ↓w_v6, ↓tg_n6, ↓v_au6, ↓w_v7, ↓tg_n7, ↓v_au7, ↓w_v8, ↓tg_n8, ↓v_au8, ↓w_v9, ↓tg_n9, ↓v_au9, ↓w_v10, ↓tg_n10, ↓v_au10, ↓w_v11, ↓tg_n11, ↓v_au11, ↓w_v12, ↓tg_n12, ↓v_au12, ↓w_v13, ↓tg_n13, ↓v_au13, ↓w_v14, ↓tg_n14, ↓v_au14, ↓w_v15, ↓tg_n15, ↓v_au15, ↓w_v16, ↓tg_n16, ↓v_au16, ↓w_v17, ↓tg_n17, ↓v_au17, ↓w_v18, ↓tg_n18, ↓v_au18, ↓w_v19, ↓tg_n19, ↓v_au19, ↓w_v20, ↓tg_n20, ↓v_au20, ↓w_v21, ↓tg_n21, ↓v_au21, ↓w_v22, ↓tg_n22, ↓v_au22, ↓w_v23, ↓tg_n23, ↓v_au23, ↓w_v24, ↓tg_n24, ↓v_au24, ↓w_v25, ↓tg_n25, ↓v_au25, ↓w_cst, ↓w_bin, ↓w_cmp, ↓w_neg, ↓w_not, ↓w_and, ↓w_or, ↓w_ite, ↓w_chn, ↓w_tup, ↓w_lst, ↓w_idx, ↓w_slc, ↓w_call, ↓w_bi, ↓w_fld, ↓w_meth, ↓w_make, ↓w_lc, ↓ws_nil, ↓ws_cons, ↓b_add, ↓b_sub, ↓b_mul, ↓b_fdiv, ↓b_mod, ↓b_pow, ↓b_shl, ↓b_addT, ↓k_lt, ↓k_le, ↓k_gt, ↓k_ge, ↓k_eqI, ↓k_neI, ↓k_eqStr, ↓k_neStr, ↓k_is, ↓k_isnot, ↓k_in, ↓k_notin, ↓isN_non, ↓isN_int, ↓isN_tup, ↓isN_ref, ↓isN_bl, ↓isN_str, ↓t_bl, ↓t_non, ↓t_int, ↓t_tup, ↓ix_t0, ↓ix_t1, ↓ix_t2, ↓ix_r0, ↓ix_r1, ↓ix_r2, ↓sl_tup, ↓sl_ref, ↓po_nil, ↓po_int, ↓f_lenT, ↓f_lenF, ↓f_lenR, ↓f_abs, ↓f_min, ↓f_max, ↓f_intB, ↓f_tupR, ↓f_sumR, ↓f_allR, ↓f_isiII, ↓f_isiIB, ↓f_isiTT, ↓f_isiSS, ↓negS_int, ↓chnS_bl, ↓nonS_non, ↓oSat_some, ↓insS_ref, ↓insS_app, ↓insS_set, ↓lstS_ref, ↓lstS_app, ↓lstS_set, ↓seq_nx, ↓seq_rt, ↓seq_bk, ↓seq_ct, ↓v_nil, ↓v_cons, ↓v_pass, ↓v_exp, ↓v_ret, ↓v_retN, ↓v_brk, ↓v_cnt, ↓v_ife, ↓v_asg, ↓v_asg2, ↓v_par, ↓v_par3, ↓v_ifw, ↓v_app, ↓v_ext, ↓v_augF, ↓v_for, ↓v_whl, ↓tq_fld, ↓tq_sub, ↓tq_tp, ↓tqs_nil, ↓tqs_cons, ↓tupS_tup, ↓pl_0, ↓pl_1, ↓pl_2, ↓g_add, ↓g_sub, ↓turn_nx, ↓turn_ct, ↓turn_bk, ↓turn_rt, ↓end_rt, ↓end_nx, ↓it_rng1, ↓it_rng2, ↓it_seqT, ↓it_seqF, ↓it_seqR, ↓it_enumT, ↓it_zipT, ↓ix_s0, ↓ix_s1, ↓ix_s2, ↓ix_sa0, ↓ix_sa1, ↓ix_sa2, ↓ix_new, ↓f_lenN, ↓f_tupN, ↓f_sumN, ↓f_allN, ↓sat_ok, ↓List.set_set, List.length_set, true_and, and_true, and_self, set_0, set_1, set_2]
        refine (draws_sp (by omega) (by omega)).imp ?_
        rintro d m1 ⟨o, rfl, e1, hd⟩
        generalize h.length = n at *
        clear e1
        refine ⟨⟨by decide, by decide⟩, ?_⟩
        refine forL_rule (fun xs r h => ∃ (j s : Nat) (rs : Rho), xs = rngL j s ∧ j + s ≤ 3 ∧ r = some (.fl (ns.map .int)) :: some (.int i) :: some (.ref n) :: rs ∧ rs.length = 12 ∧ Drw h n (6 * j)) ?_ ?_ _ _ _ ⟨0, 3, _, rfl, by omega, rfl, rfl, by simpa using hd⟩
        · clear hd
          rintro x xs r h2 ⟨j, s, rs, hx, hjs, rfl, hrs, hd⟩
          cases s with
          | zero => cases hx
          | succ s =>
            rw [rngL_succ] at hx
            obtain ⟨rfl, rfl⟩ := List.cons.inj hx
            match rs, hrs with
            | [r3, r4, r5, r6, r7, r8, r9, r10, r11, r12, r13, r14], _ =>
            refine ⟨rfl, [some (.fl (ns.map .int)), some (.int i), some (.ref n), some (.int j), r4, r5, r6, r7, r8, r9, r10, r11, r12, r13, r14], rfl, ?_⟩
            simp only [↓w_v0, ↓tg_n0, ↓v_au0, ↓w_v1, ↓tg_n1, ↓v_au1, ↓w_v2, ↓tg_n2, ↓v_au2, ↓w_v3, ↓tg_n3, ↓v_au3, ↓w_v4, ↓tg_n4, ↓v_au4, ↓w_v5, ↓tg_n5, ↓v_au5, ↓w_v6, ↓tg_n6, ↓v_au6, ↓w_v7, ↓tg_n7, ↓v_au7, ↓w_v8, ↓tg_n8, ↓v_au8, ↓w_v9, ↓tg_n9, ↓v_au9, ↓w_v10, ↓tg_n10, ↓v_au10, ↓w_v11, ↓tg_n11, ↓v_au11, ↓w_v12, ↓tg_n12, ↓v_au12, ↓w_v13, ↓tg_n13, ↓v_au13, ↓w_v14, ↓tg_n14, ↓v_au14, ↓w_v15, ↓tg_n15, ↓v_au15, ↓w_v16, ↓tg_n16, ↓v_au16, ↓w_v17, ↓tg_n17, ↓v_au17, ↓w_v18, ↓tg_n18, ↓v_au18, ↓w_v19, ↓tg_n19, ↓v_au19, ↓w_v20, ↓tg_n20, ↓v_au20, ↓w_v21, ↓tg_n21, ↓v_au21, ↓w_v22, ↓tg_n22, ↓v_au22, ↓w_v23, ↓tg_n23, ↓v_au23, ↓w_v24, ↓tg_n24, ↓v_au24, ↓w_v25, ↓tg_n25, ↓v_au25, ↓w_cst, ↓w_bin, ↓w_cmp, ↓w_neg, ↓w_not, ↓w_and, ↓w_or, ↓w_ite, ↓w_chn, ↓w_tup, ↓w_lst, ↓w_idx, ↓w_slc, ↓w_call, ↓w_bi, ↓w_fld, ↓w_meth, ↓w_make, ↓w_lc, ↓ws_nil, ↓ws_cons, ↓b_add, ↓b_sub, ↓b_mul, ↓b_fdiv, ↓b_mod, ↓b_pow, ↓b_shl, ↓b_addT, ↓k_lt, ↓k_le, ↓k_gt, ↓k_ge, ↓k_eqI, ↓k_neI, ↓k_eqStr, ↓k_neStr, ↓k_is, ↓k_isnot, ↓k_in, ↓k_notin, ↓isN_non, ↓isN_int, ↓isN_tup, ↓isN_ref, ↓isN_bl, ↓isN_str, ↓t_bl, ↓t_non, ↓t_int, ↓t_tup, ↓ix_t0, ↓ix_t1, ↓ix_t2, ↓ix_r0, ↓ix_r1, ↓ix_r2, ↓sl_tup, ↓sl_ref, ↓po_nil, ↓po_int, ↓f_lenT, ↓f_lenF, ↓f_lenR, ↓f_abs, ↓f_min, ↓f_max, ↓f_intB, ↓f_tupR, ↓f_sumR, ↓f_allR, ↓f_isiII, ↓f_isiIB, ↓f_isiTT, ↓f_isiSS, ↓negS_int, ↓chnS_bl, ↓nonS_non, ↓oSat_some, ↓insS_ref, ↓insS_app, ↓insS_set, ↓lstS_ref, ↓lstS_app, ↓lstS_set, ↓seq_nx, ↓seq_rt, ↓seq_bk, ↓seq_ct, ↓v_nil, ↓v_cons, ↓v_pass, ↓v_exp, ↓v_ret, ↓v_retN, ↓v_brk, ↓v_cnt, ↓v_ife, ↓v_asg, ↓v_asg2, ↓v_par, ↓v_par3, ↓v_ifw, ↓v_app, ↓v_ext, ↓v_augF, ↓v_for, ↓v_whl, ↓tq_fld, ↓tq_sub, ↓tq_tp, ↓tqs_nil, ↓tqs_cons, ↓tupS_tup, ↓pl_0, ↓pl_1, ↓pl_2, ↓g_add, ↓g_sub, ↓turn_nx, ↓turn_ct, ↓turn_bk, ↓turn_rt, ↓end_rt, ↓end_nx, ↓it_rng1, ↓it_rng2, ↓it_seqT, ↓it_seqF, ↓it_seqR, ↓it_enumT, ↓it_zipT, ↓ix_s0, ↓ix_s1, ↓ix_s2, ↓ix_sa0, ↓ix_sa1, ↓ix_sa2, ↓ix_new, ↓f_lenN, ↓f_tupN, ↓f_sumN, ↓f_allN, ↓sat_ok, ↓List.set_set, List.length_set, true_and, and_true, and_self, set_0, set_1, set_2]
            refine (table_sp hd (by omega)).imp ?_
            rintro d m2 ⟨many, p, fx, o2, hm2, hm40, hp, hf0, hf1, rfl, e1, ho2, hd2⟩
            have T := tb_of hm2 hm40 hp
            generalize limsL p (-1) 1 (many - 1) = ls at T
            clear e1
            have hlast : ((caps many).map D.int).getLast? = some (.int (2 ^ (many - 1))) := by
              rw [List.getLast?_map, last_caps T]
              rfl
            have htop := pow2_pos (many - 1)
            have htl := top_le T
            unfold pol
            simp only [↓w_v0, ↓tg_n0, ↓v_au0, ↓w_v1, ↓tg_n1, ↓v_au1, ↓w_v2, ↓tg_n2, ↓v_au2, ↓w_v3, ↓tg_n3, ↓v_au3, ↓w_v4, ↓tg_n4, ↓v_au4, ↓w_v5, ↓tg_n5, ↓v_au5, ↓w_v6, ↓tg_n6, ↓v_au6, ↓w_v7, ↓tg_n7, ↓v_au7, ↓w_v8, ↓tg_n8, ↓v_au8, ↓w_v9, ↓tg_n9, ↓v_au9, ↓w_v10, ↓tg_n10, ↓v_au10, ↓w_v11, ↓tg_n11, ↓v_au11, ↓w_v12, ↓tg_n12, ↓v_au12, ↓w_v13, ↓tg_n13, ↓v_au13, ↓w_v14, ↓tg_n14, ↓v_au14, ↓w_v15, ↓tg_n15, ↓v_au15, ↓w_v16, ↓tg_n16, ↓v_au16, ↓w_v17, ↓tg_n17, ↓v_au17, ↓w_v18, ↓tg_n18, ↓v_au18, ↓w_v19, ↓tg_n19, ↓v_au19, ↓w_v20, ↓tg_n20, ↓v_au20, ↓w_v21, ↓tg_n21, ↓v_au21, ↓w_v22, ↓tg_n22, ↓v_au22, ↓w_v23, ↓tg_n23, ↓v_au23, ↓w_v24, ↓tg_n24, ↓v_au24, ↓w_v25, ↓tg_n25, ↓v_au25, ↓w_cst, ↓w_bin, ↓w_cmp, ↓w_neg, ↓w_not, ↓w_and, ↓w_or, ↓w_ite, ↓w_chn, ↓w_tup, ↓w_lst, ↓w_idx, ↓w_slc, ↓w_call, ↓w_bi, ↓w_fld, ↓w_meth, ↓w_make, ↓w_lc, ↓ws_nil, ↓ws_cons, ↓b_add, ↓b_sub, ↓b_mul, ↓b_fdiv, ↓b_mod, ↓b_pow, ↓b_shl, ↓b_addT, ↓k_lt, ↓k_le, ↓k_gt, ↓k_ge, ↓k_eqI, ↓k_neI, ↓k_eqStr, ↓k_neStr, ↓k_is, ↓k_isnot, ↓k_in, ↓k_notin, ↓isN_non, ↓isN_int, ↓isN_tup, ↓isN_ref, ↓isN_bl, ↓isN_str, ↓t_bl, ↓t_non, ↓t_int, ↓t_tup, ↓ix_t0, ↓ix_t1, ↓ix_t2, ↓ix_r0, ↓ix_r1, ↓ix_r2, ↓sl_tup, ↓sl_ref, ↓po_nil, ↓po_int, ↓f_lenT, ↓f_lenF, ↓f_lenR, ↓f_abs, ↓f_min, ↓f_max, ↓f_intB, ↓f_tupR, ↓f_sumR, ↓f_allR, ↓f_isiII, ↓f_isiIB, ↓f_isiTT, ↓f_isiSS, ↓negS_int, ↓chnS_bl, ↓nonS_non, ↓oSat_some, ↓insS_ref, ↓insS_app, ↓insS_set, ↓lstS_ref, ↓lstS_app, ↓lstS_set, ↓seq_nx, ↓seq_rt, ↓seq_bk, ↓seq_ct, ↓v_nil, ↓v_cons, ↓v_pass, ↓v_exp, ↓v_ret, ↓v_retN, ↓v_brk, ↓v_cnt, ↓v_ife, ↓v_asg, ↓v_asg2, ↓v_par, ↓v_par3, ↓v_ifw, ↓v_app, ↓v_ext, ↓v_augF, ↓v_for, ↓v_whl, ↓tq_fld, ↓tq_sub, ↓tq_tp, ↓tqs_nil, ↓tqs_cons, ↓tupS_tup, ↓pl_0, ↓pl_1, ↓pl_2, ↓g_add, ↓g_sub, ↓turn_nx, ↓turn_ct, ↓turn_bk, ↓turn_rt, ↓end_rt, ↓end_nx, ↓it_rng1, ↓it_rng2, ↓it_seqT, ↓it_seqF, ↓it_seqR, ↓it_enumT, ↓it_zipT, ↓ix_s0, ↓ix_s1, ↓ix_s2, ↓ix_sa0, ↓ix_sa1, ↓ix_sa2, ↓ix_new, ↓f_lenN, ↓f_tupN, ↓f_sumN, ↓f_allN, ↓sat_ok, ↓List.set_set, List.length_set, true_and, and_true, and_self, set_0, set_1, set_2, ↓ix_last hlast]
            refine ⟨rfl, ?_⟩
            refine (below_sp hd2 (by omega) htop (by omega)).imp ?_
            rintro d m3 ⟨v, o3, rfl, hv0, hv1, e1, ho3, hd3⟩
            clear e1
            simp only [↓w_v0, ↓tg_n0, ↓v_au0, ↓w_v1, ↓tg_n1, ↓v_au1, ↓w_v2, ↓tg_n2, ↓v_au2, ↓w_v3, ↓tg_n3, ↓v_au3, ↓w_v4, ↓tg_n4, ↓v_au4, ↓w_v5, ↓tg_n5, ↓v_au5, ↓w_v6, ↓tg_n6, ↓v_au6, ↓w_v7, ↓tg_n7, ↓v_au7, ↓w_v8, ↓tg_n8, ↓v_au8, ↓w_v9, ↓tg_n9, ↓v_au9, ↓w_v10, ↓tg_n10, ↓v_au10, ↓w_v11, ↓tg_n11, ↓v_au11, ↓w_v12, ↓tg_n12, ↓v_au12, ↓w_v13, ↓tg_n13, ↓v_au13, ↓w_v14, ↓tg_n14, ↓v_au14, ↓w_v15, ↓tg_n15, ↓v_au15, ↓w_v16, ↓tg_n16, ↓v_au16, ↓w_v17, ↓tg_n17, ↓v_au17, ↓w_v18, ↓tg_n18, ↓v_au18, ↓w_v19, ↓tg_n19, ↓v_au19, ↓w_v20, ↓tg_n20, ↓v_au20, ↓w_v21, ↓tg_n21, ↓v_au21, ↓w_v22, ↓tg_n22, ↓v_au22, ↓w_v23, ↓tg_n23, ↓v_au23, ↓w_v24, ↓tg_n24, ↓v_au24, ↓w_v25, ↓tg_n25, ↓v_au25, ↓w_cst, ↓w_bin, ↓w_cmp, ↓w_neg, ↓w_not, ↓w_and, ↓w_or, ↓w_ite, ↓w_chn, ↓w_tup, ↓w_lst, ↓w_idx, ↓w_slc, ↓w_call, ↓w_bi, ↓w_fld, ↓w_meth, ↓w_make, ↓w_lc, ↓ws_nil, ↓ws_cons, ↓b_add, ↓b_sub, ↓b_mul, ↓b_fdiv, ↓b_mod, ↓b_pow, ↓b_shl, ↓b_addT, ↓k_lt, ↓k_le, ↓k_gt, ↓k_ge, ↓k_eqI, ↓k_neI, ↓k_eqStr, ↓k_neStr, ↓k_is, ↓k_isnot, ↓k_in, ↓k_notin, ↓isN_non, ↓isN_int, ↓isN_tup, ↓isN_ref, ↓isN_bl, ↓isN_str, ↓t_bl, ↓t_non, ↓t_int, ↓t_tup, ↓ix_t0, ↓ix_t1, ↓ix_t2, ↓ix_r0, ↓ix_r1, ↓ix_r2, ↓sl_tup, ↓sl_ref, ↓po_nil, ↓po_int, ↓f_lenT, ↓f_lenF, ↓f_lenR, ↓f_abs, ↓f_min, ↓f_max, ↓f_intB, ↓f_tupR, ↓f_sumR, ↓f_allR, ↓f_isiII, ↓f_isiIB, ↓f_isiTT, ↓f_isiSS, ↓negS_int, ↓chnS_bl, ↓nonS_non, ↓oSat_some, ↓insS_ref, ↓insS_app, ↓insS_set, ↓lstS_ref, ↓lstS_app, ↓lstS_set, ↓seq_nx, ↓seq_rt, ↓seq_bk, ↓seq_ct, ↓v_nil, ↓v_cons, ↓v_pass, ↓v_exp, ↓v_ret, ↓v_retN, ↓v_brk, ↓v_cnt, ↓v_ife, ↓v_asg, ↓v_asg2, ↓v_par, ↓v_par3, ↓v_ifw, ↓v_app, ↓v_ext, ↓v_augF, ↓v_for, ↓v_whl, ↓tq_fld, ↓tq_sub, ↓tq_tp, ↓tqs_nil, ↓tqs_cons, ↓tupS_tup, ↓pl_0, ↓pl_1, ↓pl_2, ↓g_add, ↓g_sub, ↓turn_nx, ↓turn_ct, ↓turn_bk, ↓turn_rt, ↓end_rt, ↓end_nx, ↓it_rng1, ↓it_rng2, ↓it_seqT, ↓it_seqF, ↓it_seqR, ↓it_enumT, ↓it_zipT, ↓ix_s0, ↓ix_s1, ↓ix_s2, ↓ix_sa0, ↓ix_sa1, ↓ix_sa2, ↓ix_new, ↓f_lenN, ↓f_tupN, ↓f_sumN, ↓f_allN, ↓sat_ok, ↓List.set_set, List.length_set, true_and, and_true, and_self, set_0, set_1, set_2, List.length_map, caps_len]
            refine (below_sp hd3 (by omega) (by omega) (by omega)).imp ?_
            rintro d m4 ⟨w, o4, rfl, hw0, hw1, e1, ho4, hd4⟩
            clear e1
            simp only [↓w_v0, ↓tg_n0, ↓v_au0, ↓w_v1, ↓tg_n1, ↓v_au1, ↓w_v2, ↓tg_n2, ↓v_au2, ↓w_v3, ↓tg_n3, ↓v_au3, ↓w_v4, ↓tg_n4, ↓v_au4, ↓w_v5, ↓tg_n5, ↓v_au5, ↓w_v6, ↓tg_n6, ↓v_au6, ↓w_v7, ↓tg_n7, ↓v_au7, ↓w_v8, ↓tg_n8, ↓v_au8, ↓w_v9, ↓tg_n9, ↓v_au9, ↓w_v10, ↓tg_n10, ↓v_au10, ↓w_v11, ↓tg_n11, ↓v_au11, ↓w_v12, ↓tg_n12, ↓v_au12, ↓w_v13, ↓tg_n13, ↓v_au13, ↓w_v14, ↓tg_n14, ↓v_au14, ↓w_v15, ↓tg_n15, ↓v_au15, ↓w_v16, ↓tg_n16, ↓v_au16, ↓w_v17, ↓tg_n17, ↓v_au17, ↓w_v18, ↓tg_n18, ↓v_au18, ↓w_v19, ↓tg_n19, ↓v_au19, ↓w_v20, ↓tg_n20, ↓v_au20, ↓w_v21, ↓tg_n21, ↓v_au21, ↓w_v22, ↓tg_n22, ↓v_au22, ↓w_v23, ↓tg_n23, ↓v_au23, ↓w_v24, ↓tg_n24, ↓v_au24, ↓w_v25, ↓tg_n25, ↓v_au25, ↓w_cst, ↓w_bin, ↓w_cmp, ↓w_neg, ↓w_not, ↓w_and, ↓w_or, ↓w_ite, ↓w_chn, ↓w_tup, ↓w_lst, ↓w_idx, ↓w_slc, ↓w_call, ↓w_bi, ↓w_fld, ↓w_meth, ↓w_make, ↓w_lc, ↓ws_nil, ↓ws_cons, ↓b_add, ↓b_sub, ↓b_mul, ↓b_fdiv, ↓b_mod, ↓b_pow, ↓b_shl, ↓b_addT, ↓k_lt, ↓k_le, ↓k_gt, ↓k_ge, ↓k_eqI, ↓k_neI, ↓k_eqStr, ↓k_neStr, ↓k_is, ↓k_isnot, ↓k_in, ↓k_notin, ↓isN_non, ↓isN_int, ↓isN_tup, ↓isN_ref, ↓isN_bl, ↓isN_str, ↓t_bl, ↓t_non, ↓t_int, ↓t_tup, ↓ix_t0, ↓ix_t1, ↓ix_t2, ↓ix_r0, ↓ix_r1, ↓ix_r2, ↓sl_tup, ↓sl_ref, ↓po_nil, ↓po_int, ↓f_lenT, ↓f_lenF, ↓f_lenR, ↓f_abs, ↓f_min, ↓f_max, ↓f_intB, ↓f_tupR, ↓f_sumR, ↓f_allR, ↓f_isiII, ↓f_isiIB, ↓f_isiTT, ↓f_isiSS, ↓negS_int, ↓chnS_bl, ↓nonS_non, ↓oSat_some, ↓insS_ref, ↓insS_app, ↓insS_set, ↓lstS_ref, ↓lstS_app, ↓lstS_set, ↓seq_nx, ↓seq_rt, ↓seq_bk, ↓seq_ct, ↓v_nil, ↓v_cons, ↓v_pass, ↓v_exp, ↓v_ret, ↓v_retN, ↓v_brk, ↓v_cnt, ↓v_ife, ↓v_asg, ↓v_asg2, ↓v_par, ↓v_par3, ↓v_ifw, ↓v_app, ↓v_ext, ↓v_augF, ↓v_for, ↓v_whl, ↓tq_fld, ↓tq_sub, ↓tq_tp, ↓tqs_nil, ↓tqs_cons, ↓tupS_tup, ↓pl_0, ↓pl_1, ↓pl_2, ↓g_add, ↓g_sub, ↓turn_nx, ↓turn_ct, ↓turn_bk, ↓turn_rt, ↓end_rt, ↓end_nx, ↓it_rng1, ↓it_rng2, ↓it_seqT, ↓it_seqF, ↓it_seqR, ↓it_enumT, ↓it_zipT, ↓ix_s0, ↓ix_s1, ↓ix_s2, ↓ix_sa0, ↓ix_sa1, ↓ix_sa2, ↓ix_new, ↓f_lenN, ↓f_tupN, ↓f_sumN, ↓f_allN, ↓sat_ok, ↓List.set_set, List.length_set, true_and, and_true, and_self, set_0, set_1, set_2]
            refine ⟨⟨hw0, by omega, by decide⟩, (show 5 ≤ sizeLine by decide), ?_⟩
            have hw2 : (1 : Int) * 2 ^ w.toNat ≤ 2 ^ (many - 1) := by
              rw [Int.one_mul]
              exact pow2_le (by omega)
            have hw3 : (1 : Int) ≤ 1 * 2 ^ w.toNat := by
              rw [Int.one_mul]
              exact pow2_pos _
            have h2top : (2 : Int) ≤ 2 ^ (many - 1) := pow2_le (a := 1) (by omega)
            refine forL_rule (fun xs r h => ∃ (rs : Rho), (∀ x, x ∈ xs → ∃ size : Int, x = .int size ∧ 1 ≤ size ∧ size ≤ 2 ^ (many - 1)) ∧ r = some (.fl (ns.map .int)) :: some (.int i) :: some (.ref n) :: some (.int j) :: some (.tup [.tup ((caps many).map .int), .tup (ls.map .int), .int fx]) :: some (.tup ((caps many).map .int)) :: some (.tup (ls.map .int)) :: some (.int fx) :: some (.int (2 ^ (many - 1))) :: rs ∧ rs.length = 6 ∧ Drw h n (6 * j + 4 + 1 + 1)) ?_ ?_ _ _ _ ⟨_, ?_, rfl, rfl, hd4⟩
            · rintro x xs r h3 ⟨rs, hxs, rfl, hrs, hd5⟩
              obtain ⟨size, rfl, hs1, hs2⟩ := hxs x (by simp)
              match rs, hrs with
              | [r9, r10, r11, r12, r13, r14], _ =>
              refine ⟨rfl, [some (.fl (ns.map .int)), some (.int i), some (.ref n), some (.int j), some (.tup [.tup ((caps many).map .int), .tup (ls.map .int), .int fx]), some (.tup ((caps many).map .int)), some (.tup (ls.map .int)), some (.int fx), some (.int (2 ^ (many - 1))), some (.int size), r10, r11, r12, r13, r14], rfl, ?_⟩
              obtain ⟨L, hL, A1, A2, A3⟩ := facts1 (fx := fx) T hs1 hs2
              obtain ⟨B1, B2⟩ := facts2 (fx := fx) T hs1 hs2
              unfold pol at A2 A3 B1 B2
              have A1' := fun m => A1 10 m
              have A2' := fun m => A2 5 m
              have A3' := fun m => A3 5 m
              have B1' := fun m => B1 5 m
              have B2' := fun m => B2 5 m
              simp only [Nat.reduceAdd] at A1' A2' A3' B1' B2'
              clear A1 A2 A3 B1 B2
              simp only [↓w_v0, ↓tg_n0, ↓v_au0, ↓w_v1, ↓tg_n1, ↓v_au1, ↓w_v2, ↓tg_n2, ↓v_au2, ↓w_v3, ↓tg_n3, ↓v_au3, ↓w_v4, ↓tg_n4, ↓v_au4, ↓w_v5, ↓tg_n5, ↓v_au5, ↓w_v6, ↓tg_n6, ↓v_au6, ↓w_v7, ↓tg_n7, ↓v_au7, ↓w_v8, ↓tg_n8, ↓v_au8, ↓w_v9, ↓tg_n9, ↓v_au9, ↓w_v10, ↓tg_n10, ↓v_au10, ↓w_v11, ↓tg_n11, ↓v_au11, ↓w_v12, ↓tg_n12, ↓v_au12, ↓w_v13, ↓tg_n13, ↓v_au13, ↓w_v14, ↓tg_n14, ↓v_au14, ↓w_v15, ↓tg_n15, ↓v_au15, ↓w_v16, ↓tg_n16, ↓v_au16, ↓w_v17, ↓tg_n17, ↓v_au17, ↓w_v18, ↓tg_n18, ↓v_au18, ↓w_v19, ↓tg_n19, ↓v_au19, ↓w_v20, ↓tg_n20, ↓v_au20, ↓w_v21, ↓tg_n21, ↓v_au21, ↓w_v22, ↓tg_n22, ↓v_au22, ↓w_v23, ↓tg_n23, ↓v_au23, ↓w_v24, ↓tg_n24, ↓v_au24, ↓w_v25, ↓tg_n25, ↓v_au25, ↓w_cst, ↓w_bin, ↓w_cmp, ↓w_neg, ↓w_not, ↓w_and, ↓w_or, ↓w_ite, ↓w_chn, ↓w_tup, ↓w_lst, ↓w_idx, ↓w_slc, ↓w_call, ↓w_bi, ↓w_fld, ↓w_meth, ↓w_make, ↓w_lc, ↓ws_nil, ↓ws_cons, ↓b_add, ↓b_sub, ↓b_mul, ↓b_fdiv, ↓b_mod, ↓b_pow, ↓b_shl, ↓b_addT, ↓k_lt, ↓k_le, ↓k_gt, ↓k_ge, ↓k_eqI, ↓k_eqStr, ↓k_is, ↓k_isnot, ↓k_in, ↓k_notin, ↓isN_non, ↓isN_int, ↓isN_tup, ↓isN_ref, ↓isN_bl, ↓isN_str, ↓t_bl, ↓t_non, ↓t_int, ↓t_tup, ↓ix_t0, ↓ix_t1, ↓ix_t2, ↓ix_r0, ↓ix_r1, ↓ix_r2, ↓sl_tup, ↓sl_ref, ↓po_nil, ↓po_int, ↓f_lenT, ↓f_lenF, ↓f_lenR, ↓f_abs, ↓f_min, ↓f_max, ↓f_intB, ↓f_tupR, ↓f_sumR, ↓f_allR, ↓f_isiII, ↓f_isiIB, ↓f_isiTT, ↓f_isiSS, ↓negS_int, ↓chnS_bl, ↓nonS_non, ↓oSat_some, ↓insS_ref, ↓insS_app, ↓insS_set, ↓lstS_ref, ↓lstS_app, ↓lstS_set, ↓seq_nx, ↓seq_rt, ↓seq_bk, ↓seq_ct, ↓v_nil, ↓v_cons, ↓v_pass, ↓v_exp, ↓v_ret, ↓v_retN, ↓v_brk, ↓v_cnt, ↓v_ife, ↓v_asg, ↓v_asg2, ↓v_par, ↓v_par3, ↓v_ifw, ↓v_app, ↓v_ext, ↓v_augF, ↓v_for, ↓v_whl, ↓tq_fld, ↓tq_sub, ↓tq_tp, ↓tqs_nil, ↓tqs_cons, ↓tupS_tup, ↓pl_0, ↓pl_1, ↓pl_2, ↓g_add, ↓g_sub, ↓turn_nx, ↓turn_ct, ↓turn_bk, ↓turn_rt, ↓end_rt, ↓end_nx, ↓it_rng1, ↓it_rng2, ↓it_seqT, ↓it_seqF, ↓it_seqR, ↓it_enumT, ↓it_zipT, ↓ix_s0, ↓ix_s1, ↓ix_s2, ↓ix_sa0, ↓ix_sa1, ↓ix_sa2, ↓ix_new, ↓f_lenN, ↓f_tupN, ↓f_sumN, ↓f_allN, ↓sat_ok, ↓List.set_set, List.length_set, true_and, and_true, and_self, set_0, set_1, set_2, A1', A2', A3']
              have z1 : 1 ≤ sizeLine := by decide
              have z2 : 2 ≤ sizeLine := by decide
              refine ⟨z2, z2, z1, z2, ?_⟩
              rw [ne_pair rfl rfl]
              simp only [↓w_v0, ↓tg_n0, ↓v_au0, ↓w_v1, ↓tg_n1, ↓v_au1, ↓w_v2, ↓tg_n2, ↓v_au2, ↓w_v3, ↓tg_n3, ↓v_au3, ↓w_v4, ↓tg_n4, ↓v_au4, ↓w_v5, ↓tg_n5, ↓v_au5, ↓w_v6, ↓tg_n6, ↓v_au6, ↓w_v7, ↓tg_n7, ↓v_au7, ↓w_v8, ↓tg_n8, ↓v_au8, ↓w_v9, ↓tg_n9, ↓v_au9, ↓w_v10, ↓tg_n10, ↓v_au10, ↓w_v11, ↓tg_n11, ↓v_au11, ↓w_v12, ↓tg_n12, ↓v_au12, ↓w_v13, ↓tg_n13, ↓v_au13, ↓w_v14, ↓tg_n14, ↓v_au14, ↓w_v15, ↓tg_n15, ↓v_au15, ↓w_v16, ↓tg_n16, ↓v_au16, ↓w_v17, ↓tg_n17, ↓v_au17, ↓w_v18, ↓tg_n18, ↓v_au18, ↓w_v19, ↓tg_n19, ↓v_au19, ↓w_v20, ↓tg_n20, ↓v_au20, ↓w_v21, ↓tg_n21, ↓v_au21, ↓w_v22, ↓tg_n22, ↓v_au22, ↓w_v23, ↓tg_n23, ↓v_au23, ↓w_v24, ↓tg_n24, ↓v_au24, ↓w_v25, ↓tg_n25, ↓v_au25, ↓w_cst, ↓w_bin, ↓w_cmp, ↓w_neg, ↓w_not, ↓w_and, ↓w_or, ↓w_ite, ↓w_chn, ↓w_tup, ↓w_lst, ↓w_idx, ↓w_slc, ↓w_call, ↓w_bi, ↓w_fld, ↓w_meth, ↓w_make, ↓w_lc, ↓ws_nil, ↓ws_cons, ↓b_add, ↓b_sub, ↓b_mul, ↓b_fdiv, ↓b_mod, ↓b_pow, ↓b_shl, ↓b_addT, ↓k_lt, ↓k_le, ↓k_gt, ↓k_ge, ↓k_eqI, ↓k_eqStr, ↓k_is, ↓k_isnot, ↓k_in, ↓k_notin, ↓isN_non, ↓isN_int, ↓isN_tup, ↓isN_ref, ↓isN_bl, ↓isN_str, ↓t_bl, ↓t_non, ↓t_int, ↓t_tup, ↓ix_t0, ↓ix_t1, ↓ix_t2, ↓ix_r0, ↓ix_r1, ↓ix_r2, ↓sl_tup, ↓sl_ref, ↓po_nil, ↓po_int, ↓f_lenT, ↓f_lenF, ↓f_lenR, ↓f_abs, ↓f_min, ↓f_max, ↓f_intB, ↓f_tupR, ↓f_sumR, ↓f_allR, ↓f_isiII, ↓f_isiIB, ↓f_isiTT, ↓f_isiSS, ↓negS_int, ↓chnS_bl, ↓nonS_non, ↓oSat_some, ↓insS_ref, ↓insS_app, ↓insS_set, ↓lstS_ref, ↓lstS_app, ↓lstS_set, ↓seq_nx, ↓seq_rt, ↓seq_bk, ↓seq_ct, ↓v_nil, ↓v_cons, ↓v_pass, ↓v_exp, ↓v_ret, ↓v_retN, ↓v_brk, ↓v_cnt, ↓v_ife, ↓v_asg, ↓v_asg2, ↓v_par, ↓v_par3, ↓v_ifw, ↓v_app, ↓v_ext, ↓v_augF, ↓v_for, ↓v_whl, ↓tq_fld, ↓tq_sub, ↓tq_tp, ↓tqs_nil, ↓tqs_cons, ↓tupS_tup, ↓pl_0, ↓pl_1, ↓pl_2, ↓g_add, ↓g_sub, ↓turn_nx, ↓turn_ct, ↓turn_bk, ↓turn_rt, ↓end_rt, ↓end_nx, ↓it_rng1, ↓it_rng2, ↓it_seqT, ↓it_seqF, ↓it_seqR, ↓it_enumT, ↓it_zipT, ↓ix_s0, ↓ix_s1, ↓ix_s2, ↓ix_sa0, ↓ix_sa1, ↓ix_sa2, ↓ix_new, ↓f_lenN, ↓f_tupN, ↓f_sumN, ↓f_allN, ↓sat_ok, ↓List.set_set, List.length_set, true_and, and_true, and_self, set_0, set_1, set_2, Bool.false_eq_true, if_false]
              refine ⟨z2, z2, z1, ⟨by omega, by omega, by decide⟩, mul_ok (by omega) (by omega), ?_⟩
              rw [ne_ok (by simp)]
              simp only [↓w_v0, ↓tg_n0, ↓v_au0, ↓w_v1, ↓tg_n1, ↓v_au1, ↓w_v2, ↓tg_n2, ↓v_au2, ↓w_v3, ↓tg_n3, ↓v_au3, ↓w_v4, ↓tg_n4, ↓v_au4, ↓w_v5, ↓tg_n5, ↓v_au5, ↓w_v6, ↓tg_n6, ↓v_au6, ↓w_v7, ↓tg_n7, ↓v_au7, ↓w_v8, ↓tg_n8, ↓v_au8, ↓w_v9, ↓tg_n9, ↓v_au9, ↓w_v10, ↓tg_n10, ↓v_au10, ↓w_v11, ↓tg_n11, ↓v_au11, ↓w_v12, ↓tg_n12, ↓v_au12, ↓w_v13, ↓tg_n13, ↓v_au13, ↓w_v14, ↓tg_n14, ↓v_au14, ↓w_v15, ↓tg_n15, ↓v_au15, ↓w_v16, ↓tg_n16, ↓v_au16, ↓w_v17, ↓tg_n17, ↓v_au17, ↓w_v18, ↓tg_n18, ↓v_au18, ↓w_v19, ↓tg_n19, ↓v_au19, ↓w_v20, ↓tg_n20, ↓v_au20, ↓w_v21, ↓tg_n21, ↓v_au21, ↓w_v22, ↓tg_n22, ↓v_au22, ↓w_v23, ↓tg_n23, ↓v_au23, ↓w_v24, ↓tg_n24, ↓v_au24, ↓w_v25, ↓tg_n25, ↓v_au25, ↓w_cst, ↓w_bin, ↓w_cmp, ↓w_neg, ↓w_not, ↓w_and, ↓w_or, ↓w_ite, ↓w_chn, ↓w_tup, ↓w_lst, ↓w_idx, ↓w_slc, ↓w_call, ↓w_bi, ↓w_fld, ↓w_meth, ↓w_make, ↓w_lc, ↓ws_nil, ↓ws_cons, ↓b_add, ↓b_sub, ↓b_mul, ↓b_fdiv, ↓b_mod, ↓b_pow, ↓b_shl, ↓b_addT, ↓k_lt, ↓k_le, ↓k_gt, ↓k_ge, ↓k_eqI, ↓k_eqStr, ↓k_is, ↓k_isnot, ↓k_in, ↓k_notin, ↓isN_non, ↓isN_int, ↓isN_tup, ↓isN_ref, ↓isN_bl, ↓isN_str, ↓t_bl, ↓t_non, ↓t_int, ↓t_tup, ↓ix_t0, ↓ix_t1, ↓ix_t2, ↓ix_r0, ↓ix_r1, ↓ix_r2, ↓sl_tup, ↓sl_ref, ↓po_nil, ↓po_int, ↓f_lenT, ↓f_lenF, ↓f_lenR, ↓f_abs, ↓f_min, ↓f_max, ↓f_intB, ↓f_tupR, ↓f_sumR, ↓f_allR, ↓f_isiII, ↓f_isiIB, ↓f_isiTT, ↓f_isiSS, ↓negS_int, ↓chnS_bl, ↓nonS_non, ↓oSat_some, ↓insS_ref, ↓insS_app, ↓insS_set, ↓lstS_ref, ↓lstS_app, ↓lstS_set, ↓seq_nx, ↓seq_rt, ↓seq_bk, ↓seq_ct, ↓v_nil, ↓v_cons, ↓v_pass, ↓v_exp, ↓v_ret, ↓v_retN, ↓v_brk, ↓v_cnt, ↓v_ife, ↓v_asg, ↓v_asg2, ↓v_par, ↓v_par3, ↓v_ifw, ↓v_app, ↓v_ext, ↓v_augF, ↓v_for, ↓v_whl, ↓tq_fld, ↓tq_sub, ↓tq_tp, ↓tqs_nil, ↓tqs_cons, ↓tupS_tup, ↓pl_0, ↓pl_1, ↓pl_2, ↓g_add, ↓g_sub, ↓turn_nx, ↓turn_ct, ↓turn_bk, ↓turn_rt, ↓end_rt, ↓end_nx, ↓it_rng1, ↓it_rng2, ↓it_seqT, ↓it_seqF, ↓it_seqR, ↓it_enumT, ↓it_zipT, ↓ix_s0, ↓ix_s1, ↓ix_s2, ↓ix_sa0, ↓ix_sa1, ↓ix_sa2, ↓ix_new, ↓f_lenN, ↓f_tupN, ↓f_sumN, ↓f_allN, ↓sat_ok, ↓List.set_set, List.length_set, true_and, and_true, and_self, set_0, set_1, set_2, Bool.false_eq_true, if_false]
              rw [lcL_pure (fun x => match x with | .int j => if size ≤ j then some (.int j) else none | _ => none) (fun _ => rfl) _ _ ?_ ?_]
              · rw [gone_map, List.nil_append]
                have hgl : (gone ls size).length ≤ many := by
                  unfold gone
                  have := List.length_filter_le (fun x => decide (size ≤ x)) ls
                  rw [T.len] at this
                  omega
                have hfin : Drw (h3 ++ [.lst ((gone ls size).map D.int)]) n (6 * j + 4 + 1 + 1) := hd5.app
                have hxs' : ∀ x, x ∈ xs → ∃ size : Int, x = .int size ∧ 1 ≤ size ∧ size ≤ 2 ^ (many - 1) := fun x hx => hxs x (by simp [hx])
                have e5 : ((many : Int) - 1).toNat = many - 1 := by omega
                by_cases hs : size < 2 ^ (many - 1)
                · simp only [prs, hs, if_true, List.map_cons, List.map_nil, opD, wd, if_false, Bool.false_eq_true] at B1' B2'
                  simp only [↓w_v0, ↓tg_n0, ↓v_au0, ↓w_v1, ↓tg_n1, ↓v_au1, ↓w_v2, ↓tg_n2, ↓v_au2, ↓w_v3, ↓tg_n3, ↓v_au3, ↓w_v4, ↓tg_n4, ↓v_au4, ↓w_v5, ↓tg_n5, ↓v_au5, ↓w_v6, ↓tg_n6, ↓v_au6, ↓w_v7, ↓tg_n7, ↓v_au7, ↓w_v8, ↓tg_n8, ↓v_au8, ↓w_v9, ↓tg_n9, ↓v_au9, ↓w_v10, ↓tg_n10, ↓v_au10, ↓w_v11, ↓tg_n11, ↓v_au11, ↓w_v12, ↓tg_n12, ↓v_au12, ↓w_v13, ↓tg_n13, ↓v_au13, ↓w_v14, ↓tg_n14, ↓v_au14, ↓w_v15, ↓tg_n15, ↓v_au15, ↓w_v16, ↓tg_n16, ↓v_au16, ↓w_v17, ↓tg_n17, ↓v_au17, ↓w_v18, ↓tg_n18, ↓v_au18, ↓w_v19, ↓tg_n19, ↓v_au19, ↓w_v20, ↓tg_n20, ↓v_au20, ↓w_v21, ↓tg_n21, ↓v_au21, ↓w_v22, ↓tg_n22, ↓v_au22, ↓w_v23, ↓tg_n23, ↓v_au23, ↓w_v24, ↓tg_n24, ↓v_au24, ↓w_v25, ↓tg_n25, ↓v_au25, ↓w_cst, ↓w_bin, ↓w_cmp, ↓w_neg, ↓w_not, ↓w_and, ↓w_or, ↓w_ite, ↓w_chn, ↓w_tup, ↓w_lst, ↓w_idx, ↓w_slc, ↓w_call, ↓w_bi, ↓w_fld, ↓w_meth, ↓w_make, ↓w_lc, ↓ws_nil, ↓ws_cons, ↓b_add, ↓b_sub, ↓b_mul, ↓b_fdiv, ↓b_mod, ↓b_pow, ↓b_shl, ↓b_addT, ↓k_lt, ↓k_le, ↓k_gt, ↓k_ge, ↓k_eqI, ↓k_eqStr, ↓k_is, ↓k_isnot, ↓k_in, ↓k_notin, ↓isN_non, ↓isN_int, ↓isN_tup, ↓isN_ref, ↓isN_bl, ↓isN_str, ↓t_bl, ↓t_non, ↓t_int, ↓t_tup, ↓ix_t0, ↓ix_t1, ↓ix_t2, ↓ix_r0, ↓ix_r1, ↓ix_r2, ↓sl_tup, ↓sl_ref, ↓po_nil, ↓po_int, ↓f_lenT, ↓f_lenF, ↓f_lenR, ↓f_abs, ↓f_min, ↓f_max, ↓f_intB, ↓f_tupR, ↓f_sumR, ↓f_allR, ↓f_isiII, ↓f_isiIB, ↓f_isiTT, ↓f_isiSS, ↓negS_int, ↓chnS_bl, ↓nonS_non, ↓oSat_some, ↓insS_ref, ↓insS_app, ↓insS_set, ↓lstS_ref, ↓lstS_app, ↓lstS_set, ↓seq_nx, ↓seq_rt, ↓seq_bk, ↓seq_ct, ↓v_nil, ↓v_cons, ↓v_pass, ↓v_exp, ↓v_ret, ↓v_retN, ↓v_brk, ↓v_cnt, ↓v_ife, ↓v_asg, ↓v_asg2, ↓v_par, ↓v_par3, ↓v_ifw, ↓v_app, ↓v_ext, ↓v_augF, ↓v_for, ↓v_whl, ↓tq_fld, ↓tq_sub, ↓tq_tp, ↓tqs_nil, ↓tqs_cons, ↓tupS_tup, ↓pl_0, ↓pl_1, ↓pl_2, ↓g_add, ↓g_sub, ↓turn_nx, ↓turn_ct, ↓turn_bk, ↓turn_rt, ↓end_rt, ↓end_nx, ↓it_rng1, ↓it_rng2, ↓it_seqT, ↓it_seqF, ↓it_seqR, ↓it_enumT, ↓it_zipT, ↓ix_s0, ↓ix_s1, ↓ix_s2, ↓ix_sa0, ↓ix_sa1, ↓ix_sa2, ↓ix_new, ↓f_lenN, ↓f_tupN, ↓f_sumN, ↓f_allN, ↓sat_ok, ↓List.set_set, List.length_set, true_and, and_true, and_self, set_0, set_1, set_2, B1', B2', Bool.false_eq_true, if_false, decide_true, if_true, hs, List.length_map, caps_len, sumI_ints]
                  refine ⟨⟨by omega, by omega, by decide⟩, mul_ok (by omega) (by omega), z2, z2, z2, z2, z2, ?_⟩
                  rw [ne_pair rfl rfl]
                  simp only [↓w_v0, ↓tg_n0, ↓v_au0, ↓w_v1, ↓tg_n1, ↓v_au1, ↓w_v2, ↓tg_n2, ↓v_au2, ↓w_v3, ↓tg_n3, ↓v_au3, ↓w_v4, ↓tg_n4, ↓v_au4, ↓w_v5, ↓tg_n5, ↓v_au5, ↓w_v6, ↓tg_n6, ↓v_au6, ↓w_v7, ↓tg_n7, ↓v_au7, ↓w_v8, ↓tg_n8, ↓v_au8, ↓w_v9, ↓tg_n9, ↓v_au9, ↓w_v10, ↓tg_n10, ↓v_au10, ↓w_v11, ↓tg_n11, ↓v_au11, ↓w_v12, ↓tg_n12, ↓v_au12, ↓w_v13, ↓tg_n13, ↓v_au13, ↓w_v14, ↓tg_n14, ↓v_au14, ↓w_v15, ↓tg_n15, ↓v_au15, ↓w_v16, ↓tg_n16, ↓v_au16, ↓w_v17, ↓tg_n17, ↓v_au17, ↓w_v18, ↓tg_n18, ↓v_au18, ↓w_v19, ↓tg_n19, ↓v_au19, ↓w_v20, ↓tg_n20, ↓v_au20, ↓w_v21, ↓tg_n21, ↓v_au21, ↓w_v22, ↓tg_n22, ↓v_au22, ↓w_v23, ↓tg_n23, ↓v_au23, ↓w_v24, ↓tg_n24, ↓v_au24, ↓w_v25, ↓tg_n25, ↓v_au25, ↓w_cst, ↓w_bin, ↓w_cmp, ↓w_neg, ↓w_not, ↓w_and, ↓w_or, ↓w_ite, ↓w_chn, ↓w_tup, ↓w_lst, ↓w_idx, ↓w_slc, ↓w_call, ↓w_bi, ↓w_fld, ↓w_meth, ↓w_make, ↓w_lc, ↓ws_nil, ↓ws_cons, ↓b_add, ↓b_sub, ↓b_mul, ↓b_fdiv, ↓b_mod, ↓b_pow, ↓b_shl, ↓b_addT, ↓k_lt, ↓k_le, ↓k_gt, ↓k_ge, ↓k_eqI, ↓k_eqStr, ↓k_is, ↓k_isnot, ↓k_in, ↓k_notin, ↓isN_non, ↓isN_int, ↓isN_tup, ↓isN_ref, ↓isN_bl, ↓isN_str, ↓t_bl, ↓t_non, ↓t_int, ↓t_tup, ↓ix_t0, ↓ix_t1, ↓ix_t2, ↓ix_r0, ↓ix_r1, ↓ix_r2, ↓sl_tup, ↓sl_ref, ↓po_nil, ↓po_int, ↓f_lenT, ↓f_lenF, ↓f_lenR, ↓f_abs, ↓f_min, ↓f_max, ↓f_intB, ↓f_tupR, ↓f_sumR, ↓f_allR, ↓f_isiII, ↓f_isiIB, ↓f_isiTT, ↓f_isiSS, ↓negS_int, ↓chnS_bl, ↓nonS_non, ↓oSat_some, ↓insS_ref, ↓insS_app, ↓insS_set, ↓lstS_ref, ↓lstS_app, ↓lstS_set, ↓seq_nx, ↓seq_rt, ↓seq_bk, ↓seq_ct, ↓v_nil, ↓v_cons, ↓v_pass, ↓v_exp, ↓v_ret, ↓v_retN, ↓v_brk, ↓v_cnt, ↓v_ife, ↓v_asg, ↓v_asg2, ↓v_par, ↓v_par3, ↓v_ifw, ↓v_app, ↓v_ext, ↓v_augF, ↓v_for, ↓v_whl, ↓tq_fld, ↓tq_sub, ↓tq_tp, ↓tqs_nil, ↓tqs_cons, ↓tupS_tup, ↓pl_0, ↓pl_1, ↓pl_2, ↓g_add, ↓g_sub, ↓turn_nx, ↓turn_ct, ↓turn_bk, ↓turn_rt, ↓end_rt, ↓end_nx, ↓it_rng1, ↓it_rng2, ↓it_seqT, ↓it_seqF, ↓it_seqR, ↓it_enumT, ↓it_zipT, ↓ix_s0, ↓ix_s1, ↓ix_s2, ↓ix_sa0, ↓ix_sa1, ↓ix_sa2, ↓ix_new, ↓f_lenN, ↓f_tupN, ↓f_sumN, ↓f_allN, ↓sat_ok, ↓List.set_set, List.length_set, true_and, and_true, and_self, set_0, set_1, set_2, B1', B2', Bool.false_eq_true, if_false, List.length_map, caps_len, sumI_ints]
                  refine ⟨z2, mul_ok (by omega) (by omega), ?_⟩
                  rw [ne_ok (by rw [e5, Int.one_mul])]
                  simp only [↓w_v0, ↓tg_n0, ↓v_au0, ↓w_v1, ↓tg_n1, ↓v_au1, ↓w_v2, ↓tg_n2, ↓v_au2, ↓w_v3, ↓tg_n3, ↓v_au3, ↓w_v4, ↓tg_n4, ↓v_au4, ↓w_v5, ↓tg_n5, ↓v_au5, ↓w_v6, ↓tg_n6, ↓v_au6, ↓w_v7, ↓tg_n7, ↓v_au7, ↓w_v8, ↓tg_n8, ↓v_au8, ↓w_v9, ↓tg_n9, ↓v_au9, ↓w_v10, ↓tg_n10, ↓v_au10, ↓w_v11, ↓tg_n11, ↓v_au11, ↓w_v12, ↓tg_n12, ↓v_au12, ↓w_v13, ↓tg_n13, ↓v_au13, ↓w_v14, ↓tg_n14, ↓v_au14, ↓w_v15, ↓tg_n15, ↓v_au15, ↓w_v16, ↓tg_n16, ↓v_au16, ↓w_v17, ↓tg_n17, ↓v_au17, ↓w_v18, ↓tg_n18, ↓v_au18, ↓w_v19, ↓tg_n19, ↓v_au19, ↓w_v20, ↓tg_n20, ↓v_au20, ↓w_v21, ↓tg_n21, ↓v_au21, ↓w_v22, ↓tg_n22, ↓v_au22, ↓w_v23, ↓tg_n23, ↓v_au23, ↓w_v24, ↓tg_n24, ↓v_au24, ↓w_v25, ↓tg_n25, ↓v_au25, ↓w_cst, ↓w_bin, ↓w_cmp, ↓w_neg, ↓w_not, ↓w_and, ↓w_or, ↓w_ite, ↓w_chn, ↓w_tup, ↓w_lst, ↓w_idx, ↓w_slc, ↓w_call, ↓w_bi, ↓w_fld, ↓w_meth, ↓w_make, ↓w_lc, ↓ws_nil, ↓ws_cons, ↓b_add, ↓b_sub, ↓b_mul, ↓b_fdiv, ↓b_mod, ↓b_pow, ↓b_shl, ↓b_addT, ↓k_lt, ↓k_le, ↓k_gt, ↓k_ge, ↓k_eqI, ↓k_eqStr, ↓k_is, ↓k_isnot, ↓k_in, ↓k_notin, ↓isN_non, ↓isN_int, ↓isN_tup, ↓isN_ref, ↓isN_bl, ↓isN_str, ↓t_bl, ↓t_non, ↓t_int, ↓t_tup, ↓ix_t0, ↓ix_t1, ↓ix_t2, ↓ix_r0, ↓ix_r1, ↓ix_r2, ↓sl_tup, ↓sl_ref, ↓po_nil, ↓po_int, ↓f_lenT, ↓f_lenF, ↓f_lenR, ↓f_abs, ↓f_min, ↓f_max, ↓f_intB, ↓f_tupR, ↓f_sumR, ↓f_allR, ↓f_isiII, ↓f_isiIB, ↓f_isiTT, ↓f_isiSS, ↓negS_int, ↓chnS_bl, ↓nonS_non, ↓oSat_some, ↓insS_ref, ↓insS_app, ↓insS_set, ↓lstS_ref, ↓lstS_app, ↓lstS_set, ↓seq_nx, ↓seq_rt, ↓seq_bk, ↓seq_ct, ↓v_nil, ↓v_cons, ↓v_pass, ↓v_exp, ↓v_ret, ↓v_retN, ↓v_brk, ↓v_cnt, ↓v_ife, ↓v_asg, ↓v_asg2, ↓v_par, ↓v_par3, ↓v_ifw, ↓v_app, ↓v_ext, ↓v_augF, ↓v_for, ↓v_whl, ↓tq_fld, ↓tq_sub, ↓tq_tp, ↓tqs_nil, ↓tqs_cons, ↓tupS_tup, ↓pl_0, ↓pl_1, ↓pl_2, ↓g_add, ↓g_sub, ↓turn_nx, ↓turn_ct, ↓turn_bk, ↓turn_rt, ↓end_rt, ↓end_nx, ↓it_rng1, ↓it_rng2, ↓it_seqT, ↓it_seqF, ↓it_seqR, ↓it_enumT, ↓it_zipT, ↓ix_s0, ↓ix_s1, ↓ix_s2, ↓ix_sa0, ↓ix_sa1, ↓ix_sa2, ↓ix_new, ↓f_lenN, ↓f_tupN, ↓f_sumN, ↓f_allN, ↓sat_ok, ↓List.set_set, List.length_set, true_and, and_true, and_self, set_0, set_1, set_2, Bool.false_eq_true, if_false]
                  exact ⟨_, hxs', rfl, rfl, hfin⟩
                · simp only [prs, hs, if_true, List.map_cons, List.map_nil, opD, wd, if_false, Bool.false_eq_true] at B1' B2'
                  simp only [↓w_v0, ↓tg_n0, ↓v_au0, ↓w_v1, ↓tg_n1, ↓v_au1, ↓w_v2, ↓tg_n2, ↓v_au2, ↓w_v3, ↓tg_n3, ↓v_au3, ↓w_v4, ↓tg_n4, ↓v_au4, ↓w_v5, ↓tg_n5, ↓v_au5, ↓w_v6, ↓tg_n6, ↓v_au6, ↓w_v7, ↓tg_n7, ↓v_au7, ↓w_v8, ↓tg_n8, ↓v_au8, ↓w_v9, ↓tg_n9, ↓v_au9, ↓w_v10, ↓tg_n10, ↓v_au10, ↓w_v11, ↓tg_n11, ↓v_au11, ↓w_v12, ↓tg_n12, ↓v_au12, ↓w_v13, ↓tg_n13, ↓v_au13, ↓w_v14, ↓tg_n14, ↓v_au14, ↓w_v15, ↓tg_n15, ↓v_au15, ↓w_v16, ↓tg_n16, ↓v_au16, ↓w_v17, ↓tg_n17, ↓v_au17, ↓w_v18, ↓tg_n18, ↓v_au18, ↓w_v19, ↓tg_n19, ↓v_au19, ↓w_v20, ↓tg_n20, ↓v_au20, ↓w_v21, ↓tg_n21, ↓v_au21, ↓w_v22, ↓tg_n22, ↓v_au22, ↓w_v23, ↓tg_n23, ↓v_au23, ↓w_v24, ↓tg_n24, ↓v_au24, ↓w_v25, ↓tg_n25, ↓v_au25, ↓w_cst, ↓w_bin, ↓w_cmp, ↓w_neg, ↓w_not, ↓w_and, ↓w_or, ↓w_ite, ↓w_chn, ↓w_tup, ↓w_lst, ↓w_idx, ↓w_slc, ↓w_call, ↓w_bi, ↓w_fld, ↓w_meth, ↓w_make, ↓w_lc, ↓ws_nil, ↓ws_cons, ↓b_add, ↓b_sub, ↓b_mul, ↓b_fdiv, ↓b_mod, ↓b_pow, ↓b_shl, ↓b_addT, ↓k_lt, ↓k_le, ↓k_gt, ↓k_ge, ↓k_eqI, ↓k_eqStr, ↓k_is, ↓k_isnot, ↓k_in, ↓k_notin, ↓isN_non, ↓isN_int, ↓isN_tup, ↓isN_ref, ↓isN_bl, ↓isN_str, ↓t_bl, ↓t_non, ↓t_int, ↓t_tup, ↓ix_t0, ↓ix_t1, ↓ix_t2, ↓ix_r0, ↓ix_r1, ↓ix_r2, ↓sl_tup, ↓sl_ref, ↓po_nil, ↓po_int, ↓f_lenT, ↓f_lenF, ↓f_lenR, ↓f_abs, ↓f_min, ↓f_max, ↓f_intB, ↓f_tupR, ↓f_sumR, ↓f_allR, ↓f_isiII, ↓f_isiIB, ↓f_isiTT, ↓f_isiSS, ↓negS_int, ↓chnS_bl, ↓nonS_non, ↓oSat_some, ↓insS_ref, ↓insS_app, ↓insS_set, ↓lstS_ref, ↓lstS_app, ↓lstS_set, ↓seq_nx, ↓seq_rt, ↓seq_bk, ↓seq_ct, ↓v_nil, ↓v_cons, ↓v_pass, ↓v_exp, ↓v_ret, ↓v_retN, ↓v_brk, ↓v_cnt, ↓v_ife, ↓v_asg, ↓v_asg2, ↓v_par, ↓v_par3, ↓v_ifw, ↓v_app, ↓v_ext, ↓v_augF, ↓v_for, ↓v_whl, ↓tq_fld, ↓tq_sub, ↓tq_tp, ↓tqs_nil, ↓tqs_cons, ↓tupS_tup, ↓pl_0, ↓pl_1, ↓pl_2, ↓g_add, ↓g_sub, ↓turn_nx, ↓turn_ct, ↓turn_bk, ↓turn_rt, ↓end_rt, ↓end_nx, ↓it_rng1, ↓it_rng2, ↓it_seqT, ↓it_seqF, ↓it_seqR, ↓it_enumT, ↓it_zipT, ↓ix_s0, ↓ix_s1, ↓ix_s2, ↓ix_sa0, ↓ix_sa1, ↓ix_sa2, ↓ix_new, ↓f_lenN, ↓f_tupN, ↓f_sumN, ↓f_allN, ↓sat_ok, ↓List.set_set, List.length_set, true_and, and_true, and_self, set_0, set_1, set_2, B1', B2', Bool.false_eq_true, if_false, decide_false, if_true, hs, List.length_map, caps_len, sumI_ints]
                  refine ⟨⟨by omega, by omega, by decide⟩, mul_ok (by omega) (by omega), z2, z1, z2, z2, ?_⟩
                  rw [ne_pair rfl rfl]
                  simp only [↓w_v0, ↓tg_n0, ↓v_au0, ↓w_v1, ↓tg_n1, ↓v_au1, ↓w_v2, ↓tg_n2, ↓v_au2, ↓w_v3, ↓tg_n3, ↓v_au3, ↓w_v4, ↓tg_n4, ↓v_au4, ↓w_v5, ↓tg_n5, ↓v_au5, ↓w_v6, ↓tg_n6, ↓v_au6, ↓w_v7, ↓tg_n7, ↓v_au7, ↓w_v8, ↓tg_n8, ↓v_au8, ↓w_v9, ↓tg_n9, ↓v_au9, ↓w_v10, ↓tg_n10, ↓v_au10, ↓w_v11, ↓tg_n11, ↓v_au11, ↓w_v12, ↓tg_n12, ↓v_au12, ↓w_v13, ↓tg_n13, ↓v_au13, ↓w_v14, ↓tg_n14, ↓v_au14, ↓w_v15, ↓tg_n15, ↓v_au15, ↓w_v16, ↓tg_n16, ↓v_au16, ↓w_v17, ↓tg_n17, ↓v_au17, ↓w_v18, ↓tg_n18, ↓v_au18, ↓w_v19, ↓tg_n19, ↓v_au19, ↓w_v20, ↓tg_n20, ↓v_au20, ↓w_v21, ↓tg_n21, ↓v_au21, ↓w_v22, ↓tg_n22, ↓v_au22, ↓w_v23, ↓tg_n23, ↓v_au23, ↓w_v24, ↓tg_n24, ↓v_au24, ↓w_v25, ↓tg_n25, ↓v_au25, ↓w_cst, ↓w_bin, ↓w_cmp, ↓w_neg, ↓w_not, ↓w_and, ↓w_or, ↓w_ite, ↓w_chn, ↓w_tup, ↓w_lst, ↓w_idx, ↓w_slc, ↓w_call, ↓w_bi, ↓w_fld, ↓w_meth, ↓w_make, ↓w_lc, ↓ws_nil, ↓ws_cons, ↓b_add, ↓b_sub, ↓b_mul, ↓b_fdiv, ↓b_mod, ↓b_pow, ↓b_shl, ↓b_addT, ↓k_lt, ↓k_le, ↓k_gt, ↓k_ge, ↓k_eqI, ↓k_eqStr, ↓k_is, ↓k_isnot, ↓k_in, ↓k_notin, ↓isN_non, ↓isN_int, ↓isN_tup, ↓isN_ref, ↓isN_bl, ↓isN_str, ↓t_bl, ↓t_non, ↓t_int, ↓t_tup, ↓ix_t0, ↓ix_t1, ↓ix_t2, ↓ix_r0, ↓ix_r1, ↓ix_r2, ↓sl_tup, ↓sl_ref, ↓po_nil, ↓po_int, ↓f_lenT, ↓f_lenF, ↓f_lenR, ↓f_abs, ↓f_min, ↓f_max, ↓f_intB, ↓f_tupR, ↓f_sumR, ↓f_allR, ↓f_isiII, ↓f_isiIB, ↓f_isiTT, ↓f_isiSS, ↓negS_int, ↓chnS_bl, ↓nonS_non, ↓oSat_some, ↓insS_ref, ↓insS_app, ↓insS_set, ↓lstS_ref, ↓lstS_app, ↓lstS_set, ↓seq_nx, ↓seq_rt, ↓seq_bk, ↓seq_ct, ↓v_nil, ↓v_cons, ↓v_pass, ↓v_exp, ↓v_ret, ↓v_retN, ↓v_brk, ↓v_cnt, ↓v_ife, ↓v_asg, ↓v_asg2, ↓v_par, ↓v_par3, ↓v_ifw, ↓v_app, ↓v_ext, ↓v_augF, ↓v_for, ↓v_whl, ↓tq_fld, ↓tq_sub, ↓tq_tp, ↓tqs_nil, ↓tqs_cons, ↓tupS_tup, ↓pl_0, ↓pl_1, ↓pl_2, ↓g_add, ↓g_sub, ↓turn_nx, ↓turn_ct, ↓turn_bk, ↓turn_rt, ↓end_rt, ↓end_nx, ↓it_rng1, ↓it_rng2, ↓it_seqT, ↓it_seqF, ↓it_seqR, ↓it_enumT, ↓it_zipT, ↓ix_s0, ↓ix_s1, ↓ix_s2, ↓ix_sa0, ↓ix_sa1, ↓ix_sa2, ↓ix_new, ↓f_lenN, ↓f_tupN, ↓f_sumN, ↓f_allN, ↓sat_ok, ↓List.set_set, List.length_set, true_and, and_true, and_self, set_0, set_1, set_2, B1', B2', Bool.false_eq_true, if_false, List.length_map, caps_len, sumI_ints]
                  refine ⟨z2, mul_ok (by omega) (by omega), ?_⟩
                  rw [ne_ok (by rw [e5, Int.one_mul])]
                  simp only [↓w_v0, ↓tg_n0, ↓v_au0, ↓w_v1, ↓tg_n1, ↓v_au1, ↓w_v2, ↓tg_n2, ↓v_au2, ↓w_v3, ↓tg_n3, ↓v_au3, ↓w_v4, ↓tg_n4, ↓v_au4, ↓w_v5, ↓tg_n5, ↓v_au5, ↓w_v6, ↓tg_n6, ↓v_au6, ↓w_v7, ↓tg_n7, ↓v_au7, ↓w_v8, ↓tg_n8, ↓v_au8, ↓w_v9, ↓tg_n9, ↓v_au9, ↓w_v10, ↓tg_n10, ↓v_au10, ↓w_v11, ↓tg_n11, ↓v_au11, ↓w_v12, ↓tg_n12, ↓v_au12, ↓w_v13, ↓tg_n13, ↓v_au13, ↓w_v14, ↓tg_n14, ↓v_au14, ↓w_v15, ↓tg_n15, ↓v_au15, ↓w_v16, ↓tg_n16, ↓v_au16, ↓w_v17, ↓tg_n17, ↓v_au17, ↓w_v18, ↓tg_n18, ↓v_au18, ↓w_v19, ↓tg_n19, ↓v_au19, ↓w_v20, ↓tg_n20, ↓v_au20, ↓w_v21, ↓tg_n21, ↓v_au21, ↓w_v22, ↓tg_n22, ↓v_au22, ↓w_v23, ↓tg_n23, ↓v_au23, ↓w_v24, ↓tg_n24, ↓v_au24, ↓w_v25, ↓tg_n25, ↓v_au25, ↓w_cst, ↓w_bin, ↓w_cmp, ↓w_neg, ↓w_not, ↓w_and, ↓w_or, ↓w_ite, ↓w_chn, ↓w_tup, ↓w_lst, ↓w_idx, ↓w_slc, ↓w_call, ↓w_bi, ↓w_fld, ↓w_meth, ↓w_make, ↓w_lc, ↓ws_nil, ↓ws_cons, ↓b_add, ↓b_sub, ↓b_mul, ↓b_fdiv, ↓b_mod, ↓b_pow, ↓b_shl, ↓b_addT, ↓k_lt, ↓k_le, ↓k_gt, ↓k_ge, ↓k_eqI, ↓k_eqStr, ↓k_is, ↓k_isnot, ↓k_in, ↓k_notin, ↓isN_non, ↓isN_int, ↓isN_tup, ↓isN_ref, ↓isN_bl, ↓isN_str, ↓t_bl, ↓t_non, ↓t_int, ↓t_tup, ↓ix_t0, ↓ix_t1, ↓ix_t2, ↓ix_r0, ↓ix_r1, ↓ix_r2, ↓sl_tup, ↓sl_ref, ↓po_nil, ↓po_int, ↓f_lenT, ↓f_lenF, ↓f_lenR, ↓f_abs, ↓f_min, ↓f_max, ↓f_intB, ↓f_tupR, ↓f_sumR, ↓f_allR, ↓f_isiII, ↓f_isiIB, ↓f_isiTT, ↓f_isiSS, ↓negS_int, ↓chnS_bl, ↓nonS_non, ↓oSat_some, ↓insS_ref, ↓insS_app, ↓insS_set, ↓lstS_ref, ↓lstS_app, ↓lstS_set, ↓seq_nx, ↓seq_rt, ↓seq_bk, ↓seq_ct, ↓v_nil, ↓v_cons, ↓v_pass, ↓v_exp, ↓v_ret, ↓v_retN, ↓v_brk, ↓v_cnt, ↓v_ife, ↓v_asg, ↓v_asg2, ↓v_par, ↓v_par3, ↓v_ifw, ↓v_app, ↓v_ext, ↓v_augF, ↓v_for, ↓v_whl, ↓tq_fld, ↓tq_sub, ↓tq_tp, ↓tqs_nil, ↓tqs_cons, ↓tupS_tup, ↓pl_0, ↓pl_1, ↓pl_2, ↓g_add, ↓g_sub, ↓turn_nx, ↓turn_ct, ↓turn_bk, ↓turn_rt, ↓end_rt, ↓end_nx, ↓it_rng1, ↓it_rng2, ↓it_seqT, ↓it_seqF, ↓it_seqR, ↓it_enumT, ↓it_zipT, ↓ix_s0, ↓ix_s1, ↓ix_s2, ↓ix_sa0, ↓ix_sa1, ↓ix_sa2, ↓ix_new, ↓f_lenN, ↓f_tupN, ↓f_sumN, ↓f_allN, ↓sat_ok, ↓List.set_set, List.length_set, true_and, and_true, and_self, set_0, set_1, set_2, Bool.false_eq_true, if_false]
                  exact ⟨_, hxs', rfl, rfl, hfin⟩
              · intro x hx acc
                rw [List.mem_map] at hx
                obtain ⟨l, _, rfl⟩ := hx
                refine lcU_sat (r2 := [some (.fl (ns.map .int)), some (.int i), some (.ref n), some (.int j), some (.tup [.tup ((caps many).map .int), .tup (ls.map .int), .int fx]), some (.tup ((caps many).map .int)), some (.tup (ls.map .int)), some (.int fx), some (.int (2 ^ (many - 1))), some (.int size), some (.int L), r11, r12, r13, some (.int l)]) rfl ?_
                simp only [↓w_v0, ↓tg_n0, ↓v_au0, ↓w_v1, ↓tg_n1, ↓v_au1, ↓w_v2, ↓tg_n2, ↓v_au2, ↓w_v3, ↓tg_n3, ↓v_au3, ↓w_v4, ↓tg_n4, ↓v_au4, ↓w_v5, ↓tg_n5, ↓v_au5, ↓w_v6, ↓tg_n6, ↓v_au6, ↓w_v7, ↓tg_n7, ↓v_au7, ↓w_v8, ↓tg_n8, ↓v_au8, ↓w_v9, ↓tg_n9, ↓v_au9, ↓w_v10, ↓tg_n10, ↓v_au10, ↓w_v11, ↓tg_n11, ↓v_au11, ↓w_v12, ↓tg_n12, ↓v_au12, ↓w_v13, ↓tg_n13, ↓v_au13, ↓w_v14, ↓tg_n14, ↓v_au14, ↓w_v15, ↓tg_n15, ↓v_au15, ↓w_v16, ↓tg_n16, ↓v_au16, ↓w_v17, ↓tg_n17, ↓v_au17, ↓w_v18, ↓tg_n18, ↓v_au18, ↓w_v19, ↓tg_n19, ↓v_au19, ↓w_v20, ↓tg_n20, ↓v_au20, ↓w_v21, ↓tg_n21, ↓v_au21, ↓w_v22, ↓tg_n22, ↓v_au22, ↓w_v23, ↓tg_n23, ↓v_au23, ↓w_v24, ↓tg_n24, ↓v_au24, ↓w_v25, ↓tg_n25, ↓v_au25, ↓w_cst, ↓w_bin, ↓w_cmp, ↓w_neg, ↓w_not, ↓w_and, ↓w_or, ↓w_ite, ↓w_chn, ↓w_tup, ↓w_lst, ↓w_idx, ↓w_slc, ↓w_call, ↓w_bi, ↓w_fld, ↓w_meth, ↓w_make, ↓w_lc, ↓ws_nil, ↓ws_cons, ↓b_add, ↓b_sub, ↓b_mul, ↓b_fdiv, ↓b_mod, ↓b_pow, ↓b_shl, ↓b_addT, ↓k_lt, ↓k_le, ↓k_gt, ↓k_ge, ↓k_eqI, ↓k_neI, ↓k_eqStr, ↓k_neStr, ↓k_is, ↓k_isnot, ↓k_in, ↓k_notin, ↓isN_non, ↓isN_int, ↓isN_tup, ↓isN_ref, ↓isN_bl, ↓isN_str, ↓t_bl, ↓t_non, ↓t_int, ↓t_tup, ↓ix_t0, ↓ix_t1, ↓ix_t2, ↓ix_r0, ↓ix_r1, ↓ix_r2, ↓sl_tup, ↓sl_ref, ↓po_nil, ↓po_int, ↓f_lenT, ↓f_lenF, ↓f_lenR, ↓f_abs, ↓f_min, ↓f_max, ↓f_intB, ↓f_tupR, ↓f_sumR, ↓f_allR, ↓f_isiII, ↓f_isiIB, ↓f_isiTT, ↓f_isiSS, ↓negS_int, ↓chnS_bl, ↓nonS_non, ↓oSat_some, ↓insS_ref, ↓insS_app, ↓insS_set, ↓lstS_ref, ↓lstS_app, ↓lstS_set, ↓seq_nx, ↓seq_rt, ↓seq_bk, ↓seq_ct, ↓v_nil, ↓v_cons, ↓v_pass, ↓v_exp, ↓v_ret, ↓v_retN, ↓v_brk, ↓v_cnt, ↓v_ife, ↓v_asg, ↓v_asg2, ↓v_par, ↓v_par3, ↓v_ifw, ↓v_app, ↓v_ext, ↓v_augF, ↓v_for, ↓v_whl, ↓tq_fld, ↓tq_sub, ↓tq_tp, ↓tqs_nil, ↓tqs_cons, ↓tupS_tup, ↓pl_0, ↓pl_1, ↓pl_2, ↓g_add, ↓g_sub, ↓turn_nx, ↓turn_ct, ↓turn_bk, ↓turn_rt, ↓end_rt, ↓end_nx, ↓it_rng1, ↓it_rng2, ↓it_seqT, ↓it_seqF, ↓it_seqR, ↓it_enumT, ↓it_zipT, ↓ix_s0, ↓ix_s1, ↓ix_s2, ↓ix_sa0, ↓ix_sa1, ↓ix_sa2, ↓ix_new, ↓f_lenN, ↓f_tupN, ↓f_sumN, ↓f_allN, ↓sat_ok, ↓List.set_set, List.length_set, true_and, and_true, and_self, set_0, set_1, set_2, testsOf]
                by_cases hh : size ≤ l
                · simp [hh]
                · simp [hh]
              · simp only [List.length_nil, List.length_map, T.len]
                exact Nat.le_trans (show 0 + (many - 1) ≤ 40 by omega) (by decide)
            · rintro r h3 ⟨rs, hxs, rfl, hrs, hd5⟩
              refine ⟨rfl, ?_⟩
              simp only [↓w_v0, ↓tg_n0, ↓v_au0, ↓w_v1, ↓tg_n1, ↓v_au1, ↓w_v2, ↓tg_n2, ↓v_au2, ↓w_v3, ↓tg_n3, ↓v_au3, ↓w_v4, ↓tg_n4, ↓v_au4, ↓w_v5, ↓tg_n5, ↓v_au5, ↓w_v6, ↓tg_n6, ↓v_au6, ↓w_v7, ↓tg_n7, ↓v_au7, ↓w_v8, ↓tg_n8, ↓v_au8, ↓w_v9, ↓tg_n9, ↓v_au9, ↓w_v10, ↓tg_n10, ↓v_au10, ↓w_v11, ↓tg_n11, ↓v_au11, ↓w_v12, ↓tg_n12, ↓v_au12, ↓w_v13, ↓tg_n13, ↓v_au13, ↓w_v14, ↓tg_n14, ↓v_au14, ↓w_v15, ↓tg_n15, ↓v_au15, ↓w_v16, ↓tg_n16, ↓v_au16, ↓w_v17, ↓tg_n17, ↓v_au17, ↓w_v18, ↓tg_n18, ↓v_au18, ↓w_v19, ↓tg_n19, ↓v_au19, ↓w_v20, ↓tg_n20, ↓v_au20, ↓w_v21, ↓tg_n21, ↓v_au21, ↓w_v22, ↓tg_n22, ↓v_au22, ↓w_v23, ↓tg_n23, ↓v_au23, ↓w_v24, ↓tg_n24, ↓v_au24, ↓w_v25, ↓tg_n25, ↓v_au25, ↓w_cst, ↓w_bin, ↓w_cmp, ↓w_neg, ↓w_not, ↓w_and, ↓w_or, ↓w_ite, ↓w_chn, ↓w_tup, ↓w_lst, ↓w_idx, ↓w_slc, ↓w_call, ↓w_bi, ↓w_fld, ↓w_meth, ↓w_make, ↓w_lc, ↓ws_nil, ↓ws_cons, ↓b_add, ↓b_sub, ↓b_mul, ↓b_fdiv, ↓b_mod, ↓b_pow, ↓b_shl, ↓b_addT, ↓k_lt, ↓k_le, ↓k_gt, ↓k_ge, ↓k_eqI, ↓k_neI, ↓k_eqStr, ↓k_neStr, ↓k_is, ↓k_isnot, ↓k_in, ↓k_notin, ↓isN_non, ↓isN_int, ↓isN_tup, ↓isN_ref, ↓isN_bl, ↓isN_str, ↓t_bl, ↓t_non, ↓t_int, ↓t_tup, ↓ix_t0, ↓ix_t1, ↓ix_t2, ↓ix_r0, ↓ix_r1, ↓ix_r2, ↓sl_tup, ↓sl_ref, ↓po_nil, ↓po_int, ↓f_lenT, ↓f_lenF, ↓f_lenR, ↓f_abs, ↓f_min, ↓f_max, ↓f_intB, ↓f_tupR, ↓f_sumR, ↓f_allR, ↓f_isiII, ↓f_isiIB, ↓f_isiTT, ↓f_isiSS, ↓negS_int, ↓chnS_bl, ↓nonS_non, ↓oSat_some, ↓insS_ref, ↓insS_app, ↓insS_set, ↓lstS_ref, ↓lstS_app, ↓lstS_set, ↓seq_nx, ↓seq_rt, ↓seq_bk, ↓seq_ct, ↓v_nil, ↓v_cons, ↓v_pass, ↓v_exp, ↓v_ret, ↓v_retN, ↓v_brk, ↓v_cnt, ↓v_ife, ↓v_asg, ↓v_asg2, ↓v_par, ↓v_par3, ↓v_ifw, ↓v_app, ↓v_ext, ↓v_augF, ↓v_for, ↓v_whl, ↓tq_fld, ↓tq_sub, ↓tq_tp, ↓tqs_nil, ↓tqs_cons, ↓tupS_tup, ↓pl_0, ↓pl_1, ↓pl_2, ↓g_add, ↓g_sub, ↓turn_nx, ↓turn_ct, ↓turn_bk, ↓turn_rt, ↓end_rt, ↓end_nx, ↓it_rng1, ↓it_rng2, ↓it_seqT, ↓it_seqF, ↓it_seqR, ↓it_enumT, ↓it_zipT, ↓ix_s0, ↓ix_s1, ↓ix_s2, ↓ix_sa0, ↓ix_sa1, ↓ix_sa2, ↓ix_new, ↓f_lenN, ↓f_tupN, ↓f_sumN, ↓f_allN, ↓sat_ok, ↓List.set_set, List.length_set, true_and, and_true, and_self, set_0, set_1, set_2]
              exact ⟨j + 1, s, _, rfl, by omega, rfl, by simp [hrs], by
                have e9 : (6 * ((j + 1 : Nat) : Int)) = 6 * j + 4 + 1 + 1 := by omega
                rw [e9]
                exact hd5⟩
            · intro x hx
              simp only [List.mem_cons, List.not_mem_nil, or_false] at hx
              rcases hx with rfl | rfl | rfl | rfl | rfl
              · exact ⟨_, rfl, by omega, by omega⟩
              · exact ⟨_, rfl, by omega, by omega⟩
              · exact ⟨_, rfl, by omega, by omega⟩
              · exact ⟨_, rfl, by omega, by omega⟩
              · exact ⟨_, rfl, hw3, hw2⟩
        · rintro r h2 ⟨j, s, rs, hx, hjs, rfl, hrs, hd⟩
          refine ⟨rfl, ?_⟩
          simp only [↓w_v0, ↓tg_n0, ↓v_au0, ↓w_v1, ↓tg_n1, ↓v_au1, ↓w_v2, ↓tg_n2, ↓v_au2, ↓w_v3, ↓tg_n3, ↓v_au3, ↓w_v4, ↓tg_n4, ↓v_au4, ↓w_v5, ↓tg_n5, ↓v_au5, ↓w_v6, ↓tg_n6, ↓v_au6, ↓w_v7, ↓tg_n7, ↓v_au7, ↓w_v8, ↓tg_n8, ↓v_au8, ↓w_v9, ↓tg_n9, ↓v_au9, ↓w_v10, ↓tg_n10, ↓v_au10, ↓w_v11, ↓tg_n11, ↓v_au11, ↓w_v12, ↓tg_n12, ↓v_au12, ↓w_v13, ↓tg_n13, ↓v_au13, ↓w_v14, ↓tg_n14, ↓v_au14, ↓w_v15, ↓tg_n15, ↓v_au15, ↓w_v16, ↓tg_n16, ↓v_au16, ↓w_v17, ↓tg_n17, ↓v_au17, ↓w_v18, ↓tg_n18, ↓v_au18, ↓w_v19, ↓tg_n19, ↓v_au19, ↓w_v20, ↓tg_n20, ↓v_au20, ↓w_v21, ↓tg_n21, ↓v_au21, ↓w_v22, ↓tg_n22, ↓v_au22, ↓w_v23, ↓tg_n23, ↓v_au23, ↓w_v24, ↓tg_n24, ↓v_au24, ↓w_v25, ↓tg_n25, ↓v_au25, ↓w_cst, ↓w_bin, ↓w_cmp, ↓w_neg, ↓w_not, ↓w_and, ↓w_or, ↓w_ite, ↓w_chn, ↓w_tup, ↓w_lst, ↓w_idx, ↓w_slc, ↓w_call, ↓w_bi, ↓w_fld, ↓w_meth, ↓w_make, ↓w_lc, ↓ws_nil, ↓ws_cons, ↓b_add, ↓b_sub, ↓b_mul, ↓b_fdiv, ↓b_mod, ↓b_pow, ↓b_shl, ↓b_addT, ↓k_lt, ↓k_le, ↓k_gt, ↓k_ge, ↓k_eqI, ↓k_neI, ↓k_eqStr, ↓k_neStr, ↓k_is, ↓k_isnot, ↓k_in, ↓k_notin, ↓isN_non, ↓isN_int, ↓isN_tup, ↓isN_ref, ↓isN_bl, ↓isN_str, ↓t_bl, ↓t_non, ↓t_int, ↓t_tup, ↓ix_t0, ↓ix_t1, ↓ix_t2, ↓ix_r0, ↓ix_r1, ↓ix_r2, ↓sl_tup, ↓sl_ref, ↓po_nil, ↓po_int, ↓f_lenT, ↓f_lenF, ↓f_lenR, ↓f_abs, ↓f_min, ↓f_max, ↓f_intB, ↓f_tupR, ↓f_sumR, ↓f_allR, ↓f_isiII, ↓f_isiIB, ↓f_isiTT, ↓f_isiSS, ↓negS_int, ↓chnS_bl, ↓nonS_non, ↓oSat_some, ↓insS_ref, ↓insS_app, ↓insS_set, ↓lstS_ref, ↓lstS_app, ↓lstS_set, ↓seq_nx, ↓seq_rt, ↓seq_bk, ↓seq_ct, ↓v_nil, ↓v_cons, ↓v_pass, ↓v_exp, ↓v_ret, ↓v_retN, ↓v_brk, ↓v_cnt, ↓v_ife, ↓v_asg, ↓v_asg2, ↓v_par, ↓v_par3, ↓v_ifw, ↓v_app, ↓v_ext, ↓v_augF, ↓v_for, ↓v_whl, ↓tq_fld, ↓tq_sub, ↓tq_tp, ↓tqs_nil, ↓tqs_cons, ↓tupS_tup, ↓pl_0, ↓pl_1, ↓pl_2, ↓g_add, ↓g_sub, ↓turn_nx, ↓turn_ct, ↓turn_bk, ↓turn_rt, ↓end_rt, ↓end_nx, ↓it_rng1, ↓it_rng2, ↓it_seqT, ↓it_seqF, ↓it_seqR, ↓it_enumT, ↓it_zipT, ↓ix_s0, ↓ix_s1, ↓ix_s2, ↓ix_sa0, ↓ix_sa1, ↓ix_sa2, ↓ix_new, ↓f_lenN, ↓f_tupN, ↓f_sumN, ↓f_allN, ↓sat_ok, ↓List.set_set, List.length_set, true_and, and_true, and_self, set_0, set_1, set_2]
          exact ⟨i + 1, t, _, rfl, by omega, rfl, by simp [hrs]⟩
    · rintro r h ⟨i, t, rs, hx, hit, rfl, hrs⟩
      refine ⟨rfl, ?_⟩
      simp only [↓w_v0, ↓tg_n0, ↓v_au0, ↓w_v1, ↓tg_n1, ↓v_au1, ↓w_v2, ↓tg_n2, ↓v_au2, ↓w_v3, ↓tg_n3, ↓v_au3, ↓w_v4, ↓tg_n4, ↓v_au4, ↓w_v5, ↓tg_n5, ↓v_au5, ↓w_v6, ↓tg_n6, ↓v_au6, ↓w_v7, ↓tg_n7, ↓v_au7, ↓w_v8, ↓tg_n8, ↓v_au8, ↓w_v9, ↓tg_n9, ↓v_au9, ↓w_v10, ↓tg_n10, ↓v_au10, ↓w_v11, ↓tg_n11, ↓v_au11, ↓w_v12, ↓tg_n12, ↓v_au12, ↓w_v13, ↓tg_n13, ↓v_au13, ↓w_v14, ↓tg_n14, ↓v_au14, ↓w_v15, ↓tg_n15, ↓v_au15, ↓w_v16, ↓tg_n16, ↓v_au16, ↓w_v17, ↓tg_n17, ↓v_au17, ↓w_v18, ↓tg_n18, ↓v_au18, ↓w_v19, ↓tg_n19, ↓v_au19, ↓w_v20, ↓tg_n20, ↓v_au20, ↓w_v21, ↓tg_n21, ↓v_au21, ↓w_v22, ↓tg_n22, ↓v_au22, ↓w_v23, ↓tg_n23, ↓v_au23, ↓w_v24, ↓tg_n24, ↓v_au24, ↓w_v25, ↓tg_n25, ↓v_au25, ↓w_cst, ↓w_bin, ↓w_cmp, ↓w_neg, ↓w_not, ↓w_and, ↓w_or, ↓w_ite, ↓w_chn, ↓w_tup, ↓w_lst, ↓w_idx, ↓w_slc, ↓w_call, ↓w_bi, ↓w_fld, ↓w_meth, ↓w_make, ↓w_lc, ↓ws_nil, ↓ws_cons, ↓b_add, ↓b_sub, ↓b_mul, ↓b_fdiv, ↓b_mod, ↓b_pow, ↓b_shl, ↓b_addT, ↓k_lt, ↓k_le, ↓k_gt, ↓k_ge, ↓k_eqI, ↓k_neI, ↓k_eqStr, ↓k_neStr, ↓k_is, ↓k_isnot, ↓k_in, ↓k_notin, ↓isN_non, ↓isN_int, ↓isN_tup, ↓isN_ref, ↓isN_bl, ↓isN_str, ↓t_bl, ↓t_non, ↓t_int, ↓t_tup, ↓ix_t0, ↓ix_t1, ↓ix_t2, ↓ix_r0, ↓ix_r1, ↓ix_r2, ↓sl_tup, ↓sl_ref, ↓po_nil, ↓po_int, ↓f_lenT, ↓f_lenF, ↓f_lenR, ↓f_abs, ↓f_min, ↓f_max, ↓f_intB, ↓f_tupR, ↓f_sumR, ↓f_allR, ↓f_isiII, ↓f_isiIB, ↓f_isiTT, ↓f_isiSS, ↓negS_int, ↓chnS_bl, ↓nonS_non, ↓oSat_some, ↓insS_ref, ↓insS_app, ↓insS_set, ↓lstS_ref, ↓lstS_app, ↓lstS_set, ↓seq_nx, ↓seq_rt, ↓seq_bk, ↓seq_ct, ↓v_nil, ↓v_cons, ↓v_pass, ↓v_exp, ↓v_ret, ↓v_retN, ↓v_brk, ↓v_cnt, ↓v_ife, ↓v_asg, ↓v_asg2, ↓v_par, ↓v_par3, ↓v_ifw, ↓v_app, ↓v_ext, ↓v_augF, ↓v_for, ↓v_whl, ↓tq_fld, ↓tq_sub, ↓tq_tp, ↓tqs_nil, ↓tqs_cons, ↓tupS_tup, ↓pl_0, ↓pl_1, ↓pl_2, ↓g_add, ↓g_sub, ↓turn_nx, ↓turn_ct, ↓turn_bk, ↓turn_rt, ↓end_rt, ↓end_nx, ↓it_rng1, ↓it_rng2, ↓it_seqT, ↓it_seqF, ↓it_seqR, ↓it_enumT, ↓it_zipT, ↓ix_s0, ↓ix_s1, ↓ix_s2, ↓ix_sa0, ↓ix_sa1, ↓ix_sa2, ↓ix_new, ↓f_lenN, ↓f_tupN, ↓f_sumN, ↓f_allN, ↓sat_ok, ↓List.set_set, List.length_set, true_and, and_true, and_self, set_0, set_1, set_2]
      rfl
  obtain ⟨d, m, e, rfl⟩ := sat_iff.1 key
  exact ⟨m, e⟩
end G.K13
set_option maxRecDepth 100000
set_option maxHeartbeats 4000000
namespace G.K13
open PySem L2 PySem.Spec PyProof.Rows G
theorem walk {l : PySem.W.OpenLaw} {q : Program} {loose : List Str} {XP : (Str → Option Value) → Heap → Prop} {YP : World → Heap → Prop} {d : DefRec} {K : Params → PySem.W.Frag} (hn : l.most = some 63) (hdf : d.params.defaults = [])
    (hY : ∀ (w : World) (h : Heap), YP w h → (K w.params).In h)
    (F : ∀ (w : World) (mg : Str → Option Value) (fa : Addr) (h : Heap), (K w.params).In h → h.Ns mainGlobals mg → mg d.name = some (.ref fa) →
      ∃ (fd : FuncData) (z : Ad), (∀ (s : Shared) (u : Value), BindsTo s fd ⟨[u], []⟩ [("_law_script", u)]) ∧ ∀ base : Heap, (K w.params).In base → base.Ns mainGlobals mg → FnOk l.prog w (K w.params) mg base (L2.CX l.prog w) (2 * 12) fa fd ["_law_script"] (spOf ⟨K w.params, clsA z⟩ (callN Dt 12) 21)) :
    PySem.W.WalkO q loose XP YP l.row.toRowW d [] (fun f vs => PySem.call f vs) :=
  L2.walk_of (n := 63) (k := 2 * 12) (x := "_law_script") (CX := fun w => L2.CX l.prog w) (sp := fun w => fun vs H Q E => ∀ z : Ad, spOf ⟨K w.params, clsA z⟩ (callN Dt 12) 21 vs H Q E) hn (by decide) hdf ⟨rfl, by decide, by decide⟩ hY
    (fun w mg fa h a b c => by
      obtain ⟨fd, z, hb, hF⟩ := F w mg fa h a b c
      exact ⟨fd, hb, fun base h1 h2 => (hF base h1 h2).imp fun vs H Q E q => q z⟩)
    (fun w H a ns hl hO hS z => law_sp hO hS (law_true ns hl)) fun w H s e s' h => by
      obtain ⟨_, _, _, _, _, _, _, _, _, _, _, _, q⟩ := h
      exact q
end G.K13

open PySem PySem.W PyProof.Rows in
set_option maxRecDepth 100000 in
set_option maxHeartbeats 0 in
theorem PySem.Challenge.cw_growshrink_k13_tables_that_double_holds : PySem.Challenge.rw_growshrink_k13_tables_that_double.Holds := by
  w_on; o_law; k_head; (case hw => w_witness2)
  k_fill
  refine G.K13.walk (l := PySem.Challenge.rw_growshrink_k13_tables_that_double) rfl rfl (fun w h Y => PySem.W.kIn_of Y) ?F
  case F =>
    intro w mg fa h KX G0 hmg
    refine' G.K13.all_mk KX G0 hmg ?gc_Track ?a_is_integer ?l_is_integer ?c_is_integer ?k_is_integer ?a_top_level ?l_top_level ?c_top_level ?k_top_level ?a_capacity_of ?l_capacity_of ?c_capacity_of ?k_capacity_of ?a_boundaries ?l_boundaries ?c_boundaries ?k_boundaries ?a_is_run ?l_is_run ?c_is_run ?k_is_run ?a_are_operations ?l_are_operations ?c_are_operations ?k_are_operations ?a_check_operations ?l_check_operations ?c_check_operations ?k_check_operations ?a_Track___init__ ?i_Track___init__ ?l_Track___init__ ?c_Track___init__ ?k_Track___init__ ?a_Track_move ?i_Track_move ?l_Track_move ?c_Track_move ?k_Track_move ?a_Track_rest ?i_Track_rest ?l_Track_rest ?c_Track_rest ?k_Track_rest ?a_Track_push ?i_Track_push ?l_Track_push ?c_Track_push ?k_Track_push ?a_Track_pop ?i_Track_pop ?l_Track_pop ?c_Track_pop ?k_Track_pop ?a_Track_run ?i_Track_run ?l_Track_run ?c_Track_run ?k_Track_run ?a_tracked ?l_tracked ?c_tracked ?k_tracked ?a_after ?l_after ?c_after ?k_after ?a_cost_of ?l_cost_of ?c_cost_of ?k_cost_of ?a_law_draws ?l_law_draws ?c_law_draws ?k_law_draws ?a_law_below ?l_law_below ?c_law_below ?k_law_below ?a_law_pick ?l_law_pick ?c_law_pick ?k_law_pick ?a_law_table ?l_law_table ?c_law_table ?k_law_table ?a_law_level ?l_law_level ?c_law_level ?k_law_level ?a_law ?l_law ?c_law ?k_law ?pg_Track ?hd_Track ?po_Track ?sa_Track ?mk_Track ?kc_Track ?n_Track_at_level ?n_Track_at_size ?n_Track_done ?n_Track_fixed ?n_Track_most ?n_Track_paid ?n_Track_places ?z_abs ?z_all ?z_bool ?z_enumerate ?z_int ?z_isinstance ?z_len ?z_max ?z_min ?z_range ?z_str ?z_sum ?z_tuple ?z_zip ?q_GROW ?q_MOST_COUNT ?q_MOST_PAIRS ?q_PAIR ?q_POP ?q_PUSH ?q_SHRINK
    (case gc_Track => k_is)
    (case a_is_integer => k_is)
    (case l_is_integer => k_is)
    (case c_is_integer => k_is)
    (case k_is_integer => k_is)
    (case a_top_level => k_is)
    (case l_top_level => k_is)
    (case c_top_level => k_is)
    (case k_top_level => k_is)
    (case a_capacity_of => k_is)
    (case l_capacity_of => k_is)
    (case c_capacity_of => k_is)
    (case k_capacity_of => k_is)
    (case a_boundaries => k_is)
    (case l_boundaries => k_is)
    (case c_boundaries => k_is)
    (case k_boundaries => k_is)
    (case a_is_run => k_is)
    (case l_is_run => k_is)
    (case c_is_run => k_is)
    (case k_is_run => k_is)
    (case a_are_operations => k_is)
    (case l_are_operations => k_is)
    (case c_are_operations => k_is)
    (case k_are_operations => k_is)
    (case a_check_operations => k_is)
    (case l_check_operations => k_is)
    (case c_check_operations => k_is)
    (case k_check_operations => k_is)
    (case a_Track___init__ => k_is)
    (case i_Track___init__ => k_is)
    (case l_Track___init__ => k_is)
    (case c_Track___init__ => k_is)
    (case k_Track___init__ => k_is)
    (case a_Track_move => k_is)
    (case i_Track_move => k_is)
    (case l_Track_move => k_is)
    (case c_Track_move => k_is)
    (case k_Track_move => k_is)
    (case a_Track_rest => k_is)
    (case i_Track_rest => k_is)
    (case l_Track_rest => k_is)
    (case c_Track_rest => k_is)
    (case k_Track_rest => k_is)
    (case a_Track_push => k_is)
    (case i_Track_push => k_is)
    (case l_Track_push => k_is)
    (case c_Track_push => k_is)
    (case k_Track_push => k_is)
    (case a_Track_pop => k_is)
    (case i_Track_pop => k_is)
    (case l_Track_pop => k_is)
    (case c_Track_pop => k_is)
    (case k_Track_pop => k_is)
    (case a_Track_run => k_is)
    (case i_Track_run => k_is)
    (case l_Track_run => k_is)
    (case c_Track_run => k_is)
    (case k_Track_run => k_is)
    (case a_tracked => k_is)
    (case l_tracked => k_is)
    (case c_tracked => k_is)
    (case k_tracked => k_is)
    (case a_after => k_is)
    (case l_after => k_is)
    (case c_after => k_is)
    (case k_after => k_is)
    (case a_cost_of => k_is)
    (case l_cost_of => k_is)
    (case c_cost_of => k_is)
    (case k_cost_of => k_is)
    (case a_law_draws => k_is)
    (case l_law_draws => k_is)
    (case c_law_draws => k_is)
    (case k_law_draws => k_is)
    (case a_law_below => k_is)
    (case l_law_below => k_is)
    (case c_law_below => k_is)
    (case k_law_below => k_is)
    (case a_law_pick => k_is)
    (case l_law_pick => k_is)
    (case c_law_pick => k_is)
    (case k_law_pick => k_is)
    (case a_law_table => k_is)
    (case l_law_table => k_is)
    (case c_law_table => k_is)
    (case k_law_table => k_is)
    (case a_law_level => k_is)
    (case l_law_level => k_is)
    (case c_law_level => k_is)
    (case k_law_level => k_is)
    (case a_law => k_is)
    (case l_law => k_is)
    (case c_law => k_is)
    (case k_law => k_is)
    (case pg_Track => k_is)
    (case hd_Track => k_is)
    (case po_Track => k_is)
    (case sa_Track => k_is)
    (case mk_Track => k_is)
    (case kc_Track => k_is)
    (case n_Track_at_level => k_is)
    (case n_Track_at_size => k_is)
    (case n_Track_done => k_is)
    (case n_Track_fixed => k_is)
    (case n_Track_most => k_is)
    (case n_Track_paid => k_is)
    (case n_Track_places => k_is)
    (case z_abs => k_is)
    (case z_all => k_is)
    (case z_bool => k_is)
    (case z_enumerate => k_is)
    (case z_int => k_is)
    (case z_isinstance => k_is)
    (case z_len => k_is)
    (case z_max => k_is)
    (case z_min => k_is)
    (case z_range => k_is)
    (case z_str => k_is)
    (case z_sum => k_is)
    (case z_tuple => k_is)
    (case z_zip => k_is)
    (case q_GROW => k_is)
    (case q_MOST_COUNT => k_is)
    (case q_MOST_PAIRS => k_is)
    (case q_PAIR => k_is)
    (case q_POP => k_is)
    (case q_PUSH => k_is)
    (case q_SHRINK => k_is)
