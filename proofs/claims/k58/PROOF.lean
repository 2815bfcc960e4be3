import PyProof.Rows.All
import Wide.All
import OpenK.AllK
import HandS.Base
import HandS.Call
import HandS.Exc
import HandS.Words
import HandS.Head0
import HandS.Head1
import HandS.Head2
import HandS.HeadHook1
import HandS.HeadHook4
import Open.Row
import Wide.FinOn
import HandS.ForMost
import HandS.ForExc
import HandS.Wide
import HandS.IsInst
import HandS.Flow
import HandS.Zip
import HandS.TupAny
import HandS.Conv
import HandS.CallSlots
import HandS.Style
import KE.GoesEnum
import HandS.Lambda
import HandS.SetFor
import HandS.Strs
import HandS.GenList
import HandS.Iter
import HandS.SortInts
import HandS.Star
import HandS.TupMul
import KE.KDictZip
import HandS.GenYield
import HandS.Deep
import HandS.TupLe
import HandS.Defaults
import KE.SortData
import HandS.Dict
import HandS.ExcField
import HandS.ExcIs
import HandS.ExcInit
import KE.KExcIs
import KE.RegKTryMore
import KE.RegKIsAll
import HandS.ExcValue
import HandS.EndTab
import PyProof.Rows.IntBool
import HandS.Small
import HandS.Property
import KE.KUnpackStar
import OpenK.KWalk
import PyProof.InstEq
import OpenK.KMeth
import HandS.ListItems
import PyProof.NeKinds
import KE.KSuper
import HandS.Nested
import HandS.Text
import KE.KxIndex
import HandS.TryOnly
import KE.GoesComp
import HandS.DictTup
import HandS.TupLen
import PyProof.Rows.TupDisplay
import KE.DatumOrd
import KE.KDictCopyH
import KE.KDictPairs
import HandS.DictEq
import KE.KRevSl
import HandS.SlotsOwn
import PyProof.FactsAll.tuple_1
import PyProof.FactsAll.str_1
import PyProof.FactsAll.int_1
import PyProof.FactsAll.NoneType_1
import HandS.FStr
import PyProof.RulesMatch
import KE.KNest
import KE.KWithOwn
import KE.GoesZip
import KE.GoesMore
import KE.KxField
import PyProof.Rows.StrIntSpec
import HandS.FStrTup
import PyProof.ReprLen
import PyProof.ReprText
import KE.IntTextLaws
import PySem.Challenge.RW_growshrink_k58_reports
set_option Elab.async false
set_option linter.all false
set_option maxRecDepth 100000
set_option maxHeartbeats 2000000
namespace G
open PySem L2 PySem.Spec PyProof.Rows
def asB (B n : Nat) : List Addr := mainGlobals :: cStatics :: (List.range (n - B)).map (· + B)
abbrev FnT : Type := Option (Str × Str × Arguments × FuncBody × Scope)
def fnT (K : PySem.W.Frag) (a : Addr) : FnT := match K.lookup a with
  | some ⟨_, _, .func fd, _⟩ => some (fd.name, fd.qualname, fd.params, fd.body, fd.scope)
  | _ => none
abbrev fvT (x q : Str) (st : Stmt) : FnT := some (x, q, defArgs st, .stmts (defBody st), defScope st)
structure Tst where
  B : Nat
  chk : List (PySem.W.Frag → Bool)
  ats : List (PySem.W.Frag → Addr)
  vals : List FnT
def allB (D : Tst) (K : PySem.W.Frag) : Bool × List FnT := (D.chk.all fun c => c K, D.ats.map fun a => fnT K (a K))
def tabX (o : Obj) : Bool := match o.cls, o.data with
  | .none, .fields _ => true
  | _, _ => false
def frU (g : Addr → Option Obj) (as : List Addr) : PySem.W.Frag := (He.frT g as).filter fun q => !tabX q.2
theorem frU_in {as : List Addr} {h : Heap} : (frU h.get? as).In h := fun a o e => by
  have h1 := PySem.W.mem_of_lookupK e
  have h2 := (List.mem_filter.1 h1).1
  unfold He.frT at h2
  exact He.frG_mem (List.mem_filter.1 h2).1
def obsB (D : Tst) (g : Addr → Option Obj) (n : Nat) : Bool × List FnT := allB D (frU g (asB D.B n))
def SaysB (D : Tst) (K : PySem.W.Frag) : Prop := allB D K = (true, D.vals)
def hookB (D : Tst) : PySem.W.Hook :=
  ⟨Bool × List FnT, fun s => obsB D s.heap.get? s.heap.objs.size, fun _ => (true, D.vals), fun _ h => ∃ K : PySem.W.Frag, K.In h ∧ SaysB D K, fun _ _ e => ⟨_, frU_in, e⟩, fun _ _ _ ⟨K, i, c⟩ k => ⟨K, fun a o e => k a o (i a o e), c⟩⟩
theorem obB_eq (D : Tst) (s : PySem.W.SharedT) : obsB D (HandSHeadRun.getT s) s.n = (hookB D).obs s.abs := by
  show _ = obsB D s.abs.heap.get? s.abs.heap.objs.size
  rw [show HandSHeadRun.getT s = s.abs.heap.get? from funext (HandSHeadRun.getT_eq s), show s.abs.heap.objs.size = s.n from PySem.W.absHeap_size _ _ _]
section
variable {D : Tst} {K : PySem.W.Frag}
theorem SaysB.c (h : SaysB D K) (i : Nat) {c : PySem.W.Frag → Bool} (e : D.chk[i]? = some c) : c K = true :=
  List.all_eq_true.1 (congrArg Prod.fst h : (D.chk.all fun c => c K) = true) c (List.mem_of_getElem? e)
theorem SaysB.f (h : SaysB D K) (i : Nat) {a : PySem.W.Frag → Addr} {v : FnT} (e1 : D.ats[i]? = some a) (e2 : D.vals[i]? = some v) : fnT K (a K) = v := by
  have e : (D.ats.map fun a => fnT K (a K)) = D.vals := congrArg Prod.snd h
  rw [← e, List.getElem?_map, e1] at e2
  exact Option.some.inj e2
def fdA (K : PySem.W.Frag) (a : Addr) : FuncData := match K.lookup a with
  | some ⟨_, _, .func fd, _⟩ => fd
  | _ => default
def fokB (K : PySem.W.Frag) (a : Addr) (q : Str) : Bool := match K.lookup a with
  | some ⟨_, _, .func fd, _⟩ => decide (fd.globals = mainGlobals) && (fd.closure.isEmpty && (decide (fd.builtins = builtinsNs) && (decide (fd.defaults = .none) && (PySem.W.codeIn K fd.code q && PySem.W.keepIn K (.ref a)))))
  | _ => false
theorem fn_in {a : Addr} {x q : Str} {ps : Arguments} {b : List Stmt} {sc : Scope} (e : fnT K a = some (x, q, ps, .stmts b, sc)) (c : fokB K a q = true) :
    ∃ (oc : Value) (od : Option Addr) (sl : Array (Option Value)), K.lookup a = some ⟨oc, od, .func (PySem.W.fnOf x q ps b sc .none (fdA K a).kwdefaults (fdA K a).doc (fdA K a).pyModule (fdA K a).annotations (fdA K a).code (fdA K a).closureTuple), sl⟩ ∧ PySem.W.codeIn K (fdA K a).code q = true ∧ PySem.W.keepIn K (.ref a) = true := by
  unfold fnT at e
  unfold fokB at c
  unfold fdA
  split at e
  · rename_i oc od fd sl hl
    rw [hl] at c ⊢
    obtain ⟨n1, n2, n3, n4, n5, n6, n7, n8, n9, n10, n11, n12, n13, n14, n15⟩ := fd
    simp only [Option.some.injEq, Prod.mk.injEq] at e
    obtain ⟨rfl, rfl, rfl, rfl, rfl⟩ := e
    simp only [Bool.and_eq_true, decide_eq_true_eq, List.isEmpty_iff] at c
    obtain ⟨rfl, rfl, rfl, rfl, c1, c2⟩ := c
    exact ⟨oc, od, sl, rfl, c1, c2⟩
  · cases e
def strB (v : Option (Option Value)) (x : Str) : Bool := match v with
  | some (some (.str y _)) => decide (y = x)
  | _ => false
theorem str_in {v : Option (Option Value)} {x : Str} (h : strB v x = true) : ∃ t, v = some (some (.str x t)) := by
  unfold strB at h
  split at h
  · exact ⟨_, by rw [of_decide_eq_true h]⟩
  · cases h
end
end G
set_option maxHeartbeats 4000000
namespace G.K58
open PySem L2 PySem.Spec PyProof.Rows G
def top (i : Nat) : Stmt := PySem.Challenge.pw_growshrink_k58_reports.main.body.getD i (.Pass ⟨0, 0, 0, 0⟩)
abbrev st_report : Stmt := top 2
abbrev st_law_well : Stmt := top 4
abbrev st_law_draw : Stmt := top 5
abbrev st_law_pick : Stmt := top 6
abbrev st_law_plan : Stmt := top 7
abbrev st_law_aligned : Stmt := top 8
abbrev st_law_due : Stmt := top 9
abbrev st_law : Stmt := top 10
def chks : List (PySem.W.Frag → Bool) :=
  (fun K => fokB K (He.ga K "report") "report") ::
  (fun K => fokB K (He.ga K "_law_well") "_law_well") ::
  (fun K => fokB K (He.ga K "_law_draw") "_law_draw") ::
  (fun K => fokB K (He.ga K "_law_pick") "_law_pick") ::
  (fun K => fokB K (He.ga K "_law_plan") "_law_plan") ::
  (fun K => fokB K (He.ga K "_law_aligned") "_law_aligned") ::
  (fun K => fokB K (He.ga K "_law_due") "_law_due") ::
  (fun K => fokB K (He.ga K "law") "law") ::
  (fun K => He.eqO (PySem.W.nsIn K mainGlobals "report") (some (some (.ref (He.ga K "report"))))) ::
  (fun K => He.eqO (PySem.W.nsIn K mainGlobals "_law_well") (some (some (.ref (He.ga K "_law_well"))))) ::
  (fun K => He.eqO (PySem.W.nsIn K mainGlobals "_law_draw") (some (some (.ref (He.ga K "_law_draw"))))) ::
  (fun K => He.eqO (PySem.W.nsIn K mainGlobals "_law_pick") (some (some (.ref (He.ga K "_law_pick"))))) ::
  (fun K => He.eqO (PySem.W.nsIn K mainGlobals "_law_plan") (some (some (.ref (He.ga K "_law_plan"))))) ::
  (fun K => He.eqO (PySem.W.nsIn K mainGlobals "_law_aligned") (some (some (.ref (He.ga K "_law_aligned"))))) ::
  (fun K => He.eqO (PySem.W.nsIn K mainGlobals "_law_due") (some (some (.ref (He.ga K "_law_due"))))) ::
  (fun K => He.eqO (PySem.W.nsIn K mainGlobals "law") (some (some (.ref (He.ga K "law"))))) ::
  (fun K => He.eqO (PySem.W.nsIn K mainGlobals "abs") (some none)) ::
  (fun K => He.eqO (PySem.W.nsIn K mainGlobals "enumerate") (some none)) ::
  (fun K => He.eqO (PySem.W.nsIn K mainGlobals "int") (some none)) ::
  (fun K => He.eqO (PySem.W.nsIn K mainGlobals "len") (some none)) ::
  (fun K => He.eqO (PySem.W.nsIn K mainGlobals "list") (some none)) ::
  (fun K => He.eqO (PySem.W.nsIn K mainGlobals "max") (some none)) ::
  (fun K => He.eqO (PySem.W.nsIn K mainGlobals "min") (some none)) ::
  (fun K => He.eqO (PySem.W.nsIn K mainGlobals "range") (some none)) ::
  (fun K => He.eqO (PySem.W.nsIn K mainGlobals "repr") (some none)) ::
  (fun K => He.eqO (PySem.W.nsIn K mainGlobals "str") (some none)) ::
  (fun K => He.eqO (PySem.W.nsIn K mainGlobals "tuple") (some none)) ::
  (fun K => He.eqO (PySem.W.nsIn K mainGlobals "zip") (some none)) ::
  (fun K => strB (PySem.W.nsIn K mainGlobals "NOTHING") "-") :: []
def ats : List (PySem.W.Frag → Addr) :=
  (fun K => (He.ga K "report")) ::
  (fun K => (He.ga K "_law_well")) ::
  (fun K => (He.ga K "_law_draw")) ::
  (fun K => (He.ga K "_law_pick")) ::
  (fun K => (He.ga K "_law_plan")) ::
  (fun K => (He.ga K "_law_aligned")) ::
  (fun K => (He.ga K "_law_due")) ::
  (fun K => (He.ga K "law")) :: []
def vls : List (FnT) :=
  (fvT "report" "report" st_report) ::
  (fvT "_law_well" "_law_well" st_law_well) ::
  (fvT "_law_draw" "_law_draw" st_law_draw) ::
  (fvT "_law_pick" "_law_pick" st_law_pick) ::
  (fvT "_law_plan" "_law_plan" st_law_plan) ::
  (fvT "_law_aligned" "_law_aligned" st_law_aligned) ::
  (fvT "_law_due" "_law_due" st_law_due) ::
  (fvT "law" "law" st_law) :: []
def tst : Tst := ⟨0, chks, ats, vls⟩
def names0 : List PySem.Str := [("__name__" : PySem.Str), ("NOTHING" : PySem.Str), ("report" : PySem.Str), ("_law_well" : PySem.Str), ("_law_draw" : PySem.Str), ("_law_pick" : PySem.Str), ("_law_plan" : PySem.Str), ("_law_aligned" : PySem.Str), ("_law_due" : PySem.Str)]
def names : List PySem.Str := names0
abbrev RR : PySem.W.OpenRow := PySem.W.OpenLaw.row PySem.Challenge.rw_growshrink_k58_reports
theorem top_run (w : World) : HandSHeadRun.RunEq RR (PySem.W.view RR.prog [10]) (hookB tst) (fun s => obsB tst (HandSHeadRun.getT s) s.n) 40000 names w := by
  intro os
  kernel_rfl
end G.K58
namespace G
open PySem
inductive D where
  | non | bl (b : Bool) | int (i : Int) | str (s : Str) | tup (xs : List D) | fl (xs : List D) | sc (xs : List D) | fd (ks vs : List D) | ref (n : Nat)
inductive O where
  | lst (xs : List D) | ins (c : Nat) (fs : List (Str × D)) | exc (c : Nat) (fs : List (Str × D)) | dct (ks vs : List D) | sd (ks vs : List D) | zd (ks vs : List D)
abbrev Hs := List O
inductive Rs (α : Type) where
  | ok (a : α) (m : Hs) | ex (c : Nat) (fs : List (Str × D)) (m : Hs) | bad
def Rs.bind {α β : Type} (r : Rs α) (f : α → Hs → Rs β) : Rs β := match r with
  | .ok a m => f a m
  | .ex c fs m => .ex c fs m
  | .bad => .bad
theorem bind_ok {α β : Type} {a : α} {m : Hs} {f : α → Hs → Rs β} : (Rs.ok a m).bind f = f a m := rfl
mutual
def beqD : D → D → Bool
  | .non, .non => true
  | .bl a, .bl b => a == b
  | .int a, .int b => a == b
  | .str a, .str b => decide (a = b)
  | .tup a, .tup b => beqL a b
  | .fl a, .fl b => beqL a b
  | .sc a, .sc b => beqL a b
  | .fd a c, .fd b d => beqL a b && beqL c d
  | .ref a, .ref b => a == b
  | _, _ => false
def beqL : List D → List D → Bool
  | [], [] => true
  | a :: as, b :: bs => beqD a b && beqL as bs
  | _, _ => false
end
mutual
theorem beqD_eq : ∀ (a b : D), beqD a b = true → a = b
  | .non, b, h => by cases b <;> simp_all [beqD]
  | .bl _, b, h => by cases b <;> simp_all [beqD]
  | .int _, b, h => by cases b <;> simp_all [beqD]
  | .str _, b, h => by cases b <;> simp_all [beqD]
  | .tup x, b, h => by
    cases b <;> simp only [beqD, Bool.false_eq_true] at h
    rw [beqL_eq x _ h]
  | .fl x, b, h => by
    cases b <;> simp only [beqD, Bool.false_eq_true] at h
    rw [beqL_eq x _ h]
  | .sc x, b, h => by
    cases b <;> simp only [beqD, Bool.false_eq_true] at h
    rw [beqL_eq x _ h]
  | .fd x y, b, h => by
    cases b <;> simp only [beqD, Bool.false_eq_true, Bool.and_eq_true] at h
    rw [beqL_eq x _ h.1, beqL_eq y _ h.2]
  | .ref _, b, h => by cases b <;> simp_all [beqD]
theorem beqL_eq : ∀ (a b : List D), beqL a b = true → a = b
  | [], b, h => by cases b <;> simp_all [beqL]
  | x :: xs, b, h => by
    cases b with
    | nil => simp [beqL] at h
    | cons y ys =>
      simp only [beqL, Bool.and_eq_true] at h
      rw [beqD_eq x y h.1, beqL_eq xs ys h.2]
end
mutual
theorem beqD_rfl : ∀ a : D, beqD a a = true
  | .non => by simp [beqD]
  | .bl _ => by simp [beqD]
  | .int _ => by simp [beqD]
  | .str _ => by simp [beqD]
  | .tup x => by simp only [beqD]; exact beqL_rfl x
  | .fl x => by simp only [beqD]; exact beqL_rfl x
  | .sc x => by simp only [beqD]; exact beqL_rfl x
  | .fd x y => by simp only [beqD, Bool.and_eq_true]; exact ⟨beqL_rfl x, beqL_rfl y⟩
  | .ref _ => by simp [beqD]
theorem beqL_rfl : ∀ a : List D, beqL a a = true
  | [] => by simp [beqL]
  | x :: xs => by simp only [beqL, Bool.and_eq_true]; exact ⟨beqD_rfl x, beqL_rfl xs⟩
end
mutual
def below (n : Nat) : D → Bool
  | .ref k => decide (k < n)
  | .tup xs => belowL n xs
  | .fl xs => belowL n xs
  | .sc xs => belowL n xs
  | .fd ks vs => belowL n ks && belowL n vs
  | _ => true
def belowL (n : Nat) : List D → Bool
  | [] => true
  | x :: xs => below n x && belowL n xs
end
def belowF (n : Nat) (fs : List (Str × D)) : Bool := fs.all fun p => below n p.2
def beqF : List (Str × D) → List (Str × D) → Bool
  | [], [] => true
  | a :: as, b :: bs => decide (a.1 = b.1) && beqD a.2 b.2 && beqF as bs
  | _, _ => false
theorem beqF_eq : ∀ (a b : List (Str × D)), beqF a b = true → a = b
  | [], b, h => by cases b <;> simp_all [beqF]
  | x :: xs, b, h => by
    cases b with
    | nil => simp [beqF] at h
    | cons y ys =>
      simp only [beqF, Bool.and_eq_true, decide_eq_true_eq] at h
      obtain ⟨⟨h1, h2⟩, h3⟩ := h
      obtain ⟨x1, x2⟩ := x
      obtain ⟨y1, y2⟩ := y
      have e1 : x1 = y1 := h1
      have e2 : x2 = y2 := beqD_eq _ _ h2
      rw [e1, e2, beqF_eq xs ys h3]
def belowO (n : Nat) : O → Bool
  | .lst xs => belowL n xs
  | .ins _ fs => belowF n fs
  | .exc _ fs => belowF n fs
  | .dct ks vs => belowL n ks && belowL n vs
  | .sd ks vs => belowL n ks && belowL n vs
  | .zd ks vs => belowL n ks && belowL n vs
def beqO : O → O → Bool
  | .lst a, .lst b => beqL a b
  | .ins c a, .ins d b => c == d && beqF a b
  | .exc c a, .exc d b => c == d && beqF a b
  | .dct a c, .dct b d => beqL a b && beqL c d
  | .sd a c, .sd b d => beqL a b && beqL c d
  | .zd a c, .zd b d => beqL a b && beqL c d
  | _, _ => false
theorem beqO_eq (a b : O) (h : beqO a b = true) : a = b := by
  cases a <;> cases b <;> simp only [beqO, Bool.false_eq_true, Bool.and_eq_true, beq_iff_eq] at h
  · rw [beqL_eq _ _ h]
  · rw [h.1, beqF_eq _ _ h.2]
  · rw [h.1, beqF_eq _ _ h.2]
  · rw [beqL_eq _ _ h.1, beqL_eq _ _ h.2]
  · rw [beqL_eq _ _ h.1, beqL_eq _ _ h.2]
  · rw [beqL_eq _ _ h.1, beqL_eq _ _ h.2]
def gcL (n : Nat) : Hs → Hs → Bool
  | [], _ => true
  | o :: os, p :: ps => (beqO o p || belowO n p) && gcL n os ps
  | _ :: _, [] => false
abbrev M (α : Type) := Hs → Rs α
def ret {α : Type} (a : α) : M α := fun m => .ok a m
def bnd {α β : Type} (t : M α) (f : α → M β) : M β := fun m => (t m).bind fun a m1 => f a m1
def bad {α : Type} : M α := fun _ => .bad
def opt {α : Type} (o : Option α) : M α := match o with
  | some a => ret a
  | none => bad
def ask {α : Type} (f : Hs → Option α) : M α := fun m => match f m with
  | some a => .ok a m
  | none => .bad
inductive Op where | add | sub | mul | fdiv | mod | pow | shl
inductive Cp where | lt | le | gt | ge | eq | ne | is | isnot | isin | notin
inductive Ty where | non | bl | int | str | tup | lst | dct
  deriving DecidableEq
def truth : D → Hs → Option Bool
  | .non, _ => some false
  | .bl b, _ => some b
  | .int i, _ => some (i != 0)
  | .str s, _ => if s.length ≤ sizeLine then some (s.length != 0) else none
  | .tup xs, _ => some (!xs.isEmpty)
  | .fl xs, _ => some (!xs.isEmpty)
  | .sc xs, _ => some (!xs.isEmpty)
  | .fd _ _, _ => none
  | .ref n, m => match m[n]? with
    | some (.lst xs) => some (!xs.isEmpty)
    | _ => none
def lstOf : D → Hs → Option (List D)
  | .fl xs, _ => some xs
  | .ref n, m => match m[n]? with
    | some (.lst xs) => some xs
    | _ => none
  | _, _ => none
def binS : Op → D → D → M D
  | .add, .int i, .int j => ret (.int (i + j))
  | .add, .str i, .str j => if i.length + j.length ≤ sizeLine then ret (.str (i ++ j)) else bad
  | .add, .tup xs, .tup ys => if xs.length + ys.length ≤ sizeLine then ret (.tup (xs ++ ys)) else bad
  | .sub, .int i, .int j => ret (.int (i - j))
  | .mul, .int i, .int j => if i.natAbs.log2 + j.natAbs.log2 < 1000000 then ret (.int (i * j)) else bad
  | .fdiv, .int i, .int j => if 0 < j ∧ j.natAbs.log2 < 9000 then ret (.int (i / j)) else bad
  | .mod, .int i, .int j => if 0 < j then ret (.int (i % j)) else bad
  | .pow, .int i, .int j => if 0 ≤ j ∧ (i.natAbs.log2 + 1) * j.toNat ≤ 134217728 then ret (.int (i ^ j.toNat)) else bad
  | .shl, .int i, .int j => if 0 ≤ j ∧ j ≤ 1000000 ∧ i.natAbs < 18446744073709551616 then ret (.int (i * 2 ^ j.toNat)) else bad
  | .add, x, y => fun m => match lstOf x m, lstOf y m with
    | some xs, some ys => if xs.length + ys.length ≤ sizeLine then .ok (.fl (xs ++ ys)) m else .bad
    | _, _ => .bad
  | .mul, x, .int k => fun m => match lstOf x m with
    | some xs => if -(2 ^ 63) ≤ k ∧ k < 2 ^ 63 ∧ xs.length * k.toNat ≤ sizeLine then .ok (.fl (List.replicate k.toNat xs).flatten) m else .bad
    | _ => .bad
  | _, _, _ => bad
def mapO {α β : Type} (f : α → Option β) : List α → Option (List β)
  | [] => some []
  | x :: xs => match f x, mapO f xs with
    | some y, some ys => some (y :: ys)
    | _, _ => none
def pyD (m : Hs) : Nat → D → Option PyData
  | _, .non => some .none
  | _, .bl b => some (.bool b)
  | _, .int i => some (.int i)
  | _, .str s => if PyData.strOk s then some (.str s) else none
  | 0, _ => none
  | n + 1, .tup xs => (mapO (pyD m n) xs).map .tuple
  | n + 1, .fl xs => (mapO (pyD m n) xs).map .list
  | n + 1, .sc xs => (mapO (pyD m n) xs).map .list
  | _ + 1, .fd _ _ => none
  | n + 1, .ref k => match m[k]? with
    | some (.lst xs) => (mapO (pyD m n) xs).map .list
    | _ => none
def deepest : Nat := 50
def eqP (x y : D) (m : Hs) : Option Bool := match pyD m deepest x, pyD m deepest y with
  | some a, some b => some (PyData.eqv a b)
  | _, _ => none
def eqS (x y : D) (m : Hs) : Option Bool := match x, y with
  | .str a, .str b => some (decide (a = b))
  | x, y => eqP x y m
def flatD : D → Bool
  | .non | .bl _ | .int _ | .str _ => true
  | _ => false
def itemsOf : D → Hs → Option (List D)
  | .tup xs, _ => some xs
  | .fl xs, _ => some xs
  | .sc xs, _ => some xs
  | .ref n, m => match m[n]? with
    | some (.lst xs) => some xs
    | _ => none
  | .fd [.non] xs, _ => some xs
  | _, _ => none
def b2z (b : Bool) : Int := if b then 1 else 0
def eqF : D → D → Bool
  | .non, .non => true
  | .bl a, .bl b => a == b
  | .bl a, .int j => b2z a == j
  | .int i, .bl b => i == b2z b
  | .int i, .int j => i == j
  | .str x, .str y => decide (x = y)
  | _, _ => false
def inS (x y : D) (m : Hs) : Option Bool := match itemsOf y m with
  | some xs => if flatD x && xs.all flatD then some (xs.any fun z => eqF z x) else none
  | none => none
def intsOf : List D → Option (List Int)
  | [] => some []
  | .int i :: xs => (intsOf xs).map (i :: ·)
  | _ => none
def cmpS : Cp → D → D → M D
  | .lt, .int i, .int j => ret (.bl (decide (i < j)))
  | .le, .int i, .int j => ret (.bl (decide (i ≤ j)))
  | .gt, .int i, .int j => ret (.bl (decide (j < i)))
  | .ge, .int i, .int j => ret (.bl (decide (j ≤ i)))
  | .eq, x, y => bnd (ask (eqS x y)) fun b => ret (.bl b)
  | .ne, x, y => bnd (ask (eqS x y)) fun b => ret (.bl (!b))
  | .is, x, .non => ret (.bl (match x with | .non => true | _ => false))
  | .isnot, x, .non => ret (.bl (match x with | .non => false | _ => true))
  | .isin, x, y => bnd (ask (inS x y)) fun b => ret (.bl b)
  | .notin, x, y => bnd (ask (inS x y)) fun b => ret (.bl (!b))
  | _, _, _ => bad
def augS : Op → D → D → M D
  | .add, .int i, .int j => ret (.int (i + j))
  | .sub, .int i, .int j => ret (.int (i - j))
  | _, _, _ => bad
def ixD (n : Nat) (i : Int) : Option Nat := if 0 ≤ i then (if i < n then some i.toNat else none) else if -(n : Int) ≤ i then some (i + n).toNat else none
def atD (xs : List D) (i : Int) : Option D := (ixD xs.length i).bind fun j => xs[j]?
def idxS : D → D → M D
  | x, .int i => bnd (ask (itemsOf x)) fun xs => opt (atD xs i)
  | _, _ => bad
def sIxD (n d : Nat) : Option Int → Nat
  | none => d
  | some i => if i < 0 then (i + n).toNat else min i.toNat n
def cutD (xs : List D) (lo hi : Option Int) : List D := (xs.drop (sIxD xs.length 0 lo)).take (sIxD xs.length xs.length hi - sIxD xs.length 0 lo)
def slcS (x : D) (lo hi : Option Int) : M D := match x with
  | .tup xs => ret (.tup (cutD xs lo hi))
  | x => bnd (ask (lstOf x)) fun xs => ret (.fl (cutD xs lo hi))
def sumI : List D → Option Int
  | [] => some 0
  | .int i :: xs => (sumI xs).map (i + ·)
  | _ => none
def boolsOf : List D → Option (List Bool)
  | [] => some []
  | .bl b :: xs => (boolsOf xs).map (b :: ·)
  | _ => none
def rngL (lo : Int) (n : Nat) : List D := (List.range n).map fun k => .int (lo + (k : Nat))
def tyD : D → Hs → Option Ty
  | .non, _ => some .non
  | .bl _, _ => some .bl
  | .int _, _ => some .int
  | .str _, _ => some .str
  | .tup _, _ => some .tup
  | .fl _, _ => some .lst
  | .sc _, _ => some .lst
  | .fd [.non] _, _ => none
  | .fd _ _, _ => some .dct
  | .ref n, m => match m[n]? with
    | some (.lst _) => some .lst
    | _ => none
def guardOf : D → Hs → Option (List D × List (Nat × List D))
  | .ref n, m => match m[n]? with | some (.lst xs) => some (xs, [(n, xs)]) | _ => none
  | .tup xs, _ => some (xs, [])
  | .fl xs, _ => some (xs, [])
  | .sc xs, _ => some (xs, [])
  | _, _ => none
def enumL (s : Int) : List D → List D
  | [] => []
  | x :: xs => .tup [.int s, x] :: enumL (s + 1) xs
def zipL : List D → List D → List D
  | x :: xs, y :: ys => .tup [x, y] :: zipL xs ys
  | _, _ => []
def lenS : List D → M D
  | [.str s] => if s.length ≤ sizeLine then ret (.int s.length) else bad
  | [x] => bnd (ask (itemsOf x)) fun xs => ret (.int xs.length)
  | _ => bad
def absS : List D → M D
  | [.int i] => ret (.int (if i < 0 then -i else i))
  | _ => bad
def min2S : List D → M D
  | [.int i, .int j] => ret (.int (if j < i then j else i))
  | _ => bad
def max2S : List D → M D
  | [.int i, .int j] => ret (.int (if j > i then j else i))
  | _ => bad
def sumS : List D → M D
  | [x] => bnd (ask (lstOf x)) fun xs => bnd (opt (sumI xs)) fun k => ret (.int k)
  | _ => bad
def allS : List D → M D
  | [x] => bnd (ask (lstOf x)) fun xs => bnd (opt (boolsOf xs)) fun k => ret (.bl (k.all id))
  | _ => bad
def anyS : List D → M D
  | [x] => bnd (ask (lstOf x)) fun xs => bnd (opt (boolsOf xs)) fun k => ret (.bl (k.any id))
  | _ => bad
def intS : List D → M D
  | [.int i] => ret (.int i)
  | [.bl b] => ret (.int (if b then 1 else 0))
  | _ => bad
def tupleS : List D → M D
  | [.tup xs] => ret (.tup xs)
  | [x] => bnd (ask (lstOf x)) fun xs => ret (.tup xs)
  | _ => bad
def listS : List D → M D
  | [x] => bnd (ask (itemsOf x)) fun xs => ret (.fl xs)
  | _ => bad
def reprS : List D → M D
  | [x] => bnd (ask fun m => pyD m deepest x) fun p => if p.showable = true ∧ p.shown.length ≤ sizeLine then ret (.str p.shown) else bad
  | _ => bad
def isiS (t : Ty) (x : D) : M D := bnd (ask (tyD x)) fun u => ret (.bl (decide (u = t) || (decide (u = .bl) && decide (t = .int))))
def isiM (t : Ty) (a : M D) : M D := bnd a fun x => isiS t x
def binM (o : Op) (a b : M D) : M D := bnd a fun x => bnd b fun y => binS o x y
def cmpM (o : Cp) (a b : M D) : M D := bnd a fun x => bnd b fun y => cmpS o x y
def negS (x : D) : M D := match x with
  | .int i => ret (.int (-i))
  | _ => bad
def negM (a : M D) : M D := bnd a negS
def tru (x : D) : M Bool := ask (truth x)
def notM (a : M D) : M D := bnd a fun x => bnd (tru x) fun b => ret (.bl (!b))
def andM (a b : M D) : M D := bnd a fun x => bnd (tru x) fun k => if k = true then b else ret x
def orM (a b : M D) : M D := bnd a fun x => bnd (tru x) fun k => if k = true then ret x else b
def iteM (c a b : M D) : M D := bnd c fun x => bnd (tru x) fun k => if k = true then a else b
def chnS (z : D) (a b : M D) : M D := match z with
  | .bl true => a
  | .bl false => b
  | _ => bad
def chnM (o p : Cp) (a b c : M D) : M D := bnd a fun x => bnd b fun y => bnd (cmpS o x y) fun z => chnS z (bnd c fun w => cmpS p y w) (ret (.bl false))
def lsM : List (M D) → M (List D)
  | [] => ret []
  | t :: ts => bnd t fun x => bnd (lsM ts) fun xs => ret (x :: xs)
def tupM (t : M (List D)) : M D := bnd t fun xs => if xs.length ≤ sizeLine then ret (.tup xs) else bad
def lstM (t : M (List D)) : M D := bnd t fun xs => if xs.length ≤ sizeLine then ret (.fl xs) else bad
def newO (o : O) : M D := fun m => .ok (.ref m.length) (m ++ [o])
def lshM (t : M (List D)) : M D := bnd t fun xs => if xs.length ≤ sizeLine then newO (.lst xs) else bad
def idxM (a i : M D) : M D := bnd a fun x => bnd i fun y => idxS x y
def idlS (xs : List D) (y : D) : M D := match y with
  | .int i => opt (atD xs i)
  | _ => bad
def idxL (xs : List D) (i : M D) : M D := bnd i (idlS xs)
def noP : M (Option Int) := ret none
def soS (x : D) : M (Option Int) := match x with
  | .int i => ret (some i)
  | _ => bad
def soP (t : M D) : M (Option Int) := bnd t soS
def slcM (a : M D) (lo hi : M (Option Int)) : M D := bnd a fun x => bnd lo fun l => bnd hi fun h => slcS x l h
def calM (f : List D → M D) (t : M (List D)) : M D := bnd t f
def fldO (at' : Nat → Str → Bool) (f : Str) (x : D) (m : Hs) : Option D := match x with
  | .ref n => match m[n]? with
    | some (.ins c fs) => match fs.lookup f with
      | some v => if at' c f then some v else none
      | none => none
    | _ => none
  | _ => none
def fldS (at' : Nat → Str → Bool) (f : Str) (x : D) : M D := ask (fldO at' f x)
def fldM (at' : Nat → Str → Bool) (a : M D) (f : Str) : M D := bnd a fun x => fldS at' f x
def mthO (ms : Nat → Option (List D → M D)) (f : Str) (x : D) (m : Hs) : Option (List D → M D) := match x with
  | .ref n => match m[n]? with
    | some (.ins c fs) => match fs.lookup f with
      | some _ => none
      | none => ms c
    | _ => none
  | _ => none
def mthS (ms : Nat → Option (List D → M D)) (f : Str) (x : D) : M (List D → M D) := ask (mthO ms f x)
def mthM (ms : Nat → Option (List D → M D)) (a : M D) (f : Str) (t : M (List D)) : M D := bnd a fun x => bnd (mthS ms f x) fun g => bnd t fun xs => g (x :: xs)
def nonS (x : D) (y : D) : M D := match x with
  | .non => ret y
  | _ => bad
def makM (c : Nat) (init : List D → M D) (t : M (List D)) : M D := bnd t fun xs => bnd (newO (.ins c [])) fun x => bnd (init (x :: xs)) fun z => nonS z x
abbrev Its := List D × List (Nat × List D)
def seqI (t : M D) : M Its := bnd t fun x => ask (guardOf x)
def rng1S (x : D) : M Its := match x with
  | .int n => if -(2 ^ 62) ≤ n ∧ n < 2 ^ 62 then ret (rngL 0 n.toNat, []) else bad
  | _ => bad
def rng1I (t : M D) : M Its := bnd t rng1S
def rng2S (x y : D) : M Its := match x, y with
  | .int a, .int b => if -(2 ^ 62) ≤ a ∧ a < 2 ^ 62 ∧ -(2 ^ 62) ≤ b ∧ b < 2 ^ 62 then ret (rngL a (b - a).toNat, []) else bad
  | _, _ => bad
def rng2I (t u : M D) : M Its := bnd t fun x => bnd u fun y => rng2S x y
def enumS (x : D) : M Its := bnd (ask (guardOf x)) fun z => ret (enumL 0 z.1, z.2)
def enumI (t : M D) : M Its := bnd t enumS
def enum2S (x y : D) : M Its := match y with
  | .int s => if -(2 ^ 63) ≤ s ∧ s < 2 ^ 63 then bnd (ask (guardOf x)) fun z => ret (enumL s z.1, z.2) else bad
  | _ => bad
def enum2I (t u : M D) : M Its := bnd t fun x => bnd u fun y => enum2S x y
def isT : D → Bool
  | .tup _ => true
  | _ => false
def zipS (x y : D) : M Its := if isT x = isT y then bnd (ask (guardOf x)) fun z => bnd (ask (guardOf y)) fun w => ret (zipL z.1 w.1, z.2 ++ w.2) else bad
def zipI (t u : M D) : M Its := bnd t fun x => bnd u fun y => zipS x y
def stays (g : List (Nat × List D)) (m : Hs) : Bool := g.all fun p => match m[p.1]? with | some (.lst xs) => beqL xs p.2 | _ => false
def stay (g : List (Nat × List D)) : M Unit := fun m => if stays g m then .ok () m else .bad
def un2 {β : Type} (x : D) (k : D → D → M β) : M β := match x with
  | .tup [a, b] => k a b
  | .fd [.non] [a, b] => k a b
  | _ => bad
def un3 {β : Type} (x : D) (k : D → D → D → M β) : M β := match x with
  | .tup [a, b, c] => k a b c
  | _ => bad
def un4 {β : Type} (x : D) (k : D → D → D → D → M β) : M β := match x with
  | .tup [a, b, c, d] => k a b c d
  | _ => bad
def Rs.calm {α : Type} : Rs α → Rs α
  | .ex _ _ _ => .bad
  | r => r
def calm {α : Type} (t : M α) : M α := fun m => (t m).calm
def lcL (g : List (Nat × List D)) (turn : D → M (Option D)) : List D → List D → M (List D)
  | [], acc => bnd (stay g) fun _ => ret acc
  | x :: xs, acc => bnd (stay g) fun _ => bnd (calm (turn x)) fun o => match o with
    | none => lcL g turn xs acc
    | some y => if acc.length < sizeLine then lcL g turn xs (acc ++ [y]) else bad
def lcM (src : M Its) (turn : D → M (Option D)) : M D := bnd src fun z => bnd (lcL z.2 turn z.1 []) fun ys => ret (.fl ys)
def elM (t : M D) : M (Option D) := bnd t fun y => ret (some y)
inductive Fl (A B : Type) where
  | nx (a : A) | rt (d : D) | bk (b : B) | ct (b : B)
section
variable {A B C : Type}
def nxt (a : A) : M (Fl A B) := ret (.nx a)
def rtn (t : M D) : M (Fl A B) := bnd t fun d => ret (.rt d)
def brk (b : B) : M (Fl A B) := ret (.bk b)
def cnt (b : B) : M (Fl A B) := ret (.ct b)
def goOn (f : A → M (Fl C B)) : Fl A B → M (Fl C B)
  | .nx a => f a
  | .rt d => ret (.rt d)
  | .bk b => ret (.bk b)
  | .ct b => ret (.ct b)
def seq (t : M (Fl A B)) (f : A → M (Fl C B)) : M (Fl C B) := bnd t (goOn f)
def iff (c : M D) (t u : M (Fl A B)) : M (Fl A B) := bnd c fun x => bnd (tru x) fun k => if k = true then t else u
def turnF (f : A → M (Fl A B)) : Fl A A → M (Fl A B)
  | .nx a => f a
  | .ct a => f a
  | .bk a => ret (.nx a)
  | .rt d => ret (.rt d)
def forL (g : List (Nat × List D)) (body : D → A → M (Fl A A)) : List D → A → M (Fl A B)
  | [], s => bnd (stay g) fun _ => ret (.nx s)
  | x :: xs, s => bnd (stay g) fun _ => bnd (body x s) (turnF (forL g body xs))
def forM (src : M Its) (s : A) (body : D → A → M (Fl A A)) : M (Fl A B) := bnd src fun z => forL z.2 body z.1 s
end
def putD (f : Str) (v : D) : List (Str × D) → List (Str × D)
  | [] => [(f, v)]
  | (g, u) :: r => if g = f then (g, v) :: r else (g, u) :: putD f v r
def put (f : Hs → Option Hs) : M Unit := fun m => match f m with
  | some m' => .ok () m'
  | none => .bad
def setO (at' : Nat → Str → Bool) (f : Str) (v x : D) (m : Hs) : Option Hs := match x with
  | .ref n => match m[n]? with
    | some (.ins c fs) => if fs.length < 900 ∧ at' c f = true then some (m.set n (.ins c (putD f v fs))) else none
    | _ => none
  | _ => none
def itmO (x y v : D) (m : Hs) : Option Hs := match x, y with
  | .ref n, .int k => match m[n]? with
    | some (.lst xs) => match ixD xs.length k with
      | some j => some (m.set n (.lst (xs.set j v)))
      | none => none
    | _ => none
  | _, _ => none
def fldT (at' : Nat → Str → Bool) (a : M D) (f : Str) (v : D) : M Unit := bnd a fun x => put (setO at' f v x)
def subT (a i : M D) (v : D) : M Unit := bnd a fun x => bnd i fun y => put (itmO x y v)
def tgL : List (D → M Unit) → List D → M Unit
  | [], [] => ret ()
  | t :: ts, d :: ds => bnd (t d) fun _ => tgL ts ds
  | _, _ => bad
def tpT (ts : List (D → M Unit)) (d : D) : M Unit := match d with
  | .tup ds => if ds.length = ts.length then tgL ts ds else bad
  | _ => bad
def fldC (at' : Nat → Str → Bool) (f : Str) (x : D) (m : Hs) : Option (Nat × D) := match x with
  | .ref n => match m[n]? with
    | some (.ins c fs) => match fs.lookup f with
      | some v => if at' c f then some (c, v) else none
      | none => none
    | _ => none
  | _ => none
def setC (c : Nat) (f : Str) (v x : D) (m : Hs) : Option Hs := match x with
  | .ref n => match m[n]? with
    | some (.ins c2 fs) => if c2 = c ∧ fs.length < 900 then some (m.set n (.ins c (putD f v fs))) else none
    | _ => none
  | _ => none
def augF (at' : Nat → Str → Bool) (o : Op) (a : M D) (f : Str) (t : M D) : M Unit := bnd a fun x => bnd (ask (fldC at' f x)) fun p => bnd t fun y => bnd (augS o p.2 y) fun z => put (setC p.1 f z x)
def appO {β : Type} (xs : List D) (t : M D) (k : List D → M β) : M β := bnd t fun y => if xs.length < sizeLine then k (xs ++ [y]) else bad
def extO {β : Type} (xs : List D) (t : M D) (k : List D → M β) : M β := bnd t fun y => bnd (ask (lstOf y)) fun ys => if xs.length + ys.length ≤ sizeLine then k (xs ++ ys) else bad
def fnE : Fl Unit Empty → M D
  | .nx _ => ret .non
  | .rt d => ret d
  | .bk b => nomatch b
  | .ct b => nomatch b
def fnM (t : M (Fl Unit Empty)) : M D := bnd t fnE
def gcR (m : Hs) (d : D) (m1 : Hs) : Rs D := if below m.length d && gcL m.length m m1 then .ok d (m1.take m.length) else .ok d m1
def gcM (t : M D) : M D := fun m => match t m with
  | .ok d m1 => gcR m d m1
  | .ex c fs m1 => if belowF m.length fs && gcL m.length m m1 then .ex c fs (m1.take m.length) else .ex c fs m1
  | .bad => .bad
def fs1 (f : D → M D) : List D → M D
  | [a] => f a
  | _ => bad
def fs2 (f : D → D → M D) : List D → M D
  | [a, b] => f a b
  | _ => bad
def fs3 (f : D → D → D → M D) : List D → M D
  | [a, b, c] => f a b c
  | _ => bad
def fs4 (f : D → D → D → D → M D) : List D → M D
  | [a, b, c, d] => f a b c d
  | _ => bad
def fs5 (f : D → D → D → D → D → M D) : List D → M D
  | [a, b, c, d, e] => f a b c d e
  | _ => bad
def fs6 (f : D → D → D → D → D → D → M D) : List D → M D
  | [a, b, c, d, e, g] => f a b c d e g
  | _ => bad
end G
namespace G
open PySem L2
structure Gh where
  hs : List Addr
  fz : List (Addr × HO)
  pv : List (Addr × HO)
structure Le (g g' : Gh) : Prop where
  hs : g.hs <+: g'.hs
  fz : ∀ p, p ∈ g.fz → p ∈ g'.fz
  pv : ∀ p, p ∈ g.pv → p ∈ g'.pv
theorem Le.refl (g : Gh) : Le g g := ⟨List.prefix_refl _, fun _ h => h, fun _ h => h⟩
theorem Le.trans {g g1 g2 : Gh} (a : Le g g1) (b : Le g1 g2) : Le g g2 := ⟨a.hs.trans b.hs, fun p h => b.fz p (a.fz p h), fun p h => b.pv p (a.pv p h)⟩
structure Lv0 (g g' : Gh) : Prop where
  hs : g.hs <+: g'.hs
  fz : ∀ p, p ∈ g.fz → p ∈ g'.fz
theorem Le.v {g g' : Gh} (a : Le g g') : Lv0 g g' := ⟨a.hs, a.fz⟩
theorem Lv0.refl (g : Gh) : Lv0 g g := (Le.refl g).v
def keyD : Key → D
  | .inl i => .int i
  | .inr x => .str x
def keysK (kvs : List (Key × V)) : List D := kvs.map fun p => keyD p.1
def keysT (kvs : List (List Key × V)) : List D := kvs.map fun p => .fd [.non] (p.1.map keyD)
mutual
inductive Rep (K : PySem.W.Frag) (g : Gh) (H : Hp) : V → D → Prop
  | non : Rep K g H .non .non
  | bl (b : Bool) : Rep K g H (.bl b) (.bl b)
  | int (i : Int) : Rep K g H (.int i) (.int i)
  | str (x : Str) : Rep K g H (.str x) (.str x)
  | tup {a : Addr} {xs : List V} {ds : List D} : SqT K H a xs → RepL K g H xs ds → Rep K g H (.ref a) (.tup ds)
  | kt {a : Addr} {xs : List V} {ds : List D} : H a = some (.tup xs) → RepL K g H xs ds → Rep K g H (.ref a) (.fd [.non] ds)
  | fl {a : Addr} {xs : List V} {ds : List D} : (a, HO.lst xs) ∈ g.fz → RepL K g H xs ds → Rep K g H (.ref a) (.fl ds)
  | sc {a : Addr} {xs : List V} {ds : List D} : ((∃ o, H a = some (.frz o (.lst xs))) ∨ ∀ H', SqL K H' a xs) → RepL K g H xs ds → Rep K g H (.ref a) (.sc ds)
  | fd {a : Addr} {kvs : List (Key × V)} {ds : List D} : (a, HO.dK kvs) ∈ g.fz → RepL K g H (kvs.map (·.2)) ds → Rep K g H (.ref a) (.fd (keysK kvs) ds)
  | ref {a : Addr} {n : Nat} : g.hs[n]? = some a → Rep K g H (.ref a) (.ref n)
inductive RepL (K : PySem.W.Frag) (g : Gh) (H : Hp) : List V → List D → Prop
  | nil : RepL K g H [] []
  | cons {v : V} {vs : List V} {d : D} {ds : List D} : Rep K g H v d → RepL K g H vs ds → RepL K g H (v :: vs) (d :: ds)
end
inductive RepF (K : PySem.W.Frag) (g : Gh) (H : Hp) : List (Str × V) → List (Str × D) → Prop
  | nil : RepF K g H [] []
  | cons {f : Str} {v : V} {vs : List (Str × V)} {d : D} {ds : List (Str × D)} : Rep K g H v d → RepF K g H vs ds → RepF K g H ((f, v) :: vs) ((f, d) :: ds)
structure TK (H H' : Hp) : Prop where
  tup : ∀ a xs, H a = some (.tup xs) → H' a = some (.tup xs)
  frz : ∀ a o u, H a = some (.frz o u) → H' a = some (.frz o u)
  nof : ∀ a o u, H' a = some (.frz o u) → H a = some (.frz o u)
def noFrz : HO → Bool
  | .frz _ _ => false
  | _ => true
theorem TK.refl (H : Hp) : TK H H := ⟨fun _ _ h => h, fun _ _ _ h => h, fun _ _ _ h => h⟩
theorem TK.trans {H H1 H2 : Hp} (a : TK H H1) (b : TK H1 H2) : TK H H2 := ⟨fun x xs h => b.tup x xs (a.tup x xs h), fun x o u h => b.frz x o u (a.frz x o u h), fun x o u h => a.nof x o u (b.nof x o u h)⟩
theorem upd_nof {H : Hp} {p a : Addr} {o : HO} {ob : Obj} {u : HO} (ho : noFrz o = true) (e : upd H p o a = some (.frz ob u)) : H a = some (.frz ob u) := by
  by_cases z : a = p
  · subst z
    rw [upd_same] at e
    cases e
    cases ho
  · rw [upd_ne z] at e
    exact e
theorem TK.new {H : Hp} {p : Addr} {o : HO} (h : H p = none) (ho : noFrz o = true := by rfl) : TK H (upd H p o) := ⟨fun a xs e => by rw [upd_ne (ne_of_none e h)]; exact e, fun a o u e => by rw [upd_ne (ne_of_none e h)]; exact e, fun a ob u e => upd_nof ho e⟩
theorem TK.mut {H : Hp} {p : Addr} {o : HO} (h : Mut (H p)) (ho : noFrz o = true := by rfl) : TK H (upd H p o) := ⟨fun a xs e => by
    rw [upd_ne (fun z => by subst z; rw [e] at h; exact h)]; exact e, fun a ob u e => by
    rw [upd_ne (fun z => by subst z; rw [e] at h; exact h)]; exact e, fun a ob u e => upd_nof ho e⟩
def Gh.cut (g : Gh) (n : Nat) : Gh := ⟨g.hs.take n, g.fz, g.pv⟩
section
variable {K : PySem.W.Frag} {g g' : Gh} {H H' : Hp}
theorem TK.seqT {a : Addr} {xs : List V} (t : TK H H') (h : SqT K H a xs) : SqT K H' a xs := by
  rcases h with (h | ⟨o, h⟩) | h
  · exact .inl (.inl (t.tup _ _ h))
  · exact .inl (.inr ⟨o, t.frz _ _ _ h⟩)
  · exact .inr h
theorem pre_get {n : Nat} {a : Addr} {l l' : List Addr} (p : l <+: l') (h : l[n]? = some a) : l'[n]? = some a := by
  obtain ⟨r, rfl⟩ := p
  rw [List.getElem?_append_left (List.getElem?_eq_some_iff.mp h).1]
  exact h
mutual
theorem Rep.mono (p : Lv0 g g') (t : TK H H') : ∀ {v : V} {d : D}, Rep K g H v d → Rep K g' H' v d
  | _, _, .non => .non
  | _, _, .bl b => .bl b
  | _, _, .int i => .int i
  | _, _, .str x => .str x
  | _, _, .tup h r => .tup (t.seqT h) (RepL.mono p t r)
  | _, _, .kt h r => .kt (t.tup _ _ h) (RepL.mono p t r)
  | _, _, .fl h r => .fl (p.fz _ h) (RepL.mono p t r)
  | _, _, .sc h r => .sc (by
      rcases h with ⟨o, h⟩ | h
      · exact .inl ⟨o, t.frz _ _ _ h⟩
      · exact .inr h) (RepL.mono p t r)
  | _, _, .fd h r => .fd (p.fz _ h) (RepL.mono p t r)
  | _, _, .ref h => .ref (pre_get p.hs h)
theorem RepL.mono (p : Lv0 g g') (t : TK H H') : ∀ {vs : List V} {ds : List D}, RepL K g H vs ds → RepL K g' H' vs ds
  | _, _, .nil => .nil
  | _, _, .cons r s => .cons (Rep.mono p t r) (RepL.mono p t s)
end
theorem RepF.mono (p : Lv0 g g') (t : TK H H') : ∀ {vs : List (Str × V)} {ds : List (Str × D)}, RepF K g H vs ds → RepF K g' H' vs ds
  | _, _, .nil => .nil
  | _, _, .cons r s => .cons (r.mono p t) (RepF.mono p t s)
theorem below_key (n : Nat) (k : Key) : G.below n (keyD k) = true := by cases k <;> simp [keyD, G.below]
theorem belowL_all {n : Nat} : ∀ {l : List D}, (∀ d, d ∈ l → G.below n d = true) → belowL n l = true
  | [], _ => by simp [belowL]
  | d :: l, h => by simp only [belowL, Bool.and_eq_true]; exact ⟨h d List.mem_cons_self, belowL_all fun e he => h e (List.mem_cons_of_mem _ he)⟩
theorem below_keysK (n : Nat) (kvs : List (Key × V)) : belowL n (keysK kvs) = true := belowL_all fun d h => by
  obtain ⟨p, _, rfl⟩ := List.mem_map.mp h
  exact below_key n p.1
theorem below_keysT (n : Nat) (kvs : List (List Key × V)) : belowL n (keysT kvs) = true := belowL_all fun d h => by
  obtain ⟨p, _, rfl⟩ := List.mem_map.mp h
  simp only [G.below]
  refine belowL_all fun d h => ?_
  obtain ⟨k, _, rfl⟩ := List.mem_map.mp h
  exact below_key n k
theorem RepL.length : ∀ {vs : List V} {ds : List D}, RepL K g H vs ds → vs.length = ds.length
  | _, _, .nil => rfl
  | _, _, .cons _ s => congrArg (· + 1) (RepL.length s)
theorem RepL.get : ∀ {vs : List V} {ds : List D} {i : Nat} {d : D}, RepL K g H vs ds → ds[i]? = some d → ∃ v, vs[i]? = some v ∧ Rep K g H v d
  | _, _, _, _, .nil, e => by simp at e
  | _, _, 0, _, .cons r _, e => by simp at e; subst e; exact ⟨_, rfl, r⟩
  | _, _, i + 1, d, .cons _ s, e => by
    obtain ⟨v, h1, h2⟩ := RepL.get (i := i) (d := d) s (by simpa using e)
    exact ⟨v, by simpa using h1, h2⟩
theorem RepL.append : ∀ {vs ws : List V} {ds es : List D}, RepL K g H vs ds → RepL K g H ws es → RepL K g H (vs ++ ws) (ds ++ es)
  | _, _, _, _, .nil, s => s
  | _, _, _, _, .cons r t, s => .cons r (RepL.append t s)
theorem RepL.set {v : V} {d : D} (q : Rep K g H v d) : ∀ {vs : List V} {ds : List D} (i : Nat), RepL K g H vs ds → RepL K g H (vs.set i v) (ds.set i d)
  | _, _, _, .nil => .nil
  | _, _, 0, .cons _ t => .cons q t
  | _, _, i + 1, .cons r t => .cons r (RepL.set q i t)
theorem RepL.drop : ∀ {vs : List V} {ds : List D} (n : Nat), RepL K g H vs ds → RepL K g H (vs.drop n) (ds.drop n)
  | _, _, 0, r => r
  | _, _, _ + 1, .nil => .nil
  | _, _, n + 1, .cons _ t => RepL.drop n t
theorem RepL.take : ∀ {vs : List V} {ds : List D} (n : Nat), RepL K g H vs ds → RepL K g H (vs.take n) (ds.take n)
  | _, _, 0, _ => .nil
  | _, _, _ + 1, .nil => .nil
  | _, _, n + 1, .cons r t => .cons r (RepL.take n t)
theorem RepF.lookup : ∀ {vs : List (Str × V)} {ds : List (Str × D)} {f : Str}, RepF K g H vs ds → (∀ d, ds.lookup f = some d → ∃ v, vs.lookup f = some v ∧ Rep K g H v d) ∧ (ds.lookup f = none → vs.lookup f = none)
  | _, _, _, .nil => ⟨fun d e => by simp at e, fun _ => rfl⟩
  | _, _, f, .cons (f := f') r s => by
    have ih := RepF.lookup (f := f) s
    by_cases h : f = f'
    · subst h
      refine ⟨fun d e => ?_, fun e => ?_⟩
      · simp only [List.lookup, beq_self_eq_true] at e ⊢
        cases e
        exact ⟨_, rfl, r⟩
      · simp only [List.lookup, beq_self_eq_true] at e
        cases e
    · have hb : (f == f') = false := beq_eq_false_iff_ne.mpr h
      refine ⟨fun d e => ?_, fun e => ?_⟩
      · simp only [List.lookup, hb] at e ⊢
        exact ih.1 d e
      · simp only [List.lookup, hb] at e ⊢
        exact ih.2 e
theorem RepF.put {f : Str} {v : V} {d : D} (q : Rep K g H v d) : ∀ {vs : List (Str × V)} {ds : List (Str × D)}, RepF K g H vs ds → RepF K g H (putF f v vs) (putD f d ds)
  | _, _, .nil => .cons q .nil
  | _, _, .cons (f := f') (v := u) (d := e) r s => by
    show RepF K g H (if f' = f then (f', v) :: _ else (f', u) :: putF f v _) (if f' = f then (f', d) :: _ else (f', e) :: putD f d _)
    by_cases h : f' = f
    · rw [if_pos h, if_pos h]
      exact .cons q s
    · rw [if_neg h, if_neg h]
      exact .cons r (RepF.put q s)
theorem RepF.length : ∀ {vs : List (Str × V)} {ds : List (Str × D)}, RepF K g H vs ds → vs.length = ds.length
  | _, _, .nil => rfl
  | _, _, .cons _ s => congrArg (· + 1) (RepF.length s)
mutual
theorem Rep.bel : ∀ {v : V} {d : D}, Rep K g H v d → below g.hs.length d = true
  | _, _, .non => by simp [G.below]
  | _, _, .bl _ => by simp [G.below]
  | _, _, .int _ => by simp [G.below]
  | _, _, .str _ => by simp [G.below]
  | _, _, .tup _ r => by simp only [G.below]; exact RepL.bel r
  | _, _, .fl _ r => by simp only [G.below]; exact RepL.bel r
  | _, _, .sc _ r => by simp only [G.below]; exact RepL.bel r
  | _, _, .fd _ r => by simp only [G.below, Bool.and_eq_true]; exact ⟨below_keysK _ _, RepL.bel r⟩
  | _, _, .kt _ r => by simp only [G.below, Bool.and_eq_true]; exact ⟨rfl, RepL.bel r⟩
  | _, _, .ref h => by simp only [G.below, decide_eq_true_eq]; exact (List.getElem?_eq_some_iff.mp h).1
theorem RepL.bel : ∀ {vs : List V} {ds : List D}, RepL K g H vs ds → belowL g.hs.length ds = true
  | _, _, .nil => by simp [belowL]
  | _, _, .cons r s => by simp only [belowL, Bool.and_eq_true]; exact ⟨Rep.bel r, RepL.bel s⟩
end
theorem RepF.bel : ∀ {vs : List (Str × V)} {ds : List (Str × D)}, RepF K g H vs ds → belowF g.hs.length ds = true
  | _, _, .nil => by simp [belowF]
  | _, _, .cons r s => by
    have h := RepF.bel s
    simp only [belowF, List.all_cons, Bool.and_eq_true] at h ⊢
    exact ⟨Rep.bel r, h⟩
mutual
theorem Rep.shrink {n : Nat} : ∀ {v : V} {d : D}, Rep K g H v d → G.below n d = true → Rep K (g.cut n) H v d
  | _, _, .non, _ => .non
  | _, _, .bl b, _ => .bl b
  | _, _, .int i, _ => .int i
  | _, _, .str x, _ => .str x
  | _, _, .tup h r, b => .tup h (RepL.shrink r (by simpa only [G.below] using b))
  | _, _, .fl h r, b => .fl h (RepL.shrink r (by simpa only [G.below] using b))
  | _, _, .sc h r, b => .sc h (RepL.shrink r (by simpa only [G.below] using b))
  | _, _, .fd h r, b => .fd h (RepL.shrink r (by simp only [G.below, Bool.and_eq_true] at b; exact b.2))
  | _, _, .kt h r, b => .kt h (RepL.shrink r (by simp only [G.below, Bool.and_eq_true] at b; exact b.2))
  | _, _, .ref h, b => .ref (by
      simp only [G.below, decide_eq_true_eq] at b
      show (g.hs.take n)[_]? = _
      rw [List.getElem?_take_of_lt b]
      exact h)
theorem RepL.shrink {n : Nat} : ∀ {vs : List V} {ds : List D}, RepL K g H vs ds → belowL n ds = true → RepL K (g.cut n) H vs ds
  | _, _, .nil, _ => .nil
  | _, _, .cons r s, b => by
    simp only [belowL, Bool.and_eq_true] at b
    exact .cons (Rep.shrink r b.1) (RepL.shrink s b.2)
end
theorem RepF.shrink {n : Nat} : ∀ {vs : List (Str × V)} {ds : List (Str × D)}, RepF K g H vs ds → belowF n ds = true → RepF K (g.cut n) H vs ds
  | _, _, .nil, _ => .nil
  | _, _, .cons r s, b => by
    simp only [belowF, List.all_cons, Bool.and_eq_true] at b
    exact .cons (r.shrink b.1) (RepF.shrink s (by simpa only [belowF] using b.2))
end
end G
namespace G
open PySem L2
structure Cl where
  f : Nat → Option Addr
  T : List (Addr × Str)
  dk : Bool
def Cl.noT (c : Cl) : Cl := ⟨c.f, [], false⟩
instance : CoeFun Cl fun _ => Nat → Option Addr := ⟨Cl.f⟩
structure Cst where
  K : PySem.W.Frag
  cls : Cl
section
variable (Γ : Cst)
def exH (a C : Addr) (d : Option Addr) : HO := .ext fun h => ∃ (oe : Obj) (ws : Array Value), h.get? a = some oe ∧ oe.cls = .ref C ∧ oe.dict = d ∧ oe.data = .fields ws
def XDx (H : Hp) : Option Addr → List (Str × V) → Prop
  | some d, vs => H d = some (.xd vs)
  | none, vs => vs = []
def ObjR (g : Gh) (H : Hp) (a : Addr) : O → Prop
  | .lst ds => ∃ xs, H a = some (.lst xs) ∧ RepL Γ.K g H xs ds
  | .ins c fs => ∃ C dx vs, Γ.cls c = some C ∧ H a = some (.ins C dx vs) ∧ RepF Γ.K g H vs fs
  | .exc c fs => ∃ C d vs, Γ.cls c = some C ∧ H a = some (exH a C d) ∧ XDx H d vs ∧ RepF Γ.K g H vs fs
  | .dct ks ds => ∃ kvs, H a = some (.dT kvs) ∧ ks = keysT kvs ∧ RepL Γ.K g H (kvs.map (·.2)) ds
  | .sd ks ds => ∃ kvs, H a = some (.dK kvs) ∧ ks = keysK kvs ∧ RepL Γ.K g H (kvs.map (·.2)) ds
  | .zd ks ds => ∃ o kvs, H a = some (.frz o (.dT kvs)) ∧ ks = keysT kvs ∧ RepL Γ.K g H (kvs.map (·.2)) ds
def isL (k : Bool) : HO → Bool
  | .lst _ => true
  | .dK _ => k
  | .ext _ => k
  | _ => false
def TabG (g : Gh) (H : Hp) (P : Addr) (q : Str) : Prop := ∃ ps : Array Value, H P = some (.tbl ps) ∧ TriplesOk ps.toList ∧ ∀ (pos : Pos) (cv : Value), codeAmong pos ps.toList = some cv → ∃ c, cv = .ref c ∧ (c, LamX.CodeO c q) ∈ g.fz
def isTL : HO → Bool
  | .lst _ => true
  | .tup _ => true
  | .dT _ => true
  | _ => false
structure Rel (g : Gh) (m : Hs) (H : Hp) : Prop where
  len : g.hs.length = m.length
  inj : g.hs.Nodup
  obj : ∀ (n : Nat) (o : O) (a : Addr), m[n]? = some o → g.hs[n]? = some a → ObjR Γ g H a o
  frz : ∀ a o, (a, o) ∈ g.fz → H a = some o
  prv : ∀ a o, (a, o) ∈ g.pv → H a = some o
  hf : ∀ a o, a ∈ g.hs → (a, o) ∉ g.fz
  hp : ∀ a o, a ∈ g.hs → (a, o) ∉ g.pv
  pf : ∀ a o u, (a, o) ∈ g.pv → (a, u) ∉ g.fz
  lf : ∀ p, p ∈ g.fz → isL Γ.cls.dk p.2 = true
  lp : ∀ p, p ∈ g.pv → isL Γ.cls.dk p.2 = true
  ff : ∀ b o u, H b = some (.frz o u) → isTL u = true
  tab : ∀ t, t ∈ Γ.cls.T → TabG g H t.1 t.2
inductive Sl where | un | val (d : D) | own (xs : List D) | raw (v : V)
structure RelS (gB g : Gh) (H : Hp) (ρ : List Sl) (σ : St) : Prop where
  len : ρ.length = σ.length
  val : ∀ (i : Nat) (d : D), ρ[i]? = some (.val d) → ∃ v, σ[i]? = some (some v) ∧ Rep Γ.K g H v d
  own : ∀ (i : Nat) (xs : List D), ρ[i]? = some (.own xs) → ∃ a vs, σ[i]? = some (some (.ref a)) ∧ (a, HO.lst vs) ∈ g.pv ∧ RepL Γ.K g H vs xs ∧ ∀ u, (a, u) ∉ gB.pv
  inj : ∀ (i j : Nat) (xs ys : List D) (a : Addr), ρ[i]? = some (.own xs) → ρ[j]? = some (.own ys) → σ[i]? = some (some (.ref a)) → σ[j]? = some (some (.ref a)) → i = j
  raw : ∀ (i : Nat) (v : V), ρ[i]? = some (.raw v) → σ[i]? = some (some v)
end
section
variable {Γ : Cst} {gB g g' : Gh} {m m' : Hs} {H H' : Hp} {ρ : List Sl} {σ : St} {a p : Addr} {n : Nat}
theorem RelS.mono (p : Le g g') (t : TK H H') (h : RelS Γ gB g H ρ σ) : RelS Γ gB g' H' ρ σ := ⟨h.len, fun i d e => by
  obtain ⟨v, h1, h2⟩ := h.val i d e
  exact ⟨v, h1, h2.mono p.v t⟩, fun i xs e => by
  obtain ⟨a, vs, h1, h2, h3, h4⟩ := h.own i xs e
  exact ⟨a, vs, h1, p.pv _ h2, h3.mono p.v t, h4⟩, h.inj, h.raw⟩
theorem set_at {α : Type} {l : List α} {i j : Nat} {x y : α} (h : (l.set i x)[j]? = some y) : (i = j ∧ y = x ∧ i < l.length) ∨ (i ≠ j ∧ l[j]? = some y) := by
  by_cases e : i = j
  · subst e
    rw [List.getElem?_set_self'] at h
    cases hr : l[i]? with
    | none => rw [hr] at h; cases h
    | some o =>
      rw [hr] at h
      have h' : some x = some y := h
      cases h'
      exact .inl ⟨rfl, rfl, (List.getElem?_eq_some_iff.mp hr).1⟩
  · rw [List.getElem?_set_ne e] at h
    exact .inr ⟨e, h⟩
theorem RelS.set {v : V} {d : D} (h : RelS Γ gB g H ρ σ) (q : Rep Γ.K g H v d) (i : Nat) : RelS Γ gB g H (ρ.set i (.val d)) (σ.set i (some v)) := by
  refine ⟨by rw [List.length_set, List.length_set]; exact h.len, fun j e hj => ?_, fun j xs hj => ?_, fun j l xs ys b hj hl h1 h2 => ?_, fun j w hj => by
    rcases set_at hj with ⟨rfl, e, hi⟩ | ⟨hij, hj⟩
    · cases e
    · rw [List.getElem?_set_ne hij]; exact h.raw j w hj⟩
  · rcases set_at hj with ⟨rfl, e, hi⟩ | ⟨hij, hj⟩
    · cases e
      exact ⟨v, by rw [List.getElem?_set_self (by rw [← h.len]; exact hi)], q⟩
    · obtain ⟨u, h1, h2⟩ := h.val j e hj
      exact ⟨u, by rw [List.getElem?_set_ne hij]; exact h1, h2⟩
  · rcases set_at hj with ⟨rfl, e, hi⟩ | ⟨hij, hj⟩
    · cases e
    · obtain ⟨a, vs, h1, h2⟩ := h.own j xs hj
      exact ⟨a, vs, by rw [List.getElem?_set_ne hij]; exact h1, h2⟩
  · rcases set_at hj with ⟨rfl, e, hi⟩ | ⟨hij, hj⟩
    · cases e
    rcases set_at hl with ⟨rfl, e, hi⟩ | ⟨hil, hl⟩
    · cases e
    rw [List.getElem?_set_ne hij] at h1
    rw [List.getElem?_set_ne hil] at h2
    exact h.inj j l xs ys b hj hl h1 h2
inductive Sub : List Sl → List Sl → Prop
  | nil : Sub [] []
  | un {s : Sl} {l l' : List Sl} : Sub l l' → Sub (.un :: l) (s :: l')
  | eq {s : Sl} {l l' : List Sl} : Sub l l' → Sub (s :: l) (s :: l')
theorem Sub.len : ∀ {l l' : List Sl}, Sub l l' → l.length = l'.length
  | _, _, .nil => rfl
  | _, _, .un h => congrArg (· + 1) h.len
  | _, _, .eq h => congrArg (· + 1) h.len
theorem Sub.at : ∀ {l l' : List Sl} {i : Nat} {s : Sl}, Sub l l' → l[i]? = some s → s = .un ∨ l'[i]? = some s
  | _, _, _, _, .nil, h => by simp at h
  | _, _, 0, s, .un _, h => by simp at h; exact .inl h.symm
  | _, _, 0, s, .eq _, h => .inr (by simpa using h)
  | _, _, i + 1, s, .un q, h => by
    have := Sub.at (i := i) q (by simpa using h)
    simpa using this
  | _, _, i + 1, s, .eq q, h => by
    have := Sub.at (i := i) q (by simpa using h)
    simpa using this
theorem Sub.refl : ∀ l : List Sl, Sub l l
  | [] => .nil
  | _ :: l => .eq (Sub.refl l)
theorem RelS.less {ρ' : List Sl} (h : RelS Γ gB g H ρ σ) (s : Sub ρ' ρ) : RelS Γ gB g H ρ' σ := by
  refine ⟨s.len.trans h.len, fun i d e => ?_, fun i xs e => ?_, fun i j xs ys a e1 e2 => ?_, fun i v e => by
    rcases s.at e with z | z
    · cases z
    · exact h.raw i v z⟩
  · rcases s.at e with z | z
    · cases z
    · exact h.val i d z
  · rcases s.at e with z | z
    · cases z
    · exact h.own i xs z
  · rcases s.at e1 with z | z1
    · cases z
    rcases s.at e2 with z | z2
    · cases z
    exact h.inj i j xs ys a z1 z2
theorem RelS.unset (h : RelS Γ gB g H ρ σ) (i : Nat) : RelS Γ gB g H (ρ.set i .un) (σ.set i none) := by
  refine ⟨by rw [List.length_set, List.length_set]; exact h.len, fun j e hj => ?_, fun j xs hj => ?_, fun j l xs ys b hj hl h1 h2 => ?_, fun j w hj => by
    rcases set_at hj with ⟨rfl, e, hi⟩ | ⟨hij, hj⟩
    · cases e
    · rw [List.getElem?_set_ne hij]; exact h.raw j w hj⟩
  · rcases set_at hj with ⟨rfl, e, hi⟩ | ⟨hij, hj⟩
    · cases e
    · obtain ⟨u, h1, h2⟩ := h.val j e hj
      exact ⟨u, by rw [List.getElem?_set_ne hij]; exact h1, h2⟩
  · rcases set_at hj with ⟨rfl, e, hi⟩ | ⟨hij, hj⟩
    · cases e
    · obtain ⟨a, vs, h1, h2⟩ := h.own j xs hj
      exact ⟨a, vs, by rw [List.getElem?_set_ne hij]; exact h1, h2⟩
  · rcases set_at hj with ⟨rfl, e, hi⟩ | ⟨hij, hj⟩
    · cases e
    rcases set_at hl with ⟨rfl, e, hi⟩ | ⟨hil, hl⟩
    · cases e
    rw [List.getElem?_set_ne hij] at h1
    rw [List.getElem?_set_ne hil] at h2
    exact h.inj j l xs ys b hj hl h1 h2
def wipeS (ρ : List Sl) : List Nat → List Sl
  | [] => ρ
  | i :: is => (wipeS ρ is).set i .un
theorem RelS.wipe (h : RelS Γ gB g H ρ σ) : ∀ is : List Nat, RelS Γ gB g H (wipeS ρ is) (L2.wipe σ is)
  | [] => h
  | i :: is => (RelS.wipe h is).unset i
theorem mut_xd {H : Hp} {a b : Addr} {vs : List (Str × V)} (hm : Mut (H a)) (h : H b = some (.xd vs)) : b ≠ a := fun z => by
  subst z
  rw [h] at hm
  exact hm
theorem ObjR.mono (pg : Lv0 g g') (t : TK H H') (e : ∀ b o, (b = a ∨ ∃ vs, o = .xd vs) → H b = some o → H' b = some o) {o : O} (h : ObjR Γ g H a o) : ObjR Γ g' H' a o := by
  cases o with
  | lst ds => obtain ⟨xs, h1, h2⟩ := h; exact ⟨xs, e _ _ (.inl rfl) h1, h2.mono pg t⟩
  | ins c fs => obtain ⟨C, dx, vs, h0, h1, h2⟩ := h; exact ⟨C, dx, vs, h0, e _ _ (.inl rfl) h1, h2.mono pg t⟩
  | exc c fs =>
    obtain ⟨C, d, vs, h0, h1, h2, h3⟩ := h
    refine ⟨C, d, vs, h0, e _ _ (.inl rfl) h1, ?_, h3.mono pg t⟩
    cases d with
    | none => exact h2
    | some d => exact e _ _ (.inr ⟨_, rfl⟩) h2
  | dct ks ds =>
    obtain ⟨kvs, h1, h2, h3⟩ := h
    exact ⟨kvs, e _ _ (.inl rfl) h1, h2, h3.mono pg t⟩
  | sd ks ds =>
    obtain ⟨kvs, h1, h2, h3⟩ := h
    exact ⟨kvs, e _ _ (.inl rfl) h1, h2, h3.mono pg t⟩
  | zd ks ds =>
    obtain ⟨o, kvs, h1, h2, h3⟩ := h
    exact ⟨o, kvs, e _ _ (.inl rfl) h1, h2, h3.mono pg t⟩
theorem ObjR.there {o : O} (h : ObjR Γ g H a o) : H a ≠ none := by
  cases o with
  | lst ds => obtain ⟨xs, h1, _⟩ := h; rw [h1]; simp
  | ins c fs => obtain ⟨C, dx, vs, _, h1, _⟩ := h; rw [h1]; simp
  | exc c fs => obtain ⟨C, d, vs, _, h1, _⟩ := h; rw [h1]; simp
  | dct ks ds => obtain ⟨kvs, h1, _⟩ := h; rw [h1]; simp
  | sd ks ds => obtain ⟨kvs, h1, _⟩ := h; rw [h1]; simp
  | zd ks ds => obtain ⟨o, kvs, h1, _⟩ := h; rw [h1]; simp
theorem Rel.there (R : Rel Γ g m H) (h : a ∈ g.hs) : H a ≠ none := by
  obtain ⟨n, hn⟩ := List.getElem?_of_mem h
  have hl : n < m.length := by rw [← R.len]; exact (List.getElem?_eq_some_iff.mp hn).1
  exact (R.obj n _ a (List.getElem?_eq_getElem hl) hn).there
theorem Rel.fresh (R : Rel Γ g m H) (h : H p = none) : p ∉ g.hs := fun z => R.there z h
theorem Rel.freshF {o : HO} (R : Rel Γ g m H) (h : H p = none) : (p, o) ∉ g.fz := fun z => by
  have := R.frz _ _ z
  rw [h] at this
  cases this
theorem Rel.freshP {o : HO} (R : Rel Γ g m H) (h : H p = none) : (p, o) ∉ g.pv := fun z => by
  have := R.prv _ _ z
  rw [h] at this
  cases this
theorem TabG.go {P : Addr} {q : Str} (t : TabG g H P q) (p : ∀ x, x ∈ g.fz → x ∈ g'.fz) (e : ∀ ps, H P = some (.tbl ps) → H' P = some (.tbl ps)) : TabG g' H' P q := by
  obtain ⟨ps, h1, h2, h3⟩ := t
  refine ⟨ps, e _ h1, h2, fun pos cv hc => ?_⟩
  obtain ⟨c, e1, e2⟩ := h3 pos cv hc
  exact ⟨c, e1, p _ e2⟩
theorem tab_new {T : List (Addr × Str)} {o : HO} (t : ∀ x, x ∈ T → TabG g H x.1 x.2) (h : H p = none) : ∀ x, x ∈ T → TabG g (upd H p o) x.1 x.2 := fun x hx => (t x hx).go (fun _ z => z) fun ps e => by rw [upd_ne (ne_of_none e h)]; exact e
theorem tab_mut {T : List (Addr × Str)} {o : HO} (t : ∀ x, x ∈ T → TabG g H x.1 x.2) (hm : Mut (H a)) : ∀ x, x ∈ T → TabG g (upd H a o) x.1 x.2 := fun x hx => (t x hx).go (fun _ z => z) fun ps e => by
  rw [upd_ne (fun z => by rw [z] at e; rw [e] at hm; exact hm)]
  exact e
theorem tab_fz {T : List (Addr × Str)} {H : Hp} (t : ∀ x, x ∈ T → TabG g H x.1 x.2) (p : ∀ x, x ∈ g.fz → x ∈ g'.fz) : ∀ x, x ∈ T → TabG g' H x.1 x.2 := fun x hx => (t x hx).go p fun _ e => e
theorem Rel.laid {o : HO} (R : Rel Γ g m H) (h : H p = none) (hf : noFrz o = true := by rfl) : Rel Γ g m (upd H p o) := ⟨R.len, R.inj, fun n ob a h1 h2 =>
  (R.obj n ob a h1 h2).mono (Lv0.refl g) (TK.new h hf) fun b u _ hu => by rw [upd_ne (ne_of_none hu h)]; exact hu,
  fun a o e => by rw [upd_ne (ne_of_none (R.frz a o e) h)]; exact R.frz a o e, fun a o e => by rw [upd_ne (ne_of_none (R.prv a o e) h)]; exact R.prv a o e, R.hf, R.hp, R.pf, R.lf, R.lp, fun b ob w e => R.ff b ob w (upd_nof hf e), tab_new R.tab h⟩
def Gh.addH (g : Gh) (p : Addr) : Gh := ⟨g.hs ++ [p], g.fz, g.pv⟩
def Gh.addF (g : Gh) (p : Addr) (o : HO) : Gh := ⟨g.hs, (p, o) :: g.fz, g.pv⟩
def Gh.addP (g : Gh) (p : Addr) (o : HO) : Gh := ⟨g.hs, g.fz, (p, o) :: g.pv⟩
def Gh.outP (g : Gh) (p : Addr) : Gh := ⟨g.hs, g.fz, g.pv.filter fun q => decide (q.1 ≠ p)⟩
theorem le_addH : Le g (g.addH p) := ⟨List.prefix_append _ _, fun _ h => h, fun _ h => h⟩
theorem le_addF {o : HO} : Le g (g.addF p o) := ⟨List.prefix_refl _, fun _ h => List.mem_cons_of_mem _ h, fun _ h => h⟩
theorem le_addP {o : HO} : Le g (g.addP p o) := ⟨List.prefix_refl _, fun _ h => h, fun _ h => List.mem_cons_of_mem _ h⟩
theorem lv_outP : Lv0 g (g.outP p) := ⟨List.prefix_refl _, fun _ h => h⟩
theorem mem_outP {q : Addr × HO} : q ∈ (g.outP p).pv ↔ q ∈ g.pv ∧ q.1 ≠ p := by simp [Gh.outP]
theorem Rel.push {u : HO} {o : O} (R : Rel Γ g m H) (h : H p = none) (ho : ObjR Γ (g.addH p) (upd H p u) p o) (hf : noFrz u = true := by rfl) : Rel Γ (g.addH p) (m ++ [o]) (upd H p u) := by
  refine ⟨by simp [Gh.addH, R.len], ?_, fun n ob a h1 h2 => ?_, (R.laid h hf).frz, (R.laid h hf).prv, fun b w hb => ?_, fun b w hb => ?_, R.pf, R.lf, R.lp, fun b ob w e => R.ff b ob w (upd_nof hf e), tab_new R.tab h⟩
  · show (g.hs ++ [p]).Nodup
    rw [List.nodup_append]
    refine ⟨R.inj, by simp, fun x hx y hy => ?_⟩
    have e : y = p := by simpa using hy
    subst e
    exact fun z => R.fresh h (z ▸ hx)
  · change (g.hs ++ [p])[n]? = some a at h2
    by_cases hn : n < m.length
    · rw [List.getElem?_append_left hn] at h1
      rw [List.getElem?_append_left (by rw [R.len]; exact hn)] at h2
      exact (R.obj n ob a h1 h2).mono le_addH.v (TK.new h hf) fun b w _ hw => by rw [upd_ne (ne_of_none hw h)]; exact hw
    · have hl : n < (m ++ [o]).length := (List.getElem?_eq_some_iff.mp h1).1
      have e : n = m.length := by simp at hl; omega
      subst e
      have e1 : (m ++ [o])[m.length]? = some o := by simp
      rw [e1] at h1
      cases h1
      rw [← R.len] at h2
      have e2 : (g.hs ++ [p])[g.hs.length]? = some p := by simp
      rw [e2] at h2
      cases h2
      exact ho
  · rcases List.mem_append.mp hb with z | z
    · exact R.hf b w z
    · rw [List.mem_singleton.mp z]
      exact R.freshF h
  · rcases List.mem_append.mp hb with z | z
    · exact R.hp b w z
    · rw [List.mem_singleton.mp z]
      exact R.freshP h
theorem Rel.write {u : HO} {o : O} (R : Rel Γ g m H) (hm : Mut (H a)) (hn : g.hs[n]? = some a) (ho : ObjR Γ g (upd H a u) a o) (hf : noFrz u = true := by rfl) : Rel Γ g (m.set n o) (upd H a u) := by
  have ha : a ∈ g.hs := List.mem_of_getElem? hn
  refine ⟨by rw [List.length_set]; exact R.len, R.inj, fun k ob b h1 h2 => ?_, fun b w hb => ?_, fun b w hb => ?_, R.hf, R.hp, R.pf, R.lf, R.lp, fun b ob w e => R.ff b ob w (upd_nof hf e), tab_mut R.tab hm⟩
  · by_cases hk : n = k
    · subst hk
      have hl : n < m.length := by rw [← R.len]; exact (List.getElem?_eq_some_iff.mp hn).1
      rw [List.getElem?_set_self hl] at h1
      cases h1
      rw [hn] at h2
      cases h2
      exact ho
    · rw [List.getElem?_set_ne hk] at h1
      have hab : b ≠ a := fun z => by
        subst z
        have h3 := List.getElem?_eq_some_iff.mp hn
        have h4 := List.getElem?_eq_some_iff.mp h2
        exact hk ((List.getElem_inj R.inj).mp (h3.2.trans h4.2.symm))
      exact (R.obj k ob b h1 h2).mono (Lv0.refl g) (TK.mut hm hf) fun b2 w hb2 hw => by
        rcases hb2 with rfl | ⟨vs, rfl⟩
        · rw [upd_ne hab]; exact hw
        · rw [upd_ne (mut_xd hm hw)]; exact hw
  · rw [upd_ne (fun z => by subst z; exact R.hf _ _ ha hb)]
    exact R.frz b w hb
  · rw [upd_ne (fun z => by subst z; exact R.hp _ _ ha hb)]
    exact R.prv b w hb
theorem Rel.newF {u : HO} (R : Rel Γ g m H) (h : H p = none) (hf : noFrz u = true := by rfl) (hl : isL Γ.cls.dk u = true := by rfl) : Rel Γ (g.addF p u) m (upd H p u) := by
  have L := R.laid (o := u) h hf
  refine ⟨R.len, R.inj, fun n ob a h1 h2 => (L.obj n ob a h1 h2).mono le_addF.v (TK.refl _) fun _ _ _ z => z, fun b w hb => ?_, L.prv, fun b w hb hz => ?_, R.hp, fun b w v hb hz => ?_, fun q hq => by rcases List.mem_cons.mp hq with e | e <;> first | (subst e; exact hl) | exact R.lf q e, R.lp, fun b ob w e => R.ff b ob w (upd_nof hf e), tab_fz L.tab fun _ z => List.mem_cons_of_mem _ z⟩
  · rcases List.mem_cons.mp hb with e | e
    · cases e
      exact upd_same
    · exact L.frz b w e
  · rcases List.mem_cons.mp hz with e | e
    · cases e
      exact R.fresh h hb
    · exact R.hf b w hb e
  · rcases List.mem_cons.mp hz with e | e
    · cases e
      exact R.freshP h hb
    · exact R.pf b w v hb e
theorem Rel.newP {u : HO} (R : Rel Γ g m H) (h : H p = none) (hf : noFrz u = true := by rfl) (hl : isL Γ.cls.dk u = true := by rfl) : Rel Γ (g.addP p u) m (upd H p u) := by
  have L := R.laid (o := u) h hf
  refine ⟨R.len, R.inj, fun n ob a h1 h2 => (L.obj n ob a h1 h2).mono le_addP.v (TK.refl _) fun _ _ _ z => z, L.frz, fun b w hb => ?_, R.hf, fun b w hb hz => ?_, fun b w v hb hz => ?_, R.lf, fun q hq => by rcases List.mem_cons.mp hq with e | e <;> first | (subst e; exact hl) | exact R.lp q e, fun b ob w e => R.ff b ob w (upd_nof hf e), L.tab⟩
  · rcases List.mem_cons.mp hb with e | e
    · cases e
      exact upd_same
    · exact L.prv b w e
  · rcases List.mem_cons.mp hz with e | e
    · cases e
      exact R.fresh h hb
    · exact R.hp b w hb e
  · rcases List.mem_cons.mp hb with e | e
    · cases e
      exact R.freshF h hz
    · exact R.pf b w v e hz
theorem Rel.setP {u w : HO} (R : Rel Γ g m H) (hm : Mut (H a)) (h : (a, u) ∈ g.pv) (hf : noFrz w = true := by rfl) (hl : isL Γ.cls.dk w = true := by rfl) : Rel Γ ((g.outP a).addP a w) m (upd H a w) := by
  have hh : a ∉ g.hs := fun z => R.hp a u z h
  have lv : Lv0 g ((g.outP a).addP a w) := ⟨List.prefix_refl _, fun _ z => z⟩
  refine ⟨R.len, R.inj, fun n ob b h1 h2 => (R.obj n ob b h1 h2).mono lv (TK.mut hm hf) fun b2 v hb2 hv => ?_, fun b v hb => ?_, fun b v hb => ?_, R.hf, fun b v hb hz => ?_, fun b v x hb hz => ?_, R.lf, fun q hq => by rcases List.mem_cons.mp hq with e | e <;> first | (subst e; exact hl) | exact R.lp q (mem_outP.mp e).1, fun b ob w e => R.ff b ob w (upd_nof hf e), tab_mut R.tab hm⟩
  · rcases hb2 with rfl | ⟨vs, rfl⟩
    · rw [upd_ne (fun z => by subst z; exact hh (List.mem_of_getElem? h2))]
      exact hv
    · rw [upd_ne (mut_xd hm hv)]
      exact hv
  · rw [upd_ne (fun z => by subst z; exact R.pf _ _ _ h hb)]
    exact R.frz b v hb
  · rcases List.mem_cons.mp hb with e | e
    · cases e
      exact upd_same
    · obtain ⟨e1, e2⟩ := mem_outP.mp e
      rw [upd_ne e2]
      exact R.prv b v e1
  · rcases List.mem_cons.mp hz with e | e
    · cases e
      exact hh hb
    · exact R.hp b v hb (mem_outP.mp e).1
  · rcases List.mem_cons.mp hb with e | e
    · cases e
      exact R.pf _ _ _ h hz
    · exact R.pf b v x (mem_outP.mp e).1 hz
theorem Rel.frzP {u : HO} (R : Rel Γ g m H) (h : (a, u) ∈ g.pv) : Rel Γ ((g.outP a).addF a u) m H := by
  have lv : Lv0 g ((g.outP a).addF a u) := ⟨List.prefix_refl _, fun _ z => List.mem_cons_of_mem _ z⟩
  refine ⟨R.len, R.inj, fun n ob b h1 h2 => (R.obj n ob b h1 h2).mono lv (TK.refl _) fun _ _ _ hv => hv, fun b v hb => ?_, fun b v hb => R.prv b v (mem_outP.mp hb).1, fun b v hb hz => ?_, fun b v hb hz => R.hp b v hb (mem_outP.mp hz).1, fun b v x hb hz => ?_, fun q hq => by rcases List.mem_cons.mp hq with e | e <;> first | (subst e; exact R.lp _ h) | exact R.lf q e, fun q hq => R.lp q (mem_outP.mp hq).1, R.ff, tab_fz R.tab fun _ z => List.mem_cons_of_mem _ z⟩
  · rcases List.mem_cons.mp hb with e | e
    · cases e
      exact R.prv _ _ h
    · exact R.frz b v e
  · rcases List.mem_cons.mp hz with e | e
    · cases e
      exact R.hp _ _ hb h
    · exact R.hf b v hb e
  · obtain ⟨e1, e2⟩ := mem_outP.mp hb
    rcases List.mem_cons.mp hz with e | e
    · cases e
      exact e2 rfl
    · exact R.pf b v x e1 e
theorem Rel.at (R : Rel Γ g m H) {o : O} (h : m[n]? = some o) : ∃ a, g.hs[n]? = some a ∧ ObjR Γ g H a o := by
  have hl : n < g.hs.length := by rw [R.len]; exact (List.getElem?_eq_some_iff.mp h).1
  exact ⟨g.hs[n], List.getElem?_eq_getElem hl, R.obj n o _ h (List.getElem?_eq_getElem hl)⟩
theorem Rel.lst (R : Rel Γ g m H) {ds : List D} {a : Addr} (h : m[n]? = some (.lst ds)) (hg : g.hs[n]? = some a) : ∃ xs, H a = some (.lst xs) ∧ RepL Γ.K g H xs ds := R.obj n _ a h hg
theorem Rel.ins (R : Rel Γ g m H) {c : Nat} {fs : List (Str × D)} {a : Addr} (h : m[n]? = some (.ins c fs)) (hg : g.hs[n]? = some a) : ∃ C dx vs, Γ.cls c = some C ∧ H a = some (.ins C dx vs) ∧ RepF Γ.K g H vs fs := R.obj n _ a h hg
theorem RelS.setP {xs : List D} {vs : List V} {i : Nat} {vs0 : List V} {xs0 : List D} (R : Rel Γ g m H) (h : RelS Γ gB g H ρ σ) (hi : ρ[i]? = some (.own xs0)) (hs : σ[i]? = some (some (.ref a))) (hm : Mut (H a))
    (ho : ∀ u, (a, u) ∉ gB.pv) (r : RepL Γ.K g H vs xs) : RelS Γ gB ((g.outP a).addP a (.lst vs)) (upd H a (.lst vs)) (ρ.set i (.own xs)) σ := by
  have hil : i < ρ.length := (List.getElem?_eq_some_iff.mp hi).1
  have lv : Lv0 g ((g.outP a).addP a (.lst vs)) := ⟨List.prefix_refl _, fun _ z => z⟩
  refine ⟨by rw [List.length_set]; exact h.len, fun j e hj => ?_, fun j ys hj => ?_, fun j l ys zs b hj hl h1 h2 => ?_, fun j w hj => by
    rcases set_at hj with ⟨rfl, e, _⟩ | ⟨hij, hj⟩
    · cases e
    · exact h.raw j w hj⟩
  · rcases set_at hj with ⟨rfl, e, hi⟩ | ⟨hij, hj⟩
    · cases e
    · obtain ⟨u, h1, h2⟩ := h.val j e hj
      exact ⟨u, h1, h2.mono lv (TK.mut hm)⟩
  · rcases set_at hj with ⟨rfl, e, _⟩ | ⟨hij, hj⟩
    · cases e
      exact ⟨a, vs, hs, List.mem_cons_self, r.mono lv (TK.mut hm), ho⟩
    · obtain ⟨b, ws, h1, h2, h3, h4⟩ := h.own j ys hj
      refine ⟨b, ws, h1, List.mem_cons_of_mem _ (mem_outP.mpr ⟨h2, fun z => ?_⟩), h3.mono lv (TK.mut hm), h4⟩
      have z : b = a := z
      subst z
      exact hij (h.inj i j xs0 ys b hi hj hs h1)
  · have key : ∀ k ws, (ρ.set i (Sl.own xs))[k]? = some (Sl.own ws) → ∃ ws, ρ[k]? = some (Sl.own ws) := fun k ws hk => by
      rcases set_at hk with ⟨rfl, _, _⟩ | ⟨_, hk⟩
      · exact ⟨_, hi⟩
      · exact ⟨_, hk⟩
    obtain ⟨_, k1⟩ := key _ _ hj
    obtain ⟨_, k2⟩ := key _ _ hl
    exact h.inj j l _ _ b k1 k2 h1 h2
theorem RelS.newP {xs : List D} {vs : List V} {i : Nat} (R : Rel Γ g m H) (h : RelS Γ gB g H ρ σ) (hp : H p = none) (hB : ∀ q, q ∈ gB.pv → q ∈ g.pv) (r : RepL Γ.K g H vs xs) : RelS Γ gB (g.addP p (.lst vs)) (upd H p (.lst vs)) (ρ.set i (.own xs)) (σ.set i (some (.ref p))) := by
  have h' := h.mono (le_addP (p := p) (o := .lst vs)) (TK.new (o := .lst vs) hp)
  have nop : ∀ j ys, ρ[j]? = some (Sl.own ys) → σ[j]? = some (some (V.ref p)) → False := fun j ys hj h1 => by
    obtain ⟨b, ws, h2, h3, _⟩ := h.own j ys hj
    rw [h1] at h2
    cases h2
    exact R.freshP hp h3
  refine ⟨by rw [List.length_set, List.length_set]; exact h.len, fun j e hj => ?_, fun j ys hj => ?_, fun j l ys zs b hj hl h1 h2 => ?_, fun j w hj => by
    rcases set_at hj with ⟨rfl, e, hi⟩ | ⟨hij, hj⟩
    · cases e
    · rw [List.getElem?_set_ne hij]; exact h.raw j w hj⟩
  · rcases set_at hj with ⟨rfl, e, hi⟩ | ⟨hij, hj⟩
    · cases e
    · obtain ⟨u, h1, h2⟩ := h'.val j e hj
      exact ⟨u, by rw [List.getElem?_set_ne hij]; exact h1, h2⟩
  · rcases set_at hj with ⟨rfl, e, hi⟩ | ⟨hij, hj⟩
    · cases e
      exact ⟨p, vs, by rw [List.getElem?_set_self (by rw [← h.len]; exact hi)], List.mem_cons_self, r.mono le_addP.v (TK.new hp), fun u hu => R.freshP hp (hB _ hu)⟩
    · obtain ⟨b, ws, h1, h2⟩ := h'.own j ys hj
      exact ⟨b, ws, by rw [List.getElem?_set_ne hij]; exact h1, h2⟩
  · rcases set_at hj with ⟨rfl, e, hi⟩ | ⟨hij, hj⟩
    · rcases set_at hl with ⟨e2, _, _⟩ | ⟨hil, hl⟩
      · exact e2
      · rw [List.getElem?_set_self (by rw [← h.len]; exact hi)] at h1
        cases h1
        rw [List.getElem?_set_ne hil] at h2
        exact (nop _ _ hl h2).elim
    · rw [List.getElem?_set_ne hij] at h1
      rcases set_at hl with ⟨rfl, e, hi⟩ | ⟨hil, hl⟩
      · rw [List.getElem?_set_self (by rw [← h.len]; exact hi)] at h2
        cases h2
        exact (nop _ _ hj h1).elim
      · rw [List.getElem?_set_ne hil] at h2
        exact h.inj j l _ _ b hj hl h1 h2
theorem RelS.outP {xs : List D} {i : Nat} {g2 : Gh} {d : D} (h : RelS Γ gB g H ρ σ) (hi : ρ[i]? = some (.own xs)) (hs : σ[i]? = some (some (.ref a))) (lv : Lv0 g g2) (hg : ∀ q, q ∈ g.pv → q.1 ≠ a → q ∈ g2.pv) (r : Rep Γ.K g2 H (.ref a) d) : RelS Γ gB g2 H (ρ.set i (.val d)) σ := by
  refine ⟨by rw [List.length_set]; exact h.len, fun j e hj => ?_, fun j ys hj => ?_, fun j l ys zs b hj hl h1 h2 => ?_, fun j w hj => by
    rcases set_at hj with ⟨rfl, e, _⟩ | ⟨hij, hj⟩
    · cases e
    · exact h.raw j w hj⟩
  · rcases set_at hj with ⟨rfl, e, hi⟩ | ⟨hij, hj⟩
    · cases e
      exact ⟨_, hs, r⟩
    · obtain ⟨u, h1, h2⟩ := h.val j e hj
      exact ⟨u, h1, h2.mono lv (TK.refl _)⟩
  · rcases set_at hj with ⟨rfl, e, _⟩ | ⟨hij, hj⟩
    · cases e
    · obtain ⟨b, ws, h1, h2, h3, h4⟩ := h.own j ys hj
      refine ⟨b, ws, h1, hg _ h2 fun z => ?_, h3.mono lv (TK.refl _), h4⟩
      have z : b = a := z
      subst z
      exact hij (h.inj i j xs ys b hi hj hs h1)
  · rcases set_at hj with ⟨rfl, e, _⟩ | ⟨hij, hj⟩
    · cases e
    rcases set_at hl with ⟨rfl, e, _⟩ | ⟨hil, hl⟩
    · cases e
    exact h.inj j l _ _ b hj hl h1 h2
end
end G
set_option maxHeartbeats 1000000
namespace G
open PySem L2
structure Cc where
  cls : Cl
  W : WX
  gB : Gh
  H0 : Hp
structure TW (H H' : Hp) : Prop where
  tup : ∀ a xs, H a = some (.tup xs) → H' a = some (.tup xs)
  frz : ∀ a o u, H a = some (.frz o u) → H' a = some (.frz o u)
theorem TW.refl (H : Hp) : TW H H := ⟨fun _ _ h => h, fun _ _ _ h => h⟩
theorem TW.go {H H1 H2 : Hp} (a : TW H H1) (b : TK H1 H2) : TW H H2 := ⟨fun x xs h => b.tup x xs (a.tup x xs h), fun x o u h => b.frz x o u (a.frz x o u h)⟩
def H00 : Hp := fun _ => none
theorem TW.nil {H : Hp} : TW H00 H := ⟨fun _ _ h => (nomatch (show (none : Option HO) = some _ from h)), fun _ _ _ h => (nomatch (show (none : Option HO) = some _ from h))⟩
section
variable (Γ : Cst) (W : WX)
def PostX (σ : St) (g : Gh) (H : Hp) (c : Nat) (fs : List (Str × D)) (m : Hs) : Prop :=
  ∀ g' H' C d vs, Le g g' → TK H H' → Rel Γ g' m H' → Γ.cls c = some C → XDx H' d vs → RepF Γ.K g' H' vs fs → W (.ref C) d σ H'
def Post {α A : Type} (rep : Gh → Hp → A → α → Prop) (σ : St) (g : Gh) (H : Hp) (Q : A → Hp → Prop) : Rs α → Prop
  | .ok x m => ∀ g' H' v, Le g g' → TK H H' → Rel Γ g' m H' → rep g' H' v x → Q v H'
  | .ex c fs m => PostX Γ W σ g H c fs m
  | .bad => False
structure At (C : Cc) (ρ : List Sl) (σ : St) (H : Hp) (g : Gh) (m : Hs) : Prop where
  le : Le C.gB g
  rel : Rel Γ g m H
  rs : RelS Γ C.gB g H ρ σ
  tw : TW C.H0 H
end
def tG {α A : Type} (Γ : Cst) (C : Cc) (ρ : List Sl) (rep : Gh → Hp → A → α → Prop) (t : M α) : St → Hp → (A → Hp → Prop) → Prop := fun σ H Q =>
  ∃ g m, At Γ C ρ σ H g m ∧ Post Γ C.W rep σ g H Q (t m)
section
variable {Γ : Cst} {W : WX} {C : Cc} {ρ : List Sl} {α β A B : Type} {rep : Gh → Hp → A → α → Prop} {repB : Gh → Hp → B → β → Prop} {σ : St} {g g' : Gh} {H H' : Hp} {m m' : Hs}
theorem At.mono (a : At Γ C ρ σ H g m) (p : Le g g') (t : TK H H') (rel : Rel Γ g' m' H') : At Γ C ρ σ H' g' m' := ⟨a.le.trans p, rel, a.rs.mono p t, a.tw.go t⟩
theorem At.keep (a : At Γ C ρ σ H g m) (t : TK H H') (rel : Rel Γ g m' H') : At Γ C ρ σ H' g m' := a.mono (Le.refl g) t rel
theorem PostX.mono {c : Nat} {fs : List (Str × D)} {m : Hs} (p : Le g g') (t : TK H H') (h : PostX Γ W σ g H c fs m) : PostX Γ W σ g' H' c fs m :=
  fun g2 H2 C d vs p2 t2 => h g2 H2 C d vs (p.trans p2) (t.trans t2)
theorem Post.mono {Q : A → Hp → Prop} {r : Rs α} (p : Le g g') (t : TK H H') (h : Post Γ W rep σ g H Q r) : Post Γ W rep σ g' H' Q r := by
  cases r with
  | ok x m => exact fun g2 H2 v p2 t2 => h g2 H2 v (p.trans p2) (t.trans t2)
  | ex c fs m => exact PostX.mono p t h
  | bad => exact h
theorem Post.bind {Q : B → Hp → Prop} {R : A → Hp → Prop} {r : Rs α} {h : α → Hs → Rs β} (q : Post Γ W repB σ g H Q (r.bind h))
    (k : ∀ g' H' m v x, Le g g' → TK H H' → Rel Γ g' m H' → rep g' H' v x → Post Γ W repB σ g' H' Q (h x m) → R v H') : Post Γ W rep σ g H R r := by
  cases r with
  | ok x m => exact fun g' H' v p t rel hv => k g' H' m v x p t rel hv (Post.mono p t q)
  | ex c fs m => exact q
  | bad => exact q
theorem tG.bind {Q : B → Hp → Prop} {R : A → Hp → Prop} {t : M α} {f : α → M β} (q : tG Γ C ρ repB (bnd t f) σ H Q)
    (k : ∀ g' H' m v x, At Γ C ρ σ H' g' m → rep g' H' v x → Post Γ C.W repB σ g' H' Q (f x m) → R v H') : tG Γ C ρ rep t σ H R := by
  obtain ⟨g, m, a, q⟩ := q
  exact ⟨g, m, a, Post.bind q fun g' H' m' v x p t rel' hv q' => k g' H' m' v x (a.mono p t rel') hv q'⟩
theorem Post.ret {Q : A → Hp → Prop} {x : α} {m : Hs} {v : A} (q : Post Γ W rep σ g H Q (.ok x m)) (rel : Rel Γ g m H) (hv : rep g H v x) : Q v H := q g H v (Le.refl g) (TK.refl H) rel hv
theorem Post.opt {Q : A → Hp → Prop} {o : Option α} (q : Post Γ W rep σ g H Q (opt o m)) : ∃ x, o = some x ∧ Post Γ W rep σ g H Q (.ok x m) := by
  cases o with
  | none => exact q.elim
  | some x => exact ⟨x, rfl, q⟩
theorem Post.ask {Q : B → Hp → Prop} {f : Hs → Option α} {h : α → M β} (q : Post Γ W repB σ g H Q (bnd (ask f) h m)) : ∃ x, f m = some x ∧ Post Γ W repB σ g H Q (h x m) := by
  unfold bnd G.ask at q
  cases hz : f m with
  | none => rw [hz] at q; exact q.elim
  | some x => rw [hz] at q; exact ⟨x, rfl, q⟩
theorem Post.ite {Q : A → Hp → Prop} {c : Prop} [Decidable c] {t : M α} (q : Post Γ W rep σ g H Q ((if c then t else bad) m)) : c ∧ Post Γ W rep σ g H Q (t m) := by
  split at q
  · exact ⟨by assumption, q⟩
  · exact q.elim
end
abbrev rD (Γ : Cst) : Gh → Hp → V → D → Prop := fun g H v d => Rep Γ.K g H v d
abbrev rL (Γ : Cst) : Gh → Hp → List V → List D → Prop := fun g H v d => RepL Γ.K g H v d
abbrev rB : Gh → Hp → Bool → Bool → Prop := fun _ _ v b => v = b
def tE (Γ : Cst) (C : Cc) (ρ : List Sl) (t : M D) : TE := tG Γ C ρ (rD Γ) t
def tEs (Γ : Cst) (C : Cc) (ρ : List Sl) (t : M (List D)) : TA := tG Γ C ρ (rL Γ) t
def tT (Γ : Cst) (C : Cc) (ρ : List Sl) (t : M D) : TT := tG Γ C ρ rB (bnd t tru)
theorem pe_imp {X : Cx} {e : Expr} {t t' : TE} (h : PE X e t) (k : ∀ σ H Q, t' σ H Q → t σ H Q) : PE X e t' := ⟨fun pins s σ H Q I q => h.run pins s σ H Q I (k σ H Q q)⟩
theorem pt_imp {X : Cx} {e : Expr} {t t' : TT} (h : PT X e t) (k : ∀ σ H Q, t' σ H Q → t σ H Q) : PT X e t' := ⟨fun pins s σ H Q I q => h.run pins s σ H Q I (k σ H Q q)⟩
theorem pa_imp {X : Cx} {e : List Expr} {t t' : TA} (h : PA X e t) (k : ∀ σ H Q, t' σ H Q → t σ H Q) : PA X e t' := ⟨fun pos pins s σ H Q I q => h.run pos pins s σ H Q I (k σ H Q q)⟩
theorem ps_imp {X : Cx} {e : Stmt} {t t' : TS} (h : PS X e t) (k : ∀ De σ H, t' De σ H → t De σ H) : PS X e t' := ⟨fun pins s σ H De I q => h.run pins s σ H De I (k De σ H q)⟩
theorem pss_imp {X : Cx} {e : List Stmt} {t t' : TS} (h : PSs X e t) (k : ∀ De σ H, t' De σ H → t De σ H) : PSs X e t' := ⟨fun pins s σ H De I q => h.run pins s σ H De I (k De σ H q)⟩
abbrev PEc (X : Cx) (C : Cc) (ρ : List Sl) (e : Expr) (t : M D) : Prop := PE X e (tE ⟨X.K, C.cls⟩ C ρ t)
abbrev PTc (X : Cx) (C : Cc) (ρ : List Sl) (e : Expr) (t : M D) : Prop := PT X e (tT ⟨X.K, C.cls⟩ C ρ t)
abbrev PAc (X : Cx) (C : Cc) (ρ : List Sl) (e : List Expr) (t : M (List D)) : Prop := PA X e (tEs ⟨X.K, C.cls⟩ C ρ t)
section
variable {X : Cx} {C : Cc} {ρ : List Sl}
theorem c_var {e : Expr} {i : Nat} {d : D} (h : PE X e (tVar i)) (hi : ρ[i]? = some (.val d)) : PEc X C ρ e (ret d) := pe_imp h fun σ H Q q => by
  obtain ⟨g, m, a, q⟩ := q
  obtain ⟨v, h1, h2⟩ := a.rs.val i d hi
  exact ⟨v, h1, q.ret a.rel h2⟩
theorem c_cst {e : Expr} {v : V} {d : D} (h : PE X e (tC v)) (hv : ∀ g H, Rep X.K g H v d) : PEc X C ρ e (ret d) := pe_imp h fun σ H Q q => by
  obtain ⟨g, m, a, q⟩ := q
  exact q.ret a.rel (hv g H)
theorem c_int {i : Int} {j pos} : PEc X C ρ (.Constant (.int i) j pos) (ret (.int i)) := c_cst pe_int fun _ _ => .int i
theorem c_bl {i : Bool} {j pos} : PEc X C ρ (.Constant (.bool i) j pos) (ret (.bl i)) := c_cst pe_bl fun _ _ => .bl i
theorem c_str {i : Str} {j pos} : PEc X C ρ (.Constant (.str i) j pos) (ret (.str i)) := c_cst pe_str fun _ _ => .str i
theorem opOr {f : Value → Value → Sem Value} {r r' : R2} (h : OpR X f r) (h' : OpR X f r') : OpR X f (fun x y H Q => r x y H Q ∨ r' x y H Q) := fun pins s σ H x y u v Q I rx ry q => by
  rcases q with q | q
  · exact h pins s σ H x y u v Q I rx ry q
  · exact h' pins s σ H x y u v Q I rx ry q
def Serves (X : Cx) (cls : Cl) (r : R2) (f : D → D → M D) : Prop := ∀ (W : WX) (σ : St) (g : Gh) (H : Hp) (m : Hs) (vx vy : V) (x y : D) (Q : VK),
  Rel ⟨X.K, cls⟩ g m H → Rep X.K g H vx x → Rep X.K g H vy y → Post ⟨X.K, cls⟩ W (rD ⟨X.K, cls⟩) σ g H Q (f x y m) → r vx vy H Q
theorem two {r : R2} {f : D → D → M D} {a b : M D} {σ : St} {H : Hp} {Q : VK} (sv : Serves X C.cls r f)
    (q : tG ⟨X.K, C.cls⟩ C ρ (rD ⟨X.K, C.cls⟩) (bnd a fun x => bnd b fun y => f x y) σ H Q) : tOp r (tE ⟨X.K, C.cls⟩ C ρ a) (tE ⟨X.K, C.cls⟩ C ρ b) σ H Q := by
  refine tG.bind q fun g1 H1 m1 v1 x1 at1 hv1 q1 => ?_
  refine ⟨g1, m1, at1, Post.bind q1 fun g2 H2 m2 v2 x2 p t rel2 hv2 q2 => ?_⟩
  exact sv C.W σ g2 H2 m2 v1 v2 x1 x2 Q rel2 (hv1.mono p.v t) hv2 q2
theorem c_bin {e1 e2 : Expr} {a b : M D} {o : Op} {op : Operator} {r : R2} {pos : Pos} (ho : OpR X (binaryOp op) r) (sv : Serves X C.cls r (binS o)) (ha : PEc X C ρ e1 a) (hb : PEc X C ρ e2 b) : PEc X C ρ (.BinOp e1 op e2 pos) (binM o a b) :=
  pe_imp (pe_op ho ha hb) fun σ H Q q => two sv q
theorem c_cmp {e1 e2 : Expr} {a b : M D} {o : Cp} {op : CmpOp} {r : R2} {pos : Pos} (ho : OpR X (compareOp op) r) (sv : Serves X C.cls r (cmpS o)) (hm : behindInMarks op e2 = false) (ha : PEc X C ρ e1 a) (hb : PEc X C ρ e2 b) : PEc X C ρ (.Compare e1 [op] [e2] pos) (cmpM o a b) :=
  pe_imp (pe_cmpR ho ha hb hm) fun σ H Q q => two sv q
section
variable {g : Gh} {H : Hp} {K : PySem.W.Frag} {v : V} {m : Hs} {σ : St} {W : WX} {cls : Cl}
theorem rep_int {i : Int} (h : Rep K g H v (.int i)) : v = .int i := by cases h; rfl
theorem rep_str {i : Str} (h : Rep K g H v (.str i)) : v = .str i := by cases h; rfl
theorem rep_bl {i : Bool} (h : Rep K g H v (.bl i)) : v = .bl i := by cases h; rfl
theorem rep_tup {ds : List D} (h : Rep K g H v (.tup ds)) : ∃ a xs, v = .ref a ∧ SqT K H a xs ∧ RepL K g H xs ds := by
  cases h with
  | tup h r => exact ⟨_, _, rfl, h, r⟩
theorem rep_kt {ds : List D} (h : Rep K g H v (.fd [.non] ds)) : ∃ a xs, v = .ref a ∧ H a = some (.tup xs) ∧ RepL K g H xs ds := by
  generalize e : D.fd [.non] ds = d at h
  cases h with
  | kt h r =>
    cases e
    exact ⟨_, _, rfl, h, r⟩
  | @fd a kvs ds2 h r =>
    injection e with e1 e2
    rcases kvs with _ | ⟨⟨k | k, v⟩, _ | ⟨p, r⟩⟩ <;> simp [keysK, keyD] at e1
  | _ => cases e
theorem Post.newT {Q : VK} {Γ : Cst} {ds : List D} {xs : List V} {p : Addr} (q : Post Γ W (rD Γ) σ g H Q (.ok (.tup ds) m)) (rel : Rel Γ g m H) (r : RepL Γ.K g H xs ds) (hp : H p = none) : Q (.ref p) (upd H p (.tup xs)) :=
  q g _ _ (Le.refl g) (TK.new hp) (rel.laid hp) (.tup (SqT.of upd_same) (r.mono (Lv0.refl g) (TK.new hp)))
theorem Post.newL {Q : VK} {Γ : Cst} {ds : List D} {xs : List V} {p : Addr} (q : Post Γ W (rD Γ) σ g H Q (.ok (.fl ds) m)) (rel : Rel Γ g m H) (r : RepL Γ.K g H xs ds) (hp : H p = none) : Q (.ref p) (upd H p (.lst xs)) :=
  q (g.addF p (.lst xs)) _ _ le_addF (TK.new hp) (rel.newF hp) (.fl List.mem_cons_self (r.mono le_addF.v (TK.new hp)))
theorem Post.newH {Q : VK} {Γ : Cst} {ds : List D} {xs : List V} {p : Addr} (q : Post Γ W (rD Γ) σ g H Q (.ok (.ref m.length) (m ++ [.lst ds]))) (rel : Rel Γ g m H) (r : RepL Γ.K g H xs ds) (hp : H p = none) : Q (.ref p) (upd H p (.lst xs)) :=
  q (g.addH p) _ _ le_addH (TK.new hp) (rel.push hp ⟨xs, upd_same, r.mono le_addH.v (TK.new hp)⟩) (.ref (by show (g.hs ++ [p])[m.length]? = _; rw [← rel.len]; simp))
theorem rep_lst {x : D} {ds : List D} (rel : Rel ⟨K, cls⟩ g m H) (h : Rep K g H v x) (e : lstOf x m = some ds) : ∃ a xs, v = .ref a ∧ H a = some (.lst xs) ∧ RepL K g H xs ds := by
  cases h with
  | fl h r =>
    simp only [lstOf, Option.some.injEq] at e
    subst e
    exact ⟨_, _, rfl, rel.frz _ _ h, r⟩
  | ref h =>
    simp only [lstOf] at e
    split at e
    · rename_i ys hy
      cases e
      obtain ⟨xs, h1, h2⟩ := rel.lst hy h
      exact ⟨_, xs, rfl, h1, h2⟩
    · cases e
  | sc _ _ => simp [lstOf] at e
  | fd _ _ => simp [lstOf] at e
  | kt _ _ => simp [lstOf] at e
  | tup _ _ => simp [lstOf] at e
  | non => simp [lstOf] at e
  | bl _ => simp [lstOf] at e
  | int _ => simp [lstOf] at e
  | str _ => simp [lstOf] at e
theorem items_fd {kvs : List (Key × V)} {ds : List D} {m : Hs} : itemsOf (.fd (keysK kvs) ds) m = none := by
  rcases kvs with _ | ⟨⟨k | k, v⟩, _ | ⟨p, r⟩⟩ <;> rfl
theorem rep_seq {x : D} {ds : List D} (rel : Rel ⟨K, cls⟩ g m H) (h : Rep K g H v x) (e : itemsOf x m = some ds) : ∃ a xs, v = .ref a ∧ (SqL K H a xs ∨ SqT K H a xs) ∧ RepL K g H xs ds := by
  cases h with
  | tup h r => simp only [itemsOf, Option.some.injEq] at e; subst e; exact ⟨_, _, rfl, .inr h, r⟩
  | kt h r => simp only [itemsOf, Option.some.injEq] at e; subst e; exact ⟨_, _, rfl, .inr (SqT.of h), r⟩
  | fl h r =>
    obtain ⟨a, xs, e1, h1, h2⟩ := rep_lst rel (.fl h r) (ds := ds) (by simpa [lstOf, itemsOf] using e)
    exact ⟨a, xs, e1, .inl (SqL.of h1), h2⟩
  | ref h =>
    obtain ⟨a, xs, e1, h1, h2⟩ := rep_lst rel (.ref h) (ds := ds) (by simpa [lstOf, itemsOf] using e)
    exact ⟨a, xs, e1, .inl (SqL.of h1), h2⟩
  | sc h r =>
    simp only [itemsOf, Option.some.injEq] at e
    subst e
    refine ⟨_, _, rfl, .inl ?_, r⟩
    rcases h with ⟨o, h⟩ | h
    · exact .inl (.inr ⟨o, h⟩)
    · exact h H
  | fd _ _ => rw [items_fd] at e; cases e
  | non => simp [itemsOf] at e
  | bl _ => simp [itemsOf] at e
  | int _ => simp [itemsOf] at e
  | str _ => simp [itemsOf] at e
end
end
end G
namespace G
open PySem L2
section
variable {X : Cx} {C : Cc} {ρ : List Sl} {cls : Cl}
def rAddA (K : PySem.W.Frag) : R2 := fun x y H Q => rI0 (fun i j => .int (i + j)) x y H Q ∨ ((∃ i j, x = .str i ∧ y = .str j ∧ i.length + j.length ≤ sizeLine ∧ Q (.str (i ++ j)) H) ∨ (rCatA K x y H Q ∨ rCat x y H Q))
theorem op_addA : OpR X (binaryOp .Add) (rAddA X.K) := opOr op_add (opOr op_add_str (opOr op_catA op_cat))
theorem add_lists {W : WX} {σ : L2.St} {g : Gh} {H : Hp} {m : Hs} {vx vy : V} {x y : D} {Q : VK} (rel : Rel ⟨X.K, cls⟩ g m H) (hx : Rep X.K g H vx x) (hy : Rep X.K g H vy y)
    (q : Post ⟨X.K, cls⟩ W (rD ⟨X.K, cls⟩) σ g H Q (match lstOf x m, lstOf y m with
      | some xs, some ys => if xs.length + ys.length ≤ sizeLine then .ok (.fl (xs ++ ys)) m else .bad
      | _, _ => .bad)) : rAddA X.K vx vy H Q := by
  split at q
  · rename_i h1 h2
    split at q
    · rename_i hz
      obtain ⟨a, xs, rfl, a1, a2⟩ := rep_lst rel hx h1
      obtain ⟨b, ys, rfl, b1, b2⟩ := rep_lst rel hy h2
      exact .inr (.inr (.inr ⟨_, _, xs, ys, rfl, rfl, a1, b1, by rw [a2.length, b2.length]; exact hz, fun p hp => q.newL rel (a2.append b2) hp⟩))
    · exact q.elim
  · exact q.elim
theorem sv_add : Serves X cls (rAddA X.K) (binS .add) := by
  intro W σ g H m vx vy x y Q rel hx hy q
  have hy' := hy
  cases hx with
  | int i => cases hy with
    | int j => exact .inl ⟨i, j, rfl, rfl, q.ret rel (.int _)⟩
    | _ => exact add_lists rel (.int i) hy' q
  | str i => cases hy with
    | str j =>
      simp only [binS] at q
      obtain ⟨hz, q⟩ := Post.ite q
      exact .inr (.inl ⟨i, j, rfl, rfl, hz, q.ret rel (.str _)⟩)
    | _ => exact add_lists rel (.str i) hy' q
  | tup h r => cases hy with
    | tup h' r' =>
      simp only [binS] at q
      obtain ⟨hz, q⟩ := Post.ite q
      refine .inr (.inr (.inl ⟨_, _, _, _, rfl, rfl, h, h', by rw [r.length, r'.length]; exact hz, fun e => ?_, fun e1 e2 => ?_, fun e1 e2 p hp => ?_⟩))
      · subst e
        cases r
        exact q.ret rel (.tup h' r')
      · subst e2
        cases r'
        exact q.ret rel (.tup h (by rw [List.append_nil]; exact r))
      · exact q.newT rel (r.append r') hp
    | _ => exact add_lists rel (.tup h r) hy' q
  | non => exact add_lists rel .non hy (by cases hy <;> exact q)
  | bl b => exact add_lists rel (.bl b) hy (by cases hy <;> exact q)
  | fl h r => exact add_lists rel (.fl h r) hy (by cases hy <;> exact q)
  | sc h r => exact add_lists rel (.sc h r) hy (by cases hy <;> exact q)
  | fd h r => exact add_lists rel (.fd h r) hy (by cases hy <;> exact q)
  | kt h r => exact add_lists rel (.kt h r) hy (by cases hy <;> exact q)
  | ref h => exact add_lists rel (.ref h) hy (by cases hy <;> exact q)
theorem sv_sub : Serves X cls (rI0 fun i j => .int (i - j)) (binS .sub) := by
  intro W σ g H m vx vy x y Q rel hx hy q
  cases hx with
  | int i => cases hy with
    | int j => exact ⟨i, j, rfl, rfl, q.ret rel (.int _)⟩
    | _ => exact q.elim
  | _ => cases hy <;> exact q.elim
def rMulA : R2 := fun x y H Q => rI CMulW (fun i j => .int (i * j)) x y H Q ∨ rRep x y H Q
theorem op_mulA : OpR X (binaryOp .Mult) rMulA := opOr op_mulW op_rep
theorem repL_rep {g : Gh} {H : Hp} {K : PySem.W.Frag} {xs : List V} {ds : List D} (r : RepL K g H xs ds) : ∀ n : Nat, RepL K g H (List.replicate n xs).flatten (List.replicate n ds).flatten
  | 0 => .nil
  | n + 1 => by
    rw [List.replicate_succ, List.replicate_succ, List.flatten_cons, List.flatten_cons]
    exact r.append (repL_rep r n)
theorem sv_mul : Serves X cls rMulA (binS .mul) := by
  intro W σ g H m vx vy x y Q rel hx hy q
  have gen : ∀ {j : Int}, vy = .int j → Post ⟨X.K, cls⟩ W (rD ⟨X.K, cls⟩) σ g H Q (match lstOf x m with
      | some xs => if -(2 ^ 63) ≤ j ∧ j < 2 ^ 63 ∧ xs.length * j.toNat ≤ sizeLine then .ok (.fl (List.replicate j.toNat xs).flatten) m else .bad
      | _ => .bad) → rMulA vx vy H Q := fun {j} e q => by
    subst e
    split at q
    · rename_i xs h1
      split at q
      · rename_i hz
        obtain ⟨a, xs, rfl, a1, a2⟩ := rep_lst rel hx h1
        exact .inr ⟨_, j, xs, rfl, rfl, a1, hz.1, hz.2.1, by rw [a2.length]; exact hz.2.2, fun p hp => q.newL rel (repL_rep a2 _) hp⟩
      · exact q.elim
    · exact q.elim
  cases hx with
  | int i => cases hy with
    | int j =>
      simp only [binS] at q
      obtain ⟨hz, q⟩ := Post.ite q
      exact .inl ⟨i, j, rfl, rfl, hz, q.ret rel (.int _)⟩
    | _ => exact q.elim
  | _ => cases hy <;> first | exact gen rfl q | exact q.elim
theorem sv_fdiv : Serves X cls (rI CDivW fun i j => .int (i / j)) (binS .fdiv) := by
  intro W σ g H m vx vy x y Q rel hx hy q
  cases hx with
  | int i => cases hy with
    | int j =>
      simp only [binS] at q
      obtain ⟨hz, q⟩ := Post.ite q
      exact ⟨i, j, rfl, rfl, hz, q.ret rel (.int _)⟩
    | _ => exact q.elim
  | _ => cases hy <;> exact q.elim
theorem sv_mod : Serves X cls (rI (fun _ j => 0 < j) fun i j => .int (i % j)) (binS .mod) := by
  intro W σ g H m vx vy x y Q rel hx hy q
  cases hx with
  | int i => cases hy with
    | int j =>
      simp only [binS] at q
      obtain ⟨hz, q⟩ := Post.ite q
      exact ⟨i, j, rfl, rfl, hz, q.ret rel (.int _)⟩
    | _ => exact q.elim
  | _ => cases hy <;> exact q.elim
theorem op_powW : OpR X (binaryOp .Pow) (rI (fun i j => 0 ≤ j ∧ (i.natAbs.log2 + 1) * j.toNat ≤ 134217728) fun i j => .int (i ^ j.toNat)) := opI fun i j _ _ _ _ _ hc q => PyProof.Rows.pow_int hc.1 (by
  have b : Builtin.Int.intBits i ≤ i.natAbs.log2 + 1 := by
    unfold Builtin.Int.intBits
    split <;> omega
  have e : ((j.toNat : Nat) : Int) = j := Int.toNat_of_nonneg hc.1
  have h1 : Builtin.Int.intBits i * j.toNat ≤ 134217728 := Nat.le_trans (Nat.mul_le_mul_right _ b) hc.2
  rw [← e]
  exact_mod_cast h1) q
theorem sv_pow : Serves X cls (rI (fun i j => 0 ≤ j ∧ (i.natAbs.log2 + 1) * j.toNat ≤ 134217728) fun i j => .int (i ^ j.toNat)) (binS .pow) := by
  intro W σ g H m vx vy x y Q rel hx hy q
  cases hx with
  | int i => cases hy with
    | int j =>
      simp only [binS] at q
      obtain ⟨hz, q⟩ := Post.ite q
      exact ⟨i, j, rfl, rfl, hz, q.ret rel (.int _)⟩
    | _ => exact q.elim
  | _ => cases hy <;> exact q.elim
theorem sv_lt : Serves X cls (rI0 fun i j => .bl (decide (i < j))) (cmpS .lt) := by
  intro W σ g H m vx vy x y Q rel hx hy q
  cases hx with
  | int i => cases hy with
    | int j => exact ⟨i, j, rfl, rfl, q.ret rel (.bl _)⟩
    | _ => exact q.elim
  | _ => cases hy <;> exact q.elim
theorem sv_gt : Serves X cls (rI0 fun i j => .bl (decide (j < i))) (cmpS .gt) := by
  intro W σ g H m vx vy x y Q rel hx hy q
  cases hx with
  | int i => cases hy with
    | int j => exact ⟨i, j, rfl, rfl, q.ret rel (.bl _)⟩
    | _ => exact q.elim
  | _ => cases hy <;> exact q.elim
theorem sv_ge : Serves X cls (rI0 fun i j => .bl (decide (j ≤ i))) (cmpS .ge) := by
  intro W σ g H m vx vy x y Q rel hx hy q
  cases hx with
  | int i => cases hy with
    | int j => exact ⟨i, j, rfl, rfl, q.ret rel (.bl _)⟩
    | _ => exact q.elim
  | _ => cases hy <;> exact q.elim
theorem mapO_dp {g : Gh} {H : Hp} {K : PySem.W.Frag} {f : D → Option PyData} (ih : ∀ d v p, f d = some p → Rep K g H v d → Dp K H v p) : ∀ {xs : List V} {ds : List D} {ps : List PyData}, mapO f ds = some ps → RepL K g H xs ds → DpAll K H xs ps
  | _, _, _, e, .nil => by simp only [mapO, Option.some.injEq] at e; subst e; exact .nil
  | _, _, ps, e, .cons r s => by
    simp only [mapO] at e
    split at e
    · rename_i h1 h2
      cases e
      exact .cons (ih _ _ _ h1 r) (mapO_dp ih h2 s)
    · cases e
theorem pyD_dp {g : Gh} {H : Hp} {m : Hs} {K : PySem.W.Frag} (rel : Rel ⟨K, cls⟩ g m H) : ∀ (n : Nat) (d : D) (v : V) (p : PyData), pyD m n d = some p → Rep K g H v d → Dp K H v p
  | n, .non, _, p, e, .non => by simp only [pyD, Option.some.injEq] at e; subst e; exact .non
  | n, .bl b, _, p, e, .bl _ => by simp only [pyD, Option.some.injEq] at e; subst e; exact .bl b
  | n, .int b, _, p, e, .int _ => by simp only [pyD, Option.some.injEq] at e; subst e; exact .int b
  | n, .str b, _, p, e, .str _ => by
    simp only [pyD] at e
    split at e
    · cases e; exact .str b
    · cases e
  | 0, .tup _, _, p, e, _ => by simp [pyD] at e
  | 0, .fl _, _, p, e, _ => by simp [pyD] at e
  | 0, .sc _, _, p, e, _ => by simp [pyD] at e
  | 0, .fd _ _, _, p, e, _ => by simp [pyD] at e
  | n + 1, .fd _ _, _, p, e, _ => by simp [pyD] at e
  | 0, .ref _, _, p, e, _ => by simp [pyD] at e
  | n + 1, .tup ds, _, p, e, .tup h r => by
    simp only [pyD, Option.map_eq_some_iff] at e
    obtain ⟨ps, e, rfl⟩ := e
    exact .tup h (mapO_dp (pyD_dp rel n) e r)
  | n + 1, .fl ds, _, p, e, .fl h r => by
    simp only [pyD, Option.map_eq_some_iff] at e
    obtain ⟨ps, e, rfl⟩ := e
    exact .lst (SqL.of (rel.frz _ _ h)) (mapO_dp (pyD_dp rel n) e r)
  | n + 1, .sc ds, _, p, e, .sc h r => by
    simp only [pyD, Option.map_eq_some_iff] at e
    obtain ⟨ps, e, rfl⟩ := e
    refine .lst ?_ (mapO_dp (pyD_dp rel n) e r)
    rcases h with ⟨o, h⟩ | h
    · exact .inl (.inr ⟨o, h⟩)
    · exact h H
  | n + 1, .ref k, _, p, e, .ref h => by
    simp only [pyD] at e
    split at e
    · rename_i xs hx
      simp only [Option.map_eq_some_iff] at e
      obtain ⟨ps, e, rfl⟩ := e
      obtain ⟨vs, a1, a2⟩ := rel.lst hx h
      exact .lst (SqL.of a1) (mapO_dp (pyD_dp rel n) e a2)
    · cases e
theorem mapO_lay {f : D → Option PyData} {n : Nat} (ih : ∀ d p, f d = some p → p.canLay0 = true ∧ p.depth ≤ n) : ∀ {ds : List D} {ps : List PyData}, mapO f ds = some ps → PyData.canLayAll0 ps = true ∧ PyData.depthAll ps ≤ n
  | [], _, e => by simp only [mapO, Option.some.injEq] at e; subst e; exact ⟨rfl, Nat.zero_le _⟩
  | d :: ds, ps, e => by
    simp only [mapO] at e
    split at e
    · rename_i h1 h2
      cases e
      have a := ih _ _ h1
      have b := mapO_lay ih h2
      exact ⟨by simp [PyData.canLayAll0, a.1, b.1], by simp only [PyData.depthAll]; omega⟩
    · cases e
theorem pyD_lay {m : Hs} : ∀ (n : Nat) (d : D) (p : PyData), pyD m n d = some p → p.canLay0 = true ∧ p.depth ≤ n
  | n, .non, p, e => by simp only [pyD, Option.some.injEq] at e; subst e; exact ⟨rfl, Nat.zero_le _⟩
  | n, .bl b, p, e => by simp only [pyD, Option.some.injEq] at e; subst e; exact ⟨rfl, Nat.zero_le _⟩
  | n, .int b, p, e => by simp only [pyD, Option.some.injEq] at e; subst e; exact ⟨rfl, Nat.zero_le _⟩
  | n, .str b, p, e => by
    simp only [pyD] at e
    split at e
    · rename_i h
      cases e; exact ⟨h, Nat.zero_le _⟩
    · cases e
  | 0, .tup _, p, e => by simp [pyD] at e
  | 0, .fl _, p, e => by simp [pyD] at e
  | 0, .sc _, p, e => by simp [pyD] at e
  | 0, .fd _ _, p, e => by simp [pyD] at e
  | n + 1, .fd _ _, p, e => by simp [pyD] at e
  | 0, .ref _, p, e => by simp [pyD] at e
  | n + 1, .tup ds, p, e => by
    simp only [pyD, Option.map_eq_some_iff] at e
    obtain ⟨ps, e, rfl⟩ := e
    have a := mapO_lay (pyD_lay n) e
    exact ⟨by simp [PyData.canLay0, a.1], by simp only [PyData.depth]; omega⟩
  | n + 1, .fl ds, p, e => by
    simp only [pyD, Option.map_eq_some_iff] at e
    obtain ⟨ps, e, rfl⟩ := e
    have a := mapO_lay (pyD_lay n) e
    exact ⟨by simp [PyData.canLay0, a.1], by simp only [PyData.depth]; omega⟩
  | n + 1, .sc ds, p, e => by
    simp only [pyD, Option.map_eq_some_iff] at e
    obtain ⟨ps, e, rfl⟩ := e
    have a := mapO_lay (pyD_lay n) e
    exact ⟨by simp [PyData.canLay0, a.1], by simp only [PyData.depth]; omega⟩
  | n + 1, .ref k, p, e => by
    simp only [pyD] at e
    split at e
    · simp only [Option.map_eq_some_iff] at e
      obtain ⟨ps, e, rfl⟩ := e
      have a := mapO_lay (pyD_lay n) e
      exact ⟨by simp [PyData.canLay0, a.1], by simp only [PyData.depth]; omega⟩
    · cases e
theorem shaped_of {m : Hs} {d : D} {p : PyData} (h : pyD m deepest d = some p) : SeqAt.shaped p = true := by
  have a := pyD_lay deepest d p h
  have b : deepest = 50 := rfl
  unfold SeqAt.shaped
  rw [a.1, Bool.true_and, decide_eq_true_eq]
  omega
theorem eqP_ok {g : Gh} {H : Hp} {m : Hs} {vx vy : V} {x y : D} {b : Bool} (rel : Rel ⟨X.K, cls⟩ g m H) (hx : Rep X.K g H vx x) (hy : Rep X.K g H vy y) (h : eqP x y m = some b) : ∃ d e, Dp X.K H vx d ∧ Dp X.K H vy e ∧ SeqAt.shaped d = true ∧ SeqAt.shaped e = true ∧ PyData.eqv d e = b := by
  unfold eqP at h
  split at h
  · rename_i h1 h2
    cases h
    exact ⟨_, _, pyD_dp rel _ _ _ _ h1 hx, pyD_dp rel _ _ _ _ h2 hy, shaped_of h1, shaped_of h2, rfl⟩
  · cases h
theorem eqS_ok {g : Gh} {H : Hp} {m : Hs} {vx vy : V} {x y : D} {b : Bool} (rel : Rel ⟨X.K, cls⟩ g m H) (hx : Rep X.K g H vx x) (hy : Rep X.K g H vy y) (h : eqS x y m = some b) :
    (scal vx vy = true ∧ decide (vx = vy) = b) ∨ ∃ d e, Dp X.K H vx d ∧ Dp X.K H vy e ∧ SeqAt.shaped d = true ∧ SeqAt.shaped e = true ∧ PyData.eqv d e = b := by
  unfold eqS at h
  split at h
  · rw [rep_str hx, rep_str hy]
    refine .inl ⟨rfl, ?_⟩
    rw [← Option.some.inj h]
    simp
  · exact .inr (eqP_ok rel hx hy h)
def rEqA (K : PySem.W.Frag) : R2 := fun x y H Q => rEq x y H Q ∨ rEqD K x y H Q
def rNeA (K : PySem.W.Frag) : R2 := fun x y H Q => rNe x y H Q ∨ rNeD K x y H Q
theorem op_eqA (hu : X.A.units + 64 < cLine) : OpR X (compareOp .Eq) (rEqA X.K) := opOr op_eq (op_eqD hu)
theorem op_neA (hu : X.A.units + 64 < cLine) : OpR X (compareOp .NotEq) (rNeA X.K) := opOr op_ne (op_neD hu)
theorem sv_eq : Serves X cls (rEqA X.K) (cmpS .eq) := by
  intro W σ g H m vx vy x y Q rel hx hy q
  simp only [cmpS] at q
  obtain ⟨b, hb, q⟩ := Post.ask q
  rcases eqS_ok rel hx hy hb with ⟨h1, h2⟩ | ⟨d, e, h1, h2, h3, h4, h5⟩
  · exact .inl ⟨h1, by rw [h2]; exact q.ret rel (.bl _)⟩
  · exact .inr ⟨d, e, h1, h2, h3, h4, by rw [h5]; exact q.ret rel (.bl _)⟩
theorem sv_ne : Serves X cls (rNeA X.K) (cmpS .ne) := by
  intro W σ g H m vx vy x y Q rel hx hy q
  simp only [cmpS] at q
  obtain ⟨b, hb, q⟩ := Post.ask q
  rcases eqS_ok rel hx hy hb with ⟨h1, h2⟩ | ⟨d, e, h1, h2, h3, h4, h5⟩
  · exact .inl ⟨h1, by rw [h2]; exact q.ret rel (.bl _)⟩
  · exact .inr ⟨d, e, h1, h2, h3, h4, by rw [h5]; exact q.ret rel (.bl _)⟩
end
end G
namespace G
open PySem L2
section
variable {X : Cx} {C : Cc} {ρ : List Sl} {cls : Cl}
theorem truth_ok {g : Gh} {H : Hp} {m : Hs} {v : V} {x : D} {b : Bool} (rel : Rel ⟨X.K, cls⟩ g m H) (h : Rep X.K g H v x) (e : truth x m = some b) : TruV X.K v H b := by
  cases h with
  | non => simp only [truth, Option.some.injEq] at e; exact e.symm
  | bl _ => simp only [truth, Option.some.injEq] at e; exact e.symm
  | int _ => simp only [truth, Option.some.injEq] at e; exact e.symm
  | str y =>
    simp only [truth] at e
    split at e
    · rename_i hz
      refine ⟨hz, ?_⟩
      rw [← Option.some.inj e, Bool.eq_iff_iff]
      simp
    · cases e
  | @tup a xs ds h r =>
    simp only [truth, Option.some.injEq] at e
    refine .inr (.inl ⟨xs, h, ?_⟩)
    rw [← e]
    cases r <;> rfl
  | @fl a xs ds h r =>
    simp only [truth, Option.some.injEq] at e
    refine .inl ⟨xs, SqL.of (rel.frz _ _ h), ?_⟩
    rw [← e]
    cases r <;> rfl
  | fd _ _ => simp [truth] at e
  | kt _ _ => simp [truth] at e
  | @sc a xs ds h r =>
    simp only [truth, Option.some.injEq] at e
    refine .inl ⟨xs, ?_, ?_⟩
    · rcases h with ⟨o, h⟩ | h
      · exact .inl (.inr ⟨o, h⟩)
      · exact h H
    · rw [← e]
      cases r <;> rfl
  | ref h =>
    simp only [truth] at e
    split at e
    · rename_i ds hd
      obtain ⟨xs, a1, a2⟩ := rel.lst hd h
      refine .inl ⟨xs, SqL.of a1, ?_⟩
      rw [← Option.some.inj e]
      cases a2 <;> rfl
    · cases e
theorem c_neg {e : Expr} {a : M D} {pos : Pos} (ha : PEc X C ρ e a) : PEc X C ρ (.UnaryOp .USub e pos) (negM a) :=
  pe_imp (pe_un un_neg ha) fun σ H Q q => by
    refine tG.bind q fun g H' m v x at1 hv q => ?_
    cases hv with
    | int i => exact ⟨i, rfl, q.ret at1.rel (.int _)⟩
    | _ => exact q.elim
theorem c_one {e : Expr} {a : M D} {op : BoolOp} {pos : Pos} (ha : PEc X C ρ e a) : PEc X C ρ (.BoolOp op [e] pos) a := pe_one ha
theorem c_and {e1 e2 : Expr} {rest : List Expr} {a b : M D} {pos : Pos} (ha : PEc X C ρ e1 a) (hb : PEc X C ρ (.BoolOp .And (e2 :: rest) pos) b) : PEc X C ρ (.BoolOp .And (e1 :: e2 :: rest) pos) (andM a b) :=
  pe_imp (pe_andT ha hb) fun σ H Q q => by
    refine tG.bind q fun g H' m v x at1 hv q => ?_
    obtain ⟨k, hk, q⟩ := Post.ask q
    refine ⟨k, truth_ok at1.rel hv hk, ?_⟩
    cases k with
    | true => exact iteT ⟨g, m, at1, q⟩
    | false => exact iteF (q.ret at1.rel hv)
theorem bnd_bnd {α β γ : Type} {t : M α} {f : α → M β} {g : β → M γ} : bnd (bnd t f) g = bnd t fun x => bnd (f x) g := by
  funext m
  simp only [bnd]
  cases t m <;> rfl
theorem bnd_ret {α β : Type} {a : α} {f : α → M β} : bnd (ret a) f = f a := rfl
theorem cmpS_bl {o : Cp} {x y z : D} {m m' : Hs} (h : cmpS o x y m = .ok z m') : ∃ b, z = .bl b ∧ m' = m := by
  have key : ∀ {f : Hs → Option Bool} {g : Bool → Bool}, bnd (ask f) (fun b => ret (D.bl (g b))) m = .ok z m' → ∃ b, z = .bl b ∧ m' = m := fun {f g} h => by
    unfold bnd ask at h
    cases hz : f m with
    | none => rw [hz] at h; cases h
    | some y => rw [hz] at h; cases h; exact ⟨_, rfl, rfl⟩
  unfold cmpS at h
  split at h <;> first
    | (cases h; exact ⟨_, rfl, rfl⟩)
    | exact key (g := id) h
    | exact key (g := fun b => !b) h
    | cases h
theorem cmpS_ex {o : Cp} {x y : D} {c : Nat} {fs : List (Str × D)} {m m' : Hs} (h : cmpS o x y m = .ex c fs m') : False := by
  have key : ∀ {f : Hs → Option Bool} {g : Bool → Bool}, bnd (ask f) (fun b => ret (D.bl (g b))) m = .ex c fs m' → False := fun {f g} h => by
    unfold bnd ask at h
    cases hz : f m with
    | none => rw [hz] at h; cases h
    | some y => rw [hz] at h; cases h
  unfold cmpS at h
  split at h <;> first
    | (cases h; done)
    | exact key (g := id) h
    | exact key (g := fun b => !b) h
theorem cmp_then {W : WX} {σ : L2.St} {β B : Type} {repB : Gh → Hp → B → β → Prop} {g : Gh} {H : Hp} {m : Hs} {o : Cp} {x y : D} {R : VK} {Q : B → Hp → Prop} {f : D → M β} (q : Post ⟨X.K, cls⟩ W repB σ g H Q (bnd (cmpS o x y) f m))
    (k : ∀ g' H' b, Le g g' → TK H H' → Rel ⟨X.K, cls⟩ g' m H' → Post ⟨X.K, cls⟩ W repB σ g' H' Q (f (.bl b) m) → R (.bl b) H') : Post ⟨X.K, cls⟩ W (rD ⟨X.K, cls⟩) σ g H R (cmpS o x y m) := by
  unfold bnd at q
  cases hz : cmpS o x y m with
  | ok z m3 =>
    rw [hz] at q
    obtain ⟨b, rfl, rfl⟩ := cmpS_bl hz
    intro g3 H3 v3 p3 t3 rel3 hv3
    rw [rep_bl hv3]
    exact k g3 H3 b p3 t3 rel3 (Post.mono p3 t3 q)
  | ex c fs m3 => exact (cmpS_ex hz).elim
  | bad => rw [hz] at q; exact q
theorem p_cmp {e1 e2 : Expr} {a b : M D} {o : Cp} {op : CmpOp} {r : R2} {pos : Pos} (ho : OpR X (compareOp op) r) (sv : Serves X C.cls r (cmpS o)) (hm : behindInMarks op e2 = false) (ha : PEc X C ρ e1 a) (hb : PEc X C ρ e2 b) : PTc X C ρ (.Compare e1 [op] [e2] pos) (cmpM o a b) :=
  pt_imp (pt_cmpR ho ha hb hm) fun σ H Q q => by
    unfold tT cmpM at q
    rw [bnd_bnd] at q
    refine tG.bind q fun g1 H1 m1 v1 x1 at1 hv1 q1 => ?_
    rw [bnd_bnd] at q1
    refine ⟨g1, m1, at1, Post.bind q1 fun g2 H2 m2 v2 x2 p t rel2 hv2 q2 => ?_⟩
    refine sv C.W σ g2 H2 m2 v1 v2 x1 x2 _ rel2 (hv1.mono p.v t) hv2 ?_
    exact cmp_then q2 fun g3 H3 b p3 t3 rel3 q3 => ⟨b, rfl, q3.ret rel3 rfl⟩
theorem tru_of {x : D} {m : Hs} {b : Bool} (h : truth x m = some b) : tru x m = .ok b m := by unfold tru ask; rw [h]
theorem tst_then {W : WX} {σ : L2.St} {β B : Type} {repB : Gh → Hp → B → β → Prop} {ρ : List Sl} {C : Cc} {Γ : Cst} {H : Hp} {a : M D} {Q : B → Hp → Prop} {f : D → Bool → M β} {R : Bool → Hp → Prop} (q : tG Γ C ρ repB (bnd a fun x => bnd (tru x) fun k => f x k) σ H Q)
    (k : ∀ g' H' m x b, At Γ C ρ σ H' g' m → truth x m = some b → Post Γ C.W repB σ g' H' Q (f x b m) → R b H') : tG Γ C ρ rB (bnd a tru) σ H R := by
  obtain ⟨g, m, at0, q⟩ := q
  refine ⟨g, m, at0, ?_⟩
  unfold bnd at q ⊢
  cases hz : a m with
  | ok x m1 =>
    rw [hz, bind_ok] at q
    rw [bind_ok]
    change Post Γ C.W repB σ g H Q ((tru x m1).bind fun k m2 => f x k m2) at q
    cases hb : truth x m1 with
    | none =>
      have e : tru x m1 = .bad := by unfold tru ask; rw [hb]
      rw [e] at q
      exact q.elim
    | some b =>
      rw [tru_of hb, bind_ok] at q
      rw [tru_of hb]
      intro g' H' v p t rel' e
      subst e
      exact k g' H' m1 x v (at0.mono p t rel') hb (Post.mono p t q)
  | ex c fs m1 => rw [hz] at q; exact q
  | bad => rw [hz] at q; exact q
theorem c_ite {ec e1 e2 : Expr} {c a b : M D} {pos : Pos} (hc : PTc X C ρ ec c) (ha : PEc X C ρ e1 a) (hb : PEc X C ρ e2 b) : PEc X C ρ (.IfExp ec e1 e2 pos) (iteM c a b) :=
  pe_imp (pe_ifExp hc ha hb) fun σ H Q q => by
    refine tst_then (W := C.W) q fun g' H' m x k at1 hk q => ?_
    cases k with
    | true => exact iteT ⟨g', m, at1, q⟩
    | false => exact iteF ⟨g', m, at1, q⟩
theorem a_nil : PAc X C ρ [] (lsM []) := pa_imp pa_nil fun σ H Q q => by
  obtain ⟨g, m, at0, q⟩ := q
  exact q.ret at0.rel .nil
theorem a_cons {e : Expr} {es : List Expr} {c : M D} {cs : List (M D)} (ha : PEc X C ρ e c) (hr : PAc X C ρ es (lsM cs)) (hs : starEach (e :: es) X.env = (false, eval e X.env) :: starEach es X.env := by rfl) : PAc X C ρ (e :: es) (lsM (c :: cs)) :=
  pa_imp (pa_cons ha hr hs) fun σ H Q q => by
    refine tG.bind q fun g1 H1 m1 v1 x1 at1 hv1 q1 => ?_
    refine ⟨g1, m1, at1, Post.bind q1 fun g2 H2 m2 v2 x2 p t rel2 hv2 q2 => ?_⟩
    exact q2.ret rel2 (.cons (hv1.mono p.v t) hv2)
theorem c_tup {es : List Expr} {cs : M (List D)} {x1 : Nat} {pos : Pos} (h : PAc X C ρ es cs) : PEc X C ρ (.Tuple es x1 pos) (tupM cs) :=
  pe_imp (pe_tup h) fun σ H Q q => by
    refine tG.bind q fun g1 H1 m1 v1 x1 at1 hv1 q1 => ?_
    obtain ⟨hz, q1⟩ := Post.ite q1
    exact ⟨by rw [hv1.length]; exact hz, fun p hp => q1.newT at1.rel hv1 hp⟩
theorem c_lst {es : List Expr} {cs : M (List D)} {pos : Pos} (h : PAc X C ρ es cs) : PEc X C ρ (.List es pos) (lstM cs) :=
  pe_imp (pe_lst h) fun σ H Q q => by
    refine tG.bind q fun g1 H1 m1 v1 x1 at1 hv1 q1 => ?_
    obtain ⟨hz, q1⟩ := Post.ite q1
    exact ⟨by rw [hv1.length]; exact hz, fun p hp => q1.newL at1.rel hv1 hp⟩
theorem c_lsh {es : List Expr} {cs : M (List D)} {pos : Pos} (h : PAc X C ρ es cs) : PEc X C ρ (.List es pos) (lshM cs) :=
  pe_imp (pe_lst h) fun σ H Q q => by
    refine tG.bind q fun g1 H1 m1 v1 x1 at1 hv1 q1 => ?_
    obtain ⟨hz, q1⟩ := Post.ite q1
    exact ⟨by rw [hv1.length]; exact hz, fun p hp => Post.newH q1 at1.rel hv1 hp⟩
theorem atI_ok {g : Gh} {H : Hp} {K : PySem.W.Frag} {xs : List V} {ds : List D} {i : Int} {d : D} (r : RepL K g H xs ds) (h : atD ds i = some d) : ∃ v, atI xs i = some v ∧ Rep K g H v d := by
  unfold atI
  unfold atD at h
  have e : ixN xs.length i = ixD ds.length i := by rw [r.length]; rfl
  rw [e]
  cases hj : ixD ds.length i with
  | none => rw [hj] at h; cases h
  | some j =>
    rw [hj] at h
    exact r.get h
theorem sv_idx : Serves X cls (rIx X.K) idxS := by
  intro W σ g H m vx vy x y Q rel hx hy q
  cases hy with
  | int i =>
    obtain ⟨ds, hd, q⟩ := Post.ask q
    obtain ⟨d, hat, q⟩ := Post.opt q
    obtain ⟨a, xs, rfl, hs, r⟩ := rep_seq rel hx hd
    obtain ⟨v, h1, h2⟩ := atI_ok r hat
    rcases hs with hs | hs
    · exact .inl ⟨a, xs, i, v, rfl, rfl, hs, h1, q.ret rel h2⟩
    · exact .inr (.inl ⟨a, xs, i, v, rfl, rfl, hs, h1, q.ret rel h2⟩)
  | _ => exact q.elim
theorem c_idx {e1 e2 : Expr} {a b : M D} {pos : Pos} (ha : PEc X C ρ e1 a) (hb : PEc X C ρ e2 b) (hs : PlainIx e2 := by exact fun _ _ => rfl) : PEc X C ρ (.Subscript e1 e2 pos) (idxM a b) :=
  pe_imp (pe_ix ix_seq ha hb hs) fun σ H Q q => two sv_idx q
theorem At.own {Γ : Cst} {C : Cc} {σ : L2.St} {H : Hp} {g : Gh} {m : Hs} {i : Nat} {xs : List D} (a : At Γ C ρ σ H g m) (h : ρ[i]? = some (.own xs)) : ∃ p vs, σ[i]? = some (some (.ref p)) ∧ (p, HO.lst vs) ∈ g.pv ∧ H p = some (.lst vs) ∧ RepL Γ.K g H vs xs ∧ ∀ u, (p, u) ∉ C.gB.pv := by
  obtain ⟨p, vs, h1, h2, h3, h4⟩ := a.rs.own i xs h
  exact ⟨p, vs, h1, h2, a.rel.prv _ _ h2, h3, h4⟩
theorem c_idxO {e1 e2 : Expr} {i : Nat} {xs : List D} {b : M D} {pos : Pos} (h : PE X e1 (tVar i)) (hi : ρ[i]? = some (.own xs)) (hb : PEc X C ρ e2 b) (hs : PlainIx e2 := by exact fun _ _ => rfl) : PEc X C ρ (.Subscript e1 e2 pos) (idxL xs b) :=
  pe_imp (pe_ix ix_seq h hb hs) fun σ H Q q => by
    obtain ⟨g, m, at0, q⟩ := q
    obtain ⟨p, vs, h1, h2, h3, h4, h5⟩ := at0.own hi
    refine ⟨_, h1, g, m, at0, Post.bind q fun g2 H2 m2 v2 x2 p2 t2 rel2 hv2 q2 => ?_⟩
    have at2 := at0.mono p2 t2 rel2
    cases hv2 with
    | int k =>
      obtain ⟨d, hat, q2⟩ := Post.opt q2
      obtain ⟨v, h6, h7⟩ := atI_ok (h4.mono p2.v t2) hat
      exact .inl ⟨p, vs, k, v, rfl, rfl, SqL.of (rel2.prv _ _ (p2.pv _ h2)), h6, q2.ret rel2 h7⟩
    | _ => exact q2.elim
abbrev POc (X : Cx) (C : Cc) (ρ : List Sl) (e : Option Expr) (t : M (Option Int)) : Prop := PO X e (fun σ H Q => tG ⟨X.K, C.cls⟩ C ρ (fun _ _ (v : Option Int) (o : Option Int) => v = o) t σ H Q)
theorem po_imp {X : Cx} {e : Option Expr} {t t' : TO} (h : PO X e t) (k : ∀ σ H Q, t' σ H Q → t σ H Q) : PO X e t' := ⟨fun pins s σ H Q I q => h.run pins s σ H Q I (k σ H Q q)⟩
theorem o_none : POc X C ρ none noP := po_imp po_none fun σ H Q q => by
  obtain ⟨g, m, at0, q⟩ := q
  exact q.ret at0.rel rfl
theorem o_some {e : Expr} {c : M D} (h : PEc X C ρ e c) : POc X C ρ (some e) (soP c) := po_imp (po_some h) fun σ H Q q => by
  refine tG.bind q fun g1 H1 m1 v1 x1 at1 hv1 q1 => ?_
  cases hv1 with
  | int i => exact ⟨i, rfl, q1.ret at1.rel rfl⟩
  | _ => exact q1.elim
theorem sIx_eq (n d : Nat) (o : Option Int) : sIxD n d o = HT.sIx n d o := by
  cases o <;> rfl
theorem cut_ok {g : Gh} {H : Hp} {K : PySem.W.Frag} {xs : List V} {ds : List D} (r : RepL K g H xs ds) (lo hi : Option Int) : RepL K g H (cutV xs lo hi) (cutD ds lo hi) := by
  unfold cutV cutD
  rw [sIx_eq, sIx_eq, ← r.length]
  exact (r.drop _).take _
theorem cut_all {ds : List D} {lo hi : Option Int} (h : sIxD ds.length 0 lo = 0 ∧ sIxD ds.length ds.length hi = ds.length) : cutD ds lo hi = ds := by
  unfold cutD
  rw [h.1, h.2]
  simp
def rSlc (K : PySem.W.Frag) : V → Option Int → Option Int → Hp → VK → Prop := fun x lo hi H Q => rSlA K x lo hi H Q ∨ rSlL K x lo hi H Q
theorem sl_any : SlR X (rSlc X.K) := sl_tupA.or sl_list
theorem slc_ok {W : WX} {g : Gh} {H : Hp} {m : Hs} {v : V} {x : D} {lo hi : Option Int} {Q : VK} {σ : L2.St} (rel : Rel ⟨X.K, cls⟩ g m H) (hx : Rep X.K g H v x) (q : Post ⟨X.K, cls⟩ W (rD ⟨X.K, cls⟩) σ g H Q (slcS x lo hi m)) : rSlc X.K v lo hi H Q := by
  have hx' := hx
  cases hx with
  | @tup a xs ds h r =>
    refine .inl ⟨a, xs, rfl, h, fun e => ?_, fun e p hp => ?_⟩
    · have e' : cutD ds lo hi = ds := cut_all (by rw [sIx_eq, sIx_eq, ← r.length]; exact e)
      simp only [slcS, e'] at q
      exact q.ret rel (.tup h r)
    · exact q.newT rel (cut_ok r lo hi) hp
  | _ =>
    obtain ⟨ds, hd, q⟩ := Post.ask q
    obtain ⟨a, xs, e, h1, h2⟩ := rep_lst rel hx' hd
    exact .inr ⟨a, xs, e, SqL.of h1, fun p hp => q.newL rel (cut_ok h2 lo hi) hp⟩
theorem c_slc {e : Expr} {lo hi : Option Expr} {a : M D} {l u : M (Option Int)} {p2 pos : Pos} (ha : PEc X C ρ e a) (hl : POc X C ρ lo l) (hu : POc X C ρ hi u) : PEc X C ρ (.Subscript e (.Slice lo hi none p2) pos) (slcM a l u) :=
  pe_imp (pe_slice sl_any ha hl hu) fun σ H Q q => by
    refine tG.bind q fun g1 H1 m1 v1 x1 at1 hv1 q1 => ?_
    refine ⟨g1, m1, at1, Post.bind q1 fun g2 H2 m2 v2 x2 p t rel2 hv2 q2 => ?_⟩
    refine ⟨g2, m2, at1.mono p t rel2, Post.bind q2 fun g3 H3 m3 v3 x3 p3 t3 rel3 hv3 q3 => ?_⟩
    subst hv2
    subst hv3
    exact slc_ok rel3 ((hv1.mono p.v t).mono p3.v t3) q3
end
end G
namespace G
open PySem L2 PySem.Spec PyProof.Rows
def Clr (gu : Bool) (A : Around) : Prop := gu = true → A.guards = some []
structure FnG (gu : Bool) (P : Program) (w : World) (K : PySem.W.Frag) (mg : Str → Option Value) (base : Heap) (CX : CXT) (k : Nat) (f : Addr) (fd : FuncData) (ps : List Str) (sp : Sp) : Prop where
  len : ∀ xs H0 R E0, sp xs H0 R E0 → xs.length = ps.length
  run : ∀ (B : Around) (out : List Env) (t : Shared) (H0 : Hp) (ar : Args) (ws : List Value) (xs : List V) (R : VK) (E0 : XK), Room k B → Clr gu B → Env0 P w K mg base B out t H0 → BindsTo t fd ar (ps.zip ws) → Vals xs ws → sp xs H0 R E0 →
    codeAny (model P w) B (.call (.ref f) ar) (CR CX out P w H0 t R E0) t
theorem FnG.mono {P : Program} {w : World} {K : PySem.W.Frag} {mg : Str → Option Value} {base : Heap} {CX : CXT} {i j : Nat} {f : Addr} {fd : FuncData} {ps : List Str} {sp : Sp} (F : FnG gu P w K mg base CX i f fd ps sp) (le : i ≤ j) : FnG gu P w K mg base CX j f fd ps sp :=
  ⟨F.len, fun B out t H0 ar ws xs R E0 rm => F.run B out t H0 ar ws xs R E0 (rm.mono le)⟩
theorem fnG_of {CX : CXT} {P : Program} {w : World} {K : PySem.W.Frag} {mg : Str → Option Value} {base : Heap} {k : Nat} {f : Addr} {nm ql : Str} {pr : Arguments} {bd : List Stmt} {sc : Scope} {v1 v2 v3 v4 v5 v6 v7 : Value} {an od : Option Addr}
    {sl : Array (Option Value)} {N ps : List Str} {sp : Sp} (look : K.lookup f = some ⟨v7, od, .func (PySem.W.fnOf nm ql pr bd sc v1 v2 v3 v4 an v5 v6), sl⟩) (code : PySem.W.codeIn K v5 ql = true) (S : FnScope N ps sc)
    (len : ∀ xs H0 R E0, sp xs H0 R E0 → xs.length = ps.length)
    (body : ∀ (B : Around) (out : List Env) (t : Shared) (H0 : Hp) (xs : List V) (R : VK) (E0 : XK), Room k (B.deeper (envOfC ql sc t.heap.objs.size f v5)) → Clr gu B → sp xs H0 R E0 →
      ∃ tt, PSs (cxOf CX P w K mg base N ql sc f v5 B out t H0 E0) bd tt ∧ tt { nx := fun _ H9 => R .non H9, rt := R } (start N xs) H0) :
    FnG gu P w K mg base CX (k + 1) f (PySem.W.fnOf nm ql pr bd sc v1 v2 v3 v4 an v5 v6) ps sp := by
  refine ⟨len, fun B out t H0 ar ws xs R E0 rm cl env0 bnd vals hs => ?_⟩
  have inK : K.In t.heap := env0.mod.kin.keeps fun i o e => (env0.bs i o e).1
  have nl : t.heap.NoLimit := env0.mod.nolimit.keeps fun i o e => (env0.bs i o e).1
  have kinds : ∀ y ∈ ps.zip ws, sc.names.lookup y.1 = some .local ∨ (sc.names.lookup y.1 = some .cell ∧ ((cellsFrom (t.heap.objs.size + 1) sc.names []).lookup y.1).isSome = true) := by
    rintro ⟨n, v⟩ hy
    rcases S.par n (List.of_mem_zip hy).1 with q | q
    · exact .inl q
    · exact .inr ⟨q, PySem.W.cellsFrom_some _ _ _ (.inl q)⟩
  refine codeAny_call_function rm.depth (inK _ _ look) rfl S.co S.gen rfl (PySem.W.codeRec_of inK code) (bnd _ _ _ _ ?_)
  refine wpAny_newFunctionEnv_cells S.kind kinds fun env he t1 x => ?_
  subst he
  refine ⟨nl.keeps x.toInCall.keep, codeAny_func ?_⟩
  obtain ⟨tt, h1, h2⟩ := body B out t H0 xs R E0 (rm.deeper _) cl hs
  have I : Inv (cxOf CX P w K mg base N ql sc f v5 B out t H0 E0) [] (start N xs) H0 t1 := inv_start S rm.hd env0 (len _ _ _ _ hs) vals x
  refine wpAny_mono (h1.run [] t1 (start N xs) H0 _ I h2) (fun fl t2 hz => ?_) fun e t2 hz => hz
  cases fl with
  | ret u =>
    obtain ⟨v, σ9, H9, J, rv, q⟩ := hz
    exact ⟨v, H9, J.os, J.bare, J.base, J.hok, rv, q⟩
  | next =>
    obtain ⟨σ9, H9, J, q⟩ := hz
    exact ⟨V.non, H9, J.os, J.bare, J.base, J.hok, rfl, q⟩
  | brk =>
    obtain ⟨_, _, _, q⟩ := hz
    exact q.elim
  | cont =>
    obtain ⟨_, _, _, q⟩ := hz
    exact q.elim
section
variable {X : Cx} {CX : CXT} {k : Nat} {f : Addr} {fd : FuncData} {ps : List Str} {sp : Sp} {E0 : L2.St → XK} {x : Str} {p pos : Pos} {e : Expr} {es : List Expr} {t : TA}
theorem runG {pn : List (Addr × Obj)} {σ : L2.St} {H0 : Hp} {t0 : Shared} {R : VK} {ws : List Value} {xs : List V} (F : FnG gu X.prog X.w X.K X.mg X.base CX k f fd ps sp) (rm : Room k X.A) (cl : Clr gu X.A) (bd : Binds X.K fd ps []) (ps' : PassesAt CX X σ (E0 σ))
    (I : Inv X pn σ H0 t0) (vals : Vals xs ws) (hs : sp xs H0 R (E0 σ)) : wpAny (model X.prog X.w) X.A (call (.ref f) ws) (EP X pn σ R) X.xe t0 := by
  have hw : ws.length = ps.length := by
    rw [← vals.length]
    exact F.len _ _ _ _ hs
  have b := bd t0 ws I.kIn (by rw [List.append_nil]; exact hw)
  rw [List.append_nil] at b
  have run := F.run X.A X.stack t0 H0 ⟨ws, []⟩ ws xs R (E0 σ) rm cl I.env0 b vals hs
  refine wpAny_call (codeAny_mono run fun res t1 hz => ?_)
  match res, hz with
  | .error e, hz => exact ps' pn H0 t0 e t1 I hz
  | .ok (.ret u), hz => exact I.after hz
  | .ok .next, hz => exact hz.elim
  | .ok .brk, hz => exact hz.elim
  | .ok .cont, hz => exact hz.elim
theorem pe_callG (F : FnG gu X.prog X.w X.K X.mg X.base CX k f fd ps sp) (rm : Room k X.A) (cl : Clr gu X.A) (gl : Gl X x) (mgx : X.mg x = some (.ref f)) (kp : PySem.W.keepIn X.K (.ref f) = true) (bd : Binds X.K fd ps []) (ps' : ∀ σ, PassesAt CX X σ (E0 σ))
    (ha : PA X (e :: es) t) (hdb : (x == ("__debug__" : Str)) = false := by decide) (he : starEach (e :: es) X.env = (false, eval e X.env) :: starEach es X.env := by rfl) (hpl : (backTo pos (starEach es X.env)).any (·.1) = false := by rfl) :
    PE X (.Call (.Name x p) (e :: es) [] pos) (tCallS sp E0 t) := by
  refine ⟨fun pn t0 σ H0 R I hq => wpAny_Call_Name_kw (ld_glob I gl mgx ?_ hdb)⟩
  refine PySem.W.callWith_K (h₀ := X.base) I.ok.mod.kin kp (thn (ha.run pos pn t0 σ H0 _ I hq) ?_) he hpl
  rintro ws t1 ⟨xs, H1, I1, vals, q⟩
  exact ⟨I1.kIn, runG F rm cl bd (ps' σ) I1 vals q⟩
end
def spM (Γ : Cst) (f : List D → M D) : Sp := fun vs H Q E => ∃ g m ds, Rel Γ g m H ∧ RepL Γ.K g H vs ds ∧ Post Γ (fun c d _ H' => E c d H') (rD Γ) [] g H Q (f ds m)
def IsFn (gu : Bool) (P : Program) (w : World) (K : PySem.W.Frag) (mg : Str → Option Value) (base : Heap) (cls : Cl) (k : Nat) (x : Str) (f : List D → M D) : Prop :=
  ∃ (a : Addr) (fd : FuncData) (ps : List Str), mg x = some (.ref a) ∧ PySem.W.keepIn K (.ref a) = true ∧ Binds K fd ps [] ∧ FnG gu P w K mg base (L2.CX P w) k a fd ps (spM ⟨K, cls⟩ f)
theorem IsFn.mono {P : Program} {w : World} {K : PySem.W.Frag} {mg : Str → Option Value} {base : Heap} {cls : Cl} {k j : Nat} {x : Str} {f : List D → M D} (h : IsFn gu P w K mg base cls k x f) (le : k ≤ j) : IsFn gu P w K mg base cls j x f := by
  obtain ⟨a, fd, ps, h1, h2, h3, F⟩ := h
  exact ⟨a, fd, ps, h1, h2, h3, F.mono le⟩
section
variable {X : Cx} {C : Cc} {ρ : List Sl} {k : Nat}
theorem Post.wish {Γ : Cst} {W : WX} {σ : L2.St} {g : Gh} {H : Hp} {Q : VK} {r : Rs D} (q : Post Γ W (rD Γ) σ g H Q r) : Post Γ (fun c d _ H' => WE W σ c d H') (rD Γ) [] g H Q r := by
  cases r with
  | ok x m => exact q
  | ex c fs m => exact q
  | bad => exact q
theorem c_call {x : Str} {f : List D → M D} {e : Expr} {es : List Expr} {cs : M (List D)} {p pos : Pos} (h : IsFn gu X.prog X.w X.K X.mg X.base C.cls k x f) (hr : Room k X.A) (cl : Clr gu X.A) (tk : Takes X C.W) (hg : Gl X x) (ha : PAc X C ρ (e :: es) cs)
    (hdb : (x == ("__debug__" : Str)) = false := by decide) (he : starEach (e :: es) X.env = (false, eval e X.env) :: starEach es X.env := by rfl) (hpl : (backTo pos (starEach es X.env)).any (·.1) = false := by rfl) : PEc X C ρ (.Call (.Name x p) (e :: es) [] pos) (calM f cs) := by
  obtain ⟨a, fd, ps, h1, h2, h3, F⟩ := h
  refine pe_imp (pe_callG F hr cl hg h1 h2 h3 (fun σ => passAt tk σ) ha hdb he hpl) fun σ H Q q => ?_
  refine tG.bind q fun g1 H1 m1 v1 x1 at1 hv1 q1 => ?_
  exact ⟨g1, m1, x1, at1.rel, hv1, q1.wish⟩
end
end G
set_option maxHeartbeats 2000000
namespace G
open PySem L2 PySem.Spec PyProof.Rows
open AutoSeq1 (wpAny_loadPart')
theorem meets_enumT (l : Addr) (items : Array Value) (n : Nat) (dct : Option Addr) (sl : Array (Option Value)) :
    Meets (Builtin.«enumerate.__new__» ⟨[.type "enumerate", .ref l], []⟩) (fun _ R s => s.heap.get? l = some { cls := .type "tuple", dict := dct, data := .seq items n, slots := sl } ∧
      R (.ok (.ret (.ref (s.heap.push { cls := .type "tuple_iterator", data := .fields #[.ref l, .int 0 0] }).objs.size)))
        { s with heap := (s.heap.push { cls := .type "tuple_iterator", data := .fields #[.ref l, .int 0 0] }).push { cls := .type "enumerate", data := .fields #[.none, .bool false, .ref s.heap.objs.size, rawInt 0, .none, .none] } }) :=
  .of_wp fun prog w A R s h => by
    obtain ⟨hp, g, d, tk, os⟩ := s; obtain ⟨hl, h⟩ := h
    have hsub := sub_enumerate
    have hL : Heap.IsTuple (Shared.heap ⟨hp, g, d, tk, os⟩) l items := ⟨_, hl, rfl, n, rfl⟩
    wp_walk using wpAny_loadPart' hl
    refine wpAny_stack_any fun st => wpAny_pure ?_
    split
    · rename_i c _ _ _ _ _
      cases (c == Value.type "enumerate")
      · wp_walk using wpAny_loadPart' hl, wpAny_pyIter_tuple hL
        exact ⟨_, rfl, h⟩
      · wp_walk using wpAny_loadPart' hl, wpAny_pyIter_tuple hL
        exact ⟨_, rfl, h⟩
    · wp_walk using wpAny_loadPart' hl, wpAny_pyIter_tuple hL
      exact ⟨_, rfl, h⟩
section
variable {prog : Program} {w : World} {A : Around} {E : Value → Shared → Prop} {s : Shared}
theorem call_enumerate_tuple {l : Addr} {items : Array Value} {Q : Value → Shared → Prop} (hL : s.heap.IsTuple l items)
    (h : ∀ h', IsEnum h' (s.heap.objs.size + 1) s.heap.objs.size 0 .none → h'.IsTupleIter s.heap.objs.size l 0 → h'.objs.size = s.heap.objs.size + 2 →
      (∀ b o, s.heap.get? b = some o → h'.get? b = some o) → Q (.ref (s.heap.objs.size + 1)) { s with heap := h' }) :
    wpAny (model prog w) A (PySem.call (.type "enumerate") [.ref l]) Q E s := by
  obtain ⟨⟨c, dct, dt, sl⟩, hl, hc, n, hd⟩ := hL
  replace hc : c = .type "tuple" := hc
  replace hd : dt = .seq items n := hd
  subst hc hd
  refine callType_new F.called_enumerate (by decide) (F.typeCall_enumerate_1 _) (F.newCall_enumerate_1 _) (fun obj => F.args_object_init_2 obj _) F.entry_enumerate_new
    (meets_enumT l items n dct sl) ⟨hl, ?_⟩
  have hz : (s.heap.push { cls := .type "tuple_iterator", data := .fields #[.ref l, .int 0 0] }).objs.size = s.heap.objs.size + 1 := Heap.size_push ..
  show _ ∧ _
  rw [hz]
  have he : IsEnum ((s.heap.push { cls := .type "tuple_iterator", data := .fields #[.ref l, .int 0 0] }).push
      { cls := .type "enumerate", data := .fields #[.none, .bool false, .ref s.heap.objs.size, rawInt 0, .none, .none] }) (s.heap.objs.size + 1) s.heap.objs.size 0 .none := by
    have := Heap.get?_push_size (s.heap.push { cls := .type "tuple_iterator", data := .fields #[.ref l, .int 0 0] })
      (o := { cls := .type "enumerate", data := .fields #[.none, .bool false, .ref s.heap.objs.size, rawInt 0, .none, .none] }) rfl
    rw [hz] at this; exact this
  refine ⟨⟨_, he, rfl⟩, h _ he ⟨_, Heap.get?_push_of_some _ (Heap.get?_push_size _ rfl), rfl, rfl⟩ (by rw [Heap.size_push, hz]) fun b o x => Heap.get?_push_of_some _ (Heap.get?_push_of_some _ x)⟩
end
section
variable {prog : Program} {w : World} {A : Around} {E : Value → Shared → Prop} {s : Shared}
theorem wpAny_pyNext_enum_endT {e it l : Addr} {i : Nat} {c : Int} {items : Array Value} {old : Value} {Q : Option Value → Shared → Prop} (hh : A.handled = none)
    (he : IsEnum s.heap e it c old) (hit : s.heap.IsTupleIter it l i) (hl : s.heap.IsTuple l items) (hx : items[i]? = none)
    (hQ : ∀ h', Heap.ExtBut it s.heap h' → Q none { s with heap := h' }) : wpAny (model prog w) A (pyNext (.ref e)) Q E s := by
  have hT : s.TypeIs (.ref e) "enumerate" := ⟨_, he, rfl⟩
  unfold pyNext
  refine wpAny_bind (wpAny_attempt (wpAny_callSpecial?_slot (name := Str.ofString "__next__") hT F.slot_enumerate_next
    (wpAny_call_entry F.slot_enumerate_next hT F.entry_enumerate_next ?_ (F.args_enumerate_next_1 _))))
  show wpAny _ _ (field (.ref e) 2 >>= _) _ _ _
  refine wpAny_bind (wpAny_field he rfl (x := .ref it) rfl ?_)
  refine wpAny_bind (wpAny_nextOf_tuple_end hh hit hl hx fun h' x he' hx' => ?_)
  obtain ⟨o, ho, hc⟩ := hx'
  refine wpAny_bind (wpAny_isInstance (T := "StopIteration") (b := true) ⟨o, ho, hc⟩ isSubtype_stop ?_)
  exact wpAny_pure (hQ _ he')
theorem wpAny_pyNext_enum_endL {e it l : Addr} {i : Nat} {c : Int} {items : Array Value} {old : Value} {Q : Option Value → Shared → Prop} (hh : A.handled = none)
    (he : IsEnum s.heap e it c old) (hit : s.heap.IsListIter it l i) (hl : s.heap.IsList l items) (hx : items[i]? = none)
    (hQ : ∀ h', Heap.ExtBut it s.heap h' → Q none { s with heap := h' }) : wpAny (model prog w) A (pyNext (.ref e)) Q E s := by
  have hT : s.TypeIs (.ref e) "enumerate" := ⟨_, he, rfl⟩
  unfold pyNext
  refine wpAny_bind (wpAny_attempt (wpAny_callSpecial?_slot (name := Str.ofString "__next__") hT F.slot_enumerate_next
    (wpAny_call_entry F.slot_enumerate_next hT F.entry_enumerate_next ?_ (F.args_enumerate_next_1 _))))
  show wpAny _ _ (field (.ref e) 2 >>= _) _ _ _
  refine wpAny_bind (wpAny_field he rfl (x := .ref it) rfl ?_)
  refine wpAny_bind (wpAny_nextOf_list_end hh hit hl hx fun h' x he' hx' => ?_)
  obtain ⟨o, ho, hc⟩ := hx'
  refine wpAny_bind (wpAny_isInstance (T := "StopIteration") (b := true) ⟨o, ho, hc⟩ isSubtype_stop ?_)
  exact wpAny_pure (hQ _ he')
end
def ItE (sq : Hp → List V → Prop) (k : Int) : It :=
  ⟨fun i H => ∃ xs x, sq H xs ∧ xs[i]? = some x, fun i H v H' => ∃ T x, v = .ref T ∧ H T = none ∧ H' = upd H T (.tup [.int (k + i), x]) ∧ ∀ xs, sq H xs → xs[i]? = some x, fun i H => ∃ xs, sq H xs ∧ xs.length ≤ i⟩
section
variable {P : Program} {w : World} {K : PySem.W.Frag} {elts : List Expr} {kk : Nat} {tpos : Pos}
theorem turn_enumT (a e it : Addr) (k : Int) :
    Turn P w K (.Tuple elts kk tpos) (ItE (fun H xs => SqT K H a xs) k) [e, it] e (fun i h => (∃ old, IsEnum h e it (k + ((i : Nat) : Int)) old) ∧ h.IsTupleIter it a i ∧ e ≠ it ∧ a ≠ it ∧ a ≠ e) where
  mem := by simp
  obj := fun i h st b hb => by
    obtain ⟨⟨old, he⟩, ⟨o, ho, hc, hd⟩, _⟩ := st
    have e' : b = e ∨ b = it := by simpa using hb
    rcases e' with z | z
    · rw [z]; exact ⟨_, he, fun v q => nomatch q⟩
    · rw [z]; exact ⟨o, ho, fun v q => by rw [hd] at q; cases q⟩
  keep := fun i h h' st kp => let ⟨⟨old, he⟩, hi, hne⟩ := st; ⟨⟨old, kp e (by simp) _ he⟩, hi.at fun o q => kp it (by simp) o q, hne⟩
  item := by
    intro X hP hw hK hc i pins s σ H E I hf st hg
    subst hP hw hK
    obtain ⟨⟨old, he⟩, hit, hne, hai, hae⟩ := st
    obtain ⟨xs, x, hq, hx⟩ := hg
    obtain ⟨its, rv, p, hz⟩ := I.tuple hq
    obtain ⟨u, hu, ru⟩ := rv.get hx
    have hel : e < s.heap.objs.size := Heap.lt_size he
    have hil : it < s.heap.objs.size := by obtain ⟨_, q, _⟩ := hit; exact Heap.lt_size q
    have hlt : i < its.toArray.size := by
      rw [List.size_toArray]
      exact (List.getElem?_eq_some_iff.mp hu).1
    refine wpAny_pyNext_enum_itemC (Draws.tuple (prog := X.prog) (w := X.w) (A := X.A.in1) (show X.A.in1.handled = none from I.ok.hd hc) it a hai its.toArray) he ⟨hit, p⟩ hlt hne (fun z => (List.mem_cons.mp z).elim hne fun z => hae (List.mem_singleton.mp z).symm) fun x2 h' tk hP ho hs' hT hsz hk => ?_
    have hx2 : x2 = u := by
      have q : its.toArray[i]? = some u := by simpa using hu
      rw [hP] at q
      exact Option.some.inj q
    subst hx2
    refine ⟨_, rfl, wpAny_letOwnedTupleGo_enum (s := { s with heap := h', toks := tk + 1 }) ho fun h'' he' sb => ?_⟩
    have hT2 : h''.get? s.heap.objs.size = some { cls := .type "tuple", data := .seq #[.int (k + ((i : Nat) : Int)) tk, x2] } := (sb.2 _ (Nat.ne_of_gt hel)).trans hT
    have new : ObjOk X.prog X.w (upd H s.heap.objs.size (.tup [.int (k + ((i : Nat) : Int)), x])) h'' s.heap.objs.size (.tup [.int (k + ((i : Nat) : Int)), x]) :=
      ⟨by show 2 ≤ sizeLine; decide, [.int (k + ((i : Nat) : Int)) tk, x2], .cons ⟨_, rfl⟩ (.cons ru .nil), ⟨_, hT2, rfl, _, rfl⟩⟩
    have I1 : Inv X pins σ (upd H s.heap.objs.size (.tup [.int (k + ((i : Nat) : Int)), x])) { s with heap := h'', toks := tk + 1 } :=
      I.turnedNew (ch := [e, it]) (fun b ob hb q => (sb.2 b (fun z => hb (by simp [z]))).trans (hk b ob (fun z => hb (by simp [z])) (fun z => hb (by simp [z])) q)) hf (Nat.le_refl _) new
    refine ⟨.ref s.heap.objs.size, _, I1, rfl, ⟨_, x, rfl, I.hok.fresh (Nat.le_refl _), rfl, fun ys hy => by rw [I.tuple_inj hy hq]; exact hx⟩, ⟨⟨x2, ?_⟩, hs'.1.at fun o q => (sb.2 it (Ne.symm hne)).trans q, hne, hai, hae⟩, fun b hb => ?_⟩
    · have e1 : k + ((i + 1 : Nat) : Int) = k + (i : Int) + 1 := by omega
      rw [e1]; exact he'
    · have hb' : b < s.heap.objs.size := by
        have e' : b = e ∨ b = it := by simpa using hb
        rcases e' with z | z
        · rw [z]; exact hel
        · rw [z]; exact hil
      rw [upd_ne (Nat.ne_of_lt hb')]
      exact (hf b hb).1
  done := by
    intro X hP hw hK hc i pins s σ H E I hf st hg
    subst hP hw hK
    obtain ⟨⟨old, he⟩, hit, hne, hai, hae⟩ := st
    obtain ⟨xs, hq, hx⟩ := hg
    obtain ⟨its, rv, p, hz⟩ := I.tuple hq
    obtain ⟨f0, f1, f2, f3, f4, f5⟩ := hf it (by simp)
    have hl := rv.length
    exact wpAny_pyNext_enum_endT (i := i) (I.ok.hd hc) he hit p (by simp; omega) fun h' eb => ⟨rfl, I.turned (t' := s.toks) (fun b o hb q => eb b o hb q) f0 f1 f3 f4 f5⟩
  self := fun A i s Q E st h => let ⟨⟨_, he⟩, _⟩ := st; wpAny_pyIter_enum he h
theorem turn_enumL (a e it : Addr) (k : Int) :
    Turn P w K (.Tuple elts kk tpos) (ItE (fun H xs => SqL K H a xs) k) [e, it] e (fun i h => (∃ old, IsEnum h e it (k + ((i : Nat) : Int)) old) ∧ h.IsListIter it a i ∧ e ≠ it ∧ a ≠ it ∧ a ≠ e) where
  mem := by simp
  obj := fun i h st b hb => by
    obtain ⟨⟨old, he⟩, ⟨o, ho, hc, hd⟩, _⟩ := st
    have e' : b = e ∨ b = it := by simpa using hb
    rcases e' with z | z
    · rw [z]; exact ⟨_, he, fun v q => nomatch q⟩
    · rw [z]; exact ⟨o, ho, fun v q => by rw [hd] at q; cases q⟩
  keep := fun i h h' st kp => let ⟨⟨old, he⟩, hi, hne⟩ := st; ⟨⟨old, kp e (by simp) _ he⟩, hi.at fun o q => kp it (by simp) o q, hne⟩
  item := by
    intro X hP hw hK hc i pins s σ H E I hf st hg
    subst hP hw hK
    obtain ⟨⟨old, he⟩, hit, hne, hai, hae⟩ := st
    obtain ⟨xs, x, hq, hx⟩ := hg
    obtain ⟨its, rv, p, hz⟩ := I.list hq
    obtain ⟨u, hu, ru⟩ := rv.get hx
    have hel : e < s.heap.objs.size := Heap.lt_size he
    have hil : it < s.heap.objs.size := by obtain ⟨_, q, _⟩ := hit; exact Heap.lt_size q
    have hlt : i < its.toArray.size := by
      rw [List.size_toArray]
      exact (List.getElem?_eq_some_iff.mp hu).1
    refine wpAny_pyNext_enum_itemC (Draws.list (prog := X.prog) (w := X.w) (A := X.A.in1) (show X.A.in1.handled = none from I.ok.hd hc) it a hai its.toArray) he ⟨hit, p.isList⟩ hlt hne (fun z => (List.mem_cons.mp z).elim hne fun z => hae (List.mem_singleton.mp z).symm) fun x2 h' tk hP ho hs' hT hsz hk => ?_
    have hx2 : x2 = u := by
      have q : its.toArray[i]? = some u := by simpa using hu
      rw [hP] at q
      exact Option.some.inj q
    subst hx2
    refine ⟨_, rfl, wpAny_letOwnedTupleGo_enum (s := { s with heap := h', toks := tk + 1 }) ho fun h'' he' sb => ?_⟩
    have hT2 : h''.get? s.heap.objs.size = some { cls := .type "tuple", data := .seq #[.int (k + ((i : Nat) : Int)) tk, x2] } := (sb.2 _ (Nat.ne_of_gt hel)).trans hT
    have new : ObjOk X.prog X.w (upd H s.heap.objs.size (.tup [.int (k + ((i : Nat) : Int)), x])) h'' s.heap.objs.size (.tup [.int (k + ((i : Nat) : Int)), x]) :=
      ⟨by show 2 ≤ sizeLine; decide, [.int (k + ((i : Nat) : Int)) tk, x2], .cons ⟨_, rfl⟩ (.cons ru .nil), ⟨_, hT2, rfl, _, rfl⟩⟩
    have I1 : Inv X pins σ (upd H s.heap.objs.size (.tup [.int (k + ((i : Nat) : Int)), x])) { s with heap := h'', toks := tk + 1 } :=
      I.turnedNew (ch := [e, it]) (fun b ob hb q => (sb.2 b (fun z => hb (by simp [z]))).trans (hk b ob (fun z => hb (by simp [z])) (fun z => hb (by simp [z])) q)) hf (Nat.le_refl _) new
    refine ⟨.ref s.heap.objs.size, _, I1, rfl, ⟨_, x, rfl, I.hok.fresh (Nat.le_refl _), rfl, fun ys hy => by rw [I.list_inj hy hq]; exact hx⟩, ⟨⟨x2, ?_⟩, hs'.1.at fun o q => (sb.2 it (Ne.symm hne)).trans q, hne, hai, hae⟩, fun b hb => ?_⟩
    · have e1 : k + ((i + 1 : Nat) : Int) = k + (i : Int) + 1 := by omega
      rw [e1]; exact he'
    · have hb' : b < s.heap.objs.size := by
        have e' : b = e ∨ b = it := by simpa using hb
        rcases e' with z | z
        · rw [z]; exact hel
        · rw [z]; exact hil
      rw [upd_ne (Nat.ne_of_lt hb')]
      exact (hf b hb).1
  done := by
    intro X hP hw hK hc i pins s σ H E I hf st hg
    subst hP hw hK
    obtain ⟨⟨old, he⟩, hit, hne, hai, hae⟩ := st
    obtain ⟨xs, hq, hx⟩ := hg
    obtain ⟨its, rv, p, hz⟩ := I.list hq
    obtain ⟨f0, f1, f2, f3, f4, f5⟩ := hf it (by simp)
    have hl := rv.length
    exact wpAny_pyNext_enum_endL (i := i) (I.ok.hd hc) he hit p.isList (by simp; omega) fun h' eb => ⟨rfl, I.turned (t' := s.toks) (fun b o hb q => eb b o hb q) f0 f1 f3 f4 f5⟩
  self := fun A i s Q E st h => let ⟨⟨_, he⟩, _⟩ := st; wpAny_pyIter_enum he h
theorem fp2 {X : Cx} {pins : List (Addr × Obj)} {σ : L2.St} {H : Hp} {s : Shared} (I : Inv X pins σ H s) : ∀ b ∈ [s.heap.objs.size + 1, s.heap.objs.size], FpOk X pins H b := fun b hb => by
  have e' : b = s.heap.objs.size + 1 ∨ b = s.heap.objs.size := by simpa using hb
  have hle : s.heap.objs.size ≤ b := by
    rcases e' with z | z
    · rw [z]; exact Nat.le_add_right _ _
    · rw [z]; exact Nat.le_refl _
  exact I.fpOk hle (I.hok.fresh hle)
def iEnA (K : PySem.W.Frag) (ta : TA) : TI := fun σ H R => ta σ H fun vs H1 => ∃ a xs, vs = [.ref a] ∧ ((SqL K H1 a xs ∧ R (ItE (fun H xs => SqL K H a xs) 0) H1) ∨ (SqT K H1 a xs ∧ R (ItE (fun H xs => SqT K H a xs) 0) H1))
theorem pi_enumA {X : Cx} {e : Expr} {ta : TA} {p pos tpos : Pos} {elts : List Expr} {kk : Nat} (hg : Gl X "enumerate") (hm : X.mg "enumerate" = none) (ha : PA X [e] ta) (hs : starEach [e] X.env = [(false, eval e X.env)] := by rfl) :
    PI X (.Tuple elts kk tpos) (.Call (.Name "enumerate" p) [e] [] pos) (iEnA X.K ta) := by
  refine ⟨fun pins s σ H R I h => ?_⟩
  refine Call_ (ld_blt I hg hm boot_enumerate (PyProof.Rows.callWith_type1 (thn (ha.run pos pins s σ H _ I h) fun us s1 ⟨vs, H1, I1, r1, q1⟩ => ?_) hs rfl))
  obtain ⟨a, xs, ex, q1⟩ := q1
  subst ex
  cases r1 with
  | cons r rr =>
    cases rr
    cases r
    rcases q1 with ⟨hq, q⟩ | ⟨hq, q⟩
    · obtain ⟨its, rv, p', hz⟩ := I1.list hq
      have ha : a < s1.heap.objs.size := by obtain ⟨o, ho, _⟩ := p'.isList; exact Heap.lt_size ho
      refine call_enumerate_list p'.isList fun h' he hit hsz hk => wpAny_pyIter_enum he ?_
      have I2 : Inv X pins σ H1 { s1 with heap := h' } := I1.kept (t' := s1.toks) hk
      exact ⟨s1.heap.objs.size + 1, [s1.heap.objs.size + 1, s1.heap.objs.size], _, _, H1, rfl, I2, turn_enumL a (s1.heap.objs.size + 1) s1.heap.objs.size 0, ⟨⟨.none, by simpa using he⟩, hit, Nat.succ_ne_self _, Nat.ne_of_lt ha, Nat.ne_of_lt (Nat.lt_succ_of_lt ha)⟩, fp2 I1, q⟩
    · obtain ⟨its, rv, p', hz⟩ := I1.tuple hq
      have ha : a < s1.heap.objs.size := p'.lt
      refine call_enumerate_tuple p' fun h' he hit hsz hk => wpAny_pyIter_enum he ?_
      have I2 : Inv X pins σ H1 { s1 with heap := h' } := I1.kept (t' := s1.toks) hk
      exact ⟨s1.heap.objs.size + 1, [s1.heap.objs.size + 1, s1.heap.objs.size], _, _, H1, rfl, I2, turn_enumT a (s1.heap.objs.size + 1) s1.heap.objs.size 0, ⟨⟨.none, by simpa using he⟩, hit, Nat.succ_ne_self _, Nat.ne_of_lt ha, Nat.ne_of_lt (Nat.lt_succ_of_lt ha)⟩, fp2 I1, q⟩
end
section
variable {X : Cx} {C : Cc} {ρ : List Sl} {cls : Cl}
theorem Lv0.trans {g g1 g2 : Gh} (a : Lv0 g g1) (b : Lv0 g1 g2) : Lv0 g g2 := ⟨a.hs.trans b.hs, fun p h => b.fz p (a.fz p h)⟩
def SameBut (is : List Nat) (σ σ' : L2.St) : Prop := σ'.length = σ.length ∧ ∀ i, i ∉ is → σ'[i]? = σ[i]?
theorem SameBut.refl (is : List Nat) (σ : L2.St) : SameBut is σ σ := ⟨rfl, fun _ _ => rfl⟩
theorem SameBut.trans {is js : List Nat} {σ σ1 σ2 : L2.St} (a : SameBut is σ σ1) (b : SameBut js σ1 σ2) : SameBut (is ++ js) σ σ2 :=
  ⟨b.1.trans a.1, fun i hi => (b.2 i fun z => hi (List.mem_append_right _ z)).trans (a.2 i fun z => hi (List.mem_append_left _ z))⟩
theorem SameBut.mono {is js : List Nat} {σ σ' : L2.St} (a : SameBut is σ σ') (h : ∀ i ∈ is, i ∈ js) : SameBut js σ σ' := ⟨a.1, fun i hi => a.2 i fun z => hi (h i z)⟩
theorem SameBut.set {i : Nat} {σ : L2.St} {o : Option V} : SameBut [i] σ (σ.set i o) := ⟨List.length_set, fun j hj => List.getElem?_set_ne (fun z => hj (by simp [z]))⟩
theorem wipe_len {σ : L2.St} : ∀ {is : List Nat}, (wipe σ is).length = σ.length
  | [] => rfl
  | i :: is => by
    show ((wipe σ is).set i none).length = _
    rw [List.length_set]
    exact wipe_len
theorem wipe_at {σ : L2.St} {j : Nat} : ∀ {is : List Nat}, j ∈ is → j < σ.length → (wipe σ is)[j]? = some none
  | i :: is, h, hl => by
    show ((wipe σ is).set i none)[j]? = _
    by_cases e : i = j
    · subst e
      rw [List.getElem?_set_self (by rw [wipe_len]; exact hl)]
    · rw [List.getElem?_set_ne e]
      refine wipe_at ?_ hl
      rcases List.mem_cons.mp h with z | z
      · exact absurd z.symm e
      · exact z
theorem wipe_eq {is : List Nat} {σ σ' : L2.St} (a : SameBut is σ σ') : wipe σ' is = wipe σ is := by
  apply List.ext_getElem?
  intro j
  by_cases hj : j ∈ is
  · by_cases hl : j < σ.length
    · rw [wipe_at hj hl, wipe_at hj (by rw [a.1]; exact hl)]
    · rw [List.getElem?_eq_none (by rw [wipe_len, a.1]; omega), List.getElem?_eq_none (by rw [wipe_len]; omega)]
  · rw [wipe_out hj, wipe_out hj]
    exact a.2 j hj
theorem wipe_wipe {is : List Nat} {σ : L2.St} : wipe (wipe σ is) is = wipe σ is := wipe_eq ⟨wipe_len, fun i hi => wipe_out hi⟩
abbrev Pt := List Sl → D → Option (List Sl)
def pNm (i : Nat) : Pt := fun ρ d => some (ρ.set i (.val d))
def pTs : List Pt → List Sl → List D → Option (List Sl)
  | [], ρ, [] => some ρ
  | P :: Ps, ρ, d :: ds => match P ρ d with
    | some ρ' => pTs Ps ρ' ds
    | none => none
  | _, _, _ => none
def pTp (Ps : List Pt) : Pt := fun ρ d => match d with
  | .tup ds => pTs Ps ρ ds
  | .fd [.non] ds => pTs Ps ρ ds
  | _ => none
def gPat (Γ : Cst) (C : Cc) (is : List Nat) (P : Pt) : TG := fun v σ H Q => ∃ g m ρ d ρ', At Γ C ρ σ H g m ∧ Rep Γ.K g H v d ∧ P ρ d = some ρ' ∧ ∀ σ', At Γ C ρ' σ' H g m → SameBut is σ σ' → Q σ' H
def gPats (Γ : Cst) (C : Cc) (is : List Nat) (Ps : List Pt) : TGs := fun vs σ H Q => ∃ g m ρ ds ρ', At Γ C ρ σ H g m ∧ RepL Γ.K g H vs ds ∧ pTs Ps ρ ds = some ρ' ∧ ∀ σ', At Γ C ρ' σ' H g m → SameBut is σ σ' → Q σ' H
abbrev PGc (X : Cx) (C : Cc) (e : Expr) (is : List Nat) (P : Pt) : Prop := PG X e (gPat ⟨X.K, C.cls⟩ C is P)
abbrev PGsc (X : Cx) (C : Cc) (es : List Expr) (is : List Nat) (Ps : List Pt) : Prop := PGs X es (gPats ⟨X.K, C.cls⟩ C is Ps)
theorem pg_imp {X : Cx} {e : Expr} {t t' : TG} (h : PG X e t) (k : ∀ v σ H Q, t' v σ H Q → t v σ H Q) : PG X e t' := ⟨fun pins s σ H v u Q I r q => h.run pins s σ H v u Q I r (k v σ H Q q)⟩
theorem pgs_imp {X : Cx} {e : List Expr} {t t' : TGs} (h : PGs X e t) (k : ∀ v σ H Q, t' v σ H Q → t v σ H Q) : PGs X e t' := ⟨fun pins s σ H v u Q I r q => h.run pins s σ H v u Q I r (k v σ H Q q)⟩
theorem At.set {Γ : Cst} {σ : L2.St} {H : Hp} {g : Gh} {m : Hs} {v : V} {d : D} (a : At Γ C ρ σ H g m) (hv : Rep Γ.K g H v d) (i : Nat) : At Γ C (ρ.set i (.val d)) (σ.set i (some v)) H g m := ⟨a.le, a.rel, a.rs.set hv i, a.tw⟩
theorem g_nm {e : Expr} {i : Nat} (h : PG X e (gName i)) : PGc X C e [i] (pNm i) := pg_imp h fun v σ H Q q => by
  obtain ⟨g, m, ρ, d, ρ', at0, hv, hb, q⟩ := q
  simp only [pNm, Option.some.injEq] at hb
  subst hb
  exact q _ (at0.set hv i) SameBut.set
theorem gs_nil : PGsc X C [] [] [] := pgs_imp pgs_nil fun v σ H Q q => by
  obtain ⟨g, m, ρ, d, ρ', at0, hv, hb, q⟩ := q
  cases hv with
  | nil =>
    simp only [pTs, Option.some.injEq] at hb
    subst hb
    exact ⟨rfl, q _ at0 (SameBut.refl _ _)⟩
  | cons _ _ => simp [pTs] at hb
theorem gs_cons {e : Expr} {es : List Expr} {is js : List Nat} {P : Pt} {Ps : List Pt} (h1 : PGc X C e is P) (h2 : PGsc X C es js Ps)
    (hs : (assignEach (e :: es) X.env).map (·.2) = assign e X.env :: (assignEach es X.env).map (·.2) := by rfl) : PGsc X C (e :: es) (is ++ js) (P :: Ps) := pgs_imp (pgs_cons h1 h2 hs) fun v σ H Q q => by
  obtain ⟨g, m, ρ, d, ρ', at0, hv, hb, q⟩ := q
  cases hv with
  | nil => simp [pTs] at hb
  | cons a b =>
    simp only [pTs] at hb
    split at hb
    · rename_i r1 h1
      refine ⟨_, _, rfl, g, m, ρ, _, r1, at0, a, h1, fun σ1 at1 s1 => ?_⟩
      exact ⟨g, m, r1, _, ρ', at1, b, hb, fun σ2 at2 s2 => q σ2 at2 (s1.trans s2)⟩
    · cases hb
theorem pTs_length : ∀ {Ps : List Pt} {ds : List D} {ρ ρ' : List Sl}, pTs Ps ρ ds = some ρ' → ds.length = Ps.length
  | [], [], _, _, _ => rfl
  | [], _ :: _, _, _, h => by simp [pTs] at h
  | _ :: _, [], _, _, h => by simp [pTs] at h
  | P :: Ps, x :: xs, ρ, ρ', h => by
    simp only [pTs] at h
    split at h
    · simp only [List.length_cons, pTs_length h]
    · cases h
theorem g_tp {es : List Expr} {n : Nat} {is : List Nat} {Ps : List Pt} {pos : Pos} (hc : X.calm = true) (h : PGsc X C es is Ps) (hn : (assignEach es X.env).length = Ps.length := by rfl) (hst : (assignEach es X.env).findIdx? (·.1) = none := by rfl) : PGc X C (.Tuple es n pos) is (pTp Ps) :=
  pg_imp (pg_tup hc h hn hst) fun v σ H Q q => by
    obtain ⟨g, m, ρ, d, ρ', at0, hv, hb, q⟩ := q
    simp only [pTp] at hb
    split at hb
    · obtain ⟨a, xs, rfl, h1, h2⟩ := rep_tup hv
      exact ⟨a, xs, rfl, h1, by rw [h2.length]; exact pTs_length hb, g, m, ρ, _, ρ', at0, h2, hb, q⟩
    · obtain ⟨a, xs, rfl, h1, h2⟩ := rep_kt hv
      exact ⟨a, xs, rfl, SqT.of h1, by rw [h2.length]; exact pTs_length hb, g, m, ρ, _, ρ', at0, h2, hb, q⟩
    · cases hb
def Bd1 {β : Type} (P : Pt) (ρ : List Sl) (d : D) (t : M β) (T : List Sl → M β → Prop) : Prop := t = bad ∨ ∃ ρ', P ρ d = some ρ' ∧ T ρ' t
def BdL {β : Type} : List Pt → List Sl → List D → M β → (List Sl → M β → Prop) → Prop
  | [], ρ, _, t, T => T ρ t
  | P :: Ps, ρ, d :: ds, t, T => Bd1 P ρ d t fun ρ1 t => BdL Ps ρ1 ds t T
  | _ :: _, _, [], _, _ => False
theorem bd_nm {β : Type} {i : Nat} {d : D} {t : M β} {T : List Sl → M β → Prop} (h : T (ρ.set i (.val d)) t) : Bd1 (pNm i) ρ d t T := .inr ⟨_, rfl, h⟩
theorem BdL.ok {β : Type} {T : List Sl → M β → Prop} : ∀ {Ps : List Pt} {ρ : List Sl} {ds : List D} {t : M β}, ds.length = Ps.length → BdL Ps ρ ds t T → t = bad ∨ ∃ ρ', pTs Ps ρ ds = some ρ' ∧ T ρ' t
  | [], ρ, [], t, _, h => .inr ⟨ρ, rfl, h⟩
  | [], _, _ :: _, _, hl, _ => by simp at hl
  | _ :: _, _, [], _, hl, _ => by simp at hl
  | P :: Ps, ρ, d :: ds, t, hl, h => by
    rcases h with h | ⟨ρ1, h1, h2⟩
    · exact .inl h
    · rcases BdL.ok (by simpa using hl) h2 with h3 | ⟨ρ', h3, h4⟩
      · exact .inl h3
      · exact .inr ⟨ρ', by simp only [pTs, h1, h3], h4⟩
theorem bd_2 {β : Type} {P1 P2 : Pt} {d : D} {k : D → D → M β} {T : List Sl → M β → Prop} (h : ∀ a b, BdL [P1, P2] ρ [a, b] (k a b) T) : Bd1 (pTp [P1, P2]) ρ d (un2 d k) T := by
  unfold un2
  split
  · exact (h _ _).ok rfl
  · exact (h _ _).ok rfl
  · exact .inl rfl
theorem bd_3 {β : Type} {P1 P2 P3 : Pt} {d : D} {k : D → D → D → M β} {T : List Sl → M β → Prop} (h : ∀ a b c, BdL [P1, P2, P3] ρ [a, b, c] (k a b c) T) : Bd1 (pTp [P1, P2, P3]) ρ d (un3 d k) T := by
  unfold un3
  split
  · exact (h _ _ _).ok rfl
  · exact .inl rfl
def ItR (Γ : Cst) (g0 : Gh) (H0 : Hp) (J : It) (z : Its) : Prop := ∀ g m H, Lv0 g0 g → TK H0 H → Rel Γ g m H → stays z.2 m = true → ∀ i : Nat,
  (∀ d, z.1[i]? = some d → J.go i H ∧ ∀ v H', J.yld i H v H' → TK H H' ∧ Rel Γ g m H' ∧ Rep Γ.K g H' v d) ∧ (z.1[i]? = none → J.stop i H)
abbrev PIc (X : Cx) (C : Cc) (ρ : List Sl) (tg e : Expr) (t : M Its) : Prop := PI X tg e (tG ⟨X.K, C.cls⟩ C ρ (ItR ⟨X.K, C.cls⟩) t)
theorem pi_imp {X : Cx} {tg e : Expr} {t t' : TI} (h : PI X tg e t) (k : ∀ σ H Q, t' σ H Q → t σ H Q) : PI X tg e t' := ⟨fun pins s σ H Q I q => h.run pins s σ H Q I (k σ H Q q)⟩
theorem pi_seq {tg l : Expr} {tl : TE} (hl : PE X l tl) : PI X tg l (fun σ H R => tl σ H fun x H1 => ∃ a, x = .ref a ∧ (((∃ xs, SqL X.K H1 a xs) ∧ R (Itl X.K a) H1) ∨ ((∃ xs, SqT X.K H1 a xs) ∧ R (Itt X.K a) H1))) := by
  refine ⟨fun pins s σ H R I h => ?_⟩
  refine thn (hl.run pins s σ H _ I h) fun v s1 ⟨x, H1, I1, r1, q1⟩ => ?_
  obtain ⟨a, e, q1⟩ := q1
  subst e
  cases r1
  rcases q1 with ⟨⟨xs, hq⟩, q⟩ | ⟨⟨xs, hq⟩, q⟩
  · obtain ⟨its, rv, p, hz⟩ := I1.list hq
    refine wpAny_pyIter_list p.isList ?_
    refine ⟨s1.heap.objs.size, [s1.heap.objs.size], _, _, H1, rfl, I1.kept (t' := s1.toks) fun b o e => Heap.get?_push_of_some _ e, turn_list a _, ⟨_, Heap.get?_push_size _ rfl, rfl, rfl⟩, fun b hb => ?_, q⟩
    have e : b = s1.heap.objs.size := by simpa using hb
    subst e
    exact I1.fpOk (Nat.le_refl _) (I1.hok.fresh (Nat.le_refl _))
  · obtain ⟨its, rv, p, hz⟩ := I1.tuple hq
    refine wpAny_pyIter_tuple (show s1.heap.IsTuple a its.toArray from p) ?_
    refine ⟨s1.heap.objs.size, [s1.heap.objs.size], _, _, H1, rfl, I1.kept (t' := s1.toks) fun b o e => Heap.get?_push_of_some _ e, turn_tuple a _, ⟨_, Heap.get?_push_size _ rfl, rfl, rfl⟩, fun b hb => ?_, q⟩
    have e : b = s1.heap.objs.size := by simpa using hb
    subst e
    exact I1.fpOk (Nat.le_refl _) (I1.hok.fresh (Nat.le_refl _))
theorem stays_at {gd : List (Nat × List D)} {m : Hs} {n : Nat} {xs : List D} (h : stays gd m = true) (hm : (n, xs) ∈ gd) : m[n]? = some (.lst xs) := by
  unfold stays at h
  have q := List.all_eq_true.mp h _ hm
  simp only at q
  split at q
  · rename_i ys hy
    rw [hy, beqL_eq _ _ q]
  · cases q
theorem go_list {a : Addr} {vs : List V} {ds : List D} {g : Gh} {m : Hs} {H : Hp} (hs : SqL X.K H a vs) (r : RepL X.K g H vs ds) (rel : Rel ⟨X.K, cls⟩ g m H) (i : Nat) :
    (∀ d, ds[i]? = some d → (Itl X.K a).go i H ∧ ∀ v H', (Itl X.K a).yld i H v H' → TK H H' ∧ Rel ⟨X.K, cls⟩ g m H' ∧ Rep X.K g H' v d) ∧ (ds[i]? = none → (Itl X.K a).stop i H) := by
  refine ⟨fun d hd => ?_, fun hn => ⟨vs, hs, by rw [r.length]; exact List.getElem?_eq_none_iff.mp hn⟩⟩
  obtain ⟨v, h1, h2⟩ := r.get hd
  refine ⟨⟨vs, v, hs, h1⟩, fun w H' y => ?_⟩
  obtain ⟨e, y⟩ := y
  subst e
  have e2 := y vs hs
  rw [h1] at e2
  cases e2
  exact ⟨TK.refl _, rel, h2⟩
theorem go_tup {a : Addr} {vs : List V} {ds : List D} {g : Gh} {m : Hs} {H : Hp} (hs : SqT X.K H a vs) (r : RepL X.K g H vs ds) (rel : Rel ⟨X.K, cls⟩ g m H) (i : Nat) :
    (∀ d, ds[i]? = some d → (Itt X.K a).go i H ∧ ∀ v H', (Itt X.K a).yld i H v H' → TK H H' ∧ Rel ⟨X.K, cls⟩ g m H' ∧ Rep X.K g H' v d) ∧ (ds[i]? = none → (Itt X.K a).stop i H) := by
  refine ⟨fun d hd => ?_, fun hn => ⟨vs, hs, by rw [r.length]; exact List.getElem?_eq_none_iff.mp hn⟩⟩
  obtain ⟨v, h1, h2⟩ := r.get hd
  refine ⟨⟨vs, v, hs, h1⟩, fun w H' y => ?_⟩
  obtain ⟨e, y⟩ := y
  subst e
  have e2 := y vs hs
  rw [h1] at e2
  cases e2
  exact ⟨TK.refl _, rel, h2⟩
theorem guard_ok {v : V} {x : D} {ds : List D} {gd : List (Nat × List D)} {g0 : Gh} {m0 : Hs} {H0 : Hp} (rel0 : Rel ⟨X.K, cls⟩ g0 m0 H0) (hv : Rep X.K g0 H0 v x) (h : guardOf x m0 = some (ds, gd)) :
    ∃ a, v = .ref a ∧ (isT x = false ∧ (∃ vs, SqL X.K H0 a vs) ∧ (∀ g m H, Lv0 g0 g → TK H0 H → Rel ⟨X.K, cls⟩ g m H → stays gd m = true → ∃ vs, SqL X.K H a vs ∧ RepL X.K g H vs ds) ∨
      isT x = true ∧ (∃ vs, SqT X.K H0 a vs) ∧ (∀ g m H, Lv0 g0 g → TK H0 H → Rel ⟨X.K, cls⟩ g m H → stays gd m = true → ∃ vs, SqT X.K H a vs ∧ RepL X.K g H vs ds)) := by
  cases hv with
  | @tup a vs _ hs r =>
    simp only [guardOf, Option.some.injEq, Prod.mk.injEq] at h
    obtain ⟨rfl, rfl⟩ := h
    exact ⟨a, rfl, .inr ⟨rfl, ⟨vs, hs⟩, fun g m H p t rel _ => ⟨vs, t.seqT hs, r.mono p t⟩⟩⟩
  | @kt a vs _ hs r => simp [guardOf] at h
  | @fl a vs _ hs r =>
    simp only [guardOf, Option.some.injEq, Prod.mk.injEq] at h
    obtain ⟨rfl, rfl⟩ := h
    exact ⟨a, rfl, .inl ⟨rfl, ⟨vs, SqL.of (rel0.frz _ _ hs)⟩, fun g m H p t rel _ => ⟨vs, SqL.of (rel.frz _ _ (p.fz _ hs)), r.mono p t⟩⟩⟩
  | @sc a vs _ hs r =>
    simp only [guardOf, Option.some.injEq, Prod.mk.injEq] at h
    obtain ⟨rfl, rfl⟩ := h
    have sq : ∀ H, TK H0 H → SqL X.K H a vs := fun H t => by
      rcases hs with ⟨o, h⟩ | h
      · exact .inl (.inr ⟨o, t.frz _ _ _ h⟩)
      · exact h H
    exact ⟨a, rfl, .inl ⟨rfl, ⟨vs, sq _ (TK.refl _)⟩, fun g m H p t rel _ => ⟨vs, sq H t, r.mono p t⟩⟩⟩
  | @ref a n hg =>
    simp only [guardOf] at h
    split at h
    · rename_i xs hx
      simp only [Option.some.injEq, Prod.mk.injEq] at h
      obtain ⟨rfl, rfl⟩ := h
      refine ⟨a, rfl, .inl ⟨rfl, ?_, fun g m H p t rel st => ?_⟩⟩
      · obtain ⟨vs, h1, _⟩ := rel0.lst hx hg
        exact ⟨vs, SqL.of h1⟩
      · obtain ⟨vs, h1, h2⟩ := rel.lst (stays_at st (List.mem_singleton.mpr rfl)) (pre_get p.hs hg)
        exact ⟨vs, SqL.of h1, h2⟩
    · cases h
  | fd _ _ => simp [guardOf] at h
  | non => simp [guardOf] at h
  | bl _ => simp [guardOf] at h
  | int _ => simp [guardOf] at h
  | str _ => simp [guardOf] at h
theorem i_seq {tg e : Expr} {c : M D} (h : PEc X C ρ e c) : PIc X C ρ tg e (seqI c) := pi_imp (pi_seq h) fun σ H R q => by
  refine tG.bind q fun g' H' m1 v x at1 hv q => ?_
  have q : Post ⟨X.K, C.cls⟩ C.W (ItR ⟨X.K, C.cls⟩) σ g' H' R (bnd (ask (guardOf x)) ret m1) := by
    have e : bnd (ask (guardOf x)) ret = ask (guardOf x) := by
      funext m
      simp only [bnd]
      cases ask (guardOf x) m <;> rfl
    rw [e]
    exact q
  obtain ⟨⟨ds, gd⟩, hi, q⟩ := Post.ask q
  obtain ⟨a, rfl, h⟩ := guard_ok at1.rel hv hi
  refine ⟨a, rfl, ?_⟩
  rcases h with ⟨_, h0, h⟩ | ⟨_, h0, h⟩
  · refine .inl ⟨h0, q.ret at1.rel fun g2 m2 H2 p2 t2 rel2 st i => ?_⟩
    obtain ⟨vs, a1, a2⟩ := h g2 m2 H2 p2 t2 rel2 st
    exact go_list a1 a2 rel2 i
  · refine .inr ⟨h0, q.ret at1.rel fun g2 m2 H2 p2 t2 rel2 st i => ?_⟩
    obtain ⟨vs, a1, a2⟩ := h g2 m2 H2 p2 t2 rel2 st
    exact go_tup a1 a2 rel2 i
theorem rng_ok {lo : Int} {n : Nat} {g0 : Gh} {H0 : Hp} : ItR ⟨X.K, cls⟩ g0 H0 (Itr lo n) (rngL lo n, []) := fun g m H p t rel st i => by
  refine ⟨fun d hd => ?_, fun hn => ?_⟩
  · unfold rngL at hd
    rw [List.getElem?_map, Option.map_eq_some_iff] at hd
    obtain ⟨j, h1, h2⟩ := hd
    have hi : i < n := by
      have := (List.getElem?_eq_some_iff.mp h1).1
      simpa using this
    rw [List.getElem?_range hi] at h1
    cases h1
    refine ⟨hi, fun v H' y => ?_⟩
    obtain ⟨e1, e2⟩ := y
    subst e1
    subst e2
    rw [← h2]
    exact ⟨TK.refl _, rel, .int _⟩
  · have := List.getElem?_eq_none_iff.mp hn
    unfold rngL at this
    rw [List.length_map, List.length_range] at this
    exact this
theorem ls1 {W : WX} {σ : L2.St} {α A : Type} {rep : Gh → Hp → A → α → Prop} {t : M D} {k : D → M α} {H : Hp} {Q : A → Hp → Prop} (q : tG ⟨X.K, C.cls⟩ C ρ rep (bnd t k) σ H Q) : tG ⟨X.K, C.cls⟩ C ρ rep (bnd (lsM [t]) fun xs => match xs with | [x] => k x | _ => bad) σ H Q := by
  have e : (bnd (lsM [t]) fun xs => match xs with | [x] => k x | _ => bad) = bnd t k := by
    show bnd (bnd t fun x => bnd (ret []) fun xs => ret (x :: xs)) _ = _
    rw [bnd_bnd]
    rfl
  rw [e]
  exact q
theorem i_rng1 {tg e : Expr} {c : M D} {p pos : Pos} (h : PAc X C ρ [e] (lsM [c])) (hi : ∀ {t : TA}, PA X [e] t → PI X tg (.Call (.Name "range" p) [e] [] pos) (iRng1 t)) : PIc X C ρ tg (.Call (.Name "range" p) [e] [] pos) (rng1I c) := pi_imp (hi h) fun σ H R q => by
  refine tG.bind (ls1 (W := C.W) q) fun g1 H1 m1 v1 x1 at1 hv1 q1 => ?_
  cases hv1 with
  | nil => exact q1.elim
  | cons a b =>
    cases b with
    | cons _ _ => exact q1.elim
    | nil =>
      cases a with
      | int n =>
        obtain ⟨hn, q1⟩ := Post.ite q1
        exact ⟨n, rfl, hn.1, hn.2, q1.ret at1.rel rng_ok⟩
      | _ => exact q1.elim
theorem zip_step {H : Hp} {g : Gh} {m : Hs} {x y : V} {d e : D} {T : Addr} (rel : Rel ⟨X.K, cls⟩ g m H) (hx : Rep X.K g H x d) (hy : Rep X.K g H y e) (hT : H T = none) : TK H (upd H T (.tup [x, y])) ∧ Rel ⟨X.K, cls⟩ g m (upd H T (.tup [x, y])) ∧ Rep X.K g (upd H T (.tup [x, y])) (.ref T) (.tup [d, e]) :=
  ⟨TK.new hT, rel.laid hT, .tup (SqT.of upd_same) (.cons (hx.mono (Lv0.refl g) (TK.new hT)) (.cons (hy.mono (Lv0.refl g) (TK.new hT)) .nil))⟩
theorem enumL_get : ∀ (s : Int) (xs : List D) (i : Nat), (enumL s xs)[i]? = (xs[i]?).map fun x => .tup [.int (s + (i : Nat)), x]
  | s, [], i => by simp [enumL]
  | s, x :: xs, 0 => by simp [enumL]
  | s, x :: xs, i + 1 => by
    simp only [enumL, List.getElem?_cons_succ]
    rw [enumL_get (s + 1) xs i]
    have e : s + 1 + ((i : Nat) : Int) = s + ((i + 1 : Nat) : Int) := by omega
    rw [e]
theorem enum_go {sq : Hp → List V → Prop} {g : Gh} {m : Hs} {H : Hp} {vs : List V} {ds : List D} {s : Int} (hs : sq H vs) (hu : ∀ ws, sq H ws → True) (r : RepL X.K g H vs ds) (rel : Rel ⟨X.K, cls⟩ g m H) (i : Nat) :
    (∀ d, (enumL s ds)[i]? = some d → (ItE sq s).go i H ∧ ∀ v H', (ItE sq s).yld i H v H' → TK H H' ∧ Rel ⟨X.K, cls⟩ g m H' ∧ Rep X.K g H' v d) ∧ ((enumL s ds)[i]? = none → (ItE sq s).stop i H) := by
  refine ⟨fun d hd => ?_, fun hn => ?_⟩
  · rw [enumL_get, Option.map_eq_some_iff] at hd
    obtain ⟨x, h1, h2⟩ := hd
    obtain ⟨v, c1, c2⟩ := r.get h1
    refine ⟨⟨vs, v, hs, c1⟩, fun u H' yl => ?_⟩
    obtain ⟨T, x', rfl, hT, rfl, e1⟩ := yl
    have f1 := e1 vs hs
    rw [c1] at f1
    cases f1
    rw [← h2]
    exact zip_step rel (.int _) c2 hT
  · rw [enumL_get, Option.map_eq_none_iff] at hn
    exact ⟨vs, hs, by rw [r.length]; exact List.getElem?_eq_none_iff.mp hn⟩
theorem i_enum {e : Expr} {c : M D} {p pos tpos : Pos} {elts : List Expr} {kk : Nat} (hg : Gl X "enumerate") (hm : X.mg "enumerate" = none) (h : PAc X C ρ [e] (lsM [c])) (hs : starEach [e] X.env = [(false, eval e X.env)] := by rfl) :
    PIc X C ρ (.Tuple elts kk tpos) (.Call (.Name "enumerate" p) [e] [] pos) (enumI c) :=
  pi_imp (pi_enumA hg hm h hs) fun σ H R q => by
    refine tG.bind (ls1 (W := C.W) q) fun g1 H1 m1 v1 x1 at1 hv1 q1 => ?_
    cases hv1 with
    | nil => exact q1.elim
    | cons ax b =>
      cases b with
      | cons _ _ => exact q1.elim
      | nil =>
        obtain ⟨⟨ds, gd⟩, hx, q1⟩ := Post.ask q1
        obtain ⟨a, rfl, ha⟩ := guard_ok at1.rel ax hx
        rcases ha with ⟨ka, ⟨vs, ha0⟩, ha⟩ | ⟨ka, ⟨vs, ha0⟩, ha⟩
        · refine ⟨a, vs, rfl, .inl ⟨ha0, Post.ret q1 at1.rel fun g m H p t rel st i => ?_⟩⟩
          obtain ⟨xs, a1, a2⟩ := ha g m H p t rel st
          exact enum_go a1 (fun _ _ => trivial) a2 rel i
        · refine ⟨a, vs, rfl, .inr ⟨ha0, Post.ret q1 at1.rel fun g m H p t rel st i => ?_⟩⟩
          obtain ⟨xs, a1, a2⟩ := ha g m H p t rel st
          exact enum_go a1 (fun _ _ => trivial) a2 rel i
end
end G
namespace G
open PySem L2 PySem.Spec PyProof.Rows
section
variable {X : Cx} {C : Cc} {ρ : List Sl} {cls : Cl} {k : Nat}
def ServesC (X : Cx) (cls : Cl) (r : List V → Hp → VK → Prop) (f : List D → M D) : Prop := ∀ (W : WX) (σ : L2.St) (g : Gh) (H : Hp) (m : Hs) (vs : List V) (ds : List D) (Q : VK),
  Rel ⟨X.K, cls⟩ g m H → RepL X.K g H vs ds → Post ⟨X.K, cls⟩ W (rD ⟨X.K, cls⟩) σ g H Q (f ds m) → r vs H Q
theorem c_bi {e : Expr} {es : List Expr} {f : List D → M D} {cs : M (List D)} {r : List V → Hp → VK → Prop} (sv : ServesC X C.cls r f) (ha : PAc X C ρ es cs) (h : ∀ {t : TA}, PA X es t → PE X e (tCB r t)) : PEc X C ρ e (calM f cs) :=
  pe_imp (h ha) fun σ H Q q => by
    refine tG.bind q fun g1 H1 m1 v1 x1 at1 hv1 q1 => ?_
    exact sv C.W σ g1 H1 m1 v1 x1 Q at1.rel hv1 q1
def rLenA (K : PySem.W.Frag) : List V → Hp → VK → Prop := fun xs H Q => (∃ p ys, xs = [.ref p] ∧ (SqL K H p ys ∨ SqT K H p ys) ∧ Q (.int ys.length) H) ∨ (∃ z, xs = [.str z] ∧ z.length ≤ sizeLine ∧ Q (.int z.length) H)
theorem call_lenA : CallR X (.builtin "len") (rLenA X.K) := call_len_seq.or call_len_str
theorem sv_len : ServesC X cls (rLenA X.K) lenS := by
  intro W σ g H m vs ds Q rel hv q
  rcases ds with _ | ⟨d, _ | ⟨d2, t⟩⟩
  · exact q.elim
  · cases hv with
    | cons a b =>
      cases b
      cases hd : d with
      | str s =>
        subst hd
        obtain ⟨hz, q⟩ := Post.ite q
        rw [rep_str a]
        exact .inr ⟨s, rfl, hz, q.ret rel (.int _)⟩
      | _ =>
        rw [hd] at q a
        obtain ⟨xs, hx, q⟩ := Post.ask q
        obtain ⟨p, ys, rfl, hs, r⟩ := rep_seq rel a hx
        exact .inl ⟨p, ys, rfl, hs, by rw [r.length]; exact q.ret rel (.int _)⟩
  · cases d <;> exact q.elim
theorem sv_abs : ServesC X cls (fun xs H Q => ∃ i, xs = [.int i] ∧ Q (.int (if i < 0 then -i else i)) H) absS := by
  intro W σ g H m vs ds Q rel hv q
  rcases ds with _ | ⟨d, _ | ⟨d2, t⟩⟩
  · exact q.elim
  · cases hv with
    | cons a b =>
      cases b
      cases a with
      | int i => exact ⟨i, rfl, q.ret rel (.int _)⟩
      | _ => exact q.elim
  · cases d <;> exact q.elim
theorem sv_min2 : ServesC X cls (fun xs H Q => ∃ i j, xs = [.int i, .int j] ∧ Q (.int (if j < i then j else i)) H) min2S := by
  intro W σ g H m vs ds Q rel hv q
  rcases ds with _ | ⟨d, _ | ⟨d2, _ | ⟨d3, t⟩⟩⟩
  · exact q.elim
  · cases d <;> exact q.elim
  · cases hv with
    | cons a b =>
      cases b with
      | cons a' b =>
        cases b
        cases a with
        | int i => cases a' with
          | int j => exact ⟨i, j, rfl, q.ret rel (.int _)⟩
          | _ => exact q.elim
        | _ => cases a' <;> exact q.elim
  · cases d <;> cases d2 <;> exact q.elim
theorem sv_max2 : ServesC X cls (fun xs H Q => ∃ i j, xs = [.int i, .int j] ∧ Q (.int (if j > i then j else i)) H) max2S := by
  intro W σ g H m vs ds Q rel hv q
  rcases ds with _ | ⟨d, _ | ⟨d2, _ | ⟨d3, t⟩⟩⟩
  · exact q.elim
  · cases d <;> exact q.elim
  · cases hv with
    | cons a b =>
      cases b with
      | cons a' b =>
        cases b
        cases a with
        | int i => cases a' with
          | int j => exact ⟨i, j, rfl, q.ret rel (.int _)⟩
          | _ => exact q.elim
        | _ => cases a' <;> exact q.elim
  · cases d <;> cases d2 <;> exact q.elim
theorem sv_int : ServesC X cls (fun xs H Q => (∃ i, xs = [.int i] ∧ Q (.int i) H) ∨ ∃ k, xs = [.bl k] ∧ Q (.int (if k then 1 else 0)) H) intS := by
  intro W σ g H m vs ds Q rel hv q
  rcases ds with _ | ⟨d, _ | ⟨d2, t⟩⟩
  · exact q.elim
  · cases hv with
    | cons a b =>
      cases b
      cases a with
      | int i => exact .inl ⟨i, rfl, q.ret rel (.int _)⟩
      | bl i => exact .inr ⟨i, rfl, q.ret rel (.int _)⟩
      | _ => exact q.elim
  · cases d <;> exact q.elim
theorem sv_tuple : ServesC X cls (fun xs H Q => ∃ p ys, xs = [.ref p] ∧ ((SqL X.K H p ys ∧ ∀ l, H l = none → Q (.ref l) (upd H l (.tup ys))) ∨ (SqT X.K H p ys ∧ Q (.ref p) H))) tupleS := by
  intro W σ g H m vs ds Q rel hv q
  rcases ds with _ | ⟨d, _ | ⟨d2, t⟩⟩
  · exact q.elim
  · cases hv with
    | cons a b =>
      cases b
      have a' := a
      cases a with
      | tup h r => exact ⟨_, _, rfl, .inr ⟨h, q.ret rel (.tup h r)⟩⟩
      | _ =>
        obtain ⟨xs, hx, q⟩ := Post.ask q
        obtain ⟨p, ys, e, h1, h2⟩ := rep_lst rel a' hx
        exact ⟨p, ys, by rw [e], .inl ⟨SqL.of h1, fun l hl => Post.newT q rel h2 hl⟩⟩
  · cases d <;> exact q.elim
def rRepr (K : PySem.W.Frag) : List V → Hp → VK → Prop := fun xs H Q => ∃ x d, xs = [x] ∧ Dp K H x d ∧ d.showable = true ∧ d.hasDict = false ∧ d.depth ≤ 50 ∧ d.shown.length ≤ sizeLine ∧ Q (.str d.shown) H
theorem call_repr (cl : Clr true X.A) (hu : X.A.units + 64 < cLine) : CallR X (.builtin "repr") (rRepr X.K) := by
  have cl := cl rfl
  intro pins s σ H xs us Q I rv h
  obtain ⟨x, d, rfl, hd, hs, hn, hp, hz, q⟩ := h
  obtain ⟨u, rfl, ru⟩ := vals1 rv
  obtain ⟨as, rd⟩ := Dp.reads I d x u hd ru
  have fin : ∀ tk : Tok, EP X pins σ Q (.str d.shown tk) { s with toks := s.toks + 1 } := fun tk => ⟨.str d.shown, H, I.tok _, ⟨_, rfl⟩, q⟩
  cases hd with
  | non =>
    cases ru
    exact PySem.P.repr_of_none (fin _)
  | bl b =>
    cases ru
    refine PySem.P.repr_of_bool ?_
    have := fin s.toks
    cases b <;> exact this
  | int i =>
    obtain ⟨t, rfl⟩ := ru
    exact PySem.P.repr_of_int (by simpa [PyData.showable] using hs) (fin _)
  | str y =>
    obtain ⟨t, rfl⟩ := ru
    exact PySem.P.repr_of_str (fin _) hz
  | lst h1 h2 =>
    cases ru
    exact repr_of_reads' rd hs (PyData.noDict_hsm hn) cl (by omega) (fun _ _ e => e) (fun h' u tk hk => ⟨.str _, H, I.kept hk, ⟨_, rfl⟩, q⟩) hz
  | tup h1 h2 =>
    cases ru
    exact repr_of_reads' rd hs (PyData.noDict_hsm hn) cl (by omega) (fun _ _ e => e) (fun h' u tk hk => ⟨.str _, H, I.kept hk, ⟨_, rfl⟩, q⟩) hz
theorem sv_repr : ServesC X cls (rRepr X.K) reprS := by
  intro W σ g H m vs ds Q rel hv q
  rcases ds with _ | ⟨d, _ | ⟨d2, t⟩⟩
  · exact q.elim
  · cases hv with
    | cons a b =>
      cases b
      obtain ⟨p, hp, q⟩ := Post.ask q
      obtain ⟨hz, q⟩ := Post.ite q
      have lay := pyD_lay deepest d p hp
      exact ⟨_, p, rfl, pyD_dp rel _ _ _ _ hp a, hz.1, PyData.hasDict_of_canLay p lay.1, lay.2, hz.2, q.ret rel (.str _)⟩
  · exact q.elim
end
end G
namespace G
open PySem L2
abbrev WF : WX := fun _ _ _ _ => False
def Cc.wf (C : Cc) : Cc := ⟨C.cls, WF, C.gB, C.H0⟩
section
variable {X : Cx} {C : Cc} {ρ : List Sl} {k : Nat}
theorem RelS.other {Γ : Cst} {gB g : Gh} {H : Hp} {σ : L2.St} {a : Addr} {vs : List V} (h : RelS Γ gB g H ρ σ) (hm : Mut (H a)) (hne : ∀ (i : Nat) xs, ρ[i]? = some (Sl.own xs) → σ[i]? ≠ some (some (V.ref a))) {g2 : Gh} {u : HO} (lv : Lv0 g g2) (hg : ∀ q, q ∈ g.pv → q.1 ≠ a → q ∈ g2.pv) (hf : noFrz u = true := by rfl) : RelS Γ gB g2 (upd H a u) ρ σ := by
  refine ⟨h.len, fun i d e => ?_, fun i xs e => ?_, h.inj, h.raw⟩
  · obtain ⟨v, h1, h2⟩ := h.val i d e
    exact ⟨v, h1, h2.mono lv (TK.mut hm hf)⟩
  · obtain ⟨b, ws, h1, h2, h3, h4⟩ := h.own i xs e
    exact ⟨b, ws, h1, hg _ h2 fun z => hne i xs e (by have z : b = a := z; rw [← z]; exact h1), h3.mono lv (TK.mut hm hf), h4⟩
theorem Rel.sub {Γ : Cst} {g : Gh} {m : Hs} {H : Hp} {pv : List (Addr × HO)} (R : Rel Γ g m H) (h : ∀ p, p ∈ pv → p ∈ g.pv) : Rel Γ ⟨g.hs, g.fz, pv⟩ m H :=
  have lv : Lv0 g ⟨g.hs, g.fz, pv⟩ := ⟨List.prefix_refl _, fun _ z => z⟩
  ⟨R.len, R.inj, fun n o a h1 h2 => (R.obj n o a h1 h2).mono lv (TK.refl _) fun _ _ _ z => z, R.frz, fun a o z => R.prv a o (h _ z), R.hf, fun a o z1 z2 => R.hp a o z1 (h _ z2), fun a o u z => R.pf a o u (h _ z), R.lf, fun q hq => R.lp q (h q hq), R.ff, R.tab⟩
theorem le_out {g g' : Gh} {a : Addr} {u : HO} (p : Le (g.addP a u) g') (hn : ∀ w, (a, w) ∉ g.pv) : Le g (g'.outP a) :=
  ⟨p.hs, p.fz, fun q hq => mem_outP.mpr ⟨p.pv q (List.mem_cons_of_mem _ hq), fun z => hn q.2 (by have z : q.1 = a := z; rw [← z]; exact hq)⟩⟩
def tstM (c : M Bool) (e : M D) : M (Option D) := bnd c fun k => if k = true then elM e else ret none
def OkT (X : Cx) (C : Cc) (scope : Scope) (ifs : List Expr) (elt : Expr) (ρ' : List Sl) (t : M (Option D)) : Prop := ∃ c e, t = tstM c e ∧
  (∀ (s : Shared) (H : Hp) (A : Addr) (cl : List (Str × Addr)) (fp : List Addr), PTs (X.blk s H scope (compEnvC scope cl A X.env) fp) ifs (tG ⟨X.K, C.cls⟩ C.wf ρ' rB c)) ∧
  (∀ (s : Shared) (H : Hp) (A : Addr) (cl : List (Str × Addr)) (fp : List Addr), PE (X.blk s H scope (compEnvC scope cl A X.env) fp) elt (tE ⟨X.K, C.cls⟩ C.wf ρ' e))
theorem pts_imp {X : Cx} {e : List Expr} {t t' : TT} (h : PTs X e t) (k : ∀ σ H Q, t' σ H Q → t σ H Q) : PTs X e t' := ⟨fun pins s σ H Q I q => h.run pins s σ H Q I (k σ H Q q)⟩
theorem ok_el {scope : Scope} {elt : Expr} {e : M D} (h : ∀ (s : Shared) (H : Hp) (A : Addr) (cl : List (Str × Addr)) (fp : List Addr), PEc (X.blk s H scope (compEnvC scope cl A X.env) fp) C.wf ρ elt e) : OkT X C scope [] elt ρ (elM e) :=
  ⟨ret true, e, rfl, fun s H A cl fp => pts_imp pts_nil fun σ H Q q => by
    obtain ⟨g, m, at0, q⟩ := q
    exact q.ret at0.rel rfl, h⟩
def tTx (X : Cx) (C : Cc) (scope : Scope) (ifs : List Expr) (elt : Expr) : TT := fun σ H Q => ∃ ρ' c e, OkT X C scope ifs elt ρ' (tstM c e) ∧
  (∀ (s : Shared) (H : Hp) (A : Addr) (cl : List (Str × Addr)) (fp : List Addr), PTs (X.blk s H scope (compEnvC scope cl A X.env) fp) ifs (tG ⟨X.K, C.cls⟩ C.wf ρ' rB c)) ∧ tG ⟨X.K, C.cls⟩ C.wf ρ' rB c σ H Q
def tEx (X : Cx) (C : Cc) (scope : Scope) (elt : Expr) : TE := fun σ H Q => ∃ ρ' e,
  (∀ (s : Shared) (H : Hp) (A : Addr) (cl : List (Str × Addr)) (fp : List Addr), PE (X.blk s H scope (compEnvC scope cl A X.env) fp) elt (tE ⟨X.K, C.cls⟩ C.wf ρ' e)) ∧ tE ⟨X.K, C.cls⟩ C.wf ρ' e σ H Q
theorem At.wf {Γ : Cst} {σ : L2.St} {H : Hp} {g : Gh} {m : Hs} (a : At Γ C ρ σ H g m) : At Γ C.wf ρ σ H g m := ⟨a.le, a.rel, a.rs, a.tw⟩
theorem lc_gen {α β : Type} {rep : Gh → Hp → V → β → Prop} {fin : List D → M β} {scope : Scope} {ifs : List Expr} {elt : Expr} {own : List Nat} {is : List Nat} {P : Pt} {src : M Its} {turn : D → M (Option D)} {σ : L2.St} {H : Hp} {Q : VK} (hp : ∀ i ∈ is, i ∈ own)
    (ht : ∀ x, Bd1 P (wipeS ρ own) x (turn x) (OkT X C scope ifs elt)) {g0 : Gh} {m0 : Hs} (at0 : At ⟨X.K, C.cls⟩ C ρ σ H g0 m0) (q : Post ⟨X.K, C.cls⟩ C.W rep σ g0 H Q (bnd src (fun z => bnd (lcL z.2 turn z.1 []) fin) m0))
    (hfin : ∀ A g m H' vs acc, (∀ w, (A, w) ∉ g0.pv) → (∀ w, (A, w) ∉ g.pv) → Rel ⟨X.K, C.cls⟩ (g.addP A (.lst vs)) m H' → RepL X.K g H' vs acc → Post ⟨X.K, C.cls⟩ C.W rep σ g H' Q (fin acc m) → Q (.ref A) H') :
    tLc (tG ⟨X.K, C.cls⟩ C ρ (ItR ⟨X.K, C.cls⟩) src) (gPat ⟨X.K, C.cls⟩ C is P) (tTx X C scope ifs elt) (tEx X C scope elt) own σ H Q := by
  refine ⟨g0, m0, at0, Post.bind q fun g1 H1 m1 J z p01 t01 rel1 hv1 q1 => ?_⟩
  have at1 := at0.mono p01 t01 rel1
  obtain ⟨its, gd⟩ := z
  intro A hA
  have hnA : ∀ w, (A, w) ∉ g1.pv := fun w => at1.rel.freshP hA
  have hne : ∀ (i : Nat) xs, ρ[i]? = some (Sl.own xs) → σ[i]? ≠ some (some (V.ref A)) := fun i xs hi hz => by
    obtain ⟨b, ws, h1, h2, _⟩ := at1.rs.own i xs hi
    rw [hz] at h1
    cases h1
    exact hnA _ h2
  have hBA : ∀ w, (A, w) ∉ C.gB.pv := fun w z => hnA w (at1.le.pv _ z)
  refine ⟨fun i n H' => n = its.length - i ∧ ∃ g m vs acc, Lv0 g1 g ∧ (∀ w, (A, w) ∉ g.pv) ∧ TK H1 H' ∧ At ⟨X.K, C.cls⟩ C ρ σ H' (g.addP A (.lst vs)) m ∧ RepL X.K g H' vs acc ∧
    Post ⟨X.K, C.cls⟩ C.W rep σ g H' Q (bnd (lcL gd turn (its.drop i) acc) fin m),
    ⟨its.length, by simp, g1, m1, [], [], Lv0.refl _, hnA, TK.new hA, ⟨at1.le.trans le_addP, at1.rel.newP hA, at1.rs.mono le_addP (TK.new hA), at1.tw.go (TK.new hA)⟩, .nil, by simpa using Post.mono (Le.refl g1) (TK.new hA) q1⟩, ?_⟩
  rintro i n H' ⟨rfl, g, m, vs, acc, lv, hn, tk, at2, ra, q2⟩
  have rel2 := at2.rel
  have hAH : H' A = some (.lst vs) := rel2.prv _ _ List.mem_cons_self
  have st : stays gd m = true := by
    have key : ∀ {t : M (List D)}, Post ⟨X.K, C.cls⟩ C.W rep σ g H' Q (bnd (bnd (stay gd) fun _ => t) fin m) → stays gd m = true := fun {t} q => by
      rw [bnd_bnd] at q
      unfold bnd stay at q
      by_cases h : stays gd m = true
      · exact h
      · rw [if_neg h] at q
        exact q.elim
    cases hd : its.drop i with
    | nil => rw [hd] at q2; exact key q2
    | cons x xs => rw [hd] at q2; exact key q2
  have hI := hv1 (g.addP A (.lst vs)) m H' (lv.trans le_addP.v) tk rel2 st i
  have stm : stay gd m = .ok () m := by unfold stay; rw [if_pos st]
  cases hi : its[i]? with
  | none =>
    refine .inl ⟨hI.2 hi, ?_⟩
    have hd : its.drop i = [] := List.drop_eq_nil_of_le (List.getElem?_eq_none_iff.mp hi)
    rw [hd] at q2
    simp only [lcL, bnd, stm, Rs.bind] at q2
    exact hfin A g m H' vs acc (fun w z => hnA w (p01.pv _ z)) hn rel2 ra q2
  | some d =>
    obtain ⟨hgo, hy⟩ := hI.1 d hi
    have hil : i < its.length := (List.getElem?_eq_some_iff.mp hi).1
    have hd : its.drop i = d :: its.drop (i + 1) := by
      rw [List.drop_eq_getElem_cons hil]
      congr 1
      exact (List.getElem?_eq_some_iff.mp hi).2
    rw [hd] at q2
    have q2' : Post ⟨X.K, C.cls⟩ C.W rep σ g H' Q (((turn d m).calm).bind fun o m3 => bnd (match o with
      | none => lcL gd turn (its.drop (i + 1)) acc
      | some y => if acc.length < sizeLine then lcL gd turn (its.drop (i + 1)) (acc ++ [y]) else bad) fin m3) := by
      have e : bnd (lcL gd turn (d :: its.drop (i + 1)) acc) fin m = ((turn d m).calm).bind fun o m3 => bnd (match o with
        | none => lcL gd turn (its.drop (i + 1)) acc
        | some y => if acc.length < sizeLine then lcL gd turn (its.drop (i + 1)) (acc ++ [y]) else bad) fin m3 := by
        simp only [lcL]
        rw [bnd_bnd]
        simp only [bnd, stm, Rs.bind, calm]
        cases (turn d m).calm <;> rfl
      rw [← e]
      exact q2
    clear q2
    refine .inr ⟨hgo, fun H2 => ∃ g m vs acc, Lv0 g1 g ∧ (∀ w, (A, w) ∉ g.pv) ∧ TK H1 H2 ∧ At ⟨X.K, C.cls⟩ C ρ σ H2 (g.addP A (.lst vs)) m ∧ RepL X.K g H2 vs acc ∧
      Post ⟨X.K, C.cls⟩ C.W rep σ g H2 Q (bnd (lcL gd turn (its.drop (i + 1)) acc) fin m),
      fun H2 h2 => ⟨its.length - (i + 1), by omega, rfl, h2⟩, fun x H3 y => ?_⟩
    obtain ⟨tk3, rel3, hx3⟩ := hy x H3 y
    have q3 := Post.mono (Le.refl g) tk3 q2'
    have at3 := at2.keep tk3 rel3
    rcases ht d with hbad | ⟨ρ', hb, c, e, htu, hPT, hPE⟩
    · rw [hbad] at q3
      exact q3.elim
    have at3w : At ⟨X.K, C.cls⟩ C (wipeS ρ own) (L2.wipe σ own) H3 (g.addP A (.lst vs)) m := ⟨at3.le, at3.rel, at3.rs.wipe own, at3.tw⟩
    refine ⟨g.addP A (.lst vs), m, wipeS ρ own, d, ρ', at3w, hx3, hb, fun σ2 at4 sb => ⟨?_, ?_⟩⟩
    · rw [wipe_eq (sb.mono hp), wipe_wipe]
    · rw [htu] at q3
      refine ⟨ρ', c, e, ⟨c, e, rfl, hPT, hPE⟩, hPT, g.addP A (.lst vs), m, at4.wf, ?_⟩
      have et : tstM c e m = (c m).bind fun k m3 => (if k = true then elM e else ret none) m3 := rfl
      rw [et] at q3
      cases hc : c m with
      | ex c' fs m3 => rw [hc] at q3; exact q3.elim
      | bad => rw [hc] at q3; exact q3.elim
      | ok b m3 =>
        rw [hc, bind_ok] at q3
        intro g5 H5 b' p5 t5 rel5 eb
        subst eb
        have out5 := le_out p5 hn
        have hn5 : ∀ w, (A, w) ∉ (g5.outP A).pv := fun w z => (mem_outP.mp z).2 rfl
        have hA5 : (A, HO.lst vs) ∈ g5.pv := p5.pv _ List.mem_cons_self
        have ra5 : RepL X.K (g5.outP A) H5 vs acc := ra.mono out5.v (tk3.trans t5)
        have at5 : At ⟨X.K, C.cls⟩ C ρ σ H5 g5 m3 := at3.mono p5 t5 rel5
        have subP : ∀ p, p ∈ ((g5.outP A).addP A (HO.lst vs)).pv → p ∈ g5.pv := fun p hp => by
          rcases List.mem_cons.mp hp with z | z
          · rw [z]; exact hA5
          · exact (mem_outP.mp z).1
        have supP : ∀ p, p ∈ g5.pv → p ∈ ((g5.outP A).addP A (HO.lst vs)).pv := fun p hp => by
          by_cases e : p.1 = A
          · have e1 : p = (A, HO.lst vs) := by
              obtain ⟨p1, p2⟩ := p
              have e : p1 = A := e
              subst e
              have h1 := rel5.prv _ _ hp
              have h2 := rel5.prv _ _ hA5
              rw [h1] at h2
              cases h2
              rfl
            rw [e1]
            exact List.mem_cons_self
          · exact List.mem_cons_of_mem _ (mem_outP.mpr ⟨hp, e⟩)
        have le5 : Le g5 ((g5.outP A).addP A (HO.lst vs)) := ⟨List.prefix_refl _, fun _ z => z, supP⟩
        have at5' : At ⟨X.K, C.cls⟩ C ρ σ H5 ((g5.outP A).addP A (HO.lst vs)) m3 :=
          ⟨⟨at5.le.hs, at5.le.fz, fun p hp => supP p (at5.le.pv p hp)⟩, rel5.sub subP, at5.rs.mono le5 (TK.refl _), at5.tw⟩
        cases b' with
        | false =>
          rw [if_neg (by simp)] at q3
          exact iteF ⟨g5.outP A, m3, vs, acc, lv.trans out5.v, hn5, (tk.trans tk3).trans t5, at5', ra5, Post.mono out5 t5 q3⟩
        | true =>
          rw [if_pos rfl] at q3
          have at45 : At ⟨X.K, C.cls⟩ C.wf ρ' σ2 H5 g5 m3 := at4.wf.mono p5 t5 rel5
          refine iteT ⟨ρ', e, hPE, g5, m3, at45, ?_⟩
          have ee : elM e m3 = (e m3).bind fun y m4 => .ok (some y) m4 := rfl
          rw [ee] at q3
          cases he : e m3 with
          | ex c' fs m4 => rw [he] at q3; exact q3.elim
          | bad => rw [he] at q3; exact q3.elim
          | ok y m4 =>
            rw [he, bind_ok] at q3
            intro g6 H6 v6 p6 t6 rel6 h6
            have q6 : Post ⟨X.K, C.cls⟩ C.W rep σ g H3 Q (bnd (if acc.length < sizeLine then lcL gd turn (its.drop (i + 1)) (acc ++ [y]) else bad) fin m4) := q3
            by_cases hz : acc.length < sizeLine
            · rw [if_pos hz] at q6
              have out6 := le_out (p5.trans p6) hn
              have hn6 : ∀ w, (A, w) ∉ (g6.outP A).pv := fun w z => (mem_outP.mp z).2 rfl
              have hA6 : (A, HO.lst vs) ∈ g6.pv := p6.pv _ hA5
              have hH6 := rel6.prv _ _ hA6
              have mu : Mut (H6 A) := by rw [hH6]; trivial
              have at6 : At ⟨X.K, C.cls⟩ C ρ σ H6 g6 m4 := at5.mono p6 t6 rel6
              have rr : RepL X.K (g6.outP A) H6 vs acc := ra.mono out6.v ((tk3.trans t5).trans t6)
              have h6' : Rep X.K (g6.outP A) H6 v6 y := h6.mono lv_outP (TK.refl _)
              refine ⟨vs, hH6, by rw [rr.length]; exact hz, g6.outP A, m4, vs ++ [v6], acc ++ [y], lv.trans out6.v, hn6, (((tk.trans tk3).trans t5).trans t6).trans (TK.mut mu), ⟨⟨at6.le.hs, at6.le.fz, fun p hp => List.mem_cons_of_mem _ (mem_outP.mpr ⟨at6.le.pv p hp, fun z => hBA p.2 (by have z : p.1 = A := z; rw [← z]; exact hp)⟩)⟩, rel6.setP mu hA6, at6.rs.other (vs := vs) mu hne ⟨List.prefix_refl _, fun _ z => z⟩ fun q hq hz => List.mem_cons_of_mem _ (mem_outP.mpr ⟨hq, hz⟩), at6.tw.go (TK.mut mu)⟩, (rr.append (.cons h6' .nil)).mono (Lv0.refl _) (TK.mut mu), Post.mono out6 ((t5.trans t6).trans (TK.mut mu)) q6⟩
            · rw [if_neg hz] at q6
              exact q6.elim
theorem lc_ok {scope : Scope} {ifs : List Expr} {elt : Expr} {own : List Nat} {is : List Nat} {P : Pt} {src : M Its} {turn : D → M (Option D)} {σ : L2.St} {H : Hp} {Q : VK} (hp : ∀ i ∈ is, i ∈ own)
    (ht : ∀ x, Bd1 P (wipeS ρ own) x (turn x) (OkT X C scope ifs elt)) (q : tG ⟨X.K, C.cls⟩ C ρ (rD ⟨X.K, C.cls⟩) (lcM src turn) σ H Q) :
    tLc (tG ⟨X.K, C.cls⟩ C ρ (ItR ⟨X.K, C.cls⟩) src) (gPat ⟨X.K, C.cls⟩ C is P) (tTx X C scope ifs elt) (tEx X C scope elt) own σ H Q := by
  obtain ⟨g0, m0, at0, q⟩ := q
  refine lc_gen (α := Unit) (fin := fun ys => ret (D.fl ys)) hp ht at0 q fun A g m H' vs acc hn0 hn rel2 ra q2 => ?_
  have R := rel2.frzP (a := A) List.mem_cons_self
  have le9 : Le g (((g.addP A (HO.lst vs)).outP A).addF A (HO.lst vs)) := ⟨List.prefix_refl _, fun p hp => List.mem_cons_of_mem _ hp, fun p hp => mem_outP.mpr ⟨List.mem_cons_of_mem _ hp, fun z => hn p.2 (by have z : p.1 = A := z; rw [← z]; exact hp)⟩⟩
  exact q2 _ H' (.ref A) le9 (TK.refl _) R (.fl List.mem_cons_self (ra.mono le9.v (TK.refl _)))
theorem c_lc {elt tg iter : Expr} {ifs : List Expr} {scope : Scope} {own : List (Str × Nat)} {pos : Pos} {src : M Its} {turn : D → M (Option D)} {is : List Nat} {P : Pt} (hc : X.calm = true) (hN : X.N.Nodup) (hi : PIc X C ρ tg iter src) (ok : BlkOk X.N X.env.scope scope own)
    (hp : ∀ i ∈ is, i ∈ own.map (·.2))
    (hg : ∀ (s : Shared) (H : Hp) (A : Addr) (cl : List (Str × Addr)) (fp : List Addr), PGc (X.blk s H scope (compEnvC scope cl A X.env) fp) C tg is P) (ht : ∀ x, Bd1 P (wipeS ρ (own.map (·.2))) x (turn x) (OkT X C scope ifs elt)) (hs : ∀ x, foldedSetIterable iter X.env x = pure x := by intro _; rfl) :
    PEc X C ρ (.ListComp elt [⟨tg, iter, ifs, 0⟩] scope pos) (lcM src turn) :=
  pe_imp (pe_lc (tt := tTx X C scope ifs elt) (te := tEx X C scope elt) hc hN hi ok hg (fun s H A cl fp => ⟨fun pins t σ H' Q I q => by
    obtain ⟨ρ', c, e, _, h, q⟩ := q
    exact (h s H A cl fp).run pins t σ H' Q I q⟩) (fun s H A cl fp => ⟨fun pins t σ H' Q I q => by
    obtain ⟨ρ', e, h, q⟩ := q
    exact (h s H A cl fp).run pins t σ H' Q I q⟩) hs) fun σ H Q q => lc_ok hp ht q
end
end G
namespace G
open PySem L2
section
variable {A B : Type} (Γ : Cst) (C : Cc) (oa : A → List Sl) (ob : B → List Sl)
def PostS (g : Gh) (H : Hp) (De : Ends) : Rs (Fl A B) → Prop
  | .ok (.nx a) m => ∀ g' H' σ, Lv0 g g' → TK H H' → At Γ C (oa a) σ H' g' m → De.nx σ H'
  | .ok (.bk b) m => ∀ g' H' σ, Lv0 g g' → TK H H' → At Γ C (ob b) σ H' g' m → De.bk σ H'
  | .ok (.ct b) m => ∀ g' H' σ, Lv0 g g' → TK H H' → At Γ C (ob b) σ H' g' m → De.ct σ H'
  | .ok (.rt d) m => ∀ g' H' v, Le C.gB g' → Lv0 g g' → TK H H' → Rel Γ g' m H' → Rep Γ.K g' H' v d → De.rt v H'
  | .ex c fs m => ∀ σ, PostX Γ C.W σ C.gB H c fs m
  | .bad => False
def tS (ρ : List Sl) (t : M (Fl A B)) : TS := fun De σ H => ∃ g m, At Γ C ρ σ H g m ∧ PostS Γ C oa ob g H De (t m)
end
abbrev PSsc {A B : Type} (X : Cx) (C : Cc) (ρ : List Sl) (e : List Stmt) (oa : A → List Sl) (ob : B → List Sl) (t : M (Fl A B)) : Prop := PSs X e (tS ⟨X.K, C.cls⟩ C oa ob ρ t)
section
variable {X : Cx} {C : Cc} {ρ : List Sl} {k : Nat} {A B A' B' : Type} {oa : A → List Sl} {ob : B → List Sl} {oa' : A' → List Sl} {g g' : Gh} {H H' : Hp} {De : Ends} {Γ : Cst} {σ : L2.St} {m : Hs}
theorem PostS.mono {r : Rs (Fl A B)} (p : Lv0 g g') (t : TK H H') (h : PostS Γ C oa ob g H De r) : PostS Γ C oa ob g' H' De r := by
  cases r with
  | ok o m =>
    cases o with
    | nx r => exact fun g2 H2 σ p2 t2 => h g2 H2 σ (p.trans p2) (t.trans t2)
    | bk r => exact fun g2 H2 σ p2 t2 => h g2 H2 σ (p.trans p2) (t.trans t2)
    | ct r => exact fun g2 H2 σ p2 t2 => h g2 H2 σ (p.trans p2) (t.trans t2)
    | rt d => exact fun g2 H2 v l2 p2 t2 => h g2 H2 v l2 (p.trans p2) (t.trans t2)
  | ex c fs m => exact fun σ => PostX.mono (Le.refl _) t (h σ)
  | bad => exact h
theorem PostS.bind {α V' : Type} {rep : Gh → Hp → V' → α → Prop} {r : Rs α} {f : α → Hs → Rs (Fl A B)} {R : V' → Hp → Prop} (le : Le C.gB g) (q : PostS Γ C oa ob g H De (r.bind f))
    (k : ∀ g' H' m v x, Le g g' → TK H H' → Rel Γ g' m H' → rep g' H' v x → PostS Γ C oa ob g' H' De (f x m) → R v H') : Post Γ C.W rep σ g H R r := by
  cases r with
  | ok x m => exact fun g' H' v p t rel hv => k g' H' m v x p t rel hv (PostS.mono p.v t q)
  | ex c fs m => exact PostX.mono le (TK.refl _) (q σ)
  | bad => exact q
theorem PostS.nx {a : A} (q : PostS Γ C oa ob g H De (.ok (.nx a) m)) (at0 : At Γ C (oa a) σ H g m) : De.nx σ H := q g H σ (Lv0.refl g) (TK.refl H) at0
theorem PostS.rt {d : D} {v : V} (q : PostS Γ C oa ob g H De (.ok (.rt d) m)) (le : Le C.gB g) (rel : Rel Γ g m H) (hv : Rep Γ.K g H v d) : De.rt v H := q g H v le (Lv0.refl g) (TK.refl H) rel hv
theorem At.less {ρ' : List Sl} (a : At Γ C ρ σ H g m) (s : Sub ρ' ρ) : At Γ C ρ' σ H g m := ⟨a.le, a.rel, a.rs.less s, a.tw⟩
theorem s_seq {st : Stmt} {rest : List Stmt} {t1 : M (Fl A' B)} {f : A' → M (Fl A B)} (h1 : PS X st (tS ⟨X.K, C.cls⟩ C oa' ob ρ t1)) (h2 : ∀ a, PSsc X C (oa' a) rest oa ob (f a)) : PSsc X C ρ (st :: rest) oa ob (seq t1 f) := by
  have h2' : PSs X rest (fun De σ H => ∃ a, tS ⟨X.K, C.cls⟩ C oa ob (oa' a) (f a) De σ H) := ⟨fun pins s σ H De I ⟨a, q⟩ => (h2 a).run pins s σ H De I q⟩
  refine pss_imp (pss_cons h1 h2') fun De σ H q => ?_
  obtain ⟨g, m, at0, q⟩ := q
  refine ⟨g, m, at0, ?_⟩
  unfold seq bnd at q
  cases hz : t1 m with
  | ok o m1 =>
    rw [hz, bind_ok] at q
    cases o with
    | nx a => exact fun g' H' σ' p t at1 => ⟨a, g', m1, at1, PostS.mono p t q⟩
    | bk b => exact q
    | ct b => exact q
    | rt d => exact q
  | ex c fs m1 => rw [hz] at q; exact q
  | bad => rw [hz] at q; exact q
theorem s_one {st : Stmt} {t : M (Fl A B)} (h : PS X st (tS ⟨X.K, C.cls⟩ C oa ob ρ t)) : PSsc X C ρ [st] oa ob t := by
  refine pss_imp (pss_cons h pss_nil) fun De σ H q => ?_
  exact q
theorem s_nil {a : A} (s : Sub (oa a) ρ) : PSsc X C ρ [] oa ob (nxt a) := pss_imp pss_nil fun De σ H q => by
  obtain ⟨g, m, at0, q⟩ := q
  exact PostS.nx q (at0.less s)
theorem pss_dead {st : Stmt} {rest : List Stmt} {t : TS} (h : PS X st t) (hn : ∀ De σ H, t De σ H → t { De with nx := fun _ _ => False } σ H) : PSs X (st :: rest) t := by
  have h2 : PSs X rest (fun _ _ _ => False) := ⟨fun _ _ _ _ _ _ q => q.elim⟩
  exact pss_imp (pss_cons h h2) fun De σ H q => hn De σ H q
theorem s_ret {rest : List Stmt} {e : Expr} {c : M D} {pos : Pos} (h : PEc X C ρ e c) : PSsc X C ρ (.Return (some e) pos :: rest) oa ob (rtn c) := pss_imp (pss_dead (ps_ret h) fun _ _ _ q => q) fun De σ H q => by
  obtain ⟨g, m, at0, q⟩ := q
  exact ⟨g, m, at0, PostS.bind at0.le q fun g' H' m' v x p t rel' hv q' => PostS.rt q' (at0.le.trans p) rel' hv⟩
theorem if_ok {e : Expr} {c : M D} {a b : List Stmt} {t u : M (Fl A B)} {pos : Pos} (hc : PTc X C ρ e c) (ha : PSsc X C ρ a oa ob t) (hb : PSsc X C ρ b oa ob u) : PS X (.If e a b pos) (tS ⟨X.K, C.cls⟩ C oa ob ρ (iff c t u)) := ps_imp (ps_if hc ha hb) fun De σ H q => by
  obtain ⟨g, m, at0, q⟩ := q
  refine ⟨g, m, at0, ?_⟩
  unfold iff bnd at q
  unfold bnd
  cases hz : c m with
  | ok x m1 =>
    rw [hz, bind_ok] at q
    rw [bind_ok]
    change PostS ⟨X.K, C.cls⟩ C oa ob g H De ((tru x m1).bind fun k m2 => (if k = true then t else u) m2) at q
    cases hb : truth x m1 with
    | none =>
      have e : tru x m1 = .bad := by unfold tru ask; rw [hb]
      rw [e] at q
      exact q.elim
    | some b =>
      rw [tru_of hb, bind_ok] at q
      rw [tru_of hb]
      intro g' H' v p t' rel' e
      subst e
      cases v with
      | true => exact iteT ⟨g', m1, at0.mono p t' rel', PostS.mono p.v t' q⟩
      | false => exact iteF ⟨g', m1, at0.mono p t' rel', PostS.mono p.v t' q⟩
  | ex c fs m1 => rw [hz] at q; exact PostX.mono at0.le (TK.refl _) (q σ)
  | bad => rw [hz] at q; exact q
theorem s_if {e : Expr} {c : M D} {a b rest : List Stmt} {t u : M (Fl A' B)} {f : A' → M (Fl A B)} {pos : Pos} (hc : PTc X C ρ e c) (ha : PSsc X C ρ a oa' ob t) (hb : PSsc X C ρ b oa' ob u) (hr : ∀ a, PSsc X C (oa' a) rest oa ob (f a)) : PSsc X C ρ (.If e a b pos :: rest) oa ob (seq (iff c t u) f) := s_seq (if_ok hc ha hb) hr
theorem s_ifL {e : Expr} {c : M D} {a b : List Stmt} {t u : M (Fl A B)} {pos : Pos} (hc : PTc X C ρ e c) (ha : PSsc X C ρ a oa ob t) (hb : PSsc X C ρ b oa ob u) : PSsc X C ρ [.If e a b pos] oa ob (iff c t u) := s_one (if_ok hc ha hb)
theorem s_frz {i : Nat} {xs : List D} {st : List Stmt} {t : M (Fl A B)} (hi : ρ[i]? = some (.own xs)) (h : PSsc X C (ρ.set i (.val (.fl xs))) st oa ob t) : PSsc X C ρ st oa ob t := pss_imp h fun De σ H q => by
  obtain ⟨g, m, at0, q⟩ := q
  obtain ⟨p, vs, h1, h2, h3, h4, h5⟩ := at0.own hi
  have lv : Lv0 g ((g.outP p).addF p (HO.lst vs)) := ⟨List.prefix_refl _, fun _ z => List.mem_cons_of_mem _ z⟩
  refine ⟨(g.outP p).addF p (HO.lst vs), m, ⟨⟨at0.le.hs, fun q hq => List.mem_cons_of_mem _ (at0.le.fz q hq), fun q hq => mem_outP.mpr ⟨at0.le.pv q hq, fun z => h5 q.2 (by have z : q.1 = p := z; rw [← z]; exact hq)⟩⟩, at0.rel.frzP h2, at0.rs.outP hi h1 lv (fun q hq hz => mem_outP.mpr ⟨hq, hz⟩) (.fl List.mem_cons_self (h4.mono lv (TK.refl _))), at0.tw⟩, PostS.mono lv (TK.refl _) q⟩
def rK {α : Type} (K : PySem.W.Frag) (s : α → Sl) (g0 g : Gh) (H : Hp) (v : V) (a : α) : Prop := match s a with
  | .un => False
  | .raw _ => False
  | .val d => Rep K g H v d
  | .own xs => ∃ p vs, v = .ref p ∧ (p, HO.lst vs) ∈ g.pv ∧ RepL K g H vs xs ∧ ∀ u, (p, u) ∉ g0.pv
def tK {α : Type} (Γ : Cst) (C : Cc) (ρ : List Sl) (s : α → Sl) (t : M α) : TE := fun σ H Q => ∃ g m, At Γ C ρ σ H g m ∧ Post Γ C.W (rK Γ.K s g) σ g H Q (t m)
abbrev PEk {α : Type} (X : Cx) (C : Cc) (ρ : List Sl) (e : Expr) (s : α → Sl) (t : M α) : Prop := PE X e (tK ⟨X.K, C.cls⟩ C ρ s t)
theorem k_val {e : Expr} {t : M D} (h : PEc X C ρ e t) : PEk X C ρ e Sl.val t := pe_imp h fun σ H Q q => q
def ownM (t : M (List D)) : M (List D) := bnd t fun xs => if xs.length ≤ sizeLine then ret xs else bad
theorem Post.newP {W : WX} {Q : VK} {xs : List D} {vs : List V} {p : Addr} {g0 : Gh} (q : Post Γ W (rK Γ.K Sl.own g0) σ g H Q (.ok xs m)) (le : ∀ z, z ∈ g0.pv → z ∈ g.pv) (rel : Rel Γ g m H) (r : RepL Γ.K g H vs xs) (hp : H p = none) : Q (.ref p) (upd H p (.lst vs)) :=
  q (g.addP p (.lst vs)) _ _ le_addP (TK.new hp) (rel.newP hp) ⟨p, vs, rfl, List.mem_cons_self, r.mono le_addP.v (TK.new hp), fun u hu => rel.freshP hp (le _ hu)⟩
theorem tK.bind {α β : Type} {s : β → Sl} {t : M α} {f : α → M β} {rep : Gh → Hp → V' → α → Prop} {Q : VK} {R : V' → Hp → Prop} (q : tK Γ C ρ s (bnd t f) σ H Q)
    (k : ∀ g0 g' H' m v x, Le g0 g' → At Γ C ρ σ H' g' m → rep g' H' v x → Post Γ C.W (rK Γ.K s g0) σ g' H' Q (f x m) → R v H') : tG Γ C ρ rep t σ H R := by
  obtain ⟨g, m, a, q⟩ := q
  exact ⟨g, m, a, Post.bind q fun g' H' m' v x p t rel' hv q' => k g g' H' m' v x p (a.mono p t rel') hv q'⟩
theorem k_lst {es : List Expr} {cs : M (List D)} {pos : Pos} (h : PAc X C ρ es cs) : PEk X C ρ (.List es pos) Sl.own (ownM cs) :=
  pe_imp (pe_lst h) fun σ H Q q => by
    refine tK.bind q fun g0 g1 H1 m1 v1 x1 p1 at1 hv1 q1 => ?_
    obtain ⟨hz, q1⟩ := Post.ite q1
    exact ⟨by rw [hv1.length]; exact hz, fun p hp => Post.newP q1 p1.pv at1.rel hv1 hp⟩
theorem At.setK {α : Type} {s : α → Sl} {a : α} {v : V} {g0 : Gh} {m0 : Hs} {H0 : Hp} {i : Nat} (at0 : At Γ C ρ σ H0 g0 m0) (at1 : At Γ C ρ σ H g m) (hv : rK Γ.K s g0 g H v a) : At Γ C (ρ.set i (s a)) (σ.set i (some v)) H g m := by
  unfold rK at hv
  split at hv
  · exact hv.elim
  · exact hv.elim
  · rename_i d hd
    rw [hd]
    exact at1.set hv i
  · rename_i xs hx
    rw [hx]
    obtain ⟨p, vs, rfl, h2, h3, h4⟩ := hv
    have nop : ∀ (j : Nat) ys, ρ[j]? = some (Sl.own ys) → σ[j]? = some (some (V.ref p)) → False := fun j ys hj h1 => by
      obtain ⟨b, ws, h5, h6, _⟩ := at0.rs.own j ys hj
      rw [h1] at h5
      cases h5
      exact h4 _ h6
    have h := at1.rs
    refine ⟨at1.le, at1.rel, ⟨by rw [List.length_set, List.length_set]; exact h.len, fun j e hj => ?_, fun j ys hj => ?_, fun j l ys zs b hj hl h1 h2 => ?_, fun j w hj => by
      rcases set_at hj with ⟨rfl, e, hi⟩ | ⟨hij, hj⟩
      · cases e
      · rw [List.getElem?_set_ne hij]; exact h.raw j w hj⟩, at1.tw⟩
    · rcases set_at hj with ⟨rfl, e, hi⟩ | ⟨hij, hj⟩
      · cases e
      · obtain ⟨u, h1, h2⟩ := h.val j e hj
        exact ⟨u, by rw [List.getElem?_set_ne hij]; exact h1, h2⟩
    · rcases set_at hj with ⟨rfl, e, hi⟩ | ⟨hij, hj⟩
      · cases e
        exact ⟨p, vs, by rw [List.getElem?_set_self (by rw [← h.len]; exact hi)], h2, h3, fun u hu => h4 _ (at0.le.pv _ hu)⟩
      · obtain ⟨b, ws, h1, h2⟩ := h.own j ys hj
        exact ⟨b, ws, by rw [List.getElem?_set_ne hij]; exact h1, h2⟩
    · rcases set_at hj with ⟨rfl, e, hi⟩ | ⟨hij, hj⟩
      · rcases set_at hl with ⟨e2, _, _⟩ | ⟨hil, hl⟩
        · exact e2
        · rw [List.getElem?_set_self (by rw [← h.len]; exact hi)] at h1
          cases h1
          rw [List.getElem?_set_ne hil] at h2
          exact (nop _ _ hl h2).elim
      · rw [List.getElem?_set_ne hij] at h1
        rcases set_at hl with ⟨rfl, e, hi⟩ | ⟨hil, hl⟩
        · rw [List.getElem?_set_self (by rw [← h.len]; exact hi)] at h2
          cases h2
          exact (nop _ _ hj h1).elim
        · rw [List.getElem?_set_ne hil] at h2
          exact h.inj j l _ _ b hj hl h1 h2
theorem pss_ex {I : Type} {st : List Stmt} {T : I → TS} (h : ∀ i, PSs X st (T i)) : PSs X st (fun De σ H => ∃ i, T i De σ H) := ⟨fun pins s σ H De I ⟨i, q⟩ => (h i).run pins s σ H De I q⟩
theorem s_set {α : Type} {rest : List Stmt} {tg e : Expr} {i : Nat} {s : α → Sl} {t : M α} {f : α → M (Fl A B)} {pos : Pos} (he : PEk X C ρ e s t) (hg : PG X tg (gName i)) (hr : ∀ a, PSsc X C (ρ.set i (s a)) rest oa ob (f a)) (hs : swapsWithSole [tg] e pos.line X.env = pure false := by rfl) (hw : swappedStores [tg] e X.env = pure none := by rfl)
    (h1 : (assignEach [tg] X.env).map (·.2) = [assign tg X.env] := by rfl) : PSsc X C ρ (.Assign [tg] e pos :: rest) oa ob (bnd t f) := by
  refine pss_imp (pss_cons (ps_asg he hg hs hw h1) (pss_ex hr)) fun De σ H q => ?_
  obtain ⟨g, m, at0, q⟩ := q
  refine ⟨g, m, at0, PostS.bind at0.le q fun g1 H1 m1 v x p t1 rel1 hv q1 => ?_⟩
  exact ⟨x, g1, m1, At.setK at0 (at0.mono p t1 rel1) hv, q1⟩
theorem s_asgP {rest : List Stmt} {tg e : Expr} {is : List Nat} {P : Pt} {t : M D} {f : D → M (Fl A B)} {pos : Pos} (he : PEc X C ρ e t) (hg : PGc X C tg is P) (hr : ∀ x, Bd1 P ρ x (f x) fun ρ' t => PSsc X C ρ' rest oa ob t) (hs : swapsWithSole [tg] e pos.line X.env = pure false := by rfl) (hw : swappedStores [tg] e X.env = pure none := by rfl)
    (h1 : (assignEach [tg] X.env).map (·.2) = [assign tg X.env] := by rfl) : PSsc X C ρ (.Assign [tg] e pos :: rest) oa ob (bnd t f) := by
  have hr' : PSs X rest (fun De σ H => ∃ ρ' t, PSsc X C ρ' rest oa ob t ∧ tS ⟨X.K, C.cls⟩ C oa ob ρ' t De σ H) := ⟨fun pins s σ H De I q => by
    obtain ⟨ρ', t, h, q⟩ := q
    exact h.run pins s σ H De I q⟩
  refine pss_imp (pss_cons (ps_asg he hg hs hw h1) hr') fun De σ H q => ?_
  obtain ⟨g, m, at0, q⟩ := q
  refine ⟨g, m, at0, PostS.bind at0.le q fun g1 H1 m1 v x p t1 rel1 hv q1 => ?_⟩
  rcases hr x with hb | ⟨ρ', hb, hT⟩
  · rw [hb] at q1
    exact q1.elim
  · exact ⟨g1, m1, ρ, x, ρ', at0.mono p t1 rel1, hv, hb, fun σ' at1 _ => ⟨ρ', f x, hT, g1, m1, at1, q1⟩⟩
theorem s_par3 {α β γ : Type} {rest : List Stmt} {i j l : Nat} {x y z : Str} {a b c : Expr} {s1 : α → Sl} {s2 : β → Sl} {s3 : γ → Sl} {ta : M α} {tb : M β} {tc : M γ} {f : α → β → γ → M (Fl A B)} {px py pz pt pos : Pos} {kt k2 pt2} (hc : X.calm = true) (hN : X.N.Nodup) (hi : X.N[i]? = some x) (hj : X.N[j]? = some y) (hl : X.N[l]? = some z) (hij : i ≠ j) (hil : i ≠ l) (hjl : j ≠ l)
    (hx : X.env.scope.names.lookup x = some .local) (hy : X.env.scope.names.lookup y = some .local) (hz : X.env.scope.names.lookup z = some .local) (ha : PEk X C ρ a s1 ta) (hb : PEk X C ρ b s2 tb) (hc' : PEk X C ρ c s3 tc) (hr : ∀ u v w, PSsc X C (((ρ.set i (s1 u)).set j (s2 v)).set l (s3 w)) rest oa ob (f u v w))
    (hw : swappedStores [.Tuple [.Name x px, .Name y py, .Name z pz] kt pt] (.Tuple [a, b, c] k2 pt2) X.env = pure (some [x, y, z]))
    (hs : swapsWithSole [.Tuple [.Name x px, .Name y py, .Name z pz] kt pt] (.Tuple [a, b, c] k2 pt2) pos.line X.env = pure false := by rfl) (hs1 : starEach [a, b, c] X.env = (false, eval a X.env) :: starEach [b, c] X.env := by rfl) (hs2 : starEach [b, c] X.env = (false, eval b X.env) :: starEach [c] X.env := by rfl) (hs3 : starEach [c] X.env = (false, eval c X.env) :: starEach [] X.env := by rfl) :
    PSsc X C ρ (.Assign [.Tuple [.Name x px, .Name y py, .Name z pz] kt pt] (.Tuple [a, b, c] k2 pt2) pos :: rest) oa ob (bnd ta fun u => bnd tb fun v => bnd tc fun w => f u v w) := by
  refine pss_imp (pss_cons (ps_par3 hc hN hi hj hl hij hil hjl hx hy hz (pa_cons ha (pa_cons hb (pa_cons hc' pa_nil hs3) hs2) hs1) hw hs) (pss_ex (T := fun p : α × β × γ => tS ⟨X.K, C.cls⟩ C oa ob (((ρ.set i (s1 p.1)).set j (s2 p.2.1)).set l (s3 p.2.2)) (f p.1 p.2.1 p.2.2)) fun p => hr p.1 p.2.1 p.2.2)) fun De σ H q => ?_
  obtain ⟨g, m, at0, q⟩ := q
  have up : ∀ {δ : Type} {s : δ → Sl} {ga gb gc : Gh} {Hb Hc : Hp} {v : V} {x : δ}, Le gb gc → TK Hb Hc → rK X.K s ga gb Hb v x → rK X.K s ga gc Hc v x := fun {δ s ga gb gc Hb Hc v x} p t hv => by
    unfold rK at hv ⊢
    split at hv
    · exact hv
    · exact hv
    · exact hv.mono p.v t
    · obtain ⟨a, vs, e, h2, h3, h4⟩ := hv
      exact ⟨a, vs, e, p.pv _ h2, h3.mono p.v t, h4⟩
  refine ⟨g, m, at0, PostS.bind at0.le q fun g1 H1 m1 v1 x1 p1 t1 rel1 hv1 q1 => ?_⟩
  have at1 := at0.mono p1 t1 rel1
  refine ⟨g1, m1, at1, PostS.bind at1.le q1 fun g2 H2 m2 v2 x2 p2 t2 rel2 hv2 q2 => ?_⟩
  have at2 := at1.mono p2 t2 rel2
  refine ⟨g2, m2, at2, PostS.bind at2.le q2 fun g3 H3 m3 v3 x3 p3 t3 rel3 hv3 q3 => ?_⟩
  have at3 := at2.mono p3 t3 rel3
  refine ⟨_, _, _, rfl, (x1, x2, x3), g3, m3, ?_, q3⟩
  have a11 : At ⟨X.K, C.cls⟩ C (ρ.set i (s1 x1)) (σ.set i (some v1)) H1 g1 m1 := At.setK at0 at1 hv1
  have a12 : At ⟨X.K, C.cls⟩ C (ρ.set i (s1 x1)) (σ.set i (some v1)) H2 g2 m2 := a11.mono p2 t2 rel2
  have a13 : At ⟨X.K, C.cls⟩ C (ρ.set i (s1 x1)) (σ.set i (some v1)) H3 g3 m3 := a12.mono p3 t3 rel3
  have a22 : At ⟨X.K, C.cls⟩ C ((ρ.set i (s1 x1)).set j (s2 x2)) ((σ.set i (some v1)).set j (some v2)) H2 g2 m2 := At.setK a11 a12 hv2
  have a23 := a22.mono p3 t3 rel3
  exact At.setK (i := l) a22 a23 hv3
end
end G
namespace G
open PySem L2
section
variable {X : Cx} {C : Cc} {ρ : List Sl} {k : Nat} {A B A' B' : Type} {oa : A → List Sl} {ob : B → List Sl} {oa' : A' → List Sl} {g g' : Gh} {H H' : Hp} {De : Ends} {Γ : Cst} {σ : L2.St} {m : Hs}
def gT (Γ : Cst) (C : Cc) (ρ : List Sl) (t : D → M Unit) : TG := fun v σ H Q => ∃ g m d, At Γ C ρ σ H g m ∧ Rep Γ.K g H v d ∧
  (match t d m with
    | .ok _ m' => ∀ g' H', Le g g' → TK H H' → Rel Γ g' m' H' → Q σ H'
    | .ex c fs m' => ∀ σ, PostX Γ C.W σ C.gB H c fs m'
    | .bad => False)
abbrev PTg (X : Cx) (C : Cc) (ρ : List Sl) (e : Expr) (t : D → M Unit) : Prop := PG X e (gT ⟨X.K, C.cls⟩ C ρ t)
theorem put_in {f : Hs → Option Hs} {R : Unit → Hs → Prop} {P : Nat → List (Str × D) → Hs → Prop} (q : match put f m with | .ok _ m' => R () m' | .ex c fs m' => P c fs m' | .bad => False) : ∃ m', f m = some m' ∧ R () m' := by
  unfold put at q
  cases hz : f m with
  | none => rw [hz] at q; exact q.elim
  | some m' => rw [hz] at q; exact ⟨m', rfl, q⟩
theorem tg_sub {o i : Expr} {a b : M D} {pos : Pos} (ho : PEc X C ρ o a) (hi : PEc X C ρ i b) (ha : ∀ v, assign (.Subscript o i pos) X.env v = (do
      let ov ← holding [v] (eval o X.env)
      let iv ← holding [v, ov] (eval i X.env)
      standAt pos
      holding [v, ov, iv] (setItem ov iv v)
      release [v, ov, iv] []) := by intro _; rfl) : PTg X C ρ (.Subscript o i pos) (subT a b) := pg_imp (pg_sub ho hi set_list ha) fun v σ H Q q => by
  obtain ⟨g, m, d, at0, hv, q⟩ := q
  refine ⟨g, m, at0, ?_⟩
  unfold subT bnd at q
  cases hz : a m with
  | ok x m1 =>
    rw [hz, bind_ok] at q
    intro g1 H1 w p t rel1 hw
    refine ⟨g1, m1, at0.mono p t rel1, ?_⟩
    cases hz2 : b m1 with
    | ok y m2 =>
      simp only [hz2, bind_ok] at q
      intro g2 H2 w2 p2 t2 rel2 hw2
      obtain ⟨m3, hs, q⟩ := put_in (P := fun c fs m' => ∀ σ, PostX ⟨X.K, C.cls⟩ C.W σ C.gB H c fs m') (R := fun _ m' => ∀ g' H', Le g g' → TK H H' → Rel ⟨X.K, C.cls⟩ g' m' H' → Q σ H') q
      have hw' := hw.mono p2.v t2
      cases hw' with
      | @ref aa nn hg =>
        cases hw2 with
        | int kk =>
          simp only [itmO] at hs
          cases hn : m2[nn]? with
          | none => rw [hn] at hs; cases hs
          | some ob =>
            rw [hn] at hs
            cases ob with
            | ins c fs => cases hs
            | exc c fs => cases hs
            | dct _ _ => cases hs
            | sd _ _ => cases hs
            | zd _ _ => cases hs
            | lst ds =>
              simp only at hs
              cases hj : ixD ds.length kk with
              | none => rw [hj] at hs; cases hs
              | some j =>
                rw [hj] at hs
                cases hs
                obtain ⟨xs, h1, h2⟩ := rel2.lst hn hg
                have mu : Mut (H2 aa) := by rw [h1]; trivial
                refine ⟨_, xs, kk, j, rfl, rfl, h1, by rw [h2.length]; exact hj, q g2 _ (p.trans p2) ((t.trans t2).trans (TK.mut mu)) (rel2.write mu hg ⟨_, upd_same, ?_⟩)⟩
                exact (h2.mono (Lv0.refl g2) (TK.mut mu)).set (((hv.mono p.v t).mono p2.v t2).mono (Lv0.refl g2) (TK.mut mu)) j
        | _ => simp [itmO] at hs
      | _ => cases hw2 <;> simp [itmO] at hs
    | ex c fs m2 => simp only [hz2] at q; exact PostX.mono (at0.le.trans p) t (q σ)
    | bad => simp only [hz2] at q; exact q
  | ex c fs m1 => rw [hz] at q; exact PostX.mono at0.le (TK.refl _) (q σ)
  | bad => rw [hz] at q; exact q
theorem tgt_then {t : D → M Unit} {d : D} {v : V} {f : M (Fl A B)} {Q : L2.St → Hp → Prop} (at0 : At ⟨X.K, C.cls⟩ C ρ σ H g m) (hv : Rep X.K g H v d) (q : PostS ⟨X.K, C.cls⟩ C oa ob g H De (bnd (t d) (fun _ => f) m))
    (k : ∀ g' H' m', At ⟨X.K, C.cls⟩ C ρ σ H' g' m' → Le g g' → TK H H' → PostS ⟨X.K, C.cls⟩ C oa ob g' H' De (f m') → Q σ H') : gT ⟨X.K, C.cls⟩ C ρ t v σ H Q := by
  refine ⟨g, m, d, at0, hv, ?_⟩
  unfold bnd at q
  cases hz : t d m with
  | ok r m1 => rw [hz, bind_ok] at q; exact fun g' H' p t' rel' => k g' H' m1 (at0.mono p t' rel') p t' (PostS.mono p.v t' q)
  | ex c fs m1 => rw [hz] at q; exact q
  | bad => rw [hz] at q; exact q
theorem s_tgt {rest : List Stmt} {tg e : Expr} {c : M D} {t : D → M Unit} {f : M (Fl A B)} {pos : Pos} (he : PEc X C ρ e c) (hg : PTg X C ρ tg t) (hr : PSsc X C ρ rest oa ob f) (hs : swapsWithSole [tg] e pos.line X.env = pure false := by rfl) (hw : swappedStores [tg] e X.env = pure none := by rfl)
    (h1 : (assignEach [tg] X.env).map (·.2) = [assign tg X.env] := by rfl) : PSsc X C ρ (.Assign [tg] e pos :: rest) oa ob (bnd c fun x => bnd (t x) fun _ => f) := pss_imp (pss_cons (ps_asg he hg hs hw h1) hr) fun De σ H q => by
  obtain ⟨g, m, at0, q⟩ := q
  refine ⟨g, m, at0, PostS.bind at0.le q fun g1 H1 m1 v x p t1 rel1 hv q1 => ?_⟩
  exact tgt_then (at0.mono p t1 rel1) hv q1 fun g' H' m' at1 _ _ q2 => ⟨g', m', at1, q2⟩
theorem PostS.ask {α : Type} {f : Hs → Option α} {h : α → M (Fl A B)} (q : PostS Γ C oa ob g H De (bnd (ask f) h m)) : ∃ x, f m = some x ∧ PostS Γ C oa ob g H De (h x m) := by
  unfold bnd G.ask at q
  cases hz : f m with
  | none => rw [hz] at q; exact q.elim
  | some x => rw [hz] at q; exact ⟨x, rfl, q⟩
theorem PostS.put {f : Hs → Option Hs} {h : M (Fl A B)} (q : PostS Γ C oa ob g H De (bnd (put f) (fun _ => h) m)) : ∃ m', f m = some m' ∧ PostS Γ C oa ob g H De (h m') := by
  unfold bnd G.put at q
  cases hz : f m with
  | none => rw [hz] at q; exact q.elim
  | some x => rw [hz] at q; exact ⟨x, rfl, q⟩
theorem s_app {rest : List Stmt} {o e : Expr} {i : Nat} {xs : List D} {c : M D} {f : List D → M (Fl A B)} {pos ap cp : Pos} (ho : PE X o (tVar i)) (hi : ρ[i]? = some (.own xs)) (he : PEc X C ρ e c) (hr : ∀ ys, PSsc X C (ρ.set i (.own ys)) rest oa ob (f ys))
    (h : ∀ {to : TE} {t : TA}, PE X o to → PA X [e] t → PE X (.Call (.Attribute o "append" ap) [e] [] cp) (tBM X.K "list" rAppend to t)) (hst : starEach [e] X.env = [(false, eval e X.env)] := by rfl) (hs : swapsWith (.Call (.Attribute o "append" ap) [e] [] cp) none pos.line X.env = pure false := by rfl) :
    PSsc X C ρ (.Expr (.Call (.Attribute o "append" ap) [e] [] cp) pos :: rest) oa ob (appO xs c f) := pss_imp (pss_cons (ps_expr (h ho (pa_cons he pa_nil hst)) hs) (pss_ex hr)) fun De σ H q => by
  obtain ⟨g, m, at0, q⟩ := q
  obtain ⟨p, vs, h1, h2, h3, h4, h5⟩ := at0.own hi
  refine ⟨_, h1, .inl ⟨rfl, _, SqL.of h3⟩, g, m, at0, PostS.bind at0.le q fun g2 H2 m2 w y p2 t2 rel2 hw q2 => ?_⟩
  have at2 := at0.mono p2 t2 rel2
  split at q2
  · rename_i hlen
    have h2' := p2.pv _ h2
    have h3' := rel2.prv _ _ h2'
    have mu : Mut (H2 p) := by rw [h3']; trivial
    have r' : RepL X.K g2 H2 (vs ++ [w]) (xs ++ [y]) := (h4.mono p2.v t2).append (.cons hw .nil)
    have lv : Lv0 g2 ((g2.outP p).addP p (HO.lst (vs ++ [w]))) := ⟨List.prefix_refl _, fun _ z => z⟩
    refine ⟨p, vs, w, rfl, rfl, h3', by rw [h4.length]; exact hlen, xs ++ [y], (g2.outP p).addP p (.lst (vs ++ [w])), m2, ⟨⟨at2.le.hs, at2.le.fz, fun q hq => List.mem_cons_of_mem _ (mem_outP.mpr ⟨at2.le.pv q hq, fun z => h5 q.2 (by have z : q.1 = p := z; rw [← z]; exact hq)⟩)⟩, rel2.setP mu h2', RelS.setP (vs0 := vs) rel2 at2.rs hi h1 mu h5 r', at2.tw.go (TK.mut mu)⟩, PostS.mono lv (TK.mut mu) q2⟩
  · exact q2.elim
end
end G
namespace G
open PySem L2 PySem.Spec PyProof.Rows
section
variable {X : Cx} {C : Cc} {ρ : List Sl} {k : Nat} {A B A' B' : Type} {oa : A → List Sl} {ob : B → List Sl} {oa' : A' → List Sl} {oi : A' → List Sl} {g g' : Gh} {H H' : Hp} {De : Ends} {Γ : Cst} {σ : L2.St} {m : Hs}
theorem stay_of {gd : List (Nat × List D)} {m : Hs} {α : Type} {f : Unit → M α} (h : stays gd m = true) : bnd (stay gd) f m = f () m := by
  unfold bnd stay
  rw [if_pos h]
  rfl
theorem PostS.stay {gd : List (Nat × List D)} {f : Unit → M (Fl A B)} (q : PostS Γ C oa ob g H De (bnd (G.stay gd) f m)) : stays gd m = true ∧ PostS Γ C oa ob g H De (f () m) := by
  by_cases h : stays gd m = true
  · rw [stay_of h] at q
    exact ⟨h, q⟩
  · unfold bnd G.stay at q
    rw [if_neg h] at q
    exact q.elim
theorem for_ok {tg iter : Expr} {body : List Stmt} {is : List Nat} {P : Pt} {src : M Its} {s0 : A'} {b : D → A' → M (Fl A' A')} {pos : Pos} (hp : PassesOwn (model X.prog X.w) X.A X.env X.xe) (hc : X.calm = true) (hi : PIc X C ρ tg iter src) (hg : PGc X C tg is P) (h0 : Sub (oi s0) ρ)
    (hb : ∀ x s, Bd1 P (oi s) x (b x s) fun ρ' t => PSsc X C ρ' body oi oi t)
    (hs : ∀ x, foldedSetIterable iter X.env x = pure x := by intro _; rfl) : PS X (.For tg iter body [] pos) (tS ⟨X.K, C.cls⟩ C oi ob ρ (forM src s0 b)) := by
  have hb' : PSs X body (fun De σ H => ∃ ρ' t, PSsc X C ρ' body oi oi t ∧ tS ⟨X.K, C.cls⟩ C oi oi ρ' t De σ H) := ⟨fun pins s σ H De I q => by
    obtain ⟨ρ', t, h, q⟩ := q
    exact h.run pins s σ H De I q⟩
  refine ps_imp (ps_for hp hc hi hg hb' hs) fun De σ H q => ?_
  obtain ⟨g, m, at0, q⟩ := q
  refine ⟨g, m, at0, PostS.bind at0.le q fun g1 H1 m1 J z p1 t1 rel1 hv1 q1 => ?_⟩
  obtain ⟨its, gd⟩ := z
  have at1 := at0.mono p1 t1 rel1
  refine ⟨fun i n σ' H' => n = its.length - i ∧ ∃ g m s, Lv0 g1 g ∧ TK H1 H' ∧ At ⟨X.K, C.cls⟩ C (oi s) σ' H' g m ∧ PostS ⟨X.K, C.cls⟩ C oi ob g H' De (forL gd b (its.drop i) s m),
    ⟨its.length, by simp, g1, m1, s0, Lv0.refl _, TK.refl _, at1.less h0, by simpa using q1⟩, ?_⟩
  rintro i n σ' H' ⟨rfl, g2, m2, s2, pg, tk, at2, q2⟩
  have rel2 := at2.rel
  have st : stays gd m2 = true := by
    cases hd : its.drop i with
    | nil => rw [hd] at q2; exact (PostS.stay q2).1
    | cons x xs => rw [hd] at q2; exact (PostS.stay q2).1
  have hI := hv1 g2 m2 H' pg tk rel2 st i
  cases hit : its[i]? with
  | none =>
    refine .inl ⟨hI.2 hit, ?_⟩
    have hd : its.drop i = [] := List.drop_eq_nil_of_le (List.getElem?_eq_none_iff.mp hit)
    rw [hd] at q2
    exact PostS.nx (PostS.stay q2).2 at2
  | some d =>
    obtain ⟨hgo, hy⟩ := hI.1 d hit
    have hil : i < its.length := (List.getElem?_eq_some_iff.mp hit).1
    have hd : its.drop i = d :: its.drop (i + 1) := by
      rw [List.drop_eq_getElem_cons hil]
      congr 1
      exact (List.getElem?_eq_some_iff.mp hit).2
    rw [hd] at q2
    have q2' := (PostS.stay q2).2
    clear q2
    refine .inr ⟨hgo, fun σ3 H3 => ∃ g m s, Lv0 g1 g ∧ TK H1 H3 ∧ At ⟨X.K, C.cls⟩ C (oi s) σ3 H3 g m ∧ PostS ⟨X.K, C.cls⟩ C oi ob g H3 De (forL gd b (its.drop (i + 1)) s m),
      fun σ3 H3 h3 => ⟨its.length - (i + 1), by omega, rfl, h3⟩, fun x H3 y => ?_⟩
    obtain ⟨tk3, rel3, hx3⟩ := hy x H3 y
    have q3 := PostS.mono (Lv0.refl g2) tk3 q2'
    have at3 := at2.keep tk3 rel3
    rcases hb d s2 with hbad | ⟨ρ', hbp, hT⟩
    · rw [hbad] at q3
      exact q3.elim
    · refine ⟨g2, m2, oi s2, d, ρ', at3, hx3, hbp, fun σ4 at4 _ => ⟨ρ', b d s2, hT, g2, m2, at4, ?_⟩⟩
      unfold bnd at q3
      cases hz : b d s2 m2 with
      | ok o m3 =>
        rw [hz, bind_ok] at q3
        cases o with
        | nx s4 => exact fun g5 H5 σ5 p5 t5 at5 => ⟨g5, m3, s4, pg.trans p5, (tk.trans tk3).trans t5, at5, PostS.mono p5 t5 q3⟩
        | ct s4 => exact fun g5 H5 σ5 p5 t5 at5 => ⟨g5, m3, s4, pg.trans p5, (tk.trans tk3).trans t5, at5, PostS.mono p5 t5 q3⟩
        | bk s4 => exact fun g5 H5 σ5 p5 t5 at5 => q3 g5 H5 σ5 p5 t5 at5
        | rt d => exact q3
      | ex c fs m3 => rw [hz] at q3; exact q3
      | bad => rw [hz] at q3; exact q3
theorem s_for {rest : List Stmt} {tg iter : Expr} {body : List Stmt} {is : List Nat} {P : Pt} {src : M Its} {s0 : A'} {b : D → A' → M (Fl A' A')} {f : A' → M (Fl A B)} {pos : Pos} (hp : PassesOwn (model X.prog X.w) X.A X.env X.xe) (hc : X.calm = true) (oi : A' → List Sl) (hi : PIc X C ρ tg iter src) (hg : PGc X C tg is P) (h0 : Sub (oi s0) ρ)
    (hb : ∀ x s, Bd1 P (oi s) x (b x s) fun ρ' t => PSsc X C ρ' body oi oi t) (hr : ∀ s, PSsc X C (oi s) rest oa ob (f s))
    (hs : ∀ x, foldedSetIterable iter X.env x = pure x := by intro _; rfl) : PSsc X C ρ (.For tg iter body [] pos :: rest) oa ob (seq (forM src s0 b) f) := s_seq (for_ok hp hc hi hg h0 hb hs) hr
end
theorem gcL_len : ∀ {n : Nat} {m m1 : Hs}, gcL n m m1 = true → m.length ≤ m1.length
  | _, [], _, _ => Nat.zero_le _
  | _, _ :: _, [], h => by simp [gcL] at h
  | n, o :: os, p :: ps, h => by
    simp only [gcL, Bool.and_eq_true] at h
    simp only [List.length_cons]
    exact Nat.succ_le_succ (gcL_len h.2)
theorem gcL_at : ∀ {n : Nat} {m m1 : Hs} {i : Nat} {o p : O}, gcL n m m1 = true → m[i]? = some o → m1[i]? = some p → o = p ∨ belowO n p = true
  | _, [], _, _, _, _, _, h, _ => by simp at h
  | _, _ :: _, [], _, _, _, h, _, _ => by simp [gcL] at h
  | n, a :: os, b :: ps, 0, o, p, h, h1, h2 => by
    simp only [gcL, Bool.and_eq_true, Bool.or_eq_true] at h
    simp at h1 h2
    subst h1
    subst h2
    rcases h.1 with q | q
    · exact .inl (beqO_eq _ _ q)
    · exact .inr q
  | n, a :: os, b :: ps, i + 1, o, p, h, h1, h2 => by
    simp only [gcL, Bool.and_eq_true] at h
    exact gcL_at (i := i) h.2 (by simpa using h1) (by simpa using h2)
section
variable {Γ : Cst} {g g' : Gh} {m m1 : Hs} {H H' : Hp}
theorem ObjR.bel {a : Addr} {o : O} (h : ObjR Γ g H a o) : belowO g.hs.length o = true := by
  cases o with
  | lst ds => obtain ⟨xs, _, h2⟩ := h; exact h2.bel
  | ins c fs => obtain ⟨C, dx, vs, _, _, h2⟩ := h; exact h2.bel
  | exc c fs => obtain ⟨C, d, vs, _, _, _, h2⟩ := h; exact h2.bel
  | dct ks ds =>
    obtain ⟨kvs, _, rfl, h2⟩ := h
    simp only [belowO, Bool.and_eq_true]
    exact ⟨below_keysT _ _, h2.bel⟩
  | sd ks ds =>
    obtain ⟨kvs, _, rfl, h2⟩ := h
    simp only [belowO, Bool.and_eq_true]
    exact ⟨below_keysK _ _, h2.bel⟩
  | zd ks ds =>
    obtain ⟨o, kvs, _, rfl, h2⟩ := h
    simp only [belowO, Bool.and_eq_true]
    exact ⟨below_keysT _ _, h2.bel⟩
theorem ObjR.shrink {a : Addr} {o : O} {n : Nat} (h : ObjR Γ g H a o) (b : belowO n o = true) : ObjR Γ (g.cut n) H a o := by
  cases o with
  | lst ds => obtain ⟨xs, h1, h2⟩ := h; exact ⟨xs, h1, h2.shrink b⟩
  | ins c fs => obtain ⟨C, dx, vs, h0, h1, h2⟩ := h; exact ⟨C, dx, vs, h0, h1, h2.shrink b⟩
  | exc c fs => obtain ⟨C, d, vs, h0, h1, h2, h3⟩ := h; exact ⟨C, d, vs, h0, h1, h2, h3.shrink b⟩
  | dct ks ds =>
    simp only [belowO, Bool.and_eq_true] at b
    obtain ⟨kvs, h1, h2, h3⟩ := h
    exact ⟨kvs, h1, h2, h3.shrink b.2⟩
  | sd ks ds =>
    simp only [belowO, Bool.and_eq_true] at b
    obtain ⟨kvs, h1, h2, h3⟩ := h
    exact ⟨kvs, h1, h2, h3.shrink b.2⟩
  | zd ks ds =>
    simp only [belowO, Bool.and_eq_true] at b
    obtain ⟨o, kvs, h1, h2, h3⟩ := h
    exact ⟨o, kvs, h1, h2, h3.shrink b.2⟩
theorem pre_take {l l' : List Addr} (p : l <+: l') : l'.take l.length = l := by
  obtain ⟨r, rfl⟩ := p
  simp
theorem Rel.gc (R : Rel Γ g m H) (p : Le g g') (R' : Rel Γ g' m1 H') (c : gcL m.length m m1 = true) : Rel Γ (g'.cut m.length) (m1.take m.length) H' := by
  have hl := gcL_len c
  have hh : g'.hs.take m.length = g.hs := by rw [← R.len]; exact pre_take p.hs
  have sub : ∀ a, a ∈ (g'.cut m.length).hs → a ∈ g'.hs := fun a ha => List.mem_of_mem_take ha
  refine ⟨by show (g'.hs.take m.length).length = _; rw [hh, R.len, List.length_take]; omega, by show (g'.hs.take m.length).Nodup; rw [hh]; exact R.inj, fun i o a h1 h2 => ?_, R'.frz, R'.prv, fun a o ha => R'.hf a o (sub a ha), fun a o ha => R'.hp a o (sub a ha), R'.pf, R'.lf, R'.lp, R'.ff, R'.tab⟩
  change (g'.hs.take m.length)[i]? = some a at h2
  rw [hh] at h2
  have hi : i < m.length := by rw [← R.len]; exact (List.getElem?_eq_some_iff.mp h2).1
  rw [List.getElem?_take_of_lt hi] at h1
  have q := R'.obj i o a h1 (pre_get p.hs h2)
  have b : belowO m.length o = true := by
    rcases gcL_at c (List.getElem?_eq_getElem hi) h1 with e | e
    · have z := (R.obj i _ a (List.getElem?_eq_getElem hi) h2).bel
      rw [R.len, e] at z
      exact z
    · exact e
  exact q.shrink b
theorem le_cut (R : Rel Γ g m H) (p : Le g g') : Le g (g'.cut m.length) := ⟨by show g.hs <+: g'.hs.take m.length; rw [← R.len, pre_take p.hs]; exact List.prefix_refl _, p.fz, p.pv⟩
end
theorem relS_start {Γ : Cst} {gB g : Gh} {H : Hp} {vs : List V} {ds : List D} (r : RepL Γ.K g H vs ds) (n : Nat) : RelS Γ gB g H (ds.map Sl.val ++ List.replicate n Sl.un) (vs.map some ++ List.replicate n none) := by
  have key : ∀ (i : Nat) (s : Sl), (ds.map Sl.val ++ List.replicate n Sl.un)[i]? = some s → s = .un ∨ ∃ d v, s = .val d ∧ (vs.map some ++ List.replicate n none)[i]? = some (some v) ∧ Rep Γ.K g H v d := fun i s hd => by
    by_cases hi : i < ds.length
    · rw [List.getElem?_append_left (by simpa using hi), List.getElem?_map, Option.map_eq_some_iff] at hd
      obtain ⟨e, h1, rfl⟩ := hd
      obtain ⟨v, h3, h4⟩ := r.get h1
      exact .inr ⟨e, v, rfl, by rw [List.getElem?_append_left (by simpa [r.length] using hi), List.getElem?_map, h3]; rfl, h4⟩
    · rw [List.getElem?_append_right (by simpa using hi), List.getElem?_replicate] at hd
      split at hd
      · exact .inl (Option.some.inj hd).symm
      · cases hd
  refine ⟨by simp [r.length], fun i d hd => ?_, fun i xs hd => ?_, fun i j xs ys a hd => ?_, fun i v hd => by rcases key i _ hd with e | ⟨d', v, e, h1, h2⟩ <;> cases e⟩
  · rcases key i _ hd with e | ⟨d', v, e, h1, h2⟩
    · cases e
    · cases e
      exact ⟨v, h1, h2⟩
  · rcases key i _ hd with e | ⟨d', v, e, h1, h2⟩
    · cases e
    · cases e
  · rcases key i _ hd with e | ⟨d', v, e, h1, h2⟩
    · cases e
    · cases e
section
variable {P : Program} {w : World} {K : PySem.W.Frag} {mg : Str → Option Value} {base : Heap} {cls : Cl} {k n : Nat}
abbrev noB (e : Empty) : List Sl := nomatch e
abbrev unA (n : Nat) (_ : Unit) : List Sl := List.replicate n Sl.un
theorem Fun.okG {x qual : Str} {st : Stmt} {f : Addr} {fd : FuncData} {N ps : List Str} {sp : Sp} (F : Fun K x qual st f fd) (S : FnScope N ps (defScope st))
    (len : ∀ vs H Q E, sp vs H Q E → vs.length = ps.length)
    (body : ∀ (cdv : Value) (B : Around) (out : List Env) (t : Shared) (H0 : Hp) (xs : List V) (R : VK) (E0 : XK), Room k (B.deeper (envOfC qual (defScope st) t.heap.objs.size f cdv)) → Clr gu B → sp xs H0 R E0 →
      ∃ tt, PSs (cxOf (L2.CX P w) P w K mg base N qual (defScope st) f cdv B out t H0 E0) (defBody st) tt ∧ tt { nx := fun _ H9 => R .non H9, rt := R } (start N xs) H0) :
    FnG gu P w K mg base (L2.CX P w) (k + 1) f fd ps sp := by
  obtain ⟨oc, od, kV, doc, pm, an, cdv, ct, osl, rfl, lk, hcd⟩ := F.ex
  exact fnG_of lk hcd S len (body cdv)
theorem fn_core {x qual : Str} {st : Stmt} {f : Addr} {fd : FuncData} {N ps : List Str} {t : List D → M D} (F : Fun K x qual st f fd) (S : FnScope N ps (defScope st)) (hl : ∀ ds, ds.length ≠ ps.length → t ds = bad)
    (walk : ∀ ds, ds.length = ps.length → ∃ bd : M (Fl Unit Empty), (t ds = fnM bd ∨ t ds = gcM (fnM bd)) ∧ ∀ (cdv : Value) (A : Around) (outer : List Env) (s : Shared) (H : Hp) (E : XK) (gB : Gh), Room k (A.deeper (envOfC qual (defScope st) s.heap.objs.size f cdv)) → Clr gu A →
      PSsc (cxOf (L2.CX P w) P w K mg base N qual (defScope st) f cdv A outer s H E) ⟨cls, fun c d _ H' => E c d H', gB, H⟩ (ds.map Sl.val ++ List.replicate (N.length - ds.length) Sl.un) (defBody st) (unA N.length) noB bd) :
    FnG gu P w K mg base (L2.CX P w) (k + 1) f fd ps (spM ⟨K, cls⟩ t) := by
  have hlen : ∀ (ds : List D) (W : WX) (Q : VK) (g : Gh) (m : Hs) (H : Hp), Post ⟨K, cls⟩ W (rD ⟨K, cls⟩) [] g H Q (t ds m) → ds.length = ps.length := fun ds W Q g m H q => by
    by_cases h : ds.length = ps.length
    · exact h
    · rw [hl ds h] at q
      exact q.elim
  refine Fun.okG F S (fun vs H Q E h => ?_) (fun cdv A outer s H vs Q E hr cl h => ?_)
  · obtain ⟨g, m, ds, rel, rv, q⟩ := h
    rw [rv.length, hlen ds _ _ _ _ _ q]
  · obtain ⟨g, m, ds, rel, rv, q⟩ := h
    obtain ⟨bd, hbd, wk⟩ := walk ds (hlen ds _ _ _ _ _ q)
    refine ⟨_, wk cdv A outer s H E g hr cl, g, m, ⟨Le.refl g, rel, ?_, TW.refl H⟩, ?_⟩
    · unfold L2.start
      rw [rv.length]
      exact relS_start rv _
    · rcases hbd with hbd | hbd
      · rw [hbd] at q
        unfold fnM bnd at q
        cases hz : bd m with
        | ok o m1 =>
          rw [hz, bind_ok] at q
          cases o with
          | rt d => exact fun g' H' v l p t rel' hv => q g' H' v l t rel' hv
          | nx a => exact fun g' H' σ' p t at' => q g' H' .non at'.le t at'.rel .non
          | bk b => exact nomatch b
          | ct b => exact nomatch b
        | ex c fs m1 => rw [hz] at q; exact fun σ => q
        | bad => rw [hz] at q; exact q
      · rw [hbd] at q
        unfold gcM fnM bnd at q
        cases hz : bd m with
        | ok o m1 =>
          rw [hz, bind_ok] at q
          cases o with
          | rt d =>
            intro g' H' v l p t rel' hv
            simp only [fnE, ret, gcR] at q
            split at q
            · rename_i hc
              rw [Bool.and_eq_true] at hc
              exact q _ H' v (le_cut rel l) t (rel.gc l rel' hc.2) (hv.shrink hc.1)
            · exact q g' H' v l t rel' hv
          | nx a =>
            intro g' H' σ' p t at'
            simp only [fnE, ret, gcR] at q
            split at q
            · rename_i hc
              rw [Bool.and_eq_true] at hc
              exact q _ H' .non (le_cut rel at'.le) t (rel.gc at'.le at'.rel hc.2) .non
            · exact q g' H' .non at'.le t at'.rel .non
          | bk b => exact nomatch b
          | ct b => exact nomatch b
        | ex c fs m1 =>
          rw [hz] at q
          intro σ g' H' A' d vs' l t rel' hC hd hf
          simp only [Rs.bind] at q
          split at q
          · rename_i hc
            rw [Bool.and_eq_true] at hc
            exact q _ H' A' d vs' (le_cut rel l) t (rel.gc l rel' hc.2) hC hd (hf.shrink hc.1)
          · exact q g' H' A' d vs' l t rel' hC hd hf
        | bad => rw [hz] at q; exact q.elim
abbrev Wk (gu : Bool) (P : Program) (w : World) (K : PySem.W.Frag) (mg : Str → Option Value) (base : Heap) (cls : Cl) (k : Nat) (N : List Str) (qual : Str) (st : Stmt) (f : Addr) (ρ : List Sl) (bd : M (Fl Unit Empty)) : Prop :=
  ∀ (cdv : Value) (A : Around) (outer : List Env) (s : Shared) (H : Hp) (E : XK) (gB : Gh), Room k (A.deeper (envOfC qual (defScope st) s.heap.objs.size f cdv)) → Clr gu A →
    PSsc (cxOf (L2.CX P w) P w K mg base N qual (defScope st) f cdv A outer s H E) ⟨cls, fun c d _ H' => E c d H', gB, H⟩ ρ (defBody st) (unA N.length) noB bd
section
variable {x qual : Str} {st : Stmt} {f : Addr} {fd : FuncData} {N : List Str} {p1 p2 p3 p4 p5 p6 : Str}
abbrev uns (N : List Str) (n : Nat) : List Sl := List.replicate (N.length - n) Sl.un
theorem fn_1 {t : D → M D} {b : D → M (Fl Unit Empty)} (F : Fun K x qual st f fd) (S : FnScope N [p1] (defScope st)) (ht : (∀ a, t a = fnM (b a)) ∨ (∀ a, t a = gcM (fnM (b a)))) (wk : ∀ a, Wk gu P w K mg base cls k N qual st f (.val a :: uns N 1) (b a)) : FnG gu P w K mg base (L2.CX P w) (k + 1) f fd [p1] (spM ⟨K, cls⟩ (fs1 t)) :=
  fn_core F S (fun ds h => by rcases ds with _ | ⟨a, _ | ⟨b, ds⟩⟩ <;> first | rfl | exact absurd rfl h) fun ds h => match ds, h with
    | [a], _ => ⟨b a, ht.imp (fun h => h a) (fun h => h a), wk a⟩
theorem fn_2 {t : D → D → M D} {b : D → D → M (Fl Unit Empty)} (F : Fun K x qual st f fd) (S : FnScope N [p1, p2] (defScope st)) (ht : (∀ a a2, t a a2 = fnM (b a a2)) ∨ (∀ a a2, t a a2 = gcM (fnM (b a a2)))) (wk : ∀ a a2, Wk gu P w K mg base cls k N qual st f (.val a :: .val a2 :: uns N 2) (b a a2)) : FnG gu P w K mg base (L2.CX P w) (k + 1) f fd [p1, p2] (spM ⟨K, cls⟩ (fs2 t)) :=
  fn_core F S (fun ds h => by rcases ds with _ | ⟨a, _ | ⟨b, _ | ⟨c, ds⟩⟩⟩ <;> first | rfl | exact absurd rfl h) fun ds h => match ds, h with
    | [a, a2], _ => ⟨b a a2, ht.imp (fun h => h a a2) (fun h => h a a2), wk a a2⟩
theorem fn_3 {t : D → D → D → M D} {b : D → D → D → M (Fl Unit Empty)} (F : Fun K x qual st f fd) (S : FnScope N [p1, p2, p3] (defScope st)) (ht : (∀ a a2 a3, t a a2 a3 = fnM (b a a2 a3)) ∨ (∀ a a2 a3, t a a2 a3 = gcM (fnM (b a a2 a3)))) (wk : ∀ a a2 a3, Wk gu P w K mg base cls k N qual st f (.val a :: .val a2 :: .val a3 :: uns N 3) (b a a2 a3)) : FnG gu P w K mg base (L2.CX P w) (k + 1) f fd [p1, p2, p3] (spM ⟨K, cls⟩ (fs3 t)) :=
  fn_core F S (fun ds h => by rcases ds with _ | ⟨a, _ | ⟨b, _ | ⟨c, _ | ⟨d, ds⟩⟩⟩⟩ <;> first | rfl | exact absurd rfl h) fun ds h => match ds, h with
    | [a, a2, a3], _ => ⟨b a a2 a3, ht.imp (fun h => h a a2 a3) (fun h => h a a2 a3), wk a a2 a3⟩
end
theorem law_sp {t : D → M D} {H : Hp} {a : Addr} {ns : List Int} (hO : ∀ b, H b = none ∨ (∃ o xs, H b = some (.frz o (.lst xs))) ∨ ∃ ps, H b = some (.tbl ps)) (hT : ∀ t, t ∈ cls.T → H t.1 = some (.tbl #[])) (hS : SqL K H a (ns.map V.int)) (h : ∃ m, t (.sc (ns.map .int)) [] = .ok (.bl true) m) : spM ⟨K, cls⟩ (fs1 t) [.ref a] H (fun v _ => v = .bl true) (fun _ _ _ => False) := by
  obtain ⟨m, h⟩ := h
  have rl : ∀ l : List Int, RepL K ⟨[], [], []⟩ H (l.map V.int) (l.map D.int) := fun l => by
    induction l with
    | nil => exact .nil
    | cons i l ih => exact .cons (.int i) ih
  refine ⟨⟨[], [], []⟩, [], [.sc (ns.map .int)], ⟨rfl, List.nodup_nil, fun i o a h => by simp at h, fun a o h => by simp at h, fun a o h => by simp at h, fun a o h => by simp at h, fun a o h => by simp at h, fun a o u h => by simp at h, fun p h => by simp at h, fun p h => by simp at h, fun b ob u h => by
    rcases hO b with z | ⟨o, xs, z⟩ | ⟨ps, z⟩
    · rw [z] at h; cases h
    · rw [z] at h; cases h; rfl
    · (rw [z] at h; cases h), fun t ht => ⟨#[], hT t ht, True.intro, fun pos cv hc => by simp [codeAmong] at hc⟩⟩, .cons (.sc (xs := ns.map V.int) ?_ (rl ns)) .nil, ?_⟩
  · rcases hS with (hS | ⟨o, hS⟩) | hS
    · rcases hO a with z | ⟨o, xs, z⟩ | ⟨ps, z⟩
      · rw [hS] at z; cases z
      · rw [hS] at z; cases z
      · rw [hS] at z; cases z
    · exact .inl ⟨o, hS⟩
    · exact .inr fun H' => .inr hS
  · show Post _ _ _ _ _ _ _ (t (.sc (ns.map .int)) [])
    rw [h]
    intro g' H' v _ _ _ hv
    exact rep_bl hv
end
end G
namespace G
open PySem L2 PySem.Spec PyProof.Rows
theorem lawG {P : Program} {w : World} {K : PySem.W.Frag} {gl bl : Str → Option Value} {CX : CXT} {k : Nat} {fa ad : Addr} {fd : FuncData} {x : Str} {sp : Sp} {t0 : Shared} {us : List Value} {zs : List Int}
    (inK : K.In t0.heap) (nsm : t0.heap.Ns mainGlobals gl) (nsb : t0.heap.Ns builtinsNs bl) (boot : ∀ x : Str, x ≠ "__name__" → bl x = bootBuiltins x) (lim : t0.heap.NoLimit) (gens : t0.gens = #[])
    (scr : t0.heap.get? ad = some { cls := .type "list", data := .seq us.toArray }) (isz : IntsAre us zs) (short : zs.length ≤ sizeLine) (room : Room k callerA)
    (F : ∀ b0 : Heap, K.In b0 → b0.Ns mainGlobals gl → FnG true P w K gl b0 CX k fa fd [x] sp) (bnd0 : ∀ (s : Shared) (u : Value), BindsTo s fd ⟨[u], []⟩ [(x, u)])
    (prom : ∀ J : Hp, Only J → SqL K J ad (zs.map V.int) → sp [.ref ad] J (fun v _ => v = .bl true) fun _ _ _ => False)
    (noX : ∀ J e s', CX [] J t0 (fun _ _ _ => False) e s' → False) :
    codeAny (model P w) callerA (.call (.ref fa) ⟨[.ref ad], []⟩) (fun r s' => r = .ok (.ret (.bool true)) ∧ OldK t0.heap s'.heap ∧ s'.os = t0.os ∧ AllBare s'.gens) t0 := by
  have vals := vals_ints isz
  have same := isz.length
  have main : ∀ J : Hp, Only J → SqL K J ad (zs.map V.int) → HOk P w J t0.heap → (∀ b, J b ≠ none → b = ad) → (J ad ≠ none → K.lookup ad = none) →
      codeAny (model P w) callerA (.call (.ref fa) ⟨[.ref ad], []⟩) (fun r s' => r = .ok (.ret (.bool true)) ∧ OldK t0.heap s'.heap ∧ s'.os = t0.os ∧ AllBare s'.gens) t0 := by
    intro J only sq hok atA outK
    have low : ∀ {b : Addr} {o : Obj}, t0.heap.get? b = some o → J b = none → (hidT t0.heap J).get? b = some o := fun e n => hidT_get e n
    have un : ∀ {b : Addr} {o : Obj} {es : Array DictEntry} {ep : Nat}, t0.heap.get? b = some o → o.data = .dict es ep → J b = none := fun {b o es ep} e d => by
      cases q : J b with
      | none => rfl
      | some u =>
        have z : b = ad := atA b (by rw [q]; simp)
        subst z
        rw [scr] at e
        cases e
        have z2 : Data.seq us.toArray _ = Data.dict es ep := d
        cases z2
    have lowN : ∀ {b : Addr} {m : Str → Option Value}, t0.heap.Ns b m → (hidT t0.heap J).Ns b m := fun {b m} ⟨o, es, ep, e, d, r⟩ => ⟨o, es, ep, low e (un e d), d, r⟩
    have lowK : K.In (hidT t0.heap J) := fun b o e => low (inK b o e) (by
      cases q : J b with
      | none => rfl
      | some u =>
        have z : b = ad := atA b (by rw [q]; simp)
        subst z
        rw [outK (by rw [q]; simp)] at e
        cases e)
    have md : Mod K gl (hidT t0.heap J) := ⟨lowK, lowN nsm, ⟨bl, lowN nsb, boot⟩, let ⟨mc, h1, h2⟩ := lim; ⟨mc, lowN h1, h2⟩⟩
    have env : Env0 P w K gl (hidT t0.heap J) callerA [] t0 J := ⟨rfl, md, fun b o e => of_hidT e, Nat.le_of_eq (hidT_size _ _), trivial, fun b hb => absurd (show b ∈ ([] : List Addr) from hb) (by simp), hok, .of_eq gens⟩
    refine codeAny_mono ((F _ lowK (lowN nsm)).run callerA [] t0 J ⟨[.ref ad], []⟩ [.ref ad] [.ref ad] _ _ room (fun _ => rfl) env (bnd0 t0 (.ref ad)) (.cons rfl .nil) (prom J only sq)) fun r s' h => ?_
    match r, h with
    | .error e, h => exact (noX J e s' h).elim
    | .ok .next, h => exact False.elim h
    | .ok .brk, h => exact False.elim h
    | .ok .cont, h => exact False.elim h
    | .ok (.ret u), h =>
      obtain ⟨v, J2, os, bare, unch, hok2, rv, q⟩ := h
      have q' : v = .bl true := q
      subst q'
      have rv' : u = Value.bool true := rv
      subst rv'
      refine ⟨rfl, OldK.of_keep fun b o e => ?_, os, bare⟩
      cases q : J b with
      | none => exact unch.keep b o e q (by intro z; exact absurd (show b ∈ ([] : List Addr) from z) (by simp)) (by simp)
      | some u =>
        rcases only b with z | ⟨ob, xs, z⟩
        · rw [q] at z; cases z
        · have y2 := unch.frzs b ob _ z
          obtain ⟨y3, _⟩ := hok b _ z
          obtain ⟨y4, _⟩ := hok2 b _ y2
          rw [e] at y3
          cases y3
          exact y4
  cases hk : K.lookup ad with
  | some o =>
    have e := inK ad o hk
    rw [scr] at e
    cases e
    exact main (fun _ => none) (fun _ => .inl rfl) (.inr ⟨_, us.toArray, _, hk, rfl, rfl, rfl, by rw [List.size_toArray, same]; exact short, by simpa using vals⟩) (fun b u z => by have z' : (none : Option HO) = some u := z; cases z') (fun b z => absurd rfl z) (fun z => absurd rfl z)
  | none =>
    refine main (fun b => if b = ad then some (.frz { cls := .type "list", data := .seq us.toArray } (.lst (zs.map V.int))) else none) (fun b => ?_) (.inl (.inr ⟨{ cls := .type "list", data := .seq us.toArray }, if_pos rfl⟩)) (fun b u z => ?_) (fun b z => ?_) (fun _ => hk)
    · by_cases hb : b = ad
      · exact .inr ⟨_, _, if_pos hb⟩
      · exact .inl (if_neg hb)
    · by_cases hb : b = ad
      · have y := (if_pos hb).symm.trans z
        cases y
        subst hb
        exact ⟨scr, by rw [List.length_map]; exact short, us, _, vals, scr⟩
      · have y := (if_neg hb).symm.trans z
        cases y
    · by_cases hb : b = ad
      · exact hb
      · exact absurd (if_neg hb) z
theorem FnG.imp {P : Program} {w : World} {K : PySem.W.Frag} {mg : Str → Option Value} {base : Heap} {CX : CXT} {k : Nat} {f : Addr} {fd : FuncData} {ps : List Str} {sp sp' : Sp} (F : FnG true P w K mg base CX k f fd ps sp)
    (h : ∀ vs J Q E, sp' vs J Q E → sp vs J Q E) : FnG true P w K mg base CX k f fd ps sp' := ⟨fun vs J Q E q => F.len vs J Q E (h vs J Q E q), fun B out t J ar ws xs R E rm cl en bn va q => F.run B out t J ar ws xs R E rm cl en bn va (h xs J R E q)⟩
end G
namespace G
open PySem L2 PySem.Spec PyProof.Rows
section
variable {X : Cx} {C : Cc} {ρ : List Sl} {cls : Cl} {k : Nat}
theorem own_dp {g : Gh} {H : Hp} {m : Hs} {K : PySem.W.Frag} {a : Addr} {vs : List V} {xs : List D} {n : Nat} {p : PyData} (rel : Rel ⟨K, cls⟩ g m H) (hH : H a = some (.lst vs)) (r : RepL K g H vs xs) (h : pyD m n (.fl xs) = some p) : Dp K H (.ref a) p := by
  cases n with
  | zero => simp [pyD] at h
  | succ n =>
    simp only [pyD, Option.map_eq_some_iff] at h
    obtain ⟨ps, e, rfl⟩ := h
    exact .lst (SqL.of hH) (mapO_dp (pyD_dp rel n) e r)
def cmpO (o : Cp) (xs : List D) (t : M D) : M D := bnd t fun y => cmpS o (.fl xs) y
theorem eqP_own {g : Gh} {H : Hp} {m : Hs} {K : PySem.W.Frag} {a : Addr} {vs : List V} {xs : List D} {vy : V} {y : D} {b : Bool} (rel : Rel ⟨K, cls⟩ g m H) (hH : H a = some (.lst vs)) (r : RepL K g H vs xs) (hy : Rep K g H vy y) (h : eqS (.fl xs) y m = some b) : ∃ d e, Dp K H (.ref a) d ∧ Dp K H vy e ∧ SeqAt.shaped d = true ∧ SeqAt.shaped e = true ∧ PyData.eqv d e = b := by
  have h : eqP (.fl xs) y m = some b := h
  unfold eqP at h
  split at h
  · rename_i h1 h2
    cases h
    exact ⟨_, _, own_dp rel hH r h1, pyD_dp rel _ _ _ _ h2 hy, shaped_of h1, shaped_of h2, rfl⟩
  · cases h
theorem eqO_ok {o e2 : Expr} {i : Nat} {xs : List D} {t : M D} {σ : L2.St} {H : Hp} {Q : VK} (hi : ρ[i]? = some (.own xs)) (q : tG ⟨X.K, C.cls⟩ C ρ (rD ⟨X.K, C.cls⟩) (cmpO .eq xs t) σ H Q) : tOp (rEqA X.K) (tVar i) (tE ⟨X.K, C.cls⟩ C ρ t) σ H Q := by
  obtain ⟨g, m, at0, q⟩ := q
  obtain ⟨p, vs, h1, h2, h3, h4, h5⟩ := at0.own hi
  refine ⟨_, h1, g, m, at0, Post.bind q fun g2 H2 m2 v2 x2 p2 t2 rel2 hv2 q2 => ?_⟩
  have q2 : Post ⟨X.K, C.cls⟩ C.W (rD ⟨X.K, C.cls⟩) σ g2 H2 Q (bnd (ask (eqS (.fl xs) x2)) (fun b => ret (.bl b)) m2) := q2
  obtain ⟨b, hb, q2⟩ := Post.ask q2
  obtain ⟨d, e, a1, a2, a3, a4, a5⟩ := eqP_own rel2 (rel2.prv _ _ (p2.pv _ h2)) (h4.mono p2.v t2) hv2 hb
  exact .inr ⟨d, e, a1, a2, a3, a4, by rw [a5]; exact q2.ret rel2 (.bl _)⟩
def lcO (src : M Its) (turn : D → M (Option D)) : M (List D) := bnd src fun z => bnd (lcL z.2 turn z.1 []) ret
end
end G
set_option maxHeartbeats 1000000
namespace G
open PySem L2 PySem.Spec PyProof.Rows
def pick {α : Type} (is : List Nat) (l : List α) : List α := is.filterMap fun i => l[i]?
def kwS (f : List D → M D) (n k : Nat) (is : List Nat) (xs zs : List D) : M D := if xs.length = n ∧ zs.length = k then f (pick is (xs ++ zs)) else bad
def calK (f : List D → M D) (n k : Nat) (is : List Nat) (t u : M (List D)) : M D := bnd t fun xs => bnd u fun zs => kwS f n k is xs zs
theorem RepL.pick {K : PySem.W.Frag} {g : Gh} {H : Hp} {vs : List V} {ds : List D} (r : RepL K g H vs ds) : ∀ is : List Nat, RepL K g H (G.pick is vs) (G.pick is ds)
  | [] => .nil
  | i :: is => by
    have ih := RepL.pick r is
    unfold G.pick at ih ⊢
    cases h : ds[i]? with
    | some d =>
      obtain ⟨v, hv, rv⟩ := r.get h
      rw [List.filterMap_cons_some h, List.filterMap_cons_some hv]
      exact .cons rv ih
    | none =>
      have h2 : vs[i]? = none := by
        rw [List.getElem?_eq_none_iff] at h ⊢
        rw [r.length]; exact h
      rw [List.filterMap_cons_none h, List.filterMap_cons_none h2]
      exact ih
theorem vals_pick {vs : List V} {us : List Value} (r : Vals vs us) : ∀ is : List Nat, Vals (pick is vs) (pick is us)
  | [] => .nil
  | i :: is => by
    have ih := vals_pick r is
    unfold pick at ih ⊢
    cases h : vs[i]? with
    | some d =>
      obtain ⟨v, hv, rv⟩ := r.get h
      rw [List.filterMap_cons_some h, List.filterMap_cons_some hv]
      exact .cons rv ih
    | none =>
      have h2 : us[i]? = none := by
        rw [List.getElem?_eq_none_iff] at h ⊢
        rw [← r.length]; exact h
      rw [List.filterMap_cons_none h, List.filterMap_cons_none h2]
      exact ih
theorem vals_app : ∀ {vs zs : List V} {us ws : List Value}, Vals vs us → Vals zs ws → Vals (vs ++ zs) (us ++ ws)
  | _, _, _, _, .nil, s => s
  | _, _, _, _, .cons r t, s => .cons r (vals_app t s)
def KB (K : PySem.W.Frag) (fd : FuncData) (ps ks : List Str) (n : Nat) (is : List Nat) : Prop :=
  ∀ (s : Shared) (us ws : List Value), K.In s.heap → us.length = n → ws.length = ks.length → BindsTo s fd ⟨us, ks.zip ws⟩ (ps.zip (pick is (us ++ ws)))
theorem kb_mk {K : PySem.W.Frag} {x qual : Str} {st : Stmt} {f : Addr} {fd : FuncData} {ps ks : List Str} {n : Nat} {is : List Nat} (F : Fun K x qual st f fd)
    (h : ∀ (kV doc pm : Value) (an : Option Addr) (cdv ct : Value) (us ws : List Value), us.length = n → ws.length = ks.length → bindArgs (PySem.W.fnOf x qual (defArgs st) (defBody st) (defScope st) .none kV doc pm an cdv ct) ⟨us, ks.zip ws⟩ = pure (ps.zip (pick is (us ++ ws)))) : KB K fd ps ks n is := by
  obtain ⟨oc, od, kV, doc, pm, an, cdv, ct, osl, rfl, lk, hcd⟩ := F.ex
  exact fun s us ws _ h1 h2 => .of_eq (h kV doc pm an cdv ct us ws h1 h2)
def IsFnK (gu : Bool) (P : Program) (w : World) (K : PySem.W.Frag) (mg : Str → Option Value) (base : Heap) (cls : Cl) (k : Nat) (x : Str) (f : List D → M D) (ks : List Str) (n : Nat) (is : List Nat) : Prop :=
  ∃ (a : Addr) (fd : FuncData) (ps : List Str), mg x = some (.ref a) ∧ PySem.W.keepIn K (.ref a) = true ∧ KB K fd ps ks n is ∧ FnG gu P w K mg base (L2.CX P w) k a fd ps (spM ⟨K, cls⟩ f)
section
variable {X : Cx} {C : Cc} {ρ : List Sl} {k : Nat}
theorem pk_imp {X : Cx} {e : List Keyword} {t t' : TA} (h : PK X e t) (k : ∀ σ H Q, t' σ H Q → t σ H Q) : PK X e t' := ⟨fun pos pins s σ H Q I q => h.run pos pins s σ H Q I (k σ H Q q)⟩
abbrev PKc (X : Cx) (C : Cc) (ρ : List Sl) (e : List Keyword) (t : M (List D)) : Prop := PK X e (tEs ⟨X.K, C.cls⟩ C ρ t)
theorem kw_nil : PKc X C ρ [] (lsM []) := pk_imp pk_nil fun σ H Q q => by
  obtain ⟨g, m, at0, q⟩ := q
  exact q.ret at0.rel .nil
theorem kw_cons {e : Expr} {es : List Keyword} {c : M D} {cs : List (M D)} {nm : Option Str} {kpos : Pos} (ha : PEc X C ρ e c) (hr : PKc X C ρ es (lsM cs)) : PKc X C ρ (⟨nm, e, kpos⟩ :: es) (lsM (c :: cs)) :=
  pk_imp (pk_cons ha hr) fun σ H Q q => by
    refine tG.bind q fun g1 H1 m1 v1 x1 at1 hv1 q1 => ?_
    refine ⟨g1, m1, at1, Post.bind q1 fun g2 H2 m2 v2 x2 p t rel2 hv2 q2 => ?_⟩
    exact q2.ret rel2 (.cons (hv1.mono p.v t) hv2)
theorem runK {CX : CXT} {f : Addr} {fd : FuncData} {ps ks : List Str} {n : Nat} {is : List Nat} {sp : Sp} {E : XK} {pn : List (Addr × Obj)} {σ : L2.St} {H0 : Hp} {t0 : Shared} {R : VK} {us ws : List Value} {vs zs : List V} (F : FnG gu X.prog X.w X.K X.mg X.base CX k f fd ps sp) (rm : Room k X.A) (cl : Clr gu X.A) (bd : KB X.K fd ps ks n is) (ps' : PassesAt CX X σ E)
    (I : Inv X pn σ H0 t0) (r : Vals vs us) (rz : Vals zs ws) (hn : vs.length = n) (hk : zs.length = ks.length) (hs : sp (pick is (vs ++ zs)) H0 R E) : wpAny (model X.prog X.w) X.A (call (.ref f) us (ks.zip ws)) (EP X pn σ R) X.xe t0 := by
  have b := bd t0 us ws I.kIn (by rw [← r.length]; exact hn) (by rw [← rz.length]; exact hk)
  have run := F.run X.A X.stack t0 H0 ⟨us, ks.zip ws⟩ _ _ R E rm cl I.env0 b (vals_pick (vals_app r rz) is) hs
  refine wpAny_call (codeAny_mono run fun res t1 hz => ?_)
  match res, hz with
  | .error e, hz => exact ps' pn H0 t0 e t1 I hz
  | .ok (.ret u), hz => exact I.after hz
  | .ok .next, hz => exact hz.elim
  | .ok .brk, hz => exact hz.elim
  | .ok .cont, hz => exact hz.elim
theorem c_callK0 {x : Str} {f : List D → M D} {kws : List Keyword} {ks : List Str} {j : Nat} {is : List Nat} {us : M (List D)} {p pos : Pos} (h : IsFnK gu X.prog X.w X.K X.mg X.base C.cls k x f ks 0 is) (hr : Room k X.A) (cl : Clr gu X.A) (tk : Takes X C.W) (hg : Gl X x) (hkw : PKc X C ρ kws us) (hj : j = ks.length := by rfl)
    (hall : (backToKw pos (keywordEach kws X.env)).all (·.1.isSome) = true := by rfl) (hks : (backToKw pos (keywordEach kws X.env)).filterMap (·.1) = ks := by rfl)
    (hdb : (x == ("__debug__" : Str)) = false := by decide)
    (hpl : ((backTo pos (starEach [] X.env)).any (·.1) || (backToKw pos (keywordEach kws X.env)).any (·.1.isNone)) = false := by rfl) : PEc X C ρ (.Call (.Name x p) [] kws pos) (calK f 0 j is (lsM []) us) := by
  subst hj
  obtain ⟨a, fd, ps, h1, h2, h3, F⟩ := h
  have pe : PE X (.Call (.Name x p) [] kws pos) (fun σ H Q => tEs ⟨X.K, C.cls⟩ C ρ us σ H fun zs H2 => zs.length = ks.length ∧ spM ⟨X.K, C.cls⟩ f (pick is zs) H2 Q (WE C.W σ)) := by
    refine ⟨fun pins s σ H Q I h => ?_⟩
    refine wpAny_Call_Name_kw (ld_glob I hg h1 ?_ hdb)
    refine PySem.W.callWith_KW0 (h₀ := X.base) I.ok.mod.kin h2 hall (thn (hkw.run pos pins s σ H _ I h) fun ws s2 ⟨zs, H2, I2, rz, hk, q2⟩ => ⟨I2.kIn, ?_⟩) hpl
    rw [hks]
    exact runK (us := []) (vs := []) F hr cl h3 (passAt tk σ) I2 .nil rz rfl hk q2
  refine pe_imp pe fun σ H Q q => ?_
  have q' : tG ⟨X.K, C.cls⟩ C ρ (rD ⟨X.K, C.cls⟩) (bnd us fun zs => kwS f 0 ks.length is [] zs) σ H Q := q
  refine tG.bind q' fun g1 H1 m1 v1 x1 at1 hv1 q1 => ?_
  unfold kwS at q1
  obtain ⟨⟨z1, z2⟩, q2⟩ := Post.ite q1
  exact ⟨by rw [hv1.length]; exact z2, g1, m1, _, at1.rel, hv1.pick is, q2.wish⟩
end
end G
namespace G
open PySem L2 PySem.Spec PyProof.Rows
section
variable {P : Program} {w : World} {A : Around} {E : Value → Shared → Prop} {s : Shared} {l : Addr} {items : Array Value} {ns : List Int}
end
section
variable {X : Cx}
end
def insU (x : Int) : List Int → List Int
  | [] => [x]
  | y :: r => if x < y then x :: y :: r else if x = y then y :: r else y :: insU x r
def srtU : List Int → List Int
  | [] => []
  | x :: r => insU x (srtU r)
def srtI (xs : List D) : M D := match intsOf xs with
  | some ns => if ns.length < 64 then ret (.fl ((srtU ns).map .int)) else bad
  | none => bad
def srtS : List D → M D
  | [x] => bnd (ask (lstOf x)) srtI
  | _ => bad
section
variable {X : Cx} {cls : Cl}
end
end G
namespace G
open PySem L2 PySem.Spec PyProof.Rows
def mxI : Int → List Int → Int
  | a, [] => a
  | a, b :: r => mxI (if b > a then b else a) r
def mnI : Int → List Int → Int
  | a, [] => a
  | a, b :: r => mnI (if b < a then b else a) r
theorem mxI_ok : ∀ (r : List Int) (a : Int), mxI a r ∈ a :: r ∧ ∀ y, y ∈ a :: r → y ≤ mxI a r
  | [], a => by simp [mxI]
  | b :: r, a => by
    obtain ⟨h1, h2⟩ := mxI_ok r (if b > a then b else a)
    unfold mxI
    have h3 := h2 (if b > a then b else a) (by simp)
    refine ⟨?_, fun y hy => ?_⟩
    · rcases List.mem_cons.1 h1 with h | h
      · rw [h]
        split <;> simp
      · simp [h]
    · simp only [List.mem_cons] at hy
      rcases hy with rfl | rfl | hy
      · have h4 : y ≤ (if b > y then b else y) := by split <;> omega
        omega
      · have h4 : y ≤ (if y > a then y else a) := by split <;> omega
        omega
      · exact h2 y (by simp [hy])
def ext1 (f : Int → List Int → Int) (xs : List D) : M D := match intsOf xs with
  | some (a :: r) => ret (.int (f a r))
  | _ => bad
def maxLS : List D → M D
  | [x] => bnd (ask (lstOf x)) (ext1 mxI)
  | _ => bad
def minLS : List D → M D
  | [x] => bnd (ask (lstOf x)) (ext1 mnI)
  | _ => bad
section
variable {X : Cx} {cls : Cl}
end
end G
namespace G
open PySem L2 PySem.Spec PyProof.Rows
section
variable {P : Program} {w : World} {A : Around} {E : Value → Shared → Prop} {s : Shared} {l : Addr} {its : List Value} {ns : List Int}
end
section
variable {X : Cx} {cls : Cl}
def sumAS : List D → M D
  | [.tup xs] => bnd (opt (sumI xs)) fun k => ret (.int k)
  | zs => sumS zs
end
end G
namespace G
open PySem L2 PyProof.Rows
def Psn : GenState → Prop
  | .suspended k _ _ _ _ _ => ∀ r, ∃ x, k r = .unsupported x
  | _ => False
def retF : Frame → Bool
  | .ret .. => true
  | .gen .. => false
def pln : GenState → Bool
  | .suspended _ _ _ _ fs _ => fs.all retF
  | _ => true
def endP : End → Bool
  | .ret _ => true
  | .susp _ _ _ _ _ _ fs => fs.all retF
theorem no_run {M : Model} {Γ : Ctx} {p : Pos} {s s' : Shared} {e : End} {x : String} {fs : List Frame} : ¬ Runs M Γ p (.unsupported x) fs s e s' := fun h => by
  generalize ht : (Sem.unsupported x : Sem PySem.Fin) = t at h
  induction h <;> first | (cases ht; done) | (rename_i ih _; exact ih ht) | (rename_i ih; exact ih ht) | skip
  all_goals (subst ht; rename_i h1 _ _ _; cases h1)
def un (D : Nat → Option GenState) (gens : Array GenState) : Array GenState := gens.mapIdx fun j y => (D j).getD y
def U (D : Nat → Option GenState) (s : Shared) : Shared := { s with gens := un D s.gens }
theorem un_get {D : Nat → Option GenState} {gens : Array GenState} {j : Nat} : (un D gens)[j]? = (gens[j]?).map fun y => (D j).getD y := by
  unfold un
  rw [Array.getElem?_mapIdx]
theorem un_size {D : Nat → Option GenState} {gens : Array GenState} : (un D gens).size = gens.size := by simp [un]
structure Tb (D : Nat → Option GenState) (gens : Array GenState) : Prop where
  d : ∀ j x, D j = some x → ∃ y, gens[j]? = some y ∧ Psn y ∧ x.seen = y.seen
  p : ∀ (j : Nat) (y : GenState), gens[j]? = some y → Psn y ∨ pln y = true
theorem set_get {a : Array GenState} {g j : Nat} {x : GenState} : (a.setIfInBounds g x)[j]? = if g = j then (a[j]?).map (fun _ => x) else a[j]? := by
  rw [Array.getElem?_setIfInBounds]
  split
  · rename_i e
    subst e
    split
    · rename_i h
      rw [Array.getElem?_eq_getElem h]; rfl
    · rename_i h
      rw [Array.getElem?_eq_none (by omega)]; rfl
  · rfl
theorem Tb.set {D : Nat → Option GenState} {a : Array GenState} {g : Nat} {x : GenState} (h : Tb D a) (hd : D g = none) (hx : pln x = true) : Tb D (a.setIfInBounds g x) := by
  refine ⟨fun j y hj => ?_, fun j y hj => ?_⟩
  · obtain ⟨z, h1, h2⟩ := h.d j y hj
    have hg : g ≠ j := fun e => by rw [e, hj] at hd; cases hd
    exact ⟨z, by rw [set_get, if_neg hg]; exact h1, h2⟩
  · rw [set_get] at hj
    split at hj
    · cases hz : a[j]? with
      | none => rw [hz] at hj; cases hj
      | some w => rw [hz] at hj; cases hj; exact .inr hx
    · exact h.p j y hj
theorem Tb.push {D : Nat → Option GenState} {a : Array GenState} {c : Code} (h : Tb D a) : Tb D (a.push (.fresh c)) ∧ un D (a.push (.fresh c)) = (un D a).push (.fresh c) := by
  have hd : D a.size = none := by
    cases hz : D a.size with
    | none => rfl
    | some x =>
      obtain ⟨y, h1, _⟩ := h.d _ x hz
      rw [Array.getElem?_eq_none (Nat.le_refl _)] at h1
      cases h1
  refine ⟨⟨fun j x hj => ?_, fun j y hj => ?_⟩, ?_⟩
  · obtain ⟨z, h1, h2⟩ := h.d j x hj
    have hl := (Array.getElem?_eq_some_iff.mp h1).1
    exact ⟨z, by rw [Array.getElem?_push, if_neg (by omega)]; exact h1, h2⟩
  · rw [Array.getElem?_push] at hj
    split at hj
    · cases hj; exact .inr rfl
    · exact h.p j y hj
  · apply Array.ext_getElem?
    intro i
    rw [un_get, Array.getElem?_push, Array.getElem?_push, un_get, un_size]
    by_cases e : i = a.size
    · rw [if_pos e, if_pos e, e, hd]; rfl
    · rw [if_neg e, if_neg e]
theorem un_set {D : Nat → Option GenState} {a : Array GenState} {g : Nat} {x : GenState} (hd : D g = none) : un D (a.setIfInBounds g x) = (un D a).setIfInBounds g x := by
  apply Array.ext_getElem?
  intro i
  rw [un_get, set_get, set_get, un_get]
  by_cases e : g = i
  · subst e
    rw [if_pos rfl, if_pos rfl, hd]
    cases a[g]? <;> rfl
  · rw [if_neg e, if_neg e]
theorem U_set {D : Nat → Option GenState} {s : Shared} {g : Nat} {x : GenState} (hd : D g = none) : U D (s.setGen g x) = (U D s).setGen g x := by
  show ({ s with gens := un D (s.gens.setIfInBounds g x) } : Shared) = { s with gens := (un D s.gens).setIfInBounds g x }
  rw [un_set hd]
theorem Tb.no {D : Nat → Option GenState} {a : Array GenState} {g : Nat} {y : GenState} (h : Tb D a) (hg : a[g]? = some y) (hn : ¬ Psn y) : D g = none ∧ (un D a)[g]? = some y := by
  have hd : D g = none := by
    cases hz : D g with
    | none => rfl
    | some x =>
      obtain ⟨z, h1, h2, _⟩ := h.d g x hz
      rw [hg] at h1
      cases h1
      exact absurd h2 hn
  refine ⟨hd, ?_⟩
  rw [un_get, hg, hd]
  rfl
theorem all_app {a b : List Frame} (h1 : a.all retF = true) (h2 : b.all retF = true) : (a ++ b).all retF = true := by
  rw [List.all_append, h1, h2]; rfl
theorem split_none : ∀ {fs : List Frame}, fs.all retF = true → splitAtGen fs = none
  | [], _ => rfl
  | .ret .. :: fs, h => by
    simp only [List.all_cons, retF, Bool.true_and] at h
    simp only [splitAtGen, split_none h, Option.map_none]
  | .gen .. :: _, h => by simp [retF] at h
theorem genState_pln {e : End} (h : endP e = true) : pln e.genState = true := by
  cases e with
  | ret r => rfl
  | susp v g l k c p fs => exact h
theorem no_run' {M : Model} {Γ : Ctx} {p : Pos} {s s' : Shared} {e : End} {t : Sem PySem.Fin} {fs : List Frame} (h : ∃ x, t = .unsupported x) : ¬ Runs M Γ p t fs s e s' := by
  obtain ⟨x, rfl⟩ := h
  exact no_run
theorem Tb.seen {D : Nat → Option GenState} {a : Array GenState} {g : Nat} {st : GenState} (hp : Tb D a) (hg : a[g]? = some st) : ∃ x, (un D a)[g]? = some x ∧ x.seen = st.seen := by
  refine ⟨(D g).getD st, by rw [un_get, hg]; rfl, ?_⟩
  cases hz : D g with
  | none => rfl
  | some x =>
    obtain ⟨y, h1, _, h3⟩ := hp.d g x hz
    rw [hg] at h1
    cases h1
    exact h3
theorem Tb.either {D : Nat → Option GenState} {a : Array GenState} {g : Nat} {y : GenState} (h : Tb D a) (hg : a[g]? = some y) : Psn y ∨ (D g = none ∧ (un D a)[g]? = some y ∧ pln y = true) := by
  by_cases hz : Psn y
  · exact .inl hz
  · exact .inr ⟨(h.no hg hz).1, (h.no hg hz).2, (h.p g y hg).resolve_left hz⟩
theorem newGen_ok {M : Model} {D : Nat → Option GenState} {Γ : Ctx} {p : Pos} {k : Nat → Sem PySem.Fin} {s s' : Shared} {e : End} {c : Code} (hp : Tb D s.gens) (q : Runs M Γ p (k s.gens.size) [] (U D { s with gens := s.gens.push (.fresh c) }) e s') : Runs M Γ p (.newGen c k) [] (U D s) e s' := by
  refine .newGen ?_
  have e1 : (U D s).gens.size = s.gens.size := un_size
  rw [e1]
  have e2 : U D { s with gens := s.gens.push (.fresh c) } = { U D s with gens := (U D s).gens.push (.fresh c) } := by
    show ({ s with gens := un D (s.gens.push (.fresh c)) } : Shared) = { s with gens := (un D s.gens).push (.fresh c) }
    rw [hp.push.2]
  rw [e2] at q
  exact q
theorem runs_asleep {M : Model} {D : Nat → Option GenState} {Γ : Ctx} {p : Pos} {t : Sem PySem.Fin} {fs : List Frame} {s s' : Shared} {e : End} (h : Runs M Γ p t fs s e s') :
    fs.all retF = true → Tb D s.gens → endP e = true ∧ Tb D s'.gens ∧ Runs M Γ p t fs (U D s) e (U D s') := by
  induction h with
  | done => exact fun hf hp => ⟨rfl, hp, .done⟩
  | raise => exact fun hf hp => ⟨rfl, hp, .raise⟩
  | again hq _ ih => exact fun hf hp => ⟨(ih hf hp).1, (ih hf hp).2.1, .again hq (ih hf hp).2.2⟩
  | rule _ ih => exact fun hf hp => ⟨(ih hf hp).1, (ih hf hp).2.1, .rule (ih hf hp).2.2⟩
  | «at» _ ih => exact fun hf hp => ⟨(ih hf hp).1, (ih hf hp).2.1, .at (ih hf hp).2.2⟩
  | load ho _ ih => exact fun hf hp => ⟨(ih hf hp).1, (ih hf hp).2.1, .load ho (ih hf hp).2.2⟩
  | update ho _ ih => exact fun hf hp => ⟨(ih hf hp).1, (ih hf hp).2.1, .update ho (ih hf hp).2.2⟩
  | loadIfAlive _ ih => exact fun hf hp => ⟨(ih hf hp).1, (ih hf hp).2.1, .loadIfAlive (ih hf hp).2.2⟩
  | point _ ih => exact fun hf hp => ⟨(ih hf hp).1, (ih hf hp).2.1, .point (ih hf hp).2.2⟩
  | alloc _ ih => exact fun hf hp => ⟨(ih hf hp).1, (ih hf hp).2.1, .alloc (ih hf hp).2.2⟩
  | fresh _ ih => exact fun hf hp => ⟨(ih hf hp).1, (ih hf hp).2.1, .fresh (ih hf hp).2.2⟩
  | ask _ ih => exact fun hf hp => ⟨(ih hf hp).1, (ih hf hp).2.1, .ask (ih hf hp).2.2⟩
  | choose hn _ ih => exact fun hf hp => ⟨(ih hf hp).1, (ih hf hp).2.1, .choose hn (ih hf hp).2.2⟩
  | os _ ih => exact fun hf hp => ⟨(ih hf hp).1, (ih hf hp).2.1, .os (ih hf hp).2.2⟩
  | handled _ ih => exact fun hf hp => ⟨(ih hf hp).1, (ih hf hp).2.1, .handled (ih hf hp).2.2⟩
  | genState hg _ ih =>
    intro hf hp
    obtain ⟨x, h1, h2⟩ := hp.seen hg
    refine ⟨(ih hf hp).1, (ih hf hp).2.1, .genState h1 ?_⟩
    rw [h2]
    exact (ih hf hp).2.2
  | stack _ ih => exact fun hf hp => ⟨(ih hf hp).1, (ih hf hp).2.1, .stack (ih hf hp).2.2⟩
  | thread _ ih => exact fun hf hp => ⟨(ih hf hp).1, (ih hf hp).2.1, .thread (ih hf hp).2.2⟩
  | newGen _ ih =>
    intro hf hp
    obtain ⟨b1, b2, b3⟩ := ih hf hp.push.1
    exact ⟨b1, b2, newGen_ok hp b3⟩
  | call _ _ ih1 ih2 => exact fun hf hp => ⟨(ih2 hf (ih1 rfl hp).2.1).1, (ih2 hf (ih1 rfl hp).2.1).2.1, .call (ih1 rfl hp).2.2 (ih2 hf (ih1 rfl hp).2.1).2.2⟩
  | callSusp _ ih => exact fun hf hp => ⟨all_app (ih rfl hp).1 rfl, (ih rfl hp).2.1, .callSusp (ih rfl hp).2.2⟩
  | yield => exact fun hf hp => ⟨rfl, hp, .yield⟩
  | resumeFresh hg _ hq _ ih1 ih2 =>
    intro hf hp
    obtain ⟨hd, hu⟩ := hp.no hg (fun h => h)
    obtain ⟨a1, a2, a3⟩ := ih1 rfl (hp.set hd rfl)
    obtain ⟨b1, b2, b3⟩ := ih2 hf (a2.set hd (genState_pln a1))
    rw [U_set hd] at a3 b3
    exact ⟨b1, b2, .resumeFresh hu a3 hq b3⟩
  | resumeSuspended hg h1 hq _ ih1 ih2 =>
    intro hf hp
    rcases hp.either hg with hz | ⟨hd, hu, hfs⟩
    · exact absurd h1 (no_run' (hz _))
    · obtain ⟨a1, a2, a3⟩ := ih1 hfs (hp.set hd rfl)
      obtain ⟨b1, b2, b3⟩ := ih2 hf (a2.set hd (genState_pln a1))
      rw [U_set hd] at a3 b3
      exact ⟨b1, b2, .resumeSuspended hu a3 hq b3⟩
  | resumeJustStarted hg hv _ ih =>
    intro hf hp
    obtain ⟨hd, hu⟩ := hp.no hg (fun h => h)
    exact ⟨(ih hf hp).1, (ih hf hp).2.1, .resumeJustStarted hu hv (ih hf hp).2.2⟩
  | resumeThrowFresh hg _ ih =>
    intro hf hp
    obtain ⟨hd, hu⟩ := hp.no hg (fun h => h)
    obtain ⟨b1, b2, b3⟩ := ih hf (hp.set hd rfl)
    rw [U_set hd] at b3
    exact ⟨b1, b2, .resumeThrowFresh hu b3⟩
  | resumeRunning hg _ ih =>
    intro hf hp
    obtain ⟨hd, hu⟩ := hp.no hg (fun h => h)
    exact ⟨(ih hf hp).1, (ih hf hp).2.1, .resumeRunning hu (ih hf hp).2.2⟩
  | resumeFinished hg _ ih =>
    intro hf hp
    obtain ⟨hd, hu⟩ := hp.no hg (fun h => h)
    exact ⟨(ih hf hp).1, (ih hf hp).2.1, .resumeFinished hu (ih hf hp).2.2⟩
  | segRet _ _ ih1 ih2 =>
    intro hf hp
    simp only [List.all_cons, Bool.and_eq_true] at hf
    obtain ⟨a1, a2, a3⟩ := ih1 rfl hp
    obtain ⟨b1, b2, b3⟩ := ih2 hf.2 a2
    exact ⟨b1, b2, .segRet a3 b3⟩
  | segGen _ _ ih1 ih2 =>
    intro hf hp
    simp [retF] at hf
  | segSuspOut hs _ ih =>
    intro hf hp
    obtain ⟨a1, a2, a3⟩ := ih rfl hp
    exact ⟨all_app a1 hf, a2, .segSuspOut hs a3⟩
  | segSuspGen hs _ hq _ ih1 ih2 =>
    intro hf hp
    rw [split_none hf] at hs
    cases hs
theorem wakes_asleep {M : Model} {D : Nat → Option GenState} {Γ : Ctx} {p : Pos} {g : Nat} {r : Resume} {s s' : Shared} {res : GenResult} (hp : Tb D s.gens) (h : Wakes M Γ p g r s res s') : Tb D s'.gens ∧ Wakes M Γ p g r (U D s) res (U D s') := by
  unfold Wakes at h
  cases hg : s.gens[g]? with
  | none => rw [hg] at h; exact h.elim
  | some y =>
    rw [hg] at h
    rcases hp.either hg with hz | ⟨hd, hu, hfs⟩
    · cases y with
      | suspended k l c p0 fs cl =>
        obtain ⟨e₁, s₁, h1, _⟩ := h
        exact absurd h1 (no_run' (hz _))
      | _ => exact hz.elim
    · have hu' : (U D s).gens[g]? = some y := hu
      unfold Wakes
      rw [hu']
      cases y with
      | fresh c =>
        cases r with
        | send v =>
          by_cases hv : v = .none
          · subst hv
            obtain ⟨e₁, s₁, h1, h2, h3, rfl⟩ := h
            obtain ⟨a1, a2, a3⟩ := runs_asleep h1 rfl (hp.set hd rfl)
            rw [U_set hd] at a3
            exact ⟨a2.set hd (genState_pln a1), e₁, _, a3, h2, h3, U_set hd⟩
          · cases v <;> first | exact absurd rfl hv | (obtain ⟨h1, rfl⟩ := h; exact ⟨hp, h1, rfl⟩)
        | throw x =>
          obtain ⟨h1, rfl⟩ := h
          exact ⟨hp.set hd rfl, h1, U_set hd⟩
      | suspended k l c p0 fs cl =>
        obtain ⟨e₁, s₁, h1, h2, h3, rfl⟩ := h
        obtain ⟨a1, a2, a3⟩ := runs_asleep h1 hfs (hp.set hd rfl)
        rw [U_set hd] at a3
        exact ⟨a2.set hd (genState_pln a1), e₁, _, a3, h2, h3, U_set hd⟩
      | running => obtain ⟨h1, rfl⟩ := h; exact ⟨hp, h1, rfl⟩
      | finished => obtain ⟨h1, rfl⟩ := h; exact ⟨hp, h1, rfl⟩
theorem wp_asleep {α : Type} (M : Model) (Γ : Ctx) (D : Nat → Option GenState) (t : Sem α) : ∀ (Q : α → Pos → Shared → Prop) (E : Value → Pos → Shared → Prop) (p : Pos) (s : Shared), Tb D s.gens → Sem.wp M Γ t Q E p s →
    Sem.wp M Γ t (fun a p' s' => ∃ z, s' = U D z ∧ Tb D z.gens ∧ Q a p' z) (fun e p' s' => ∃ z, s' = U D z ∧ Tb D z.gens ∧ E e p' z) p (U D s) := by
  induction t with
  | pure a => intro Q E p s hn h; exact ⟨s, rfl, hn, h⟩
  | raise e => intro Q E p s hn h; exact ⟨s, rfl, hn, h⟩
  | unsupported _ => intro Q E p s _ h; exact h
  | finish _ => intro Q E p s _ h; exact h
  | rule _ k ih => intro Q E p s hn h; exact ih () Q E p s hn h
  | «at» p' k ih => intro Q E p s hn h; exact ih () Q E p' s hn h
  | load a _ k ih => intro Q E p s hn h; obtain ⟨o, ho, h⟩ := h; exact ⟨o, ho, ih o Q E p s hn h⟩
  | update a _ f k ih => intro Q E p s hn h; exact ⟨h.1, ih () Q E p { s with heap := s.heap.update a f } hn h.2⟩
  | loadIfAlive a k ih => intro Q E p s hn h; exact ih _ Q E p s hn h
  | point _ k ih => intro Q E p s hn h; exact ih () Q E p s hn h
  | register _ _ => intro Q E p s _ h; exact h
  | alloc o k ih => intro Q E p s hn h; exact ih _ Q E p { s with heap := s.heap.push o } hn h
  | fresh k ih => intro Q E p s hn h; exact ih _ Q E p { s with toks := s.toks + 1 } hn h
  | ask k ih => intro Q E p s hn h; exact ih _ Q E p s hn h
  | choose src m k ih => intro Q E p s hn h; exact ⟨h.1, ih _ Q E p { s with drawn := s.drawn.bump src } hn h.2⟩
  | os q _ k ih => intro Q E p s hn h; exact ih _ Q E p { s with os := (Os.step s.os q).1 } hn h
  | call c hd _ _ k ih =>
    intro Q E p s hn h
    obtain ⟨r, s', hr, h⟩ := h
    obtain ⟨_, a2, a3⟩ := runs_asleep hr rfl hn
    exact ⟨r, U D s', a3, ih r Q E p s' a2 h⟩
  | handled own k ih => intro Q E p s hn h; exact ih _ Q E p s hn h
  | genState g k ih =>
    intro Q E p s hn h
    obtain ⟨st, hs, h⟩ := h
    obtain ⟨x, h1, h2⟩ := hn.seen hs
    refine ⟨x, h1, ?_⟩
    rw [h2]
    exact ih _ Q E p s hn h
  | newGen c k ih =>
    intro Q E p s hn h
    have q := ih _ Q E p _ hn.push.1 h
    show Sem.wp M Γ (k (un D s.gens).size) _ _ p _
    rw [un_size]
    have e2 : U D { s with gens := s.gens.push (.fresh c) } = { U D s with gens := (U D s).gens.push (.fresh c) } := by
      show ({ s with gens := un D (s.gens.push (.fresh c)) } : Shared) = { s with gens := (un D s.gens).push (.fresh c) }
      rw [hn.push.2]
    rw [e2] at q
    exact q
  | resume g r _ k ih =>
    intro Q E p s hn h
    obtain ⟨res, s', hw, h⟩ := h
    obtain ⟨a1, a2⟩ := wakes_asleep hn hw
    exact ⟨res, U D s', a2, ih res Q E p s' a1 h⟩
  | yield _ _ _ _ => intro Q E p s _ h; exact h
  | stack k ih => intro Q E p s hn h; exact ih _ Q E p s hn h
  | fork _ _ => intro Q E p s _ h; exact h
  | thread k ih => intro Q E p s hn h; exact ih _ Q E p s hn h
  | await _ _ _ _ _ => intro Q E p s _ h; exact h
theorem wpAny_asleep {α : Type} {M : Model} {A : Around} {D : Nat → Option GenState} {s : Shared} {t : Sem α} {Q : α → Shared → Prop} {E : Value → Shared → Prop} (hn : Tb D s.gens) (h : wpAny M A t Q E s) :
    wpAny M A t (fun a s' => ∃ z, s' = U D z ∧ Tb D z.gens ∧ Q a z) (fun e s' => ∃ z, s' = U D z ∧ Tb D z.gens ∧ E e z) (U D s) :=
  fun Γ p hΓ => wp_asleep M Γ D t _ _ p s hn (h Γ p hΓ)
end G
namespace G
open PySem L2 PyProof.Rows
structure Old (h h' : Heap) : Prop where
  sz : h.objs.size ≤ h'.objs.size
  no : ∀ b, b < h.objs.size → h.get? b = none → h'.get? b = none
theorem Old.refl (h : Heap) : Old h h := ⟨Nat.le_refl _, fun _ _ x => x⟩
theorem Old.trans {a b c : Heap} (x : Old a b) (y : Old b c) : Old a c := ⟨Nat.le_trans x.sz y.sz, fun i hi h => y.no i (Nat.lt_of_lt_of_le hi x.sz) (x.no i hi h)⟩
theorem Old.push (h : Heap) (o : Obj) : Old h (h.push o) := by
  obtain ⟨objs, l⟩ := h
  refine ⟨by show objs.size ≤ (objs.push o).size; rw [Array.size_push]; omega, fun b hb hn => ?_⟩
  have e : (Heap.mk objs l).get? b = ((Heap.mk objs l).push o).get? b := by
    unfold Heap.get?
    show (match objs[b]? with | some ⟨_, _, .freed, _⟩ => none | x => x) = (match (objs.push o)[b]? with | some ⟨_, _, .freed, _⟩ => none | x => x)
    rw [Array.getElem?_push, if_neg (Nat.ne_of_lt hb)]
  rw [← e]
  exact hn
theorem Old.update (h : Heap) (a : Addr) (f : Obj → Obj) (ha : (h.get? a).isSome) : Old h (h.update a f) := by
  refine ⟨?_, fun b hb hn => ?_⟩
  · obtain ⟨objs, l⟩ := h
    show objs.size ≤ (objs.modify a f).size
    rw [Array.size_modify]
    exact Nat.le_refl _
  · have hne : a ≠ b := fun e => by subst e; rw [hn] at ha; cases ha
    rw [Heap.get?_update_other _ _ hne]
    exact hn
section
variable {M : Model} {A : Around} {R : GenEnd} {Y : Protocol} {n : Nat} {s₀ s : Shared} {c : Code} {fs : List Frame} {env : Env} {K : Flow → Sem PySem.Fin} {J : Value → Sem PySem.Fin} {gd : Bool → Bool} {lv : List Value → List Value}
end
section
variable {prog : Program} {w : World} {A : Around} {R : GenEnd} {Y : Protocol} {n : Nat} {s₀ s : Shared} {fs : List Frame} {env : Env} {tg : Expr} {it : Value} {body : List Stmt}
end
end G
namespace G
open PySem L2 PyProof.Rows GenW
structure Gn where
  P : Program
  w : World
  K : PySem.W.Frag
  mg : Str → Option Value
  base : Heap
  N : List Str
  qual : Str
  scope : Scope
  f : Addr
  cd : Value
  A : Around
  outer : List Env
  n0 : Nat
  a : Addr
  o : Obj
  T : Hp
def Gn.env (G : Gn) : Env := envOfC G.qual G.scope G.n0 G.f G.cd
def Gn.X (G : Gn) (r : Shared) (Hw : Hp) (pn : List (Addr × Obj)) : Cx where
  prog := G.P
  w := G.w
  K := G.K
  mg := G.mg
  base := G.base
  A := G.A.deeper G.env
  N := G.N
  s_0 := r
  H_0 := Hw
  env := G.env
  outer := G.outer
  stack := G.env :: G.outer
  ex := []
  calm := true
  fn := fun _ => true
  pn := pn
  xe := fun _ _ => False
def TupAt (h : Heap) (b : Addr) (xs : List V) : Prop := xs.length ≤ sizeLine ∧ ∃ its : List Value, Vals xs its ∧ IsTup h b its.toArray
def TupC (o : Obj) : Prop := o.cls = .type "tuple" ∧ ∃ its n, o.data = .seq its n
theorem TupAt.get {h : Heap} {b : Addr} {xs : List V} (t : TupAt h b xs) : ∃ o, h.get? b = some o ∧ TupC o := by
  obtain ⟨_, its, _, o, h1, h2, n, h3⟩ := t
  exact ⟨o, h1, h2, _, n, h3⟩
theorem TupAt.at {h h' : Heap} {b : Addr} {xs : List V} (t : TupAt h b xs) (e : ∀ o, h.get? b = some o → h'.get? b = some o) : TupAt h' b xs := by
  obtain ⟨z, its, r, o, h1, h2⟩ := t
  exact ⟨z, its, r, o, e o h1, h2⟩
structure Gn.Ok (G : Gn) : Prop where
  t : ∀ b u, G.T b = some u → b < G.n0 ∧ ((∃ xs, u = .tup xs) ∨ ∃ o xs, u = .frz o (.tup xs))
  nc : ∀ x, G.env.kindOf x ≠ some .cell ∧ G.env.kindOf x ≠ some .free
  cs : G.env.cells = []
  fr : ∀ b ∈ frs G.outer, b < G.n0 ∧ G.T b = none
  ga : G.n0 < G.a ∧ ¬ TupC G.o ∧ ∀ v, G.o.data ≠ .cell v
structure Root (G : Gn) (s₀ r : Shared) (Hw : Hp) (pn : List (Addr × Obj)) : Prop where
  rsz : r.heap.objs.size = G.n0
  rh : ∀ b, r.heap.get? b = if b < G.n0 then s₀.heap.get? b else none
  ros : r.os = s₀.os
  hw : ∀ b u, Hw b = some u → (b < G.n0 → G.T b = some u) ∧ (G.n0 ≤ b → noFrz u = true)
  ht : ∀ b u, G.T b = some u → Hw b = some u
  pt : ∀ b o, G.n0 ≤ b → s₀.heap.get? b = some o → TupC o → (b, o) ∈ pn ∨ ∃ xs, Hw b = some (.tup xs)
  pa : (G.a, G.o) ∈ pn
  pk : ∀ p ∈ pn, p = (G.a, G.o) ∨ TupC p.2
  hok : HOk G.P G.w Hw s₀.heap
structure Rn (G : Gn) (s₀ : Shared) (ip : List (Addr × Obj)) (σ : L2.St) (H : Hp) (s : Shared) (r : Shared) (Hw : Hp) (pn : List (Addr × Obj)) : Prop where
  inv : Inv (G.X r Hw pn) ip σ H s
  root : Root G s₀ r Hw pn
  tk : TK Hw H
  ipo : ∀ p ∈ ip, G.n0 ≤ p.1 ∧ ¬ TupC p.2
structure Prm (G : Gn) (s₀ s : Shared) : Prop where
  low : ∀ b o, b < G.n0 → s₀.heap.get? b = some o → b ∉ frs G.outer → s.heap.get? b = some o ∨ ∃ xs, G.T b = some (.tup xs) ∧ TupAt s.heap b xs
  slot : ∀ b o, b ∈ frs G.outer → s₀.heap.get? b = some o → ∃ sl, s.heap.get? b = some { o with slots := sl }
  tup : ∀ b xs, G.n0 ≤ b → TupAt s₀.heap b xs → TupAt s.heap b xs
  own : s.heap.get? G.a = some G.o
  os : s.os = s₀.os
section
variable {G : Gn} {s₀ s r : Shared} {ip : List (Addr × Obj)} {σ : L2.St} {H Hw : Hp} {pn : List (Addr × Obj)}
structure Dmd (G : Gn) (H : Hp) (s₀ s s2 : Shared) : Prop where
  os : s2.os = s.os
  bare : AllBare s2.gens
  tup : ∀ b xs, H b = some (.tup xs) → TupAt s2.heap b xs
  frz : ∀ b o u, G.T b = some (.frz o u) → s2.heap.get? b = some o
  own : ∀ b o, G.n0 ≤ b → s.heap.get? b = some o → ¬ TupC o → (∀ v, o.data ≠ .cell v) → s2.heap.get? b = some o
  base : ∀ b o, G.base.get? b = some o → s2.heap.get? b = some o
  funs : s2.heap.FunFrames G.base G.outer
  old : ∀ b, b < G.n0 → s₀.heap.get? b = none → s.heap.get? b = none
  sz : G.n0 ≤ s2.heap.objs.size
theorem obj_some {P : Program} {w : World} {H : Hp} {h : Heap} {a : Addr} {o : HO} (x : ObjOk P w H h a o) : ∃ ob, h.get? a = Option.some ob := by
  cases o with
  | lst xs => obtain ⟨_, _, _, _, e⟩ := x; exact ⟨_, e⟩
  | tup xs => obtain ⟨_, _, _, o, e, _⟩ := x; exact ⟨_, e⟩
  | dK kvs => obtain ⟨_, _, _, _, o, _, _, e, _⟩ := x; exact ⟨_, e⟩
  | dT kvs => obtain ⟨_, _, _, _, o, _, _, e, _⟩ := x; exact ⟨_, e⟩
  | set S n => obtain ⟨o, _, _, _, e, _⟩ := x; exact ⟨_, e⟩
  | ins C dx fs => obtain ⟨_, _, _, e, _⟩ := x; exact ⟨_, e⟩
  | own y => obtain ⟨_, e⟩ := x; exact ⟨_, e⟩
  | xd fs => obtain ⟨_, ⟨_, _, _, e, _⟩, _⟩ := x; exact ⟨_, e⟩
  | rng lo hi => obtain ⟨_, _, _, e⟩ := x; exact ⟨_, e⟩
  | frz ob u => obtain ⟨e, _⟩ := x; exact ⟨_, e⟩
  | tbl ps => exact ⟨_, x⟩
  | met f y => exact ⟨_, x⟩
  | ext φ => obtain ⟨_, e, _⟩ := x; exact e
theorem Rn.low (R : Rn G s₀ ip σ H s r Hw pn) (ok : G.Ok) (old : ∀ b, b < G.n0 → s₀.heap.get? b = none → s.heap.get? b = none) {b : Addr} {u : HO} (hb : b < G.n0) (h : H b = some u) : Hw b = some u ∧ G.T b = some u := by
  have un := R.inv.base
  have hs : s.heap.get? b ≠ none := fun z => by
    have := (R.inv.hok b u h)
    cases hz : s.heap.get? b with
    | none => exact absurd z (by obtain ⟨o, e⟩ := obj_some this; rw [e]; simp)
    | some o => rw [hz] at z; cases z
  cases h0 : s₀.heap.get? b with
  | none => exact absurd (old b hb h0) hs
  | some o =>
    have hr : r.heap.get? b = some o := by rw [R.root.rh, if_pos hb]; exact h0
    cases hz : Hw b with
    | none =>
      have := un.free b o hr hz (fun z => by simp [Gn.X] at z)
      rw [h] at this
      cases this
    | some v =>
      have ht := (R.root.hw b v hz).1 hb
      rcases (ok.t b v ht).2 with ⟨xs, rfl⟩ | ⟨ob, xs, rfl⟩
      · have := un.tups b xs hz
        rw [h] at this
        cases this
        exact ⟨rfl, ht⟩
      · have := un.frzs b ob _ hz
        rw [h] at this
        cases this
        exact ⟨rfl, ht⟩
end
end G
namespace G
open PySem L2 PyProof.Rows GenW
mutual
def pureD : D → Bool
  | .tup xs => pureL xs
  | .non | .bl _ | .int _ | .str _ => true
  | _ => false
def pureL : List D → Bool
  | [] => true
  | x :: xs => pureD x && pureL xs
end
def big : Nat := 100000
def Yp (G : Gn) (L : List D) : Protocol := fun n s₀ v s kap =>
  ∃ ip σ H r Hw pn x d g i, Rn G s₀ ip σ H s r Hw pn ∧ L2.RelV x v ∧ Rep G.K g H x d ∧ pureD d = true ∧ L[i]? = some d ∧ n + 1 + i = big ∧ ∀ s2, Dmd G H s₀ s s2 → kap (.send .none) s2 ∧ kap (.send (.bool true)) s2
def Rp (G : Gn) (L : List D) : GenEnd := fun n s₀ res s =>
  ((res = .ok (.ret .none) ∨ res = .ok .next) ∧ (n + L.length = big ∧ ∃ ip σ H r Hw pn, Rn G s₀ ip σ H s r Hw pn)) ∨ ∃ e, res = .error e ∧ False
structure Gc (G : Gn) (c : Code) (fs : List Frame) (gd : Bool → Bool) : Prop where
  over : G.A.over c fs = G.A.deeper G.env
  split : splitAtGen fs = none
  guard : fs.any Frame.guarded = false
  gd : gd false = false
theorem Gc.loop {G : Gn} {c c' : Code} {fs : List Frame} {gd : Bool → Bool} {k : Result → Sem PySem.Fin} {l kp : List Value} {p : Pos} (g : Gc G c fs gd) (hw : c'.weight = 0) (hu : c'.cUnits = 0) : Gc G c' (.ret k none (gd false) l c p kp :: fs) id where
  over := (over_loop hw hu).trans g.over
  split := by
    show (splitAtGen fs).map _ = none
    rw [g.split]
    rfl
  guard := by
    show (gd false || fs.any Frame.guarded) = false
    rw [g.gd, g.guard]
    rfl
  gd := rfl
def G0 : Gh := ⟨[], [], []⟩
def C0 (cls : Cl) : Cc := ⟨cls.noT, WF, G0, H00⟩
section
variable (G : Gn) (cls : Cl)
structure GJ {A : Type} (ρ : List Sl) (sts : List Stmt) (acc : List D) (oa : A → List Sl) (oo : A → List D) (t : M (Fl A Empty)) : Prop where
  mono : ∀ a m m', t m = .ok (.nx a) m' → acc <+: oo a
  run : ∀ (L : List D) (a : A) (m m' : Hs), t m = .ok (.nx a) m' → oo a <+: L → L.length < big →
    ∀ (n : Nat) (s₀ : Shared) (c : Code) (fs : List Frame) (K : Flow → Sem PySem.Fin) (J : Value → Sem PySem.Fin) (gd : Bool → Bool) (lv : List Value → List Value) (s : Shared) (ip : List (Addr × Obj)) (σ : L2.St) (H : Hp) (g : Gh) (r : Shared) (Hw : Hp) (pn : List (Addr × Obj)),
      Gc G c fs gd → n + acc.length = big → Rn G s₀ ip σ H s r Hw pn → At ⟨G.K, cls.noT⟩ (C0 cls) ρ σ H g m →
      (∀ (n' : Nat) (s₀' s' : Shared) (σ' : L2.St) (H' : Hp) (g' : Gh) (r' : Shared) (Hw' : Hp) (pn' : List (Addr × Obj)), n' + (oo a).length = big → Rn G s₀' ip σ' H' s' r' Hw' pn' → At ⟨G.K, cls.noT⟩ (C0 cls) (oa a) σ' H' g' m' → Lv0 g g' → TK H H' →
        Seg (model G.P G.w) G.A (Rp G L) (Yp G L) n' s₀' c (K .next) fs s') →
      Seg (model G.P G.w) G.A (Rp G L) (Yp G L) n s₀ c ((execs sts G.env).wrap K J gd lv) fs s
end
section
variable {G : Gn} {cls : Cl} {A A1 : Type} {ρ : List Sl} {rest : List Stmt} {acc : List D} {oa : A → List Sl} {oo : A → List D}
end
end G
namespace G
open PySem L2 PyProof.Rows GenW
def PIE2 (X : Cx) (pins : List (Addr × Obj)) (σ : L2.St) (tg : Expr) (R : It → Hp → Prop) (itv : Value) (s2 : Shared) : Prop :=
  ∃ (it : Addr) (fp : List Addr) (tn : Nat → Heap → Prop) (J : It) (H' : Hp), itv = .ref it ∧ Inv X pins σ H' s2 ∧ Turn X.prog X.w X.K tg J fp it tn ∧ tn 0 s2.heap ∧ (∀ b ∈ fp, FpOk X pins H' b) ∧ R J H' ∧ ∀ i h, tn i h → ∀ b ∈ fp, ∀ o, h.get? b = some o → ¬ TupC o
structure PI2 (X : Cx) (tg iter : Expr) (wi : TI) : Prop where
  go : ∀ (pins : List (Addr × Obj)) (s : Shared) (σ : L2.St) (H : Hp) (R : It → Hp → Prop), Inv X pins σ H s → wi σ H R →
    wpAny (model X.prog X.w) X.A (eval iter X.env) (fun v s1 => wpAny (model X.prog X.w) X.A (pyIter v) (PIE2 X pins σ tg R) X.xe s1) X.xe s
end G
namespace G
open PySem L2 PyProof.Rows GenW
section
variable {A : Type}
end
section
variable {G : Gn} {cls : Cl} {A A1 : Type} {ρ : List Sl} {rest : List Stmt} {acc : List D} {oa : A → List Sl} {oo : A → List D}
end
end G
namespace G
open PySem L2 PyProof.Rows GenW
def tpO : Option HO → Option HO
  | some (.tup xs) => some (.tup xs)
  | some (.frz o (.tup xs)) => some (.frz o (.tup xs))
  | _ => none
def tpH (H : Hp) : Hp := fun b => tpO (H b)
theorem tpH_tup {H : Hp} {b : Addr} {xs : List V} (h : H b = some (.tup xs)) : tpH H b = some (.tup xs) := by unfold tpH; rw [h]; rfl
theorem tpH_frz {H : Hp} {b : Addr} {o : Obj} {xs : List V} (h : H b = some (.frz o (.tup xs))) : tpH H b = some (.frz o (.tup xs)) := by unfold tpH; rw [h]; rfl
theorem sq_tp {K : PySem.W.Frag} {H H' : Hp} {a : Addr} {xs : List V} (k : ∀ b u, tpH H b = some u → H' b = some u) (h : SqT K H a xs) : SqT K H' a xs := by
  rcases h with (h | ⟨o, h⟩) | h
  · exact .inl (.inl (k _ _ (tpH_tup h)))
  · exact .inl (.inr ⟨o, k _ _ (tpH_frz h)⟩)
  · exact .inr h
mutual
theorem rep_pure {K : PySem.W.Frag} {g g' : Gh} {H H' : Hp} (k : ∀ b u, tpH H b = some u → H' b = some u) : ∀ {v : V} {d : D}, Rep K g H v d → pureD d = true → Rep K g' H' v d
  | _, _, .non, _ => .non
  | _, _, .bl b, _ => .bl b
  | _, _, .int i, _ => .int i
  | _, _, .str x, _ => .str x
  | _, _, .tup h r, p => .tup (sq_tp k h) (repL_pure k r (by simpa only [pureD] using p))
  | _, _, .fl _ _, p => by simp [pureD] at p
  | _, _, .sc _ _, p => by simp [pureD] at p
  | _, _, .fd _ _, p => by simp [pureD] at p
  | _, _, .kt _ _, p => by simp [pureD] at p
  | _, _, .ref _, p => by simp [pureD] at p
theorem repL_pure {K : PySem.W.Frag} {g g' : Gh} {H H' : Hp} (k : ∀ b u, tpH H b = some u → H' b = some u) : ∀ {vs : List V} {ds : List D}, RepL K g H vs ds → pureL ds = true → RepL K g' H' vs ds
  | _, _, .nil, _ => .nil
  | _, _, .cons r s, p => by
    simp only [pureL, Bool.and_eq_true] at p
    exact .cons (rep_pure k r p.1) (repL_pure k s p.2)
end
end G
namespace G
open PySem L2 PyProof.Rows GenW
section
variable {P : Program} {w : World} {K : PySem.W.Frag} {mg : Str → Option Value} {base : Heap} {cls : Cl} {k n : Nat}
end
structure Con (X : Cx) (pins : List (Addr × Obj)) (n0 : Nat) (T : Hp) : Prop where
  tp : tpH T = T
  lt : ∀ b u, T b = some u → b < n0
  loc : X.env.locals < n0
  cel : ∀ x c, X.env.cells.lookup x = some c → c < n0
  pin : ∀ p ∈ X.pn ++ pins, p.1 < n0
  s0 : X.s_0.heap.objs.size ≤ n0
section
variable {X : Cx} {pins : List (Addr × Obj)} {N : List Str} {qual : Str} {scope : Scope} {f : Addr} {cd : Value} {n0 a : Nat} {o : Obj} {T H Hg Hw : Hp} {σ σg : L2.St} {s₀ s₁ r : Shared} {ip pn : List (Addr × Obj)}
end
end G
namespace G
open PySem L2 PyProof.Rows GenW
def pz : GenState → GenState
  | .suspended _ l c p fs cl => .suspended (fun _ => .unsupported "asleep") l c p fs cl
  | x => x
def dOf (gens : Array GenState) (j : Nat) : Option GenState := match gens[j]? with
  | some (.suspended k l c p fs cl) => some (.suspended k l c p fs cl)
  | _ => none
def pzS (s : Shared) : Shared := { s with gens := s.gens.map pz }
theorem pz_seen (x : GenState) : (pz x).seen = x.seen := by cases x <;> rfl
theorem tb_pz (s : Shared) : Tb (dOf s.gens) (pzS s).gens := by
  refine ⟨fun j x h => ?_, fun j y h => ?_⟩
  · unfold dOf at h
    split at h
    · rename_i k l c p fs cl e
      cases h
      refine ⟨pz (.suspended k l c p fs cl), ?_, fun r => ⟨_, rfl⟩, (pz_seen _).symm⟩
      show (s.gens.map pz)[j]? = _
      rw [Array.getElem?_map, e]
      rfl
    · cases h
  · have h : (s.gens.map pz)[j]? = some y := h
    rw [Array.getElem?_map] at h
    cases hz : s.gens[j]? with
    | none => rw [hz] at h; cases h
    | some x =>
      rw [hz] at h
      cases h
      cases x with
      | suspended k l c p fs cl => exact .inl fun r => ⟨_, rfl⟩
      | _ => exact .inr rfl
theorem U_pz (s : Shared) : U (dOf s.gens) (pzS s) = s := by
  show ({ s with gens := un (dOf s.gens) (s.gens.map pz) } : Shared) = s
  have e : un (dOf s.gens) (s.gens.map pz) = s.gens := by
    apply Array.ext_getElem?
    intro j
    rw [un_get, Array.getElem?_map]
    unfold dOf
    cases hz : s.gens[j]? with
    | none => rfl
    | some x => cases x <;> rfl
  rw [e]
theorem asleep {α : Type} {M : Model} {A : Around} {s : Shared} {t : Sem α} {Q : α → Shared → Prop} (h : wpAny M A t Q (fun _ _ => False) (pzS s)) {E : Value → Shared → Prop} :
    wpAny M A t (fun a s' => ∃ z, s' = U (dOf s.gens) z ∧ Tb (dOf s.gens) z.gens ∧ Q a z) E s := by
  have := wpAny_asleep (tb_pz s) h
  rw [U_pz] at this
  exact wpAny_mono this (fun a s' q => q) fun e s' q => by
    obtain ⟨_, _, _, q⟩ := q
    exact q.elim
def Cx.no (X : Cx) : Cx := { X with xe := fun _ _ => False }
theorem Inv.no {X : Cx} {pins : List (Addr × Obj)} {σ : L2.St} {H : Hp} {s : Shared} (I : Inv X pins σ H s) : Inv (Cx.no X) pins σ H s :=
  ⟨⟨I.ok.mod, I.ok.kind, I.ok.glob, I.ok.blt, I.ok.above, I.ok.inj, I.ok.has, I.ok.cab, I.ok.hd, I.ok.frames, I.ok.stk, I.ok.exf, I.ok.bs, I.ok.bsz, I.ok.noex, I.ok.exfs, I.ok.funs, I.ok.frf⟩, I.os, I.bare, I.base, I.loc, I.cell, I.free, I.freeC, I.pin, I.hok, I.len⟩
theorem Inv.gens {X : Cx} {pins : List (Addr × Obj)} {σ : L2.St} {H : Hp} {s s' : Shared} (I : Inv X pins σ H s) (hh : s'.heap = s.heap) (ho : s'.os = s.os) (hg : AllBare s'.gens) : Inv X pins σ H s' := by
  refine ⟨I.ok, ho.trans I.os, hg, by rw [hh]; exact I.base, ?_, fun x c h => by rw [hh]; exact I.cell x c h, I.free, I.freeC, fun p hp => by rw [hh]; exact I.pin p hp, by rw [hh]; exact I.hok, I.len⟩
  rw [hh]
  exact I.loc
section
variable {A B : Type}
end
end G
namespace G
open PySem L2 PyProof.Rows GenW
section
variable {P : Program} {w : World} {K : PySem.W.Frag} {mg : Str → Option Value} {base : Heap} {cls : Cl} {k n : Nat}
variable {x qual : Str} {st : Stmt} {f : Addr} {fd : FuncData} {N : List Str} {p1 p2 : Str}
end
end G
namespace G
open PySem L2 PySem.Spec PyProof.Rows
def starM (t : M D) (u : M (List D)) : M (List D) := bnd t fun x => bnd (ask (itemsOf x)) fun xs => bnd u fun ys => ret (xs ++ ys)
def consM (t : M D) (u : M (List D)) : M (List D) := bnd t fun x => bnd u fun ys => ret (x :: ys)
def rngOk (i j : Int) : Prop := -(2 ^ 62) ≤ i ∧ i < 2 ^ 62 ∧ -(2 ^ 62) ≤ j ∧ j < 2 ^ 62 ∧ (j - i).toNat ≤ 16777216
instance {i j : Int} : Decidable (rngOk i j) := inferInstanceAs (Decidable (_ ∧ _))
def rlS (f : List D → D) : D → D → M D
  | .int i, .int j => if rngOk i j then ret (f (rngL i (j - i).toNat)) else bad
  | _, _ => bad
def rl2M (f : List D → D) (t u : M D) : M D := bnd t fun x => bnd u fun y => rlS f x y
def rl1M (f : List D → D) (t : M D) : M D := bnd t fun x => rlS f (.int 0) x
def dnL (lo : Int) (n : Nat) : List D := (List.range n).map fun k => .int (lo - (k : Nat))
def dn3S : D → D → D → M Its
  | .int i, .int j, .int k => if k = -1 ∧ -(2 ^ 62) ≤ i ∧ i < 2 ^ 62 ∧ -(2 ^ 62) ≤ j ∧ j < 2 ^ 62 then ret (dnL i (i - j).toNat, []) else bad
  | _, _, _ => bad
def dn3I (t u w : M D) : M Its := bnd t fun x => bnd u fun y => bnd w fun z => dn3S x y z
section
variable {X : Cx} {C : Cc} {ρ : List Sl}
theorem a_star {e : Expr} {es : List Expr} {c : M D} {u : M (List D)} {sp : Pos} (ha : PEc X C ρ e c) (hr : PAc X C ρ es u) (hs : starEach (.Starred e sp :: es) X.env = (true, eval e X.env) :: starEach es X.env := by rfl) : PAc X C ρ (.Starred e sp :: es) (starM c u) :=
  pa_imp (StX.pa_star ha hr hs) fun σ H Q q => by
    refine tG.bind q fun g1 H1 m1 v1 x1 at1 hv1 q1 => ?_
    obtain ⟨xs, hx, q1⟩ := Post.ask q1
    obtain ⟨p, vs, rfl, h1, h2⟩ := rep_seq at1.rel hv1 hx
    exact ⟨p, vs, rfl, h1.symm, g1, m1, at1, Post.bind q1 fun g2 H2 m2 v2 x2 p t rel2 hv2 q2 => q2.ret rel2 ((h2.mono p.v t).append hv2)⟩
theorem a_consG {e : Expr} {es : List Expr} {c : M D} {u : M (List D)} (ha : PEc X C ρ e c) (hr : PAc X C ρ es u) (hs : starEach (e :: es) X.env = (false, eval e X.env) :: starEach es X.env := by rfl) : PAc X C ρ (e :: es) (consM c u) :=
  pa_imp (pa_cons ha hr hs) fun σ H Q q => by
    refine tG.bind q fun g1 H1 m1 v1 x1 at1 hv1 q1 => ?_
    exact ⟨g1, m1, at1, Post.bind q1 fun g2 H2 m2 v2 x2 p t rel2 hv2 q2 => q2.ret rel2 (.cons (hv1.mono p.v t) hv2)⟩
end
end G
set_option maxHeartbeats 4000000
namespace G
open PySem L2 PySem.Spec PyProof.Rows
abbrev tpO0 (ws : Array Value) (z : Nat) (q : Option Addr) (so : Array (Option Value)) : Obj := { cls := .type "tuple", dict := q, data := .seq ws z, slots := so }
theorem once_tup {a : Addr} {ws : Array Value} {z : Nat} {q : Option Addr} {so : Array (Option Value)} {tk : Tok} :
    Meets (Builtin.«tuple.__mul__» ⟨[.ref a, .int 1 tk], []⟩) (fun _ R t => t.heap.get? a = some (tpO0 ws z q so) ∧ R (.ok (.ret (.ref a))) t) := by
  refine .of_wp fun pr wo ar R t hh => ?_
  obtain ⟨h1, h2, h3, h4, h5⟩ := t
  obtain ⟨e1, e2⟩ := hh
  have idx := AutoSeq1.idx_int
  wp_walk using wpAny_loadPart' e1
  exact ⟨_, rfl, e2⟩
theorem never_tup {a : Addr} {ws : Array Value} {z : Nat} {q : Option Addr} {so : Array (Option Value)} {tk : Tok} (hw : ws.isEmpty = false) :
    Meets (Builtin.«tuple.__mul__» ⟨[.ref a, .int 0 tk], []⟩) (fun _ R t => t.heap.get? a = some (tpO0 ws z q so) ∧
      R (.ok (.ret (.ref t.heap.objs.size))) { t with heap := t.heap.push { cls := .type "tuple", data := .seq #[] } }) := by
  refine .of_wp fun pr wo ar R t hh => ?_
  obtain ⟨h1, h2, h3, h4, h5⟩ := t
  obtain ⟨e1, e2⟩ := hh
  have idx := AutoSeq1.idx_int
  wp_walk using wpAny_loadPart' e1
  exact ⟨_, rfl, e2⟩
def mulTS : D → D → M D
  | .tup xs, .int k => if xs ≠ [] ∧ 0 ≤ k ∧ k ≤ 1000 ∧ xs.length ≤ 1000 then ret (.tup (List.replicate k.toNat xs).flatten) else bad
  | _, _ => bad
def mulTM (a b : M D) : M D := bnd a fun x => bnd b fun y => mulTS x y
def rOnce (K : PySem.W.Frag) : R2 := fun x y H Q => ∃ l xs, x = .ref l ∧ y = .int 1 ∧ SqT K H l xs ∧ Q (.ref l) H
def rNever (K : PySem.W.Frag) : R2 := fun x y H Q => ∃ l xs, x = .ref l ∧ y = .int 0 ∧ SqT K H l xs ∧ xs ≠ [] ∧ ∀ p, H p = none → Q (.ref p) (upd H p (.tup []))
section
variable {X : Cx}
theorem op_once : OpR X (binaryOp .Mult) (rOnce X.K) := by
  intro pn t σ H x y v u Q I rx ry h
  obtain ⟨l, xs, rfl, rfl, hT, q⟩ := h
  cases rx
  obtain ⟨tk, rfl⟩ := ry
  obtain ⟨its, r, ⟨⟨cl, dd, dt, so⟩, ho, hc, n, hd⟩, hs⟩ := I.tuple hT
  simp only at hc hd
  subst hc hd
  refine wpAny_binaryOp_repeat_ref (T := "tuple") (U := "int") (by decide) ⟨_, ho, rfl⟩ (fun z => typeIs_int z 1 tk) noFill_tuple_mul F.fills_int_mul F.slot_int_rmul repeat_tuple F.slot_int_index.lookup ?_
  refine call_meets F.slot_int_rmul (typeIs_int t 1 tk) F.entry_int_rmul (F.args_int_rmul_2 _ _) (int_rmul_tuple 1 tk l its.toArray n dd so) ⟨ho, rfl, ⟨_, ho, rfl⟩, ?_⟩
  exact call_meets F.slot_tuple_mul ⟨_, ho, rfl⟩ F.entry_tuple_mul (F.args_tuple_mul_2 _ _) (once_tup (ws := its.toArray)) ⟨ho, .ref l, H, I, rfl, q⟩
theorem op_never : OpR X (binaryOp .Mult) (rNever X.K) := by
  intro pn t σ H x y v u Q I rx ry h
  obtain ⟨l, xs, rfl, rfl, hT, hne, q⟩ := h
  cases rx
  obtain ⟨tk, rfl⟩ := ry
  obtain ⟨its, r, ⟨⟨cl, dd, dt, so⟩, ho, hc, n, hd⟩, hs⟩ := I.tuple hT
  simp only at hc hd
  subst hc hd
  have hw : its.toArray.isEmpty = false := by
    cases r with
    | nil => exact absurd rfl hne
    | cons _ _ => rfl
  refine wpAny_binaryOp_repeat_ref (T := "tuple") (U := "int") (by decide) ⟨_, ho, rfl⟩ (fun z => typeIs_int z 0 tk) noFill_tuple_mul F.fills_int_mul F.slot_int_rmul repeat_tuple F.slot_int_index.lookup ?_
  refine call_meets F.slot_int_rmul (typeIs_int t 0 tk) F.entry_int_rmul (F.args_int_rmul_2 _ _) (int_rmul_tuple 0 tk l its.toArray n dd so) ⟨ho, rfl, ⟨_, ho, rfl⟩, ?_⟩
  refine call_meets F.slot_tuple_mul ⟨_, ho, rfl⟩ F.entry_tuple_mul (F.args_tuple_mul_2 _ _) (never_tup (ws := its.toArray) hw) ⟨ho, ?_⟩
  refine ⟨.ref t.heap.objs.size, _, I.laid (t' := t.toks) (o := .tup []) (fun b ob z => Heap.get?_push_of_some _ z) (Nat.le_refl _) ?_, rfl, q _ (I.hok.fresh (Nat.le_refl _))⟩
  exact ⟨by simp, [], .nil, IsTup.new _ _⟩
def rMulT (K : PySem.W.Frag) : R2 := fun x y H Q => rRepT K x y H Q ∨ rOnce K x y H Q ∨ rNever K x y H Q
theorem op_mulT : OpR X (binaryOp .Mult) (rMulT X.K) := opOr op_repT (opOr op_once op_never)
variable {C : Cc} {ρ : List Sl} {cls : Cl}
end
end G
set_option maxHeartbeats 1000000
namespace L2
open PySem PySem.Spec PyProof.Rows PySem.W
theorem zip_nolen : typeLookup (.type "zip") "__len__" = pure none := by rw [typeLookup_type, builtinLookup_eq_fast]; kernel_rfl
theorem zip_nohint : typeLookup (.type "zip") "__length_hint__" = pure none := by rw [typeLookup_type, builtinLookup_eq_fast]; kernel_rfl
structure ZAt (z TI TO i1 i2 a b : Addr) (xs ys : Array Value) (B : Nat) (h : Heap) (k : Nat) : Prop where
  out : (k = 0 ∧ IsZip h z TI TO .none ∧ ∃ x y, IsPair h TO x y) ∨ ∃ T f o, B ≤ T ∧ IsZipHeld h z TI TO T f ∧ h.get? T = some o
  ti : IsPair h TI (.ref i1) (.ref i2)
  h1 : h.IsListIter i1 a k
  h2 : h.IsListIter i2 b k
  l1 : h.IsList a xs
  l2 : h.IsList b ys
structure ZLow (z TI TO i1 i2 a b S B : Nat) : Prop where
  z : z < B
  TI : TI < B
  TO : TO < B
  i1 : i1 < B
  i2 : i2 < B
  a : a < B
  b : b < B
  S : S < B
structure ZNe (z TI TO i1 i2 a b S : Nat) : Prop where
  z : S ≠ z
  TI : S ≠ TI
  TO : S ≠ TO
  i1 : S ≠ i1
  i2 : S ≠ i2
  a : S ≠ a
  b : S ≠ b
structure ZOut (xs ys : Array Value) (B : Nat) (h : Heap) (ts : List Addr) : Prop where
  ge : ∀ t, t ∈ ts → B ≤ t ∧ t < h.objs.size
  nd : ts.Nodup
  at' : ∀ (j : Nat) t, ts[j]? = some t → ∃ x y, xs[j]? = some x ∧ ys[j]? = some y ∧ IsPair h t x y
theorem ZOut.nil {xs ys : Array Value} {B : Nat} {h : Heap} : ZOut xs ys B h [] := ⟨fun t ht => absurd ht (by simp), List.nodup_nil, fun j t hj => absurd hj (by simp)⟩
theorem ZAt.upd {z TI TO i1 i2 a b S B k : Nat} {xs ys : Array Value} {h h' : Heap} (L : ZLow z TI TO i1 i2 a b S B) (N : ZNe z TI TO i1 i2 a b S) (st : ZAt z TI TO i1 i2 a b xs ys B h k) (kp : ∀ c o, c ≠ S → h.get? c = some o → h'.get? c = some o) : ZAt z TI TO i1 i2 a b xs ys B h' k := by
  obtain ⟨out, ti, h1, h2, l1, l2⟩ := st
  refine ⟨?_, kp _ _ N.TI.symm ti, h1.at fun o q => kp _ o N.i1.symm q, h2.at fun o q => kp _ o N.i2.symm q, l1.at fun o q => kp _ o N.a.symm q, l2.at fun o q => kp _ o N.b.symm q⟩
  rcases out with ⟨e, hz, x, y, hp⟩ | ⟨T, f, o, hB, hz, hT⟩
  · exact .inl ⟨e, kp _ _ N.z.symm hz, x, y, kp _ _ N.TO.symm hp⟩
  · exact .inr ⟨T, f, o, hB, kp _ _ N.z.symm hz, kp _ _ (fun e => by have := L.S; omega) hT⟩
section
variable {prog : Program} {w : World} {A : Around} {E : Value → Shared → Prop}
end
end L2
namespace L2
open PySem PySem.Spec PyProof.Rows PySem.W
section
variable {X : Cx} {pins : List (Addr × Obj)} {σ : L2.St} {H : Hp} {s : Shared}
theorem Inv.grow {H' : Hp} {h' : Heap} {t' : Nat} (I : Inv X pins σ H s) (k : ∀ b u, s.heap.get? b = some u → h'.get? b = some u) (e : ∀ b, b < s.heap.objs.size → H' b = H b) (n : ∀ b o, s.heap.objs.size ≤ b → H' b = some o → ObjOk X.prog X.w H' h' b o) :
    Inv X pins σ H' { s with heap := h', toks := t' } := by
  have hx : ∀ b o, H b = some o → b < s.heap.objs.size := fun b o q => I.hok.lt q
  refine I.un ⟨fun b u q _ _ _ => k b u q, fun b u q _ _ _ => ⟨u.slots, k b u q⟩, fun b u q z _ => ?_, fun b u q _ => ⟨u, k b u q⟩, fun b xs q => ?_, fun b u xs q => ?_, fun b ps q => ⟨#[], ?_⟩⟩ fun b u q => ?_
  · rw [e b (Heap.lt_size q)]; exact z
  · rw [e b (hx _ _ q)]; exact q
  · rw [e b (hx _ _ q)]; exact q
  · rw [e b (hx _ _ q), q]; simp
  · rcases Nat.lt_or_ge b s.heap.objs.size with hb | hb
    · have q2 := q
      rw [e b hb] at q2
      exact (I.hok b u q2).stay (fun c v _ z => k c v z) (fun c z => by rw [e c (hx _ _ z)]; exact z) fun c xs z => by rw [e c (hx _ _ z)]; exact z
    · exact n b u hb q
end
inductive LayP : Hp → List (V × V) → List Addr → Hp → Prop
  | nil {H : Hp} : LayP H [] [] H
  | cons {H H' : Hp} {x y : V} {ps : List (V × V)} {t : Addr} {ts : List Addr} : H t = none → LayP (upd H t (.tup [x, y])) ps ts H' → LayP H ((x, y) :: ps) (t :: ts) H'
section
variable {X : Cx} {e : Expr} {te : L2.St → Hp → (List V → List V → Hp → Prop) → Prop}
end
end L2
namespace G
open PySem L2 PySem.Spec PyProof.Rows
def zpL (xs ys : List D) : List D := List.zipWith (fun a b => .tup [a, b]) xs ys
def zpS (f : List D → D) (x y : D) : M D := bnd (ask (lstOf x)) fun xs => bnd (ask (lstOf y)) fun ys => ret (f (zpL xs ys))
def zpM (f : List D → D) (t u : M D) : M D := bnd t fun x => bnd u fun y => zpS f x y
section
variable {X : Cx} {C : Cc} {ρ : List Sl}
end
end G
namespace L2
end L2
namespace G
open PySem L2 PySem.Spec PyProof.Rows
def inD (x y : D) (m : Hs) : Option Bool := match pyD m deepest x, pyD m deepest y with
  | some d, some (.list ds) => some (ds.any fun z => PyData.eqv z d)
  | _, _ => none
def inDS (x y : D) : M D := bnd (ask (inD x y)) fun b => ret (.bl b)
def niDS (x y : D) : M D := bnd (ask (inD x y)) fun b => ret (.bl (!b))
def inDM (a b : M D) : M D := bnd a fun x => bnd b fun y => inDS x y
def niDM (a b : M D) : M D := bnd a fun x => bnd b fun y => niDS x y
section
variable {X : Cx} {C : Cc} {ρ : List Sl} {cls : Cl}
end
end G
namespace G
open PySem L2 PySem.Spec PyProof.Rows
def isBS : D → D → M D
  | .bl a, .bl b => ret (.bl (decide (a = b)))
  | _, _ => bad
def nsBS : D → D → M D
  | .bl a, .bl b => ret (.bl (!decide (a = b)))
  | _, _ => bad
def isBM (a b : M D) : M D := bnd a fun x => bnd b fun y => isBS x y
def nsBM (a b : M D) : M D := bnd a fun x => bnd b fun y => nsBS x y
section
variable {X : Cx} {C : Cc} {ρ : List Sl} {cls : Cl}
end
end G
namespace G
open PySem L2 PySem.Spec PyProof.Rows
section
variable {X : Cx} {C : Cc} {ρ : List Sl}
theorem Post.put {α A : Type} {Γ : Cst} {W : WX} {rep : Gh → Hp → A → α → Prop} {σ : L2.St} {g : Gh} {H : Hp} {m : Hs} {Q : A → Hp → Prop} {f : Hs → Option Hs} {h : M α} (q : Post Γ W rep σ g H Q (bnd (put f) (fun _ => h) m)) : ∃ m', f m = some m' ∧ Post Γ W rep σ g H Q (h m') := by
  unfold bnd G.put at q
  cases hz : f m with
  | none => rw [hz] at q; exact q.elim
  | some x => rw [hz] at q; exact ⟨x, rfl, q⟩
def catO (a b : M D) : M (List D) := bnd a fun x => bnd b fun y => bnd (ask (lstOf x)) fun xs => bnd (ask (lstOf y)) fun ys => if xs.length + ys.length ≤ sizeLine then ret (xs ++ ys) else bad
end
end G
namespace G
open PySem L2 PySem.Spec PyProof.Rows
section
variable {X : Cx} {cls : Cl}
end
end G
namespace G
open PySem L2 PySem.Spec PyProof.Rows
section
variable {ρ : List Sl}
end
section
variable {X : Cx} {cls : Cl}
end
end G
set_option maxHeartbeats 2000000
namespace G
open PySem L2 PySem.Spec PyProof.Rows
section
variable {X : Cx} {cls : Cl}
end
end G
namespace HT
open PySem PyProof.Rows
section
variable {prog : Program} {w : World} {A : Around} {E : Value → Shared → Prop} {s : Shared}
end
end HT
namespace G
open PySem L2 PySem.Spec PyProof.Rows
section
variable {X : Cx} {C : Cc} {ρ : List Sl}
theorem RepL.reverse {K : PySem.W.Frag} {g : Gh} {H : Hp} : ∀ {xs : List V} {ds : List D}, RepL K g H xs ds → RepL K g H xs.reverse ds.reverse
  | _, _, .nil => .nil
  | _, _, .cons h t => by
    rw [List.reverse_cons, List.reverse_cons]
    exact (RepL.reverse t).append (.cons h .nil)
end
end G
set_option maxHeartbeats 1000000
namespace G
open PySem L2 PySem.Spec PyProof.Rows
def FnRK (P : Program) (w : World) (K : PySem.W.Frag) (mg : Str → Option Value) (base : Heap) (CX : CXT) (k : Nat) (f : Addr) (kw : Str) (sp : Sp) : Prop :=
  ∀ (A : Around) (outer : List Env) (s : Shared) (H : Hp) (us : List Value) (u : Value) (vs : List V) (v : V) (Q : VK) (E : XK), Room k A → Env0 P w K mg base A outer s H → Vals vs us → RelV v u → sp (v :: vs) H Q E →
    codeAny (model P w) A (.call (.ref f) ⟨us, [(kw, u)]⟩) (CR CX outer P w H s Q E) s
section
variable {P : Program} {w : World} {K : PySem.W.Frag} {mg : Str → Option Value} {base : Heap} {cls : Cl} {k : Nat}
end
theorem FnRK.mono {P : Program} {w : World} {K : PySem.W.Frag} {mg : Str → Option Value} {base : Heap} {CX : CXT} {j k : Nat} {f : Addr} {kw : Str} {sp : Sp} (F : FnRK P w K mg base CX j f kw sp) (h : j ≤ k) : FnRK P w K mg base CX k f kw sp := fun A outer s H us u vs v Q E hr => F A outer s H us u vs v Q E (hr.mono h)
section
variable {X : Cx} {C : Cc} {ρ : List Sl} {k : Nat} {sp : Sp} {f : Addr} {E0 : L2.St → XK}
end
end G
set_option maxHeartbeats 2000000
namespace G
open PySem L2 PySem.Spec PyProof.Rows
section
variable {X : Cx} {C : Cc} {ρ : List Sl} {k : Nat}
theorem XDx.upd {H : Hp} {a : Addr} {o : HO} {d : Option Addr} {fs : List (Str × V)} (hn : H a = none) (h : XDx H d fs) : XDx (L2.upd H a o) d fs := by
  cases d with
  | none => exact h
  | some d =>
    have h : H d = some (.xd fs) := h
    show L2.upd H a o d = _
    rw [upd_ne (fun z => by rw [z, hn] at h; cases h)]
    exact h
structure XcC (K : PySem.W.Frag) (E : Addr) : Prop where
  f : XfC K E
  e : ExcC K E
end
end G
namespace G
open PySem L2 PySem.Spec PyProof.Rows
structure GrC (K : PySem.W.Frag) (B : Addr) : Prop where
  rd : PySem.W.readsIn K B (.type "type") = true
  ga : PySem.W.specialIn K (.ref B) "__getattribute__" = some (some (.builtin "type.__getattribute__"))
  at_ : PySem.W.findCls K (.ref B) (.type "type") "__init__" = some (.val (.builtin "ValueError.__init__"))
section
variable {X : Cx} {o e : Expr} {es : List Expr} {to te : TE} {ta : TA} {f : Str} {p p' p1 p2 pos : Pos}
end
section
variable {P : Program} {w : World} {K : PySem.W.Frag} {mg : Str → Option Value} {base : Heap} {k : Nat}
end
section
variable {X : Cx} {C : Cc} {ρ : List Sl} {k : Nat} {A B : Type} {oa : A → List Sl} {ob : B → List Sl}
theorem RepF.append {K : PySem.W.Frag} {g : Gh} {H : Hp} {ys : List (Str × V)} {es : List (Str × D)} : ∀ {xs : List (Str × V)} {ds : List (Str × D)}, RepF K g H xs ds → RepF K g H ys es → RepF K g H (xs ++ ys) (ds ++ es)
  | _, _, .nil, h => h
  | _, _, .cons h t, h2 => .cons h (RepF.append t h2)
theorem RepF.reverse {K : PySem.W.Frag} {g : Gh} {H : Hp} : ∀ {xs : List (Str × V)} {ds : List (Str × D)}, RepF K g H xs ds → RepF K g H xs.reverse ds.reverse
  | _, _, .nil => .nil
  | _, _, .cons h t => by
    rw [List.reverse_cons, List.reverse_cons]
    exact RepF.append (RepF.reverse t) (.cons h .nil)
end
end G
namespace G
open PySem L2 PySem.Spec PyProof.Rows
section
variable {X : Cx} {pins : List (Addr × Obj)} {σ : L2.St} {H : Hp} {s : Shared}
end
section
variable {X : Cx} {x n : Str} {c : Value} {i j : Nat} {body : List Stmt} {b₀ : Stmt} {np pos pos' : Pos} {tb : WX → TS} {Wout : WX}
end
end G
namespace G
open PySem L2 PySem.Spec PyProof.Rows
def IsXb (K : PySem.W.Frag) (cls : Cl) (cv : Value) (xb : Nat → Option Bool) : Prop := ∀ k b, xb k = some b → ∀ E, cls k = some E → ExcC K E ∧ PySem.W.kitOne K (.ref E) cv = some b
section
variable {X : Cx} {C : Cc} {ρ : List Sl} {k : Nat} {A B A' B' : Type} {oa : A → List Sl} {ob : B → List Sl}
end
end G
namespace G
open PySem L2 PySem.Spec PyProof.Rows
section
variable {Γ : Cst} {g : Gh} {m : Hs} {H : Hp} {P c : Addr} {ps qs : Array Value} {q : Str}
end
section
variable {X : Cx} {pins : List (Addr × Obj)} {σ : L2.St} {H : Hp} {s : Shared}
end
end G
namespace G
open PySem L2 PySem.Spec PyProof.Rows
section
variable {X : Cx} {pins : List (Addr × Obj)} {σ : L2.St} {H : Hp} {s : Shared}
end
section
variable {K : PySem.W.Frag} {g g' : Gh} {H H' : Hp}
mutual
theorem Rep.moveW (p : Lv0 g g') (t : TW H H') : ∀ {v : V} {d : D}, Rep K g H v d → Rep K g' H' v d
  | _, _, .non => .non
  | _, _, .bl b => .bl b
  | _, _, .int i => .int i
  | _, _, .str x => .str x
  | _, _, .kt h r => .kt (t.tup _ _ h) (RepL.moveW p t r)
  | _, _, .tup h r => .tup (by
      rcases h with (h | ⟨o, h⟩) | h
      · exact .inl (.inl (t.tup _ _ h))
      · exact .inl (.inr ⟨o, t.frz _ _ _ h⟩)
      · exact .inr h) (RepL.moveW p t r)
  | _, _, .fl h r => .fl (p.fz _ h) (RepL.moveW p t r)
  | _, _, .sc h r => .sc (by
      rcases h with ⟨o, h⟩ | h
      · exact .inl ⟨o, t.frz _ _ _ h⟩
      · exact .inr h) (RepL.moveW p t r)
  | _, _, .fd h r => .fd (p.fz _ h) (RepL.moveW p t r)
  | _, _, .ref h => .ref (pre_get p.hs h)
theorem RepL.moveW (p : Lv0 g g') (t : TW H H') : ∀ {vs : List V} {ds : List D}, RepL K g H vs ds → RepL K g' H' vs ds
  | _, _, .nil => .nil
  | _, _, .cons r s => .cons (Rep.moveW p t r) (RepL.moveW p t s)
end
end
theorem RelS.at {Γ : Cst} {gB g g' : Gh} {H H' : Hp} {ρ : List Sl} {σ : L2.St} (h : RelS Γ gB g H ρ σ) (p : Le g g') (t : TW H H') : RelS Γ gB g' H' ρ σ := by
  have up : ∀ {v : V} {d : D}, Rep Γ.K g H v d → Rep Γ.K g' H' v d := fun {v d} r => by
    refine Rep.moveW p.v t r
  exact ⟨h.len, fun i d e => by
    obtain ⟨v, h1, h2⟩ := h.val i d e
    exact ⟨v, h1, up h2⟩, fun i xs e => by
    obtain ⟨a, vs, h1, h2, h3, h4⟩ := h.own i xs e
    exact ⟨a, vs, h1, p.pv _ h2, RepL.moveW p.v t h3, h4⟩, h.inj, h.raw⟩
section
variable {X : Cx} {C : Cc} {ρ : List Sl} {k : Nat}
end
end G
namespace G
open PySem L2 PySem.Spec PyProof.Rows
section
variable {P : Program} {w : World} {K : PySem.W.Frag} {mg : Str → Option Value} {base : Heap} {cls : Cl} {k n : Nat}
section
variable {x qual : Str} {st : Stmt} {f : Addr} {fd : FuncData} {N : List Str} {p1 p2 p3 p4 p5 : Str} {cd0 : Value}
end
end
def OnlyT (J : Hp) : Prop := ∀ b, J b = none ∨ (∃ o xs, J b = some (.frz o (.lst xs))) ∨ ∃ ps, J b = some (.tbl ps)
theorem only3 {J : Hp} (h : Only J) : OnlyT J := fun b => (h b).elim .inl fun z => .inr (.inl z)
end G
namespace G
open PySem L2 PySem.Spec PyProof.Rows
section
variable {X : Cx} {C : Cc} {ρ : List Sl} {k : Nat} {A B A1 : Type} {oa : A → List Sl} {ob : B → List Sl} {oa1 : A1 → List Sl}
end
section
variable {X : Cx} {C : Cc} {ρ : List Sl} {k : Nat}
inductive ClsL (X : Cx) (C : Cc) : List Expr → List (Nat → Option Bool) → TA → Prop where
  | nil : ClsL X C [] [] tNil
  | cons {T : Str} {p : Pos} {c : V} {cv : Value} {xb : Nat → Option Bool} {es : List Expr} {xs : List (Nat → Option Bool)} {ta : TA} (hT : PE X (.Name T p) (tC c)) (hcv : ClsV c cv) (B : IsXb X.K C.cls cv xb) (h : ClsL X C es xs ta) : ClsL X C (.Name T p :: es) (xb :: xs) (tCons (tC c) ta)
theorem ClsL.spec {es : List Expr} {xbs : List (Nat → Option Bool)} {ta : TA} (h : ClsL X C es xbs ta) (hst : ∀ e es, starEach (e :: es) X.env = (false, eval e X.env) :: starEach es X.env → True) :
    ∃ (cs : List V) (us : List Value), Paired ClsV cs us ∧ cs.length = es.length ∧ (∀ σ H Q, Q cs H → ta σ H Q) ∧ ∀ c bs E, mapO (fun f => f c) xbs = some bs → C.cls c = some E → PySem.W.kitAny X.K (.ref E) us = some (bs.any id) := by
  induction h with
  | nil => exact ⟨[], [], .nil, rfl, fun σ H Q q => q, fun c bs E hb _ => by simp only [mapO, Option.some.injEq] at hb; subst hb; rfl⟩
  | @cons T p c cv xb es xs ta hT hcv B h ih =>
    obtain ⟨cs, us, h1, h0, h2, h3⟩ := ih
    refine ⟨c :: cs, cv :: us, .cons hcv h1, by simp [h0], fun σ H Q q => ?_, fun cc bs E hb hE => ?_⟩
    · show tC c σ H fun v H1 => ta σ H1 fun vs H2 => Q (v :: vs) H2
      exact h2 σ H _ q
    · simp only [mapO] at hb
      split at hb
      · rename_i y ys e1 e2
        cases hb
        obtain ⟨_, k1⟩ := B cc y e1 E hE
        have k2 := h3 cc ys E e2 hE
        simp only [PySem.W.kitAny, k1, List.any_cons, id]
        cases y
        · simpa using k2
        · rfl
      · cases hb
end
end G
namespace G
open PySem
end G
namespace G
open PySem L2 PySem.Spec PyProof.Rows
section
variable {X : Cx} {C : Cc} {ρ : List Sl}
end
end G
namespace G
open PySem L2 PySem.Spec PyProof.Rows
def isKt : List D → Bool
  | [.non] => true
  | _ => false
def pyQ (m : Hs) : Nat → D → Option PyData
  | _, .non => some .none
  | _, .bl b => some (.bool b)
  | _, .int i => some (.int i)
  | _, .str s => if PyData.strOk s then some (.str s) else none
  | 0, _ => none
  | n + 1, .tup xs => (mapO (pyQ m n) xs).map .tuple
  | n + 1, .fl xs => (mapO (pyQ m n) xs).map .list
  | _ + 1, .sc _ => none
  | n + 1, .fd ks vs => if isKt ks = true then none else match mapO (pyQ m n) ks, mapO (pyQ m n) vs with
    | some ps, some qs => some (.dict (ps.zip qs))
    | _, _ => none
  | n + 1, .ref k => match m[k]? with
    | some (.lst xs) => (mapO (pyQ m n) xs).map .list
    | _ => none
section
variable {X : Cx} {C : Cc} {ρ : List Sl} {cls : Cl}
end
end G
namespace G
open PySem L2 PySem.Spec PyProof.Rows
def strS : List D → M D
  | [.int i] => if i.natAbs.log2 < 1920 then ret (.str (toString i)) else bad
  | [.bl b] => ret (.str (if b then "True" else "False"))
  | _ => bad
section
variable {X : Cx} {C : Cc} {ρ : List Sl} {cls : Cl}
def rStrS : List V → Hp → VK → Prop := fun xs H Q => (∃ i, xs = [.int i] ∧ i.natAbs.log2 < 1920 ∧ Q (.str (toString i)) H) ∨ ∃ b, xs = [.bl b] ∧ Q (.str (if b then "True" else "False")) H
theorem call_strA : CallR X (.type "str") rStrS := by
  intro pins s σ H xs us Q I r h
  rcases h with h | ⟨b, rfl, q⟩
  · exact call_str_int pins s σ H xs us Q I r h
  · obtain ⟨u, rfl, t⟩ := vals1 r
    cases t
    exact PySem.P.str_of_bool ⟨.str _, H, I.tok _, ⟨_, rfl⟩, q⟩
theorem sv_str : ServesC X cls rStrS strS := by
  intro W σ g H m vs ds Q rel hv q
  rcases ds with _ | ⟨d, _ | ⟨d2, t⟩⟩
  · exact q.elim
  · cases hv with
    | cons a b =>
      cases b
      cases a with
      | int i =>
        simp only [strS] at q
        obtain ⟨hz, q⟩ := Post.ite q
        exact .inl ⟨i, rfl, hz, q.ret rel (.str _)⟩
      | bl i => exact .inr ⟨i, rfl, q.ret rel (.str _)⟩
      | _ => exact q.elim
  · cases d <;> exact q.elim
end
end G
namespace G
open PySem L2 PySem.Spec PyProof.Rows
section
variable {X : Cx} {a b c d : Expr} {ta tb tc td : TE} {pos : Pos}
end
section
variable {X : Cx} {C : Cc} {ρ : List Sl}
end
def blsOf : List D → Option (List Bool)
  | [] => some []
  | .bl b :: xs => (blsOf xs).map (b :: ·)
  | _ => none
def isFlO (x : D) (m : Hs) : Option Unit := match x with
  | .fl _ => some ()
  | _ => none
section
variable {X : Cx}
end
section
variable {X : Cx} {C : Cc} {ρ : List Sl}
end
end G
namespace G
open PySem L2 PySem.Spec PyProof.Rows
def hasD (ks : List D) (k : D) : Bool := ks.any fun a => beqD a k
section
variable {K : PySem.W.Frag} {g g' : Gh} {H H' : Hp}
end
theorem u1 {n : Nat} (h : n + 65 < cLine) : n + 1 < cLine := Nat.lt_of_le_of_lt (by omega) h
theorem Rel.dct {Γ : Cst} {g : Gh} {H : Hp} {m : Hs} {n : Nat} {a : Addr} {ks ds : List D} (R : Rel Γ g m H) (h1 : m[n]? = some (.dct ks ds)) (h2 : g.hs[n]? = some a) : ∃ kvs, H a = some (.dT kvs) ∧ ks = keysT kvs ∧ RepL Γ.K g H (kvs.map (·.2)) ds := R.obj n _ a h1 h2
section
variable {X : Cx} {C : Cc} {ρ : List Sl} {A B : Type} {oa : A → List Sl} {ob : B → List Sl}
end
end G
namespace G
open PySem L2
section
variable {X : Cx} {C : Cc} {ρ : List Sl} {k : Nat} {A B A' B' : Type} {oa : A → List Sl} {ob : B → List Sl} {oa' : A' → List Sl} {g g' : Gh} {H H' : Hp} {De : Ends} {Γ : Cst} {σ : L2.St} {m : Hs}
end
end G
namespace G
open PySem L2 PySem.Spec PyProof.Rows
section
variable {X : Cx} {C : Cc} {ρ : List Sl} {A B : Type} {oa : A → List Sl} {ob : B → List Sl}
theorem RepL.snoc {K : PySem.W.Frag} {g : Gh} {H : Hp} : ∀ {vs : List V} {ds : List D} {d : D}, RepL K g H vs (ds ++ [d]) → ∃ us u, vs = us ++ [u] ∧ RepL K g H us ds ∧ Rep K g H u d
  | _, [], d, h => by
    cases h with
    | cons a b => cases b; exact ⟨[], _, rfl, .nil, a⟩
  | _, x :: ds, d, h => by
    cases h with
    | cons a b =>
      obtain ⟨us, u, rfl, h1, h2⟩ := RepL.snoc b
      exact ⟨_ :: us, u, rfl, .cons a h1, h2⟩
end
end G
namespace G
open PySem L2 PySem.Spec PyProof.Rows
theorem Clr.in1 {gu : Bool} {A : Around} (h : Clr gu A) : Clr gu A.in1 := fun e => h e
def prpO (tb : Nat → Option (List D → M D)) (x : D) (m : Hs) : Option (List D → M D) := match x with
  | .ref n => match m[n]? with
    | some (.ins c _) => tb c
    | _ => none
  | _ => none
def prpM (tb : Nat → Option (List D → M D)) (a : M D) : M D := bnd a fun x => bnd (ask (prpO tb x)) fun g => calm (g [x])
section
variable {X : Cx} {C : Cc} {ρ : List Sl} {k : Nat} {gu : Bool}
end
end G
namespace G
open PySem L2 PySem.Spec PyProof.Rows
def lenC (x : D) : M D := match x with
  | .int i => if 0 ≤ i ∧ i < 2 ^ 63 then ret (.int i) else bad
  | _ => bad
def lenI (tb : Nat → Option (List D → M D)) (a : M D) : M D := bnd a fun x => bnd (ask (prpO tb x)) fun g => bnd (calm (g [x])) lenC
section
variable {X : Cx} {C : Cc} {ρ : List Sl} {k : Nat} {gu : Bool}
end
end G
set_option maxHeartbeats 4000000
namespace G
open PySem L2 PySem.Spec PyProof.Rows
def mulWS : D → D → M D
  | .tup xs, .int k => if xs.length = 1 ∧ 2 ≤ k ∧ k ≤ 100000 then ret (.tup (List.replicate k.toNat xs).flatten) else mulTS (.tup xs) (.int k)
  | x, y => mulTS x y
def mulWM (a b : M D) : M D := bnd a fun x => bnd b fun y => mulWS x y
def rMany (K : PySem.W.Frag) : R2 := fun x y H Q => ∃ l k xs, x = .ref l ∧ y = .int k ∧ SqT K H l xs ∧ xs.length = 1 ∧ 2 ≤ k ∧ k ≤ 100000 ∧ ∀ p, H p = none → Q (.ref p) (upd H p (.tup (List.replicate k.toNat xs).flatten))
section
variable {X : Cx}
theorem op_many : OpR X (binaryOp .Mult) (rMany X.K) := by
  intro pn t σ H x y v u Q I rx ry h
  obtain ⟨l, k, xs, rfl, rfl, hT, hone, hlo, hhi, q⟩ := h
  cases rx
  obtain ⟨tk, rfl⟩ := ry
  obtain ⟨its, r, ⟨⟨cl, dd, dt, so⟩, ho, hc, n, hd⟩, hs⟩ := I.tuple hT
  simp only at hc hd
  subst hc hd
  have hl1 : its.length = 1 := r.length.symm.trans hone
  obtain ⟨w, rfl⟩ : ∃ w, its = [w] := by
    cases its with
    | nil => cases hl1
    | cons w ws =>
      cases ws with
      | nil => exact ⟨w, rfl⟩
      | cons _ _ => simp at hl1
  have hone2 : (((#[w] : Array Value).size : Nat) : Int) * k = k := by
    show ((1 : Nat) : Int) * k = k
    omega
  have hbig : ¬ (((#[w] : Array Value).size : Nat) : Int) * k > (2 ^ 63 - 1) / 8 := by
    rw [hone2]
    omega
  have hflat : ∀ j : Nat, (List.replicate j [w]).flatten.length = j := fun j => by
    rw [PyProof.Rows.lm_len_rep_flat]
    exact Nat.mul_one j
  have hbound : k.toNat ≤ sizeLine := by
    rw [sizeLine_eq]
    omega
  refine wpAny_binaryOp_repeat_ref (T := "tuple") (U := "int") (by decide) ⟨_, ho, rfl⟩ (fun z => typeIs_int z k tk) noFill_tuple_mul F.fills_int_mul F.slot_int_rmul repeat_tuple F.slot_int_index.lookup ?_
  refine call_meets F.slot_int_rmul (typeIs_int t k tk) F.entry_int_rmul (F.args_int_rmul_2 _ _) (int_rmul_tuple k tk l [w].toArray n dd so) ⟨ho, rfl, ⟨_, ho, rfl⟩, ?_⟩
  refine call_meets F.slot_tuple_mul ⟨_, ho, rfl⟩ F.entry_tuple_mul (F.args_tuple_mul_2 _ _) (tuple_mulW l [w].toArray n dd so k tk ?_ ?_ ?_ hbig ?_ ?_) ⟨ho, ?_⟩
  · rw [Bool.or_eq_false_iff]
    exact ⟨decide_eq_false (by omega), decide_eq_false (by omega)⟩
  · rw [Bool.or_eq_false_iff]
    exact ⟨rfl, beq_eq_false_iff_ne.mpr (by omega)⟩
  · rw [Bool.or_eq_false_iff]
    exact ⟨decide_eq_false (by omega), rfl⟩
  · unfold Builtin.Tuple.tupleTooMany
    rw [hone2, sizeLine_eq]
    exact decide_eq_false (by omega)
  · rw [size_rep, List.size_toArray, hflat]
    exact hbound
  · rw [size_rep]
    refine ⟨.ref t.heap.objs.size, _, I.laid (t' := t.toks) (o := .tup (List.replicate k.toNat xs).flatten) (fun b ob z => Heap.get?_push_of_some _ z) (Nat.le_refl _) ?_, rfl, q _ (I.hok.fresh (Nat.le_refl _))⟩
    refine ⟨?_, _, r.rep k.toNat, IsTup.new _ _⟩
    rw [PyProof.Rows.lm_len_rep_flat, hone, Nat.mul_one]
    exact hbound
def rMulW (K : PySem.W.Frag) : R2 := fun x y H Q => rMany K x y H Q ∨ rMulT K x y H Q
theorem op_mulW : OpR X (binaryOp .Mult) (rMulW X.K) := opOr op_many op_mulT
variable {C : Cc} {ρ : List Sl} {cls : Cl}
end
end G
set_option maxHeartbeats 2000000
namespace G
open PySem L2 PySem.Spec PyProof.Rows
section
variable {prog : Program} {w : World} {A : Around} {E : Value → Shared → Prop} {s : Shared} {K : PySem.W.Frag} {x y C f : Addr} {ox : Obj} {od : Option Obj} {name : Str}
open PySem.W in
theorem ifBound_B {M : Model} {id : String} {args : List Value} {Q : Option Value → Shared → Prop} (X : K.In s.heap) (I : InstAt s.heap x ox C od) (hs : findIn K (.ref C) name = some (some (.builtin id)))
    (hb : ∀ self, bindSpecial (.builtin id) self = pure (.builtin id, [self])) (h : wpAny M A (call (.builtin id) (.ref x :: args)) (fun v => Q (some v)) E s) : wpAny M A (callSpecialIfBound? (.ref x) name args) Q E s := by
  simp only [callSpecialIfBound?, bindSpecialIfBound?]
  refine wpAny_holding (wpAny_bind (wpAny_bind (wpAny_bind (I.type.here ((looks_findIn X hs).here ?_)))))
  simp only [hb]
  refine wpAny_bind (wpAny_askSetting (wpAny_ite ?_))
  have fin : wpAny M A (call (.builtin id) ([.ref x] ++ args) >>= fun v => pure (some v)) Q E s := wpAny_bind (wpAny_mono h (fun v s' h' => wpAny_pure h') fun _ _ h' => h')
  split
  · exact wpAny_bind (wpAny_pure (wpAny_pure fin))
  · exact wpAny_tryCatch (wpAny_bind (wpAny_pure (wpAny_pure fin)))
open PySem.W in
theorem ne_body {M : Model} {Q : Fin → Shared → Prop} (hu : A.units < cLine) (X : K.In s.heap) (I : InstAt s.heap x ox C od) (he : findIn K (.ref C) "__eq__" = some (some (.ref f))) (hf : isFn K (.ref f) = true)
    (h : wpAny M A (call (.ref f) [.ref x, .ref y]) (fun v s' => ∃ b, v = .bool b ∧ Q (.done (.ret (.bool !b))) s') E s) : wpAny M A (Builtin.«object.__ne__» ⟨[.ref x, .ref y], []⟩) Q E s := by
  have h2 : ∀ {R : Option Value → Shared → Prop}, (∀ b s', Q (.done (.ret (.bool !b))) s' → R (some (.bool b)) s') → wpAny M A (callSpecialIfBound? (.ref x) "__eq__" [.ref y]) R E s := fun hR =>
    ifBound_K X I he hf (wpAny_mono h (fun v s' ⟨b, e, q⟩ => by subst e; exact hR b s' q) fun _ _ e => e)
  unfold Builtin.«object.__ne__»
  obtain ⟨hp, g, d, t, os⟩ := s
  repeat (first | with_reducible refine wpAny_cRoomFor hu ?_ | with_reducible refine h2 ?_ | wp_step)
  intro b s' q
  obtain ⟨hp', g', d', t', os'⟩ := s'
  repeat wp_step
  exact q
open PySem.W in
theorem ne_walk {Q : Value → Shared → Prop} (hu : A.units + 1 < cLine) (X : K.In s.heap) (I : InstAt s.heap x ox C od) (J : Looks (model prog w) s.heap (typeOf (.ref y)) (.ref C))
    (hs : findIn K (.ref C) "__ne__" = some (some (.builtin "object.__ne__"))) (ho : subIn K (.ref C) (.type "object") = some true) (he : findIn K (.ref C) "__eq__" = some (some (.ref f))) (hf : isFn K (.ref f) = true)
    (h : wpAny (model prog w) A.in1 (call (.ref f) [.ref x, .ref y]) (fun v s' => ∃ b, v = .bool b ∧ Q (.bool !b) s') E s) : wpAny (model prog w) A (richCompare .NotEq (.ref x) (.ref y)) Q E s := by
  have hcall : wpAny (model prog w) A (call (.builtin "object.__ne__") [.ref x, .ref y]) (fun v s' => ∃ b, v = .bool b ∧ Q (.bool b) s') E s := by
    refine wpAny_call (codeAny_call_builtin F.cmp_object.ne.plain F.cmpEntry_ne (check_slot F.cmpKind_ne F.cmpSplit_ne (I.type.andThen (looks_subIn X ho)) (F.cmpArgs_ne _ _) ?_))
    exact ne_body hu X I he hf (wpAny_mono h (fun v s' ⟨b, e, q⟩ => ⟨b, e, _, rfl, q⟩) fun _ _ e => e)
  have one : wpAny (model prog w) A (tryCompare (.ref x) "__ne__" (.ref y)) (fun r s' => ∃ v, r = some v ∧ Q v s') E s := by
    unfold tryCompare
    refine wpAny_bind (ifBound_B X I hs (fun self => F.cmp_object.ne.bind self) (wpAny_mono hcall (fun v s' ⟨b, e, q⟩ => ?_) fun _ _ e => e))
    subst e
    exact wpAny_pure ⟨_, rfl, q⟩
  unfold richCompare
  simp only [oneThing_ref]
  refine wpAny_holding (wpAny_bind (wpAny_cRoomFor (by omega) ?_))
  refine wpAny_bind (I.type.here (wpAny_bind (J.here ?_)))
  rw [if_neg (by simp)]
  refine wpAny_bind (wpAny_pure ?_)
  simp only [Bool.false_eq_true, if_false]
  refine wpAny_bind (wpAny_mono one (fun r s' z => ?_) fun _ _ e => e)
  obtain ⟨v, rfl, hq⟩ := z
  exact wpAny_pure hq
end
def notB (x : D) : M D := match x with
  | .bl b => ret (.bl !b)
  | _ => bad
def neF (tb : Nat → Option (List D → M D)) (x y : D) (m : Hs) : Option (List D → M D) := match x, y with
  | .ref n, .ref k => match m[n]?, m[k]? with
    | some (.ins c _), some (.ins d _) => if c = d then tb c else none
    | _, _ => none
  | _, _ => none
def neS (tb : Nat → Option (List D → M D)) (x y : D) : M D := bnd (ask (neF tb x y)) fun g => bnd (calm (g [x, y])) notB
def neI (tb : Nat → Option (List D → M D)) (a b : M D) : M D := bnd a fun x => bnd b fun y => neS tb x y
section
variable {X : Cx} {C : Cc} {ρ : List Sl} {k : Nat} {gu : Bool}
def rNe {F : Type} (ok : Addr → F → Prop) (sp : F → Sp) : R2 := fun x y H Q => ∃ D' n a b dx dy fs gs, x = .ref a ∧ y = .ref b ∧ ok D' n ∧ H a = some (.ins D' dx fs) ∧ H b = some (.ins D' dy gs) ∧ sp n [.ref a, .ref b] H (fun v H' => ∃ r, v = .bl r ∧ Q (.bl !r) H') (fun _ _ _ => False)
theorem op_ne {F : Type} {sp : F → Sp} {ok : Addr → F → Prop} (hr : Room (k + 1) X.A) (cl : Clr gu X.A)
    (hM : ∀ D' n, ok D' n → PySem.W.findIn X.K (.ref D') "__ne__" = some (some (.builtin "object.__ne__")) ∧ PySem.W.subIn X.K (.ref D') (.type "object") = some true ∧ ∃ (f : Addr) (fd : FuncData) (ps : List Str), Cls X.K D' ∧ Meth X.K D' "__eq__" f ∧ Binds X.K fd ps [] ∧ FnG gu X.prog X.w X.K X.mg X.base (L2.CX X.prog X.w) k f fd ps (sp n)) :
    OpR X (compareOp .NotEq) (rNe ok sp) := by
  intro pins s σ H x y u v Q I rx ry h
  obtain ⟨D', n, a, b, dx, dy, fs, gs, rfl, rfl, hok, ea, eb, q⟩ := h
  obtain rfl : u = Value.ref a := rx
  obtain rfl : v = Value.ref b := ry
  obtain ⟨hn, hobj, f, fd, ps, c, hm, hb, F⟩ := hM D' n hok
  obtain ⟨mA, O, _, _, _, _⟩ := ins_get I.hok ea
  obtain ⟨od, J, _⟩ := O.look
  obtain ⟨mB, O2, _, _, _, _⟩ := ins_get I.hok eb
  obtain ⟨od2, J2, _⟩ := O2.look
  have hl : [V.ref a, V.ref b].length = ps.length := F.len _ _ _ _ q
  have b1 := hb s [.ref a, .ref b] I.kIn (by rw [List.append_nil]; exact hl)
  rw [List.append_nil] at b1
  show wpAny (model X.prog X.w) X.A (richCompare .NotEq (.ref a) (.ref b)) (EP X pins σ Q) X.xe s
  refine ne_walk (by have := hr.units; omega) I.kIn J J2.type hn hobj hm.at_ hm.fn ?_
  refine wpAny_call (codeAny_mono (F.run X.A.in1 X.stack s H ⟨[.ref a, .ref b], []⟩ [.ref a, .ref b] [.ref a, .ref b] _ (fun _ _ _ => False) hr.in1 cl.in1 I.env0.in1 b1 (.cons rfl (.cons rfl .nil)) q) fun r s' hq => ?_)
  cases r with
  | error er =>
    obtain ⟨_, _, _, _, _, _, _, _, _, _, _, _, z⟩ := hq
    exact z.elim
  | ok fl =>
    cases fl with
    | ret w' =>
      obtain ⟨v, H', I3, rv, r, e, q3⟩ := I.after hq
      subst e
      obtain rfl : w' = Value.bool r := rv
      exact ⟨r, rfl, .bl !r, H', I3, rfl, q3⟩
    | next => exact False.elim hq
    | brk => exact False.elim hq
    | cont => exact False.elim hq
structure InsC (K : PySem.W.Frag) (C : Addr) : Prop where
  cl : Cls K C
  ha : PySem.W.findIn K (.ref C) "__class__" = some (some (.builtin "object.__class__"))
  hn : PySem.W.specialIn K (.builtin "object.__class__") "__get__" = some (some (.builtin "getset_descriptor.__get__"))
  htk : PySem.W.takesIn K (.builtin "object.__class__") = some true
  hm : PySem.W.mroIn K C (.type "object") = some true
def isoO (ob : Nat → Option Bool) (x : D) (m : Hs) : Option Bool := match x with
  | .ref n => match m[n]? with
    | some (.ins c _) => ob c
    | _ => none
  | _ => none
def isoM (ob : Nat → Option Bool) (a : M D) : M D := bnd a fun x => bnd (ask (isoO ob x)) fun b => ret (.bl b)
end
end G
namespace G
open PySem L2 PySem.Spec PyProof.Rows
section
variable {K : PySem.W.Frag} {g g' : Gh} {H H' : Hp}
end
def sdOf (x : D) (m : Hs) : Option (List D × List D) := match x with
  | .ref n => match m[n]? with
    | some (.sd ks ds) => some (ks, ds)
    | _ => none
  | _ => none
def sdM (ks : List Str) (t : M (List D)) : M D := bnd t fun xs => newO (.sd (ks.map .str) xs)
theorem Rel.sd {Γ : Cst} {g : Gh} {H : Hp} {m : Hs} {n : Nat} {a : Addr} {ks ds : List D} (R : Rel Γ g m H) (h1 : m[n]? = some (.sd ks ds)) (h2 : g.hs[n]? = some a) : ∃ kvs, H a = some (.dK kvs) ∧ ks = keysK kvs ∧ RepL Γ.K g H (kvs.map (·.2)) ds := R.obj n _ a h1 h2
section
variable {X : Cx} {C : Cc} {ρ : List Sl} {A B : Type} {oa : A → List Sl} {ob : B → List Sl}
end
end G
namespace G
open PySem L2 PySem.Spec PyProof.Rows
def fstB (b : Bool) : List Bool → Option Nat
  | [] => none
  | x :: xs => if (x == b) = true then some 0 else (fstB b xs).map (· + 1)
def fidS (x y : D) : M D := match x, y with
  | .fl xs, .bl b => match blsOf xs with
    | some bs => match fstB b bs with
      | some j => ret (.int (j : Nat))
      | none => bad
    | none => bad
  | _, _ => bad
def fidB (a c : M D) : M D := bnd a fun x => bnd (ask (isFlO x)) fun _ => bnd c fun y => fidS x y
section
variable {X : Cx} {C : Cc} {ρ : List Sl}
end
end G
namespace G
open PySem L2 PySem.Spec PyProof.Rows
section
variable {X : Cx} {C : Cc} {ρ : List Sl} {k : Nat} {gu : Bool}
end
end G
namespace G
open PySem L2 PySem.Spec PyProof.Rows
section
variable {X : Cx} {pins : List (Addr × Obj)} {σ : L2.St} {H H' : Hp} {s : Shared} {h' : Heap} {tk : Nat}
variable {e : Expr} {te : TE} {p apos cpos pos : Pos}
end
def ndK : List D → Bool
  | [] => true
  | k :: ks => !(hasD ks k) && ndK ks
def dcpF (x : D) (m : Hs) : Option (List D × List D) := match sdOf x m with
  | some p => if ndK p.1 then some p else none
  | none => none
def dcpM (a : M D) : M D := bnd a fun x => bnd (ask (dcpF x)) fun p => newO (.sd p.1 p.2)
section
variable {X : Cx} {C : Cc} {ρ : List Sl}
end
end G
namespace G
open PySem L2 PySem.Spec PyProof.Rows
def neLF (x y : D) (m : Hs) : Option D := match lstOf x m, lstOf y m with
  | some xs, some [] => some (.bl (!xs.isEmpty))
  | _, _ => none
def neLS (x y : D) : M D := ask (neLF x y)
def neLM (a b : M D) : M D := bnd a fun x => bnd b fun y => neLS x y
section
variable {X : Cx} {C : Cc} {ρ : List Sl} {cls : Cl}
end
end G
set_option maxHeartbeats 4000000
namespace G
open PySem L2 PySem.Spec PyProof.Rows PySem.Calls
structure SupF (X : Cx) (f D C f2 : Addr) (fd : FuncData) (ar : Arg) : Prop where
  fu : X.env.func = some f
  lk : ∃ oc od osl, X.K.lookup f = some ⟨oc, od, .func fd, osl⟩
  hp : (fd.params.posonlyargs ++ fd.params.args).head? = some ar
  co : ∃ cda ccl cdd vs ccs file tf, X.env.code = .ref cda ∧ X.K.lookup cda = some ⟨ccl, cdd, .fields vs, ccs⟩ ∧ vs[2]? = some (.str file tf) ∧ ((X.prog.main.file : Str) == file) = true
  ce : ∃ cc c d sl, X.env.cells.lookup ("__class__" : Str) = some cc ∧ X.K.lookup cc = some ⟨c, d, .cell (some (.ref D)), sl⟩
  dc : ∃ cd, PySem.W.clsIn X.K D = some cd
  sb : PySem.W.mroIn X.K C (.ref D) = some true
  gs : X.mg "super" = none
  ks : X.env.scope.names.lookup ("super" : Str) = some .globalImplicit
  kc : X.env.scope.names.lookup ("__class__" : Str) = some .free
  ka : X.env.scope.names.lookup ar.arg = some .local
  tp : (X.prog.main.scope.names.lookup ("super" : Str)).isSome = false
  op : PySem.W.nsIn X.K cStatics "thirdparty.any" = some none
  mt : PySem.W.ks_superIn X.K C D "__init__" = some (some (.ref f2))
  ty : PySem.W.typeIn X.K (.ref f2) = some (.type "function")
section
variable {X : Cx} {pins : List (Addr × Obj)} {σ : L2.St} {H : Hp} {s : Shared} {f D C f2 a dx : Addr} {fd : FuncData} {ar : Arg} {fs : List (Str × V)} {i : Nat}
variable {k : Nat} {CX : CXT} {ps : List Str} {sp : Sp} {e : Expr} {es : List Expr} {t : TA} {te : TE} {E0 : L2.St → XK}
structure PEA (X : Cx) (body : List Stmt) (e : Expr) (t : TE) : Prop where
  run : ∀ (pins : List (Addr × Obj)) (s : Shared) (σ : L2.St) (H : Hp) (Q : VK), L2.Inv X pins σ H s → t σ H Q → _root_.PySem.wpAt (model X.prog X.w) X.A (.func body X.env) (eval e X.env) (EP X pins σ Q) X.xe s
structure PSA (X : Cx) (body : List Stmt) (st : List Stmt) (t : TS) : Prop where
  run : ∀ (pins : List (Addr × Obj)) (s : Shared) (σ : L2.St) (H : Hp) (D : Ends), L2.Inv X pins σ H s → t D σ H → _root_.PySem.wpAt (model X.prog X.w) X.A (.func body X.env) (execs st X.env) (SP X pins D) X.xe s
theorem PSA.imp {body st : List Stmt} {t u : TS} (h : PSA X body st t) (q : ∀ D σ H, u D σ H → t D σ H) : PSA X body st u := ⟨fun pins s σ H D I z => h.run pins s σ H D I (q _ _ _ z)⟩
end
section
variable {X : Cx} {C : Cc} {ρ : List Sl} {A B : Type} {oa : A → List Sl} {ob : B → List Sl} {k i j c : Nat} {f D0 C0 f2 : Addr} {fd fdM : FuncData} {ar : Arg} {ps : List Str} {t2 : List D → M D}
end
section
variable {P : Program} {w : World} {K : PySem.W.Frag} {mg : Str → Option Value} {base : Heap} {cls : Cl} {k : Nat} {f cc : Addr} {N ps : List Str}
end
end G
set_option maxHeartbeats 2000000
namespace G
open PySem L2 PySem.Spec PyProof.Rows
def rptS : D → D → M D
  | .str s, .int k => if s.length ≤ 16 ∧ -(2 ^ 63) ≤ k ∧ k ≤ 1048576 then ret (.str (Txt.mul s k)) else bad
  | _, _ => bad
def rptM (a b : M D) : M D := bnd a fun x => bnd b fun y => rptS x y
def rRpt : R2 := fun x y H Q => ∃ s k, x = .str s ∧ y = .int k ∧ s.length ≤ 16 ∧ -(2 ^ 63) ≤ k ∧ k ≤ 1048576 ∧ Q (.str (Txt.mul s k)) H
section
variable {X : Cx} {C : Cc} {ρ : List Sl} {cls : Cl}
theorem op_rpt : OpR X (binaryOp .Mult) rRpt := by
  intro pins s σ H x y v u Q I rx ry h
  obtain ⟨z, k, rfl, rfl, h1, h2, h3, q⟩ := h
  obtain ⟨t1, rfl⟩ := rx
  obtain ⟨t2, rfl⟩ := ry
  exact PySem.W.KXi.mul rfl h1 h2 h3 fun t' k1 _ _ => ⟨.str (Txt.mul z k), H, I.tok _, ⟨_, rfl⟩, q⟩
theorem sv_rpt : Serves X cls rRpt rptS := by
  intro W σ g H m vx vy x y Q rel hx hy q
  unfold rptS at q
  split at q
  · obtain ⟨h, q⟩ := Post.ite q
    cases hx
    cases hy
    exact ⟨_, _, rfl, rfl, h.1, h.2.1, h.2.2, q.ret rel (.str _)⟩
  · exact q.elim
theorem c_rpt {e1 e2 : Expr} {a b : M D} {pos : Pos} (ha : PEc X C ρ e1 a) (hb : PEc X C ρ e2 b) : PEc X C ρ (.BinOp e1 .Mult e2 pos) (rptM a b) :=
  pe_imp (pe_op op_rpt ha hb) fun σ H Q q => two sv_rpt q
end
end G
namespace G
open PySem L2 PySem.Spec PyProof.Rows
section
variable {X : Cx} {x n : Str} {c : Value} {i j : Nat} {body : List Stmt} {b₀ : Stmt} {np pos pos' : Pos} {tb : WX → TS} {Wout : WX}
end
def noOwn (ρ : List Sl) : Prop := ∀ (i : Nat) (xs : List D), ρ[i]? ≠ some (.own xs)
section
variable {X : Cx} {C : Cc} {ρ : List Sl} {k : Nat} {A B A1 : Type} {oa : A → List Sl} {ob : B → List Sl} {oa1 : A1 → List Sl}
end
end G
namespace G
open PySem L2 PySem.Spec PyProof.Rows
theorem noOwn.nil : noOwn [] := fun i xs e => by simp at e
theorem noOwn.un {ρ : List Sl} (h : noOwn ρ) : noOwn (.un :: ρ) := fun i xs e => by
  cases i with
  | zero => simp at e
  | succ i => exact h i xs (by simpa using e)
theorem noOwn.val {d : D} {ρ : List Sl} (h : noOwn ρ) : noOwn (.val d :: ρ) := fun i xs e => by
  cases i with
  | zero => simp at e
  | succ i => exact h i xs (by simpa using e)
end G
namespace G
open PySem L2 PySem.Spec PyProof.Rows
section
variable {X : Cx} {x n : Str} {c : Value} {i : Nat} {body : List Stmt} {b₀ : Stmt} {np pos pos' : Pos} {tb : WX → TS} {tsu : TS} {Wout : WX}
end
def W0 : WX := fun _ _ _ _ => False
section
variable {X : Cx} {C : Cc} {ρ : List Sl} {k : Nat} {A B A1 : Type} {oa : A → List Sl} {ob : B → List Sl} {oa1 : A1 → List Sl}
end
end G
set_option maxHeartbeats 4000000
namespace G
open PySem L2 PySem.Spec PyProof.Rows PySem.Calls
def kw2 {α : Type} (sw : Bool) (ka kb : Str) (a b : α) : List (Str × α) := if sw = true then [(kb, b), (ka, a)] else [(ka, a), (kb, b)]
def FnRM (gu : Bool) (P : Program) (w : World) (K : PySem.W.Frag) (mg : Str → Option Value) (base : Heap) (CX : CXT) (k : Nat) (f : Addr) (ka kb : Str) (sw : Bool) (sp : Sp) : Prop :=
  ∀ (A : Around) (outer : List Env) (s : Shared) (H : Hp) (x ua ub : Value) (us : List Value) (v va vb : V) (vs : List V) (Q : VK) (E : XK), Room k A → Clr gu A → Env0 P w K mg base A outer s H → RelV v x → RelV va ua → RelV vb ub → Vals vs us → sp (v :: va :: vb :: vs) H Q E →
    codeAny (model P w) A (.call (.ref f) ⟨x :: us, kw2 sw ka kb ua ub⟩) (CR CX outer P w H s Q E) s
section
variable {gu : Bool} {P : Program} {w : World} {K : PySem.W.Frag} {mg : Str → Option Value} {base : Heap} {cls : Cl} {k : Nat}
end
theorem FnRM.mono {gu : Bool} {P : Program} {w : World} {K : PySem.W.Frag} {mg : Str → Option Value} {base : Heap} {CX : CXT} {j k : Nat} {f : Addr} {ka kb : Str} {sw : Bool} {sp : Sp} (F : FnRM gu P w K mg base CX j f ka kb sw sp) (h : j ≤ k) : FnRM gu P w K mg base CX k f ka kb sw sp := fun A outer s H x ua ub us v va vb vs Q E hr => F A outer s H x ua ub us v va vb vs Q E (hr.mono h)
section
variable {gu : Bool} {X : Cx} {C : Cc} {ρ : List Sl} {k : Nat}
end
end G
set_option maxHeartbeats 2000000
namespace G
open PySem L2 PySem.Spec PyProof.Rows
theorem walkGE {l : PySem.W.OpenLaw} {n k : Nat} {q : Program} {loose : List Str} {XP : (Str → Option Value) → Heap → Prop} {YP : World → Heap → Prop} {d : DefRec} {CX : World → CXT} {x : Str}
    (most : l.most = some n) (few : n ≤ sizeLine) (defs : d.params.defaults = []) (room : Room k callerA)
    (F : ∀ (w : World) (gl : Str → Option Value) (fa : Addr) (h : Heap), YP w h → h.Ns mainGlobals gl → gl d.name = some (.ref fa) →
      ∃ (K : PySem.W.Frag) (fd : FuncData) (sp : Sp), K.In h ∧ (∀ (s : Shared) (u : Value), BindsTo s fd ⟨[u], []⟩ [(x, u)]) ∧ (∀ (J : Hp) (a : Addr) (zs : List Int), zs.length ≤ n → Only J → SqL K J a (zs.map V.int) → sp [.ref a] J (fun v _ => v = .bl true) fun _ _ _ => False) ∧
        ∀ b0 : Heap, K.In b0 → b0.Ns mainGlobals gl → FnG true l.prog w K gl b0 (CX w) k fa fd [x] sp)
    (noX : ∀ (w : World) (J : Hp) (s : Shared) (e : Value) (s' : Shared), CX w [] J s (fun _ _ _ => False) e s' → False) :
    PySem.W.WalkO q loose XP YP l.row.toRowW d [] (fun f vs => PySem.call f vs) := by
  refine Att.attach_call most defs fun w s0 s1 gl bl fa o pm cd doc a vs zs T Y ho hd hcd at1 scr isz len gens => ?_
  obtain ⟨K, fd, sp, inK, hb, hp, hF⟩ := F w gl fa _ Y T.T.g at1
  exact lawG inK T.T.g T.T.b T.T.builtins T.T.nolimit gens scr isz (Nat.le_trans len few) room hF hb (fun J hO hS => hp J a zs len hO hS) fun J e s' => noX w J s1 e s'
end G
set_option maxHeartbeats 4000000
namespace G
open PySem L2 PySem.Spec PyProof.Rows PySem.Calls
def FnRM1 (gu : Bool) (P : Program) (w : World) (K : PySem.W.Frag) (mg : Str → Option Value) (base : Heap) (CX : CXT) (k : Nat) (f : Addr) (ka : Str) (d : Int) (sp : Sp) : Prop :=
  ∀ (A : Around) (outer : List Env) (s : Shared) (H : Hp) (x ua : Value) (us : List Value) (v va : V) (vs : List V) (Q : VK) (E : XK), Room k A → Clr gu A → Env0 P w K mg base A outer s H → RelV v x → RelV va ua → Vals vs us → sp (v :: va :: V.int d :: vs) H Q E →
    codeAny (model P w) A (.call (.ref f) ⟨x :: us, [(ka, ua)]⟩) (CR CX outer P w H s Q E) s
section
variable {gu : Bool} {P : Program} {w : World} {K : PySem.W.Frag} {mg : Str → Option Value} {base : Heap} {cls : Cl} {k : Nat}
end
theorem FnRM1.mono {gu : Bool} {P : Program} {w : World} {K : PySem.W.Frag} {mg : Str → Option Value} {base : Heap} {CX : CXT} {j k : Nat} {f : Addr} {ka : Str} {d : Int} {sp : Sp} (F : FnRM1 gu P w K mg base CX j f ka d sp) (h : j ≤ k) : FnRM1 gu P w K mg base CX k f ka d sp := fun A outer s H x ua us v va vs Q E hr => F A outer s H x ua us v va vs Q E (hr.mono h)
section
variable {gu : Bool} {X : Cx} {C : Cc} {ρ : List Sl} {k : Nat}
end
end G
namespace L2
open PySem PySem.Spec PyProof.Rows
section
variable {X : Cx} {pins : List (Addr × Obj)} {σ : St} {H : Hp} {s : Shared} {d : Addr} {o : Obj}
end
section
variable {P : Program} {w : World} {K : PySem.W.Frag} {tg : Expr} {d : Addr} {o : Obj} {es : Array DictEntry} {ep : Nat}
end
section
variable {X : Cx} {tg e : Expr} {td : TE} {apos cpos : Pos}
end
end L2
namespace G
open PySem L2 PySem.Spec PyProof.Rows
structure TL (H H' : Hp) : Prop where
  tup : ∀ a xs, H a = some (.tup xs) → H' a = some (.tup xs)
  ft : ∀ a o xs, H a = some (.frz o (.tup xs)) → H' a = some (.frz o (.tup xs))
  fl : ∀ a o xs, H a = some (.frz o (.lst xs)) → H' a = some (.frz o (.lst xs))
section
variable {K : PySem.W.Frag} {g g' : Gh} {H H' : Hp}
theorem TL.seqT {a : Addr} {xs : List V} (t : TL H H') (h : SqT K H a xs) : SqT K H' a xs := by
  rcases h with (h | ⟨o, h⟩) | h
  · exact .inl (.inl (t.tup _ _ h))
  · exact .inl (.inr ⟨o, t.ft _ _ _ h⟩)
  · exact .inr h
mutual
theorem Rep.monoL (p : Lv0 g g') (t : TL H H') : ∀ {v : V} {d : D}, Rep K g H v d → Rep K g' H' v d
  | _, _, .non => .non
  | _, _, .bl b => .bl b
  | _, _, .int i => .int i
  | _, _, .str x => .str x
  | _, _, .tup h r => .tup (t.seqT h) (RepL.monoL p t r)
  | _, _, .kt h r => .kt (t.tup _ _ h) (RepL.monoL p t r)
  | _, _, .fl h r => .fl (p.fz _ h) (RepL.monoL p t r)
  | _, _, .sc h r => .sc (by
      rcases h with ⟨o, h⟩ | h
      · exact .inl ⟨o, t.fl _ _ _ h⟩
      · exact .inr h) (RepL.monoL p t r)
  | _, _, .fd h r => .fd (p.fz _ h) (RepL.monoL p t r)
  | _, _, .ref h => .ref (pre_get p.hs h)
theorem RepL.monoL (p : Lv0 g g') (t : TL H H') : ∀ {vs : List V} {ds : List D}, RepL K g H vs ds → RepL K g' H' vs ds
  | _, _, .nil => .nil
  | _, _, .cons r s => .cons (Rep.monoL p t r) (RepL.monoL p t s)
end
theorem RepF.monoL (p : Lv0 g g') (t : TL H H') : ∀ {vs : List (Str × V)} {ds : List (Str × D)}, RepF K g H vs ds → RepF K g' H' vs ds
  | _, _, .nil => .nil
  | _, _, .cons r s => .cons (r.monoL p t) (RepF.monoL p t s)
theorem TL.trans {H1 H2 : Hp} (a : TL H H1) (b : TK H1 H2) : TL H H2 := ⟨fun x xs h => b.tup _ _ (a.tup _ _ h), fun x o xs h => b.frz _ _ _ (a.ft _ _ _ h), fun x o xs h => b.frz _ _ _ (a.fl _ _ _ h)⟩
end
section
variable {Γ : Cst} {g g' gB : Gh} {H H' : Hp} {m : Hs} {σ : L2.St} {ρ : List Sl}
theorem ObjR.monoL {a : Addr} (pg : Lv0 g g') (t : TL H H') (e : ∀ b o, (b = a ∨ ∃ vs, o = .xd vs) → H b = some o → H' b = some o) {o : O} (h : ObjR Γ g H a o) : ObjR Γ g' H' a o := by
  cases o with
  | lst ds => obtain ⟨xs, h1, h2⟩ := h; exact ⟨xs, e _ _ (.inl rfl) h1, h2.monoL pg t⟩
  | ins c fs => obtain ⟨C, dx, vs, h0, h1, h2⟩ := h; exact ⟨C, dx, vs, h0, e _ _ (.inl rfl) h1, h2.monoL pg t⟩
  | exc c fs =>
    obtain ⟨C, d, vs, h0, h1, h2, h3⟩ := h
    refine ⟨C, d, vs, h0, e _ _ (.inl rfl) h1, ?_, h3.monoL pg t⟩
    cases d with
    | none => exact h2
    | some d => exact e _ _ (.inr ⟨_, rfl⟩) h2
  | dct ks ds =>
    obtain ⟨kvs, h1, h2, h3⟩ := h
    exact ⟨kvs, e _ _ (.inl rfl) h1, h2, h3.monoL pg t⟩
  | sd ks ds =>
    obtain ⟨kvs, h1, h2, h3⟩ := h
    exact ⟨kvs, e _ _ (.inl rfl) h1, h2, h3.monoL pg t⟩
  | zd ks ds =>
    obtain ⟨o, kvs, h1, h2, h3⟩ := h
    exact ⟨o, kvs, e _ _ (.inl rfl) h1, h2, h3.monoL pg t⟩
theorem RelS.monoL (h : RelS Γ gB g H ρ σ) (t : TL H H') : RelS Γ gB g H' ρ σ := by
  refine ⟨h.len, fun i d e => ?_, fun i xs e => ?_, h.inj, h.raw⟩
  · obtain ⟨v, h1, h2⟩ := h.val i d e
    exact ⟨v, h1, h2.monoL (Lv0.refl g) t⟩
  · obtain ⟨b, ws, h1, h2, h3, h4⟩ := h.own i xs e
    exact ⟨b, ws, h1, h2, h3.monoL (Lv0.refl g) t, h4⟩
end
section
variable {X : Cx} {C : Cc} {ρ ρ' : List Sl} {A B A' B' : Type} {oa : A → List Sl} {ob : B → List Sl}
end
end G
namespace L2
open PySem PySem.Spec PyProof.Rows
section
variable {X : Cx}
end
end L2
namespace G
open PySem L2 PySem.Spec PyProof.Rows
section
variable {X : Cx} {C : Cc} {ρ : List Sl} {cls : Cl}
end
end G
namespace G
open PySem L2 PySem.Spec PyProof.Rows
section
variable {prog : Program} {w : World} {A : Around} {E : Value → Shared → Prop} {s : Shared} {K : PySem.W.Frag} {x C f : Addr} {ox : Obj} {od : Option Obj} {a ta : Value} {op : CmpOp}
open PySem.W in
end
open PySem.SeqAt MeetsSeq in
open AutoSeq1 (wpAny_loadPart') in
open PySem.SeqAt MeetsSeq in
open AutoSeq1 (wpAny_loadPart') in
open PySem.SeqAt MeetsSeq in
open AutoSeq1 (wpAny_loadPart') in
inductive AtV (K : PySem.W.Frag) (H : Hp) : V → String → Prop
  | non : AtV K H .non "NoneType"
  | int (i : Int) : AtV K H (.int i) "int"
  | str (x : Str) : AtV K H (.str x) "str"
  | tup {a : Addr} {xs : List V} (h : SqT K H a xs) : AtV K H (.ref a) "tuple"
section
variable {X : Cx} {pins : List (Addr × Obj)} {σ : L2.St} {H : Hp} {s : Shared} {x : V} {u : Value} {T : String}
open PySem.SeqAt MeetsSeq in
end
def atN : List String := ["NoneType", "int", "str", "tuple"]
structure EqC (K : PySem.W.Frag) (C : Addr) : Prop where
  it : ∀ T, T ∈ atN → PySem.W.subIn K (.type T) (.ref C) = some false
  ti : ∀ T, T ∈ atN → PySem.W.subIn K (.ref C) (.type T) = some false
theorem AtV.mem {K : PySem.W.Frag} {H : Hp} {x : V} {T : String} (h : AtV K H x T) : T ∈ atN := by
  cases h <;> simp [atN]
def qB (Q : VK) : VK := fun v H' => ∃ r, v = .bl r ∧ Q (.bl r) H'
section
variable {X : Cx} {C : Cc} {ρ : List Sl} {k : Nat} {gu : Bool}
def rEq {F : Type} (K : PySem.W.Frag) (ok : Addr → F → Prop) (sp : F → Sp) : R2 := fun x y H Q => ∃ D' n, ok D' n ∧
  ((∃ a dx fs, x = .ref a ∧ H a = some (.ins D' dx fs) ∧ ((∃ T, AtV K H y T ∧ PySem.W.notFirst K D' (.type T) = true) ∨ ∃ b E dy gs, y = .ref b ∧ H b = some (.ins E dy gs) ∧ PySem.W.notFirst K D' (.ref E) = true) ∧ sp n [x, y] H (qB Q) (fun _ _ _ => False)) ∨
   (∃ b dy gs, y = .ref b ∧ H b = some (.ins D' dy gs) ∧ ((∃ T, AtV K H x T ∧ PySem.W.subIn K (.ref D') (.type T) = some false) ∨ ∃ a E dx fs, x = .ref a ∧ H a = some (.ins E dx fs) ∧ E ≠ D' ∧ PySem.W.subIn K (.ref D') (.ref E) = some true) ∧ sp n [y, x] H (qB Q) (fun _ _ _ => False)))
def atB : D → Bool
  | .non => true
  | .int _ => true
  | .str _ => true
  | .tup _ => true
  | _ => false
def eqIF (tb : Nat → Option (List D → M D)) (sb : Nat → Nat → Option Bool) (x y : D) (m : Hs) : Option (M D) := match x with
  | .ref n => match m[n]? with
    | some (.ins c _) => match y with
      | .ref k => match m[k]? with
        | some (.ins d _) => match sb c d with
          | some true => (tb d).map fun f => f [y, x]
          | some false => (tb c).map fun f => f [x, y]
          | none => none
        | _ => none
      | y => if atB y = true then (tb c).map fun f => f [x, y] else none
    | _ => none
  | x => if atB x = true then match y with
    | .ref k => match m[k]? with
      | some (.ins d _) => (tb d).map fun f => f [y, x]
      | _ => none
    | _ => none
    else none
def itB (x : D) : M D := match x with
  | .bl b => ret (.bl b)
  | _ => bad
def eqIS (tb : Nat → Option (List D → M D)) (sb : Nat → Nat → Option Bool) (x y : D) : M D := bnd (ask (eqIF tb sb x y)) fun t => bnd (calm t) itB
def eqI (tb : Nat → Option (List D → M D)) (sb : Nat → Nat → Option Bool) (a b : M D) : M D := bnd a fun x => bnd b fun y => eqIS tb sb x y
def isoO2 (ob : Nat → Option Bool) (x : D) (m : Hs) : Option Bool := if atB x = true then some false else isoO ob x m
def isoN (ob : Nat → Option Bool) (a : M D) : M D := bnd a fun x => bnd (ask (isoO2 ob x)) fun b => ret (.bl b)
theorem AtV.ty {K : PySem.W.Frag} {H : Hp} {x : V} {T : String} (h : AtV K H x T) : TyX K H x (.type T) := by
  cases h with
  | non => exact .base .non
  | int i => exact .base (.int i)
  | str y => exact .base (.str y)
  | tup h =>
    rcases h with (h | ⟨o, h⟩) | ⟨o, its, n, h1, h2, _⟩
    · exact .base (.tup h)
    · exact .fTuple h
    · exact .kTuple h1 h2
end
section
variable {prog : Program} {w : World} {A : Around} {E : Value → Shared → Prop} {s : Shared} {K : PySem.W.Frag} {x y C f : Addr} {ox : Obj} {od : Option Obj} {tb : Value}
open PySem.W in
open PySem.W in
open PySem.W in
end
section
variable {X : Cx} {C : Cc} {ρ : List Sl} {k : Nat} {gu : Bool}
def nqF (tb : Nat → Option (List D → M D)) (sb : Nat → Nat → Option Bool) (x y : D) (m : Hs) : Option (M D) := match x, y with
  | .ref n, .ref k => match m[n]?, m[k]? with
    | some (.ins c _), some (.ins d _) => match sb c d with
      | some true => (tb d).map fun f => f [y, x]
      | some false => (tb c).map fun f => f [x, y]
      | none => none
    | _, _ => none
  | _, _ => none
def nqS (tb : Nat → Option (List D → M D)) (sb : Nat → Nat → Option Bool) (x y : D) : M D := bnd (ask (nqF tb sb x y)) fun t => bnd (calm t) notB
def nqI (tb : Nat → Option (List D → M D)) (sb : Nat → Nat → Option Bool) (a b : M D) : M D := bnd a fun x => bnd b fun y => nqS tb sb x y
end
end G
namespace G
open PySem L2 PySem.Spec PyProof.Rows
def txB {β : Type} (x : D) (f : Str → M β) : M β := match x with
  | .str s => f s
  | _ => bad
def strsL : List D → Option (List Str)
  | [] => some []
  | .str s :: xs => (strsL xs).map (s :: ·)
  | _ => none
def strsOf (x : D) (m : Hs) : Option (List Str) := (itemsOf x m).bind strsL
def spltM (a b : M D) : M D := bnd a fun x => txB x fun s => bnd b fun y => txB y fun t => if (t.length == 0) = false ∧ s.length + 2 ≤ sizeLine then ret (.fl ((Txt.split s t).map .str)) else bad
def prtM (a b : M D) : M D := bnd a fun x => txB x fun s => bnd b fun y => txB y fun t => if (t.length == 0) = false ∧ s.length ≤ sizeLine then ret (.tup [.str (Txt.partition s t).1, .str (Txt.partition s t).2.1, .str (Txt.partition s t).2.2]) else bad
def joinM (a b : M D) : M D := bnd a fun x => txB x fun s => bnd b fun y => bnd (ask (strsOf y)) fun ys => if (ys.map (·.length)).sum + ys.length * s.length ≤ 16777216 then ret (.str (Txt.join s ys)) else bad
def fmtS : D → M D
  | .str s => if s.length ≤ sizeLine then ret (.str s) else bad
  | .int i => if i.natAbs.log2 < 1920 then ret (.str (toString i)) else bad
  | _ => bad
def fmtM (a : M D) : M D := bnd a fmtS
def fsM : List (M D) → Str → M D
  | [], acc => ret (.str acc)
  | t :: ts, acc => bnd t fun x => txB x fun y => if (acc ++ y).length ≤ sizeLine then fsM ts (acc ++ y) else bad
def chrs (s : Str) : List D := s.cps.toList.map fun c => .str ⟨#[c]⟩
def chrI (t : M D) : M Its := bnd t fun x => txB x fun s => ret (chrs s, [])
def sgnOf (s : Str) : Option Nat := match s.cps.toList with
  | [c] => some c
  | _ => none
def insS (x y : D) : M D := txB x fun s => txB y fun z => match sgnOf s with
  | some c => ret (.bl (decide (c ∈ z.cps.toList)))
  | none => bad
def insM (a b : M D) : M D := bnd a fun x => bnd b fun y => insS x y
def ixtS (x y : D) : M D := match x, y with
  | .str z, .int i => if z.length ≤ sizeLine then (match atI z.cps.toList i with
    | some c => ret (.str ⟨#[c]⟩)
    | none => bad) else bad
  | _, _ => bad
def ixtM (a b : M D) : M D := bnd a fun x => bnd b fun y => ixtS x y
def idaS (x y : D) : M D := match x with
  | .str z => ixtS (.str z) y
  | x => idxS x y
def idaM (a b : M D) : M D := bnd a fun x => bnd b fun y => idaS x y
def slcT (x : D) (lo hi : Option Int) : M D := txB x fun z => if z.length ≤ sizeLine then ret (.str (cutS z lo hi)) else bad
def slcTM (a : M D) (lo hi : M (Option Int)) : M D := bnd a fun x => bnd lo fun l => bnd hi fun h => slcT x l h
section
variable {X : Cx} {C : Cc} {ρ : List Sl}
theorem Post.txB {β B : Type} {Γ : Cst} {K : PySem.W.Frag} {W : WX} {rep : Gh → Hp → B → β → Prop} {σ : L2.St} {g g0 : Gh} {H H0 : Hp} {Q : B → Hp → Prop} {x : D} {v : V} {f : Str → M β} {m : Hs} (hv : Rep K g0 H0 v x) (q : Post Γ W rep σ g H Q (txB x f m)) : ∃ s, x = .str s ∧ v = .str s ∧ Post Γ W rep σ g H Q (f s m) := by
  cases hv with
  | str s => exact ⟨s, rfl, rfl, q⟩
  | _ => exact q.elim
theorem strsL_ok {K : PySem.W.Frag} {g : Gh} {H : Hp} : ∀ {ds : List D} {ys : List Str} {vs : List V}, strsL ds = some ys → RepL K g H vs ds → vs = ys.map V.str := by
  intro ds
  induction ds with
  | nil =>
    intro ys vs e r
    cases r
    cases e
    rfl
  | cons d ds ih =>
    intro ys vs e r
    cases r with
    | cons h r =>
      cases d with
      | str s =>
        simp only [strsL] at e
        cases hz : strsL ds with
        | none => rw [hz] at e; cases e
        | some zs =>
          rw [hz] at e
          cases e
          cases h
          rw [ih hz r]
          rfl
      | _ => cases e
theorem c_join {e1 e2 : Expr} {a b : M D} {apos pos : Pos} (ha : PEc X C ρ e1 a) (hb : PEc X C ρ e2 b) (hs : starEach [e2] X.env = [(false, eval e2 X.env)] := by rfl) (hbase : attributeBase e1 "join" X.env (eval e1 X.env) = eval e1 X.env := by rfl) (hline : (apos.endLine == pos.line) = true := by rfl) :
    PEc X C ρ (.Call (.Attribute e1 "join" apos) [e2] [] pos) (joinM a b) :=
  pe_imp (pe_join ha hb hs hbase hline) fun σ H Q q => by
    refine tG.bind q fun g1 H1 m1 v1 x1 at1 hv1 q1 => ?_
    obtain ⟨s, rfl, rfl, q1⟩ := Post.txB hv1 q1
    refine ⟨⟨s, rfl⟩, g1, m1, at1, Post.bind q1 fun g2 H2 m2 v2 x2 p t rel2 hv2 q2 => ?_⟩
    obtain ⟨ys, hy, q2⟩ := Post.ask q2
    obtain ⟨hc, q2⟩ := Post.ite q2
    unfold strsOf at hy
    cases hi : itemsOf x2 m2 with
    | none => rw [hi] at hy; cases hy
    | some ds =>
      rw [hi] at hy
      obtain ⟨a0, xs, rfl, hq, r⟩ := rep_seq rel2 hv2 hi
      have ex := strsL_ok hy r
      subst ex
      exact ⟨s, a0, ys, rfl, rfl, hq, hc, q2.ret rel2 (.str _)⟩
theorem pj_nil : PJ X [] (([] : List (M D)).map (tE ⟨X.K, C.cls⟩ C ρ)) := PJ.nil
theorem pj_cons {e : Expr} {es : List Expr} {t : M D} {ts : List (M D)} (h : PEc X C ρ e t) (r : PJ X es (ts.map (tE ⟨X.K, C.cls⟩ C ρ))) : PJ X (e :: es) ((t :: ts).map (tE ⟨X.K, C.cls⟩ C ρ)) := PJ.cons h r
theorem fs_run : ∀ (ts : List (M D)) (acc : Str) (σ : L2.St) (H : Hp) (Q : VK), tG ⟨X.K, C.cls⟩ C ρ (rD ⟨X.K, C.cls⟩) (fsM ts acc) σ H Q → tJs (ts.map (tE ⟨X.K, C.cls⟩ C ρ)) acc σ H fun out H1 => Q (.str out) H1
  | [], acc, σ, H, Q, q => by
    obtain ⟨g, m, at0, q⟩ := q
    exact q.ret at0.rel (.str _)
  | t :: ts, acc, σ, H, Q, q => by
    refine tG.bind q fun g1 H1 m1 v1 x1 at1 hv1 q1 => ?_
    obtain ⟨s, rfl, rfl, q1⟩ := Post.txB hv1 q1
    obtain ⟨hc, q1⟩ := Post.ite q1
    exact ⟨s, rfl, hc, fs_run ts (acc ++ s) σ H1 Q ⟨g1, m1, at1, q1⟩⟩
theorem c_fs {v1 v2 : Expr} {rest : List Expr} {ts : List (M D)} {pos : Pos} (h : PJ X (v1 :: v2 :: rest) (ts.map (tE ⟨X.K, C.cls⟩ C ρ))) : PEc X C ρ (.JoinedStr (v1 :: v2 :: rest) pos) (fsM ts Str.empty) :=
  pe_imp (pe_joined h) fun σ H Q q => fs_run ts Str.empty σ H Q q
end
end G
namespace G
open PySem L2 PySem.Spec PyProof.Rows
section
variable {X : Cx} {C : Cc} {ρ : List Sl} {k kr : Nat} {gu : Bool}
end
section
variable {gu : Bool} {P : Program} {w : World} {K : PySem.W.Frag} {mg : Str → Option Value} {base : Heap} {cls : Cl} {k : Nat}
end
end G
namespace G
open PySem L2 PySem.Spec PyProof.Rows
structure LamY (sc scope : Scope) (y : Str) (N : List Str) : Prop where
  kind : scope.kind = .function
  co : scope.isCoroutine = false
  gen : scope.isGenerator = false
  own : ∀ z ∈ scope.names, z.2 ≠ .cell ∧ (z.2 = .local → z.1 = y)
  loc : scope.names.lookup y = some .local
  free : ∀ z ∈ scope.names, z.2 = .free → sc.names.lookup z.1 = some .cell ∨ sc.names.lookup z.1 = some .free
  new : y ∉ N
theorem LamY.has {X : Cx} {scope : Scope} {y : Str} {N : List Str} (L : LamY X.env.scope scope y N) (ok : X.Ok) : ∀ z ∈ scope.names, z.2 = .free → ∃ c, X.env.cells.lookup z.1 = some c := fun z hz e => by
  rcases L.free z hz e with q | q
  · exact ok.has _ (.inl q)
  · exact ok.has _ (.inr q)
section
variable {X : Cx} {pins : List (Addr × Obj)} {σ : L2.St} {H HZ : Hp} {s s1 : Shared}
theorem vals1 {v : V} {us : List Value} (r : Vals [v] us) : ∃ u, us = [u] ∧ RelV v u := by
  cases r with
  | cons r rr =>
    cases rr
    exact ⟨_, rfl, r⟩
end
theorem RelS.snoc {Γ : Cst} {gB g : Gh} {H : Hp} {ρ : List Sl} {σ : L2.St} {v : V} {d : D} (h : RelS Γ gB g H ρ σ) (r : Rep Γ.K g H v d) : RelS Γ gB g H (ρ ++ [.val d]) (σ ++ [some v]) := by
  have cs : ∀ (i : Nat) (x : Sl), (ρ ++ [.val d])[i]? = some x → (ρ[i]? = some x ∧ (σ ++ [some v])[i]? = σ[i]?) ∨ (i = ρ.length ∧ x = .val d ∧ (σ ++ [some v])[i]? = some (some v)) := fun i x e => by
    by_cases hi : i < ρ.length
    · rw [List.getElem?_append_left hi] at e
      exact .inl ⟨e, List.getElem?_append_left (by rw [← h.len]; exact hi)⟩
    · have hl : i < (ρ ++ [Sl.val d]).length := (List.getElem?_eq_some_iff.mp e).1
      have hi2 : i = ρ.length := by rw [List.length_append, List.length_singleton] at hl; omega
      subst hi2
      rw [List.getElem?_append_right (Nat.le_refl _)] at e
      simp at e
      exact .inr ⟨rfl, e.symm, by rw [h.len, List.getElem?_append_right (Nat.le_refl _)]; simp⟩
  refine ⟨by rw [List.length_append, List.length_append, h.len]; rfl, fun i e q => ?_, fun i xs q => ?_, fun i j xs ys a q1 q2 q3 q4 => ?_, fun i w q => ?_⟩
  · rcases cs i _ q with ⟨q, z⟩ | ⟨_, q, z⟩
    · obtain ⟨v', h1, h2⟩ := h.val i e q
      exact ⟨v', by rw [z]; exact h1, h2⟩
    · cases q
      exact ⟨v, z, r⟩
  · rcases cs i _ q with ⟨q, z⟩ | ⟨_, q, z⟩
    · obtain ⟨a, vs, h1, h2, h3⟩ := h.own i xs q
      exact ⟨a, vs, by rw [z]; exact h1, h2, h3⟩
    · cases q
  · rcases cs i _ q1 with ⟨q1, z1⟩ | ⟨_, q1, _⟩
    · rcases cs j _ q2 with ⟨q2, z2⟩ | ⟨_, q2, _⟩
      · rw [z1] at q3
        rw [z2] at q4
        exact h.inj i j xs ys a q1 q2 q3 q4
      · cases q2
    · cases q1
  · rcases cs i _ q with ⟨q, z⟩ | ⟨_, q, _⟩
    · rw [z]; exact h.raw i w q
    · cases q
section
variable {X : Cx} {C : Cc} {ρ : List Sl} {k : Nat}
end
end G
set_option maxHeartbeats 1000000
namespace L2
open PySem PySem.Spec PyProof.Rows PySem.W
section
variable {prog : Program} {w : World} {A : Around} {E : Value → Shared → Prop} {s : Shared}
theorem nextOf_range_item {it : Addr} {x left step : Int} {Q : Value → Shared → Prop} (hit : IsRangeIter s.heap it x left step) (hleft : 0 < left)
    (hQ : ∀ h', IsRangeIter h' it (x + step) (left - 1) step → Heap.SameBut it s.heap h' → Q (.int x s.toks) { s with heap := h', toks := s.toks + 1 }) :
    wpAny (model prog w) A (Builtin.SmallTypes.nextOf (.ref it)) Q E s := by
  have hT : s.TypeIs (.ref it) "range_iterator" := ⟨_, hit, rfl⟩
  unfold Builtin.SmallTypes.nextOf
  refine wpAny_bind (wpAny_callSpecial?_slot (name := Str.ofString "__next__") hT F.slot_range_iterator_next
    (call_meets F.slot_range_iterator_next hT F.entry_range_iterator_next (F.args_range_iterator_next_1 _) (AutoRange.range_iterator___next___range_iterator_1 it x left step (by omega)) ⟨hit, ?_⟩))
  exact wpAny_pure (hQ _ (Heap.get?_update_self _ (Heap.get?_update_self _ hit rfl) rfl) ((Heap.SameBut.update ..).trans (Heap.SameBut.update ..)))
theorem nextOf_range_end {it : Addr} {x left step : Int} {Q : Value → Shared → Prop} (hh : A.handled = none) (hit : IsRangeIter s.heap it x left step) (hleft : left ≤ 0)
    (hE : ∀ h' e, Heap.ExtBut it s.heap h' → (∃ o, h'.get? e = some o ∧ o.cls = .type "StopIteration") → E (.ref e) { s with heap := h' }) :
    wpAny (model prog w) A (Builtin.SmallTypes.nextOf (.ref it)) Q E s := by
  have hT : s.TypeIs (.ref it) "range_iterator" := ⟨_, hit, rfl⟩
  unfold Builtin.SmallTypes.nextOf
  refine wpAny_bind (wpAny_callSpecial?_slot (name := Str.ofString "__next__") hT F.slot_range_iterator_next
    (wpAny_call_entry F.slot_range_iterator_next hT F.entry_range_iterator_next ?_ (F.args_range_iterator_next_1 _)))
  show wpAny _ _ (field (.ref it) 0 >>= _) _ _ s
  refine wpAny_bind (wpAny_field hit rfl (x := rawInt x) rfl ?_)
  show wpAny _ _ (field (.ref it) 1 >>= _) _ _ s
  refine wpAny_bind (wpAny_field hit rfl (x := rawInt left) rfl ?_)
  show wpAny _ _ (field (.ref it) 2 >>= _) _ _ s
  refine wpAny_bind (wpAny_field hit rfl (x := rawInt step) rfl ?_)
  show wpAny _ _ (if left ≤ 0 then _ else _) _ _ s
  rw [if_pos hleft]
  refine wpAny_bind (wpAny_rule ?_)
  refine wpAny_bind ?_
  show wpAny _ _ (newExc (.type "StopIteration") [] >>= _) _ _ _
  refine wpAny_bind ?_
  simp only [newExc, newTuple]
  refine wpAny_bind (wpAny_newObj_type ?_ (by size_fits))
  refine wpAny_bind (m := firstArgMember _ _) (wpAny_of_eq (a := Value.none) (by first | rfl | (simp only [firstArgMember]; rfl)) ?_)
  refine wpAny_newObj_type ?_ (by size_fits)
  simp only [raiseNew]
  refine wpAny_bind (wpAny_handled ?_)
  first | rw [show A.in1.handled = none from hh] | rw [hh]
  refine wpAny_bind (wpAny_pure (wpAny_throw ?_))
  exact hE _ _ ((Heap.ExtBut.refl _ _ |>.push _).push _) ⟨_, Heap.get?_push_size _ rfl, rfl⟩
end
theorem draws_range {prog : Program} {w : World} {A : Around} (hh : A.handled = none) (it : Addr) (n : Nat) :
    Draws prog w A it [it] n (fun i v => ∃ t, v = .int (i : Nat) t) (fun i h => IsRangeIter h it (i : Nat) ((n : Int) - (i : Nat)) 1) where
  live := fun _ _ st => ⟨_, st⟩
  frame := fun _ _ _ st hk => hk it (by simp) _ st
  item := fun i s Q E hi st hQ => by
    refine nextOf_range_item st (by omega) fun h' hit' hs' => ?_
    refine hQ _ h' _ ⟨_, rfl⟩ ?_ hs'
    have e1 : ((i + 1 : Nat) : Int) = (i : Int) + 1 := by push_cast; rfl
    have e2 : (n : Int) - ((i + 1 : Nat) : Int) = (n : Int) - (i : Int) - 1 := by push_cast; omega
    show IsRangeIter h' it ((i + 1 : Nat) : Int) ((n : Int) - ((i + 1 : Nat) : Int)) 1
    rw [e2, e1]
    exact hit'
  done := fun s Q E st hE => nextOf_range_end hh st (by omega) hE
section
variable {prog : Program} {w : World} {A : Around} {E : Value → Shared → Prop} {s : Shared} {z TI TO i1 i2 i3 T : Addr} {f : Bool} {oT : Obj} {fp1 fp2 fp3 : List Addr} {n1 n2 n3 i : Nat} {P1 P2 P3 : Nat → Value → Prop} {St1 St2 St3 : Nat → Heap → Prop}
theorem zip3_item_held {Q : Value → Shared → Prop} (S : ZipSep3 z TI TO i1 i2 i3 fp1 fp2 fp3) (D1 : Draws prog w A i1 fp1 n1 P1 St1) (D2 : Draws prog w A i2 fp2 n2 P2 St2) (D3 : Draws prog w A i3 fp3 n3 P3 St3)
    (hz : IsZipHeld s.heap z TI TO T f) (hT : s.heap.get? T = some oT) (hTI : IsTupOf3 s.heap TI (.ref i1) (.ref i2) (.ref i3)) (st1 : St1 i s.heap) (st2 : St2 i s.heap) (st3 : St3 i s.heap) (hlt1 : i < n1) (hlt2 : i < n2) (hlt3 : i < n3)
    (hQ : ∀ x1 x2 x3 h' tk, P1 i x1 → P2 i x2 → P3 i x3 → IsZipHeld h' z TI TO T true → St1 (i + 1) h' → St2 (i + 1) h' → St3 (i + 1) h' → IsTupOf3 h' s.heap.objs.size x1 x2 x3 → h'.objs.size = s.heap.objs.size + 1 →
      (∀ c o, c ≠ z → c ≠ i1 → c ≠ i2 → c ≠ i3 → s.heap.get? c = some o → h'.get? c = some o) → Q (.ref s.heap.objs.size) { s with heap := h', toks := tk }) :
    wpAny (model prog w) A (Builtin.«zip.__next__» ⟨[.ref z], []⟩) (fun fin s' => ∃ v, fin = .done (.ret v) ∧ Q v s') E s := by
  obtain ⟨hp, g, d, tk0, os⟩ := s
  show wpAny _ _ (field (.ref z) 2 >>= _) _ _ _
  refine wpAny_bind (wpAny_field hz rfl (x := .bool false) rfl ?_)
  show wpAny _ _ (field (.ref z) 3 >>= _) _ _ _
  refine wpAny_bind (wpAny_field hz rfl (x := .ref TI) rfl ?_)
  refine wpAny_bind (wpAny_seqItems hTI rfl ?_)
  show wpAny _ _ (Builtin.SmallTypes.ownedTupleIsFree (.ref z) >>= _) _ _ _
  refine wpAny_bind (wpAny_tupleHeld_zip hz hT fun g0 hz0 hs0 => ?_)
  replace hs0 : Heap.SameBut z hp g0 := hs0
  simp only [Bool.false_eq_true, if_false]
  refine wpAny_bind ?_
  rw [← Array.forIn_toList]
  simp only [List.forIn_cons, List.forIn_nil]
  refine wpAny_bind (wpAny_bind (wpAny_holding ?_))
  show wpAny _ _ (Builtin.SmallTypes.nextOf (.ref i1) >>= _) _ _ ⟨g0, g, d, tk0, os⟩
  refine wpAny_bind (D1.item i _ _ _ hlt1 (D1.over st1 hs0 S.zf1) fun x1 p1 tk1 hx1 sn1 hp1 => wpAny_pure ?_)
  replace hp1 : Heap.SameBut i1 g0 p1 := hp1
  refine wpAny_pure ?_
  refine wpAny_bind (wpAny_bind (wpAny_holding ?_))
  show wpAny _ _ (Builtin.SmallTypes.nextOf (.ref i2) >>= _) _ _ ⟨p1, g, d, tk1, os⟩
  refine wpAny_bind (D2.item i _ _ _ hlt2 (D2.over (D2.over st2 hs0 S.zf2) hp1 S.sep1_2) fun x2 p2 tk2 hx2 sn2 hp2 => wpAny_pure ?_)
  replace hp2 : Heap.SameBut i2 p1 p2 := hp2
  refine wpAny_pure ?_
  refine wpAny_bind (wpAny_bind (wpAny_holding ?_))
  show wpAny _ _ (Builtin.SmallTypes.nextOf (.ref i3) >>= _) _ _ ⟨p2, g, d, tk2, os⟩
  refine wpAny_bind (D3.item i _ _ _ hlt3 (D3.over (D3.over (D3.over st3 hs0 S.zf3) hp1 S.sep1_3) hp2 S.sep2_3) fun x3 p3 tk3 hx3 sn3 hp3 => wpAny_pure ?_)
  replace hp3 : Heap.SameBut i3 p2 p3 := hp3
  refine wpAny_pure (wpAny_pure ?_)
  show wpAny _ _ (newTuple [x1, x2, x3] >>= _) _ _ _
  refine wpAny_bind (wpAny_newTuple ?_)
  have hsz : p3.objs.size = hp.objs.size := by rw [hp3.1, hp2.1, hp1.1, hs0.1]
  have hz3 : IsZipHeld p3 z TI TO T true := hp3.extBut _ _ S.zi3 (hp2.extBut _ _ S.zi2 (hp1.extBut _ _ S.zi1 hz0))
  have hkk : ∀ c o, c ≠ z → c ≠ i1 → c ≠ i2 → c ≠ i3 → hp.get? c = some o → p3.get? c = some o := fun c o cz c1 c2 c3 e => hp3.extBut _ _ c3 (hp2.extBut _ _ c2 (hp1.extBut _ _ c1 (hs0.extBut _ _ cz e)))
  have hj1 : St1 (i + 1) p3 := D1.over (D1.over sn1 hp2 S.sep2_1) hp3 S.sep3_1
  have hj2 : St2 (i + 1) p3 := D2.over sn2 hp3 S.sep3_2
  have up : ∀ c o, p3.get? c = some o → (p3.push { cls := .type "tuple", data := .seq #[x1, x2, x3] }).get? c = some o := fun c o e => Heap.get?_push_of_some _ e
  refine wpAny_pure ⟨_, rfl, ?_⟩
  show Q (.ref p3.objs.size) _
  have hT3 : IsTupOf3 (p3.push { cls := .type "tuple", data := .seq #[x1, x2, x3] }) p3.objs.size x1 x2 x3 := Heap.get?_push_size _ rfl
  have hz4 : (p3.push { cls := .type "tuple", data := .seq #[x1, x2, x3] }).objs.size = p3.objs.size + 1 := Heap.size_push ..
  rw [hsz] at hT3 hz4 ⊢
  exact hQ x1 x2 x3 _ tk3 hx1 hx2 hx3 (up _ _ hz3) (D1.frame _ _ _ hj1 fun b _ o e => up b o e) (D2.frame _ _ _ hj2 fun b _ o e => up b o e) (D3.frame _ _ _ sn3 fun b _ o e => up b o e) hT3 hz4 fun c o cz c1 c2 c3 e => up _ _ (hkk c o cz c1 c2 c3 e)
theorem zip3_end_held {Q : Fin → Shared → Prop} (S : ZipSep3 z TI TO i1 i2 i3 fp1 fp2 fp3) (D1 : Draws prog w A i1 fp1 n1 P1 St1) (D2 : Draws prog w A i2 fp2 n2 P2 St2) (D3 : Draws prog w A i3 fp3 n3 P3 St3)
    (hz : IsZipHeld s.heap z TI TO T f) (hT : s.heap.get? T = some oT) (hTI : IsTupOf3 s.heap TI (.ref i1) (.ref i2) (.ref i3)) (st1 : St1 i s.heap) (st2 : St2 i s.heap) (st3 : St3 i s.heap) (hle1 : i ≤ n1) (hle2 : i ≤ n2) (hle3 : i ≤ n3) (hend : i = n1 ∨ i = n2 ∨ i = n3)
    (hE : ∀ h' tk e, (∀ c o, c ≠ z → c ≠ i1 → c ≠ i2 → c ≠ i3 → s.heap.get? c = some o → h'.get? c = some o) → (∃ o, h'.get? e = some o ∧ o.cls = .type "StopIteration") → E (.ref e) { s with heap := h', toks := tk }) :
    wpAny (model prog w) A (Builtin.«zip.__next__» ⟨[.ref z], []⟩) Q E s := by
  obtain ⟨hp, g, d, tk0, os⟩ := s
  show wpAny _ _ (field (.ref z) 2 >>= _) _ _ _
  refine wpAny_bind (wpAny_field hz rfl (x := .bool false) rfl ?_)
  show wpAny _ _ (field (.ref z) 3 >>= _) _ _ _
  refine wpAny_bind (wpAny_field hz rfl (x := .ref TI) rfl ?_)
  refine wpAny_bind (wpAny_seqItems hTI rfl ?_)
  show wpAny _ _ (Builtin.SmallTypes.ownedTupleIsFree (.ref z) >>= _) _ _ _
  refine wpAny_bind (wpAny_tupleHeld_zip hz hT fun g0 hz0 hs0 => ?_)
  replace hs0 : Heap.SameBut z hp g0 := hs0
  simp only [Bool.false_eq_true, if_false]
  refine wpAny_bind ?_
  rw [← Array.forIn_toList]
  simp only [List.forIn_cons, List.forIn_nil]
  refine wpAny_bind (wpAny_bind (wpAny_holding ?_))
  show wpAny _ _ (Builtin.SmallTypes.nextOf (.ref i1) >>= _) _ _ ⟨g0, g, d, tk0, os⟩
  by_cases hlt1 : i < n1
  · refine wpAny_bind (D1.item i _ _ _ hlt1 (D1.over st1 hs0 S.zf1) fun x1 p1 tk1 hx1 sn1 hp1 => wpAny_pure ?_)
    replace hp1 : Heap.SameBut i1 g0 p1 := hp1
    refine wpAny_pure ?_
    refine wpAny_bind (wpAny_bind (wpAny_holding ?_))
    show wpAny _ _ (Builtin.SmallTypes.nextOf (.ref i2) >>= _) _ _ ⟨p1, g, d, tk1, os⟩
    by_cases hlt2 : i < n2
    · refine wpAny_bind (D2.item i _ _ _ hlt2 (D2.over (D2.over st2 hs0 S.zf2) hp1 S.sep1_2) fun x2 p2 tk2 hx2 sn2 hp2 => wpAny_pure ?_)
      replace hp2 : Heap.SameBut i2 p1 p2 := hp2
      refine wpAny_pure ?_
      have hi3 : i = n3 := by omega
      refine wpAny_bind (wpAny_bind (wpAny_holding ?_))
      show wpAny _ _ (Builtin.SmallTypes.nextOf (.ref i3) >>= _) _ _ ⟨p2, g, d, tk2, os⟩
      refine wpAny_bind (D3.done ⟨p2, g, d, tk2, os⟩ _ _ (by rw [← hi3]; exact D3.over (D3.over (D3.over st3 hs0 S.zf3) hp1 S.sep1_3) hp2 S.sep2_3) fun q e hq he => ?_)
      replace hq : Heap.ExtBut i3 p2 q := hq
      exact hE q tk2 e (fun c o cz c1 c2 c3 x => hq _ _ c3 (hp2.extBut _ _ c2 (hp1.extBut _ _ c1 (hs0.extBut _ _ cz x)))) he
    · have hi2 : i = n2 := by omega
      refine wpAny_bind (D2.done ⟨p1, g, d, tk1, os⟩ _ _ (by rw [← hi2]; exact D2.over (D2.over st2 hs0 S.zf2) hp1 S.sep1_2) fun q e hq he => ?_)
      replace hq : Heap.ExtBut i2 p1 q := hq
      exact hE q tk1 e (fun c o cz c1 c2 c3 x => hq _ _ c2 (hp1.extBut _ _ c1 (hs0.extBut _ _ cz x))) he
  · have hi1 : i = n1 := by omega
    refine wpAny_bind (D1.done ⟨g0, g, d, tk0, os⟩ _ _ (by rw [← hi1]; exact D1.over st1 hs0 S.zf1) fun q e hq he => ?_)
    replace hq : Heap.ExtBut i1 g0 q := hq
    exact hE q tk0 e (fun c o cz c1 c2 c3 x => hq _ _ c1 (hs0.extBut _ _ cz x)) he
theorem next_zip3_item {Q : Option Value → Shared → Prop} (S : ZipSep3 z TI TO i1 i2 i3 fp1 fp2 fp3) (D1 : Draws prog w A.in1 i1 fp1 n1 P1 St1) (D2 : Draws prog w A.in1 i2 fp2 n2 P2 St2) (D3 : Draws prog w A.in1 i3 fp3 n3 P3 St3)
    (hz : IsZipHeld s.heap z TI TO T f) (hT : s.heap.get? T = some oT) (hTI : IsTupOf3 s.heap TI (.ref i1) (.ref i2) (.ref i3)) (st1 : St1 i s.heap) (st2 : St2 i s.heap) (st3 : St3 i s.heap) (hlt1 : i < n1) (hlt2 : i < n2) (hlt3 : i < n3)
    (hQ : ∀ x1 x2 x3 h' tk, P1 i x1 → P2 i x2 → P3 i x3 → IsZipHeld h' z TI TO T true → St1 (i + 1) h' → St2 (i + 1) h' → St3 (i + 1) h' → IsTupOf3 h' s.heap.objs.size x1 x2 x3 → h'.objs.size = s.heap.objs.size + 1 →
      (∀ c o, c ≠ z → c ≠ i1 → c ≠ i2 → c ≠ i3 → s.heap.get? c = some o → h'.get? c = some o) → Q (some (.ref s.heap.objs.size)) { s with heap := h', toks := tk }) :
    wpAny (model prog w) A (pyNext (.ref z)) Q E s := by
  have hTy : s.TypeIs (.ref z) "zip" := ⟨_, hz, rfl⟩
  unfold pyNext
  exact wpAny_bind (wpAny_attempt (wpAny_callSpecial?_slot (name := Str.ofString "__next__") hTy F.slot_zip_next
    (wpAny_call_entry F.slot_zip_next hTy F.entry_zip_next
      (zip3_item_held S D1 D2 D3 hz hT hTI st1 st2 st3 hlt1 hlt2 hlt3 fun x1 x2 x3 h' tk a1 a2 a3 a4 a5 a6 a7 a8 a9 a10 => wpAny_pure (hQ x1 x2 x3 h' tk a1 a2 a3 a4 a5 a6 a7 a8 a9 a10)) (F.args_zip_next_1 _))))
theorem next_zip3_end {Q : Option Value → Shared → Prop} (S : ZipSep3 z TI TO i1 i2 i3 fp1 fp2 fp3) (D1 : Draws prog w A.in1 i1 fp1 n1 P1 St1) (D2 : Draws prog w A.in1 i2 fp2 n2 P2 St2) (D3 : Draws prog w A.in1 i3 fp3 n3 P3 St3)
    (hz : IsZipHeld s.heap z TI TO T f) (hT : s.heap.get? T = some oT) (hTI : IsTupOf3 s.heap TI (.ref i1) (.ref i2) (.ref i3)) (st1 : St1 i s.heap) (st2 : St2 i s.heap) (st3 : St3 i s.heap) (hle1 : i ≤ n1) (hle2 : i ≤ n2) (hle3 : i ≤ n3) (hend : i = n1 ∨ i = n2 ∨ i = n3)
    (hQ : ∀ h' tk, (∀ c o, c ≠ z → c ≠ i1 → c ≠ i2 → c ≠ i3 → s.heap.get? c = some o → h'.get? c = some o) → Q none { s with heap := h', toks := tk }) : wpAny (model prog w) A (pyNext (.ref z)) Q E s := by
  have hTy : s.TypeIs (.ref z) "zip" := ⟨_, hz, rfl⟩
  unfold pyNext
  refine wpAny_bind (wpAny_attempt (wpAny_callSpecial?_slot (name := Str.ofString "__next__") hTy F.slot_zip_next
    (wpAny_call_entry F.slot_zip_next hTy F.entry_zip_next (zip3_end_held S D1 D2 D3 hz hT hTI st1 st2 st3 hle1 hle2 hle3 hend fun h' tk e hk he => ?_) (F.args_zip_next_1 _))))
  obtain ⟨o, ho, hc⟩ := he
  refine wpAny_bind (wpAny_isInstance (T := "StopIteration") (b := true) ⟨o, ho, hc⟩ isSubtype_stop ?_)
  exact wpAny_pure (hQ _ _ hk)
end
section
variable {prog : Program} {w : World} {A : Around} {z TI TO i1 i2 i3 S B : Nat} {fp1 fp2 fp3 : List Addr} {n1 n2 n3 : Nat} {P1 P2 P3 : Nat → Value → Prop} {St1 St2 St3 : Nat → Heap → Prop}
structure Z3At (z TI TO i1 i2 i3 : Addr) (St1 St2 St3 : Nat → Heap → Prop) (B : Nat) (h : Heap) (k : Nat) : Prop where
  out : (IsZip h z TI TO .none ∧ ∃ x y u, IsTupOf3 h TO x y u) ∨ ∃ T f o, B ≤ T ∧ IsZipHeld h z TI TO T f ∧ h.get? T = some o
  ti : IsTupOf3 h TI (.ref i1) (.ref i2) (.ref i3)
  s1 : St1 k h
  s2 : St2 k h
  s3 : St3 k h
structure Z3Low (z TI TO S B : Nat) (fp1 fp2 fp3 : List Addr) : Prop where
  z : z < B
  TI : TI < B
  TO : TO < B
  S : S < B
  f1 : ∀ b : Nat, b ∈ fp1 → b < B
  f2 : ∀ b : Nat, b ∈ fp2 → b < B
  f3 : ∀ b : Nat, b ∈ fp3 → b < B
structure Z3Ne (z TI TO S : Nat) (fp1 fp2 fp3 : List Addr) : Prop where
  z : S ≠ z
  TI : S ≠ TI
  TO : S ≠ TO
  f1 : S ∉ fp1
  f2 : S ∉ fp2
  f3 : S ∉ fp3
structure Z3Out (P1 P2 P3 : Nat → Value → Prop) (B : Nat) (h : Heap) (ts : List Addr) : Prop where
  ge : ∀ t, t ∈ ts → B ≤ t ∧ t < h.objs.size
  nd : ts.Nodup
  at' : ∀ (j : Nat) t, ts[j]? = some t → ∃ x y u, P1 j x ∧ P2 j y ∧ P3 j u ∧ IsTupOf3 h t x y u
theorem Z3Out.nil {h : Heap} : Z3Out P1 P2 P3 B h [] := ⟨fun t ht => absurd ht (by simp), List.nodup_nil, fun j t hj => absurd hj (by simp)⟩
theorem Z3Out.up {h h' : Heap} {ts : List Addr} (o : Z3Out P1 P2 P3 B h ts) (k : ∀ t u, B ≤ t → h.get? t = some u → h'.get? t = some u) : Z3Out P1 P2 P3 B h' ts := ⟨fun t ht => by
    obtain ⟨j, hj⟩ := List.getElem?_of_mem ht
    obtain ⟨x, y, u, _, _, _, e3⟩ := o.at' j t hj
    have hg := (o.ge t ht).1
    exact ⟨hg, Heap.lt_size (k t _ hg e3)⟩, o.nd, fun j t hj => by
    obtain ⟨x, y, u, e1, e2, e3, e4⟩ := o.at' j t hj
    exact ⟨x, y, u, e1, e2, e3, k t _ (o.ge t (List.mem_of_getElem? hj)).1 e4⟩⟩
theorem Z3At.upd {h h' : Heap} {k : Nat} (D1 : Draws prog w A i1 fp1 n1 P1 St1) (D2 : Draws prog w A i2 fp2 n2 P2 St2) (D3 : Draws prog w A i3 fp3 n3 P3 St3) (L : Z3Low z TI TO S B fp1 fp2 fp3) (N : Z3Ne z TI TO S fp1 fp2 fp3) (st : Z3At z TI TO i1 i2 i3 St1 St2 St3 B h k) (kp : ∀ c o, c ≠ S → h.get? c = some o → h'.get? c = some o) : Z3At z TI TO i1 i2 i3 St1 St2 St3 B h' k := by
  obtain ⟨out, ti, s1, s2, s3⟩ := st
  refine ⟨?_, kp _ _ N.TI.symm ti, D1.frame _ _ _ s1 fun b hb o e => kp _ o (fun q => N.f1 (q ▸ hb)) e, D2.frame _ _ _ s2 fun b hb o e => kp _ o (fun q => N.f2 (q ▸ hb)) e, D3.frame _ _ _ s3 fun b hb o e => kp _ o (fun q => N.f3 (q ▸ hb)) e⟩
  rcases out with ⟨hz, x, y, u, hp⟩ | ⟨T, f, o, hB, hz, hT⟩
  · exact .inl ⟨kp _ _ N.z.symm hz, x, y, u, kp _ _ N.TO.symm hp⟩
  · exact .inr ⟨T, f, o, hB, kp _ _ N.z.symm hz, kp _ _ (fun e => by have := L.S; omega) hT⟩
theorem zip3_drain {R : Result → Shared → Prop} (hh : A.handled = none) (D : ZipSep3 z TI TO i1 i2 i3 fp1 fp2 fp3) (D1 : Draws prog w A.in1.in1 i1 fp1 n1 P1 St1) (D2 : Draws prog w A.in1.in1 i2 fp2 n2 P2 St2) (D3 : Draws prog w A.in1.in1 i3 fp3 n3 P3 St3) (L : Z3Low z TI TO S B fp1 fp2 fp3) (N : Z3Ne z TI TO S fp1 fp2 fp3) {M : Nat} (hM1 : M ≤ n1) (hM2 : M ≤ n2) (hM3 : M ≤ n3) (hM : M = n1 ∨ M = n2 ∨ M = n3) (hn : M ≤ sizeLine) (res : Value) :
    ∀ (n k : Nat) (s : Shared) (ts : List Addr) (c : Nat), M - k = n → k ≤ M → ts.length = k → Z3At z TI TO i1 i2 i3 St1 St2 St3 B s.heap k → B ≤ s.heap.objs.size →
      s.heap.get? S = some { cls := .type "list", dict := none, data := .seq (ts.map Value.ref).toArray c, slots := #[] } → Z3Out P1 P2 P3 B s.heap ts →
      (∀ h' tk ts' c', (∀ d o, d ≠ S → d ≠ z → d ≠ TO → d ≠ i1 → d ≠ i2 → d ≠ i3 → s.heap.get? d = some o → h'.get? d = some o) → h'.get? S = some { cls := .type "list", dict := none, data := .seq (ts'.map Value.ref).toArray c', slots := #[] } → ts'.length = M → Z3Out P1 P2 P3 B h' ts' → R (.ok (.ret res)) { s with heap := h', toks := tk }) →
      codeAny (model prog w) A (.builtin "list.extend.loop" ⟨[.ref S, .ref z, res], []⟩) R s := by
  have li1 := L.f1 _ D.mem1
  have li2 := L.f2 _ D.mem2
  have li3 := L.f3 _ D.mem3
  have lz := L.z
  have lO := L.TO
  have lS := L.S
  have ne : ∀ {c t : Nat}, c < B → B ≤ t → t ≠ c := fun h1 h2 => Nat.ne_of_gt (Nat.lt_of_lt_of_le h1 h2)
  have si1 : S ≠ i1 := fun q => N.f1 (q ▸ D.mem1)
  have si2 : S ≠ i2 := fun q => N.f2 (q ▸ D.mem2)
  have si3 : S ≠ i3 := fun q => N.f3 (q ▸ D.mem3)
  intro n
  induction n with
  | zero =>
    intro k s ts c hk hi hl st hB hS ho hR
    refine codeAny_builtin F.entry_extend_loop ?_
    rw [Around.under_plainId F.plain_extend_loop _]
    show wpAny _ A.in1 (pyNext (.ref z) >>= _) _ _ s
    have hkM : k = M := by omega
    subst hkM
    obtain ⟨out, ti, s1, s2, s3⟩ := st
    rcases out with ⟨hz, x, y, u, hp⟩ | ⟨T, f, o, hTB, hz, hT⟩
    · refine wpAny_bind (wpAny_pyNext_zipD3_end (A := A.in1) D D1 D2 D3 hz ti hp s1 s2 s3 hM1 hM2 hM3 hM fun h' tk hkp => ?_)
      exact wpAny_pure (hR h' tk ts c (fun d o _ c1 c2 c3 c4 c5 e => hkp d o c1 c2 c3 c4 c5 e) (hkp S _ N.z N.TO si1 si2 si3 hS) hl (ho.up fun t u hg e => hkp t u (ne lz hg) (ne lO hg) (ne li1 hg) (ne li2 hg) (ne li3 hg) e))
    · refine wpAny_bind (next_zip3_end (A := A.in1) D D1 D2 D3 hz hT ti s1 s2 s3 hM1 hM2 hM3 hM fun h' tk hkp => ?_)
      exact wpAny_pure (hR h' tk ts c (fun d o _ c1 _ c3 c4 c5 e => hkp d o c1 c3 c4 c5 e) (hkp S _ N.z si1 si2 si3 hS) hl (ho.up fun t u hg e => hkp t u (ne lz hg) (ne li1 hg) (ne li2 hg) (ne li3 hg) e))
  | succ n ih =>
    intro k s ts c hk hi hl st hB hS ho hR
    refine codeAny_builtin F.entry_extend_loop ?_
    rw [Around.under_plainId F.plain_extend_loop _]
    show wpAny _ A.in1 (pyNext (.ref z) >>= _) _ _ s
    have w1 : M - (k + 1) = n := by omega
    have w2 : k + 1 ≤ M := by omega
    obtain ⟨out, ti, s1, s2, s3⟩ := st
    have step : ∀ (h' : Heap) (tk : Nat) (x y u : Value), P1 k x → P2 k y → P3 k u → (∃ T f o, B ≤ T ∧ IsZipHeld h' z TI TO T f ∧ h'.get? T = some o) → St1 (k + 1) h' → St2 (k + 1) h' → St3 (k + 1) h' → IsTupOf3 h' s.heap.objs.size x y u → h'.objs.size = s.heap.objs.size + 1 →
        (∀ d o, d ≠ z → d ≠ TO → d ≠ i1 → d ≠ i2 → d ≠ i3 → s.heap.get? d = some o → h'.get? d = some o) →
        wpAny (model prog w) A.in1 (updateSeq S (·.push (.ref s.heap.objs.size)) >>= fun _ => again (.builtin "list.extend.loop" ⟨[.ref S, .ref z, res], []⟩)) (fun fin s' => match fin with | .done f => R (.ok f) s' | .again c' => c'.quiet = true ∧ codeAny (model prog w) A c' R s') (fun e s' => R (.error e) s') { s with heap := h', toks := tk } := by
      intro h' tk x y u hx hy hu hz g1 g2 g3 gp gs hkp
      have hS' := hkp S _ N.z N.TO si1 si2 si3 hS
      have hsz : ((ts.map Value.ref).toArray).size = k := by simp [hl]
      refine wpAny_bind ?_
      refine wpAny_updateSeq hS' rfl (wpAny_pure ⟨plainId_quiet F.plain_extend_loop _, ?_⟩) (by rw [hsz]; omega) (by show ((ts.map Value.ref).toArray.push _).size ≤ sizeLine + 1; rw [Array.size_push, hsz]; omega)
      have kp2 : ∀ d o, d ≠ S → h'.get? d = some o → (h'.update S (Obj.mapSeq (·.push (.ref s.heap.objs.size)))).get? d = some o := fun d o hd e => (Heap.get?_update_other _ _ (Ne.symm hd)).trans e
      obtain ⟨c2, hS2⟩ : ∃ c2, (h'.update S (Obj.mapSeq (·.push (.ref s.heap.objs.size)))).get? S = some { cls := .type "list", dict := none, data := .seq ((ts ++ [s.heap.objs.size]).map Value.ref).toArray c2, slots := #[] } := by
        refine ⟨if ((ts.map Value.ref).toArray.push (.ref s.heap.objs.size)).size == (ts.map Value.ref).toArray.size then c else c + 1, (Heap.get?_update_self _ hS' rfl).trans ?_⟩
        rw [List.map_append]
        simp only [Obj.mapSeq, List.map_cons, List.map_nil, List.push_toArray]
      have hl' : (ts ++ [s.heap.objs.size]).length = k + 1 := by simp [hl]
      have hsz2 : (h'.update S (Obj.mapSeq (·.push (.ref s.heap.objs.size)))).objs.size = h'.objs.size := Heap.size_update ..
      have ho' := ho.up (h' := h'.update S (Obj.mapSeq (·.push (.ref s.heap.objs.size)))) fun t u hg e => kp2 t u (ne lS hg) (hkp t u (ne lz hg) (ne lO hg) (ne li1 hg) (ne li2 hg) (ne li3 hg) e)
      refine ih (k + 1) { s with heap := h'.update S (Obj.mapSeq (·.push (.ref s.heap.objs.size))), toks := tk } (ts ++ [s.heap.objs.size]) c2 w1 w2 hl' ?_ (by show B ≤ (h'.update S _).objs.size; rw [hsz2]; omega) hS2 ⟨fun t ht => ?_, ?_, fun j t hj => ?_⟩ fun h'' tk' ts' c' q1 q2 q3 q4 => ?_
      · exact Z3At.upd D1 D2 D3 L N ⟨.inr hz, hkp _ _ D.TIz D.TITO D.TIi1 D.TIi2 D.TIi3 ti, g1, g2, g3⟩ kp2
      · have hlt : B ≤ t ∧ t < s.heap.objs.size + 1 := by
          rcases List.mem_append.1 ht with ht | ht
          · have := ho.ge t ht
            exact ⟨this.1, Nat.lt_succ_of_lt this.2⟩
          · have := List.mem_singleton.1 ht
            rw [this]
            exact ⟨hB, Nat.lt_succ_self _⟩
        refine ⟨hlt.1, ?_⟩
        show t < (h'.update S _).objs.size
        rw [hsz2, gs]
        exact hlt.2
      · rw [List.nodup_append]
        refine ⟨ho.nd, by simp, fun x hx y hy => ?_⟩
        have h1 := (ho.ge x hx).2
        have h2 := List.mem_singleton.1 hy
        rw [h2]
        exact Nat.ne_of_lt h1
      · by_cases hj2 : j < ts.length
        · rw [List.getElem?_append_left hj2] at hj
          exact ho'.at' j t hj
        · have hjk : j = ts.length := by
            have := (List.getElem?_eq_some_iff.mp hj).1
            rw [hl'] at this
            omega
          subst hjk
          rw [List.getElem?_append_right (Nat.le_refl _)] at hj
          simp at hj
          subst hj
          rw [hl]
          exact ⟨x, y, u, hx, hy, hu, kp2 _ _ (Nat.ne_of_gt (Nat.lt_of_lt_of_le L.S hB)) gp⟩
      · exact hR h'' tk' ts' c' (fun d o c0 c1 c2 c3 c4 c5 e => q1 d o c0 c1 c2 c3 c4 c5 (kp2 d o c0 (hkp d o c1 c2 c3 c4 c5 e))) q2 q3 q4
    rcases out with ⟨hz, x, y, u, hp⟩ | ⟨T, f, o, hTB, hz, hT⟩
    · refine wpAny_bind (wpAny_pyNext_zipD3_item (A := A.in1) D D1 D2 D3 hz ti hp s1 s2 s3 (by omega) (by omega) (by omega) fun x y u h' tk e1 e2 e3 a1 a2 a3 a4 a5 a6 a7 hkp => ?_)
      exact step h' tk x y u e1 e2 e3 ⟨_, false, _, hB, a1, a6⟩ a3 a4 a5 a6 a7 hkp
    · refine wpAny_bind (next_zip3_item (A := A.in1) D D1 D2 D3 hz hT ti s1 s2 s3 (by omega) (by omega) (by omega) fun x y u h' tk e1 e2 e3 a1 a3 a4 a5 a6 a7 hkp => ?_)
      exact step h' tk x y u e1 e2 e3 ⟨T, true, o, hTB, a1, hkp _ _ (ne lz hTB) (ne li1 hTB) (ne li2 hTB) (ne li3 hTB) hT⟩ a3 a4 a5 a6 a7 fun d o c1 _ c3 c4 c5 e => hkp d o c1 c3 c4 c5 e
end
section
variable {prog : Program} {w : World} {A : Around} {E : Value → Shared → Prop} {z TI TO i1 i2 i3 : Nat} {fp1 fp2 fp3 : List Addr} {n1 n2 n3 : Nat} {P1 P2 P3 : Nat → Value → Prop} {St1 St2 St3 : Nat → Heap → Prop}
theorem zip3_extend {S B : Nat} {R : Result → Shared → Prop} (hh : A.handled = none) (D : ZipSep3 z TI TO i1 i2 i3 fp1 fp2 fp3) (D1 : Draws prog w A.in1.in1 i1 fp1 n1 P1 St1) (D2 : Draws prog w A.in1.in1 i2 fp2 n2 P2 St2) (D3 : Draws prog w A.in1.in1 i3 fp3 n3 P3 St3) (L : Z3Low z TI TO S B fp1 fp2 fp3) (N : Z3Ne z TI TO S fp1 fp2 fp3) {M : Nat} (hM1 : M ≤ n1) (hM2 : M ≤ n2) (hM3 : M ≤ n3) (hM : M = n1 ∨ M = n2 ∨ M = n3) (hn : M ≤ sizeLine) (res : Value)
    {s : Shared} (st : Z3At z TI TO i1 i2 i3 St1 St2 St3 B s.heap 0) (hz : IsZip s.heap z TI TO .none) (hB : B ≤ s.heap.objs.size) {c : Nat} (hS : s.heap.get? S = some { cls := .type "list", dict := none, data := .seq #[] c, slots := #[] })
    (hR : ∀ h' tk ts' c', (∀ d o, d ≠ S → d ≠ z → d ≠ TO → d ≠ i1 → d ≠ i2 → d ≠ i3 → s.heap.get? d = some o → h'.get? d = some o) → h'.get? S = some { cls := .type "list", dict := none, data := .seq (ts'.map Value.ref).toArray c', slots := #[] } → ts'.length = M → Z3Out P1 P2 P3 B h' ts' → R (.ok (.ret res)) { s with heap := h', toks := tk }) :
    wpAny (model prog w) A.in1 (Builtin.List.listExtendWith (.ref S) (.ref z) res) (fun fin s' => match fin with | .done f => R (.ok f) s' | .again c' => c'.quiet = true ∧ codeAny (model prog w) A c' R s') (fun e s' => R (.error e) s') s := by
  have hT : s.TypeIs (.ref z) "zip" := ⟨_, hz, rfl⟩
  unfold Builtin.List.listExtendWith
  refine wpAny_bind (wpAny_typeOf hT ?_)
  have e1 : Builtin.List.listSameRef (.ref S) (.ref z) = false := by simp [Builtin.List.listSameRef, N.z]
  have e2 : (Value.type "zip" == Value.type "list") = false := by decide
  have e3 : (Value.type "zip" == Value.type "tuple") = false := by decide
  simp only [e1, e2, e3, Bool.or_false, Bool.false_eq_true, if_false]
  refine wpAny_bind (wpAny_pyIter_zip hz ?_)
  refine wpAny_bind (wpAny_holding ?_)
  unfold Builtin.List.listLengthHint
  refine wpAny_bind (wpAny_specialOf hT zip_nolen ?_)
  show wpAny _ A.in1 (specialOf (Value.ref z) (Str.ofString "__length_hint__") >>= _) _ _ _
  refine wpAny_bind (wpAny_specialOf hT zip_nohint ?_)
  refine wpAny_pure ?_
  show wpAny _ A.in1 (rule "list.extend.makes-room" >>= fun _ => Builtin.List.listTouch (.ref S) >>= fun _ =>
    again (.builtin "list.extend.loop" ⟨[.ref S, .ref z, res], []⟩)) _ _ _
  refine wpAny_bind (wpAny_rule ?_)
  refine wpAny_bind ?_
  show wpAny _ A.in1 (updateSeq S (·.push .none) >>= fun _ => updateSeq S (·.pop)) _ _ _
  refine wpAny_bind (wpAny_updateSeq hS rfl ?_)
  have hS3 := Heap.get?_update_self (Obj.mapSeq (·.push Value.none)) hS rfl
  refine wpAny_updateSeq (hz := by seq_fits) hS3 rfl ?_
  have hS4 := Heap.get?_update_self (Obj.mapSeq (·.pop)) hS3 rfl
  have k4 : ∀ d o, d ≠ S → s.heap.get? d = some o → ((s.heap.update S (Obj.mapSeq (·.push Value.none))).update S (Obj.mapSeq (·.pop))).get? d = some o := fun d o hd e =>
    (Heap.get?_update_other _ _ (Ne.symm hd)).trans ((Heap.get?_update_other _ _ (Ne.symm hd)).trans e)
  have hsz : ((s.heap.update S (Obj.mapSeq (·.push Value.none))).update S (Obj.mapSeq (·.pop))).objs.size = s.heap.objs.size := by rw [Heap.size_update, Heap.size_update]
  refine wpAny_pure ⟨plainId_quiet F.plain_extend_loop _, ?_⟩
  refine zip3_drain hh D D1 D2 D3 L N hM1 hM2 hM3 hM hn res _ 0 _ [] _ rfl (Nat.zero_le _) rfl ?_ ?_ hS4 Z3Out.nil fun h' tk ts' c' q1 q2 q3 q4 => ?_
  · exact Z3At.upd D1 D2 D3 L N st k4
  · exact Nat.le_trans hB (Nat.le_of_eq hsz.symm)
  · exact hR h' tk ts' c' (fun d o c0 c1 c2 c3 c4 c5 e => q1 d o c0 c1 c2 c3 c4 c5 (k4 d o c0 e)) q2 q3 q4
theorem call_list_zip3 {Q : Value → Shared → Prop} {s : Shared} (hh : A.handled = none) (D : ZipSep3 z TI TO i1 i2 i3 fp1 fp2 fp3) (D1 : Draws prog w A.in1.in1.in1 i1 fp1 n1 P1 St1) (D2 : Draws prog w A.in1.in1.in1 i2 fp2 n2 P2 St2) (D3 : Draws prog w A.in1.in1.in1 i3 fp3 n3 P3 St3) {M : Nat} (hM1 : M ≤ n1) (hM2 : M ≤ n2) (hM3 : M ≤ n3) (hM : M = n1 ∨ M = n2 ∨ M = n3) (hn : M ≤ sizeLine)
    (hz : IsZip s.heap z TI TO .none) (hTI : IsTupOf3 s.heap TI (.ref i1) (.ref i2) (.ref i3)) (hTO : ∃ x y u, IsTupOf3 s.heap TO x y u) (s1 : St1 0 s.heap) (s2 : St2 0 s.heap) (s3 : St3 0 s.heap) (f1 : ∀ b : Nat, b ∈ fp1 → b < s.heap.objs.size) (f2 : ∀ b : Nat, b ∈ fp2 → b < s.heap.objs.size) (f3 : ∀ b : Nat, b ∈ fp3 → b < s.heap.objs.size)
    (hQ : ∀ h' tk ts' c', (∀ d o, d ≠ z → d ≠ TO → d ≠ i1 → d ≠ i2 → d ≠ i3 → s.heap.get? d = some o → h'.get? d = some o) → h'.get? s.heap.objs.size = some { cls := .type "list", dict := none, data := .seq (ts'.map Value.ref).toArray c', slots := #[] } → ts'.length = M → Z3Out P1 P2 P3 (s.heap.objs.size + 1) h' ts' → Q (.ref s.heap.objs.size) { s with heap := h', toks := tk }) :
    wpAny (model prog w) A (call (.type "list") [.ref z]) Q E s := by
  refine callType_codes (Q₁ := fun obj s₁ => obj = .ref s.heap.objs.size ∧ s₁ = { s with heap := s.heap.push { cls := .type "list", data := .seq #[] } }) F.called_list (F.typeCall_list_1 _) F.entry_list_init
    (code_list_new _ ⟨rfl, rfl⟩) fun obj s₁ h₁ => ?_
  obtain ⟨rfl, rfl⟩ := h₁
  have hS : (s.heap.push { cls := .type "list", data := .seq #[] }).get? s.heap.objs.size = some { cls := .type "list", data := .seq #[] } := Heap.get?_push_size _ rfl
  refine ⟨⟨_, hS, rfl⟩, F.args_list_init_2 _ _, ?_⟩
  show wpAny _ A.in1.in1 (do let old ← Builtin.List.listItems (.ref s.heap.objs.size); Builtin.List.listUpdate (.ref s.heap.objs.size) (fun _ => #[]); letGo old.toList.reverse; Builtin.List.listExtendWith (.ref s.heap.objs.size) (.ref z) .none) _ _ _
  refine wpAny_bind ?_
  unfold Builtin.List.listItems
  refine wpAny_bind (wpAny_seqItems hS rfl (wpAny_pure ?_))
  show wpAny _ A.in1.in1 (updateSeq s.heap.objs.size (fun _ => #[]) >>= fun _ => letGo (#[] : Array Value).toList.reverse >>= fun _ => Builtin.List.listExtendWith (.ref s.heap.objs.size) (.ref z) .none) _ _ _
  refine wpAny_bind (wpAny_updateSeq hS rfl ?_)
  have hS2 := Heap.get?_update_self (Obj.mapSeq (fun _ => (#[] : Array Value))) hS rfl
  refine wpAny_bind (wpAny_letGo ?_)
  have k2 : ∀ b o, s.heap.get? b = some o → ((s.heap.push { cls := .type "list", data := .seq #[] }).update s.heap.objs.size (Obj.mapSeq (fun _ => (#[] : Array Value)))).get? b = some o := fun b o e =>
    (Heap.get?_update_other _ _ (Ne.symm (Nat.ne_of_lt (Heap.lt_size e)))).trans (Heap.get?_push_of_some _ e)
  have hsz : ((s.heap.push { cls := .type "list", data := .seq #[] }).update s.heap.objs.size (Obj.mapSeq (fun _ => (#[] : Array Value)))).objs.size = s.heap.objs.size + 1 := by rw [Heap.size_update, Heap.size_push]
  have u1 := Heap.lt_size hz
  have u2 := Heap.lt_size hTI
  obtain ⟨x0, y0, z0, hTO⟩ := hTO
  have u3 := Heap.lt_size hTO
  refine zip3_extend (A := A.in1) (B := s.heap.objs.size + 1) hh D D1 D2 D3 ⟨Nat.lt_succ_of_lt u1, Nat.lt_succ_of_lt u2, Nat.lt_succ_of_lt u3, Nat.lt_succ_self _, fun b hb => Nat.lt_succ_of_lt (f1 b hb), fun b hb => Nat.lt_succ_of_lt (f2 b hb), fun b hb => Nat.lt_succ_of_lt (f3 b hb)⟩
    ⟨Nat.ne_of_gt u1, Nat.ne_of_gt u2, Nat.ne_of_gt u3, fun hb => Nat.lt_irrefl _ (f1 _ hb), fun hb => Nat.lt_irrefl _ (f2 _ hb), fun hb => Nat.lt_irrefl _ (f3 _ hb)⟩ hM1 hM2 hM3 hM hn .none
    ⟨.inl ⟨k2 _ _ hz, x0, y0, z0, k2 _ _ hTO⟩, k2 _ _ hTI, D1.frame _ _ _ s1 fun b _ o e => k2 b o e, D2.frame _ _ _ s2 fun b _ o e => k2 b o e, D3.frame _ _ _ s3 fun b _ o e => k2 b o e⟩ (k2 _ _ hz) (by rw [hsz]; exact Nat.le_refl _) hS2 fun h' tk ts' c' q1 q2 q3 q4 => ⟨rfl, ?_⟩
  exact hQ h' tk ts' c' (fun d o c1 c2 c3 c4 c5 e => q1 d o (Nat.ne_of_lt (Heap.lt_size e)) c1 c2 c3 c4 c5 (k2 d o e)) q2 q3 q4
end
theorem typeCall_zip_3 (a b c : Value) : checkTypeCall "zip" ⟨[a, b, c], []⟩ = pure () := by kernel_rfl
theorem newCall_zip_3 (a b c : Value) : checkBuiltinCall "zip.__new__" ⟨[.type "zip", a, b, c], []⟩ = pure () := by kernel_rfl
theorem args_object_init_4 (a b c d : Value) : argsOk "object.__init__" ⟨[a, b, c, d], []⟩ := by
  unfold argsOk; rw [signature?_of (id := "object.__init__") (n := ['_', '_', 't', 'i', 'n', 'i', '_', '_']) (o := ['t', 'c', 'e', 'j', 'b', 'o']) (by kernel_rfl) F.owner_object]; kernel_rfl
abbrev z3H1 (h : Heap) (n : Int) : Heap := h.push { cls := .type "range_iterator", data := .fields #[rawInt 0, rawInt (Builtin.Range.rangeSize 0 n 1), rawInt 1] }
abbrev z3H2 (h : Heap) (n : Int) (l1 : Addr) : Heap := (z3H1 h n).push { cls := .type "tuple_iterator", data := .fields #[.ref l1, .int 0 0] }
abbrev z3H3 (h : Heap) (n : Int) (l1 l2 : Addr) : Heap := (z3H2 h n l1).push { cls := .type "tuple_iterator", data := .fields #[.ref l2, .int 0 0] }
abbrev z3H4 (h : Heap) (n : Int) (l1 l2 : Addr) : Heap := (z3H3 h n l1 l2).push { cls := .type "tuple", data := .seq #[.ref h.objs.size, .ref (z3H1 h n).objs.size, .ref (z3H2 h n l1).objs.size] }
abbrev z3H5 (h : Heap) (n : Int) (l1 l2 : Addr) : Heap := (z3H4 h n l1 l2).push { cls := .type "tuple", data := .seq #[.none, .none, .none] }
abbrev z3H6 (h : Heap) (n : Int) (l1 l2 : Addr) : Heap := (z3H5 h n l1 l2).push { cls := .type "zip", data := .fields #[.none, .bool false, .bool false, .ref (z3H3 h n l1 l2).objs.size, .ref (z3H4 h n l1 l2).objs.size] }
theorem meets_zip3_new (r l1 l2 : Addr) (n : Int) (t u v : Tok) (hs : Builtin.Range.small 0 n 1 = true) (xs ys : Array Value) :
    Meets (Builtin.«zip.__new__» ⟨[.type "zip", .ref r, .ref l1, .ref l2], []⟩) (fun _ R s => IsRange s.heap r 0 n 1 t u v ∧ s.heap.IsTuple l1 xs ∧ s.heap.IsTuple l2 ys ∧
      R (.ok (.ret (.ref (z3H5 s.heap n l1 l2).objs.size))) { s with heap := z3H6 s.heap n l1 l2 }) :=
  .of_wp fun prog w A R s h => by
    obtain ⟨hp, g, d, tk, os⟩ := s; obtain ⟨hr, hl1, hl2, h⟩ := h
    have hsub := sub_zip
    have hR : IsRange (Shared.heap ⟨hp, g, d, tk, os⟩) r 0 n 1 t u v := hr
    have hL1 : Heap.IsTuple (Shared.heap ⟨z3H1 hp n, g, d, tk, os⟩) l1 xs := Heap.IsTuple.push hl1 _
    have hL2 : Heap.IsTuple (Shared.heap ⟨z3H2 hp n l1, g, d, tk, os⟩) l2 ys := Heap.IsTuple.push (Heap.IsTuple.push hl2 _) _
    wp_walk using wpAny_pyIter_range hR hs, wpAny_pyIter_tuple hL1, wpAny_pyIter_tuple hL2
    exact ⟨_, rfl, h⟩
end L2
namespace L2
open PySem PySem.Spec PyProof.Rows PySem.W
section
variable {prog : Program} {w : World} {A : Around} {E : Value → Shared → Prop} {s : Shared}
theorem call_zip3 {r l1 l2 : Addr} {n : Int} {t u v : Tok} {xs ys : Array Value} {Q : Value → Shared → Prop} (hr : IsRange s.heap r 0 n 1 t u v) (hs : Builtin.Range.small 0 n 1 = true) (hl1 : s.heap.IsTuple l1 xs) (hl2 : s.heap.IsTuple l2 ys)
    (h : ∀ h', IsZip h' (s.heap.objs.size + 5) (s.heap.objs.size + 3) (s.heap.objs.size + 4) .none → IsTupOf3 h' (s.heap.objs.size + 3) (.ref s.heap.objs.size) (.ref (s.heap.objs.size + 1)) (.ref (s.heap.objs.size + 2)) →
      IsTupOf3 h' (s.heap.objs.size + 4) .none .none .none → IsRangeIter h' s.heap.objs.size 0 (Builtin.Range.rangeSize 0 n 1) 1 → h'.IsTupleIter (s.heap.objs.size + 1) l1 0 → h'.IsTupleIter (s.heap.objs.size + 2) l2 0 → h'.objs.size = s.heap.objs.size + 6 →
      (∀ c o, s.heap.get? c = some o → h'.get? c = some o) → Q (.ref (s.heap.objs.size + 5)) { s with heap := h' }) :
    wpAny (model prog w) A (call (.type "zip") [.ref r, .ref l1, .ref l2]) Q E s := by
  refine callType_new F.called_zip (by decide) (typeCall_zip_3 _ _ _) (newCall_zip_3 _ _ _) (fun obj => args_object_init_4 obj _ _ _) F.entry_zip_new
    (meets_zip3_new r l1 l2 n t u v hs xs ys) ⟨hr, hl1, hl2, ?_⟩
  have z1 : (z3H1 s.heap n).objs.size = s.heap.objs.size + 1 := Heap.size_push ..
  have z2 : (z3H2 s.heap n l1).objs.size = s.heap.objs.size + 2 := by rw [Heap.size_push, z1]
  have z3 : (z3H3 s.heap n l1 l2).objs.size = s.heap.objs.size + 3 := by rw [Heap.size_push, z2]
  have z4 : (z3H4 s.heap n l1 l2).objs.size = s.heap.objs.size + 4 := by rw [Heap.size_push, z3]
  have z5 : (z3H5 s.heap n l1 l2).objs.size = s.heap.objs.size + 5 := by rw [Heap.size_push, z4]
  have z6 : (z3H6 s.heap n l1 l2).objs.size = s.heap.objs.size + 6 := by rw [Heap.size_push, z5]
  have up : ∀ {h : Heap} {c : Addr} {o o' : Obj}, h.get? c = some o → (h.push o').get? c = some o := fun e => Heap.get?_push_of_some _ e
  have g6 : (z3H6 s.heap n l1 l2).get? (z3H5 s.heap n l1 l2).objs.size = some _ := Heap.get?_push_size _ rfl
  have g5 : (z3H6 s.heap n l1 l2).get? (z3H4 s.heap n l1 l2).objs.size = some _ := up (Heap.get?_push_size _ rfl)
  have g4 : (z3H6 s.heap n l1 l2).get? (z3H3 s.heap n l1 l2).objs.size = some _ := up (up (Heap.get?_push_size _ rfl))
  have g3 : (z3H6 s.heap n l1 l2).get? (z3H2 s.heap n l1).objs.size = some _ := up (up (up (Heap.get?_push_size _ rfl)))
  have g2 : (z3H6 s.heap n l1 l2).get? (z3H1 s.heap n).objs.size = some _ := up (up (up (up (Heap.get?_push_size _ rfl))))
  have g1 : (z3H6 s.heap n l1 l2).get? s.heap.objs.size = some _ := up (up (up (up (up (Heap.get?_push_size _ rfl)))))
  show _ ∧ _
  rw [z3, z4, z5] at g6
  rw [z4] at g5
  rw [z1, z2, z3] at g4
  rw [z2] at g3
  rw [z1] at g2
  rw [z5]
  exact ⟨⟨_, g6, rfl⟩, h _ g6 g4 g5 g1 ⟨_, g2, rfl, rfl⟩ ⟨_, g3, rfl, rfl⟩ z6 fun c o x => up (up (up (up (up (up x)))))⟩
theorem sep3_new (m l1 l2 : Nat) (h1 : l1 < m) (h2 : l2 < m) : ZipSep3 (m + 5) (m + 3) (m + 4) m (m + 1) (m + 2) [m] [m + 1, l1] [m + 2, l2] := by
  have ne : ∀ {a b : Nat}, a < b ∨ b < a → ¬ (a = b) := fun h e => by omega
  have n1 : ∀ {a b : Addr}, ¬ (a = b) → a ∉ [b] := fun h z => h (List.mem_singleton.1 z)
  have n2 : ∀ {a b c : Addr}, ¬ (a = b) → ¬ (a = c) → a ∉ [b, c] := fun h h' z => by
    rcases List.mem_cons.1 z with z | z
    · exact h z
    · exact h' (List.mem_singleton.1 z)
  constructor
  · exact ne (by omega)
  · exact ne (by omega)
  · exact ne (by omega)
  · exact ne (by omega)
  · exact List.mem_singleton.2 rfl
  · exact n1 (ne (by omega))
  · exact n1 (ne (by omega))
  · exact ne (by omega)
  · exact List.mem_cons_self
  · exact n2 (ne (by omega)) (ne (by omega))
  · exact n2 (ne (by omega)) (ne (by omega))
  · exact ne (by omega)
  · exact List.mem_cons_self
  · exact n2 (ne (by omega)) (ne (by omega))
  · exact n2 (ne (by omega)) (ne (by omega))
  · exact n2 (ne (by omega)) (ne (by omega))
  · exact n2 (ne (by omega)) (ne (by omega))
  · exact n1 (ne (by omega))
  · exact n2 (ne (by omega)) (ne (by omega))
  · exact n1 (ne (by omega))
  · exact n2 (ne (by omega)) (ne (by omega))
end
inductive LayT : Hp → List (V × V × V) → List Addr → Hp → Prop
  | nil {H : Hp} : LayT H [] [] H
  | cons {H H' : Hp} {x y z : V} {ps : List (V × V × V)} {t : Addr} {ts : List Addr} : H t = none → LayT (upd H t (.tup [x, y, z])) ps ts H' → LayT H ((x, y, z) :: ps) (t :: ts) H'
theorem layT_ex : ∀ (ps : List (V × V × V)) (ts : List Addr) (H : Hp), ts.length = ps.length → ts.Nodup → (∀ t, t ∈ ts → H t = none) → ∃ H', LayT H ps ts H' ∧ (∀ b, b ∉ ts → H' b = H b) ∧ ∀ b o, b ∈ ts → H' b = some o → ∃ (j : Nat) (p : V × V × V), ts[j]? = some b ∧ ps[j]? = some p ∧ o = .tup [p.1, p.2.1, p.2.2]
  | [], [], H, _, _, _ => ⟨H, .nil, fun _ _ => rfl, fun _ _ h => absurd h (by simp)⟩
  | [], _ :: _, _, h, _, _ => absurd h (by simp)
  | _ :: _, [], _, h, _, _ => absurd h (by simp)
  | (x, y, z) :: ps, t :: ts, H, hl, hd, hn => by
    rw [List.nodup_cons] at hd
    obtain ⟨H', h1, h2, h3⟩ := layT_ex ps ts (upd H t (.tup [x, y, z])) (by simpa using hl) hd.2 (fun u hu => by
      have hne : u ≠ t := fun e => hd.1 (by rw [← e]; exact hu)
      rw [upd_ne hne]
      exact hn u (List.mem_cons_of_mem _ hu))
    refine ⟨H', .cons (hn t List.mem_cons_self) h1, fun b hb => ?_, fun b o hb e => ?_⟩
    · rw [h2 b fun z => hb (List.mem_cons_of_mem _ z), upd_ne fun z => hb (by rw [z]; exact List.mem_cons_self)]
    · rcases List.mem_cons.1 hb with rfl | hb
      · rw [h2 _ hd.1, upd_same] at e
        cases e
        exact ⟨0, (x, y, z), rfl, rfl, rfl⟩
      · obtain ⟨j, p, e1, e2, e3⟩ := h3 b o hb e
        exact ⟨j + 1, p, e1, e2, e3⟩
theorem zip3_lay {X : Cx} {pins : List (Addr × Obj)} {σ : L2.St} {H1 : Hp} {sc : Shared} {n : Nat} {xs ys : List V} {us vs : List Value} {B tk : Nat} {h1 : Heap} {ts : List Addr} (I : Inv X pins σ H1 sc) (rv : Vals xs us) (rv2 : Vals ys vs) (hlen : ts.length = min n (min us.length vs.length)) (hB : sc.heap.objs.size < B)
    (kp : ∀ c o, sc.heap.get? c = some o → h1.get? c = some o) (ho : Z3Out (fun i v => ∃ t, v = .int (i : Nat) t) (fun i v => us.toArray[i]? = some v) (fun i v => vs.toArray[i]? = some v) B h1 ts) :
    ∃ H2, LayT H1 (((List.range n).map fun i => V.int (i : Nat)).zip (xs.zip ys)) ts H2 ∧ (∀ b, b ∉ ts → H2 b = H1 b) ∧ (∀ b o, b ∈ ts → H2 b = some o → ObjOk X.prog X.w H2 h1 b o) ∧ Inv X pins σ H2 { sc with heap := h1, toks := tk } := by
  have l1 := rv.length
  have l2 := rv2.length
  obtain ⟨H2, a1, a2, a3⟩ := layT_ex (((List.range n).map fun i => V.int (i : Nat)).zip (xs.zip ys)) ts H1 (by rw [hlen, List.length_zip, List.length_zip, List.length_map, List.length_range, l1, l2]) ho.nd fun t ht => I.hok.fresh (Nat.le_of_lt (Nat.lt_of_lt_of_le hB (ho.ge t ht).1))
  have ok : ∀ b o, b ∈ ts → H2 b = some o → ObjOk X.prog X.w H2 h1 b o := fun b o hb e => by
    obtain ⟨j, p, e1, e2, rfl⟩ := a3 b o hb e
    obtain ⟨x, y, u, ⟨t, rfl⟩, g1, g2, g3⟩ := ho.at' j b e1
    obtain ⟨z0, z12⟩ := List.getElem?_zip_eq_some.1 e2
    obtain ⟨z1, z2⟩ := List.getElem?_zip_eq_some.1 z12
    obtain ⟨u1, hu1, r1⟩ := rv.get z1
    obtain ⟨u2, hu2, r2⟩ := rv2.get z2
    have c1 : y = u1 := by simpa [hu1] using g1.symm
    have c2 : u = u2 := by simpa [hu2] using g2.symm
    subst c1 c2
    have c0 : p.1 = V.int (j : Nat) := by
      rw [List.getElem?_map] at z0
      cases hr : (List.range n)[j]? with
      | none => rw [hr] at z0; simp at z0
      | some i =>
        rw [hr] at z0
        have : i = j := by
          have h := hr
          rw [List.getElem?_range (by have := (List.getElem?_eq_some_iff.1 hr).1; simpa using this)] at h
          exact (Option.some.inj h).symm
        subst this
        exact (Option.some.inj z0).symm
    rw [c0]
    exact ⟨by show 3 ≤ sizeLine; decide, [.int (j : Nat) t, y, u], .cons ⟨t, rfl⟩ (.cons r1 (.cons r2 .nil)), ⟨_, g3, rfl, _, rfl⟩⟩
  refine ⟨H2, a1, a2, ok, I.grow kp (fun b hb => a2 b fun hm => ?_) fun b o hb e => ?_⟩
  · have := (ho.ge b hm).1
    exact absurd (Nat.lt_of_lt_of_le hB this) (Nat.not_lt.2 (Nat.le_of_lt hb))
  · by_cases hm : b ∈ ts
    · exact ok b o hm e
    · rw [a2 b hm, I.hok.fresh hb] at e
      cases e
section
variable {X : Cx} {e1 e2 e3 : Expr} {ta tb tc : TE}
def tLz3 (K : PySem.W.Frag) (ta tb tc : TE) : TE := fun σ H Q => ta σ H fun x H1 => ∃ n : Nat, x = .int n ∧ n ≤ 16777215 ∧ tb σ H1 fun y H2 => tc σ H2 fun u H3 => ∃ a b xs ys, y = .ref a ∧ u = .ref b ∧ SqT K H3 a xs ∧ SqT K H3 b ys ∧
  ∀ ts H4 q, LayT H3 (((List.range n).map fun i => V.int (i : Nat)).zip (xs.zip ys)) ts H4 → H4 q = none → Q (.ref q) (upd H4 q (.lst (ts.map V.ref)))
theorem pe_lz3 {p p2 p3 pos pos2 pos3 : Pos} (hc : X.calm = true) (hg : Gl X "list") (hm : X.mg "list" = none) (hg2 : Gl X "zip") (hm2 : X.mg "zip" = none) (hg3 : Gl X "range") (hm3 : X.mg "range" = none) (h1 : PE X e1 ta) (h2 : PE X e2 tb) (h3 : PE X e3 tc)
    (na : starEach [e1] X.env = (false, eval e1 X.env) :: starEach [] X.env := by rfl)
    (nb : starEach [.Call (.Name "range" p3) [e1] [] pos3, e2, e3] X.env = (false, eval (.Call (.Name "range" p3) [e1] [] pos3) X.env) :: starEach [e2, e3] X.env := by rfl)
    (nb2 : starEach [e2, e3] X.env = (false, eval e2 X.env) :: starEach [e3] X.env := by rfl) (nb3 : starEach [e3] X.env = (false, eval e3 X.env) :: starEach [] X.env := by rfl)
    (hpl : (backTo pos2 (starEach [e2, e3] X.env)).any (·.1) = false := by rfl)
    (nc : starEach [.Call (.Name "zip" p2) [.Call (.Name "range" p3) [e1] [] pos3, e2, e3] [] pos2] X.env = (false, eval (.Call (.Name "zip" p2) [.Call (.Name "range" p3) [e1] [] pos3, e2, e3] [] pos2) X.env) :: starEach [] X.env := by rfl) :
    PE X (.Call (.Name "list" p) [.Call (.Name "zip" p2) [.Call (.Name "range" p3) [e1] [] pos3, e2, e3] [] pos2] [] pos) (tLz3 X.K ta tb tc) := by
  refine ⟨fun pins s σ H Q I h => ?_⟩
  refine Call_ (ld_blt I hg hm boot_list (PyProof.Rows.callWith_type1 (args_cons ?_ nc) nc))
  refine Call_ (ld_blt I hg2 hm2 boot_zip (PyProof.Rows.callWith_type1 (args_cons ?_ nb) nb hpl))
  refine Call_ (ld_blt I hg3 hm3 boot_range (PyProof.Rows.callWith_type1 (one_arg h1 I h (fun v s1 x H1 I1 r q => ?_) na) na))
  obtain ⟨n, rfl, hn, q⟩ := q
  obtain ⟨t, rfl⟩ := r
  refine call_range_1 ?_
  have I2 := I1.kept (h' := s1.heap.push { cls := .type "range", data := .fields #[.int 0 s1.toks, .int n t, .int 1 (s1.toks + 1)] }) (t' := s1.toks + 1 + 1) fun b u e => Heap.get?_push_of_some _ e
  have hr : IsRange (s1.heap.push { cls := .type "range", data := .fields #[.int 0 s1.toks, .int n t, .int 1 (s1.toks + 1)] }) s1.heap.objs.size 0 n 1 _ _ _ := IsRange.new _ _ _ _ _ _ _
  have I3 := I2.pinned (fp := [s1.heap.objs.size]) (fun b hb => by
    rw [List.mem_singleton.1 hb]
    exact I1.fpOk (Nat.le_refl _) (I1.hok.fresh (Nat.le_refl _))) (fun b hb => by
    rw [List.mem_singleton.1 hb]
    exact ⟨_, hr, fun v => by simp⟩)
  have hpin := mem_pinsAt (fp := [s1.heap.objs.size]) List.mem_cons_self hr
  refine args_cons (thn (h2.run _ _ _ _ _ I3 q) fun y s2 ⟨yv, H2, I4, r2, q2⟩ => ?_) nb2
  refine args_cons (thn (h3.run _ _ _ _ _ I4 q2) fun u s3 ⟨uv, H3, I5, r3, q3⟩ => args_nil ?_) nb3
  obtain ⟨a, b, xs, ys, rfl, rfl, hqx, hqy, q⟩ := q3
  obtain rfl : y = .ref a := r2
  obtain rfl : u = .ref b := r3
  have hr3 : IsRange s3.heap s1.heap.objs.size 0 n 1 _ _ _ := (I5.pin _ (List.mem_append_right _ (List.mem_append_right _ hpin))).1
  have I6 := I5.unpinned
  obtain ⟨us, rv, p1, hz1⟩ := I6.tuple hqx
  obtain ⟨vs, rv2, p2', _⟩ := I6.tuple hqy
  refine call_zip3 hr3 (small_one (by decide) (by decide) (by omega) (by omega)) (show s3.heap.IsTuple a us.toArray from p1) (show s3.heap.IsTuple b vs.toArray from p2') fun h' hz hTI hTO d1 d2 d3 hsz hk => args_nil ?_
  have la : @LT.lt Nat _ a s3.heap.objs.size := p1.lt
  have lb : @LT.lt Nat _ b s3.heap.objs.size := p2'.lt
  have pa : s3.heap.IsTuple a us.toArray := p1
  have pb : s3.heap.IsTuple b vs.toArray := p2'
  have hh := I6.ok.hd hc
  have en : Builtin.Range.rangeSize 0 (n : Int) 1 = ((n : Nat) : Int) - ((0 : Nat) : Int) := by
    rw [rangeSize_one]
    split <;> omega
  have ne : ∀ {a b : Nat}, a < b ∨ b < a → ¬ (a = b) := fun h e => by omega
  have hL : sizeLine = 16777216 := by decide
  have u1 : us.toArray.size = us.length := by simp
  have u2 : vs.toArray.size = vs.length := by simp
  have na1 : a ≠ s3.heap.objs.size + 1 := ne (.inl (by omega))
  have nb1 : b ≠ s3.heap.objs.size + 2 := ne (.inl (by omega))
  have m1 : min n (min us.length vs.length) ≤ n := by omega
  have m2 : min n (min us.length vs.length) ≤ us.toArray.size := by omega
  have m3 : min n (min us.length vs.length) ≤ vs.toArray.size := by omega
  have m4 : min n (min us.length vs.length) = n ∨ min n (min us.length vs.length) = us.toArray.size ∨ min n (min us.length vs.length) = vs.toArray.size := by omega
  rw [en] at d1
  have D1 := draws_range (prog := X.prog) (w := X.w) (A := X.A.in1.in1.in1) hh s3.heap.objs.size n
  have D2 := Draws.tuple (prog := X.prog) (w := X.w) (A := X.A.in1.in1.in1) hh (s3.heap.objs.size + 1) a na1 us.toArray
  have D3 := Draws.tuple (prog := X.prog) (w := X.w) (A := X.A.in1.in1.in1) hh (s3.heap.objs.size + 2) b nb1 vs.toArray
  refine call_list_zip3 (s := { s3 with heap := h' }) hh (sep3_new s3.heap.objs.size a b la lb) D1 D2 D3 m1 m2 m3 m4 (by omega) hz hTI ⟨_, _, _, hTO⟩ d1 ⟨d2, pa.at fun o e => hk _ o e⟩ ⟨d3, pb.at fun o e => hk _ o e⟩ (fun c hb => ?_) (fun c hb => ?_) (fun c hb => ?_) fun h'' tk ts c' q1 q2 q3 q4 => ?_
  · rw [List.mem_singleton.1 hb]
    show s3.heap.objs.size < h'.objs.size
    omega
  · show c < h'.objs.size
    rcases List.mem_cons.1 hb with e | e
    · rw [e]; omega
    · rw [List.mem_singleton.1 e]; omega
  · show c < h'.objs.size
    rcases List.mem_cons.1 hb with e | e
    · rw [e]; omega
    · rw [List.mem_singleton.1 e]; omega
  have kp : ∀ c o, s3.heap.get? c = some o → h''.get? c = some o := fun c o e => by
    have hlt : @LT.lt Nat _ c s3.heap.objs.size := Heap.lt_size e
    exact q1 c o (ne (.inl (by omega))) (ne (.inl (by omega))) (ne (.inl (by omega))) (ne (.inl (by omega))) (ne (.inl (by omega))) (hk c o e)
  obtain ⟨H4, a1, a2, ok, I7⟩ := zip3_lay (tk := tk) I6 rv rv2 q3 (show s3.heap.objs.size < h'.objs.size + 1 by omega) kp q4
  have hnt : h'.objs.size ∉ ts := fun hm => absurd (q4.ge _ hm).1 (Nat.not_le.2 (Nat.lt_succ_self _))
  have hfr : H4 h'.objs.size = none := by rw [a2 _ hnt]; exact I6.hok.fresh (by omega)
  refine ⟨.ref h'.objs.size, upd H4 h'.objs.size (.lst (ts.map V.ref)), I6.grow (t' := tk) kp (fun (d : Nat) hd => ?_) (fun d o hd e => ?_), rfl, q ts H4 _ a1 hfr⟩
  · rw [upd_ne (ne (.inl (by omega)))]
    exact a2 d fun hm => absurd (q4.ge d hm).1 (Nat.not_le.2 (show d < h'.objs.size + 1 by omega))
  · by_cases hq : d = h'.objs.size
    · subst hq
      rw [upd_same] at e
      cases e
      refine ⟨?_, ts.map Value.ref, c', vals_refs ts, q2⟩
      rw [List.length_map, q3]
      omega
    · rw [upd_ne hq] at e
      have o2 : ObjOk X.prog X.w H4 h'' d o := I7.hok d o e
      exact o2.stay (fun c v _ z => z) (fun c z => by rw [upd_ne (ne_of_none z hfr)]; exact z) fun c xs z => by rw [upd_ne (ne_of_none z hfr)]; exact z
end
end L2
namespace G
open PySem L2 PySem.Spec PyProof.Rows
def z3D (ns xs ys : List D) : List D := List.zipWith (fun a p => .tup [a, p.1, p.2]) ns (xs.zip ys)
def rgN (n : Nat) : List D := (List.range n).map fun i : Nat => .int i
def natO : D → Option Nat
  | .int i => if 0 ≤ i ∧ i ≤ 16777215 then some i.toNat else none
  | _ => none
def z3S (n : Nat) : D → D → M D
  | .tup xs, .tup ys => ret (.fl (z3D (rgN n) xs ys))
  | _, _ => bad
def z3M (a b c : M D) : M D := bnd a fun x => bnd (ask fun _ => natO x) fun n => bnd b fun y => bnd c fun u => z3S n y u
section
variable {X : Cx} {C : Cc} {ρ : List Sl}
theorem lay3_rep {K : PySem.W.Frag} {cls : Cl} {g : Gh} {m : Hs} : ∀ {vs xs ys : List V} {ns ds es : List D} {ts : List Addr} {H H2 : Hp}, RepL K g H vs ns → RepL K g H xs ds → RepL K g H ys es → LayT H (vs.zip (xs.zip ys)) ts H2 → Rel ⟨K, cls⟩ g m H → RepL K g H2 (ts.map V.ref) (z3D ns ds es) ∧ TK H H2 ∧ Rel ⟨K, cls⟩ g m H2
  | [], _, _, _, _, _, _, _, _, .nil, _, _, .nil, rel => ⟨by simp [z3D]; exact .nil, TK.refl _, rel⟩
  | _ :: _, [], _, _, _, _, _, _, _, .cons _ _, .nil, _, .nil, rel => ⟨by simp [z3D]; exact .nil, TK.refl _, rel⟩
  | _ :: _, _ :: _, [], _, _, _, _, _, _, .cons _ _, .cons _ _, .nil, .nil, rel => ⟨by simp [z3D]; exact .nil, TK.refl _, rel⟩
  | w :: vs, v :: xs, u :: ys, _, _, _, _, _, _, .cons c r0, .cons a r1, .cons b r2, .cons hn h, rel => by
    have t1 := TK.new (o := HO.tup [w, v, u]) hn
    obtain ⟨i1, i2, i3⟩ := lay3_rep (r0.mono (Lv0.refl g) t1) (r1.mono (Lv0.refl g) t1) (r2.mono (Lv0.refl g) t1) h (rel.laid hn)
    refine ⟨?_, t1.trans i2, i3⟩
    exact .cons (.tup (i2.seqT (SqT.of upd_same)) (RepL.mono (Lv0.refl g) (t1.trans i2) (.cons c (.cons a (.cons b .nil))))) i1
theorem rep_rgN {K : PySem.W.Frag} {g : Gh} {H : Hp} : ∀ l : List Nat, RepL K g H (l.map fun i => V.int (i : Nat)) (l.map fun i => D.int (i : Nat))
  | [] => .nil
  | i :: l => .cons (.int i) (rep_rgN l)
theorem c_lz3 {e1 e2 e3 : Expr} {a b c : M D} {p p2 p3 pos pos2 pos3 : Pos} (hc : X.calm = true) (hg : Gl X "list") (hm : X.mg "list" = none) (hg2 : Gl X "zip") (hm2 : X.mg "zip" = none) (hg3 : Gl X "range") (hm3 : X.mg "range" = none) (h1 : PEc X C ρ e1 a) (h2 : PEc X C ρ e2 b) (h3 : PEc X C ρ e3 c)
    (na : starEach [e1] X.env = (false, eval e1 X.env) :: starEach [] X.env := by rfl)
    (nb : starEach [.Call (.Name "range" p3) [e1] [] pos3, e2, e3] X.env = (false, eval (.Call (.Name "range" p3) [e1] [] pos3) X.env) :: starEach [e2, e3] X.env := by rfl)
    (nb2 : starEach [e2, e3] X.env = (false, eval e2 X.env) :: starEach [e3] X.env := by rfl) (nb3 : starEach [e3] X.env = (false, eval e3 X.env) :: starEach [] X.env := by rfl)
    (hpl : (backTo pos2 (starEach [e2, e3] X.env)).any (·.1) = false := by rfl)
    (nc : starEach [.Call (.Name "zip" p2) [.Call (.Name "range" p3) [e1] [] pos3, e2, e3] [] pos2] X.env = (false, eval (.Call (.Name "zip" p2) [.Call (.Name "range" p3) [e1] [] pos3, e2, e3] [] pos2) X.env) :: starEach [] X.env := by rfl) :
    PEc X C ρ (.Call (.Name "list" p) [.Call (.Name "zip" p2) [.Call (.Name "range" p3) [e1] [] pos3, e2, e3] [] pos2] [] pos) (z3M a b c) :=
  pe_imp (pe_lz3 hc hg hm hg2 hm2 hg3 hm3 h1 h2 h3 na nb nb2 nb3 hpl nc) fun σ H Q q => by
    refine tG.bind q fun g1 H1 m1 v1 x1 at1 hv1 q1 => ?_
    obtain ⟨n, hn, q5⟩ := Post.ask q1
    have hx : x1 = .int n ∧ n ≤ 16777215 := by
      cases x1 with
      | int i =>
        simp only [natO] at hn
        split at hn
        · rename_i hi
          cases hn
          exact ⟨by rw [show ((i.toNat : Nat) : Int) = i by omega], by omega⟩
        · cases hn
      | _ => cases hn
    obtain ⟨rfl, hn2⟩ := hx
    have ev := rep_int hv1
    refine ⟨n, ev, hn2, g1, m1, at1, Post.bind q5 fun g2 H2 m2 v2 x2 p2 t2 rel2 hv2 q2 => ?_⟩
    have at2 := at1.mono p2 t2 rel2
    refine ⟨g2, m2, at2, Post.bind q2 fun g3 H3 m3 v3 x3 p3 t3 rel3 hv3 q3 => ?_⟩
    have hv2 := hv2.mono p3.v t3
    cases x2 with
    | tup ds =>
      cases x3 with
      | tup es =>
        obtain ⟨pa, xs, rfl, s1, r1⟩ := rep_tup hv2
        obtain ⟨pb, ys, rfl, s2, r2⟩ := rep_tup hv3
        refine ⟨pa, pb, xs, ys, rfl, rfl, s1, s2, fun ts H4 q hl hq => ?_⟩
        obtain ⟨i1, i2, i3⟩ := lay3_rep (rep_rgN _) r1 r2 hl rel3
        exact (Post.mono (Le.refl g3) i2 q3).newL i3 i1 hq
      | _ => exact q3.elim
    | _ => exact q3.elim
end
end G
namespace L2
open PySem PySem.Spec PyProof.Rows
open Builtin Builtin.Str Builtin.Int Builtin.Float
def rjT (W : Nat) (x : Str) : Str := ⟨(List.replicate (W - x.length) 32).toArray⟩ ++ x
abbrev rjF (W : Nat) : FormatSpec := { fill := 32, align := 62, width := some W }
theorem dig_lt {a : Int} (h : a.natAbs.log2 < 1920) : a.natAbs < 10 ^ 4300 := by
  rcases Nat.eq_zero_or_pos a.natAbs with e | e
  · rw [e]
    exact Nat.pow_pos (by decide)
  · have := (Nat.log2_lt (by omega)).1 h
    exact Nat.lt_of_lt_of_le this (by decide +kernel)
theorem field_rj (W : Nat) (digits : List Nat) (hd : digits.isEmpty = false) : intField' (rjF W) false [] digits [] 3 = ⟨(List.replicate (W - digits.length) 32 ++ digits).toArray⟩ := by
  unfold intField'
  simp only [hd, Bool.false_eq_true, if_false, show ((32 : Nat) == 48) = false by decide, show ((62 : Nat) == 60) = false by decide, show ((62 : Nat) == 94) = false by decide, show ((62 : Nat) == 61) = false by decide, Bool.false_and, Int.toNat_zero, Nat.zero_sub, List.replicate_zero, List.nil_append, List.append_nil, List.length_nil]
  refine Str.ext' ?_
  show ((List.replicate _ 32 ++ digits).toArray : Array Nat) = (List.replicate _ 32 ++ digits).toArray
  congr 3
  omega
theorem specText_rj {a : Int} {W : Nat} (h0 : 0 ≤ a) : intSpecText (rjF W) a = rjT W (Str.ofString (toString a)) := by
  obtain ⟨m, rfl⟩ := Int.eq_ofNat_of_zero_le h0
  have hd : ((Nat.toDigits 10 (m : Int).natAbs).map fun c => (if (100 : Nat) == 88 then c.toUpper else c).toNat).isEmpty = false := by
    have := tDigits_len_ge 10 (m : Int).natAbs
    cases h : Nat.toDigits 10 (m : Int).natAbs with
    | nil => rw [h] at this; simp at this
    | cons _ _ => rfl
  unfold intSpecText
  have hneg : decide ((m : Int) < 0) = false := decide_eq_false (by omega)
  rw [hneg, field_rj W _ hd]
  have ht := text_ofNat m
  have ht2 : Str.ofString (toString ((m : Nat) : Int)) = ⟨((Nat.toDigits 10 m).map Char.toNat).toArray⟩ := ht
  unfold rjT
  rw [ht2]
  refine Str.ext' ?_
  rw [Str.cps_append]
  simp [Str.length]
section
variable {prog : Program} {w : World} {A : Around} {E : Value → Shared → Prop} {s : Shared}
theorem field_int_small {a : Int} {t : Tok} {spec : Str} {f : FormatSpec} {Q : Value → Shared → Prop} (ha : a.natAbs.log2 < 1920)
    (hp : parseFormatSpec spec.cps.toList "int" 62 = .ok f)
    (hne : (spec.length == 0) = false)
    (hasc : ((spec.cps.toList.drop 1).any (· ≥ 128) || (spec.cps.getD 0 0 ≥ 128 && !([60, 62, 61, 94] : List Nat).contains (spec.cps.getD 1 0))) = false)
    (hg : intSpecGood spec f = true)
    (h : Q (.str (intSpecText f a) (s.toks + 1)) { s with toks := s.toks + 1 + 1 }) (hsz : spec.length ≤ sizeLine := by size_fits) :
    wpAny (model prog w) A (formatField (.int a t) spec) Q E s := by
  unfold intSpecGood at hg
  simp only [Bool.and_eq_true] at hg
  obtain ⟨⟨⟨⟨⟨⟨hty, hpr⟩, hz⟩, hal⟩, hw⟩, hgr⟩, hsg⟩ := hg
  replace hty := beq_iff_eq.mp hty
  replace hpr := Option.isNone_iff_eq_none.mp hpr
  replace hz : f.noNeg0 = false := by simpa using hz
  replace hal : f.alt = false := by simpa using hal
  replace hw : f.width.getD 0 ≤ 100000 := by simpa using hw
  replace hgr := Option.isNone_iff_eq_none.mp hgr
  replace hsg := Option.isNone_iff_eq_none.mp hsg
  have hlt := dig_lt ha
  have hdig : (Nat.toDigits 10 a.natAbs).length ≤ 4300 := by
    have e := (Nat.length_repr_le_iff (n := a.natAbs) (by decide : 0 < 4300)).mpr hlt
    rwa [← String.length_toList, Nat.toList_repr] at e
  have hlen : (intSpecText f a).length ≤ sizeLine := by
    rw [intSpecText_length a hgr hsg, sizeLine_eq]
    clear hlt h
    split <;> omega
  show wpAny _ _ (holding [.int a t] (pyFormat (.int a t) spec)) Q E s
  refine wpAny_holding ?_
  unfold pyFormat
  refine wpAny_bind (wpAny_mkStr ?_ hsz)
  refine wpAny_bind (m := callSpecial? (.int a t) (Str.ofString "__format__") [.str spec s.toks]) (wpAny_callSpecial?_slot (name := Str.ofString "__format__") (typeIs_int _ a t) F.slot_int_format ?_)
  refine wpAny_call (codeAny_call_builtin F.slot_int_format.plain F.entry_int_format (F.slot_int_format.check _ _ _ _ _ _ _ _ (typeIs_int _ a t) (F.args_int_format_2 _ _) ?_))
  unfold Builtin.«int.__format__»
  simp only [selfAndOne, noKeywords, Int.intOfSelf, asInt?, asStr?, List.isEmpty_nil, if_true, pure_bind, bind_pure, bind_assoc, hne, hasc, Bool.false_eq_true, if_false,
    show (Value.str spec s.toks == Value.none) = false from rfl]
  refine wpAny_bind (wpAny_typeNameOf (T := "str") (typeIs_str _ _ _) (by decide) fun _ => ?_)
  first | refine wpAny_bind (wpAny_typeNameOfCut_int ?_) | refine wpAny_bind (wpAny_typeNameOf_int ?_)
  simp only [hp, hty]
  rw [if_pos (by decide)]
  show wpAny _ _ (if _ then _ else _) _ _ _
  rw [if_neg (by simp [hpr])]
  show wpAny _ _ (if _ then _ else _) _ _ _
  rw [if_neg (by simp [hz])]
  show wpAny _ _ (if _ then _ else _) _ _ _
  rw [if_neg (by decide)]
  show wpAny _ _ (do let r ← Builtin.overDigitLimit? a; _) _ _ _
  refine wpAny_bind (wpAny_of_eq (PySem.overDigitLimit_small ha) ?_)
  show wpAny _ _ (if _ then _ else _) _ _ _
  have hw' : ¬ (f.width.getD 0 > 100000) := by omega
  rw [if_neg (by simpa using hw')]
  show wpAny _ _ (retStr _) _ _ _
  unfold retStr
  refine wpAny_bind (wpAny_mkStr (wpAny_pure ?_) ?hs2)
  case hs2 =>
    simp only [hal, Bool.false_eq_true, if_false, show ((10 : Nat) == 10) = true by decide, if_true]
    conv => lhs; arg 1; whnf
    simp only [intSpecText, intField', hgr, hsg, hal, Bool.false_eq_true, if_false, show ((10 : Nat) == 10) = true by decide, if_true] at hlen ⊢
    exact hlen
  dsimp only
  refine wpAny_bind (wpAny_isInstance (typeIs_str _ _ _) isSubtype_str_str (wpAny_pure ?_))
  simp only [hal, Bool.false_eq_true, if_false, show ((10 : Nat) == 10) = true by decide, if_true]
  conv => arg 1; arg 1; whnf
  simp only [intSpecText, intField', hgr, hsg, hal, Bool.false_eq_true, if_false, show ((10 : Nat) == 10) = true by decide, if_true] at h ⊢
  exact h
end
theorem ok_bind {α β : Type} {a : α} {f : α → Except String β} : (Except.ok a >>= f) = f a := rfl
theorem ok_pure {α : Type} {a : α} : (pure a : Except String α) = Except.ok a := rfl
theorem rj_long {W : Nat} {x : Str} (h : W ≤ x.length) : rjT W x = x := by
  unfold rjT
  rw [Nat.sub_eq_zero_of_le h]
  exact Str.empty_append _
theorem rj_len {W : Nat} {x : Str} : (rjT W x).length = (W - x.length) + x.length := by
  unfold rjT
  rw [Str.length, Str.cps_append]
  simp [Str.length]
theorem strField_rj {x : Str} {W : Nat} {name : String} : strField x (rjF W) name = .ok (if W ≤ x.length then none else some (padded (strSub x 0 x.length) (W - (strSub x 0 x.length).length) 0 32)) := by
  have e : strField x (rjF W) name = (if ((some W).all (· ≤ x.length) && (none : Option Nat).all (· ≥ x.length)) = true then pure none else pure (some (padded (strSub x 0 x.length) (W - (strSub x 0 x.length).length) ((W - (strSub x 0 x.length).length) - (W - (strSub x 0 x.length).length)) 32))) := rfl
  rw [e]
  by_cases h : W ≤ x.length
  · rw [if_pos h, if_pos (by simp [h])]
    rfl
  · rw [if_neg h, if_neg (by simp [h]), Nat.sub_self]
    rfl
section
variable {prog : Program} {w : World} {A : Around} {E : Value → Shared → Prop} {s : Shared}
theorem field_str_rj {x spec : Str} {t : Tok} {W : Nat} {Q : Value → Shared → Prop} (hx : x.length ≤ 1000) (hW : W ≤ 1000)
    (hp : parseFormatSpec spec.cps.toList "str" 60 = .ok (rjF W)) (hne : (spec.length == 0) = false)
    (hasc : ((spec.cps.toList.drop 1).any (· ≥ 128) || (spec.cps.getD 0 0 ≥ 128 && !([60, 62, 61, 94] : List Nat).contains (spec.cps.getD 1 0))) = false)
    (hb : (spec.cps.back? == some 0) = false) (hsz : spec.length ≤ sizeLine)
    (h : ∀ t' k, Q (.str (rjT W x) t') { s with toks := k }) : wpAny (model prog w) A (formatField (.str x t) spec) Q E s := by
  refine PySem.W.KXf.field_str (spec' := spec) (x' := x) rfl rfl hne hsz (fun u => ?_) h
  apply PySem.W.KPc.meets_of
  intro prog w A s Q E hs
  unfold Builtin.«str.__format__»
  refine wpAny_bind (wpAny_of_eq (a := (_, _, _)) rfl ?_)
  refine wpAny_bind (wpAny_of_eq (a := some _) rfl ?_)
  show wpAny _ _ (if _ then _ else _) _ _ _
  refine wpAny_ite (PySem.W.KPc.ite_no (by rw [hne]; decide) ?_)
  refine wpAny_ite (PySem.W.KPc.ite_no (by rw [hasc]; decide) ?_)
  refine wpAny_bind (PySem.W.KXf.cut_str ?_)
  have hl : tooLong ((some W).getD 0) = false := by
    have : sizeLine = 16777216 := by decide
    simp [tooLong]
    omega
  simp only [hp, ok_bind, hb, Bool.and_false, Bool.false_eq_true, if_false, hl, strField_rj, ok_pure]
  rw [strSub_whole]
  by_cases hc : W ≤ x.length
  · rw [if_pos hc]
    refine wpAny_bind (wpAny_rule ?_)
    refine wpAny_pure ?_
    have := hs t s.toks
    rw [rj_long hc] at this
    exact this
  · rw [if_neg hc]
    have e : padded x (W - x.length) 0 32 = rjT W x := by
      unfold padded rjT
      refine Str.ext' ?_
      rw [Str.cps_append]
      simp
    show wpAny _ _ (retStr _) _ _ _
    rw [e]
    unfold retStr
    refine wpAny_bind (wpAny_mkStr (wpAny_pure (hs _ _)) ?_)
    rw [rj_len]
    have : sizeLine = 16777216 := by decide
    omega
end
section
variable {X : Cx}
structure SpOk (sp : Str) (W : Nat) : Prop where
  pi : parseFormatSpec sp.cps.toList "int" 62 = .ok (rjF W)
  ps : parseFormatSpec sp.cps.toList "str" 60 = .ok (rjF W)
  ne : (sp.length == 0) = false
  asc : ((sp.cps.toList.drop 1).any (· ≥ 128) || (sp.cps.getD 0 0 ≥ 128 && !([60, 62, 61, 94] : List Nat).contains (sp.cps.getD 1 0))) = false
  good : intSpecGood sp (rjF W) = true
  back : (sp.cps.back? == some 0) = false
  sz : sp.length ≤ sizeLine
  W : W ≤ 1000
theorem spOk20 : SpOk (Str.ofString ">20") 20 := ⟨rfl, rfl, by decide, by decide, by decide, by decide, by decide, by decide⟩
theorem spOk2 : SpOk (Str.ofString ">2") 2 := ⟨rfl, rfl, by decide, by decide, by decide, by decide, by decide, by decide⟩
def tFmtW (W : Nat) (te : TE) : TE := fun σ H Q => te σ H fun x H1 => (∃ y : Str, x = .str y ∧ y.length ≤ 1000 ∧ Q (.str (rjT W y)) H1) ∨ ∃ i : Int, x = .int i ∧ (0 ≤ i ∧ i.natAbs.log2 < 1920) ∧ Q (.str (rjT W (Str.ofString (toString i)))) H1
theorem pe_fmtW {e : Expr} {te : TE} {sp : Str} {W k : Nat} {pos p1 p2 : Pos} (hs : SpOk sp W) (he : PE X e te) : PE X (.FormattedValue e (-1) (some (.JoinedStr [.Constant (.str sp) k p1] p2)) pos) (tFmtW W te) := by
  refine ⟨fun pins s σ H Q I h => ?_⟩
  refine wpAny_FormattedValue_spec (thn (he.run pins s σ H _ I h) fun v s1 hv => ?_)
  obtain ⟨x, H1, I1, r1, q⟩ := hv
  refine wpAny_JoinedStr_one (thn (pe_str.run pins s1 σ H1 (fun x H2 => x = .str sp ∧ H2 = H1) I1 ⟨rfl, rfl⟩) fun v2 s2 h2 => ?_)
  obtain ⟨x2, H2, I2, r2, rfl, rfl⟩ := h2
  obtain ⟨t2, rfl⟩ := r2
  refine ⟨sp, t2, rfl, ?_⟩
  rcases q with ⟨y, rfl, hz, q⟩ | ⟨i, rfl, ⟨h0, hz⟩, q⟩
  · obtain ⟨t, rfl⟩ := r1
    exact field_str_rj hz hs.W hs.ps hs.ne hs.asc hs.back hs.sz fun t' k => ⟨.str (rjT W y), H2, I2.tok _, ⟨_, rfl⟩, q⟩
  · obtain ⟨t, rfl⟩ := r1
    refine field_int_small hz hs.pi hs.ne hs.asc hs.good ?_ hs.sz
    rw [specText_rj h0]
    exact ⟨.str (rjT W (Str.ofString (toString i))), H2, I2.tok _, ⟨_, rfl⟩, q⟩
end
end L2
namespace G
open PySem L2 PySem.Spec PyProof.Rows
def fmtWS (W : Nat) : D → M D
  | .str y => if y.length ≤ 1000 then ret (.str (rjT W y)) else bad
  | .int i => if 0 ≤ i ∧ i.natAbs.log2 < 1920 then ret (.str (rjT W (Str.ofString (toString i)))) else bad
  | _ => bad
def fmtWM (W : Nat) (a : M D) : M D := bnd a (fmtWS W)
section
variable {X : Cx} {C : Cc} {ρ : List Sl}
theorem c_fmtW {e : Expr} {a : M D} {sp : Str} {W k : Nat} {pos p1 p2 : Pos} (hs : SpOk sp W) (ha : PEc X C ρ e a) : PEc X C ρ (.FormattedValue e (-1) (some (.JoinedStr [.Constant (.str sp) k p1] p2)) pos) (fmtWM W a) :=
  pe_imp (pe_fmtW hs ha) fun σ H Q q => by
    refine tG.bind q fun g1 H1 m1 v1 x1 at1 hv1 q1 => ?_
    cases hv1 with
    | str s =>
      obtain ⟨hc, q1⟩ := Post.ite q1
      exact .inl ⟨s, rfl, hc, q1.ret at1.rel (.str _)⟩
    | int i =>
      obtain ⟨hc, q1⟩ := Post.ite q1
      exact .inr ⟨i, rfl, hc, q1.ret at1.rel (.str _)⟩
    | _ => exact q1.elim
end
end G
set_option maxHeartbeats 4000000
namespace G.K58
open PySem G
def bd_report (policy : D) : M (Fl Unit Empty) := bnd (ret policy) fun x => un3 x fun capacities limits fixed => bnd (z3M (calM lenS (lsM [ret capacities])) (ret capacities) (tupM (consM (ret (.str "-")) (starM (ret limits) (lsM []))))) fun rows => rtn (joinM (ret (.str "\n")) (lcM (seqI (ret rows)) fun x_1 => un3 x_1 fun level capacity limit => elM (fsM [fmtWM 2 (ret level), fmtWM 20 (ret capacity), fmtWM 20 (ret limit)] Str.empty)))
def t_report (policy : D) : M D := fnM (bd_report policy)
def bd_law_well (script k : D) : M (Fl Unit Empty) := bnd (iteM (cmpM .lt (ret k) (calM lenS (lsM [ret script]))) (idxM (ret script) (ret k)) (binM .add (binM .mul (ret (.int 13)) (ret k)) (ret (.int 4)))) fun cell => bnd (binM .mul (binM .mod (calM absS (lsM [ret cell])) (binM .pow (binM .pow (ret (.int 10)) (ret (.int 60))) (ret (.int 5)))) (calM intS (lsM [cmpM .ge (calM absS (lsM [ret cell])) (binM .pow (ret (.int 10)) (ret (.int 18)))]))) fun own => rtn (lshM (lsM [ret own, binM .mod (binM .add (binM .add (binM .mul (binM .mod (ret cell) (ret (.int 2305843009213693951))) (ret (.int 69621))) (binM .mul (binM .mul (ret (.int 104729)) (ret k)) (ret k))) (ret (.int 31))) (ret (.int 2305843009213693921)), ret (.int 0)]))
def t_law_well (script k : D) : M D := fnM (bd_law_well script k)
def bd_law_draw (well_here many : D) : M (Fl Unit Empty) := seq (iff (cmpM .gt (idxM (ret well_here) (ret (.int 0))) (ret (.int 0))) (bnd (binM .mod (idxM (ret well_here) (ret (.int 0))) (ret many)) fun digit => bnd (binM .fdiv (idxM (ret well_here) (ret (.int 0))) (ret many)) fun x => bnd (subT (ret well_here) (ret (.int 0)) x) fun _ => rtn (ret digit)) (nxt ())) fun (s : Unit) => bnd (binM .add (idxM (ret well_here) (ret (.int 2))) (ret (.int 1))) fun x_1 => bnd (subT (ret well_here) (ret (.int 2)) x_1) fun _ => bnd (idxM (lstM (lsM [ret (.int 2147483647), ret (.int 2147483629), ret (.int 2147483587), ret (.int 2147483579), ret (.int 2147483563)])) (binM .mod (idxM (ret well_here) (ret (.int 2))) (ret (.int 5)))) fun prime => bnd (binM .mod (binM .pow (binM .add (binM .add (idxM (ret well_here) (ret (.int 1))) (binM .mul (binM .mul (ret (.int 65537)) (idxM (ret well_here) (ret (.int 2)))) (idxM (ret well_here) (ret (.int 2))))) (ret (.int 37))) (ret (.int 3))) (ret prime)) fun mixed => rtn (binM .mod (binM .fdiv (binM .mod (binM .mul (ret mixed) (binM .add (binM .mod (ret mixed) (ret (.int 10007))) (binM .mul (ret (.int 97)) (idxM (ret well_here) (ret (.int 2)))))) (ret (.int 2305843009213693907))) (ret (.int 97))) (ret many))
def t_law_draw (well_here many : D) : M D := fnM (bd_law_draw well_here many)
def bd_law_pick (well_here v_some : D) : M (Fl Unit Empty) := rtn (idxM (ret v_some) (calM (fs2 t_law_draw) (lsM [ret well_here, calM lenS (lsM [ret v_some])])))
def t_law_pick (well_here v_some : D) : M D := fnM (bd_law_pick well_here v_some)
def bd_law_plan (well_here levels wide : D) : M (Fl Unit Empty) := bnd (ownM (lsM [binM .add (ret (.int 1)) (calM (fs2 t_law_draw) (lsM [ret well_here, ret wide]))])) fun caps => bnd (ownM (lsM [])) fun floors => bnd (negM (ret (.int 1))) fun low => seq (forM (rng1I (calM (fs2 t_law_draw) (lsM [ret well_here, ret levels]))) ((caps, floors, low) : List D × List D × D) fun turn s => bnd (idxL s.1 (negM (ret (.int 1)))) fun high => bnd (calM (fs2 t_law_pick) (lsM [ret well_here, lstM (lsM [binM .add (ret s.2.2) (ret (.int 1)), ret high, binM .add (binM .add (ret s.2.2) (ret (.int 1))) (calM (fs2 t_law_draw) (lsM [ret well_here, binM .sub (ret high) (ret s.2.2)])), binM .add (binM .add (ret s.2.2) (ret (.int 1))) (binM .fdiv (binM .sub (binM .sub (ret high) (ret s.2.2)) (ret (.int 1))) (ret (.int 3)))])])) fun low_1 => appO s.2.1 (ret low_1) fun floors_1 => appO s.1 (binM .add (binM .add (ret high) (ret (.int 1))) (calM (fs2 t_law_draw) (lsM [ret well_here, ret wide]))) fun caps_1 => nxt (caps_1, floors_1, low_1)) fun s_1 => rtn (tupM (lsM [calM tupleS (lsM [ret (.fl s_1.1)]), calM tupleS (lsM [ret (.fl s_1.2.1)]), calM (fs2 t_law_pick) (lsM [ret well_here, lstM (lsM [ret (.int 0), ret (.int 0), ret (.int 1), calM (fs2 t_law_draw) (lsM [ret well_here, ret (.int 9)]), binM .pow (ret (.int 10)) (ret (.int 12))])])]))
def t_law_plan (well_here levels wide : D) : M D := fnM (bd_law_plan well_here levels wide)
def bd_law_aligned (word wide : D) : M (Fl Unit Empty) := rtn (binM .add (rptM (ret (.str " ")) (binM .sub (ret wide) (calM lenS (lsM [ret word])))) (ret word))
def t_law_aligned (word wide : D) : M D := fnM (bd_law_aligned word wide)
def bd_law_due (plan_here : D) : M (Fl Unit Empty) := bnd (ownM (lsM [])) fun rows => seq (forM (enumI (idxM (ret plan_here) (ret (.int 0)))) (rows : List D) fun x s => un2 x fun v_at cap => bnd (iteM (cmpM .gt (ret v_at) (ret (.int 0))) (calM strS (lsM [idxM (idxM (ret plan_here) (ret (.int 1))) (binM .sub (ret v_at) (ret (.int 1)))])) (ret (.str "-"))) fun low => appO s (binM .add (binM .add (calM (fs2 t_law_aligned) (lsM [calM strS (lsM [ret v_at]), ret (.int 2)])) (calM (fs2 t_law_aligned) (lsM [calM strS (lsM [ret cap]), ret (.int 20)]))) (calM (fs2 t_law_aligned) (lsM [ret low, ret (.int 20)]))) fun rows_1 => nxt rows_1) fun s_1 => rtn (joinM (ret (.str "\n")) (ret (.fl s_1)))
def t_law_due (plan_here : D) : M D := fnM (bd_law_due plan_here)
def bd_law (script : D) : M (Fl Unit Empty) := seq (forM (rng1I (calM max2S (lsM [ret (.int 1), calM min2S (lsM [ret (.int 3), calM lenS (lsM [ret script])])]))) (() : Unit) fun k s => bnd (calM (fs2 t_law_well) (lsM [ret script, ret k])) fun well_here => seq (forM (rng1I (ret (.int 8))) (() : Unit) fun turn s_1 => bnd (calM (fs3 t_law_plan) (lsM [ret well_here, calM (fs2 t_law_pick) (lsM [ret well_here, lstM (lsM [ret (.int 1), ret (.int 6), ret (.int 39)])]), calM (fs2 t_law_pick) (lsM [ret well_here, lstM (lsM [ret (.int 1), ret (.int 9), binM .pow (ret (.int 10)) (ret (.int 16))])])])) fun plan_here => iff (cmpM .ne (calM reprS (lsM [lstM (lsM [calM (fs1 t_report) (lsM [ret plan_here]), calK (fs1 t_report) 0 1 [0] (lsM []) (lsM [ret plan_here])])])) (calM reprS (lsM [lstM (lsM [calM (fs1 t_law_due) (lsM [ret plan_here]), calM (fs1 t_law_due) (lsM [ret plan_here])])]))) (rtn (ret (.bl false))) (nxt ())) fun s_2 => nxt ()) fun s_3 => bnd (calM tupleS (lsM [lcM (rng1I (ret (.int 40))) fun v_at => elM (binM .add (binM .sub (binM .pow (ret (.int 10)) (ret (.int 18))) (ret (.int 39))) (ret v_at))])) fun caps => bnd (tupM (lsM [ret caps, slcM (ret caps) noP (soP (negM (ret (.int 1)))), binM .pow (ret (.int 10)) (ret (.int 12))])) fun plan_here_1 => rtn (andM (cmpM .eq (calM (fs1 t_report) (lsM [ret plan_here_1])) (calM (fs1 t_law_due) (lsM [ret plan_here_1]))) (cmpM .eq (calM (fs1 t_report) (lsM [tupM (lsM [tupM (lsM [ret (.int 1)]), tupM (lsM []), ret (.int 0)])])) (binM .add (binM .add (binM .add (binM .add (ret (.str " 0")) (rptM (ret (.str " ")) (ret (.int 19)))) (ret (.str "1"))) (rptM (ret (.str " ")) (ret (.int 19)))) (ret (.str "-")))))
def t_law (script : D) : M D := fnM (bd_law script)
end G.K58
namespace G.K58
open PySem L2 PySem.Spec PyProof.Rows G
structure Ad where
  a_report : Addr
  d_report : FuncData
  a_law_well : Addr
  d_law_well : FuncData
  a_law_draw : Addr
  d_law_draw : FuncData
  a_law_pick : Addr
  d_law_pick : FuncData
  a_law_plan : Addr
  d_law_plan : FuncData
  a_law_aligned : Addr
  d_law_aligned : FuncData
  a_law_due : Addr
  d_law_due : FuncData
  a_law : Addr
  d_law : FuncData
  t_NOTHING : Tok
def clsA (z : Ad) : Cl := ⟨fun c => ([] : List (Nat × Addr)).lookup c, [], false⟩
structure Txt (K : PySem.W.Frag) (mg : Str → Option Value) (z : Ad) (base : Heap) : Prop where
  F_report : Fun K "report" "report" st_report z.a_report z.d_report
  B_report : Binds K z.d_report ["policy"] []
  m_report : mg "report" = some (.ref z.a_report)
  F_law_well : Fun K "_law_well" "_law_well" st_law_well z.a_law_well z.d_law_well
  B_law_well : Binds K z.d_law_well ["_law_script", "_law_k"] []
  m_law_well : mg "_law_well" = some (.ref z.a_law_well)
  F_law_draw : Fun K "_law_draw" "_law_draw" st_law_draw z.a_law_draw z.d_law_draw
  B_law_draw : Binds K z.d_law_draw ["_law_well_here", "_law_many"] []
  m_law_draw : mg "_law_draw" = some (.ref z.a_law_draw)
  F_law_pick : Fun K "_law_pick" "_law_pick" st_law_pick z.a_law_pick z.d_law_pick
  B_law_pick : Binds K z.d_law_pick ["_law_well_here", "_law_some"] []
  m_law_pick : mg "_law_pick" = some (.ref z.a_law_pick)
  F_law_plan : Fun K "_law_plan" "_law_plan" st_law_plan z.a_law_plan z.d_law_plan
  B_law_plan : Binds K z.d_law_plan ["_law_well_here", "_law_levels", "_law_wide"] []
  m_law_plan : mg "_law_plan" = some (.ref z.a_law_plan)
  F_law_aligned : Fun K "_law_aligned" "_law_aligned" st_law_aligned z.a_law_aligned z.d_law_aligned
  B_law_aligned : Binds K z.d_law_aligned ["_law_word", "_law_wide"] []
  m_law_aligned : mg "_law_aligned" = some (.ref z.a_law_aligned)
  F_law_due : Fun K "_law_due" "_law_due" st_law_due z.a_law_due z.d_law_due
  B_law_due : Binds K z.d_law_due ["_law_plan_here"] []
  m_law_due : mg "_law_due" = some (.ref z.a_law_due)
  F_law : Fun K "law" "law" st_law z.a_law z.d_law
  B_law : Binds K z.d_law ["_law_script"] []
  m_law : mg "law" = some (.ref z.a_law)
  B_report_kw0 : KB K z.d_report ["policy"] ["policy"] 0 [0]
  z_abs : mg "abs" = none
  z_enumerate : mg "enumerate" = none
  z_int : mg "int" = none
  z_len : mg "len" = none
  z_list : mg "list" = none
  z_max : mg "max" = none
  z_min : mg "min" = none
  z_range : mg "range" = none
  z_repr : mg "repr" = none
  z_str : mg "str" = none
  z_tuple : mg "tuple" = none
  z_zip : mg "zip" = none
  k_NOTHING : mg "NOTHING" = some (.str "-" z.t_NOTHING)
section
variable {gu : Bool} {P : Program} {w : World} {K : PySem.W.Frag} {mg : Str → Option Value} {base : Heap} {z : Ad}
theorem sc_report : FnScope ["policy", "capacities", "limits", "fixed", "rows", "level", "capacity", "limit"] ["policy"] (defScope st_report) := ⟨rfl, rfl, rfl, by decide +kernel, rfl, by decide +kernel, by decide +kernel⟩
theorem o_report (T : Txt K mg z base) : FnG gu P w K mg base (L2.CX P w) 1 z.a_report z.d_report ["policy"] (spM ⟨K, clsA z⟩ (fs1 t_report)) := by
  refine fn_1 (k := 0) (b := bd_report) T.F_report sc_report (.inl fun _ => rfl) fun policy cdv A outer s0 H E gB hr0 cl0 => ?_
  unfold bd_report
  have sc := sc_report
  have hr : Room 0 (cxOf (L2.CX P w) P w K mg base ["policy", "capacities", "limits", "fixed", "rows", "level", "capacity", "limit"] "report" (defScope st_report) z.a_report cdv A outer s0 H E).A := hr0
  have cl : Clr gu (cxOf (L2.CX P w) P w K mg base ["policy", "capacities", "limits", "fixed", "rows", "level", "capacity", "limit"] "report" (defScope st_report) z.a_report cdv A outer s0 H E).A := cl0
  have hu := hr.units
  have tk : Takes (cxOf (L2.CX P w) P w K mg base ["policy", "capacities", "limits", "fixed", "rows", "level", "capacity", "limit"] "report" (defScope st_report) z.a_report cdv A outer s0 H E) (fun c d _ H' => E c d H') := takes_of rfl rfl rfl rfl
  have hp := passes_of (X := (cxOf (L2.CX P w) P w K mg base ["policy", "capacities", "limits", "fixed", "rows", "level", "capacity", "limit"] "report" (defScope st_report) z.a_report cdv A outer s0 H E)) rfl
  exact s_asgP (c_var (pv 0) rfl) (g_tp rfl (gs_cons (g_nm (pg_name (i := 1) sc.nd rfl (by first | exact Or.inl rfl | exact Or.inr rfl))) (gs_cons (g_nm (pg_name (i := 2) sc.nd rfl (by first | exact Or.inl rfl | exact Or.inr rfl))) (gs_cons (g_nm (pg_name (i := 3) sc.nd rfl (by first | exact Or.inl rfl | exact Or.inr rfl))) gs_nil)))) (fun x => bd_3 fun capacities limits fixed => bd_nm (bd_nm (bd_nm (s_set (s := Sl.val) (k_val (c_lz3 rfl (by rfl) T.z_list (by rfl) T.z_zip (by rfl) T.z_range (c_bi sv_len (a_cons (c_var (pv 1) rfl) a_nil) (fun {_} h => pe_callB call_lenA (by rfl) T.z_len (by decide +kernel) h)) (c_var (pv 1) rfl) (c_tup (a_consG (c_cst (v := .str "-") (pe_glob (by rfl) T.k_NOTHING ⟨_, rfl⟩) (fun _ _ => .str _)) (a_star (c_var (pv 2) rfl) (a_nil)))))) (pg_name (i := 4) sc.nd rfl (by first | exact Or.inl rfl | exact Or.inr rfl)) (fun rows => s_ret (c_join (c_str) (c_lc (own := [("level", 5), ("capacity", 6), ("limit", 7)]) rfl sc.nd (i_seq (c_var (pv 4) rfl)) (blkOk_by (N := ["policy", "capacities", "limits", "fixed", "rows", "level", "capacity", "limit"]) (sc := defScope st_report) (by decide +kernel)) (by decide) (fun _ _ _ _ _ => g_tp rfl (gs_cons (g_nm (pg_name (i := 5) sc.nd rfl (by first | exact Or.inl rfl | exact Or.inr rfl))) (gs_cons (g_nm (pg_name (i := 6) sc.nd rfl (by first | exact Or.inl rfl | exact Or.inr rfl))) (gs_cons (g_nm (pg_name (i := 7) sc.nd rfl (by first | exact Or.inl rfl | exact Or.inr rfl))) gs_nil)))) (fun x_1 => bd_3 fun level capacity limit => bd_nm (bd_nm (bd_nm (ok_el (fun _ _ _ _ _ => c_fs (pj_cons (c_fmtW spOk2 (c_var (pv 5) rfl)) (pj_cons (c_fmtW spOk20 (c_var (pv 6) rfl)) (pj_cons (c_fmtW spOk20 (c_var (pv 7) rfl)) (pj_nil))))))))))))))))
theorem sc_law_well : FnScope ["_law_script", "_law_k", "_law_cell", "_law_own"] ["_law_script", "_law_k"] (defScope st_law_well) := ⟨rfl, rfl, rfl, by decide +kernel, rfl, by decide +kernel, by decide +kernel⟩
theorem o_law_well (T : Txt K mg z base) : FnG gu P w K mg base (L2.CX P w) 1 z.a_law_well z.d_law_well ["_law_script", "_law_k"] (spM ⟨K, clsA z⟩ (fs2 t_law_well)) := by
  refine fn_2 (k := 0) (b := bd_law_well) T.F_law_well sc_law_well (.inl fun _ _ => rfl) fun script k cdv A outer s0 H E gB hr0 cl0 => ?_
  unfold bd_law_well
  have sc := sc_law_well
  have hr : Room 0 (cxOf (L2.CX P w) P w K mg base ["_law_script", "_law_k", "_law_cell", "_law_own"] "_law_well" (defScope st_law_well) z.a_law_well cdv A outer s0 H E).A := hr0
  have cl : Clr gu (cxOf (L2.CX P w) P w K mg base ["_law_script", "_law_k", "_law_cell", "_law_own"] "_law_well" (defScope st_law_well) z.a_law_well cdv A outer s0 H E).A := cl0
  have hu := hr.units
  have tk : Takes (cxOf (L2.CX P w) P w K mg base ["_law_script", "_law_k", "_law_cell", "_law_own"] "_law_well" (defScope st_law_well) z.a_law_well cdv A outer s0 H E) (fun c d _ H' => E c d H') := takes_of rfl rfl rfl rfl
  have hp := passes_of (X := (cxOf (L2.CX P w) P w K mg base ["_law_script", "_law_k", "_law_cell", "_law_own"] "_law_well" (defScope st_law_well) z.a_law_well cdv A outer s0 H E)) rfl
  exact s_set (s := Sl.val) (k_val (c_ite (p_cmp op_lt sv_lt (nomark _) (c_var (pv 1) rfl) (c_bi sv_len (a_cons (c_var (pv 0) rfl) a_nil) (fun {_} h => pe_callB call_lenA (by rfl) T.z_len (by decide +kernel) h))) (c_idx (c_var (pv 0) rfl) (c_var (pv 1) rfl)) (c_bin op_addA sv_add (c_bin op_mulA sv_mul (c_int) (c_var (pv 1) rfl)) (c_int)))) (pg_name (i := 2) sc.nd rfl (by first | exact Or.inl rfl | exact Or.inr rfl)) (fun cell => s_set (s := Sl.val) (k_val (c_bin op_mulA sv_mul (c_bin op_mod sv_mod (c_bi sv_abs (a_cons (c_var (pv 2) rfl) a_nil) (fun {_} h => pe_callB call_abs (by rfl) T.z_abs (by decide +kernel) h)) (c_bin op_powW sv_pow (c_bin op_powW sv_pow (c_int) (c_int)) (c_int))) (c_bi sv_int (a_cons (c_cmp op_ge sv_ge (nomark _) (c_bi sv_abs (a_cons (c_var (pv 2) rfl) a_nil) (fun {_} h => pe_callB call_abs (by rfl) T.z_abs (by decide +kernel) h)) (c_bin op_powW sv_pow (c_int) (c_int))) a_nil) (fun {_} h => pe_callTy call_int1 (by rfl) T.z_int (by decide +kernel) h)))) (pg_name (i := 3) sc.nd rfl (by first | exact Or.inl rfl | exact Or.inr rfl)) (fun own => s_ret (c_lsh (a_cons (c_var (pv 3) rfl) (a_cons (c_bin op_mod sv_mod (c_bin op_addA sv_add (c_bin op_addA sv_add (c_bin op_mulA sv_mul (c_bin op_mod sv_mod (c_var (pv 2) rfl) (c_int)) (c_int)) (c_bin op_mulA sv_mul (c_bin op_mulA sv_mul (c_int) (c_var (pv 1) rfl)) (c_var (pv 1) rfl))) (c_int)) (c_int)) (a_cons (c_int) a_nil))))))
theorem sc_law_draw : FnScope ["_law_well_here", "_law_many", "_law_digit", "_law_prime", "_law_mixed"] ["_law_well_here", "_law_many"] (defScope st_law_draw) := ⟨rfl, rfl, rfl, by decide +kernel, rfl, by decide +kernel, by decide +kernel⟩
theorem o_law_draw (T : Txt K mg z base) : FnG gu P w K mg base (L2.CX P w) 1 z.a_law_draw z.d_law_draw ["_law_well_here", "_law_many"] (spM ⟨K, clsA z⟩ (fs2 t_law_draw)) := by
  refine fn_2 (k := 0) (b := bd_law_draw) T.F_law_draw sc_law_draw (.inl fun _ _ => rfl) fun well_here many cdv A outer s0 H E gB hr0 cl0 => ?_
  unfold bd_law_draw
  have sc := sc_law_draw
  have hr : Room 0 (cxOf (L2.CX P w) P w K mg base ["_law_well_here", "_law_many", "_law_digit", "_law_prime", "_law_mixed"] "_law_draw" (defScope st_law_draw) z.a_law_draw cdv A outer s0 H E).A := hr0
  have cl : Clr gu (cxOf (L2.CX P w) P w K mg base ["_law_well_here", "_law_many", "_law_digit", "_law_prime", "_law_mixed"] "_law_draw" (defScope st_law_draw) z.a_law_draw cdv A outer s0 H E).A := cl0
  have hu := hr.units
  have tk : Takes (cxOf (L2.CX P w) P w K mg base ["_law_well_here", "_law_many", "_law_digit", "_law_prime", "_law_mixed"] "_law_draw" (defScope st_law_draw) z.a_law_draw cdv A outer s0 H E) (fun c d _ H' => E c d H') := takes_of rfl rfl rfl rfl
  have hp := passes_of (X := (cxOf (L2.CX P w) P w K mg base ["_law_well_here", "_law_many", "_law_digit", "_law_prime", "_law_mixed"] "_law_draw" (defScope st_law_draw) z.a_law_draw cdv A outer s0 H E)) rfl
  exact s_if (oa' := fun (s : Unit) => [.val well_here, .val many, .un, .un, .un]) (p_cmp op_gt sv_gt (nomark _) (c_idx (c_var (pv 0) rfl) (c_int)) (c_int)) (s_set (s := Sl.val) (k_val (c_bin op_mod sv_mod (c_idx (c_var (pv 0) rfl) (c_int)) (c_var (pv 1) rfl))) (pg_name (i := 2) sc.nd rfl (by first | exact Or.inl rfl | exact Or.inr rfl)) (fun digit => s_tgt (c_bin op_fdivW sv_fdiv (c_idx (c_var (pv 0) rfl) (c_int)) (c_var (pv 1) rfl)) (tg_sub (c_var (pv 0) rfl) (c_int)) (s_ret (c_var (pv 2) rfl)))) (s_nil (.eq (.eq (.un (.un (.un .nil)))))) (fun s => s_tgt (c_bin op_addA sv_add (c_idx (c_var (pv 0) rfl) (c_int)) (c_int)) (tg_sub (c_var (pv 0) rfl) (c_int)) (s_set (s := Sl.val) (k_val (c_idx (c_lst (a_cons (c_int) (a_cons (c_int) (a_cons (c_int) (a_cons (c_int) (a_cons (c_int) a_nil)))))) (c_bin op_mod sv_mod (c_idx (c_var (pv 0) rfl) (c_int)) (c_int)))) (pg_name (i := 3) sc.nd rfl (by first | exact Or.inl rfl | exact Or.inr rfl)) (fun prime => s_set (s := Sl.val) (k_val (c_bin op_mod sv_mod (c_bin op_powW sv_pow (c_bin op_addA sv_add (c_bin op_addA sv_add (c_idx (c_var (pv 0) rfl) (c_int)) (c_bin op_mulA sv_mul (c_bin op_mulA sv_mul (c_int) (c_idx (c_var (pv 0) rfl) (c_int))) (c_idx (c_var (pv 0) rfl) (c_int)))) (c_int)) (c_int)) (c_var (pv 3) rfl))) (pg_name (i := 4) sc.nd rfl (by first | exact Or.inl rfl | exact Or.inr rfl)) (fun mixed => s_ret (c_bin op_mod sv_mod (c_bin op_fdivW sv_fdiv (c_bin op_mod sv_mod (c_bin op_mulA sv_mul (c_var (pv 4) rfl) (c_bin op_addA sv_add (c_bin op_mod sv_mod (c_var (pv 4) rfl) (c_int)) (c_bin op_mulA sv_mul (c_int) (c_idx (c_var (pv 0) rfl) (c_int))))) (c_int)) (c_int)) (c_var (pv 1) rfl))))))
theorem sc_law_pick : FnScope ["_law_well_here", "_law_some"] ["_law_well_here", "_law_some"] (defScope st_law_pick) := ⟨rfl, rfl, rfl, by decide +kernel, rfl, by decide +kernel, by decide +kernel⟩
theorem o_law_pick (T : Txt K mg z base) : FnG gu P w K mg base (L2.CX P w) 2 z.a_law_pick z.d_law_pick ["_law_well_here", "_law_some"] (spM ⟨K, clsA z⟩ (fs2 t_law_pick)) := by
  refine fn_2 (k := 1) (b := bd_law_pick) T.F_law_pick sc_law_pick (.inl fun _ _ => rfl) fun well_here v_some cdv A outer s0 H E gB hr0 cl0 => ?_
  unfold bd_law_pick
  have sc := sc_law_pick
  have hr : Room 1 (cxOf (L2.CX P w) P w K mg base ["_law_well_here", "_law_some"] "_law_pick" (defScope st_law_pick) z.a_law_pick cdv A outer s0 H E).A := hr0
  have cl : Clr gu (cxOf (L2.CX P w) P w K mg base ["_law_well_here", "_law_some"] "_law_pick" (defScope st_law_pick) z.a_law_pick cdv A outer s0 H E).A := cl0
  have hu := hr.units
  have tk : Takes (cxOf (L2.CX P w) P w K mg base ["_law_well_here", "_law_some"] "_law_pick" (defScope st_law_pick) z.a_law_pick cdv A outer s0 H E) (fun c d _ H' => E c d H') := takes_of rfl rfl rfl rfl
  have hp := passes_of (X := (cxOf (L2.CX P w) P w K mg base ["_law_well_here", "_law_some"] "_law_pick" (defScope st_law_pick) z.a_law_pick cdv A outer s0 H E)) rfl
  have i_law_draw : IsFn gu P w K mg base (clsA z) 1 "_law_draw" (fs2 t_law_draw) := ⟨_, _, _, T.m_law_draw, T.F_law_draw.kp, T.B_law_draw, (o_law_draw T).mono (by decide)⟩
  exact s_ret (c_idx (c_var (pv 1) rfl) (c_call i_law_draw hr cl tk (by rfl) (a_cons (c_var (pv 0) rfl) (a_cons (c_bi sv_len (a_cons (c_var (pv 1) rfl) a_nil) (fun {_} h => pe_callB call_lenA (by rfl) T.z_len (by decide +kernel) h)) a_nil))))
theorem sc_law_plan : FnScope ["_law_well_here", "_law_levels", "_law_wide", "_law_caps", "_law_floors", "_law_low", "_law_turn", "_law_high"] ["_law_well_here", "_law_levels", "_law_wide"] (defScope st_law_plan) := ⟨rfl, rfl, rfl, by decide +kernel, rfl, by decide +kernel, by decide +kernel⟩
theorem o_law_plan (T : Txt K mg z base) : FnG gu P w K mg base (L2.CX P w) 3 z.a_law_plan z.d_law_plan ["_law_well_here", "_law_levels", "_law_wide"] (spM ⟨K, clsA z⟩ (fs3 t_law_plan)) := by
  refine fn_3 (k := 2) (b := bd_law_plan) T.F_law_plan sc_law_plan (.inl fun _ _ _ => rfl) fun well_here levels wide cdv A outer s0 H E gB hr0 cl0 => ?_
  unfold bd_law_plan
  have sc := sc_law_plan
  have hr : Room 2 (cxOf (L2.CX P w) P w K mg base ["_law_well_here", "_law_levels", "_law_wide", "_law_caps", "_law_floors", "_law_low", "_law_turn", "_law_high"] "_law_plan" (defScope st_law_plan) z.a_law_plan cdv A outer s0 H E).A := hr0
  have cl : Clr gu (cxOf (L2.CX P w) P w K mg base ["_law_well_here", "_law_levels", "_law_wide", "_law_caps", "_law_floors", "_law_low", "_law_turn", "_law_high"] "_law_plan" (defScope st_law_plan) z.a_law_plan cdv A outer s0 H E).A := cl0
  have hu := hr.units
  have tk : Takes (cxOf (L2.CX P w) P w K mg base ["_law_well_here", "_law_levels", "_law_wide", "_law_caps", "_law_floors", "_law_low", "_law_turn", "_law_high"] "_law_plan" (defScope st_law_plan) z.a_law_plan cdv A outer s0 H E) (fun c d _ H' => E c d H') := takes_of rfl rfl rfl rfl
  have hp := passes_of (X := (cxOf (L2.CX P w) P w K mg base ["_law_well_here", "_law_levels", "_law_wide", "_law_caps", "_law_floors", "_law_low", "_law_turn", "_law_high"] "_law_plan" (defScope st_law_plan) z.a_law_plan cdv A outer s0 H E)) rfl
  have i_law_draw : IsFn gu P w K mg base (clsA z) 2 "_law_draw" (fs2 t_law_draw) := ⟨_, _, _, T.m_law_draw, T.F_law_draw.kp, T.B_law_draw, (o_law_draw T).mono (by decide)⟩
  have i_law_pick : IsFn gu P w K mg base (clsA z) 2 "_law_pick" (fs2 t_law_pick) := ⟨_, _, _, T.m_law_pick, T.F_law_pick.kp, T.B_law_pick, (o_law_pick T).mono (by decide)⟩
  exact s_par3 (i := 3) (j := 4) (l := 5) rfl sc.nd rfl rfl rfl (by decide) (by decide) (by decide) rfl rfl rfl (k_lst (a_cons (c_bin op_addA sv_add (c_int) (c_call i_law_draw hr cl tk (by rfl) (a_cons (c_var (pv 0) rfl) (a_cons (c_var (pv 2) rfl) a_nil)))) a_nil)) (k_lst (a_nil)) (k_val (c_neg (c_int))) (fun caps floors low => s_for hp rfl (fun (s : List D × List D × D) => [.val well_here, .val levels, .val wide, .own s.1, .own s.2.1, .val s.2.2, .un, .un]) (i_rng1 (a_cons (c_call i_law_draw hr cl tk (by rfl) (a_cons (c_var (pv 0) rfl) (a_cons (c_var (pv 1) rfl) a_nil))) a_nil) (fun {_} h => pi_range1 (by rfl) T.z_range h)) (g_nm (pg_name (i := 6) sc.nd rfl (by first | exact Or.inl rfl | exact Or.inr rfl))) (.eq (.eq (.eq (.eq (.eq (.eq (.un (.un .nil)))))))) (fun turn s => bd_nm (s_set (s := Sl.val) (k_val (c_idxO (pv 3) rfl (c_neg (c_int)))) (pg_name (i := 7) sc.nd rfl (by first | exact Or.inl rfl | exact Or.inr rfl)) (fun high => s_set (s := Sl.val) (k_val (c_call i_law_pick hr cl tk (by rfl) (a_cons (c_var (pv 0) rfl) (a_cons (c_lst (a_cons (c_bin op_addA sv_add (c_var (pv 5) rfl) (c_int)) (a_cons (c_var (pv 7) rfl) (a_cons (c_bin op_addA sv_add (c_bin op_addA sv_add (c_var (pv 5) rfl) (c_int)) (c_call i_law_draw hr cl tk (by rfl) (a_cons (c_var (pv 0) rfl) (a_cons (c_bin op_sub sv_sub (c_var (pv 7) rfl) (c_var (pv 5) rfl)) a_nil)))) (a_cons (c_bin op_addA sv_add (c_bin op_addA sv_add (c_var (pv 5) rfl) (c_int)) (c_bin op_fdivW sv_fdiv (c_bin op_sub sv_sub (c_bin op_sub sv_sub (c_var (pv 7) rfl) (c_var (pv 5) rfl)) (c_int)) (c_int))) a_nil))))) a_nil)))) (pg_name (i := 5) sc.nd rfl (by first | exact Or.inl rfl | exact Or.inr rfl)) (fun low_1 => s_app (pv 4) rfl (c_var (pv 5) rfl) (fun floors_1 => s_app (pv 3) rfl (c_bin op_addA sv_add (c_bin op_addA sv_add (c_var (pv 7) rfl) (c_int)) (c_call i_law_draw hr cl tk (by rfl) (a_cons (c_var (pv 0) rfl) (a_cons (c_var (pv 2) rfl) a_nil)))) (fun caps_1 => s_nil (.eq (.eq (.eq (.eq (.eq (.eq (.un (.un .nil))))))))) (fun {_} {_} ho ha => pe_bm PySem.F.plainAttrs_list PySem.F.slot_list_append PySem.F.type_list_append mt_append ho ha)) (fun {_} {_} ho ha => pe_bm PySem.F.plainAttrs_list PySem.F.slot_list_append PySem.F.type_list_append mt_append ho ha))))) (fun s_1 => s_frz (i := 3) rfl (s_frz (i := 4) rfl (s_ret (c_tup (a_cons (c_bi sv_tuple (a_cons (c_var (pv 3) rfl) a_nil) (fun {_} h => pe_callTy call_tuple_of (by rfl) T.z_tuple (by decide +kernel) h)) (a_cons (c_bi sv_tuple (a_cons (c_var (pv 4) rfl) a_nil) (fun {_} h => pe_callTy call_tuple_of (by rfl) T.z_tuple (by decide +kernel) h)) (a_cons (c_call i_law_pick hr cl tk (by rfl) (a_cons (c_var (pv 0) rfl) (a_cons (c_lst (a_cons (c_int) (a_cons (c_int) (a_cons (c_int) (a_cons (c_call i_law_draw hr cl tk (by rfl) (a_cons (c_var (pv 0) rfl) (a_cons (c_int) a_nil))) (a_cons (c_bin op_powW sv_pow (c_int) (c_int)) a_nil)))))) a_nil))) a_nil)))))))) (by rfl)
theorem sc_law_aligned : FnScope ["_law_word", "_law_wide"] ["_law_word", "_law_wide"] (defScope st_law_aligned) := ⟨rfl, rfl, rfl, by decide +kernel, rfl, by decide +kernel, by decide +kernel⟩
theorem o_law_aligned (T : Txt K mg z base) : FnG gu P w K mg base (L2.CX P w) 1 z.a_law_aligned z.d_law_aligned ["_law_word", "_law_wide"] (spM ⟨K, clsA z⟩ (fs2 t_law_aligned)) := by
  refine fn_2 (k := 0) (b := bd_law_aligned) T.F_law_aligned sc_law_aligned (.inl fun _ _ => rfl) fun word wide cdv A outer s0 H E gB hr0 cl0 => ?_
  unfold bd_law_aligned
  have sc := sc_law_aligned
  have hr : Room 0 (cxOf (L2.CX P w) P w K mg base ["_law_word", "_law_wide"] "_law_aligned" (defScope st_law_aligned) z.a_law_aligned cdv A outer s0 H E).A := hr0
  have cl : Clr gu (cxOf (L2.CX P w) P w K mg base ["_law_word", "_law_wide"] "_law_aligned" (defScope st_law_aligned) z.a_law_aligned cdv A outer s0 H E).A := cl0
  have hu := hr.units
  have tk : Takes (cxOf (L2.CX P w) P w K mg base ["_law_word", "_law_wide"] "_law_aligned" (defScope st_law_aligned) z.a_law_aligned cdv A outer s0 H E) (fun c d _ H' => E c d H') := takes_of rfl rfl rfl rfl
  have hp := passes_of (X := (cxOf (L2.CX P w) P w K mg base ["_law_word", "_law_wide"] "_law_aligned" (defScope st_law_aligned) z.a_law_aligned cdv A outer s0 H E)) rfl
  exact s_ret (c_bin op_addA sv_add (c_rpt (c_str) (c_bin op_sub sv_sub (c_var (pv 1) rfl) (c_bi sv_len (a_cons (c_var (pv 0) rfl) a_nil) (fun {_} h => pe_callB call_lenA (by rfl) T.z_len (by decide +kernel) h)))) (c_var (pv 0) rfl))
theorem sc_law_due : FnScope ["_law_plan_here", "_law_rows", "_law_at", "_law_cap", "_law_low"] ["_law_plan_here"] (defScope st_law_due) := ⟨rfl, rfl, rfl, by decide +kernel, rfl, by decide +kernel, by decide +kernel⟩
theorem o_law_due (T : Txt K mg z base) : FnG gu P w K mg base (L2.CX P w) 2 z.a_law_due z.d_law_due ["_law_plan_here"] (spM ⟨K, clsA z⟩ (fs1 t_law_due)) := by
  refine fn_1 (k := 1) (b := bd_law_due) T.F_law_due sc_law_due (.inl fun _ => rfl) fun plan_here cdv A outer s0 H E gB hr0 cl0 => ?_
  unfold bd_law_due
  have sc := sc_law_due
  have hr : Room 1 (cxOf (L2.CX P w) P w K mg base ["_law_plan_here", "_law_rows", "_law_at", "_law_cap", "_law_low"] "_law_due" (defScope st_law_due) z.a_law_due cdv A outer s0 H E).A := hr0
  have cl : Clr gu (cxOf (L2.CX P w) P w K mg base ["_law_plan_here", "_law_rows", "_law_at", "_law_cap", "_law_low"] "_law_due" (defScope st_law_due) z.a_law_due cdv A outer s0 H E).A := cl0
  have hu := hr.units
  have tk : Takes (cxOf (L2.CX P w) P w K mg base ["_law_plan_here", "_law_rows", "_law_at", "_law_cap", "_law_low"] "_law_due" (defScope st_law_due) z.a_law_due cdv A outer s0 H E) (fun c d _ H' => E c d H') := takes_of rfl rfl rfl rfl
  have hp := passes_of (X := (cxOf (L2.CX P w) P w K mg base ["_law_plan_here", "_law_rows", "_law_at", "_law_cap", "_law_low"] "_law_due" (defScope st_law_due) z.a_law_due cdv A outer s0 H E)) rfl
  have i_law_aligned : IsFn gu P w K mg base (clsA z) 1 "_law_aligned" (fs2 t_law_aligned) := ⟨_, _, _, T.m_law_aligned, T.F_law_aligned.kp, T.B_law_aligned, (o_law_aligned T).mono (by decide)⟩
  exact s_set (s := Sl.own) (k_lst (a_nil)) (pg_name (i := 1) sc.nd rfl (by first | exact Or.inl rfl | exact Or.inr rfl)) (fun rows => s_for hp rfl (fun (s : List D) => [.val plan_here, .own s, .un, .un, .un]) (i_enum (by rfl) T.z_enumerate (a_cons (c_idx (c_var (pv 0) rfl) (c_int)) a_nil)) (g_tp rfl (gs_cons (g_nm (pg_name (i := 2) sc.nd rfl (by first | exact Or.inl rfl | exact Or.inr rfl))) (gs_cons (g_nm (pg_name (i := 3) sc.nd rfl (by first | exact Or.inl rfl | exact Or.inr rfl))) gs_nil))) (.eq (.eq (.un (.un (.un .nil))))) (fun x s => bd_2 fun v_at cap => bd_nm (bd_nm (s_set (s := Sl.val) (k_val (c_ite (p_cmp op_gt sv_gt (nomark _) (c_var (pv 2) rfl) (c_int)) (c_bi sv_str (a_cons (c_idx (c_idx (c_var (pv 0) rfl) (c_int)) (c_bin op_sub sv_sub (c_var (pv 2) rfl) (c_int))) a_nil) (fun {_} h => pe_callTy call_strA (by rfl) T.z_str (by decide +kernel) h)) (c_str))) (pg_name (i := 4) sc.nd rfl (by first | exact Or.inl rfl | exact Or.inr rfl)) (fun low => s_app (pv 1) rfl (c_bin op_addA sv_add (c_bin op_addA sv_add (c_call i_law_aligned hr cl tk (by rfl) (a_cons (c_bi sv_str (a_cons (c_var (pv 2) rfl) a_nil) (fun {_} h => pe_callTy call_strA (by rfl) T.z_str (by decide +kernel) h)) (a_cons (c_int) a_nil))) (c_call i_law_aligned hr cl tk (by rfl) (a_cons (c_bi sv_str (a_cons (c_var (pv 3) rfl) a_nil) (fun {_} h => pe_callTy call_strA (by rfl) T.z_str (by decide +kernel) h)) (a_cons (c_int) a_nil)))) (c_call i_law_aligned hr cl tk (by rfl) (a_cons (c_var (pv 4) rfl) (a_cons (c_int) a_nil)))) (fun rows_1 => s_nil (.eq (.eq (.un (.un (.un .nil)))))) (fun {_} {_} ho ha => pe_bm PySem.F.plainAttrs_list PySem.F.slot_list_append PySem.F.type_list_append mt_append ho ha))))) (fun s_1 => s_frz (i := 1) rfl (s_ret (c_join (c_str) (c_var (pv 1) rfl)))))
theorem sc_law : FnScope ["_law_script", "_law_k", "_law_well_here", "_law_turn", "_law_plan_here", "_law_caps", "_law_at"] ["_law_script"] (defScope st_law) := ⟨rfl, rfl, rfl, by decide +kernel, rfl, by decide +kernel, by decide +kernel⟩
theorem o_law (T : Txt K mg z base) : FnG true P w K mg base (L2.CX P w) 4 z.a_law z.d_law ["_law_script"] (spM ⟨K, clsA z⟩ (fs1 t_law)) := by
  refine fn_1 (k := 3) (b := bd_law) T.F_law sc_law (.inl fun _ => rfl) fun script cdv A outer s0 H E gB hr0 cl0 => ?_
  unfold bd_law
  have sc := sc_law
  have hr : Room 3 (cxOf (L2.CX P w) P w K mg base ["_law_script", "_law_k", "_law_well_here", "_law_turn", "_law_plan_here", "_law_caps", "_law_at"] "law" (defScope st_law) z.a_law cdv A outer s0 H E).A := hr0
  have cl : Clr true (cxOf (L2.CX P w) P w K mg base ["_law_script", "_law_k", "_law_well_here", "_law_turn", "_law_plan_here", "_law_caps", "_law_at"] "law" (defScope st_law) z.a_law cdv A outer s0 H E).A := cl0
  have hu := hr.units
  have tk : Takes (cxOf (L2.CX P w) P w K mg base ["_law_script", "_law_k", "_law_well_here", "_law_turn", "_law_plan_here", "_law_caps", "_law_at"] "law" (defScope st_law) z.a_law cdv A outer s0 H E) (fun c d _ H' => E c d H') := takes_of rfl rfl rfl rfl
  have hp := passes_of (X := (cxOf (L2.CX P w) P w K mg base ["_law_script", "_law_k", "_law_well_here", "_law_turn", "_law_plan_here", "_law_caps", "_law_at"] "law" (defScope st_law) z.a_law cdv A outer s0 H E)) rfl
  have i_law_due : IsFn true P w K mg base (clsA z) 3 "_law_due" (fs1 t_law_due) := ⟨_, _, _, T.m_law_due, T.F_law_due.kp, T.B_law_due, (o_law_due T).mono (by decide)⟩
  have i_law_pick : IsFn true P w K mg base (clsA z) 3 "_law_pick" (fs2 t_law_pick) := ⟨_, _, _, T.m_law_pick, T.F_law_pick.kp, T.B_law_pick, (o_law_pick T).mono (by decide)⟩
  have i_law_plan : IsFn true P w K mg base (clsA z) 3 "_law_plan" (fs3 t_law_plan) := ⟨_, _, _, T.m_law_plan, T.F_law_plan.kp, T.B_law_plan, (o_law_plan T).mono (by decide)⟩
  have i_law_well : IsFn true P w K mg base (clsA z) 3 "_law_well" (fs2 t_law_well) := ⟨_, _, _, T.m_law_well, T.F_law_well.kp, T.B_law_well, (o_law_well T).mono (by decide)⟩
  have i_report : IsFn true P w K mg base (clsA z) 3 "report" (fs1 t_report) := ⟨_, _, _, T.m_report, T.F_report.kp, T.B_report, (o_report T).mono (by decide)⟩
  have i_report_kw0 : IsFnK true P w K mg base (clsA z) 3 "report" (fs1 t_report) ["policy"] 0 [0] := ⟨_, _, _, T.m_report, T.F_report.kp, T.B_report_kw0, (o_report T).mono (by decide)⟩
  exact s_for hp rfl (fun (s : Unit) => [.val script, .un, .un, .un, .un, .un, .un]) (i_rng1 (a_cons (c_bi sv_max2 (a_cons (c_int) (a_cons (c_bi sv_min2 (a_cons (c_int) (a_cons (c_bi sv_len (a_cons (c_var (pv 0) rfl) a_nil) (fun {_} h => pe_callB call_lenA (by rfl) T.z_len (by decide +kernel) h)) a_nil)) (fun {_} h => pe_callB (call_min2 rfl) (by rfl) T.z_min (by decide +kernel) h)) a_nil)) (fun {_} h => pe_callB (call_max2 rfl) (by rfl) T.z_max (by decide +kernel) h)) a_nil) (fun {_} h => pi_range1 (by rfl) T.z_range h)) (g_nm (pg_name (i := 1) sc.nd rfl (by first | exact Or.inl rfl | exact Or.inr rfl))) (.eq (.un (.un (.un (.un (.un (.un .nil))))))) (fun k s => bd_nm (s_set (s := Sl.val) (k_val (c_call i_law_well hr cl tk (by rfl) (a_cons (c_var (pv 0) rfl) (a_cons (c_var (pv 1) rfl) a_nil)))) (pg_name (i := 2) sc.nd rfl (by first | exact Or.inl rfl | exact Or.inr rfl)) (fun well_here => s_for hp rfl (fun (s_1 : Unit) => [.val script, .val k, .val well_here, .un, .un, .un, .un]) (i_rng1 (a_cons (c_int) a_nil) (fun {_} h => pi_range1 (by rfl) T.z_range h)) (g_nm (pg_name (i := 3) sc.nd rfl (by first | exact Or.inl rfl | exact Or.inr rfl))) (.eq (.eq (.eq (.un (.un (.un (.un .nil))))))) (fun turn s_1 => bd_nm (s_set (s := Sl.val) (k_val (c_call i_law_plan hr cl tk (by rfl) (a_cons (c_var (pv 2) rfl) (a_cons (c_call i_law_pick hr cl tk (by rfl) (a_cons (c_var (pv 2) rfl) (a_cons (c_lst (a_cons (c_int) (a_cons (c_int) (a_cons (c_int) a_nil)))) a_nil))) (a_cons (c_call i_law_pick hr cl tk (by rfl) (a_cons (c_var (pv 2) rfl) (a_cons (c_lst (a_cons (c_int) (a_cons (c_int) (a_cons (c_bin op_powW sv_pow (c_int) (c_int)) a_nil)))) a_nil))) a_nil))))) (pg_name (i := 4) sc.nd rfl (by first | exact Or.inl rfl | exact Or.inr rfl)) (fun plan_here => s_ifL (p_cmp (op_neA hu) sv_ne (nomark _) (c_bi sv_repr (a_cons (c_lst (a_cons (c_call i_report hr cl tk (by rfl) (a_cons (c_var (pv 4) rfl) a_nil)) (a_cons (c_callK0 i_report_kw0 hr cl tk (by rfl) (kw_cons (c_var (pv 4) rfl) kw_nil)) a_nil))) a_nil) (fun {_} h => pe_callB (call_repr cl hu) (by rfl) T.z_repr (by decide +kernel) h)) (c_bi sv_repr (a_cons (c_lst (a_cons (c_call i_law_due hr cl tk (by rfl) (a_cons (c_var (pv 4) rfl) a_nil)) (a_cons (c_call i_law_due hr cl tk (by rfl) (a_cons (c_var (pv 4) rfl) a_nil)) a_nil))) a_nil) (fun {_} h => pe_callB (call_repr cl hu) (by rfl) T.z_repr (by decide +kernel) h))) (s_ret (c_bl)) (s_nil (.eq (.eq (.eq (.un (.un (.un (.un .nil))))))))))) (fun s_2 => s_nil (.eq (.un (.un (.un (.un (.un (.un .nil))))))))))) (fun s_3 => s_set (s := Sl.val) (k_val (c_bi sv_tuple (a_cons (c_lc (own := [("_law_at", 6)]) rfl sc.nd (i_rng1 (a_cons (c_int) a_nil) (fun {_} h => pi_range1 (by rfl) T.z_range h)) (blkOk_by (N := ["_law_script", "_law_k", "_law_well_here", "_law_turn", "_law_plan_here", "_law_caps", "_law_at"]) (sc := defScope st_law) (by decide +kernel)) (by decide) (fun _ _ _ _ _ => g_nm (pg_name (i := 6) sc.nd rfl (by first | exact Or.inl rfl | exact Or.inr rfl))) (fun v_at => bd_nm (ok_el (fun _ _ _ _ _ => c_bin op_addA sv_add (c_bin op_sub sv_sub (c_bin op_powW sv_pow (c_int) (c_int)) (c_int)) (c_var (pv 6) rfl))))) a_nil) (fun {_} h => pe_callTy call_tuple_of (by rfl) T.z_tuple (by decide +kernel) h))) (pg_name (i := 5) sc.nd rfl (by first | exact Or.inl rfl | exact Or.inr rfl)) (fun caps => s_set (s := Sl.val) (k_val (c_tup (a_cons (c_var (pv 5) rfl) (a_cons (c_slc (c_var (pv 5) rfl) o_none (o_some (c_neg (c_int)))) (a_cons (c_bin op_powW sv_pow (c_int) (c_int)) a_nil))))) (pg_name (i := 4) sc.nd rfl (by first | exact Or.inl rfl | exact Or.inr rfl)) (fun plan_here_1 => s_ret (c_and (c_cmp (op_eqA hu) sv_eq (nomark _) (c_call i_report hr cl tk (by rfl) (a_cons (c_var (pv 4) rfl) a_nil)) (c_call i_law_due hr cl tk (by rfl) (a_cons (c_var (pv 4) rfl) a_nil))) (c_one (c_cmp (op_eqA hu) sv_eq (nomark _) (c_call i_report hr cl tk (by rfl) (a_cons (c_tup (a_cons (c_tup (a_cons (c_int) a_nil)) (a_cons (c_tup (a_nil)) (a_cons (c_int) a_nil)))) a_nil)) (c_bin op_addA sv_add (c_bin op_addA sv_add (c_bin op_addA sv_add (c_bin op_addA sv_add (c_str) (c_rpt (c_str) (c_int))) (c_str)) (c_rpt (c_str) (c_int))) (c_str))))))))
end
end G.K58
namespace G.K58
open PySem L2 PySem.Spec PyProof.Rows G
theorem all_mk {l : PySem.W.OpenLaw} {w : World} {K : PySem.W.Frag} {h : Heap} {mg : Str → Option Value} {fa : Addr} (X : K.In h) (G0 : h.Ns mainGlobals mg) (hfa : mg "law" = some (.ref fa))
    {f_report : Addr} {od_report an_report : Option Addr} {sl_report : Array (Option Value)} {oc_report kV_report dc_report pm_report cd_report ct_report : Value}
    {f_law_well : Addr} {od_law_well an_law_well : Option Addr} {sl_law_well : Array (Option Value)} {oc_law_well kV_law_well dc_law_well pm_law_well cd_law_well ct_law_well : Value}
    {f_law_draw : Addr} {od_law_draw an_law_draw : Option Addr} {sl_law_draw : Array (Option Value)} {oc_law_draw kV_law_draw dc_law_draw pm_law_draw cd_law_draw ct_law_draw : Value}
    {f_law_pick : Addr} {od_law_pick an_law_pick : Option Addr} {sl_law_pick : Array (Option Value)} {oc_law_pick kV_law_pick dc_law_pick pm_law_pick cd_law_pick ct_law_pick : Value}
    {f_law_plan : Addr} {od_law_plan an_law_plan : Option Addr} {sl_law_plan : Array (Option Value)} {oc_law_plan kV_law_plan dc_law_plan pm_law_plan cd_law_plan ct_law_plan : Value}
    {f_law_aligned : Addr} {od_law_aligned an_law_aligned : Option Addr} {sl_law_aligned : Array (Option Value)} {oc_law_aligned kV_law_aligned dc_law_aligned pm_law_aligned cd_law_aligned ct_law_aligned : Value}
    {f_law_due : Addr} {od_law_due an_law_due : Option Addr} {sl_law_due : Array (Option Value)} {oc_law_due kV_law_due dc_law_due pm_law_due cd_law_due ct_law_due : Value}
    {f_law : Addr} {od_law an_law : Option Addr} {sl_law : Array (Option Value)} {oc_law kV_law dc_law pm_law cd_law ct_law : Value}
    {t_NOTHING : Tok}
    (a_report : PySem.W.nsIn K mainGlobals "report" = some (some (.ref f_report)))
    (l_report : K.lookup f_report = some ⟨oc_report, od_report, .func (PySem.W.fnOf "report" "report" (defArgs st_report) (defBody st_report) (defScope st_report) .none kV_report dc_report pm_report an_report cd_report ct_report), sl_report⟩)
    (c_report : PySem.W.codeIn K cd_report "report" = true)
    (k_report : PySem.W.keepIn K (.ref f_report) = true)
    (a_law_well : PySem.W.nsIn K mainGlobals "_law_well" = some (some (.ref f_law_well)))
    (l_law_well : K.lookup f_law_well = some ⟨oc_law_well, od_law_well, .func (PySem.W.fnOf "_law_well" "_law_well" (defArgs st_law_well) (defBody st_law_well) (defScope st_law_well) .none kV_law_well dc_law_well pm_law_well an_law_well cd_law_well ct_law_well), sl_law_well⟩)
    (c_law_well : PySem.W.codeIn K cd_law_well "_law_well" = true)
    (k_law_well : PySem.W.keepIn K (.ref f_law_well) = true)
    (a_law_draw : PySem.W.nsIn K mainGlobals "_law_draw" = some (some (.ref f_law_draw)))
    (l_law_draw : K.lookup f_law_draw = some ⟨oc_law_draw, od_law_draw, .func (PySem.W.fnOf "_law_draw" "_law_draw" (defArgs st_law_draw) (defBody st_law_draw) (defScope st_law_draw) .none kV_law_draw dc_law_draw pm_law_draw an_law_draw cd_law_draw ct_law_draw), sl_law_draw⟩)
    (c_law_draw : PySem.W.codeIn K cd_law_draw "_law_draw" = true)
    (k_law_draw : PySem.W.keepIn K (.ref f_law_draw) = true)
    (a_law_pick : PySem.W.nsIn K mainGlobals "_law_pick" = some (some (.ref f_law_pick)))
    (l_law_pick : K.lookup f_law_pick = some ⟨oc_law_pick, od_law_pick, .func (PySem.W.fnOf "_law_pick" "_law_pick" (defArgs st_law_pick) (defBody st_law_pick) (defScope st_law_pick) .none kV_law_pick dc_law_pick pm_law_pick an_law_pick cd_law_pick ct_law_pick), sl_law_pick⟩)
    (c_law_pick : PySem.W.codeIn K cd_law_pick "_law_pick" = true)
    (k_law_pick : PySem.W.keepIn K (.ref f_law_pick) = true)
    (a_law_plan : PySem.W.nsIn K mainGlobals "_law_plan" = some (some (.ref f_law_plan)))
    (l_law_plan : K.lookup f_law_plan = some ⟨oc_law_plan, od_law_plan, .func (PySem.W.fnOf "_law_plan" "_law_plan" (defArgs st_law_plan) (defBody st_law_plan) (defScope st_law_plan) .none kV_law_plan dc_law_plan pm_law_plan an_law_plan cd_law_plan ct_law_plan), sl_law_plan⟩)
    (c_law_plan : PySem.W.codeIn K cd_law_plan "_law_plan" = true)
    (k_law_plan : PySem.W.keepIn K (.ref f_law_plan) = true)
    (a_law_aligned : PySem.W.nsIn K mainGlobals "_law_aligned" = some (some (.ref f_law_aligned)))
    (l_law_aligned : K.lookup f_law_aligned = some ⟨oc_law_aligned, od_law_aligned, .func (PySem.W.fnOf "_law_aligned" "_law_aligned" (defArgs st_law_aligned) (defBody st_law_aligned) (defScope st_law_aligned) .none kV_law_aligned dc_law_aligned pm_law_aligned an_law_aligned cd_law_aligned ct_law_aligned), sl_law_aligned⟩)
    (c_law_aligned : PySem.W.codeIn K cd_law_aligned "_law_aligned" = true)
    (k_law_aligned : PySem.W.keepIn K (.ref f_law_aligned) = true)
    (a_law_due : PySem.W.nsIn K mainGlobals "_law_due" = some (some (.ref f_law_due)))
    (l_law_due : K.lookup f_law_due = some ⟨oc_law_due, od_law_due, .func (PySem.W.fnOf "_law_due" "_law_due" (defArgs st_law_due) (defBody st_law_due) (defScope st_law_due) .none kV_law_due dc_law_due pm_law_due an_law_due cd_law_due ct_law_due), sl_law_due⟩)
    (c_law_due : PySem.W.codeIn K cd_law_due "_law_due" = true)
    (k_law_due : PySem.W.keepIn K (.ref f_law_due) = true)
    (a_law : PySem.W.nsIn K mainGlobals "law" = some (some (.ref f_law)))
    (l_law : K.lookup f_law = some ⟨oc_law, od_law, .func (PySem.W.fnOf "law" "law" (defArgs st_law) (defBody st_law) (defScope st_law) .none kV_law dc_law pm_law an_law cd_law ct_law), sl_law⟩)
    (c_law : PySem.W.codeIn K cd_law "law" = true)
    (k_law : PySem.W.keepIn K (.ref f_law) = true)
    (z_abs : PySem.W.nsIn K mainGlobals "abs" = some none)
    (z_enumerate : PySem.W.nsIn K mainGlobals "enumerate" = some none)
    (z_int : PySem.W.nsIn K mainGlobals "int" = some none)
    (z_len : PySem.W.nsIn K mainGlobals "len" = some none)
    (z_list : PySem.W.nsIn K mainGlobals "list" = some none)
    (z_max : PySem.W.nsIn K mainGlobals "max" = some none)
    (z_min : PySem.W.nsIn K mainGlobals "min" = some none)
    (z_range : PySem.W.nsIn K mainGlobals "range" = some none)
    (z_repr : PySem.W.nsIn K mainGlobals "repr" = some none)
    (z_str : PySem.W.nsIn K mainGlobals "str" = some none)
    (z_tuple : PySem.W.nsIn K mainGlobals "tuple" = some none)
    (z_zip : PySem.W.nsIn K mainGlobals "zip" = some none)
    (q_NOTHING : PySem.W.nsIn K mainGlobals "NOTHING" = some (some (.str "-" t_NOTHING))) :
    ∃ (fd : FuncData) (z : Ad), (clsA z).T = [] ∧ (∀ (s : Shared) (v : Value), BindsTo s fd ⟨[v], []⟩ [("_law_script", v)]) ∧ ∀ base : Heap, K.In base → base.Ns mainGlobals mg → FnG true l.prog w K mg base (L2.CX l.prog w) 4 fa fd ["_law_script"] (spM ⟨K, clsA z⟩ (fs1 t_law)) := by
  have e := hfa.symm.trans (PySem.W.mg_of X G0 a_law)
  cases e
  have F_report := fun_mk (st := st_report) l_report c_report k_report
  have B_report := F_report.binds (ps := ["policy"]) fun _ _ _ _ _ _ us hl => match us, hl with | [_], _ => rfl
  have F_law_well := fun_mk (st := st_law_well) l_law_well c_law_well k_law_well
  have B_law_well := F_law_well.binds (ps := ["_law_script", "_law_k"]) fun _ _ _ _ _ _ us hl => match us, hl with | [_, _], _ => rfl
  have F_law_draw := fun_mk (st := st_law_draw) l_law_draw c_law_draw k_law_draw
  have B_law_draw := F_law_draw.binds (ps := ["_law_well_here", "_law_many"]) fun _ _ _ _ _ _ us hl => match us, hl with | [_, _], _ => rfl
  have F_law_pick := fun_mk (st := st_law_pick) l_law_pick c_law_pick k_law_pick
  have B_law_pick := F_law_pick.binds (ps := ["_law_well_here", "_law_some"]) fun _ _ _ _ _ _ us hl => match us, hl with | [_, _], _ => rfl
  have F_law_plan := fun_mk (st := st_law_plan) l_law_plan c_law_plan k_law_plan
  have B_law_plan := F_law_plan.binds (ps := ["_law_well_here", "_law_levels", "_law_wide"]) fun _ _ _ _ _ _ us hl => match us, hl with | [_, _, _], _ => rfl
  have F_law_aligned := fun_mk (st := st_law_aligned) l_law_aligned c_law_aligned k_law_aligned
  have B_law_aligned := F_law_aligned.binds (ps := ["_law_word", "_law_wide"]) fun _ _ _ _ _ _ us hl => match us, hl with | [_, _], _ => rfl
  have F_law_due := fun_mk (st := st_law_due) l_law_due c_law_due k_law_due
  have B_law_due := F_law_due.binds (ps := ["_law_plan_here"]) fun _ _ _ _ _ _ us hl => match us, hl with | [_], _ => rfl
  have F_law := fun_mk (st := st_law) l_law c_law k_law
  have B_law := F_law.binds (ps := ["_law_script"]) fun _ _ _ _ _ _ us hl => match us, hl with | [_], _ => rfl
  have B_report_kw0 := kb_mk (ps := ["policy"]) (ks := ["policy"]) (n := 0) (is := [0]) F_report fun _ _ _ _ _ _ us ws h1 h2 => match us, h1, ws, h2 with | [], _, [_], _ => rfl
  have T : ∀ base : Heap, (∀ t ∈ ([] : List (Str × Addr × Addr)), LamX.TabB base mg t.2.1 t.2.2) → Txt K mg ⟨f_report, _, f_law_well, _, f_law_draw, _, f_law_pick, _, f_law_plan, _, f_law_aligned, _, f_law_due, _, fa, _, t_NOTHING⟩ base := fun base hbt => ⟨F_report, B_report, PySem.W.mg_of X G0 a_report, F_law_well, B_law_well, PySem.W.mg_of X G0 a_law_well, F_law_draw, B_law_draw, PySem.W.mg_of X G0 a_law_draw, F_law_pick, B_law_pick, PySem.W.mg_of X G0 a_law_pick, F_law_plan, B_law_plan, PySem.W.mg_of X G0 a_law_plan, F_law_aligned, B_law_aligned, PySem.W.mg_of X G0 a_law_aligned, F_law_due, B_law_due, PySem.W.mg_of X G0 a_law_due, F_law, B_law, PySem.W.mg_of X G0 a_law, B_report_kw0, PySem.W.mg_none_of X G0 z_abs, PySem.W.mg_none_of X G0 z_enumerate, PySem.W.mg_none_of X G0 z_int, PySem.W.mg_none_of X G0 z_len, PySem.W.mg_none_of X G0 z_list, PySem.W.mg_none_of X G0 z_max, PySem.W.mg_none_of X G0 z_min, PySem.W.mg_none_of X G0 z_range, PySem.W.mg_none_of X G0 z_repr, PySem.W.mg_none_of X G0 z_str, PySem.W.mg_none_of X G0 z_tuple, PySem.W.mg_none_of X G0 z_zip, PySem.W.mg_of X G0 q_NOTHING⟩
  exact ⟨_, _, rfl, fun s v => .of_eq rfl, fun base _ _ => o_law (T base (fun _ h => nomatch h))⟩
end G.K58
namespace G
open PySem
def wp {α : Type} (t : M α) (m : Hs) (Q : α → Hs → Prop) : Prop := match t m with
  | .ok a m' => Q a m'
  | _ => False
section
variable {α β γ : Type} {m : Hs} {Q : α → Hs → Prop} {A B C : Type}
theorem wp_imp {t : M α} {Q' : α → Hs → Prop} (h : wp t m Q) (k : ∀ a m', Q a m' → Q' a m') : wp t m Q' := by
  unfold wp at *
  split at h
  · exact k _ _ h
  · exact h.elim
theorem wp_iff_ok {t : M α} : wp t m Q ↔ ∃ a m', t m = .ok a m' ∧ Q a m' := by
  unfold wp
  constructor
  · intro h
    split at h
    · rename_i a m' e
      exact ⟨a, m', e, h⟩
    · exact h.elim
  · rintro ⟨a, m', e, h⟩
    rw [e]
    exact h
theorem wp_ret {a : α} : wp (ret a) m Q = Q a m := id rfl
theorem wp_bad : wp (bad : M α) m Q = False := id rfl
theorem wp_bnd {t : M β} {f : β → M α} : wp (bnd t f) m Q = wp t m fun b m' => wp (f b) m' Q := by
  unfold wp bnd
  cases t m <;> rfl
theorem wp_opt {o : Option α} : wp (opt o) m Q = ∃ a, o = some a ∧ Q a m := by
  cases o with
  | none => simp [opt, wp_bad]
  | some a => simp [opt, wp_ret]
theorem wp_ask {f : Hs → Option α} : wp (ask f) m Q = ∃ a, f m = some a ∧ Q a m := by
  unfold wp ask
  cases f m with
  | none => simp
  | some a => simp
theorem wp_put {f : Hs → Option Hs} {R : Unit → Hs → Prop} : wp (put f) m R = ∃ m', f m = some m' ∧ R () m' := by
  unfold wp put
  cases f m with
  | none => simp
  | some a => simp
theorem wp_ite {c : Prop} [Decidable c] {t u : M α} : wp (if c then t else u) m Q = if c then wp t m Q else wp u m Q := by split <;> rfl
theorem wp_gd {c : Prop} [Decidable c] {t : M α} : wp (if c then t else bad) m Q = (c ∧ wp t m Q) := by
  by_cases h : c
  · simp [h]
  · simp [h, wp_bad]
theorem wp_nxt {a : A} {R : Fl A B → Hs → Prop} : wp (nxt a) m R = R (.nx a) m := id rfl
theorem wp_brk {b : B} {R : Fl A B → Hs → Prop} : wp (brk b) m R = R (.bk b) m := id rfl
theorem wp_cnt {b : B} {R : Fl A B → Hs → Prop} : wp (cnt b) m R = R (.ct b) m := id rfl
theorem wp_rtn {t : M D} {R : Fl A B → Hs → Prop} : wp (rtn t) m R = wp t m fun d m' => R (.rt d) m' := by
  unfold rtn
  rw [wp_bnd]
  rfl
theorem wp_seq {t : M (Fl A B)} {f : A → M (Fl C B)} {R : Fl C B → Hs → Prop} : wp (seq t f) m R = wp t m fun fl m' => wp (goOn f fl) m' R := wp_bnd
theorem wp_iff {c : M D} {t u : M (Fl A B)} {R : Fl A B → Hs → Prop} : wp (iff c t u) m R = wp c m fun x m1 => wp (tru x) m1 fun k m2 => if k = true then wp t m2 R else wp u m2 R := by
  unfold iff
  rw [wp_bnd]
  congr 1
  funext x m1
  rw [wp_bnd]
  congr 1
  funext k m2
  rw [wp_ite]
theorem wp_fnM {t : M (Fl Unit Empty)} {R : D → Hs → Prop} : wp (fnM t) m R = wp t m fun fl m' => wp (fnE fl) m' R := wp_bnd
end
section
variable {m : Hs} {Q : D → Hs → Prop} {a b c : M D} {x y : D}
theorem wp_binM {o : Op} : wp (binM o a b) m Q = wp a m fun x m1 => wp b m1 fun y m2 => wp (binS o x y) m2 Q := by
  unfold binM
  rw [wp_bnd]
  congr 1
  funext x m1
  rw [wp_bnd]
theorem wp_cmpM {o : Cp} : wp (cmpM o a b) m Q = wp a m fun x m1 => wp b m1 fun y m2 => wp (cmpS o x y) m2 Q := by
  unfold cmpM
  rw [wp_bnd]
  congr 1
  funext x m1
  rw [wp_bnd]
theorem wp_idxM : wp (idxM a b) m Q = wp a m fun x m1 => wp b m1 fun y m2 => wp (idxS x y) m2 Q := by
  unfold idxM
  rw [wp_bnd]
  congr 1
  funext x m1
  rw [wp_bnd]
theorem wp_negM : wp (negM a) m Q = wp a m fun x m1 => wp (negS x) m1 Q := wp_bnd
theorem wp_notM : wp (notM a) m Q = wp a m fun x m1 => wp (tru x) m1 fun k m2 => Q (.bl (!k)) m2 := by
  unfold notM
  rw [wp_bnd]
  congr 1
  funext x m1
  rw [wp_bnd]
  rfl
theorem wp_andM : wp (andM a b) m Q = wp a m fun x m1 => wp (tru x) m1 fun k m2 => if k = true then wp b m2 Q else Q x m2 := by
  unfold andM
  rw [wp_bnd]
  congr 1
  funext x m1
  rw [wp_bnd]
  congr 1
  funext k m2
  rw [wp_ite]
  rfl
theorem wp_orM : wp (orM a b) m Q = wp a m fun x m1 => wp (tru x) m1 fun k m2 => if k = true then Q x m2 else wp b m2 Q := by
  unfold orM
  rw [wp_bnd]
  congr 1
  funext x m1
  rw [wp_bnd]
  congr 1
  funext k m2
  rw [wp_ite]
  rfl
theorem wp_iteM : wp (iteM c a b) m Q = wp c m fun x m1 => wp (tru x) m1 fun k m2 => if k = true then wp a m2 Q else wp b m2 Q := by
  unfold iteM
  rw [wp_bnd]
  congr 1
  funext x m1
  rw [wp_bnd]
  congr 1
  funext k m2
  rw [wp_ite]
theorem wp_chnS {k : Bool} : wp (chnS (.bl k) a b) m Q = if k = true then wp a m Q else wp b m Q := by cases k <;> rfl
theorem wp_chnM {o p : Cp} : wp (chnM o p a b c) m Q = wp a m fun x m1 => wp b m1 fun y m2 => wp (cmpS o x y) m2 fun z m3 => wp (chnS z (bnd c fun w => cmpS p y w) (ret (.bl false))) m3 Q := by
  unfold chnM
  rw [wp_bnd]
  congr 1
  funext x m1
  rw [wp_bnd]
  congr 1
  funext y m2
  rw [wp_bnd]
theorem wp_ls0 {R : List D → Hs → Prop} : wp (lsM []) m R = R [] m := id rfl
theorem wp_ls1 {ts : List (M D)} {R : List D → Hs → Prop} : wp (lsM (a :: ts)) m R = wp a m fun x m1 => wp (lsM ts) m1 fun xs m2 => R (x :: xs) m2 := by
  show wp (bnd a fun x => bnd (lsM ts) fun xs => ret (x :: xs)) m R = _
  rw [wp_bnd]
  congr 1
  funext x m1
  rw [wp_bnd]
  rfl
theorem wp_tupM {t : M (List D)} : wp (tupM t) m Q = wp t m fun xs m1 => xs.length ≤ sizeLine ∧ Q (.tup xs) m1 := by
  unfold tupM
  rw [wp_bnd]
  congr 1
  funext xs m1
  rw [wp_gd]
  rfl
theorem wp_lstM {t : M (List D)} : wp (lstM t) m Q = wp t m fun xs m1 => xs.length ≤ sizeLine ∧ Q (.fl xs) m1 := by
  unfold lstM
  rw [wp_bnd]
  congr 1
  funext xs m1
  rw [wp_gd]
  rfl
theorem wp_lshM {t : M (List D)} : wp (lshM t) m Q = wp t m fun xs m1 => xs.length ≤ sizeLine ∧ Q (.ref m1.length) (m1 ++ [.lst xs]) := by
  unfold lshM
  rw [wp_bnd]
  congr 1
  funext xs m1
  rw [wp_gd]
  rfl
theorem wp_ownM {t : M (List D)} {R : List D → Hs → Prop} : wp (ownM t) m R = wp t m fun xs m1 => xs.length ≤ sizeLine ∧ R xs m1 := by
  unfold ownM
  rw [wp_bnd]
  congr 1
  funext xs m1
  rw [wp_gd]
  rfl
theorem wp_idxL {xs : List D} : wp (idxL xs a) m Q = wp a m fun y m1 => wp (idlS xs y) m1 Q := wp_bnd
theorem wp_slcM {l h : M (Option Int)} : wp (slcM a l h) m Q = wp a m fun x m1 => wp l m1 fun l' m2 => wp h m2 fun h' m3 => wp (slcS x l' h') m3 Q := by
  unfold slcM
  rw [wp_bnd]
  congr 1
  funext x m1
  rw [wp_bnd]
  congr 1
  funext y m2
  rw [wp_bnd]
theorem wp_noP {R : Option Int → Hs → Prop} : wp noP m R = R none m := id rfl
theorem wp_soP {R : Option Int → Hs → Prop} : wp (soP a) m R = wp a m fun x m1 => wp (soS x) m1 R := wp_bnd
theorem wp_calM {f : List D → M D} {t : M (List D)} : wp (calM f t) m Q = wp t m fun xs m1 => wp (f xs) m1 Q := wp_bnd
variable {i j : Int}
theorem o_mul : binS .mul (.int i) (.int j) = if i.natAbs.log2 + j.natAbs.log2 < 1000000 then ret (.int (i * j)) else bad := rfl
theorem o_fdiv : binS .fdiv (.int i) (.int j) = if 0 < j ∧ j.natAbs.log2 < 9000 then ret (.int (i / j)) else bad := rfl
theorem o_mod : binS .mod (.int i) (.int j) = if 0 < j then ret (.int (i % j)) else bad := rfl
theorem o_pow : binS .pow (.int i) (.int j) = if 0 ≤ j ∧ (i.natAbs.log2 + 1) * j.toNat ≤ 134217728 then ret (.int (i ^ j.toNat)) else bad := rfl
theorem o_shl : binS .shl (.int i) (.int j) = if 0 ≤ j ∧ j ≤ 1000000 ∧ i.natAbs < 18446744073709551616 then ret (.int (i * 2 ^ j.toNat)) else bad := rfl
theorem o_addT {xs ys : List D} : binS .add (.tup xs) (.tup ys) = if xs.length + ys.length ≤ sizeLine then ret (.tup (xs ++ ys)) else bad := rfl
theorem o_addL {xs ys : List D} : binS .add (.fl xs) (.fl ys) = if xs.length + ys.length ≤ sizeLine then ret (.fl (xs ++ ys)) else bad := by
  funext m
  show (if xs.length + ys.length ≤ sizeLine then Rs.ok (D.fl (xs ++ ys)) m else .bad) = _
  split <;> rfl
theorem eqS_int : eqS (.int i) (.int j) m = some (i == j) := by
  simp only [eqS, eqP, pyD]
  rfl
theorem q_eq : cmpS .eq (.int i) (.int j) = ret (.bl (i == j)) := by
  funext m
  show bnd (ask (eqS (.int i) (.int j))) (fun b => ret (D.bl b)) m = _
  simp only [bnd, ask, eqS_int]
  rfl
theorem q_ne : cmpS .ne (.int i) (.int j) = ret (.bl (!(i == j))) := by
  funext m
  show bnd (ask (eqS (.int i) (.int j))) (fun b => ret (D.bl (!b))) m = _
  simp only [bnd, ask, eqS_int]
  rfl
theorem ix_r {n : Nat} : wp (idxS (.ref n) (.int i)) m Q = ∃ xs, m[n]? = some (.lst xs) ∧ ∃ d, atD xs i = some d ∧ Q d m := by
  show wp (bnd (ask (itemsOf (.ref n))) fun xs => opt (atD xs i)) m Q = _
  rw [wp_bnd, wp_ask]
  simp only [itemsOf, wp_opt]
  cases hm : m[n]? with
  | none => simp
  | some o =>
    cases o with
    | ins c fs => simp
    | exc c fs => simp
    | dct _ _ => simp
    | sd _ _ => simp
    | zd _ _ => simp
    | lst xs => simp
theorem at_nat {xs : List D} {k : Nat} : atD xs (k : Int) = xs[k]? := by
  unfold atD ixD
  rw [if_pos (Int.natCast_nonneg k)]
  by_cases h : (k : Int) < xs.length
  · rw [if_pos h]; simp
  · rw [if_neg h, List.getElem?_eq_none (by omega)]; rfl
theorem at_0 {x : D} {xs : List D} : atD (x :: xs) 0 = some x := at_nat (k := 0)
theorem at_1 {x0 x1 : D} {xs : List D} : atD (x0 :: x1 :: xs) 1 = some x1 := at_nat (k := 1)
theorem at_2 {x0 x1 x2 : D} {xs : List D} : atD (x0 :: x1 :: x2 :: xs) 2 = some x2 := at_nat (k := 2)
theorem at_3 {x0 x1 x2 x3 : D} {xs : List D} : atD (x0 :: x1 :: x2 :: x3 :: xs) 3 = some x3 := at_nat (k := 3)
theorem at_last {xs : List D} {x : D} : atD (xs ++ [x]) (-1) = some x := by
  unfold atD ixD
  rw [if_neg (by decide), if_pos (by simp; omega)]
  have e : ((-1 : Int) + ((xs ++ [x]).length : Int)).toNat = xs.length := by simp; omega
  rw [e]
  simp
theorem sumI_map : ∀ ns : List Int, sumI (ns.map D.int) = some ns.sum
  | [] => rfl
  | n :: ns => by simp [sumI, sumI_map ns]
theorem boolsOf_map : ∀ ns : List Bool, boolsOf (ns.map D.bl) = some ns
  | [] => rfl
  | n :: ns => by simp [boolsOf, boolsOf_map ns]
theorem f_sum {ns : List Int} : sumS [.fl (ns.map D.int)] = ret (.int ns.sum) := by
  show bnd (opt (sumI (ns.map D.int))) (fun k => ret (D.int k)) = _
  rw [sumI_map]
  rfl
theorem f_all {ns : List Bool} : allS [.fl (ns.map D.bl)] = ret (.bl (ns.all id)) := by
  show bnd (opt (boolsOf (ns.map D.bl))) (fun k => ret (D.bl (k.all id))) = _
  rw [boolsOf_map]
  rfl
theorem f_any {ns : List Bool} : anyS [.fl (ns.map D.bl)] = ret (.bl (ns.any id)) := by
  show bnd (opt (boolsOf (ns.map D.bl))) (fun k => ret (D.bl (k.any id))) = _
  rw [boolsOf_map]
  rfl
theorem wp_isiM {t : Ty} : wp (isiM t a) m Q = wp a m fun x m1 => wp (isiS t x) m1 Q := wp_bnd
end
theorem stay_nil {α : Type} {f : Unit → M α} : bnd (stay []) f = f () := rfl
section
variable {A B : Type} {m : Hs}
theorem forL_wp {body : D → A → M (Fl A A)} {R : Fl A B → Hs → Prop} (I : List D → A → Hs → Prop)
    (step : ∀ x xs s m, I (x :: xs) s m → wp (body x s) m fun fl m' => match fl with
      | .nx s' => I xs s' m'
      | .ct s' => I xs s' m'
      | .bk s' => R (.nx s') m'
      | .rt d => R (.rt d) m')
    (done : ∀ s m, I [] s m → R (.nx s) m) : ∀ (xs : List D) (s : A) (m : Hs), I xs s m → wp (forL [] body xs s) m R
  | [], s, m, h => done s m h
  | x :: xs, s, m, h => by
    show wp (bnd (body x s) (turnF (forL [] body xs))) m R
    rw [wp_bnd]
    refine wp_imp (step x xs s m h) fun fl m' q => ?_
    cases fl with
    | nx s' => exact forL_wp I step done xs s' m' q
    | ct s' => exact forL_wp I step done xs s' m' q
    | bk s' => exact q
    | rt d => exact q
theorem wp_forM {src : M Its} {s : A} {body : D → A → M (Fl A A)} {R : Fl A B → Hs → Prop} : wp (forM src s body) m R = wp src m fun z m' => wp (forL z.2 body z.1 s) m' R := wp_bnd
theorem wp_seqI {a : M D} {R : Its → Hs → Prop} : wp (seqI a) m R = wp a m fun x m1 => wp (ask (guardOf x)) m1 R := wp_bnd
theorem wp_rng1 {a : M D} {R : Its → Hs → Prop} : wp (rng1I a) m R = wp a m fun x m1 => wp (rng1S x) m1 R := wp_bnd
theorem rng1_int {n : Int} {R : Its → Hs → Prop} : wp (rng1S (.int n)) m R = ((-(2 ^ 62) ≤ n ∧ n < 2 ^ 62) ∧ R (rngL 0 n.toNat, []) m) := by
  show wp (if -(2 ^ 62) ≤ n ∧ n < 2 ^ 62 then ret (rngL 0 n.toNat, ([] : List (Nat × List D))) else bad) m R = _
  rw [wp_gd, wp_ret]
theorem wp_rng2 {a b : M D} {R : Its → Hs → Prop} : wp (rng2I a b) m R = wp a m fun x m1 => wp b m1 fun y m2 => wp (rng2S x y) m2 R := by
  unfold rng2I
  rw [wp_bnd]
  congr 1
  funext x m1
  rw [wp_bnd]
theorem rng2_int {i j : Int} {R : Its → Hs → Prop} : wp (rng2S (.int i) (.int j)) m R = ((-(2 ^ 62) ≤ i ∧ i < 2 ^ 62 ∧ -(2 ^ 62) ≤ j ∧ j < 2 ^ 62) ∧ R (rngL i (j - i).toNat, []) m) := by
  show wp (if -(2 ^ 62) ≤ i ∧ i < 2 ^ 62 ∧ -(2 ^ 62) ≤ j ∧ j < 2 ^ 62 then ret (rngL i (j - i).toNat, ([] : List (Nat × List D))) else bad) m R = _
  rw [wp_gd, wp_ret]
theorem wp_enum {a : M D} {R : Its → Hs → Prop} : wp (enumI a) m R = wp a m fun x m1 => wp (enumS x) m1 R := wp_bnd
theorem wp_enum2 {a b : M D} {R : Its → Hs → Prop} : wp (enum2I a b) m R = wp a m fun x m1 => wp b m1 fun y m2 => wp (enum2S x y) m2 R := by
  unfold enum2I
  rw [wp_bnd]
  congr 1
  funext x m1
  rw [wp_bnd]
theorem enum2_t {xs : List D} {s : Int} {R : Its → Hs → Prop} : wp (enum2S (.tup xs) (.int s)) m R = ((-(2 ^ 63) ≤ s ∧ s < 2 ^ 63) ∧ R (enumL s xs, []) m) := by
  show wp (if -(2 ^ 63) ≤ s ∧ s < 2 ^ 63 then ret (enumL s xs, ([] : List (Nat × List D))) else bad) m R = _
  rw [wp_gd, wp_ret]
theorem enum2_f {xs : List D} {s : Int} {R : Its → Hs → Prop} : wp (enum2S (.fl xs) (.int s)) m R = ((-(2 ^ 63) ≤ s ∧ s < 2 ^ 63) ∧ R (enumL s xs, []) m) := by
  show wp (if -(2 ^ 63) ≤ s ∧ s < 2 ^ 63 then ret (enumL s xs, ([] : List (Nat × List D))) else bad) m R = _
  rw [wp_gd, wp_ret]
theorem wp_zip {a b : M D} {R : Its → Hs → Prop} : wp (zipI a b) m R = wp a m fun x m1 => wp b m1 fun y m2 => wp (zipS x y) m2 R := by
  unfold zipI
  rw [wp_bnd]
  congr 1
  funext x m1
  rw [wp_bnd]
end
theorem wp_lcM {src : M Its} {turn : D → M (Option D)} {m : Hs} {Q : D → Hs → Prop} : wp (lcM src turn) m Q = wp src m fun z m1 => wp (lcL z.2 turn z.1 []) m1 fun ys m2 => Q (.fl ys) m2 := by
  unfold lcM
  rw [wp_bnd]
  congr 1
  funext z m1
  rw [wp_bnd]
  rfl
theorem wp_lcO {src : M Its} {turn : D → M (Option D)} {m : Hs} {R : List D → Hs → Prop} : wp (lcO src turn) m R = wp src m fun z m1 => wp (lcL z.2 turn z.1 []) m1 R := by
  unfold lcO
  rw [wp_bnd]
  congr 1
  funext z m1
  rw [wp_bnd]
  rfl
theorem calm_ret {α : Type} {a : α} : calm (ret a) = ret a := rfl
theorem lcL_pure {turn : D → M (Option D)} (f : D → Option D) : ∀ (xs acc : List D), (∀ x, x ∈ xs → turn x = ret (f x)) → acc.length + xs.length ≤ sizeLine → lcL [] turn xs acc = ret (acc ++ xs.filterMap f)
  | [], acc, _, _ => by simp [lcL, stay_nil]
  | x :: xs, acc, h, hl => by
    show bnd (calm (turn x)) _ = _
    rw [h x (by simp), calm_ret, bnd_ret]
    simp only [List.length_cons] at hl
    cases hf : f x with
    | none =>
      simp only [List.filterMap_cons, hf]
      exact lcL_pure f xs acc (fun y hy => h y (by simp [hy])) (by omega)
    | some y =>
      simp only [List.filterMap_cons, hf]
      rw [if_pos (by omega), lcL_pure f xs (acc ++ [y]) (fun y hy => h y (by simp [hy])) (by simp; omega)]
      simp
theorem lcL_map {turn : D → M (Option D)} (f : D → D) (xs : List D) (h : ∀ x, x ∈ xs → turn x = ret (some (f x))) (hl : xs.length ≤ sizeLine) : lcL [] turn xs [] = ret (xs.map f) := by
  rw [lcL_pure (fun x => some (f x)) xs [] h (by simpa using hl)]
  simp
theorem wp_appO {β : Type} {xs : List D} {t : M D} {k : List D → M β} {m : Hs} {R : β → Hs → Prop} : wp (appO xs t k) m R = wp t m fun y m1 => xs.length < sizeLine ∧ wp (k (xs ++ [y])) m1 R := by
  unfold appO
  rw [wp_bnd]
  congr 1
  funext y m1
  rw [wp_gd]
theorem wp_extO {β : Type} {xs : List D} {t : M D} {k : List D → M β} {m : Hs} {R : β → Hs → Prop} : wp (extO xs t k) m R = wp t m fun y m1 => wp (ask (lstOf y)) m1 fun ys m2 => xs.length + ys.length ≤ sizeLine ∧ wp (k (xs ++ ys)) m2 R := by
  unfold extO
  rw [wp_bnd]
  congr 1
  funext y m1
  rw [wp_bnd]
  congr 1
  funext ys m2
  rw [wp_gd]
end G
namespace G
open PySem
section
variable {m : Hs} {Q : D → Hs → Prop} {i j : Int} {xs ys : List D} {s t : Str} {b : Bool} {n : Nat} {x x0 x1 x2 x3 y : D} {R : Bool → Hs → Prop}
theorem w_add : wp (binS .add (.int i) (.int j)) m Q = (Q (.int (i + j)) m) := id rfl
theorem w_sub : wp (binS .sub (.int i) (.int j)) m Q = (Q (.int (i - j)) m) := id rfl
theorem w_mul : wp (binS .mul (.int i) (.int j)) m Q = (i.natAbs.log2 + j.natAbs.log2 < 1000000 ∧ Q (.int (i * j)) m) := by rw [o_mul, wp_gd, wp_ret]
theorem w_fdiv : wp (binS .fdiv (.int i) (.int j)) m Q = ((0 < j ∧ j.natAbs.log2 < 9000) ∧ Q (.int (i / j)) m) := by rw [o_fdiv, wp_gd, wp_ret]
theorem w_mod : wp (binS .mod (.int i) (.int j)) m Q = (0 < j ∧ Q (.int (i % j)) m) := by rw [o_mod, wp_gd, wp_ret]
theorem w_pow : wp (binS .pow (.int i) (.int j)) m Q = ((0 ≤ j ∧ (i.natAbs.log2 + 1) * j.toNat ≤ 134217728) ∧ Q (.int (i ^ j.toNat)) m) := by rw [o_pow, wp_gd, wp_ret]
theorem w_shl : wp (binS .shl (.int i) (.int j)) m Q = ((0 ≤ j ∧ j ≤ 1000000 ∧ i.natAbs < 18446744073709551616) ∧ Q (.int (i * 2 ^ j.toNat)) m) := by rw [o_shl, wp_gd, wp_ret]
theorem w_addT : wp (binS .add (.tup xs) (.tup ys)) m Q = (xs.length + ys.length ≤ sizeLine ∧ Q (.tup (xs ++ ys)) m) := by rw [o_addT, wp_gd, wp_ret]
theorem w_addL : wp (binS .add (.fl xs) (.fl ys)) m Q = (xs.length + ys.length ≤ sizeLine ∧ Q (.fl (xs ++ ys)) m) := by rw [o_addL, wp_gd, wp_ret]
theorem w_lt : wp (cmpS .lt (.int i) (.int j)) m Q = (Q (.bl (decide (i < j))) m) := id rfl
theorem w_le : wp (cmpS .le (.int i) (.int j)) m Q = (Q (.bl (decide (i ≤ j))) m) := id rfl
theorem w_gt : wp (cmpS .gt (.int i) (.int j)) m Q = (Q (.bl (decide (j < i))) m) := id rfl
theorem w_ge : wp (cmpS .ge (.int i) (.int j)) m Q = (Q (.bl (decide (j ≤ i))) m) := id rfl
theorem w_eqI : wp (cmpS .eq (.int i) (.int j)) m Q = (Q (.bl (i == j)) m) := by rw [q_eq, wp_ret]
theorem w_neI : wp (cmpS .ne (.int i) (.int j)) m Q = (Q (.bl (!(i == j))) m) := by rw [q_ne, wp_ret]
theorem w_eqS : wp (cmpS .eq (.str s) (.str t)) m Q = (Q (.bl (decide (s = t))) m) := id rfl
theorem w_neS : wp (cmpS .ne (.str s) (.str t)) m Q = (Q (.bl (!decide (s = t))) m) := id rfl
theorem w_isN : wp (cmpS .is .non .non) m Q = (Q (.bl true) m) := id rfl
theorem w_ntN : wp (cmpS .isnot .non .non) m Q = (Q (.bl false) m) := id rfl
theorem w_isI : wp (cmpS .is (.int i) .non) m Q = (Q (.bl false) m) := id rfl
theorem w_ntI : wp (cmpS .isnot (.int i) .non) m Q = (Q (.bl true) m) := id rfl
theorem w_isT : wp (cmpS .is (.tup xs) .non) m Q = (Q (.bl false) m) := id rfl
theorem w_ntT : wp (cmpS .isnot (.tup xs) .non) m Q = (Q (.bl true) m) := id rfl
theorem w_isF : wp (cmpS .is (.fl xs) .non) m Q = (Q (.bl false) m) := id rfl
theorem w_ntF : wp (cmpS .isnot (.fl xs) .non) m Q = (Q (.bl true) m) := id rfl
theorem w_isR : wp (cmpS .is (.ref n) .non) m Q = (Q (.bl false) m) := id rfl
theorem w_ntR : wp (cmpS .isnot (.ref n) .non) m Q = (Q (.bl true) m) := id rfl
theorem w_isB : wp (cmpS .is (.bl b) .non) m Q = (Q (.bl false) m) := id rfl
theorem w_ntB : wp (cmpS .isnot (.bl b) .non) m Q = (Q (.bl true) m) := id rfl
theorem w_isS : wp (cmpS .is (.str s) .non) m Q = (Q (.bl false) m) := id rfl
theorem w_ntS : wp (cmpS .isnot (.str s) .non) m Q = (Q (.bl true) m) := id rfl
theorem w_trB : wp (tru (.bl b)) m R = (R b m) := id rfl
theorem w_trI : wp (tru (.int i)) m R = (R (i != 0) m) := id rfl
theorem w_trN : wp (tru .non) m R = (R false m) := id rfl
theorem w_trT : wp (tru (.tup xs)) m R = (R (!xs.isEmpty) m) := id rfl
theorem w_trF : wp (tru (.fl xs)) m R = (R (!xs.isEmpty) m) := id rfl
theorem w_ixT0 : wp (idxS (.tup (x0 :: xs)) (.int 0)) m Q = (Q x0 m) := by show wp (opt (atD _ _)) m Q = _; rw [at_0]; rfl
theorem w_ixT1 : wp (idxS (.tup (x0 :: x1 :: xs)) (.int 1)) m Q = (Q x1 m) := by show wp (opt (atD _ _)) m Q = _; rw [at_1]; rfl
theorem w_ixT2 : wp (idxS (.tup (x0 :: x1 :: x2 :: xs)) (.int 2)) m Q = (Q x2 m) := by show wp (opt (atD _ _)) m Q = _; rw [at_2]; rfl
theorem w_ixT3 : wp (idxS (.tup (x0 :: x1 :: x2 :: x3 :: xs)) (.int 3)) m Q = (Q x3 m) := by show wp (opt (atD _ _)) m Q = _; rw [at_3]; rfl
theorem w_ixF0 : wp (idxS (.fl (x0 :: xs)) (.int 0)) m Q = (Q x0 m) := by show wp (opt (atD _ _)) m Q = _; rw [at_0]; rfl
theorem w_ixF1 : wp (idxS (.fl (x0 :: x1 :: xs)) (.int 1)) m Q = (Q x1 m) := by show wp (opt (atD _ _)) m Q = _; rw [at_1]; rfl
theorem w_ixF2 : wp (idxS (.fl (x0 :: x1 :: x2 :: xs)) (.int 2)) m Q = (Q x2 m) := by show wp (opt (atD _ _)) m Q = _; rw [at_2]; rfl
theorem w_ixF3 : wp (idxS (.fl (x0 :: x1 :: x2 :: x3 :: xs)) (.int 3)) m Q = (Q x3 m) := by show wp (opt (atD _ _)) m Q = _; rw [at_3]; rfl
theorem w_ixS0 : wp (idxS (.sc (x0 :: xs)) (.int 0)) m Q = (Q x0 m) := by show wp (opt (atD _ _)) m Q = _; rw [at_0]; rfl
theorem w_ixS1 : wp (idxS (.sc (x0 :: x1 :: xs)) (.int 1)) m Q = (Q x1 m) := by show wp (opt (atD _ _)) m Q = _; rw [at_1]; rfl
theorem w_ixS2 : wp (idxS (.sc (x0 :: x1 :: x2 :: xs)) (.int 2)) m Q = (Q x2 m) := by show wp (opt (atD _ _)) m Q = _; rw [at_2]; rfl
theorem w_ixS3 : wp (idxS (.sc (x0 :: x1 :: x2 :: x3 :: xs)) (.int 3)) m Q = (Q x3 m) := by show wp (opt (atD _ _)) m Q = _; rw [at_3]; rfl
theorem w_ixT : wp (idxS (.tup xs) (.int i)) m Q = (∃ d, atD xs i = some d ∧ Q d m) := by show wp (opt (atD _ _)) m Q = _; rw [wp_opt]
theorem w_ixF : wp (idxS (.fl xs) (.int i)) m Q = (∃ d, atD xs i = some d ∧ Q d m) := by show wp (opt (atD _ _)) m Q = _; rw [wp_opt]
theorem w_ixS : wp (idxS (.sc xs) (.int i)) m Q = (∃ d, atD xs i = some d ∧ Q d m) := by show wp (opt (atD _ _)) m Q = _; rw [wp_opt]
theorem w_idL : wp (idlS xs (.int i)) m Q = (∃ d, atD xs i = some d ∧ Q d m) := by show wp (opt (atD _ _)) m Q = _; rw [wp_opt]
theorem w_neg : wp (negS (.int i)) m Q = (Q (.int (-i)) m) := id rfl
variable {l h : Option Int}
theorem w_slT : wp (slcS (.tup xs) l h) m Q = (Q (.tup (cutD xs l h)) m) := id rfl
theorem w_slF : wp (slcS (.fl xs) l h) m Q = (Q (.fl (cutD xs l h)) m) := id rfl
theorem w_soP {R : Option Int → Hs → Prop} : wp (soS (.int i)) m R = R (some i) m := id rfl
theorem w_lenT : wp (lenS [.tup xs]) m Q = (Q (.int xs.length) m) := id rfl
theorem w_lenF : wp (lenS [.fl xs]) m Q = (Q (.int xs.length) m) := id rfl
theorem w_lenS : wp (lenS [.sc xs]) m Q = (Q (.int xs.length) m) := id rfl
theorem w_abs : wp (absS [.int i]) m Q = (Q (.int (if i < 0 then -i else i)) m) := id rfl
theorem w_min : wp (min2S [.int i, .int j]) m Q = (Q (.int (if j < i then j else i)) m) := id rfl
theorem w_max : wp (max2S [.int i, .int j]) m Q = (Q (.int (if j > i then j else i)) m) := id rfl
theorem w_intI : wp (intS [.int i]) m Q = (Q (.int i) m) := id rfl
theorem w_intB : wp (intS [.bl b]) m Q = (Q (.int (if b then 1 else 0)) m) := id rfl
theorem w_tupT : wp (tupleS [.tup xs]) m Q = (Q (.tup xs) m) := id rfl
theorem w_tupF : wp (tupleS [.fl xs]) m Q = (Q (.tup xs) m) := id rfl
theorem w_lstT : wp (listS [.tup xs]) m Q = (Q (.fl xs) m) := id rfl
theorem w_lstF : wp (listS [.fl xs]) m Q = (Q (.fl xs) m) := id rfl
variable {is : List Int} {bs : List Bool}
theorem w_sum : wp (sumS [.fl (is.map D.int)]) m Q = (Q (.int is.sum) m) := by rw [f_sum, wp_ret]
theorem w_all : wp (allS [.fl (bs.map D.bl)]) m Q = (Q (.bl (bs.all id)) m) := by rw [f_all, wp_ret]
theorem w_any : wp (anyS [.fl (bs.map D.bl)]) m Q = (Q (.bl (bs.any id)) m) := by rw [f_any, wp_ret]
theorem w_is_int_N : wp (isiS .int .non) m Q = (Q (.bl false) m) := id rfl
theorem w_is_int_B : wp (isiS .int (.bl b)) m Q = (Q (.bl true) m) := id rfl
theorem w_is_int_I : wp (isiS .int (.int i)) m Q = (Q (.bl true) m) := id rfl
theorem w_is_int_S : wp (isiS .int (.str s)) m Q = (Q (.bl false) m) := id rfl
theorem w_is_int_T : wp (isiS .int (.tup xs)) m Q = (Q (.bl false) m) := id rfl
theorem w_is_int_F : wp (isiS .int (.fl xs)) m Q = (Q (.bl false) m) := id rfl
theorem w_is_bl_N : wp (isiS .bl .non) m Q = (Q (.bl false) m) := id rfl
theorem w_is_bl_B : wp (isiS .bl (.bl b)) m Q = (Q (.bl true) m) := id rfl
theorem w_is_bl_I : wp (isiS .bl (.int i)) m Q = (Q (.bl false) m) := id rfl
theorem w_is_bl_S : wp (isiS .bl (.str s)) m Q = (Q (.bl false) m) := id rfl
theorem w_is_bl_T : wp (isiS .bl (.tup xs)) m Q = (Q (.bl false) m) := id rfl
theorem w_is_bl_F : wp (isiS .bl (.fl xs)) m Q = (Q (.bl false) m) := id rfl
theorem w_is_tup_N : wp (isiS .tup .non) m Q = (Q (.bl false) m) := id rfl
theorem w_is_tup_B : wp (isiS .tup (.bl b)) m Q = (Q (.bl false) m) := id rfl
theorem w_is_tup_I : wp (isiS .tup (.int i)) m Q = (Q (.bl false) m) := id rfl
theorem w_is_tup_S : wp (isiS .tup (.str s)) m Q = (Q (.bl false) m) := id rfl
theorem w_is_tup_T : wp (isiS .tup (.tup xs)) m Q = (Q (.bl true) m) := id rfl
theorem w_is_tup_F : wp (isiS .tup (.fl xs)) m Q = (Q (.bl false) m) := id rfl
theorem w_is_str_N : wp (isiS .str .non) m Q = (Q (.bl false) m) := id rfl
theorem w_is_str_B : wp (isiS .str (.bl b)) m Q = (Q (.bl false) m) := id rfl
theorem w_is_str_I : wp (isiS .str (.int i)) m Q = (Q (.bl false) m) := id rfl
theorem w_is_str_S : wp (isiS .str (.str s)) m Q = (Q (.bl true) m) := id rfl
theorem w_is_str_T : wp (isiS .str (.tup xs)) m Q = (Q (.bl false) m) := id rfl
theorem w_is_str_F : wp (isiS .str (.fl xs)) m Q = (Q (.bl false) m) := id rfl
theorem w_is_lst_N : wp (isiS .lst .non) m Q = (Q (.bl false) m) := id rfl
theorem w_is_lst_B : wp (isiS .lst (.bl b)) m Q = (Q (.bl false) m) := id rfl
theorem w_is_lst_I : wp (isiS .lst (.int i)) m Q = (Q (.bl false) m) := id rfl
theorem w_is_lst_S : wp (isiS .lst (.str s)) m Q = (Q (.bl false) m) := id rfl
theorem w_is_lst_T : wp (isiS .lst (.tup xs)) m Q = (Q (.bl false) m) := id rfl
theorem w_is_lst_F : wp (isiS .lst (.fl xs)) m Q = (Q (.bl true) m) := id rfl
theorem w_guT {R : Its → Hs → Prop} : wp (ask (guardOf (.tup xs))) m R = R (xs, []) m := id rfl
theorem w_guF {R : Its → Hs → Prop} : wp (ask (guardOf (.fl xs))) m R = R (xs, []) m := id rfl
theorem w_guS {R : Its → Hs → Prop} : wp (ask (guardOf (.sc xs))) m R = R (xs, []) m := id rfl
theorem w_lsF {R : List D → Hs → Prop} : wp (ask (lstOf (.fl xs))) m R = R xs m := id rfl
theorem w_enT {R : Its → Hs → Prop} : wp (enumS (.tup xs)) m R = R (enumL 0 xs, []) m := id rfl
theorem w_enF {R : Its → Hs → Prop} : wp (enumS (.fl xs)) m R = R (enumL 0 xs, []) m := id rfl
theorem w_zpT {R : Its → Hs → Prop} : wp (zipS (.tup xs) (.tup ys)) m R = R (zipL xs ys, []) m := id rfl
theorem w_zpF {R : Its → Hs → Prop} : wp (zipS (.fl xs) (.fl ys)) m R = R (zipL xs ys, []) m := id rfl
theorem w_gadd : wp (augS .add (.int i) (.int j)) m Q = (Q (.int (i + j)) m) := id rfl
theorem w_gsub : wp (augS .sub (.int i) (.int j)) m Q = (Q (.int (i - j)) m) := id rfl
theorem w_fs1 {f : D → M D} {a1 : D} : wp (fs1 f [a1]) m Q = wp (f a1) m Q := id rfl
theorem w_fs2 {f : D → D → M D} {a1 a2 : D} : wp (fs2 f [a1, a2]) m Q = wp (f a1 a2) m Q := id rfl
theorem w_fs3 {f : D → D → D → M D} {a1 a2 a3 : D} : wp (fs3 f [a1, a2, a3]) m Q = wp (f a1 a2 a3) m Q := id rfl
theorem w_fs4 {f : D → D → D → D → M D} {a1 a2 a3 a4 : D} : wp (fs4 f [a1, a2, a3, a4]) m Q = wp (f a1 a2 a3 a4) m Q := id rfl
theorem w_fs5 {f : D → D → D → D → D → M D} {a1 a2 a3 a4 a5 : D} : wp (fs5 f [a1, a2, a3, a4, a5]) m Q = wp (f a1 a2 a3 a4 a5) m Q := id rfl
theorem w_fs6 {f : D → D → D → D → D → D → M D} {a1 a2 a3 a4 a5 a6 : D} : wp (fs6 f [a1, a2, a3, a4, a5, a6]) m Q = wp (f a1 a2 a3 a4 a5 a6) m Q := id rfl
theorem w_un2 {β : Type} {f : D → D → M β} {a1 a2 : D} {S : β → Hs → Prop} : wp (un2 (.tup [a1, a2]) f) m S = wp (f a1 a2) m S := id rfl
theorem w_un3 {β : Type} {f : D → D → D → M β} {a1 a2 a3 : D} {S : β → Hs → Prop} : wp (un3 (.tup [a1, a2, a3]) f) m S = wp (f a1 a2 a3) m S := id rfl
theorem w_un4 {β : Type} {f : D → D → D → D → M β} {a1 a2 a3 a4 : D} {S : β → Hs → Prop} : wp (un4 (.tup [a1, a2, a3, a4]) f) m S = wp (f a1 a2 a3 a4) m S := id rfl
theorem w_goN {A B C : Type} {a : A} {f : A → M (Fl C B)} {S : Fl C B → Hs → Prop} : wp (goOn f (.nx a)) m S = wp (f a) m S := id rfl
theorem w_goR {A B C : Type} {d : D} {f : A → M (Fl C B)} {S : Fl C B → Hs → Prop} : wp (goOn f (.rt d)) m S = S (.rt d) m := id rfl
theorem w_goB {A B C : Type} {b : B} {f : A → M (Fl C B)} {S : Fl C B → Hs → Prop} : wp (goOn f (.bk b)) m S = S (.bk b) m := id rfl
theorem w_goC {A B C : Type} {b : B} {f : A → M (Fl C B)} {S : Fl C B → Hs → Prop} : wp (goOn f (.ct b)) m S = S (.ct b) m := id rfl
theorem w_feN {u : Unit} : wp (fnE (.nx u)) m Q = Q .non m := id rfl
theorem w_feR {d : D} : wp (fnE (.rt d)) m Q = Q d m := id rfl
theorem w_repr : wp (reprS [x]) m Q = ∃ p, pyD m deepest x = some p ∧ (p.showable = true ∧ p.shown.length ≤ sizeLine) ∧ Q (.str p.shown) m := by
  show wp (bnd (ask fun m => pyD m deepest x) fun p => if p.showable = true ∧ p.shown.length ≤ sizeLine then ret (D.str p.shown) else bad) m Q = _
  rw [wp_bnd, wp_ask]
  simp only [wp_gd, wp_ret]
end
end G
namespace G
open PySem
section
variable {m : Hs} {Q : D → Hs → Prop} {n : Nat} {x0 x1 x2 v : D} {xs : List D} {o o' : O}
theorem hs_set (h : m[n]? = some o') : (m.set n o)[n]? = some o := List.getElem?_set_self (List.getElem?_eq_some_iff.mp h).1
theorem hs_new : (m ++ [o])[m.length]? = some o := by simp
theorem hs_app {g : Hs} (h : m[n]? = some o) : (m ++ g)[n]? = some o := by
  rw [List.getElem?_append_left (List.getElem?_eq_some_iff.mp h).1]
  exact h
theorem ixr0 (h : m[n]? = some (.lst (x0 :: xs))) : wp (idxS (.ref n) (.int 0)) m Q = Q x0 m := by
  rw [ix_r, h]
  simp [at_0]
theorem ixr1 (h : m[n]? = some (.lst (x0 :: x1 :: xs))) : wp (idxS (.ref n) (.int 1)) m Q = Q x1 m := by
  rw [ix_r, h]
  simp [at_1]
theorem ixr2 (h : m[n]? = some (.lst (x0 :: x1 :: x2 :: xs))) : wp (idxS (.ref n) (.int 2)) m Q = Q x2 m := by
  rw [ix_r, h]
  simp [at_2]
theorem wp_subT {a i : M D} {R : Unit → Hs → Prop} : wp (subT a i v) m R = wp a m fun x m1 => wp i m1 fun y m2 => wp (put (itmO x y v)) m2 R := by
  unfold subT
  rw [wp_bnd]
  congr 1
  funext x m1
  rw [wp_bnd]
theorem itm0 {R : Unit → Hs → Prop} (h : m[n]? = some (.lst (x0 :: xs))) : wp (put (itmO (.ref n) (.int 0) v)) m R = R () (m.set n (.lst (v :: xs))) := by
  rw [wp_put]
  simp only [itmO, h]
  have e : ixD (x0 :: xs).length 0 = some 0 := by
    simp only [ixD, List.length_cons]
    rw [if_pos (by decide), if_pos (by omega)]
    rfl
  rw [e]
  simp
theorem itm2 {R : Unit → Hs → Prop} (h : m[n]? = some (.lst (x0 :: x1 :: x2 :: xs))) : wp (put (itmO (.ref n) (.int 2) v)) m R = R () (m.set n (.lst (x0 :: x1 :: v :: xs))) := by
  rw [wp_put]
  simp only [itmO, h]
  have e : ixD (x0 :: x1 :: x2 :: xs).length 2 = some 2 := by
    simp only [ixD, List.length_cons]
    rw [if_pos (by decide), if_pos (by omega)]
    rfl
  rw [e]
  simp
end
def Bd (k : Nat) (i : Int) : Prop := i.natAbs < 2 ^ k
theorem Bd.of {k : Nat} {i : Int} (h1 : -(2 ^ k) < i) (h2 : i < 2 ^ k) : Bd k i := by
  unfold Bd
  have e : ((2 ^ k : Nat) : Int) = 2 ^ k := by push_cast; rfl
  omega
theorem Bd.mono {k l : Nat} {i : Int} (h : Bd k i) (hl : k ≤ l) : Bd l i := Nat.lt_of_lt_of_le h (Nat.pow_le_pow_right (by decide) hl)
theorem Bd.log {k : Nat} {i : Int} (h : Bd k i) : i.natAbs.log2 ≤ k := by
  by_cases hz : i.natAbs = 0
  · rw [hz]
    simp
  · exact Nat.le_of_lt ((Nat.log2_lt hz).mpr h)
theorem Bd.mul {k l : Nat} {i j : Int} (h : Bd k i) (h' : Bd l j) : Bd (k + l) (i * j) := by
  unfold Bd at *
  rw [Int.natAbs_mul, Nat.pow_add]
  exact Nat.mul_lt_mul'' h h'
theorem Bd.add {k : Nat} {i j : Int} (h : Bd k i) (h' : Bd k j) : Bd (k + 1) (i + j) := by
  unfold Bd at *
  rw [Nat.pow_succ]
  have := Int.natAbs_add_le i j
  omega
theorem mul_bd {k l : Nat} {i j : Int} (h : Bd k i) (h' : Bd l j) (hk : k + l < 1000000) : i.natAbs.log2 + j.natAbs.log2 < 1000000 := by
  have a := h.log
  have b := h'.log
  omega
theorem mul_ok {i j : Int} (h1 : -(2 ^ 200) < i) (h2 : i < 2 ^ 200) (h3 : -(2 ^ 200) < j) (h4 : j < 2 ^ 200) : i.natAbs.log2 + j.natAbs.log2 < 1000000 := mul_bd (Bd.of h1 h2) (Bd.of h3 h4) (by decide)
theorem div_bd {k : Nat} {j : Int} (h1 : 0 < j) (h : Bd k j) (hk : k < 9000) : 0 < j ∧ j.natAbs.log2 < 9000 := ⟨h1, by
  have a := h.log
  omega⟩
theorem div_ok {j : Int} (h1 : 0 < j) (h2 : j < 2 ^ 200) : 0 < j ∧ j.natAbs.log2 < 9000 := div_bd h1 (Bd.of (by omega) h2) (by decide)
def Dw (m : Hs) (n : Nat) (k : Int) : Prop := ∃ g x s : Int, m[n]? = some (.lst [.int g, .int x, .int s]) ∧ 0 ≤ g ∧ 0 ≤ x ∧ x < 2 ^ 70 ∧ 0 ≤ s ∧ s ≤ k
theorem Dw.mono {m : Hs} {n : Nat} {k l : Int} (h : Dw m n k) (hk : k ≤ l) : Dw m n l := by
  obtain ⟨g, x, s, h1, h2, h3, h4, h5, h6⟩ := h
  exact ⟨g, x, s, h1, h2, h3, h4, h5, by omega⟩
theorem Dw.app {m g : Hs} {n : Nat} {k : Int} (h : Dw m n k) : Dw (m ++ g) n k := by
  obtain ⟨a, x, s, h1, h2⟩ := h
  exact ⟨a, x, s, hs_app h1, h2⟩
end G
namespace G
open PySem
theorem ix_one {P : Int → Prop} {ns : List Int} {m : Hs} {i : Int} {Q : D → Hs → Prop} (h0 : 0 ≤ i) (h1 : i < ns.length) (hp : ∀ n, n ∈ ns → P n) (h : ∀ n, n ∈ ns → P n → Q (.int n) m) : wp (idxS (.fl (ns.map .int)) (.int i)) m Q := by
  rw [w_ixF]
  obtain ⟨k, rfl⟩ := Int.eq_ofNat_of_zero_le h0
  have hk : k < ns.length := by omega
  refine ⟨.int ns[k], ?_, h _ (List.getElem_mem hk) (hp _ (List.getElem_mem hk))⟩
  show atD _ ((k : Nat) : Int) = _
  rw [at_nat, List.getElem?_map, List.getElem?_eq_getElem hk]
  rfl
theorem ix_any {xs : List D} {m : Hs} {i : Int} {Q : D → Hs → Prop} (h0 : 0 ≤ i) (h1 : i < xs.length) (h : ∀ x, x ∈ xs → Q x m) : wp (idxS (.fl xs) (.int i)) m Q := by
  rw [w_ixF]
  obtain ⟨k, rfl⟩ := Int.eq_ofNat_of_zero_le h0
  have hk : k < xs.length := by omega
  refine ⟨xs[k], ?_, h _ (List.getElem_mem hk)⟩
  show atD _ ((k : Nat) : Int) = _
  rw [at_nat, List.getElem?_eq_getElem hk]
theorem sz_le {n : Nat} (h : n ≤ 16777216) : n ≤ sizeLine := h
theorem sz_lt {n : Nat} (h : n < 16777216) : n < sizeLine := h
theorem mod2 {a b : Int} (h : 0 < b) : 0 ≤ a % b ∧ a % b < b := ⟨Int.emod_nonneg _ (by omega), Int.emod_lt_of_pos _ h⟩
theorem pow_ok {i j : Int} {k : Nat} (h : Bd k i) (hj : 0 ≤ j) (hk : (k + 1) * j.toNat ≤ 134217728) : 0 ≤ j ∧ (i.natAbs.log2 + 1) * j.toNat ≤ 134217728 := by
  refine ⟨hj, Nat.le_trans (Nat.mul_le_mul_right _ ?_) hk⟩
  have := h.log
  omega
end G
namespace G
open PySem
section
variable {k k' : Str} {v u : D} {l : List (Str × D)}
end
section
variable {m : Hs} {Q : D → Hs → Prop} {n c : Nat} {fs : List (Str × D)} {f : Str} {v w x : D} {at' : Nat → Str → Bool} {tb : Nat → Option (List D → M D)} {g : List D → M D}
theorem wp_fldM {a : M D} : wp (fldM at' a f) m Q = wp a m fun x m1 => wp (fldS at' f x) m1 Q := wp_bnd
theorem wp_fldT {a : M D} {R : Unit → Hs → Prop} : wp (fldT at' a f w) m R = wp a m fun x m1 => wp (put (setO at' f w x)) m1 R := wp_bnd
theorem wp_mthM {a : M D} {t : M (List D)} : wp (mthM tb a f t) m Q = wp a m fun x m1 => wp (mthS tb f x) m1 fun g m2 => wp t m2 fun xs m3 => wp (g (x :: xs)) m3 Q := by
  unfold mthM
  rw [wp_bnd]
  congr 1
  funext x m1
  rw [wp_bnd]
  congr 1
  funext g m2
  rw [wp_bnd]
theorem wp_makM {init : List D → M D} {t : M (List D)} : wp (makM c init t) m Q = wp t m fun xs m1 => wp (init (.ref m1.length :: xs)) (m1 ++ [.ins c []]) fun z m2 => wp (nonS z (.ref m1.length)) m2 Q := by
  unfold makM
  rw [wp_bnd]
  congr 1
  funext xs m1
  rw [wp_bnd]
  show wp (bnd (init (.ref m1.length :: xs)) fun z => nonS z (.ref m1.length)) (m1 ++ [.ins c []]) Q = _
  rw [wp_bnd]
theorem nonS_non : wp (nonS .non x) m Q = Q x m := id rfl
theorem wp_augF {o : Op} {a t : M D} {R : Unit → Hs → Prop} : wp (augF at' o a f t) m R = wp a m fun x m1 => wp (ask (fldC at' f x)) m1 fun p m2 => wp t m2 fun y m3 => wp (augS o p.2 y) m3 fun z m4 => wp (put (setC p.1 f z x)) m4 R := by
  unfold augF
  rw [wp_bnd]
  congr 1
  funext x m1
  rw [wp_bnd]
  congr 1
  funext p m2
  rw [wp_bnd]
  congr 1
  funext y m3
  rw [wp_bnd]
theorem tpT2 {t1 t2 : D → M Unit} {d1 d2 : D} {R : Unit → Hs → Prop} : wp (tpT [t1, t2] (.tup [d1, d2])) m R = wp (t1 d1) m fun _ m1 => wp (t2 d2) m1 R := by
  show wp (bnd (t1 d1) fun _ => bnd (t2 d2) fun _ => ret ()) m R = _
  rw [wp_bnd]
  congr 1
  funext _ m1
  rw [wp_bnd]
  congr 1
end
end G
namespace G
theorem ret_of {α : Type} {t : M α} {v : α} (h : ∀ (m : Hs) (Q : α → Hs → Prop), Q v m → wp t m Q) : t = ret v := by
  funext m
  obtain ⟨a, m', e, rfl, rfl⟩ := wp_iff_ok.1 (h m (fun a m' => a = v ∧ m' = m) ⟨rfl, rfl⟩)
  exact e
end G
namespace G
end G
namespace G
open PySem
def il (xs : List Int) : D := .tup (xs.map .int)
def pol (cs ls : List Int) (fx : Int) : D := .tup [il cs, il ls, .int fx]
def ab (i : Int) : Int := if i < 0 then -i else i
structure Mv where
  no : Int
  up : Bool
  lv : Nat
  cp : Int
def Mv.d (v : Mv) : D := .tup [.int v.no, .str (if v.up then "grow" else "shrink"), .int v.lv, .int v.cp]
structure Tk where
  lv : Nat
  sz : Int
  pd : Int
  dn : Int
def Tk.up (fx : Int) (t : Tk) (u : Int) : Tk := ⟨t.lv + 1, u + 1, t.pd + (u + fx), t.dn + (ab (u - t.sz) + 1)⟩
def Tk.down (fx : Int) (t : Tk) (l : Int) : Tk := ⟨t.lv - 1, l, t.pd + (l + fx), t.dn + (ab (l + 1 - t.sz) + 1)⟩
def Tk.rest (t : Tk) (goal : Int) : Tk := ⟨t.lv, goal, t.pd, t.dn + ab (goal - t.sz)⟩
def pushT (fx goal : Int) : List (Int × Int) → Tk → Tk × List Mv
  | [], t => (t.rest goal, [])
  | p :: ps, t => if p.1 < goal then
      let r := pushT fx goal ps (t.up fx p.1)
      (r.1, ⟨t.dn + ab (p.1 - t.sz), true, t.lv + 1, p.1⟩ :: r.2)
    else (t.rest goal, [])
def popT (fx goal : Int) : List (Int × Int) → Tk → Tk × List Mv
  | [], t => (t.rest goal, [])
  | p :: ps, t => if goal ≤ p.2 then
      let r := popT fx goal ps (t.down fx p.2)
      (r.1, ⟨t.dn + ab (p.2 + 1 - t.sz), false, t.lv - 1, p.2⟩ :: r.2)
    else (t.rest goal, [])
abbrev Opn := Bool × Int
def wd (b : Bool) : Str := if b then "push" else "pop"
def okOp (o : Opn) : Prop := 1 ≤ o.2 ∧ o.2 ≤ 1000000000000000000
end G
namespace G
open PySem
structure Vp (cs ls : List Int) : Prop where
  len : cs.length = ls.length + 1
  asc : ∀ (i : Nat) (a b : Int), cs[i]? = some a → cs[i + 1]? = some b → a < b
  pos : ∀ (i : Nat) (a : Int), cs[i]? = some a → 1 ≤ a
  lasc : ∀ (i : Nat) (a b : Int), ls[i]? = some a → ls[i + 1]? = some b → a < b
  lpos : ∀ (i : Nat) (a : Int), ls[i]? = some a → 0 ≤ a
  le : ∀ (i : Nat) (a b : Int), ls[i]? = some a → cs[i]? = some b → a ≤ b
structure Sv (cs ls : List Int) (lv : Nat) (sz : Int) : Prop where
  top : ∃ c, cs[lv]? = some c ∧ sz ≤ c
  low : 0 ≤ sz
  lim : ∀ (q : Nat) (l : Int), lv = q + 1 → ls[q]? = some l → l < sz
theorem zip_at {cs ls : List Int} {i : Nat} {c l : Int} (h1 : cs[i]? = some c) (h2 : ls[i]? = some l) : (cs.zip ls)[i]? = some (c, l) := by
  rw [List.getElem?_zip_eq_some]
  exact ⟨h1, h2⟩
theorem get_lt {α : Type} {l : List α} {i : Nat} {a : α} (h : l[i]? = some a) : i < l.length := (List.getElem?_eq_some_iff.mp h).1
theorem get_ex {α : Type} {l : List α} {i : Nat} (h : i < l.length) : ∃ a, l[i]? = some a := ⟨_, List.getElem?_eq_getElem h⟩
theorem drop_at {α : Type} {l : List α} {i : Nat} {a : α} (h : l[i]? = some a) : l.drop i = a :: l.drop (i + 1) := by
  rw [List.drop_eq_getElem_cons (get_lt h)]
  congr 1
  exact (List.getElem?_eq_some_iff.mp h).2
section
variable {cs ls : List Int} {fx : Int} {t : Tk} {goal : Int}
theorem Vp.mono (v : Vp cs ls) : ∀ (k i : Nat) (a b : Int), cs[i]? = some a → cs[i + k]? = some b → a ≤ b
  | 0, i, a, b, h1, h2 => by
    rw [Nat.add_zero, h1] at h2
    cases h2
    exact Int.le_refl _
  | k + 1, i, a, b, h1, h2 => by
    obtain ⟨c, hc⟩ := get_ex (l := cs) (i := i + k) (by have := get_lt h2; omega)
    have e1 := v.mono k i a c h1 hc
    have e2 := v.asc (i + k) c b hc h2
    omega
theorem Vp.last (v : Vp cs ls) {mo : Int} (hm : cs.getLast? = some mo) {i : Nat} {a : Int} (h : cs[i]? = some a) : a ≤ mo ∧ (i + 1 = cs.length → a = mo) := by
  rw [List.getLast?_eq_getElem?] at hm
  have hi := get_lt h
  refine ⟨v.mono (cs.length - 1 - i) i a mo h (by rw [show i + (cs.length - 1 - i) = cs.length - 1 by omega]; exact hm), fun e => ?_⟩
  rw [show cs.length - 1 = i by omega, h] at hm
  exact Option.some.inj hm
def upS (cs : List Int) (fx : Int) (t : Tk) : Tk × List Mv := match cs[t.lv]? with
  | some c => if t.sz < c then (⟨t.lv, t.sz + 1, t.pd, t.dn + 1⟩, []) else (⟨t.lv + 1, t.sz + 1, t.pd + (t.sz + fx), t.dn + 1⟩, [⟨t.dn, true, t.lv + 1, t.sz⟩])
  | none => (t, [])
def dnS (ls : List Int) (fx : Int) (t : Tk) : Tk × List Mv := match t.lv with
  | 0 => (⟨t.lv, t.sz - 1, t.pd, t.dn + 1⟩, [])
  | q + 1 => match ls[q]? with
    | some l => if t.sz - 1 = l then (⟨q, t.sz - 1, t.pd + (t.sz - 1 + fx), t.dn + 1⟩, [⟨t.dn, false, q, t.sz - 1⟩]) else (⟨t.lv, t.sz - 1, t.pd, t.dn + 1⟩, [])
    | none => (t, [])
theorem up_ok (v : Vp cs ls) {mo : Int} (hm : cs.getLast? = some mo) (s : Sv cs ls t.lv t.sz) (h1 : t.sz < goal) (h2 : goal ≤ mo) :
    Sv cs ls (upS cs fx t).1.lv (upS cs fx t).1.sz ∧ (upS cs fx t).1.sz = t.sz + 1 ∧ pushT fx goal ((cs.zip ls).drop t.lv) t = ((pushT fx goal ((cs.zip ls).drop (upS cs fx t).1.lv) (upS cs fx t).1).1, (upS cs fx t).2 ++ (pushT fx goal ((cs.zip ls).drop (upS cs fx t).1.lv) (upS cs fx t).1).2) := by
  obtain ⟨c, hc, hs⟩ := s.top
  obtain ⟨lv, sz, pd, dn⟩ := t
  simp only [upS] at *
  simp only [hc]
  have hl := v.last hm hc
  have hlt := get_lt hc
  have low := s.low
  by_cases hz : sz < c
  · rw [if_pos hz]
    refine ⟨⟨⟨c, hc, by simp only; omega⟩, by simp only; omega, fun q l e1 e2 => ?_⟩, rfl, ?_⟩
    · have := s.lim q l e1 e2
      simp only
      omega
    · simp only [List.nil_append]
      cases hd : (cs.zip ls).drop lv with
      | nil =>
        simp only [pushT, Tk.rest, ab]
        congr 2
        split <;> split <;> omega
      | cons p ps =>
        have hp : (cs.zip ls)[lv]? = some p := by
          have := congrArg (fun l => l[0]?) hd
          simpa using this
        have hpc : p.1 = c := by
          rw [List.getElem?_zip_eq_some, hc] at hp
          exact (Option.some.inj hp.1).symm
        simp only [pushT]
        have e1 : ab (p.1 - sz) = ab (p.1 - (sz + 1)) + 1 := by
          unfold ab
          split <;> split <;> omega
        by_cases hg : p.1 < goal
        · rw [if_pos hg, if_pos hg]
          simp only [Tk.up]
          rw [e1, show dn + 1 + (ab (p.1 - (sz + 1)) + 1) = dn + (ab (p.1 - (sz + 1)) + 1 + 1) by omega, show dn + 1 + ab (p.1 - (sz + 1)) = dn + (ab (p.1 - (sz + 1)) + 1) by omega]
        · rw [if_neg hg, if_neg hg]
          simp only [Tk.rest, ab]
          congr 2
          split <;> split <;> omega
  · rw [if_neg hz]
    have hcs : sz = c := by omega
    subst hcs
    have hne : lv + 1 ≠ cs.length := fun e => by
      have := hl.2 e
      omega
    obtain ⟨c', hc'⟩ := get_ex (l := cs) (i := lv + 1) (by omega)
    have hlen := v.len
    obtain ⟨l, hl'⟩ := get_ex (l := ls) (i := lv) (by omega)
    have ha := v.asc lv sz c' hc hc'
    refine ⟨⟨⟨c', hc', by simp only; omega⟩, by simp only; omega, fun q l2 e1 e2 => ?_⟩, rfl, ?_⟩
    · simp only at e1
      have e1 : lv = q := by omega
      subst e1
      have := v.le lv l2 sz e2 hc
      simp only
      omega
    · have hp := zip_at hc hl'
      rw [drop_at hp]
      simp only [pushT]
      rw [if_pos (show sz < goal from h1)]
      simp only [Tk.up, List.singleton_append]
      have e0 : ab (sz - sz) = 0 := by
        unfold ab
        split <;> omega
      rw [e0]
      simp
theorem dn_ok (v : Vp cs ls) (s : Sv cs ls t.lv t.sz) (h1 : goal < t.sz) (h2 : 0 ≤ goal) :
    Sv cs ls (dnS ls fx t).1.lv (dnS ls fx t).1.sz ∧ (dnS ls fx t).1.sz = t.sz - 1 ∧ popT fx goal ((cs.zip ls).take t.lv).reverse t = ((popT fx goal ((cs.zip ls).take (dnS ls fx t).1.lv).reverse (dnS ls fx t).1).1, (dnS ls fx t).2 ++ (popT fx goal ((cs.zip ls).take (dnS ls fx t).1.lv).reverse (dnS ls fx t).1).2) := by
  obtain ⟨c, hc, hs⟩ := s.top
  obtain ⟨lv, sz, pd, dn⟩ := t
  have low := s.low
  have hlt := get_lt hc
  have hlen := v.len
  simp only at *
  cases lv with
  | zero =>
    simp only [dnS]
    refine ⟨⟨⟨c, hc, by omega⟩, by omega, fun q l e => by cases e⟩, trivial, ?_⟩
    simp only [List.take_zero, List.reverse_nil, popT, Tk.rest, List.nil_append, ab]
    congr 2
    split <;> split <;> omega
  | succ q =>
    obtain ⟨l, hl⟩ := get_ex (l := ls) (i := q) (by omega)
    obtain ⟨c0, hc0⟩ := get_ex (l := cs) (i := q) (by omega)
    have hp := zip_at hc0 hl
    have hlim := s.lim q l rfl hl
    have hle := v.le q l c0 hl hc0
    have hrev : ((cs.zip ls).take (q + 1)).reverse = (c0, l) :: ((cs.zip ls).take q).reverse := by
      rw [List.take_succ, hp]
      simp
    simp only [dnS, hl]
    by_cases hz : sz - 1 = l
    · rw [if_pos hz]
      refine ⟨⟨⟨c0, hc0, by simp only; omega⟩, by simp only; omega, fun q' l' e1 e2 => ?_⟩, rfl, ?_⟩
      · simp only at e1 ⊢
        have := v.lasc q' l' l e2 (by rw [← e1]; exact hl)
        omega
      · rw [hrev]
        simp only [popT]
        rw [if_pos (show goal ≤ l by omega)]
        simp only [Tk.down, List.singleton_append]
        have e0 : ab (l + 1 - sz) = 0 := by
          unfold ab
          split <;> omega
        rw [e0, show sz - 1 = l from hz]
        simp
    · rw [if_neg hz]
      refine ⟨⟨⟨c, hc, by simp only; omega⟩, by simp only; omega, fun q' l' e1 e2 => ?_⟩, rfl, ?_⟩
      · simp only at e1 ⊢
        have e1 : q = q' := by omega
        subst e1
        rw [hl] at e2
        cases e2
        omega
      · rw [hrev]
        simp only [popT, List.nil_append]
        have e1 : ab (l + 1 - sz) = ab (l + 1 - (sz - 1)) + 1 := by
          unfold ab
          split <;> split <;> omega
        by_cases hg : goal ≤ l
        · rw [if_pos hg, if_pos hg]
          simp only [Tk.down]
          rw [e1, show dn + 1 + (ab (l + 1 - (sz - 1)) + 1) = dn + (ab (l + 1 - (sz - 1)) + 1 + 1) by omega, show dn + 1 + ab (l + 1 - (sz - 1)) = dn + (ab (l + 1 - (sz - 1)) + 1) by omega]
        · rw [if_neg hg, if_neg hg]
          simp only [Tk.rest, ab]
          congr 2
          split <;> split <;> omega
def stS (cs ls : List Int) (fx : Int) (b : Bool) (t : Tk) : Tk × List Mv := if b then upS cs fx t else dnS ls fx t
end
end G
namespace G
open PySem
theorem get_snoc {α : Type} {l : List α} {a b : α} {i : Nat} (h : (l ++ [a])[i]? = some b) : l[i]? = some b ∨ (i = l.length ∧ b = a) := by
  by_cases hi : i < l.length
  · rw [List.getElem?_append_left hi] at h
    exact .inl h
  · have hl := get_lt h
    simp only [List.length_append, List.length_cons, List.length_nil] at hl
    have e : i = l.length := by omega
    subst e
    simp at h
    exact .inr ⟨rfl, h.symm⟩
theorem snoc_ex {α : Type} {l : List α} (h : l ≠ []) : ∃ i a, l = i ++ [a] := ⟨l.dropLast, l.getLast h, (List.dropLast_concat_getLast h).symm⟩
def Asc (l : List Int) : Prop := ∀ (i : Nat) (a b : Int), l[i]? = some a → l[i + 1]? = some b → a < b
theorem Asc.nil : Asc [] := fun i a b h => by simp at h
theorem Asc.one (x : Int) : Asc [x] := fun i a b h h2 => by
  have := get_lt h2
  simp at this
theorem Asc.snoc {l : List Int} {x : Int} (h : Asc l) (hx : ∀ y, l.getLast? = some y → y < x) : Asc (l ++ [x]) := fun i a b h1 h2 => by
  rcases get_snoc h2 with h3 | ⟨e, e2⟩
  · rcases get_snoc h1 with h4 | ⟨e, e2⟩
    · exact h i a b h4 h3
    · have := get_lt h3
      omega
  · rcases get_snoc h1 with h4 | ⟨e3, e4⟩
    · subst e2
      refine hx a ?_
      rw [List.getLast?_eq_getElem?, show l.length - 1 = i by omega]
      exact h4
    · omega
theorem all_snoc {l : List Int} {x : Int} {P : Nat → Int → Prop} (h : ∀ (i : Nat) (a : Int), l[i]? = some a → P i a) (hx : P l.length x) : ∀ (i : Nat) (a : Int), (l ++ [x])[i]? = some a → P i a := fun i a h1 => by
  rcases get_snoc h1 with h1 | ⟨rfl, rfl⟩
  · exact h i a h1
  · exact hx
theorem cut_init (xs : List D) : cutD xs none (some (-1)) = xs.dropLast := by
  unfold cutD sIxD
  simp only [List.drop_zero, Nat.sub_zero]
  rw [if_pos (by decide), List.dropLast_eq_take]
  congr 1
  omega
theorem rngL_succ (lo : Int) (n : Nat) : rngL lo (n + 1) = .int lo :: rngL (lo + 1) n := by
  unfold rngL
  rw [List.range_succ_eq_map]
  simp only [List.map_cons, List.map_map, Int.natCast_zero, Int.add_zero]
  congr 1
  apply List.map_congr_left
  intro k _
  simp only [Function.comp]
  congr 1
  omega
theorem rng_wp {A B : Type} {body : D → A → M (Fl A A)} {R : Fl A B → Hs → Prop} (I : Nat → A → Hs → Prop)
    (step : ∀ (i : Int) n s m, I (n + 1) s m → wp (body (.int i) s) m fun fl m' => match fl with
      | .nx s' => I n s' m'
      | .ct s' => I n s' m'
      | .bk s' => R (.nx s') m'
      | .rt d => R (.rt d) m')
    (done : ∀ s m, I 0 s m → R (.nx s) m) (lo : Int) (n : Nat) (s : A) (m : Hs) (h : I n s m) : wp (forL [] body (rngL lo n) s) m R := by
  refine forL_wp (fun xs s m => ∃ (j : Int) (n : Nat), xs = rngL j n ∧ I n s m) ?_ ?_ _ _ _ ⟨lo, n, rfl, h⟩
  · rintro x xs s m ⟨j, n, hx, h⟩
    cases n with
    | zero => cases hx
    | succ n =>
      rw [rngL_succ] at hx
      obtain ⟨rfl, rfl⟩ := List.cons.inj hx
      refine wp_imp (step j n s m h) fun fl m' q => ?_
      cases fl with
      | nx s' => exact ⟨_, _, rfl, q⟩
      | ct s' => exact ⟨_, _, rfl, q⟩
      | bk s' => exact q
      | rt d => exact q
  · rintro s m ⟨j, n, hx, h⟩
    cases n with
    | zero => exact done s m h
    | succ n => rw [rngL_succ] at hx; cases hx
theorem rngI_wp {A B : Type} {body : D → A → M (Fl A A)} {R : Fl A B → Hs → Prop} (I : Int → Nat → A → Hs → Prop)
    (step : ∀ (i : Int) n s m, I i (n + 1) s m → wp (body (.int i) s) m fun fl m' => match fl with
      | .nx s' => I (i + 1) n s' m'
      | .ct s' => I (i + 1) n s' m'
      | .bk s' => R (.nx s') m'
      | .rt d => R (.rt d) m')
    (done : ∀ i s m, I i 0 s m → R (.nx s) m) (lo : Int) (n : Nat) (s : A) (m : Hs) (h : I lo n s m) : wp (forL [] body (rngL lo n) s) m R := by
  refine forL_wp (fun xs s m => ∃ (j : Int) (n : Nat), xs = rngL j n ∧ I j n s m) ?_ ?_ _ _ _ ⟨lo, n, rfl, h⟩
  · rintro x xs s m ⟨j, n, hx, h⟩
    cases n with
    | zero => cases hx
    | succ n =>
      rw [rngL_succ] at hx
      obtain ⟨rfl, rfl⟩ := List.cons.inj hx
      refine wp_imp (step j n s m h) fun fl m' q => ?_
      cases fl with
      | nx s' => exact ⟨_, _, rfl, q⟩
      | ct s' => exact ⟨_, _, rfl, q⟩
      | bk s' => exact q
      | rt d => exact q
  · rintro s m ⟨j, n, hx, h⟩
    cases n with
    | zero => exact done j s m h
    | succ n => rw [rngL_succ] at hx; cases hx
theorem at_lastI {l : List Int} {x : Int} : atD ((l ++ [x]).map D.int) (-1) = some (.int x) := by
  rw [List.map_append]
  exact at_last
end G
namespace G
open PySem L2 PySem.Spec PyProof.Rows
def Pl (k w : Nat) (x : D) : Prop := ∃ p, (∀ m, pyD m k x = some p) ∧ p.showable = true ∧ p.shown.length ≤ w
def PlL (k w : Nat) (xs : List D) : Prop := ∃ ps, (∀ m, mapO (pyD m k) xs = some ps) ∧ PyData.showableAll ps = true ∧ piled (PyData.shownAll ps) ≤ w
theorem Pl.mono {k w w' : Nat} {x : D} (h : Pl k w x) (hw : w ≤ w') : Pl k w' x := by
  obtain ⟨p, h1, h2, h3⟩ := h
  exact ⟨p, h1, h2, Nat.le_trans h3 hw⟩
theorem Pl.int {k : Nat} {i : Int} (h : i.natAbs.log2 < 1920) : Pl k 1921 (.int i) := ⟨.int i, fun m => by simp [pyD], by simpa [PyData.showable] using h, by
  simp only [PyData.shown]
  exact PyProof.Rows.int_text_len_1921 h⟩
theorem Pl.bl {k : Nat} {b : Bool} : Pl k 5 (.bl b) := ⟨.bool b, fun m => by simp [pyD], rfl, by cases b <;> decide +kernel⟩
theorem Pl.non {k : Nat} : Pl k 4 .non := ⟨.none, fun m => by simp [pyD], rfl, by decide +kernel⟩
theorem Pl.str {k w : Nat} {s : Str} (h1 : PyData.strOk s = true) (h2 : (reprText s).length ≤ w) : Pl k w (.str s) := ⟨.str s, fun m => by simp [pyD, h1], rfl, h2⟩
theorem PlL.nil {k : Nat} : PlL k 0 [] := ⟨[], fun m => rfl, rfl, Nat.le_refl _⟩
theorem PlL.cons {k w v : Nat} {x : D} {xs : List D} (h : Pl k w x) (hs : PlL k v xs) : PlL k (w + 2 + v) (x :: xs) := by
  obtain ⟨p, h1, h2, h3⟩ := h
  obtain ⟨ps, h4, h5, h6⟩ := hs
  refine ⟨p :: ps, fun m => by simp only [mapO, h1, h4], by simp [PyData.showableAll, h2, h5], ?_⟩
  simp only [PyData.shownAll, piled_cons]
  omega
theorem PlL.mono {k w w' : Nat} {x : List D} (h : PlL k w x) (hw : w ≤ w') : PlL k w' x := by
  obtain ⟨p, h1, h2, h3⟩ := h
  exact ⟨p, h1, h2, Nat.le_trans h3 hw⟩
theorem PlL.map {α : Type} {f : α → D} {k w : Nat} : ∀ {l : List α}, (∀ a, a ∈ l → Pl k w (f a)) → PlL k (l.length * (w + 2)) (l.map f)
  | [], _ => by simpa using PlL.nil
  | a :: l, h => by
    have := PlL.cons (h a (by simp)) (PlL.map (l := l) fun b hb => h b (by simp [hb]))
    refine this.mono ?_
    simp only [List.length_cons, Nat.succ_mul]
    omega
theorem Pl.tup {k w : Nat} {xs : List D} (h : PlL k w xs) : Pl (k + 1) (w + 2) (.tup xs) := by
  obtain ⟨ps, h1, h2, h3⟩ := h
  refine ⟨.tuple ps, fun m => by simp only [pyD, h1]; rfl, by simpa [PyData.showable] using h2, ?_⟩
  simp only [PyData.shown]
  have := fmt_text (PyData.shownAll ps)
  omega
theorem Pl.get {k w : Nat} {x : D} (h : Pl k w x) : ∃ p, (∀ m, pyD m k x = some p) := by
  obtain ⟨p, h1, _⟩ := h
  exact ⟨p, h1⟩
def rp (x : D) : Str := match pyD [] deepest x with
  | some p => p.shown
  | none => "None"
theorem repr_eq {w : Nat} {x : D} (h : Pl deepest w x) (hw : w ≤ 16777216) : reprS [x] = ret (.str (rp x)) := by
  obtain ⟨p, h1, h2, h3⟩ := h
  refine ret_of fun m Q q => ?_
  rw [w_repr]
  refine ⟨p, h1 m, ⟨h2, Nat.le_trans h3 hw⟩, ?_⟩
  unfold rp at q
  rw [h1] at q
  exact q
theorem pl_int {k : Nat} {i : Int} (h1 : -(2 ^ 200) < i) (h2 : i < 2 ^ 200) : Pl k 1921 (.int i) := Pl.int (by
  have := (Bd.of h1 h2).log
  omega)
theorem pl_il {k n : Nat} {cs : List Int} (h : ∀ c, c ∈ cs → -(2 ^ 200) < c ∧ c < 2 ^ 200) (hn : cs.length ≤ n) : Pl (k + 1) (n * 1923 + 2) (il cs) := by
  refine (Pl.tup (PlL.map (w := 1921) fun c hc => pl_int (h c hc).1 (h c hc).2)).mono ?_
  have := Nat.mul_le_mul_right 1923 hn
  omega
theorem pl_pol {k n : Nat} {cs ls : List Int} {fx : Int} (h : ∀ c, c ∈ cs → -(2 ^ 200) < c ∧ c < 2 ^ 200) (h2 : ∀ c, c ∈ ls → -(2 ^ 200) < c ∧ c < 2 ^ 200) (hf : -(2 ^ 200) < fx ∧ fx < 2 ^ 200) (hn : cs.length ≤ n) (hm : ls.length ≤ n) : Pl (k + 2) (n * 3846 + 2000) (pol cs ls fx) := by
  refine (Pl.tup (PlL.cons (pl_il h hn) (PlL.cons (pl_il h2 hm) (PlL.cons (pl_int hf.1 hf.2) PlL.nil)))).mono ?_
  omega
end G
namespace G
open PySem
theorem lc_map_wp {turn : D → M (Option D)} {xs : List D} {m : Hs} {R : List D → Hs → Prop} (f : D → D) (h : ∀ x, x ∈ xs → turn x = ret (some (f x))) (hl : xs.length ≤ 16777216) (q : R (xs.map f) m) : wp (lcL [] turn xs []) m R := by
  rw [lcL_map f xs h hl]
  exact q
end G
namespace G
open PySem
theorem wp_retE {α : Type} {a : α} {m : Hs} {R : α → Hs → Prop} : wp (ret a) m R = R a m := id rfl
end G
namespace G
open PySem
theorem wp_calm {α : Type} {t : M α} {m : Hs} {Q : α → Hs → Prop} : wp (calm t) m Q = wp t m Q := by
  show (match (t m).calm with
    | .ok a m' => Q a m'
    | _ => False) = (match t m with
    | .ok a m' => Q a m'
    | _ => False)
  cases t m <;> rfl
theorem Vp.one {c : Int} (h : 1 ≤ c) : Vp [c] [] := ⟨rfl, Asc.one _, fun i a hi => by
  have := get_lt hi
  simp at this
  subst this
  simp at hi
  omega, Asc.nil, fun i a hi => by simp at hi, fun i a b hi => by simp at hi⟩
theorem Vp.snoc {cs ls : List Int} {c l d : Int} (v : Vp cs ls) (hc : cs.getLast? = some c) (h0 : 0 ≤ l) (h1 : l ≤ c) (h2 : ∀ y, ls.getLast? = some y → y < l) (h3 : c < d) : Vp (cs ++ [d]) (ls ++ [l]) := by
  have hlen := v.len
  have hc2 := hc
  rw [List.getLast?_eq_getElem?] at hc2
  have hcp := v.pos _ c hc2
  refine ⟨by simp; omega, Asc.snoc v.asc fun y hy => ?_, all_snoc v.pos (by omega), Asc.snoc v.lasc h2, all_snoc v.lpos h0, fun i a b e1 e2 => ?_⟩
  · rw [hc] at hy
    cases hy
    exact h3
  · rcases get_snoc e1 with e1 | ⟨rfl, rfl⟩
    · have hi := get_lt e1
      rcases get_snoc e2 with e2 | ⟨rfl, rfl⟩
      · exact v.le i a b e1 e2
      · omega
    · rcases get_snoc e2 with e2 | ⟨e, rfl⟩
      · rw [show cs.length - 1 = ls.length by omega, e2] at hc2
        cases hc2
        exact h1
      · omega
theorem Vp.llast {cs ls : List Int} {c l : Int} (v : Vp cs ls) (hc : cs.getLast? = some c) (hl : ls.getLast? = some l) : 0 ≤ l ∧ l < c := by
  have hlen := v.len
  rw [List.getLast?_eq_getElem?] at hc hl
  have hn := get_lt hl
  obtain ⟨b, hb⟩ := get_ex (l := cs) (i := ls.length - 1) (by omega)
  have h1 := v.le _ l b hl hb
  have h2 := v.asc (ls.length - 1) b c hb (by rw [show ls.length - 1 + 1 = cs.length - 1 by omega]; exact hc)
  have h3 := v.lpos _ l hl
  omega
theorem Vp.ex_last {cs ls : List Int} (v : Vp cs ls) : ∃ c, cs.getLast? = some c := by
  cases h : cs.getLast? with
  | none =>
    rw [List.getLast?_eq_none_iff] at h
    have := v.len
    rw [h] at this
    simp at this
  | some c => exact ⟨c, rfl⟩
end G
namespace G
open PySem
abbrev Fr := Nat × Nat
def qOf (cs ls : List Int) (i : Nat) : Fr := ((cs[i]?.getD 0).toNat, match i with
  | 0 => 1
  | k + 1 => (ls[k]?.getD 0 + 1).toNat)
theorem pol_0 {cs ls : List Int} {fx : Int} {m : Hs} {Q : D → Hs → Prop} : wp (idxS (pol cs ls fx) (.int 0)) m Q = Q (il cs) m := by unfold pol; exact w_ixT0
theorem pol_1 {cs ls : List Int} {fx : Int} {m : Hs} {Q : D → Hs → Prop} : wp (idxS (pol cs ls fx) (.int 1)) m Q = Q (il ls) m := by unfold pol; exact w_ixT1
theorem il_at {cs : List Int} {i : Nat} {c : Int} {m : Hs} {Q : D → Hs → Prop} (h : cs[i]? = some c) : wp (idxS (il cs) (.int i)) m Q = Q (.int c) m := by
  unfold il
  rw [w_ixT, at_nat, List.getElem?_map, h]
  simp
end G
namespace G
open PySem
theorem wp_calK {f : List D → M D} {n k : Nat} {is : List Nat} {t u : M (List D)} {m : Hs} {Q : D → Hs → Prop} : wp (calK f n k is t u) m Q = wp t m fun xs m1 => wp u m1 fun zs m2 => wp (kwS f n k is xs zs) m2 Q := by
  unfold calK
  rw [wp_bnd]
  congr 1
  funext xs m1
  rw [wp_bnd]
theorem kw_03 {f : List D → M D} {is : List Nat} {a b c : D} {m : Hs} {Q : D → Hs → Prop} : wp (kwS f 0 3 is [] [a, b, c]) m Q = wp (f (pick is [a, b, c])) m Q := rfl
theorem kw_02 {f : List D → M D} {is : List Nat} {a b : D} {m : Hs} {Q : D → Hs → Prop} : wp (kwS f 0 2 is [] [a, b]) m Q = wp (f (pick is [a, b])) m Q := rfl
theorem kw_01 {f : List D → M D} {is : List Nat} {a : D} {m : Hs} {Q : D → Hs → Prop} : wp (kwS f 0 1 is [] [a]) m Q = wp (f (pick is [a])) m Q := rfl
theorem pick_210 {a b c : D} : pick [2, 1, 0] [a, b, c] = [c, b, a] := rfl
theorem pick_10 {a b : D} : pick [1, 0] [a, b] = [b, a] := rfl
theorem pick_01 {a b : D} : pick [0, 1] [a, b] = [a, b] := rfl
theorem pick_0 {a : D} : pick [0] [a] = [a] := rfl
theorem fmt_textL (ts : List Str) : (listText ts).length ≤ piled ts + 2 := by
  have e1 : ((("[" : String) : Str)).length = 1 := rfl
  have e3 : ((("]" : String) : Str)).length = 1 := rfl
  have e2 : (ts.map (·.length)).sum + 2 * ts.length = piled ts := by
    clear e1 e3
    induction ts with
    | nil => rfl
    | cons t ts ih =>
      rw [piled_cons, ← ih]
      simp
      omega
  unfold listText
  rw [strLen_append, e3]
  have := textFrom_len_le ts 0 "["
  omega
theorem Pl.fl {k w : Nat} {xs : List D} (h : PlL k w xs) : Pl (k + 1) (w + 2) (.fl xs) := by
  obtain ⟨ps, h1, h2, h3⟩ := h
  refine ⟨.list ps, fun m => by simp only [pyD, h1]; rfl, by simpa [PyData.showable] using h2, ?_⟩
  simp only [PyData.shown]
  have := fmt_textL (PyData.shownAll ps)
  omega
theorem PlL.one {k w : Nat} {x : D} (h : Pl k w x) : PlL k (w + 2) [x] := PlL.cons h PlL.nil
theorem PlL.two {k w v : Nat} {x y : D} (h : Pl k w x) (h' : Pl k v y) : PlL k (w + 2 + (v + 2)) [x, y] := PlL.cons h (PlL.one h')
end G
namespace G
open PySem
theorem w_sumF {is : List Int} {m : Hs} {Q : D → Hs → Prop} : wp (sumAS [.fl (is.map D.int)]) m Q = Q (.int is.sum) m := w_sum
theorem w_sumT {is : List Int} {m : Hs} {Q : D → Hs → Prop} : wp (sumAS [.tup (is.map D.int)]) m Q = Q (.int is.sum) m := by
  show wp (bnd (opt (sumI (is.map D.int))) fun k => ret (.int k)) m Q = _
  rw [wp_bnd, wp_opt, sumI_map]
  simp only [Option.some.injEq, exists_eq_left', wp_ret]
theorem intsOf_map : ∀ l : List Int, intsOf (l.map D.int) = some l
  | [] => rfl
  | a :: l => by simp only [List.map_cons, intsOf, intsOf_map l, Option.map_some]
theorem w_srt {is : List Int} {m : Hs} {Q : D → Hs → Prop} : wp (srtS [.fl (is.map D.int)]) m Q = (is.length < 64 ∧ Q (.fl ((srtU is).map D.int)) m) := by
  show wp (bnd (ask (lstOf (.fl (is.map D.int)))) srtI) m Q = _
  rw [wp_bnd, w_lsF]
  unfold srtI
  rw [intsOf_map]
  show wp (if is.length < 64 then _ else bad) m Q = _
  rw [wp_gd, wp_ret]
theorem w_maxL {a : Int} {is : List Int} {m : Hs} {Q : D → Hs → Prop} : wp (maxLS [.fl ((a :: is).map D.int)]) m Q = Q (.int (mxI a is)) m := by
  show wp (bnd (ask (lstOf (.fl ((a :: is).map D.int)))) (ext1 mxI)) m Q = _
  rw [wp_bnd, w_lsF]
  unfold ext1
  rw [intsOf_map]
  rfl
theorem w_minL {a : Int} {is : List Int} {m : Hs} {Q : D → Hs → Prop} : wp (minLS [.fl ((a :: is).map D.int)]) m Q = Q (.int (mnI a is)) m := by
  show wp (bnd (ask (lstOf (.fl ((a :: is).map D.int)))) (ext1 mnI)) m Q = _
  rw [wp_bnd, w_lsF]
  unfold ext1
  rw [intsOf_map]
  rfl
theorem sum_zip {K : Int} : ∀ (cs ls : List Int) (n : Nat), n ≤ cs.length → n ≤ ls.length → (((cs.zip ls).take n).map fun p => p.1 + p.2 + K).sum = (cs.take n).sum + (ls.take n).sum + K * n
  | _, _, 0, _, _ => by simp
  | [], _, n + 1, h, _ => by simp at h
  | _ :: _, [], n + 1, _, h => by simp at h
  | c :: cs, l :: ls, n + 1, h1, h2 => by
    have ih := sum_zip (K := K) cs ls n (by simpa using h1) (by simpa using h2)
    simp only [List.zip_cons_cons, List.take_succ_cons, List.map_cons, List.sum_cons, ih, Int.natCast_succ, Int.mul_add]
    omega
theorem drop_zip : ∀ (cs ls : List Int) (a : Nat), (cs.zip ls).drop a = (cs.drop a).zip (ls.drop a)
  | _, _, 0 => by simp
  | [], _, _ + 1 => by simp
  | _ :: _, [], a + 1 => by simp
  | c :: cs, l :: ls, a + 1 => by
    simp only [List.zip_cons_cons, List.drop_succ_cons]
    exact drop_zip cs ls a
theorem sum_le {B : Int} : ∀ (l : List Int), (∀ x, x ∈ l → 0 ≤ x ∧ x ≤ B) → 0 ≤ l.sum ∧ l.sum ≤ B * l.length
  | [], _ => by simp
  | x :: l, h => by
    have ih := sum_le l fun y hy => h y (by simp [hy])
    have hx := h x (by simp)
    simp only [List.sum_cons, List.length_cons, Int.natCast_succ, Int.mul_add]
    omega
def sg (P : List (Int × Int)) (f : Int × Int → Int) (a n : Nat) : Int := (((P.drop a).take n).map f).sum
theorem sg_snoc {P : List (Int × Int)} {f : Int × Int → Int} {a n : Nat} {p : Int × Int} (h : P[a + n]? = some p) : sg P f a (n + 1) = sg P f a n + f p := by
  unfold sg
  rw [List.take_add_one, List.getElem?_drop, h]
  simp
end G
namespace G
open PySem
mutual
theorem eqv_pyD {m : Hs} : ∀ (k : Nat) (x : D) (p : PyData), pyD m k x = some p → PyData.eqv p p = true
  | _, .non, p, h => by simp [pyD] at h; subst h; rfl
  | _, .bl b, p, h => by simp [pyD] at h; subst h; simp [PyData.eqv]
  | _, .int i, p, h => by simp [pyD] at h; subst h; simp [PyData.eqv]
  | _, .str s, p, h => by
    simp only [pyD] at h
    split at h
    · cases h; simp [PyData.eqv]
    · cases h
  | 0, .tup _, p, h => by simp [pyD] at h
  | 0, .fl _, p, h => by simp [pyD] at h
  | 0, .sc _, p, h => by simp [pyD] at h
  | 0, .fd _ _, p, h => by simp [pyD] at h
  | _ + 1, .fd _ _, p, h => by simp [pyD] at h
  | 0, .ref _, p, h => by simp [pyD] at h
  | n + 1, .tup xs, p, h => by
    simp only [pyD, Option.map_eq_some_iff] at h
    obtain ⟨ps, h1, rfl⟩ := h
    rw [PyData.eqv]
    exact eqv_mapO n xs ps h1
  | n + 1, .fl xs, p, h => by
    simp only [pyD, Option.map_eq_some_iff] at h
    obtain ⟨ps, h1, rfl⟩ := h
    rw [PyData.eqv]
    exact eqv_mapO n xs ps h1
  | n + 1, .sc xs, p, h => by
    simp only [pyD, Option.map_eq_some_iff] at h
    obtain ⟨ps, h1, rfl⟩ := h
    rw [PyData.eqv]
    exact eqv_mapO n xs ps h1
  | n + 1, .ref j, p, h => by
    simp only [pyD] at h
    split at h
    · rename_i xs _
      simp only [Option.map_eq_some_iff] at h
      obtain ⟨ps, h1, rfl⟩ := h
      rw [PyData.eqv]
      exact eqv_mapO n xs ps h1
    · cases h
theorem eqv_mapO {m : Hs} : ∀ (k : Nat) (xs : List D) (ps : List PyData), mapO (pyD m k) xs = some ps → PyData.eqvAll ps ps = true
  | _, [], ps, h => by cases h; rfl
  | k, x :: xs, ps, h => by
    simp only [mapO] at h
    split at h
    · rename_i y ys h1 h2
      cases h
      rw [PyData.eqvAll, eqv_pyD k x y h1, eqv_mapO k xs ys h2]
      rfl
    · cases h
end
structure PB (L : Nat) (B F : Int) (cs ls : List Int) (fx : Int) : Prop where
  v : Vp cs ls
  len : cs.length ≤ L
  cB : ∀ c, c ∈ cs → 1 ≤ c ∧ c ≤ B
  f0 : 0 ≤ fx
  f1 : fx ≤ F
theorem PB.llen {L : Nat} {B F : Int} {cs ls : List Int} {fx : Int} (h : PB L B F cs ls fx) : ls.length + 1 ≤ L := by
  have := h.v.len
  have := h.len
  omega
theorem PB.lB {L : Nat} {B F : Int} {cs ls : List Int} {fx : Int} (h : PB L B F cs ls fx) {l : Int} (hl : l ∈ ls) : 0 ≤ l ∧ l ≤ B := by
  obtain ⟨i, hi⟩ := List.getElem?_of_mem hl
  have := h.v.len
  obtain ⟨c, hc⟩ := get_ex (l := cs) (i := i) (by have := get_lt hi; omega)
  have h1 := h.v.le i l c hi hc
  have h2 := h.cB c (List.mem_of_getElem? hc)
  exact ⟨h.v.lpos i l hi, by omega⟩
theorem PB.cAt {L : Nat} {B F : Int} {cs ls : List Int} {fx c : Int} {i : Nat} (h : PB L B F cs ls fx) (hc : cs[i]? = some c) : 1 ≤ c ∧ c ≤ B := h.cB c (List.mem_of_getElem? hc)
theorem PB.lAt {L : Nat} {B F : Int} {cs ls : List Int} {fx l : Int} {i : Nat} (h : PB L B F cs ls fx) (hl : ls[i]? = some l) : 0 ≤ l ∧ l ≤ B := h.lB (List.mem_of_getElem? hl)
theorem PB.pl {L : Nat} {B F : Int} {cs ls : List Int} {fx : Int} {k : Nat} (h : PB L B F cs ls fx) (hL : L ≤ 100) (hB : B < 2 ^ 200) (hF : F < 2 ^ 200) : Pl (k + 2) 400000 (pol cs ls fx) := by
  have := h.len
  have := h.llen
  have h0 := h.f0
  have h1 := h.f1
  exact (pl_pol (n := 100) (fun c hc => by have := h.cB c hc; omega) (fun c hc => by have := h.lB hc; omega) ⟨by omega, by omega⟩ (by omega) (by omega)).mono (by decide)
theorem PB.rp {L : Nat} {B F : Int} {cs ls : List Int} {fx : Int} (h : PB L B F cs ls fx) (hL : L ≤ 100 := by decide) (hB : B < 2 ^ 200 := by decide) (hF : F < 2 ^ 200 := by decide) : reprS [pol cs ls fx] = ret (.str (rp (pol cs ls fx))) := repr_eq (h.pl (k := 48) hL hB hF) (by decide)
theorem PB.mono {L L' : Nat} {B B' F F' : Int} {cs ls : List Int} {fx : Int} (h : PB L B F cs ls fx) (hL : L ≤ L') (hB : B ≤ B') (hF : F ≤ F') : PB L' B' F' cs ls fx := by
  have h1 := h.len
  have h2 := h.f1
  exact ⟨h.v, by omega, fun c hc => by have := h.cB c hc; omega, h.f0, by omega⟩
end G
namespace G
open PySem
section
variable {A B β : Type} {m : Hs}
end
def rowR (a : Nat) : Nat → Nat → List (Nat × Nat)
  | _, 0 => []
  | b, c + 1 => (a, b) :: rowR a (b + 1) c
def prsR : Nat → Nat → List (Nat × Nat)
  | _, 0 => []
  | a, c + 1 => rowR a a (c + 1) ++ prsR (a + 1) c
theorem mem_rowR {a : Nat} {p : Nat × Nat} : ∀ {c b : Nat}, p ∈ rowR a b c → p.1 = a ∧ b ≤ p.2 ∧ p.2 < b + c
  | 0, _, h => by simp [rowR] at h
  | c + 1, b, h => by
    rcases List.mem_cons.1 h with rfl | h
    · exact ⟨rfl, Nat.le_refl _, by omega⟩
    · have := mem_rowR h
      omega
theorem mem_prsR {p : Nat × Nat} : ∀ {c a : Nat}, p ∈ prsR a c → a ≤ p.1 ∧ p.1 ≤ p.2 ∧ p.2 < a + c
  | 0, _, h => by simp [prsR] at h
  | c + 1, a, h => by
    rcases List.mem_append.1 h with h | h
    · have := mem_rowR h
      omega
    · have := mem_prsR h
      omega
def swN (P : List (Int × Int)) (ex : Int) (p : Nat × Nat) : Int × Int := (sg P (fun q => q.1 + q.2 + ex) p.1 (p.2 + 1 - p.1), 2 * ((P[p.2]?.getD (0, 0)).1 + 1 - (P[p.1]?.getD (0, 0)).2))
theorem Bd.pl {k d : Nat} {i : Int} (h : Bd d i) (hd : d < 1920) : Pl k 1921 (.int i) := Pl.int (by
  have := h.log
  omega)
abbrev PK (cs ls : List Int) (fx : Int) : Prop := PB 50 1000000000000000000 1000000000000 cs ls fx
theorem swN_bd {cs ls : List Int} {fx : Int} {p : Nat × Nat} (h : PK cs ls fx) (hp : p ∈ prsR 0 ls.length) : 1 ≤ (swN (cs.zip ls) (2 * fx) p).1 ∧ (swN (cs.zip ls) (2 * fx) p).1 < 2 ^ 100 ∧ 2 ≤ (swN (cs.zip ls) (2 * fx) p).2 ∧ (swN (cs.zip ls) (2 * fx) p).2 < 2 ^ 100 := by
  obtain ⟨a, b⟩ := p
  have hm := mem_prsR hp
  simp only at hm
  have hlen := h.v.len
  have hle := h.len
  have hf0 := h.f0
  have hf1 := h.f1
  obtain ⟨c, hc⟩ := get_ex (l := cs) (i := b) (by omega)
  obtain ⟨ca, hca⟩ := get_ex (l := cs) (i := a) (by omega)
  obtain ⟨l, hl1⟩ := get_ex (l := ls) (i := a) (by omega)
  obtain ⟨lb, hlb⟩ := get_ex (l := ls) (i := b) (by omega)
  have h1 := h.v.le a l ca hl1 hca
  have h2 := h.v.mono (b - a) a ca c hca (by rw [show a + (b - a) = b by omega]; exact hc)
  have h3 := h.cAt hc
  have h4 := h.lAt hl1
  have h5 := h.lAt hlb
  have hz := zip_at hc hlb
  have hsm : 0 ≤ sg (cs.zip ls) (fun q => q.1 + q.2 + 2 * fx) a (b - a) ∧ sg (cs.zip ls) (fun q => q.1 + q.2 + 2 * fx) a (b - a) < 2 ^ 99 := by
    have := sum_le (B := 3 * 10 ^ 18) ((((cs.zip ls).drop a).take (b - a)).map fun p => p.1 + p.2 + 2 * fx) fun x hx => by
      obtain ⟨p, hp, rfl⟩ := List.mem_map.1 hx
      have hp2 := List.of_mem_zip (a := p.1) (b := p.2) (List.mem_of_mem_drop (List.mem_of_mem_take hp))
      have := h.cB _ hp2.1
      have := h.lB hp2.2
      omega
    have h2 : ((((cs.zip ls).drop a).take (b - a)).map fun p => p.1 + p.2 + 2 * fx).length ≤ 50 := by
      rw [List.length_map, List.length_take]
      omega
    unfold sg
    omega
  have es := sg_snoc (P := cs.zip ls) (f := fun q => q.1 + q.2 + 2 * fx) (a := a) (n := b - a) (p := (c, lb)) (by rw [show a + (b - a) = b by omega]; exact hz)
  unfold swN
  simp only [hz, zip_at hca hl1, Option.getD_some]
  rw [show b + 1 - a = b - a + 1 by omega, es]
  omega
end G
namespace G
open PySem
abbrev Ws : Type := (Int × Int) × Option (Nat × Nat)
def stW (P : List (Int × Int)) (ex : Int) (s : Ws) (ab : Nat × Nat) : Ws := if s.1.1 * (swN P ex ab).2 < (swN P ex ab).1 * s.1.2 then (swN P ex ab, some ab) else s
structure OkW (ls : List Int) (s : Ws) : Prop where
  n0 : 0 ≤ s.1.1
  n1 : s.1.1 < 2 ^ 100
  d0 : 1 ≤ s.1.2
  d1 : s.1.2 < 2 ^ 100
  mem : ∀ ab, s.2 = some ab → ab ∈ prsR 0 ls.length
theorem OkW.step {cs ls : List Int} {fx : Int} {s : Ws} {ab : Nat × Nat} (h : PK cs ls fx) (o : OkW ls s) (hm : ab ∈ prsR 0 ls.length) : OkW ls (stW (cs.zip ls) (2 * fx) s ab) := by
  unfold stW
  split
  · have := swN_bd h hm
    exact ⟨by simp only; omega, by simp only; omega, by simp only; omega, by simp only; omega, fun _ e => by cases e; exact hm⟩
  · exact o
end G
namespace G
open PySem
end G
namespace G
open PySem
structure FoldW (P : List (Int × Int)) (ex : Int) (ps : List (Nat × Nat)) (s s' : Ws) : Prop where
  mx : ∀ ab, ab ∈ ps → (swN P ex ab).1 * s'.1.2 ≤ s'.1.1 * (swN P ex ab).2
  up : s.1.1 * s'.1.2 ≤ s'.1.1 * s.1.2
  pos : 0 < s'.1.2
  at' : s' = s ∨ ∃ ab, ab ∈ ps ∧ s'.1 = swN P ex ab ∧ s'.2 = some ab
structure FoldB (cs ls : List Int) (n : Nat) (b : Fr) : Prop where
  mx : ∀ i, i < n → (qOf cs ls i).1 * b.2 ≤ b.1 * (qOf cs ls i).2
  pos : 0 < b.2
  at' : b = (0, 1) ∨ ∃ i, i < n ∧ b = qOf cs ls i
end G
namespace G
open PySem
end G
namespace G
open PySem
section
variable {m : Hs} {Q : D → Hs → Prop} {R : List D → Hs → Prop}
theorem wp_starM {t : M D} {u : M (List D)} : wp (starM t u) m R = wp t m fun x m1 => wp (ask (itemsOf x)) m1 fun xs m2 => wp u m2 fun ys m3 => R (xs ++ ys) m3 := by
  unfold starM
  rw [wp_bnd]
  congr 1
  funext x m1
  rw [wp_bnd]
  congr 1
  funext xs m2
  rw [wp_bnd]
  rfl
theorem wp_consM {t : M D} {u : M (List D)} : wp (consM t u) m R = wp t m fun x m1 => wp u m1 fun ys m2 => R (x :: ys) m2 := by
  unfold consM
  rw [wp_bnd]
  congr 1
  funext x m1
  rw [wp_bnd]
  rfl
theorem w_itT {xs : List D} : wp (ask (itemsOf (.tup xs))) m R = R xs m := id rfl
theorem w_itF {xs : List D} : wp (ask (itemsOf (.fl xs))) m R = R xs m := id rfl
theorem wp_rl2M {f : List D → D} {t u : M D} : wp (rl2M f t u) m Q = wp t m fun x m1 => wp u m1 fun y m2 => wp (rlS f x y) m2 Q := by
  unfold rl2M
  rw [wp_bnd]
  congr 1
  funext x m1
  rw [wp_bnd]
theorem wp_rl1M {f : List D → D} {t : M D} : wp (rl1M f t) m Q = wp t m fun x m1 => wp (rlS f (.int 0) x) m1 Q := by
  unfold rl1M
  rw [wp_bnd]
theorem w_rl {f : List D → D} {i j : Int} : wp (rlS f (.int i) (.int j)) m Q = (rngOk i j ∧ Q (f (rngL i (j - i).toNat)) m) := by
  show wp (if rngOk i j then ret (f (rngL i (j - i).toNat)) else bad) m Q = _
  rw [wp_gd, wp_ret]
theorem wp_dn3I {t u w : M D} {R : Its → Hs → Prop} : wp (dn3I t u w) m R = wp t m fun x m1 => wp u m1 fun y m2 => wp w m2 fun z m3 => wp (dn3S x y z) m3 R := by
  unfold dn3I
  rw [wp_bnd]
  congr 1
  funext x m1
  rw [wp_bnd]
  congr 1
  funext y m2
  rw [wp_bnd]
theorem w_dn3 {i j : Int} {R : Its → Hs → Prop} : wp (dn3S (.int i) (.int j) (.int (-1))) m R = ((-(2 ^ 62) ≤ i ∧ i < 2 ^ 62 ∧ -(2 ^ 62) ≤ j ∧ j < 2 ^ 62) ∧ R (dnL i (i - j).toNat, []) m) := by
  show wp (if (-1 : Int) = -1 ∧ -(2 ^ 62) ≤ i ∧ i < 2 ^ 62 ∧ -(2 ^ 62) ≤ j ∧ j < 2 ^ 62 then ret (dnL i (i - j).toNat, ([] : List (Nat × List D))) else bad) m R = _
  rw [wp_gd, wp_ret]
  simp only [true_and]
end
end G
namespace G
open PySem
theorem wp_mulTM {a b : M D} {m : Hs} {Q : D → Hs → Prop} : wp (mulTM a b) m Q = wp a m fun x m1 => wp b m1 fun y m2 => wp (mulTS x y) m2 Q := by
  unfold mulTM
  rw [wp_bnd]
  congr 1
  funext x m1
  rw [wp_bnd]
theorem w_mulT {xs : List D} {k : Int} {m : Hs} {Q : D → Hs → Prop} : wp (mulTS (.tup xs) (.int k)) m Q = ((xs ≠ [] ∧ 0 ≤ k ∧ k ≤ 1000 ∧ xs.length ≤ 1000) ∧ Q (.tup (List.replicate k.toNat xs).flatten) m) := by
  show wp (if xs ≠ [] ∧ 0 ≤ k ∧ k ≤ 1000 ∧ xs.length ≤ 1000 then ret (.tup (List.replicate k.toNat xs).flatten) else bad) m Q = _
  rw [wp_gd, wp_ret]
end G
namespace G
open PySem
def lmt (ls : List Int) : Nat → Int
  | 0 => -1
  | i + 1 => ls[i]?.getD 0
def hiL (cs ls : List Int) (i : Nat) : Int := match ls[i + 1]? with
  | some l => if l - 1 < cs[i]?.getD 0 then l - 1 else cs[i]?.getD 0
  | none => cs[i]?.getD 0
theorem lset_get {l : List Int} {i j : Nat} {x a : Int} (h : (l.set i x)[j]? = some a) : (j = i ∧ a = x ∧ i < l.length) ∨ (j ≠ i ∧ l[j]? = some a) := by
  rw [List.getElem?_set] at h
  split at h
  · rename_i e
    subst e
    split at h
    · rename_i hl
      exact .inl ⟨rfl, by simpa using h.symm, hl⟩
    · cases h
  · rename_i e
    exact .inr ⟨fun z => e z.symm, h⟩
theorem Vp.set {cs ls : List Int} (v : Vp cs ls) {i : Nat} {x : Int} (hi : i < ls.length) (h1 : lmt ls i < x) (h2 : x ≤ hiL cs ls i) : Vp cs (ls.set i x) := by
  have hlen := v.len
  obtain ⟨c, hc⟩ := get_ex (l := cs) (i := i) (by omega)
  have hx0 : 0 ≤ x := by
    cases i with
    | zero => simp only [lmt] at h1; omega
    | succ j =>
      obtain ⟨l, hl⟩ := get_ex (l := ls) (i := j) (by omega)
      simp only [lmt, hl, Option.getD_some] at h1
      have := v.lpos j l hl
      omega
  have hxc : x ≤ c := by
    unfold hiL at h2
    rw [hc] at h2
    split at h2
    · split at h2 <;> simp only [Option.getD_some] at * <;> omega
    · exact h2
  refine ⟨by simp [hlen], v.asc, v.pos, fun j a b ha hb => ?_, fun j a ha => ?_, fun j a b ha hb => ?_⟩
  · rcases lset_get ha with ⟨rfl, rfl, _⟩ | ⟨h3, ha⟩
    · rcases lset_get hb with ⟨h4, _, _⟩ | ⟨h4, hb⟩
      · omega
      · unfold hiL at h2
        rw [hb, hc] at h2
        simp only [Option.getD_some] at h2
        split at h2 <;> omega
    · have ha2 := ha
      rcases lset_get hb with ⟨rfl, rfl, _⟩ | ⟨h4, hb⟩
      · have e : lmt ls (j + 1) = a := by
          show ls[j]?.getD 0 = a
          rw [ha2]
          rfl
        rw [e] at h1
        exact h1
      · exact v.lasc j a b ha hb
  · rcases lset_get ha with ⟨rfl, rfl, _⟩ | ⟨h3, ha⟩
    · exact hx0
    · exact v.lpos j a ha
  · rcases lset_get ha with ⟨rfl, rfl, _⟩ | ⟨h3, ha⟩
    · rw [hc] at hb
      cases hb
      exact hxc
    · exact v.le j a b ha hb
theorem Vp.btw {cs ls : List Int} (v : Vp cs ls) {i : Nat} {l : Int} (hl : ls[i]? = some l) : lmt ls i < l ∧ l ≤ hiL cs ls i := by
  have hlen := v.len
  have hi := get_lt hl
  obtain ⟨c, hc⟩ := get_ex (l := cs) (i := i) (by omega)
  have h1 := v.le i l c hl hc
  refine ⟨?_, ?_⟩
  · cases i with
    | zero =>
      have := v.lpos 0 l hl
      simp only [lmt]
      omega
    | succ j =>
      obtain ⟨l2, hl2⟩ := get_ex (l := ls) (i := j) (by omega)
      have := v.lasc j l2 l hl2 hl
      simp only [lmt, hl2, Option.getD_some]
      exact this
  · unfold hiL
    rw [hc]
    cases hl2 : ls[i + 1]? with
    | none => exact h1
    | some l2 =>
      have := v.lasc i l l2 hl hl2
      simp only [Option.getD_some]
      split <;> omega
theorem PB.set {L : Nat} {B F : Int} {cs ls : List Int} {fx x : Int} {i : Nat} (h : PB L B F cs ls fx) (hi : i < ls.length) (h1 : lmt ls i < x) (h2 : x ≤ hiL cs ls i) : PB L B F cs (ls.set i x) fx :=
  ⟨h.v.set hi h1 h2, h.len, h.cB, h.f0, h.f1⟩
theorem set_self {l : List Int} {i : Nat} {x : Int} (h : l[i]? = some x) : l.set i x = l := by
  apply List.ext_getElem?
  intro j
  rw [List.getElem?_set]
  split
  · rename_i e
    subst e
    rw [if_pos (get_lt h), h]
  · rfl
def LeL (l l' : List Int) : Prop := l.length = l'.length ∧ ∀ (i : Nat) (a b : Int), l[i]? = some a → l'[i]? = some b → a ≤ b
theorem LeL.refl (l : List Int) : LeL l l := ⟨rfl, fun i a b h1 h2 => by
  rw [h1] at h2
  cases h2
  exact Int.le_refl _⟩
theorem LeL.set {l : List Int} {i : Nat} {x y : Int} (h : x ≤ y) : LeL (l.set i x) (l.set i y) := ⟨by simp, fun j a b ha hb => by
  rcases lset_get ha with ⟨rfl, rfl, _⟩ | ⟨h1, ha⟩
  · rcases lset_get hb with ⟨_, rfl, _⟩ | ⟨h2, _⟩
    · exact h
    · exact absurd rfl h2
  · rcases lset_get hb with ⟨h2, _, _⟩ | ⟨_, hb⟩
    · exact absurd h2 h1
    · rw [ha] at hb
      cases hb
      exact Int.le_refl _⟩
theorem LeL.trans {a b c : List Int} (h : LeL a b) (h' : LeL b c) : LeL a c := ⟨h.1.trans h'.1, fun i x z hx hz => by
  obtain ⟨y, hy⟩ := get_ex (l := b) (i := i) (by rw [← h.1]; exact get_lt hx)
  exact Int.le_trans (h.2 i x y hx hy) (h'.2 i y z hy hz)⟩
theorem LeL.drop {l l' : List Int} (h : LeL l l') (n : Nat) : LeL (l.drop n) (l'.drop n) := ⟨by simp [h.1], fun i a b ha hb => by
  rw [List.getElem?_drop] at ha hb
  exact h.2 _ a b ha hb⟩
theorem LeL.take {l l' : List Int} (h : LeL l l') (n : Nat) : LeL (l.take n) (l'.take n) := ⟨by simp [h.1], fun i a b ha hb => by
  rw [List.getElem?_take] at ha hb
  split at ha
  · rename_i hi
    rw [if_pos hi] at hb
    exact h.2 _ a b ha hb
  · cases ha⟩
theorem LeL.sum : ∀ {l l' : List Int}, LeL l l' → l.sum ≤ l'.sum
  | [], [], _ => Int.le_refl _
  | [], _ :: _, h => by cases h.1
  | _ :: _, [], h => by cases h.1
  | a :: l, b :: l', h => by
    have h1 := h.2 0 a b rfl rfl
    have h2 := LeL.sum (l := l) (l' := l') (h.drop 1)
    rw [List.sum_cons, List.sum_cons]
    omega
theorem swN_mono {cs ls ls' : List Int} {fx : Int} {ab : Nat × Nat} (hlen : cs.length = ls.length + 1) (h : LeL ls ls') (hm : ab ∈ prsR 0 ls.length) : (swN (cs.zip ls) (2 * fx) ab).1 ≤ (swN (cs.zip ls') (2 * fx) ab).1 ∧ (swN (cs.zip ls') (2 * fx) ab).2 ≤ (swN (cs.zip ls) (2 * fx) ab).2 := by
  obtain ⟨a, b⟩ := ab
  have hp := mem_prsR hm
  simp only at hp
  have hl := h.1
  constructor
  · unfold swN sg
    simp only
    rw [drop_zip, drop_zip, sum_zip _ _ _ (by rw [List.length_drop]; omega) (by rw [List.length_drop]; omega), sum_zip _ _ _ (by rw [List.length_drop]; omega) (by rw [List.length_drop]; omega)]
    have := ((h.drop a).take (b + 1 - a)).sum
    omega
  · obtain ⟨c, hc⟩ := get_ex (l := cs) (i := b) (by omega)
    obtain ⟨ca, hca⟩ := get_ex (l := cs) (i := a) (by omega)
    obtain ⟨lb, hlb⟩ := get_ex (l := ls) (i := b) (by omega)
    obtain ⟨la, hla⟩ := get_ex (l := ls) (i := a) (by omega)
    obtain ⟨lb', hlb'⟩ := get_ex (l := ls') (i := b) (by omega)
    obtain ⟨la', hla'⟩ := get_ex (l := ls') (i := a) (by omega)
    have h1 := h.2 a la la' hla hla'
    unfold swN
    simp only [zip_at hc hlb, zip_at hca hla, zip_at hc hlb', zip_at hca hla', Option.getD_some]
    omega
def Kp (cs ls : List Int) (fx p q : Int) : Prop := ∀ ab, ab ∈ prsR 0 ls.length → (swN (cs.zip ls) (2 * fx) ab).1 * q ≤ p * (swN (cs.zip ls) (2 * fx) ab).2
theorem Kp.mono {cs ls ls' : List Int} {fx p q : Int} (hlen : cs.length = ls.length + 1) (h : LeL ls ls') (hp : 0 ≤ p) (hq : 0 ≤ q) (k : Kp cs ls' fx p q) : Kp cs ls fx p q := fun ab hab => by
  obtain ⟨h1, h2⟩ := swN_mono (fx := fx) hlen h hab
  have h3 := k ab (by rw [← h.1]; exact hab)
  have h4 := Int.mul_le_mul_of_nonneg_right h1 hq
  have h5 := Int.mul_le_mul_of_nonneg_left h2 hp
  omega
end G
namespace G
open PySem
def Mx (cs ls : List Int) (fx p q : Int) (a : Nat) : Prop := ∀ (j : Nat) (l y : Int), a ≤ j → ls[j]? = some l → l < y → y ≤ hiL cs ls j → ¬ Kp cs (ls.set j y) fx p q
theorem LeL.set2 {l l' : List Int} (h : LeL l l') (j : Nat) (y : Int) : LeL (l.set j y) (l'.set j y) := ⟨by simp [h.1], fun i a b ha hb => by
  rcases lset_get ha with ⟨rfl, rfl, _⟩ | ⟨h1, ha⟩
  · rcases lset_get hb with ⟨_, rfl, _⟩ | ⟨h2, _⟩
    · exact Int.le_refl _
    · exact absurd rfl h2
  · rcases lset_get hb with ⟨h2, _, _⟩ | ⟨_, hb⟩
    · exact absurd h2 h1
    · exact h.2 i a b ha hb⟩
theorem LeL.up {l : List Int} {j : Nat} {a y : Int} (h : l[j]? = some a) (hy : a ≤ y) : LeL l (l.set j y) := by
  have := LeL.set (l := l) (i := j) hy
  rwa [set_self h] at this
theorem LeL.set1 {l l' : List Int} (h : LeL l l') {j : Nat} {y b : Int} (hb : l'[j]? = some b) (hy : y ≤ b) : LeL (l.set j y) l' := by
  have h1 := h.set2 j y
  have h2 := LeL.set (l := l') (i := j) (x := y) (y := b) hy
  rw [set_self hb] at h2
  exact h1.trans h2
theorem Mx.stay {cs ls ls' : List Int} {fx p q : Int} (hv : cs.length = ls.length + 1) (hp : 0 ≤ p) (hq : 0 ≤ q) (h : Mx cs ls fx p q 0) (v' : Vp cs ls') (le : LeL ls ls') (k : Kp cs ls' fx p q) : ls' = ls := by
  have key : ∀ d j, j + d = ls.length → ls'[j]? = ls[j]? := fun d => by
    induction d using Nat.strongRecOn with
    | ind d ih =>
      intro j hj
      rcases Nat.eq_zero_or_pos d with rfl | hd
      · have hl := le.1
        rw [show ls'[j]? = none from List.getElem?_eq_none_iff.2 (by omega), show ls[j]? = none from List.getElem?_eq_none_iff.2 (by omega)]
      · obtain ⟨l, hl⟩ := get_ex (l := ls) (i := j) (by omega)
        obtain ⟨l', hl'⟩ := get_ex (l := ls') (i := j) (by rw [← le.1]; omega)
        have h1 := le.2 j l l' hl hl'
        rw [hl, hl']
        congr 1
        rcases Int.lt_trichotomy l l' with z | z | z
        · have hb := (v'.btw hl').2
          have e : hiL cs ls' j = hiL cs ls j := by
            unfold hiL
            rw [ih (d - 1) (by omega) (j + 1) (by omega)]
          rw [e] at hb
          exact absurd (k.mono (by rw [List.length_set]; exact hv) (le.set1 hl' (Int.le_refl _)) hp hq) (h j l l' (Nat.zero_le _) hl z hb)
        · exact z.symm
        · omega
  apply List.ext_getElem?
  intro j
  rcases Nat.lt_or_ge j ls.length with h1 | h1
  · exact key (ls.length - j) j (by omega)
  · have hl := le.1
    rw [show ls'[j]? = none from List.getElem?_eq_none_iff.2 (by omega), show ls[j]? = none from List.getElem?_eq_none_iff.2 h1]
def Wq (cs ls : List Int) (p q : Int) : Prop := ∀ i, i < cs.length → ((qOf cs ls i).1 : Int) * q ≤ p * (qOf cs ls i).2
theorem qOf_int {cs ls : List Int} (v : Vp cs ls) {i : Nat} {c : Int} (hc : cs[i]? = some c) : ((qOf cs ls i).1 : Int) = c ∧ ((qOf cs ls i).2 : Int) = lmt ls i + (if i = 0 then 2 else 1) := by
  have hp := v.pos i c hc
  have hlen := v.len
  have hi := get_lt hc
  unfold qOf
  rw [hc]
  refine ⟨by simp only [Option.getD_some]; omega, ?_⟩
  cases i with
  | zero => simp [lmt]
  | succ j =>
    obtain ⟨l, hl⟩ := get_ex (l := ls) (i := j) (by omega)
    have := v.lpos j l hl
    simp only [lmt, hl, Option.getD_some]
    rw [if_neg (by omega)]
    omega
theorem lmt_le {ls ls' : List Int} (h : LeL ls ls') (i : Nat) : lmt ls i ≤ lmt ls' i := by
  cases i with
  | zero => exact Int.le_refl _
  | succ j =>
    simp only [lmt]
    cases hl : ls[j]? with
    | none =>
      rw [List.getElem?_eq_none_iff] at hl
      rw [List.getElem?_eq_none_iff.2 (by rw [← h.1]; exact hl)]
      exact Int.le_refl _
    | some l =>
      obtain ⟨l', hl'⟩ := get_ex (l := ls') (i := j) (by rw [← h.1]; exact get_lt hl)
      rw [hl']
      exact h.2 j l l' hl hl'
theorem Wq.mono {cs ls ls' : List Int} {p q : Int} (v : Vp cs ls) (v' : Vp cs ls') (le : LeL ls ls') (hp : 0 ≤ p) (w : Wq cs ls p q) : Wq cs ls' p q := fun i hi => by
  obtain ⟨c, hc⟩ := get_ex hi
  have h1 := w i hi
  obtain ⟨e1, e2⟩ := qOf_int v hc
  obtain ⟨e3, e4⟩ := qOf_int v' hc
  have h2 := lmt_le le i
  rw [e1, e2] at h1
  rw [e3, e4]
  have h3 := Int.mul_le_mul_of_nonneg_left (show lmt ls i + (if i = 0 then 2 else 1) ≤ lmt ls' i + (if i = 0 then 2 else 1) by omega) hp
  omega
end G
namespace G
open PySem
structure Swg (cs ls : List Int) (a b : Nat) (c l : Int) : Prop where
  hab : a ≤ b
  hb : b < ls.length
  hc : cs[b]? = some c
  hl : ls[a]? = some l
theorem Swg.of {cs ls : List Int} {ab : Nat × Nat} (v : Vp cs ls) (h : ab ∈ prsR 0 ls.length) : ∃ c l, Swg cs ls ab.1 ab.2 c l := by
  have hm := mem_prsR h
  have hlen := v.len
  obtain ⟨c, hc⟩ := get_ex (l := cs) (i := ab.2) (by omega)
  obtain ⟨l, hl⟩ := get_ex (l := ls) (i := ab.1) (by omega)
  exact ⟨c, l, hm.2.1, by omega, hc, hl⟩
section
variable {cs ls : List Int} {fx c l : Int} {a b : Nat}
end
end G
namespace G
open PySem
def UpC (cs : List Int) (off sz : Int) : Nat → List Mv → Prop
  | _, [] => True
  | lv, v :: vs => v.up = true ∧ v.lv = lv + 1 ∧ cs[lv]? = some v.cp ∧ lv + 1 < cs.length ∧ v.no = off + v.cp ∧ sz ≤ v.cp ∧ UpC cs off sz (lv + 1) vs
def DnC (ls : List Int) (off sz : Int) : Nat → List Mv → Prop
  | _, [] => True
  | lv, v :: vs => v.up = false ∧ 0 < lv ∧ v.lv = lv - 1 ∧ ls[lv - 1]? = some v.cp ∧ v.no = off - v.cp - 1 ∧ v.cp < sz ∧ DnC ls off sz (lv - 1) vs
def cpS (fx : Int) (vs : List Mv) : Int := (vs.map fun v => v.cp + fx).sum
def upS1 (vs : List Mv) : Int := (vs.map fun v => if v.up then (1 : Int) else -1).sum
theorem cpS_app {fx : Int} {a b : List Mv} : cpS fx (a ++ b) = cpS fx a + cpS fx b := by simp [cpS]
theorem upS1_app {a b : List Mv} : upS1 (a ++ b) = upS1 a + upS1 b := by simp [upS1]
theorem UpC.mono {cs : List Int} {off sz sz' : Int} (h : sz' ≤ sz) : ∀ {lv : Nat} {vs : List Mv}, UpC cs off sz lv vs → UpC cs off sz' lv vs
  | _, [], _ => trivial
  | lv, v :: vs, ⟨h1, h2, h3, h4, h5, h6, h7⟩ => ⟨h1, h2, h3, h4, h5, by omega, UpC.mono h h7⟩
theorem DnC.mono {ls : List Int} {off sz sz' : Int} (h : sz ≤ sz') : ∀ {lv : Nat} {vs : List Mv}, DnC ls off sz lv vs → DnC ls off sz' lv vs
  | _, [], _ => trivial
  | lv, v :: vs, ⟨h1, h2, h3, h4, h5, h6, h7⟩ => ⟨h1, h2, h3, h4, h5, by omega, DnC.mono h h7⟩
structure RunC (fx : Int) (t : Tk) (r : Tk × List Mv) : Prop where
  pd : r.1.pd = t.pd + cpS fx r.2
  lv : (r.1.lv : Int) = t.lv + upS1 r.2
theorem RunC.trans {fx : Int} {t : Tk} {r q : Tk × List Mv} (a : RunC fx t r) (b : RunC fx r.1 q) : RunC fx t (q.1, r.2 ++ q.2) :=
  ⟨by have := a.pd; have := b.pd; simp only [cpS_app]; omega, by have := a.lv; have := b.lv; simp only [upS1_app]; omega⟩
end G
namespace G
open PySem
inductive Parted : List Opn → List Opn → Prop
  | nil : Parted [] []
  | one {o : Opn} {os qs : List Opn} : Parted os qs → Parted (o :: os) (o :: qs)
  | two {b : Bool} {x y : Int} {os qs : List Opn} : 1 ≤ x → 1 ≤ y → Parted os qs → Parted ((b, x + y) :: os) ((b, x) :: (b, y) :: qs)
theorem Parted.ok {os qs : List Opn} (h : Parted os qs) : (∀ o, o ∈ os → okOp o) → ∀ o, o ∈ qs → okOp o := by
  induction h with
  | nil => exact fun h => h
  | one _ ih =>
    intro h q hq
    rcases List.mem_cons.1 hq with rfl | hq
    · exact h _ (by simp)
    · exact ih (fun o ho => h o (by simp [ho])) q hq
  | @two b x y os qs hx hy _ ih =>
    intro h q hq
    have h1 := h (b, x + y) (by simp)
    unfold okOp at h1
    simp only at h1
    simp only [List.mem_cons] at hq
    rcases hq with rfl | rfl | hq
    · exact ⟨hx, by simp only; omega⟩
    · exact ⟨hy, by simp only; omega⟩
    · exact ih (fun o ho => h o (by simp [ho])) q hq
theorem Parted.len {os qs : List Opn} (h : Parted os qs) : qs.length ≤ 2 * os.length := by
  induction h with
  | nil => simp
  | one _ ih => simp only [List.length_cons]; omega
  | two _ _ _ ih => simp only [List.length_cons]; omega
theorem Parted.sum {os qs : List Opn} (h : Parted os qs) : (qs.map fun o => o.2).sum = (os.map fun o => o.2).sum := by
  induction h with
  | nil => rfl
  | one _ ih => simp only [List.map_cons, List.sum_cons]; omega
  | two _ _ _ ih => simp only [List.map_cons, List.sum_cons]; omega
theorem Parted.app {a b c d : List Opn} (h : Parted a b) (h2 : Parted c d) : Parted (a ++ c) (b ++ d) := by
  induction h with
  | nil => exact h2
  | one _ ih => exact .one ih
  | two hx hy _ ih => exact .two hx hy ih
end G
set_option maxHeartbeats 1000000
namespace G
open PySem
structure Cp0 (cs : List Int) : Prop where
  ne : cs ≠ []
  asc : ∀ (i : Nat) (a b : Int), cs[i]? = some a → cs[i + 1]? = some b → a < b
  pos : ∀ (i : Nat) (a : Int), cs[i]? = some a → 1 ≤ a
theorem wp_niDM {a b : M D} {m : Hs} {Q : D → Hs → Prop} : wp (niDM a b) m Q = wp a m fun x m1 => wp b m1 fun y m2 => wp (niDS x y) m2 Q := by
  unfold niDM
  rw [wp_bnd]
  congr 1
  funext x m1
  rw [wp_bnd]
theorem wp_inDM {a b : M D} {m : Hs} {Q : D → Hs → Prop} : wp (inDM a b) m Q = wp a m fun x m1 => wp b m1 fun y m2 => wp (inDS x y) m2 Q := by
  unfold inDM
  rw [wp_bnd]
  congr 1
  funext x m1
  rw [wp_bnd]
theorem wp_zpM {f : List D → D} {a b : M D} {m : Hs} {Q : D → Hs → Prop} : wp (zpM f a b) m Q = wp a m fun x m1 => wp b m1 fun y m2 => wp (zpS f x y) m2 Q := by
  unfold zpM
  rw [wp_bnd]
  congr 1
  funext x m1
  rw [wp_bnd]
theorem w_zpFF {f : List D → D} {xs ys : List D} {m : Hs} {Q : D → Hs → Prop} : wp (zpS f (.fl xs) (.fl ys)) m Q = Q (f (zpL xs ys)) m := id rfl
theorem wp_isBM {a b : M D} {m : Hs} {Q : D → Hs → Prop} : wp (isBM a b) m Q = wp a m fun x m1 => wp b m1 fun y m2 => wp (isBS x y) m2 Q := by
  unfold isBM
  rw [wp_bnd]
  congr 1
  funext x m1
  rw [wp_bnd]
theorem wp_nsBM {a b : M D} {m : Hs} {Q : D → Hs → Prop} : wp (nsBM a b) m Q = wp a m fun x m1 => wp b m1 fun y m2 => wp (nsBS x y) m2 Q := by
  unfold nsBM
  rw [wp_bnd]
  congr 1
  funext x m1
  rw [wp_bnd]
theorem w_isBB {a b : Bool} {m : Hs} {Q : D → Hs → Prop} : wp (isBS (.bl a) (.bl b)) m Q = Q (.bl (decide (a = b))) m := id rfl
theorem w_nsBB {a b : Bool} {m : Hs} {Q : D → Hs → Prop} : wp (nsBS (.bl a) (.bl b)) m Q = Q (.bl (!decide (a = b))) m := id rfl
end G
namespace G
open PySem
theorem mxI_mem (r : List Int) (a : Int) : mxI a r ∈ a :: r := (mxI_ok r a).1
theorem mxI_ge (r : List Int) (a : Int) {y : Int} (h : y ∈ a :: r) : y ≤ mxI a r := (mxI_ok r a).2 y h
theorem mxI_le {r : List Int} {a b : Int} (h : ∀ y, y ∈ a :: r → y ≤ b) : mxI a r ≤ b := h _ (mxI_mem r a)
section
variable {V : Type} (w : V → Int) (suc : V → List (V × Int))
def stp (X : V → Int) (v : V) : Int := w v + mxI 0 ((suc v).map fun e => X e.1 - e.2)
def itr : Nat → V → Int
  | 0 => fun _ => 0
  | n + 1 => stp w suc (itr n)
variable {w suc}
theorem stp_mono {S : V → Prop} (hS : ∀ v, S v → ∀ e, e ∈ suc v → S e.1) {X Y : V → Int} (h : ∀ v, S v → X v ≤ Y v) : ∀ v, S v → stp w suc X v ≤ stp w suc Y v := fun v hv => by
  unfold stp
  have : mxI 0 ((suc v).map fun e => X e.1 - e.2) ≤ mxI 0 ((suc v).map fun e => Y e.1 - e.2) := mxI_le fun y hy => by
    rcases List.mem_cons.1 hy with rfl | hy
    · exact mxI_ge _ _ List.mem_cons_self
    · obtain ⟨e, he, rfl⟩ := List.mem_map.1 hy
      have h1 := h e.1 (hS v hv e he)
      have h2 := mxI_ge ((suc v).map fun e => Y e.1 - e.2) 0 (List.mem_cons_of_mem _ (List.mem_map_of_mem (f := fun e => Y e.1 - e.2) he))
      omega
  omega
theorem itr_le {S : V → Prop} (hS : ∀ v, S v → ∀ e, e ∈ suc v → S e.1) (hw : ∀ v, S v → 0 ≤ w v) : ∀ (n : Nat) (v : V), S v → itr w suc n v ≤ itr w suc (n + 1) v
  | 0, v, hv => by
    show (0 : Int) ≤ w v + mxI 0 _
    exact Int.add_nonneg (hw v hv) (mxI_ge _ _ List.mem_cons_self)
  | n + 1, v, hv => stp_mono hS (fun u hu => itr_le hS hw n u hu) v hv
theorem itr_le' {S : V → Prop} (hS : ∀ v, S v → ∀ e, e ∈ suc v → S e.1) (hw : ∀ v, S v → 0 ≤ w v) {v : V} (hv : S v) : ∀ {m n : Nat}, m ≤ n → itr w suc m v ≤ itr w suc n v
  | m, 0, h => by
    rw [Nat.le_zero.1 h]
    exact Int.le_refl _
  | m, n + 1, h => by
    rcases Nat.lt_or_ge m (n + 1) with h1 | h1
    · exact Int.le_trans (itr_le' hS hw hv (Nat.lt_succ_iff.1 h1)) (itr_le hS hw n v hv)
    · rw [show m = n + 1 by omega]
      exact Int.le_refl _
theorem crit {S : V → Prop} (hS : ∀ v, S v → ∀ e, e ∈ suc v → S e.1) (hw : ∀ v, S v → 0 ≤ w v) {T : V → Int} (hT : ∀ v, S v → stp w suc T v ≤ T v) : ∀ (n : Nat) (v : V), S v → itr w suc n v < itr w suc (n + 1) v →
    ∃ vs : List V, vs.length = n + 1 ∧ vs.Nodup ∧ (∀ x, x ∈ vs → S x ∧ ∃ j, j ≤ n ∧ itr w suc j x < itr w suc (j + 1) x ∧ T x - itr w suc (j + 1) x ≤ T v - itr w suc (n + 1) v)
  | 0, v, hv, h => ⟨[v], rfl, by simp, fun x hx => by
    rw [List.mem_singleton.1 hx]
    exact ⟨hv, 0, Nat.le_refl _, h, Int.le_refl _⟩⟩
  | n + 1, v, hv, h => by
    have e1 : itr w suc (n + 1 + 1) v = w v + mxI 0 ((suc v).map fun e => itr w suc (n + 1) e.1 - e.2) := rfl
    have e0 : itr w suc (n + 1) v = w v + mxI 0 ((suc v).map fun e => itr w suc n e.1 - e.2) := rfl
    have g0 := mxI_ge ((suc v).map fun e => itr w suc n e.1 - e.2) 0 (y := 0) List.mem_cons_self
    rcases List.mem_cons.1 (mxI_mem ((suc v).map fun e => itr w suc (n + 1) e.1 - e.2) 0) with hm | hm
    · rw [hm] at e1
      omega
    · obtain ⟨e, he, hm⟩ := List.mem_map.1 hm
      have he2 := hS v hv e he
      have g1 := mxI_ge ((suc v).map fun e => itr w suc n e.1 - e.2) 0 (List.mem_cons_of_mem _ (List.mem_map_of_mem (f := fun e => itr w suc n e.1 - e.2) he))
      have hlt : itr w suc n e.1 < itr w suc (n + 1) e.1 := by omega
      obtain ⟨vs, h1, h2, h3⟩ := crit hS hw hT n e.1 he2 hlt
      have hT1 := hT v hv
      have g2 := mxI_ge ((suc v).map fun e => T e.1 - e.2) 0 (List.mem_cons_of_mem _ (List.mem_map_of_mem (f := fun e => T e.1 - e.2) he))
      have e2 : stp w suc T v = w v + mxI 0 ((suc v).map fun e => T e.1 - e.2) := rfl
      have hD : T e.1 - itr w suc (n + 1) e.1 ≤ T v - itr w suc (n + 1 + 1) v := by omega
      refine ⟨v :: vs, by simp [h1], ?_, fun x hx => ?_⟩
      · rw [List.nodup_cons]
        refine ⟨fun hmem => ?_, h2⟩
        obtain ⟨_, j, hj, _, hj2⟩ := h3 v hmem
        have h4 := itr_le' hS hw hv (show j + 1 ≤ n + 1 by omega)
        omega
      · rcases List.mem_cons.1 hx with rfl | hx
        · exact ⟨hv, n + 1, Nat.le_refl _, h, Int.le_refl _⟩
        · obtain ⟨h5, j, hj, h6, h7⟩ := h3 x hx
          exact ⟨h5, j, by omega, h6, by omega⟩
theorem nodup_le {α : Type} [DecidableEq α] : ∀ (vs S : List α), vs.Nodup → (∀ v, v ∈ vs → v ∈ S) → vs.length ≤ S.length
  | [], _, _, _ => Nat.zero_le _
  | v :: vs, S, h, hs => by
    rw [List.nodup_cons] at h
    have hv := hs v List.mem_cons_self
    have ih := nodup_le vs (S.erase v) h.2 fun x hx => (List.mem_erase_of_ne fun e => h.1 (by rw [← e]; exact hx)).2 (hs x (List.mem_cons_of_mem _ hx))
    rw [List.length_erase_of_mem hv] at ih
    have := List.length_pos_of_mem hv
    simp only [List.length_cons]
    omega
theorem itr_fix [DecidableEq V] {S : List V} (hS : ∀ v, v ∈ S → ∀ e, e ∈ suc v → e.1 ∈ S) (hw : ∀ v, v ∈ S → 0 ≤ w v) {T : V → Int} (hT : ∀ v, v ∈ S → stp w suc T v ≤ T v) {n : Nat} (hn : S.length ≤ n) : ∀ v, v ∈ S → itr w suc (n + 1) v = itr w suc n v := fun v hv => by
  have h1 := itr_le (S := (· ∈ S)) hS hw n v hv
  rcases Int.lt_or_eq_of_le h1 with h | h
  · obtain ⟨vs, a1, a2, a3⟩ := crit (S := (· ∈ S)) hS hw hT n v hv h
    have := nodup_le vs S a2 fun x hx => (a3 x hx).1
    omega
  · exact h.symm
end
end G
namespace G
open PySem
def us (cs : List Int) (k : Nat) : Int := cs[k]?.getD 0
abbrev Nd := Bool × Nat
def wG (cs ls : List Int) (fx q : Int) : Nd → Int
  | (true, k) => q * (us cs k + fx)
  | (false, k) => q * (us ls k + fx)
def sucG (cs ls : List Int) (p : Int) : Nd → List (Nd × Int)
  | (true, k) => (if k + 1 < ls.length then [((true, k + 1), p * (us cs (k + 1) - us cs k))] else []) ++ [((false, k), p * (us cs k + 1 - us ls k))]
  | (false, k) => ((true, k), p * (us cs k + 1 - us ls k)) :: (if 0 < k then [((false, k - 1), p * (us ls k - us ls (k - 1)))] else [])
def ndS (N : Nat) : List Nd := (List.range N).map (fun k => (true, k)) ++ (List.range N).map fun k => (false, k)
theorem mem_ndS {N : Nat} {v : Nd} : v ∈ ndS N ↔ v.2 < N := by
  obtain ⟨b, k⟩ := v
  unfold ndS
  rw [List.mem_append, List.mem_map, List.mem_map]
  constructor
  · rintro (⟨j, h, e⟩ | ⟨j, h, e⟩) <;> cases e <;> exact List.mem_range.1 h
  · intro h
    cases b
    · exact .inr ⟨k, List.mem_range.2 h, rfl⟩
    · exact .inl ⟨k, List.mem_range.2 h, rfl⟩
theorem ndS_len {N : Nat} : (ndS N).length = 2 * N := by
  unfold ndS
  rw [List.length_append, List.length_map, List.length_map, List.length_range]
  omega
theorem sucG_in {cs ls : List Int} {p : Int} (v : Nd) (hv : v ∈ ndS ls.length) (e : Nd × Int) (he : e ∈ sucG cs ls p v) : e.1 ∈ ndS ls.length := by
  rw [mem_ndS] at *
  obtain ⟨b, k⟩ := v
  cases b
  · simp only [sucG, List.mem_cons] at he
    rcases he with rfl | he
    · exact hv
    · split at he
      · rw [List.mem_singleton.1 he]
        simp only at hv ⊢
        omega
      · cases he
  · simp only [sucG, List.mem_append, List.mem_singleton] at he
    rcases he with he | rfl
    · split at he
      · rw [List.mem_singleton.1 he]
        simp only
        omega
      · cases he
    · exact hv
section
variable {cs ls : List Int} {fx p q : Int}
theorem us_at {k : Nat} {c : Int} (h : cs[k]? = some c) : us cs k = c := by simp [us, h]
theorem PB.us0 {n : Nat} {B F : Int} (h : PB n B F cs ls fx) {k : Nat} (hk : k < ls.length) : 1 ≤ us cs k ∧ us cs k ≤ B ∧ 0 ≤ us ls k ∧ us ls k ≤ us cs k := by
  have hlen := h.v.len
  obtain ⟨c, hc⟩ := get_ex (l := cs) (i := k) (by omega)
  obtain ⟨l, hl⟩ := get_ex hk
  rw [us_at hc, us_at hl]
  have h1 := h.v.pos k c hc
  have h2 := h.cB c (List.mem_of_getElem? hc)
  have h3 := h.v.lpos k l hl
  have h4 := h.v.le k l c hl hc
  omega
theorem wG_nn {n : Nat} {B F : Int} (h : PB n B F cs ls fx) (hq : 0 ≤ q) (v : Nd) (hv : v ∈ ndS ls.length) : 0 ≤ wG cs ls fx q v := by
  rw [mem_ndS] at hv
  have h1 := h.us0 hv
  have h2 := h.f0
  obtain ⟨b, k⟩ := v
  cases b <;> simp only [wG] <;> exact Int.mul_nonneg hq (by simp only at h1; omega)
theorem rowR_mem {a : Nat} : ∀ {c b x : Nat}, b ≤ x → x < b + c → (a, x) ∈ rowR a b c
  | 0, b, x, h1, h2 => by omega
  | c + 1, b, x, h1, h2 => by
    unfold rowR
    rcases Nat.lt_or_ge b x with h | h
    · exact List.mem_cons_of_mem _ (rowR_mem (by omega) (by omega))
    · rw [show x = b by omega]
      exact List.mem_cons_self
theorem prsR_mem : ∀ {c a0 a b : Nat}, a0 ≤ a → a ≤ b → b < a0 + c → (a, b) ∈ prsR a0 c
  | 0, a0, a, b, h1, h2, h3 => by omega
  | c + 1, a0, a, b, h1, h2, h3 => by
    unfold prsR
    rw [List.mem_append]
    rcases Nat.lt_or_ge a0 a with h | h
    · exact .inr (prsR_mem (by omega) h2 (by omega))
    · rw [show a = a0 by omega]
      exact .inl (rowR_mem (by omega) (by omega))
theorem descend {N : Nat} (L M : Nat → Int) (h : ∀ a b, a ≤ b → b < N → L b ≤ M a) : ∃ g : Nat → Int, (∀ k, k < N → L k ≤ g k) ∧ (∀ k, k < N → g k ≤ M k) ∧ ∀ k, k + 1 < N → g (k + 1) ≤ g k := by
  refine ⟨fun k => mxI (L k) (((List.range N).filter fun b => decide (k ≤ b)).map L), fun k _ => mxI_ge _ _ List.mem_cons_self, fun k hk => mxI_le fun y hy => ?_, fun k hk => mxI_le fun y hy => ?_⟩
  · rcases List.mem_cons.1 hy with rfl | hy
    · exact h k k (Nat.le_refl _) hk
    · obtain ⟨b, hb, rfl⟩ := List.mem_map.1 hy
      rw [List.mem_filter, List.mem_range] at hb
      exact h k b (by simpa using hb.2) hb.1
  · have : ∀ b, k ≤ b → b < N → L b ≤ mxI (L k) (((List.range N).filter fun b => decide (k ≤ b)).map L) := fun b h1 h2 =>
      mxI_ge _ _ (List.mem_cons_of_mem _ (List.mem_map_of_mem (List.mem_filter.2 ⟨List.mem_range.2 h2, by simpa using h1⟩)))
    rcases List.mem_cons.1 hy with rfl | hy
    · exact this _ (by omega) hk
    · obtain ⟨b, hb, rfl⟩ := List.mem_map.1 hy
      rw [List.mem_filter, List.mem_range] at hb
      have hb2 : k + 1 ≤ b := by simpa using hb.2
      exact this b (by omega) hb.1
theorem bd_all (f : Nat → Int) : ∀ N : Nat, ∃ K : Int, 0 ≤ K ∧ ∀ k, k < N → f k ≤ K
  | 0 => ⟨0, Int.le_refl _, fun k h => absurd h (Nat.not_lt_zero _)⟩
  | N + 1 => by
    obtain ⟨K, h0, h⟩ := bd_all f N
    refine ⟨K + (if 0 ≤ f N then f N else 0), by split <;> omega, fun k hk => ?_⟩
    rcases Nat.lt_or_ge k N with h1 | h1
    · have := h k h1
      split <;> omega
    · rw [show k = N by omega]
      split <;> omega
def sU (cs : List Int) (fx q : Int) : Nat → Int
  | 0 => 0
  | k + 1 => sU cs fx q k + q * (us cs k + fx)
theorem sg_q {a : Nat} (hlen : cs.length = ls.length + 1) : ∀ n : Nat, a + n ≤ ls.length → sg (cs.zip ls) (fun x => x.1 + x.2 + 2 * fx) a n * q = (sU cs fx q (a + n) + sU ls fx q (a + n)) - (sU cs fx q a + sU ls fx q a)
  | 0, _ => by simp [sg]
  | n + 1, h => by
    obtain ⟨c, hc⟩ := get_ex (l := cs) (i := a + n) (by omega)
    obtain ⟨l, hl⟩ := get_ex (l := ls) (i := a + n) (by omega)
    have ih := sg_q (a := a) hlen n (by omega)
    rw [sg_snoc (zip_at hc hl), Int.add_mul, ih]
    have e : a + (n + 1) = (a + n) + 1 := by omega
    rw [e]
    simp only [sU]
    rw [us_at hc, us_at hl]
    have : (c + l + 2 * fx) * q = q * (c + fx) + q * (l + fx) := by
      rw [← Int.mul_add, Int.mul_comm]
      congr 1
      omega
    rw [this]
    omega
theorem pre_ex {n : Nat} {B F : Int} (h : PB n B F cs ls fx) (k : Kp cs ls fx p q) : ∃ T : Nd → Int, ∀ v, v ∈ ndS ls.length → stp (wG cs ls fx q) (sucG cs ls p) T v ≤ T v := by
  have hlen := h.v.len
  obtain ⟨g, g1, g2, g3⟩ := descend (N := ls.length) (fun b => (sU cs fx q (b + 1) + sU ls fx q (b + 1)) - (2 * (p * us cs b) + p)) (fun a => (sU cs fx q a + sU ls fx q a) - (2 * (p * us ls a) - p)) (fun a b hab hb => by
    have h1 := k (a, b) (prsR_mem (Nat.zero_le _) hab (by omega))
    obtain ⟨cb, hcb⟩ := get_ex (l := cs) (i := b) (by omega)
    obtain ⟨lb, hlb⟩ := get_ex hb
    obtain ⟨ca, hca⟩ := get_ex (l := cs) (i := a) (by omega)
    obtain ⟨la, hla⟩ := get_ex (l := ls) (i := a) (by omega)
    unfold swN at h1
    simp only [zip_at hcb hlb, zip_at hca hla, Option.getD_some] at h1
    have h2 := sg_q (fx := fx) (q := q) (a := a) hlen (b + 1 - a) (by omega)
    rw [show a + (b + 1 - a) = b + 1 by omega] at h2
    rw [h2] at h1
    rw [us_at hcb, us_at hla]
    have e : p * (2 * (cb + 1 - la)) = 2 * (p * cb) + 2 * p - 2 * (p * la) := by
      rw [show 2 * (cb + 1 - la) = cb + cb + (1 + 1) - (la + la) by omega]
      simp only [Int.mul_sub, Int.mul_add, Int.mul_one]
      omega
    rw [e] at h1
    omega)
  obtain ⟨K1, _, hK1⟩ := bd_all (fun k => q * (us cs k + fx) - (g k - sU cs fx q k + p * us cs k)) ls.length
  obtain ⟨K2, _, hK2⟩ := bd_all (fun k => q * (us ls k + fx) - (sU ls fx q (k + 1) - p * us ls k)) ls.length
  refine ⟨fun v => match v with
    | (true, k) => g k + (if K1 ≤ K2 then K2 else K1) - sU cs fx q k + p * us cs k
    | (false, k) => (if K1 ≤ K2 then K2 else K1) + sU ls fx q (k + 1) - p * us ls k, fun v hv => ?_⟩
  have hKK : K1 ≤ (if K1 ≤ K2 then K2 else K1) ∧ K2 ≤ (if K1 ≤ K2 then K2 else K1) := by split <;> omega
  generalize (if K1 ≤ K2 then K2 else K1) = K at *
  rw [mem_ndS] at hv
  obtain ⟨b, i⟩ := v
  simp only at hv
  have a1 := g1 i hv
  have a2 := g2 i hv
  have b1 := hK1 i hv
  have b2 := hK2 i hv
  have eU : sU cs fx q (i + 1) = sU cs fx q i + q * (us cs i + fx) := rfl
  have eL : sU ls fx q (i + 1) = sU ls fx q i + q * (us ls i + fx) := rfl
  have e5 : p * (us cs i + 1 - us ls i) = p * us cs i + p - p * us ls i := by rw [Int.mul_sub, Int.mul_add, Int.mul_one]
  unfold stp
  cases b
  · simp only [wG]
    have : mxI 0 ((sucG cs ls p (false, i)).map fun e => (match e.1 with
      | (true, k) => g k + K - sU cs fx q k + p * us cs k
      | (false, k) => K + sU ls fx q (k + 1) - p * us ls k) - e.2) ≤ K + sU ls fx q (i + 1) - p * us ls i - q * (us ls i + fx) := mxI_le fun y hy => by
      rcases List.mem_cons.1 hy with rfl | hy
      · omega
      · obtain ⟨e, he, rfl⟩ := List.mem_map.1 hy
        simp only [sucG, List.mem_cons] at he
        rcases he with rfl | he
        · simp only [e5]
          omega
        · split at he
          · rw [List.mem_singleton.1 he]
            have e3 : sU ls fx q (i - 1 + 1) = sU ls fx q i := by rw [show i - 1 + 1 = i by omega]
            simp only [Int.mul_sub, e3]
            omega
          · cases he
    omega
  · simp only [wG]
    have : mxI 0 ((sucG cs ls p (true, i)).map fun e => (match e.1 with
      | (true, k) => g k + K - sU cs fx q k + p * us cs k
      | (false, k) => K + sU ls fx q (k + 1) - p * us ls k) - e.2) ≤ g i + K - sU cs fx q i + p * us cs i - q * (us cs i + fx) := mxI_le fun y hy => by
      rcases List.mem_cons.1 hy with rfl | hy
      · omega
      · obtain ⟨e, he, rfl⟩ := List.mem_map.1 hy
        simp only [sucG, List.mem_append, List.mem_singleton] at he
        rcases he with he | rfl
        · split at he
          · rename_i hi
            rw [List.mem_singleton.1 he]
            have a3 := g3 i hi
            simp only [Int.mul_sub, eU]
            omega
          · cases he
        · simp only [e5]
          omega
    omega
end
end G
namespace G
open PySem
abbrev Rw := Option Int × Option Int
def rwT (N : Nat) (X : Nd → Int) (i : Nat) : Rw := (if i < N then some (X (true, i)) else none, if 0 < i then some (X (false, i - 1)) else none)
def rowsT (N : Nat) (X : Nd → Int) : List Rw := (List.range (N + 1)).map (rwT N X)
def ups (p c sz : Int) (r : Option Int) : Option Int := r.map fun x => x - p * (c + 1 - sz)
def dws (p lm sz : Int) (r : Option Int) : Option Int := r.map fun x => x - p * (sz - lm)
def crd (p c lm sz : Int) (r : Rw) : List Int := (ups p c sz r.1).toList ++ (dws p lm sz r.2).toList
theorem crd_up {cs ls : List Int} {p : Int} {X : Nd → Int} {k : Nat} (hk : k < ls.length) : crd p (us cs (k + 1)) (us ls k) (us cs k + 1) (rwT ls.length X (k + 1)) = (sucG cs ls p (true, k)).map fun e => X e.1 - e.2 := by
  have e1 : us cs (k + 1) + 1 - (us cs k + 1) = us cs (k + 1) - us cs k := by omega
  unfold crd rwT ups dws
  simp only [sucG]
  by_cases h : k + 1 < ls.length
  · simp [h, e1]
  · simp [h]
theorem crd_dn {cs ls : List Int} {p : Int} {X : Nd → Int} {k : Nat} (hk : k < ls.length) : crd p (us cs k) (lmt ls k) (us ls k) (rwT ls.length X k) = (sucG cs ls p (false, k)).map fun e => X e.1 - e.2 := by
  unfold crd rwT ups dws
  simp only [sucG, if_pos hk]
  cases k with
  | zero => simp
  | succ j =>
    have e1 : lmt ls (j + 1) = us ls j := rfl
    simp [e1]
abbrev itG (cs ls : List Int) (fx p q : Int) : Nat → Nd → Int := itr (wG cs ls fx q) (sucG cs ls p)
theorem itG_fix {cs ls : List Int} {fx p q : Int} {n : Nat} {B F : Int} (h : PB n B F cs ls fx) (hq : 0 ≤ q) (k : Kp cs ls fx p q) {j : Nat} (hj : 2 * ls.length ≤ j) : ∀ v, v ∈ ndS ls.length → itG cs ls fx p q (j + 1) v = itG cs ls fx p q j v := by
  obtain ⟨T, hT⟩ := pre_ex h k
  exact itr_fix (fun v hv e he => sucG_in v hv e he) (wG_nn h hq) hT (by rw [ndS_len]; exact hj)
end G
namespace G
open PySem
section
variable {m : Hs} {xs ys : List D} {x y z : D} {Q : D → Hs → Prop}
end
theorem kw_04 {f : List D → M D} {is : List Nat} {a b c d : D} {m : Hs} {Q : D → Hs → Prop} : wp (kwS f 0 4 is [] [a, b, c, d]) m Q = wp (f (pick is [a, b, c, d])) m Q := rfl
theorem pick_3210 {a b c d : D} : pick [3, 2, 1, 0] [a, b, c, d] = [d, c, b, a] := rfl
def catS (x y : D) : M (List D) := bnd (ask (lstOf x)) fun xs => bnd (ask (lstOf y)) fun ys => if xs.length + ys.length ≤ sizeLine then ret (xs ++ ys) else bad
theorem wp_catO {a b : M D} {m : Hs} {R : List D → Hs → Prop} : wp (catO a b) m R = wp a m fun x m1 => wp b m1 fun y m2 => wp (catS x y) m2 R := by
  unfold catO
  rw [wp_bnd]
  congr 1
  funext x m1
  rw [wp_bnd]
  congr 1
theorem w_catF {xs ys : List D} {m : Hs} {R : List D → Hs → Prop} : wp (catS (.fl xs) (.fl ys)) m R = (xs.length + ys.length ≤ sizeLine ∧ R (xs ++ ys) m) := by
  unfold catS
  rw [wp_bnd, wp_ask]
  simp only [lstOf, Option.some.injEq, exists_eq_left']
  rw [wp_bnd, wp_ask]
  simp only [lstOf, Option.some.injEq, exists_eq_left']
  by_cases h : xs.length + ys.length ≤ sizeLine
  · rw [if_pos h, wp_ret]
    simp [h]
  · rw [if_neg h]
    simp [h]
    exact id
def crdv (cs ls : List Int) (p : Int) (X : Nd → Int) (st : Nat × Int) : Int := mxI 0 (crd p (us cs st.1) (lmt ls st.1) st.2 (rwT ls.length X st.1))
section
variable {cs ls : List Int} {fx p q : Int} {X : Nd → Int} {i : Nat} {sz : Int}
theorem Sv.cap (h : Sv cs ls i sz) : cs[i]? = some (us cs i) ∧ sz ≤ us cs i := by
  obtain ⟨c, h1, h2⟩ := h.top
  rw [us_at h1]
  exact ⟨h1, h2⟩
theorem Sv.lo (v : Vp cs ls) (h : Sv cs ls i sz) : lmt ls i < sz := by
  cases i with
  | zero =>
    have := h.low
    simp only [lmt]
    omega
  | succ k =>
    have hc := get_lt h.cap.1
    have hlen := v.len
    obtain ⟨l, hl⟩ := get_ex (l := ls) (i := k) (by omega)
    have := h.lim k l rfl hl
    simp only [lmt, hl, Option.getD_some]
    exact this
end
end G
namespace G
open PySem
section
variable {cs ls : List Int} {fx p q : Int} {X : Nd → Int}
theorem crdv_up (hk : i < ls.length) : crdv cs ls p X (i + 1, us cs i + 1) = mxI 0 ((sucG cs ls p (true, i)).map fun e => X e.1 - e.2) := by
  rw [← crd_up hk]
  unfold crdv
  simp only
  rw [show lmt ls (i + 1) = us ls i from rfl]
theorem crdv_dn (hk : i < ls.length) : crdv cs ls p X (i, us ls i) = mxI 0 ((sucG cs ls p (false, i)).map fun e => X e.1 - e.2) := by
  rw [← crd_dn hk]
  rfl
end
end G
namespace G
open PySem
section
variable {cs ls : List Int} {fx p q : Int} {X : Nd → Int} {i : Nat} {sz : Int} {t : Tk}
theorem crdv_0 : 0 ≤ crdv cs ls p X (i, sz) := mxI_ge _ 0 (by simp)
theorem crdv_geU (h : i < ls.length) : X (true, i) - p * (us cs i + 1 - sz) ≤ crdv cs ls p X (i, sz) := mxI_ge _ 0 (by simp [crd, rwT, ups, h])
theorem crdv_geD {k : Nat} : X (false, k) - p * (sz - lmt ls (k + 1)) ≤ crdv cs ls p X (k + 1, sz) := mxI_ge _ 0 (by simp [crd, rwT, dws])
theorem crdv_le {z : Int} (h0 : 0 ≤ z) (hu : i < ls.length → X (true, i) - p * (us cs i + 1 - sz) ≤ z) (hd : ∀ k, i = k + 1 → X (false, k) - p * (sz - lmt ls i) ≤ z) : crdv cs ls p X (i, sz) ≤ z := by
  unfold crdv
  refine mxI_le fun y hy => ?_
  simp only [crd, List.mem_cons, List.mem_append, Option.mem_toList] at hy
  rcases hy with rfl | hy | hy
  · exact h0
  · simp only [ups, rwT] at hy
    split at hy
    · rename_i h
      simp at hy
      have := hu h
      omega
    · cases hy
  · simp only [dws, rwT] at hy
    split at hy
    · rename_i h
      simp at hy
      have := hd (i - 1) (by omega)
      omega
    · cases hy
theorem crdv_move {sz' : Int} (hp : 0 ≤ p) (h : sz' = sz + 1 ∨ sz' = sz - 1) : crdv cs ls p X (i, sz') ≤ crdv cs ls p X (i, sz) + p := by
  have h0 := crdv_0 (cs := cs) (ls := ls) (p := p) (X := X) (i := i) (sz := sz)
  refine crdv_le (by omega) (fun hi => ?_) (fun k hk => ?_)
  · have := crdv_geU (cs := cs) (p := p) (X := X) (sz := sz) hi
    rcases h with rfl | rfl
    · have e : p * (us cs i + 1 - (sz + 1)) = p * (us cs i + 1 - sz) - p := by rw [show us cs i + 1 - (sz + 1) = (us cs i + 1 - sz) - 1 by omega, Int.mul_sub, Int.mul_one]
      omega
    · have e : p * (us cs i + 1 - (sz - 1)) = p * (us cs i + 1 - sz) + p := by rw [show us cs i + 1 - (sz - 1) = (us cs i + 1 - sz) + 1 by omega, Int.mul_add, Int.mul_one]
      omega
  · subst hk
    have := crdv_geD (cs := cs) (ls := ls) (p := p) (X := X) (sz := sz) (k := k)
    rcases h with rfl | rfl
    · have e : p * (sz + 1 - lmt ls (k + 1)) = p * (sz - lmt ls (k + 1)) + p := by rw [show sz + 1 - lmt ls (k + 1) = (sz - lmt ls (k + 1)) + 1 by omega, Int.mul_add, Int.mul_one]
      omega
    · have e : p * (sz - 1 - lmt ls (k + 1)) = p * (sz - lmt ls (k + 1)) - p := by rw [show sz - 1 - lmt ls (k + 1) = (sz - lmt ls (k + 1)) - 1 by omega, Int.mul_sub, Int.mul_one]
      omega
theorem crd_one (v : Vp cs ls) (hX : ∀ v, v ∈ ndS ls.length → stp (wG cs ls fx q) (sucG cs ls p) X v ≤ X v) (hp : 0 ≤ p) (s : Sv cs ls t.lv t.sz) {b : Bool} (h1 : b = true → t.sz < us cs t.lv ∨ t.lv < ls.length) :
    crdv cs ls p X ((stS cs ls fx b t).1.lv, (stS cs ls fx b t).1.sz) + q * ((stS cs ls fx b t).1.pd - t.pd) ≤ crdv cs ls p X (t.lv, t.sz) + p := by
  obtain ⟨c1, c2⟩ := s.cap
  have hlen := v.len
  cases b with
  | true =>
    have h1 := h1 rfl
    simp only [stS, if_true, upS, c1]
    split
    · rename_i h
      simp only
      rw [Int.sub_self, Int.mul_zero]
      have := crdv_move (cs := cs) (ls := ls) (X := X) (i := t.lv) (sz := t.sz) hp (.inl rfl)
      omega
    · rename_i h
      have hi : t.lv < ls.length := by omega
      have e : t.sz = us cs t.lv := by omega
      have g := crdv_geU (cs := cs) (p := p) (X := X) (sz := t.sz) hi
      have g2 := hX (true, t.lv) (mem_ndS.2 hi)
      have e3 : stp (wG cs ls fx q) (sucG cs ls p) X (true, t.lv) = q * (us cs t.lv + fx) + mxI 0 ((sucG cs ls p (true, t.lv)).map fun e => X e.1 - e.2) := rfl
      rw [e3, ← crdv_up hi] at g2
      simp only
      rw [e] at g ⊢
      rw [show us cs t.lv + 1 - us cs t.lv = 1 by omega, Int.mul_one] at g
      rw [show t.pd + (us cs t.lv + fx) - t.pd = us cs t.lv + fx by omega]
      omega
  | false =>
    simp only [stS, Bool.false_eq_true, if_false, dnS]
    cases hl : t.lv with
    | zero =>
      simp only
      rw [Int.sub_self, Int.mul_zero]
      have := crdv_move (cs := cs) (ls := ls) (X := X) (i := 0) (sz := t.sz) hp (.inr rfl)
      omega
    | succ k =>
      obtain ⟨l, hl2⟩ := get_ex (l := ls) (i := k) (by have := get_lt c1; omega)
      have e1 : lmt ls (k + 1) = l := by simp [lmt, hl2]
      have e2 : us ls k = l := us_at hl2
      simp only [hl2]
      split
      · rename_i h
        have g := crdv_geD (cs := cs) (ls := ls) (p := p) (X := X) (sz := t.sz) (k := k)
        have hk := get_lt hl2
        have g2 := hX (false, k) (mem_ndS.2 hk)
        have e3 : stp (wG cs ls fx q) (sucG cs ls p) X (false, k) = q * (us ls k + fx) + mxI 0 ((sucG cs ls p (false, k)).map fun e => X e.1 - e.2) := rfl
        rw [e3, ← crdv_dn hk] at g2
        simp only
        rw [e1, show t.sz - l = 1 by omega, Int.mul_one] at g
        rw [e2] at g2
        rw [h, show t.pd + (l + fx) - t.pd = l + fx by omega]
        omega
      · simp only
        rw [Int.sub_self, Int.mul_zero]
        have := crdv_move (cs := cs) (ls := ls) (X := X) (i := k + 1) (sz := t.sz) hp (.inr rfl)
        omega
end
end G
namespace G
open PySem
theorem zip_take {cs ls : List Int} {n : Nat} : (cs.take (n + 1)).zip (ls.take n) = (cs.zip ls).take n := by
  apply List.ext_getElem?
  intro i
  rw [List.getElem?_take]
  rcases Nat.lt_or_ge i n with h | h
  · rw [if_pos h]
    rcases h1 : cs[i]? with _ | c
    · rw [List.getElem?_eq_none_iff.2 (by rw [List.length_zip, List.length_take, List.length_take]; have := List.getElem?_eq_none_iff.1 h1; omega), List.getElem?_eq_none_iff.2 (by rw [List.length_zip]; have := List.getElem?_eq_none_iff.1 h1; omega)]
    · rcases h2 : ls[i]? with _ | l
      · rw [List.getElem?_eq_none_iff.2 (by rw [List.length_zip, List.length_take, List.length_take]; have := List.getElem?_eq_none_iff.1 h2; omega), List.getElem?_eq_none_iff.2 (by rw [List.length_zip]; have := List.getElem?_eq_none_iff.1 h2; omega)]
      · rw [zip_at h1 h2, zip_at (c := c) (l := l) (by rw [List.getElem?_take, if_pos (by omega)]; exact h1) (by rw [List.getElem?_take, if_pos h]; exact h2)]
  · rw [if_neg (by omega), List.getElem?_eq_none_iff.2 (by rw [List.length_zip, List.length_take, List.length_take]; omega)]
theorem sg_take {P : List (Int × Int)} {f : Int × Int → Int} {a n k : Nat} (h : a + n ≤ k) : sg (P.take k) f a n = sg P f a n := by
  unfold sg
  rw [List.drop_take, List.take_take, Nat.min_eq_left (by omega)]
theorem swN_take {P : List (Int × Int)} {ex : Int} {ab : Nat × Nat} {k : Nat} (h1 : ab.1 ≤ ab.2) (h2 : ab.2 < k) : swN (P.take k) ex ab = swN P ex ab := by
  unfold swN
  rw [sg_take (by omega), List.getElem?_take, List.getElem?_take, if_pos (by omega), if_pos (by omega)]
theorem Vp.take {cs ls : List Int} {n : Nat} (v : Vp cs ls) (hn : n ≤ ls.length) : Vp (cs.take (n + 1)) (ls.take n) := by
  have hl := v.len
  have gc : ∀ (i : Nat) (a : Int), (cs.take (n + 1))[i]? = some a → cs[i]? = some a := fun i a h => by
    rw [List.getElem?_take] at h
    split at h
    · exact h
    · cases h
  have gl : ∀ (i : Nat) (a : Int), (ls.take n)[i]? = some a → ls[i]? = some a := fun i a h => by
    rw [List.getElem?_take] at h
    split at h
    · exact h
    · cases h
  exact ⟨by rw [List.length_take, List.length_take]; omega, fun i a b h1 h2 => v.asc i a b (gc _ _ h1) (gc _ _ h2), fun i a h => v.pos i a (gc _ _ h), fun i a b h1 h2 => v.lasc i a b (gl _ _ h1) (gl _ _ h2), fun i a h => v.lpos i a (gl _ _ h), fun i a b h1 h2 => v.le i a b (gl _ _ h1) (gc _ _ h2)⟩
theorem Kp.take {cs ls : List Int} {fx p q : Int} {n : Nat} (hn : n ≤ ls.length) (k : Kp cs ls fx p q) : Kp (cs.take (n + 1)) (ls.take n) fx p q := fun ab hab => by
  rw [List.length_take, Nat.min_eq_left hn] at hab
  have hm := mem_prsR hab
  have := k ab (prsR_mem (by omega) hm.2.1 (by omega))
  rw [zip_take, swN_take hm.2.1 (by omega)]
  exact this
end G
namespace G
open PySem
section
variable {cs ls : List Int} {fx p q : Int} {T : Nd → Int}
end
section
variable {V : Type} {w : V → Int} {suc : V → List (V × Int)}
end
end G
namespace G
open PySem
def hlv (o : Opn) : List Opn := if o.2 / 2 > 0 then [(o.1, o.2 / 2), (o.1, o.2 - o.2 / 2)] else [(o.1, o.2 - o.2 / 2)]
end G
namespace G
open PySem
section
variable {α β A B C : Type} {m : Hs} {R : Nat → List (Str × D) → Hs → Prop}
end
end G
namespace G
open PySem
section
variable {α β A B C A1 : Type} {m : Hs} {R : Nat → List (Str × D) → Hs → Prop}
end
end G
set_option maxHeartbeats 2000000
namespace G
open PySem L2 PySem.Spec PyProof.Rows
mutual
def wt : D → Nat
  | .non => 4
  | .bl _ => 5
  | .int _ => 1921
  | .str s => (reprText s).length
  | .tup xs => wtL xs + 2
  | .fl xs => wtL xs + 2
  | .sc xs => wtL xs + 2
  | .fd ks vs => wtL ks + wtL vs + 7
  | .ref _ => 0
def wtL : List D → Nat
  | [] => 0
  | x :: xs => wt x + 2 + wtL xs
end
theorem wtL_len : ∀ xs : List D, 2 * xs.length ≤ wtL xs
  | [] => by simp [wtL]
  | x :: xs => by
    have := wtL_len xs
    simp only [wtL, List.length_cons]
    omega
inductive Kd (B : Nat) : Nat → D → Prop
  | non {k : Nat} : Kd B k .non
  | bl {k : Nat} (b : Bool) : Kd B k (.bl b)
  | int {k : Nat} {i : Int} : i.natAbs ≤ B → Kd B k (.int i)
  | str {k : Nat} {s : Str} : PyData.strOk s = true → Kd B k (.str s)
  | tup {k : Nat} {xs : List D} : (∀ x, x ∈ xs → Kd B k x) → Kd B (k + 1) (.tup xs)
  | fl {k : Nat} {xs : List D} : (∀ x, x ∈ xs → Kd B k x) → Kd B (k + 1) (.fl xs)
  | fd0 {k : Nat} : Kd B (k + 1) (.fd [] [])
  | fd1 {k : Nat} {a x : D} (h0 : isKt [a] = false) : Kd B k a → Kd B k x → Kd B (k + 1) (.fd [a] [x])
theorem Kd.mono {B C j k : Nat} {d : D} (h : Kd B j d) (hB : B ≤ C) (hk : j ≤ k) : Kd C k d := by
  induction h generalizing k with
  | non => exact .non
  | bl b => exact .bl b
  | int h => exact .int (Nat.le_trans h hB)
  | str h => exact .str h
  | tup h ih =>
    obtain ⟨k, rfl⟩ : ∃ q, k = q + 1 := ⟨k - 1, by omega⟩
    exact .tup fun x hx => ih x hx (by omega)
  | fl h ih =>
    obtain ⟨k, rfl⟩ : ∃ q, k = q + 1 := ⟨k - 1, by omega⟩
    exact .fl fun x hx => ih x hx (by omega)
  | fd0 =>
    obtain ⟨k, rfl⟩ : ∃ q, k = q + 1 := ⟨k - 1, by omega⟩
    exact .fd0
  | fd1 h0 h1 h2 ih1 ih2 =>
    obtain ⟨k, rfl⟩ : ∃ q, k = q + 1 := ⟨k - 1, by omega⟩
    exact .fd1 h0 (ih1 (by omega)) (ih2 (by omega))
def Qd (k w : Nat) (x : D) : Prop := ∃ p, (∀ m, pyQ m k x = some p) ∧ p.showable = true ∧ p.shown.length ≤ w
def QdL (k w : Nat) (xs : List D) : Prop := ∃ ps, (∀ m, mapO (pyQ m k) xs = some ps) ∧ PyData.showableAll ps = true ∧ piled (PyData.shownAll ps) ≤ w
theorem QdL.of {k : Nat} : ∀ {xs : List D}, (∀ x, x ∈ xs → Qd k (wt x) x) → QdL k (wtL xs) xs
  | [], _ => ⟨[], fun m => rfl, rfl, Nat.le_refl _⟩
  | x :: xs, h => by
    obtain ⟨p, h1, h2, h3⟩ := h x List.mem_cons_self
    obtain ⟨ps, h4, h5, h6⟩ := QdL.of (xs := xs) fun y hy => h y (List.mem_cons_of_mem _ hy)
    refine ⟨p :: ps, fun m => by simp only [mapO, h1, h4], by simp [PyData.showableAll, h2, h5], ?_⟩
    simp only [PyData.shownAll, piled_cons, wtL]
    omega
structure Th (B k w : Nat) (d : D) : Prop where
  dt : Kd B k d
  wg : G.wt d ≤ w
theorem Th.mono {B C j k v w : Nat} {d : D} (h : Th B j v d) (hB : B ≤ C) (hk : j ≤ k) (hw : v ≤ w) : Th C k w d := ⟨h.dt.mono hB hk, Nat.le_trans h.wg hw⟩
theorem Th.non {B k w : Nat} (h : 4 ≤ w := by decide) : Th B k w .non := ⟨.non, h⟩
theorem Th.bl {B k w : Nat} (b : Bool) (h : 5 ≤ w := by decide) : Th B k w (.bl b) := ⟨.bl b, h⟩
theorem Th.int {B k w : Nat} {i : Int} (hi : i.natAbs ≤ B) (h : 1921 ≤ w := by decide) : Th B k w (.int i) := ⟨.int hi, h⟩
theorem Th.tup {B k w : Nat} {xs : List D} (h : ∀ x, x ∈ xs → Kd B k x) (hw : wtL xs + 2 ≤ w) : Th B (k + 1) w (.tup xs) := ⟨.tup h, hw⟩
theorem Th.fl {B k w : Nat} {xs : List D} (h : ∀ x, x ∈ xs → Kd B k x) (hw : wtL xs + 2 ≤ w) : Th B (k + 1) w (.fl xs) := ⟨.fl h, hw⟩
theorem Th.one {B k w : Nat} {d : D} (h : Th B k w d) : Th B (k + 1) (w + 4) (.tup [d]) := ⟨.tup (by simpa using h.dt), by
  have := h.wg
  simp only [G.wt, wtL]
  omega⟩
theorem Th.len {B k w : Nat} {xs : List D} (h : Th B k w (.tup xs)) : xs.length ≤ w := by
  have := wtL_len xs
  have := h.wg
  simp only [G.wt] at this
  omega
section
variable {xs ys : List D} {m : Hs} {Q : D → Hs → Prop} {a b : M D} {o : Op} {i j : Int} {p q : Bool} {x : D}
theorem w_strI : wp (strS [.int i]) m Q = (i.natAbs.log2 < 1920 ∧ Q (.str (toString i)) m) := by
  show wp (if i.natAbs.log2 < 1920 then ret (.str (toString i)) else bad) m Q = _
  rw [wp_ite]
  split
  · rename_i h
    simp only [h, true_and]
    rfl
  · rename_i h
    simp only [h, false_and]
    rfl
end
end G
namespace G
open PySem
section
variable {m : Hs} {Q : D → Hs → Prop} {ks ds : List D} {x y z : D}
end
theorem beqD_iff {a b : D} : beqD a b = true ↔ a = b := ⟨beqD_eq a b, fun h => by rw [h]; exact beqD_rfl b⟩
instance decD : DecidableEq D := fun a b => decidable_of_iff (beqD a b = true) beqD_iff
end G
namespace G
open PySem
abbrev Stt := Nat × Int
def rowS (cs ls : List Int) (i : Nat) : List Stt := (List.range (us cs i - lmt ls i).toNat).map fun (k : Nat) => (i, lmt ls i + 1 + (k : Int))
def stR (cs ls : List Int) : List Stt := ((List.range cs.length).map (rowS cs ls)).flatten
section
variable {cs ls : List Int} {fx p q : Int} {i : Nat} {sz : Int}
theorem mem_rowS {s : Stt} : s ∈ rowS cs ls i ↔ s.1 = i ∧ lmt ls i < s.2 ∧ s.2 ≤ us cs i := by
  obtain ⟨a, b⟩ := s
  unfold rowS
  rw [List.mem_map]
  constructor
  · rintro ⟨k, hk, e⟩
    rw [List.mem_range] at hk
    cases e
    exact ⟨rfl, by simp only; omega, by simp only; omega⟩
  · rintro ⟨h1, h2, h3⟩
    simp only at h1 h2 h3
    subst h1
    exact ⟨(b - lmt ls a - 1).toNat, List.mem_range.2 (by omega), by simp only [Prod.mk.injEq, true_and]; omega⟩
theorem lmt_ge (v : Vp cs ls) (h : i < cs.length) : -1 ≤ lmt ls i := by
  cases i with
  | zero => exact Int.le_refl _
  | succ k =>
    have hlen := v.len
    obtain ⟨l, hl⟩ := get_ex (l := ls) (i := k) (by omega)
    have := v.lpos k l hl
    simp only [lmt, hl, Option.getD_some]
    omega
theorem mem_stR (v : Vp cs ls) : (i, sz) ∈ stR cs ls ↔ Sv cs ls i sz := by
  unfold stR
  rw [List.mem_flatten]
  constructor
  · rintro ⟨L, hL, hs⟩
    obtain ⟨k, hk, rfl⟩ := List.mem_map.1 hL
    rw [List.mem_range] at hk
    obtain ⟨h1, h2, h3⟩ := mem_rowS.1 hs
    simp only at h1 h2 h3
    subst h1
    obtain ⟨c, hc⟩ := get_ex (l := cs) hk
    have := lmt_ge v hk
    refine ⟨⟨c, hc, by rw [← us_at hc]; exact h3⟩, by omega, fun q l e hl => ?_⟩
    subst e
    simp only [lmt, hl, Option.getD_some] at h2
    exact h2
  · intro h
    obtain ⟨c1, c2⟩ := h.cap
    exact ⟨rowS cs ls i, List.mem_map.2 ⟨i, List.mem_range.2 (get_lt c1), rfl⟩, mem_rowS.2 ⟨rfl, h.lo v, c2⟩⟩
theorem row_len (v : Vp cs ls) {mo : Int} (hm : cs.getLast? = some mo) (hi : i < cs.length) : (rowS cs ls i).length ≤ (mo + 1).toNat := by
  obtain ⟨c, hc⟩ := get_ex (l := cs) hi
  have h1 := (v.last hm hc).1
  have h2 := lmt_ge v hi
  unfold rowS
  rw [List.length_map, List.length_range, us_at hc]
  omega
def uT (cs : List Int) (fx : Int) (s : Stt) : Tk := (upS cs fx ⟨s.1, s.2, 0, 0⟩).1
def dT' (ls : List Int) (fx : Int) (s : Stt) : Tk := (dnS ls fx ⟨s.1, s.2, 0, 0⟩).1
def dbU (cs : List Int) (fx p q : Int) (W : Stt → Int) (s : Stt) : Int := q * (uT cs fx s).pd - p + W ((uT cs fx s).lv, (uT cs fx s).sz)
def dbD (ls : List Int) (fx p q : Int) (W : Stt → Int) (s : Stt) : Int := q * (dT' ls fx s).pd - p + W ((dT' ls fx s).lv, (dT' ls fx s).sz)
def cU (cs ls : List Int) (s : Stt) : Prop := s.2 < us cs s.1 ∨ s.1 < ls.length
def Clo (cs ls : List Int) (fx p q : Int) (W : Stt → Int) : Prop := ∀ i sz, Sv cs ls i sz → (cU cs ls (i, sz) → dbU cs fx p q W (i, sz) ≤ W (i, sz)) ∧ (0 < sz → dbD ls fx p q W (i, sz) ≤ W (i, sz))
theorem Sv.at_ (h : Sv cs ls i sz) : cs[i]? = some (us cs i) := h.cap.1
theorem uT_in (h : cs[i]? = some (us cs i)) (hs : sz < us cs i) : uT cs fx (i, sz) = ⟨i, sz + 1, 0, 0 + 1⟩ := by
  unfold uT upS
  simp only [h, hs, if_true]
theorem uT_up (h : cs[i]? = some (us cs i)) (hs : ¬ sz < us cs i) : uT cs fx (i, sz) = ⟨i + 1, sz + 1, 0 + (sz + fx), 0 + 1⟩ := by
  unfold uT upS
  simp only [h, hs, if_false]
theorem dT_0 : dT' ls fx (0, sz) = ⟨0, sz - 1, 0, 0 + 1⟩ := rfl
theorem dT_in {l : Int} (h : ls[i]? = some l) (hs : ¬ sz - 1 = l) : dT' ls fx (i + 1, sz) = ⟨i + 1, sz - 1, 0, 0 + 1⟩ := by
  unfold dT' dnS
  simp only [h, hs, if_false]
theorem dT_dn {l : Int} (h : ls[i]? = some l) (hs : sz - 1 = l) : dT' ls fx (i + 1, sz) = ⟨i, sz - 1, 0 + (sz - 1 + fx), 0 + 1⟩ := by
  unfold dT' dnS
  simp only [h, hs, if_true]
theorem dbU_in {W : Stt → Int} (h : cs[i]? = some (us cs i)) (hs : sz < us cs i) : dbU cs fx p q W (i, sz) = W (i, sz + 1) - p := by
  unfold dbU
  rw [uT_in h hs]
  simp only [Int.mul_zero]
  omega
theorem dbU_up {W : Stt → Int} (h : cs[i]? = some (us cs i)) (hs : sz = us cs i) : dbU cs fx p q W (i, sz) = q * (us cs i + fx) - p + W (i + 1, us cs i + 1) := by
  unfold dbU
  rw [uT_up h (by omega)]
  simp only [hs, Int.zero_add]
theorem dbD_in {W : Stt → Int} (v : Vp cs ls) (h : Sv cs ls i sz) (hs : lmt ls i < sz - 1) : dbD ls fx p q W (i, sz) = W (i, sz - 1) - p := by
  unfold dbD
  cases i with
  | zero =>
    rw [dT_0]
    simp only [Int.mul_zero]
    omega
  | succ k =>
    have := get_lt h.at_
    have hlen := v.len
    obtain ⟨l, hl⟩ := get_ex (l := ls) (i := k) (by omega)
    simp only [lmt, hl, Option.getD_some] at hs
    rw [dT_in hl (by omega)]
    simp only [Int.mul_zero]
    omega
theorem dbD_dn {W : Stt → Int} (hi : i < ls.length) (hs : sz - 1 = us ls i) : dbD ls fx p q W (i + 1, sz) = q * (us ls i + fx) - p + W (i, us ls i) := by
  unfold dbD
  obtain ⟨l, hl⟩ := get_ex hi
  rw [us_at hl] at hs ⊢
  rw [dT_dn hl hs]
  simp only [hs, Int.zero_add]
end
end G
namespace G
open PySem
section
variable {cs ls : List Int} {fx p q : Int} {i : Nat} {sz : Int}
theorem Sv.mid (v : Vp cs ls) (h : Sv cs ls i sz) {z : Int} (h1 : lmt ls i < z) (h2 : z ≤ us cs i) : Sv cs ls i z := by
  have hi := get_lt h.at_
  exact (mem_stR v).1 (by
    unfold stR
    rw [List.mem_flatten]
    exact ⟨rowS cs ls i, List.mem_map.2 ⟨i, List.mem_range.2 hi, rfl⟩, mem_rowS.2 ⟨rfl, h1, h2⟩⟩)
theorem Sv.of (v : Vp cs ls) (hi : i < cs.length) {z : Int} (h1 : lmt ls i < z) (h2 : z ≤ us cs i) : Sv cs ls i z :=
  (mem_stR v).1 (by
    unfold stR
    rw [List.mem_flatten]
    exact ⟨rowS cs ls i, List.mem_map.2 ⟨i, List.mem_range.2 hi, rfl⟩, mem_rowS.2 ⟨rfl, h1, h2⟩⟩)
theorem us_asc (v : Vp cs ls) (hi : i < ls.length) : us cs i < us cs (i + 1) ∧ us ls i ≤ us cs i ∧ lmt ls i < us ls i ∧ 0 ≤ us ls i := by
  have hlen := v.len
  obtain ⟨c, hc⟩ := get_ex (l := cs) (i := i) (by omega)
  obtain ⟨c2, hc2⟩ := get_ex (l := cs) (i := i + 1) (by omega)
  obtain ⟨l, hl⟩ := get_ex hi
  have h1 := v.asc i c c2 hc hc2
  have h2 := v.le i l c hl hc
  have h3 := v.lpos i l hl
  rw [us_at hc, us_at hc2, us_at hl]
  refine ⟨h1, h2, ?_, h3⟩
  cases i with
  | zero => simp only [lmt]; omega
  | succ k =>
    obtain ⟨l2, hl2⟩ := get_ex (l := ls) (i := k) (by omega)
    have := v.lasc k l2 l hl2 hl
    simp only [lmt, hl2, Option.getD_some]
    exact this
theorem lmt_s {k : Nat} : lmt ls (k + 1) = us ls k := rfl
theorem Sv.upS (v : Vp cs ls) (hi : i < ls.length) : Sv cs ls (i + 1) (us cs i + 1) := by
  have hlen := v.len
  have := us_asc v hi
  exact Sv.of v (by omega) (by rw [lmt_s]; omega) (by omega)
theorem Sv.dnS (v : Vp cs ls) (hi : i < ls.length) : Sv cs ls i (us ls i) := by
  have hlen := v.len
  have := us_asc v hi
  exact Sv.of v (by omega) (by omega) (by omega)
theorem itG_s {n : Nat} {v : Nd} : itG cs ls fx p q (n + 1) v = wG cs ls fx q v + mxI 0 ((sucG cs ls p v).map fun e => itG cs ls fx p q n e.1 - e.2) := rfl
theorem itG_up {n : Nat} (hi : i < ls.length) : itG cs ls fx p q (n + 1) (true, i) = q * (us cs i + fx) + crdv cs ls p (itG cs ls fx p q n) (i + 1, us cs i + 1) := by
  rw [itG_s, crdv_up hi]
  rfl
theorem itG_dn {n : Nat} (hi : i < ls.length) : itG cs ls fx p q (n + 1) (false, i) = q * (us ls i + fx) + crdv cs ls p (itG cs ls fx p q n) (i, us ls i) := by
  rw [itG_s, crdv_dn hi]
  rfl
end
end G
namespace G
open PySem
section
variable {cs ls : List Int} {fx p q : Int} {i : Nat} {sz : Int} {W0 W : Stt → Int}
def cUb (cs ls : List Int) (s : Stt) : Bool := decide (s.2 < us cs s.1) || decide (s.1 < ls.length)
theorem cUb_iff {s : Stt} : cUb cs ls s = true ↔ cU cs ls s := by simp [cUb, cU]
def nxW (cs ls : List Int) (fx p q : Int) (W : Stt → Int) (s : Stt) : Int := mxI (W s) ((if cUb cs ls s = true then [dbU cs fx p q W s] else []) ++ (if 0 < s.2 then [dbD ls fx p q W s] else []))
def putW (W : Stt → Int) (s : Stt) (x : Int) : Stt → Int := fun z => if z = s then x else W z
theorem putW_at {s : Stt} {x : Int} : putW W s x s = x := by simp [putW]
theorem putW_ne {s z : Stt} {x : Int} (h : z ≠ s) : putW W s x z = W z := by simp [putW, h]
theorem nx_ge {s : Stt} : W s ≤ nxW cs ls fx p q W s := mxI_ge _ _ List.mem_cons_self
theorem nx_U {s : Stt} (h : cU cs ls s) : dbU cs fx p q W s ≤ nxW cs ls fx p q W s := mxI_ge _ _ (by simp [cUb_iff.2 h])
theorem nx_D {s : Stt} (h : 0 < s.2) : dbD ls fx p q W s ≤ nxW cs ls fx p q W s := mxI_ge _ _ (by simp [h])
theorem nx_le {s : Stt} {z : Int} (h : W s ≤ z) (hU : cU cs ls s → dbU cs fx p q W s ≤ z) (hD : 0 < s.2 → dbD ls fx p q W s ≤ z) : nxW cs ls fx p q W s ≤ z := mxI_le fun y hy => by
  rcases List.mem_cons.1 hy with rfl | hy
  · exact h
  · rcases List.mem_append.1 hy with hy | hy
    · split at hy
      · rename_i hc
        rw [List.mem_singleton.1 hy]
        exact hU (cUb_iff.1 hc)
      · cases hy
    · split at hy
      · rename_i hc
        rw [List.mem_singleton.1 hy]
        exact hD hc
      · cases hy
theorem put_ge {s z : Stt} {x : Int} (h : W s ≤ x) : W z ≤ putW W s x z := by
  unfold putW
  split
  · rename_i e
    rw [e]
    exact h
  · exact Int.le_refl _
structure RsW (cs ls : List Int) (fx p q : Int) (r : Nat) (W : Stt → Int) : Prop where
  nn : ∀ i sz, Sv cs ls i sz → 0 ≤ W (i, sz)
  lo : ∀ i sz, Sv cs ls i sz → crdv cs ls p (itG cs ls fx p q r) (i, sz) ≤ W (i, sz)
  hi : ∀ X : Nd → Int, (∀ v, v ∈ ndS ls.length → stp (wG cs ls fx q) (sucG cs ls p) X v ≤ X v) → ∀ i sz, Sv cs ls i sz → W (i, sz) ≤ crdv cs ls p X (i, sz)
structure RdW (cs ls : List Int) (fx p q : Int) (r : Nat) (W0 : Stt → Int) (done : List Stt) (b : Bool) (W : Stt → Int) : Prop where
  ge : ∀ i sz, Sv cs ls i sz → W0 (i, sz) ≤ W (i, sz)
  hi : ∀ X : Nd → Int, (∀ v, v ∈ ndS ls.length → stp (wG cs ls fx q) (sucG cs ls p) X v ≤ X v) → ∀ i sz, Sv cs ls i sz → W (i, sz) ≤ crdv cs ls p X (i, sz)
  same : b = true → W = W0 ∧ ∀ i sz, (i, sz) ∈ done → (cU cs ls (i, sz) → dbU cs fx p q W0 (i, sz) ≤ W0 (i, sz)) ∧ (0 < sz → dbD ls fx p q W0 (i, sz) ≤ W0 (i, sz))
  diff : b = false → ∃ i sz, Sv cs ls i sz ∧ W0 (i, sz) < W (i, sz)
  up : ∀ i sz, (i, sz) ∈ done → i < ls.length → itG cs ls fx p q (r + 1) (true, i) - p * (us cs i + 1 - sz) ≤ W (i, sz)
  dn : ∀ k sz, (k + 1, sz) ∈ done.drop (stR cs ls).length → itG cs ls fx p q (r + 1) (false, k) - p * (sz - us ls k) ≤ W (k + 1, sz)
theorem dbU_le {X : Nd → Int} (v : Vp cs ls) (hp : 0 ≤ p) (hX : ∀ v, v ∈ ndS ls.length → stp (wG cs ls fx q) (sucG cs ls p) X v ≤ X v) (hW : ∀ i sz, Sv cs ls i sz → W (i, sz) ≤ crdv cs ls p X (i, sz)) (s : Sv cs ls i sz) (h : cU cs ls (i, sz)) : dbU cs fx p q W (i, sz) ≤ crdv cs ls p X (i, sz) := by
  have hc := crd_one (fx := fx) (q := q) (t := ⟨i, sz, 0, 0⟩) (b := true) v hX hp s fun _ => h
  have hs := s.cap.2
  simp only [stS, if_true] at hc
  have hlo := s.lo v
  have e : (upS cs fx ⟨i, sz, 0, 0⟩).1 = uT cs fx (i, sz) := rfl
  rw [e, Int.sub_zero] at hc
  have hsv : Sv cs ls (uT cs fx (i, sz)).lv (uT cs fx (i, sz)).sz := by
    by_cases z : sz < us cs i
    · rw [uT_in s.at_ z]
      exact s.mid v (by simp only; omega) (by simp only; omega)
    · rw [uT_up s.at_ z]
      have hi : i < ls.length := h.resolve_left z
      have := Sv.upS v hi
      rw [show us cs i = sz by omega] at this
      exact this
  have := hW _ _ hsv
  unfold dbU
  omega
theorem dbD_le {X : Nd → Int} (v : Vp cs ls) (hp : 0 ≤ p) (hX : ∀ v, v ∈ ndS ls.length → stp (wG cs ls fx q) (sucG cs ls p) X v ≤ X v) (hW : ∀ i sz, Sv cs ls i sz → W (i, sz) ≤ crdv cs ls p X (i, sz)) (s : Sv cs ls i sz) (h : 0 < sz) : dbD ls fx p q W (i, sz) ≤ crdv cs ls p X (i, sz) := by
  have hc := crd_one (fx := fx) (q := q) (t := ⟨i, sz, 0, 0⟩) (b := false) v hX hp s fun z => by cases z
  simp only [stS, Bool.false_eq_true, if_false] at hc
  have e : (dnS ls fx ⟨i, sz, 0, 0⟩).1 = dT' ls fx (i, sz) := rfl
  rw [e, Int.sub_zero] at hc
  have hsv : Sv cs ls (dT' ls fx (i, sz)).lv (dT' ls fx (i, sz)).sz := (dn_ok (fx := fx) (t := ⟨i, sz, 0, 0⟩) (goal := 0) v s h (Int.le_refl _)).1
  have := hW _ _ hsv
  unfold dbD
  omega
theorem RdW.step {r : Nat} {done : List Stt} {b : Bool} (v : Vp cs ls) (hp : 0 ≤ p) (h0 : RsW cs ls fx p q r W0) (h : RdW cs ls fx p q r W0 done b W) (s : Sv cs ls i sz) (hu : sz < us cs i → (i, sz + 1) ∈ done) (hd : (stR cs ls).length ≤ done.length → lmt ls i < sz - 1 → (i, sz - 1) ∈ done.drop (stR cs ls).length) :
    RdW cs ls fx p q r W0 (done ++ [(i, sz)]) (b && decide (nxW cs ls fx p q W (i, sz) = W (i, sz))) (putW W (i, sz) (nxW cs ls fx p q W (i, sz))) := by
  have hlen := v.len
  have hge : ∀ z, W z ≤ putW W (i, sz) (nxW cs ls fx p q W (i, sz)) z := fun z => put_ge nx_ge
  refine ⟨fun j z hs => Int.le_trans (h.ge j z hs) (hge _), fun X hX j z hs => ?_, fun hb => ?_, fun hb => ?_, fun j z hm hj => ?_, fun k z hm => ?_⟩
  · by_cases e : (j, z) = (i, sz)
    · rw [e, putW_at]
      exact nx_le (h.hi X hX i sz s) (fun c => dbU_le v hp hX (h.hi X hX) s c) fun c => dbD_le v hp hX (h.hi X hX) s c
    · rw [putW_ne e]
      exact h.hi X hX j z hs
  · rw [Bool.and_eq_true, decide_eq_true_eq] at hb
    obtain ⟨rfl, hc⟩ := h.same hb.1
    refine ⟨?_, fun j z hm => ?_⟩
    · funext z
      unfold putW
      split
      · rename_i e
        rw [e, hb.2]
      · rfl
    · rcases List.mem_append.1 hm with hm | hm
      · exact hc j z hm
      · have e := List.mem_singleton.1 hm
        rw [Prod.mk.injEq] at e
        rw [e.1, e.2]
        refine ⟨fun c => ?_, fun c => ?_⟩
        · rw [← hb.2]
          conv => rhs; rw [hb.2]
          have := nx_U (W := W) (fx := fx) (p := p) (q := q) c
          omega
        · have := nx_D (cs := cs) (ls := ls) (W := W) (fx := fx) (p := p) (q := q) (s := (i, sz)) c
          omega
  · rw [Bool.and_eq_false_iff] at hb
    rcases hb with hb | hb
    · obtain ⟨j, z, hs, hlt⟩ := h.diff hb
      exact ⟨j, z, hs, Int.lt_of_lt_of_le hlt (hge _)⟩
    · rw [decide_eq_false_iff_not] at hb
      refine ⟨i, sz, s, ?_⟩
      rw [putW_at]
      have := h.ge i sz s
      have := nx_ge (cs := cs) (ls := ls) (fx := fx) (p := p) (q := q) (W := W) (s := (i, sz))
      omega
  · rcases List.mem_append.1 hm with hm | hm
    · exact Int.le_trans (h.up j z hm hj) (hge _)
    · have e := List.mem_singleton.1 hm
      rw [e, putW_at]
      rw [Prod.mk.injEq] at e
      obtain ⟨rfl, rfl⟩ := e
      by_cases hlt : z < us cs j
      · have h1 := h.up j (z + 1) (hu hlt) hj
        have h2 := nx_U (W := W) (cs := cs) (ls := ls) (fx := fx) (p := p) (q := q) (s := (j, z)) (.inl hlt)
        rw [dbU_in s.at_ hlt] at h2
        have e : p * (us cs j + 1 - (z + 1)) = p * (us cs j + 1 - z) - p := by rw [show us cs j + 1 - (z + 1) = (us cs j + 1 - z) - 1 by omega, Int.mul_sub, Int.mul_one]
        omega
      · have hz : z = us cs j := by
          have := s.cap.2
          omega
        have h2 := nx_U (W := W) (cs := cs) (ls := ls) (fx := fx) (p := p) (q := q) (s := (j, z)) (.inr hj)
        rw [dbU_up s.at_ hz] at h2
        have h3 := h.ge _ _ (Sv.upS v hj)
        have h4 := h0.lo _ _ (Sv.upS v hj)
        rw [itG_up hj, show us cs j + 1 - z = 1 by omega, Int.mul_one]
        omega
  · by_cases hl : (stR cs ls).length ≤ done.length
    · rw [List.drop_append_of_le_length hl] at hm
      rcases List.mem_append.1 hm with hm | hm
      · exact Int.le_trans (h.dn k z hm) (hge _)
      · have e := List.mem_singleton.1 hm
        rw [e, putW_at]
        rw [Prod.mk.injEq] at e
        obtain ⟨rfl, rfl⟩ := e
        have hlo := s.lo v
        have hk := get_lt s.at_
        have ha := us_asc v (show k < ls.length by omega)
        have hz0 : 0 < z := by
          rw [lmt_s] at hlo
          omega
        have h2 := nx_D (W := W) (cs := cs) (ls := ls) (fx := fx) (p := p) (q := q) (s := (k + 1, z)) hz0
        by_cases hlt : lmt ls (k + 1) < z - 1
        · have h1 := h.dn k (z - 1) (hd hl hlt)
          rw [dbD_in v s hlt] at h2
          have e : p * (z - 1 - us ls k) = p * (z - us ls k) - p := by rw [show z - 1 - us ls k = (z - us ls k) - 1 by omega, Int.mul_sub, Int.mul_one]
          omega
        · rw [lmt_s] at hlt hlo
          rw [dbD_dn (by omega) (by omega)] at h2
          have h3 := h.ge _ _ (Sv.dnS v (show k < ls.length by omega))
          have h4 := h0.lo _ _ (Sv.dnS v (show k < ls.length by omega))
          rw [itG_dn (by omega), show z - us ls k = 1 by omega, Int.mul_one]
          omega
    · rw [List.drop_of_length_le (by simp only [List.length_append, List.length_singleton]; omega)] at hm
      cases hm
def ordR (cs ls : List Int) : List Stt := (stR cs ls).reverse ++ stR cs ls
theorem RdW.fin {r : Nat} {b : Bool} (v : Vp cs ls) (h0 : RsW cs ls fx p q r W0) (h : RdW cs ls fx p q r W0 (ordR cs ls) b W) : (b = true → W = W0 ∧ Clo cs ls fx p q W0) ∧ RsW cs ls fx p q (r + 1) W := by
  have hmem : ∀ {i sz}, Sv cs ls i sz → (i, sz) ∈ ordR cs ls := fun s => List.mem_append_right _ ((mem_stR v).2 s)
  refine ⟨fun hb => ?_, fun i sz s => Int.le_trans (h0.nn i sz s) (h.ge i sz s), fun i sz s => ?_, h.hi⟩
  · obtain ⟨e, hc⟩ := h.same hb
    exact ⟨e, fun i sz s => hc i sz (hmem s)⟩
  · have hlen := v.len
    have hi := get_lt s.at_
    refine crdv_le (Int.le_trans (h0.nn i sz s) (h.ge i sz s)) (fun hi => h.up i sz (hmem s) hi) fun k hk => ?_
    subst hk
    rw [lmt_s]
    refine h.dn k sz ?_
    unfold ordR
    rw [List.drop_left' (by simp)]
    exact (mem_stR v).2 s
theorem RsW.top {n : Nat} {B F : Int} {r : Nat} (h : PB n B F cs ls fx) (hq : 0 ≤ q) (k : Kp cs ls fx p q) (hr : 2 * ls.length ≤ r) (h0 : RsW cs ls fx p q r W0) (s : Sv cs ls i sz) : W0 (i, sz) = crdv cs ls p (itG cs ls fx p q r) (i, sz) := by
  have h1 := h0.lo _ _ s
  have h2 := h0.hi (itG cs ls fx p q r) (fun v hv => Int.le_of_eq (itG_fix h hq k hr v hv)) _ _ s
  omega
end
end G
namespace G
open PySem
section
variable {m : Hs} {Q : D → Hs → Prop} {tb : Nat → Option (List D → M D)} {a : M D} {x : D}
theorem wp_prpM : wp (prpM tb a) m Q = wp a m fun x m1 => wp (ask (prpO tb x)) m1 fun g m2 => wp (g [x]) m2 Q := by
  unfold prpM
  rw [wp_bnd]
  congr 1
  funext x m1
  rw [wp_bnd]
  congr 1
  funext g m2
  rw [wp_calm]
theorem wp_lenI : wp (lenI tb a) m Q = wp a m fun x m1 => wp (ask (prpO tb x)) m1 fun g m2 => wp (g [x]) m2 fun y m3 => wp (lenC y) m3 Q := by
  unfold lenI
  rw [wp_bnd]
  congr 1
  funext x m1
  rw [wp_bnd]
  congr 1
  funext g m2
  rw [wp_bnd, wp_calm]
theorem w_lenC {i : Int} : wp (lenC (.int i)) m Q = ((0 ≤ i ∧ i < 2 ^ 63) ∧ Q (.int i) m) := by
  show wp (if 0 ≤ i ∧ i < 2 ^ 63 then ret (.int i) else bad) m Q = _
  rw [wp_gd, wp_ret]
end
end G
namespace G
open PySem
theorem wp_mulWM {a b : M D} {m : Hs} {Q : D → Hs → Prop} : wp (mulWM a b) m Q = wp a m fun x m1 => wp b m1 fun y m2 => wp (mulWS x y) m2 Q := by
  unfold mulWM
  rw [wp_bnd]
  simp only [wp_bnd]
end G
namespace G
open PySem
theorem wp_neI {tb : Nat → Option (List D → M D)} {a b : M D} {m : Hs} {Q : D → Hs → Prop} : wp (neI tb a b) m Q = wp a m fun x m1 => wp b m1 fun y m2 => wp (neS tb x y) m2 Q := by
  unfold neI
  rw [wp_bnd]
  simp only [wp_bnd]
theorem wp_isoM {ob : Nat → Option Bool} {a : M D} {m : Hs} {Q : D → Hs → Prop} : wp (isoM ob a) m Q = wp a m fun x m1 => wp (bnd (ask (isoO ob x)) fun b => ret (.bl b)) m1 Q := by
  unfold isoM
  rw [wp_bnd]
end G
namespace G
open PySem
section
variable {m : Hs} {Q : D → Hs → Prop} {R : Unit → Hs → Prop} {n : Nat} {ks ds : List D} {k : Str} {v z : D}
theorem w_sdM {ks : List Str} {t : M (List D)} : wp (sdM ks t) m Q = wp t m fun xs m1 => Q (.ref m1.length) (m1 ++ [.sd (ks.map .str) xs]) := by
  unfold sdM
  rw [wp_bnd]
  rfl
end
end G
namespace G
open PySem
section
variable {m : Hs} {Q : D → Hs → Prop} {a c : M D} {k : Bool} {xs : List D}
theorem wp_fidB : wp (fidB a c) m Q = wp a m fun x m1 => wp (ask (isFlO x)) m1 fun _ m2 => wp c m2 fun y m3 => wp (fidS x y) m3 Q := by
  unfold fidB
  simp only [wp_bnd]
end
end G
namespace G
open PySem
section
variable {m : Hs} {Q : D → Hs → Prop} {R : Unit → Hs → Prop} {n : Nat} {ks ds xs : List D} {x y : D} {a c : M D}
theorem wp_dcpM : wp (dcpM a) m Q = wp a m fun x m1 => wp (ask (dcpF x)) m1 fun p m2 => Q (.ref m2.length) (m2 ++ [.sd p.1 p.2]) := by
  unfold dcpM
  simp only [wp_bnd]
  rfl
theorem wp_neLM : wp (neLM a c) m Q = wp a m fun x m1 => wp c m1 fun y m2 => wp (neLS x y) m2 Q := by
  unfold neLM
  simp only [wp_bnd]
end
end G
namespace G
open PySem
structure Pc where
  cs : List Int
  ls : List Int
  fx : Int
  mo : Int
structure Pc.Ok (c : Pc) : Prop where
  pb : PB 40 (10 ^ 18) (10 ^ 12) c.cs c.ls c.fx
  last : c.cs.getLast? = some c.mo
  mo : c.mo ≤ 10000
abbrev SitT : Type := Tk × List D
def sit0 : SitT := (⟨0, 0, 0, 0⟩, [])
structure PO where
  i : Nat
  b : Bool
  x : Int
def nxtS (c : Pc) (o : PO) (s : SitT) : SitT := if o.b = true then ((upS c.cs c.fx s.1).1, s.2 ++ [.int o.x]) else ((dnS c.ls c.fx s.1).1, s.2.dropLast)
def skO (P : Nat → Pc) : List PO → Nat → List SitT
  | [], _ => [sit0]
  | o :: r, j => if j = o.i then nxtS (P j) o ((skO P r j).headD sit0) :: skO P r j else skO P r j
def topO (P : Nat → Pc) (r : List PO) (j : Nat) : SitT := (skO P r j).headD sit0
theorem topO_hit {P : Nat → Pc} {o : PO} {r : List PO} : topO P (o :: r) o.i = nxtS (P o.i) o (topO P r o.i) := by
  unfold topO
  simp only [skO, if_true, List.headD_cons]
theorem topO_miss {P : Nat → Pc} {o : PO} {r : List PO} {j : Nat} (h : j ≠ o.i) : topO P (o :: r) j = topO P r j := by
  unfold topO
  simp only [skO, if_neg h]
def paidO (P : Nat → Pc) : List PO → Int
  | [] => 0
  | o :: r => paidO P r + ((topO P (o :: r) o.i).1.pd - (topO P r o.i).1.pd)
def CanO (c : Pc) (o : PO) (s : SitT) : Prop := if o.b = true then s.1.sz < c.mo ∧ 0 ≤ o.x ∧ o.x < 1000 else s.2 ≠ []
def GoodO (P : Nat → Pc) (N : Nat) (p q l : Int) : List PO → Prop
  | [] => True
  | o :: r => GoodO P N p q l r ∧ o.i < N ∧ CanO (P o.i) o (topO P r o.i) ∧ 0 ≤ l + p * ((r.length : Int) + 1) - q * paidO P (o :: r)
structure InvO (c : Pc) (k : Nat) (s : SitT) : Prop where
  sz : s.1.sz = s.2.length
  sv : Sv c.cs c.ls s.1.lv s.1.sz
  dn0 : 0 ≤ s.1.dn
  dnk : s.1.dn ≤ k
  pd0 : 0 ≤ s.1.pd
  pdk : s.1.pd ≤ s.1.dn * (2 * 10 ^ 12)
  xs : ∀ d, d ∈ s.2 → ∃ z : Int, d = .int z ∧ 0 ≤ z ∧ z < 1000
  ln : (s.2.length : Int) ≤ s.1.dn
theorem Vp.sv0 {cs ls : List Int} (v : Vp cs ls) : Sv cs ls 0 0 := by
  have h := v.len
  obtain ⟨c, hc⟩ := get_ex (l := cs) (i := 0) (by omega)
  exact ⟨⟨c, hc, by have := v.pos 0 c hc; omega⟩, by omega, fun q l e => by omega⟩
theorem inv0 {c : Pc} (h : c.Ok) : InvO c 0 sit0 := ⟨rfl, h.pb.v.sv0, by decide, by decide, by decide, by decide, (fun d hd => by cases hd), by decide⟩
theorem upS_dn {cs ls : List Int} {fx : Int} {t : Tk} (s : Sv cs ls t.lv t.sz) : (upS cs fx t).1.dn = t.dn + 1 := by
  obtain ⟨c, hc, _⟩ := s.top
  unfold upS
  rw [hc]
  dsimp only
  split <;> rfl
theorem upS_pd {cs ls : List Int} {fx : Int} {t : Tk} (s : Sv cs ls t.lv t.sz) (h0 : 0 ≤ fx) : t.pd ≤ (upS cs fx t).1.pd ∧ (upS cs fx t).1.pd ≤ t.pd + (t.sz + fx) := by
  obtain ⟨c, hc, _⟩ := s.top
  have := s.low
  unfold upS
  rw [hc]
  dsimp only
  split <;> dsimp only <;> omega
theorem dnS_dn {cs ls : List Int} {fx : Int} {t : Tk} (v : Vp cs ls) (s : Sv cs ls t.lv t.sz) : (dnS ls fx t).1.dn = t.dn + 1 := by
  obtain ⟨c, hc, _⟩ := s.top
  have hlen := v.len
  have hlv := get_lt hc
  unfold dnS
  split
  · rfl
  · split
    · split <;> rfl
    · rename_i k hk hz
      exfalso
      rw [List.getElem?_eq_none_iff] at hz
      omega
theorem dnS_pd {cs ls : List Int} {fx : Int} {t : Tk} (s : Sv cs ls t.lv t.sz) (h1 : 1 ≤ t.sz) (h0 : 0 ≤ fx) : t.pd ≤ (dnS ls fx t).1.pd ∧ (dnS ls fx t).1.pd ≤ t.pd + (t.sz + fx) := by
  unfold dnS
  split
  · dsimp only
    omega
  · split
    · split <;> dsimp only <;> omega
    · dsimp only
      omega
theorem InvO.next {c : Pc} {k : Nat} {s : SitT} {o : PO} (hc : c.Ok) (h : InvO c k s) (hg : CanO c o s) : InvO c (k + 1) (nxtS c o s) ∧ (nxtS c o s).1.dn = s.1.dn + 1 ∧ s.1.pd ≤ (nxtS c o s).1.pd ∧ (nxtS c o s).1.pd ≤ s.1.pd + 2 * 10 ^ 12 := by
  have hf0 := hc.pb.f0
  have hf1 := hc.pb.f1
  have hv := hc.pb.v
  have h1 := h.sz
  have h2 := h.dn0
  have h3 := h.dnk
  have h4 := h.pd0
  have h5 := h.pdk
  have hmo := hc.mo
  unfold nxtS
  unfold CanO at hg
  by_cases hb : o.b = true
  · rw [if_pos hb] at hg ⊢
    obtain ⟨hg, hx⟩ := hg
    obtain ⟨u1, u2, _⟩ := up_ok (fx := c.fx) (goal := c.mo) hv hc.last h.sv hg (Int.le_refl _)
    have u3 := upS_dn (fx := c.fx) h.sv
    obtain ⟨u4, u5⟩ := upS_pd h.sv hf0
    have e : ((s.2 ++ [D.int o.x]).length : Int) = s.2.length + 1 := by simp
    have h6 := h.ln
    refine ⟨⟨by dsimp only; rw [u2, e, h1], u1, by dsimp only; omega, by dsimp only; push_cast; omega, by dsimp only; omega, by dsimp only; omega, fun d hd => ?_, by dsimp only; omega⟩, by dsimp only; omega, u4, by dsimp only; omega⟩
    rcases List.mem_append.1 hd with z | z
    · exact h.xs d z
    · exact ⟨o.x, List.mem_singleton.1 z, hx⟩
  · rw [if_neg hb] at hg ⊢
    have hp : 1 ≤ s.2.length := List.length_pos_iff.2 hg
    obtain ⟨u1, u2, _⟩ := dn_ok (fx := c.fx) (goal := 0) hv h.sv (by omega) (Int.le_refl _)
    have u3 := dnS_dn (fx := c.fx) hv h.sv
    obtain ⟨u4, u5⟩ := dnS_pd (fx := c.fx) h.sv (by omega) hf0
    have hsz : s.1.sz ≤ 10000 := by
      obtain ⟨c1, hc1, hs⟩ := h.sv.top
      have := (hv.last hc.last hc1).1
      omega
    have e : ((s.2.dropLast).length : Int) = s.2.length - 1 := by
      rw [List.length_dropLast]
      omega
    have h6 := h.ln
    refine ⟨⟨by dsimp only; rw [u2, e, h1], u1, by dsimp only; omega, by dsimp only; push_cast; omega, by dsimp only; omega, by dsimp only; omega, fun d hd => h.xs d (List.dropLast_subset _ hd), by dsimp only; omega⟩, by dsimp only; omega, u4, by dsimp only; omega⟩
theorem GoodO.inv {P : Nat → Pc} {N : Nat} {p q l : Int} (hP : ∀ j, (P j).Ok) : ∀ (r : List PO), GoodO P N p q l r → ∀ j, InvO (P j) r.length (topO P r j)
  | [], _, j => inv0 (hP j)
  | o :: r, h, j => by
    by_cases e : j = o.i
    · subst e
      rw [topO_hit]
      exact (InvO.next (hP o.i) (GoodO.inv hP r h.1 o.i) h.2.2.1).1
    · rw [topO_miss e]
      have z := GoodO.inv hP r h.1 j
      exact ⟨z.sz, z.sv, z.dn0, by have := z.dnk; rw [List.length_cons]; push_cast; omega, z.pd0, z.pdk, z.xs, z.ln⟩
theorem GoodO.pd {P : Nat → Pc} {N : Nat} {p q l : Int} (hP : ∀ j, (P j).Ok) : ∀ (r : List PO), GoodO P N p q l r → 0 ≤ paidO P r ∧ paidO P r ≤ (r.length : Int) * (2 * 10 ^ 12)
  | [], _ => ⟨Int.le_refl _, by simp [paidO]⟩
  | o :: r, h => by
    obtain ⟨e1, e2⟩ := GoodO.pd hP r h.1
    obtain ⟨_, _, h2, h3⟩ := InvO.next (hP o.i) (GoodO.inv hP r h.1 o.i) h.2.2.1
    unfold paidO
    rw [topO_hit, List.length_cons]
    push_cast
    omega
def Pc.D (c : Pc) : D := pol c.cs c.ls c.fx
section
variable {α A B : Type} {m : Hs} {R : Nat → List (Str × D) → Hs → Prop}
end
end G
set_option maxHeartbeats 4000000
namespace G
open PySem
section
variable {tb : Nat → Option (List D → M D)} {sb : Nat → Nat → Option Bool} {ob : Nat → Option Bool} {a b : M D} {m : Hs} {Q : D → Hs → Prop} {x y : D} {n k c d : Nat} {fs gs : List (Str × D)} {f : List D → M D}
theorem wp_eqI : wp (eqI tb sb a b) m Q = wp a m fun x m1 => wp b m1 fun y m2 => wp (eqIS tb sb x y) m2 Q := by
  unfold eqI
  rw [wp_bnd]
  congr 1
  funext x m1
  rw [wp_bnd]
theorem wp_nqI : wp (nqI tb sb a b) m Q = wp a m fun x m1 => wp b m1 fun y m2 => wp (nqS tb sb x y) m2 Q := by
  unfold nqI
  rw [wp_bnd]
  congr 1
  funext x m1
  rw [wp_bnd]
theorem wp_isoN : wp (isoN ob a) m Q = wp a m fun x m1 => wp (bnd (ask (isoO2 ob x)) fun b => ret (.bl b)) m1 Q := by
  unfold isoN
  rw [wp_bnd]
end
end G
namespace G
open PySem
section
variable {a b : M D} {m : Hs} {Q : D → Hs → Prop} {s z : Str} {c : Nat} {i : Int} {ts : List (M D)}
theorem w_txB {β : Type} {f : Str → M β} {S : β → Hs → Prop} : wp (txB (.str s) f) m S = wp (f s) m S := id rfl
theorem wp_spltM : wp (spltM a b) m Q = wp a m fun x m1 => wp (txB x fun s => bnd b fun y => txB y fun t => if (t.length == 0) = false ∧ s.length + 2 ≤ sizeLine then ret (.fl ((Txt.split s t).map .str)) else bad) m1 Q := by
  unfold spltM
  rw [wp_bnd]
theorem wp_prtM : wp (prtM a b) m Q = wp a m fun x m1 => wp (txB x fun s => bnd b fun y => txB y fun t => if (t.length == 0) = false ∧ s.length ≤ sizeLine then ret (.tup [.str (Txt.partition s t).1, .str (Txt.partition s t).2.1, .str (Txt.partition s t).2.2]) else bad) m1 Q := by
  unfold prtM
  rw [wp_bnd]
theorem wp_joinM : wp (joinM a b) m Q = wp a m fun x m1 => wp (txB x fun s => bnd b fun y => bnd (ask (strsOf y)) fun ys => if (ys.map (·.length)).sum + ys.length * s.length ≤ 16777216 then ret (.str (Txt.join s ys)) else bad) m1 Q := by
  unfold joinM
  rw [wp_bnd]
theorem strsL_map : ∀ ys : List Str, strsL (ys.map D.str) = some ys
  | [] => rfl
  | y :: ys => by
    show (strsL (ys.map D.str)).map _ = _
    rw [strsL_map ys]
    rfl
theorem w_strsF {ys : List Str} {R : List Str → Hs → Prop} : wp (ask (strsOf (.fl (ys.map D.str)))) m R = R ys m := by
  rw [wp_ask]
  simp only [strsOf, itemsOf, Option.bind, strsL_map, Option.some.injEq, exists_eq_left']
theorem w_strsT {ys : List Str} {R : List Str → Hs → Prop} : wp (ask (strsOf (.tup (ys.map D.str)))) m R = R ys m := by
  rw [wp_ask]
  simp only [strsOf, itemsOf, Option.bind, strsL_map, Option.some.injEq, exists_eq_left']
theorem wp_fmtM : wp (fmtM a) m Q = wp a m fun x m1 => wp (fmtS x) m1 Q := by
  unfold fmtM
  rw [wp_bnd]
theorem w_fmtS : wp (fmtS (.str s)) m Q = (s.length ≤ sizeLine ∧ Q (.str s) m) := by
  show wp (if s.length ≤ sizeLine then ret (.str s) else bad) m Q = _
  rw [wp_gd, wp_ret]
theorem w_fmtI : wp (fmtS (.int i)) m Q = (i.natAbs.log2 < 1920 ∧ Q (.str (toString i)) m) := by
  show wp (if i.natAbs.log2 < 1920 then ret (.str (toString i)) else bad) m Q = _
  rw [wp_gd, wp_ret]
theorem wp_fs0 : wp (fsM [] s) m Q = Q (.str s) m := id rfl
theorem wp_fs1 : wp (fsM (a :: ts) s) m Q = wp a m fun x m1 => wp (txB x fun y => if (s ++ y).length ≤ sizeLine then fsM ts (s ++ y) else bad) m1 Q := by
  show wp (bnd a fun x => txB x fun y => if (s ++ y).length ≤ sizeLine then fsM ts (s ++ y) else bad) m Q = _
  rw [wp_bnd]
theorem wp_chrI {R : Its → Hs → Prop} : wp (chrI a) m R = wp a m fun x m1 => wp (txB x fun s => ret (chrs s, [])) m1 R := by
  unfold chrI
  rw [wp_bnd]
theorem wp_insM : wp (insM a b) m Q = wp a m fun x m1 => wp b m1 fun y m2 => wp (insS x y) m2 Q := by
  unfold insM
  rw [wp_bnd]
  congr 1
  funext x m1
  rw [wp_bnd]
theorem w_insS : wp (insS (.str ⟨#[c]⟩) (.str z)) m Q = Q (.bl (decide (c ∈ z.cps.toList))) m := id rfl
theorem wp_ixtM : wp (ixtM a b) m Q = wp a m fun x m1 => wp b m1 fun y m2 => wp (ixtS x y) m2 Q := by
  unfold ixtM
  rw [wp_bnd]
  congr 1
  funext x m1
  rw [wp_bnd]
theorem wp_idaM : wp (idaM a b) m Q = wp a m fun x m1 => wp b m1 fun y m2 => wp (idaS x y) m2 Q := by
  unfold idaM
  rw [wp_bnd]
  congr 1
  funext x m1
  rw [wp_bnd]
theorem w_idaS {y : D} : wp (idaS (.str z) y) m Q = wp (ixtS (.str z) y) m Q := id rfl
theorem w_idaF {xs : List D} {y : D} : wp (idaS (.fl xs) y) m Q = wp (idxS (.fl xs) y) m Q := id rfl
theorem w_idaT {xs : List D} {y : D} : wp (idaS (.tup xs) y) m Q = wp (idxS (.tup xs) y) m Q := id rfl
theorem wp_rptM : wp (rptM a b) m Q = wp a m fun x m1 => wp b m1 fun y m2 => wp (rptS x y) m2 Q := by
  unfold rptM
  rw [wp_bnd]
  congr 1
  funext x m1
  rw [wp_bnd]
theorem w_rptS : wp (rptS (.str z) (.int i)) m Q = ((z.length ≤ 16 ∧ -(2 ^ 63) ≤ i ∧ i ≤ 1048576) ∧ Q (.str (Txt.mul z i)) m) := by
  show wp (if z.length ≤ 16 ∧ -(2 ^ 63) ≤ i ∧ i ≤ 1048576 then ret (.str (Txt.mul z i)) else bad) m Q = _
  rw [wp_gd, wp_ret]
theorem wp_slcTM {l u : M (Option Int)} : wp (slcTM a l u) m Q = wp a m fun x m1 => wp l m1 fun p m2 => wp u m2 fun q m3 => wp (slcT x p q) m3 Q := by
  unfold slcTM
  rw [wp_bnd]
  congr 1
  funext x m1
  rw [wp_bnd]
  congr 1
  funext p m2
  rw [wp_bnd]
theorem w_addX {s t : Str} : wp (binS .add (.str s) (.str t)) m Q = (s.length + t.length ≤ sizeLine ∧ Q (.str (s ++ t)) m) := by
  show wp (if s.length + t.length ≤ sizeLine then ret (.str (s ++ t)) else bad) m Q = _
  rw [wp_gd, wp_ret]
end
end G
local macro_rules
  | `(tactic| simp! [$xs,*]) => `(tactic| simp -failIfUnchanged only [$xs,*, ↓G.wp_subT, ↓G.wp_retE, ↓G.wp_bad, ↓G.wp_bnd, ↓G.wp_nxt, ↓G.wp_brk, ↓G.wp_cnt, ↓G.wp_rtn, ↓G.wp_iff, ↓G.wp_fnM, ↓G.wp_binM, ↓G.wp_cmpM, ↓G.wp_idxM, ↓G.wp_negM, ↓G.wp_notM, ↓G.wp_andM, ↓G.wp_orM, ↓G.wp_iteM, ↓G.wp_chnM, ↓G.wp_chnS, ↓G.wp_ls0, ↓G.wp_ls1, ↓G.wp_tupM, ↓G.wp_lstM, ↓G.wp_lshM, ↓G.wp_ownM, ↓G.wp_idxL, ↓G.wp_slcM, ↓G.wp_noP, ↓G.wp_soP, ↓G.wp_calM, ↓G.wp_isiM, ↓G.wp_forM, ↓G.wp_seqI, ↓G.wp_rng1, ↓G.wp_rng2, ↓G.wp_enum, ↓G.wp_enum2, ↓G.enum2_t, ↓G.enum2_f, ↓G.wp_zip, ↓G.rng1_int, ↓G.rng2_int, ↓G.wp_lcM, ↓G.wp_lcO, ↓G.wp_appO, ↓G.wp_extO, ↓G.wp_fldM, ↓G.wp_fldT, ↓G.wp_mthM, ↓G.wp_makM, ↓G.wp_augF, ↓G.tpT2, ↓G.nonS_non, ↓G.wp_subT, ↓G.w_add, ↓G.w_sub, ↓G.w_mul, ↓G.w_fdiv, ↓G.w_mod, ↓G.w_pow, ↓G.w_shl, ↓G.w_addT, ↓G.w_addL, ↓G.w_lt, ↓G.w_le, ↓G.w_gt, ↓G.w_ge, ↓G.w_eqI, ↓G.w_neI, ↓G.w_eqS, ↓G.w_neS, ↓G.w_isN, ↓G.w_ntN, ↓G.w_isI, ↓G.w_ntI, ↓G.w_isT, ↓G.w_ntT, ↓G.w_isF, ↓G.w_ntF, ↓G.w_isR, ↓G.w_ntR, ↓G.w_isB, ↓G.w_ntB, ↓G.w_isS, ↓G.w_ntS, ↓G.w_trB, ↓G.w_trI, ↓G.w_trN, ↓G.w_trT, ↓G.w_trF, ↓G.w_ixT0, ↓G.w_ixT1, ↓G.w_ixT2, ↓G.w_ixT3, ↓G.w_ixF0, ↓G.w_ixF1, ↓G.w_ixF2, ↓G.w_ixF3, ↓G.w_ixS0, ↓G.w_ixS1, ↓G.w_ixS2, ↓G.w_ixS3, ↓G.w_idL, ↓G.w_neg, ↓G.w_slT, ↓G.w_slF, ↓G.w_soP, ↓G.w_lenT, ↓G.w_lenF, ↓G.w_lenS, ↓G.w_abs, ↓G.w_min, ↓G.w_max, ↓G.w_intI, ↓G.w_intB, ↓G.w_tupT, ↓G.w_tupF, ↓G.w_lstT, ↓G.w_lstF, ↓G.w_sum, ↓G.w_all, ↓G.w_any, ↓G.w_is_int_N, ↓G.w_is_int_B, ↓G.w_is_int_I, ↓G.w_is_int_S, ↓G.w_is_int_T, ↓G.w_is_int_F, ↓G.w_is_bl_N, ↓G.w_is_bl_B, ↓G.w_is_bl_I, ↓G.w_is_bl_S, ↓G.w_is_bl_T, ↓G.w_is_bl_F, ↓G.w_is_tup_N, ↓G.w_is_tup_B, ↓G.w_is_tup_I, ↓G.w_is_tup_S, ↓G.w_is_tup_T, ↓G.w_is_tup_F, ↓G.w_is_str_N, ↓G.w_is_str_B, ↓G.w_is_str_I, ↓G.w_is_str_S, ↓G.w_is_str_T, ↓G.w_is_str_F, ↓G.w_is_lst_N, ↓G.w_is_lst_B, ↓G.w_is_lst_I, ↓G.w_is_lst_S, ↓G.w_is_lst_T, ↓G.w_is_lst_F, ↓G.w_guT, ↓G.w_guF, ↓G.w_guS, ↓G.w_lsF, ↓G.w_enT, ↓G.w_enF, ↓G.w_zpT, ↓G.w_zpF, ↓G.w_gadd, ↓G.w_gsub, ↓G.w_fs1, ↓G.w_fs2, ↓G.w_fs3, ↓G.w_fs4, ↓G.w_fs5, ↓G.w_fs6, ↓G.w_un2, ↓G.w_un3, ↓G.w_un4, ↓G.w_goN, ↓G.w_goR, ↓G.w_goB, ↓G.w_goC, ↓G.w_feN, ↓G.w_feR, true_and, and_true, and_self, if_true, if_false, Bool.false_eq_true, Bool.not_true, Bool.not_false, decide_true, decide_false, ↓G.wp_calK, ↓G.kw_03, ↓G.kw_02, ↓G.kw_01, ↓G.pick_210, ↓G.pick_10, ↓G.pick_01, ↓G.pick_0, ↓G.w_sumF, ↓G.w_sumT, ↓G.w_srt, ↓G.w_maxL, ↓G.w_minL, ↓G.wp_starM, ↓G.wp_consM, ↓G.w_itT, ↓G.w_itF, ↓G.wp_rl2M, ↓G.wp_rl1M, ↓G.w_rl, ↓G.wp_dn3I, ↓G.w_dn3, ↓G.wp_mulTM, ↓G.w_mulT, ↓G.wp_niDM, ↓G.wp_inDM, ↓G.wp_zpM, ↓G.w_zpFF, ↓G.wp_isBM, ↓G.wp_nsBM, ↓G.w_isBB, ↓G.w_nsBB, ↓G.wp_catO, ↓G.w_catF, ↓G.kw_04, ↓G.pick_3210, ↓G.wp_prpM, ↓G.wp_lenI, ↓G.w_lenC, ↓G.wp_mulWM, ↓G.wp_neI, ↓G.wp_isoM, ↓G.w_sdM, ↓G.wp_fidB, ↓G.wp_dcpM, ↓G.wp_neLM, ↓G.wp_eqI, ↓G.wp_nqI, ↓G.wp_isoN, ↓G.wp_spltM, ↓G.wp_prtM, ↓G.wp_joinM, ↓G.wp_fmtM, ↓G.wp_fs0, ↓G.wp_fs1, ↓G.wp_chrI, ↓G.wp_insM, ↓G.w_insS, ↓G.wp_ixtM, ↓G.wp_slcTM, ↓G.w_txB, ↓G.w_strsF, ↓G.w_strsT, ↓G.w_fmtS, ↓G.w_fmtI, ↓G.w_addX, ↓G.wp_idaM, ↓G.w_idaF, ↓G.w_idaT, ↓G.w_idaS, ↓G.wp_rptM])
namespace G
open PySem
open _root_.TL
def numT (i : Int) : Str := Str.ofString (toString i)
theorem tl_numT {i : Int} (h : 0 ≤ i) : tl (numT i) = numL i.toNat := by
  have e : i = ((i.toNat : Nat) : Int) := by omega
  have := tl_num i.toNat
  rw [← e] at this
  exact this
theorem numT_len {i : Int} {k : Nat} (h0 : 0 ≤ i) (hk : 0 < k) (h : i < 10 ^ k) : (numT i).length ≤ k := by
  rw [len_tl, tl_numT h0]
  have e : ((10 : Int) ^ k) = ((10 ^ k : Nat) : Int) := by simp
  exact numL_len hk (by omega)
theorem log_ok {i : Int} (h0 : 0 ≤ i) (h : i < 10 ^ 210) : i.natAbs.log2 < 1920 := by
  have h1 : (10 : Int) ^ 210 ≤ 2 ^ 1000 := by decide +kernel
  have e : ((2 : Int) ^ 1000) = ((2 ^ 1000 : Nat) : Int) := by simp
  have h2 : i.natAbs < 2 ^ 1000 := by omega
  by_cases hz : i.natAbs = 0
  · rw [hz]
    decide
  · have := (Nat.log2_lt hz).2 h2
    omega
theorem mem_joinL {S : List Nat} {c : Nat} : ∀ {ps : List (List Nat)}, c ∈ joinL S ps → c ∈ S ∨ ∃ p, p ∈ ps ∧ c ∈ p
  | [], h => by cases h
  | [p], h => .inr ⟨p, List.mem_singleton.mpr rfl, h⟩
  | p :: q :: r, h => by
    have h : c ∈ p ++ (S ++ joinL S (q :: r)) := h
    rcases List.mem_append.mp h with h | h
    · exact .inr ⟨p, List.mem_cons_self .., h⟩
    · rcases List.mem_append.mp h with h | h
      · exact .inl h
      · rcases mem_joinL h with h | ⟨x, hx, hc⟩
        · exact .inl h
        · exact .inr ⟨x, List.mem_cons_of_mem _ hx, hc⟩
theorem mem_join {y : Str} {c : Nat} {ps : List Str} (h : c ∈ tl (Txt.join y ps)) : c ∈ tl y ∨ ∃ p, p ∈ ps ∧ c ∈ tl p := by
  rw [join_eq, tl_join] at h
  rcases mem_joinL h with h | ⟨p, hp, hc⟩
  · exact .inl h
  · obtain ⟨z, hz, rfl⟩ := List.mem_map.mp hp
    exact .inr ⟨z, hz, hc⟩
theorem empty_app (a : Str) : Str.empty ++ a = a := by
  apply ext_tl
  rw [tl_append]
  rfl
theorem len_app (a b : Str) : (a ++ b).length = a.length + b.length := by
  rw [len_tl, len_tl, len_tl, tl_append, List.length_append]
theorem sumf_le {α : Type} {f : α → Nat} {B : Nat} : ∀ {xs : List α}, (∀ x, x ∈ xs → f x ≤ B) → (xs.map f).sum ≤ xs.length * B
  | [], _ => by simp
  | x :: xs, h => by
    have h1 := h x (List.mem_cons_self ..)
    have h2 := sumf_le fun y hy => h y (List.mem_cons_of_mem x hy)
    rw [List.map_cons, List.sum_cons, List.length_cons, Nat.succ_mul]
    omega
theorem join_len (y : Str) (ps : List Str) : (Txt.join y ps).length ≤ (ps.map (·.length)).sum + ps.length * y.length := by
  rw [join_eq]
  induction ps with
  | nil => exact Nat.zero_le _
  | cons p ps ih =>
    cases ps with
    | nil =>
      show p.length ≤ _
      simp only [List.map_cons, List.map_nil, List.sum_cons, List.sum_nil, List.length_cons, List.length_nil]
      omega
    | cons q r =>
      show (p ++ y ++ Str.join y (q :: r)).length ≤ _
      rw [len_app, len_app, List.map_cons, List.sum_cons, List.length_cons, Nat.succ_mul]
      omega
end G
namespace G.K58
open PySem G
end G.K58
namespace G.K58
open PySem G
theorem draw_wp {m : Hs} {n : Nat} {k many : Int} {Q : D → Hs → Prop} (hd : Dw m n k) (hk : k < 2 ^ 60) (h0 : 0 < many) (h1 : many < 2 ^ 200)
    (h : ∀ (v : Int) (o : O), 0 ≤ v → v < many → Dw (m.set n o) n (k + 1) → Q (.int v) (m.set n o)) : wp (t_law_draw (.ref n) (.int many)) m Q := by
  obtain ⟨g, x, s, hm, hg, hx, hx2, hs, hsk⟩ := hd
  unfold t_law_draw bd_law_draw
  simp! [↓ixr0 hm, ↓ixr1 hm, ↓ixr2 hm, ↓itm0 hm, ↓itm2 hm, ↓ixr1 (hs_set hm), ↓ixr2 (hs_set hm), ↓wp_seq, ↓w_repr]
  by_cases hgz : 0 < g
  · simp! [hgz, ↓ixr0 hm, ↓itm0 hm, ↓wp_seq, ↓w_repr]
    refine ⟨h0, div_ok h0 h1, ?_⟩
    refine h _ _ (Int.emod_nonneg _ (by omega)) (Int.emod_lt_of_pos _ h0) ⟨g / many, x, s, hs_set hm, Int.ediv_nonneg hg (by omega), hx, hx2, hs, by omega⟩
  · simp! [hgz, ↓ixr1 hm, ↓ixr2 hm, ↓itm2 hm, ↓ixr1 (hs_set hm), ↓ixr2 (hs_set hm), ↓wp_seq, ↓w_repr]
    refine ⟨sz_le (by decide), by decide, ?_⟩
    have hr := mod2 (a := s + 1) (b := 5) (by decide)
    refine ix_one (ns := [2147483647, 2147483629, 2147483587, 2147483579, 2147483563]) (P := fun p => 0 < p ∧ p < 2 ^ 31) hr.1 (by simpa using hr.2) (by decide) fun p _ hp => ?_
    have hm2 := hs_set (o := .lst [.int g, .int x, .int (s + 1)]) hm
    have q1 : (65537 * (s + 1)).natAbs.log2 + (s + 1).natAbs.log2 < 1000000 := mul_ok (by omega) (by omega) (by omega) (by omega)
    simp! [↓ixr1 hm2, ↓ixr2 hm2, ↓wp_seq, ↓w_repr]
    have ss : 65537 * (s + 1) * (s + 1) < 2 ^ 140 ∧ 0 ≤ 65537 * (s + 1) * (s + 1) := by
      have h1 : (s + 1) * (s + 1) ≤ 2 ^ 60 * 2 ^ 60 := Int.mul_le_mul (by omega) (by omega) (by omega) (by decide)
      have h2 : 0 ≤ (s + 1) * (s + 1) := Int.mul_nonneg (by omega) (by omega)
      rw [Int.mul_assoc]
      omega
    have a1 := mod2 (a := (x + 65537 * (s + 1) * (s + 1) + 37) ^ Int.toNat 3) hp.1
    refine ⟨mul_ok (by decide) (by decide) (by omega) (by omega), q1, pow_ok (k := 150) (Bd.of (by omega) (by omega)) (by decide) (by decide), hp.1, ?_⟩
    generalize ((x + 65537 * (s + 1) * (s + 1) + 37) ^ Int.toNat 3) % p = y at a1
    have a2 := mod2 (a := y) (b := 10007) (by decide)
    simp! [↓ixr2 hm2, ↓wp_seq, ↓w_repr]
    refine ⟨by decide, mul_ok (by decide) (by decide) (by omega) (by omega), mul_ok (by omega) (by omega) (by omega) (by omega), by decide, div_ok (by decide) (by decide), h0, ?_⟩
    have a3 := mod2 (a := y * (y % 10007 + 97 * (s + 1)) % 2305843009213693907 / 97) h0
    exact h _ _ a3.1 a3.2 ⟨g, x, s + 1, hm2, hg, hx, hx2, by omega, by omega⟩
theorem pick_wp {m : Hs} {n : Nat} {k : Int} {xs : List D} {Q : D → Hs → Prop} (hd : Dw m n k) (hk : k < 2 ^ 60) (h0 : 0 < xs.length) (h1 : xs.length < 16777216)
    (h : ∀ (x : D) (o : O), x ∈ xs → Dw (m.set n o) n (k + 1) → Q x (m.set n o)) : wp (t_law_pick (.ref n) (.fl xs)) m Q := by
  unfold t_law_pick bd_law_pick
  simp! [↓wp_seq, ↓w_repr]
  refine draw_wp hd hk (by omega) (by omega) fun v o hv0 hv1 hd' => ?_
  exact ix_any hv0 hv1 fun x hx => h x o hx hd'
theorem well_wp {m : Hs} {ns : List Int} {k : Nat} {Q : D → Hs → Prop} (hk : k < 100) (h : ∀ o : O, Dw (m ++ [o]) m.length 0 → Q (.ref m.length) (m ++ [o])) : wp (t_law_well (.sc (ns.map .int)) (.int k)) m Q := by
  unfold t_law_well bd_law_well
  rw [wp_fnM, wp_bnd]
  refine wp_imp (Q := fun d m' => ∃ cell : Int, d = .int cell ∧ m' = m) ?_ ?_
  · simp! [List.length_map, ↓wp_seq, ↓w_repr]
    by_cases hl : (k : Int) < ns.length
    · simp! [hl, ↓wp_seq, ↓w_repr]
      rw [w_ixS]
      have hk' : k < ns.length := by omega
      refine ⟨.int ns[k], ?_, _, rfl, rfl⟩
      rw [at_nat, List.getElem?_map, List.getElem?_eq_getElem hk']
      rfl
    · simp! [hl, ↓wp_seq, ↓w_repr]
      exact ⟨mul_ok (by decide) (by decide) (by omega) (by omega), _, rfl⟩
  · rintro _ _ ⟨cell, rfl, rfl⟩
    simp! [↓wp_seq, ↓w_repr]
    generalize habs : (if cell < 0 then -cell else cell) = ab
    have hab : 0 ≤ ab := by
      rw [← habs]
      split <;> omega
    have h10 : (0 : Int) < (10 ^ Int.toNat 60) ^ Int.toNat 5 := by decide +kernel
    have hb10 : Bd 1000 ((10 ^ Int.toNat 60) ^ Int.toNat 5) := by
      unfold Bd
      decide +kernel
    have a1 := mod2 (a := ab) h10
    have hbm : Bd 1000 (ab % (10 ^ Int.toNat 60) ^ Int.toNat 5) := by
      unfold Bd at *
      omega
    generalize ab % (10 ^ Int.toNat 60) ^ Int.toNat 5 = gr at a1 hbm
    have a2 := mod2 (a := cell) (b := 2305843009213693951) (by decide)
    have a3 := mod2 (a := cell % 2305843009213693951 * 69621 + 104729 * k * k + 31) (b := 2305843009213693921) (by decide)
    have hkk : (104729 : Int) * k * k ≤ 104729 * 100 * 100 := by
      have : (k : Int) * k ≤ 100 * 100 := Int.mul_le_mul (by omega) (by omega) (by omega) (by omega)
      rw [Int.mul_assoc, Int.mul_assoc]
      omega
    have hk0 : (0 : Int) ≤ 104729 * k * k := Int.mul_nonneg (Int.mul_nonneg (by decide) (by omega)) (by omega)
    refine ⟨⟨by decide, by decide +kernel⟩, ⟨by decide, by decide +kernel⟩, h10, ⟨by decide, by decide +kernel⟩, mul_bd (l := 1) hbm (by unfold Bd; split <;> decide) (by decide), by decide, mul_ok (by omega) (by omega) (by decide) (by decide), mul_ok (by decide) (by decide) (by omega) (by omega), mul_ok (by omega) (by omega) (by omega) (by omega), by decide, sz_le (by simp), ?_⟩
    refine h _ ⟨_, _, _, hs_new, ?_, a3.1, by omega, by decide, by decide⟩
    split <;> omega
end G.K58
namespace G.K58
open PySem G
theorem last_map {l : List Int} {c : Int} (h : l.getLast? = some c) : atD (l.map D.int) (-1) = some (.int c) := by
  obtain ⟨i, a, rfl⟩ := snoc_ex (l := l) (fun e => by rw [e] at h; simp at h)
  simp at h
  subst h
  exact at_lastI
theorem plan_wp {m : Hs} {n : Nat} {k : Int} {levels : Nat} {wide : Int} {Q : D → Hs → Prop} (hd : Dw m n k) (hk : k < 2 ^ 50) (hl : 1 ≤ levels) (hl2 : levels ≤ 50) (hs : 1 ≤ wide) (hs2 : wide ≤ 10 ^ 17)
    (h : ∀ (cs ls : List Int) (fx : Int) (m' : Hs), Vp cs ls → cs.length ≤ levels → (∀ (i : Nat) (a : Int), cs[i]? = some a → a ≤ wide * ((i : Int) + 1)) → 0 ≤ fx → fx ≤ 1000000000000 → m'.length = m.length → Dw m' n (k + 250) → Q (pol cs ls fx) m') : wp (t_law_plan (.ref n) (.int levels) (.int wide)) m Q := by
  unfold t_law_plan bd_law_plan
  simp! [↓wp_seq, ↓w_repr]
  refine draw_wp hd (by omega) (by omega) (by omega) fun v o1 hv0 hv1 hd1 => ?_
  simp! [↓wp_seq, ↓w_repr]
  refine ⟨sz_le (by simp), sz_le (by simp), ?_⟩
  refine draw_wp hd1 (by omega) (by omega) (by omega) fun many o3 hm0 hm1 hd3 => ?_
  simp! [↓wp_seq, ↓w_repr]
  refine ⟨⟨by omega, by omega⟩, ?_⟩
  refine rng_wp (fun j s m' => ∃ (cs ls : List Int) (low : Int), s = (cs.map D.int, ls.map D.int, .int low) ∧ Vp cs ls ∧ cs.length + j ≤ levels ∧ (∀ (i : Nat) (a : Int), cs[i]? = some a → a ≤ wide * ((i : Int) + 1)) ∧ (ls.getLast? = some low ∨ (ls = [] ∧ low = -1)) ∧ m'.length = m.length ∧ Dw m' n (k + 202 - 4 * j)) ?_ ?_ _ _ _ _ ⟨[1 + v], [], -1, rfl, Vp.one (by omega), by simp; omega, fun i a hi => ?_, .inr ⟨rfl, rfl⟩, by simp, hd3.mono (by omega)⟩
  rotate_left 2
  · have := get_lt hi
    simp at this
    subst this
    simp at hi
    subst hi
    simp
    omega
  · intro i j s m' hI
    obtain ⟨cs, ls, low, hs1, vp, hcl, hb, hlow, hml, hd4⟩ := hI
    subst hs1
    obtain ⟨c, hc⟩ := vp.ex_last
    have hc2 := hc
    rw [List.getLast?_eq_getElem?] at hc2
    have hcp := vp.pos _ c hc2
    have hcb := hb _ c hc2
    have hlr : low < c ∧ -1 ≤ low := by
      rcases hlow with hlow | ⟨_, rfl⟩
      · have := vp.llast hc hlow
        omega
      · omega
    have hc64 : c ≤ 2 ^ 64 := by
      have h1 : wide * (((cs.length - 1 : Nat) : Int) + 1) ≤ 10 ^ 17 * 50 := Int.mul_le_mul hs2 (by omega) (by omega) (by decide)
      omega
    simp! [↓wp_seq, ↓w_repr]
    refine ⟨_, last_map hc, ?_⟩
    simp! [↓wp_seq, ↓w_repr]
    refine draw_wp hd4 (by omega) (by omega) (by omega) fun v1 o4 hv10 hv11 hd5 => ?_
    simp! [↓wp_seq, ↓w_repr]
    refine ⟨div_ok (by decide) (by decide), sz_le (by simp), ?_⟩
    refine pick_wp hd5 (by omega) (by simp) (by simp) fun x o5 hx hd6 => ?_
    have hl1 : ∃ l : Int, x = .int l ∧ low < l ∧ l ≤ c := by
      simp only [List.mem_cons, List.not_mem_nil, or_false] at hx
      rcases hx with rfl | rfl | rfl | rfl
      · exact ⟨_, rfl, by omega, by omega⟩
      · exact ⟨_, rfl, by omega, by omega⟩
      · exact ⟨_, rfl, by omega, by omega⟩
      · exact ⟨_, rfl, by omega, by omega⟩
    obtain ⟨l, rfl, hl0, hl1⟩ := hl1
    simp! [↓wp_seq, ↓w_repr]
    refine ⟨?_, ?_⟩
    · rw [List.length_map]
      have := vp.len
      exact sz_lt (by omega)
    refine draw_wp hd6 (by omega) (by omega) (by omega) fun v2 o6 hv20 hv21 hd7 => ?_
    simp! [↓wp_seq, ↓w_repr]
    refine ⟨?_, cs ++ [c + 1 + v2], ls ++ [l], l, by simp, vp.snoc hc (by omega) hl1 (fun y hy => ?_) (by omega), by simp; omega, fun i a hi => ?_, .inl (by simp), by simpa using hml, hd7.mono (by omega)⟩
    · rw [List.length_map]
      exact sz_lt (by omega)
    · rcases hlow with hlow | ⟨e, _⟩
      · rw [hlow] at hy
        cases hy
        exact hl0
      · rw [e] at hy
        simp at hy
    · rw [List.getElem?_append] at hi
      split at hi
      · exact hb i a hi
      · rename_i hge
        have : i = cs.length := by
          have := get_lt hi
          simp at this
          omega
        subst this
        simp at hi
        subst hi
        have hcl1 : 1 ≤ cs.length := by
          have := vp.len
          omega
        have e : wide * ((cs.length : Int) + 1) = wide * (((cs.length - 1 : Nat) : Int) + 1) + wide := by
          rw [show (((cs.length - 1 : Nat) : Int) + 1) = (cs.length : Int) by omega, Int.mul_add, Int.mul_one]
        omega
  · intro s m' hI
    obtain ⟨cs, ls, low, hs1, vp, hcl, hb, hlow, hml, hd4⟩ := hI
    subst hs1
    have e12 : (10 : Int) ^ Int.toNat 12 = 1000000000000 := by decide +kernel
    simp! [e12, ↓wp_seq, ↓w_repr]
    refine draw_wp hd4 (by omega) (by decide) (by decide) fun v1 o5 hv10 hv11 hd7 => ?_
    simp! [e12, ↓wp_seq, ↓w_repr]
    refine ⟨⟨by decide, by decide +kernel⟩, sz_le (by simp), ?_⟩
    refine pick_wp hd7 (by omega) (by simp) (by simp) fun x o6 hx hd8 => ?_
    have hfx : ∃ fx : Int, x = .int fx ∧ 0 ≤ fx ∧ fx ≤ 1000000000000 := by
      simp only [List.mem_cons, List.not_mem_nil, or_false] at hx
      rcases hx with rfl | rfl | rfl | rfl | rfl
      · exact ⟨_, rfl, by decide, by decide⟩
      · exact ⟨_, rfl, by decide, by decide⟩
      · exact ⟨_, rfl, by decide, by decide⟩
      · exact ⟨_, rfl, hv10, by omega⟩
      · exact ⟨_, rfl, by decide, by decide⟩
    obtain ⟨fx, rfl, hf0, hf1⟩ := hfx
    simp! [↓wp_seq, ↓w_repr]
    exact ⟨sz_le (by simp), h cs ls fx _ vp (by omega) hb hf0 hf1 (by simpa using hml) (hd8.mono (by omega))⟩
end G.K58
namespace G.K58
open PySem G
open _root_.TL
open L2 (rjT rj_len)
theorem w_lenX {s : Str} {m : Hs} {Q : D → Hs → Prop} : wp (lenS [.str s]) m Q = (s.length ≤ sizeLine ∧ Q (.int s.length) m) := by
  show wp (if s.length ≤ sizeLine then ret (.int s.length) else bad) m Q = _
  rw [wp_gd, wp_ret]
theorem wp_z3M {a b c : M D} {m : Hs} {Q : D → Hs → Prop} : wp (z3M a b c) m Q = wp a m fun x m1 => wp (ask fun _ => natO x) m1 fun n m2 => wp b m2 fun y m3 => wp c m3 fun u m4 => wp (z3S n y u) m4 Q := by
  unfold z3M
  simp only [wp_bnd]
theorem w_natO {n : Nat} {m : Hs} {R : Nat → Hs → Prop} : wp (ask fun _ => natO (.int n)) m R = (n ≤ 16777215 ∧ R n m) := by
  rw [wp_ask]
  by_cases h : n ≤ 16777215
  · have e : natO (.int n) = some n := by
      show (if (0 : Int) ≤ (n : Int) ∧ (n : Int) ≤ 16777215 then some (n : Int).toNat else none) = some n
      rw [if_pos ⟨by omega, by omega⟩]
      rfl
    simp [e, h]
  · have e : natO (.int n) = none := by
      show (if (0 : Int) ≤ (n : Int) ∧ (n : Int) ≤ 16777215 then some (n : Int).toNat else none) = none
      rw [if_neg (by omega)]
    simp [e, h]
theorem w_z3S {n : Nat} {xs ys : List D} {m : Hs} {Q : D → Hs → Prop} : wp (z3S n (.tup xs) (.tup ys)) m Q = Q (.fl (z3D (rgN n) xs ys)) m := rfl
theorem wp_fmtWM {W : Nat} {a : M D} {m : Hs} {Q : D → Hs → Prop} : wp (fmtWM W a) m Q = wp a m fun x m1 => wp (fmtWS W x) m1 Q := wp_bnd
theorem w_fmtWS {W : Nat} {s : Str} {m : Hs} {Q : D → Hs → Prop} : wp (fmtWS W (.str s)) m Q = (s.length ≤ 1000 ∧ Q (.str (rjT W s)) m) := by
  show wp (if s.length ≤ 1000 then ret (.str (rjT W s)) else bad) m Q = _
  rw [wp_gd, wp_ret]
theorem w_fmtWI {W : Nat} {i : Int} {m : Hs} {Q : D → Hs → Prop} : wp (fmtWS W (.int i)) m Q = ((0 ≤ i ∧ i.natAbs.log2 < 1920) ∧ Q (.str (rjT W (numT i))) m) := by
  show wp (if 0 ≤ i ∧ i.natAbs.log2 < 1920 then ret (.str (rjT W (Str.ofString (toString i)))) else bad) m Q = _
  rw [wp_gd, wp_ret]
  rfl
theorem bl1 : Str.ofString " " = (⟨#[32]⟩ : Str) := by decide +kernel
theorem mul_bl {k : Int} : Txt.mul (Str.ofString " ") k = ⟨(List.replicate k.toNat 32).toArray⟩ := by
  refine ext_tl ?_
  rw [bl1]
  show (Txt.mul ⟨#[32]⟩ k).cps.toList = _
  rw [PyProof.Rows.mul_one_list]
theorem aligned_eq {W : Nat} {x : Str} (hx : x.length ≤ 1000) (hW : W ≤ 1000) : t_law_aligned (.str x) (.int W) = ret (.str (rjT W x)) := ret_of fun m Q q => by
  have e : Txt.mul (Str.ofString " ") ((W : Int) - x.length) ++ x = rjT W x := by
    rw [mul_bl]
    unfold rjT
    rw [show ((W : Int) - x.length).toNat = W - x.length by omega]
  have hl := rj_len (W := W) (x := x)
  unfold t_law_aligned bd_law_aligned
  simp! [↓w_lenX, ↓w_rptS, e, ↓wp_seq, ↓w_repr]
  have hb : (Str.ofString " ").length ≤ 16 := by decide +kernel
  have hS : sizeLine = 16777216 := by decide
  refine ⟨by omega, ⟨hb, by omega, by omega⟩, ?_, q⟩
  rw [mul_bl]
  show (List.replicate _ 32).toArray.size + _ ≤ _
  rw [List.size_toArray, List.length_replicate]
  omega
def lowT (ls : List Int) (i : Nat) : Str := if i = 0 then Str.ofString "-" else numT ((ls[i - 1]?).getD 0)
def rowT (ls : List Int) (i : Nat) (c : Int) : Str := rjT 2 (numT i) ++ rjT 20 (numT c) ++ rjT 20 (lowT ls i)
def rowsT (cs ls : List Int) : List Str := (List.range cs.length).map fun i => rowT ls i ((cs[i]?).getD 0)
def repT (cs ls : List Int) : Str := Txt.join (Str.ofString "\n") (rowsT cs ls)
def lowD (ls : List Int) (i : Nat) : D := if i = 0 then .str (Str.ofString "-") else .int ((ls[i - 1]?).getD 0)
structure Rp (cs ls : List Int) : Prop where
  len : cs.length = ls.length + 1
  most : cs.length ≤ 40
  cb : ∀ c, c ∈ cs → 0 ≤ c ∧ c ≤ 10 ^ 18
  lb : ∀ c, c ∈ ls → 0 ≤ c ∧ c ≤ 10 ^ 18
section
variable {cs ls : List Int} {fx : Int}
theorem log18 {i : Int} (h : 0 ≤ i ∧ i ≤ 10 ^ 18) : i.natAbs.log2 < 1920 := log_ok h.1 (Int.lt_of_le_of_lt h.2 (by decide))
theorem Rp.c (h : Rp cs ls) {i : Nat} (hi : i < cs.length) : cs[i]? = some ((cs[i]?).getD 0) ∧ 0 ≤ (cs[i]?).getD 0 ∧ (cs[i]?).getD 0 ≤ 10 ^ 18 := by
  obtain ⟨c, hc⟩ := get_ex (l := cs) (i := i) hi
  rw [hc]
  exact ⟨rfl, h.cb c (List.mem_of_getElem? hc)⟩
theorem Rp.l (h : Rp cs ls) {i : Nat} (hi : i < cs.length) (h0 : 0 < i) : ls[i - 1]? = some ((ls[i - 1]?).getD 0) ∧ 0 ≤ (ls[i - 1]?).getD 0 ∧ (ls[i - 1]?).getD 0 ≤ 10 ^ 18 := by
  have := h.len
  obtain ⟨c, hc⟩ := get_ex (l := ls) (i := i - 1) (by omega)
  rw [hc]
  exact ⟨rfl, h.lb c (List.mem_of_getElem? hc)⟩
theorem num20 {i : Int} (h : 0 ≤ i ∧ i ≤ 10 ^ 18) : (numT i).length ≤ 20 := numT_len h.1 (by decide) (Int.lt_of_le_of_lt h.2 (by decide))
theorem num2 {i : Nat} (h : i < 40) : (numT i).length ≤ 2 := numT_len (by omega) (by decide) (by omega)
theorem Rp.low (h : Rp cs ls) {i : Nat} (hi : i < cs.length) : (lowT ls i).length ≤ 20 := by
  unfold lowT
  split
  · decide +kernel
  · exact num20 (h.l hi (by omega)).2
theorem Rp.rows (h : Rp cs ls) : z3D (rgN cs.length) (cs.map .int) (.str (Str.ofString "-") :: ls.map .int) = (List.range cs.length).map fun i => .tup [.int i, .int ((cs[i]?).getD 0), lowD ls i] := by
  have hl := h.len
  have e1 : ∀ i, i < cs.length → (cs.map D.int)[i]? = some (.int ((cs[i]?).getD 0)) := fun i hi => by
    rw [List.getElem?_map, (h.c hi).1]
    rfl
  have e2 : ∀ i, i < cs.length → (D.str (Str.ofString "-") :: ls.map D.int)[i]? = some (lowD ls i) := fun i hi => by
    cases i with
    | zero => rfl
    | succ i =>
      rw [List.getElem?_cons_succ, List.getElem?_map]
      have := (h.l hi (by omega)).1
      rw [Nat.add_sub_cancel] at this
      rw [this]
      rfl
  unfold z3D rgN
  refine List.ext_getElem? fun i => ?_
  rw [List.getElem?_zipWith, List.getElem?_map, List.getElem?_map]
  by_cases hi : i < cs.length
  · rw [List.getElem?_range hi]
    have e3 : ((cs.map D.int).zip (D.str (Str.ofString "-") :: ls.map D.int))[i]? = some (.int ((cs[i]?).getD 0), lowD ls i) := List.getElem?_zip_eq_some.2 ⟨e1 i hi, e2 i hi⟩
    rw [e3]
    rfl
  · rw [List.getElem?_eq_none (by rw [List.length_range]; omega)]
    rfl
def rowF (ls : List Int) : D → D
  | .tup [.int i, .int c, _] => .str (rowT ls i.toNat c)
  | _ => .non
theorem row_len {i : Nat} {c : Int} (h : Rp cs ls) (hi : i < cs.length) (hc : 0 ≤ c ∧ c ≤ 10 ^ 18) : (rowT ls i c).length = 42 := by
  have := h.most
  unfold rowT
  rw [len_app, len_app, rj_len, rj_len, rj_len]
  have h1 := num2 (i := i) (by omega)
  have h2 := num20 hc
  have h3 := h.low hi
  omega
theorem row_turn (h : Rp cs ls) : ∀ x, x ∈ ((List.range cs.length).map fun i : Nat => D.tup [.int i, .int ((cs[i]?).getD 0), lowD ls i]) → (un3 x fun level capacity limit => elM (fsM [fmtWM 2 (ret level), fmtWM 20 (ret capacity), fmtWM 20 (ret limit)] Str.empty)) = ret (some (rowF ls x)) := fun x hx => by
  obtain ⟨i, hi, rfl⟩ := List.mem_map.1 hx
  have hi := List.mem_range.1 hi
  refine ret_of fun m Q q => ?_
  have hc := (h.c hi).2
  have hm := h.most
  have hr := row_len h hi hc
  have hlo := h.low hi
  have e : rowF ls (.tup [.int i, .int ((cs[i]?).getD 0), lowD ls i]) = .str (rowT ls i ((cs[i]?).getD 0)) := by
    simp [rowF]
  rw [e] at q
  generalize (cs[i]?).getD 0 = c at *
  have hS : sizeLine = 16777216 := by decide
  have l1 := log18 hc
  have l0 := log18 (i := (i : Int)) ⟨by omega, by omega⟩
  have hrow : Str.empty ++ rjT 2 (numT i) ++ rjT 20 (numT c) ++ rjT 20 (lowT ls i) = rowT ls i c := by rw [empty_app]; rfl
  have n1 := num2 (i := i) (by omega)
  have n2 := num20 hc
  unfold elM lowD
  unfold lowT at hrow hlo
  by_cases h0 : i = 0
  · subst h0
    rw [if_pos rfl] at hrow hlo ⊢
    simp! [↓wp_fmtWM, ↓w_fmtWI, ↓w_fmtWS, ↓wp_gd, ↓wp_seq, ↓w_repr]
    rw [hrow]
    rw [← hrow, len_app, len_app] at hr
    refine ⟨⟨by omega, l0⟩, by omega, ⟨hc.1, l1⟩, by rw [len_app]; omega, by omega, ?_, q⟩
    rw [← hrow, len_app, len_app]
    omega
  · rw [if_neg h0] at hrow hlo ⊢
    have hl := (h.l hi (by omega)).2
    generalize (ls[i - 1]?).getD 0 = low at *
    have l2 := log18 hl
    simp! [↓wp_fmtWM, ↓w_fmtWI, ↓w_fmtWS, ↓wp_gd, ↓wp_seq, ↓w_repr]
    rw [hrow]
    rw [← hrow, len_app, len_app] at hr
    refine ⟨⟨by omega, l0⟩, by omega, ⟨hc.1, l1⟩, by rw [len_app]; omega, ⟨hl.1, l2⟩, ?_, q⟩
    rw [← hrow, len_app, len_app]
    omega
theorem nl_len : (Str.ofString "\n").length = 1 := by decide +kernel
theorem rows_sum (h : Rp cs ls) : ((rowsT cs ls).map (·.length)).sum + (rowsT cs ls).length * (Str.ofString "\n").length ≤ 2000 := by
  have h1 : ((rowsT cs ls).map (·.length)).sum ≤ (rowsT cs ls).length * 42 := sumf_le fun x hx => by
    obtain ⟨i, hi, rfl⟩ := List.mem_map.1 hx
    exact Nat.le_of_eq (row_len h (List.mem_range.1 hi) (h.c (List.mem_range.1 hi)).2)
  have h2 : (rowsT cs ls).length = cs.length := by
    unfold rowsT
    rw [List.length_map, List.length_range]
  have h3 := h.most
  rw [nl_len]
  omega
theorem report_eq (h : Rp cs ls) : t_report (pol cs ls fx) = ret (.str (repT cs ls)) := ret_of fun m Q q => by
  have hm := h.most
  have hlen := h.len
  have hS : sizeLine = 16777216 := by decide
  unfold t_report bd_report
  have ep : pol cs ls fx = .tup [il cs, il ls, .int fx] := rfl
  have ec : il cs = .tup (cs.map .int) := rfl
  have el : il ls = .tup (ls.map .int) := rfl
  rw [ep, ec, el]
  simp! [↓wp_z3M, List.length_map, ↓w_natO, ↓w_z3S, ↓wp_seq, ↓w_repr]
  rw [List.append_nil]
  refine ⟨by omega, by rw [List.length_cons, List.length_map]; omega, ?_⟩
  rw [h.rows]
  refine lc_map_wp (rowF ls) (row_turn h) (by rw [List.length_map, List.length_range]; omega) ?_
  have em : ((List.range cs.length).map fun i : Nat => D.tup [.int i, .int ((cs[i]?).getD 0), lowD ls i]).map (rowF ls) = (rowsT cs ls).map D.str := by
    unfold rowsT
    rw [List.map_map, List.map_map]
    refine List.map_congr_left fun i hi => ?_
    simp [rowF]
  rw [em, w_strsF, wp_gd, wp_ret]
  exact ⟨Nat.le_trans (rows_sum h) (by decide), q⟩
theorem due_eq (h : Rp cs ls) : t_law_due (pol cs ls fx) = ret (.str (repT cs ls)) := ret_of fun m Q q => by
  have hm := h.most
  have hlen := h.len
  have hS : sizeLine = 16777216 := by decide
  have ec : il cs = .tup (cs.map .int) := rfl
  unfold t_law_due bd_law_due
  simp! [↓pol_0, ec, ↓w_repr]
  rw [wp_seq]
  refine ⟨sz_le (by simp), ?_⟩
  rw [wp_forM, wp_enum]
  simp! [↓pol_0, ec, ↓w_repr]
  have hrl : (rowsT cs ls).length = cs.length := by
    unfold rowsT
    rw [List.length_map, List.length_range]
  refine forL_wp (fun rest (rows : List D) m' => m' = m ∧ ∃ k : Nat, k ≤ cs.length ∧ rest = enumL k ((cs.drop k).map D.int) ∧ rows = ((rowsT cs ls).take k).map D.str) ?_ ?_ _ _ _ ⟨rfl, 0, Nat.zero_le _, rfl, rfl⟩
  · rintro x xs s m1 ⟨rfl, k, hk, e1, rfl⟩
    have hk2 : k < cs.length := by
      rcases Nat.lt_or_ge k cs.length with h | h
      · exact h
      · rw [List.drop_eq_nil_of_le h] at e1
        cases e1
    obtain ⟨hc, hcb⟩ := h.c hk2
    have hd : cs.drop k = ((cs[k]?).getD 0) :: cs.drop (k + 1) := by
      rw [List.drop_eq_getElem_cons hk2]
      congr 1
      rw [List.getElem?_eq_getElem hk2]
      rfl
    have hrk : (rowsT cs ls)[k]? = some (rowT ls k ((cs[k]?).getD 0)) := by
      unfold rowsT
      rw [List.getElem?_map, List.getElem?_range hk2]
      rfl
    have ht : (rowsT cs ls).take (k + 1) = (rowsT cs ls).take k ++ [rowT ls k ((cs[k]?).getD 0)] := by
      rw [List.take_succ, hrk]
      rfl
    rw [hd, List.map_cons] at e1
    have e1 : x :: xs = .tup [.int k, .int ((cs[k]?).getD 0)] :: enumL ((k : Int) + 1) ((cs.drop (k + 1)).map D.int) := e1
    obtain ⟨rfl, rfl⟩ := List.cons.inj e1
    have lo := h.low hk2
    have hll := h.l hk2
    generalize (cs[k]?).getD 0 = c at *
    have l0 := log18 (i := (k : Int)) ⟨by omega, by omega⟩
    have l1 := log18 hcb
    have n1 := num2 (i := k) (by omega)
    have n2 := num20 hcb
    have hr := row_len h hk2 hcb
    have hrow : rjT 2 (numT k) ++ rjT 20 (numT c) ++ rjT 20 (lowT ls k) = rowT ls k c := rfl
    have a1 : t_law_aligned (.str (numT k)) (.int 2) = ret (.str (rjT 2 (numT k))) := aligned_eq (W := 2) (by omega) (by decide)
    have a2 : t_law_aligned (.str (numT c)) (.int 20) = ret (.str (rjT 20 (numT c))) := aligned_eq (W := 20) (by omega) (by decide)
    have a3 : t_law_aligned (.str (lowT ls k)) (.int 20) = ret (.str (rjT 20 (lowT ls k))) := aligned_eq (W := 20) (by omega) (by decide)
    have es : ∀ i : Int, Str.ofString (toString i) = numT i := fun _ => rfl
    have fin : ∃ k' : Nat, k' ≤ cs.length ∧ enumL ((k : Int) + 1) ((cs.drop (k + 1)).map D.int) = enumL k' ((cs.drop k').map D.int) ∧ ((rowsT cs ls).take k).map D.str ++ [D.str (rowT ls k c)] = ((rowsT cs ls).take k').map D.str := ⟨k + 1, hk2, by push_cast; rfl, by rw [ht, List.map_append]; rfl⟩
    have hlt : ((rowsT cs ls).take k).length ≤ 40 := by rw [List.length_take]; omega
    rw [← hrow] at fin hr
    rw [len_app, len_app] at hr
    by_cases h0 : k = 0
    · have e0 : lowT ls k = Str.ofString "-" := by unfold lowT; rw [if_pos h0]
      have hg : ¬ ((k : Int) > 0) := by omega
      simp! [hg, ↓w_strI, es, ↓a1, ↓a2, ↓wp_seq, ↓w_repr]
      refine ⟨l0, l1, by omega, ?_⟩
      rw [← e0, a3]
      simp! [↓wp_seq, ↓w_repr]
      exact ⟨by rw [len_app]; omega, by rw [List.length_map]; omega, fin⟩
    · have e0 : lowT ls k = numT ((ls[k - 1]?).getD 0) := by unfold lowT; rw [if_neg h0]
      obtain ⟨hl, hlb⟩ := hll (by omega)
      have e2 : ((k : Int) - 1) = ((k - 1 : Nat) : Int) := by omega
      have hg : (k : Int) > 0 := by omega
      have l2 := log18 hlb
      simp! [hg, ↓pol_1, e2, ↓il_at hl, ↓w_strI, es, ↓a1, ↓a2, ↓wp_seq, ↓w_repr]
      refine ⟨l2, l0, l1, by omega, ?_⟩
      rw [← e0, a3]
      simp! [↓wp_seq, ↓w_repr]
      exact ⟨by rw [len_app]; omega, by rw [List.length_map]; omega, fin⟩
  · rintro s m1 ⟨rfl, k, hk, e1, rfl⟩
    have hk2 : k = cs.length := by
      rcases Nat.lt_or_ge k cs.length with h | h
      · rw [List.drop_eq_getElem_cons h] at e1
        cases e1
      · omega
    rw [List.take_of_length_le (by omega)]
    simp! [↓wp_gd, ↓wp_seq, ↓w_repr]
    exact ⟨Nat.le_trans (rows_sum h) (by decide), q⟩
end
end G.K58
namespace G.K58
open PySem G
open _root_.TL
open L2 (rjT rj_len)
def chOk (s : Str) : Prop := ∀ c, c ∈ tl s → c < 1114112
theorem chOk.ok {s : Str} (h : chOk s) : PyData.strOk s = true := by
  unfold PyData.strOk
  rw [Array.all_eq_true']
  intro c hc
  have := h c (Array.mem_toList_iff.2 hc)
  exact decide_eq_true (by omega)
theorem chOk.app {s t : Str} (h : chOk s) (g : chOk t) : chOk (s ++ t) := fun c hc => by
  rw [tl_append] at hc
  rcases List.mem_append.1 hc with hc | hc
  · exact h c hc
  · exact g c hc
theorem ch_num {i : Int} (h : 0 ≤ i) : chOk (numT i) := fun c hc => by
  rw [tl_numT h] at hc
  have := numL_digits _ c hc
  omega
theorem ch_rj {W : Nat} {s : Str} (h : chOk s) : chOk (rjT W s) := by
  unfold rjT
  refine chOk.app (fun c hc => ?_) h
  have hc : c ∈ List.replicate (W - s.length) 32 := hc
  rw [(List.mem_replicate.1 hc).2]
  decide
theorem rt_len {s : Str} (h : chOk s) : (reprText s).length ≤ 10 * s.length + 2 := StrLaws.reprText_len s fun c hc => by
  have := h c hc
  exact Nat.lt_of_lt_of_le this (by decide)
section
variable {cs ls : List Int} {fx : Int}
theorem ch_rep (h : Rp cs ls) : chOk (repT cs ls) := fun c hc => by
  unfold repT at hc
  rcases mem_join hc with hc | ⟨p, hp, hc⟩
  · have e : tl (Str.ofString "\n") = [10] := by decide +kernel
    rw [e] at hc
    simp at hc
    omega
  · obtain ⟨i, hi, rfl⟩ := List.mem_map.1 hp
    have hi := List.mem_range.1 hi
    refine (((ch_rj (ch_num (by omega))).app (ch_rj (ch_num (h.c hi).2.1))).app (ch_rj ?_)) c hc
    unfold lowT
    split
    · intro c hc
      have e : tl (Str.ofString "-") = [45] := by decide +kernel
      rw [e] at hc
      simp at hc
      omega
    · exact ch_num (h.l hi (by omega)).2.1
theorem rep_len (h : Rp cs ls) : (repT cs ls).length ≤ 2000 := Nat.le_trans (join_len _ _) (rows_sum h)
theorem rep_pl (h : Rp cs ls) : Pl deepest 50000 (.fl [.str (repT cs ls), .str (repT cs ls)]) := by
  have h1 : Pl 49 20002 (.str (repT cs ls)) := Pl.str (ch_rep h).ok (Nat.le_trans (rt_len (ch_rep h)) (by have := rep_len h; omega))
  exact (Pl.fl (k := 49) (PlL.two h1 h1)).mono (by decide)
theorem rp_pol {wide : Int} (v : Vp cs ls) (hlen : cs.length ≤ 39) (hw : wide ≤ 10 ^ 16) (hb : ∀ (i : Nat) (a : Int), cs[i]? = some a → a ≤ wide * ((i : Int) + 1)) : Rp cs ls := by
  have hlv := v.len
  have hcb : ∀ c, c ∈ cs → 0 ≤ c ∧ c ≤ 10 ^ 18 := fun c hc => by
    obtain ⟨i, hi⟩ := List.getElem?_of_mem hc
    have h1 := v.pos _ _ hi
    have h2 := hb _ _ hi
    have h3 := get_lt hi
    have h4 : wide * ((i : Int) + 1) ≤ 10 ^ 16 * 40 := Int.mul_le_mul hw (by omega) (by omega) (by decide)
    omega
  refine ⟨v.len, by omega, hcb, fun c hc => ?_⟩
  obtain ⟨i, hi⟩ := List.getElem?_of_mem hc
  have h1 := v.lpos i c hi
  have h2 := get_lt hi
  obtain ⟨a, ha⟩ := get_ex (l := cs) (i := i) (by omega)
  have h3 := v.le i c a hi ha
  have h4 := hcb a (List.mem_of_getElem? ha)
  omega
def gC : List Int := (List.range 40).map fun i : Nat => 10 ^ 18 - 39 + (i : Int)
theorem rp_g : Rp gC gC.dropLast := ⟨by decide, by decide, by decide +kernel, by decide +kernel⟩
theorem rp_1 : Rp [1] [] := ⟨by decide, by decide, by decide, by decide⟩
end
theorem law_true (ns : List Int) (hl : ns.length ≤ 63) : ∃ m, t_law (.sc (ns.map .int)) [] = .ok (.bl true) m := by
  have key : wp (t_law (.sc (ns.map .int))) [] fun d _ => d = .bl true := by
    unfold t_law bd_law
    simp! [List.length_map]
    rw [wp_seq]
    simp! [List.length_map]
    generalize hcount : (if (if (ns.length : Int) < 3 then (ns.length : Int) else 3) > 1 then (if (ns.length : Int) < 3 then (ns.length : Int) else 3) else 1) = count
    have hc3 : 0 ≤ count ∧ count ≤ 3 := by
      rw [← hcount]
      split <;> split <;> omega
    refine ⟨⟨by omega, by omega⟩, ?_⟩
    refine rngI_wp (fun i j s m => ∃ k : Nat, i = k ∧ k + j ≤ 3) ?_ ?_ _ _ _ _ ⟨0, rfl, by omega⟩
    · rintro i j s m ⟨k, rfl, hkj⟩
      simp! [true_and]
      refine well_wp (by omega) fun o hd => ?_
      generalize m.length = w at hd
      generalize m ++ [o] = m0 at hd
      simp! [true_and]
      rw [wp_seq]
      simp! [true_and]
      refine ⟨⟨by decide, by decide⟩, ?_⟩
      refine rng_wp (fun j s m' => j ≤ 8 ∧ Dw m' w (1000 * (8 - j))) ?_ ?_ _ _ _ _ ⟨by decide, hd.mono (by decide)⟩
      · intro i2 j2 s2 m1 hI
        obtain ⟨hj, hd1⟩ := hI
        simp! [true_and]
        refine ⟨sz_le (by simp), ?_⟩
        refine pick_wp hd1 (by omega) (by simp) (by simp) fun x o1 hx hd2 => ?_
        obtain ⟨lv, rfl, hl1, hl2⟩ : ∃ lv : Nat, x = .int lv ∧ 1 ≤ lv ∧ lv ≤ 39 := by
          simp only [List.mem_cons, List.not_mem_nil, or_false] at hx
          rcases hx with rfl | rfl | rfl
          · exact ⟨1, rfl, by decide, by decide⟩
          · exact ⟨6, rfl, by decide, by decide⟩
          · exact ⟨39, rfl, by decide, by decide⟩
        generalize m1.set w o1 = m2 at *
        simp! [true_and]
        refine ⟨⟨by decide, by decide +kernel⟩, sz_le (by simp), ?_⟩
        refine pick_wp hd2 (by omega) (by simp) (by simp) fun x o2 hx hd3 => ?_
        obtain ⟨wd, rfl, hw1, hw2⟩ : ∃ wd : Int, x = .int wd ∧ 1 ≤ wd ∧ wd ≤ 10 ^ 16 := by
          simp only [List.mem_cons, List.not_mem_nil, or_false] at hx
          rcases hx with rfl | rfl | rfl
          · exact ⟨1, rfl, by decide, by decide⟩
          · exact ⟨9, rfl, by decide, by decide⟩
          · exact ⟨_, rfl, by decide +kernel, by decide +kernel⟩
        generalize m2.set w o2 = m3 at *
        simp! [true_and]
        refine plan_wp hd3 (by omega) hl1 (by omega) hw1 (by omega) fun cs ls fx m4 v hlen hb _ _ _ hd4 => ?_
        have h := rp_pol v (by omega) hw2 hb
        have er := repr_eq (rep_pl h) (by decide)
        simp! [↓report_eq h, ↓due_eq h, ↓er, ↓wp_seq]
        refine ⟨sz_le (by simp), sz_le (by simp), ?_⟩
        simp! [bne_self_eq_false, ↓wp_seq, ↓w_repr]
        exact ⟨by omega, hd4.mono (by omega)⟩
      · intro s3 m3 _
        simp! [↓wp_seq, ↓w_repr]
        exact ⟨k + 1, by omega, by omega⟩
    · rintro i s m _
      simp! [true_and]
      refine ⟨by decide, ?_⟩
      have er : rngL 0 (Int.toNat 40) = (List.range 40).map fun i : Nat => D.int i := rfl
      rw [er]
      refine lc_map_wp (fun x => match x with | .int i => .int (10 ^ 18 - 39 + i) | _ => .non) (fun x hx => ?_) (by decide) ?_
      · obtain ⟨i, hi, rfl⟩ := List.mem_map.1 hx
        refine ret_of fun m Q q => ?_
        unfold elM
        simp! [↓wp_seq, ↓w_repr]
        exact ⟨⟨by decide, by decide +kernel⟩, q⟩
      have eg : ((List.range 40).map fun i : Nat => D.int i).map (fun x => match x with | .int i => D.int (10 ^ 18 - 39 + i) | _ => .non) = gC.map D.int := rfl
      rw [eg, cut_init, ← List.map_dropLast]
      have ep : D.tup [.tup (gC.map D.int), .tup (gC.dropLast.map D.int), .int (10 ^ Int.toNat 12)] = pol gC gC.dropLast (10 ^ Int.toNat 12) := rfl
      have ep1 : D.tup [.tup [.int 1], .tup [], .int 0] = pol [1] [] 0 := rfl
      rw [ep, ep1]
      simp! [↓report_eq rp_g, ↓due_eq rp_g, ↓report_eq rp_1, ↓w_rptS, ↓wp_seq, ↓w_repr]
      refine ⟨⟨by decide, by decide +kernel⟩, sz_le (by simp), sz_le (by simp), sz_le (by simp), sz_le (by simp), ?_⟩
      have e1 : repT [1] [] = Str.ofString " 0" ++ Txt.mul (Str.ofString " ") 19 ++ Str.ofString "1" ++ Txt.mul (Str.ofString " ") 19 ++ Str.ofString "-" := by decide +kernel
      refine ⟨⟨by decide +kernel, by decide, by decide⟩, by decide +kernel, by decide +kernel, ⟨by decide +kernel, by decide, by decide⟩, by decide +kernel, by decide +kernel, ?_⟩
      rw [e1]
      simp
  obtain ⟨d, m, e, rfl⟩ := wp_iff_ok.1 key
  exact ⟨m, e⟩
end G.K58
namespace G.K58
open PySem L2 PySem.Spec PyProof.Rows G
theorem facts {w : World} {K : PySem.W.Frag} {h : Heap} {mg : Str → Option Value} {fa : Addr} (X : K.In h) (G0 : h.Ns mainGlobals mg) (hfa : mg "law" = some (.ref fa)) (c : SaysB tst K) :
    ∃ (fd : FuncData) (z : Ad), (clsA z).T = [] ∧ (∀ (s : Shared) (v : Value), BindsTo s fd ⟨[v], []⟩ [("_law_script", v)]) ∧ ∀ base : Heap, K.In base → base.Ns mainGlobals mg → FnG true PySem.Challenge.rw_growshrink_k58_reports.prog w K mg base (L2.CX PySem.Challenge.rw_growshrink_k58_reports.prog w) 4 fa fd ["_law_script"] (spM ⟨K, clsA z⟩ (fs1 t_law)) := by
  obtain ⟨_, _, _, l_report, c_report, k_report⟩ := fn_in (c.f 0 rfl rfl) (c.c 0 rfl)
  obtain ⟨_, _, _, l_law_well, c_law_well, k_law_well⟩ := fn_in (c.f 1 rfl rfl) (c.c 1 rfl)
  obtain ⟨_, _, _, l_law_draw, c_law_draw, k_law_draw⟩ := fn_in (c.f 2 rfl rfl) (c.c 2 rfl)
  obtain ⟨_, _, _, l_law_pick, c_law_pick, k_law_pick⟩ := fn_in (c.f 3 rfl rfl) (c.c 3 rfl)
  obtain ⟨_, _, _, l_law_plan, c_law_plan, k_law_plan⟩ := fn_in (c.f 4 rfl rfl) (c.c 4 rfl)
  obtain ⟨_, _, _, l_law_aligned, c_law_aligned, k_law_aligned⟩ := fn_in (c.f 5 rfl rfl) (c.c 5 rfl)
  obtain ⟨_, _, _, l_law_due, c_law_due, k_law_due⟩ := fn_in (c.f 6 rfl rfl) (c.c 6 rfl)
  obtain ⟨_, _, _, l_law, c_law, k_law⟩ := fn_in (c.f 7 rfl rfl) (c.c 7 rfl)
  have a_report := He.eqO_ok (c.c 8 rfl)
  have a_law_well := He.eqO_ok (c.c 9 rfl)
  have a_law_draw := He.eqO_ok (c.c 10 rfl)
  have a_law_pick := He.eqO_ok (c.c 11 rfl)
  have a_law_plan := He.eqO_ok (c.c 12 rfl)
  have a_law_aligned := He.eqO_ok (c.c 13 rfl)
  have a_law_due := He.eqO_ok (c.c 14 rfl)
  have a_law := He.eqO_ok (c.c 15 rfl)
  have z_abs := He.eqO_ok (c.c 16 rfl)
  have z_enumerate := He.eqO_ok (c.c 17 rfl)
  have z_int := He.eqO_ok (c.c 18 rfl)
  have z_len := He.eqO_ok (c.c 19 rfl)
  have z_list := He.eqO_ok (c.c 20 rfl)
  have z_max := He.eqO_ok (c.c 21 rfl)
  have z_min := He.eqO_ok (c.c 22 rfl)
  have z_range := He.eqO_ok (c.c 23 rfl)
  have z_repr := He.eqO_ok (c.c 24 rfl)
  have z_str := He.eqO_ok (c.c 25 rfl)
  have z_tuple := He.eqO_ok (c.c 26 rfl)
  have z_zip := He.eqO_ok (c.c 27 rfl)
  obtain ⟨_, q_NOTHING⟩ := str_in (c.c 28 rfl)
  exact all_mk (l := PySem.Challenge.rw_growshrink_k58_reports) X G0 hfa a_report l_report c_report k_report a_law_well l_law_well c_law_well k_law_well a_law_draw l_law_draw c_law_draw k_law_draw a_law_pick l_law_pick c_law_pick k_law_pick a_law_plan l_law_plan c_law_plan k_law_plan a_law_aligned l_law_aligned c_law_aligned k_law_aligned a_law_due l_law_due c_law_due k_law_due a_law l_law c_law k_law z_abs z_enumerate z_int z_len z_list z_max z_min z_range z_repr z_str z_tuple z_zip q_NOTHING
end G.K58
open PySem PySem.W PySem.Calls PyProof.Rows in
set_option maxRecDepth 100000 in
set_option maxHeartbeats 0 in
theorem PySem.Challenge.cw_growshrink_k58_reports_holds : PySem.Challenge.rw_growshrink_k58_reports.Holds := by
  w_on; o_law
  refine HandSHeadRun.head_any (r := G.K58.RR) (q := view G.K58.RR.prog [10]) (H := G.hookB G.K58.tst) (ob := fun s => G.obsB G.K58.tst (HandSHeadRun.getT s) s.n) (M := 40000) (loose := G.K58.names) (d := HandSHeadRun.topDef G.K58.RR.prog 10) (kwd := []) (G.obB_eq G.K58.tst) (by kernel_rfl) (fun s => by kernel_rfl) G.K58.top_run (by kernel_rfl) (by kernel_rfl) (by kernel_rfl) (by rfl) (by first | assumption | decide +kernel) (by decide +kernel) ⟨rfl, rfl, rfl, rfl, rfl, by decide +kernel⟩ ?hw ?hc
  case hw => w_witness2
  case hc =>
    refine G.walkGE (l := PySem.Challenge.rw_growshrink_k58_reports) (n := 63) (k := 4) (x := "_law_script") (CX := fun w => L2.CX PySem.Challenge.rw_growshrink_k58_reports.prog w) rfl (by decide) (by kernel_rfl) ⟨rfl, by decide, by decide⟩ ?F (fun w H s e s' h => by obtain ⟨_, _, _, _, _, _, _, _, _, _, _, _, q⟩ := h; exact q)
    intro w mg fa h Y G0 hmg0
    obtain ⟨K, KX, c⟩ := Y
    have hmg : mg ("law" : PySem.Str) = some (.ref fa) := by rw [← hmg0]; congr 1
    obtain ⟨fd, z, hz, hb, hF⟩ := G.K58.facts (w := w) KX G0 hmg c
    exact ⟨K, fd, _, KX, hb, fun J a zs hl hO hS => G.law_sp (G.only3 hO) (fun t ht => by rw [hz] at ht; cases ht) hS (G.K58.law_true zs hl), hF⟩
