import PyProof.Rows.All
import Wide.All
import OpenK.AllK
import HandS.Base
import HandS.Call
import HandS.Exc
import HandS.Words
import HandS.Head0
import HandS.Head1
import HandS.Head2
import HandS.HeadHook1
import HandS.HeadHook4
import Open.Row
import Wide.FinOn
import HandS.ForMost
import HandS.ForExc
import HandS.Wide
import HandS.IsInst
import HandS.Flow
import HandS.Zip
import HandS.TupAny
import HandS.Conv
import HandS.CallSlots
import HandS.Style
import KE.GoesEnum
import HandS.Lambda
import HandS.SetFor
import HandS.Strs
import HandS.GenList
import HandS.Iter
import HandS.SortInts
import HandS.Star
import HandS.TupMul
import HandS.GenYield
import KE.KDictZip
import HandS.Deep
import HandS.TupLe
import HandS.Defaults
import KE.SortData
import HandS.Dict
import HandS.ExcField
import HandS.ExcIs
import HandS.ExcInit
import KE.KExcIs
import KE.RegKTryMore
import KE.RegKIsAll
import HandS.ExcValue
import HandS.EndTab
import PyProof.Rows.IntBool
import HandS.Small
import HandS.Property
import KE.KUnpackStar
import OpenK.KWalk
import PyProof.InstEq
import OpenK.KMeth
import HandS.ListItems
import PyProof.NeKinds
import KE.KSuper
import HandS.Nested
import HandS.Text
import KE.KxIndex
import HandS.TryOnly
import KE.GoesComp
import HandS.DictTup
import HandS.TupLen
import PyProof.Rows.TupDisplay
import KE.DatumOrd
import KE.KDictCopyH
import KE.KDictPairs
import HandS.DictEq
import KE.KRevSl
import HandS.SlotsOwn
import PyProof.FactsAll.tuple_1
import PyProof.FactsAll.str_1
import PyProof.FactsAll.int_1
import PyProof.FactsAll.NoneType_1
import HandS.FStr
import PyProof.RulesMatch
import KE.KNest
import KE.KWithOwn
import KE.GoesZip
import KE.GoesMore
import KE.KxField
import PyProof.Rows.StrIntSpec
import HandS.FStrTup
import PyProof.ReprLen
import PyProof.ReprText
import KE.IntTextLaws
import PySem.Challenge.RW_growshrink_k08_moves_one_by_one
set_option Elab.async false
set_option linter.all false
set_option maxRecDepth 100000
set_option maxHeartbeats 2000000
namespace G
open PySem L2 PySem.Spec PyProof.Rows
def asB (B n : Nat) : List Addr := mainGlobals :: cStatics :: (List.range (n - B)).map (· + B)
abbrev FnT : Type := Option (Str × Str × Arguments × FuncBody × Scope)
def fnT (K : PySem.W.Frag) (a : Addr) : FnT := match K.lookup a with
  | some ⟨_, _, .func fd, _⟩ => some (fd.name, fd.qualname, fd.params, fd.body, fd.scope)
  | _ => none
abbrev fvT (x q : Str) (st : Stmt) : FnT := some (x, q, defArgs st, .stmts (defBody st), defScope st)
structure Tst where
  B : Nat
  chk : List (PySem.W.Frag → Bool)
  ats : List (PySem.W.Frag → Addr)
  vals : List FnT
def allB (D : Tst) (K : PySem.W.Frag) : Bool × List FnT := (D.chk.all fun c => c K, D.ats.map fun a => fnT K (a K))
def tabX (o : Obj) : Bool := match o.cls, o.data with
  | .none, .fields _ => true
  | _, _ => false
def frU (g : Addr → Option Obj) (as : List Addr) : PySem.W.Frag := (He.frT g as).filter fun q => !tabX q.2
theorem frU_in {as : List Addr} {h : Heap} : (frU h.get? as).In h := fun a o e => by
  have h1 := PySem.W.mem_of_lookupK e
  have h2 := (List.mem_filter.1 h1).1
  unfold He.frT at h2
  exact He.frG_mem (List.mem_filter.1 h2).1
def obsB (D : Tst) (g : Addr → Option Obj) (n : Nat) : Bool × List FnT := allB D (frU g (asB D.B n))
def SaysB (D : Tst) (K : PySem.W.Frag) : Prop := allB D K = (true, D.vals)
def hookB (D : Tst) : PySem.W.Hook :=
  ⟨Bool × List FnT, fun s => obsB D s.heap.get? s.heap.objs.size, fun _ => (true, D.vals), fun _ h => ∃ K : PySem.W.Frag, K.In h ∧ SaysB D K, fun _ _ e => ⟨_, frU_in, e⟩, fun _ _ _ ⟨K, i, c⟩ k => ⟨K, fun a o e => k a o (i a o e), c⟩⟩
theorem obB_eq (D : Tst) (s : PySem.W.SharedT) : obsB D (HandSHeadRun.getT s) s.n = (hookB D).obs s.abs := by
  show _ = obsB D s.abs.heap.get? s.abs.heap.objs.size
  rw [show HandSHeadRun.getT s = s.abs.heap.get? from funext (HandSHeadRun.getT_eq s), show s.abs.heap.objs.size = s.n from PySem.W.absHeap_size _ _ _]
section
variable {D : Tst} {K : PySem.W.Frag}
theorem SaysB.c (h : SaysB D K) (i : Nat) {c : PySem.W.Frag → Bool} (e : D.chk[i]? = some c) : c K = true :=
  List.all_eq_true.1 (congrArg Prod.fst h : (D.chk.all fun c => c K) = true) c (List.mem_of_getElem? e)
theorem SaysB.f (h : SaysB D K) (i : Nat) {a : PySem.W.Frag → Addr} {v : FnT} (e1 : D.ats[i]? = some a) (e2 : D.vals[i]? = some v) : fnT K (a K) = v := by
  have e : (D.ats.map fun a => fnT K (a K)) = D.vals := congrArg Prod.snd h
  rw [← e, List.getElem?_map, e1] at e2
  exact Option.some.inj e2
def fdA (K : PySem.W.Frag) (a : Addr) : FuncData := match K.lookup a with
  | some ⟨_, _, .func fd, _⟩ => fd
  | _ => default
def fokB (K : PySem.W.Frag) (a : Addr) (q : Str) : Bool := match K.lookup a with
  | some ⟨_, _, .func fd, _⟩ => decide (fd.globals = mainGlobals) && (fd.closure.isEmpty && (decide (fd.builtins = builtinsNs) && (decide (fd.defaults = .none) && (PySem.W.codeIn K fd.code q && PySem.W.keepIn K (.ref a)))))
  | _ => false
theorem fn_in {a : Addr} {x q : Str} {ps : Arguments} {b : List Stmt} {sc : Scope} (e : fnT K a = some (x, q, ps, .stmts b, sc)) (c : fokB K a q = true) :
    ∃ (oc : Value) (od : Option Addr) (sl : Array (Option Value)), K.lookup a = some ⟨oc, od, .func (PySem.W.fnOf x q ps b sc .none (fdA K a).kwdefaults (fdA K a).doc (fdA K a).pyModule (fdA K a).annotations (fdA K a).code (fdA K a).closureTuple), sl⟩ ∧ PySem.W.codeIn K (fdA K a).code q = true ∧ PySem.W.keepIn K (.ref a) = true := by
  unfold fnT at e
  unfold fokB at c
  unfold fdA
  split at e
  · rename_i oc od fd sl hl
    rw [hl] at c ⊢
    obtain ⟨n1, n2, n3, n4, n5, n6, n7, n8, n9, n10, n11, n12, n13, n14, n15⟩ := fd
    simp only [Option.some.injEq, Prod.mk.injEq] at e
    obtain ⟨rfl, rfl, rfl, rfl, rfl⟩ := e
    simp only [Bool.and_eq_true, decide_eq_true_eq, List.isEmpty_iff] at c
    obtain ⟨rfl, rfl, rfl, rfl, c1, c2⟩ := c
    exact ⟨oc, od, sl, rfl, c1, c2⟩
  · cases e
def intB (v : Option (Option Value)) (i : Int) : Bool := match v with
  | some (some (.int j _)) => decide (j = i)
  | _ => false
theorem int_in {v : Option (Option Value)} {i : Int} (h : intB v i = true) : ∃ t, v = some (some (.int i t)) := by
  unfold intB at h
  split at h
  · exact ⟨_, by rw [of_decide_eq_true h]⟩
  · cases h
def strB (v : Option (Option Value)) (x : Str) : Bool := match v with
  | some (some (.str y _)) => decide (y = x)
  | _ => false
theorem str_in {v : Option (Option Value)} {x : Str} (h : strB v x = true) : ∃ t, v = some (some (.str x t)) := by
  unfold strB at h
  split at h
  · exact ⟨_, by rw [of_decide_eq_true h]⟩
  · cases h
end
end G
set_option maxHeartbeats 4000000
namespace G.K08
open PySem L2 PySem.Spec PyProof.Rows G
def top (i : Nat) : Stmt := PySem.Challenge.pw_growshrink_k08_moves_one_by_one.main.body.getD i (.Pass ⟨0, 0, 0, 0⟩)
abbrev st_is_integer : Stmt := top 6
abbrev st_top_level : Stmt := top 7
abbrev st_capacity_of : Stmt := top 8
abbrev st_boundaries : Stmt := top 9
abbrev st_is_run : Stmt := top 17
abbrev st_are_operations : Stmt := top 18
abbrev st_check_operations : Stmt := top 19
abbrev st_Track___init__ : Stmt := inClass (top 20) 0
abbrev st_Track_move : Stmt := inClass (top 20) 1
abbrev st_Track_rest : Stmt := inClass (top 20) 2
abbrev st_Track_push : Stmt := inClass (top 20) 3
abbrev st_Track_pop : Stmt := inClass (top 20) 4
abbrev st_Track_run : Stmt := inClass (top 20) 5
abbrev st_tracked : Stmt := top 21
abbrev st_moves : Stmt := top 22
abbrev st_law_draws : Stmt := top 24
abbrev st_law_below : Stmt := top 25
abbrev st_law_pick : Stmt := top 26
abbrev st_law_policy : Stmt := top 27
abbrev st_law_pushed : Stmt := top 28
abbrev st_law_popped : Stmt := top 29
abbrev st_law_states : Stmt := top 30
abbrev st_law_pairs : Stmt := top 31
abbrev st_law_fitting : Stmt := top 32
abbrev st_law_moves : Stmt := top 33
abbrev st_law : Stmt := top 34
def chks : List (PySem.W.Frag → Bool) :=
  (fun K => fokB K (He.ga K "is_integer") "is_integer") ::
  (fun K => fokB K (He.ga K "top_level") "top_level") ::
  (fun K => fokB K (He.ga K "capacity_of") "capacity_of") ::
  (fun K => fokB K (He.ga K "boundaries") "boundaries") ::
  (fun K => fokB K (He.ga K "is_run") "is_run") ::
  (fun K => fokB K (He.ga K "are_operations") "are_operations") ::
  (fun K => fokB K (He.ga K "check_operations") "check_operations") ::
  (fun K => fokB K (He.ma K (He.ga K "Track") "__init__") "Track.__init__") ::
  (fun K => fokB K (He.ma K (He.ga K "Track") "move") "Track.move") ::
  (fun K => fokB K (He.ma K (He.ga K "Track") "rest") "Track.rest") ::
  (fun K => fokB K (He.ma K (He.ga K "Track") "push") "Track.push") ::
  (fun K => fokB K (He.ma K (He.ga K "Track") "pop") "Track.pop") ::
  (fun K => fokB K (He.ma K (He.ga K "Track") "run") "Track.run") ::
  (fun K => fokB K (He.ga K "tracked") "tracked") ::
  (fun K => fokB K (He.ga K "moves") "moves") ::
  (fun K => fokB K (He.ga K "_law_draws") "_law_draws") ::
  (fun K => fokB K (He.ga K "_law_below") "_law_below") ::
  (fun K => fokB K (He.ga K "_law_pick") "_law_pick") ::
  (fun K => fokB K (He.ga K "_law_policy") "_law_policy") ::
  (fun K => fokB K (He.ga K "_law_pushed") "_law_pushed") ::
  (fun K => fokB K (He.ga K "_law_popped") "_law_popped") ::
  (fun K => fokB K (He.ga K "_law_states") "_law_states") ::
  (fun K => fokB K (He.ga K "_law_pairs") "_law_pairs") ::
  (fun K => fokB K (He.ga K "_law_fitting") "_law_fitting") ::
  (fun K => fokB K (He.ga K "_law_moves") "_law_moves") ::
  (fun K => fokB K (He.ga K "law") "law") ::
  (fun K => He.eqO (PySem.W.nsIn K mainGlobals "Track") (some (some (.ref (He.ga K "Track"))))) ::
  (fun K => He.eqO (PySem.W.nsIn K mainGlobals "is_integer") (some (some (.ref (He.ga K "is_integer"))))) ::
  (fun K => He.eqO (PySem.W.nsIn K mainGlobals "top_level") (some (some (.ref (He.ga K "top_level"))))) ::
  (fun K => He.eqO (PySem.W.nsIn K mainGlobals "capacity_of") (some (some (.ref (He.ga K "capacity_of"))))) ::
  (fun K => He.eqO (PySem.W.nsIn K mainGlobals "boundaries") (some (some (.ref (He.ga K "boundaries"))))) ::
  (fun K => He.eqO (PySem.W.nsIn K mainGlobals "is_run") (some (some (.ref (He.ga K "is_run"))))) ::
  (fun K => He.eqO (PySem.W.nsIn K mainGlobals "are_operations") (some (some (.ref (He.ga K "are_operations"))))) ::
  (fun K => He.eqO (PySem.W.nsIn K mainGlobals "check_operations") (some (some (.ref (He.ga K "check_operations"))))) ::
  (fun K => He.eqO (PySem.W.findIn K (.ref (He.ga K "Track")) "__init__") (some (some (.ref (He.ma K (He.ga K "Track") "__init__"))))) ::
  (fun K => PySem.W.isFn K (.ref (He.ma K (He.ga K "Track") "__init__"))) ::
  (fun K => He.eqO (PySem.W.findIn K (.ref (He.ga K "Track")) "move") (some (some (.ref (He.ma K (He.ga K "Track") "move"))))) ::
  (fun K => PySem.W.isFn K (.ref (He.ma K (He.ga K "Track") "move"))) ::
  (fun K => He.eqO (PySem.W.findIn K (.ref (He.ga K "Track")) "rest") (some (some (.ref (He.ma K (He.ga K "Track") "rest"))))) ::
  (fun K => PySem.W.isFn K (.ref (He.ma K (He.ga K "Track") "rest"))) ::
  (fun K => He.eqO (PySem.W.findIn K (.ref (He.ga K "Track")) "push") (some (some (.ref (He.ma K (He.ga K "Track") "push"))))) ::
  (fun K => PySem.W.isFn K (.ref (He.ma K (He.ga K "Track") "push"))) ::
  (fun K => He.eqO (PySem.W.findIn K (.ref (He.ga K "Track")) "pop") (some (some (.ref (He.ma K (He.ga K "Track") "pop"))))) ::
  (fun K => PySem.W.isFn K (.ref (He.ma K (He.ga K "Track") "pop"))) ::
  (fun K => He.eqO (PySem.W.findIn K (.ref (He.ga K "Track")) "run") (some (some (.ref (He.ma K (He.ga K "Track") "run"))))) ::
  (fun K => PySem.W.isFn K (.ref (He.ma K (He.ga K "Track") "run"))) ::
  (fun K => He.eqO (PySem.W.nsIn K mainGlobals "tracked") (some (some (.ref (He.ga K "tracked"))))) ::
  (fun K => He.eqO (PySem.W.nsIn K mainGlobals "moves") (some (some (.ref (He.ga K "moves"))))) ::
  (fun K => He.eqO (PySem.W.nsIn K mainGlobals "_law_draws") (some (some (.ref (He.ga K "_law_draws"))))) ::
  (fun K => He.eqO (PySem.W.nsIn K mainGlobals "_law_below") (some (some (.ref (He.ga K "_law_below"))))) ::
  (fun K => He.eqO (PySem.W.nsIn K mainGlobals "_law_pick") (some (some (.ref (He.ga K "_law_pick"))))) ::
  (fun K => He.eqO (PySem.W.nsIn K mainGlobals "_law_policy") (some (some (.ref (He.ga K "_law_policy"))))) ::
  (fun K => He.eqO (PySem.W.nsIn K mainGlobals "_law_pushed") (some (some (.ref (He.ga K "_law_pushed"))))) ::
  (fun K => He.eqO (PySem.W.nsIn K mainGlobals "_law_popped") (some (some (.ref (He.ga K "_law_popped"))))) ::
  (fun K => He.eqO (PySem.W.nsIn K mainGlobals "_law_states") (some (some (.ref (He.ga K "_law_states"))))) ::
  (fun K => He.eqO (PySem.W.nsIn K mainGlobals "_law_pairs") (some (some (.ref (He.ga K "_law_pairs"))))) ::
  (fun K => He.eqO (PySem.W.nsIn K mainGlobals "_law_fitting") (some (some (.ref (He.ga K "_law_fitting"))))) ::
  (fun K => He.eqO (PySem.W.nsIn K mainGlobals "_law_moves") (some (some (.ref (He.ga K "_law_moves"))))) ::
  (fun K => He.eqO (PySem.W.nsIn K mainGlobals "law") (some (some (.ref (He.ga K "law"))))) ::
  (fun K => PySem.W.plainGet K (He.ga K "Track") Str.empty) ::
  (fun K => PySem.W.hasDictIn K (He.ga K "Track")) ::
  (fun K => PySem.W.plainOver K (He.ga K "Track")) ::
  (fun K => He.eqO (PySem.W.findIn K (.ref (He.ga K "Track")) "__setattr__") (some (some (.builtin "object.__setattr__")))) ::
  (fun K => PySem.W.makesIn K (He.ga K "Track")) ::
  (fun K => PySem.W.keepIn K (.ref (He.ga K "Track"))) ::
  (fun K => He.eqO (PySem.W.findIn K (.ref (He.ga K "Track")) "at_level") (some none)) ::
  (fun K => He.eqO (PySem.W.findIn K (.ref (He.ga K "Track")) "at_size") (some none)) ::
  (fun K => He.eqO (PySem.W.findIn K (.ref (He.ga K "Track")) "done") (some none)) ::
  (fun K => He.eqO (PySem.W.findIn K (.ref (He.ga K "Track")) "fixed") (some none)) ::
  (fun K => He.eqO (PySem.W.findIn K (.ref (He.ga K "Track")) "most") (some none)) ::
  (fun K => He.eqO (PySem.W.findIn K (.ref (He.ga K "Track")) "paid") (some none)) ::
  (fun K => He.eqO (PySem.W.findIn K (.ref (He.ga K "Track")) "places") (some none)) ::
  (fun K => He.eqO (PySem.W.nsIn K mainGlobals "abs") (some none)) ::
  (fun K => He.eqO (PySem.W.nsIn K mainGlobals "all") (some none)) ::
  (fun K => He.eqO (PySem.W.nsIn K mainGlobals "bool") (some none)) ::
  (fun K => He.eqO (PySem.W.nsIn K mainGlobals "enumerate") (some none)) ::
  (fun K => He.eqO (PySem.W.nsIn K mainGlobals "int") (some none)) ::
  (fun K => He.eqO (PySem.W.nsIn K mainGlobals "isinstance") (some none)) ::
  (fun K => He.eqO (PySem.W.nsIn K mainGlobals "len") (some none)) ::
  (fun K => He.eqO (PySem.W.nsIn K mainGlobals "list") (some none)) ::
  (fun K => He.eqO (PySem.W.nsIn K mainGlobals "max") (some none)) ::
  (fun K => He.eqO (PySem.W.nsIn K mainGlobals "min") (some none)) ::
  (fun K => He.eqO (PySem.W.nsIn K mainGlobals "range") (some none)) ::
  (fun K => He.eqO (PySem.W.nsIn K mainGlobals "repr") (some none)) ::
  (fun K => He.eqO (PySem.W.nsIn K mainGlobals "str") (some none)) ::
  (fun K => He.eqO (PySem.W.nsIn K mainGlobals "tuple") (some none)) ::
  (fun K => He.eqO (PySem.W.nsIn K mainGlobals "zip") (some none)) ::
  (fun K => strB (PySem.W.nsIn K mainGlobals "GROW") "grow") ::
  (fun K => intB (PySem.W.nsIn K mainGlobals "MOST_COUNT") 1000000000000000000) ::
  (fun K => intB (PySem.W.nsIn K mainGlobals "MOST_PAIRS") 200) ::
  (fun K => intB (PySem.W.nsIn K mainGlobals "PAIR") 2) ::
  (fun K => strB (PySem.W.nsIn K mainGlobals "POP") "pop") ::
  (fun K => strB (PySem.W.nsIn K mainGlobals "PUSH") "push") ::
  (fun K => strB (PySem.W.nsIn K mainGlobals "SHRINK") "shrink") :: []
def ats : List (PySem.W.Frag → Addr) :=
  (fun K => (He.ga K "is_integer")) ::
  (fun K => (He.ga K "top_level")) ::
  (fun K => (He.ga K "capacity_of")) ::
  (fun K => (He.ga K "boundaries")) ::
  (fun K => (He.ga K "is_run")) ::
  (fun K => (He.ga K "are_operations")) ::
  (fun K => (He.ga K "check_operations")) ::
  (fun K => (He.ma K (He.ga K "Track") "__init__")) ::
  (fun K => (He.ma K (He.ga K "Track") "move")) ::
  (fun K => (He.ma K (He.ga K "Track") "rest")) ::
  (fun K => (He.ma K (He.ga K "Track") "push")) ::
  (fun K => (He.ma K (He.ga K "Track") "pop")) ::
  (fun K => (He.ma K (He.ga K "Track") "run")) ::
  (fun K => (He.ga K "tracked")) ::
  (fun K => (He.ga K "moves")) ::
  (fun K => (He.ga K "_law_draws")) ::
  (fun K => (He.ga K "_law_below")) ::
  (fun K => (He.ga K "_law_pick")) ::
  (fun K => (He.ga K "_law_policy")) ::
  (fun K => (He.ga K "_law_pushed")) ::
  (fun K => (He.ga K "_law_popped")) ::
  (fun K => (He.ga K "_law_states")) ::
  (fun K => (He.ga K "_law_pairs")) ::
  (fun K => (He.ga K "_law_fitting")) ::
  (fun K => (He.ga K "_law_moves")) ::
  (fun K => (He.ga K "law")) :: []
def vls : List (FnT) :=
  (fvT "is_integer" "is_integer" st_is_integer) ::
  (fvT "top_level" "top_level" st_top_level) ::
  (fvT "capacity_of" "capacity_of" st_capacity_of) ::
  (fvT "boundaries" "boundaries" st_boundaries) ::
  (fvT "is_run" "is_run" st_is_run) ::
  (fvT "are_operations" "are_operations" st_are_operations) ::
  (fvT "check_operations" "check_operations" st_check_operations) ::
  (fvT "__init__" "Track.__init__" st_Track___init__) ::
  (fvT "move" "Track.move" st_Track_move) ::
  (fvT "rest" "Track.rest" st_Track_rest) ::
  (fvT "push" "Track.push" st_Track_push) ::
  (fvT "pop" "Track.pop" st_Track_pop) ::
  (fvT "run" "Track.run" st_Track_run) ::
  (fvT "tracked" "tracked" st_tracked) ::
  (fvT "moves" "moves" st_moves) ::
  (fvT "_law_draws" "_law_draws" st_law_draws) ::
  (fvT "_law_below" "_law_below" st_law_below) ::
  (fvT "_law_pick" "_law_pick" st_law_pick) ::
  (fvT "_law_policy" "_law_policy" st_law_policy) ::
  (fvT "_law_pushed" "_law_pushed" st_law_pushed) ::
  (fvT "_law_popped" "_law_popped" st_law_popped) ::
  (fvT "_law_states" "_law_states" st_law_states) ::
  (fvT "_law_pairs" "_law_pairs" st_law_pairs) ::
  (fvT "_law_fitting" "_law_fitting" st_law_fitting) ::
  (fvT "_law_moves" "_law_moves" st_law_moves) ::
  (fvT "law" "law" st_law) :: []
def tst : Tst := ⟨0, chks, ats, vls⟩
def names0 : List PySem.Str := [("__name__" : PySem.Str), ("GrowError" : PySem.Str), ("BadOperations" : PySem.Str), ("NotPossible" : PySem.Str), ("PAIR" : PySem.Str), ("is_integer" : PySem.Str), ("top_level" : PySem.Str), ("capacity_of" : PySem.Str), ("boundaries" : PySem.Str), ("PUSH" : PySem.Str), ("POP" : PySem.Str), ("GROW" : PySem.Str), ("SHRINK" : PySem.Str), ("MOST_PAIRS" : PySem.Str), ("MOST_COUNT" : PySem.Str), ("is_run" : PySem.Str), ("are_operations" : PySem.Str), ("check_operations" : PySem.Str), ("Track" : PySem.Str), ("tracked" : PySem.Str), ("moves" : PySem.Str), ("_law_draws" : PySem.Str), ("_law_below" : PySem.Str), ("_law_pick" : PySem.Str), ("_law_policy" : PySem.Str), ("_law_pushed" : PySem.Str), ("_law_popped" : PySem.Str), ("_law_states" : PySem.Str), ("_law_pairs" : PySem.Str), ("_law_fitting" : PySem.Str), ("_law_moves" : PySem.Str)]
def names : List PySem.Str := names0
abbrev RR : PySem.W.OpenRow := PySem.W.OpenLaw.row PySem.Challenge.rw_growshrink_k08_moves_one_by_one
theorem top_run (w : World) : HandSHeadRun.RunEq RR (PySem.W.view RR.prog [34]) (hookB tst) (fun s => obsB tst (HandSHeadRun.getT s) s.n) 40000 names w := by
  intro os
  kernel_rfl
end G.K08
namespace G
open PySem
inductive D where
  | non | bl (b : Bool) | int (i : Int) | str (s : Str) | tup (xs : List D) | fl (xs : List D) | sc (xs : List D) | fd (ks vs : List D) | ref (n : Nat)
inductive O where
  | lst (xs : List D) | ins (c : Nat) (fs : List (Str × D)) | exc (c : Nat) (fs : List (Str × D)) | dct (ks vs : List D) | sd (ks vs : List D) | zd (ks vs : List D)
abbrev Hs := List O
inductive Rs (α : Type) where
  | ok (a : α) (m : Hs) | ex (c : Nat) (fs : List (Str × D)) (m : Hs) | bad
def Rs.bind {α β : Type} (r : Rs α) (f : α → Hs → Rs β) : Rs β := match r with
  | .ok a m => f a m
  | .ex c fs m => .ex c fs m
  | .bad => .bad
theorem bind_ok {α β : Type} {a : α} {m : Hs} {f : α → Hs → Rs β} : (Rs.ok a m).bind f = f a m := rfl
mutual
def beqD : D → D → Bool
  | .non, .non => true
  | .bl a, .bl b => a == b
  | .int a, .int b => a == b
  | .str a, .str b => decide (a = b)
  | .tup a, .tup b => beqL a b
  | .fl a, .fl b => beqL a b
  | .sc a, .sc b => beqL a b
  | .fd a c, .fd b d => beqL a b && beqL c d
  | .ref a, .ref b => a == b
  | _, _ => false
def beqL : List D → List D → Bool
  | [], [] => true
  | a :: as, b :: bs => beqD a b && beqL as bs
  | _, _ => false
end
mutual
theorem beqD_eq : ∀ (a b : D), beqD a b = true → a = b
  | .non, b, h => by cases b <;> simp_all [beqD]
  | .bl _, b, h => by cases b <;> simp_all [beqD]
  | .int _, b, h => by cases b <;> simp_all [beqD]
  | .str _, b, h => by cases b <;> simp_all [beqD]
  | .tup x, b, h => by
    cases b <;> simp only [beqD, Bool.false_eq_true] at h
    rw [beqL_eq x _ h]
  | .fl x, b, h => by
    cases b <;> simp only [beqD, Bool.false_eq_true] at h
    rw [beqL_eq x _ h]
  | .sc x, b, h => by
    cases b <;> simp only [beqD, Bool.false_eq_true] at h
    rw [beqL_eq x _ h]
  | .fd x y, b, h => by
    cases b <;> simp only [beqD, Bool.false_eq_true, Bool.and_eq_true] at h
    rw [beqL_eq x _ h.1, beqL_eq y _ h.2]
  | .ref _, b, h => by cases b <;> simp_all [beqD]
theorem beqL_eq : ∀ (a b : List D), beqL a b = true → a = b
  | [], b, h => by cases b <;> simp_all [beqL]
  | x :: xs, b, h => by
    cases b with
    | nil => simp [beqL] at h
    | cons y ys =>
      simp only [beqL, Bool.and_eq_true] at h
      rw [beqD_eq x y h.1, beqL_eq xs ys h.2]
end
mutual
theorem beqD_rfl : ∀ a : D, beqD a a = true
  | .non => by simp [beqD]
  | .bl _ => by simp [beqD]
  | .int _ => by simp [beqD]
  | .str _ => by simp [beqD]
  | .tup x => by simp only [beqD]; exact beqL_rfl x
  | .fl x => by simp only [beqD]; exact beqL_rfl x
  | .sc x => by simp only [beqD]; exact beqL_rfl x
  | .fd x y => by simp only [beqD, Bool.and_eq_true]; exact ⟨beqL_rfl x, beqL_rfl y⟩
  | .ref _ => by simp [beqD]
theorem beqL_rfl : ∀ a : List D, beqL a a = true
  | [] => by simp [beqL]
  | x :: xs => by simp only [beqL, Bool.and_eq_true]; exact ⟨beqD_rfl x, beqL_rfl xs⟩
end
mutual
def below (n : Nat) : D → Bool
  | .ref k => decide (k < n)
  | .tup xs => belowL n xs
  | .fl xs => belowL n xs
  | .sc xs => belowL n xs
  | .fd ks vs => belowL n ks && belowL n vs
  | _ => true
def belowL (n : Nat) : List D → Bool
  | [] => true
  | x :: xs => below n x && belowL n xs
end
def belowF (n : Nat) (fs : List (Str × D)) : Bool := fs.all fun p => below n p.2
def beqF : List (Str × D) → List (Str × D) → Bool
  | [], [] => true
  | a :: as, b :: bs => decide (a.1 = b.1) && beqD a.2 b.2 && beqF as bs
  | _, _ => false
theorem beqF_eq : ∀ (a b : List (Str × D)), beqF a b = true → a = b
  | [], b, h => by cases b <;> simp_all [beqF]
  | x :: xs, b, h => by
    cases b with
    | nil => simp [beqF] at h
    | cons y ys =>
      simp only [beqF, Bool.and_eq_true, decide_eq_true_eq] at h
      obtain ⟨⟨h1, h2⟩, h3⟩ := h
      obtain ⟨x1, x2⟩ := x
      obtain ⟨y1, y2⟩ := y
      have e1 : x1 = y1 := h1
      have e2 : x2 = y2 := beqD_eq _ _ h2
      rw [e1, e2, beqF_eq xs ys h3]
theorem beqF_rfl : ∀ a : List (Str × D), beqF a a = true
  | [] => by simp [beqF]
  | x :: xs => by simp [beqF, beqD_rfl, beqF_rfl xs]
def belowO (n : Nat) : O → Bool
  | .lst xs => belowL n xs
  | .ins _ fs => belowF n fs
  | .exc _ fs => belowF n fs
  | .dct ks vs => belowL n ks && belowL n vs
  | .sd ks vs => belowL n ks && belowL n vs
  | .zd ks vs => belowL n ks && belowL n vs
def beqO : O → O → Bool
  | .lst a, .lst b => beqL a b
  | .ins c a, .ins d b => c == d && beqF a b
  | .exc c a, .exc d b => c == d && beqF a b
  | .dct a c, .dct b d => beqL a b && beqL c d
  | .sd a c, .sd b d => beqL a b && beqL c d
  | .zd a c, .zd b d => beqL a b && beqL c d
  | _, _ => false
theorem beqO_eq (a b : O) (h : beqO a b = true) : a = b := by
  cases a <;> cases b <;> simp only [beqO, Bool.false_eq_true, Bool.and_eq_true, beq_iff_eq] at h
  · rw [beqL_eq _ _ h]
  · rw [h.1, beqF_eq _ _ h.2]
  · rw [h.1, beqF_eq _ _ h.2]
  · rw [beqL_eq _ _ h.1, beqL_eq _ _ h.2]
  · rw [beqL_eq _ _ h.1, beqL_eq _ _ h.2]
  · rw [beqL_eq _ _ h.1, beqL_eq _ _ h.2]
theorem beqO_rfl (a : O) : beqO a a = true := by
  cases a <;> simp [beqO, beqL_rfl, beqF_rfl]
def gcL (n : Nat) : Hs → Hs → Bool
  | [], _ => true
  | o :: os, p :: ps => (beqO o p || belowO n p) && gcL n os ps
  | _ :: _, [] => false
abbrev M (α : Type) := Hs → Rs α
def ret {α : Type} (a : α) : M α := fun m => .ok a m
def bnd {α β : Type} (t : M α) (f : α → M β) : M β := fun m => (t m).bind fun a m1 => f a m1
def bad {α : Type} : M α := fun _ => .bad
def opt {α : Type} (o : Option α) : M α := match o with
  | some a => ret a
  | none => bad
def ask {α : Type} (f : Hs → Option α) : M α := fun m => match f m with
  | some a => .ok a m
  | none => .bad
inductive Op where | add | sub | mul | fdiv | mod | pow | shl
inductive Cp where | lt | le | gt | ge | eq | ne | is | isnot | isin | notin
inductive Ty where | non | bl | int | str | tup | lst | dct
  deriving DecidableEq
def truth : D → Hs → Option Bool
  | .non, _ => some false
  | .bl b, _ => some b
  | .int i, _ => some (i != 0)
  | .str s, _ => if s.length ≤ sizeLine then some (s.length != 0) else none
  | .tup xs, _ => some (!xs.isEmpty)
  | .fl xs, _ => some (!xs.isEmpty)
  | .sc xs, _ => some (!xs.isEmpty)
  | .fd _ _, _ => none
  | .ref n, m => match m[n]? with
    | some (.lst xs) => some (!xs.isEmpty)
    | _ => none
def lstOf : D → Hs → Option (List D)
  | .fl xs, _ => some xs
  | .ref n, m => match m[n]? with
    | some (.lst xs) => some xs
    | _ => none
  | _, _ => none
def binS : Op → D → D → M D
  | .add, .int i, .int j => ret (.int (i + j))
  | .add, .str i, .str j => if i.length + j.length ≤ sizeLine then ret (.str (i ++ j)) else bad
  | .add, .tup xs, .tup ys => if xs.length + ys.length ≤ sizeLine then ret (.tup (xs ++ ys)) else bad
  | .sub, .int i, .int j => ret (.int (i - j))
  | .mul, .int i, .int j => if i.natAbs.log2 + j.natAbs.log2 < 1000000 then ret (.int (i * j)) else bad
  | .fdiv, .int i, .int j => if 0 < j ∧ j.natAbs.log2 < 9000 then ret (.int (i / j)) else bad
  | .mod, .int i, .int j => if 0 < j then ret (.int (i % j)) else bad
  | .pow, .int i, .int j => if 0 ≤ j ∧ (i.natAbs.log2 + 1) * j.toNat ≤ 134217728 then ret (.int (i ^ j.toNat)) else bad
  | .shl, .int i, .int j => if 0 ≤ j ∧ j ≤ 1000000 ∧ i.natAbs < 18446744073709551616 then ret (.int (i * 2 ^ j.toNat)) else bad
  | .add, x, y => fun m => match lstOf x m, lstOf y m with
    | some xs, some ys => if xs.length + ys.length ≤ sizeLine then .ok (.fl (xs ++ ys)) m else .bad
    | _, _ => .bad
  | .mul, x, .int k => fun m => match lstOf x m with
    | some xs => if -(2 ^ 63) ≤ k ∧ k < 2 ^ 63 ∧ xs.length * k.toNat ≤ sizeLine then .ok (.fl (List.replicate k.toNat xs).flatten) m else .bad
    | _ => .bad
  | _, _, _ => bad
def mapO {α β : Type} (f : α → Option β) : List α → Option (List β)
  | [] => some []
  | x :: xs => match f x, mapO f xs with
    | some y, some ys => some (y :: ys)
    | _, _ => none
def pyD (m : Hs) : Nat → D → Option PyData
  | _, .non => some .none
  | _, .bl b => some (.bool b)
  | _, .int i => some (.int i)
  | _, .str s => if PyData.strOk s then some (.str s) else none
  | 0, _ => none
  | n + 1, .tup xs => (mapO (pyD m n) xs).map .tuple
  | n + 1, .fl xs => (mapO (pyD m n) xs).map .list
  | n + 1, .sc xs => (mapO (pyD m n) xs).map .list
  | _ + 1, .fd _ _ => none
  | n + 1, .ref k => match m[k]? with
    | some (.lst xs) => (mapO (pyD m n) xs).map .list
    | _ => none
def deepest : Nat := 50
def eqP (x y : D) (m : Hs) : Option Bool := match pyD m deepest x, pyD m deepest y with
  | some a, some b => some (PyData.eqv a b)
  | _, _ => none
def eqS (x y : D) (m : Hs) : Option Bool := match x, y with
  | .str a, .str b => some (decide (a = b))
  | x, y => eqP x y m
def flatD : D → Bool
  | .non | .bl _ | .int _ | .str _ => true
  | _ => false
def itemsOf : D → Hs → Option (List D)
  | .tup xs, _ => some xs
  | .fl xs, _ => some xs
  | .sc xs, _ => some xs
  | .ref n, m => match m[n]? with
    | some (.lst xs) => some xs
    | _ => none
  | .fd [.non] xs, _ => some xs
  | _, _ => none
def b2z (b : Bool) : Int := if b then 1 else 0
def eqF : D → D → Bool
  | .non, .non => true
  | .bl a, .bl b => a == b
  | .bl a, .int j => b2z a == j
  | .int i, .bl b => i == b2z b
  | .int i, .int j => i == j
  | .str x, .str y => decide (x = y)
  | _, _ => false
def inS (x y : D) (m : Hs) : Option Bool := match itemsOf y m with
  | some xs => if flatD x && xs.all flatD then some (xs.any fun z => eqF z x) else none
  | none => none
def intsOf : List D → Option (List Int)
  | [] => some []
  | .int i :: xs => (intsOf xs).map (i :: ·)
  | _ => none
def cmpS : Cp → D → D → M D
  | .lt, .int i, .int j => ret (.bl (decide (i < j)))
  | .le, .int i, .int j => ret (.bl (decide (i ≤ j)))
  | .gt, .int i, .int j => ret (.bl (decide (j < i)))
  | .ge, .int i, .int j => ret (.bl (decide (j ≤ i)))
  | .eq, x, y => bnd (ask (eqS x y)) fun b => ret (.bl b)
  | .ne, x, y => bnd (ask (eqS x y)) fun b => ret (.bl (!b))
  | .is, x, .non => ret (.bl (match x with | .non => true | _ => false))
  | .isnot, x, .non => ret (.bl (match x with | .non => false | _ => true))
  | .isin, x, y => bnd (ask (inS x y)) fun b => ret (.bl b)
  | .notin, x, y => bnd (ask (inS x y)) fun b => ret (.bl (!b))
  | _, _, _ => bad
def augS : Op → D → D → M D
  | .add, .int i, .int j => ret (.int (i + j))
  | .sub, .int i, .int j => ret (.int (i - j))
  | _, _, _ => bad
def ixD (n : Nat) (i : Int) : Option Nat := if 0 ≤ i then (if i < n then some i.toNat else none) else if -(n : Int) ≤ i then some (i + n).toNat else none
def atD (xs : List D) (i : Int) : Option D := (ixD xs.length i).bind fun j => xs[j]?
def idxS : D → D → M D
  | x, .int i => bnd (ask (itemsOf x)) fun xs => opt (atD xs i)
  | _, _ => bad
def sIxD (n d : Nat) : Option Int → Nat
  | none => d
  | some i => if i < 0 then (i + n).toNat else min i.toNat n
def cutD (xs : List D) (lo hi : Option Int) : List D := (xs.drop (sIxD xs.length 0 lo)).take (sIxD xs.length xs.length hi - sIxD xs.length 0 lo)
def slcS (x : D) (lo hi : Option Int) : M D := match x with
  | .tup xs => ret (.tup (cutD xs lo hi))
  | x => bnd (ask (lstOf x)) fun xs => ret (.fl (cutD xs lo hi))
def sumI : List D → Option Int
  | [] => some 0
  | .int i :: xs => (sumI xs).map (i + ·)
  | _ => none
def boolsOf : List D → Option (List Bool)
  | [] => some []
  | .bl b :: xs => (boolsOf xs).map (b :: ·)
  | _ => none
def rngL (lo : Int) (n : Nat) : List D := (List.range n).map fun k => .int (lo + (k : Nat))
def tyD : D → Hs → Option Ty
  | .non, _ => some .non
  | .bl _, _ => some .bl
  | .int _, _ => some .int
  | .str _, _ => some .str
  | .tup _, _ => some .tup
  | .fl _, _ => some .lst
  | .sc _, _ => some .lst
  | .fd [.non] _, _ => none
  | .fd _ _, _ => some .dct
  | .ref n, m => match m[n]? with
    | some (.lst _) => some .lst
    | _ => none
def guardOf : D → Hs → Option (List D × List (Nat × List D))
  | .ref n, m => match m[n]? with | some (.lst xs) => some (xs, [(n, xs)]) | _ => none
  | .tup xs, _ => some (xs, [])
  | .fl xs, _ => some (xs, [])
  | .sc xs, _ => some (xs, [])
  | _, _ => none
def enumL (s : Int) : List D → List D
  | [] => []
  | x :: xs => .tup [.int s, x] :: enumL (s + 1) xs
def zipL : List D → List D → List D
  | x :: xs, y :: ys => .tup [x, y] :: zipL xs ys
  | _, _ => []
def lenS : List D → M D
  | [.str s] => if s.length ≤ sizeLine then ret (.int s.length) else bad
  | [x] => bnd (ask (itemsOf x)) fun xs => ret (.int xs.length)
  | _ => bad
def absS : List D → M D
  | [.int i] => ret (.int (if i < 0 then -i else i))
  | _ => bad
def min2S : List D → M D
  | [.int i, .int j] => ret (.int (if j < i then j else i))
  | _ => bad
def max2S : List D → M D
  | [.int i, .int j] => ret (.int (if j > i then j else i))
  | _ => bad
def sumS : List D → M D
  | [x] => bnd (ask (lstOf x)) fun xs => bnd (opt (sumI xs)) fun k => ret (.int k)
  | _ => bad
def allS : List D → M D
  | [x] => bnd (ask (lstOf x)) fun xs => bnd (opt (boolsOf xs)) fun k => ret (.bl (k.all id))
  | _ => bad
def anyS : List D → M D
  | [x] => bnd (ask (lstOf x)) fun xs => bnd (opt (boolsOf xs)) fun k => ret (.bl (k.any id))
  | _ => bad
def intS : List D → M D
  | [.int i] => ret (.int i)
  | [.bl b] => ret (.int (if b then 1 else 0))
  | _ => bad
def tupleS : List D → M D
  | [.tup xs] => ret (.tup xs)
  | [x] => bnd (ask (lstOf x)) fun xs => ret (.tup xs)
  | _ => bad
def listS : List D → M D
  | [x] => bnd (ask (itemsOf x)) fun xs => ret (.fl xs)
  | _ => bad
def reprS : List D → M D
  | [x] => bnd (ask fun m => pyD m deepest x) fun p => if p.showable = true ∧ p.shown.length ≤ sizeLine then ret (.str p.shown) else bad
  | _ => bad
def isiS (t : Ty) (x : D) : M D := bnd (ask (tyD x)) fun u => ret (.bl (decide (u = t) || (decide (u = .bl) && decide (t = .int))))
def isiM (t : Ty) (a : M D) : M D := bnd a fun x => isiS t x
def binM (o : Op) (a b : M D) : M D := bnd a fun x => bnd b fun y => binS o x y
def cmpM (o : Cp) (a b : M D) : M D := bnd a fun x => bnd b fun y => cmpS o x y
def negS (x : D) : M D := match x with
  | .int i => ret (.int (-i))
  | _ => bad
def negM (a : M D) : M D := bnd a negS
def tru (x : D) : M Bool := ask (truth x)
def notM (a : M D) : M D := bnd a fun x => bnd (tru x) fun b => ret (.bl (!b))
def andM (a b : M D) : M D := bnd a fun x => bnd (tru x) fun k => if k = true then b else ret x
def orM (a b : M D) : M D := bnd a fun x => bnd (tru x) fun k => if k = true then ret x else b
def iteM (c a b : M D) : M D := bnd c fun x => bnd (tru x) fun k => if k = true then a else b
def chnS (z : D) (a b : M D) : M D := match z with
  | .bl true => a
  | .bl false => b
  | _ => bad
def chnM (o p : Cp) (a b c : M D) : M D := bnd a fun x => bnd b fun y => bnd (cmpS o x y) fun z => chnS z (bnd c fun w => cmpS p y w) (ret (.bl false))
def lsM : List (M D) → M (List D)
  | [] => ret []
  | t :: ts => bnd t fun x => bnd (lsM ts) fun xs => ret (x :: xs)
def tupM (t : M (List D)) : M D := bnd t fun xs => if xs.length ≤ sizeLine then ret (.tup xs) else bad
def lstM (t : M (List D)) : M D := bnd t fun xs => if xs.length ≤ sizeLine then ret (.fl xs) else bad
def newO (o : O) : M D := fun m => .ok (.ref m.length) (m ++ [o])
def lshM (t : M (List D)) : M D := bnd t fun xs => if xs.length ≤ sizeLine then newO (.lst xs) else bad
def idxM (a i : M D) : M D := bnd a fun x => bnd i fun y => idxS x y
def idlS (xs : List D) (y : D) : M D := match y with
  | .int i => opt (atD xs i)
  | _ => bad
def idxL (xs : List D) (i : M D) : M D := bnd i (idlS xs)
def noP : M (Option Int) := ret none
def soS (x : D) : M (Option Int) := match x with
  | .int i => ret (some i)
  | _ => bad
def soP (t : M D) : M (Option Int) := bnd t soS
def slcM (a : M D) (lo hi : M (Option Int)) : M D := bnd a fun x => bnd lo fun l => bnd hi fun h => slcS x l h
def calM (f : List D → M D) (t : M (List D)) : M D := bnd t f
def fldO (at' : Nat → Str → Bool) (f : Str) (x : D) (m : Hs) : Option D := match x with
  | .ref n => match m[n]? with
    | some (.ins c fs) => match fs.lookup f with
      | some v => if at' c f then some v else none
      | none => none
    | _ => none
  | _ => none
def fldS (at' : Nat → Str → Bool) (f : Str) (x : D) : M D := ask (fldO at' f x)
def fldM (at' : Nat → Str → Bool) (a : M D) (f : Str) : M D := bnd a fun x => fldS at' f x
def mthO (ms : Nat → Option (List D → M D)) (f : Str) (x : D) (m : Hs) : Option (List D → M D) := match x with
  | .ref n => match m[n]? with
    | some (.ins c fs) => match fs.lookup f with
      | some _ => none
      | none => ms c
    | _ => none
  | _ => none
def mthS (ms : Nat → Option (List D → M D)) (f : Str) (x : D) : M (List D → M D) := ask (mthO ms f x)
def mthM (ms : Nat → Option (List D → M D)) (a : M D) (f : Str) (t : M (List D)) : M D := bnd a fun x => bnd (mthS ms f x) fun g => bnd t fun xs => g (x :: xs)
def nonS (x : D) (y : D) : M D := match x with
  | .non => ret y
  | _ => bad
def makM (c : Nat) (init : List D → M D) (t : M (List D)) : M D := bnd t fun xs => bnd (newO (.ins c [])) fun x => bnd (init (x :: xs)) fun z => nonS z x
abbrev Its := List D × List (Nat × List D)
def seqI (t : M D) : M Its := bnd t fun x => ask (guardOf x)
def rng1S (x : D) : M Its := match x with
  | .int n => if -(2 ^ 62) ≤ n ∧ n < 2 ^ 62 then ret (rngL 0 n.toNat, []) else bad
  | _ => bad
def rng1I (t : M D) : M Its := bnd t rng1S
def rng2S (x y : D) : M Its := match x, y with
  | .int a, .int b => if -(2 ^ 62) ≤ a ∧ a < 2 ^ 62 ∧ -(2 ^ 62) ≤ b ∧ b < 2 ^ 62 then ret (rngL a (b - a).toNat, []) else bad
  | _, _ => bad
def rng2I (t u : M D) : M Its := bnd t fun x => bnd u fun y => rng2S x y
def enumS (x : D) : M Its := bnd (ask (guardOf x)) fun z => ret (enumL 0 z.1, z.2)
def enumI (t : M D) : M Its := bnd t enumS
def enum2S (x y : D) : M Its := match y with
  | .int s => if -(2 ^ 63) ≤ s ∧ s < 2 ^ 63 then bnd (ask (guardOf x)) fun z => ret (enumL s z.1, z.2) else bad
  | _ => bad
def enum2I (t u : M D) : M Its := bnd t fun x => bnd u fun y => enum2S x y
def isT : D → Bool
  | .tup _ => true
  | _ => false
def zipS (x y : D) : M Its := if isT x = isT y then bnd (ask (guardOf x)) fun z => bnd (ask (guardOf y)) fun w => ret (zipL z.1 w.1, z.2 ++ w.2) else bad
def zipI (t u : M D) : M Its := bnd t fun x => bnd u fun y => zipS x y
def stays (g : List (Nat × List D)) (m : Hs) : Bool := g.all fun p => match m[p.1]? with | some (.lst xs) => beqL xs p.2 | _ => false
def stay (g : List (Nat × List D)) : M Unit := fun m => if stays g m then .ok () m else .bad
def un2 {β : Type} (x : D) (k : D → D → M β) : M β := match x with
  | .tup [a, b] => k a b
  | .fd [.non] [a, b] => k a b
  | _ => bad
def un3 {β : Type} (x : D) (k : D → D → D → M β) : M β := match x with
  | .tup [a, b, c] => k a b c
  | _ => bad
def un4 {β : Type} (x : D) (k : D → D → D → D → M β) : M β := match x with
  | .tup [a, b, c, d] => k a b c d
  | _ => bad
def Rs.calm {α : Type} : Rs α → Rs α
  | .ex _ _ _ => .bad
  | r => r
def calm {α : Type} (t : M α) : M α := fun m => (t m).calm
def lcL (g : List (Nat × List D)) (turn : D → M (Option D)) : List D → List D → M (List D)
  | [], acc => bnd (stay g) fun _ => ret acc
  | x :: xs, acc => bnd (stay g) fun _ => bnd (calm (turn x)) fun o => match o with
    | none => lcL g turn xs acc
    | some y => if acc.length < sizeLine then lcL g turn xs (acc ++ [y]) else bad
def lcM (src : M Its) (turn : D → M (Option D)) : M D := bnd src fun z => bnd (lcL z.2 turn z.1 []) fun ys => ret (.fl ys)
def elM (t : M D) : M (Option D) := bnd t fun y => ret (some y)
inductive Fl (A B : Type) where
  | nx (a : A) | rt (d : D) | bk (b : B) | ct (b : B)
section
variable {A B C : Type}
def nxt (a : A) : M (Fl A B) := ret (.nx a)
def rtn (t : M D) : M (Fl A B) := bnd t fun d => ret (.rt d)
def brk (b : B) : M (Fl A B) := ret (.bk b)
def cnt (b : B) : M (Fl A B) := ret (.ct b)
def goOn (f : A → M (Fl C B)) : Fl A B → M (Fl C B)
  | .nx a => f a
  | .rt d => ret (.rt d)
  | .bk b => ret (.bk b)
  | .ct b => ret (.ct b)
def seq (t : M (Fl A B)) (f : A → M (Fl C B)) : M (Fl C B) := bnd t (goOn f)
def iff (c : M D) (t u : M (Fl A B)) : M (Fl A B) := bnd c fun x => bnd (tru x) fun k => if k = true then t else u
def turnF (f : A → M (Fl A B)) : Fl A A → M (Fl A B)
  | .nx a => f a
  | .ct a => f a
  | .bk a => ret (.nx a)
  | .rt d => ret (.rt d)
def forL (g : List (Nat × List D)) (body : D → A → M (Fl A A)) : List D → A → M (Fl A B)
  | [], s => bnd (stay g) fun _ => ret (.nx s)
  | x :: xs, s => bnd (stay g) fun _ => bnd (body x s) (turnF (forL g body xs))
def forM (src : M Its) (s : A) (body : D → A → M (Fl A A)) : M (Fl A B) := bnd src fun z => forL z.2 body z.1 s
def whlL (c : A → M D) (body : A → M (Fl A A)) : Nat → A → M (Fl A B)
  | 0, _ => bad
  | n + 1, s => bnd (c s) fun x => bnd (tru x) fun k => if k = true then bnd (body s) (turnF (whlL c body n)) else ret (.nx s)
def whileMost : Nat := 100000
def whlM (c : A → M D) (s : A) (body : A → M (Fl A A)) : M (Fl A B) := whlL c body whileMost s
end
def putD (f : Str) (v : D) : List (Str × D) → List (Str × D)
  | [] => [(f, v)]
  | (g, u) :: r => if g = f then (g, v) :: r else (g, u) :: putD f v r
def put (f : Hs → Option Hs) : M Unit := fun m => match f m with
  | some m' => .ok () m'
  | none => .bad
def setO (at' : Nat → Str → Bool) (f : Str) (v x : D) (m : Hs) : Option Hs := match x with
  | .ref n => match m[n]? with
    | some (.ins c fs) => if fs.length < 900 ∧ at' c f = true then some (m.set n (.ins c (putD f v fs))) else none
    | _ => none
  | _ => none
def itmO (x y v : D) (m : Hs) : Option Hs := match x, y with
  | .ref n, .int k => match m[n]? with
    | some (.lst xs) => match ixD xs.length k with
      | some j => some (m.set n (.lst (xs.set j v)))
      | none => none
    | _ => none
  | _, _ => none
def fldT (at' : Nat → Str → Bool) (a : M D) (f : Str) (v : D) : M Unit := bnd a fun x => put (setO at' f v x)
def subT (a i : M D) (v : D) : M Unit := bnd a fun x => bnd i fun y => put (itmO x y v)
def tgL : List (D → M Unit) → List D → M Unit
  | [], [] => ret ()
  | t :: ts, d :: ds => bnd (t d) fun _ => tgL ts ds
  | _, _ => bad
def tpT (ts : List (D → M Unit)) (d : D) : M Unit := match d with
  | .tup ds => if ds.length = ts.length then tgL ts ds else bad
  | _ => bad
def fldC (at' : Nat → Str → Bool) (f : Str) (x : D) (m : Hs) : Option (Nat × D) := match x with
  | .ref n => match m[n]? with
    | some (.ins c fs) => match fs.lookup f with
      | some v => if at' c f then some (c, v) else none
      | none => none
    | _ => none
  | _ => none
def setC (c : Nat) (f : Str) (v x : D) (m : Hs) : Option Hs := match x with
  | .ref n => match m[n]? with
    | some (.ins c2 fs) => if c2 = c ∧ fs.length < 900 then some (m.set n (.ins c (putD f v fs))) else none
    | _ => none
  | _ => none
def augF (at' : Nat → Str → Bool) (o : Op) (a : M D) (f : Str) (t : M D) : M Unit := bnd a fun x => bnd (ask (fldC at' f x)) fun p => bnd t fun y => bnd (augS o p.2 y) fun z => put (setC p.1 f z x)
def appO {β : Type} (xs : List D) (t : M D) (k : List D → M β) : M β := bnd t fun y => if xs.length < sizeLine then k (xs ++ [y]) else bad
def extO {β : Type} (xs : List D) (t : M D) (k : List D → M β) : M β := bnd t fun y => bnd (ask (lstOf y)) fun ys => if xs.length + ys.length ≤ sizeLine then k (xs ++ ys) else bad
def fnE : Fl Unit Empty → M D
  | .nx _ => ret .non
  | .rt d => ret d
  | .bk b => nomatch b
  | .ct b => nomatch b
def fnM (t : M (Fl Unit Empty)) : M D := bnd t fnE
def gcR (m : Hs) (d : D) (m1 : Hs) : Rs D := if below m.length d && gcL m.length m m1 then .ok d (m1.take m.length) else .ok d m1
def gcM (t : M D) : M D := fun m => match t m with
  | .ok d m1 => gcR m d m1
  | .ex c fs m1 => if belowF m.length fs && gcL m.length m m1 then .ex c fs (m1.take m.length) else .ex c fs m1
  | .bad => .bad
def fs1 (f : D → M D) : List D → M D
  | [a] => f a
  | _ => bad
def fs2 (f : D → D → M D) : List D → M D
  | [a, b] => f a b
  | _ => bad
def fs3 (f : D → D → D → M D) : List D → M D
  | [a, b, c] => f a b c
  | _ => bad
def fs4 (f : D → D → D → D → M D) : List D → M D
  | [a, b, c, d] => f a b c d
  | _ => bad
def fs5 (f : D → D → D → D → D → M D) : List D → M D
  | [a, b, c, d, e] => f a b c d e
  | _ => bad
def fs6 (f : D → D → D → D → D → D → M D) : List D → M D
  | [a, b, c, d, e, g] => f a b c d e g
  | _ => bad
end G
namespace G
open PySem L2
structure Gh where
  hs : List Addr
  fz : List (Addr × HO)
  pv : List (Addr × HO)
structure Le (g g' : Gh) : Prop where
  hs : g.hs <+: g'.hs
  fz : ∀ p, p ∈ g.fz → p ∈ g'.fz
  pv : ∀ p, p ∈ g.pv → p ∈ g'.pv
theorem Le.refl (g : Gh) : Le g g := ⟨List.prefix_refl _, fun _ h => h, fun _ h => h⟩
theorem Le.trans {g g1 g2 : Gh} (a : Le g g1) (b : Le g1 g2) : Le g g2 := ⟨a.hs.trans b.hs, fun p h => b.fz p (a.fz p h), fun p h => b.pv p (a.pv p h)⟩
structure Lv0 (g g' : Gh) : Prop where
  hs : g.hs <+: g'.hs
  fz : ∀ p, p ∈ g.fz → p ∈ g'.fz
theorem Le.v {g g' : Gh} (a : Le g g') : Lv0 g g' := ⟨a.hs, a.fz⟩
theorem Lv0.refl (g : Gh) : Lv0 g g := (Le.refl g).v
def keyD : Key → D
  | .inl i => .int i
  | .inr x => .str x
def keysK (kvs : List (Key × V)) : List D := kvs.map fun p => keyD p.1
def keysT (kvs : List (List Key × V)) : List D := kvs.map fun p => .fd [.non] (p.1.map keyD)
mutual
inductive Rep (K : PySem.W.Frag) (g : Gh) (H : Hp) : V → D → Prop
  | non : Rep K g H .non .non
  | bl (b : Bool) : Rep K g H (.bl b) (.bl b)
  | int (i : Int) : Rep K g H (.int i) (.int i)
  | str (x : Str) : Rep K g H (.str x) (.str x)
  | tup {a : Addr} {xs : List V} {ds : List D} : SqT K H a xs → RepL K g H xs ds → Rep K g H (.ref a) (.tup ds)
  | kt {a : Addr} {xs : List V} {ds : List D} : H a = some (.tup xs) → RepL K g H xs ds → Rep K g H (.ref a) (.fd [.non] ds)
  | fl {a : Addr} {xs : List V} {ds : List D} : (a, HO.lst xs) ∈ g.fz → RepL K g H xs ds → Rep K g H (.ref a) (.fl ds)
  | sc {a : Addr} {xs : List V} {ds : List D} : ((∃ o, H a = some (.frz o (.lst xs))) ∨ ∀ H', SqL K H' a xs) → RepL K g H xs ds → Rep K g H (.ref a) (.sc ds)
  | fd {a : Addr} {kvs : List (Key × V)} {ds : List D} : (a, HO.dK kvs) ∈ g.fz → RepL K g H (kvs.map (·.2)) ds → Rep K g H (.ref a) (.fd (keysK kvs) ds)
  | ref {a : Addr} {n : Nat} : g.hs[n]? = some a → Rep K g H (.ref a) (.ref n)
inductive RepL (K : PySem.W.Frag) (g : Gh) (H : Hp) : List V → List D → Prop
  | nil : RepL K g H [] []
  | cons {v : V} {vs : List V} {d : D} {ds : List D} : Rep K g H v d → RepL K g H vs ds → RepL K g H (v :: vs) (d :: ds)
end
inductive RepF (K : PySem.W.Frag) (g : Gh) (H : Hp) : List (Str × V) → List (Str × D) → Prop
  | nil : RepF K g H [] []
  | cons {f : Str} {v : V} {vs : List (Str × V)} {d : D} {ds : List (Str × D)} : Rep K g H v d → RepF K g H vs ds → RepF K g H ((f, v) :: vs) ((f, d) :: ds)
structure TK (H H' : Hp) : Prop where
  tup : ∀ a xs, H a = some (.tup xs) → H' a = some (.tup xs)
  frz : ∀ a o u, H a = some (.frz o u) → H' a = some (.frz o u)
  nof : ∀ a o u, H' a = some (.frz o u) → H a = some (.frz o u)
def noFrz : HO → Bool
  | .frz _ _ => false
  | _ => true
theorem TK.refl (H : Hp) : TK H H := ⟨fun _ _ h => h, fun _ _ _ h => h, fun _ _ _ h => h⟩
theorem TK.trans {H H1 H2 : Hp} (a : TK H H1) (b : TK H1 H2) : TK H H2 := ⟨fun x xs h => b.tup x xs (a.tup x xs h), fun x o u h => b.frz x o u (a.frz x o u h), fun x o u h => a.nof x o u (b.nof x o u h)⟩
theorem upd_nof {H : Hp} {p a : Addr} {o : HO} {ob : Obj} {u : HO} (ho : noFrz o = true) (e : upd H p o a = some (.frz ob u)) : H a = some (.frz ob u) := by
  by_cases z : a = p
  · subst z
    rw [upd_same] at e
    cases e
    cases ho
  · rw [upd_ne z] at e
    exact e
theorem TK.new {H : Hp} {p : Addr} {o : HO} (h : H p = none) (ho : noFrz o = true := by rfl) : TK H (upd H p o) := ⟨fun a xs e => by rw [upd_ne (ne_of_none e h)]; exact e, fun a o u e => by rw [upd_ne (ne_of_none e h)]; exact e, fun a ob u e => upd_nof ho e⟩
theorem TK.mut {H : Hp} {p : Addr} {o : HO} (h : Mut (H p)) (ho : noFrz o = true := by rfl) : TK H (upd H p o) := ⟨fun a xs e => by
    rw [upd_ne (fun z => by subst z; rw [e] at h; exact h)]; exact e, fun a ob u e => by
    rw [upd_ne (fun z => by subst z; rw [e] at h; exact h)]; exact e, fun a ob u e => upd_nof ho e⟩
def Gh.cut (g : Gh) (n : Nat) : Gh := ⟨g.hs.take n, g.fz, g.pv⟩
section
variable {K : PySem.W.Frag} {g g' : Gh} {H H' : Hp}
theorem TK.seqT {a : Addr} {xs : List V} (t : TK H H') (h : SqT K H a xs) : SqT K H' a xs := by
  rcases h with (h | ⟨o, h⟩) | h
  · exact .inl (.inl (t.tup _ _ h))
  · exact .inl (.inr ⟨o, t.frz _ _ _ h⟩)
  · exact .inr h
theorem pre_get {n : Nat} {a : Addr} {l l' : List Addr} (p : l <+: l') (h : l[n]? = some a) : l'[n]? = some a := by
  obtain ⟨r, rfl⟩ := p
  rw [List.getElem?_append_left (List.getElem?_eq_some_iff.mp h).1]
  exact h
mutual
theorem Rep.mono (p : Lv0 g g') (t : TK H H') : ∀ {v : V} {d : D}, Rep K g H v d → Rep K g' H' v d
  | _, _, .non => .non
  | _, _, .bl b => .bl b
  | _, _, .int i => .int i
  | _, _, .str x => .str x
  | _, _, .tup h r => .tup (t.seqT h) (RepL.mono p t r)
  | _, _, .kt h r => .kt (t.tup _ _ h) (RepL.mono p t r)
  | _, _, .fl h r => .fl (p.fz _ h) (RepL.mono p t r)
  | _, _, .sc h r => .sc (by
      rcases h with ⟨o, h⟩ | h
      · exact .inl ⟨o, t.frz _ _ _ h⟩
      · exact .inr h) (RepL.mono p t r)
  | _, _, .fd h r => .fd (p.fz _ h) (RepL.mono p t r)
  | _, _, .ref h => .ref (pre_get p.hs h)
theorem RepL.mono (p : Lv0 g g') (t : TK H H') : ∀ {vs : List V} {ds : List D}, RepL K g H vs ds → RepL K g' H' vs ds
  | _, _, .nil => .nil
  | _, _, .cons r s => .cons (Rep.mono p t r) (RepL.mono p t s)
end
theorem RepF.mono (p : Lv0 g g') (t : TK H H') : ∀ {vs : List (Str × V)} {ds : List (Str × D)}, RepF K g H vs ds → RepF K g' H' vs ds
  | _, _, .nil => .nil
  | _, _, .cons r s => .cons (r.mono p t) (RepF.mono p t s)
theorem below_key (n : Nat) (k : Key) : G.below n (keyD k) = true := by cases k <;> simp [keyD, G.below]
theorem belowL_all {n : Nat} : ∀ {l : List D}, (∀ d, d ∈ l → G.below n d = true) → belowL n l = true
  | [], _ => by simp [belowL]
  | d :: l, h => by simp only [belowL, Bool.and_eq_true]; exact ⟨h d List.mem_cons_self, belowL_all fun e he => h e (List.mem_cons_of_mem _ he)⟩
theorem below_keysK (n : Nat) (kvs : List (Key × V)) : belowL n (keysK kvs) = true := belowL_all fun d h => by
  obtain ⟨p, _, rfl⟩ := List.mem_map.mp h
  exact below_key n p.1
theorem below_keysT (n : Nat) (kvs : List (List Key × V)) : belowL n (keysT kvs) = true := belowL_all fun d h => by
  obtain ⟨p, _, rfl⟩ := List.mem_map.mp h
  simp only [G.below]
  refine belowL_all fun d h => ?_
  obtain ⟨k, _, rfl⟩ := List.mem_map.mp h
  exact below_key n k
theorem RepL.length : ∀ {vs : List V} {ds : List D}, RepL K g H vs ds → vs.length = ds.length
  | _, _, .nil => rfl
  | _, _, .cons _ s => congrArg (· + 1) (RepL.length s)
theorem RepL.get : ∀ {vs : List V} {ds : List D} {i : Nat} {d : D}, RepL K g H vs ds → ds[i]? = some d → ∃ v, vs[i]? = some v ∧ Rep K g H v d
  | _, _, _, _, .nil, e => by simp at e
  | _, _, 0, _, .cons r _, e => by simp at e; subst e; exact ⟨_, rfl, r⟩
  | _, _, i + 1, d, .cons _ s, e => by
    obtain ⟨v, h1, h2⟩ := RepL.get (i := i) (d := d) s (by simpa using e)
    exact ⟨v, by simpa using h1, h2⟩
theorem RepL.append : ∀ {vs ws : List V} {ds es : List D}, RepL K g H vs ds → RepL K g H ws es → RepL K g H (vs ++ ws) (ds ++ es)
  | _, _, _, _, .nil, s => s
  | _, _, _, _, .cons r t, s => .cons r (RepL.append t s)
theorem RepL.set {v : V} {d : D} (q : Rep K g H v d) : ∀ {vs : List V} {ds : List D} (i : Nat), RepL K g H vs ds → RepL K g H (vs.set i v) (ds.set i d)
  | _, _, _, .nil => .nil
  | _, _, 0, .cons _ t => .cons q t
  | _, _, i + 1, .cons r t => .cons r (RepL.set q i t)
theorem RepL.drop : ∀ {vs : List V} {ds : List D} (n : Nat), RepL K g H vs ds → RepL K g H (vs.drop n) (ds.drop n)
  | _, _, 0, r => r
  | _, _, _ + 1, .nil => .nil
  | _, _, n + 1, .cons _ t => RepL.drop n t
theorem RepL.take : ∀ {vs : List V} {ds : List D} (n : Nat), RepL K g H vs ds → RepL K g H (vs.take n) (ds.take n)
  | _, _, 0, _ => .nil
  | _, _, _ + 1, .nil => .nil
  | _, _, n + 1, .cons r t => .cons r (RepL.take n t)
theorem RepF.lookup : ∀ {vs : List (Str × V)} {ds : List (Str × D)} {f : Str}, RepF K g H vs ds → (∀ d, ds.lookup f = some d → ∃ v, vs.lookup f = some v ∧ Rep K g H v d) ∧ (ds.lookup f = none → vs.lookup f = none)
  | _, _, _, .nil => ⟨fun d e => by simp at e, fun _ => rfl⟩
  | _, _, f, .cons (f := f') r s => by
    have ih := RepF.lookup (f := f) s
    by_cases h : f = f'
    · subst h
      refine ⟨fun d e => ?_, fun e => ?_⟩
      · simp only [List.lookup, beq_self_eq_true] at e ⊢
        cases e
        exact ⟨_, rfl, r⟩
      · simp only [List.lookup, beq_self_eq_true] at e
        cases e
    · have hb : (f == f') = false := beq_eq_false_iff_ne.mpr h
      refine ⟨fun d e => ?_, fun e => ?_⟩
      · simp only [List.lookup, hb] at e ⊢
        exact ih.1 d e
      · simp only [List.lookup, hb] at e ⊢
        exact ih.2 e
theorem RepF.put {f : Str} {v : V} {d : D} (q : Rep K g H v d) : ∀ {vs : List (Str × V)} {ds : List (Str × D)}, RepF K g H vs ds → RepF K g H (putF f v vs) (putD f d ds)
  | _, _, .nil => .cons q .nil
  | _, _, .cons (f := f') (v := u) (d := e) r s => by
    show RepF K g H (if f' = f then (f', v) :: _ else (f', u) :: putF f v _) (if f' = f then (f', d) :: _ else (f', e) :: putD f d _)
    by_cases h : f' = f
    · rw [if_pos h, if_pos h]
      exact .cons q s
    · rw [if_neg h, if_neg h]
      exact .cons r (RepF.put q s)
theorem RepF.length : ∀ {vs : List (Str × V)} {ds : List (Str × D)}, RepF K g H vs ds → vs.length = ds.length
  | _, _, .nil => rfl
  | _, _, .cons _ s => congrArg (· + 1) (RepF.length s)
mutual
theorem Rep.bel : ∀ {v : V} {d : D}, Rep K g H v d → below g.hs.length d = true
  | _, _, .non => by simp [G.below]
  | _, _, .bl _ => by simp [G.below]
  | _, _, .int _ => by simp [G.below]
  | _, _, .str _ => by simp [G.below]
  | _, _, .tup _ r => by simp only [G.below]; exact RepL.bel r
  | _, _, .fl _ r => by simp only [G.below]; exact RepL.bel r
  | _, _, .sc _ r => by simp only [G.below]; exact RepL.bel r
  | _, _, .fd _ r => by simp only [G.below, Bool.and_eq_true]; exact ⟨below_keysK _ _, RepL.bel r⟩
  | _, _, .kt _ r => by simp only [G.below, Bool.and_eq_true]; exact ⟨rfl, RepL.bel r⟩
  | _, _, .ref h => by simp only [G.below, decide_eq_true_eq]; exact (List.getElem?_eq_some_iff.mp h).1
theorem RepL.bel : ∀ {vs : List V} {ds : List D}, RepL K g H vs ds → belowL g.hs.length ds = true
  | _, _, .nil => by simp [belowL]
  | _, _, .cons r s => by simp only [belowL, Bool.and_eq_true]; exact ⟨Rep.bel r, RepL.bel s⟩
end
theorem RepF.bel : ∀ {vs : List (Str × V)} {ds : List (Str × D)}, RepF K g H vs ds → belowF g.hs.length ds = true
  | _, _, .nil => by simp [belowF]
  | _, _, .cons r s => by
    have h := RepF.bel s
    simp only [belowF, List.all_cons, Bool.and_eq_true] at h ⊢
    exact ⟨Rep.bel r, h⟩
mutual
theorem Rep.shrink {n : Nat} : ∀ {v : V} {d : D}, Rep K g H v d → G.below n d = true → Rep K (g.cut n) H v d
  | _, _, .non, _ => .non
  | _, _, .bl b, _ => .bl b
  | _, _, .int i, _ => .int i
  | _, _, .str x, _ => .str x
  | _, _, .tup h r, b => .tup h (RepL.shrink r (by simpa only [G.below] using b))
  | _, _, .fl h r, b => .fl h (RepL.shrink r (by simpa only [G.below] using b))
  | _, _, .sc h r, b => .sc h (RepL.shrink r (by simpa only [G.below] using b))
  | _, _, .fd h r, b => .fd h (RepL.shrink r (by simp only [G.below, Bool.and_eq_true] at b; exact b.2))
  | _, _, .kt h r, b => .kt h (RepL.shrink r (by simp only [G.below, Bool.and_eq_true] at b; exact b.2))
  | _, _, .ref h, b => .ref (by
      simp only [G.below, decide_eq_true_eq] at b
      show (g.hs.take n)[_]? = _
      rw [List.getElem?_take_of_lt b]
      exact h)
theorem RepL.shrink {n : Nat} : ∀ {vs : List V} {ds : List D}, RepL K g H vs ds → belowL n ds = true → RepL K (g.cut n) H vs ds
  | _, _, .nil, _ => .nil
  | _, _, .cons r s, b => by
    simp only [belowL, Bool.and_eq_true] at b
    exact .cons (Rep.shrink r b.1) (RepL.shrink s b.2)
end
theorem RepF.shrink {n : Nat} : ∀ {vs : List (Str × V)} {ds : List (Str × D)}, RepF K g H vs ds → belowF n ds = true → RepF K (g.cut n) H vs ds
  | _, _, .nil, _ => .nil
  | _, _, .cons r s, b => by
    simp only [belowF, List.all_cons, Bool.and_eq_true] at b
    exact .cons (r.shrink b.1) (RepF.shrink s (by simpa only [belowF] using b.2))
end
end G
namespace G
open PySem L2
structure Cl where
  f : Nat → Option Addr
  T : List (Addr × Str)
  dk : Bool
def Cl.noT (c : Cl) : Cl := ⟨c.f, [], false⟩
instance : CoeFun Cl fun _ => Nat → Option Addr := ⟨Cl.f⟩
structure Cst where
  K : PySem.W.Frag
  cls : Cl
section
variable (Γ : Cst)
def exH (a C : Addr) (d : Option Addr) : HO := .ext fun h => ∃ (oe : Obj) (ws : Array Value), h.get? a = some oe ∧ oe.cls = .ref C ∧ oe.dict = d ∧ oe.data = .fields ws
def XDx (H : Hp) : Option Addr → List (Str × V) → Prop
  | some d, vs => H d = some (.xd vs)
  | none, vs => vs = []
def ObjR (g : Gh) (H : Hp) (a : Addr) : O → Prop
  | .lst ds => ∃ xs, H a = some (.lst xs) ∧ RepL Γ.K g H xs ds
  | .ins c fs => ∃ C dx vs, Γ.cls c = some C ∧ H a = some (.ins C dx vs) ∧ RepF Γ.K g H vs fs
  | .exc c fs => ∃ C d vs, Γ.cls c = some C ∧ H a = some (exH a C d) ∧ XDx H d vs ∧ RepF Γ.K g H vs fs
  | .dct ks ds => ∃ kvs, H a = some (.dT kvs) ∧ ks = keysT kvs ∧ RepL Γ.K g H (kvs.map (·.2)) ds
  | .sd ks ds => ∃ kvs, H a = some (.dK kvs) ∧ ks = keysK kvs ∧ RepL Γ.K g H (kvs.map (·.2)) ds
  | .zd ks ds => ∃ o kvs, H a = some (.frz o (.dT kvs)) ∧ ks = keysT kvs ∧ RepL Γ.K g H (kvs.map (·.2)) ds
def isL (k : Bool) : HO → Bool
  | .lst _ => true
  | .dK _ => k
  | .ext _ => k
  | _ => false
def TabG (g : Gh) (H : Hp) (P : Addr) (q : Str) : Prop := ∃ ps : Array Value, H P = some (.tbl ps) ∧ TriplesOk ps.toList ∧ ∀ (pos : Pos) (cv : Value), codeAmong pos ps.toList = some cv → ∃ c, cv = .ref c ∧ (c, LamX.CodeO c q) ∈ g.fz
def isTL : HO → Bool
  | .lst _ => true
  | .tup _ => true
  | .dT _ => true
  | _ => false
structure Rel (g : Gh) (m : Hs) (H : Hp) : Prop where
  len : g.hs.length = m.length
  inj : g.hs.Nodup
  obj : ∀ (n : Nat) (o : O) (a : Addr), m[n]? = some o → g.hs[n]? = some a → ObjR Γ g H a o
  frz : ∀ a o, (a, o) ∈ g.fz → H a = some o
  prv : ∀ a o, (a, o) ∈ g.pv → H a = some o
  hf : ∀ a o, a ∈ g.hs → (a, o) ∉ g.fz
  hp : ∀ a o, a ∈ g.hs → (a, o) ∉ g.pv
  pf : ∀ a o u, (a, o) ∈ g.pv → (a, u) ∉ g.fz
  lf : ∀ p, p ∈ g.fz → isL Γ.cls.dk p.2 = true
  lp : ∀ p, p ∈ g.pv → isL Γ.cls.dk p.2 = true
  ff : ∀ b o u, H b = some (.frz o u) → isTL u = true
  tab : ∀ t, t ∈ Γ.cls.T → TabG g H t.1 t.2
inductive Sl where | un | val (d : D) | own (xs : List D) | raw (v : V)
structure RelS (gB g : Gh) (H : Hp) (ρ : List Sl) (σ : St) : Prop where
  len : ρ.length = σ.length
  val : ∀ (i : Nat) (d : D), ρ[i]? = some (.val d) → ∃ v, σ[i]? = some (some v) ∧ Rep Γ.K g H v d
  own : ∀ (i : Nat) (xs : List D), ρ[i]? = some (.own xs) → ∃ a vs, σ[i]? = some (some (.ref a)) ∧ (a, HO.lst vs) ∈ g.pv ∧ RepL Γ.K g H vs xs ∧ ∀ u, (a, u) ∉ gB.pv
  inj : ∀ (i j : Nat) (xs ys : List D) (a : Addr), ρ[i]? = some (.own xs) → ρ[j]? = some (.own ys) → σ[i]? = some (some (.ref a)) → σ[j]? = some (some (.ref a)) → i = j
  raw : ∀ (i : Nat) (v : V), ρ[i]? = some (.raw v) → σ[i]? = some (some v)
end
section
variable {Γ : Cst} {gB g g' : Gh} {m m' : Hs} {H H' : Hp} {ρ : List Sl} {σ : St} {a p : Addr} {n : Nat}
theorem RelS.mono (p : Le g g') (t : TK H H') (h : RelS Γ gB g H ρ σ) : RelS Γ gB g' H' ρ σ := ⟨h.len, fun i d e => by
  obtain ⟨v, h1, h2⟩ := h.val i d e
  exact ⟨v, h1, h2.mono p.v t⟩, fun i xs e => by
  obtain ⟨a, vs, h1, h2, h3, h4⟩ := h.own i xs e
  exact ⟨a, vs, h1, p.pv _ h2, h3.mono p.v t, h4⟩, h.inj, h.raw⟩
theorem set_at {α : Type} {l : List α} {i j : Nat} {x y : α} (h : (l.set i x)[j]? = some y) : (i = j ∧ y = x ∧ i < l.length) ∨ (i ≠ j ∧ l[j]? = some y) := by
  by_cases e : i = j
  · subst e
    rw [List.getElem?_set_self'] at h
    cases hr : l[i]? with
    | none => rw [hr] at h; cases h
    | some o =>
      rw [hr] at h
      have h' : some x = some y := h
      cases h'
      exact .inl ⟨rfl, rfl, (List.getElem?_eq_some_iff.mp hr).1⟩
  · rw [List.getElem?_set_ne e] at h
    exact .inr ⟨e, h⟩
theorem RelS.set {v : V} {d : D} (h : RelS Γ gB g H ρ σ) (q : Rep Γ.K g H v d) (i : Nat) : RelS Γ gB g H (ρ.set i (.val d)) (σ.set i (some v)) := by
  refine ⟨by rw [List.length_set, List.length_set]; exact h.len, fun j e hj => ?_, fun j xs hj => ?_, fun j l xs ys b hj hl h1 h2 => ?_, fun j w hj => by
    rcases set_at hj with ⟨rfl, e, hi⟩ | ⟨hij, hj⟩
    · cases e
    · rw [List.getElem?_set_ne hij]; exact h.raw j w hj⟩
  · rcases set_at hj with ⟨rfl, e, hi⟩ | ⟨hij, hj⟩
    · cases e
      exact ⟨v, by rw [List.getElem?_set_self (by rw [← h.len]; exact hi)], q⟩
    · obtain ⟨u, h1, h2⟩ := h.val j e hj
      exact ⟨u, by rw [List.getElem?_set_ne hij]; exact h1, h2⟩
  · rcases set_at hj with ⟨rfl, e, hi⟩ | ⟨hij, hj⟩
    · cases e
    · obtain ⟨a, vs, h1, h2⟩ := h.own j xs hj
      exact ⟨a, vs, by rw [List.getElem?_set_ne hij]; exact h1, h2⟩
  · rcases set_at hj with ⟨rfl, e, hi⟩ | ⟨hij, hj⟩
    · cases e
    rcases set_at hl with ⟨rfl, e, hi⟩ | ⟨hil, hl⟩
    · cases e
    rw [List.getElem?_set_ne hij] at h1
    rw [List.getElem?_set_ne hil] at h2
    exact h.inj j l xs ys b hj hl h1 h2
inductive Sub : List Sl → List Sl → Prop
  | nil : Sub [] []
  | un {s : Sl} {l l' : List Sl} : Sub l l' → Sub (.un :: l) (s :: l')
  | eq {s : Sl} {l l' : List Sl} : Sub l l' → Sub (s :: l) (s :: l')
theorem Sub.len : ∀ {l l' : List Sl}, Sub l l' → l.length = l'.length
  | _, _, .nil => rfl
  | _, _, .un h => congrArg (· + 1) h.len
  | _, _, .eq h => congrArg (· + 1) h.len
theorem Sub.at : ∀ {l l' : List Sl} {i : Nat} {s : Sl}, Sub l l' → l[i]? = some s → s = .un ∨ l'[i]? = some s
  | _, _, _, _, .nil, h => by simp at h
  | _, _, 0, s, .un _, h => by simp at h; exact .inl h.symm
  | _, _, 0, s, .eq _, h => .inr (by simpa using h)
  | _, _, i + 1, s, .un q, h => by
    have := Sub.at (i := i) q (by simpa using h)
    simpa using this
  | _, _, i + 1, s, .eq q, h => by
    have := Sub.at (i := i) q (by simpa using h)
    simpa using this
theorem Sub.refl : ∀ l : List Sl, Sub l l
  | [] => .nil
  | _ :: l => .eq (Sub.refl l)
theorem RelS.less {ρ' : List Sl} (h : RelS Γ gB g H ρ σ) (s : Sub ρ' ρ) : RelS Γ gB g H ρ' σ := by
  refine ⟨s.len.trans h.len, fun i d e => ?_, fun i xs e => ?_, fun i j xs ys a e1 e2 => ?_, fun i v e => by
    rcases s.at e with z | z
    · cases z
    · exact h.raw i v z⟩
  · rcases s.at e with z | z
    · cases z
    · exact h.val i d z
  · rcases s.at e with z | z
    · cases z
    · exact h.own i xs z
  · rcases s.at e1 with z | z1
    · cases z
    rcases s.at e2 with z | z2
    · cases z
    exact h.inj i j xs ys a z1 z2
theorem RelS.unset (h : RelS Γ gB g H ρ σ) (i : Nat) : RelS Γ gB g H (ρ.set i .un) (σ.set i none) := by
  refine ⟨by rw [List.length_set, List.length_set]; exact h.len, fun j e hj => ?_, fun j xs hj => ?_, fun j l xs ys b hj hl h1 h2 => ?_, fun j w hj => by
    rcases set_at hj with ⟨rfl, e, hi⟩ | ⟨hij, hj⟩
    · cases e
    · rw [List.getElem?_set_ne hij]; exact h.raw j w hj⟩
  · rcases set_at hj with ⟨rfl, e, hi⟩ | ⟨hij, hj⟩
    · cases e
    · obtain ⟨u, h1, h2⟩ := h.val j e hj
      exact ⟨u, by rw [List.getElem?_set_ne hij]; exact h1, h2⟩
  · rcases set_at hj with ⟨rfl, e, hi⟩ | ⟨hij, hj⟩
    · cases e
    · obtain ⟨a, vs, h1, h2⟩ := h.own j xs hj
      exact ⟨a, vs, by rw [List.getElem?_set_ne hij]; exact h1, h2⟩
  · rcases set_at hj with ⟨rfl, e, hi⟩ | ⟨hij, hj⟩
    · cases e
    rcases set_at hl with ⟨rfl, e, hi⟩ | ⟨hil, hl⟩
    · cases e
    rw [List.getElem?_set_ne hij] at h1
    rw [List.getElem?_set_ne hil] at h2
    exact h.inj j l xs ys b hj hl h1 h2
def wipeS (ρ : List Sl) : List Nat → List Sl
  | [] => ρ
  | i :: is => (wipeS ρ is).set i .un
theorem RelS.wipe (h : RelS Γ gB g H ρ σ) : ∀ is : List Nat, RelS Γ gB g H (wipeS ρ is) (L2.wipe σ is)
  | [] => h
  | i :: is => (RelS.wipe h is).unset i
theorem mut_xd {H : Hp} {a b : Addr} {vs : List (Str × V)} (hm : Mut (H a)) (h : H b = some (.xd vs)) : b ≠ a := fun z => by
  subst z
  rw [h] at hm
  exact hm
theorem ObjR.mono (pg : Lv0 g g') (t : TK H H') (e : ∀ b o, (b = a ∨ ∃ vs, o = .xd vs) → H b = some o → H' b = some o) {o : O} (h : ObjR Γ g H a o) : ObjR Γ g' H' a o := by
  cases o with
  | lst ds => obtain ⟨xs, h1, h2⟩ := h; exact ⟨xs, e _ _ (.inl rfl) h1, h2.mono pg t⟩
  | ins c fs => obtain ⟨C, dx, vs, h0, h1, h2⟩ := h; exact ⟨C, dx, vs, h0, e _ _ (.inl rfl) h1, h2.mono pg t⟩
  | exc c fs =>
    obtain ⟨C, d, vs, h0, h1, h2, h3⟩ := h
    refine ⟨C, d, vs, h0, e _ _ (.inl rfl) h1, ?_, h3.mono pg t⟩
    cases d with
    | none => exact h2
    | some d => exact e _ _ (.inr ⟨_, rfl⟩) h2
  | dct ks ds =>
    obtain ⟨kvs, h1, h2, h3⟩ := h
    exact ⟨kvs, e _ _ (.inl rfl) h1, h2, h3.mono pg t⟩
  | sd ks ds =>
    obtain ⟨kvs, h1, h2, h3⟩ := h
    exact ⟨kvs, e _ _ (.inl rfl) h1, h2, h3.mono pg t⟩
  | zd ks ds =>
    obtain ⟨o, kvs, h1, h2, h3⟩ := h
    exact ⟨o, kvs, e _ _ (.inl rfl) h1, h2, h3.mono pg t⟩
theorem ObjR.there {o : O} (h : ObjR Γ g H a o) : H a ≠ none := by
  cases o with
  | lst ds => obtain ⟨xs, h1, _⟩ := h; rw [h1]; simp
  | ins c fs => obtain ⟨C, dx, vs, _, h1, _⟩ := h; rw [h1]; simp
  | exc c fs => obtain ⟨C, d, vs, _, h1, _⟩ := h; rw [h1]; simp
  | dct ks ds => obtain ⟨kvs, h1, _⟩ := h; rw [h1]; simp
  | sd ks ds => obtain ⟨kvs, h1, _⟩ := h; rw [h1]; simp
  | zd ks ds => obtain ⟨o, kvs, h1, _⟩ := h; rw [h1]; simp
theorem Rel.there (R : Rel Γ g m H) (h : a ∈ g.hs) : H a ≠ none := by
  obtain ⟨n, hn⟩ := List.getElem?_of_mem h
  have hl : n < m.length := by rw [← R.len]; exact (List.getElem?_eq_some_iff.mp hn).1
  exact (R.obj n _ a (List.getElem?_eq_getElem hl) hn).there
theorem Rel.fresh (R : Rel Γ g m H) (h : H p = none) : p ∉ g.hs := fun z => R.there z h
theorem Rel.freshF {o : HO} (R : Rel Γ g m H) (h : H p = none) : (p, o) ∉ g.fz := fun z => by
  have := R.frz _ _ z
  rw [h] at this
  cases this
theorem Rel.freshP {o : HO} (R : Rel Γ g m H) (h : H p = none) : (p, o) ∉ g.pv := fun z => by
  have := R.prv _ _ z
  rw [h] at this
  cases this
theorem TabG.go {P : Addr} {q : Str} (t : TabG g H P q) (p : ∀ x, x ∈ g.fz → x ∈ g'.fz) (e : ∀ ps, H P = some (.tbl ps) → H' P = some (.tbl ps)) : TabG g' H' P q := by
  obtain ⟨ps, h1, h2, h3⟩ := t
  refine ⟨ps, e _ h1, h2, fun pos cv hc => ?_⟩
  obtain ⟨c, e1, e2⟩ := h3 pos cv hc
  exact ⟨c, e1, p _ e2⟩
theorem tab_new {T : List (Addr × Str)} {o : HO} (t : ∀ x, x ∈ T → TabG g H x.1 x.2) (h : H p = none) : ∀ x, x ∈ T → TabG g (upd H p o) x.1 x.2 := fun x hx => (t x hx).go (fun _ z => z) fun ps e => by rw [upd_ne (ne_of_none e h)]; exact e
theorem tab_mut {T : List (Addr × Str)} {o : HO} (t : ∀ x, x ∈ T → TabG g H x.1 x.2) (hm : Mut (H a)) : ∀ x, x ∈ T → TabG g (upd H a o) x.1 x.2 := fun x hx => (t x hx).go (fun _ z => z) fun ps e => by
  rw [upd_ne (fun z => by rw [z] at e; rw [e] at hm; exact hm)]
  exact e
theorem tab_fz {T : List (Addr × Str)} {H : Hp} (t : ∀ x, x ∈ T → TabG g H x.1 x.2) (p : ∀ x, x ∈ g.fz → x ∈ g'.fz) : ∀ x, x ∈ T → TabG g' H x.1 x.2 := fun x hx => (t x hx).go p fun _ e => e
theorem Rel.laid {o : HO} (R : Rel Γ g m H) (h : H p = none) (hf : noFrz o = true := by rfl) : Rel Γ g m (upd H p o) := ⟨R.len, R.inj, fun n ob a h1 h2 =>
  (R.obj n ob a h1 h2).mono (Lv0.refl g) (TK.new h hf) fun b u _ hu => by rw [upd_ne (ne_of_none hu h)]; exact hu,
  fun a o e => by rw [upd_ne (ne_of_none (R.frz a o e) h)]; exact R.frz a o e, fun a o e => by rw [upd_ne (ne_of_none (R.prv a o e) h)]; exact R.prv a o e, R.hf, R.hp, R.pf, R.lf, R.lp, fun b ob w e => R.ff b ob w (upd_nof hf e), tab_new R.tab h⟩
def Gh.addH (g : Gh) (p : Addr) : Gh := ⟨g.hs ++ [p], g.fz, g.pv⟩
def Gh.addF (g : Gh) (p : Addr) (o : HO) : Gh := ⟨g.hs, (p, o) :: g.fz, g.pv⟩
def Gh.addP (g : Gh) (p : Addr) (o : HO) : Gh := ⟨g.hs, g.fz, (p, o) :: g.pv⟩
def Gh.outP (g : Gh) (p : Addr) : Gh := ⟨g.hs, g.fz, g.pv.filter fun q => decide (q.1 ≠ p)⟩
theorem le_addH : Le g (g.addH p) := ⟨List.prefix_append _ _, fun _ h => h, fun _ h => h⟩
theorem le_addF {o : HO} : Le g (g.addF p o) := ⟨List.prefix_refl _, fun _ h => List.mem_cons_of_mem _ h, fun _ h => h⟩
theorem le_addP {o : HO} : Le g (g.addP p o) := ⟨List.prefix_refl _, fun _ h => h, fun _ h => List.mem_cons_of_mem _ h⟩
theorem lv_outP : Lv0 g (g.outP p) := ⟨List.prefix_refl _, fun _ h => h⟩
theorem mem_outP {q : Addr × HO} : q ∈ (g.outP p).pv ↔ q ∈ g.pv ∧ q.1 ≠ p := by simp [Gh.outP]
theorem Rel.push {u : HO} {o : O} (R : Rel Γ g m H) (h : H p = none) (ho : ObjR Γ (g.addH p) (upd H p u) p o) (hf : noFrz u = true := by rfl) : Rel Γ (g.addH p) (m ++ [o]) (upd H p u) := by
  refine ⟨by simp [Gh.addH, R.len], ?_, fun n ob a h1 h2 => ?_, (R.laid h hf).frz, (R.laid h hf).prv, fun b w hb => ?_, fun b w hb => ?_, R.pf, R.lf, R.lp, fun b ob w e => R.ff b ob w (upd_nof hf e), tab_new R.tab h⟩
  · show (g.hs ++ [p]).Nodup
    rw [List.nodup_append]
    refine ⟨R.inj, by simp, fun x hx y hy => ?_⟩
    have e : y = p := by simpa using hy
    subst e
    exact fun z => R.fresh h (z ▸ hx)
  · change (g.hs ++ [p])[n]? = some a at h2
    by_cases hn : n < m.length
    · rw [List.getElem?_append_left hn] at h1
      rw [List.getElem?_append_left (by rw [R.len]; exact hn)] at h2
      exact (R.obj n ob a h1 h2).mono le_addH.v (TK.new h hf) fun b w _ hw => by rw [upd_ne (ne_of_none hw h)]; exact hw
    · have hl : n < (m ++ [o]).length := (List.getElem?_eq_some_iff.mp h1).1
      have e : n = m.length := by simp at hl; omega
      subst e
      have e1 : (m ++ [o])[m.length]? = some o := by simp
      rw [e1] at h1
      cases h1
      rw [← R.len] at h2
      have e2 : (g.hs ++ [p])[g.hs.length]? = some p := by simp
      rw [e2] at h2
      cases h2
      exact ho
  · rcases List.mem_append.mp hb with z | z
    · exact R.hf b w z
    · rw [List.mem_singleton.mp z]
      exact R.freshF h
  · rcases List.mem_append.mp hb with z | z
    · exact R.hp b w z
    · rw [List.mem_singleton.mp z]
      exact R.freshP h
theorem Rel.write {u : HO} {o : O} (R : Rel Γ g m H) (hm : Mut (H a)) (hn : g.hs[n]? = some a) (ho : ObjR Γ g (upd H a u) a o) (hf : noFrz u = true := by rfl) : Rel Γ g (m.set n o) (upd H a u) := by
  have ha : a ∈ g.hs := List.mem_of_getElem? hn
  refine ⟨by rw [List.length_set]; exact R.len, R.inj, fun k ob b h1 h2 => ?_, fun b w hb => ?_, fun b w hb => ?_, R.hf, R.hp, R.pf, R.lf, R.lp, fun b ob w e => R.ff b ob w (upd_nof hf e), tab_mut R.tab hm⟩
  · by_cases hk : n = k
    · subst hk
      have hl : n < m.length := by rw [← R.len]; exact (List.getElem?_eq_some_iff.mp hn).1
      rw [List.getElem?_set_self hl] at h1
      cases h1
      rw [hn] at h2
      cases h2
      exact ho
    · rw [List.getElem?_set_ne hk] at h1
      have hab : b ≠ a := fun z => by
        subst z
        have h3 := List.getElem?_eq_some_iff.mp hn
        have h4 := List.getElem?_eq_some_iff.mp h2
        exact hk ((List.getElem_inj R.inj).mp (h3.2.trans h4.2.symm))
      exact (R.obj k ob b h1 h2).mono (Lv0.refl g) (TK.mut hm hf) fun b2 w hb2 hw => by
        rcases hb2 with rfl | ⟨vs, rfl⟩
        · rw [upd_ne hab]; exact hw
        · rw [upd_ne (mut_xd hm hw)]; exact hw
  · rw [upd_ne (fun z => by subst z; exact R.hf _ _ ha hb)]
    exact R.frz b w hb
  · rw [upd_ne (fun z => by subst z; exact R.hp _ _ ha hb)]
    exact R.prv b w hb
theorem Rel.newF {u : HO} (R : Rel Γ g m H) (h : H p = none) (hf : noFrz u = true := by rfl) (hl : isL Γ.cls.dk u = true := by rfl) : Rel Γ (g.addF p u) m (upd H p u) := by
  have L := R.laid (o := u) h hf
  refine ⟨R.len, R.inj, fun n ob a h1 h2 => (L.obj n ob a h1 h2).mono le_addF.v (TK.refl _) fun _ _ _ z => z, fun b w hb => ?_, L.prv, fun b w hb hz => ?_, R.hp, fun b w v hb hz => ?_, fun q hq => by rcases List.mem_cons.mp hq with e | e <;> first | (subst e; exact hl) | exact R.lf q e, R.lp, fun b ob w e => R.ff b ob w (upd_nof hf e), tab_fz L.tab fun _ z => List.mem_cons_of_mem _ z⟩
  · rcases List.mem_cons.mp hb with e | e
    · cases e
      exact upd_same
    · exact L.frz b w e
  · rcases List.mem_cons.mp hz with e | e
    · cases e
      exact R.fresh h hb
    · exact R.hf b w hb e
  · rcases List.mem_cons.mp hz with e | e
    · cases e
      exact R.freshP h hb
    · exact R.pf b w v hb e
theorem Rel.newP {u : HO} (R : Rel Γ g m H) (h : H p = none) (hf : noFrz u = true := by rfl) (hl : isL Γ.cls.dk u = true := by rfl) : Rel Γ (g.addP p u) m (upd H p u) := by
  have L := R.laid (o := u) h hf
  refine ⟨R.len, R.inj, fun n ob a h1 h2 => (L.obj n ob a h1 h2).mono le_addP.v (TK.refl _) fun _ _ _ z => z, L.frz, fun b w hb => ?_, R.hf, fun b w hb hz => ?_, fun b w v hb hz => ?_, R.lf, fun q hq => by rcases List.mem_cons.mp hq with e | e <;> first | (subst e; exact hl) | exact R.lp q e, fun b ob w e => R.ff b ob w (upd_nof hf e), L.tab⟩
  · rcases List.mem_cons.mp hb with e | e
    · cases e
      exact upd_same
    · exact L.prv b w e
  · rcases List.mem_cons.mp hz with e | e
    · cases e
      exact R.fresh h hb
    · exact R.hp b w hb e
  · rcases List.mem_cons.mp hb with e | e
    · cases e
      exact R.freshF h hz
    · exact R.pf b w v e hz
theorem Rel.setP {u w : HO} (R : Rel Γ g m H) (hm : Mut (H a)) (h : (a, u) ∈ g.pv) (hf : noFrz w = true := by rfl) (hl : isL Γ.cls.dk w = true := by rfl) : Rel Γ ((g.outP a).addP a w) m (upd H a w) := by
  have hh : a ∉ g.hs := fun z => R.hp a u z h
  have lv : Lv0 g ((g.outP a).addP a w) := ⟨List.prefix_refl _, fun _ z => z⟩
  refine ⟨R.len, R.inj, fun n ob b h1 h2 => (R.obj n ob b h1 h2).mono lv (TK.mut hm hf) fun b2 v hb2 hv => ?_, fun b v hb => ?_, fun b v hb => ?_, R.hf, fun b v hb hz => ?_, fun b v x hb hz => ?_, R.lf, fun q hq => by rcases List.mem_cons.mp hq with e | e <;> first | (subst e; exact hl) | exact R.lp q (mem_outP.mp e).1, fun b ob w e => R.ff b ob w (upd_nof hf e), tab_mut R.tab hm⟩
  · rcases hb2 with rfl | ⟨vs, rfl⟩
    · rw [upd_ne (fun z => by subst z; exact hh (List.mem_of_getElem? h2))]
      exact hv
    · rw [upd_ne (mut_xd hm hv)]
      exact hv
  · rw [upd_ne (fun z => by subst z; exact R.pf _ _ _ h hb)]
    exact R.frz b v hb
  · rcases List.mem_cons.mp hb with e | e
    · cases e
      exact upd_same
    · obtain ⟨e1, e2⟩ := mem_outP.mp e
      rw [upd_ne e2]
      exact R.prv b v e1
  · rcases List.mem_cons.mp hz with e | e
    · cases e
      exact hh hb
    · exact R.hp b v hb (mem_outP.mp e).1
  · rcases List.mem_cons.mp hb with e | e
    · cases e
      exact R.pf _ _ _ h hz
    · exact R.pf b v x (mem_outP.mp e).1 hz
theorem Rel.frzP {u : HO} (R : Rel Γ g m H) (h : (a, u) ∈ g.pv) : Rel Γ ((g.outP a).addF a u) m H := by
  have lv : Lv0 g ((g.outP a).addF a u) := ⟨List.prefix_refl _, fun _ z => List.mem_cons_of_mem _ z⟩
  refine ⟨R.len, R.inj, fun n ob b h1 h2 => (R.obj n ob b h1 h2).mono lv (TK.refl _) fun _ _ _ hv => hv, fun b v hb => ?_, fun b v hb => R.prv b v (mem_outP.mp hb).1, fun b v hb hz => ?_, fun b v hb hz => R.hp b v hb (mem_outP.mp hz).1, fun b v x hb hz => ?_, fun q hq => by rcases List.mem_cons.mp hq with e | e <;> first | (subst e; exact R.lp _ h) | exact R.lf q e, fun q hq => R.lp q (mem_outP.mp hq).1, R.ff, tab_fz R.tab fun _ z => List.mem_cons_of_mem _ z⟩
  · rcases List.mem_cons.mp hb with e | e
    · cases e
      exact R.prv _ _ h
    · exact R.frz b v e
  · rcases List.mem_cons.mp hz with e | e
    · cases e
      exact R.hp _ _ hb h
    · exact R.hf b v hb e
  · obtain ⟨e1, e2⟩ := mem_outP.mp hb
    rcases List.mem_cons.mp hz with e | e
    · cases e
      exact e2 rfl
    · exact R.pf b v x e1 e
theorem Rel.at (R : Rel Γ g m H) {o : O} (h : m[n]? = some o) : ∃ a, g.hs[n]? = some a ∧ ObjR Γ g H a o := by
  have hl : n < g.hs.length := by rw [R.len]; exact (List.getElem?_eq_some_iff.mp h).1
  exact ⟨g.hs[n], List.getElem?_eq_getElem hl, R.obj n o _ h (List.getElem?_eq_getElem hl)⟩
theorem Rel.lst (R : Rel Γ g m H) {ds : List D} {a : Addr} (h : m[n]? = some (.lst ds)) (hg : g.hs[n]? = some a) : ∃ xs, H a = some (.lst xs) ∧ RepL Γ.K g H xs ds := R.obj n _ a h hg
theorem Rel.ins (R : Rel Γ g m H) {c : Nat} {fs : List (Str × D)} {a : Addr} (h : m[n]? = some (.ins c fs)) (hg : g.hs[n]? = some a) : ∃ C dx vs, Γ.cls c = some C ∧ H a = some (.ins C dx vs) ∧ RepF Γ.K g H vs fs := R.obj n _ a h hg
theorem RelS.setP {xs : List D} {vs : List V} {i : Nat} {vs0 : List V} {xs0 : List D} (R : Rel Γ g m H) (h : RelS Γ gB g H ρ σ) (hi : ρ[i]? = some (.own xs0)) (hs : σ[i]? = some (some (.ref a))) (hm : Mut (H a))
    (ho : ∀ u, (a, u) ∉ gB.pv) (r : RepL Γ.K g H vs xs) : RelS Γ gB ((g.outP a).addP a (.lst vs)) (upd H a (.lst vs)) (ρ.set i (.own xs)) σ := by
  have hil : i < ρ.length := (List.getElem?_eq_some_iff.mp hi).1
  have lv : Lv0 g ((g.outP a).addP a (.lst vs)) := ⟨List.prefix_refl _, fun _ z => z⟩
  refine ⟨by rw [List.length_set]; exact h.len, fun j e hj => ?_, fun j ys hj => ?_, fun j l ys zs b hj hl h1 h2 => ?_, fun j w hj => by
    rcases set_at hj with ⟨rfl, e, _⟩ | ⟨hij, hj⟩
    · cases e
    · exact h.raw j w hj⟩
  · rcases set_at hj with ⟨rfl, e, hi⟩ | ⟨hij, hj⟩
    · cases e
    · obtain ⟨u, h1, h2⟩ := h.val j e hj
      exact ⟨u, h1, h2.mono lv (TK.mut hm)⟩
  · rcases set_at hj with ⟨rfl, e, _⟩ | ⟨hij, hj⟩
    · cases e
      exact ⟨a, vs, hs, List.mem_cons_self, r.mono lv (TK.mut hm), ho⟩
    · obtain ⟨b, ws, h1, h2, h3, h4⟩ := h.own j ys hj
      refine ⟨b, ws, h1, List.mem_cons_of_mem _ (mem_outP.mpr ⟨h2, fun z => ?_⟩), h3.mono lv (TK.mut hm), h4⟩
      have z : b = a := z
      subst z
      exact hij (h.inj i j xs0 ys b hi hj hs h1)
  · have key : ∀ k ws, (ρ.set i (Sl.own xs))[k]? = some (Sl.own ws) → ∃ ws, ρ[k]? = some (Sl.own ws) := fun k ws hk => by
      rcases set_at hk with ⟨rfl, _, _⟩ | ⟨_, hk⟩
      · exact ⟨_, hi⟩
      · exact ⟨_, hk⟩
    obtain ⟨_, k1⟩ := key _ _ hj
    obtain ⟨_, k2⟩ := key _ _ hl
    exact h.inj j l _ _ b k1 k2 h1 h2
theorem RelS.newP {xs : List D} {vs : List V} {i : Nat} (R : Rel Γ g m H) (h : RelS Γ gB g H ρ σ) (hp : H p = none) (hB : ∀ q, q ∈ gB.pv → q ∈ g.pv) (r : RepL Γ.K g H vs xs) : RelS Γ gB (g.addP p (.lst vs)) (upd H p (.lst vs)) (ρ.set i (.own xs)) (σ.set i (some (.ref p))) := by
  have h' := h.mono (le_addP (p := p) (o := .lst vs)) (TK.new (o := .lst vs) hp)
  have nop : ∀ j ys, ρ[j]? = some (Sl.own ys) → σ[j]? = some (some (V.ref p)) → False := fun j ys hj h1 => by
    obtain ⟨b, ws, h2, h3, _⟩ := h.own j ys hj
    rw [h1] at h2
    cases h2
    exact R.freshP hp h3
  refine ⟨by rw [List.length_set, List.length_set]; exact h.len, fun j e hj => ?_, fun j ys hj => ?_, fun j l ys zs b hj hl h1 h2 => ?_, fun j w hj => by
    rcases set_at hj with ⟨rfl, e, hi⟩ | ⟨hij, hj⟩
    · cases e
    · rw [List.getElem?_set_ne hij]; exact h.raw j w hj⟩
  · rcases set_at hj with ⟨rfl, e, hi⟩ | ⟨hij, hj⟩
    · cases e
    · obtain ⟨u, h1, h2⟩ := h'.val j e hj
      exact ⟨u, by rw [List.getElem?_set_ne hij]; exact h1, h2⟩
  · rcases set_at hj with ⟨rfl, e, hi⟩ | ⟨hij, hj⟩
    · cases e
      exact ⟨p, vs, by rw [List.getElem?_set_self (by rw [← h.len]; exact hi)], List.mem_cons_self, r.mono le_addP.v (TK.new hp), fun u hu => R.freshP hp (hB _ hu)⟩
    · obtain ⟨b, ws, h1, h2⟩ := h'.own j ys hj
      exact ⟨b, ws, by rw [List.getElem?_set_ne hij]; exact h1, h2⟩
  · rcases set_at hj with ⟨rfl, e, hi⟩ | ⟨hij, hj⟩
    · rcases set_at hl with ⟨e2, _, _⟩ | ⟨hil, hl⟩
      · exact e2
      · rw [List.getElem?_set_self (by rw [← h.len]; exact hi)] at h1
        cases h1
        rw [List.getElem?_set_ne hil] at h2
        exact (nop _ _ hl h2).elim
    · rw [List.getElem?_set_ne hij] at h1
      rcases set_at hl with ⟨rfl, e, hi⟩ | ⟨hil, hl⟩
      · rw [List.getElem?_set_self (by rw [← h.len]; exact hi)] at h2
        cases h2
        exact (nop _ _ hj h1).elim
      · rw [List.getElem?_set_ne hil] at h2
        exact h.inj j l _ _ b hj hl h1 h2
theorem RelS.outP {xs : List D} {i : Nat} {g2 : Gh} {d : D} (h : RelS Γ gB g H ρ σ) (hi : ρ[i]? = some (.own xs)) (hs : σ[i]? = some (some (.ref a))) (lv : Lv0 g g2) (hg : ∀ q, q ∈ g.pv → q.1 ≠ a → q ∈ g2.pv) (r : Rep Γ.K g2 H (.ref a) d) : RelS Γ gB g2 H (ρ.set i (.val d)) σ := by
  refine ⟨by rw [List.length_set]; exact h.len, fun j e hj => ?_, fun j ys hj => ?_, fun j l ys zs b hj hl h1 h2 => ?_, fun j w hj => by
    rcases set_at hj with ⟨rfl, e, _⟩ | ⟨hij, hj⟩
    · cases e
    · exact h.raw j w hj⟩
  · rcases set_at hj with ⟨rfl, e, hi⟩ | ⟨hij, hj⟩
    · cases e
      exact ⟨_, hs, r⟩
    · obtain ⟨u, h1, h2⟩ := h.val j e hj
      exact ⟨u, h1, h2.mono lv (TK.refl _)⟩
  · rcases set_at hj with ⟨rfl, e, _⟩ | ⟨hij, hj⟩
    · cases e
    · obtain ⟨b, ws, h1, h2, h3, h4⟩ := h.own j ys hj
      refine ⟨b, ws, h1, hg _ h2 fun z => ?_, h3.mono lv (TK.refl _), h4⟩
      have z : b = a := z
      subst z
      exact hij (h.inj i j xs ys b hi hj hs h1)
  · rcases set_at hj with ⟨rfl, e, _⟩ | ⟨hij, hj⟩
    · cases e
    rcases set_at hl with ⟨rfl, e, _⟩ | ⟨hil, hl⟩
    · cases e
    exact h.inj j l _ _ b hj hl h1 h2
end
end G
set_option maxHeartbeats 1000000
namespace G
open PySem L2
structure Cc where
  cls : Cl
  W : WX
  gB : Gh
  H0 : Hp
structure TW (H H' : Hp) : Prop where
  tup : ∀ a xs, H a = some (.tup xs) → H' a = some (.tup xs)
  frz : ∀ a o u, H a = some (.frz o u) → H' a = some (.frz o u)
theorem TW.refl (H : Hp) : TW H H := ⟨fun _ _ h => h, fun _ _ _ h => h⟩
theorem TW.go {H H1 H2 : Hp} (a : TW H H1) (b : TK H1 H2) : TW H H2 := ⟨fun x xs h => b.tup x xs (a.tup x xs h), fun x o u h => b.frz x o u (a.frz x o u h)⟩
def H00 : Hp := fun _ => none
theorem TW.nil {H : Hp} : TW H00 H := ⟨fun _ _ h => (nomatch (show (none : Option HO) = some _ from h)), fun _ _ _ h => (nomatch (show (none : Option HO) = some _ from h))⟩
section
variable (Γ : Cst) (W : WX)
def PostX (σ : St) (g : Gh) (H : Hp) (c : Nat) (fs : List (Str × D)) (m : Hs) : Prop :=
  ∀ g' H' C d vs, Le g g' → TK H H' → Rel Γ g' m H' → Γ.cls c = some C → XDx H' d vs → RepF Γ.K g' H' vs fs → W (.ref C) d σ H'
def Post {α A : Type} (rep : Gh → Hp → A → α → Prop) (σ : St) (g : Gh) (H : Hp) (Q : A → Hp → Prop) : Rs α → Prop
  | .ok x m => ∀ g' H' v, Le g g' → TK H H' → Rel Γ g' m H' → rep g' H' v x → Q v H'
  | .ex c fs m => PostX Γ W σ g H c fs m
  | .bad => False
structure At (C : Cc) (ρ : List Sl) (σ : St) (H : Hp) (g : Gh) (m : Hs) : Prop where
  le : Le C.gB g
  rel : Rel Γ g m H
  rs : RelS Γ C.gB g H ρ σ
  tw : TW C.H0 H
end
def tG {α A : Type} (Γ : Cst) (C : Cc) (ρ : List Sl) (rep : Gh → Hp → A → α → Prop) (t : M α) : St → Hp → (A → Hp → Prop) → Prop := fun σ H Q =>
  ∃ g m, At Γ C ρ σ H g m ∧ Post Γ C.W rep σ g H Q (t m)
section
variable {Γ : Cst} {W : WX} {C : Cc} {ρ : List Sl} {α β A B : Type} {rep : Gh → Hp → A → α → Prop} {repB : Gh → Hp → B → β → Prop} {σ : St} {g g' : Gh} {H H' : Hp} {m m' : Hs}
theorem At.mono (a : At Γ C ρ σ H g m) (p : Le g g') (t : TK H H') (rel : Rel Γ g' m' H') : At Γ C ρ σ H' g' m' := ⟨a.le.trans p, rel, a.rs.mono p t, a.tw.go t⟩
theorem At.keep (a : At Γ C ρ σ H g m) (t : TK H H') (rel : Rel Γ g m' H') : At Γ C ρ σ H' g m' := a.mono (Le.refl g) t rel
theorem PostX.mono {c : Nat} {fs : List (Str × D)} {m : Hs} (p : Le g g') (t : TK H H') (h : PostX Γ W σ g H c fs m) : PostX Γ W σ g' H' c fs m :=
  fun g2 H2 C d vs p2 t2 => h g2 H2 C d vs (p.trans p2) (t.trans t2)
theorem Post.mono {Q : A → Hp → Prop} {r : Rs α} (p : Le g g') (t : TK H H') (h : Post Γ W rep σ g H Q r) : Post Γ W rep σ g' H' Q r := by
  cases r with
  | ok x m => exact fun g2 H2 v p2 t2 => h g2 H2 v (p.trans p2) (t.trans t2)
  | ex c fs m => exact PostX.mono p t h
  | bad => exact h
theorem Post.bind {Q : B → Hp → Prop} {R : A → Hp → Prop} {r : Rs α} {h : α → Hs → Rs β} (q : Post Γ W repB σ g H Q (r.bind h))
    (k : ∀ g' H' m v x, Le g g' → TK H H' → Rel Γ g' m H' → rep g' H' v x → Post Γ W repB σ g' H' Q (h x m) → R v H') : Post Γ W rep σ g H R r := by
  cases r with
  | ok x m => exact fun g' H' v p t rel hv => k g' H' m v x p t rel hv (Post.mono p t q)
  | ex c fs m => exact q
  | bad => exact q
theorem tG.bind {Q : B → Hp → Prop} {R : A → Hp → Prop} {t : M α} {f : α → M β} (q : tG Γ C ρ repB (bnd t f) σ H Q)
    (k : ∀ g' H' m v x, At Γ C ρ σ H' g' m → rep g' H' v x → Post Γ C.W repB σ g' H' Q (f x m) → R v H') : tG Γ C ρ rep t σ H R := by
  obtain ⟨g, m, a, q⟩ := q
  exact ⟨g, m, a, Post.bind q fun g' H' m' v x p t rel' hv q' => k g' H' m' v x (a.mono p t rel') hv q'⟩
theorem Post.ret {Q : A → Hp → Prop} {x : α} {m : Hs} {v : A} (q : Post Γ W rep σ g H Q (.ok x m)) (rel : Rel Γ g m H) (hv : rep g H v x) : Q v H := q g H v (Le.refl g) (TK.refl H) rel hv
theorem Post.opt {Q : A → Hp → Prop} {o : Option α} (q : Post Γ W rep σ g H Q (opt o m)) : ∃ x, o = some x ∧ Post Γ W rep σ g H Q (.ok x m) := by
  cases o with
  | none => exact q.elim
  | some x => exact ⟨x, rfl, q⟩
theorem Post.ask {Q : B → Hp → Prop} {f : Hs → Option α} {h : α → M β} (q : Post Γ W repB σ g H Q (bnd (ask f) h m)) : ∃ x, f m = some x ∧ Post Γ W repB σ g H Q (h x m) := by
  unfold bnd G.ask at q
  cases hz : f m with
  | none => rw [hz] at q; exact q.elim
  | some x => rw [hz] at q; exact ⟨x, rfl, q⟩
theorem Post.ite {Q : A → Hp → Prop} {c : Prop} [Decidable c] {t : M α} (q : Post Γ W rep σ g H Q ((if c then t else bad) m)) : c ∧ Post Γ W rep σ g H Q (t m) := by
  split at q
  · exact ⟨by assumption, q⟩
  · exact q.elim
end
abbrev rD (Γ : Cst) : Gh → Hp → V → D → Prop := fun g H v d => Rep Γ.K g H v d
abbrev rL (Γ : Cst) : Gh → Hp → List V → List D → Prop := fun g H v d => RepL Γ.K g H v d
abbrev rB : Gh → Hp → Bool → Bool → Prop := fun _ _ v b => v = b
def tE (Γ : Cst) (C : Cc) (ρ : List Sl) (t : M D) : TE := tG Γ C ρ (rD Γ) t
def tEs (Γ : Cst) (C : Cc) (ρ : List Sl) (t : M (List D)) : TA := tG Γ C ρ (rL Γ) t
def tT (Γ : Cst) (C : Cc) (ρ : List Sl) (t : M D) : TT := tG Γ C ρ rB (bnd t tru)
theorem pe_imp {X : Cx} {e : Expr} {t t' : TE} (h : PE X e t) (k : ∀ σ H Q, t' σ H Q → t σ H Q) : PE X e t' := ⟨fun pins s σ H Q I q => h.run pins s σ H Q I (k σ H Q q)⟩
theorem pt_imp {X : Cx} {e : Expr} {t t' : TT} (h : PT X e t) (k : ∀ σ H Q, t' σ H Q → t σ H Q) : PT X e t' := ⟨fun pins s σ H Q I q => h.run pins s σ H Q I (k σ H Q q)⟩
theorem pw_imp {X : Cx} {e : Expr} {t t' : TT} (h : PW X e t) (k : ∀ σ H Q, t' σ H Q → t σ H Q) : PW X e t' := ⟨fun wh pins s σ H Q I q => h.run wh pins s σ H Q I (k σ H Q q)⟩
theorem pa_imp {X : Cx} {e : List Expr} {t t' : TA} (h : PA X e t) (k : ∀ σ H Q, t' σ H Q → t σ H Q) : PA X e t' := ⟨fun pos pins s σ H Q I q => h.run pos pins s σ H Q I (k σ H Q q)⟩
theorem ps_imp {X : Cx} {e : Stmt} {t t' : TS} (h : PS X e t) (k : ∀ De σ H, t' De σ H → t De σ H) : PS X e t' := ⟨fun pins s σ H De I q => h.run pins s σ H De I (k De σ H q)⟩
theorem pss_imp {X : Cx} {e : List Stmt} {t t' : TS} (h : PSs X e t) (k : ∀ De σ H, t' De σ H → t De σ H) : PSs X e t' := ⟨fun pins s σ H De I q => h.run pins s σ H De I (k De σ H q)⟩
abbrev PEc (X : Cx) (C : Cc) (ρ : List Sl) (e : Expr) (t : M D) : Prop := PE X e (tE ⟨X.K, C.cls⟩ C ρ t)
abbrev PTc (X : Cx) (C : Cc) (ρ : List Sl) (e : Expr) (t : M D) : Prop := PT X e (tT ⟨X.K, C.cls⟩ C ρ t)
abbrev PWc (X : Cx) (C : Cc) (ρ : List Sl) (e : Expr) (t : M D) : Prop := PW X e (tT ⟨X.K, C.cls⟩ C ρ t)
abbrev PAc (X : Cx) (C : Cc) (ρ : List Sl) (e : List Expr) (t : M (List D)) : Prop := PA X e (tEs ⟨X.K, C.cls⟩ C ρ t)
section
variable {X : Cx} {C : Cc} {ρ : List Sl}
theorem c_var {e : Expr} {i : Nat} {d : D} (h : PE X e (tVar i)) (hi : ρ[i]? = some (.val d)) : PEc X C ρ e (ret d) := pe_imp h fun σ H Q q => by
  obtain ⟨g, m, a, q⟩ := q
  obtain ⟨v, h1, h2⟩ := a.rs.val i d hi
  exact ⟨v, h1, q.ret a.rel h2⟩
theorem c_cst {e : Expr} {v : V} {d : D} (h : PE X e (tC v)) (hv : ∀ g H, Rep X.K g H v d) : PEc X C ρ e (ret d) := pe_imp h fun σ H Q q => by
  obtain ⟨g, m, a, q⟩ := q
  exact q.ret a.rel (hv g H)
theorem c_int {i : Int} {j pos} : PEc X C ρ (.Constant (.int i) j pos) (ret (.int i)) := c_cst pe_int fun _ _ => .int i
theorem c_bl {i : Bool} {j pos} : PEc X C ρ (.Constant (.bool i) j pos) (ret (.bl i)) := c_cst pe_bl fun _ _ => .bl i
theorem c_non {j pos} : PEc X C ρ (.Constant .none j pos) (ret .non) := c_cst pe_non fun _ _ => .non
theorem c_str {i : Str} {j pos} : PEc X C ρ (.Constant (.str i) j pos) (ret (.str i)) := c_cst pe_str fun _ _ => .str i
theorem opOr {f : Value → Value → Sem Value} {r r' : R2} (h : OpR X f r) (h' : OpR X f r') : OpR X f (fun x y H Q => r x y H Q ∨ r' x y H Q) := fun pins s σ H x y u v Q I rx ry q => by
  rcases q with q | q
  · exact h pins s σ H x y u v Q I rx ry q
  · exact h' pins s σ H x y u v Q I rx ry q
def Serves (X : Cx) (cls : Cl) (r : R2) (f : D → D → M D) : Prop := ∀ (W : WX) (σ : St) (g : Gh) (H : Hp) (m : Hs) (vx vy : V) (x y : D) (Q : VK),
  Rel ⟨X.K, cls⟩ g m H → Rep X.K g H vx x → Rep X.K g H vy y → Post ⟨X.K, cls⟩ W (rD ⟨X.K, cls⟩) σ g H Q (f x y m) → r vx vy H Q
theorem two {r : R2} {f : D → D → M D} {a b : M D} {σ : St} {H : Hp} {Q : VK} (sv : Serves X C.cls r f)
    (q : tG ⟨X.K, C.cls⟩ C ρ (rD ⟨X.K, C.cls⟩) (bnd a fun x => bnd b fun y => f x y) σ H Q) : tOp r (tE ⟨X.K, C.cls⟩ C ρ a) (tE ⟨X.K, C.cls⟩ C ρ b) σ H Q := by
  refine tG.bind q fun g1 H1 m1 v1 x1 at1 hv1 q1 => ?_
  refine ⟨g1, m1, at1, Post.bind q1 fun g2 H2 m2 v2 x2 p t rel2 hv2 q2 => ?_⟩
  exact sv C.W σ g2 H2 m2 v1 v2 x1 x2 Q rel2 (hv1.mono p.v t) hv2 q2
theorem c_bin {e1 e2 : Expr} {a b : M D} {o : Op} {op : Operator} {r : R2} {pos : Pos} (ho : OpR X (binaryOp op) r) (sv : Serves X C.cls r (binS o)) (ha : PEc X C ρ e1 a) (hb : PEc X C ρ e2 b) : PEc X C ρ (.BinOp e1 op e2 pos) (binM o a b) :=
  pe_imp (pe_op ho ha hb) fun σ H Q q => two sv q
theorem c_cmp {e1 e2 : Expr} {a b : M D} {o : Cp} {op : CmpOp} {r : R2} {pos : Pos} (ho : OpR X (compareOp op) r) (sv : Serves X C.cls r (cmpS o)) (hm : behindInMarks op e2 = false) (ha : PEc X C ρ e1 a) (hb : PEc X C ρ e2 b) : PEc X C ρ (.Compare e1 [op] [e2] pos) (cmpM o a b) :=
  pe_imp (pe_cmpR ho ha hb hm) fun σ H Q q => two sv q
section
variable {g : Gh} {H : Hp} {K : PySem.W.Frag} {v : V} {m : Hs} {σ : St} {W : WX} {cls : Cl}
theorem rep_str {i : Str} (h : Rep K g H v (.str i)) : v = .str i := by cases h; rfl
theorem rep_bl {i : Bool} (h : Rep K g H v (.bl i)) : v = .bl i := by cases h; rfl
theorem rep_non (h : Rep K g H v .non) : v = .non := by cases h; rfl
theorem rep_tup {ds : List D} (h : Rep K g H v (.tup ds)) : ∃ a xs, v = .ref a ∧ SqT K H a xs ∧ RepL K g H xs ds := by
  cases h with
  | tup h r => exact ⟨_, _, rfl, h, r⟩
theorem rep_kt {ds : List D} (h : Rep K g H v (.fd [.non] ds)) : ∃ a xs, v = .ref a ∧ H a = some (.tup xs) ∧ RepL K g H xs ds := by
  generalize e : D.fd [.non] ds = d at h
  cases h with
  | kt h r =>
    cases e
    exact ⟨_, _, rfl, h, r⟩
  | @fd a kvs ds2 h r =>
    injection e with e1 e2
    rcases kvs with _ | ⟨⟨k | k, v⟩, _ | ⟨p, r⟩⟩ <;> simp [keysK, keyD] at e1
  | _ => cases e
theorem Post.newT {Q : VK} {Γ : Cst} {ds : List D} {xs : List V} {p : Addr} (q : Post Γ W (rD Γ) σ g H Q (.ok (.tup ds) m)) (rel : Rel Γ g m H) (r : RepL Γ.K g H xs ds) (hp : H p = none) : Q (.ref p) (upd H p (.tup xs)) :=
  q g _ _ (Le.refl g) (TK.new hp) (rel.laid hp) (.tup (SqT.of upd_same) (r.mono (Lv0.refl g) (TK.new hp)))
theorem Post.newL {Q : VK} {Γ : Cst} {ds : List D} {xs : List V} {p : Addr} (q : Post Γ W (rD Γ) σ g H Q (.ok (.fl ds) m)) (rel : Rel Γ g m H) (r : RepL Γ.K g H xs ds) (hp : H p = none) : Q (.ref p) (upd H p (.lst xs)) :=
  q (g.addF p (.lst xs)) _ _ le_addF (TK.new hp) (rel.newF hp) (.fl List.mem_cons_self (r.mono le_addF.v (TK.new hp)))
theorem Post.newH {Q : VK} {Γ : Cst} {ds : List D} {xs : List V} {p : Addr} (q : Post Γ W (rD Γ) σ g H Q (.ok (.ref m.length) (m ++ [.lst ds]))) (rel : Rel Γ g m H) (r : RepL Γ.K g H xs ds) (hp : H p = none) : Q (.ref p) (upd H p (.lst xs)) :=
  q (g.addH p) _ _ le_addH (TK.new hp) (rel.push hp ⟨xs, upd_same, r.mono le_addH.v (TK.new hp)⟩) (.ref (by show (g.hs ++ [p])[m.length]? = _; rw [← rel.len]; simp))
theorem rep_lst {x : D} {ds : List D} (rel : Rel ⟨K, cls⟩ g m H) (h : Rep K g H v x) (e : lstOf x m = some ds) : ∃ a xs, v = .ref a ∧ H a = some (.lst xs) ∧ RepL K g H xs ds := by
  cases h with
  | fl h r =>
    simp only [lstOf, Option.some.injEq] at e
    subst e
    exact ⟨_, _, rfl, rel.frz _ _ h, r⟩
  | ref h =>
    simp only [lstOf] at e
    split at e
    · rename_i ys hy
      cases e
      obtain ⟨xs, h1, h2⟩ := rel.lst hy h
      exact ⟨_, xs, rfl, h1, h2⟩
    · cases e
  | sc _ _ => simp [lstOf] at e
  | fd _ _ => simp [lstOf] at e
  | kt _ _ => simp [lstOf] at e
  | tup _ _ => simp [lstOf] at e
  | non => simp [lstOf] at e
  | bl _ => simp [lstOf] at e
  | int _ => simp [lstOf] at e
  | str _ => simp [lstOf] at e
theorem items_fd {kvs : List (Key × V)} {ds : List D} {m : Hs} : itemsOf (.fd (keysK kvs) ds) m = none := by
  rcases kvs with _ | ⟨⟨k | k, v⟩, _ | ⟨p, r⟩⟩ <;> rfl
theorem rep_seq {x : D} {ds : List D} (rel : Rel ⟨K, cls⟩ g m H) (h : Rep K g H v x) (e : itemsOf x m = some ds) : ∃ a xs, v = .ref a ∧ (SqL K H a xs ∨ SqT K H a xs) ∧ RepL K g H xs ds := by
  cases h with
  | tup h r => simp only [itemsOf, Option.some.injEq] at e; subst e; exact ⟨_, _, rfl, .inr h, r⟩
  | kt h r => simp only [itemsOf, Option.some.injEq] at e; subst e; exact ⟨_, _, rfl, .inr (SqT.of h), r⟩
  | fl h r =>
    obtain ⟨a, xs, e1, h1, h2⟩ := rep_lst rel (.fl h r) (ds := ds) (by simpa [lstOf, itemsOf] using e)
    exact ⟨a, xs, e1, .inl (SqL.of h1), h2⟩
  | ref h =>
    obtain ⟨a, xs, e1, h1, h2⟩ := rep_lst rel (.ref h) (ds := ds) (by simpa [lstOf, itemsOf] using e)
    exact ⟨a, xs, e1, .inl (SqL.of h1), h2⟩
  | sc h r =>
    simp only [itemsOf, Option.some.injEq] at e
    subst e
    refine ⟨_, _, rfl, .inl ?_, r⟩
    rcases h with ⟨o, h⟩ | h
    · exact .inl (.inr ⟨o, h⟩)
    · exact h H
  | fd _ _ => rw [items_fd] at e; cases e
  | non => simp [itemsOf] at e
  | bl _ => simp [itemsOf] at e
  | int _ => simp [itemsOf] at e
  | str _ => simp [itemsOf] at e
end
end
end G
namespace G
open PySem L2
section
variable {X : Cx} {C : Cc} {ρ : List Sl} {cls : Cl}
def rAddA (K : PySem.W.Frag) : R2 := fun x y H Q => rI0 (fun i j => .int (i + j)) x y H Q ∨ ((∃ i j, x = .str i ∧ y = .str j ∧ i.length + j.length ≤ sizeLine ∧ Q (.str (i ++ j)) H) ∨ (rCatA K x y H Q ∨ rCat x y H Q))
theorem op_addA : OpR X (binaryOp .Add) (rAddA X.K) := opOr op_add (opOr op_add_str (opOr op_catA op_cat))
theorem add_lists {W : WX} {σ : L2.St} {g : Gh} {H : Hp} {m : Hs} {vx vy : V} {x y : D} {Q : VK} (rel : Rel ⟨X.K, cls⟩ g m H) (hx : Rep X.K g H vx x) (hy : Rep X.K g H vy y)
    (q : Post ⟨X.K, cls⟩ W (rD ⟨X.K, cls⟩) σ g H Q (match lstOf x m, lstOf y m with
      | some xs, some ys => if xs.length + ys.length ≤ sizeLine then .ok (.fl (xs ++ ys)) m else .bad
      | _, _ => .bad)) : rAddA X.K vx vy H Q := by
  split at q
  · rename_i h1 h2
    split at q
    · rename_i hz
      obtain ⟨a, xs, rfl, a1, a2⟩ := rep_lst rel hx h1
      obtain ⟨b, ys, rfl, b1, b2⟩ := rep_lst rel hy h2
      exact .inr (.inr (.inr ⟨_, _, xs, ys, rfl, rfl, a1, b1, by rw [a2.length, b2.length]; exact hz, fun p hp => q.newL rel (a2.append b2) hp⟩))
    · exact q.elim
  · exact q.elim
theorem sv_add : Serves X cls (rAddA X.K) (binS .add) := by
  intro W σ g H m vx vy x y Q rel hx hy q
  have hy' := hy
  cases hx with
  | int i => cases hy with
    | int j => exact .inl ⟨i, j, rfl, rfl, q.ret rel (.int _)⟩
    | _ => exact add_lists rel (.int i) hy' q
  | str i => cases hy with
    | str j =>
      simp only [binS] at q
      obtain ⟨hz, q⟩ := Post.ite q
      exact .inr (.inl ⟨i, j, rfl, rfl, hz, q.ret rel (.str _)⟩)
    | _ => exact add_lists rel (.str i) hy' q
  | tup h r => cases hy with
    | tup h' r' =>
      simp only [binS] at q
      obtain ⟨hz, q⟩ := Post.ite q
      refine .inr (.inr (.inl ⟨_, _, _, _, rfl, rfl, h, h', by rw [r.length, r'.length]; exact hz, fun e => ?_, fun e1 e2 => ?_, fun e1 e2 p hp => ?_⟩))
      · subst e
        cases r
        exact q.ret rel (.tup h' r')
      · subst e2
        cases r'
        exact q.ret rel (.tup h (by rw [List.append_nil]; exact r))
      · exact q.newT rel (r.append r') hp
    | _ => exact add_lists rel (.tup h r) hy' q
  | non => exact add_lists rel .non hy (by cases hy <;> exact q)
  | bl b => exact add_lists rel (.bl b) hy (by cases hy <;> exact q)
  | fl h r => exact add_lists rel (.fl h r) hy (by cases hy <;> exact q)
  | sc h r => exact add_lists rel (.sc h r) hy (by cases hy <;> exact q)
  | fd h r => exact add_lists rel (.fd h r) hy (by cases hy <;> exact q)
  | kt h r => exact add_lists rel (.kt h r) hy (by cases hy <;> exact q)
  | ref h => exact add_lists rel (.ref h) hy (by cases hy <;> exact q)
theorem sv_sub : Serves X cls (rI0 fun i j => .int (i - j)) (binS .sub) := by
  intro W σ g H m vx vy x y Q rel hx hy q
  cases hx with
  | int i => cases hy with
    | int j => exact ⟨i, j, rfl, rfl, q.ret rel (.int _)⟩
    | _ => exact q.elim
  | _ => cases hy <;> exact q.elim
def rMulA : R2 := fun x y H Q => rI CMulW (fun i j => .int (i * j)) x y H Q ∨ rRep x y H Q
theorem op_mulA : OpR X (binaryOp .Mult) rMulA := opOr op_mulW op_rep
theorem repL_rep {g : Gh} {H : Hp} {K : PySem.W.Frag} {xs : List V} {ds : List D} (r : RepL K g H xs ds) : ∀ n : Nat, RepL K g H (List.replicate n xs).flatten (List.replicate n ds).flatten
  | 0 => .nil
  | n + 1 => by
    rw [List.replicate_succ, List.replicate_succ, List.flatten_cons, List.flatten_cons]
    exact r.append (repL_rep r n)
theorem sv_mul : Serves X cls rMulA (binS .mul) := by
  intro W σ g H m vx vy x y Q rel hx hy q
  have gen : ∀ {j : Int}, vy = .int j → Post ⟨X.K, cls⟩ W (rD ⟨X.K, cls⟩) σ g H Q (match lstOf x m with
      | some xs => if -(2 ^ 63) ≤ j ∧ j < 2 ^ 63 ∧ xs.length * j.toNat ≤ sizeLine then .ok (.fl (List.replicate j.toNat xs).flatten) m else .bad
      | _ => .bad) → rMulA vx vy H Q := fun {j} e q => by
    subst e
    split at q
    · rename_i xs h1
      split at q
      · rename_i hz
        obtain ⟨a, xs, rfl, a1, a2⟩ := rep_lst rel hx h1
        exact .inr ⟨_, j, xs, rfl, rfl, a1, hz.1, hz.2.1, by rw [a2.length]; exact hz.2.2, fun p hp => q.newL rel (repL_rep a2 _) hp⟩
      · exact q.elim
    · exact q.elim
  cases hx with
  | int i => cases hy with
    | int j =>
      simp only [binS] at q
      obtain ⟨hz, q⟩ := Post.ite q
      exact .inl ⟨i, j, rfl, rfl, hz, q.ret rel (.int _)⟩
    | _ => exact q.elim
  | _ => cases hy <;> first | exact gen rfl q | exact q.elim
theorem sv_fdiv : Serves X cls (rI CDivW fun i j => .int (i / j)) (binS .fdiv) := by
  intro W σ g H m vx vy x y Q rel hx hy q
  cases hx with
  | int i => cases hy with
    | int j =>
      simp only [binS] at q
      obtain ⟨hz, q⟩ := Post.ite q
      exact ⟨i, j, rfl, rfl, hz, q.ret rel (.int _)⟩
    | _ => exact q.elim
  | _ => cases hy <;> exact q.elim
theorem sv_mod : Serves X cls (rI (fun _ j => 0 < j) fun i j => .int (i % j)) (binS .mod) := by
  intro W σ g H m vx vy x y Q rel hx hy q
  cases hx with
  | int i => cases hy with
    | int j =>
      simp only [binS] at q
      obtain ⟨hz, q⟩ := Post.ite q
      exact ⟨i, j, rfl, rfl, hz, q.ret rel (.int _)⟩
    | _ => exact q.elim
  | _ => cases hy <;> exact q.elim
theorem op_powW : OpR X (binaryOp .Pow) (rI (fun i j => 0 ≤ j ∧ (i.natAbs.log2 + 1) * j.toNat ≤ 134217728) fun i j => .int (i ^ j.toNat)) := opI fun i j _ _ _ _ _ hc q => PyProof.Rows.pow_int hc.1 (by
  have b : Builtin.Int.intBits i ≤ i.natAbs.log2 + 1 := by
    unfold Builtin.Int.intBits
    split <;> omega
  have e : ((j.toNat : Nat) : Int) = j := Int.toNat_of_nonneg hc.1
  have h1 : Builtin.Int.intBits i * j.toNat ≤ 134217728 := Nat.le_trans (Nat.mul_le_mul_right _ b) hc.2
  rw [← e]
  exact_mod_cast h1) q
theorem sv_pow : Serves X cls (rI (fun i j => 0 ≤ j ∧ (i.natAbs.log2 + 1) * j.toNat ≤ 134217728) fun i j => .int (i ^ j.toNat)) (binS .pow) := by
  intro W σ g H m vx vy x y Q rel hx hy q
  cases hx with
  | int i => cases hy with
    | int j =>
      simp only [binS] at q
      obtain ⟨hz, q⟩ := Post.ite q
      exact ⟨i, j, rfl, rfl, hz, q.ret rel (.int _)⟩
    | _ => exact q.elim
  | _ => cases hy <;> exact q.elim
theorem sv_lt : Serves X cls (rI0 fun i j => .bl (decide (i < j))) (cmpS .lt) := by
  intro W σ g H m vx vy x y Q rel hx hy q
  cases hx with
  | int i => cases hy with
    | int j => exact ⟨i, j, rfl, rfl, q.ret rel (.bl _)⟩
    | _ => exact q.elim
  | _ => cases hy <;> exact q.elim
theorem sv_le : Serves X cls (rI0 fun i j => .bl (decide (i ≤ j))) (cmpS .le) := by
  intro W σ g H m vx vy x y Q rel hx hy q
  cases hx with
  | int i => cases hy with
    | int j => exact ⟨i, j, rfl, rfl, q.ret rel (.bl _)⟩
    | _ => exact q.elim
  | _ => cases hy <;> exact q.elim
theorem sv_gt : Serves X cls (rI0 fun i j => .bl (decide (j < i))) (cmpS .gt) := by
  intro W σ g H m vx vy x y Q rel hx hy q
  cases hx with
  | int i => cases hy with
    | int j => exact ⟨i, j, rfl, rfl, q.ret rel (.bl _)⟩
    | _ => exact q.elim
  | _ => cases hy <;> exact q.elim
theorem sv_ge : Serves X cls (rI0 fun i j => .bl (decide (j ≤ i))) (cmpS .ge) := by
  intro W σ g H m vx vy x y Q rel hx hy q
  cases hx with
  | int i => cases hy with
    | int j => exact ⟨i, j, rfl, rfl, q.ret rel (.bl _)⟩
    | _ => exact q.elim
  | _ => cases hy <;> exact q.elim
theorem sv_is : Serves X cls (fun x y H Q => y = .non ∧ Q (.bl (decide (x = .non))) H) (cmpS .is) := by
  intro W σ g H m vx vy x y Q rel hx hy q
  cases hy with
  | non => cases hx <;> exact ⟨rfl, q.ret rel (.bl _)⟩
  | _ => cases hx <;> exact q.elim
theorem mapO_dp {g : Gh} {H : Hp} {K : PySem.W.Frag} {f : D → Option PyData} (ih : ∀ d v p, f d = some p → Rep K g H v d → Dp K H v p) : ∀ {xs : List V} {ds : List D} {ps : List PyData}, mapO f ds = some ps → RepL K g H xs ds → DpAll K H xs ps
  | _, _, _, e, .nil => by simp only [mapO, Option.some.injEq] at e; subst e; exact .nil
  | _, _, ps, e, .cons r s => by
    simp only [mapO] at e
    split at e
    · rename_i h1 h2
      cases e
      exact .cons (ih _ _ _ h1 r) (mapO_dp ih h2 s)
    · cases e
theorem pyD_dp {g : Gh} {H : Hp} {m : Hs} {K : PySem.W.Frag} (rel : Rel ⟨K, cls⟩ g m H) : ∀ (n : Nat) (d : D) (v : V) (p : PyData), pyD m n d = some p → Rep K g H v d → Dp K H v p
  | n, .non, _, p, e, .non => by simp only [pyD, Option.some.injEq] at e; subst e; exact .non
  | n, .bl b, _, p, e, .bl _ => by simp only [pyD, Option.some.injEq] at e; subst e; exact .bl b
  | n, .int b, _, p, e, .int _ => by simp only [pyD, Option.some.injEq] at e; subst e; exact .int b
  | n, .str b, _, p, e, .str _ => by
    simp only [pyD] at e
    split at e
    · cases e; exact .str b
    · cases e
  | 0, .tup _, _, p, e, _ => by simp [pyD] at e
  | 0, .fl _, _, p, e, _ => by simp [pyD] at e
  | 0, .sc _, _, p, e, _ => by simp [pyD] at e
  | 0, .fd _ _, _, p, e, _ => by simp [pyD] at e
  | n + 1, .fd _ _, _, p, e, _ => by simp [pyD] at e
  | 0, .ref _, _, p, e, _ => by simp [pyD] at e
  | n + 1, .tup ds, _, p, e, .tup h r => by
    simp only [pyD, Option.map_eq_some_iff] at e
    obtain ⟨ps, e, rfl⟩ := e
    exact .tup h (mapO_dp (pyD_dp rel n) e r)
  | n + 1, .fl ds, _, p, e, .fl h r => by
    simp only [pyD, Option.map_eq_some_iff] at e
    obtain ⟨ps, e, rfl⟩ := e
    exact .lst (SqL.of (rel.frz _ _ h)) (mapO_dp (pyD_dp rel n) e r)
  | n + 1, .sc ds, _, p, e, .sc h r => by
    simp only [pyD, Option.map_eq_some_iff] at e
    obtain ⟨ps, e, rfl⟩ := e
    refine .lst ?_ (mapO_dp (pyD_dp rel n) e r)
    rcases h with ⟨o, h⟩ | h
    · exact .inl (.inr ⟨o, h⟩)
    · exact h H
  | n + 1, .ref k, _, p, e, .ref h => by
    simp only [pyD] at e
    split at e
    · rename_i xs hx
      simp only [Option.map_eq_some_iff] at e
      obtain ⟨ps, e, rfl⟩ := e
      obtain ⟨vs, a1, a2⟩ := rel.lst hx h
      exact .lst (SqL.of a1) (mapO_dp (pyD_dp rel n) e a2)
    · cases e
theorem mapO_lay {f : D → Option PyData} {n : Nat} (ih : ∀ d p, f d = some p → p.canLay0 = true ∧ p.depth ≤ n) : ∀ {ds : List D} {ps : List PyData}, mapO f ds = some ps → PyData.canLayAll0 ps = true ∧ PyData.depthAll ps ≤ n
  | [], _, e => by simp only [mapO, Option.some.injEq] at e; subst e; exact ⟨rfl, Nat.zero_le _⟩
  | d :: ds, ps, e => by
    simp only [mapO] at e
    split at e
    · rename_i h1 h2
      cases e
      have a := ih _ _ h1
      have b := mapO_lay ih h2
      exact ⟨by simp [PyData.canLayAll0, a.1, b.1], by simp only [PyData.depthAll]; omega⟩
    · cases e
theorem pyD_lay {m : Hs} : ∀ (n : Nat) (d : D) (p : PyData), pyD m n d = some p → p.canLay0 = true ∧ p.depth ≤ n
  | n, .non, p, e => by simp only [pyD, Option.some.injEq] at e; subst e; exact ⟨rfl, Nat.zero_le _⟩
  | n, .bl b, p, e => by simp only [pyD, Option.some.injEq] at e; subst e; exact ⟨rfl, Nat.zero_le _⟩
  | n, .int b, p, e => by simp only [pyD, Option.some.injEq] at e; subst e; exact ⟨rfl, Nat.zero_le _⟩
  | n, .str b, p, e => by
    simp only [pyD] at e
    split at e
    · rename_i h
      cases e; exact ⟨h, Nat.zero_le _⟩
    · cases e
  | 0, .tup _, p, e => by simp [pyD] at e
  | 0, .fl _, p, e => by simp [pyD] at e
  | 0, .sc _, p, e => by simp [pyD] at e
  | 0, .fd _ _, p, e => by simp [pyD] at e
  | n + 1, .fd _ _, p, e => by simp [pyD] at e
  | 0, .ref _, p, e => by simp [pyD] at e
  | n + 1, .tup ds, p, e => by
    simp only [pyD, Option.map_eq_some_iff] at e
    obtain ⟨ps, e, rfl⟩ := e
    have a := mapO_lay (pyD_lay n) e
    exact ⟨by simp [PyData.canLay0, a.1], by simp only [PyData.depth]; omega⟩
  | n + 1, .fl ds, p, e => by
    simp only [pyD, Option.map_eq_some_iff] at e
    obtain ⟨ps, e, rfl⟩ := e
    have a := mapO_lay (pyD_lay n) e
    exact ⟨by simp [PyData.canLay0, a.1], by simp only [PyData.depth]; omega⟩
  | n + 1, .sc ds, p, e => by
    simp only [pyD, Option.map_eq_some_iff] at e
    obtain ⟨ps, e, rfl⟩ := e
    have a := mapO_lay (pyD_lay n) e
    exact ⟨by simp [PyData.canLay0, a.1], by simp only [PyData.depth]; omega⟩
  | n + 1, .ref k, p, e => by
    simp only [pyD] at e
    split at e
    · simp only [Option.map_eq_some_iff] at e
      obtain ⟨ps, e, rfl⟩ := e
      have a := mapO_lay (pyD_lay n) e
      exact ⟨by simp [PyData.canLay0, a.1], by simp only [PyData.depth]; omega⟩
    · cases e
theorem shaped_of {m : Hs} {d : D} {p : PyData} (h : pyD m deepest d = some p) : SeqAt.shaped p = true := by
  have a := pyD_lay deepest d p h
  have b : deepest = 50 := rfl
  unfold SeqAt.shaped
  rw [a.1, Bool.true_and, decide_eq_true_eq]
  omega
theorem eqP_ok {g : Gh} {H : Hp} {m : Hs} {vx vy : V} {x y : D} {b : Bool} (rel : Rel ⟨X.K, cls⟩ g m H) (hx : Rep X.K g H vx x) (hy : Rep X.K g H vy y) (h : eqP x y m = some b) : ∃ d e, Dp X.K H vx d ∧ Dp X.K H vy e ∧ SeqAt.shaped d = true ∧ SeqAt.shaped e = true ∧ PyData.eqv d e = b := by
  unfold eqP at h
  split at h
  · rename_i h1 h2
    cases h
    exact ⟨_, _, pyD_dp rel _ _ _ _ h1 hx, pyD_dp rel _ _ _ _ h2 hy, shaped_of h1, shaped_of h2, rfl⟩
  · cases h
theorem eqS_ok {g : Gh} {H : Hp} {m : Hs} {vx vy : V} {x y : D} {b : Bool} (rel : Rel ⟨X.K, cls⟩ g m H) (hx : Rep X.K g H vx x) (hy : Rep X.K g H vy y) (h : eqS x y m = some b) :
    (scal vx vy = true ∧ decide (vx = vy) = b) ∨ ∃ d e, Dp X.K H vx d ∧ Dp X.K H vy e ∧ SeqAt.shaped d = true ∧ SeqAt.shaped e = true ∧ PyData.eqv d e = b := by
  unfold eqS at h
  split at h
  · rw [rep_str hx, rep_str hy]
    refine .inl ⟨rfl, ?_⟩
    rw [← Option.some.inj h]
    simp
  · exact .inr (eqP_ok rel hx hy h)
def rEqA (K : PySem.W.Frag) : R2 := fun x y H Q => rEq x y H Q ∨ rEqD K x y H Q
def rNeA (K : PySem.W.Frag) : R2 := fun x y H Q => rNe x y H Q ∨ rNeD K x y H Q
theorem op_eqA (hu : X.A.units + 64 < cLine) : OpR X (compareOp .Eq) (rEqA X.K) := opOr op_eq (op_eqD hu)
theorem op_neA (hu : X.A.units + 64 < cLine) : OpR X (compareOp .NotEq) (rNeA X.K) := opOr op_ne (op_neD hu)
theorem sv_eq : Serves X cls (rEqA X.K) (cmpS .eq) := by
  intro W σ g H m vx vy x y Q rel hx hy q
  simp only [cmpS] at q
  obtain ⟨b, hb, q⟩ := Post.ask q
  rcases eqS_ok rel hx hy hb with ⟨h1, h2⟩ | ⟨d, e, h1, h2, h3, h4, h5⟩
  · exact .inl ⟨h1, by rw [h2]; exact q.ret rel (.bl _)⟩
  · exact .inr ⟨d, e, h1, h2, h3, h4, by rw [h5]; exact q.ret rel (.bl _)⟩
theorem sv_ne : Serves X cls (rNeA X.K) (cmpS .ne) := by
  intro W σ g H m vx vy x y Q rel hx hy q
  simp only [cmpS] at q
  obtain ⟨b, hb, q⟩ := Post.ask q
  rcases eqS_ok rel hx hy hb with ⟨h1, h2⟩ | ⟨d, e, h1, h2, h3, h4, h5⟩
  · exact .inl ⟨h1, by rw [h2]; exact q.ret rel (.bl _)⟩
  · exact .inr ⟨d, e, h1, h2, h3, h4, by rw [h5]; exact q.ret rel (.bl _)⟩
theorem flat_ok {g : Gh} {H : Hp} {v : V} {d : D} (h : Rep X.K g H v d) : flatV v = flatD d := by
  cases h <;> rfl
theorem eqF_ok {g : Gh} {H : Hp} {v w : V} {d e : D} (h : Rep X.K g H v d) (h' : Rep X.K g H w e) (f : flatD d = true) (f' : flatD e = true) : eqV v w = eqF d e := by
  cases h <;> first | (simp [flatD] at f; done) | skip
  all_goals (cases h' <;> first | (simp [flatD] at f'; done) | rfl | skip)
theorem any_ok {g : Gh} {H : Hp} {w : V} {e : D} (h' : Rep X.K g H w e) (f' : flatD e = true) : ∀ {vs : List V} {ds : List D}, RepL X.K g H vs ds → ds.all flatD = true → (vs.all flatV = true ∧ inV w vs = ds.any fun z => eqF z e)
  | _, _, .nil, _ => ⟨rfl, rfl⟩
  | _, _, .cons r s, f => by
    simp only [List.all_cons, Bool.and_eq_true] at f
    obtain ⟨a1, a2⟩ := any_ok h' f' s f.2
    refine ⟨by simp only [List.all_cons, Bool.and_eq_true]; exact ⟨by rw [flat_ok r]; exact f.1, a1⟩, ?_⟩
    unfold inV at a2 ⊢
    rw [List.any_cons, List.any_cons, a2, eqF_ok r h' f.1 f']
theorem in_ok {g : Gh} {H : Hp} {m : Hs} {vx vy : V} {x y : D} {b : Bool} (rel : Rel ⟨X.K, cls⟩ g m H) (hx : Rep X.K g H vx x) (hy : Rep X.K g H vy y) (h : inS x y m = some b) : ∃ p xs, vy = .ref p ∧ (SqL X.K H p xs ∨ SqT X.K H p xs) ∧ flatV vx = true ∧ xs.all flatV = true ∧ inV vx xs = b := by
  unfold inS at h
  split at h
  · rename_i ds hd
    split at h
    · rename_i hf
      rw [Bool.and_eq_true] at hf
      obtain ⟨p, xs, rfl, hs, r⟩ := rep_seq rel hy hd
      obtain ⟨a1, a2⟩ := any_ok hx hf.1 r hf.2
      exact ⟨p, xs, rfl, hs, by rw [flat_ok hx]; exact hf.1, a1, by rw [a2]; exact Option.some.inj h⟩
    · cases h
  · cases h
theorem sv_in : Serves X cls (rIn X.K false) (cmpS .isin) := by
  intro W σ g H m vx vy x y Q rel hx hy q
  have q : Post ⟨X.K, cls⟩ W (rD ⟨X.K, cls⟩) σ g H Q (bnd (ask (inS x y)) (fun b => ret (.bl b)) m) := by
    cases x <;> cases y <;> exact q
  obtain ⟨b, hb, q⟩ := Post.ask q
  obtain ⟨p, xs, rfl, h1, h2, h3, h4⟩ := in_ok rel hx hy hb
  refine ⟨p, xs, rfl, h1, h2, h3, ?_⟩
  rw [if_neg Bool.false_ne_true, h4]
  exact q.ret rel (.bl _)
end
end G
namespace G
open PySem L2
section
variable {X : Cx} {C : Cc} {ρ : List Sl} {cls : Cl}
theorem truth_ok {g : Gh} {H : Hp} {m : Hs} {v : V} {x : D} {b : Bool} (rel : Rel ⟨X.K, cls⟩ g m H) (h : Rep X.K g H v x) (e : truth x m = some b) : TruV X.K v H b := by
  cases h with
  | non => simp only [truth, Option.some.injEq] at e; exact e.symm
  | bl _ => simp only [truth, Option.some.injEq] at e; exact e.symm
  | int _ => simp only [truth, Option.some.injEq] at e; exact e.symm
  | str y =>
    simp only [truth] at e
    split at e
    · rename_i hz
      refine ⟨hz, ?_⟩
      rw [← Option.some.inj e, Bool.eq_iff_iff]
      simp
    · cases e
  | @tup a xs ds h r =>
    simp only [truth, Option.some.injEq] at e
    refine .inr (.inl ⟨xs, h, ?_⟩)
    rw [← e]
    cases r <;> rfl
  | @fl a xs ds h r =>
    simp only [truth, Option.some.injEq] at e
    refine .inl ⟨xs, SqL.of (rel.frz _ _ h), ?_⟩
    rw [← e]
    cases r <;> rfl
  | fd _ _ => simp [truth] at e
  | kt _ _ => simp [truth] at e
  | @sc a xs ds h r =>
    simp only [truth, Option.some.injEq] at e
    refine .inl ⟨xs, ?_, ?_⟩
    · rcases h with ⟨o, h⟩ | h
      · exact .inl (.inr ⟨o, h⟩)
      · exact h H
    · rw [← e]
      cases r <;> rfl
  | ref h =>
    simp only [truth] at e
    split at e
    · rename_i ds hd
      obtain ⟨xs, a1, a2⟩ := rel.lst hd h
      refine .inl ⟨xs, SqL.of a1, ?_⟩
      rw [← Option.some.inj e]
      cases a2 <;> rfl
    · cases e
theorem c_neg {e : Expr} {a : M D} {pos : Pos} (ha : PEc X C ρ e a) : PEc X C ρ (.UnaryOp .USub e pos) (negM a) :=
  pe_imp (pe_un un_neg ha) fun σ H Q q => by
    refine tG.bind q fun g H' m v x at1 hv q => ?_
    cases hv with
    | int i => exact ⟨i, rfl, q.ret at1.rel (.int _)⟩
    | _ => exact q.elim
theorem c_one {e : Expr} {a : M D} {op : BoolOp} {pos : Pos} (ha : PEc X C ρ e a) : PEc X C ρ (.BoolOp op [e] pos) a := pe_one ha
theorem c_and {e1 e2 : Expr} {rest : List Expr} {a b : M D} {pos : Pos} (ha : PEc X C ρ e1 a) (hb : PEc X C ρ (.BoolOp .And (e2 :: rest) pos) b) : PEc X C ρ (.BoolOp .And (e1 :: e2 :: rest) pos) (andM a b) :=
  pe_imp (pe_andT ha hb) fun σ H Q q => by
    refine tG.bind q fun g H' m v x at1 hv q => ?_
    obtain ⟨k, hk, q⟩ := Post.ask q
    refine ⟨k, truth_ok at1.rel hv hk, ?_⟩
    cases k with
    | true => exact iteT ⟨g, m, at1, q⟩
    | false => exact iteF (q.ret at1.rel hv)
theorem c_or {e1 e2 : Expr} {rest : List Expr} {a b : M D} {pos : Pos} (ha : PEc X C ρ e1 a) (hb : PEc X C ρ (.BoolOp .Or (e2 :: rest) pos) b) : PEc X C ρ (.BoolOp .Or (e1 :: e2 :: rest) pos) (orM a b) :=
  pe_imp (pe_orT ha hb) fun σ H Q q => by
    refine tG.bind q fun g H' m v x at1 hv q => ?_
    obtain ⟨k, hk, q⟩ := Post.ask q
    refine ⟨k, truth_ok at1.rel hv hk, ?_⟩
    cases k with
    | true => exact iteT (q.ret at1.rel hv)
    | false => exact iteF ⟨g, m, at1, q⟩
theorem bnd_bnd {α β γ : Type} {t : M α} {f : α → M β} {g : β → M γ} : bnd (bnd t f) g = bnd t fun x => bnd (f x) g := by
  funext m
  simp only [bnd]
  cases t m <;> rfl
theorem bnd_ret {α β : Type} {a : α} {f : α → M β} : bnd (ret a) f = f a := rfl
theorem bnd_ite {α β : Type} {c : Prop} [Decidable c] {t u : M α} {f : α → M β} : bnd (if c then t else u) f = if c then bnd t f else bnd u f := by split <;> rfl
theorem p_truth {e : Expr} {a : M D} (ha : PEc X C ρ e a) (he : ∀ whole, isTrue e X.env whole = (do let v ← whole; standAt e.pos; holding [v] (truthy v)) := by intro _; rfl) : PTc X C ρ e a :=
  pt_imp (pt_truth ha he) fun σ H Q q => by
    refine tG.bind q fun g H' m v x at1 hv q => ?_
    have q : Post ⟨X.K, C.cls⟩ C.W rB σ g H' Q (bnd (ask (truth x)) (fun b => ret b) m) := by
      have e : tru x = bnd (ask (truth x)) (fun b => ret b) := by
        funext m
        simp only [tru, bnd, ask]
        cases truth x m <;> rfl
      rw [← e]
      exact q
    obtain ⟨b, hb, q⟩ := Post.ask q
    exact ⟨b, truth_ok at1.rel hv hb, q.ret at1.rel rfl⟩
theorem cmpS_bl {o : Cp} {x y z : D} {m m' : Hs} (h : cmpS o x y m = .ok z m') : ∃ b, z = .bl b ∧ m' = m := by
  have key : ∀ {f : Hs → Option Bool} {g : Bool → Bool}, bnd (ask f) (fun b => ret (D.bl (g b))) m = .ok z m' → ∃ b, z = .bl b ∧ m' = m := fun {f g} h => by
    unfold bnd ask at h
    cases hz : f m with
    | none => rw [hz] at h; cases h
    | some y => rw [hz] at h; cases h; exact ⟨_, rfl, rfl⟩
  unfold cmpS at h
  split at h <;> first
    | (cases h; exact ⟨_, rfl, rfl⟩)
    | exact key (g := id) h
    | exact key (g := fun b => !b) h
    | cases h
theorem cmpS_ex {o : Cp} {x y : D} {c : Nat} {fs : List (Str × D)} {m m' : Hs} (h : cmpS o x y m = .ex c fs m') : False := by
  have key : ∀ {f : Hs → Option Bool} {g : Bool → Bool}, bnd (ask f) (fun b => ret (D.bl (g b))) m = .ex c fs m' → False := fun {f g} h => by
    unfold bnd ask at h
    cases hz : f m with
    | none => rw [hz] at h; cases h
    | some y => rw [hz] at h; cases h
  unfold cmpS at h
  split at h <;> first
    | (cases h; done)
    | exact key (g := id) h
    | exact key (g := fun b => !b) h
theorem cmp_then {W : WX} {σ : L2.St} {β B : Type} {repB : Gh → Hp → B → β → Prop} {g : Gh} {H : Hp} {m : Hs} {o : Cp} {x y : D} {R : VK} {Q : B → Hp → Prop} {f : D → M β} (q : Post ⟨X.K, cls⟩ W repB σ g H Q (bnd (cmpS o x y) f m))
    (k : ∀ g' H' b, Le g g' → TK H H' → Rel ⟨X.K, cls⟩ g' m H' → Post ⟨X.K, cls⟩ W repB σ g' H' Q (f (.bl b) m) → R (.bl b) H') : Post ⟨X.K, cls⟩ W (rD ⟨X.K, cls⟩) σ g H R (cmpS o x y m) := by
  unfold bnd at q
  cases hz : cmpS o x y m with
  | ok z m3 =>
    rw [hz] at q
    obtain ⟨b, rfl, rfl⟩ := cmpS_bl hz
    intro g3 H3 v3 p3 t3 rel3 hv3
    rw [rep_bl hv3]
    exact k g3 H3 b p3 t3 rel3 (Post.mono p3 t3 q)
  | ex c fs m3 => exact (cmpS_ex hz).elim
  | bad => rw [hz] at q; exact q
theorem p_cmp {e1 e2 : Expr} {a b : M D} {o : Cp} {op : CmpOp} {r : R2} {pos : Pos} (ho : OpR X (compareOp op) r) (sv : Serves X C.cls r (cmpS o)) (hm : behindInMarks op e2 = false) (ha : PEc X C ρ e1 a) (hb : PEc X C ρ e2 b) : PTc X C ρ (.Compare e1 [op] [e2] pos) (cmpM o a b) :=
  pt_imp (pt_cmpR ho ha hb hm) fun σ H Q q => by
    unfold tT cmpM at q
    rw [bnd_bnd] at q
    refine tG.bind q fun g1 H1 m1 v1 x1 at1 hv1 q1 => ?_
    rw [bnd_bnd] at q1
    refine ⟨g1, m1, at1, Post.bind q1 fun g2 H2 m2 v2 x2 p t rel2 hv2 q2 => ?_⟩
    refine sv C.W σ g2 H2 m2 v1 v2 x1 x2 _ rel2 (hv1.mono p.v t) hv2 ?_
    exact cmp_then q2 fun g3 H3 b p3 t3 rel3 q3 => ⟨b, rfl, q3.ret rel3 rfl⟩
theorem p_not {e : Expr} {a : M D} {pos : Pos} (ha : PTc X C ρ e a) : PTc X C ρ (.UnaryOp .Not e pos) (notM a) :=
  pt_imp (pt_not ha) fun σ H Q q => by
    unfold tT notM at q
    rw [bnd_bnd] at q
    have e : (fun x => bnd (bnd (tru x) fun b => ret (D.bl (!b))) tru) = fun x => bnd (tru x) fun b => ret (!b) := by
      funext x
      rw [bnd_bnd]
      rfl
    rw [e, ← bnd_bnd] at q
    exact tG.bind q fun g1 H1 m1 v1 x1 at1 hv1 q1 => by subst hv1; exact q1.ret at1.rel rfl
theorem p_one {e : Expr} {a : M D} {pos : Pos} (ha : PTc X C ρ e a) : PWc X C ρ (.BoolOp .And [e] pos) a := pw_and1 ha
theorem p_one' {e : Expr} {a : M D} {pos : Pos} (ha : PTc X C ρ e a) : PWc X C ρ (.BoolOp .Or [e] pos) a := pw_or1 ha
theorem tru_of {x : D} {m : Hs} {b : Bool} (h : truth x m = some b) : tru x m = .ok b m := by unfold tru ask; rw [h]
theorem tst_then {W : WX} {σ : L2.St} {β B : Type} {repB : Gh → Hp → B → β → Prop} {ρ : List Sl} {C : Cc} {Γ : Cst} {H : Hp} {a : M D} {Q : B → Hp → Prop} {f : D → Bool → M β} {R : Bool → Hp → Prop} (q : tG Γ C ρ repB (bnd a fun x => bnd (tru x) fun k => f x k) σ H Q)
    (k : ∀ g' H' m x b, At Γ C ρ σ H' g' m → truth x m = some b → Post Γ C.W repB σ g' H' Q (f x b m) → R b H') : tG Γ C ρ rB (bnd a tru) σ H R := by
  obtain ⟨g, m, at0, q⟩ := q
  refine ⟨g, m, at0, ?_⟩
  unfold bnd at q ⊢
  cases hz : a m with
  | ok x m1 =>
    rw [hz, bind_ok] at q
    rw [bind_ok]
    change Post Γ C.W repB σ g H Q ((tru x m1).bind fun k m2 => f x k m2) at q
    cases hb : truth x m1 with
    | none =>
      have e : tru x m1 = .bad := by unfold tru ask; rw [hb]
      rw [e] at q
      exact q.elim
    | some b =>
      rw [tru_of hb, bind_ok] at q
      rw [tru_of hb]
      intro g' H' v p t rel' e
      subst e
      exact k g' H' m1 x v (at0.mono p t rel') hb (Post.mono p t q)
  | ex c fs m1 => rw [hz] at q; exact q
  | bad => rw [hz] at q; exact q
theorem p_and {e1 e2 : Expr} {rest : List Expr} {a b : M D} {pos : Pos} (ha : PTc X C ρ e1 a) (hb : PWc X C ρ (.BoolOp .And (e2 :: rest) pos) b) : PWc X C ρ (.BoolOp .And (e1 :: e2 :: rest) pos) (andM a b) :=
  pw_imp (pw_and ha hb) fun σ H Q q => by
    unfold tT andM at q
    rw [bnd_bnd] at q
    have e : (fun x => bnd (bnd (tru x) fun k => if k = true then b else ret x) tru) = fun x => bnd (tru x) fun k => if k = true then bnd b tru else tru x := by
      funext x
      rw [bnd_bnd]
      congr 1
      funext k
      rw [bnd_ite]
      rfl
    rw [e] at q
    refine tst_then (W := C.W) q fun g' H' m x k at1 hk q => ?_
    cases k with
    | true => exact iteT ⟨g', m, at1, q⟩
    | false =>
      rw [if_neg (by simp), tru_of hk] at q
      exact iteF (q.ret at1.rel rfl)
theorem p_or {e1 e2 : Expr} {rest : List Expr} {a b : M D} {pos : Pos} (ha : PTc X C ρ e1 a) (hb : PWc X C ρ (.BoolOp .Or (e2 :: rest) pos) b) : PWc X C ρ (.BoolOp .Or (e1 :: e2 :: rest) pos) (orM a b) :=
  pw_imp (pw_or ha hb) fun σ H Q q => by
    unfold tT orM at q
    rw [bnd_bnd] at q
    have e : (fun x => bnd (bnd (tru x) fun k => if k = true then ret x else b) tru) = fun x => bnd (tru x) fun k => if k = true then tru x else bnd b tru := by
      funext x
      rw [bnd_bnd]
      congr 1
      funext k
      rw [bnd_ite]
      rfl
    rw [e] at q
    refine tst_then (W := C.W) q fun g' H' m x k at1 hk q => ?_
    cases k with
    | false => exact iteF ⟨g', m, at1, q⟩
    | true =>
      rw [if_pos rfl, tru_of hk] at q
      exact iteT (q.ret at1.rel rfl)
theorem c_ite {ec e1 e2 : Expr} {c a b : M D} {pos : Pos} (hc : PTc X C ρ ec c) (ha : PEc X C ρ e1 a) (hb : PEc X C ρ e2 b) : PEc X C ρ (.IfExp ec e1 e2 pos) (iteM c a b) :=
  pe_imp (pe_ifExp hc ha hb) fun σ H Q q => by
    refine tst_then (W := C.W) q fun g' H' m x k at1 hk q => ?_
    cases k with
    | true => exact iteT ⟨g', m, at1, q⟩
    | false => exact iteF ⟨g', m, at1, q⟩
theorem a_nil : PAc X C ρ [] (lsM []) := pa_imp pa_nil fun σ H Q q => by
  obtain ⟨g, m, at0, q⟩ := q
  exact q.ret at0.rel .nil
theorem a_cons {e : Expr} {es : List Expr} {c : M D} {cs : List (M D)} (ha : PEc X C ρ e c) (hr : PAc X C ρ es (lsM cs)) (hs : starEach (e :: es) X.env = (false, eval e X.env) :: starEach es X.env := by rfl) : PAc X C ρ (e :: es) (lsM (c :: cs)) :=
  pa_imp (pa_cons ha hr hs) fun σ H Q q => by
    refine tG.bind q fun g1 H1 m1 v1 x1 at1 hv1 q1 => ?_
    refine ⟨g1, m1, at1, Post.bind q1 fun g2 H2 m2 v2 x2 p t rel2 hv2 q2 => ?_⟩
    exact q2.ret rel2 (.cons (hv1.mono p.v t) hv2)
theorem c_tup {es : List Expr} {cs : M (List D)} {x1 : Nat} {pos : Pos} (h : PAc X C ρ es cs) : PEc X C ρ (.Tuple es x1 pos) (tupM cs) :=
  pe_imp (pe_tup h) fun σ H Q q => by
    refine tG.bind q fun g1 H1 m1 v1 x1 at1 hv1 q1 => ?_
    obtain ⟨hz, q1⟩ := Post.ite q1
    exact ⟨by rw [hv1.length]; exact hz, fun p hp => q1.newT at1.rel hv1 hp⟩
theorem c_lst {es : List Expr} {cs : M (List D)} {pos : Pos} (h : PAc X C ρ es cs) : PEc X C ρ (.List es pos) (lstM cs) :=
  pe_imp (pe_lst h) fun σ H Q q => by
    refine tG.bind q fun g1 H1 m1 v1 x1 at1 hv1 q1 => ?_
    obtain ⟨hz, q1⟩ := Post.ite q1
    exact ⟨by rw [hv1.length]; exact hz, fun p hp => q1.newL at1.rel hv1 hp⟩
theorem c_lsh {es : List Expr} {cs : M (List D)} {pos : Pos} (h : PAc X C ρ es cs) : PEc X C ρ (.List es pos) (lshM cs) :=
  pe_imp (pe_lst h) fun σ H Q q => by
    refine tG.bind q fun g1 H1 m1 v1 x1 at1 hv1 q1 => ?_
    obtain ⟨hz, q1⟩ := Post.ite q1
    exact ⟨by rw [hv1.length]; exact hz, fun p hp => Post.newH q1 at1.rel hv1 hp⟩
theorem atI_ok {g : Gh} {H : Hp} {K : PySem.W.Frag} {xs : List V} {ds : List D} {i : Int} {d : D} (r : RepL K g H xs ds) (h : atD ds i = some d) : ∃ v, atI xs i = some v ∧ Rep K g H v d := by
  unfold atI
  unfold atD at h
  have e : ixN xs.length i = ixD ds.length i := by rw [r.length]; rfl
  rw [e]
  cases hj : ixD ds.length i with
  | none => rw [hj] at h; cases h
  | some j =>
    rw [hj] at h
    exact r.get h
theorem sv_idx : Serves X cls (rIx X.K) idxS := by
  intro W σ g H m vx vy x y Q rel hx hy q
  cases hy with
  | int i =>
    obtain ⟨ds, hd, q⟩ := Post.ask q
    obtain ⟨d, hat, q⟩ := Post.opt q
    obtain ⟨a, xs, rfl, hs, r⟩ := rep_seq rel hx hd
    obtain ⟨v, h1, h2⟩ := atI_ok r hat
    rcases hs with hs | hs
    · exact .inl ⟨a, xs, i, v, rfl, rfl, hs, h1, q.ret rel h2⟩
    · exact .inr (.inl ⟨a, xs, i, v, rfl, rfl, hs, h1, q.ret rel h2⟩)
  | _ => exact q.elim
theorem c_idx {e1 e2 : Expr} {a b : M D} {pos : Pos} (ha : PEc X C ρ e1 a) (hb : PEc X C ρ e2 b) (hs : PlainIx e2 := by exact fun _ _ => rfl) : PEc X C ρ (.Subscript e1 e2 pos) (idxM a b) :=
  pe_imp (pe_ix ix_seq ha hb hs) fun σ H Q q => two sv_idx q
theorem At.own {Γ : Cst} {C : Cc} {σ : L2.St} {H : Hp} {g : Gh} {m : Hs} {i : Nat} {xs : List D} (a : At Γ C ρ σ H g m) (h : ρ[i]? = some (.own xs)) : ∃ p vs, σ[i]? = some (some (.ref p)) ∧ (p, HO.lst vs) ∈ g.pv ∧ H p = some (.lst vs) ∧ RepL Γ.K g H vs xs ∧ ∀ u, (p, u) ∉ C.gB.pv := by
  obtain ⟨p, vs, h1, h2, h3, h4⟩ := a.rs.own i xs h
  exact ⟨p, vs, h1, h2, a.rel.prv _ _ h2, h3, h4⟩
theorem c_idxO {e1 e2 : Expr} {i : Nat} {xs : List D} {b : M D} {pos : Pos} (h : PE X e1 (tVar i)) (hi : ρ[i]? = some (.own xs)) (hb : PEc X C ρ e2 b) (hs : PlainIx e2 := by exact fun _ _ => rfl) : PEc X C ρ (.Subscript e1 e2 pos) (idxL xs b) :=
  pe_imp (pe_ix ix_seq h hb hs) fun σ H Q q => by
    obtain ⟨g, m, at0, q⟩ := q
    obtain ⟨p, vs, h1, h2, h3, h4, h5⟩ := at0.own hi
    refine ⟨_, h1, g, m, at0, Post.bind q fun g2 H2 m2 v2 x2 p2 t2 rel2 hv2 q2 => ?_⟩
    have at2 := at0.mono p2 t2 rel2
    cases hv2 with
    | int k =>
      obtain ⟨d, hat, q2⟩ := Post.opt q2
      obtain ⟨v, h6, h7⟩ := atI_ok (h4.mono p2.v t2) hat
      exact .inl ⟨p, vs, k, v, rfl, rfl, SqL.of (rel2.prv _ _ (p2.pv _ h2)), h6, q2.ret rel2 h7⟩
    | _ => exact q2.elim
abbrev POc (X : Cx) (C : Cc) (ρ : List Sl) (e : Option Expr) (t : M (Option Int)) : Prop := PO X e (fun σ H Q => tG ⟨X.K, C.cls⟩ C ρ (fun _ _ (v : Option Int) (o : Option Int) => v = o) t σ H Q)
theorem po_imp {X : Cx} {e : Option Expr} {t t' : TO} (h : PO X e t) (k : ∀ σ H Q, t' σ H Q → t σ H Q) : PO X e t' := ⟨fun pins s σ H Q I q => h.run pins s σ H Q I (k σ H Q q)⟩
theorem o_none : POc X C ρ none noP := po_imp po_none fun σ H Q q => by
  obtain ⟨g, m, at0, q⟩ := q
  exact q.ret at0.rel rfl
theorem o_some {e : Expr} {c : M D} (h : PEc X C ρ e c) : POc X C ρ (some e) (soP c) := po_imp (po_some h) fun σ H Q q => by
  refine tG.bind q fun g1 H1 m1 v1 x1 at1 hv1 q1 => ?_
  cases hv1 with
  | int i => exact ⟨i, rfl, q1.ret at1.rel rfl⟩
  | _ => exact q1.elim
theorem sIx_eq (n d : Nat) (o : Option Int) : sIxD n d o = HT.sIx n d o := by
  cases o <;> rfl
theorem cut_ok {g : Gh} {H : Hp} {K : PySem.W.Frag} {xs : List V} {ds : List D} (r : RepL K g H xs ds) (lo hi : Option Int) : RepL K g H (cutV xs lo hi) (cutD ds lo hi) := by
  unfold cutV cutD
  rw [sIx_eq, sIx_eq, ← r.length]
  exact (r.drop _).take _
theorem cut_all {ds : List D} {lo hi : Option Int} (h : sIxD ds.length 0 lo = 0 ∧ sIxD ds.length ds.length hi = ds.length) : cutD ds lo hi = ds := by
  unfold cutD
  rw [h.1, h.2]
  simp
def rSlc (K : PySem.W.Frag) : V → Option Int → Option Int → Hp → VK → Prop := fun x lo hi H Q => rSlA K x lo hi H Q ∨ rSlL K x lo hi H Q
theorem sl_any : SlR X (rSlc X.K) := sl_tupA.or sl_list
theorem slc_ok {W : WX} {g : Gh} {H : Hp} {m : Hs} {v : V} {x : D} {lo hi : Option Int} {Q : VK} {σ : L2.St} (rel : Rel ⟨X.K, cls⟩ g m H) (hx : Rep X.K g H v x) (q : Post ⟨X.K, cls⟩ W (rD ⟨X.K, cls⟩) σ g H Q (slcS x lo hi m)) : rSlc X.K v lo hi H Q := by
  have hx' := hx
  cases hx with
  | @tup a xs ds h r =>
    refine .inl ⟨a, xs, rfl, h, fun e => ?_, fun e p hp => ?_⟩
    · have e' : cutD ds lo hi = ds := cut_all (by rw [sIx_eq, sIx_eq, ← r.length]; exact e)
      simp only [slcS, e'] at q
      exact q.ret rel (.tup h r)
    · exact q.newT rel (cut_ok r lo hi) hp
  | _ =>
    obtain ⟨ds, hd, q⟩ := Post.ask q
    obtain ⟨a, xs, e, h1, h2⟩ := rep_lst rel hx' hd
    exact .inr ⟨a, xs, e, SqL.of h1, fun p hp => q.newL rel (cut_ok h2 lo hi) hp⟩
theorem c_slc {e : Expr} {lo hi : Option Expr} {a : M D} {l u : M (Option Int)} {p2 pos : Pos} (ha : PEc X C ρ e a) (hl : POc X C ρ lo l) (hu : POc X C ρ hi u) : PEc X C ρ (.Subscript e (.Slice lo hi none p2) pos) (slcM a l u) :=
  pe_imp (pe_slice sl_any ha hl hu) fun σ H Q q => by
    refine tG.bind q fun g1 H1 m1 v1 x1 at1 hv1 q1 => ?_
    refine ⟨g1, m1, at1, Post.bind q1 fun g2 H2 m2 v2 x2 p t rel2 hv2 q2 => ?_⟩
    refine ⟨g2, m2, at1.mono p t rel2, Post.bind q2 fun g3 H3 m3 v3 x3 p3 t3 rel3 hv3 q3 => ?_⟩
    subst hv2
    subst hv3
    exact slc_ok rel3 ((hv1.mono p.v t).mono p3.v t3) q3
end
end G
namespace G
open PySem L2 PySem.Spec PyProof.Rows
def Clr (gu : Bool) (A : Around) : Prop := gu = true → A.guards = some []
structure FnG (gu : Bool) (P : Program) (w : World) (K : PySem.W.Frag) (mg : Str → Option Value) (base : Heap) (CX : CXT) (k : Nat) (f : Addr) (fd : FuncData) (ps : List Str) (sp : Sp) : Prop where
  len : ∀ xs H0 R E0, sp xs H0 R E0 → xs.length = ps.length
  run : ∀ (B : Around) (out : List Env) (t : Shared) (H0 : Hp) (ar : Args) (ws : List Value) (xs : List V) (R : VK) (E0 : XK), Room k B → Clr gu B → Env0 P w K mg base B out t H0 → BindsTo t fd ar (ps.zip ws) → Vals xs ws → sp xs H0 R E0 →
    codeAny (model P w) B (.call (.ref f) ar) (CR CX out P w H0 t R E0) t
theorem FnG.mono {P : Program} {w : World} {K : PySem.W.Frag} {mg : Str → Option Value} {base : Heap} {CX : CXT} {i j : Nat} {f : Addr} {fd : FuncData} {ps : List Str} {sp : Sp} (F : FnG gu P w K mg base CX i f fd ps sp) (le : i ≤ j) : FnG gu P w K mg base CX j f fd ps sp :=
  ⟨F.len, fun B out t H0 ar ws xs R E0 rm => F.run B out t H0 ar ws xs R E0 (rm.mono le)⟩
theorem fnG_of {CX : CXT} {P : Program} {w : World} {K : PySem.W.Frag} {mg : Str → Option Value} {base : Heap} {k : Nat} {f : Addr} {nm ql : Str} {pr : Arguments} {bd : List Stmt} {sc : Scope} {v1 v2 v3 v4 v5 v6 v7 : Value} {an od : Option Addr}
    {sl : Array (Option Value)} {N ps : List Str} {sp : Sp} (look : K.lookup f = some ⟨v7, od, .func (PySem.W.fnOf nm ql pr bd sc v1 v2 v3 v4 an v5 v6), sl⟩) (code : PySem.W.codeIn K v5 ql = true) (S : FnScope N ps sc)
    (len : ∀ xs H0 R E0, sp xs H0 R E0 → xs.length = ps.length)
    (body : ∀ (B : Around) (out : List Env) (t : Shared) (H0 : Hp) (xs : List V) (R : VK) (E0 : XK), Room k (B.deeper (envOfC ql sc t.heap.objs.size f v5)) → Clr gu B → sp xs H0 R E0 →
      ∃ tt, PSs (cxOf CX P w K mg base N ql sc f v5 B out t H0 E0) bd tt ∧ tt { nx := fun _ H9 => R .non H9, rt := R } (start N xs) H0) :
    FnG gu P w K mg base CX (k + 1) f (PySem.W.fnOf nm ql pr bd sc v1 v2 v3 v4 an v5 v6) ps sp := by
  refine ⟨len, fun B out t H0 ar ws xs R E0 rm cl env0 bnd vals hs => ?_⟩
  have inK : K.In t.heap := env0.mod.kin.keeps fun i o e => (env0.bs i o e).1
  have nl : t.heap.NoLimit := env0.mod.nolimit.keeps fun i o e => (env0.bs i o e).1
  have kinds : ∀ y ∈ ps.zip ws, sc.names.lookup y.1 = some .local ∨ (sc.names.lookup y.1 = some .cell ∧ ((cellsFrom (t.heap.objs.size + 1) sc.names []).lookup y.1).isSome = true) := by
    rintro ⟨n, v⟩ hy
    rcases S.par n (List.of_mem_zip hy).1 with q | q
    · exact .inl q
    · exact .inr ⟨q, PySem.W.cellsFrom_some _ _ _ (.inl q)⟩
  refine codeAny_call_function rm.depth (inK _ _ look) rfl S.co S.gen rfl (PySem.W.codeRec_of inK code) (bnd _ _ _ _ ?_)
  refine wpAny_newFunctionEnv_cells S.kind kinds fun env he t1 x => ?_
  subst he
  refine ⟨nl.keeps x.toInCall.keep, codeAny_func ?_⟩
  obtain ⟨tt, h1, h2⟩ := body B out t H0 xs R E0 (rm.deeper _) cl hs
  have I : Inv (cxOf CX P w K mg base N ql sc f v5 B out t H0 E0) [] (start N xs) H0 t1 := inv_start S rm.hd env0 (len _ _ _ _ hs) vals x
  refine wpAny_mono (h1.run [] t1 (start N xs) H0 _ I h2) (fun fl t2 hz => ?_) fun e t2 hz => hz
  cases fl with
  | ret u =>
    obtain ⟨v, σ9, H9, J, rv, q⟩ := hz
    exact ⟨v, H9, J.os, J.bare, J.base, J.hok, rv, q⟩
  | next =>
    obtain ⟨σ9, H9, J, q⟩ := hz
    exact ⟨V.non, H9, J.os, J.bare, J.base, J.hok, rfl, q⟩
  | brk =>
    obtain ⟨_, _, _, q⟩ := hz
    exact q.elim
  | cont =>
    obtain ⟨_, _, _, q⟩ := hz
    exact q.elim
section
variable {X : Cx} {CX : CXT} {k : Nat} {f : Addr} {fd : FuncData} {ps : List Str} {sp : Sp} {E0 : L2.St → XK} {x : Str} {p pos : Pos} {e : Expr} {es : List Expr} {t : TA}
theorem runG {pn : List (Addr × Obj)} {σ : L2.St} {H0 : Hp} {t0 : Shared} {R : VK} {ws : List Value} {xs : List V} (F : FnG gu X.prog X.w X.K X.mg X.base CX k f fd ps sp) (rm : Room k X.A) (cl : Clr gu X.A) (bd : Binds X.K fd ps []) (ps' : PassesAt CX X σ (E0 σ))
    (I : Inv X pn σ H0 t0) (vals : Vals xs ws) (hs : sp xs H0 R (E0 σ)) : wpAny (model X.prog X.w) X.A (call (.ref f) ws) (EP X pn σ R) X.xe t0 := by
  have hw : ws.length = ps.length := by
    rw [← vals.length]
    exact F.len _ _ _ _ hs
  have b := bd t0 ws I.kIn (by rw [List.append_nil]; exact hw)
  rw [List.append_nil] at b
  have run := F.run X.A X.stack t0 H0 ⟨ws, []⟩ ws xs R (E0 σ) rm cl I.env0 b vals hs
  refine wpAny_call (codeAny_mono run fun res t1 hz => ?_)
  match res, hz with
  | .error e, hz => exact ps' pn H0 t0 e t1 I hz
  | .ok (.ret u), hz => exact I.after hz
  | .ok .next, hz => exact hz.elim
  | .ok .brk, hz => exact hz.elim
  | .ok .cont, hz => exact hz.elim
theorem pe_callG (F : FnG gu X.prog X.w X.K X.mg X.base CX k f fd ps sp) (rm : Room k X.A) (cl : Clr gu X.A) (gl : Gl X x) (mgx : X.mg x = some (.ref f)) (kp : PySem.W.keepIn X.K (.ref f) = true) (bd : Binds X.K fd ps []) (ps' : ∀ σ, PassesAt CX X σ (E0 σ))
    (ha : PA X (e :: es) t) (hdb : (x == ("__debug__" : Str)) = false := by decide) (he : starEach (e :: es) X.env = (false, eval e X.env) :: starEach es X.env := by rfl) (hpl : (backTo pos (starEach es X.env)).any (·.1) = false := by rfl) :
    PE X (.Call (.Name x p) (e :: es) [] pos) (tCallS sp E0 t) := by
  refine ⟨fun pn t0 σ H0 R I hq => wpAny_Call_Name_kw (ld_glob I gl mgx ?_ hdb)⟩
  refine PySem.W.callWith_K (h₀ := X.base) I.ok.mod.kin kp (thn (ha.run pos pn t0 σ H0 _ I hq) ?_) he hpl
  rintro ws t1 ⟨xs, H1, I1, vals, q⟩
  exact ⟨I1.kIn, runG F rm cl bd (ps' σ) I1 vals q⟩
end
theorem Clr.make {A : Around} (h : Clr gu A) (C : Addr) (us : List Value) (kw : List (Str × Value)) : Clr gu (A.under (.builtin "type.__call__" ⟨.ref C :: us, kw⟩)) := by
  intro eg
  have h := h eg
  clear eg
  simp only [Around.under, h]
  rfl
def spM (Γ : Cst) (f : List D → M D) : Sp := fun vs H Q E => ∃ g m ds, Rel Γ g m H ∧ RepL Γ.K g H vs ds ∧ Post Γ (fun c d _ H' => E c d H') (rD Γ) [] g H Q (f ds m)
def IsFn (gu : Bool) (P : Program) (w : World) (K : PySem.W.Frag) (mg : Str → Option Value) (base : Heap) (cls : Cl) (k : Nat) (x : Str) (f : List D → M D) : Prop :=
  ∃ (a : Addr) (fd : FuncData) (ps : List Str), mg x = some (.ref a) ∧ PySem.W.keepIn K (.ref a) = true ∧ Binds K fd ps [] ∧ FnG gu P w K mg base (L2.CX P w) k a fd ps (spM ⟨K, cls⟩ f)
theorem IsFn.mono {P : Program} {w : World} {K : PySem.W.Frag} {mg : Str → Option Value} {base : Heap} {cls : Cl} {k j : Nat} {x : Str} {f : List D → M D} (h : IsFn gu P w K mg base cls k x f) (le : k ≤ j) : IsFn gu P w K mg base cls j x f := by
  obtain ⟨a, fd, ps, h1, h2, h3, F⟩ := h
  exact ⟨a, fd, ps, h1, h2, h3, F.mono le⟩
def IsMt (gu : Bool) (P : Program) (w : World) (K : PySem.W.Frag) (mg : Str → Option Value) (base : Heap) (cls : Cl) (k : Nat) (x : Str) (tb : Nat → Option (List D → M D)) : Prop :=
  ∀ c f, tb c = some f → ∃ C, cls c = some C ∧ Cls K C ∧ ∃ (a : Addr) (fd : FuncData) (ps : List Str), Meth K C x a ∧ Binds K fd ps [] ∧ FnG gu P w K mg base (L2.CX P w) k a fd ps (spM ⟨K, cls⟩ f)
def IsAt (K : PySem.W.Frag) (cls : Cl) (at' : Nat → Str → Bool) : Prop := ∀ c f, at' c f = true → ∃ C, cls c = some C ∧ Cls K C ∧ NoAttr K C f
def IsCl (gu : Bool) (P : Program) (w : World) (K : PySem.W.Frag) (mg : Str → Option Value) (base : Heap) (cls : Cl) (k : Nat) (x : Str) (c : Nat) (f : List D → M D) : Prop :=
  ∃ (C a : Addr) (fd : FuncData) (ps : List Str), cls c = some C ∧ mg x = some (.ref C) ∧ Mk K C a ∧ Binds K fd ps [] ∧ FnG gu P w K mg base (L2.CX P w) k a fd ps (spM ⟨K, cls⟩ f)
section
variable {X : Cx} {C : Cc} {ρ : List Sl} {k : Nat}
theorem Post.wish {Γ : Cst} {W : WX} {σ : L2.St} {g : Gh} {H : Hp} {Q : VK} {r : Rs D} (q : Post Γ W (rD Γ) σ g H Q r) : Post Γ (fun c d _ H' => WE W σ c d H') (rD Γ) [] g H Q r := by
  cases r with
  | ok x m => exact q
  | ex c fs m => exact q
  | bad => exact q
theorem c_call {x : Str} {f : List D → M D} {e : Expr} {es : List Expr} {cs : M (List D)} {p pos : Pos} (h : IsFn gu X.prog X.w X.K X.mg X.base C.cls k x f) (hr : Room k X.A) (cl : Clr gu X.A) (tk : Takes X C.W) (hg : Gl X x) (ha : PAc X C ρ (e :: es) cs)
    (hdb : (x == ("__debug__" : Str)) = false := by decide) (he : starEach (e :: es) X.env = (false, eval e X.env) :: starEach es X.env := by rfl) (hpl : (backTo pos (starEach es X.env)).any (·.1) = false := by rfl) : PEc X C ρ (.Call (.Name x p) (e :: es) [] pos) (calM f cs) := by
  obtain ⟨a, fd, ps, h1, h2, h3, F⟩ := h
  refine pe_imp (pe_callG F hr cl hg h1 h2 h3 (fun σ => passAt tk σ) ha hdb he hpl) fun σ H Q q => ?_
  refine tG.bind q fun g1 H1 m1 v1 x1 at1 hv1 q1 => ?_
  exact ⟨g1, m1, x1, at1.rel, hv1, q1.wish⟩
theorem pe_methA {W : WX} {o e : Expr} {es : List Expr} {ta : TE} {t : TA} {m : Str} {apos pos : Pos} {pl : Sem Bool} {F : Type} {sp : F → Sp} {ok : Addr → F → Prop} (he : PE X o ta) (hr : Room k X.A) (cl : Clr gu X.A) (tk : Takes X W)
    (hM : ∀ C n, ok C n → ∃ (f : Addr) (fd : FuncData) (ps : List Str), Cls X.K C ∧ Meth X.K C m f ∧ Binds X.K fd ps [] ∧ FnG gu X.prog X.w X.K X.mg X.base (L2.CX X.prog X.w) k f fd ps (sp n)) (ha : PA X (e :: es) t)
    (hst : starEach (e :: es) X.env = (false, eval e X.env) :: starEach es X.env := by rfl) (hpl : (backTo pos (starEach es X.env)).any (·.1) = false := by rfl)
    (ht : eval (.Call (.Attribute o m apos) (e :: es) [] pos) X.env = (do
      let ov ← eval o X.env
      standAt apos.atName
      let (f, first) ← holding [ov] (getMethod ov m pl)
      callWith pos f first (backTo pos (starEach (e :: es) X.env)) (backToKw pos (keywordEach [] X.env))) := by rfl) :
    PE X (.Call (.Attribute o m apos) (e :: es) [] pos) (fun σ H Q => ta σ H fun x H1 => ∃ C n a dx fs, x = .ref a ∧ ok C n ∧ H1 a = some (.ins C dx fs) ∧ fs.lookup m = none ∧ t σ H1 fun vs H2 => sp n (x :: vs) H2 Q (WE W σ)) := by
  refine ⟨fun pins s σ H Q I h => ?_⟩
  refine PySem.W.methodCall_KW (pl := pl) (thn (he.run pins s σ H _ I h) fun u s1 ⟨x, H1, I1, rx, C, n, a, dx, fs, ex, hok, ea, l, q⟩ => ?_) ht
  subst ex
  obtain rfl : u = Value.ref a := rx
  obtain ⟨f, fd, ps, c, hm, hb, F⟩ := hM C n hok
  refine getmeth_ok I1 ea c hm l ?_
  refine PySem.W.callWith_K (first := [.ref a]) (h₀ := X.base) I.ok.mod.kin hm.kp (thn (ha.run pos pins s1 σ H1 _ I1 q) fun us s2 ⟨vs, H2, I2, r, q2⟩ => ⟨I2.kIn, ?_⟩) hst hpl
  exact runG (ws := .ref a :: us) (xs := .ref a :: vs) (E0 := WE W) F hr cl hb (passAt tk σ) I2 (.cons rfl r) q2
theorem meth_ok {cls : Cl} {m : Str} {tb : Nat → Option (List D → M D)} (T : IsMt gu X.prog X.w X.K X.mg X.base cls k m tb) :
    ∀ (C : Addr) (f : List D → M D), (∃ c, cls c = some C ∧ tb c = some f) → ∃ (a : Addr) (fd : FuncData) (ps : List Str), Cls X.K C ∧ Meth X.K C m a ∧ Binds X.K fd ps [] ∧ FnG gu X.prog X.w X.K X.mg X.base (L2.CX X.prog X.w) k a fd ps (spM ⟨X.K, cls⟩ f) := by
  rintro C f ⟨c, h2, h3⟩
  obtain ⟨C', e, ok, a, fd, ps, a1, a2, a3⟩ := T c f h3
  rw [h2] at e
  cases e
  exact ⟨a, fd, ps, ok, a1, a2, a3⟩
theorem mth_in {Γ : Cst} {g : Gh} {m : Hs} {H : Hp} {v : V} {x : D} {f : List D → M D} {nm : Str} {tb : Nat → Option (List D → M D)} (rel : Rel Γ g m H) (hv : Rep Γ.K g H v x)
    (h : mthO tb nm x m = some f) : ∃ c C a n dx vs, v = .ref a ∧ x = .ref n ∧ g.hs[n]? = some a ∧ Γ.cls c = some C ∧ tb c = some f ∧ H a = some (.ins C dx vs) ∧ vs.lookup nm = none := by
  cases hv with
  | @ref aa nn hg =>
    simp only [mthO, fldO] at h
    cases hn : m[nn]? with
    | none => rw [hn] at h; cases h
    | some ob =>
      rw [hn] at h
      cases ob with
      | lst ds => cases h
      | exc c fs => cases h
      | dct _ _ => cases h
      | sd _ _ => cases h
      | zd _ _ => cases h
      | ins c fs =>
        simp only at h
        cases hl : fs.lookup nm with
        | some u => rw [hl] at h; cases h
        | none =>
          rw [hl] at h
          obtain ⟨C, dx, vs, hC, hH, hF⟩ := rel.ins hn hg
          exact ⟨c, C, aa, nn, dx, vs, rfl, rfl, hg, hC, h, hH, hF.lookup.2 hl⟩
  | _ => cases h
theorem c_meth {o e : Expr} {es : List Expr} {a : M D} {cs : M (List D)} {m : Str} {tb : Nat → Option (List D → M D)} {apos pos : Pos} {pl : Sem Bool} (T : IsMt gu X.prog X.w X.K X.mg X.base C.cls k m tb) (hr : Room k X.A) (cl : Clr gu X.A) (tk : Takes X C.W) (ho : PEc X C ρ o a) (ha : PAc X C ρ (e :: es) cs)
    (hst : starEach (e :: es) X.env = (false, eval e X.env) :: starEach es X.env := by rfl) (hpl : (backTo pos (starEach es X.env)).any (·.1) = false := by rfl)
    (ht : eval (.Call (.Attribute o m apos) (e :: es) [] pos) X.env = (do
      let ov ← eval o X.env
      standAt apos.atName
      let (f, first) ← holding [ov] (getMethod ov m pl)
      callWith pos f first (backTo pos (starEach (e :: es) X.env)) (backToKw pos (keywordEach [] X.env))) := by rfl) : PEc X C ρ (.Call (.Attribute o m apos) (e :: es) [] pos) (mthM tb a m cs) :=
  pe_imp (pe_methA ho hr cl tk (meth_ok T) ha hst hpl ht) fun σ H Q q => by
    refine tG.bind q fun g1 H1 m1 v1 x1 at1 hv1 q1 => ?_
    obtain ⟨f, hf, q1⟩ := Post.ask q1
    obtain ⟨c, D', aa, n, dx, vs, rfl, rfl, hg, hC, ht, hH, hl⟩ := mth_in at1.rel hv1 hf
    refine ⟨D', f, aa, dx, vs, rfl, ⟨c, hC, ht⟩, hH, hl, g1, m1, at1, Post.bind q1 fun g2 H2 m2 v2 x2 p t rel2 hv2 q2 => ?_⟩
    exact ⟨g2, m2, _, rel2, .cons (.ref (pre_get p.hs hg)) hv2, q2.wish⟩
theorem fld_in {Γ : Cst} {g : Gh} {m : Hs} {H : Hp} {v : V} {x d : D} {nm : Str} {at' : Nat → Str → Bool} (rel : Rel Γ g m H) (hv : Rep Γ.K g H v x)
    (h : fldO at' nm x m = some d) : ∃ c C a n dx vs fs w, v = .ref a ∧ x = .ref n ∧ g.hs[n]? = some a ∧ m[n]? = some (.ins c fs) ∧ Γ.cls c = some C ∧ at' c nm = true ∧ H a = some (.ins C dx vs) ∧ vs.lookup nm = some w ∧ Rep Γ.K g H w d := by
  cases hv with
  | @ref aa nn hg =>
    simp only [mthO, fldO] at h
    cases hn : m[nn]? with
    | none => rw [hn] at h; cases h
    | some ob =>
      rw [hn] at h
      cases ob with
      | lst ds => cases h
      | exc c fs => cases h
      | dct _ _ => cases h
      | sd _ _ => cases h
      | zd _ _ => cases h
      | ins c fs =>
        simp only at h
        cases hl : fs.lookup nm with
        | none => rw [hl] at h; cases h
        | some u =>
          rw [hl] at h
          simp only at h
          split at h
          · rename_i ha
            cases h
            obtain ⟨C, dx, vs, hC, hH, hF⟩ := rel.ins hn hg
            obtain ⟨w, h1, h2⟩ := hF.lookup.1 _ hl
            exact ⟨c, C, aa, nn, dx, vs, fs, w, rfl, rfl, hg, hn, hC, ha, hH, h1, h2⟩
          · cases h
  | _ => cases h
theorem at_ok {cls : Cl} {K : PySem.W.Frag} {at' : Nat → Str → Bool} (T : IsAt K cls at') {c : Nat} {A : Addr} {f : Str} (hC : cls c = some A) (h : at' c f = true) : Cls K A ∧ NoAttr K A f := by
  obtain ⟨A', e, a1, a2⟩ := T c f h
  rw [hC] at e
  cases e
  exact ⟨a1, a2⟩
theorem c_fld {o : Expr} {a : M D} {f : Str} {at' : Nat → Str → Bool} {pos : Pos} (T : IsAt X.K C.cls at') (ho : PEc X C ρ o a) (hb : attributeBase o f X.env (eval o X.env) = eval o X.env := by rfl) : PEc X C ρ (.Attribute o f pos) (fldM at' a f) :=
  pe_imp (pe_fld ho hb) fun σ H Q q => by
    refine tG.bind q fun g1 H1 m1 v1 x1 at1 hv1 q1 => ?_
    have q1 : Post ⟨X.K, C.cls⟩ C.W (rD ⟨X.K, C.cls⟩) σ g1 H1 Q (bnd (fldS at' f x1) ret m1) := by
      have e : bnd (fldS at' f x1) ret = fldS at' f x1 := by
        funext m
        simp only [bnd]
        cases fldS at' f x1 m <;> rfl
      rw [e]
      exact q1
    obtain ⟨d, hd, q2⟩ := Post.ask q1
    obtain ⟨c, D', aa, n, dx, vs, fs, w, rfl, rfl, hg, hm, hC, ha, hH, hl, hw⟩ := fld_in at1.rel hv1 hd
    obtain ⟨a1, a2⟩ := at_ok T hC ha
    exact ⟨_, D', dx, vs, w, rfl, hH, a1, a2, hl, q2.ret at1.rel hw⟩
theorem pe_makeA {W : WX} {x : Str} {C f : Addr} {fd : FuncData} {ps : List Str} {sp : Sp} {e : Expr} {es : List Expr} {t : TA} {p pos : Pos} (M : Mk X.K C f) (F : FnG gu X.prog X.w X.K X.mg X.base (L2.CX X.prog X.w) k f fd ps sp) (hr : Room (k + 1) X.A) (cl : Clr gu X.A) (hg : Gl X x) (hm : X.mg x = some (.ref C)) (hb : Binds X.K fd ps []) (tk : Takes X W)
    (ha : PA X (e :: es) t) (hdb : (x == ("__debug__" : Str)) = false := by decide) (he : starEach (e :: es) X.env = (false, eval e X.env) :: starEach es X.env := by rfl) (hpl : (backTo pos (starEach es X.env)).any (·.1) = false := by rfl) :
    PE X (.Call (.Name x p) (e :: es) [] pos) (fun σ H Q => t σ H fun vs H1 => ∀ x dx, H1 x = none → H1 dx = none → dx ≠ x → sp (.ref x :: vs) (upd (upd H1 dx (.own x)) x (.ins C dx [])) (fun v H2 => v = .non ∧ Q (.ref x) H2) (WE W σ)) := by
  refine ⟨fun pins s σ H Q I h => ?_⟩
  refine wpAny_Call_Name_kw (ld_glob I hg hm ?_ hdb)
  refine PySem.W.callWith_K (h₀ := X.base) I.ok.mod.kin M.kp (thn (ha.run pos pins s σ H _ I h) fun us s1 ⟨vs, H1, I1, r, q⟩ => ⟨I1.kIn, ?_⟩) he hpl
  have hq := q (s1.heap.objs.size + 1) s1.heap.objs.size (I1.hok.fresh (Nat.le_succ _)) (I1.hok.fresh (Nat.le_refl _)) (Nat.ne_of_lt (Nat.lt_succ_self _))
  have I2 := Inv.made (C := C) I1
  have r2 : Vals (V.ref (s1.heap.objs.size + 1) :: vs) (Value.ref (s1.heap.objs.size + 1) :: us) := .cons rfl r
  have hl : (Value.ref (s1.heap.objs.size + 1) :: us).length = ps.length := by
    have e := r2.length
    rw [F.len _ _ _ _ hq] at e
    exact e.symm
  refine wpAny_call (make_map (f := f) I1.kIn M.makes M.init (beq_iff_eq.mp M.fn) (codeAny_mono (F.run _ X.stack _ _ ⟨Value.ref (s1.heap.objs.size + 1) :: us, []⟩ (Value.ref (s1.heap.objs.size + 1) :: us) _ _ (WE W σ) (hr.make C us []) (cl.make C us [])
    (I2.env0.make C us []) (by
      have b := hb _ (Value.ref (s1.heap.objs.size + 1) :: us) I2.kIn (by rw [List.append_nil]; exact hl)
      rw [List.append_nil] at b
      exact b) r2 hq) fun r s' hq' => ?_))
  cases r with
  | error e => exact passAt tk σ pins _ _ e s' I2 hq'
  | ok fl =>
    cases fl with
    | ret u =>
      obtain ⟨v, H', I3, rv, ev, q3⟩ := I2.after hq'
      subst ev
      exact ⟨rv, ⟨V.ref (s1.heap.objs.size + 1), H', I3, rfl, q3⟩⟩
    | next => exact False.elim hq'
    | brk => exact False.elim hq'
    | cont => exact False.elim hq'
theorem c_make {x : Str} {c : Nat} {f : List D → M D} {e : Expr} {es : List Expr} {cs : M (List D)} {p pos : Pos} (h : IsCl gu X.prog X.w X.K X.mg X.base C.cls k x c f) (hr : Room (k + 1) X.A) (cl : Clr gu X.A) (tk : Takes X C.W) (hg : Gl X x) (ha : PAc X C ρ (e :: es) cs)
    (hdb : (x == ("__debug__" : Str)) = false := by decide) (he : starEach (e :: es) X.env = (false, eval e X.env) :: starEach es X.env := by rfl) (hpl : (backTo pos (starEach es X.env)).any (·.1) = false := by rfl) : PEc X C ρ (.Call (.Name x p) (e :: es) [] pos) (makM c f cs) := by
  obtain ⟨A, a, fd, ps, h1, h3, h4, h5, F⟩ := h
  refine pe_imp (pe_makeA h4 F hr cl hg h3 h5 tk ha hdb he hpl) fun σ H Q q => ?_
  refine tG.bind q fun g1 H1 m1 v1 x1 at1 hv1 q1 => ?_
  have rel1 := at1.rel
  intro x dx hx hdx hne
  have hx2 : upd H1 dx (.own x) x = none := by rw [upd_ne hne.symm]; exact hx
  have rel2 : Rel ⟨X.K, C.cls⟩ g1 m1 (upd H1 dx (.own x)) := rel1.laid hdx
  have rel3 := rel2.push (u := .ins A dx []) (o := .ins c []) hx2 ⟨A, dx, [], h1, upd_same, .nil⟩
  have tk3 : TK H1 (upd (upd H1 dx (.own x)) x (.ins A dx [])) := (TK.new hdx).trans (TK.new hx2)
  have pg : Le g1 (g1.addH x) := le_addH
  have hat : (g1.addH x).hs[m1.length]? = some x := by show (g1.hs ++ [x])[_]? = _; rw [← rel1.len]; simp
  refine ⟨g1.addH x, _, .ref m1.length :: x1, rel3, .cons (.ref hat) (hv1.mono pg.v tk3), ?_⟩
  have q2 := (Post.mono pg tk3 q1)
  change Post ⟨X.K, C.cls⟩ C.W (rD ⟨X.K, C.cls⟩) σ (g1.addH x) _ Q ((f (.ref m1.length :: x1) (m1 ++ [.ins c []])).bind fun z m2 => nonS z (.ref m1.length) m2) at q2
  cases hz : f (.ref m1.length :: x1) (m1 ++ [.ins c []]) with
  | ok z m2 =>
    rw [hz, bind_ok] at q2
    intro g' H' v p t rel' hv
    cases z with
    | non =>
      refine ⟨rep_non hv, q2 g' H' (.ref x) p t rel' (.ref ?_)⟩
      exact pre_get p.hs hat
    | _ => exact q2.elim
  | ex c fs m2 => rw [hz] at q2; exact q2
  | bad => rw [hz] at q2; exact q2.elim
end
end G
set_option maxHeartbeats 2000000
namespace G
open PySem L2 PySem.Spec PyProof.Rows
open AutoSeq1 (wpAny_loadPart')
theorem meets_enumT (l : Addr) (items : Array Value) (n : Nat) (dct : Option Addr) (sl : Array (Option Value)) :
    Meets (Builtin.«enumerate.__new__» ⟨[.type "enumerate", .ref l], []⟩) (fun _ R s => s.heap.get? l = some { cls := .type "tuple", dict := dct, data := .seq items n, slots := sl } ∧
      R (.ok (.ret (.ref (s.heap.push { cls := .type "tuple_iterator", data := .fields #[.ref l, .int 0 0] }).objs.size)))
        { s with heap := (s.heap.push { cls := .type "tuple_iterator", data := .fields #[.ref l, .int 0 0] }).push { cls := .type "enumerate", data := .fields #[.none, .bool false, .ref s.heap.objs.size, rawInt 0, .none, .none] } }) :=
  .of_wp fun prog w A R s h => by
    obtain ⟨hp, g, d, tk, os⟩ := s; obtain ⟨hl, h⟩ := h
    have hsub := sub_enumerate
    have hL : Heap.IsTuple (Shared.heap ⟨hp, g, d, tk, os⟩) l items := ⟨_, hl, rfl, n, rfl⟩
    wp_walk using wpAny_loadPart' hl
    refine wpAny_stack_any fun st => wpAny_pure ?_
    split
    · rename_i c _ _ _ _ _
      cases (c == Value.type "enumerate")
      · wp_walk using wpAny_loadPart' hl, wpAny_pyIter_tuple hL
        exact ⟨_, rfl, h⟩
      · wp_walk using wpAny_loadPart' hl, wpAny_pyIter_tuple hL
        exact ⟨_, rfl, h⟩
    · wp_walk using wpAny_loadPart' hl, wpAny_pyIter_tuple hL
      exact ⟨_, rfl, h⟩
section
variable {prog : Program} {w : World} {A : Around} {E : Value → Shared → Prop} {s : Shared}
theorem call_enumerate_tuple {l : Addr} {items : Array Value} {Q : Value → Shared → Prop} (hL : s.heap.IsTuple l items)
    (h : ∀ h', IsEnum h' (s.heap.objs.size + 1) s.heap.objs.size 0 .none → h'.IsTupleIter s.heap.objs.size l 0 → h'.objs.size = s.heap.objs.size + 2 →
      (∀ b o, s.heap.get? b = some o → h'.get? b = some o) → Q (.ref (s.heap.objs.size + 1)) { s with heap := h' }) :
    wpAny (model prog w) A (PySem.call (.type "enumerate") [.ref l]) Q E s := by
  obtain ⟨⟨c, dct, dt, sl⟩, hl, hc, n, hd⟩ := hL
  replace hc : c = .type "tuple" := hc
  replace hd : dt = .seq items n := hd
  subst hc hd
  refine callType_new F.called_enumerate (by decide) (F.typeCall_enumerate_1 _) (F.newCall_enumerate_1 _) (fun obj => F.args_object_init_2 obj _) F.entry_enumerate_new
    (meets_enumT l items n dct sl) ⟨hl, ?_⟩
  have hz : (s.heap.push { cls := .type "tuple_iterator", data := .fields #[.ref l, .int 0 0] }).objs.size = s.heap.objs.size + 1 := Heap.size_push ..
  show _ ∧ _
  rw [hz]
  have he : IsEnum ((s.heap.push { cls := .type "tuple_iterator", data := .fields #[.ref l, .int 0 0] }).push
      { cls := .type "enumerate", data := .fields #[.none, .bool false, .ref s.heap.objs.size, rawInt 0, .none, .none] }) (s.heap.objs.size + 1) s.heap.objs.size 0 .none := by
    have := Heap.get?_push_size (s.heap.push { cls := .type "tuple_iterator", data := .fields #[.ref l, .int 0 0] })
      (o := { cls := .type "enumerate", data := .fields #[.none, .bool false, .ref s.heap.objs.size, rawInt 0, .none, .none] }) rfl
    rw [hz] at this; exact this
  refine ⟨⟨_, he, rfl⟩, h _ he ⟨_, Heap.get?_push_of_some _ (Heap.get?_push_size _ rfl), rfl, rfl⟩ (by rw [Heap.size_push, hz]) fun b o x => Heap.get?_push_of_some _ (Heap.get?_push_of_some _ x)⟩
end
section
variable {prog : Program} {w : World} {A : Around} {E : Value → Shared → Prop} {s : Shared}
theorem wpAny_pyNext_enum_endT {e it l : Addr} {i : Nat} {c : Int} {items : Array Value} {old : Value} {Q : Option Value → Shared → Prop} (hh : A.handled = none)
    (he : IsEnum s.heap e it c old) (hit : s.heap.IsTupleIter it l i) (hl : s.heap.IsTuple l items) (hx : items[i]? = none)
    (hQ : ∀ h', Heap.ExtBut it s.heap h' → Q none { s with heap := h' }) : wpAny (model prog w) A (pyNext (.ref e)) Q E s := by
  have hT : s.TypeIs (.ref e) "enumerate" := ⟨_, he, rfl⟩
  unfold pyNext
  refine wpAny_bind (wpAny_attempt (wpAny_callSpecial?_slot (name := Str.ofString "__next__") hT F.slot_enumerate_next
    (wpAny_call_entry F.slot_enumerate_next hT F.entry_enumerate_next ?_ (F.args_enumerate_next_1 _))))
  show wpAny _ _ (field (.ref e) 2 >>= _) _ _ _
  refine wpAny_bind (wpAny_field he rfl (x := .ref it) rfl ?_)
  refine wpAny_bind (wpAny_nextOf_tuple_end hh hit hl hx fun h' x he' hx' => ?_)
  obtain ⟨o, ho, hc⟩ := hx'
  refine wpAny_bind (wpAny_isInstance (T := "StopIteration") (b := true) ⟨o, ho, hc⟩ isSubtype_stop ?_)
  exact wpAny_pure (hQ _ he')
theorem wpAny_pyNext_enum_endL {e it l : Addr} {i : Nat} {c : Int} {items : Array Value} {old : Value} {Q : Option Value → Shared → Prop} (hh : A.handled = none)
    (he : IsEnum s.heap e it c old) (hit : s.heap.IsListIter it l i) (hl : s.heap.IsList l items) (hx : items[i]? = none)
    (hQ : ∀ h', Heap.ExtBut it s.heap h' → Q none { s with heap := h' }) : wpAny (model prog w) A (pyNext (.ref e)) Q E s := by
  have hT : s.TypeIs (.ref e) "enumerate" := ⟨_, he, rfl⟩
  unfold pyNext
  refine wpAny_bind (wpAny_attempt (wpAny_callSpecial?_slot (name := Str.ofString "__next__") hT F.slot_enumerate_next
    (wpAny_call_entry F.slot_enumerate_next hT F.entry_enumerate_next ?_ (F.args_enumerate_next_1 _))))
  show wpAny _ _ (field (.ref e) 2 >>= _) _ _ _
  refine wpAny_bind (wpAny_field he rfl (x := .ref it) rfl ?_)
  refine wpAny_bind (wpAny_nextOf_list_end hh hit hl hx fun h' x he' hx' => ?_)
  obtain ⟨o, ho, hc⟩ := hx'
  refine wpAny_bind (wpAny_isInstance (T := "StopIteration") (b := true) ⟨o, ho, hc⟩ isSubtype_stop ?_)
  exact wpAny_pure (hQ _ he')
end
def ItE (sq : Hp → List V → Prop) (k : Int) : It :=
  ⟨fun i H => ∃ xs x, sq H xs ∧ xs[i]? = some x, fun i H v H' => ∃ T x, v = .ref T ∧ H T = none ∧ H' = upd H T (.tup [.int (k + i), x]) ∧ ∀ xs, sq H xs → xs[i]? = some x, fun i H => ∃ xs, sq H xs ∧ xs.length ≤ i⟩
section
variable {P : Program} {w : World} {K : PySem.W.Frag} {elts : List Expr} {kk : Nat} {tpos : Pos}
theorem turn_enumT (a e it : Addr) (k : Int) :
    Turn P w K (.Tuple elts kk tpos) (ItE (fun H xs => SqT K H a xs) k) [e, it] e (fun i h => (∃ old, IsEnum h e it (k + ((i : Nat) : Int)) old) ∧ h.IsTupleIter it a i ∧ e ≠ it ∧ a ≠ it ∧ a ≠ e) where
  mem := by simp
  obj := fun i h st b hb => by
    obtain ⟨⟨old, he⟩, ⟨o, ho, hc, hd⟩, _⟩ := st
    have e' : b = e ∨ b = it := by simpa using hb
    rcases e' with z | z
    · rw [z]; exact ⟨_, he, fun v q => nomatch q⟩
    · rw [z]; exact ⟨o, ho, fun v q => by rw [hd] at q; cases q⟩
  keep := fun i h h' st kp => let ⟨⟨old, he⟩, hi, hne⟩ := st; ⟨⟨old, kp e (by simp) _ he⟩, hi.at fun o q => kp it (by simp) o q, hne⟩
  item := by
    intro X hP hw hK hc i pins s σ H E I hf st hg
    subst hP hw hK
    obtain ⟨⟨old, he⟩, hit, hne, hai, hae⟩ := st
    obtain ⟨xs, x, hq, hx⟩ := hg
    obtain ⟨its, rv, p, hz⟩ := I.tuple hq
    obtain ⟨u, hu, ru⟩ := rv.get hx
    have hel : e < s.heap.objs.size := Heap.lt_size he
    have hil : it < s.heap.objs.size := by obtain ⟨_, q, _⟩ := hit; exact Heap.lt_size q
    have hlt : i < its.toArray.size := by
      rw [List.size_toArray]
      exact (List.getElem?_eq_some_iff.mp hu).1
    refine wpAny_pyNext_enum_itemC (Draws.tuple (prog := X.prog) (w := X.w) (A := X.A.in1) (show X.A.in1.handled = none from I.ok.hd hc) it a hai its.toArray) he ⟨hit, p⟩ hlt hne (fun z => (List.mem_cons.mp z).elim hne fun z => hae (List.mem_singleton.mp z).symm) fun x2 h' tk hP ho hs' hT hsz hk => ?_
    have hx2 : x2 = u := by
      have q : its.toArray[i]? = some u := by simpa using hu
      rw [hP] at q
      exact Option.some.inj q
    subst hx2
    refine ⟨_, rfl, wpAny_letOwnedTupleGo_enum (s := { s with heap := h', toks := tk + 1 }) ho fun h'' he' sb => ?_⟩
    have hT2 : h''.get? s.heap.objs.size = some { cls := .type "tuple", data := .seq #[.int (k + ((i : Nat) : Int)) tk, x2] } := (sb.2 _ (Nat.ne_of_gt hel)).trans hT
    have new : ObjOk X.prog X.w (upd H s.heap.objs.size (.tup [.int (k + ((i : Nat) : Int)), x])) h'' s.heap.objs.size (.tup [.int (k + ((i : Nat) : Int)), x]) :=
      ⟨by show 2 ≤ sizeLine; decide, [.int (k + ((i : Nat) : Int)) tk, x2], .cons ⟨_, rfl⟩ (.cons ru .nil), ⟨_, hT2, rfl, _, rfl⟩⟩
    have I1 : Inv X pins σ (upd H s.heap.objs.size (.tup [.int (k + ((i : Nat) : Int)), x])) { s with heap := h'', toks := tk + 1 } :=
      I.turnedNew (ch := [e, it]) (fun b ob hb q => (sb.2 b (fun z => hb (by simp [z]))).trans (hk b ob (fun z => hb (by simp [z])) (fun z => hb (by simp [z])) q)) hf (Nat.le_refl _) new
    refine ⟨.ref s.heap.objs.size, _, I1, rfl, ⟨_, x, rfl, I.hok.fresh (Nat.le_refl _), rfl, fun ys hy => by rw [I.tuple_inj hy hq]; exact hx⟩, ⟨⟨x2, ?_⟩, hs'.1.at fun o q => (sb.2 it (Ne.symm hne)).trans q, hne, hai, hae⟩, fun b hb => ?_⟩
    · have e1 : k + ((i + 1 : Nat) : Int) = k + (i : Int) + 1 := by omega
      rw [e1]; exact he'
    · have hb' : b < s.heap.objs.size := by
        have e' : b = e ∨ b = it := by simpa using hb
        rcases e' with z | z
        · rw [z]; exact hel
        · rw [z]; exact hil
      rw [upd_ne (Nat.ne_of_lt hb')]
      exact (hf b hb).1
  done := by
    intro X hP hw hK hc i pins s σ H E I hf st hg
    subst hP hw hK
    obtain ⟨⟨old, he⟩, hit, hne, hai, hae⟩ := st
    obtain ⟨xs, hq, hx⟩ := hg
    obtain ⟨its, rv, p, hz⟩ := I.tuple hq
    obtain ⟨f0, f1, f2, f3, f4, f5⟩ := hf it (by simp)
    have hl := rv.length
    exact wpAny_pyNext_enum_endT (i := i) (I.ok.hd hc) he hit p (by simp; omega) fun h' eb => ⟨rfl, I.turned (t' := s.toks) (fun b o hb q => eb b o hb q) f0 f1 f3 f4 f5⟩
  self := fun A i s Q E st h => let ⟨⟨_, he⟩, _⟩ := st; wpAny_pyIter_enum he h
theorem turn_enumL (a e it : Addr) (k : Int) :
    Turn P w K (.Tuple elts kk tpos) (ItE (fun H xs => SqL K H a xs) k) [e, it] e (fun i h => (∃ old, IsEnum h e it (k + ((i : Nat) : Int)) old) ∧ h.IsListIter it a i ∧ e ≠ it ∧ a ≠ it ∧ a ≠ e) where
  mem := by simp
  obj := fun i h st b hb => by
    obtain ⟨⟨old, he⟩, ⟨o, ho, hc, hd⟩, _⟩ := st
    have e' : b = e ∨ b = it := by simpa using hb
    rcases e' with z | z
    · rw [z]; exact ⟨_, he, fun v q => nomatch q⟩
    · rw [z]; exact ⟨o, ho, fun v q => by rw [hd] at q; cases q⟩
  keep := fun i h h' st kp => let ⟨⟨old, he⟩, hi, hne⟩ := st; ⟨⟨old, kp e (by simp) _ he⟩, hi.at fun o q => kp it (by simp) o q, hne⟩
  item := by
    intro X hP hw hK hc i pins s σ H E I hf st hg
    subst hP hw hK
    obtain ⟨⟨old, he⟩, hit, hne, hai, hae⟩ := st
    obtain ⟨xs, x, hq, hx⟩ := hg
    obtain ⟨its, rv, p, hz⟩ := I.list hq
    obtain ⟨u, hu, ru⟩ := rv.get hx
    have hel : e < s.heap.objs.size := Heap.lt_size he
    have hil : it < s.heap.objs.size := by obtain ⟨_, q, _⟩ := hit; exact Heap.lt_size q
    have hlt : i < its.toArray.size := by
      rw [List.size_toArray]
      exact (List.getElem?_eq_some_iff.mp hu).1
    refine wpAny_pyNext_enum_itemC (Draws.list (prog := X.prog) (w := X.w) (A := X.A.in1) (show X.A.in1.handled = none from I.ok.hd hc) it a hai its.toArray) he ⟨hit, p.isList⟩ hlt hne (fun z => (List.mem_cons.mp z).elim hne fun z => hae (List.mem_singleton.mp z).symm) fun x2 h' tk hP ho hs' hT hsz hk => ?_
    have hx2 : x2 = u := by
      have q : its.toArray[i]? = some u := by simpa using hu
      rw [hP] at q
      exact Option.some.inj q
    subst hx2
    refine ⟨_, rfl, wpAny_letOwnedTupleGo_enum (s := { s with heap := h', toks := tk + 1 }) ho fun h'' he' sb => ?_⟩
    have hT2 : h''.get? s.heap.objs.size = some { cls := .type "tuple", data := .seq #[.int (k + ((i : Nat) : Int)) tk, x2] } := (sb.2 _ (Nat.ne_of_gt hel)).trans hT
    have new : ObjOk X.prog X.w (upd H s.heap.objs.size (.tup [.int (k + ((i : Nat) : Int)), x])) h'' s.heap.objs.size (.tup [.int (k + ((i : Nat) : Int)), x]) :=
      ⟨by show 2 ≤ sizeLine; decide, [.int (k + ((i : Nat) : Int)) tk, x2], .cons ⟨_, rfl⟩ (.cons ru .nil), ⟨_, hT2, rfl, _, rfl⟩⟩
    have I1 : Inv X pins σ (upd H s.heap.objs.size (.tup [.int (k + ((i : Nat) : Int)), x])) { s with heap := h'', toks := tk + 1 } :=
      I.turnedNew (ch := [e, it]) (fun b ob hb q => (sb.2 b (fun z => hb (by simp [z]))).trans (hk b ob (fun z => hb (by simp [z])) (fun z => hb (by simp [z])) q)) hf (Nat.le_refl _) new
    refine ⟨.ref s.heap.objs.size, _, I1, rfl, ⟨_, x, rfl, I.hok.fresh (Nat.le_refl _), rfl, fun ys hy => by rw [I.list_inj hy hq]; exact hx⟩, ⟨⟨x2, ?_⟩, hs'.1.at fun o q => (sb.2 it (Ne.symm hne)).trans q, hne, hai, hae⟩, fun b hb => ?_⟩
    · have e1 : k + ((i + 1 : Nat) : Int) = k + (i : Int) + 1 := by omega
      rw [e1]; exact he'
    · have hb' : b < s.heap.objs.size := by
        have e' : b = e ∨ b = it := by simpa using hb
        rcases e' with z | z
        · rw [z]; exact hel
        · rw [z]; exact hil
      rw [upd_ne (Nat.ne_of_lt hb')]
      exact (hf b hb).1
  done := by
    intro X hP hw hK hc i pins s σ H E I hf st hg
    subst hP hw hK
    obtain ⟨⟨old, he⟩, hit, hne, hai, hae⟩ := st
    obtain ⟨xs, hq, hx⟩ := hg
    obtain ⟨its, rv, p, hz⟩ := I.list hq
    obtain ⟨f0, f1, f2, f3, f4, f5⟩ := hf it (by simp)
    have hl := rv.length
    exact wpAny_pyNext_enum_endL (i := i) (I.ok.hd hc) he hit p.isList (by simp; omega) fun h' eb => ⟨rfl, I.turned (t' := s.toks) (fun b o hb q => eb b o hb q) f0 f1 f3 f4 f5⟩
  self := fun A i s Q E st h => let ⟨⟨_, he⟩, _⟩ := st; wpAny_pyIter_enum he h
theorem fp2 {X : Cx} {pins : List (Addr × Obj)} {σ : L2.St} {H : Hp} {s : Shared} (I : Inv X pins σ H s) : ∀ b ∈ [s.heap.objs.size + 1, s.heap.objs.size], FpOk X pins H b := fun b hb => by
  have e' : b = s.heap.objs.size + 1 ∨ b = s.heap.objs.size := by simpa using hb
  have hle : s.heap.objs.size ≤ b := by
    rcases e' with z | z
    · rw [z]; exact Nat.le_add_right _ _
    · rw [z]; exact Nat.le_refl _
  exact I.fpOk hle (I.hok.fresh hle)
def iEnA (K : PySem.W.Frag) (ta : TA) : TI := fun σ H R => ta σ H fun vs H1 => ∃ a xs, vs = [.ref a] ∧ ((SqL K H1 a xs ∧ R (ItE (fun H xs => SqL K H a xs) 0) H1) ∨ (SqT K H1 a xs ∧ R (ItE (fun H xs => SqT K H a xs) 0) H1))
theorem pi_enumA {X : Cx} {e : Expr} {ta : TA} {p pos tpos : Pos} {elts : List Expr} {kk : Nat} (hg : Gl X "enumerate") (hm : X.mg "enumerate" = none) (ha : PA X [e] ta) (hs : starEach [e] X.env = [(false, eval e X.env)] := by rfl) :
    PI X (.Tuple elts kk tpos) (.Call (.Name "enumerate" p) [e] [] pos) (iEnA X.K ta) := by
  refine ⟨fun pins s σ H R I h => ?_⟩
  refine Call_ (ld_blt I hg hm boot_enumerate (PyProof.Rows.callWith_type1 (thn (ha.run pos pins s σ H _ I h) fun us s1 ⟨vs, H1, I1, r1, q1⟩ => ?_) hs rfl))
  obtain ⟨a, xs, ex, q1⟩ := q1
  subst ex
  cases r1 with
  | cons r rr =>
    cases rr
    cases r
    rcases q1 with ⟨hq, q⟩ | ⟨hq, q⟩
    · obtain ⟨its, rv, p', hz⟩ := I1.list hq
      have ha : a < s1.heap.objs.size := by obtain ⟨o, ho, _⟩ := p'.isList; exact Heap.lt_size ho
      refine call_enumerate_list p'.isList fun h' he hit hsz hk => wpAny_pyIter_enum he ?_
      have I2 : Inv X pins σ H1 { s1 with heap := h' } := I1.kept (t' := s1.toks) hk
      exact ⟨s1.heap.objs.size + 1, [s1.heap.objs.size + 1, s1.heap.objs.size], _, _, H1, rfl, I2, turn_enumL a (s1.heap.objs.size + 1) s1.heap.objs.size 0, ⟨⟨.none, by simpa using he⟩, hit, Nat.succ_ne_self _, Nat.ne_of_lt ha, Nat.ne_of_lt (Nat.lt_succ_of_lt ha)⟩, fp2 I1, q⟩
    · obtain ⟨its, rv, p', hz⟩ := I1.tuple hq
      have ha : a < s1.heap.objs.size := p'.lt
      refine call_enumerate_tuple p' fun h' he hit hsz hk => wpAny_pyIter_enum he ?_
      have I2 : Inv X pins σ H1 { s1 with heap := h' } := I1.kept (t' := s1.toks) hk
      exact ⟨s1.heap.objs.size + 1, [s1.heap.objs.size + 1, s1.heap.objs.size], _, _, H1, rfl, I2, turn_enumT a (s1.heap.objs.size + 1) s1.heap.objs.size 0, ⟨⟨.none, by simpa using he⟩, hit, Nat.succ_ne_self _, Nat.ne_of_lt ha, Nat.ne_of_lt (Nat.lt_succ_of_lt ha)⟩, fp2 I1, q⟩
end
section
variable {X : Cx} {C : Cc} {ρ : List Sl} {cls : Cl}
theorem Lv0.trans {g g1 g2 : Gh} (a : Lv0 g g1) (b : Lv0 g1 g2) : Lv0 g g2 := ⟨a.hs.trans b.hs, fun p h => b.fz p (a.fz p h)⟩
def SameBut (is : List Nat) (σ σ' : L2.St) : Prop := σ'.length = σ.length ∧ ∀ i, i ∉ is → σ'[i]? = σ[i]?
theorem SameBut.refl (is : List Nat) (σ : L2.St) : SameBut is σ σ := ⟨rfl, fun _ _ => rfl⟩
theorem SameBut.trans {is js : List Nat} {σ σ1 σ2 : L2.St} (a : SameBut is σ σ1) (b : SameBut js σ1 σ2) : SameBut (is ++ js) σ σ2 :=
  ⟨b.1.trans a.1, fun i hi => (b.2 i fun z => hi (List.mem_append_right _ z)).trans (a.2 i fun z => hi (List.mem_append_left _ z))⟩
theorem SameBut.mono {is js : List Nat} {σ σ' : L2.St} (a : SameBut is σ σ') (h : ∀ i ∈ is, i ∈ js) : SameBut js σ σ' := ⟨a.1, fun i hi => a.2 i fun z => hi (h i z)⟩
theorem SameBut.set {i : Nat} {σ : L2.St} {o : Option V} : SameBut [i] σ (σ.set i o) := ⟨List.length_set, fun j hj => List.getElem?_set_ne (fun z => hj (by simp [z]))⟩
theorem wipe_len {σ : L2.St} : ∀ {is : List Nat}, (wipe σ is).length = σ.length
  | [] => rfl
  | i :: is => by
    show ((wipe σ is).set i none).length = _
    rw [List.length_set]
    exact wipe_len
theorem wipe_at {σ : L2.St} {j : Nat} : ∀ {is : List Nat}, j ∈ is → j < σ.length → (wipe σ is)[j]? = some none
  | i :: is, h, hl => by
    show ((wipe σ is).set i none)[j]? = _
    by_cases e : i = j
    · subst e
      rw [List.getElem?_set_self (by rw [wipe_len]; exact hl)]
    · rw [List.getElem?_set_ne e]
      refine wipe_at ?_ hl
      rcases List.mem_cons.mp h with z | z
      · exact absurd z.symm e
      · exact z
theorem wipe_eq {is : List Nat} {σ σ' : L2.St} (a : SameBut is σ σ') : wipe σ' is = wipe σ is := by
  apply List.ext_getElem?
  intro j
  by_cases hj : j ∈ is
  · by_cases hl : j < σ.length
    · rw [wipe_at hj hl, wipe_at hj (by rw [a.1]; exact hl)]
    · rw [List.getElem?_eq_none (by rw [wipe_len, a.1]; omega), List.getElem?_eq_none (by rw [wipe_len]; omega)]
  · rw [wipe_out hj, wipe_out hj]
    exact a.2 j hj
theorem wipe_wipe {is : List Nat} {σ : L2.St} : wipe (wipe σ is) is = wipe σ is := wipe_eq ⟨wipe_len, fun i hi => wipe_out hi⟩
abbrev Pt := List Sl → D → Option (List Sl)
def pNm (i : Nat) : Pt := fun ρ d => some (ρ.set i (.val d))
def pTs : List Pt → List Sl → List D → Option (List Sl)
  | [], ρ, [] => some ρ
  | P :: Ps, ρ, d :: ds => match P ρ d with
    | some ρ' => pTs Ps ρ' ds
    | none => none
  | _, _, _ => none
def pTp (Ps : List Pt) : Pt := fun ρ d => match d with
  | .tup ds => pTs Ps ρ ds
  | .fd [.non] ds => pTs Ps ρ ds
  | _ => none
def gPat (Γ : Cst) (C : Cc) (is : List Nat) (P : Pt) : TG := fun v σ H Q => ∃ g m ρ d ρ', At Γ C ρ σ H g m ∧ Rep Γ.K g H v d ∧ P ρ d = some ρ' ∧ ∀ σ', At Γ C ρ' σ' H g m → SameBut is σ σ' → Q σ' H
def gPats (Γ : Cst) (C : Cc) (is : List Nat) (Ps : List Pt) : TGs := fun vs σ H Q => ∃ g m ρ ds ρ', At Γ C ρ σ H g m ∧ RepL Γ.K g H vs ds ∧ pTs Ps ρ ds = some ρ' ∧ ∀ σ', At Γ C ρ' σ' H g m → SameBut is σ σ' → Q σ' H
abbrev PGc (X : Cx) (C : Cc) (e : Expr) (is : List Nat) (P : Pt) : Prop := PG X e (gPat ⟨X.K, C.cls⟩ C is P)
abbrev PGsc (X : Cx) (C : Cc) (es : List Expr) (is : List Nat) (Ps : List Pt) : Prop := PGs X es (gPats ⟨X.K, C.cls⟩ C is Ps)
theorem pg_imp {X : Cx} {e : Expr} {t t' : TG} (h : PG X e t) (k : ∀ v σ H Q, t' v σ H Q → t v σ H Q) : PG X e t' := ⟨fun pins s σ H v u Q I r q => h.run pins s σ H v u Q I r (k v σ H Q q)⟩
theorem pgs_imp {X : Cx} {e : List Expr} {t t' : TGs} (h : PGs X e t) (k : ∀ v σ H Q, t' v σ H Q → t v σ H Q) : PGs X e t' := ⟨fun pins s σ H v u Q I r q => h.run pins s σ H v u Q I r (k v σ H Q q)⟩
theorem At.set {Γ : Cst} {σ : L2.St} {H : Hp} {g : Gh} {m : Hs} {v : V} {d : D} (a : At Γ C ρ σ H g m) (hv : Rep Γ.K g H v d) (i : Nat) : At Γ C (ρ.set i (.val d)) (σ.set i (some v)) H g m := ⟨a.le, a.rel, a.rs.set hv i, a.tw⟩
theorem g_nm {e : Expr} {i : Nat} (h : PG X e (gName i)) : PGc X C e [i] (pNm i) := pg_imp h fun v σ H Q q => by
  obtain ⟨g, m, ρ, d, ρ', at0, hv, hb, q⟩ := q
  simp only [pNm, Option.some.injEq] at hb
  subst hb
  exact q _ (at0.set hv i) SameBut.set
theorem gs_nil : PGsc X C [] [] [] := pgs_imp pgs_nil fun v σ H Q q => by
  obtain ⟨g, m, ρ, d, ρ', at0, hv, hb, q⟩ := q
  cases hv with
  | nil =>
    simp only [pTs, Option.some.injEq] at hb
    subst hb
    exact ⟨rfl, q _ at0 (SameBut.refl _ _)⟩
  | cons _ _ => simp [pTs] at hb
theorem gs_cons {e : Expr} {es : List Expr} {is js : List Nat} {P : Pt} {Ps : List Pt} (h1 : PGc X C e is P) (h2 : PGsc X C es js Ps)
    (hs : (assignEach (e :: es) X.env).map (·.2) = assign e X.env :: (assignEach es X.env).map (·.2) := by rfl) : PGsc X C (e :: es) (is ++ js) (P :: Ps) := pgs_imp (pgs_cons h1 h2 hs) fun v σ H Q q => by
  obtain ⟨g, m, ρ, d, ρ', at0, hv, hb, q⟩ := q
  cases hv with
  | nil => simp [pTs] at hb
  | cons a b =>
    simp only [pTs] at hb
    split at hb
    · rename_i r1 h1
      refine ⟨_, _, rfl, g, m, ρ, _, r1, at0, a, h1, fun σ1 at1 s1 => ?_⟩
      exact ⟨g, m, r1, _, ρ', at1, b, hb, fun σ2 at2 s2 => q σ2 at2 (s1.trans s2)⟩
    · cases hb
theorem pTs_length : ∀ {Ps : List Pt} {ds : List D} {ρ ρ' : List Sl}, pTs Ps ρ ds = some ρ' → ds.length = Ps.length
  | [], [], _, _, _ => rfl
  | [], _ :: _, _, _, h => by simp [pTs] at h
  | _ :: _, [], _, _, h => by simp [pTs] at h
  | P :: Ps, x :: xs, ρ, ρ', h => by
    simp only [pTs] at h
    split at h
    · simp only [List.length_cons, pTs_length h]
    · cases h
theorem g_tp {es : List Expr} {n : Nat} {is : List Nat} {Ps : List Pt} {pos : Pos} (hc : X.calm = true) (h : PGsc X C es is Ps) (hn : (assignEach es X.env).length = Ps.length := by rfl) (hst : (assignEach es X.env).findIdx? (·.1) = none := by rfl) : PGc X C (.Tuple es n pos) is (pTp Ps) :=
  pg_imp (pg_tup hc h hn hst) fun v σ H Q q => by
    obtain ⟨g, m, ρ, d, ρ', at0, hv, hb, q⟩ := q
    simp only [pTp] at hb
    split at hb
    · obtain ⟨a, xs, rfl, h1, h2⟩ := rep_tup hv
      exact ⟨a, xs, rfl, h1, by rw [h2.length]; exact pTs_length hb, g, m, ρ, _, ρ', at0, h2, hb, q⟩
    · obtain ⟨a, xs, rfl, h1, h2⟩ := rep_kt hv
      exact ⟨a, xs, rfl, SqT.of h1, by rw [h2.length]; exact pTs_length hb, g, m, ρ, _, ρ', at0, h2, hb, q⟩
    · cases hb
def Bd1 {β : Type} (P : Pt) (ρ : List Sl) (d : D) (t : M β) (T : List Sl → M β → Prop) : Prop := t = bad ∨ ∃ ρ', P ρ d = some ρ' ∧ T ρ' t
def BdL {β : Type} : List Pt → List Sl → List D → M β → (List Sl → M β → Prop) → Prop
  | [], ρ, _, t, T => T ρ t
  | P :: Ps, ρ, d :: ds, t, T => Bd1 P ρ d t fun ρ1 t => BdL Ps ρ1 ds t T
  | _ :: _, _, [], _, _ => False
theorem bd_nm {β : Type} {i : Nat} {d : D} {t : M β} {T : List Sl → M β → Prop} (h : T (ρ.set i (.val d)) t) : Bd1 (pNm i) ρ d t T := .inr ⟨_, rfl, h⟩
theorem BdL.ok {β : Type} {T : List Sl → M β → Prop} : ∀ {Ps : List Pt} {ρ : List Sl} {ds : List D} {t : M β}, ds.length = Ps.length → BdL Ps ρ ds t T → t = bad ∨ ∃ ρ', pTs Ps ρ ds = some ρ' ∧ T ρ' t
  | [], ρ, [], t, _, h => .inr ⟨ρ, rfl, h⟩
  | [], _, _ :: _, _, hl, _ => by simp at hl
  | _ :: _, _, [], _, hl, _ => by simp at hl
  | P :: Ps, ρ, d :: ds, t, hl, h => by
    rcases h with h | ⟨ρ1, h1, h2⟩
    · exact .inl h
    · rcases BdL.ok (by simpa using hl) h2 with h3 | ⟨ρ', h3, h4⟩
      · exact .inl h3
      · exact .inr ⟨ρ', by simp only [pTs, h1, h3], h4⟩
theorem bd_2 {β : Type} {P1 P2 : Pt} {d : D} {k : D → D → M β} {T : List Sl → M β → Prop} (h : ∀ a b, BdL [P1, P2] ρ [a, b] (k a b) T) : Bd1 (pTp [P1, P2]) ρ d (un2 d k) T := by
  unfold un2
  split
  · exact (h _ _).ok rfl
  · exact (h _ _).ok rfl
  · exact .inl rfl
theorem bd_3 {β : Type} {P1 P2 P3 : Pt} {d : D} {k : D → D → D → M β} {T : List Sl → M β → Prop} (h : ∀ a b c, BdL [P1, P2, P3] ρ [a, b, c] (k a b c) T) : Bd1 (pTp [P1, P2, P3]) ρ d (un3 d k) T := by
  unfold un3
  split
  · exact (h _ _ _).ok rfl
  · exact .inl rfl
def ItR (Γ : Cst) (g0 : Gh) (H0 : Hp) (J : It) (z : Its) : Prop := ∀ g m H, Lv0 g0 g → TK H0 H → Rel Γ g m H → stays z.2 m = true → ∀ i : Nat,
  (∀ d, z.1[i]? = some d → J.go i H ∧ ∀ v H', J.yld i H v H' → TK H H' ∧ Rel Γ g m H' ∧ Rep Γ.K g H' v d) ∧ (z.1[i]? = none → J.stop i H)
abbrev PIc (X : Cx) (C : Cc) (ρ : List Sl) (tg e : Expr) (t : M Its) : Prop := PI X tg e (tG ⟨X.K, C.cls⟩ C ρ (ItR ⟨X.K, C.cls⟩) t)
theorem pi_imp {X : Cx} {tg e : Expr} {t t' : TI} (h : PI X tg e t) (k : ∀ σ H Q, t' σ H Q → t σ H Q) : PI X tg e t' := ⟨fun pins s σ H Q I q => h.run pins s σ H Q I (k σ H Q q)⟩
theorem pi_seq {tg l : Expr} {tl : TE} (hl : PE X l tl) : PI X tg l (fun σ H R => tl σ H fun x H1 => ∃ a, x = .ref a ∧ (((∃ xs, SqL X.K H1 a xs) ∧ R (Itl X.K a) H1) ∨ ((∃ xs, SqT X.K H1 a xs) ∧ R (Itt X.K a) H1))) := by
  refine ⟨fun pins s σ H R I h => ?_⟩
  refine thn (hl.run pins s σ H _ I h) fun v s1 ⟨x, H1, I1, r1, q1⟩ => ?_
  obtain ⟨a, e, q1⟩ := q1
  subst e
  cases r1
  rcases q1 with ⟨⟨xs, hq⟩, q⟩ | ⟨⟨xs, hq⟩, q⟩
  · obtain ⟨its, rv, p, hz⟩ := I1.list hq
    refine wpAny_pyIter_list p.isList ?_
    refine ⟨s1.heap.objs.size, [s1.heap.objs.size], _, _, H1, rfl, I1.kept (t' := s1.toks) fun b o e => Heap.get?_push_of_some _ e, turn_list a _, ⟨_, Heap.get?_push_size _ rfl, rfl, rfl⟩, fun b hb => ?_, q⟩
    have e : b = s1.heap.objs.size := by simpa using hb
    subst e
    exact I1.fpOk (Nat.le_refl _) (I1.hok.fresh (Nat.le_refl _))
  · obtain ⟨its, rv, p, hz⟩ := I1.tuple hq
    refine wpAny_pyIter_tuple (show s1.heap.IsTuple a its.toArray from p) ?_
    refine ⟨s1.heap.objs.size, [s1.heap.objs.size], _, _, H1, rfl, I1.kept (t' := s1.toks) fun b o e => Heap.get?_push_of_some _ e, turn_tuple a _, ⟨_, Heap.get?_push_size _ rfl, rfl, rfl⟩, fun b hb => ?_, q⟩
    have e : b = s1.heap.objs.size := by simpa using hb
    subst e
    exact I1.fpOk (Nat.le_refl _) (I1.hok.fresh (Nat.le_refl _))
theorem stays_at {gd : List (Nat × List D)} {m : Hs} {n : Nat} {xs : List D} (h : stays gd m = true) (hm : (n, xs) ∈ gd) : m[n]? = some (.lst xs) := by
  unfold stays at h
  have q := List.all_eq_true.mp h _ hm
  simp only at q
  split at q
  · rename_i ys hy
    rw [hy, beqL_eq _ _ q]
  · cases q
theorem go_list {a : Addr} {vs : List V} {ds : List D} {g : Gh} {m : Hs} {H : Hp} (hs : SqL X.K H a vs) (r : RepL X.K g H vs ds) (rel : Rel ⟨X.K, cls⟩ g m H) (i : Nat) :
    (∀ d, ds[i]? = some d → (Itl X.K a).go i H ∧ ∀ v H', (Itl X.K a).yld i H v H' → TK H H' ∧ Rel ⟨X.K, cls⟩ g m H' ∧ Rep X.K g H' v d) ∧ (ds[i]? = none → (Itl X.K a).stop i H) := by
  refine ⟨fun d hd => ?_, fun hn => ⟨vs, hs, by rw [r.length]; exact List.getElem?_eq_none_iff.mp hn⟩⟩
  obtain ⟨v, h1, h2⟩ := r.get hd
  refine ⟨⟨vs, v, hs, h1⟩, fun w H' y => ?_⟩
  obtain ⟨e, y⟩ := y
  subst e
  have e2 := y vs hs
  rw [h1] at e2
  cases e2
  exact ⟨TK.refl _, rel, h2⟩
theorem go_tup {a : Addr} {vs : List V} {ds : List D} {g : Gh} {m : Hs} {H : Hp} (hs : SqT X.K H a vs) (r : RepL X.K g H vs ds) (rel : Rel ⟨X.K, cls⟩ g m H) (i : Nat) :
    (∀ d, ds[i]? = some d → (Itt X.K a).go i H ∧ ∀ v H', (Itt X.K a).yld i H v H' → TK H H' ∧ Rel ⟨X.K, cls⟩ g m H' ∧ Rep X.K g H' v d) ∧ (ds[i]? = none → (Itt X.K a).stop i H) := by
  refine ⟨fun d hd => ?_, fun hn => ⟨vs, hs, by rw [r.length]; exact List.getElem?_eq_none_iff.mp hn⟩⟩
  obtain ⟨v, h1, h2⟩ := r.get hd
  refine ⟨⟨vs, v, hs, h1⟩, fun w H' y => ?_⟩
  obtain ⟨e, y⟩ := y
  subst e
  have e2 := y vs hs
  rw [h1] at e2
  cases e2
  exact ⟨TK.refl _, rel, h2⟩
theorem guard_ok {v : V} {x : D} {ds : List D} {gd : List (Nat × List D)} {g0 : Gh} {m0 : Hs} {H0 : Hp} (rel0 : Rel ⟨X.K, cls⟩ g0 m0 H0) (hv : Rep X.K g0 H0 v x) (h : guardOf x m0 = some (ds, gd)) :
    ∃ a, v = .ref a ∧ (isT x = false ∧ (∃ vs, SqL X.K H0 a vs) ∧ (∀ g m H, Lv0 g0 g → TK H0 H → Rel ⟨X.K, cls⟩ g m H → stays gd m = true → ∃ vs, SqL X.K H a vs ∧ RepL X.K g H vs ds) ∨
      isT x = true ∧ (∃ vs, SqT X.K H0 a vs) ∧ (∀ g m H, Lv0 g0 g → TK H0 H → Rel ⟨X.K, cls⟩ g m H → stays gd m = true → ∃ vs, SqT X.K H a vs ∧ RepL X.K g H vs ds)) := by
  cases hv with
  | @tup a vs _ hs r =>
    simp only [guardOf, Option.some.injEq, Prod.mk.injEq] at h
    obtain ⟨rfl, rfl⟩ := h
    exact ⟨a, rfl, .inr ⟨rfl, ⟨vs, hs⟩, fun g m H p t rel _ => ⟨vs, t.seqT hs, r.mono p t⟩⟩⟩
  | @kt a vs _ hs r => simp [guardOf] at h
  | @fl a vs _ hs r =>
    simp only [guardOf, Option.some.injEq, Prod.mk.injEq] at h
    obtain ⟨rfl, rfl⟩ := h
    exact ⟨a, rfl, .inl ⟨rfl, ⟨vs, SqL.of (rel0.frz _ _ hs)⟩, fun g m H p t rel _ => ⟨vs, SqL.of (rel.frz _ _ (p.fz _ hs)), r.mono p t⟩⟩⟩
  | @sc a vs _ hs r =>
    simp only [guardOf, Option.some.injEq, Prod.mk.injEq] at h
    obtain ⟨rfl, rfl⟩ := h
    have sq : ∀ H, TK H0 H → SqL X.K H a vs := fun H t => by
      rcases hs with ⟨o, h⟩ | h
      · exact .inl (.inr ⟨o, t.frz _ _ _ h⟩)
      · exact h H
    exact ⟨a, rfl, .inl ⟨rfl, ⟨vs, sq _ (TK.refl _)⟩, fun g m H p t rel _ => ⟨vs, sq H t, r.mono p t⟩⟩⟩
  | @ref a n hg =>
    simp only [guardOf] at h
    split at h
    · rename_i xs hx
      simp only [Option.some.injEq, Prod.mk.injEq] at h
      obtain ⟨rfl, rfl⟩ := h
      refine ⟨a, rfl, .inl ⟨rfl, ?_, fun g m H p t rel st => ?_⟩⟩
      · obtain ⟨vs, h1, _⟩ := rel0.lst hx hg
        exact ⟨vs, SqL.of h1⟩
      · obtain ⟨vs, h1, h2⟩ := rel.lst (stays_at st (List.mem_singleton.mpr rfl)) (pre_get p.hs hg)
        exact ⟨vs, SqL.of h1, h2⟩
    · cases h
  | fd _ _ => simp [guardOf] at h
  | non => simp [guardOf] at h
  | bl _ => simp [guardOf] at h
  | int _ => simp [guardOf] at h
  | str _ => simp [guardOf] at h
theorem i_seq {tg e : Expr} {c : M D} (h : PEc X C ρ e c) : PIc X C ρ tg e (seqI c) := pi_imp (pi_seq h) fun σ H R q => by
  refine tG.bind q fun g' H' m1 v x at1 hv q => ?_
  have q : Post ⟨X.K, C.cls⟩ C.W (ItR ⟨X.K, C.cls⟩) σ g' H' R (bnd (ask (guardOf x)) ret m1) := by
    have e : bnd (ask (guardOf x)) ret = ask (guardOf x) := by
      funext m
      simp only [bnd]
      cases ask (guardOf x) m <;> rfl
    rw [e]
    exact q
  obtain ⟨⟨ds, gd⟩, hi, q⟩ := Post.ask q
  obtain ⟨a, rfl, h⟩ := guard_ok at1.rel hv hi
  refine ⟨a, rfl, ?_⟩
  rcases h with ⟨_, h0, h⟩ | ⟨_, h0, h⟩
  · refine .inl ⟨h0, q.ret at1.rel fun g2 m2 H2 p2 t2 rel2 st i => ?_⟩
    obtain ⟨vs, a1, a2⟩ := h g2 m2 H2 p2 t2 rel2 st
    exact go_list a1 a2 rel2 i
  · refine .inr ⟨h0, q.ret at1.rel fun g2 m2 H2 p2 t2 rel2 st i => ?_⟩
    obtain ⟨vs, a1, a2⟩ := h g2 m2 H2 p2 t2 rel2 st
    exact go_tup a1 a2 rel2 i
theorem rng_ok {lo : Int} {n : Nat} {g0 : Gh} {H0 : Hp} : ItR ⟨X.K, cls⟩ g0 H0 (Itr lo n) (rngL lo n, []) := fun g m H p t rel st i => by
  refine ⟨fun d hd => ?_, fun hn => ?_⟩
  · unfold rngL at hd
    rw [List.getElem?_map, Option.map_eq_some_iff] at hd
    obtain ⟨j, h1, h2⟩ := hd
    have hi : i < n := by
      have := (List.getElem?_eq_some_iff.mp h1).1
      simpa using this
    rw [List.getElem?_range hi] at h1
    cases h1
    refine ⟨hi, fun v H' y => ?_⟩
    obtain ⟨e1, e2⟩ := y
    subst e1
    subst e2
    rw [← h2]
    exact ⟨TK.refl _, rel, .int _⟩
  · have := List.getElem?_eq_none_iff.mp hn
    unfold rngL at this
    rw [List.length_map, List.length_range] at this
    exact this
theorem ls1 {W : WX} {σ : L2.St} {α A : Type} {rep : Gh → Hp → A → α → Prop} {t : M D} {k : D → M α} {H : Hp} {Q : A → Hp → Prop} (q : tG ⟨X.K, C.cls⟩ C ρ rep (bnd t k) σ H Q) : tG ⟨X.K, C.cls⟩ C ρ rep (bnd (lsM [t]) fun xs => match xs with | [x] => k x | _ => bad) σ H Q := by
  have e : (bnd (lsM [t]) fun xs => match xs with | [x] => k x | _ => bad) = bnd t k := by
    show bnd (bnd t fun x => bnd (ret []) fun xs => ret (x :: xs)) _ = _
    rw [bnd_bnd]
    rfl
  rw [e]
  exact q
theorem ls2 {σ : L2.St} {α A : Type} {rep : Gh → Hp → A → α → Prop} {t u : M D} {k : D → D → M α} {H : Hp} {Q : A → Hp → Prop} (q : tG ⟨X.K, C.cls⟩ C ρ rep (bnd t fun x => bnd u fun y => k x y) σ H Q) : tG ⟨X.K, C.cls⟩ C ρ rep (bnd (lsM [t, u]) fun xs => match xs with | [x, y] => k x y | _ => bad) σ H Q := by
  have e : (bnd (lsM [t, u]) fun xs => match xs with | [x, y] => k x y | _ => bad) = bnd t fun x => bnd u fun y => k x y := by
    show bnd (bnd t fun x => bnd (bnd u fun y => bnd (ret []) fun xs => ret (y :: xs)) fun xs => ret (x :: xs)) _ = _
    rw [bnd_bnd]
    congr 1
    funext x
    rw [bnd_bnd, bnd_bnd]
    rfl
  rw [e]
  exact q
theorem i_rng1 {tg e : Expr} {c : M D} {p pos : Pos} (h : PAc X C ρ [e] (lsM [c])) (hi : ∀ {t : TA}, PA X [e] t → PI X tg (.Call (.Name "range" p) [e] [] pos) (iRng1 t)) : PIc X C ρ tg (.Call (.Name "range" p) [e] [] pos) (rng1I c) := pi_imp (hi h) fun σ H R q => by
  refine tG.bind (ls1 (W := C.W) q) fun g1 H1 m1 v1 x1 at1 hv1 q1 => ?_
  cases hv1 with
  | nil => exact q1.elim
  | cons a b =>
    cases b with
    | cons _ _ => exact q1.elim
    | nil =>
      cases a with
      | int n =>
        obtain ⟨hn, q1⟩ := Post.ite q1
        exact ⟨n, rfl, hn.1, hn.2, q1.ret at1.rel rng_ok⟩
      | _ => exact q1.elim
theorem i_rng2 {tg e e2 : Expr} {c c2 : M D} {p pos : Pos} (h : PAc X C ρ [e, e2] (lsM [c, c2])) (hi : ∀ {t : TA}, PA X [e, e2] t → PI X tg (.Call (.Name "range" p) [e, e2] [] pos) (iRng2 t)) : PIc X C ρ tg (.Call (.Name "range" p) [e, e2] [] pos) (rng2I c c2) := pi_imp (hi h) fun σ H R q => by
  refine tG.bind (ls2 q) fun g1 H1 m1 v1 x1 at1 hv1 q1 => ?_
  cases hv1 with
  | nil => exact q1.elim
  | cons a b =>
    cases b with
    | nil => exact q1.elim
    | cons a' b =>
      cases b with
      | cons _ _ => exact q1.elim
      | nil =>
        cases a with
        | int n => cases a' with
          | int n' =>
            obtain ⟨hn, q1⟩ := Post.ite q1
            exact ⟨_, _, rfl, hn, q1.ret at1.rel rng_ok⟩
          | _ => exact q1.elim
        | _ => cases a' <;> exact q1.elim
theorem zipL_get : ∀ (xs ys : List D) (i : Nat), (zipL xs ys)[i]? = match xs[i]?, ys[i]? with | some x, some y => some (.tup [x, y]) | _, _ => none
  | [], ys, i => by simp [zipL]
  | x :: xs, [], i => by
    simp [zipL]
  | x :: xs, y :: ys, 0 => by simp [zipL]
  | x :: xs, y :: ys, i + 1 => by simp only [zipL, List.getElem?_cons_succ]; exact zipL_get xs ys i
theorem stays_app {g h : List (Nat × List D)} {m : Hs} (s : stays (g ++ h) m = true) : stays g m = true ∧ stays h m = true := by
  unfold stays at s ⊢
  rw [List.all_append, Bool.and_eq_true] at s
  exact s
theorem zip_step {H : Hp} {g : Gh} {m : Hs} {x y : V} {d e : D} {T : Addr} (rel : Rel ⟨X.K, cls⟩ g m H) (hx : Rep X.K g H x d) (hy : Rep X.K g H y e) (hT : H T = none) : TK H (upd H T (.tup [x, y])) ∧ Rel ⟨X.K, cls⟩ g m (upd H T (.tup [x, y])) ∧ Rep X.K g (upd H T (.tup [x, y])) (.ref T) (.tup [d, e]) :=
  ⟨TK.new hT, rel.laid hT, .tup (SqT.of upd_same) (.cons (hx.mono (Lv0.refl g) (TK.new hT)) (.cons (hy.mono (Lv0.refl g) (TK.new hT)) .nil))⟩
theorem i_zip {e e2 : Expr} {c c2 : M D} {p pos tpos : Pos} {elts : List Expr} {kk : Nat} (hg : Gl X "zip") (hm : X.mg "zip" = none) (h : PAc X C ρ [e, e2] (lsM [c, c2]))
    (hs : starEach [e, e2] X.env = (false, eval e X.env) :: starEach [e2] X.env := by rfl) (hpl : (backTo pos (starEach [e2] X.env)).any (·.1) = false := by rfl) : PIc X C ρ (.Tuple elts kk tpos) (.Call (.Name "zip" p) [e, e2] [] pos) (zipI c c2) :=
  pi_imp (RZ.pi_zipA hg hm h hs hpl) fun σ H R q => by
    refine tG.bind (ls2 q) fun g1 H1 m1 v1 x1 at1 hv1 q1 => ?_
    have rel1 := at1.rel
    cases hv1 with
    | nil => exact q1.elim
    | cons ax b =>
      cases b with
      | nil => exact q1.elim
      | cons ay b =>
        cases b with
        | cons _ _ => exact q1.elim
        | nil =>
          obtain ⟨hT, q1⟩ := Post.ite q1
          obtain ⟨⟨ds, gd⟩, hgx, q1⟩ := Post.ask q1
          obtain ⟨⟨es, ge⟩, hgy, q1⟩ := Post.ask q1
          obtain ⟨a, rfl, ha⟩ := guard_ok rel1 ax hgx
          obtain ⟨b, rfl, hb⟩ := guard_ok rel1 ay hgy
          rcases ha with ⟨ka, ⟨vs, ha0⟩, ha⟩ | ⟨ka, ⟨vs, ha0⟩, ha⟩
          · rcases hb with ⟨kb, ⟨ws, hb0⟩, hb⟩ | ⟨kb, ⟨ws, hb0⟩, hb⟩
            · refine ⟨a, b, vs, ws, rfl, .inl ⟨ha0, hb0, Post.ret q1 rel1 fun g m H p t rel st i => ?_⟩⟩
              obtain ⟨xs, a1, a2⟩ := ha g m H p t rel (stays_app st).1
              obtain ⟨ys, b1, b2⟩ := hb g m H p t rel (stays_app st).2
              refine ⟨fun d hd => ?_, fun hn => ?_⟩
              · rw [zipL_get] at hd
                split at hd
                · rename_i h1 h2
                  cases hd
                  obtain ⟨v, c1, c2⟩ := a2.get h1
                  obtain ⟨w, d1, d2⟩ := b2.get h2
                  refine ⟨⟨xs, ys, v, w, a1, b1, c1, d1⟩, fun u H' yl => ?_⟩
                  obtain ⟨T, x', y', rfl, hT, rfl, e1, e2⟩ := yl
                  have f1 := e1 xs a1
                  have f2 := e2 ys b1
                  rw [c1] at f1
                  rw [d1] at f2
                  cases f1
                  cases f2
                  exact zip_step rel c2 d2 hT
                · cases hd
              · rw [zipL_get] at hn
                refine ⟨xs, ys, a1, b1, ?_⟩
                split at hn
                · cases hn
                · rename_i hno
                  cases h1 : ds[i]? with
                  | none => exact .inl (by rw [a2.length]; exact List.getElem?_eq_none_iff.mp h1)
                  | some d =>
                    cases h2 : es[i]? with
                    | none => exact .inr (by rw [b2.length]; exact List.getElem?_eq_none_iff.mp h2)
                    | some e => exact (hno d e h1 h2).elim
            · rw [ka, kb] at hT
              cases hT
          · rcases hb with ⟨kb, ⟨ws, hb0⟩, hb⟩ | ⟨kb, ⟨ws, hb0⟩, hb⟩
            · rw [ka, kb] at hT
              cases hT
            · refine ⟨a, b, vs, ws, rfl, .inr ⟨ha0, hb0, Post.ret q1 rel1 fun g m H p t rel st i => ?_⟩⟩
              obtain ⟨xs, a1, a2⟩ := ha g m H p t rel (stays_app st).1
              obtain ⟨ys, b1, b2⟩ := hb g m H p t rel (stays_app st).2
              refine ⟨fun d hd => ?_, fun hn => ?_⟩
              · rw [zipL_get] at hd
                split at hd
                · rename_i h1 h2
                  cases hd
                  obtain ⟨v, c1, c2⟩ := a2.get h1
                  obtain ⟨w, d1, d2⟩ := b2.get h2
                  refine ⟨⟨xs, ys, v, w, a1, b1, c1, d1⟩, fun u H' yl => ?_⟩
                  obtain ⟨T, x', y', rfl, hT, rfl, e1, e2⟩ := yl
                  have f1 := e1 xs a1
                  have f2 := e2 ys b1
                  rw [c1] at f1
                  rw [d1] at f2
                  cases f1
                  cases f2
                  exact zip_step rel c2 d2 hT
                · cases hd
              · rw [zipL_get] at hn
                refine ⟨xs, ys, a1, b1, ?_⟩
                split at hn
                · cases hn
                · rename_i hno
                  cases h1 : ds[i]? with
                  | none => exact .inl (by rw [a2.length]; exact List.getElem?_eq_none_iff.mp h1)
                  | some d =>
                    cases h2 : es[i]? with
                    | none => exact .inr (by rw [b2.length]; exact List.getElem?_eq_none_iff.mp h2)
                    | some e => exact (hno d e h1 h2).elim
theorem enumL_get : ∀ (s : Int) (xs : List D) (i : Nat), (enumL s xs)[i]? = (xs[i]?).map fun x => .tup [.int (s + (i : Nat)), x]
  | s, [], i => by simp [enumL]
  | s, x :: xs, 0 => by simp [enumL]
  | s, x :: xs, i + 1 => by
    simp only [enumL, List.getElem?_cons_succ]
    rw [enumL_get (s + 1) xs i]
    have e : s + 1 + ((i : Nat) : Int) = s + ((i + 1 : Nat) : Int) := by omega
    rw [e]
theorem enum_go {sq : Hp → List V → Prop} {g : Gh} {m : Hs} {H : Hp} {vs : List V} {ds : List D} {s : Int} (hs : sq H vs) (hu : ∀ ws, sq H ws → True) (r : RepL X.K g H vs ds) (rel : Rel ⟨X.K, cls⟩ g m H) (i : Nat) :
    (∀ d, (enumL s ds)[i]? = some d → (ItE sq s).go i H ∧ ∀ v H', (ItE sq s).yld i H v H' → TK H H' ∧ Rel ⟨X.K, cls⟩ g m H' ∧ Rep X.K g H' v d) ∧ ((enumL s ds)[i]? = none → (ItE sq s).stop i H) := by
  refine ⟨fun d hd => ?_, fun hn => ?_⟩
  · rw [enumL_get, Option.map_eq_some_iff] at hd
    obtain ⟨x, h1, h2⟩ := hd
    obtain ⟨v, c1, c2⟩ := r.get h1
    refine ⟨⟨vs, v, hs, c1⟩, fun u H' yl => ?_⟩
    obtain ⟨T, x', rfl, hT, rfl, e1⟩ := yl
    have f1 := e1 vs hs
    rw [c1] at f1
    cases f1
    rw [← h2]
    exact zip_step rel (.int _) c2 hT
  · rw [enumL_get, Option.map_eq_none_iff] at hn
    exact ⟨vs, hs, by rw [r.length]; exact List.getElem?_eq_none_iff.mp hn⟩
theorem i_enum {e : Expr} {c : M D} {p pos tpos : Pos} {elts : List Expr} {kk : Nat} (hg : Gl X "enumerate") (hm : X.mg "enumerate" = none) (h : PAc X C ρ [e] (lsM [c])) (hs : starEach [e] X.env = [(false, eval e X.env)] := by rfl) :
    PIc X C ρ (.Tuple elts kk tpos) (.Call (.Name "enumerate" p) [e] [] pos) (enumI c) :=
  pi_imp (pi_enumA hg hm h hs) fun σ H R q => by
    refine tG.bind (ls1 (W := C.W) q) fun g1 H1 m1 v1 x1 at1 hv1 q1 => ?_
    cases hv1 with
    | nil => exact q1.elim
    | cons ax b =>
      cases b with
      | cons _ _ => exact q1.elim
      | nil =>
        obtain ⟨⟨ds, gd⟩, hx, q1⟩ := Post.ask q1
        obtain ⟨a, rfl, ha⟩ := guard_ok at1.rel ax hx
        rcases ha with ⟨ka, ⟨vs, ha0⟩, ha⟩ | ⟨ka, ⟨vs, ha0⟩, ha⟩
        · refine ⟨a, vs, rfl, .inl ⟨ha0, Post.ret q1 at1.rel fun g m H p t rel st i => ?_⟩⟩
          obtain ⟨xs, a1, a2⟩ := ha g m H p t rel st
          exact enum_go a1 (fun _ _ => trivial) a2 rel i
        · refine ⟨a, vs, rfl, .inr ⟨ha0, Post.ret q1 at1.rel fun g m H p t rel st i => ?_⟩⟩
          obtain ⟨xs, a1, a2⟩ := ha g m H p t rel st
          exact enum_go a1 (fun _ _ => trivial) a2 rel i
end
end G
namespace G
open PySem L2 PySem.Spec PyProof.Rows
section
variable {X : Cx} {C : Cc} {ρ : List Sl} {cls : Cl} {k : Nat}
def ServesC (X : Cx) (cls : Cl) (r : List V → Hp → VK → Prop) (f : List D → M D) : Prop := ∀ (W : WX) (σ : L2.St) (g : Gh) (H : Hp) (m : Hs) (vs : List V) (ds : List D) (Q : VK),
  Rel ⟨X.K, cls⟩ g m H → RepL X.K g H vs ds → Post ⟨X.K, cls⟩ W (rD ⟨X.K, cls⟩) σ g H Q (f ds m) → r vs H Q
theorem c_bi {e : Expr} {es : List Expr} {f : List D → M D} {cs : M (List D)} {r : List V → Hp → VK → Prop} (sv : ServesC X C.cls r f) (ha : PAc X C ρ es cs) (h : ∀ {t : TA}, PA X es t → PE X e (tCB r t)) : PEc X C ρ e (calM f cs) :=
  pe_imp (h ha) fun σ H Q q => by
    refine tG.bind q fun g1 H1 m1 v1 x1 at1 hv1 q1 => ?_
    exact sv C.W σ g1 H1 m1 v1 x1 Q at1.rel hv1 q1
def rLenA (K : PySem.W.Frag) : List V → Hp → VK → Prop := fun xs H Q => (∃ p ys, xs = [.ref p] ∧ (SqL K H p ys ∨ SqT K H p ys) ∧ Q (.int ys.length) H) ∨ (∃ z, xs = [.str z] ∧ z.length ≤ sizeLine ∧ Q (.int z.length) H)
theorem call_lenA : CallR X (.builtin "len") (rLenA X.K) := call_len_seq.or call_len_str
theorem sv_len : ServesC X cls (rLenA X.K) lenS := by
  intro W σ g H m vs ds Q rel hv q
  rcases ds with _ | ⟨d, _ | ⟨d2, t⟩⟩
  · exact q.elim
  · cases hv with
    | cons a b =>
      cases b
      cases hd : d with
      | str s =>
        subst hd
        obtain ⟨hz, q⟩ := Post.ite q
        rw [rep_str a]
        exact .inr ⟨s, rfl, hz, q.ret rel (.int _)⟩
      | _ =>
        rw [hd] at q a
        obtain ⟨xs, hx, q⟩ := Post.ask q
        obtain ⟨p, ys, rfl, hs, r⟩ := rep_seq rel a hx
        exact .inl ⟨p, ys, rfl, hs, by rw [r.length]; exact q.ret rel (.int _)⟩
  · cases d <;> exact q.elim
theorem sv_abs : ServesC X cls (fun xs H Q => ∃ i, xs = [.int i] ∧ Q (.int (if i < 0 then -i else i)) H) absS := by
  intro W σ g H m vs ds Q rel hv q
  rcases ds with _ | ⟨d, _ | ⟨d2, t⟩⟩
  · exact q.elim
  · cases hv with
    | cons a b =>
      cases b
      cases a with
      | int i => exact ⟨i, rfl, q.ret rel (.int _)⟩
      | _ => exact q.elim
  · cases d <;> exact q.elim
theorem sv_min2 : ServesC X cls (fun xs H Q => ∃ i j, xs = [.int i, .int j] ∧ Q (.int (if j < i then j else i)) H) min2S := by
  intro W σ g H m vs ds Q rel hv q
  rcases ds with _ | ⟨d, _ | ⟨d2, _ | ⟨d3, t⟩⟩⟩
  · exact q.elim
  · cases d <;> exact q.elim
  · cases hv with
    | cons a b =>
      cases b with
      | cons a' b =>
        cases b
        cases a with
        | int i => cases a' with
          | int j => exact ⟨i, j, rfl, q.ret rel (.int _)⟩
          | _ => exact q.elim
        | _ => cases a' <;> exact q.elim
  · cases d <;> cases d2 <;> exact q.elim
theorem sv_max2 : ServesC X cls (fun xs H Q => ∃ i j, xs = [.int i, .int j] ∧ Q (.int (if j > i then j else i)) H) max2S := by
  intro W σ g H m vs ds Q rel hv q
  rcases ds with _ | ⟨d, _ | ⟨d2, _ | ⟨d3, t⟩⟩⟩
  · exact q.elim
  · cases d <;> exact q.elim
  · cases hv with
    | cons a b =>
      cases b with
      | cons a' b =>
        cases b
        cases a with
        | int i => cases a' with
          | int j => exact ⟨i, j, rfl, q.ret rel (.int _)⟩
          | _ => exact q.elim
        | _ => cases a' <;> exact q.elim
  · cases d <;> cases d2 <;> exact q.elim
theorem sv_int : ServesC X cls (fun xs H Q => (∃ i, xs = [.int i] ∧ Q (.int i) H) ∨ ∃ k, xs = [.bl k] ∧ Q (.int (if k then 1 else 0)) H) intS := by
  intro W σ g H m vs ds Q rel hv q
  rcases ds with _ | ⟨d, _ | ⟨d2, t⟩⟩
  · exact q.elim
  · cases hv with
    | cons a b =>
      cases b
      cases a with
      | int i => exact .inl ⟨i, rfl, q.ret rel (.int _)⟩
      | bl i => exact .inr ⟨i, rfl, q.ret rel (.int _)⟩
      | _ => exact q.elim
  · cases d <;> exact q.elim
theorem bools_ok {g : Gh} {H : Hp} : ∀ {ds : List D} {vs : List V} {bs : List Bool}, boolsOf ds = some bs → RepL X.K g H vs ds → vs = bs.map V.bl
  | [], _, s, h, .nil => by simp only [boolsOf, Option.some.injEq] at h; subst h; rfl
  | .bl i :: ds, _, s, h, .cons (.bl _) r => by
    simp only [boolsOf, Option.map_eq_some_iff] at h
    obtain ⟨t, h1, rfl⟩ := h
    rw [bools_ok h1 r]
    rfl
  | .non :: ds, _, s, h, _ => by simp [boolsOf] at h
  | .int _ :: ds, _, s, h, _ => by simp [boolsOf] at h
  | .str _ :: ds, _, s, h, _ => by simp [boolsOf] at h
  | .tup _ :: ds, _, s, h, _ => by simp [boolsOf] at h
  | .fl _ :: ds, _, s, h, _ => by simp [boolsOf] at h
  | .sc _ :: ds, _, s, h, _ => by simp [boolsOf] at h
  | .fd _ _ :: ds, _, s, h, _ => by simp [boolsOf] at h
  | .ref _ :: ds, _, s, h, _ => by simp [boolsOf] at h
theorem sv_all : ServesC X cls (rAll X.K) allS := by
  intro W σ g H m vs ds Q rel hv q
  rcases ds with _ | ⟨d, _ | ⟨d2, t⟩⟩
  · exact q.elim
  · cases hv with
    | cons a b =>
      cases b
      obtain ⟨xs, hx, q⟩ := Post.ask q
      obtain ⟨p, ys, rfl, h1, h2⟩ := rep_lst rel a hx
      cases hs : boolsOf xs with
      | none => rw [hs] at q; exact q.elim
      | some s =>
        rw [hs] at q
        rw [bools_ok hs h2] at h1
        exact ⟨_, s, rfl, SqL.of h1, Post.ret q rel (.bl _)⟩
  · exact q.elim
theorem sv_tuple : ServesC X cls (fun xs H Q => ∃ p ys, xs = [.ref p] ∧ ((SqL X.K H p ys ∧ ∀ l, H l = none → Q (.ref l) (upd H l (.tup ys))) ∨ (SqT X.K H p ys ∧ Q (.ref p) H))) tupleS := by
  intro W σ g H m vs ds Q rel hv q
  rcases ds with _ | ⟨d, _ | ⟨d2, t⟩⟩
  · exact q.elim
  · cases hv with
    | cons a b =>
      cases b
      have a' := a
      cases a with
      | tup h r => exact ⟨_, _, rfl, .inr ⟨h, q.ret rel (.tup h r)⟩⟩
      | _ =>
        obtain ⟨xs, hx, q⟩ := Post.ask q
        obtain ⟨p, ys, e, h1, h2⟩ := rep_lst rel a' hx
        exact ⟨p, ys, by rw [e], .inl ⟨SqL.of h1, fun l hl => Post.newT q rel h2 hl⟩⟩
  · cases d <;> exact q.elim
def rRepr (K : PySem.W.Frag) : List V → Hp → VK → Prop := fun xs H Q => ∃ x d, xs = [x] ∧ Dp K H x d ∧ d.showable = true ∧ d.hasDict = false ∧ d.depth ≤ 50 ∧ d.shown.length ≤ sizeLine ∧ Q (.str d.shown) H
theorem call_repr (cl : Clr true X.A) (hu : X.A.units + 64 < cLine) : CallR X (.builtin "repr") (rRepr X.K) := by
  have cl := cl rfl
  intro pins s σ H xs us Q I rv h
  obtain ⟨x, d, rfl, hd, hs, hn, hp, hz, q⟩ := h
  obtain ⟨u, rfl, ru⟩ := vals1 rv
  obtain ⟨as, rd⟩ := Dp.reads I d x u hd ru
  have fin : ∀ tk : Tok, EP X pins σ Q (.str d.shown tk) { s with toks := s.toks + 1 } := fun tk => ⟨.str d.shown, H, I.tok _, ⟨_, rfl⟩, q⟩
  cases hd with
  | non =>
    cases ru
    exact PySem.P.repr_of_none (fin _)
  | bl b =>
    cases ru
    refine PySem.P.repr_of_bool ?_
    have := fin s.toks
    cases b <;> exact this
  | int i =>
    obtain ⟨t, rfl⟩ := ru
    exact PySem.P.repr_of_int (by simpa [PyData.showable] using hs) (fin _)
  | str y =>
    obtain ⟨t, rfl⟩ := ru
    exact PySem.P.repr_of_str (fin _) hz
  | lst h1 h2 =>
    cases ru
    exact repr_of_reads' rd hs (PyData.noDict_hsm hn) cl (by omega) (fun _ _ e => e) (fun h' u tk hk => ⟨.str _, H, I.kept hk, ⟨_, rfl⟩, q⟩) hz
  | tup h1 h2 =>
    cases ru
    exact repr_of_reads' rd hs (PyData.noDict_hsm hn) cl (by omega) (fun _ _ e => e) (fun h' u tk hk => ⟨.str _, H, I.kept hk, ⟨_, rfl⟩, q⟩) hz
theorem sv_repr : ServesC X cls (rRepr X.K) reprS := by
  intro W σ g H m vs ds Q rel hv q
  rcases ds with _ | ⟨d, _ | ⟨d2, t⟩⟩
  · exact q.elim
  · cases hv with
    | cons a b =>
      cases b
      obtain ⟨p, hp, q⟩ := Post.ask q
      obtain ⟨hz, q⟩ := Post.ite q
      have lay := pyD_lay deepest d p hp
      exact ⟨_, p, rfl, pyD_dp rel _ _ _ _ hp a, hz.1, PyData.hasDict_of_canLay p lay.1, lay.2, hz.2, q.ret rel (.str _)⟩
  · exact q.elim
def tyN : Ty → String
  | .non => "NoneType" | .bl => "bool" | .int => "int" | .str => "str" | .tup => "tuple" | .lst => "list" | .dct => "dict"
theorem ty_ok {g : Gh} {H : Hp} {m : Hs} {v : V} {x : D} {t : Ty} (rel : Rel ⟨X.K, cls⟩ g m H) (h : Rep X.K g H v x) (e : tyD x m = some t) : TyX X.K H v (.type (tyN t)) := by
  cases h with
  | non => simp only [tyD, Option.some.injEq] at e; subst e; exact .base .non
  | bl b => simp only [tyD, Option.some.injEq] at e; subst e; exact .base (.bl b)
  | int b => simp only [tyD, Option.some.injEq] at e; subst e; exact .base (.int b)
  | str b => simp only [tyD, Option.some.injEq] at e; subst e; exact .base (.str b)
  | tup h r =>
    simp only [tyD, Option.some.injEq] at e
    subst e
    rcases h with (h | ⟨o, h⟩) | ⟨o, its, n, h, hc, _⟩
    · exact .base (.tup h)
    · exact .fTuple h
    · exact .kTuple h hc
  | kt h r => simp [tyD] at e
  | fl h r =>
    simp only [tyD, Option.some.injEq] at e
    subst e
    exact .base (.lst (rel.frz _ _ h))
  | sc h r =>
    simp only [tyD, Option.some.injEq] at e
    subst e
    rcases h with ⟨o, h⟩ | h
    · exact .base (.frz h)
    · rcases h (fun _ => none) with (h | ⟨o, h⟩) | ⟨o, its, n, h, hc, _⟩
      · cases h
      · cases h
      · exact .kList h hc
  | @fd a kvs ds h r =>
    have e2 : t = .dct := by
      rcases kvs with _ | ⟨⟨k | k, v⟩, _ | ⟨p, r⟩⟩ <;> simp [keysK, keyD, tyD] at e <;> exact e.symm
    subst e2
    exact .base (.dK (rel.frz _ _ h))
  | ref h =>
    simp only [tyD] at e
    split at e
    · rename_i xs hx
      cases e
      obtain ⟨ys, h1, h2⟩ := rel.lst hx h
      exact .base (.lst h1)
    · cases e
theorem kit_all {K : PySem.W.Frag} (u t : Ty) (ht : t ≠ .non) : PySem.W.kitOne K (.type (tyN u)) (.type (tyN t)) = some (decide (u = t) || (decide (u = .bl) && decide (t = .int))) := by
  apply kit_ty
  cases t <;> first | exact absurd rfl ht | (cases u <;> decide +kernel)
theorem c_isi {e : Expr} {c : M D} {T : Str} {t : Ty} {p p2 pos : Pos} (ht : t ≠ .non) (hg : Gl X "isinstance") (hm : X.mg "isinstance" = none) (hg2 : Gl X T) (hm2 : X.mg T = none) (hv2 : bootBuiltins T = some (.type (tyN t))) (ha : PEc X C ρ e c)
    (hn : T ≠ "__name__" := by decide) (hd : (T == ("__debug__" : Str)) = false := by decide) (hs : starEach [e, .Name T p2] X.env = (false, eval e X.env) :: starEach [.Name T p2] X.env := by rfl) (hpl : (backTo pos (starEach [.Name T p2] X.env)).any (·.1) = false := by rfl) :
    PEc X C ρ (.Call (.Name "isinstance" p) [e, .Name T p2] [] pos) (isiM t c) :=
  pe_imp (pe_callB (pos := pos) call_isi hg hm (by decide +kernel) (pa_cons ha (pa_cons (pe_bltn hg2 hm2 hv2 (show RelV (.ty (tyN t)) _ from rfl) hn hd) pa_nil) hs) (by decide) (by decide) hs hpl) fun σ H Q q => by
    refine tG.bind q fun g1 H1 m1 v1 x1 at1 hv1 q1 => ?_
    obtain ⟨u, hu, q1⟩ := Post.ask q1
    exact ⟨v1, .ty (tyN t), _, _, _, rfl, .ty _, ty_ok at1.rel hv1 hu, kit_all u t ht, q1.ret at1.rel (.bl _)⟩
end
end G
namespace G
open PySem L2
abbrev WF : WX := fun _ _ _ _ => False
def Cc.wf (C : Cc) : Cc := ⟨C.cls, WF, C.gB, C.H0⟩
section
variable {X : Cx} {C : Cc} {ρ : List Sl} {k : Nat}
theorem RelS.other {Γ : Cst} {gB g : Gh} {H : Hp} {σ : L2.St} {a : Addr} {vs : List V} (h : RelS Γ gB g H ρ σ) (hm : Mut (H a)) (hne : ∀ (i : Nat) xs, ρ[i]? = some (Sl.own xs) → σ[i]? ≠ some (some (V.ref a))) {g2 : Gh} {u : HO} (lv : Lv0 g g2) (hg : ∀ q, q ∈ g.pv → q.1 ≠ a → q ∈ g2.pv) (hf : noFrz u = true := by rfl) : RelS Γ gB g2 (upd H a u) ρ σ := by
  refine ⟨h.len, fun i d e => ?_, fun i xs e => ?_, h.inj, h.raw⟩
  · obtain ⟨v, h1, h2⟩ := h.val i d e
    exact ⟨v, h1, h2.mono lv (TK.mut hm hf)⟩
  · obtain ⟨b, ws, h1, h2, h3, h4⟩ := h.own i xs e
    exact ⟨b, ws, h1, hg _ h2 fun z => hne i xs e (by have z : b = a := z; rw [← z]; exact h1), h3.mono lv (TK.mut hm hf), h4⟩
theorem Rel.sub {Γ : Cst} {g : Gh} {m : Hs} {H : Hp} {pv : List (Addr × HO)} (R : Rel Γ g m H) (h : ∀ p, p ∈ pv → p ∈ g.pv) : Rel Γ ⟨g.hs, g.fz, pv⟩ m H :=
  have lv : Lv0 g ⟨g.hs, g.fz, pv⟩ := ⟨List.prefix_refl _, fun _ z => z⟩
  ⟨R.len, R.inj, fun n o a h1 h2 => (R.obj n o a h1 h2).mono lv (TK.refl _) fun _ _ _ z => z, R.frz, fun a o z => R.prv a o (h _ z), R.hf, fun a o z1 z2 => R.hp a o z1 (h _ z2), fun a o u z => R.pf a o u (h _ z), R.lf, fun q hq => R.lp q (h q hq), R.ff, R.tab⟩
theorem le_out {g g' : Gh} {a : Addr} {u : HO} (p : Le (g.addP a u) g') (hn : ∀ w, (a, w) ∉ g.pv) : Le g (g'.outP a) :=
  ⟨p.hs, p.fz, fun q hq => mem_outP.mpr ⟨p.pv q (List.mem_cons_of_mem _ hq), fun z => hn q.2 (by have z : q.1 = a := z; rw [← z]; exact hq)⟩⟩
def tstM (c : M Bool) (e : M D) : M (Option D) := bnd c fun k => if k = true then elM e else ret none
def OkT (X : Cx) (C : Cc) (scope : Scope) (ifs : List Expr) (elt : Expr) (ρ' : List Sl) (t : M (Option D)) : Prop := ∃ c e, t = tstM c e ∧
  (∀ (s : Shared) (H : Hp) (A : Addr) (cl : List (Str × Addr)) (fp : List Addr), PTs (X.blk s H scope (compEnvC scope cl A X.env) fp) ifs (tG ⟨X.K, C.cls⟩ C.wf ρ' rB c)) ∧
  (∀ (s : Shared) (H : Hp) (A : Addr) (cl : List (Str × Addr)) (fp : List Addr), PE (X.blk s H scope (compEnvC scope cl A X.env) fp) elt (tE ⟨X.K, C.cls⟩ C.wf ρ' e))
theorem pts_imp {X : Cx} {e : List Expr} {t t' : TT} (h : PTs X e t) (k : ∀ σ H Q, t' σ H Q → t σ H Q) : PTs X e t' := ⟨fun pins s σ H Q I q => h.run pins s σ H Q I (k σ H Q q)⟩
theorem ok_el {scope : Scope} {elt : Expr} {e : M D} (h : ∀ (s : Shared) (H : Hp) (A : Addr) (cl : List (Str × Addr)) (fp : List Addr), PEc (X.blk s H scope (compEnvC scope cl A X.env) fp) C.wf ρ elt e) : OkT X C scope [] elt ρ (elM e) :=
  ⟨ret true, e, rfl, fun s H A cl fp => pts_imp pts_nil fun σ H Q q => by
    obtain ⟨g, m, at0, q⟩ := q
    exact q.ret at0.rel rfl, h⟩
def tTx (X : Cx) (C : Cc) (scope : Scope) (ifs : List Expr) (elt : Expr) : TT := fun σ H Q => ∃ ρ' c e, OkT X C scope ifs elt ρ' (tstM c e) ∧
  (∀ (s : Shared) (H : Hp) (A : Addr) (cl : List (Str × Addr)) (fp : List Addr), PTs (X.blk s H scope (compEnvC scope cl A X.env) fp) ifs (tG ⟨X.K, C.cls⟩ C.wf ρ' rB c)) ∧ tG ⟨X.K, C.cls⟩ C.wf ρ' rB c σ H Q
def tEx (X : Cx) (C : Cc) (scope : Scope) (elt : Expr) : TE := fun σ H Q => ∃ ρ' e,
  (∀ (s : Shared) (H : Hp) (A : Addr) (cl : List (Str × Addr)) (fp : List Addr), PE (X.blk s H scope (compEnvC scope cl A X.env) fp) elt (tE ⟨X.K, C.cls⟩ C.wf ρ' e)) ∧ tE ⟨X.K, C.cls⟩ C.wf ρ' e σ H Q
theorem At.wf {Γ : Cst} {σ : L2.St} {H : Hp} {g : Gh} {m : Hs} (a : At Γ C ρ σ H g m) : At Γ C.wf ρ σ H g m := ⟨a.le, a.rel, a.rs, a.tw⟩
theorem lc_gen {α β : Type} {rep : Gh → Hp → V → β → Prop} {fin : List D → M β} {scope : Scope} {ifs : List Expr} {elt : Expr} {own : List Nat} {is : List Nat} {P : Pt} {src : M Its} {turn : D → M (Option D)} {σ : L2.St} {H : Hp} {Q : VK} (hp : ∀ i ∈ is, i ∈ own)
    (ht : ∀ x, Bd1 P (wipeS ρ own) x (turn x) (OkT X C scope ifs elt)) {g0 : Gh} {m0 : Hs} (at0 : At ⟨X.K, C.cls⟩ C ρ σ H g0 m0) (q : Post ⟨X.K, C.cls⟩ C.W rep σ g0 H Q (bnd src (fun z => bnd (lcL z.2 turn z.1 []) fin) m0))
    (hfin : ∀ A g m H' vs acc, (∀ w, (A, w) ∉ g0.pv) → (∀ w, (A, w) ∉ g.pv) → Rel ⟨X.K, C.cls⟩ (g.addP A (.lst vs)) m H' → RepL X.K g H' vs acc → Post ⟨X.K, C.cls⟩ C.W rep σ g H' Q (fin acc m) → Q (.ref A) H') :
    tLc (tG ⟨X.K, C.cls⟩ C ρ (ItR ⟨X.K, C.cls⟩) src) (gPat ⟨X.K, C.cls⟩ C is P) (tTx X C scope ifs elt) (tEx X C scope elt) own σ H Q := by
  refine ⟨g0, m0, at0, Post.bind q fun g1 H1 m1 J z p01 t01 rel1 hv1 q1 => ?_⟩
  have at1 := at0.mono p01 t01 rel1
  obtain ⟨its, gd⟩ := z
  intro A hA
  have hnA : ∀ w, (A, w) ∉ g1.pv := fun w => at1.rel.freshP hA
  have hne : ∀ (i : Nat) xs, ρ[i]? = some (Sl.own xs) → σ[i]? ≠ some (some (V.ref A)) := fun i xs hi hz => by
    obtain ⟨b, ws, h1, h2, _⟩ := at1.rs.own i xs hi
    rw [hz] at h1
    cases h1
    exact hnA _ h2
  have hBA : ∀ w, (A, w) ∉ C.gB.pv := fun w z => hnA w (at1.le.pv _ z)
  refine ⟨fun i n H' => n = its.length - i ∧ ∃ g m vs acc, Lv0 g1 g ∧ (∀ w, (A, w) ∉ g.pv) ∧ TK H1 H' ∧ At ⟨X.K, C.cls⟩ C ρ σ H' (g.addP A (.lst vs)) m ∧ RepL X.K g H' vs acc ∧
    Post ⟨X.K, C.cls⟩ C.W rep σ g H' Q (bnd (lcL gd turn (its.drop i) acc) fin m),
    ⟨its.length, by simp, g1, m1, [], [], Lv0.refl _, hnA, TK.new hA, ⟨at1.le.trans le_addP, at1.rel.newP hA, at1.rs.mono le_addP (TK.new hA), at1.tw.go (TK.new hA)⟩, .nil, by simpa using Post.mono (Le.refl g1) (TK.new hA) q1⟩, ?_⟩
  rintro i n H' ⟨rfl, g, m, vs, acc, lv, hn, tk, at2, ra, q2⟩
  have rel2 := at2.rel
  have hAH : H' A = some (.lst vs) := rel2.prv _ _ List.mem_cons_self
  have st : stays gd m = true := by
    have key : ∀ {t : M (List D)}, Post ⟨X.K, C.cls⟩ C.W rep σ g H' Q (bnd (bnd (stay gd) fun _ => t) fin m) → stays gd m = true := fun {t} q => by
      rw [bnd_bnd] at q
      unfold bnd stay at q
      by_cases h : stays gd m = true
      · exact h
      · rw [if_neg h] at q
        exact q.elim
    cases hd : its.drop i with
    | nil => rw [hd] at q2; exact key q2
    | cons x xs => rw [hd] at q2; exact key q2
  have hI := hv1 (g.addP A (.lst vs)) m H' (lv.trans le_addP.v) tk rel2 st i
  have stm : stay gd m = .ok () m := by unfold stay; rw [if_pos st]
  cases hi : its[i]? with
  | none =>
    refine .inl ⟨hI.2 hi, ?_⟩
    have hd : its.drop i = [] := List.drop_eq_nil_of_le (List.getElem?_eq_none_iff.mp hi)
    rw [hd] at q2
    simp only [lcL, bnd, stm, Rs.bind] at q2
    exact hfin A g m H' vs acc (fun w z => hnA w (p01.pv _ z)) hn rel2 ra q2
  | some d =>
    obtain ⟨hgo, hy⟩ := hI.1 d hi
    have hil : i < its.length := (List.getElem?_eq_some_iff.mp hi).1
    have hd : its.drop i = d :: its.drop (i + 1) := by
      rw [List.drop_eq_getElem_cons hil]
      congr 1
      exact (List.getElem?_eq_some_iff.mp hi).2
    rw [hd] at q2
    have q2' : Post ⟨X.K, C.cls⟩ C.W rep σ g H' Q (((turn d m).calm).bind fun o m3 => bnd (match o with
      | none => lcL gd turn (its.drop (i + 1)) acc
      | some y => if acc.length < sizeLine then lcL gd turn (its.drop (i + 1)) (acc ++ [y]) else bad) fin m3) := by
      have e : bnd (lcL gd turn (d :: its.drop (i + 1)) acc) fin m = ((turn d m).calm).bind fun o m3 => bnd (match o with
        | none => lcL gd turn (its.drop (i + 1)) acc
        | some y => if acc.length < sizeLine then lcL gd turn (its.drop (i + 1)) (acc ++ [y]) else bad) fin m3 := by
        simp only [lcL]
        rw [bnd_bnd]
        simp only [bnd, stm, Rs.bind, calm]
        cases (turn d m).calm <;> rfl
      rw [← e]
      exact q2
    clear q2
    refine .inr ⟨hgo, fun H2 => ∃ g m vs acc, Lv0 g1 g ∧ (∀ w, (A, w) ∉ g.pv) ∧ TK H1 H2 ∧ At ⟨X.K, C.cls⟩ C ρ σ H2 (g.addP A (.lst vs)) m ∧ RepL X.K g H2 vs acc ∧
      Post ⟨X.K, C.cls⟩ C.W rep σ g H2 Q (bnd (lcL gd turn (its.drop (i + 1)) acc) fin m),
      fun H2 h2 => ⟨its.length - (i + 1), by omega, rfl, h2⟩, fun x H3 y => ?_⟩
    obtain ⟨tk3, rel3, hx3⟩ := hy x H3 y
    have q3 := Post.mono (Le.refl g) tk3 q2'
    have at3 := at2.keep tk3 rel3
    rcases ht d with hbad | ⟨ρ', hb, c, e, htu, hPT, hPE⟩
    · rw [hbad] at q3
      exact q3.elim
    have at3w : At ⟨X.K, C.cls⟩ C (wipeS ρ own) (L2.wipe σ own) H3 (g.addP A (.lst vs)) m := ⟨at3.le, at3.rel, at3.rs.wipe own, at3.tw⟩
    refine ⟨g.addP A (.lst vs), m, wipeS ρ own, d, ρ', at3w, hx3, hb, fun σ2 at4 sb => ⟨?_, ?_⟩⟩
    · rw [wipe_eq (sb.mono hp), wipe_wipe]
    · rw [htu] at q3
      refine ⟨ρ', c, e, ⟨c, e, rfl, hPT, hPE⟩, hPT, g.addP A (.lst vs), m, at4.wf, ?_⟩
      have et : tstM c e m = (c m).bind fun k m3 => (if k = true then elM e else ret none) m3 := rfl
      rw [et] at q3
      cases hc : c m with
      | ex c' fs m3 => rw [hc] at q3; exact q3.elim
      | bad => rw [hc] at q3; exact q3.elim
      | ok b m3 =>
        rw [hc, bind_ok] at q3
        intro g5 H5 b' p5 t5 rel5 eb
        subst eb
        have out5 := le_out p5 hn
        have hn5 : ∀ w, (A, w) ∉ (g5.outP A).pv := fun w z => (mem_outP.mp z).2 rfl
        have hA5 : (A, HO.lst vs) ∈ g5.pv := p5.pv _ List.mem_cons_self
        have ra5 : RepL X.K (g5.outP A) H5 vs acc := ra.mono out5.v (tk3.trans t5)
        have at5 : At ⟨X.K, C.cls⟩ C ρ σ H5 g5 m3 := at3.mono p5 t5 rel5
        have subP : ∀ p, p ∈ ((g5.outP A).addP A (HO.lst vs)).pv → p ∈ g5.pv := fun p hp => by
          rcases List.mem_cons.mp hp with z | z
          · rw [z]; exact hA5
          · exact (mem_outP.mp z).1
        have supP : ∀ p, p ∈ g5.pv → p ∈ ((g5.outP A).addP A (HO.lst vs)).pv := fun p hp => by
          by_cases e : p.1 = A
          · have e1 : p = (A, HO.lst vs) := by
              obtain ⟨p1, p2⟩ := p
              have e : p1 = A := e
              subst e
              have h1 := rel5.prv _ _ hp
              have h2 := rel5.prv _ _ hA5
              rw [h1] at h2
              cases h2
              rfl
            rw [e1]
            exact List.mem_cons_self
          · exact List.mem_cons_of_mem _ (mem_outP.mpr ⟨hp, e⟩)
        have le5 : Le g5 ((g5.outP A).addP A (HO.lst vs)) := ⟨List.prefix_refl _, fun _ z => z, supP⟩
        have at5' : At ⟨X.K, C.cls⟩ C ρ σ H5 ((g5.outP A).addP A (HO.lst vs)) m3 :=
          ⟨⟨at5.le.hs, at5.le.fz, fun p hp => supP p (at5.le.pv p hp)⟩, rel5.sub subP, at5.rs.mono le5 (TK.refl _), at5.tw⟩
        cases b' with
        | false =>
          rw [if_neg (by simp)] at q3
          exact iteF ⟨g5.outP A, m3, vs, acc, lv.trans out5.v, hn5, (tk.trans tk3).trans t5, at5', ra5, Post.mono out5 t5 q3⟩
        | true =>
          rw [if_pos rfl] at q3
          have at45 : At ⟨X.K, C.cls⟩ C.wf ρ' σ2 H5 g5 m3 := at4.wf.mono p5 t5 rel5
          refine iteT ⟨ρ', e, hPE, g5, m3, at45, ?_⟩
          have ee : elM e m3 = (e m3).bind fun y m4 => .ok (some y) m4 := rfl
          rw [ee] at q3
          cases he : e m3 with
          | ex c' fs m4 => rw [he] at q3; exact q3.elim
          | bad => rw [he] at q3; exact q3.elim
          | ok y m4 =>
            rw [he, bind_ok] at q3
            intro g6 H6 v6 p6 t6 rel6 h6
            have q6 : Post ⟨X.K, C.cls⟩ C.W rep σ g H3 Q (bnd (if acc.length < sizeLine then lcL gd turn (its.drop (i + 1)) (acc ++ [y]) else bad) fin m4) := q3
            by_cases hz : acc.length < sizeLine
            · rw [if_pos hz] at q6
              have out6 := le_out (p5.trans p6) hn
              have hn6 : ∀ w, (A, w) ∉ (g6.outP A).pv := fun w z => (mem_outP.mp z).2 rfl
              have hA6 : (A, HO.lst vs) ∈ g6.pv := p6.pv _ hA5
              have hH6 := rel6.prv _ _ hA6
              have mu : Mut (H6 A) := by rw [hH6]; trivial
              have at6 : At ⟨X.K, C.cls⟩ C ρ σ H6 g6 m4 := at5.mono p6 t6 rel6
              have rr : RepL X.K (g6.outP A) H6 vs acc := ra.mono out6.v ((tk3.trans t5).trans t6)
              have h6' : Rep X.K (g6.outP A) H6 v6 y := h6.mono lv_outP (TK.refl _)
              refine ⟨vs, hH6, by rw [rr.length]; exact hz, g6.outP A, m4, vs ++ [v6], acc ++ [y], lv.trans out6.v, hn6, (((tk.trans tk3).trans t5).trans t6).trans (TK.mut mu), ⟨⟨at6.le.hs, at6.le.fz, fun p hp => List.mem_cons_of_mem _ (mem_outP.mpr ⟨at6.le.pv p hp, fun z => hBA p.2 (by have z : p.1 = A := z; rw [← z]; exact hp)⟩)⟩, rel6.setP mu hA6, at6.rs.other (vs := vs) mu hne ⟨List.prefix_refl _, fun _ z => z⟩ fun q hq hz => List.mem_cons_of_mem _ (mem_outP.mpr ⟨hq, hz⟩), at6.tw.go (TK.mut mu)⟩, (rr.append (.cons h6' .nil)).mono (Lv0.refl _) (TK.mut mu), Post.mono out6 ((t5.trans t6).trans (TK.mut mu)) q6⟩
            · rw [if_neg hz] at q6
              exact q6.elim
theorem lc_ok {scope : Scope} {ifs : List Expr} {elt : Expr} {own : List Nat} {is : List Nat} {P : Pt} {src : M Its} {turn : D → M (Option D)} {σ : L2.St} {H : Hp} {Q : VK} (hp : ∀ i ∈ is, i ∈ own)
    (ht : ∀ x, Bd1 P (wipeS ρ own) x (turn x) (OkT X C scope ifs elt)) (q : tG ⟨X.K, C.cls⟩ C ρ (rD ⟨X.K, C.cls⟩) (lcM src turn) σ H Q) :
    tLc (tG ⟨X.K, C.cls⟩ C ρ (ItR ⟨X.K, C.cls⟩) src) (gPat ⟨X.K, C.cls⟩ C is P) (tTx X C scope ifs elt) (tEx X C scope elt) own σ H Q := by
  obtain ⟨g0, m0, at0, q⟩ := q
  refine lc_gen (α := Unit) (fin := fun ys => ret (D.fl ys)) hp ht at0 q fun A g m H' vs acc hn0 hn rel2 ra q2 => ?_
  have R := rel2.frzP (a := A) List.mem_cons_self
  have le9 : Le g (((g.addP A (HO.lst vs)).outP A).addF A (HO.lst vs)) := ⟨List.prefix_refl _, fun p hp => List.mem_cons_of_mem _ hp, fun p hp => mem_outP.mpr ⟨List.mem_cons_of_mem _ hp, fun z => hn p.2 (by have z : p.1 = A := z; rw [← z]; exact hp)⟩⟩
  exact q2 _ H' (.ref A) le9 (TK.refl _) R (.fl List.mem_cons_self (ra.mono le9.v (TK.refl _)))
theorem c_lc {elt tg iter : Expr} {ifs : List Expr} {scope : Scope} {own : List (Str × Nat)} {pos : Pos} {src : M Its} {turn : D → M (Option D)} {is : List Nat} {P : Pt} (hc : X.calm = true) (hN : X.N.Nodup) (hi : PIc X C ρ tg iter src) (ok : BlkOk X.N X.env.scope scope own)
    (hp : ∀ i ∈ is, i ∈ own.map (·.2))
    (hg : ∀ (s : Shared) (H : Hp) (A : Addr) (cl : List (Str × Addr)) (fp : List Addr), PGc (X.blk s H scope (compEnvC scope cl A X.env) fp) C tg is P) (ht : ∀ x, Bd1 P (wipeS ρ (own.map (·.2))) x (turn x) (OkT X C scope ifs elt)) (hs : ∀ x, foldedSetIterable iter X.env x = pure x := by intro _; rfl) :
    PEc X C ρ (.ListComp elt [⟨tg, iter, ifs, 0⟩] scope pos) (lcM src turn) :=
  pe_imp (pe_lc (tt := tTx X C scope ifs elt) (te := tEx X C scope elt) hc hN hi ok hg (fun s H A cl fp => ⟨fun pins t σ H' Q I q => by
    obtain ⟨ρ', c, e, _, h, q⟩ := q
    exact (h s H A cl fp).run pins t σ H' Q I q⟩) (fun s H A cl fp => ⟨fun pins t σ H' Q I q => by
    obtain ⟨ρ', e, h, q⟩ := q
    exact (h s H A cl fp).run pins t σ H' Q I q⟩) hs) fun σ H Q q => lc_ok hp ht q
end
end G
namespace G
open PySem L2
section
variable {A B : Type} (Γ : Cst) (C : Cc) (oa : A → List Sl) (ob : B → List Sl)
def PostS (g : Gh) (H : Hp) (De : Ends) : Rs (Fl A B) → Prop
  | .ok (.nx a) m => ∀ g' H' σ, Lv0 g g' → TK H H' → At Γ C (oa a) σ H' g' m → De.nx σ H'
  | .ok (.bk b) m => ∀ g' H' σ, Lv0 g g' → TK H H' → At Γ C (ob b) σ H' g' m → De.bk σ H'
  | .ok (.ct b) m => ∀ g' H' σ, Lv0 g g' → TK H H' → At Γ C (ob b) σ H' g' m → De.ct σ H'
  | .ok (.rt d) m => ∀ g' H' v, Le C.gB g' → Lv0 g g' → TK H H' → Rel Γ g' m H' → Rep Γ.K g' H' v d → De.rt v H'
  | .ex c fs m => ∀ σ, PostX Γ C.W σ C.gB H c fs m
  | .bad => False
def tS (ρ : List Sl) (t : M (Fl A B)) : TS := fun De σ H => ∃ g m, At Γ C ρ σ H g m ∧ PostS Γ C oa ob g H De (t m)
end
abbrev PSsc {A B : Type} (X : Cx) (C : Cc) (ρ : List Sl) (e : List Stmt) (oa : A → List Sl) (ob : B → List Sl) (t : M (Fl A B)) : Prop := PSs X e (tS ⟨X.K, C.cls⟩ C oa ob ρ t)
section
variable {X : Cx} {C : Cc} {ρ : List Sl} {k : Nat} {A B A' B' : Type} {oa : A → List Sl} {ob : B → List Sl} {oa' : A' → List Sl} {g g' : Gh} {H H' : Hp} {De : Ends} {Γ : Cst} {σ : L2.St} {m : Hs}
theorem PostS.mono {r : Rs (Fl A B)} (p : Lv0 g g') (t : TK H H') (h : PostS Γ C oa ob g H De r) : PostS Γ C oa ob g' H' De r := by
  cases r with
  | ok o m =>
    cases o with
    | nx r => exact fun g2 H2 σ p2 t2 => h g2 H2 σ (p.trans p2) (t.trans t2)
    | bk r => exact fun g2 H2 σ p2 t2 => h g2 H2 σ (p.trans p2) (t.trans t2)
    | ct r => exact fun g2 H2 σ p2 t2 => h g2 H2 σ (p.trans p2) (t.trans t2)
    | rt d => exact fun g2 H2 v l2 p2 t2 => h g2 H2 v l2 (p.trans p2) (t.trans t2)
  | ex c fs m => exact fun σ => PostX.mono (Le.refl _) t (h σ)
  | bad => exact h
theorem PostS.bind {α V' : Type} {rep : Gh → Hp → V' → α → Prop} {r : Rs α} {f : α → Hs → Rs (Fl A B)} {R : V' → Hp → Prop} (le : Le C.gB g) (q : PostS Γ C oa ob g H De (r.bind f))
    (k : ∀ g' H' m v x, Le g g' → TK H H' → Rel Γ g' m H' → rep g' H' v x → PostS Γ C oa ob g' H' De (f x m) → R v H') : Post Γ C.W rep σ g H R r := by
  cases r with
  | ok x m => exact fun g' H' v p t rel hv => k g' H' m v x p t rel hv (PostS.mono p.v t q)
  | ex c fs m => exact PostX.mono le (TK.refl _) (q σ)
  | bad => exact q
theorem PostS.nx {a : A} (q : PostS Γ C oa ob g H De (.ok (.nx a) m)) (at0 : At Γ C (oa a) σ H g m) : De.nx σ H := q g H σ (Lv0.refl g) (TK.refl H) at0
theorem PostS.rt {d : D} {v : V} (q : PostS Γ C oa ob g H De (.ok (.rt d) m)) (le : Le C.gB g) (rel : Rel Γ g m H) (hv : Rep Γ.K g H v d) : De.rt v H := q g H v le (Lv0.refl g) (TK.refl H) rel hv
theorem At.less {ρ' : List Sl} (a : At Γ C ρ σ H g m) (s : Sub ρ' ρ) : At Γ C ρ' σ H g m := ⟨a.le, a.rel, a.rs.less s, a.tw⟩
theorem s_seq {st : Stmt} {rest : List Stmt} {t1 : M (Fl A' B)} {f : A' → M (Fl A B)} (h1 : PS X st (tS ⟨X.K, C.cls⟩ C oa' ob ρ t1)) (h2 : ∀ a, PSsc X C (oa' a) rest oa ob (f a)) : PSsc X C ρ (st :: rest) oa ob (seq t1 f) := by
  have h2' : PSs X rest (fun De σ H => ∃ a, tS ⟨X.K, C.cls⟩ C oa ob (oa' a) (f a) De σ H) := ⟨fun pins s σ H De I ⟨a, q⟩ => (h2 a).run pins s σ H De I q⟩
  refine pss_imp (pss_cons h1 h2') fun De σ H q => ?_
  obtain ⟨g, m, at0, q⟩ := q
  refine ⟨g, m, at0, ?_⟩
  unfold seq bnd at q
  cases hz : t1 m with
  | ok o m1 =>
    rw [hz, bind_ok] at q
    cases o with
    | nx a => exact fun g' H' σ' p t at1 => ⟨a, g', m1, at1, PostS.mono p t q⟩
    | bk b => exact q
    | ct b => exact q
    | rt d => exact q
  | ex c fs m1 => rw [hz] at q; exact q
  | bad => rw [hz] at q; exact q
theorem s_one {st : Stmt} {t : M (Fl A B)} (h : PS X st (tS ⟨X.K, C.cls⟩ C oa ob ρ t)) : PSsc X C ρ [st] oa ob t := by
  refine pss_imp (pss_cons h pss_nil) fun De σ H q => ?_
  exact q
theorem s_nil {a : A} (s : Sub (oa a) ρ) : PSsc X C ρ [] oa ob (nxt a) := pss_imp pss_nil fun De σ H q => by
  obtain ⟨g, m, at0, q⟩ := q
  exact PostS.nx q (at0.less s)
theorem pss_dead {st : Stmt} {rest : List Stmt} {t : TS} (h : PS X st t) (hn : ∀ De σ H, t De σ H → t { De with nx := fun _ _ => False } σ H) : PSs X (st :: rest) t := by
  have h2 : PSs X rest (fun _ _ _ => False) := ⟨fun _ _ _ _ _ _ q => q.elim⟩
  exact pss_imp (pss_cons h h2) fun De σ H q => hn De σ H q
theorem s_bad {st : List Stmt} : PSsc X C ρ st oa ob bad := ⟨fun _ _ _ _ _ _ q => by
  obtain ⟨g, m, at0, q⟩ := q
  exact q.elim⟩
theorem s_exp {rest : List Stmt} {t : M (Fl A B)} {e : Expr} {c : M D} {pos : Pos} (h : PEc X C ρ e c) (hr : PSsc X C ρ rest oa ob t) (hs : swapsWith e none pos.line X.env = pure false := by rfl) : PSsc X C ρ (.Expr e pos :: rest) oa ob (bnd c fun _ => t) := pss_imp (pss_cons (ps_expr h hs) hr) fun De σ H q => by
  obtain ⟨g, m, at0, q⟩ := q
  exact ⟨g, m, at0, PostS.bind at0.le q fun g' H' m' v x p t rel' hv q' => ⟨g', m', at0.mono p t rel', q'⟩⟩
theorem s_ret {rest : List Stmt} {e : Expr} {c : M D} {pos : Pos} (h : PEc X C ρ e c) : PSsc X C ρ (.Return (some e) pos :: rest) oa ob (rtn c) := pss_imp (pss_dead (ps_ret h) fun _ _ _ q => q) fun De σ H q => by
  obtain ⟨g, m, at0, q⟩ := q
  exact ⟨g, m, at0, PostS.bind at0.le q fun g' H' m' v x p t rel' hv q' => PostS.rt q' (at0.le.trans p) rel' hv⟩
theorem if_ok {e : Expr} {c : M D} {a b : List Stmt} {t u : M (Fl A B)} {pos : Pos} (hc : PTc X C ρ e c) (ha : PSsc X C ρ a oa ob t) (hb : PSsc X C ρ b oa ob u) : PS X (.If e a b pos) (tS ⟨X.K, C.cls⟩ C oa ob ρ (iff c t u)) := ps_imp (ps_if hc ha hb) fun De σ H q => by
  obtain ⟨g, m, at0, q⟩ := q
  refine ⟨g, m, at0, ?_⟩
  unfold iff bnd at q
  unfold bnd
  cases hz : c m with
  | ok x m1 =>
    rw [hz, bind_ok] at q
    rw [bind_ok]
    change PostS ⟨X.K, C.cls⟩ C oa ob g H De ((tru x m1).bind fun k m2 => (if k = true then t else u) m2) at q
    cases hb : truth x m1 with
    | none =>
      have e : tru x m1 = .bad := by unfold tru ask; rw [hb]
      rw [e] at q
      exact q.elim
    | some b =>
      rw [tru_of hb, bind_ok] at q
      rw [tru_of hb]
      intro g' H' v p t' rel' e
      subst e
      cases v with
      | true => exact iteT ⟨g', m1, at0.mono p t' rel', PostS.mono p.v t' q⟩
      | false => exact iteF ⟨g', m1, at0.mono p t' rel', PostS.mono p.v t' q⟩
  | ex c fs m1 => rw [hz] at q; exact PostX.mono at0.le (TK.refl _) (q σ)
  | bad => rw [hz] at q; exact q
theorem s_if {e : Expr} {c : M D} {a b rest : List Stmt} {t u : M (Fl A' B)} {f : A' → M (Fl A B)} {pos : Pos} (hc : PTc X C ρ e c) (ha : PSsc X C ρ a oa' ob t) (hb : PSsc X C ρ b oa' ob u) (hr : ∀ a, PSsc X C (oa' a) rest oa ob (f a)) : PSsc X C ρ (.If e a b pos :: rest) oa ob (seq (iff c t u) f) := s_seq (if_ok hc ha hb) hr
theorem s_ifL {e : Expr} {c : M D} {a b : List Stmt} {t u : M (Fl A B)} {pos : Pos} (hc : PTc X C ρ e c) (ha : PSsc X C ρ a oa ob t) (hb : PSsc X C ρ b oa ob u) : PSsc X C ρ [.If e a b pos] oa ob (iff c t u) := s_one (if_ok hc ha hb)
theorem s_frz {i : Nat} {xs : List D} {st : List Stmt} {t : M (Fl A B)} (hi : ρ[i]? = some (.own xs)) (h : PSsc X C (ρ.set i (.val (.fl xs))) st oa ob t) : PSsc X C ρ st oa ob t := pss_imp h fun De σ H q => by
  obtain ⟨g, m, at0, q⟩ := q
  obtain ⟨p, vs, h1, h2, h3, h4, h5⟩ := at0.own hi
  have lv : Lv0 g ((g.outP p).addF p (HO.lst vs)) := ⟨List.prefix_refl _, fun _ z => List.mem_cons_of_mem _ z⟩
  refine ⟨(g.outP p).addF p (HO.lst vs), m, ⟨⟨at0.le.hs, fun q hq => List.mem_cons_of_mem _ (at0.le.fz q hq), fun q hq => mem_outP.mpr ⟨at0.le.pv q hq, fun z => h5 q.2 (by have z : q.1 = p := z; rw [← z]; exact hq)⟩⟩, at0.rel.frzP h2, at0.rs.outP hi h1 lv (fun q hq hz => mem_outP.mpr ⟨hq, hz⟩) (.fl List.mem_cons_self (h4.mono lv (TK.refl _))), at0.tw⟩, PostS.mono lv (TK.refl _) q⟩
def rK {α : Type} (K : PySem.W.Frag) (s : α → Sl) (g0 g : Gh) (H : Hp) (v : V) (a : α) : Prop := match s a with
  | .un => False
  | .raw _ => False
  | .val d => Rep K g H v d
  | .own xs => ∃ p vs, v = .ref p ∧ (p, HO.lst vs) ∈ g.pv ∧ RepL K g H vs xs ∧ ∀ u, (p, u) ∉ g0.pv
def tK {α : Type} (Γ : Cst) (C : Cc) (ρ : List Sl) (s : α → Sl) (t : M α) : TE := fun σ H Q => ∃ g m, At Γ C ρ σ H g m ∧ Post Γ C.W (rK Γ.K s g) σ g H Q (t m)
abbrev PEk {α : Type} (X : Cx) (C : Cc) (ρ : List Sl) (e : Expr) (s : α → Sl) (t : M α) : Prop := PE X e (tK ⟨X.K, C.cls⟩ C ρ s t)
theorem k_val {e : Expr} {t : M D} (h : PEc X C ρ e t) : PEk X C ρ e Sl.val t := pe_imp h fun σ H Q q => q
def ownM (t : M (List D)) : M (List D) := bnd t fun xs => if xs.length ≤ sizeLine then ret xs else bad
theorem Post.newP {W : WX} {Q : VK} {xs : List D} {vs : List V} {p : Addr} {g0 : Gh} (q : Post Γ W (rK Γ.K Sl.own g0) σ g H Q (.ok xs m)) (le : ∀ z, z ∈ g0.pv → z ∈ g.pv) (rel : Rel Γ g m H) (r : RepL Γ.K g H vs xs) (hp : H p = none) : Q (.ref p) (upd H p (.lst vs)) :=
  q (g.addP p (.lst vs)) _ _ le_addP (TK.new hp) (rel.newP hp) ⟨p, vs, rfl, List.mem_cons_self, r.mono le_addP.v (TK.new hp), fun u hu => rel.freshP hp (le _ hu)⟩
theorem tK.bind {α β : Type} {s : β → Sl} {t : M α} {f : α → M β} {rep : Gh → Hp → V' → α → Prop} {Q : VK} {R : V' → Hp → Prop} (q : tK Γ C ρ s (bnd t f) σ H Q)
    (k : ∀ g0 g' H' m v x, Le g0 g' → At Γ C ρ σ H' g' m → rep g' H' v x → Post Γ C.W (rK Γ.K s g0) σ g' H' Q (f x m) → R v H') : tG Γ C ρ rep t σ H R := by
  obtain ⟨g, m, a, q⟩ := q
  exact ⟨g, m, a, Post.bind q fun g' H' m' v x p t rel' hv q' => k g g' H' m' v x p (a.mono p t rel') hv q'⟩
theorem k_lst {es : List Expr} {cs : M (List D)} {pos : Pos} (h : PAc X C ρ es cs) : PEk X C ρ (.List es pos) Sl.own (ownM cs) :=
  pe_imp (pe_lst h) fun σ H Q q => by
    refine tK.bind q fun g0 g1 H1 m1 v1 x1 p1 at1 hv1 q1 => ?_
    obtain ⟨hz, q1⟩ := Post.ite q1
    exact ⟨by rw [hv1.length]; exact hz, fun p hp => Post.newP q1 p1.pv at1.rel hv1 hp⟩
theorem At.setK {α : Type} {s : α → Sl} {a : α} {v : V} {g0 : Gh} {m0 : Hs} {H0 : Hp} {i : Nat} (at0 : At Γ C ρ σ H0 g0 m0) (at1 : At Γ C ρ σ H g m) (hv : rK Γ.K s g0 g H v a) : At Γ C (ρ.set i (s a)) (σ.set i (some v)) H g m := by
  unfold rK at hv
  split at hv
  · exact hv.elim
  · exact hv.elim
  · rename_i d hd
    rw [hd]
    exact at1.set hv i
  · rename_i xs hx
    rw [hx]
    obtain ⟨p, vs, rfl, h2, h3, h4⟩ := hv
    have nop : ∀ (j : Nat) ys, ρ[j]? = some (Sl.own ys) → σ[j]? = some (some (V.ref p)) → False := fun j ys hj h1 => by
      obtain ⟨b, ws, h5, h6, _⟩ := at0.rs.own j ys hj
      rw [h1] at h5
      cases h5
      exact h4 _ h6
    have h := at1.rs
    refine ⟨at1.le, at1.rel, ⟨by rw [List.length_set, List.length_set]; exact h.len, fun j e hj => ?_, fun j ys hj => ?_, fun j l ys zs b hj hl h1 h2 => ?_, fun j w hj => by
      rcases set_at hj with ⟨rfl, e, hi⟩ | ⟨hij, hj⟩
      · cases e
      · rw [List.getElem?_set_ne hij]; exact h.raw j w hj⟩, at1.tw⟩
    · rcases set_at hj with ⟨rfl, e, hi⟩ | ⟨hij, hj⟩
      · cases e
      · obtain ⟨u, h1, h2⟩ := h.val j e hj
        exact ⟨u, by rw [List.getElem?_set_ne hij]; exact h1, h2⟩
    · rcases set_at hj with ⟨rfl, e, hi⟩ | ⟨hij, hj⟩
      · cases e
        exact ⟨p, vs, by rw [List.getElem?_set_self (by rw [← h.len]; exact hi)], h2, h3, fun u hu => h4 _ (at0.le.pv _ hu)⟩
      · obtain ⟨b, ws, h1, h2⟩ := h.own j ys hj
        exact ⟨b, ws, by rw [List.getElem?_set_ne hij]; exact h1, h2⟩
    · rcases set_at hj with ⟨rfl, e, hi⟩ | ⟨hij, hj⟩
      · rcases set_at hl with ⟨e2, _, _⟩ | ⟨hil, hl⟩
        · exact e2
        · rw [List.getElem?_set_self (by rw [← h.len]; exact hi)] at h1
          cases h1
          rw [List.getElem?_set_ne hil] at h2
          exact (nop _ _ hl h2).elim
      · rw [List.getElem?_set_ne hij] at h1
        rcases set_at hl with ⟨rfl, e, hi⟩ | ⟨hil, hl⟩
        · rw [List.getElem?_set_self (by rw [← h.len]; exact hi)] at h2
          cases h2
          exact (nop _ _ hj h1).elim
        · rw [List.getElem?_set_ne hil] at h2
          exact h.inj j l _ _ b hj hl h1 h2
theorem pss_ex {I : Type} {st : List Stmt} {T : I → TS} (h : ∀ i, PSs X st (T i)) : PSs X st (fun De σ H => ∃ i, T i De σ H) := ⟨fun pins s σ H De I ⟨i, q⟩ => (h i).run pins s σ H De I q⟩
theorem s_set {α : Type} {rest : List Stmt} {tg e : Expr} {i : Nat} {s : α → Sl} {t : M α} {f : α → M (Fl A B)} {pos : Pos} (he : PEk X C ρ e s t) (hg : PG X tg (gName i)) (hr : ∀ a, PSsc X C (ρ.set i (s a)) rest oa ob (f a)) (hs : swapsWithSole [tg] e pos.line X.env = pure false := by rfl) (hw : swappedStores [tg] e X.env = pure none := by rfl)
    (h1 : (assignEach [tg] X.env).map (·.2) = [assign tg X.env] := by rfl) : PSsc X C ρ (.Assign [tg] e pos :: rest) oa ob (bnd t f) := by
  refine pss_imp (pss_cons (ps_asg he hg hs hw h1) (pss_ex hr)) fun De σ H q => ?_
  obtain ⟨g, m, at0, q⟩ := q
  refine ⟨g, m, at0, PostS.bind at0.le q fun g1 H1 m1 v x p t1 rel1 hv q1 => ?_⟩
  exact ⟨x, g1, m1, At.setK at0 (at0.mono p t1 rel1) hv, q1⟩
theorem s_asgP {rest : List Stmt} {tg e : Expr} {is : List Nat} {P : Pt} {t : M D} {f : D → M (Fl A B)} {pos : Pos} (he : PEc X C ρ e t) (hg : PGc X C tg is P) (hr : ∀ x, Bd1 P ρ x (f x) fun ρ' t => PSsc X C ρ' rest oa ob t) (hs : swapsWithSole [tg] e pos.line X.env = pure false := by rfl) (hw : swappedStores [tg] e X.env = pure none := by rfl)
    (h1 : (assignEach [tg] X.env).map (·.2) = [assign tg X.env] := by rfl) : PSsc X C ρ (.Assign [tg] e pos :: rest) oa ob (bnd t f) := by
  have hr' : PSs X rest (fun De σ H => ∃ ρ' t, PSsc X C ρ' rest oa ob t ∧ tS ⟨X.K, C.cls⟩ C oa ob ρ' t De σ H) := ⟨fun pins s σ H De I q => by
    obtain ⟨ρ', t, h, q⟩ := q
    exact h.run pins s σ H De I q⟩
  refine pss_imp (pss_cons (ps_asg he hg hs hw h1) hr') fun De σ H q => ?_
  obtain ⟨g, m, at0, q⟩ := q
  refine ⟨g, m, at0, PostS.bind at0.le q fun g1 H1 m1 v x p t1 rel1 hv q1 => ?_⟩
  rcases hr x with hb | ⟨ρ', hb, hT⟩
  · rw [hb] at q1
    exact q1.elim
  · exact ⟨g1, m1, ρ, x, ρ', at0.mono p t1 rel1, hv, hb, fun σ' at1 _ => ⟨ρ', f x, hT, g1, m1, at1, q1⟩⟩
theorem s_par {α β : Type} {rest : List Stmt} {i j : Nat} {x y : Str} {a b : Expr} {s1 : α → Sl} {s2 : β → Sl} {ta : M α} {tb : M β} {f : α → β → M (Fl A B)} {px py pt pos : Pos} {kt k2 pt2} (hc : X.calm = true) (hN : X.N.Nodup) (hi : X.N[i]? = some x) (hj : X.N[j]? = some y) (hij : i ≠ j)
    (hx : X.env.scope.names.lookup x = some .local) (hy : X.env.scope.names.lookup y = some .local) (ha : PEk X C ρ a s1 ta) (hb : PEk X C ρ b s2 tb) (hr : ∀ u v, PSsc X C ((ρ.set i (s1 u)).set j (s2 v)) rest oa ob (f u v))
    (hw : swappedStores [.Tuple [.Name x px, .Name y py] kt pt] (.Tuple [a, b] k2 pt2) X.env = pure (some [x, y]))
    (hs : swapsWithSole [.Tuple [.Name x px, .Name y py] kt pt] (.Tuple [a, b] k2 pt2) pos.line X.env = pure false := by rfl) (hs1 : starEach [a, b] X.env = (false, eval a X.env) :: starEach [b] X.env := by rfl) (hs2 : starEach [b] X.env = (false, eval b X.env) :: starEach [] X.env := by rfl) :
    PSsc X C ρ (.Assign [.Tuple [.Name x px, .Name y py] kt pt] (.Tuple [a, b] k2 pt2) pos :: rest) oa ob (bnd ta fun u => bnd tb fun v => f u v) := by
  refine pss_imp (pss_cons (ps_par hc hN hi hj hij hx hy (pa_cons ha (pa_cons hb pa_nil hs2) hs1) hw hs) (pss_ex (T := fun p : α × β => tS ⟨X.K, C.cls⟩ C oa ob ((ρ.set i (s1 p.1)).set j (s2 p.2)) (f p.1 p.2)) fun p => hr p.1 p.2)) fun De σ H q => ?_
  obtain ⟨g, m, at0, q⟩ := q
  refine ⟨g, m, at0, PostS.bind at0.le q fun g1 H1 m1 v1 x1 p1 t1 rel1 hv1 q1 => ?_⟩
  have at1 := at0.mono p1 t1 rel1
  refine ⟨g1, m1, at1, PostS.bind at1.le q1 fun g2 H2 m2 v2 x2 p2 t2 rel2 hv2 q2 => ?_⟩
  have at2 := at1.mono p2 t2 rel2
  refine ⟨_, _, rfl, (x1, x2), g2, m2, ?_, q2⟩
  have hv1' : rK X.K s1 g g2 H2 v1 x1 := by
    unfold rK at hv1 ⊢
    split at hv1
    · exact hv1
    · exact hv1
    · exact hv1.mono p2.v t2
    · obtain ⟨p, vs, e, h2, h3, h4⟩ := hv1
      exact ⟨p, vs, e, p2.pv _ h2, h3.mono p2.v t2, h4⟩
  have atA := At.setK (i := i) at0 at2 hv1'
  have atB : At ⟨X.K, C.cls⟩ C (ρ.set i (s1 x1)) (σ.set i (some v1)) H1 g1 m1 := At.setK at0 at1 hv1
  exact At.setK (i := j) atB atA hv2
theorem s_par3 {α β γ : Type} {rest : List Stmt} {i j l : Nat} {x y z : Str} {a b c : Expr} {s1 : α → Sl} {s2 : β → Sl} {s3 : γ → Sl} {ta : M α} {tb : M β} {tc : M γ} {f : α → β → γ → M (Fl A B)} {px py pz pt pos : Pos} {kt k2 pt2} (hc : X.calm = true) (hN : X.N.Nodup) (hi : X.N[i]? = some x) (hj : X.N[j]? = some y) (hl : X.N[l]? = some z) (hij : i ≠ j) (hil : i ≠ l) (hjl : j ≠ l)
    (hx : X.env.scope.names.lookup x = some .local) (hy : X.env.scope.names.lookup y = some .local) (hz : X.env.scope.names.lookup z = some .local) (ha : PEk X C ρ a s1 ta) (hb : PEk X C ρ b s2 tb) (hc' : PEk X C ρ c s3 tc) (hr : ∀ u v w, PSsc X C (((ρ.set i (s1 u)).set j (s2 v)).set l (s3 w)) rest oa ob (f u v w))
    (hw : swappedStores [.Tuple [.Name x px, .Name y py, .Name z pz] kt pt] (.Tuple [a, b, c] k2 pt2) X.env = pure (some [x, y, z]))
    (hs : swapsWithSole [.Tuple [.Name x px, .Name y py, .Name z pz] kt pt] (.Tuple [a, b, c] k2 pt2) pos.line X.env = pure false := by rfl) (hs1 : starEach [a, b, c] X.env = (false, eval a X.env) :: starEach [b, c] X.env := by rfl) (hs2 : starEach [b, c] X.env = (false, eval b X.env) :: starEach [c] X.env := by rfl) (hs3 : starEach [c] X.env = (false, eval c X.env) :: starEach [] X.env := by rfl) :
    PSsc X C ρ (.Assign [.Tuple [.Name x px, .Name y py, .Name z pz] kt pt] (.Tuple [a, b, c] k2 pt2) pos :: rest) oa ob (bnd ta fun u => bnd tb fun v => bnd tc fun w => f u v w) := by
  refine pss_imp (pss_cons (ps_par3 hc hN hi hj hl hij hil hjl hx hy hz (pa_cons ha (pa_cons hb (pa_cons hc' pa_nil hs3) hs2) hs1) hw hs) (pss_ex (T := fun p : α × β × γ => tS ⟨X.K, C.cls⟩ C oa ob (((ρ.set i (s1 p.1)).set j (s2 p.2.1)).set l (s3 p.2.2)) (f p.1 p.2.1 p.2.2)) fun p => hr p.1 p.2.1 p.2.2)) fun De σ H q => ?_
  obtain ⟨g, m, at0, q⟩ := q
  have up : ∀ {δ : Type} {s : δ → Sl} {ga gb gc : Gh} {Hb Hc : Hp} {v : V} {x : δ}, Le gb gc → TK Hb Hc → rK X.K s ga gb Hb v x → rK X.K s ga gc Hc v x := fun {δ s ga gb gc Hb Hc v x} p t hv => by
    unfold rK at hv ⊢
    split at hv
    · exact hv
    · exact hv
    · exact hv.mono p.v t
    · obtain ⟨a, vs, e, h2, h3, h4⟩ := hv
      exact ⟨a, vs, e, p.pv _ h2, h3.mono p.v t, h4⟩
  refine ⟨g, m, at0, PostS.bind at0.le q fun g1 H1 m1 v1 x1 p1 t1 rel1 hv1 q1 => ?_⟩
  have at1 := at0.mono p1 t1 rel1
  refine ⟨g1, m1, at1, PostS.bind at1.le q1 fun g2 H2 m2 v2 x2 p2 t2 rel2 hv2 q2 => ?_⟩
  have at2 := at1.mono p2 t2 rel2
  refine ⟨g2, m2, at2, PostS.bind at2.le q2 fun g3 H3 m3 v3 x3 p3 t3 rel3 hv3 q3 => ?_⟩
  have at3 := at2.mono p3 t3 rel3
  refine ⟨_, _, _, rfl, (x1, x2, x3), g3, m3, ?_, q3⟩
  have a11 : At ⟨X.K, C.cls⟩ C (ρ.set i (s1 x1)) (σ.set i (some v1)) H1 g1 m1 := At.setK at0 at1 hv1
  have a12 : At ⟨X.K, C.cls⟩ C (ρ.set i (s1 x1)) (σ.set i (some v1)) H2 g2 m2 := a11.mono p2 t2 rel2
  have a13 : At ⟨X.K, C.cls⟩ C (ρ.set i (s1 x1)) (σ.set i (some v1)) H3 g3 m3 := a12.mono p3 t3 rel3
  have a22 : At ⟨X.K, C.cls⟩ C ((ρ.set i (s1 x1)).set j (s2 x2)) ((σ.set i (some v1)).set j (some v2)) H2 g2 m2 := At.setK a11 a12 hv2
  have a23 := a22.mono p3 t3 rel3
  exact At.setK (i := l) a22 a23 hv3
end
end G
namespace G
open PySem L2
section
variable {X : Cx} {C : Cc} {ρ : List Sl} {k : Nat} {A B A' B' : Type} {oa : A → List Sl} {ob : B → List Sl} {oa' : A' → List Sl} {g g' : Gh} {H H' : Hp} {De : Ends} {Γ : Cst} {σ : L2.St} {m : Hs}
def gT (Γ : Cst) (C : Cc) (ρ : List Sl) (t : D → M Unit) : TG := fun v σ H Q => ∃ g m d, At Γ C ρ σ H g m ∧ Rep Γ.K g H v d ∧
  (match t d m with
    | .ok _ m' => ∀ g' H', Le g g' → TK H H' → Rel Γ g' m' H' → Q σ H'
    | .ex c fs m' => ∀ σ, PostX Γ C.W σ C.gB H c fs m'
    | .bad => False)
def gTs (Γ : Cst) (C : Cc) (ρ : List Sl) (t : List D → M Unit) : TGs := fun vs σ H Q => ∃ g m ds, At Γ C ρ σ H g m ∧ RepL Γ.K g H vs ds ∧
  (match t ds m with
    | .ok _ m' => ∀ g' H', Le g g' → TK H H' → Rel Γ g' m' H' → Q σ H'
    | .ex c fs m' => ∀ σ, PostX Γ C.W σ C.gB H c fs m'
    | .bad => False)
abbrev PTg (X : Cx) (C : Cc) (ρ : List Sl) (e : Expr) (t : D → M Unit) : Prop := PG X e (gT ⟨X.K, C.cls⟩ C ρ t)
abbrev PTgs (X : Cx) (C : Cc) (ρ : List Sl) (e : List Expr) (t : List D → M Unit) : Prop := PGs X e (gTs ⟨X.K, C.cls⟩ C ρ t)
theorem pg_fldA {o : Expr} {f : Str} {ta : TE} {pos : Pos} (ho : PE X o ta) : PG X (.Attribute o f pos) (fun v σ H Q => ta σ H fun x H1 => ∃ a C dx fs, x = .ref a ∧ H1 a = some (.ins C dx fs) ∧ Cls X.K C ∧ NoAttr X.K C f ∧ fs.length < 1000 ∧ Q σ (upd H1 a (.ins C dx (putF f v fs)))) := by
  refine ⟨fun pins s σ H v u Q I r h => ?_⟩
  show wpAny _ _ (do
    let ov ← holding [u] (eval o X.env)
    standAt pos.atName
    holding [u, ov] (setAttr ov f u)
    release [u, ov] []) _ _ s
  refine wpAny_bind (wpAny_holding (thn (ho.run pins s σ H _ I h) fun ov s1 ⟨x, H1, I1, r1, a, C, dx, fs, ex, ea, c, n, l, q1⟩ => ?_))
  subst ex
  obtain rfl : ov = Value.ref a := r1
  refine wpAny_bind (wpAny_standAt (wpAny_bind (wpAny_holding (setattr_ok I1 ea c n l r fun s2 I2 => ?_))))
  exact wpAny_release ⟨σ, _, I2, q1⟩
theorem put_in {f : Hs → Option Hs} {R : Unit → Hs → Prop} {P : Nat → List (Str × D) → Hs → Prop} (q : match put f m with | .ok _ m' => R () m' | .ex c fs m' => P c fs m' | .bad => False) : ∃ m', f m = some m' ∧ R () m' := by
  unfold put at q
  cases hz : f m with
  | none => rw [hz] at q; exact q.elim
  | some m' => rw [hz] at q; exact ⟨m', rfl, q⟩
theorem set_in {x v : D} {f : Str} {at' : Nat → Str → Bool} {m' : Hs} {u : V} (rel : Rel Γ g m H) (hu : Rep Γ.K g H u x) (h : setO at' f v x m = some m') : ∃ c A a n dx vs fs, u = .ref a ∧ x = .ref n ∧ g.hs[n]? = some a ∧ Γ.cls c = some A ∧ at' c f = true ∧ H a = some (.ins A dx vs) ∧ RepF Γ.K g H vs fs ∧ vs.length < 900 ∧ m' = m.set n (.ins c (putD f v fs)) := by
  cases hu with
  | @ref aa nn hg =>
    simp only [setO] at h
    cases hn : m[nn]? with
    | none => rw [hn] at h; cases h
    | some ob =>
      rw [hn] at h
      cases ob with
      | lst ds => cases h
      | exc c fs => cases h
      | dct _ _ => cases h
      | sd _ _ => cases h
      | zd _ _ => cases h
      | ins c fs =>
        simp only at h
        split at h
        · rename_i hl
          cases h
          obtain ⟨C, dx, vs, hC, hH, hF⟩ := rel.ins hn hg
          exact ⟨c, C, aa, nn, dx, vs, fs, rfl, rfl, hg, hC, hl.2, hH, hF, by rw [hF.length]; exact hl.1, rfl⟩
        · cases h
  | _ => simp [setO] at h
theorem tg_fld {o : Expr} {a : M D} {f : Str} {at' : Nat → Str → Bool} {pos : Pos} (T : IsAt X.K C.cls at') (ho : PEc X C ρ o a) : PTg X C ρ (.Attribute o f pos) (fldT at' a f) := pg_imp (pg_fldA ho) fun v σ H Q q => by
  obtain ⟨g, m, d, at0, hv, q⟩ := q
  refine ⟨g, m, at0, ?_⟩
  unfold fldT bnd at q
  cases hz : a m with
  | ok x m1 =>
    rw [hz, bind_ok] at q
    intro g1 H1 w p t rel1 hw
    obtain ⟨m2, hs, q⟩ := put_in (P := fun c fs m' => ∀ σ, PostX ⟨X.K, C.cls⟩ C.W σ C.gB H c fs m') (R := fun _ m' => ∀ g' H', Le g g' → TK H H' → Rel ⟨X.K, C.cls⟩ g' m' H' → Q σ H') q
    obtain ⟨c, A, aa, n, dx, vs, fs, rfl, rfl, hg, hC, ha, hH, hF, hl, rfl⟩ := set_in rel1 hw hs
    obtain ⟨a1, a2⟩ := at_ok T hC ha
    have mu : Mut (H1 aa) := by rw [hH]; trivial
    refine ⟨_, A, dx, vs, rfl, hH, a1, a2, by omega, q g1 _ p (t.trans (TK.mut mu)) (rel1.write mu hg ⟨A, dx, _, hC, upd_same, ?_⟩)⟩
    exact (hF.mono (Lv0.refl g1) (TK.mut mu)).put ((hv.mono p.v t).mono (Lv0.refl g1) (TK.mut mu))
  | ex c fs m1 => rw [hz] at q; exact PostX.mono at0.le (TK.refl _) (q σ)
  | bad => rw [hz] at q; exact q
theorem tg_sub {o i : Expr} {a b : M D} {pos : Pos} (ho : PEc X C ρ o a) (hi : PEc X C ρ i b) (ha : ∀ v, assign (.Subscript o i pos) X.env v = (do
      let ov ← holding [v] (eval o X.env)
      let iv ← holding [v, ov] (eval i X.env)
      standAt pos
      holding [v, ov, iv] (setItem ov iv v)
      release [v, ov, iv] []) := by intro _; rfl) : PTg X C ρ (.Subscript o i pos) (subT a b) := pg_imp (pg_sub ho hi set_list ha) fun v σ H Q q => by
  obtain ⟨g, m, d, at0, hv, q⟩ := q
  refine ⟨g, m, at0, ?_⟩
  unfold subT bnd at q
  cases hz : a m with
  | ok x m1 =>
    rw [hz, bind_ok] at q
    intro g1 H1 w p t rel1 hw
    refine ⟨g1, m1, at0.mono p t rel1, ?_⟩
    cases hz2 : b m1 with
    | ok y m2 =>
      simp only [hz2, bind_ok] at q
      intro g2 H2 w2 p2 t2 rel2 hw2
      obtain ⟨m3, hs, q⟩ := put_in (P := fun c fs m' => ∀ σ, PostX ⟨X.K, C.cls⟩ C.W σ C.gB H c fs m') (R := fun _ m' => ∀ g' H', Le g g' → TK H H' → Rel ⟨X.K, C.cls⟩ g' m' H' → Q σ H') q
      have hw' := hw.mono p2.v t2
      cases hw' with
      | @ref aa nn hg =>
        cases hw2 with
        | int kk =>
          simp only [itmO] at hs
          cases hn : m2[nn]? with
          | none => rw [hn] at hs; cases hs
          | some ob =>
            rw [hn] at hs
            cases ob with
            | ins c fs => cases hs
            | exc c fs => cases hs
            | dct _ _ => cases hs
            | sd _ _ => cases hs
            | zd _ _ => cases hs
            | lst ds =>
              simp only at hs
              cases hj : ixD ds.length kk with
              | none => rw [hj] at hs; cases hs
              | some j =>
                rw [hj] at hs
                cases hs
                obtain ⟨xs, h1, h2⟩ := rel2.lst hn hg
                have mu : Mut (H2 aa) := by rw [h1]; trivial
                refine ⟨_, xs, kk, j, rfl, rfl, h1, by rw [h2.length]; exact hj, q g2 _ (p.trans p2) ((t.trans t2).trans (TK.mut mu)) (rel2.write mu hg ⟨_, upd_same, ?_⟩)⟩
                exact (h2.mono (Lv0.refl g2) (TK.mut mu)).set (((hv.mono p.v t).mono p2.v t2).mono (Lv0.refl g2) (TK.mut mu)) j
        | _ => simp [itmO] at hs
      | _ => cases hw2 <;> simp [itmO] at hs
    | ex c fs m2 => simp only [hz2] at q; exact PostX.mono (at0.le.trans p) t (q σ)
    | bad => simp only [hz2] at q; exact q
  | ex c fs m1 => rw [hz] at q; exact PostX.mono at0.le (TK.refl _) (q σ)
  | bad => rw [hz] at q; exact q
theorem tgs_nil : PTgs X C ρ [] (tgL []) := pgs_imp pgs_nil fun v σ H Q q => by
  obtain ⟨g, m, d, at0, hv, q⟩ := q
  cases hv with
  | nil => exact ⟨rfl, q g H (Le.refl g) (TK.refl H) at0.rel⟩
  | cons _ _ => exact q.elim
theorem tgs_cons {e : Expr} {es : List Expr} {t : D → M Unit} {ts : List (D → M Unit)} (h1 : PTg X C ρ e t) (h2 : PTgs X C ρ es (tgL ts))
    (hs : (assignEach (e :: es) X.env).map (·.2) = assign e X.env :: (assignEach es X.env).map (·.2) := by rfl) : PTgs X C ρ (e :: es) (tgL (t :: ts)) := pgs_imp (pgs_cons h1 h2 hs) fun v σ H Q q => by
  obtain ⟨g, m, d, at0, hv, q⟩ := q
  cases hv with
  | nil => exact q.elim
  | @cons v1 vs d1 ds a b =>
    refine ⟨_, _, rfl, g, m, d1, at0, a, ?_⟩
    simp only [tgL, bnd] at q
    cases hz : t d1 m with
    | ok r1 m1 =>
      rw [hz, bind_ok] at q
      intro g1 H1 p t1 rel1
      refine ⟨g1, m1, ds, at0.mono p t1 rel1, b.mono p.v t1, ?_⟩
      cases hz2 : tgL ts ds m1 with
      | ok r2 m2 =>
        rw [hz2] at q
        exact fun g2 H2 p2 t2 => q g2 H2 (p.trans p2) (t1.trans t2)
      | ex c fs m2 => rw [hz2] at q; exact fun σ => PostX.mono (Le.refl _) t1 (q σ)
      | bad => rw [hz2] at q; exact q
    | ex c fs m1 => rw [hz] at q; exact q
    | bad => rw [hz] at q; exact q
theorem tg_tp {es : List Expr} {n : Nat} {ts : List (D → M Unit)} {pos : Pos} (hc : X.calm = true) (h : PTgs X C ρ es (tgL ts)) (hn : (assignEach es X.env).length = ts.length := by rfl) (hst : (assignEach es X.env).findIdx? (·.1) = none := by rfl) : PTg X C ρ (.Tuple es n pos) (tpT ts) :=
  pg_imp (pg_tup hc h hn hst) fun v σ H Q q => by
    obtain ⟨g, m, d, at0, hv, q⟩ := q
    cases hv with
    | @tup a xs ds hs r' =>
      simp only [tpT] at q
      by_cases hl : ds.length = ts.length
      · rw [if_pos hl] at q
        exact ⟨a, xs, rfl, hs, by rw [r'.length]; exact hl, g, m, ds, at0, r', q⟩
      · rw [if_neg hl] at q
        exact q.elim
    | _ => exact q.elim
theorem tgt_then {t : D → M Unit} {d : D} {v : V} {f : M (Fl A B)} {Q : L2.St → Hp → Prop} (at0 : At ⟨X.K, C.cls⟩ C ρ σ H g m) (hv : Rep X.K g H v d) (q : PostS ⟨X.K, C.cls⟩ C oa ob g H De (bnd (t d) (fun _ => f) m))
    (k : ∀ g' H' m', At ⟨X.K, C.cls⟩ C ρ σ H' g' m' → Le g g' → TK H H' → PostS ⟨X.K, C.cls⟩ C oa ob g' H' De (f m') → Q σ H') : gT ⟨X.K, C.cls⟩ C ρ t v σ H Q := by
  refine ⟨g, m, d, at0, hv, ?_⟩
  unfold bnd at q
  cases hz : t d m with
  | ok r m1 => rw [hz, bind_ok] at q; exact fun g' H' p t' rel' => k g' H' m1 (at0.mono p t' rel') p t' (PostS.mono p.v t' q)
  | ex c fs m1 => rw [hz] at q; exact q
  | bad => rw [hz] at q; exact q
theorem s_tgt {rest : List Stmt} {tg e : Expr} {c : M D} {t : D → M Unit} {f : M (Fl A B)} {pos : Pos} (he : PEc X C ρ e c) (hg : PTg X C ρ tg t) (hr : PSsc X C ρ rest oa ob f) (hs : swapsWithSole [tg] e pos.line X.env = pure false := by rfl) (hw : swappedStores [tg] e X.env = pure none := by rfl)
    (h1 : (assignEach [tg] X.env).map (·.2) = [assign tg X.env] := by rfl) : PSsc X C ρ (.Assign [tg] e pos :: rest) oa ob (bnd c fun x => bnd (t x) fun _ => f) := pss_imp (pss_cons (ps_asg he hg hs hw h1) hr) fun De σ H q => by
  obtain ⟨g, m, at0, q⟩ := q
  refine ⟨g, m, at0, PostS.bind at0.le q fun g1 H1 m1 v x p t1 rel1 hv q1 => ?_⟩
  exact tgt_then (at0.mono p t1 rel1) hv q1 fun g' H' m' at1 _ _ q2 => ⟨g', m', at1, q2⟩
theorem s_tgt2 {rest : List Stmt} {t1 t2 e : Expr} {c : M D} {a b : D → M Unit} {f : M (Fl A B)} {pos : Pos} (he : PEc X C ρ e c) (h1 : PTg X C ρ t1 a) (h2 : PTg X C ρ t2 b) (hr : PSsc X C ρ rest oa ob f) (ha : (assignEach [t1, t2] X.env).map (·.2) = [assign t1 X.env, assign t2 X.env] := by rfl) (hw : swappedStores [t1, t2] e X.env = pure none := by rfl) :
    PSsc X C ρ (.Assign [t1, t2] e pos :: rest) oa ob (bnd c fun x => bnd (a x) fun _ => bnd (b x) fun _ => f) := pss_imp (pss_cons (ps_asg2 he h1 h2 ha hw) hr) fun De σ H q => by
  obtain ⟨g, m, at0, q⟩ := q
  refine ⟨g, m, at0, PostS.bind at0.le q fun g1 H1 m1 v x p t1 rel1 hv q1 => ?_⟩
  exact tgt_then (at0.mono p t1 rel1) hv q1 fun g' H' m' at1 p2 t2 q2 => tgt_then at1 (hv.mono p2.v t2) q2 fun g' H' m' at1 _ _ q2 => ⟨g', m', at1, q2⟩
theorem PostS.ask {α : Type} {f : Hs → Option α} {h : α → M (Fl A B)} (q : PostS Γ C oa ob g H De (bnd (ask f) h m)) : ∃ x, f m = some x ∧ PostS Γ C oa ob g H De (h x m) := by
  unfold bnd G.ask at q
  cases hz : f m with
  | none => rw [hz] at q; exact q.elim
  | some x => rw [hz] at q; exact ⟨x, rfl, q⟩
theorem PostS.put {f : Hs → Option Hs} {h : M (Fl A B)} (q : PostS Γ C oa ob g H De (bnd (put f) (fun _ => h) m)) : ∃ m', f m = some m' ∧ PostS Γ C oa ob g H De (h m') := by
  unfold bnd G.put at q
  cases hz : f m with
  | none => rw [hz] at q; exact q.elim
  | some x => rw [hz] at q; exact ⟨x, rfl, q⟩
theorem augS_ok {W : WX} {o : Op} {f : Int → Int → Int} (hf : ∀ i j, augS o (.int i) (.int j) = ret (.int (f i j))) (hb : ∀ x y, (∀ i j, ¬ (x = .int i ∧ y = .int j)) → augS o x y = bad) {K : PySem.W.Frag} {h : D → M (Fl A B)} {vx vy : V} {x y : D} (hx : Rep K g H vx x) (hy : Rep K g H vy y) (q : PostS Γ C oa ob g H De (bnd (augS o x y) h m)) :
    ∃ i j, vx = .int i ∧ vy = .int j ∧ PostS Γ C oa ob g H De (h (.int (f i j)) m) := by
  cases hx with
  | int i => cases hy with
    | int j => rw [hf] at q; exact ⟨i, j, rfl, rfl, q⟩
    | _ => rw [hb _ _ (fun i j z => by cases z.2)] at q; exact q.elim
  | _ => rw [hb _ _ (fun i j z => by cases z.1)] at q; exact q.elim
theorem augS_add (x y : D) (h : ∀ i j, ¬ (x = .int i ∧ y = .int j)) : augS .add x y = bad := by
  cases x <;> cases y <;> first | rfl | exact absurd ⟨rfl, rfl⟩ (h _ _)
theorem fldC_in {v : V} {x : D} {c : Nat} {d : D} {nm : Str} {at' : Nat → Str → Bool} (rel : Rel Γ g m H) (hv : Rep Γ.K g H v x)
    (h : fldC at' nm x m = some (c, d)) : ∃ A a n dx vs w, v = .ref a ∧ x = .ref n ∧ g.hs[n]? = some a ∧ Γ.cls c = some A ∧ at' c nm = true ∧ H a = some (.ins A dx vs) ∧ vs.lookup nm = some w ∧ Rep Γ.K g H w d := by
  cases hv with
  | @ref aa nn hg =>
    simp only [fldC] at h
    cases hn : m[nn]? with
    | none => rw [hn] at h; cases h
    | some ob =>
      rw [hn] at h
      cases ob with
      | lst ds => cases h
      | exc c fs => cases h
      | dct _ _ => cases h
      | sd _ _ => cases h
      | zd _ _ => cases h
      | ins c fs =>
        simp only at h
        cases hl : fs.lookup nm with
        | none => rw [hl] at h; cases h
        | some u =>
          rw [hl] at h
          simp only at h
          split at h
          · rename_i ha
            cases h
            obtain ⟨C, dx, vs, hC, hH, hF⟩ := rel.ins hn hg
            obtain ⟨w, h1, h2⟩ := hF.lookup.1 _ hl
            exact ⟨C, aa, nn, dx, vs, w, rfl, rfl, hg, hC, ha, hH, h1, h2⟩
          · cases h
  | _ => simp [fldC] at h
theorem s_augF {rest : List Stmt} {obj e : Expr} {a c : M D} {fl : Str} {o : Op} {op : Operator} {f : Int → Int → Int} {at' : Nat → Str → Bool} {r : M (Fl A B)} {pos tpos : Pos} (T : IsAt X.K C.cls at') (hf : ∀ i j, augS o (.int i) (.int j) = ret (.int (f i j))) (hb : ∀ x y, (∀ i j, ¬ (x = .int i ∧ y = .int j)) → augS o x y = bad) (ho : InOp X op (fun x y H Q => ∃ i j, x = .int i ∧ y = .int j ∧ Q (.int (f i j)) H))
    (ha : PEc X C ρ obj a) (he : PEc X C ρ e c) (hr : PSsc X C ρ rest oa ob r) : PSsc X C ρ (.AugAssign (.Attribute obj fl tpos) op e pos :: rest) oa ob (bnd (augF at' o a fl c) fun _ => r) :=
  pss_imp (pss_cons (ps_fldaug ha he ho) hr) fun De σ H q => by
    obtain ⟨g, m, at0, q⟩ := q
    refine ⟨g, m, at0, ?_⟩
    unfold augF at q
    simp only [bnd_bnd] at q
    refine PostS.bind at0.le q fun g1 H1 m1 v x p t rel1 hv q1 => ?_
    have at1 := at0.mono p t rel1
    obtain ⟨⟨cc, d⟩, hz, q1'⟩ := PostS.ask q1
    clear q1
    ·
      obtain ⟨A, aa, n, dx, vs, w, rfl, rfl, hg, hC, hat, hH, hl, hw⟩ := fldC_in rel1 hv hz
      obtain ⟨a1, a2⟩ := at_ok T hC hat
      refine ⟨aa, A, dx, vs, w, rfl, hH, a1, a2, hl, g1, m1, at1, ?_⟩
      refine PostS.bind at1.le q1' fun g2 H2 m2 u y p2 t2 rel2 hu q2 => ?_
      obtain ⟨i, j, rfl, rfl, q3⟩ := augS_ok (W := C.W) hf hb (hw.mono p2.v t2) hu q2
      refine ⟨i, j, rfl, rfl, ?_⟩
      obtain ⟨m3, hs, q3⟩ := PostS.put q3
      ·
        simp only [setC] at hs
        cases hn2 : m2[n]? with
        | none => rw [hn2] at hs; cases hs
        | some o2 =>
          rw [hn2] at hs
          cases o2 with
          | lst ds => cases hs
          | exc c2 fs2 => cases hs
          | dct _ _ => cases hs
          | sd _ _ => cases hs
          | zd _ _ => cases hs
          | ins c2 fs2 =>
            simp only at hs
            split at hs
            · rename_i hl2
              obtain ⟨rfl, hlen⟩ := hl2
              cases hs
              have hg2 := pre_get p2.hs hg
              obtain ⟨C2, dx2, vs2, hC2, hH2, hF2⟩ := rel2.ins hn2 hg2
              have hC2' : some A = some C2 := hC.symm.trans hC2
              cases hC2'
              have mu : Mut (H2 aa) := by rw [hH2]; trivial
              have rel3 := rel2.write (u := .ins A dx2 (putF fl (.int (f i j)) vs2)) (o := .ins c2 (putD fl (.int (f i j)) fs2)) mu hg2 ⟨A, dx2, _, hC, upd_same, (hF2.mono (Lv0.refl g2) (TK.mut mu)).put (.int _)⟩
              exact ⟨dx2, vs2, hH2, by rw [hF2.length]; omega, g2, _, (at1.mono p2 t2 rel2).keep (TK.mut mu) rel3, PostS.mono (Lv0.refl g2) (TK.mut mu) q3⟩
            · cases hs
theorem s_app {rest : List Stmt} {o e : Expr} {i : Nat} {xs : List D} {c : M D} {f : List D → M (Fl A B)} {pos ap cp : Pos} (ho : PE X o (tVar i)) (hi : ρ[i]? = some (.own xs)) (he : PEc X C ρ e c) (hr : ∀ ys, PSsc X C (ρ.set i (.own ys)) rest oa ob (f ys))
    (h : ∀ {to : TE} {t : TA}, PE X o to → PA X [e] t → PE X (.Call (.Attribute o "append" ap) [e] [] cp) (tBM X.K "list" rAppend to t)) (hst : starEach [e] X.env = [(false, eval e X.env)] := by rfl) (hs : swapsWith (.Call (.Attribute o "append" ap) [e] [] cp) none pos.line X.env = pure false := by rfl) :
    PSsc X C ρ (.Expr (.Call (.Attribute o "append" ap) [e] [] cp) pos :: rest) oa ob (appO xs c f) := pss_imp (pss_cons (ps_expr (h ho (pa_cons he pa_nil hst)) hs) (pss_ex hr)) fun De σ H q => by
  obtain ⟨g, m, at0, q⟩ := q
  obtain ⟨p, vs, h1, h2, h3, h4, h5⟩ := at0.own hi
  refine ⟨_, h1, .inl ⟨rfl, _, SqL.of h3⟩, g, m, at0, PostS.bind at0.le q fun g2 H2 m2 w y p2 t2 rel2 hw q2 => ?_⟩
  have at2 := at0.mono p2 t2 rel2
  split at q2
  · rename_i hlen
    have h2' := p2.pv _ h2
    have h3' := rel2.prv _ _ h2'
    have mu : Mut (H2 p) := by rw [h3']; trivial
    have r' : RepL X.K g2 H2 (vs ++ [w]) (xs ++ [y]) := (h4.mono p2.v t2).append (.cons hw .nil)
    have lv : Lv0 g2 ((g2.outP p).addP p (HO.lst (vs ++ [w]))) := ⟨List.prefix_refl _, fun _ z => z⟩
    refine ⟨p, vs, w, rfl, rfl, h3', by rw [h4.length]; exact hlen, xs ++ [y], (g2.outP p).addP p (.lst (vs ++ [w])), m2, ⟨⟨at2.le.hs, at2.le.fz, fun q hq => List.mem_cons_of_mem _ (mem_outP.mpr ⟨at2.le.pv q hq, fun z => h5 q.2 (by have z : q.1 = p := z; rw [← z]; exact hq)⟩)⟩, rel2.setP mu h2', RelS.setP (vs0 := vs) rel2 at2.rs hi h1 mu h5 r', at2.tw.go (TK.mut mu)⟩, PostS.mono lv (TK.mut mu) q2⟩
  · exact q2.elim
theorem s_ext {rest : List Stmt} {o e : Expr} {i : Nat} {xs : List D} {c : M D} {f : List D → M (Fl A B)} {pos ap cp : Pos} (ho : PE X o (tVar i)) (hi : ρ[i]? = some (.own xs)) (he : PEc X C ρ e c) (hr : ∀ ys, PSsc X C (ρ.set i (.own ys)) rest oa ob (f ys))
    (h : ∀ {to : TE} {t : TA}, PE X o to → PA X [e] t → PE X (.Call (.Attribute o "extend" ap) [e] [] cp) (tBM X.K "list" rExtend to t)) (hst : starEach [e] X.env = [(false, eval e X.env)] := by rfl) (hs : swapsWith (.Call (.Attribute o "extend" ap) [e] [] cp) none pos.line X.env = pure false := by rfl) :
    PSsc X C ρ (.Expr (.Call (.Attribute o "extend" ap) [e] [] cp) pos :: rest) oa ob (extO xs c f) := pss_imp (pss_cons (ps_expr (h ho (pa_cons he pa_nil hst)) hs) (pss_ex hr)) fun De σ H q => by
  obtain ⟨g, m, at0, q⟩ := q
  obtain ⟨p, vs, h1, h2, h3, h4, h5⟩ := at0.own hi
  refine ⟨_, h1, .inl ⟨rfl, _, SqL.of h3⟩, g, m, at0, PostS.bind at0.le q fun g2 H2 m2 w y p2 t2 rel2 hw q2 => ?_⟩
  have at2 := at0.mono p2 t2 rel2
  unfold bnd ask at q2
  cases hl : lstOf y m2 with
  | none => simp only [hl, Rs.bind] at q2; exact q2.elim
  | some ys =>
    simp only [hl, Rs.bind] at q2
    split at q2
    · rename_i hlen
      obtain ⟨b, ws, rfl, b1, b2⟩ := rep_lst rel2 hw hl
      have h2' := p2.pv _ h2
      have h3' := rel2.prv _ _ h2'
      have mu : Mut (H2 p) := by rw [h3']; trivial
      have r' : RepL X.K g2 H2 (vs ++ ws) (xs ++ ys) := (h4.mono p2.v t2).append b2
      have lv : Lv0 g2 ((g2.outP p).addP p (HO.lst (vs ++ ws))) := ⟨List.prefix_refl _, fun _ z => z⟩
      refine ⟨p, b, vs, ws, rfl, rfl, h3', b1, by rw [h4.length, b2.length]; exact hlen, xs ++ ys, (g2.outP p).addP p (.lst (vs ++ ws)), m2, ⟨⟨at2.le.hs, at2.le.fz, fun q hq => List.mem_cons_of_mem _ (mem_outP.mpr ⟨at2.le.pv q hq, fun z => h5 q.2 (by have z : q.1 = p := z; rw [← z]; exact hq)⟩)⟩, rel2.setP mu h2', RelS.setP (vs0 := vs) rel2 at2.rs hi h1 mu h5 r', at2.tw.go (TK.mut mu)⟩, PostS.mono lv (TK.mut mu) q2⟩
    · exact q2.elim
end
end G
namespace G
open PySem L2 PySem.Spec PyProof.Rows
section
variable {X : Cx} {C : Cc} {ρ : List Sl} {k : Nat} {A B A' B' : Type} {oa : A → List Sl} {ob : B → List Sl} {oa' : A' → List Sl} {oi : A' → List Sl} {g g' : Gh} {H H' : Hp} {De : Ends} {Γ : Cst} {σ : L2.St} {m : Hs}
theorem stay_of {gd : List (Nat × List D)} {m : Hs} {α : Type} {f : Unit → M α} (h : stays gd m = true) : bnd (stay gd) f m = f () m := by
  unfold bnd stay
  rw [if_pos h]
  rfl
theorem PostS.stay {gd : List (Nat × List D)} {f : Unit → M (Fl A B)} (q : PostS Γ C oa ob g H De (bnd (G.stay gd) f m)) : stays gd m = true ∧ PostS Γ C oa ob g H De (f () m) := by
  by_cases h : stays gd m = true
  · rw [stay_of h] at q
    exact ⟨h, q⟩
  · unfold bnd G.stay at q
    rw [if_neg h] at q
    exact q.elim
theorem for_ok {tg iter : Expr} {body : List Stmt} {is : List Nat} {P : Pt} {src : M Its} {s0 : A'} {b : D → A' → M (Fl A' A')} {pos : Pos} (hp : PassesOwn (model X.prog X.w) X.A X.env X.xe) (hc : X.calm = true) (hi : PIc X C ρ tg iter src) (hg : PGc X C tg is P) (h0 : Sub (oi s0) ρ)
    (hb : ∀ x s, Bd1 P (oi s) x (b x s) fun ρ' t => PSsc X C ρ' body oi oi t)
    (hs : ∀ x, foldedSetIterable iter X.env x = pure x := by intro _; rfl) : PS X (.For tg iter body [] pos) (tS ⟨X.K, C.cls⟩ C oi ob ρ (forM src s0 b)) := by
  have hb' : PSs X body (fun De σ H => ∃ ρ' t, PSsc X C ρ' body oi oi t ∧ tS ⟨X.K, C.cls⟩ C oi oi ρ' t De σ H) := ⟨fun pins s σ H De I q => by
    obtain ⟨ρ', t, h, q⟩ := q
    exact h.run pins s σ H De I q⟩
  refine ps_imp (ps_for hp hc hi hg hb' hs) fun De σ H q => ?_
  obtain ⟨g, m, at0, q⟩ := q
  refine ⟨g, m, at0, PostS.bind at0.le q fun g1 H1 m1 J z p1 t1 rel1 hv1 q1 => ?_⟩
  obtain ⟨its, gd⟩ := z
  have at1 := at0.mono p1 t1 rel1
  refine ⟨fun i n σ' H' => n = its.length - i ∧ ∃ g m s, Lv0 g1 g ∧ TK H1 H' ∧ At ⟨X.K, C.cls⟩ C (oi s) σ' H' g m ∧ PostS ⟨X.K, C.cls⟩ C oi ob g H' De (forL gd b (its.drop i) s m),
    ⟨its.length, by simp, g1, m1, s0, Lv0.refl _, TK.refl _, at1.less h0, by simpa using q1⟩, ?_⟩
  rintro i n σ' H' ⟨rfl, g2, m2, s2, pg, tk, at2, q2⟩
  have rel2 := at2.rel
  have st : stays gd m2 = true := by
    cases hd : its.drop i with
    | nil => rw [hd] at q2; exact (PostS.stay q2).1
    | cons x xs => rw [hd] at q2; exact (PostS.stay q2).1
  have hI := hv1 g2 m2 H' pg tk rel2 st i
  cases hit : its[i]? with
  | none =>
    refine .inl ⟨hI.2 hit, ?_⟩
    have hd : its.drop i = [] := List.drop_eq_nil_of_le (List.getElem?_eq_none_iff.mp hit)
    rw [hd] at q2
    exact PostS.nx (PostS.stay q2).2 at2
  | some d =>
    obtain ⟨hgo, hy⟩ := hI.1 d hit
    have hil : i < its.length := (List.getElem?_eq_some_iff.mp hit).1
    have hd : its.drop i = d :: its.drop (i + 1) := by
      rw [List.drop_eq_getElem_cons hil]
      congr 1
      exact (List.getElem?_eq_some_iff.mp hit).2
    rw [hd] at q2
    have q2' := (PostS.stay q2).2
    clear q2
    refine .inr ⟨hgo, fun σ3 H3 => ∃ g m s, Lv0 g1 g ∧ TK H1 H3 ∧ At ⟨X.K, C.cls⟩ C (oi s) σ3 H3 g m ∧ PostS ⟨X.K, C.cls⟩ C oi ob g H3 De (forL gd b (its.drop (i + 1)) s m),
      fun σ3 H3 h3 => ⟨its.length - (i + 1), by omega, rfl, h3⟩, fun x H3 y => ?_⟩
    obtain ⟨tk3, rel3, hx3⟩ := hy x H3 y
    have q3 := PostS.mono (Lv0.refl g2) tk3 q2'
    have at3 := at2.keep tk3 rel3
    rcases hb d s2 with hbad | ⟨ρ', hbp, hT⟩
    · rw [hbad] at q3
      exact q3.elim
    · refine ⟨g2, m2, oi s2, d, ρ', at3, hx3, hbp, fun σ4 at4 _ => ⟨ρ', b d s2, hT, g2, m2, at4, ?_⟩⟩
      unfold bnd at q3
      cases hz : b d s2 m2 with
      | ok o m3 =>
        rw [hz, bind_ok] at q3
        cases o with
        | nx s4 => exact fun g5 H5 σ5 p5 t5 at5 => ⟨g5, m3, s4, pg.trans p5, (tk.trans tk3).trans t5, at5, PostS.mono p5 t5 q3⟩
        | ct s4 => exact fun g5 H5 σ5 p5 t5 at5 => ⟨g5, m3, s4, pg.trans p5, (tk.trans tk3).trans t5, at5, PostS.mono p5 t5 q3⟩
        | bk s4 => exact fun g5 H5 σ5 p5 t5 at5 => q3 g5 H5 σ5 p5 t5 at5
        | rt d => exact q3
      | ex c fs m3 => rw [hz] at q3; exact q3
      | bad => rw [hz] at q3; exact q3
theorem s_for {rest : List Stmt} {tg iter : Expr} {body : List Stmt} {is : List Nat} {P : Pt} {src : M Its} {s0 : A'} {b : D → A' → M (Fl A' A')} {f : A' → M (Fl A B)} {pos : Pos} (hp : PassesOwn (model X.prog X.w) X.A X.env X.xe) (hc : X.calm = true) (oi : A' → List Sl) (hi : PIc X C ρ tg iter src) (hg : PGc X C tg is P) (h0 : Sub (oi s0) ρ)
    (hb : ∀ x s, Bd1 P (oi s) x (b x s) fun ρ' t => PSsc X C ρ' body oi oi t) (hr : ∀ s, PSsc X C (oi s) rest oa ob (f s))
    (hs : ∀ x, foldedSetIterable iter X.env x = pure x := by intro _; rfl) : PSsc X C ρ (.For tg iter body [] pos :: rest) oa ob (seq (forM src s0 b) f) := s_seq (for_ok hp hc hi hg h0 hb hs) hr
theorem whl_ok {e : Expr} {c : A' → M D} {body : List Stmt} {b : A' → M (Fl A' A')} {s0 : A'} {pos : Pos} (hp : PassesOwn (model X.prog X.w) X.A X.env X.xe) (h0 : Sub (oi s0) ρ) (hc : ∀ s, PTc X C (oi s) e (c s)) (hb : ∀ s, PSsc X C (oi s) body oi oi (b s)) : PS X (.While e body [] pos) (tS ⟨X.K, C.cls⟩ C oi ob ρ (whlM c s0 b)) := by
  have hc' : PT X e (fun σ H Q => ∃ s, tT ⟨X.K, C.cls⟩ C (oi s) (c s) σ H Q) := ⟨fun pins t σ H Q I q => by
    obtain ⟨s, q⟩ := q
    exact (hc s).run pins t σ H Q I q⟩
  refine ps_imp (ps_while hp hc' (pss_ex hb)) fun De σ H q => ?_
  obtain ⟨g, m, at0, q⟩ := q
  refine ⟨fun n σ' H' => ∃ g m s, At ⟨X.K, C.cls⟩ C (oi s) σ' H' g m ∧ PostS ⟨X.K, C.cls⟩ C oi ob g H' De (whlL c b n s m), ⟨whileMost, g, m, s0, at0.less h0, q⟩, ?_⟩
  rintro n σ1 H1 ⟨g1, m1, s1, at1, q1⟩
  refine ⟨s1, g1, m1, at1, ?_⟩
  cases n with
  | zero => exact q1.elim
  | succ n =>
    unfold bnd
    simp only [whlL, bnd] at q1
    cases hz : c s1 m1 with
    | ok x m2 =>
      rw [hz, bind_ok] at q1
      rw [bind_ok]
      cases ht : truth x m2 with
      | none =>
        have e : tru x m2 = .bad := by unfold tru ask; rw [ht]
        rw [e] at q1
        exact q1.elim
      | some k =>
        rw [tru_of ht, bind_ok] at q1
        rw [tru_of ht]
        intro g2 H2 v p t rel2 e
        subst e
        have at2 := at1.mono p t rel2
        have q2 := PostS.mono p.v t q1
        cases v with
        | false => exact iteF (PostS.nx q2 at2)
        | true =>
          refine iteT ⟨fun σ3 H3 => ∃ g m s, At ⟨X.K, C.cls⟩ C (oi s) σ3 H3 g m ∧ PostS ⟨X.K, C.cls⟩ C oi ob g H3 De (whlL c b n s m), fun σ3 H3 h3 => ⟨n, Nat.lt_succ_self n, h3⟩, s1, g2, m2, at2, ?_⟩
          rw [if_pos rfl] at q2
          unfold bnd at q2
          cases hz2 : b s1 m2 with
          | ok o m3 =>
            rw [hz2, bind_ok] at q2
            cases o with
            | nx r4 => exact fun g5 H5 σ5 p5 t5 at5 => ⟨g5, m3, r4, at5, PostS.mono p5 t5 q2⟩
            | ct r4 => exact fun g5 H5 σ5 p5 t5 at5 => ⟨g5, m3, r4, at5, PostS.mono p5 t5 q2⟩
            | bk r4 => exact fun g5 H5 σ5 p5 t5 at5 => q2 g5 H5 σ5 p5 t5 at5
            | rt d => exact q2
          | ex c fs m3 => rw [hz2] at q2; exact q2
          | bad => rw [hz2] at q2; exact q2
    | ex c' fs m2 => rw [hz] at q1; exact PostX.mono at1.le (TK.refl _) (q1 σ1)
    | bad => rw [hz] at q1; exact q1
theorem s_while {rest : List Stmt} {e : Expr} {c : A' → M D} {body : List Stmt} {b : A' → M (Fl A' A')} {s0 : A'} {f : A' → M (Fl A B)} {pos : Pos} (hp : PassesOwn (model X.prog X.w) X.A X.env X.xe) (oi : A' → List Sl) (h0 : Sub (oi s0) ρ) (hc : ∀ s, PTc X C (oi s) e (c s)) (hb : ∀ s, PSsc X C (oi s) body oi oi (b s)) (hr : ∀ s, PSsc X C (oi s) rest oa ob (f s)) :
    PSsc X C ρ (.While e body [] pos :: rest) oa ob (seq (whlM c s0 b) f) := s_seq (whl_ok hp h0 hc hb) hr
theorem cmpS_then {o : Cp} {x y : D} {R : VK} {f : D → M (Fl A B)} {W : WX} (le : Le C.gB g) (q : PostS Γ C oa ob g H De (bnd (cmpS o x y) f m))
    (k : ∀ g' H' b, Le g g' → TK H H' → Rel Γ g' m H' → PostS Γ C oa ob g' H' De (f (.bl b) m) → R (.bl b) H') : Post Γ W (rD Γ) σ g H R (cmpS o x y m) := by
  unfold bnd at q
  cases hz : cmpS o x y m with
  | ok z m3 =>
    rw [hz] at q
    obtain ⟨b, rfl, rfl⟩ := cmpS_bl hz
    intro g3 H3 v3 p3 t3 rel3 hv3
    rw [rep_bl hv3]
    exact k g3 H3 b p3 t3 rel3 (PostS.mono p3.v t3 q)
  | ex c fs m3 => exact (cmpS_ex hz).elim
  | bad => rw [hz] at q; exact q
theorem ifw_ok {i : Nat} {x : Str} {a b : Expr} {p q : List Stmt} {ta : M D} {tb : D → M D} {o : Cp} {op : CmpOp} {r : R2} {t u : D → M (Fl A B)} {px pn pc pos : Pos} (ho : OpR X (compareOp op) r) (sv : Serves X C.cls r (cmpS o)) (hm : behindInMarks op b = false)
    (hN : X.N.Nodup) (hi : X.N[i]? = some x) (hx : Loc X.env.scope x) (ha : PEc X C ρ a ta) (hb : ∀ d, PEc X C (ρ.set i (.val d)) b (tb d)) (hp : ∀ d, PSsc X C (ρ.set i (.val d)) p oa ob (t d)) (hq : ∀ d, PSsc X C (ρ.set i (.val d)) q oa ob (u d))
    (hf : X.fn x = true ∨ X.env.scope.names.lookup x = some .local := by first | exact .inl rfl | exact .inr rfl | assumption) :
    PS X (.If (.Compare (.NamedExpr (.Name x px) a pn) [op] [b] pc) p q pos) (tS ⟨X.K, C.cls⟩ C oa ob ρ (bnd ta fun d => iff (cmpM o (ret d) (tb d)) (t d) (u d))) := by
  have hb' : PE X b (fun σ H Q => ∃ d, tE ⟨X.K, C.cls⟩ C (ρ.set i (.val d)) (tb d) σ H Q) := ⟨fun pins s σ H Q I q => by
    obtain ⟨d, q⟩ := q
    exact (hb d).run pins s σ H Q I q⟩
  refine ps_imp (ps_ifW (ptw_cmp ho (pew_named hN hi hx (pew_of ha) hf) hb' hm) (pss_ex hp) (pss_ex hq)) fun De σ H z => ?_
  obtain ⟨g, m, at0, z⟩ := z
  refine ⟨g, m, at0, PostS.bind at0.le z fun g1 H1 m1 v d p1 t1 rel1 hv1 z1 => ?_⟩
  have at1 := (at0.mono p1 t1 rel1).set hv1 i
  have z1 : PostS ⟨X.K, C.cls⟩ C oa ob g1 H1 De (bnd (tb d) (fun y => bnd (cmpS o d y) fun w => bnd (tru w) fun k => if k = true then t d else u d) m1) := by
    have e : (bnd (tb d) fun y => bnd (cmpS o d y) fun w => bnd (tru w) fun k => if k = true then t d else u d) = iff (cmpM o (ret d) (tb d)) (t d) (u d) := by
      unfold iff cmpM
      rw [bnd_ret, bnd_bnd]
    rw [e]
    exact z1
  refine ⟨d, g1, m1, at1, PostS.bind at1.le z1 fun g2 H2 m2 v2 y p2 t2 rel2 hv2 z2 => ?_⟩
  have at2 := at1.mono p2 t2 rel2
  refine sv C.W σ g2 H2 m2 v v2 d y _ rel2 (hv1.mono p2.v t2) hv2 ?_
  refine cmpS_then at2.le z2 fun g3 H3 k p3 t3 rel3 z3 => ⟨k, rfl, ?_⟩
  have at3 := at2.mono p3 t3 rel3
  cases k with
  | true => exact iteT ⟨d, g3, m2, at3, z3⟩
  | false => exact iteF ⟨d, g3, m2, at3, z3⟩
theorem s_ifw {rest : List Stmt} {i : Nat} {x : Str} {a b : Expr} {p q : List Stmt} {ta : M D} {tb : D → M D} {o : Cp} {op : CmpOp} {r : R2} {t u : D → M (Fl A' B)} {f : A' → M (Fl A B)} {px pn pc pos : Pos} (ho : OpR X (compareOp op) r) (sv : Serves X C.cls r (cmpS o)) (hm : behindInMarks op b = false)
    (hN : X.N.Nodup) (hi : X.N[i]? = some x) (hx : Loc X.env.scope x) (ha : PEc X C ρ a ta) (hb : ∀ d, PEc X C (ρ.set i (.val d)) b (tb d)) (hp : ∀ d, PSsc X C (ρ.set i (.val d)) p oa' ob (t d)) (hq : ∀ d, PSsc X C (ρ.set i (.val d)) q oa' ob (u d)) (hr : ∀ s, PSsc X C (oa' s) rest oa ob (f s))
    (hf : X.fn x = true ∨ X.env.scope.names.lookup x = some .local := by first | exact .inl rfl | exact .inr rfl | assumption) :
    PSsc X C ρ (.If (.Compare (.NamedExpr (.Name x px) a pn) [op] [b] pc) p q pos :: rest) oa ob (seq (bnd ta fun d => iff (cmpM o (ret d) (tb d)) (t d) (u d)) f) := s_seq (ifw_ok ho sv hm hN hi hx ha hb hp hq hf) hr
end
theorem gcL_len : ∀ {n : Nat} {m m1 : Hs}, gcL n m m1 = true → m.length ≤ m1.length
  | _, [], _, _ => Nat.zero_le _
  | _, _ :: _, [], h => by simp [gcL] at h
  | n, o :: os, p :: ps, h => by
    simp only [gcL, Bool.and_eq_true] at h
    simp only [List.length_cons]
    exact Nat.succ_le_succ (gcL_len h.2)
theorem gcL_at : ∀ {n : Nat} {m m1 : Hs} {i : Nat} {o p : O}, gcL n m m1 = true → m[i]? = some o → m1[i]? = some p → o = p ∨ belowO n p = true
  | _, [], _, _, _, _, _, h, _ => by simp at h
  | _, _ :: _, [], _, _, _, h, _, _ => by simp [gcL] at h
  | n, a :: os, b :: ps, 0, o, p, h, h1, h2 => by
    simp only [gcL, Bool.and_eq_true, Bool.or_eq_true] at h
    simp at h1 h2
    subst h1
    subst h2
    rcases h.1 with q | q
    · exact .inl (beqO_eq _ _ q)
    · exact .inr q
  | n, a :: os, b :: ps, i + 1, o, p, h, h1, h2 => by
    simp only [gcL, Bool.and_eq_true] at h
    exact gcL_at (i := i) h.2 (by simpa using h1) (by simpa using h2)
section
variable {Γ : Cst} {g g' : Gh} {m m1 : Hs} {H H' : Hp}
theorem ObjR.bel {a : Addr} {o : O} (h : ObjR Γ g H a o) : belowO g.hs.length o = true := by
  cases o with
  | lst ds => obtain ⟨xs, _, h2⟩ := h; exact h2.bel
  | ins c fs => obtain ⟨C, dx, vs, _, _, h2⟩ := h; exact h2.bel
  | exc c fs => obtain ⟨C, d, vs, _, _, _, h2⟩ := h; exact h2.bel
  | dct ks ds =>
    obtain ⟨kvs, _, rfl, h2⟩ := h
    simp only [belowO, Bool.and_eq_true]
    exact ⟨below_keysT _ _, h2.bel⟩
  | sd ks ds =>
    obtain ⟨kvs, _, rfl, h2⟩ := h
    simp only [belowO, Bool.and_eq_true]
    exact ⟨below_keysK _ _, h2.bel⟩
  | zd ks ds =>
    obtain ⟨o, kvs, _, rfl, h2⟩ := h
    simp only [belowO, Bool.and_eq_true]
    exact ⟨below_keysT _ _, h2.bel⟩
theorem ObjR.shrink {a : Addr} {o : O} {n : Nat} (h : ObjR Γ g H a o) (b : belowO n o = true) : ObjR Γ (g.cut n) H a o := by
  cases o with
  | lst ds => obtain ⟨xs, h1, h2⟩ := h; exact ⟨xs, h1, h2.shrink b⟩
  | ins c fs => obtain ⟨C, dx, vs, h0, h1, h2⟩ := h; exact ⟨C, dx, vs, h0, h1, h2.shrink b⟩
  | exc c fs => obtain ⟨C, d, vs, h0, h1, h2, h3⟩ := h; exact ⟨C, d, vs, h0, h1, h2, h3.shrink b⟩
  | dct ks ds =>
    simp only [belowO, Bool.and_eq_true] at b
    obtain ⟨kvs, h1, h2, h3⟩ := h
    exact ⟨kvs, h1, h2, h3.shrink b.2⟩
  | sd ks ds =>
    simp only [belowO, Bool.and_eq_true] at b
    obtain ⟨kvs, h1, h2, h3⟩ := h
    exact ⟨kvs, h1, h2, h3.shrink b.2⟩
  | zd ks ds =>
    simp only [belowO, Bool.and_eq_true] at b
    obtain ⟨o, kvs, h1, h2, h3⟩ := h
    exact ⟨o, kvs, h1, h2, h3.shrink b.2⟩
theorem pre_take {l l' : List Addr} (p : l <+: l') : l'.take l.length = l := by
  obtain ⟨r, rfl⟩ := p
  simp
theorem Rel.gc (R : Rel Γ g m H) (p : Le g g') (R' : Rel Γ g' m1 H') (c : gcL m.length m m1 = true) : Rel Γ (g'.cut m.length) (m1.take m.length) H' := by
  have hl := gcL_len c
  have hh : g'.hs.take m.length = g.hs := by rw [← R.len]; exact pre_take p.hs
  have sub : ∀ a, a ∈ (g'.cut m.length).hs → a ∈ g'.hs := fun a ha => List.mem_of_mem_take ha
  refine ⟨by show (g'.hs.take m.length).length = _; rw [hh, R.len, List.length_take]; omega, by show (g'.hs.take m.length).Nodup; rw [hh]; exact R.inj, fun i o a h1 h2 => ?_, R'.frz, R'.prv, fun a o ha => R'.hf a o (sub a ha), fun a o ha => R'.hp a o (sub a ha), R'.pf, R'.lf, R'.lp, R'.ff, R'.tab⟩
  change (g'.hs.take m.length)[i]? = some a at h2
  rw [hh] at h2
  have hi : i < m.length := by rw [← R.len]; exact (List.getElem?_eq_some_iff.mp h2).1
  rw [List.getElem?_take_of_lt hi] at h1
  have q := R'.obj i o a h1 (pre_get p.hs h2)
  have b : belowO m.length o = true := by
    rcases gcL_at c (List.getElem?_eq_getElem hi) h1 with e | e
    · have z := (R.obj i _ a (List.getElem?_eq_getElem hi) h2).bel
      rw [R.len, e] at z
      exact z
    · exact e
  exact q.shrink b
theorem le_cut (R : Rel Γ g m H) (p : Le g g') : Le g (g'.cut m.length) := ⟨by show g.hs <+: g'.hs.take m.length; rw [← R.len, pre_take p.hs]; exact List.prefix_refl _, p.fz, p.pv⟩
end
theorem relS_start {Γ : Cst} {gB g : Gh} {H : Hp} {vs : List V} {ds : List D} (r : RepL Γ.K g H vs ds) (n : Nat) : RelS Γ gB g H (ds.map Sl.val ++ List.replicate n Sl.un) (vs.map some ++ List.replicate n none) := by
  have key : ∀ (i : Nat) (s : Sl), (ds.map Sl.val ++ List.replicate n Sl.un)[i]? = some s → s = .un ∨ ∃ d v, s = .val d ∧ (vs.map some ++ List.replicate n none)[i]? = some (some v) ∧ Rep Γ.K g H v d := fun i s hd => by
    by_cases hi : i < ds.length
    · rw [List.getElem?_append_left (by simpa using hi), List.getElem?_map, Option.map_eq_some_iff] at hd
      obtain ⟨e, h1, rfl⟩ := hd
      obtain ⟨v, h3, h4⟩ := r.get h1
      exact .inr ⟨e, v, rfl, by rw [List.getElem?_append_left (by simpa [r.length] using hi), List.getElem?_map, h3]; rfl, h4⟩
    · rw [List.getElem?_append_right (by simpa using hi), List.getElem?_replicate] at hd
      split at hd
      · exact .inl (Option.some.inj hd).symm
      · cases hd
  refine ⟨by simp [r.length], fun i d hd => ?_, fun i xs hd => ?_, fun i j xs ys a hd => ?_, fun i v hd => by rcases key i _ hd with e | ⟨d', v, e, h1, h2⟩ <;> cases e⟩
  · rcases key i _ hd with e | ⟨d', v, e, h1, h2⟩
    · cases e
    · cases e
      exact ⟨v, h1, h2⟩
  · rcases key i _ hd with e | ⟨d', v, e, h1, h2⟩
    · cases e
    · cases e
  · rcases key i _ hd with e | ⟨d', v, e, h1, h2⟩
    · cases e
    · cases e
section
variable {P : Program} {w : World} {K : PySem.W.Frag} {mg : Str → Option Value} {base : Heap} {cls : Cl} {k n : Nat}
abbrev noB (e : Empty) : List Sl := nomatch e
abbrev unA (n : Nat) (_ : Unit) : List Sl := List.replicate n Sl.un
theorem Fun.okG {x qual : Str} {st : Stmt} {f : Addr} {fd : FuncData} {N ps : List Str} {sp : Sp} (F : Fun K x qual st f fd) (S : FnScope N ps (defScope st))
    (len : ∀ vs H Q E, sp vs H Q E → vs.length = ps.length)
    (body : ∀ (cdv : Value) (B : Around) (out : List Env) (t : Shared) (H0 : Hp) (xs : List V) (R : VK) (E0 : XK), Room k (B.deeper (envOfC qual (defScope st) t.heap.objs.size f cdv)) → Clr gu B → sp xs H0 R E0 →
      ∃ tt, PSs (cxOf (L2.CX P w) P w K mg base N qual (defScope st) f cdv B out t H0 E0) (defBody st) tt ∧ tt { nx := fun _ H9 => R .non H9, rt := R } (start N xs) H0) :
    FnG gu P w K mg base (L2.CX P w) (k + 1) f fd ps sp := by
  obtain ⟨oc, od, kV, doc, pm, an, cdv, ct, osl, rfl, lk, hcd⟩ := F.ex
  exact fnG_of lk hcd S len (body cdv)
theorem sub_un : ∀ {ρ : List Sl} {n : Nat}, ρ.length = n → Sub (List.replicate n Sl.un) ρ
  | [], _, rfl => .nil
  | _ :: l, _, rfl => .un (sub_un (ρ := l) rfl)
theorem s_end {X : Cx} {C : Cc} {ρ : List Sl} {B : Type} {ob : B → List Sl} {n : Nat} (h : ρ.length = n := by rfl) : PSsc X C ρ [] (unA n) ob (nxt ()) := s_nil (sub_un h)
theorem fn_core {x qual : Str} {st : Stmt} {f : Addr} {fd : FuncData} {N ps : List Str} {t : List D → M D} (F : Fun K x qual st f fd) (S : FnScope N ps (defScope st)) (hl : ∀ ds, ds.length ≠ ps.length → t ds = bad)
    (walk : ∀ ds, ds.length = ps.length → ∃ bd : M (Fl Unit Empty), (t ds = fnM bd ∨ t ds = gcM (fnM bd)) ∧ ∀ (cdv : Value) (A : Around) (outer : List Env) (s : Shared) (H : Hp) (E : XK) (gB : Gh), Room k (A.deeper (envOfC qual (defScope st) s.heap.objs.size f cdv)) → Clr gu A →
      PSsc (cxOf (L2.CX P w) P w K mg base N qual (defScope st) f cdv A outer s H E) ⟨cls, fun c d _ H' => E c d H', gB, H⟩ (ds.map Sl.val ++ List.replicate (N.length - ds.length) Sl.un) (defBody st) (unA N.length) noB bd) :
    FnG gu P w K mg base (L2.CX P w) (k + 1) f fd ps (spM ⟨K, cls⟩ t) := by
  have hlen : ∀ (ds : List D) (W : WX) (Q : VK) (g : Gh) (m : Hs) (H : Hp), Post ⟨K, cls⟩ W (rD ⟨K, cls⟩) [] g H Q (t ds m) → ds.length = ps.length := fun ds W Q g m H q => by
    by_cases h : ds.length = ps.length
    · exact h
    · rw [hl ds h] at q
      exact q.elim
  refine Fun.okG F S (fun vs H Q E h => ?_) (fun cdv A outer s H vs Q E hr cl h => ?_)
  · obtain ⟨g, m, ds, rel, rv, q⟩ := h
    rw [rv.length, hlen ds _ _ _ _ _ q]
  · obtain ⟨g, m, ds, rel, rv, q⟩ := h
    obtain ⟨bd, hbd, wk⟩ := walk ds (hlen ds _ _ _ _ _ q)
    refine ⟨_, wk cdv A outer s H E g hr cl, g, m, ⟨Le.refl g, rel, ?_, TW.refl H⟩, ?_⟩
    · unfold L2.start
      rw [rv.length]
      exact relS_start rv _
    · rcases hbd with hbd | hbd
      · rw [hbd] at q
        unfold fnM bnd at q
        cases hz : bd m with
        | ok o m1 =>
          rw [hz, bind_ok] at q
          cases o with
          | rt d => exact fun g' H' v l p t rel' hv => q g' H' v l t rel' hv
          | nx a => exact fun g' H' σ' p t at' => q g' H' .non at'.le t at'.rel .non
          | bk b => exact nomatch b
          | ct b => exact nomatch b
        | ex c fs m1 => rw [hz] at q; exact fun σ => q
        | bad => rw [hz] at q; exact q
      · rw [hbd] at q
        unfold gcM fnM bnd at q
        cases hz : bd m with
        | ok o m1 =>
          rw [hz, bind_ok] at q
          cases o with
          | rt d =>
            intro g' H' v l p t rel' hv
            simp only [fnE, ret, gcR] at q
            split at q
            · rename_i hc
              rw [Bool.and_eq_true] at hc
              exact q _ H' v (le_cut rel l) t (rel.gc l rel' hc.2) (hv.shrink hc.1)
            · exact q g' H' v l t rel' hv
          | nx a =>
            intro g' H' σ' p t at'
            simp only [fnE, ret, gcR] at q
            split at q
            · rename_i hc
              rw [Bool.and_eq_true] at hc
              exact q _ H' .non (le_cut rel at'.le) t (rel.gc at'.le at'.rel hc.2) .non
            · exact q g' H' .non at'.le t at'.rel .non
          | bk b => exact nomatch b
          | ct b => exact nomatch b
        | ex c fs m1 =>
          rw [hz] at q
          intro σ g' H' A' d vs' l t rel' hC hd hf
          simp only [Rs.bind] at q
          split at q
          · rename_i hc
            rw [Bool.and_eq_true] at hc
            exact q _ H' A' d vs' (le_cut rel l) t (rel.gc l rel' hc.2) hC hd (hf.shrink hc.1)
          · exact q g' H' A' d vs' l t rel' hC hd hf
        | bad => rw [hz] at q; exact q.elim
abbrev Wk (gu : Bool) (P : Program) (w : World) (K : PySem.W.Frag) (mg : Str → Option Value) (base : Heap) (cls : Cl) (k : Nat) (N : List Str) (qual : Str) (st : Stmt) (f : Addr) (ρ : List Sl) (bd : M (Fl Unit Empty)) : Prop :=
  ∀ (cdv : Value) (A : Around) (outer : List Env) (s : Shared) (H : Hp) (E : XK) (gB : Gh), Room k (A.deeper (envOfC qual (defScope st) s.heap.objs.size f cdv)) → Clr gu A →
    PSsc (cxOf (L2.CX P w) P w K mg base N qual (defScope st) f cdv A outer s H E) ⟨cls, fun c d _ H' => E c d H', gB, H⟩ ρ (defBody st) (unA N.length) noB bd
section
variable {x qual : Str} {st : Stmt} {f : Addr} {fd : FuncData} {N : List Str} {p1 p2 p3 p4 p5 p6 : Str}
abbrev uns (N : List Str) (n : Nat) : List Sl := List.replicate (N.length - n) Sl.un
theorem fn_1 {t : D → M D} {b : D → M (Fl Unit Empty)} (F : Fun K x qual st f fd) (S : FnScope N [p1] (defScope st)) (ht : (∀ a, t a = fnM (b a)) ∨ (∀ a, t a = gcM (fnM (b a)))) (wk : ∀ a, Wk gu P w K mg base cls k N qual st f (.val a :: uns N 1) (b a)) : FnG gu P w K mg base (L2.CX P w) (k + 1) f fd [p1] (spM ⟨K, cls⟩ (fs1 t)) :=
  fn_core F S (fun ds h => by rcases ds with _ | ⟨a, _ | ⟨b, ds⟩⟩ <;> first | rfl | exact absurd rfl h) fun ds h => match ds, h with
    | [a], _ => ⟨b a, ht.imp (fun h => h a) (fun h => h a), wk a⟩
theorem fn_2 {t : D → D → M D} {b : D → D → M (Fl Unit Empty)} (F : Fun K x qual st f fd) (S : FnScope N [p1, p2] (defScope st)) (ht : (∀ a a2, t a a2 = fnM (b a a2)) ∨ (∀ a a2, t a a2 = gcM (fnM (b a a2)))) (wk : ∀ a a2, Wk gu P w K mg base cls k N qual st f (.val a :: .val a2 :: uns N 2) (b a a2)) : FnG gu P w K mg base (L2.CX P w) (k + 1) f fd [p1, p2] (spM ⟨K, cls⟩ (fs2 t)) :=
  fn_core F S (fun ds h => by rcases ds with _ | ⟨a, _ | ⟨b, _ | ⟨c, ds⟩⟩⟩ <;> first | rfl | exact absurd rfl h) fun ds h => match ds, h with
    | [a, a2], _ => ⟨b a a2, ht.imp (fun h => h a a2) (fun h => h a a2), wk a a2⟩
theorem fn_3 {t : D → D → D → M D} {b : D → D → D → M (Fl Unit Empty)} (F : Fun K x qual st f fd) (S : FnScope N [p1, p2, p3] (defScope st)) (ht : (∀ a a2 a3, t a a2 a3 = fnM (b a a2 a3)) ∨ (∀ a a2 a3, t a a2 a3 = gcM (fnM (b a a2 a3)))) (wk : ∀ a a2 a3, Wk gu P w K mg base cls k N qual st f (.val a :: .val a2 :: .val a3 :: uns N 3) (b a a2 a3)) : FnG gu P w K mg base (L2.CX P w) (k + 1) f fd [p1, p2, p3] (spM ⟨K, cls⟩ (fs3 t)) :=
  fn_core F S (fun ds h => by rcases ds with _ | ⟨a, _ | ⟨b, _ | ⟨c, _ | ⟨d, ds⟩⟩⟩⟩ <;> first | rfl | exact absurd rfl h) fun ds h => match ds, h with
    | [a, a2, a3], _ => ⟨b a a2 a3, ht.imp (fun h => h a a2 a3) (fun h => h a a2 a3), wk a a2 a3⟩
theorem fn_4 {t : D → D → D → D → M D} {b : D → D → D → D → M (Fl Unit Empty)} (F : Fun K x qual st f fd) (S : FnScope N [p1, p2, p3, p4] (defScope st)) (ht : (∀ a a2 a3 a4, t a a2 a3 a4 = fnM (b a a2 a3 a4)) ∨ (∀ a a2 a3 a4, t a a2 a3 a4 = gcM (fnM (b a a2 a3 a4)))) (wk : ∀ a a2 a3 a4, Wk gu P w K mg base cls k N qual st f (.val a :: .val a2 :: .val a3 :: .val a4 :: uns N 4) (b a a2 a3 a4)) : FnG gu P w K mg base (L2.CX P w) (k + 1) f fd [p1, p2, p3, p4] (spM ⟨K, cls⟩ (fs4 t)) :=
  fn_core F S (fun ds h => by rcases ds with _ | ⟨a, _ | ⟨b, _ | ⟨c, _ | ⟨d, _ | ⟨e, ds⟩⟩⟩⟩⟩ <;> first | rfl | exact absurd rfl h) fun ds h => match ds, h with
    | [a, a2, a3, a4], _ => ⟨b a a2 a3 a4, ht.imp (fun h => h a a2 a3 a4) (fun h => h a a2 a3 a4), wk a a2 a3 a4⟩
theorem fn_6 {t : D → D → D → D → D → D → M D} {b : D → D → D → D → D → D → M (Fl Unit Empty)} (F : Fun K x qual st f fd) (S : FnScope N [p1, p2, p3, p4, p5, p6] (defScope st)) (ht : (∀ a a2 a3 a4 a5 a6, t a a2 a3 a4 a5 a6 = fnM (b a a2 a3 a4 a5 a6)) ∨ (∀ a a2 a3 a4 a5 a6, t a a2 a3 a4 a5 a6 = gcM (fnM (b a a2 a3 a4 a5 a6)))) (wk : ∀ a a2 a3 a4 a5 a6, Wk gu P w K mg base cls k N qual st f (.val a :: .val a2 :: .val a3 :: .val a4 :: .val a5 :: .val a6 :: uns N 6) (b a a2 a3 a4 a5 a6)) : FnG gu P w K mg base (L2.CX P w) (k + 1) f fd [p1, p2, p3, p4, p5, p6] (spM ⟨K, cls⟩ (fs6 t)) :=
  fn_core F S (fun ds h => by rcases ds with _ | ⟨a, _ | ⟨b, _ | ⟨c, _ | ⟨d, _ | ⟨e, _ | ⟨g, _ | ⟨i, ds⟩⟩⟩⟩⟩⟩⟩ <;> first | rfl | exact absurd rfl h) fun ds h => match ds, h with
    | [a, a2, a3, a4, a5, a6], _ => ⟨b a a2 a3 a4 a5 a6, ht.imp (fun h => h a a2 a3 a4 a5 a6) (fun h => h a a2 a3 a4 a5 a6), wk a a2 a3 a4 a5 a6⟩
end
theorem law_sp {t : D → M D} {H : Hp} {a : Addr} {ns : List Int} (hO : ∀ b, H b = none ∨ (∃ o xs, H b = some (.frz o (.lst xs))) ∨ ∃ ps, H b = some (.tbl ps)) (hT : ∀ t, t ∈ cls.T → H t.1 = some (.tbl #[])) (hS : SqL K H a (ns.map V.int)) (h : ∃ m, t (.sc (ns.map .int)) [] = .ok (.bl true) m) : spM ⟨K, cls⟩ (fs1 t) [.ref a] H (fun v _ => v = .bl true) (fun _ _ _ => False) := by
  obtain ⟨m, h⟩ := h
  have rl : ∀ l : List Int, RepL K ⟨[], [], []⟩ H (l.map V.int) (l.map D.int) := fun l => by
    induction l with
    | nil => exact .nil
    | cons i l ih => exact .cons (.int i) ih
  refine ⟨⟨[], [], []⟩, [], [.sc (ns.map .int)], ⟨rfl, List.nodup_nil, fun i o a h => by simp at h, fun a o h => by simp at h, fun a o h => by simp at h, fun a o h => by simp at h, fun a o h => by simp at h, fun a o u h => by simp at h, fun p h => by simp at h, fun p h => by simp at h, fun b ob u h => by
    rcases hO b with z | ⟨o, xs, z⟩ | ⟨ps, z⟩
    · rw [z] at h; cases h
    · rw [z] at h; cases h; rfl
    · (rw [z] at h; cases h), fun t ht => ⟨#[], hT t ht, True.intro, fun pos cv hc => by simp [codeAmong] at hc⟩⟩, .cons (.sc (xs := ns.map V.int) ?_ (rl ns)) .nil, ?_⟩
  · rcases hS with (hS | ⟨o, hS⟩) | hS
    · rcases hO a with z | ⟨o, xs, z⟩ | ⟨ps, z⟩
      · rw [hS] at z; cases z
      · rw [hS] at z; cases z
      · rw [hS] at z; cases z
    · exact .inl ⟨o, hS⟩
    · exact .inr fun H' => .inr hS
  · show Post _ _ _ _ _ _ _ (t (.sc (ns.map .int)) [])
    rw [h]
    intro g' H' v _ _ _ hv
    exact rep_bl hv
end
end G
namespace G
open PySem L2 PySem.Spec PyProof.Rows
theorem lawG {P : Program} {w : World} {K : PySem.W.Frag} {gl bl : Str → Option Value} {CX : CXT} {k : Nat} {fa ad : Addr} {fd : FuncData} {x : Str} {sp : Sp} {t0 : Shared} {us : List Value} {zs : List Int}
    (inK : K.In t0.heap) (nsm : t0.heap.Ns mainGlobals gl) (nsb : t0.heap.Ns builtinsNs bl) (boot : ∀ x : Str, x ≠ "__name__" → bl x = bootBuiltins x) (lim : t0.heap.NoLimit) (gens : t0.gens = #[])
    (scr : t0.heap.get? ad = some { cls := .type "list", data := .seq us.toArray }) (isz : IntsAre us zs) (short : zs.length ≤ sizeLine) (room : Room k callerA)
    (F : ∀ b0 : Heap, K.In b0 → b0.Ns mainGlobals gl → FnG true P w K gl b0 CX k fa fd [x] sp) (bnd0 : ∀ (s : Shared) (u : Value), BindsTo s fd ⟨[u], []⟩ [(x, u)])
    (prom : ∀ J : Hp, Only J → SqL K J ad (zs.map V.int) → sp [.ref ad] J (fun v _ => v = .bl true) fun _ _ _ => False)
    (noX : ∀ J e s', CX [] J t0 (fun _ _ _ => False) e s' → False) :
    codeAny (model P w) callerA (.call (.ref fa) ⟨[.ref ad], []⟩) (fun r s' => r = .ok (.ret (.bool true)) ∧ OldK t0.heap s'.heap ∧ s'.os = t0.os ∧ AllBare s'.gens) t0 := by
  have vals := vals_ints isz
  have same := isz.length
  have main : ∀ J : Hp, Only J → SqL K J ad (zs.map V.int) → HOk P w J t0.heap → (∀ b, J b ≠ none → b = ad) → (J ad ≠ none → K.lookup ad = none) →
      codeAny (model P w) callerA (.call (.ref fa) ⟨[.ref ad], []⟩) (fun r s' => r = .ok (.ret (.bool true)) ∧ OldK t0.heap s'.heap ∧ s'.os = t0.os ∧ AllBare s'.gens) t0 := by
    intro J only sq hok atA outK
    have low : ∀ {b : Addr} {o : Obj}, t0.heap.get? b = some o → J b = none → (hidT t0.heap J).get? b = some o := fun e n => hidT_get e n
    have un : ∀ {b : Addr} {o : Obj} {es : Array DictEntry} {ep : Nat}, t0.heap.get? b = some o → o.data = .dict es ep → J b = none := fun {b o es ep} e d => by
      cases q : J b with
      | none => rfl
      | some u =>
        have z : b = ad := atA b (by rw [q]; simp)
        subst z
        rw [scr] at e
        cases e
        have z2 : Data.seq us.toArray _ = Data.dict es ep := d
        cases z2
    have lowN : ∀ {b : Addr} {m : Str → Option Value}, t0.heap.Ns b m → (hidT t0.heap J).Ns b m := fun {b m} ⟨o, es, ep, e, d, r⟩ => ⟨o, es, ep, low e (un e d), d, r⟩
    have lowK : K.In (hidT t0.heap J) := fun b o e => low (inK b o e) (by
      cases q : J b with
      | none => rfl
      | some u =>
        have z : b = ad := atA b (by rw [q]; simp)
        subst z
        rw [outK (by rw [q]; simp)] at e
        cases e)
    have md : Mod K gl (hidT t0.heap J) := ⟨lowK, lowN nsm, ⟨bl, lowN nsb, boot⟩, let ⟨mc, h1, h2⟩ := lim; ⟨mc, lowN h1, h2⟩⟩
    have env : Env0 P w K gl (hidT t0.heap J) callerA [] t0 J := ⟨rfl, md, fun b o e => of_hidT e, Nat.le_of_eq (hidT_size _ _), trivial, fun b hb => absurd (show b ∈ ([] : List Addr) from hb) (by simp), hok, .of_eq gens⟩
    refine codeAny_mono ((F _ lowK (lowN nsm)).run callerA [] t0 J ⟨[.ref ad], []⟩ [.ref ad] [.ref ad] _ _ room (fun _ => rfl) env (bnd0 t0 (.ref ad)) (.cons rfl .nil) (prom J only sq)) fun r s' h => ?_
    match r, h with
    | .error e, h => exact (noX J e s' h).elim
    | .ok .next, h => exact False.elim h
    | .ok .brk, h => exact False.elim h
    | .ok .cont, h => exact False.elim h
    | .ok (.ret u), h =>
      obtain ⟨v, J2, os, bare, unch, hok2, rv, q⟩ := h
      have q' : v = .bl true := q
      subst q'
      have rv' : u = Value.bool true := rv
      subst rv'
      refine ⟨rfl, OldK.of_keep fun b o e => ?_, os, bare⟩
      cases q : J b with
      | none => exact unch.keep b o e q (by intro z; exact absurd (show b ∈ ([] : List Addr) from z) (by simp)) (by simp)
      | some u =>
        rcases only b with z | ⟨ob, xs, z⟩
        · rw [q] at z; cases z
        · have y2 := unch.frzs b ob _ z
          obtain ⟨y3, _⟩ := hok b _ z
          obtain ⟨y4, _⟩ := hok2 b _ y2
          rw [e] at y3
          cases y3
          exact y4
  cases hk : K.lookup ad with
  | some o =>
    have e := inK ad o hk
    rw [scr] at e
    cases e
    exact main (fun _ => none) (fun _ => .inl rfl) (.inr ⟨_, us.toArray, _, hk, rfl, rfl, rfl, by rw [List.size_toArray, same]; exact short, by simpa using vals⟩) (fun b u z => by have z' : (none : Option HO) = some u := z; cases z') (fun b z => absurd rfl z) (fun z => absurd rfl z)
  | none =>
    refine main (fun b => if b = ad then some (.frz { cls := .type "list", data := .seq us.toArray } (.lst (zs.map V.int))) else none) (fun b => ?_) (.inl (.inr ⟨{ cls := .type "list", data := .seq us.toArray }, if_pos rfl⟩)) (fun b u z => ?_) (fun b z => ?_) (fun _ => hk)
    · by_cases hb : b = ad
      · exact .inr ⟨_, _, if_pos hb⟩
      · exact .inl (if_neg hb)
    · by_cases hb : b = ad
      · have y := (if_pos hb).symm.trans z
        cases y
        subst hb
        exact ⟨scr, by rw [List.length_map]; exact short, us, _, vals, scr⟩
      · have y := (if_neg hb).symm.trans z
        cases y
    · by_cases hb : b = ad
      · exact hb
      · exact absurd (if_neg hb) z
theorem FnG.imp {P : Program} {w : World} {K : PySem.W.Frag} {mg : Str → Option Value} {base : Heap} {CX : CXT} {k : Nat} {f : Addr} {fd : FuncData} {ps : List Str} {sp sp' : Sp} (F : FnG true P w K mg base CX k f fd ps sp)
    (h : ∀ vs J Q E, sp' vs J Q E → sp vs J Q E) : FnG true P w K mg base CX k f fd ps sp' := ⟨fun vs J Q E q => F.len vs J Q E (h vs J Q E q), fun B out t J ar ws xs R E rm cl en bn va q => F.run B out t J ar ws xs R E rm cl en bn va (h xs J R E q)⟩
end G
namespace G
open PySem L2 PySem.Spec PyProof.Rows
theorem lookup_mem {α β : Type} [BEq α] [LawfulBEq α] {a : α} {b : β} : ∀ {l : List (α × β)}, l.lookup a = some b → (a, b) ∈ l
  | [], h => by simp at h
  | (x, y) :: l, h => by
    simp only [List.lookup] at h
    split at h
    · rename_i e
      have e := eq_of_beq e
      subst e
      cases h
      exact List.mem_cons_self
    · exact List.mem_cons_of_mem _ (lookup_mem h)
section
variable {X : Cx} {C : Cc} {ρ : List Sl} {cls : Cl} {k : Nat}
theorem own_dp {g : Gh} {H : Hp} {m : Hs} {K : PySem.W.Frag} {a : Addr} {vs : List V} {xs : List D} {n : Nat} {p : PyData} (rel : Rel ⟨K, cls⟩ g m H) (hH : H a = some (.lst vs)) (r : RepL K g H vs xs) (h : pyD m n (.fl xs) = some p) : Dp K H (.ref a) p := by
  cases n with
  | zero => simp [pyD] at h
  | succ n =>
    simp only [pyD, Option.map_eq_some_iff] at h
    obtain ⟨ps, e, rfl⟩ := h
    exact .lst (SqL.of hH) (mapO_dp (pyD_dp rel n) e r)
def cmpO (o : Cp) (xs : List D) (t : M D) : M D := bnd t fun y => cmpS o (.fl xs) y
theorem eqP_own {g : Gh} {H : Hp} {m : Hs} {K : PySem.W.Frag} {a : Addr} {vs : List V} {xs : List D} {vy : V} {y : D} {b : Bool} (rel : Rel ⟨K, cls⟩ g m H) (hH : H a = some (.lst vs)) (r : RepL K g H vs xs) (hy : Rep K g H vy y) (h : eqS (.fl xs) y m = some b) : ∃ d e, Dp K H (.ref a) d ∧ Dp K H vy e ∧ SeqAt.shaped d = true ∧ SeqAt.shaped e = true ∧ PyData.eqv d e = b := by
  have h : eqP (.fl xs) y m = some b := h
  unfold eqP at h
  split at h
  · rename_i h1 h2
    cases h
    exact ⟨_, _, own_dp rel hH r h1, pyD_dp rel _ _ _ _ h2 hy, shaped_of h1, shaped_of h2, rfl⟩
  · cases h
theorem eqO_ok {o e2 : Expr} {i : Nat} {xs : List D} {t : M D} {σ : L2.St} {H : Hp} {Q : VK} (hi : ρ[i]? = some (.own xs)) (q : tG ⟨X.K, C.cls⟩ C ρ (rD ⟨X.K, C.cls⟩) (cmpO .eq xs t) σ H Q) : tOp (rEqA X.K) (tVar i) (tE ⟨X.K, C.cls⟩ C ρ t) σ H Q := by
  obtain ⟨g, m, at0, q⟩ := q
  obtain ⟨p, vs, h1, h2, h3, h4, h5⟩ := at0.own hi
  refine ⟨_, h1, g, m, at0, Post.bind q fun g2 H2 m2 v2 x2 p2 t2 rel2 hv2 q2 => ?_⟩
  have q2 : Post ⟨X.K, C.cls⟩ C.W (rD ⟨X.K, C.cls⟩) σ g2 H2 Q (bnd (ask (eqS (.fl xs) x2)) (fun b => ret (.bl b)) m2) := q2
  obtain ⟨b, hb, q2⟩ := Post.ask q2
  obtain ⟨d, e, a1, a2, a3, a4, a5⟩ := eqP_own rel2 (rel2.prv _ _ (p2.pv _ h2)) (h4.mono p2.v t2) hv2 hb
  exact .inr ⟨d, e, a1, a2, a3, a4, by rw [a5]; exact q2.ret rel2 (.bl _)⟩
def lcO (src : M Its) (turn : D → M (Option D)) : M (List D) := bnd src fun z => bnd (lcL z.2 turn z.1 []) ret
theorem lcO_ok {scope : Scope} {ifs : List Expr} {elt : Expr} {own : List Nat} {is : List Nat} {P : Pt} {src : M Its} {turn : D → M (Option D)} {σ : L2.St} {H : Hp} {Q : VK} (hp : ∀ i ∈ is, i ∈ own)
    (ht : ∀ x, Bd1 P (wipeS ρ own) x (turn x) (OkT X C scope ifs elt)) (q : tK ⟨X.K, C.cls⟩ C ρ Sl.own (lcO src turn) σ H Q) :
    tLc (tG ⟨X.K, C.cls⟩ C ρ (ItR ⟨X.K, C.cls⟩) src) (gPat ⟨X.K, C.cls⟩ C is P) (tTx X C scope ifs elt) (tEx X C scope elt) own σ H Q := by
  obtain ⟨g0, m0, at0, q⟩ := q
  refine lc_gen (α := Unit) (fin := ret) hp ht at0 q fun A g m H' vs acc hn0 hn rel2 ra q2 => ?_
  exact q2 _ H' (.ref A) le_addP (TK.refl _) rel2 ⟨A, vs, rfl, List.mem_cons_self, ra.mono le_addP.v (TK.refl _), hn0⟩
theorem s_setLcO {A B : Type} {oa : A → List Sl} {ob : B → List Sl} {rest : List Stmt} {f : List D → M (Fl A B)} {i : Nat} {y : Str} {py : Pos} {elt tg iter : Expr} {ifs : List Expr} {scope : Scope} {own : List (Str × Nat)} {pos spos : Pos} {src : M Its} {turn : D → M (Option D)} {is : List Nat} {P : Pt} (hc : X.calm = true) (hN : X.N.Nodup) (hy : X.N[i]? = some y) (hyl : X.env.scope.names.lookup y = some .local)
    (hsw : swapsWith (.ListComp elt [⟨tg, iter, ifs, 0⟩] scope pos) (some (.Name y py)) spos.line X.env = pure true) (hi : PIc X C ρ tg iter src) (ok : BlkOk X.N X.env.scope scope own)
    (hp : ∀ i ∈ is, i ∈ own.map (·.2))
    (hg : ∀ (s : Shared) (H : Hp) (A : Addr) (cl : List (Str × Addr)) (fp : List Addr), PGc (X.blk s H scope (compEnvC scope cl A X.env) fp) C tg is P) (ht : ∀ x, Bd1 P (wipeS ρ (own.map (·.2))) x (turn x) (OkT X C scope ifs elt)) (hr : ∀ x, PSsc X C (ρ.set i (.own x)) rest oa ob (f x)) (hs : ∀ x, foldedSetIterable iter X.env x = pure x := by intro _; rfl) :
    PSsc X C ρ (.Assign [.Name y py] (.ListComp elt [⟨tg, iter, ifs, 0⟩] scope pos) spos :: rest) oa ob (bnd (lcO src turn) f) := by
  refine pss_imp (pss_cons (ps_setLc (g := gPat ⟨X.K, C.cls⟩ C is P) (tt := tTx X C scope ifs elt) (te := tEx X C scope elt) hc hN hy hyl hsw hi ok hg (fun s H A cl fp => ⟨fun pins t σ H' Q I q => by
    obtain ⟨ρ', c, e, _, h, q⟩ := q
    exact (h s H A cl fp).run pins t σ H' Q I q⟩) (fun s H A cl fp => ⟨fun pins t σ H' Q I q => by
    obtain ⟨ρ', e, h, q⟩ := q
    exact (h s H A cl fp).run pins t σ H' Q I q⟩) hs) (pss_ex hr)) fun De σ H q => ?_
  obtain ⟨g, m, at0, q⟩ := q
  have key : tLc (tG ⟨X.K, C.cls⟩ C ρ (ItR ⟨X.K, C.cls⟩) src) (gPat ⟨X.K, C.cls⟩ C is P) (tTx X C scope ifs elt) (tEx X C scope elt) (own.map (·.2)) σ H (fun v H1 => ∃ x, tS ⟨X.K, C.cls⟩ C oa ob (ρ.set i (.own x)) (f x) De (σ.set i (some v)) H1) := by
    refine lcO_ok hp ht ⟨g, m, at0, PostS.bind at0.le q fun g1 H1 m1 v x p t1 rel1 hv q1 => ?_⟩
    exact ⟨x, g1, m1, At.setK at0 (at0.mono p t1 rel1) hv, q1⟩
  exact key
end
end G
set_option maxHeartbeats 1000000
namespace G
open PySem L2 PySem.Spec PyProof.Rows
def pick {α : Type} (is : List Nat) (l : List α) : List α := is.filterMap fun i => l[i]?
def kwS (f : List D → M D) (n k : Nat) (is : List Nat) (xs zs : List D) : M D := if xs.length = n ∧ zs.length = k then f (pick is (xs ++ zs)) else bad
def calK (f : List D → M D) (n k : Nat) (is : List Nat) (t u : M (List D)) : M D := bnd t fun xs => bnd u fun zs => kwS f n k is xs zs
theorem RepL.pick {K : PySem.W.Frag} {g : Gh} {H : Hp} {vs : List V} {ds : List D} (r : RepL K g H vs ds) : ∀ is : List Nat, RepL K g H (G.pick is vs) (G.pick is ds)
  | [] => .nil
  | i :: is => by
    have ih := RepL.pick r is
    unfold G.pick at ih ⊢
    cases h : ds[i]? with
    | some d =>
      obtain ⟨v, hv, rv⟩ := r.get h
      rw [List.filterMap_cons_some h, List.filterMap_cons_some hv]
      exact .cons rv ih
    | none =>
      have h2 : vs[i]? = none := by
        rw [List.getElem?_eq_none_iff] at h ⊢
        rw [r.length]; exact h
      rw [List.filterMap_cons_none h, List.filterMap_cons_none h2]
      exact ih
section
variable {X : Cx} {C : Cc} {ρ : List Sl} {k : Nat}
end
end G
namespace G
open PySem L2 PySem.Spec PyProof.Rows
section
variable {P : Program} {w : World} {A : Around} {E : Value → Shared → Prop} {s : Shared} {l : Addr} {items : Array Value} {ns : List Int}
end
section
variable {X : Cx}
end
def insU (x : Int) : List Int → List Int
  | [] => [x]
  | y :: r => if x < y then x :: y :: r else if x = y then y :: r else y :: insU x r
def srtU : List Int → List Int
  | [] => []
  | x :: r => insU x (srtU r)
def srtI (xs : List D) : M D := match intsOf xs with
  | some ns => if ns.length < 64 then ret (.fl ((srtU ns).map .int)) else bad
  | none => bad
def srtS : List D → M D
  | [x] => bnd (ask (lstOf x)) srtI
  | _ => bad
section
variable {X : Cx} {cls : Cl}
end
end G
namespace G
open PySem L2 PySem.Spec PyProof.Rows
def mxI : Int → List Int → Int
  | a, [] => a
  | a, b :: r => mxI (if b > a then b else a) r
def mnI : Int → List Int → Int
  | a, [] => a
  | a, b :: r => mnI (if b < a then b else a) r
theorem mxI_ok : ∀ (r : List Int) (a : Int), mxI a r ∈ a :: r ∧ ∀ y, y ∈ a :: r → y ≤ mxI a r
  | [], a => by simp [mxI]
  | b :: r, a => by
    obtain ⟨h1, h2⟩ := mxI_ok r (if b > a then b else a)
    unfold mxI
    have h3 := h2 (if b > a then b else a) (by simp)
    refine ⟨?_, fun y hy => ?_⟩
    · rcases List.mem_cons.1 h1 with h | h
      · rw [h]
        split <;> simp
      · simp [h]
    · simp only [List.mem_cons] at hy
      rcases hy with rfl | rfl | hy
      · have h4 : y ≤ (if b > y then b else y) := by split <;> omega
        omega
      · have h4 : y ≤ (if y > a then y else a) := by split <;> omega
        omega
      · exact h2 y (by simp [hy])
def ext1 (f : Int → List Int → Int) (xs : List D) : M D := match intsOf xs with
  | some (a :: r) => ret (.int (f a r))
  | _ => bad
def maxLS : List D → M D
  | [x] => bnd (ask (lstOf x)) (ext1 mxI)
  | _ => bad
def minLS : List D → M D
  | [x] => bnd (ask (lstOf x)) (ext1 mnI)
  | _ => bad
section
variable {X : Cx} {cls : Cl}
end
end G
namespace G
open PySem L2 PySem.Spec PyProof.Rows
section
variable {P : Program} {w : World} {A : Around} {E : Value → Shared → Prop} {s : Shared} {l : Addr} {its : List Value} {ns : List Int}
end
section
variable {X : Cx} {cls : Cl}
def sumAS : List D → M D
  | [.tup xs] => bnd (opt (sumI xs)) fun k => ret (.int k)
  | zs => sumS zs
end
end G
namespace G
open PySem L2 PyProof.Rows
def Psn : GenState → Prop
  | .suspended k _ _ _ _ _ => ∀ r, ∃ x, k r = .unsupported x
  | _ => False
def retF : Frame → Bool
  | .ret .. => true
  | .gen .. => false
def pln : GenState → Bool
  | .suspended _ _ _ _ fs _ => fs.all retF
  | _ => true
def endP : End → Bool
  | .ret _ => true
  | .susp _ _ _ _ _ _ fs => fs.all retF
theorem no_run {M : Model} {Γ : Ctx} {p : Pos} {s s' : Shared} {e : End} {x : String} {fs : List Frame} : ¬ Runs M Γ p (.unsupported x) fs s e s' := fun h => by
  generalize ht : (Sem.unsupported x : Sem PySem.Fin) = t at h
  induction h <;> first | (cases ht; done) | (rename_i ih _; exact ih ht) | (rename_i ih; exact ih ht) | skip
  all_goals (subst ht; rename_i h1 _ _ _; cases h1)
def un (D : Nat → Option GenState) (gens : Array GenState) : Array GenState := gens.mapIdx fun j y => (D j).getD y
def U (D : Nat → Option GenState) (s : Shared) : Shared := { s with gens := un D s.gens }
theorem un_get {D : Nat → Option GenState} {gens : Array GenState} {j : Nat} : (un D gens)[j]? = (gens[j]?).map fun y => (D j).getD y := by
  unfold un
  rw [Array.getElem?_mapIdx]
theorem un_size {D : Nat → Option GenState} {gens : Array GenState} : (un D gens).size = gens.size := by simp [un]
structure Tb (D : Nat → Option GenState) (gens : Array GenState) : Prop where
  d : ∀ j x, D j = some x → ∃ y, gens[j]? = some y ∧ Psn y ∧ x.seen = y.seen
  p : ∀ (j : Nat) (y : GenState), gens[j]? = some y → Psn y ∨ pln y = true
theorem set_get {a : Array GenState} {g j : Nat} {x : GenState} : (a.setIfInBounds g x)[j]? = if g = j then (a[j]?).map (fun _ => x) else a[j]? := by
  rw [Array.getElem?_setIfInBounds]
  split
  · rename_i e
    subst e
    split
    · rename_i h
      rw [Array.getElem?_eq_getElem h]; rfl
    · rename_i h
      rw [Array.getElem?_eq_none (by omega)]; rfl
  · rfl
theorem Tb.set {D : Nat → Option GenState} {a : Array GenState} {g : Nat} {x : GenState} (h : Tb D a) (hd : D g = none) (hx : pln x = true) : Tb D (a.setIfInBounds g x) := by
  refine ⟨fun j y hj => ?_, fun j y hj => ?_⟩
  · obtain ⟨z, h1, h2⟩ := h.d j y hj
    have hg : g ≠ j := fun e => by rw [e, hj] at hd; cases hd
    exact ⟨z, by rw [set_get, if_neg hg]; exact h1, h2⟩
  · rw [set_get] at hj
    split at hj
    · cases hz : a[j]? with
      | none => rw [hz] at hj; cases hj
      | some w => rw [hz] at hj; cases hj; exact .inr hx
    · exact h.p j y hj
theorem Tb.push {D : Nat → Option GenState} {a : Array GenState} {c : Code} (h : Tb D a) : Tb D (a.push (.fresh c)) ∧ un D (a.push (.fresh c)) = (un D a).push (.fresh c) := by
  have hd : D a.size = none := by
    cases hz : D a.size with
    | none => rfl
    | some x =>
      obtain ⟨y, h1, _⟩ := h.d _ x hz
      rw [Array.getElem?_eq_none (Nat.le_refl _)] at h1
      cases h1
  refine ⟨⟨fun j x hj => ?_, fun j y hj => ?_⟩, ?_⟩
  · obtain ⟨z, h1, h2⟩ := h.d j x hj
    have hl := (Array.getElem?_eq_some_iff.mp h1).1
    exact ⟨z, by rw [Array.getElem?_push, if_neg (by omega)]; exact h1, h2⟩
  · rw [Array.getElem?_push] at hj
    split at hj
    · cases hj; exact .inr rfl
    · exact h.p j y hj
  · apply Array.ext_getElem?
    intro i
    rw [un_get, Array.getElem?_push, Array.getElem?_push, un_get, un_size]
    by_cases e : i = a.size
    · rw [if_pos e, if_pos e, e, hd]; rfl
    · rw [if_neg e, if_neg e]
theorem un_set {D : Nat → Option GenState} {a : Array GenState} {g : Nat} {x : GenState} (hd : D g = none) : un D (a.setIfInBounds g x) = (un D a).setIfInBounds g x := by
  apply Array.ext_getElem?
  intro i
  rw [un_get, set_get, set_get, un_get]
  by_cases e : g = i
  · subst e
    rw [if_pos rfl, if_pos rfl, hd]
    cases a[g]? <;> rfl
  · rw [if_neg e, if_neg e]
theorem U_set {D : Nat → Option GenState} {s : Shared} {g : Nat} {x : GenState} (hd : D g = none) : U D (s.setGen g x) = (U D s).setGen g x := by
  show ({ s with gens := un D (s.gens.setIfInBounds g x) } : Shared) = { s with gens := (un D s.gens).setIfInBounds g x }
  rw [un_set hd]
theorem Tb.no {D : Nat → Option GenState} {a : Array GenState} {g : Nat} {y : GenState} (h : Tb D a) (hg : a[g]? = some y) (hn : ¬ Psn y) : D g = none ∧ (un D a)[g]? = some y := by
  have hd : D g = none := by
    cases hz : D g with
    | none => rfl
    | some x =>
      obtain ⟨z, h1, h2, _⟩ := h.d g x hz
      rw [hg] at h1
      cases h1
      exact absurd h2 hn
  refine ⟨hd, ?_⟩
  rw [un_get, hg, hd]
  rfl
theorem all_app {a b : List Frame} (h1 : a.all retF = true) (h2 : b.all retF = true) : (a ++ b).all retF = true := by
  rw [List.all_append, h1, h2]; rfl
theorem split_none : ∀ {fs : List Frame}, fs.all retF = true → splitAtGen fs = none
  | [], _ => rfl
  | .ret .. :: fs, h => by
    simp only [List.all_cons, retF, Bool.true_and] at h
    simp only [splitAtGen, split_none h, Option.map_none]
  | .gen .. :: _, h => by simp [retF] at h
theorem genState_pln {e : End} (h : endP e = true) : pln e.genState = true := by
  cases e with
  | ret r => rfl
  | susp v g l k c p fs => exact h
theorem no_run' {M : Model} {Γ : Ctx} {p : Pos} {s s' : Shared} {e : End} {t : Sem PySem.Fin} {fs : List Frame} (h : ∃ x, t = .unsupported x) : ¬ Runs M Γ p t fs s e s' := by
  obtain ⟨x, rfl⟩ := h
  exact no_run
theorem Tb.seen {D : Nat → Option GenState} {a : Array GenState} {g : Nat} {st : GenState} (hp : Tb D a) (hg : a[g]? = some st) : ∃ x, (un D a)[g]? = some x ∧ x.seen = st.seen := by
  refine ⟨(D g).getD st, by rw [un_get, hg]; rfl, ?_⟩
  cases hz : D g with
  | none => rfl
  | some x =>
    obtain ⟨y, h1, _, h3⟩ := hp.d g x hz
    rw [hg] at h1
    cases h1
    exact h3
theorem Tb.either {D : Nat → Option GenState} {a : Array GenState} {g : Nat} {y : GenState} (h : Tb D a) (hg : a[g]? = some y) : Psn y ∨ (D g = none ∧ (un D a)[g]? = some y ∧ pln y = true) := by
  by_cases hz : Psn y
  · exact .inl hz
  · exact .inr ⟨(h.no hg hz).1, (h.no hg hz).2, (h.p g y hg).resolve_left hz⟩
theorem newGen_ok {M : Model} {D : Nat → Option GenState} {Γ : Ctx} {p : Pos} {k : Nat → Sem PySem.Fin} {s s' : Shared} {e : End} {c : Code} (hp : Tb D s.gens) (q : Runs M Γ p (k s.gens.size) [] (U D { s with gens := s.gens.push (.fresh c) }) e s') : Runs M Γ p (.newGen c k) [] (U D s) e s' := by
  refine .newGen ?_
  have e1 : (U D s).gens.size = s.gens.size := un_size
  rw [e1]
  have e2 : U D { s with gens := s.gens.push (.fresh c) } = { U D s with gens := (U D s).gens.push (.fresh c) } := by
    show ({ s with gens := un D (s.gens.push (.fresh c)) } : Shared) = { s with gens := (un D s.gens).push (.fresh c) }
    rw [hp.push.2]
  rw [e2] at q
  exact q
theorem runs_asleep {M : Model} {D : Nat → Option GenState} {Γ : Ctx} {p : Pos} {t : Sem PySem.Fin} {fs : List Frame} {s s' : Shared} {e : End} (h : Runs M Γ p t fs s e s') :
    fs.all retF = true → Tb D s.gens → endP e = true ∧ Tb D s'.gens ∧ Runs M Γ p t fs (U D s) e (U D s') := by
  induction h with
  | done => exact fun hf hp => ⟨rfl, hp, .done⟩
  | raise => exact fun hf hp => ⟨rfl, hp, .raise⟩
  | again hq _ ih => exact fun hf hp => ⟨(ih hf hp).1, (ih hf hp).2.1, .again hq (ih hf hp).2.2⟩
  | rule _ ih => exact fun hf hp => ⟨(ih hf hp).1, (ih hf hp).2.1, .rule (ih hf hp).2.2⟩
  | «at» _ ih => exact fun hf hp => ⟨(ih hf hp).1, (ih hf hp).2.1, .at (ih hf hp).2.2⟩
  | load ho _ ih => exact fun hf hp => ⟨(ih hf hp).1, (ih hf hp).2.1, .load ho (ih hf hp).2.2⟩
  | update ho _ ih => exact fun hf hp => ⟨(ih hf hp).1, (ih hf hp).2.1, .update ho (ih hf hp).2.2⟩
  | loadIfAlive _ ih => exact fun hf hp => ⟨(ih hf hp).1, (ih hf hp).2.1, .loadIfAlive (ih hf hp).2.2⟩
  | point _ ih => exact fun hf hp => ⟨(ih hf hp).1, (ih hf hp).2.1, .point (ih hf hp).2.2⟩
  | alloc _ ih => exact fun hf hp => ⟨(ih hf hp).1, (ih hf hp).2.1, .alloc (ih hf hp).2.2⟩
  | fresh _ ih => exact fun hf hp => ⟨(ih hf hp).1, (ih hf hp).2.1, .fresh (ih hf hp).2.2⟩
  | ask _ ih => exact fun hf hp => ⟨(ih hf hp).1, (ih hf hp).2.1, .ask (ih hf hp).2.2⟩
  | choose hn _ ih => exact fun hf hp => ⟨(ih hf hp).1, (ih hf hp).2.1, .choose hn (ih hf hp).2.2⟩
  | os _ ih => exact fun hf hp => ⟨(ih hf hp).1, (ih hf hp).2.1, .os (ih hf hp).2.2⟩
  | handled _ ih => exact fun hf hp => ⟨(ih hf hp).1, (ih hf hp).2.1, .handled (ih hf hp).2.2⟩
  | genState hg _ ih =>
    intro hf hp
    obtain ⟨x, h1, h2⟩ := hp.seen hg
    refine ⟨(ih hf hp).1, (ih hf hp).2.1, .genState h1 ?_⟩
    rw [h2]
    exact (ih hf hp).2.2
  | stack _ ih => exact fun hf hp => ⟨(ih hf hp).1, (ih hf hp).2.1, .stack (ih hf hp).2.2⟩
  | thread _ ih => exact fun hf hp => ⟨(ih hf hp).1, (ih hf hp).2.1, .thread (ih hf hp).2.2⟩
  | newGen _ ih =>
    intro hf hp
    obtain ⟨b1, b2, b3⟩ := ih hf hp.push.1
    exact ⟨b1, b2, newGen_ok hp b3⟩
  | call _ _ ih1 ih2 => exact fun hf hp => ⟨(ih2 hf (ih1 rfl hp).2.1).1, (ih2 hf (ih1 rfl hp).2.1).2.1, .call (ih1 rfl hp).2.2 (ih2 hf (ih1 rfl hp).2.1).2.2⟩
  | callSusp _ ih => exact fun hf hp => ⟨all_app (ih rfl hp).1 rfl, (ih rfl hp).2.1, .callSusp (ih rfl hp).2.2⟩
  | yield => exact fun hf hp => ⟨rfl, hp, .yield⟩
  | resumeFresh hg _ hq _ ih1 ih2 =>
    intro hf hp
    obtain ⟨hd, hu⟩ := hp.no hg (fun h => h)
    obtain ⟨a1, a2, a3⟩ := ih1 rfl (hp.set hd rfl)
    obtain ⟨b1, b2, b3⟩ := ih2 hf (a2.set hd (genState_pln a1))
    rw [U_set hd] at a3 b3
    exact ⟨b1, b2, .resumeFresh hu a3 hq b3⟩
  | resumeSuspended hg h1 hq _ ih1 ih2 =>
    intro hf hp
    rcases hp.either hg with hz | ⟨hd, hu, hfs⟩
    · exact absurd h1 (no_run' (hz _))
    · obtain ⟨a1, a2, a3⟩ := ih1 hfs (hp.set hd rfl)
      obtain ⟨b1, b2, b3⟩ := ih2 hf (a2.set hd (genState_pln a1))
      rw [U_set hd] at a3 b3
      exact ⟨b1, b2, .resumeSuspended hu a3 hq b3⟩
  | resumeJustStarted hg hv _ ih =>
    intro hf hp
    obtain ⟨hd, hu⟩ := hp.no hg (fun h => h)
    exact ⟨(ih hf hp).1, (ih hf hp).2.1, .resumeJustStarted hu hv (ih hf hp).2.2⟩
  | resumeThrowFresh hg _ ih =>
    intro hf hp
    obtain ⟨hd, hu⟩ := hp.no hg (fun h => h)
    obtain ⟨b1, b2, b3⟩ := ih hf (hp.set hd rfl)
    rw [U_set hd] at b3
    exact ⟨b1, b2, .resumeThrowFresh hu b3⟩
  | resumeRunning hg _ ih =>
    intro hf hp
    obtain ⟨hd, hu⟩ := hp.no hg (fun h => h)
    exact ⟨(ih hf hp).1, (ih hf hp).2.1, .resumeRunning hu (ih hf hp).2.2⟩
  | resumeFinished hg _ ih =>
    intro hf hp
    obtain ⟨hd, hu⟩ := hp.no hg (fun h => h)
    exact ⟨(ih hf hp).1, (ih hf hp).2.1, .resumeFinished hu (ih hf hp).2.2⟩
  | segRet _ _ ih1 ih2 =>
    intro hf hp
    simp only [List.all_cons, Bool.and_eq_true] at hf
    obtain ⟨a1, a2, a3⟩ := ih1 rfl hp
    obtain ⟨b1, b2, b3⟩ := ih2 hf.2 a2
    exact ⟨b1, b2, .segRet a3 b3⟩
  | segGen _ _ ih1 ih2 =>
    intro hf hp
    simp [retF] at hf
  | segSuspOut hs _ ih =>
    intro hf hp
    obtain ⟨a1, a2, a3⟩ := ih rfl hp
    exact ⟨all_app a1 hf, a2, .segSuspOut hs a3⟩
  | segSuspGen hs _ hq _ ih1 ih2 =>
    intro hf hp
    rw [split_none hf] at hs
    cases hs
theorem wakes_asleep {M : Model} {D : Nat → Option GenState} {Γ : Ctx} {p : Pos} {g : Nat} {r : Resume} {s s' : Shared} {res : GenResult} (hp : Tb D s.gens) (h : Wakes M Γ p g r s res s') : Tb D s'.gens ∧ Wakes M Γ p g r (U D s) res (U D s') := by
  unfold Wakes at h
  cases hg : s.gens[g]? with
  | none => rw [hg] at h; exact h.elim
  | some y =>
    rw [hg] at h
    rcases hp.either hg with hz | ⟨hd, hu, hfs⟩
    · cases y with
      | suspended k l c p0 fs cl =>
        obtain ⟨e₁, s₁, h1, _⟩ := h
        exact absurd h1 (no_run' (hz _))
      | _ => exact hz.elim
    · have hu' : (U D s).gens[g]? = some y := hu
      unfold Wakes
      rw [hu']
      cases y with
      | fresh c =>
        cases r with
        | send v =>
          by_cases hv : v = .none
          · subst hv
            obtain ⟨e₁, s₁, h1, h2, h3, rfl⟩ := h
            obtain ⟨a1, a2, a3⟩ := runs_asleep h1 rfl (hp.set hd rfl)
            rw [U_set hd] at a3
            exact ⟨a2.set hd (genState_pln a1), e₁, _, a3, h2, h3, U_set hd⟩
          · cases v <;> first | exact absurd rfl hv | (obtain ⟨h1, rfl⟩ := h; exact ⟨hp, h1, rfl⟩)
        | throw x =>
          obtain ⟨h1, rfl⟩ := h
          exact ⟨hp.set hd rfl, h1, U_set hd⟩
      | suspended k l c p0 fs cl =>
        obtain ⟨e₁, s₁, h1, h2, h3, rfl⟩ := h
        obtain ⟨a1, a2, a3⟩ := runs_asleep h1 hfs (hp.set hd rfl)
        rw [U_set hd] at a3
        exact ⟨a2.set hd (genState_pln a1), e₁, _, a3, h2, h3, U_set hd⟩
      | running => obtain ⟨h1, rfl⟩ := h; exact ⟨hp, h1, rfl⟩
      | finished => obtain ⟨h1, rfl⟩ := h; exact ⟨hp, h1, rfl⟩
theorem wp_asleep {α : Type} (M : Model) (Γ : Ctx) (D : Nat → Option GenState) (t : Sem α) : ∀ (Q : α → Pos → Shared → Prop) (E : Value → Pos → Shared → Prop) (p : Pos) (s : Shared), Tb D s.gens → Sem.wp M Γ t Q E p s →
    Sem.wp M Γ t (fun a p' s' => ∃ z, s' = U D z ∧ Tb D z.gens ∧ Q a p' z) (fun e p' s' => ∃ z, s' = U D z ∧ Tb D z.gens ∧ E e p' z) p (U D s) := by
  induction t with
  | pure a => intro Q E p s hn h; exact ⟨s, rfl, hn, h⟩
  | raise e => intro Q E p s hn h; exact ⟨s, rfl, hn, h⟩
  | unsupported _ => intro Q E p s _ h; exact h
  | finish _ => intro Q E p s _ h; exact h
  | rule _ k ih => intro Q E p s hn h; exact ih () Q E p s hn h
  | «at» p' k ih => intro Q E p s hn h; exact ih () Q E p' s hn h
  | load a _ k ih => intro Q E p s hn h; obtain ⟨o, ho, h⟩ := h; exact ⟨o, ho, ih o Q E p s hn h⟩
  | update a _ f k ih => intro Q E p s hn h; exact ⟨h.1, ih () Q E p { s with heap := s.heap.update a f } hn h.2⟩
  | loadIfAlive a k ih => intro Q E p s hn h; exact ih _ Q E p s hn h
  | point _ k ih => intro Q E p s hn h; exact ih () Q E p s hn h
  | register _ _ => intro Q E p s _ h; exact h
  | alloc o k ih => intro Q E p s hn h; exact ih _ Q E p { s with heap := s.heap.push o } hn h
  | fresh k ih => intro Q E p s hn h; exact ih _ Q E p { s with toks := s.toks + 1 } hn h
  | ask k ih => intro Q E p s hn h; exact ih _ Q E p s hn h
  | choose src m k ih => intro Q E p s hn h; exact ⟨h.1, ih _ Q E p { s with drawn := s.drawn.bump src } hn h.2⟩
  | os q _ k ih => intro Q E p s hn h; exact ih _ Q E p { s with os := (Os.step s.os q).1 } hn h
  | call c hd _ _ k ih =>
    intro Q E p s hn h
    obtain ⟨r, s', hr, h⟩ := h
    obtain ⟨_, a2, a3⟩ := runs_asleep hr rfl hn
    exact ⟨r, U D s', a3, ih r Q E p s' a2 h⟩
  | handled own k ih => intro Q E p s hn h; exact ih _ Q E p s hn h
  | genState g k ih =>
    intro Q E p s hn h
    obtain ⟨st, hs, h⟩ := h
    obtain ⟨x, h1, h2⟩ := hn.seen hs
    refine ⟨x, h1, ?_⟩
    rw [h2]
    exact ih _ Q E p s hn h
  | newGen c k ih =>
    intro Q E p s hn h
    have q := ih _ Q E p _ hn.push.1 h
    show Sem.wp M Γ (k (un D s.gens).size) _ _ p _
    rw [un_size]
    have e2 : U D { s with gens := s.gens.push (.fresh c) } = { U D s with gens := (U D s).gens.push (.fresh c) } := by
      show ({ s with gens := un D (s.gens.push (.fresh c)) } : Shared) = { s with gens := (un D s.gens).push (.fresh c) }
      rw [hn.push.2]
    rw [e2] at q
    exact q
  | resume g r _ k ih =>
    intro Q E p s hn h
    obtain ⟨res, s', hw, h⟩ := h
    obtain ⟨a1, a2⟩ := wakes_asleep hn hw
    exact ⟨res, U D s', a2, ih res Q E p s' a1 h⟩
  | yield _ _ _ _ => intro Q E p s _ h; exact h
  | stack k ih => intro Q E p s hn h; exact ih _ Q E p s hn h
  | fork _ _ => intro Q E p s _ h; exact h
  | thread k ih => intro Q E p s hn h; exact ih _ Q E p s hn h
  | await _ _ _ _ _ => intro Q E p s _ h; exact h
theorem wpAny_asleep {α : Type} {M : Model} {A : Around} {D : Nat → Option GenState} {s : Shared} {t : Sem α} {Q : α → Shared → Prop} {E : Value → Shared → Prop} (hn : Tb D s.gens) (h : wpAny M A t Q E s) :
    wpAny M A t (fun a s' => ∃ z, s' = U D z ∧ Tb D z.gens ∧ Q a z) (fun e s' => ∃ z, s' = U D z ∧ Tb D z.gens ∧ E e z) (U D s) :=
  fun Γ p hΓ => wp_asleep M Γ D t _ _ p s hn (h Γ p hΓ)
end G
namespace G
open PySem L2 PyProof.Rows
structure Old (h h' : Heap) : Prop where
  sz : h.objs.size ≤ h'.objs.size
  no : ∀ b, b < h.objs.size → h.get? b = none → h'.get? b = none
theorem Old.refl (h : Heap) : Old h h := ⟨Nat.le_refl _, fun _ _ x => x⟩
theorem Old.trans {a b c : Heap} (x : Old a b) (y : Old b c) : Old a c := ⟨Nat.le_trans x.sz y.sz, fun i hi h => y.no i (Nat.lt_of_lt_of_le hi x.sz) (x.no i hi h)⟩
theorem Old.push (h : Heap) (o : Obj) : Old h (h.push o) := by
  obtain ⟨objs, l⟩ := h
  refine ⟨by show objs.size ≤ (objs.push o).size; rw [Array.size_push]; omega, fun b hb hn => ?_⟩
  have e : (Heap.mk objs l).get? b = ((Heap.mk objs l).push o).get? b := by
    unfold Heap.get?
    show (match objs[b]? with | some ⟨_, _, .freed, _⟩ => none | x => x) = (match (objs.push o)[b]? with | some ⟨_, _, .freed, _⟩ => none | x => x)
    rw [Array.getElem?_push, if_neg (Nat.ne_of_lt hb)]
  rw [← e]
  exact hn
theorem Old.update (h : Heap) (a : Addr) (f : Obj → Obj) (ha : (h.get? a).isSome) : Old h (h.update a f) := by
  refine ⟨?_, fun b hb hn => ?_⟩
  · obtain ⟨objs, l⟩ := h
    show objs.size ≤ (objs.modify a f).size
    rw [Array.size_modify]
    exact Nat.le_refl _
  · have hne : a ≠ b := fun e => by subst e; rw [hn] at ha; cases ha
    rw [Heap.get?_update_other _ _ hne]
    exact hn
section
variable {M : Model} {A : Around} {R : GenEnd} {Y : Protocol} {n : Nat} {s₀ s : Shared} {c : Code} {fs : List Frame} {env : Env} {K : Flow → Sem PySem.Fin} {J : Value → Sem PySem.Fin} {gd : Bool → Bool} {lv : List Value → List Value}
end
section
variable {prog : Program} {w : World} {A : Around} {R : GenEnd} {Y : Protocol} {n : Nat} {s₀ s : Shared} {fs : List Frame} {env : Env} {tg : Expr} {it : Value} {body : List Stmt}
end
end G
namespace G
open PySem L2 PyProof.Rows GenW
structure Gn where
  P : Program
  w : World
  K : PySem.W.Frag
  mg : Str → Option Value
  base : Heap
  N : List Str
  qual : Str
  scope : Scope
  f : Addr
  cd : Value
  A : Around
  outer : List Env
  n0 : Nat
  a : Addr
  o : Obj
  T : Hp
def Gn.env (G : Gn) : Env := envOfC G.qual G.scope G.n0 G.f G.cd
def Gn.X (G : Gn) (r : Shared) (Hw : Hp) (pn : List (Addr × Obj)) : Cx where
  prog := G.P
  w := G.w
  K := G.K
  mg := G.mg
  base := G.base
  A := G.A.deeper G.env
  N := G.N
  s_0 := r
  H_0 := Hw
  env := G.env
  outer := G.outer
  stack := G.env :: G.outer
  ex := []
  calm := true
  fn := fun _ => true
  pn := pn
  xe := fun _ _ => False
def TupAt (h : Heap) (b : Addr) (xs : List V) : Prop := xs.length ≤ sizeLine ∧ ∃ its : List Value, Vals xs its ∧ IsTup h b its.toArray
def TupC (o : Obj) : Prop := o.cls = .type "tuple" ∧ ∃ its n, o.data = .seq its n
theorem TupAt.get {h : Heap} {b : Addr} {xs : List V} (t : TupAt h b xs) : ∃ o, h.get? b = some o ∧ TupC o := by
  obtain ⟨_, its, _, o, h1, h2, n, h3⟩ := t
  exact ⟨o, h1, h2, _, n, h3⟩
theorem TupAt.at {h h' : Heap} {b : Addr} {xs : List V} (t : TupAt h b xs) (e : ∀ o, h.get? b = some o → h'.get? b = some o) : TupAt h' b xs := by
  obtain ⟨z, its, r, o, h1, h2⟩ := t
  exact ⟨z, its, r, o, e o h1, h2⟩
structure Gn.Ok (G : Gn) : Prop where
  t : ∀ b u, G.T b = some u → b < G.n0 ∧ ((∃ xs, u = .tup xs) ∨ ∃ o xs, u = .frz o (.tup xs))
  nc : ∀ x, G.env.kindOf x ≠ some .cell ∧ G.env.kindOf x ≠ some .free
  cs : G.env.cells = []
  fr : ∀ b ∈ frs G.outer, b < G.n0 ∧ G.T b = none
  ga : G.n0 < G.a ∧ ¬ TupC G.o ∧ ∀ v, G.o.data ≠ .cell v
structure Root (G : Gn) (s₀ r : Shared) (Hw : Hp) (pn : List (Addr × Obj)) : Prop where
  rsz : r.heap.objs.size = G.n0
  rh : ∀ b, r.heap.get? b = if b < G.n0 then s₀.heap.get? b else none
  ros : r.os = s₀.os
  hw : ∀ b u, Hw b = some u → (b < G.n0 → G.T b = some u) ∧ (G.n0 ≤ b → noFrz u = true)
  ht : ∀ b u, G.T b = some u → Hw b = some u
  pt : ∀ b o, G.n0 ≤ b → s₀.heap.get? b = some o → TupC o → (b, o) ∈ pn ∨ ∃ xs, Hw b = some (.tup xs)
  pa : (G.a, G.o) ∈ pn
  pk : ∀ p ∈ pn, p = (G.a, G.o) ∨ TupC p.2
  hok : HOk G.P G.w Hw s₀.heap
structure Rn (G : Gn) (s₀ : Shared) (ip : List (Addr × Obj)) (σ : L2.St) (H : Hp) (s : Shared) (r : Shared) (Hw : Hp) (pn : List (Addr × Obj)) : Prop where
  inv : Inv (G.X r Hw pn) ip σ H s
  root : Root G s₀ r Hw pn
  tk : TK Hw H
  ipo : ∀ p ∈ ip, G.n0 ≤ p.1 ∧ ¬ TupC p.2
structure Prm (G : Gn) (s₀ s : Shared) : Prop where
  low : ∀ b o, b < G.n0 → s₀.heap.get? b = some o → b ∉ frs G.outer → s.heap.get? b = some o ∨ ∃ xs, G.T b = some (.tup xs) ∧ TupAt s.heap b xs
  slot : ∀ b o, b ∈ frs G.outer → s₀.heap.get? b = some o → ∃ sl, s.heap.get? b = some { o with slots := sl }
  tup : ∀ b xs, G.n0 ≤ b → TupAt s₀.heap b xs → TupAt s.heap b xs
  own : s.heap.get? G.a = some G.o
  os : s.os = s₀.os
section
variable {G : Gn} {s₀ s r : Shared} {ip : List (Addr × Obj)} {σ : L2.St} {H Hw : Hp} {pn : List (Addr × Obj)}
structure Dmd (G : Gn) (H : Hp) (s₀ s s2 : Shared) : Prop where
  os : s2.os = s.os
  bare : AllBare s2.gens
  tup : ∀ b xs, H b = some (.tup xs) → TupAt s2.heap b xs
  frz : ∀ b o u, G.T b = some (.frz o u) → s2.heap.get? b = some o
  own : ∀ b o, G.n0 ≤ b → s.heap.get? b = some o → ¬ TupC o → (∀ v, o.data ≠ .cell v) → s2.heap.get? b = some o
  base : ∀ b o, G.base.get? b = some o → s2.heap.get? b = some o
  funs : s2.heap.FunFrames G.base G.outer
  old : ∀ b, b < G.n0 → s₀.heap.get? b = none → s.heap.get? b = none
  sz : G.n0 ≤ s2.heap.objs.size
def cutH (h : Heap) (n : Nat) : Heap := ⟨h.objs.extract 0 n, h.life⟩
theorem cutH_get {h : Heap} {n b : Nat} : (cutH h n).get? b = if b < n then h.get? b else none := by
  unfold Heap.get?
  show (match (h.objs.extract 0 n)[b]? with | some ⟨_, _, .freed, _⟩ => none | x => x) = _
  rw [Array.getElem?_extract]
  by_cases hb : b < n
  · rw [if_pos hb]
    by_cases hl : b < h.objs.size
    · rw [if_pos (by omega), Nat.zero_add]
      rfl
    · rw [if_neg (by omega), Array.getElem?_eq_none (by omega)]
  · rw [if_neg hb, if_neg (by omega)]
theorem cutH_size {h : Heap} {n : Nat} (hn : n ≤ h.objs.size) : (cutH h n).objs.size = n := by
  show (h.objs.extract 0 n).size = n
  rw [Array.size_extract]
  omega
theorem cut_funs {h base : Heap} {n : Nat} : ∀ {l : List Env}, h.FunFrames base l → (∀ b ∈ frs l, b < n) → (cutH h n).FunFrames base l
  | [], _, _ => trivial
  | env :: rest, ⟨hk, ⟨L, o, hf, hn, ho, hd⟩, hr⟩, hb => by
    have hm : L ∈ frs (env :: rest) := by
      unfold frs
      rw [List.filterMap_cons, hf]
      exact List.mem_cons_self
    refine ⟨hk, ⟨L, o, hf, hn, by rw [cutH_get, if_pos (hb L hm)]; exact ho, hd⟩, cut_funs hr fun b q => hb b ?_⟩
    unfold frs at q ⊢
    rw [List.filterMap_cons, hf]
    exact List.mem_cons_of_mem _ q
def wkH (n : Nat) (H : Hp) : Hp := fun b => match H b with
  | some (.tup xs) => some (.tup xs)
  | some (.frz o u) => some (.frz o u)
  | some (.lst xs) => if n ≤ b then some (.lst xs) else none
  | _ => none
theorem obj_some {P : Program} {w : World} {H : Hp} {h : Heap} {a : Addr} {o : HO} (x : ObjOk P w H h a o) : ∃ ob, h.get? a = Option.some ob := by
  cases o with
  | lst xs => obtain ⟨_, _, _, _, e⟩ := x; exact ⟨_, e⟩
  | tup xs => obtain ⟨_, _, _, o, e, _⟩ := x; exact ⟨_, e⟩
  | dK kvs => obtain ⟨_, _, _, _, o, _, _, e, _⟩ := x; exact ⟨_, e⟩
  | dT kvs => obtain ⟨_, _, _, _, o, _, _, e, _⟩ := x; exact ⟨_, e⟩
  | set S n => obtain ⟨o, _, _, _, e, _⟩ := x; exact ⟨_, e⟩
  | ins C dx fs => obtain ⟨_, _, _, e, _⟩ := x; exact ⟨_, e⟩
  | own y => obtain ⟨_, e⟩ := x; exact ⟨_, e⟩
  | xd fs => obtain ⟨_, ⟨_, _, _, e, _⟩, _⟩ := x; exact ⟨_, e⟩
  | rng lo hi => obtain ⟨_, _, _, e⟩ := x; exact ⟨_, e⟩
  | frz ob u => obtain ⟨e, _⟩ := x; exact ⟨_, e⟩
  | tbl ps => exact ⟨_, x⟩
  | met f y => exact ⟨_, x⟩
  | ext φ => obtain ⟨_, e, _⟩ := x; exact e
theorem wkH_tup {n : Nat} {H : Hp} {b : Addr} {xs : List V} (h : H b = some (.tup xs)) : wkH n H b = some (.tup xs) := by unfold wkH; rw [h]
theorem wkH_frz {n : Nat} {H : Hp} {b : Addr} {o : Obj} {u : HO} (h : H b = some (.frz o u)) : wkH n H b = some (.frz o u) := by unfold wkH; rw [h]
theorem wkH_of {n : Nat} {H : Hp} {b : Addr} {u : HO} (h : wkH n H b = some u) : H b = some u ∧ ((∃ xs, u = .tup xs) ∨ (∃ o v, u = .frz o v) ∨ ((∃ xs, u = .lst xs) ∧ n ≤ b)) := by
  unfold wkH at h
  split at h
  · rename_i xs e; cases h; exact ⟨e, .inl ⟨_, rfl⟩⟩
  · rename_i o v e; cases h; exact ⟨e, .inr (.inl ⟨_, _, rfl⟩)⟩
  · rename_i xs e
    split at h
    · cases h; exact ⟨e, .inr (.inr ⟨⟨_, rfl⟩, by assumption⟩)⟩
    · cases h
  · cases h
theorem wkH_none {n : Nat} {H : Hp} {b : Addr} (h : H b = none) : wkH n H b = none := by unfold wkH; rw [h]
theorem wkH_tk {n : Nat} {H : Hp} : TK H (wkH n H) := ⟨fun a xs h => wkH_tup h, fun a o u h => wkH_frz h, fun a o u h => (wkH_of h).1⟩
theorem Rn.low (R : Rn G s₀ ip σ H s r Hw pn) (ok : G.Ok) (old : ∀ b, b < G.n0 → s₀.heap.get? b = none → s.heap.get? b = none) {b : Addr} {u : HO} (hb : b < G.n0) (h : H b = some u) : Hw b = some u ∧ G.T b = some u := by
  have un := R.inv.base
  have hs : s.heap.get? b ≠ none := fun z => by
    have := (R.inv.hok b u h)
    cases hz : s.heap.get? b with
    | none => exact absurd z (by obtain ⟨o, e⟩ := obj_some this; rw [e]; simp)
    | some o => rw [hz] at z; cases z
  cases h0 : s₀.heap.get? b with
  | none => exact absurd (old b hb h0) hs
  | some o =>
    have hr : r.heap.get? b = some o := by rw [R.root.rh, if_pos hb]; exact h0
    cases hz : Hw b with
    | none =>
      have := un.free b o hr hz (fun z => by simp [Gn.X] at z)
      rw [h] at this
      cases this
    | some v =>
      have ht := (R.root.hw b v hz).1 hb
      rcases (ok.t b v ht).2 with ⟨xs, rfl⟩ | ⟨ob, xs, rfl⟩
      · have := un.tups b xs hz
        rw [h] at this
        cases this
        exact ⟨rfl, ht⟩
      · have := un.frzs b ob _ hz
        rw [h] at this
        cases this
        exact ⟨rfl, ht⟩
def isTC (o : Obj) : Bool := match o.data with
  | .seq _ _ => decide (o.cls = .type "tuple")
  | _ => false
theorem isTC_iff {o : Obj} : isTC o = true ↔ TupC o := by
  unfold isTC TupC
  constructor
  · intro h
    split at h
    · rename_i its n e
      exact ⟨by simpa using h, its, n, e⟩
    · cases h
  · rintro ⟨h1, its, n, h2⟩
    rw [h2]
    simpa using h1
def tupsOf (n : Nat) (H : Hp) (h : Heap) : List (Addr × Obj) := (List.range h.objs.size).filterMap fun b => match h.get? b with
  | some o => if n ≤ b ∧ isTC o = true ∧ (H b).isNone then some (b, o) else none
  | none => none
theorem tupsOf_mem {n : Nat} {H : Hp} {h : Heap} {b : Addr} {o : Obj} : (b, o) ∈ tupsOf n H h ↔ h.get? b = some o ∧ n ≤ b ∧ TupC o ∧ H b = none := by
  unfold tupsOf
  rw [List.mem_filterMap]
  constructor
  · rintro ⟨c, _, hc⟩
    cases hz : h.get? c with
    | none => rw [hz] at hc; cases hc
    | some o' =>
      rw [hz] at hc
      simp only at hc
      split at hc
      · rename_i hh
        cases hc
        exact ⟨hz, hh.1, isTC_iff.1 hh.2.1, by simpa using hh.2.2⟩
      · cases hc
  · rintro ⟨h1, h2, h3, h4⟩
    refine ⟨b, List.mem_range.2 (Heap.lt_size h1), ?_⟩
    rw [h1]
    simp [h2, isTC_iff.2 h3, h4]
theorem Rn.wake (R : Rn G s₀ ip σ H s r Hw pn) (ok : G.Ok) {s2 : Shared} (d : Dmd G H s₀ s s2) : ∃ r2 pn2, Rn G s2 ip σ (wkH G.n0 H) s2 r2 (wkH G.n0 H) pn2 := by
  obtain ⟨I, root, tk, ipo⟩ := R
  have R : Rn G s₀ ip σ H s r Hw pn := ⟨I, root, tk, ipo⟩
  have nf : ∀ b o u, G.n0 ≤ b → H b ≠ some (.frz o u) := fun b o u hb h => by
    have := (root.hw b _ (tk.nof b o u h)).2 hb
    cases this
  have hok2 : HOk G.P G.w (wkH G.n0 H) s2.heap := fun b u h => by
    obtain ⟨h1, h2⟩ := wkH_of h
    rcases h2 with ⟨xs, rfl⟩ | ⟨o, v, rfl⟩ | ⟨⟨xs, rfl⟩, hb⟩
    · exact d.tup b xs h1
    · have hb : b < G.n0 := by
        rcases Nat.lt_or_ge b G.n0 with z | z
        · exact z
        · exact absurd h1 (nf b o v z)
      have ht := (R.low ok d.old hb h1).2
      have e2 := d.frz b o v ht
      refine ⟨e2, ?_⟩
      rcases (ok.t b _ ht).2 with ⟨xs, e⟩ | ⟨ob, xs, e⟩
      · cases e
      · cases e
        obtain ⟨e1, q⟩ := I.hok b _ h1
        exact TupAt.at (h := s.heap) q fun o' e => by rw [e1] at e; cases e; exact e2
    · obtain ⟨z, its, n, rv, e⟩ := I.hok b _ h1
      exact ⟨z, its, n, rv, d.own b _ hb e (fun q => absurd q.1 (by simp)) fun v q => by cases q⟩
  obtain ⟨m, hn, hl⟩ := I.loc
  have hn2 : s2.heap.Ns G.env.locals m := by
    obtain ⟨o, es, ep, h1, h2, h3⟩ := hn
    exact ⟨o, es, ep, d.own _ o (Nat.le_refl _) h1 (fun q => by obtain ⟨_, _, _, q⟩ := q; rw [h2] at q; cases q) (fun v q => by rw [h2] at q; cases q), h2, h3⟩
  have bz : G.base.objs.size ≤ G.n0 := by
    have := I.ok.bsz
    have e : (G.X r Hw pn).s_0.heap.objs.size = G.n0 := root.rsz
    rw [e] at this
    exact this
  have bT : ∀ b o, G.base.get? b = some o → wkH G.n0 H b = none := fun b o e => by
    have hb : b < G.n0 := Nat.lt_of_lt_of_le (Heap.lt_size e) bz
    refine wkH_none ?_
    cases hz : H b with
    | none => rfl
    | some u =>
      have h1 := (R.low ok d.old hb hz).1
      have h2 := (I.ok.bs b o e).2
      have h2 : Hw b = none := h2
      rw [h1] at h2
      cases h2
  have fsT : ∀ b, b ∈ frs G.outer → wkH G.n0 H b = none := fun b hb => by
    refine wkH_none ?_
    cases hz : H b with
    | none => rfl
    | some u =>
      have := (R.low ok d.old (ok.fr b hb).1 hz).2
      rw [(ok.fr b hb).2] at this
      cases this
  have okX : (G.X { s2 with heap := cutH s2.heap G.n0 } (wkH G.n0 H) ((G.a, G.o) :: tupsOf G.n0 (wkH G.n0 H) s2.heap)).Ok := {
    mod := I.ok.mod, kind := I.ok.kind, glob := I.ok.glob, blt := I.ok.blt,
    above := by
      show (cutH s2.heap G.n0).objs.size ≤ _
      rw [cutH_size d.sz]
      exact Nat.le_refl _
    inj := I.ok.inj, has := I.ok.has,
    cab := fun x c _ h => by
      have h : G.env.cells.lookup x = some c := h
      rw [ok.cs] at h
      cases h
    hd := I.ok.hd, frames := I.ok.frames, stk := I.ok.stk,
    exf := fun b hb => by cases hb
    bs := fun b o e => ⟨by
      show (cutH s2.heap G.n0).get? b = some o
      rw [cutH_get, if_pos (Nat.lt_of_lt_of_le (Heap.lt_size e) bz)]
      exact d.base b o e, bT b o e⟩
    bsz := by
      show G.base.objs.size ≤ (cutH s2.heap G.n0).objs.size
      rw [cutH_size d.sz]
      exact bz
    noex := fun b o _ hb => by cases hb
    exfs := fun b hb => by cases hb
    funs := cut_funs d.funs fun b hb => (ok.fr b hb).1
    frf := fsT }
  have cut : ∀ {b : Addr} {o : Obj}, (cutH s2.heap G.n0).get? b = some o → s2.heap.get? b = some o ∧ b < G.n0 := fun {b o} e => by
    rw [cutH_get] at e
    split at e
    · exact ⟨e, by assumption⟩
    · cases e
  have pins : ∀ p ∈ ((G.a, G.o) :: tupsOf G.n0 (wkH G.n0 H) s2.heap) ++ ip, s2.heap.get? p.1 = some p.2 ∧ wkH G.n0 H p.1 = none ∧ p.1 ≠ G.env.locals ∧ p.1 ∉ frs G.outer ∧ ∀ v, p.2.data ≠ .cell v := fun p hp => by
    rcases List.mem_append.mp hp with hp | hp
    · rcases List.mem_cons.mp hp with rfl | hp
      · obtain ⟨h1, h2, h3, h4, h5⟩ := I.pin (G.a, G.o) (List.mem_append_left _ root.pa)
        exact ⟨d.own _ _ (Nat.le_of_lt ok.ga.1) h1 ok.ga.2.1 ok.ga.2.2, wkH_none h2, h3, h4, h5⟩
      · obtain ⟨b, o⟩ := p
        obtain ⟨h1, h2, ⟨_, its, n, h3⟩, h4⟩ := tupsOf_mem.1 hp
        refine ⟨h1, h4, fun e => ?_, fun hf => ?_, fun v q => ?_⟩
        · obtain ⟨o', es, ep, q1, q2, _⟩ := hn2
          have e : b = G.env.locals := e
          rw [← e, h1] at q1
          cases q1
          rw [h3] at q2
          cases q2
        · exact absurd (ok.fr b hf).1 (Nat.not_lt.2 h2)
        · have q : o.data = .cell v := q
          rw [h3] at q
          cases q
    · obtain ⟨h1, h2, h3, h4, h5⟩ := I.pin p (List.mem_append_right _ hp)
      exact ⟨d.own _ _ (ipo p hp).1 h1 (ipo p hp).2 h5, wkH_none h2, h3, h4, h5⟩
  refine ⟨{ s2 with heap := cutH s2.heap G.n0 }, (G.a, G.o) :: tupsOf G.n0 (wkH G.n0 H) s2.heap, ?_, ?_, TK.refl _, ipo⟩
  · exact {
      ok := okX, os := rfl, bare := d.bare,
      base := {
        keep := fun b o e _ _ _ => (cut e).1
        slot := fun b o e _ _ _ => ⟨o.slots, (cut e).1⟩
        free := fun b o e h _ => h
        there := fun b o e _ => ⟨o, (cut e).1⟩
        tups := fun b xs h => h
        frzs := fun b o u h => h
        tbls := fun b ps h => ⟨#[], by
          have h : wkH G.n0 H b = some (.tbl ps) := h
          rw [h]
          simp⟩ }
      loc := ⟨m, hn2, fun i x v h1 h2 h3 => by
        obtain ⟨u, q1, q2⟩ := hl i x v h1 h2 h3
        refine ⟨u, q1, ?_⟩
        rcases q2 with q2 | ⟨q2, _⟩
        · exact .inl q2
        · rcases q2 with q2 | q2
          · exact absurd q2 (ok.nc x).1
          · exact absurd q2 (ok.nc x).2⟩
      cell := fun x c h => by
        have h : G.env.cells.lookup x = some c := h
        rw [ok.cs] at h
        cases h
      free := wkH_none I.free
      freeC := fun x c h => by
        have h : G.env.cells.lookup x = some c := h
        rw [ok.cs] at h
        cases h
      pin := pins
      hok := hok2
      len := I.len }
  · exact {
      rsz := cutH_size d.sz
      rh := fun b => cutH_get
      ros := rfl
      hw := fun b u h => ⟨fun hb => (R.low ok d.old hb (wkH_of h).1).2, fun hb => by
        rcases (wkH_of h).2 with ⟨xs, rfl⟩ | ⟨o, v, rfl⟩ | ⟨⟨xs, rfl⟩, _⟩
        · rfl
        · exact absurd (wkH_of h).1 (nf b o v hb)
        · rfl⟩
      ht := fun b u h => by
        have h1 := root.ht b u h
        rcases (ok.t b u h).2 with ⟨xs, rfl⟩ | ⟨ob, xs, rfl⟩
        · exact wkH_tup (tk.tup b xs h1)
        · exact wkH_frz (tk.frz b ob _ h1)
      pt := fun b o hb ho hc => by
        cases hz : wkH G.n0 H b with
        | none => exact .inl (List.mem_cons_of_mem _ (tupsOf_mem.2 ⟨ho, hb, hc, hz⟩))
        | some u =>
          rcases (wkH_of hz).2 with ⟨xs, rfl⟩ | ⟨o', v, rfl⟩ | ⟨⟨xs, rfl⟩, _⟩
          · exact .inr ⟨xs, rfl⟩
          · exact absurd (wkH_of hz).1 (nf b o' v hb)
          · obtain ⟨_, _, _, _, e⟩ := hok2 b _ hz
            rw [ho] at e
            cases e
            exact absurd hc.1 (by simp)
      pa := List.mem_cons_self
      pk := fun p hp => (List.mem_cons.mp hp).imp_right fun q => ((tupsOf_mem (b := p.1) (o := p.2)).1 q).2.2.1
      hok := hok2 }
end
end G
namespace G
open PySem L2 PyProof.Rows GenW
mutual
def pureD : D → Bool
  | .tup xs => pureL xs
  | .non | .bl _ | .int _ | .str _ => true
  | _ => false
def pureL : List D → Bool
  | [] => true
  | x :: xs => pureD x && pureL xs
end
def big : Nat := 100000
def Yp (G : Gn) (L : List D) : Protocol := fun n s₀ v s kap =>
  ∃ ip σ H r Hw pn x d g i, Rn G s₀ ip σ H s r Hw pn ∧ L2.RelV x v ∧ Rep G.K g H x d ∧ pureD d = true ∧ L[i]? = some d ∧ n + 1 + i = big ∧ ∀ s2, Dmd G H s₀ s s2 → kap (.send .none) s2 ∧ kap (.send (.bool true)) s2
def Rp (G : Gn) (L : List D) : GenEnd := fun n s₀ res s =>
  ((res = .ok (.ret .none) ∨ res = .ok .next) ∧ (n + L.length = big ∧ ∃ ip σ H r Hw pn, Rn G s₀ ip σ H s r Hw pn)) ∨ ∃ e, res = .error e ∧ False
structure Gc (G : Gn) (c : Code) (fs : List Frame) (gd : Bool → Bool) : Prop where
  over : G.A.over c fs = G.A.deeper G.env
  split : splitAtGen fs = none
  guard : fs.any Frame.guarded = false
  gd : gd false = false
theorem Gc.loop {G : Gn} {c c' : Code} {fs : List Frame} {gd : Bool → Bool} {k : Result → Sem PySem.Fin} {l kp : List Value} {p : Pos} (g : Gc G c fs gd) (hw : c'.weight = 0) (hu : c'.cUnits = 0) : Gc G c' (.ret k none (gd false) l c p kp :: fs) id where
  over := (over_loop hw hu).trans g.over
  split := by
    show (splitAtGen fs).map _ = none
    rw [g.split]
    rfl
  guard := by
    show (gd false || fs.any Frame.guarded) = false
    rw [g.gd, g.guard]
    rfl
  gd := rfl
def G0 : Gh := ⟨[], [], []⟩
def C0 (cls : Cl) : Cc := ⟨cls.noT, WF, G0, H00⟩
section
variable (G : Gn) (cls : Cl)
structure GJ {A : Type} (ρ : List Sl) (sts : List Stmt) (acc : List D) (oa : A → List Sl) (oo : A → List D) (t : M (Fl A Empty)) : Prop where
  mono : ∀ a m m', t m = .ok (.nx a) m' → acc <+: oo a
  run : ∀ (L : List D) (a : A) (m m' : Hs), t m = .ok (.nx a) m' → oo a <+: L → L.length < big →
    ∀ (n : Nat) (s₀ : Shared) (c : Code) (fs : List Frame) (K : Flow → Sem PySem.Fin) (J : Value → Sem PySem.Fin) (gd : Bool → Bool) (lv : List Value → List Value) (s : Shared) (ip : List (Addr × Obj)) (σ : L2.St) (H : Hp) (g : Gh) (r : Shared) (Hw : Hp) (pn : List (Addr × Obj)),
      Gc G c fs gd → n + acc.length = big → Rn G s₀ ip σ H s r Hw pn → At ⟨G.K, cls.noT⟩ (C0 cls) ρ σ H g m →
      (∀ (n' : Nat) (s₀' s' : Shared) (σ' : L2.St) (H' : Hp) (g' : Gh) (r' : Shared) (Hw' : Hp) (pn' : List (Addr × Obj)), n' + (oo a).length = big → Rn G s₀' ip σ' H' s' r' Hw' pn' → At ⟨G.K, cls.noT⟩ (C0 cls) (oa a) σ' H' g' m' → Lv0 g g' → TK H H' →
        Seg (model G.P G.w) G.A (Rp G L) (Yp G L) n' s₀' c (K .next) fs s') →
      Seg (model G.P G.w) G.A (Rp G L) (Yp G L) n s₀ c ((execs sts G.env).wrap K J gd lv) fs s
end
section
variable {G : Gn} {cls : Cl} {A A1 : Type} {ρ : List Sl} {rest : List Stmt} {acc : List D} {oa : A → List Sl} {oo : A → List D}
theorem At.wake {σ : L2.St} {H Hw : Hp} {g : Gh} {s₀ s r : Shared} {ip pn : List (Addr × Obj)} (R : Rn G s₀ ip σ H s r Hw pn) (ok : G.Ok) (old : ∀ b, b < G.n0 → s₀.heap.get? b = none → s.heap.get? b = none) (a : At ⟨G.K, cls.noT⟩ (C0 cls) ρ σ H g []) : At ⟨G.K, cls.noT⟩ (C0 cls) ρ σ (wkH G.n0 H) g [] := by
  have key : ∀ p : Addr × HO, H p.1 = some p.2 → isL false p.2 = true → wkH G.n0 H p.1 = some p.2 := fun p h hl => by
    obtain ⟨b, u⟩ := p
    cases u with
    | lst xs =>
      have h : H b = some (.lst xs) := h
      have hb : G.n0 ≤ b := by
        rcases Nat.lt_or_ge b G.n0 with z | z
        · have ht := (R.low ok old z h).2
          rcases (ok.t b _ ht).2 with ⟨ys, e⟩ | ⟨o, ys, e⟩ <;> cases e
        · exact z
      show wkH G.n0 H b = _
      unfold wkH
      rw [h]
      simp only
      rw [if_pos hb]
    | _ => cases hl
  have rl := a.rel
  exact ⟨a.le, ⟨rl.len, rl.inj, fun n o b h => by simp at h, fun b o h => key (b, o) (rl.frz b o h) (rl.lf _ h), fun b o h => key (b, o) (rl.prv b o h) (rl.lp _ h), rl.hf, rl.hp, rl.pf, rl.lf, rl.lp, fun b ob u h => rl.ff b ob u (wkH_of h).1, fun p hp => absurd hp (by show p ∉ ([] : List (Addr × Str)); simp)⟩, a.rs.mono (Le.refl g) wkH_tk, TW.nil⟩
end
end G
namespace G
open PySem L2 PyProof.Rows GenW
def PIE2 (X : Cx) (pins : List (Addr × Obj)) (σ : L2.St) (tg : Expr) (R : It → Hp → Prop) (itv : Value) (s2 : Shared) : Prop :=
  ∃ (it : Addr) (fp : List Addr) (tn : Nat → Heap → Prop) (J : It) (H' : Hp), itv = .ref it ∧ Inv X pins σ H' s2 ∧ Turn X.prog X.w X.K tg J fp it tn ∧ tn 0 s2.heap ∧ (∀ b ∈ fp, FpOk X pins H' b) ∧ R J H' ∧ ∀ i h, tn i h → ∀ b ∈ fp, ∀ o, h.get? b = some o → ¬ TupC o
structure PI2 (X : Cx) (tg iter : Expr) (wi : TI) : Prop where
  go : ∀ (pins : List (Addr × Obj)) (s : Shared) (σ : L2.St) (H : Hp) (R : It → Hp → Prop), Inv X pins σ H s → wi σ H R →
    wpAny (model X.prog X.w) X.A (eval iter X.env) (fun v s1 => wpAny (model X.prog X.w) X.A (pyIter v) (PIE2 X pins σ tg R) X.xe s1) X.xe s
end G
namespace G
open PySem L2 PyProof.Rows GenW
section
variable {A : Type}
end
section
variable {G : Gn} {cls : Cl} {A A1 : Type} {ρ : List Sl} {rest : List Stmt} {acc : List D} {oa : A → List Sl} {oo : A → List D}
end
end G
namespace G
open PySem L2 PyProof.Rows GenW
def tpO : Option HO → Option HO
  | some (.tup xs) => some (.tup xs)
  | some (.frz o (.tup xs)) => some (.frz o (.tup xs))
  | _ => none
def tpH (H : Hp) : Hp := fun b => tpO (H b)
theorem tpH_tup {H : Hp} {b : Addr} {xs : List V} (h : H b = some (.tup xs)) : tpH H b = some (.tup xs) := by unfold tpH; rw [h]; rfl
theorem tpH_frz {H : Hp} {b : Addr} {o : Obj} {xs : List V} (h : H b = some (.frz o (.tup xs))) : tpH H b = some (.frz o (.tup xs)) := by unfold tpH; rw [h]; rfl
theorem sq_tp {K : PySem.W.Frag} {H H' : Hp} {a : Addr} {xs : List V} (k : ∀ b u, tpH H b = some u → H' b = some u) (h : SqT K H a xs) : SqT K H' a xs := by
  rcases h with (h | ⟨o, h⟩) | h
  · exact .inl (.inl (k _ _ (tpH_tup h)))
  · exact .inl (.inr ⟨o, k _ _ (tpH_frz h)⟩)
  · exact .inr h
mutual
theorem rep_pure {K : PySem.W.Frag} {g g' : Gh} {H H' : Hp} (k : ∀ b u, tpH H b = some u → H' b = some u) : ∀ {v : V} {d : D}, Rep K g H v d → pureD d = true → Rep K g' H' v d
  | _, _, .non, _ => .non
  | _, _, .bl b, _ => .bl b
  | _, _, .int i, _ => .int i
  | _, _, .str x, _ => .str x
  | _, _, .tup h r, p => .tup (sq_tp k h) (repL_pure k r (by simpa only [pureD] using p))
  | _, _, .fl _ _, p => by simp [pureD] at p
  | _, _, .sc _ _, p => by simp [pureD] at p
  | _, _, .fd _ _, p => by simp [pureD] at p
  | _, _, .kt _ _, p => by simp [pureD] at p
  | _, _, .ref _, p => by simp [pureD] at p
theorem repL_pure {K : PySem.W.Frag} {g g' : Gh} {H H' : Hp} (k : ∀ b u, tpH H b = some u → H' b = some u) : ∀ {vs : List V} {ds : List D}, RepL K g H vs ds → pureL ds = true → RepL K g' H' vs ds
  | _, _, .nil, _ => .nil
  | _, _, .cons r s, p => by
    simp only [pureL, Bool.and_eq_true] at p
    exact .cons (rep_pure k r p.1) (repL_pure k s p.2)
end
end G
namespace G
open PySem L2 PyProof.Rows GenW
section
variable {P : Program} {w : World} {K : PySem.W.Frag} {mg : Str → Option Value} {base : Heap} {cls : Cl} {k n : Nat}
end
structure Con (X : Cx) (pins : List (Addr × Obj)) (n0 : Nat) (T : Hp) : Prop where
  tp : tpH T = T
  lt : ∀ b u, T b = some u → b < n0
  loc : X.env.locals < n0
  cel : ∀ x c, X.env.cells.lookup x = some c → c < n0
  pin : ∀ p ∈ X.pn ++ pins, p.1 < n0
  s0 : X.s_0.heap.objs.size ≤ n0
section
variable {X : Cx} {pins : List (Addr × Obj)} {N : List Str} {qual : Str} {scope : Scope} {f : Addr} {cd : Value} {n0 a : Nat} {o : Obj} {T H Hg Hw : Hp} {σ σg : L2.St} {s₀ s₁ r : Shared} {ip pn : List (Addr × Obj)}
end
end G
namespace G
open PySem L2 PyProof.Rows GenW
def pz : GenState → GenState
  | .suspended _ l c p fs cl => .suspended (fun _ => .unsupported "asleep") l c p fs cl
  | x => x
def dOf (gens : Array GenState) (j : Nat) : Option GenState := match gens[j]? with
  | some (.suspended k l c p fs cl) => some (.suspended k l c p fs cl)
  | _ => none
def pzS (s : Shared) : Shared := { s with gens := s.gens.map pz }
theorem pz_seen (x : GenState) : (pz x).seen = x.seen := by cases x <;> rfl
theorem tb_pz (s : Shared) : Tb (dOf s.gens) (pzS s).gens := by
  refine ⟨fun j x h => ?_, fun j y h => ?_⟩
  · unfold dOf at h
    split at h
    · rename_i k l c p fs cl e
      cases h
      refine ⟨pz (.suspended k l c p fs cl), ?_, fun r => ⟨_, rfl⟩, (pz_seen _).symm⟩
      show (s.gens.map pz)[j]? = _
      rw [Array.getElem?_map, e]
      rfl
    · cases h
  · have h : (s.gens.map pz)[j]? = some y := h
    rw [Array.getElem?_map] at h
    cases hz : s.gens[j]? with
    | none => rw [hz] at h; cases h
    | some x =>
      rw [hz] at h
      cases h
      cases x with
      | suspended k l c p fs cl => exact .inl fun r => ⟨_, rfl⟩
      | _ => exact .inr rfl
theorem U_pz (s : Shared) : U (dOf s.gens) (pzS s) = s := by
  show ({ s with gens := un (dOf s.gens) (s.gens.map pz) } : Shared) = s
  have e : un (dOf s.gens) (s.gens.map pz) = s.gens := by
    apply Array.ext_getElem?
    intro j
    rw [un_get, Array.getElem?_map]
    unfold dOf
    cases hz : s.gens[j]? with
    | none => rfl
    | some x => cases x <;> rfl
  rw [e]
theorem asleep {α : Type} {M : Model} {A : Around} {s : Shared} {t : Sem α} {Q : α → Shared → Prop} (h : wpAny M A t Q (fun _ _ => False) (pzS s)) {E : Value → Shared → Prop} :
    wpAny M A t (fun a s' => ∃ z, s' = U (dOf s.gens) z ∧ Tb (dOf s.gens) z.gens ∧ Q a z) E s := by
  have := wpAny_asleep (tb_pz s) h
  rw [U_pz] at this
  exact wpAny_mono this (fun a s' q => q) fun e s' q => by
    obtain ⟨_, _, _, q⟩ := q
    exact q.elim
def Cx.no (X : Cx) : Cx := { X with xe := fun _ _ => False }
theorem Inv.no {X : Cx} {pins : List (Addr × Obj)} {σ : L2.St} {H : Hp} {s : Shared} (I : Inv X pins σ H s) : Inv (Cx.no X) pins σ H s :=
  ⟨⟨I.ok.mod, I.ok.kind, I.ok.glob, I.ok.blt, I.ok.above, I.ok.inj, I.ok.has, I.ok.cab, I.ok.hd, I.ok.frames, I.ok.stk, I.ok.exf, I.ok.bs, I.ok.bsz, I.ok.noex, I.ok.exfs, I.ok.funs, I.ok.frf⟩, I.os, I.bare, I.base, I.loc, I.cell, I.free, I.freeC, I.pin, I.hok, I.len⟩
theorem Inv.gens {X : Cx} {pins : List (Addr × Obj)} {σ : L2.St} {H : Hp} {s s' : Shared} (I : Inv X pins σ H s) (hh : s'.heap = s.heap) (ho : s'.os = s.os) (hg : AllBare s'.gens) : Inv X pins σ H s' := by
  refine ⟨I.ok, ho.trans I.os, hg, by rw [hh]; exact I.base, ?_, fun x c h => by rw [hh]; exact I.cell x c h, I.free, I.freeC, fun p hp => by rw [hh]; exact I.pin p hp, by rw [hh]; exact I.hok, I.len⟩
  rw [hh]
  exact I.loc
section
variable {A B : Type}
end
end G
namespace G
open PySem L2 PyProof.Rows GenW
section
variable {P : Program} {w : World} {K : PySem.W.Frag} {mg : Str → Option Value} {base : Heap} {cls : Cl} {k n : Nat}
variable {x qual : Str} {st : Stmt} {f : Addr} {fd : FuncData} {N : List Str} {p1 p2 : Str}
end
end G
namespace G
open PySem L2 PySem.Spec PyProof.Rows
def starM (t : M D) (u : M (List D)) : M (List D) := bnd t fun x => bnd (ask (itemsOf x)) fun xs => bnd u fun ys => ret (xs ++ ys)
def consM (t : M D) (u : M (List D)) : M (List D) := bnd t fun x => bnd u fun ys => ret (x :: ys)
def rngOk (i j : Int) : Prop := -(2 ^ 62) ≤ i ∧ i < 2 ^ 62 ∧ -(2 ^ 62) ≤ j ∧ j < 2 ^ 62 ∧ (j - i).toNat ≤ 16777216
instance {i j : Int} : Decidable (rngOk i j) := inferInstanceAs (Decidable (_ ∧ _))
def rlS (f : List D → D) : D → D → M D
  | .int i, .int j => if rngOk i j then ret (f (rngL i (j - i).toNat)) else bad
  | _, _ => bad
def rl2M (f : List D → D) (t u : M D) : M D := bnd t fun x => bnd u fun y => rlS f x y
def rl1M (f : List D → D) (t : M D) : M D := bnd t fun x => rlS f (.int 0) x
def dnL (lo : Int) (n : Nat) : List D := (List.range n).map fun k => .int (lo - (k : Nat))
def dn3S : D → D → D → M Its
  | .int i, .int j, .int k => if k = -1 ∧ -(2 ^ 62) ≤ i ∧ i < 2 ^ 62 ∧ -(2 ^ 62) ≤ j ∧ j < 2 ^ 62 then ret (dnL i (i - j).toNat, []) else bad
  | _, _, _ => bad
def dn3I (t u w : M D) : M Its := bnd t fun x => bnd u fun y => bnd w fun z => dn3S x y z
section
variable {X : Cx} {C : Cc} {ρ : List Sl}
end
end G
set_option maxHeartbeats 4000000
namespace G
open PySem L2 PySem.Spec PyProof.Rows
abbrev tpO0 (ws : Array Value) (z : Nat) (q : Option Addr) (so : Array (Option Value)) : Obj := { cls := .type "tuple", dict := q, data := .seq ws z, slots := so }
theorem once_tup {a : Addr} {ws : Array Value} {z : Nat} {q : Option Addr} {so : Array (Option Value)} {tk : Tok} :
    Meets (Builtin.«tuple.__mul__» ⟨[.ref a, .int 1 tk], []⟩) (fun _ R t => t.heap.get? a = some (tpO0 ws z q so) ∧ R (.ok (.ret (.ref a))) t) := by
  refine .of_wp fun pr wo ar R t hh => ?_
  obtain ⟨h1, h2, h3, h4, h5⟩ := t
  obtain ⟨e1, e2⟩ := hh
  have idx := AutoSeq1.idx_int
  wp_walk using wpAny_loadPart' e1
  exact ⟨_, rfl, e2⟩
theorem never_tup {a : Addr} {ws : Array Value} {z : Nat} {q : Option Addr} {so : Array (Option Value)} {tk : Tok} (hw : ws.isEmpty = false) :
    Meets (Builtin.«tuple.__mul__» ⟨[.ref a, .int 0 tk], []⟩) (fun _ R t => t.heap.get? a = some (tpO0 ws z q so) ∧
      R (.ok (.ret (.ref t.heap.objs.size))) { t with heap := t.heap.push { cls := .type "tuple", data := .seq #[] } }) := by
  refine .of_wp fun pr wo ar R t hh => ?_
  obtain ⟨h1, h2, h3, h4, h5⟩ := t
  obtain ⟨e1, e2⟩ := hh
  have idx := AutoSeq1.idx_int
  wp_walk using wpAny_loadPart' e1
  exact ⟨_, rfl, e2⟩
def mulTS : D → D → M D
  | .tup xs, .int k => if xs ≠ [] ∧ 0 ≤ k ∧ k ≤ 1000 ∧ xs.length ≤ 1000 then ret (.tup (List.replicate k.toNat xs).flatten) else bad
  | _, _ => bad
def mulTM (a b : M D) : M D := bnd a fun x => bnd b fun y => mulTS x y
def rOnce (K : PySem.W.Frag) : R2 := fun x y H Q => ∃ l xs, x = .ref l ∧ y = .int 1 ∧ SqT K H l xs ∧ Q (.ref l) H
def rNever (K : PySem.W.Frag) : R2 := fun x y H Q => ∃ l xs, x = .ref l ∧ y = .int 0 ∧ SqT K H l xs ∧ xs ≠ [] ∧ ∀ p, H p = none → Q (.ref p) (upd H p (.tup []))
section
variable {X : Cx}
theorem op_once : OpR X (binaryOp .Mult) (rOnce X.K) := by
  intro pn t σ H x y v u Q I rx ry h
  obtain ⟨l, xs, rfl, rfl, hT, q⟩ := h
  cases rx
  obtain ⟨tk, rfl⟩ := ry
  obtain ⟨its, r, ⟨⟨cl, dd, dt, so⟩, ho, hc, n, hd⟩, hs⟩ := I.tuple hT
  simp only at hc hd
  subst hc hd
  refine wpAny_binaryOp_repeat_ref (T := "tuple") (U := "int") (by decide) ⟨_, ho, rfl⟩ (fun z => typeIs_int z 1 tk) noFill_tuple_mul F.fills_int_mul F.slot_int_rmul repeat_tuple F.slot_int_index.lookup ?_
  refine call_meets F.slot_int_rmul (typeIs_int t 1 tk) F.entry_int_rmul (F.args_int_rmul_2 _ _) (int_rmul_tuple 1 tk l its.toArray n dd so) ⟨ho, rfl, ⟨_, ho, rfl⟩, ?_⟩
  exact call_meets F.slot_tuple_mul ⟨_, ho, rfl⟩ F.entry_tuple_mul (F.args_tuple_mul_2 _ _) (once_tup (ws := its.toArray)) ⟨ho, .ref l, H, I, rfl, q⟩
theorem op_never : OpR X (binaryOp .Mult) (rNever X.K) := by
  intro pn t σ H x y v u Q I rx ry h
  obtain ⟨l, xs, rfl, rfl, hT, hne, q⟩ := h
  cases rx
  obtain ⟨tk, rfl⟩ := ry
  obtain ⟨its, r, ⟨⟨cl, dd, dt, so⟩, ho, hc, n, hd⟩, hs⟩ := I.tuple hT
  simp only at hc hd
  subst hc hd
  have hw : its.toArray.isEmpty = false := by
    cases r with
    | nil => exact absurd rfl hne
    | cons _ _ => rfl
  refine wpAny_binaryOp_repeat_ref (T := "tuple") (U := "int") (by decide) ⟨_, ho, rfl⟩ (fun z => typeIs_int z 0 tk) noFill_tuple_mul F.fills_int_mul F.slot_int_rmul repeat_tuple F.slot_int_index.lookup ?_
  refine call_meets F.slot_int_rmul (typeIs_int t 0 tk) F.entry_int_rmul (F.args_int_rmul_2 _ _) (int_rmul_tuple 0 tk l its.toArray n dd so) ⟨ho, rfl, ⟨_, ho, rfl⟩, ?_⟩
  refine call_meets F.slot_tuple_mul ⟨_, ho, rfl⟩ F.entry_tuple_mul (F.args_tuple_mul_2 _ _) (never_tup (ws := its.toArray) hw) ⟨ho, ?_⟩
  refine ⟨.ref t.heap.objs.size, _, I.laid (t' := t.toks) (o := .tup []) (fun b ob z => Heap.get?_push_of_some _ z) (Nat.le_refl _) ?_, rfl, q _ (I.hok.fresh (Nat.le_refl _))⟩
  exact ⟨by simp, [], .nil, IsTup.new _ _⟩
def rMulT (K : PySem.W.Frag) : R2 := fun x y H Q => rRepT K x y H Q ∨ rOnce K x y H Q ∨ rNever K x y H Q
theorem op_mulT : OpR X (binaryOp .Mult) (rMulT X.K) := opOr op_repT (opOr op_once op_never)
variable {C : Cc} {ρ : List Sl} {cls : Cl}
end
end G
namespace G
open PySem L2 PySem.Spec PyProof.Rows GenW
section
variable {pr : Program} {wo : World} {ar : Around} {EE : Value → Shared → Prop} {t : Shared} {ia la : Addr} {k : Nat} {ws : Array Value}
theorem lst_step {R : Option Value → Shared → Prop} (h1 : t.heap.IsListIter ia la k) (h2 : t.heap.IsList la ws)
    (hi : ∀ x, ws[k]? = some x → ∀ g, g.IsListIter ia la (k + 1) → Heap.SameBut ia t.heap g → R (some x) { t with heap := g })
    (hh : ws[k]? = none → ar.handled = none)
    (he : ws[k]? = none → ∀ e g, StopX e g → Heap.ExtBut ia t.heap g → EE e { t with heap := g }) : wpAny (model pr wo) ar (callSpecial? (.ref ia) "__next__") R EE t := by
  obtain ⟨io, e1, e2, e3⟩ := id h1
  obtain ⟨lo, f1, _, f2, f3⟩ := h2
  refine wpAny_callSpecial?_slot (name := Str.ofString "__next__") h1.typeIs slot_listiter_next ?_
  refine wpAny_call_entry slot_listiter_next h1.typeIs entry_listiter_next ?_ (args_listiter_next _)
  refine show wpAny _ _ (field (.ref ia) 0 >>= _) _ _ t from wpAny_bind (wpAny_field e1 e3 (x := .ref la) rfl ?_)
  show wpAny _ _ (if (Value.ref la == Value.none) = true then _ else _) _ _ t
  rw [if_neg (show ¬ ((Value.ref la == Value.none) = true) from Bool.false_ne_true)]
  refine show wpAny _ _ (field (.ref ia) 1 >>= _) _ _ t from wpAny_bind (wpAny_field e1 e3 (x := .int k 0) rfl ?_)
  refine show wpAny _ _ (seqItems? (.ref la) >>= _) _ _ t from wpAny_bind (wpAny_seqItems f1 f3 ?_)
  cases hx : ws[k]? with
  | some x =>
    simp only [Int.toNat_natCast, hx]
    refine wpAny_bind (wpAny_setField e1 e3 (by simp) (wpAny_pure ⟨x, rfl, hi x hx _ ?_ (Heap.SameBut.update ..)⟩))
    refine ⟨_, Heap.get?_update_self _ e1 (Obj.isFreed_of_fields (Obj.data_mapFields e3 _)), (Obj.cls_mapFields ..).trans e2, ?_⟩
    rw [Obj.data_mapFields e3]
    simp [rawInt]
  | none =>
    have hd := hh hx
    simp only [Int.toNat_natCast, hx]
    refine wpAny_bind (wpAny_rule (wpAny_bind (wpAny_setField e1 e3 (by simp) ?_)))
    refine show wpAny _ _ (newExc (.type "StopIteration") [] >>= _) _ _ _ from wpAny_bind ?_
    simp only [newExc, newTuple]
    refine wpAny_bind (wpAny_newObj_type (wpAny_bind (m := firstArgMember _ _) (wpAny_of_eq (a := Value.none) (by first | rfl | (simp only [firstArgMember]; rfl)) ?_)) (by size_fits))
    refine wpAny_newObj_type ?_ (by size_fits)
    simp only [raiseNew]
    refine wpAny_bind (wpAny_handled ?_)
    first | rw [show ar.in1.handled = none from hd] | rw [hd]
    refine wpAny_bind (wpAny_pure (wpAny_throw (he hx _ _ ⟨_, _, _, rfl, Heap.get?_push_size _ rfl, rfl, rfl, ?_⟩ (((Heap.SameBut.update ..).extBut.push _).push _))))
    first
      | rfl
      | (rw [Array.getElem?_append_left (by decide)]; rfl)
      | kernel_rfl
end
theorem close_lst : typeLookup (.type "list_iterator") "close" = pure none := by
  rw [typeLookup_type, builtinLookup_eq_fast]
  kernel_rfl
def tYfLst (te : TE) : TYf := fun σ H Q => te σ H fun x H1 => ∃ a xs, x = .ref a ∧ H1 a = some (.lst xs) ∧ (xs.length ≤ sizeLine → Q xs H1)
theorem yf_lst {X : Cx} {e : Expr} {te : TE} (he : PE X e te) : YfE X e (tYfLst te) := by
  refine ⟨fun pn t σ H Q I hq => ?_⟩
  refine thn (he.run pn t σ H _ I hq) fun u t1 ⟨y, H1, J, r1, la, xs, ey, hla, q⟩ => ?_
  subst ey
  obtain rfl : u = Value.ref la := r1
  have hls : SqL X.K H1 la xs := SqL.of hla
  obtain ⟨its, rits, pl, hz⟩ := J.list hls
  have isl := pl.isList
  refine ⟨"list", isl.typeIs, by decide, wpAny_pyIter_list isl ?_⟩
  have other : ∀ b o, t1.heap.get? b = some o → b ≠ t1.heap.objs.size := fun b o z => Nat.ne_of_lt (Heap.lt_size z)
  have stays : ∀ b o, t1.heap.get? b = some o → (t1.heap.push { cls := .type "list_iterator", data := .fields #[.ref la, .int 0 0] }).get? b = some o := fun b o z => Heap.get?_push_of_some _ z
  refine ⟨t1.heap.objs.size, H1, xs, fun j g => g.IsListIter t1.heap.objs.size la j ∧ g.IsList la its.toArray, rfl, J.kept (t' := t1.toks) stays, .inr J.sz, Nat.ne_of_gt J.lt, fun y c hy => ?_, J.hok.fresh (Nat.le_refl _), fun p hp => ?_,
    ⟨⟨_, Heap.get?_push_size _ rfl, rfl, rfl⟩, ?_⟩, ⟨⟨"list_iterator", fun j g z => ?_, close_lst, by decide⟩, fun j g g' z kk => ?_, fun A' j x t2 Q' E' hA hx z hQ => ?_, fun A' t2 Q' E' hA z hE => ?_⟩, q (J.hok la _ hla).1⟩
  · obtain ⟨v, o, ho, _⟩ := J.cell y c hy
    exact other c o ho
  · exact other p.1 _ (J.pin p hp).1
  · obtain ⟨o, z1, z2⟩ := isl
    exact ⟨o, stays la o z1, z2⟩
  · obtain ⟨⟨o, z1, z2, _⟩, _⟩ := z
    exact ⟨o, z1, z2⟩
  · obtain ⟨⟨o, z1, z2⟩, o2, z3, z4⟩ := z
    exact ⟨⟨o, kk _ o (.inl rfl) z1, z2⟩, o2, kk _ o2 (.inr (by rw [hla]; exact fun w => by cases w)) z3, z4⟩
  · obtain ⟨z1, z2⟩ := z
    obtain ⟨v, hv, rv⟩ := rits.get hx
    have hv2 : its.toArray[j]? = some v := by simpa using hv
    refine lst_step z1 z2 (fun x2 hx2 g g1 g2 => ?_) (fun e => by rw [hv2] at e; cases e) (fun e => by rw [hv2] at e; cases e)
    rw [hv2] at hx2
    cases hx2
    refine hQ v g t2.toks rv ⟨g1, ?_⟩ fun b o hb eb => g2.extBut b o hb eb
    obtain ⟨o, z3, z4⟩ := z2
    obtain ⟨o0, w1, _⟩ := isl
    exact ⟨o, g2.extBut la o (other la o0 w1) z3, z4⟩
  · obtain ⟨z1, z2⟩ := z
    have hn : its.toArray[xs.length]? = none := by
      have := rits.length
      simp
      omega
    exact lst_step z1 z2 (fun x2 hx2 => by rw [hn] at hx2; cases hx2) (fun _ => hA) (fun _ e g g1 g2 => hE e g t2.toks g1 fun b o hb eb => g2 b o hb eb)
end G
set_option maxHeartbeats 1000000
namespace G
open PySem L2 PySem.Spec PyProof.Rows
def ylS (f : List D → M D) (ds : List D) : M D := fun m => match f ds m with
  | .ok (.fl xs) m1 => .ok (.fl xs) m1
  | _ => .bad
def spY (Γ : Cst) (f : List D → M D) : SpG := fun vs J Q _ => ∃ g m ds xs m1, Rel Γ g m J ∧ RepL Γ.K g J vs ds ∧ f ds m = .ok (.fl xs) m1 ∧
  ∀ g2 H2 ws, Le g g2 → TK J H2 → Rel Γ g2 m1 H2 → RepL Γ.K g2 H2 ws xs → Q ws H2
theorem gcM_fl {a : M D} {m m1 : Hs} {xs : List D} (h : gcM a m = .ok (.fl xs) m1) : ∃ m2, a m = .ok (.fl xs) m2 ∧ (m1 = m2 ∨ (below m.length (.fl xs) = true ∧ gcL m.length m m2 = true ∧ m1 = m2.take m.length)) := by
  unfold gcM at h
  cases hz : a m with
  | ok d m2 =>
    rw [hz] at h
    simp only [gcR] at h
    split at h
    · rename_i hc
      rw [Bool.and_eq_true] at hc
      cases h
      exact ⟨m2, rfl, .inr ⟨hc.1, hc.2, rfl⟩⟩
    · cases h
      exact ⟨_, rfl, .inl rfl⟩
  | ex c fs m2 =>
    rw [hz] at h
    simp only at h
    split at h <;> cases h
  | bad =>
    rw [hz] at h
    cases h
theorem rep_fl {Γ : Cst} {g : Gh} {H : Hp} {m : Hs} {v : V} {xs : List D} (rel : Rel Γ g m H) (h : Rep Γ.K g H v (.fl xs)) : ∃ la ws, v = .ref la ∧ H la = some (.lst ws) ∧ RepL Γ.K g H ws xs := by
  cases h with
  | fl h1 h2 => exact ⟨_, _, rfl, rel.frz _ _ h1, h2⟩
section
variable {P : Program} {w : World} {K : PySem.W.Frag} {mg : Str → Option Value} {base : Heap} {cls : Cl} {k : Nat}
theorem takesF {X : Cx} : Takes X (fun _ _ _ _ => False) := fun u s' ⟨_, _, _, _, _, _, _, _, _, _, _, _, _, _, _, _, q⟩ => q.elim
theorem gf_core {x qual : Str} {st : Stmt} {f : Addr} {fd : FuncData} {N ps : List Str} {t : List D → M D} {e : Expr} {yp pos : Pos} (F : Fun K x qual st f fd) (S : GScope N ps (defScope st)) (hl : ∀ ds, ds.length ≠ ps.length → t ds = bad)
    (hb : defBody st = [.Expr (.YieldFrom e yp) pos]) (hi : ∀ n cdv, interactive (envOfC qual (defScope st) n f cdv) = false)
    (walk : ∀ ds, ds.length = ps.length → ∃ a : M D, t ds = gcM a ∧ ∀ (cdv : Value) (A : Around) (outer : List Env) (s : Shared) (H : Hp) (E : XK) (pn : List (Addr × Obj)) (gB : Gh), Room k (A.deeper (envOfC qual (defScope st) s.heap.objs.size f cdv)) →
      PEc (gcxOf P w K mg base N qual (defScope st) f cdv A outer s H E pn) ⟨cls, fun _ _ _ _ => False, gB, H⟩ (ds.map Sl.val ++ List.replicate (N.length - ds.length) Sl.un) e a) :
    GFn P w K mg base (k + 1) f fd ps (spY ⟨K, cls⟩ t) := by
  have hlen : ∀ (ds : List D) (xs : List D) (m m1 : Hs), t ds m = .ok (.fl xs) m1 → ds.length = ps.length := fun ds xs m m1 q => by
    by_cases h : ds.length = ps.length
    · exact h
    · rw [hl ds h] at q
      cases q
  obtain ⟨oc, od, kV, doc, pm, an, cdv, ct, osl, rfl, lk, hcd⟩ := F.ex
  refine gfn_of lk hcd S (fun vs H Q E h => ?_) (fun A outer s H vs Q E pn hr h => ?_)
  · obtain ⟨g, m, ds, xs, m1, rel, rv, q, _⟩ := h
    rw [rv.length, hlen ds _ _ _ q]
  · obtain ⟨g, m, ds, xs, m1, rel, rv, q, go⟩ := h
    obtain ⟨a, ha, wk⟩ := walk ds (hlen ds _ _ _ q)
    rw [ha] at q
    obtain ⟨m2, h2, hm⟩ := gcM_fl q
    rw [hb]
    refine ⟨_, gss_cons (gs_yieldFrom (yf_lst (wk cdv A outer s H E pn g hr)) hr.hd (hi _ _)) gss_nil, ?_⟩
    refine ⟨g, m, ⟨Le.refl g, rel, ?_, TW.refl H⟩, ?_⟩
    · unfold L2.start
      rw [rv.length]
      exact relS_start rv _
    · rw [h2]
      intro g2 H2 v le tk rel2 hv
      rcases hm with rfl | ⟨c1, c2, rfl⟩
      · obtain ⟨la, ws, rfl, e1, e2⟩ := rep_fl rel2 hv
        exact ⟨la, ws, rfl, e1, fun hz => ⟨by simpa using hz, go _ _ _ le tk rel2 e2⟩⟩
      · obtain ⟨la, ws, rfl, e1, e2⟩ := rep_fl (rel.gc le rel2 c2) (hv.shrink c1)
        exact ⟨la, ws, rfl, e1, fun hz => ⟨by simpa using hz, go _ _ _ (le_cut rel le) tk (rel.gc le rel2 c2) e2⟩⟩
def IsGf (P : Program) (w : World) (K : PySem.W.Frag) (mg : Str → Option Value) (base : Heap) (cls : Cl) (k : Nat) (x : Str) (f : List D → M D) : Prop :=
  ∃ (a : Addr) (fd : FuncData) (ps : List Str), mg x = some (.ref a) ∧ PySem.W.keepIn K (.ref a) = true ∧ Binds K fd ps [] ∧ GFn P w K mg base k a fd ps (spY ⟨K, cls⟩ f)
end
section
variable {X : Cx} {C : Cc} {ρ : List Sl} {k : Nat}
theorem yl_post {W : WX} {σ : L2.St} {g : Gh} {H : Hp} {Q : VK} {f : List D → M D} {ds : List D} {m : Hs} {vs : List V} {E : XK} (rel : Rel ⟨X.K, C.cls⟩ g m H) (r : RepL X.K g H vs ds) (q : Post ⟨X.K, C.cls⟩ W (rD ⟨X.K, C.cls⟩) σ g H Q (ylS f ds m)) :
    spY ⟨X.K, C.cls⟩ f vs H (fun out H2 => ∀ p, H2 p = none → Q (.ref p) (upd H2 p (.lst out))) E := by
  unfold ylS at q
  split at q
  · rename_i xs m1 hz
    exact ⟨g, m, ds, xs, m1, rel, r, hz, fun g2 H2 ws le tk rel2 rw' p hp => (Post.mono le tk q).newL rel2 rw' hp⟩
  · exact q.elim
theorem c_listG {x : Str} {f : List D → M D} {e : Expr} {es : List Expr} {cs : M (List D)} {p pos p2 pos2 : Pos} (h : IsGf X.prog X.w X.K X.mg X.base C.cls k x f) (hr : Room (k + 3) X.A) (hg : Gl X x) (hgl : Gl X "list") (hml : X.mg "list" = none) (ha : PAc X C ρ (e :: es) cs)
    (hdb : (x == ("__debug__" : Str)) = false := by decide) (he : starEach (e :: es) X.env = (false, eval e X.env) :: starEach es X.env := by rfl) (hpl : (backTo pos2 (starEach es X.env)).any (·.1) = false := by rfl)
    (he2 : starEach [.Call (.Name x p2) (e :: es) [] pos2] X.env = (false, eval (.Call (.Name x p2) (e :: es) [] pos2) X.env) :: starEach [] X.env := by rfl) :
    PEc X C ρ (.Call (.Name "list" p) [.Call (.Name x p2) (e :: es) [] pos2] [] pos) (calM (ylS f) cs) := by
  obtain ⟨a, fd, ps, h1, h2, h3, F⟩ := h
  refine pe_imp (pe_listG (E := fun _ _ _ => False) (pgen_call F (hr.mono (by omega)) hg h1 h2 h3 .nil ha hdb he hpl) (fun _ _ _ _ _ _ _ c => ?_) (fun _ _ _ q => q.elim) hr hgl hml (by rfl) (by decide) (by decide) he2) fun σ H Q q => ?_
  · obtain ⟨_, _, _, _, _, _, _, _, _, _, _, _, q⟩ := c
    exact q.elim
  · refine tG.bind q fun g1 H1 m1 v1 x1 at1 hv1 q1 => ?_
    rw [List.append_nil]
    exact yl_post at1.rel hv1 q1
end
end G
namespace L2
open PySem PySem.Spec PyProof.Rows PySem.W
structure ZAt (z TI TO i1 i2 a b : Addr) (xs ys : Array Value) (B : Nat) (h : Heap) (k : Nat) : Prop where
  out : (k = 0 ∧ IsZip h z TI TO .none ∧ ∃ x y, IsPair h TO x y) ∨ ∃ T f o, B ≤ T ∧ IsZipHeld h z TI TO T f ∧ h.get? T = some o
  ti : IsPair h TI (.ref i1) (.ref i2)
  h1 : h.IsListIter i1 a k
  h2 : h.IsListIter i2 b k
  l1 : h.IsList a xs
  l2 : h.IsList b ys
structure ZLow (z TI TO i1 i2 a b S B : Nat) : Prop where
  z : z < B
  TI : TI < B
  TO : TO < B
  i1 : i1 < B
  i2 : i2 < B
  a : a < B
  b : b < B
  S : S < B
structure ZNe (z TI TO i1 i2 a b S : Nat) : Prop where
  z : S ≠ z
  TI : S ≠ TI
  TO : S ≠ TO
  i1 : S ≠ i1
  i2 : S ≠ i2
  a : S ≠ a
  b : S ≠ b
structure ZOut (xs ys : Array Value) (B : Nat) (h : Heap) (ts : List Addr) : Prop where
  ge : ∀ t, t ∈ ts → B ≤ t ∧ t < h.objs.size
  nd : ts.Nodup
  at' : ∀ (j : Nat) t, ts[j]? = some t → ∃ x y, xs[j]? = some x ∧ ys[j]? = some y ∧ IsPair h t x y
theorem ZOut.nil {xs ys : Array Value} {B : Nat} {h : Heap} : ZOut xs ys B h [] := ⟨fun t ht => absurd ht (by simp), List.nodup_nil, fun j t hj => absurd hj (by simp)⟩
theorem ZAt.upd {z TI TO i1 i2 a b S B k : Nat} {xs ys : Array Value} {h h' : Heap} (L : ZLow z TI TO i1 i2 a b S B) (N : ZNe z TI TO i1 i2 a b S) (st : ZAt z TI TO i1 i2 a b xs ys B h k) (kp : ∀ c o, c ≠ S → h.get? c = some o → h'.get? c = some o) : ZAt z TI TO i1 i2 a b xs ys B h' k := by
  obtain ⟨out, ti, h1, h2, l1, l2⟩ := st
  refine ⟨?_, kp _ _ N.TI.symm ti, h1.at fun o q => kp _ o N.i1.symm q, h2.at fun o q => kp _ o N.i2.symm q, l1.at fun o q => kp _ o N.a.symm q, l2.at fun o q => kp _ o N.b.symm q⟩
  rcases out with ⟨e, hz, x, y, hp⟩ | ⟨T, f, o, hB, hz, hT⟩
  · exact .inl ⟨e, kp _ _ N.z.symm hz, x, y, kp _ _ N.TO.symm hp⟩
  · exact .inr ⟨T, f, o, hB, kp _ _ N.z.symm hz, kp _ _ (fun e => by have := L.S; omega) hT⟩
section
variable {prog : Program} {w : World} {A : Around} {E : Value → Shared → Prop}
end
end L2
namespace L2
open PySem PySem.Spec PyProof.Rows PySem.W
section
variable {X : Cx} {pins : List (Addr × Obj)} {σ : L2.St} {H : Hp} {s : Shared}
theorem Inv.grow {H' : Hp} {h' : Heap} {t' : Nat} (I : Inv X pins σ H s) (k : ∀ b u, s.heap.get? b = some u → h'.get? b = some u) (e : ∀ b, b < s.heap.objs.size → H' b = H b) (n : ∀ b o, s.heap.objs.size ≤ b → H' b = some o → ObjOk X.prog X.w H' h' b o) :
    Inv X pins σ H' { s with heap := h', toks := t' } := by
  have hx : ∀ b o, H b = some o → b < s.heap.objs.size := fun b o q => I.hok.lt q
  refine I.un ⟨fun b u q _ _ _ => k b u q, fun b u q _ _ _ => ⟨u.slots, k b u q⟩, fun b u q z _ => ?_, fun b u q _ => ⟨u, k b u q⟩, fun b xs q => ?_, fun b u xs q => ?_, fun b ps q => ⟨#[], ?_⟩⟩ fun b u q => ?_
  · rw [e b (Heap.lt_size q)]; exact z
  · rw [e b (hx _ _ q)]; exact q
  · rw [e b (hx _ _ q)]; exact q
  · rw [e b (hx _ _ q), q]; simp
  · rcases Nat.lt_or_ge b s.heap.objs.size with hb | hb
    · have q2 := q
      rw [e b hb] at q2
      exact (I.hok b u q2).stay (fun c v _ z => k c v z) (fun c z => by rw [e c (hx _ _ z)]; exact z) fun c xs z => by rw [e c (hx _ _ z)]; exact z
    · exact n b u hb q
end
inductive LayP : Hp → List (V × V) → List Addr → Hp → Prop
  | nil {H : Hp} : LayP H [] [] H
  | cons {H H' : Hp} {x y : V} {ps : List (V × V)} {t : Addr} {ts : List Addr} : H t = none → LayP (upd H t (.tup [x, y])) ps ts H' → LayP H ((x, y) :: ps) (t :: ts) H'
section
variable {X : Cx} {e : Expr} {te : L2.St → Hp → (List V → List V → Hp → Prop) → Prop}
end
end L2
namespace G
open PySem L2 PySem.Spec PyProof.Rows
def zpL (xs ys : List D) : List D := List.zipWith (fun a b => .tup [a, b]) xs ys
def zpS (f : List D → D) (x y : D) : M D := bnd (ask (lstOf x)) fun xs => bnd (ask (lstOf y)) fun ys => ret (f (zpL xs ys))
def zpM (f : List D → D) (t u : M D) : M D := bnd t fun x => bnd u fun y => zpS f x y
section
variable {X : Cx} {C : Cc} {ρ : List Sl}
end
end G
namespace L2
end L2
namespace G
open PySem L2 PySem.Spec PyProof.Rows
def inD (x y : D) (m : Hs) : Option Bool := match pyD m deepest x, pyD m deepest y with
  | some d, some (.list ds) => some (ds.any fun z => PyData.eqv z d)
  | _, _ => none
def inDS (x y : D) : M D := bnd (ask (inD x y)) fun b => ret (.bl b)
def niDS (x y : D) : M D := bnd (ask (inD x y)) fun b => ret (.bl (!b))
def inDM (a b : M D) : M D := bnd a fun x => bnd b fun y => inDS x y
def niDM (a b : M D) : M D := bnd a fun x => bnd b fun y => niDS x y
section
variable {X : Cx} {C : Cc} {ρ : List Sl} {cls : Cl}
end
end G
namespace G
open PySem L2 PySem.Spec PyProof.Rows
def isBS : D → D → M D
  | .bl a, .bl b => ret (.bl (decide (a = b)))
  | _, _ => bad
def nsBS : D → D → M D
  | .bl a, .bl b => ret (.bl (!decide (a = b)))
  | _, _ => bad
def isBM (a b : M D) : M D := bnd a fun x => bnd b fun y => isBS x y
def nsBM (a b : M D) : M D := bnd a fun x => bnd b fun y => nsBS x y
section
variable {X : Cx} {C : Cc} {ρ : List Sl} {cls : Cl}
end
end G
namespace G
open PySem L2 PySem.Spec PyProof.Rows
section
variable {X : Cx} {C : Cc} {ρ : List Sl}
theorem Post.put {α A : Type} {Γ : Cst} {W : WX} {rep : Gh → Hp → A → α → Prop} {σ : L2.St} {g : Gh} {H : Hp} {m : Hs} {Q : A → Hp → Prop} {f : Hs → Option Hs} {h : M α} (q : Post Γ W rep σ g H Q (bnd (put f) (fun _ => h) m)) : ∃ m', f m = some m' ∧ Post Γ W rep σ g H Q (h m') := by
  unfold bnd G.put at q
  cases hz : f m with
  | none => rw [hz] at q; exact q.elim
  | some x => rw [hz] at q; exact ⟨x, rfl, q⟩
def catO (a b : M D) : M (List D) := bnd a fun x => bnd b fun y => bnd (ask (lstOf x)) fun xs => bnd (ask (lstOf y)) fun ys => if xs.length + ys.length ≤ sizeLine then ret (xs ++ ys) else bad
end
end G
namespace G
open PySem L2 PySem.Spec PyProof.Rows
section
variable {X : Cx} {cls : Cl}
end
end G
namespace G
open PySem L2 PySem.Spec PyProof.Rows
section
variable {ρ : List Sl}
end
section
variable {X : Cx} {cls : Cl}
end
end G
set_option maxHeartbeats 2000000
namespace G
open PySem L2 PySem.Spec PyProof.Rows
section
variable {X : Cx} {cls : Cl}
end
end G
namespace HT
open PySem PyProof.Rows
section
variable {prog : Program} {w : World} {A : Around} {E : Value → Shared → Prop} {s : Shared}
end
end HT
namespace G
open PySem L2 PySem.Spec PyProof.Rows
section
variable {X : Cx} {C : Cc} {ρ : List Sl}
theorem RepL.reverse {K : PySem.W.Frag} {g : Gh} {H : Hp} : ∀ {xs : List V} {ds : List D}, RepL K g H xs ds → RepL K g H xs.reverse ds.reverse
  | _, _, .nil => .nil
  | _, _, .cons h t => by
    rw [List.reverse_cons, List.reverse_cons]
    exact (RepL.reverse t).append (.cons h .nil)
end
end G
set_option maxHeartbeats 1000000
namespace G
open PySem L2 PySem.Spec PyProof.Rows
def FnRK (P : Program) (w : World) (K : PySem.W.Frag) (mg : Str → Option Value) (base : Heap) (CX : CXT) (k : Nat) (f : Addr) (kw : Str) (sp : Sp) : Prop :=
  ∀ (A : Around) (outer : List Env) (s : Shared) (H : Hp) (us : List Value) (u : Value) (vs : List V) (v : V) (Q : VK) (E : XK), Room k A → Env0 P w K mg base A outer s H → Vals vs us → RelV v u → sp (v :: vs) H Q E →
    codeAny (model P w) A (.call (.ref f) ⟨us, [(kw, u)]⟩) (CR CX outer P w H s Q E) s
section
variable {P : Program} {w : World} {K : PySem.W.Frag} {mg : Str → Option Value} {base : Heap} {cls : Cl} {k : Nat}
end
theorem FnRK.mono {P : Program} {w : World} {K : PySem.W.Frag} {mg : Str → Option Value} {base : Heap} {CX : CXT} {j k : Nat} {f : Addr} {kw : Str} {sp : Sp} (F : FnRK P w K mg base CX j f kw sp) (h : j ≤ k) : FnRK P w K mg base CX k f kw sp := fun A outer s H us u vs v Q E hr => F A outer s H us u vs v Q E (hr.mono h)
section
variable {X : Cx} {C : Cc} {ρ : List Sl} {k : Nat} {sp : Sp} {f : Addr} {E0 : L2.St → XK}
end
end G
set_option maxHeartbeats 2000000
namespace G
open PySem L2 PySem.Spec PyProof.Rows
section
variable {X : Cx} {C : Cc} {ρ : List Sl} {k : Nat}
theorem XDx.upd {H : Hp} {a : Addr} {o : HO} {d : Option Addr} {fs : List (Str × V)} (hn : H a = none) (h : XDx H d fs) : XDx (L2.upd H a o) d fs := by
  cases d with
  | none => exact h
  | some d =>
    have h : H d = some (.xd fs) := h
    show L2.upd H a o d = _
    rw [upd_ne (fun z => by rw [z, hn] at h; cases h)]
    exact h
structure XcC (K : PySem.W.Frag) (E : Addr) : Prop where
  f : XfC K E
  e : ExcC K E
end
end G
namespace G
open PySem L2 PySem.Spec PyProof.Rows
structure GrC (K : PySem.W.Frag) (B : Addr) : Prop where
  rd : PySem.W.readsIn K B (.type "type") = true
  ga : PySem.W.specialIn K (.ref B) "__getattribute__" = some (some (.builtin "type.__getattribute__"))
  at_ : PySem.W.findCls K (.ref B) (.type "type") "__init__" = some (.val (.builtin "ValueError.__init__"))
section
variable {X : Cx} {o e : Expr} {es : List Expr} {to te : TE} {ta : TA} {f : Str} {p p' p1 p2 pos : Pos}
end
section
variable {P : Program} {w : World} {K : PySem.W.Frag} {mg : Str → Option Value} {base : Heap} {k : Nat}
end
section
variable {X : Cx} {C : Cc} {ρ : List Sl} {k : Nat} {A B : Type} {oa : A → List Sl} {ob : B → List Sl}
theorem RepF.append {K : PySem.W.Frag} {g : Gh} {H : Hp} {ys : List (Str × V)} {es : List (Str × D)} : ∀ {xs : List (Str × V)} {ds : List (Str × D)}, RepF K g H xs ds → RepF K g H ys es → RepF K g H (xs ++ ys) (ds ++ es)
  | _, _, .nil, h => h
  | _, _, .cons h t, h2 => .cons h (RepF.append t h2)
theorem RepF.reverse {K : PySem.W.Frag} {g : Gh} {H : Hp} : ∀ {xs : List (Str × V)} {ds : List (Str × D)}, RepF K g H xs ds → RepF K g H xs.reverse ds.reverse
  | _, _, .nil => .nil
  | _, _, .cons h t => by
    rw [List.reverse_cons, List.reverse_cons]
    exact RepF.append (RepF.reverse t) (.cons h .nil)
end
end G
namespace G
open PySem L2 PySem.Spec PyProof.Rows
section
variable {X : Cx} {pins : List (Addr × Obj)} {σ : L2.St} {H : Hp} {s : Shared}
end
section
variable {X : Cx} {x n : Str} {c : Value} {i j : Nat} {body : List Stmt} {b₀ : Stmt} {np pos pos' : Pos} {tb : WX → TS} {Wout : WX}
end
end G
namespace G
open PySem L2 PySem.Spec PyProof.Rows
def IsXb (K : PySem.W.Frag) (cls : Cl) (cv : Value) (xb : Nat → Option Bool) : Prop := ∀ k b, xb k = some b → ∀ E, cls k = some E → ExcC K E ∧ PySem.W.kitOne K (.ref E) cv = some b
section
variable {X : Cx} {C : Cc} {ρ : List Sl} {k : Nat} {A B A' B' : Type} {oa : A → List Sl} {ob : B → List Sl}
end
end G
namespace G
open PySem L2 PySem.Spec PyProof.Rows
section
variable {Γ : Cst} {g : Gh} {m : Hs} {H : Hp} {P c : Addr} {ps qs : Array Value} {q : Str}
end
section
variable {X : Cx} {pins : List (Addr × Obj)} {σ : L2.St} {H : Hp} {s : Shared}
end
end G
namespace G
open PySem L2 PySem.Spec PyProof.Rows
section
variable {X : Cx} {pins : List (Addr × Obj)} {σ : L2.St} {H : Hp} {s : Shared}
end
section
variable {K : PySem.W.Frag} {g g' : Gh} {H H' : Hp}
mutual
theorem Rep.moveW (p : Lv0 g g') (t : TW H H') : ∀ {v : V} {d : D}, Rep K g H v d → Rep K g' H' v d
  | _, _, .non => .non
  | _, _, .bl b => .bl b
  | _, _, .int i => .int i
  | _, _, .str x => .str x
  | _, _, .kt h r => .kt (t.tup _ _ h) (RepL.moveW p t r)
  | _, _, .tup h r => .tup (by
      rcases h with (h | ⟨o, h⟩) | h
      · exact .inl (.inl (t.tup _ _ h))
      · exact .inl (.inr ⟨o, t.frz _ _ _ h⟩)
      · exact .inr h) (RepL.moveW p t r)
  | _, _, .fl h r => .fl (p.fz _ h) (RepL.moveW p t r)
  | _, _, .sc h r => .sc (by
      rcases h with ⟨o, h⟩ | h
      · exact .inl ⟨o, t.frz _ _ _ h⟩
      · exact .inr h) (RepL.moveW p t r)
  | _, _, .fd h r => .fd (p.fz _ h) (RepL.moveW p t r)
  | _, _, .ref h => .ref (pre_get p.hs h)
theorem RepL.moveW (p : Lv0 g g') (t : TW H H') : ∀ {vs : List V} {ds : List D}, RepL K g H vs ds → RepL K g' H' vs ds
  | _, _, .nil => .nil
  | _, _, .cons r s => .cons (Rep.moveW p t r) (RepL.moveW p t s)
end
end
theorem RelS.at {Γ : Cst} {gB g g' : Gh} {H H' : Hp} {ρ : List Sl} {σ : L2.St} (h : RelS Γ gB g H ρ σ) (p : Le g g') (t : TW H H') : RelS Γ gB g' H' ρ σ := by
  have up : ∀ {v : V} {d : D}, Rep Γ.K g H v d → Rep Γ.K g' H' v d := fun {v d} r => by
    refine Rep.moveW p.v t r
  exact ⟨h.len, fun i d e => by
    obtain ⟨v, h1, h2⟩ := h.val i d e
    exact ⟨v, h1, up h2⟩, fun i xs e => by
    obtain ⟨a, vs, h1, h2, h3, h4⟩ := h.own i xs e
    exact ⟨a, vs, h1, p.pv _ h2, RepL.moveW p.v t h3, h4⟩, h.inj, h.raw⟩
section
variable {X : Cx} {C : Cc} {ρ : List Sl} {k : Nat}
end
end G
namespace G
open PySem L2 PySem.Spec PyProof.Rows
section
variable {P : Program} {w : World} {K : PySem.W.Frag} {mg : Str → Option Value} {base : Heap} {cls : Cl} {k n : Nat}
section
variable {x qual : Str} {st : Stmt} {f : Addr} {fd : FuncData} {N : List Str} {p1 p2 p3 p4 p5 : Str} {cd0 : Value}
end
end
def OnlyT (J : Hp) : Prop := ∀ b, J b = none ∨ (∃ o xs, J b = some (.frz o (.lst xs))) ∨ ∃ ps, J b = some (.tbl ps)
theorem only3 {J : Hp} (h : Only J) : OnlyT J := fun b => (h b).elim .inl fun z => .inr (.inl z)
end G
namespace G
open PySem L2 PySem.Spec PyProof.Rows
section
variable {X : Cx} {C : Cc} {ρ : List Sl} {k : Nat} {A B A1 : Type} {oa : A → List Sl} {ob : B → List Sl} {oa1 : A1 → List Sl}
end
section
variable {X : Cx} {C : Cc} {ρ : List Sl} {k : Nat}
inductive ClsL (X : Cx) (C : Cc) : List Expr → List (Nat → Option Bool) → TA → Prop where
  | nil : ClsL X C [] [] tNil
  | cons {T : Str} {p : Pos} {c : V} {cv : Value} {xb : Nat → Option Bool} {es : List Expr} {xs : List (Nat → Option Bool)} {ta : TA} (hT : PE X (.Name T p) (tC c)) (hcv : ClsV c cv) (B : IsXb X.K C.cls cv xb) (h : ClsL X C es xs ta) : ClsL X C (.Name T p :: es) (xb :: xs) (tCons (tC c) ta)
end
end G
namespace G
open PySem
end G
namespace G
open PySem L2 PySem.Spec PyProof.Rows
section
variable {X : Cx} {C : Cc} {ρ : List Sl}
end
end G
namespace G
open PySem L2 PySem.Spec PyProof.Rows
def isKt : List D → Bool
  | [.non] => true
  | _ => false
def pyQ (m : Hs) : Nat → D → Option PyData
  | _, .non => some .none
  | _, .bl b => some (.bool b)
  | _, .int i => some (.int i)
  | _, .str s => if PyData.strOk s then some (.str s) else none
  | 0, _ => none
  | n + 1, .tup xs => (mapO (pyQ m n) xs).map .tuple
  | n + 1, .fl xs => (mapO (pyQ m n) xs).map .list
  | _ + 1, .sc _ => none
  | n + 1, .fd ks vs => if isKt ks = true then none else match mapO (pyQ m n) ks, mapO (pyQ m n) vs with
    | some ps, some qs => some (.dict (ps.zip qs))
    | _, _ => none
  | n + 1, .ref k => match m[k]? with
    | some (.lst xs) => (mapO (pyQ m n) xs).map .list
    | _ => none
section
variable {X : Cx} {C : Cc} {ρ : List Sl} {cls : Cl}
end
end G
namespace G
open PySem L2 PySem.Spec PyProof.Rows
section
variable {X : Cx} {C : Cc} {ρ : List Sl} {cls : Cl}
end
end G
namespace G
open PySem L2 PySem.Spec PyProof.Rows
section
variable {X : Cx} {a b c d : Expr} {ta tb tc td : TE} {pos : Pos}
end
section
variable {X : Cx} {C : Cc} {ρ : List Sl}
end
def blsOf : List D → Option (List Bool)
  | [] => some []
  | .bl b :: xs => (blsOf xs).map (b :: ·)
  | _ => none
def isFlO (x : D) (m : Hs) : Option Unit := match x with
  | .fl _ => some ()
  | _ => none
section
variable {X : Cx}
end
section
variable {X : Cx} {C : Cc} {ρ : List Sl}
end
end G
namespace G
open PySem L2 PySem.Spec PyProof.Rows
def hasD (ks : List D) (k : D) : Bool := ks.any fun a => beqD a k
section
variable {K : PySem.W.Frag} {g g' : Gh} {H H' : Hp}
end
theorem u1 {n : Nat} (h : n + 65 < cLine) : n + 1 < cLine := Nat.lt_of_le_of_lt (by omega) h
theorem Rel.dct {Γ : Cst} {g : Gh} {H : Hp} {m : Hs} {n : Nat} {a : Addr} {ks ds : List D} (R : Rel Γ g m H) (h1 : m[n]? = some (.dct ks ds)) (h2 : g.hs[n]? = some a) : ∃ kvs, H a = some (.dT kvs) ∧ ks = keysT kvs ∧ RepL Γ.K g H (kvs.map (·.2)) ds := R.obj n _ a h1 h2
section
variable {X : Cx} {C : Cc} {ρ : List Sl} {A B : Type} {oa : A → List Sl} {ob : B → List Sl}
end
end G
namespace G
open PySem L2
section
variable {X : Cx} {C : Cc} {ρ : List Sl} {k : Nat} {A B A' B' : Type} {oa : A → List Sl} {ob : B → List Sl} {oa' : A' → List Sl} {g g' : Gh} {H H' : Hp} {De : Ends} {Γ : Cst} {σ : L2.St} {m : Hs}
end
end G
namespace G
open PySem L2 PySem.Spec PyProof.Rows
section
variable {X : Cx} {C : Cc} {ρ : List Sl} {A B : Type} {oa : A → List Sl} {ob : B → List Sl}
theorem RepL.snoc {K : PySem.W.Frag} {g : Gh} {H : Hp} : ∀ {vs : List V} {ds : List D} {d : D}, RepL K g H vs (ds ++ [d]) → ∃ us u, vs = us ++ [u] ∧ RepL K g H us ds ∧ Rep K g H u d
  | _, [], d, h => by
    cases h with
    | cons a b => cases b; exact ⟨[], _, rfl, .nil, a⟩
  | _, x :: ds, d, h => by
    cases h with
    | cons a b =>
      obtain ⟨us, u, rfl, h1, h2⟩ := RepL.snoc b
      exact ⟨_ :: us, u, rfl, .cons a h1, h2⟩
end
end G
namespace G
open PySem L2 PySem.Spec PyProof.Rows
theorem Clr.in1 {gu : Bool} {A : Around} (h : Clr gu A) : Clr gu A.in1 := fun e => h e
def prpO (tb : Nat → Option (List D → M D)) (x : D) (m : Hs) : Option (List D → M D) := match x with
  | .ref n => match m[n]? with
    | some (.ins c _) => tb c
    | _ => none
  | _ => none
def prpM (tb : Nat → Option (List D → M D)) (a : M D) : M D := bnd a fun x => bnd (ask (prpO tb x)) fun g => calm (g [x])
section
variable {X : Cx} {C : Cc} {ρ : List Sl} {k : Nat} {gu : Bool}
end
end G
namespace G
open PySem L2 PySem.Spec PyProof.Rows
def lenC (x : D) : M D := match x with
  | .int i => if 0 ≤ i ∧ i < 2 ^ 63 then ret (.int i) else bad
  | _ => bad
def lenI (tb : Nat → Option (List D → M D)) (a : M D) : M D := bnd a fun x => bnd (ask (prpO tb x)) fun g => bnd (calm (g [x])) lenC
section
variable {X : Cx} {C : Cc} {ρ : List Sl} {k : Nat} {gu : Bool}
end
end G
set_option maxHeartbeats 4000000
namespace G
open PySem L2 PySem.Spec PyProof.Rows
def mulWS : D → D → M D
  | .tup xs, .int k => if xs.length = 1 ∧ 2 ≤ k ∧ k ≤ 100000 then ret (.tup (List.replicate k.toNat xs).flatten) else mulTS (.tup xs) (.int k)
  | x, y => mulTS x y
def mulWM (a b : M D) : M D := bnd a fun x => bnd b fun y => mulWS x y
def rMany (K : PySem.W.Frag) : R2 := fun x y H Q => ∃ l k xs, x = .ref l ∧ y = .int k ∧ SqT K H l xs ∧ xs.length = 1 ∧ 2 ≤ k ∧ k ≤ 100000 ∧ ∀ p, H p = none → Q (.ref p) (upd H p (.tup (List.replicate k.toNat xs).flatten))
section
variable {X : Cx}
theorem op_many : OpR X (binaryOp .Mult) (rMany X.K) := by
  intro pn t σ H x y v u Q I rx ry h
  obtain ⟨l, k, xs, rfl, rfl, hT, hone, hlo, hhi, q⟩ := h
  cases rx
  obtain ⟨tk, rfl⟩ := ry
  obtain ⟨its, r, ⟨⟨cl, dd, dt, so⟩, ho, hc, n, hd⟩, hs⟩ := I.tuple hT
  simp only at hc hd
  subst hc hd
  have hl1 : its.length = 1 := r.length.symm.trans hone
  obtain ⟨w, rfl⟩ : ∃ w, its = [w] := by
    cases its with
    | nil => cases hl1
    | cons w ws =>
      cases ws with
      | nil => exact ⟨w, rfl⟩
      | cons _ _ => simp at hl1
  have hone2 : (((#[w] : Array Value).size : Nat) : Int) * k = k := by
    show ((1 : Nat) : Int) * k = k
    omega
  have hbig : ¬ (((#[w] : Array Value).size : Nat) : Int) * k > (2 ^ 63 - 1) / 8 := by
    rw [hone2]
    omega
  have hflat : ∀ j : Nat, (List.replicate j [w]).flatten.length = j := fun j => by
    rw [PyProof.Rows.lm_len_rep_flat]
    exact Nat.mul_one j
  have hbound : k.toNat ≤ sizeLine := by
    rw [sizeLine_eq]
    omega
  refine wpAny_binaryOp_repeat_ref (T := "tuple") (U := "int") (by decide) ⟨_, ho, rfl⟩ (fun z => typeIs_int z k tk) noFill_tuple_mul F.fills_int_mul F.slot_int_rmul repeat_tuple F.slot_int_index.lookup ?_
  refine call_meets F.slot_int_rmul (typeIs_int t k tk) F.entry_int_rmul (F.args_int_rmul_2 _ _) (int_rmul_tuple k tk l [w].toArray n dd so) ⟨ho, rfl, ⟨_, ho, rfl⟩, ?_⟩
  refine call_meets F.slot_tuple_mul ⟨_, ho, rfl⟩ F.entry_tuple_mul (F.args_tuple_mul_2 _ _) (tuple_mulW l [w].toArray n dd so k tk ?_ ?_ ?_ hbig ?_ ?_) ⟨ho, ?_⟩
  · rw [Bool.or_eq_false_iff]
    exact ⟨decide_eq_false (by omega), decide_eq_false (by omega)⟩
  · rw [Bool.or_eq_false_iff]
    exact ⟨rfl, beq_eq_false_iff_ne.mpr (by omega)⟩
  · rw [Bool.or_eq_false_iff]
    exact ⟨decide_eq_false (by omega), rfl⟩
  · unfold Builtin.Tuple.tupleTooMany
    rw [hone2, sizeLine_eq]
    exact decide_eq_false (by omega)
  · rw [size_rep, List.size_toArray, hflat]
    exact hbound
  · rw [size_rep]
    refine ⟨.ref t.heap.objs.size, _, I.laid (t' := t.toks) (o := .tup (List.replicate k.toNat xs).flatten) (fun b ob z => Heap.get?_push_of_some _ z) (Nat.le_refl _) ?_, rfl, q _ (I.hok.fresh (Nat.le_refl _))⟩
    refine ⟨?_, _, r.rep k.toNat, IsTup.new _ _⟩
    rw [PyProof.Rows.lm_len_rep_flat, hone, Nat.mul_one]
    exact hbound
def rMulW (K : PySem.W.Frag) : R2 := fun x y H Q => rMany K x y H Q ∨ rMulT K x y H Q
theorem op_mulW : OpR X (binaryOp .Mult) (rMulW X.K) := opOr op_many op_mulT
variable {C : Cc} {ρ : List Sl} {cls : Cl}
end
end G
set_option maxHeartbeats 2000000
namespace G
open PySem L2 PySem.Spec PyProof.Rows
section
variable {prog : Program} {w : World} {A : Around} {E : Value → Shared → Prop} {s : Shared} {K : PySem.W.Frag} {x y C f : Addr} {ox : Obj} {od : Option Obj} {name : Str}
open PySem.W in
theorem ifBound_B {M : Model} {id : String} {args : List Value} {Q : Option Value → Shared → Prop} (X : K.In s.heap) (I : InstAt s.heap x ox C od) (hs : findIn K (.ref C) name = some (some (.builtin id)))
    (hb : ∀ self, bindSpecial (.builtin id) self = pure (.builtin id, [self])) (h : wpAny M A (call (.builtin id) (.ref x :: args)) (fun v => Q (some v)) E s) : wpAny M A (callSpecialIfBound? (.ref x) name args) Q E s := by
  simp only [callSpecialIfBound?, bindSpecialIfBound?]
  refine wpAny_holding (wpAny_bind (wpAny_bind (wpAny_bind (I.type.here ((looks_findIn X hs).here ?_)))))
  simp only [hb]
  refine wpAny_bind (wpAny_askSetting (wpAny_ite ?_))
  have fin : wpAny M A (call (.builtin id) ([.ref x] ++ args) >>= fun v => pure (some v)) Q E s := wpAny_bind (wpAny_mono h (fun v s' h' => wpAny_pure h') fun _ _ h' => h')
  split
  · exact wpAny_bind (wpAny_pure (wpAny_pure fin))
  · exact wpAny_tryCatch (wpAny_bind (wpAny_pure (wpAny_pure fin)))
open PySem.W in
theorem ne_body {M : Model} {Q : Fin → Shared → Prop} (hu : A.units < cLine) (X : K.In s.heap) (I : InstAt s.heap x ox C od) (he : findIn K (.ref C) "__eq__" = some (some (.ref f))) (hf : isFn K (.ref f) = true)
    (h : wpAny M A (call (.ref f) [.ref x, .ref y]) (fun v s' => ∃ b, v = .bool b ∧ Q (.done (.ret (.bool !b))) s') E s) : wpAny M A (Builtin.«object.__ne__» ⟨[.ref x, .ref y], []⟩) Q E s := by
  have h2 : ∀ {R : Option Value → Shared → Prop}, (∀ b s', Q (.done (.ret (.bool !b))) s' → R (some (.bool b)) s') → wpAny M A (callSpecialIfBound? (.ref x) "__eq__" [.ref y]) R E s := fun hR =>
    ifBound_K X I he hf (wpAny_mono h (fun v s' ⟨b, e, q⟩ => by subst e; exact hR b s' q) fun _ _ e => e)
  unfold Builtin.«object.__ne__»
  obtain ⟨hp, g, d, t, os⟩ := s
  repeat (first | with_reducible refine wpAny_cRoomFor hu ?_ | with_reducible refine h2 ?_ | wp_step)
  intro b s' q
  obtain ⟨hp', g', d', t', os'⟩ := s'
  repeat wp_step
  exact q
open PySem.W in
theorem ne_walk {Q : Value → Shared → Prop} (hu : A.units + 1 < cLine) (X : K.In s.heap) (I : InstAt s.heap x ox C od) (J : Looks (model prog w) s.heap (typeOf (.ref y)) (.ref C))
    (hs : findIn K (.ref C) "__ne__" = some (some (.builtin "object.__ne__"))) (ho : subIn K (.ref C) (.type "object") = some true) (he : findIn K (.ref C) "__eq__" = some (some (.ref f))) (hf : isFn K (.ref f) = true)
    (h : wpAny (model prog w) A.in1 (call (.ref f) [.ref x, .ref y]) (fun v s' => ∃ b, v = .bool b ∧ Q (.bool !b) s') E s) : wpAny (model prog w) A (richCompare .NotEq (.ref x) (.ref y)) Q E s := by
  have hcall : wpAny (model prog w) A (call (.builtin "object.__ne__") [.ref x, .ref y]) (fun v s' => ∃ b, v = .bool b ∧ Q (.bool b) s') E s := by
    refine wpAny_call (codeAny_call_builtin F.cmp_object.ne.plain F.cmpEntry_ne (check_slot F.cmpKind_ne F.cmpSplit_ne (I.type.andThen (looks_subIn X ho)) (F.cmpArgs_ne _ _) ?_))
    exact ne_body hu X I he hf (wpAny_mono h (fun v s' ⟨b, e, q⟩ => ⟨b, e, _, rfl, q⟩) fun _ _ e => e)
  have one : wpAny (model prog w) A (tryCompare (.ref x) "__ne__" (.ref y)) (fun r s' => ∃ v, r = some v ∧ Q v s') E s := by
    unfold tryCompare
    refine wpAny_bind (ifBound_B X I hs (fun self => F.cmp_object.ne.bind self) (wpAny_mono hcall (fun v s' ⟨b, e, q⟩ => ?_) fun _ _ e => e))
    subst e
    exact wpAny_pure ⟨_, rfl, q⟩
  unfold richCompare
  simp only [oneThing_ref]
  refine wpAny_holding (wpAny_bind (wpAny_cRoomFor (by omega) ?_))
  refine wpAny_bind (I.type.here (wpAny_bind (J.here ?_)))
  rw [if_neg (by simp)]
  refine wpAny_bind (wpAny_pure ?_)
  simp only [Bool.false_eq_true, if_false]
  refine wpAny_bind (wpAny_mono one (fun r s' z => ?_) fun _ _ e => e)
  obtain ⟨v, rfl, hq⟩ := z
  exact wpAny_pure hq
end
def notB (x : D) : M D := match x with
  | .bl b => ret (.bl !b)
  | _ => bad
def neF (tb : Nat → Option (List D → M D)) (x y : D) (m : Hs) : Option (List D → M D) := match x, y with
  | .ref n, .ref k => match m[n]?, m[k]? with
    | some (.ins c _), some (.ins d _) => if c = d then tb c else none
    | _, _ => none
  | _, _ => none
def neS (tb : Nat → Option (List D → M D)) (x y : D) : M D := bnd (ask (neF tb x y)) fun g => bnd (calm (g [x, y])) notB
def neI (tb : Nat → Option (List D → M D)) (a b : M D) : M D := bnd a fun x => bnd b fun y => neS tb x y
section
variable {X : Cx} {C : Cc} {ρ : List Sl} {k : Nat} {gu : Bool}
def rNe {F : Type} (ok : Addr → F → Prop) (sp : F → Sp) : R2 := fun x y H Q => ∃ D' n a b dx dy fs gs, x = .ref a ∧ y = .ref b ∧ ok D' n ∧ H a = some (.ins D' dx fs) ∧ H b = some (.ins D' dy gs) ∧ sp n [.ref a, .ref b] H (fun v H' => ∃ r, v = .bl r ∧ Q (.bl !r) H') (fun _ _ _ => False)
theorem op_ne {F : Type} {sp : F → Sp} {ok : Addr → F → Prop} (hr : Room (k + 1) X.A) (cl : Clr gu X.A)
    (hM : ∀ D' n, ok D' n → PySem.W.findIn X.K (.ref D') "__ne__" = some (some (.builtin "object.__ne__")) ∧ PySem.W.subIn X.K (.ref D') (.type "object") = some true ∧ ∃ (f : Addr) (fd : FuncData) (ps : List Str), Cls X.K D' ∧ Meth X.K D' "__eq__" f ∧ Binds X.K fd ps [] ∧ FnG gu X.prog X.w X.K X.mg X.base (L2.CX X.prog X.w) k f fd ps (sp n)) :
    OpR X (compareOp .NotEq) (rNe ok sp) := by
  intro pins s σ H x y u v Q I rx ry h
  obtain ⟨D', n, a, b, dx, dy, fs, gs, rfl, rfl, hok, ea, eb, q⟩ := h
  obtain rfl : u = Value.ref a := rx
  obtain rfl : v = Value.ref b := ry
  obtain ⟨hn, hobj, f, fd, ps, c, hm, hb, F⟩ := hM D' n hok
  obtain ⟨mA, O, _, _, _, _⟩ := ins_get I.hok ea
  obtain ⟨od, J, _⟩ := O.look
  obtain ⟨mB, O2, _, _, _, _⟩ := ins_get I.hok eb
  obtain ⟨od2, J2, _⟩ := O2.look
  have hl : [V.ref a, V.ref b].length = ps.length := F.len _ _ _ _ q
  have b1 := hb s [.ref a, .ref b] I.kIn (by rw [List.append_nil]; exact hl)
  rw [List.append_nil] at b1
  show wpAny (model X.prog X.w) X.A (richCompare .NotEq (.ref a) (.ref b)) (EP X pins σ Q) X.xe s
  refine ne_walk (by have := hr.units; omega) I.kIn J J2.type hn hobj hm.at_ hm.fn ?_
  refine wpAny_call (codeAny_mono (F.run X.A.in1 X.stack s H ⟨[.ref a, .ref b], []⟩ [.ref a, .ref b] [.ref a, .ref b] _ (fun _ _ _ => False) hr.in1 cl.in1 I.env0.in1 b1 (.cons rfl (.cons rfl .nil)) q) fun r s' hq => ?_)
  cases r with
  | error er =>
    obtain ⟨_, _, _, _, _, _, _, _, _, _, _, _, z⟩ := hq
    exact z.elim
  | ok fl =>
    cases fl with
    | ret w' =>
      obtain ⟨v, H', I3, rv, r, e, q3⟩ := I.after hq
      subst e
      obtain rfl : w' = Value.bool r := rv
      exact ⟨r, rfl, .bl !r, H', I3, rfl, q3⟩
    | next => exact False.elim hq
    | brk => exact False.elim hq
    | cont => exact False.elim hq
structure InsC (K : PySem.W.Frag) (C : Addr) : Prop where
  cl : Cls K C
  ha : PySem.W.findIn K (.ref C) "__class__" = some (some (.builtin "object.__class__"))
  hn : PySem.W.specialIn K (.builtin "object.__class__") "__get__" = some (some (.builtin "getset_descriptor.__get__"))
  htk : PySem.W.takesIn K (.builtin "object.__class__") = some true
  hm : PySem.W.mroIn K C (.type "object") = some true
def isoO (ob : Nat → Option Bool) (x : D) (m : Hs) : Option Bool := match x with
  | .ref n => match m[n]? with
    | some (.ins c _) => ob c
    | _ => none
  | _ => none
def isoM (ob : Nat → Option Bool) (a : M D) : M D := bnd a fun x => bnd (ask (isoO ob x)) fun b => ret (.bl b)
end
end G
namespace G
open PySem L2 PySem.Spec PyProof.Rows
section
variable {K : PySem.W.Frag} {g g' : Gh} {H H' : Hp}
end
def sdOf (x : D) (m : Hs) : Option (List D × List D) := match x with
  | .ref n => match m[n]? with
    | some (.sd ks ds) => some (ks, ds)
    | _ => none
  | _ => none
def sdM (ks : List Str) (t : M (List D)) : M D := bnd t fun xs => newO (.sd (ks.map .str) xs)
theorem Rel.sd {Γ : Cst} {g : Gh} {H : Hp} {m : Hs} {n : Nat} {a : Addr} {ks ds : List D} (R : Rel Γ g m H) (h1 : m[n]? = some (.sd ks ds)) (h2 : g.hs[n]? = some a) : ∃ kvs, H a = some (.dK kvs) ∧ ks = keysK kvs ∧ RepL Γ.K g H (kvs.map (·.2)) ds := R.obj n _ a h1 h2
section
variable {X : Cx} {C : Cc} {ρ : List Sl} {A B : Type} {oa : A → List Sl} {ob : B → List Sl}
end
end G
namespace G
open PySem L2 PySem.Spec PyProof.Rows
def fstB (b : Bool) : List Bool → Option Nat
  | [] => none
  | x :: xs => if (x == b) = true then some 0 else (fstB b xs).map (· + 1)
def fidS (x y : D) : M D := match x, y with
  | .fl xs, .bl b => match blsOf xs with
    | some bs => match fstB b bs with
      | some j => ret (.int (j : Nat))
      | none => bad
    | none => bad
  | _, _ => bad
def fidB (a c : M D) : M D := bnd a fun x => bnd (ask (isFlO x)) fun _ => bnd c fun y => fidS x y
section
variable {X : Cx} {C : Cc} {ρ : List Sl}
end
end G
namespace G
open PySem L2 PySem.Spec PyProof.Rows
section
variable {X : Cx} {C : Cc} {ρ : List Sl} {k : Nat} {gu : Bool}
end
end G
namespace G
open PySem L2 PySem.Spec PyProof.Rows
section
variable {X : Cx} {pins : List (Addr × Obj)} {σ : L2.St} {H H' : Hp} {s : Shared} {h' : Heap} {tk : Nat}
variable {e : Expr} {te : TE} {p apos cpos pos : Pos}
end
def ndK : List D → Bool
  | [] => true
  | k :: ks => !(hasD ks k) && ndK ks
def dcpF (x : D) (m : Hs) : Option (List D × List D) := match sdOf x m with
  | some p => if ndK p.1 then some p else none
  | none => none
def dcpM (a : M D) : M D := bnd a fun x => bnd (ask (dcpF x)) fun p => newO (.sd p.1 p.2)
section
variable {X : Cx} {C : Cc} {ρ : List Sl}
end
end G
namespace G
open PySem L2 PySem.Spec PyProof.Rows
def neLF (x y : D) (m : Hs) : Option D := match lstOf x m, lstOf y m with
  | some xs, some [] => some (.bl (!xs.isEmpty))
  | _, _ => none
def neLS (x y : D) : M D := ask (neLF x y)
def neLM (a b : M D) : M D := bnd a fun x => bnd b fun y => neLS x y
section
variable {X : Cx} {C : Cc} {ρ : List Sl} {cls : Cl}
end
end G
set_option maxHeartbeats 4000000
namespace G
open PySem L2 PySem.Spec PyProof.Rows PySem.Calls
structure SupF (X : Cx) (f D C f2 : Addr) (fd : FuncData) (ar : Arg) : Prop where
  fu : X.env.func = some f
  lk : ∃ oc od osl, X.K.lookup f = some ⟨oc, od, .func fd, osl⟩
  hp : (fd.params.posonlyargs ++ fd.params.args).head? = some ar
  co : ∃ cda ccl cdd vs ccs file tf, X.env.code = .ref cda ∧ X.K.lookup cda = some ⟨ccl, cdd, .fields vs, ccs⟩ ∧ vs[2]? = some (.str file tf) ∧ ((X.prog.main.file : Str) == file) = true
  ce : ∃ cc c d sl, X.env.cells.lookup ("__class__" : Str) = some cc ∧ X.K.lookup cc = some ⟨c, d, .cell (some (.ref D)), sl⟩
  dc : ∃ cd, PySem.W.clsIn X.K D = some cd
  sb : PySem.W.mroIn X.K C (.ref D) = some true
  gs : X.mg "super" = none
  ks : X.env.scope.names.lookup ("super" : Str) = some .globalImplicit
  kc : X.env.scope.names.lookup ("__class__" : Str) = some .free
  ka : X.env.scope.names.lookup ar.arg = some .local
  tp : (X.prog.main.scope.names.lookup ("super" : Str)).isSome = false
  op : PySem.W.nsIn X.K cStatics "thirdparty.any" = some none
  mt : PySem.W.ks_superIn X.K C D "__init__" = some (some (.ref f2))
  ty : PySem.W.typeIn X.K (.ref f2) = some (.type "function")
section
variable {X : Cx} {pins : List (Addr × Obj)} {σ : L2.St} {H : Hp} {s : Shared} {f D C f2 a dx : Addr} {fd : FuncData} {ar : Arg} {fs : List (Str × V)} {i : Nat}
variable {k : Nat} {CX : CXT} {ps : List Str} {sp : Sp} {e : Expr} {es : List Expr} {t : TA} {te : TE} {E0 : L2.St → XK}
structure PEA (X : Cx) (body : List Stmt) (e : Expr) (t : TE) : Prop where
  run : ∀ (pins : List (Addr × Obj)) (s : Shared) (σ : L2.St) (H : Hp) (Q : VK), L2.Inv X pins σ H s → t σ H Q → _root_.PySem.wpAt (model X.prog X.w) X.A (.func body X.env) (eval e X.env) (EP X pins σ Q) X.xe s
structure PSA (X : Cx) (body : List Stmt) (st : List Stmt) (t : TS) : Prop where
  run : ∀ (pins : List (Addr × Obj)) (s : Shared) (σ : L2.St) (H : Hp) (D : Ends), L2.Inv X pins σ H s → t D σ H → _root_.PySem.wpAt (model X.prog X.w) X.A (.func body X.env) (execs st X.env) (SP X pins D) X.xe s
theorem PSA.imp {body st : List Stmt} {t u : TS} (h : PSA X body st t) (q : ∀ D σ H, u D σ H → t D σ H) : PSA X body st u := ⟨fun pins s σ H D I z => h.run pins s σ H D I (q _ _ _ z)⟩
end
section
variable {X : Cx} {C : Cc} {ρ : List Sl} {A B : Type} {oa : A → List Sl} {ob : B → List Sl} {k i j c : Nat} {f D0 C0 f2 : Addr} {fd fdM : FuncData} {ar : Arg} {ps : List Str} {t2 : List D → M D}
end
section
variable {P : Program} {w : World} {K : PySem.W.Frag} {mg : Str → Option Value} {base : Heap} {cls : Cl} {k : Nat} {f cc : Addr} {N ps : List Str}
end
end G
set_option maxHeartbeats 2000000
namespace G
open PySem L2 PySem.Spec PyProof.Rows
def rptS : D → D → M D
  | .str s, .int k => if s.length ≤ 16 ∧ -(2 ^ 63) ≤ k ∧ k ≤ 1048576 then ret (.str (Txt.mul s k)) else bad
  | _, _ => bad
def rptM (a b : M D) : M D := bnd a fun x => bnd b fun y => rptS x y
section
variable {X : Cx} {C : Cc} {ρ : List Sl} {cls : Cl}
end
end G
namespace G
open PySem L2 PySem.Spec PyProof.Rows
section
variable {X : Cx} {x n : Str} {c : Value} {i j : Nat} {body : List Stmt} {b₀ : Stmt} {np pos pos' : Pos} {tb : WX → TS} {Wout : WX}
end
def noOwn (ρ : List Sl) : Prop := ∀ (i : Nat) (xs : List D), ρ[i]? ≠ some (.own xs)
section
variable {X : Cx} {C : Cc} {ρ : List Sl} {k : Nat} {A B A1 : Type} {oa : A → List Sl} {ob : B → List Sl} {oa1 : A1 → List Sl}
end
end G
namespace G
open PySem L2 PySem.Spec PyProof.Rows
theorem noOwn.nil : noOwn [] := fun i xs e => by simp at e
theorem noOwn.un {ρ : List Sl} (h : noOwn ρ) : noOwn (.un :: ρ) := fun i xs e => by
  cases i with
  | zero => simp at e
  | succ i => exact h i xs (by simpa using e)
theorem noOwn.val {d : D} {ρ : List Sl} (h : noOwn ρ) : noOwn (.val d :: ρ) := fun i xs e => by
  cases i with
  | zero => simp at e
  | succ i => exact h i xs (by simpa using e)
end G
namespace G
open PySem L2 PySem.Spec PyProof.Rows
section
variable {X : Cx} {x n : Str} {c : Value} {i : Nat} {body : List Stmt} {b₀ : Stmt} {np pos pos' : Pos} {tb : WX → TS} {tsu : TS} {Wout : WX}
end
def W0 : WX := fun _ _ _ _ => False
section
variable {X : Cx} {C : Cc} {ρ : List Sl} {k : Nat} {A B A1 : Type} {oa : A → List Sl} {ob : B → List Sl} {oa1 : A1 → List Sl}
end
end G
set_option maxHeartbeats 4000000
namespace G
open PySem L2 PySem.Spec PyProof.Rows PySem.Calls
def kw2 {α : Type} (sw : Bool) (ka kb : Str) (a b : α) : List (Str × α) := if sw = true then [(kb, b), (ka, a)] else [(ka, a), (kb, b)]
def FnRM (gu : Bool) (P : Program) (w : World) (K : PySem.W.Frag) (mg : Str → Option Value) (base : Heap) (CX : CXT) (k : Nat) (f : Addr) (ka kb : Str) (sw : Bool) (sp : Sp) : Prop :=
  ∀ (A : Around) (outer : List Env) (s : Shared) (H : Hp) (x ua ub : Value) (us : List Value) (v va vb : V) (vs : List V) (Q : VK) (E : XK), Room k A → Clr gu A → Env0 P w K mg base A outer s H → RelV v x → RelV va ua → RelV vb ub → Vals vs us → sp (v :: va :: vb :: vs) H Q E →
    codeAny (model P w) A (.call (.ref f) ⟨x :: us, kw2 sw ka kb ua ub⟩) (CR CX outer P w H s Q E) s
section
variable {gu : Bool} {P : Program} {w : World} {K : PySem.W.Frag} {mg : Str → Option Value} {base : Heap} {cls : Cl} {k : Nat}
end
theorem FnRM.mono {gu : Bool} {P : Program} {w : World} {K : PySem.W.Frag} {mg : Str → Option Value} {base : Heap} {CX : CXT} {j k : Nat} {f : Addr} {ka kb : Str} {sw : Bool} {sp : Sp} (F : FnRM gu P w K mg base CX j f ka kb sw sp) (h : j ≤ k) : FnRM gu P w K mg base CX k f ka kb sw sp := fun A outer s H x ua ub us v va vb vs Q E hr => F A outer s H x ua ub us v va vb vs Q E (hr.mono h)
section
variable {gu : Bool} {X : Cx} {C : Cc} {ρ : List Sl} {k : Nat}
end
end G
set_option maxHeartbeats 2000000
namespace G
open PySem L2 PySem.Spec PyProof.Rows
theorem walkGE {l : PySem.W.OpenLaw} {n k : Nat} {q : Program} {loose : List Str} {XP : (Str → Option Value) → Heap → Prop} {YP : World → Heap → Prop} {d : DefRec} {CX : World → CXT} {x : Str}
    (most : l.most = some n) (few : n ≤ sizeLine) (defs : d.params.defaults = []) (room : Room k callerA)
    (F : ∀ (w : World) (gl : Str → Option Value) (fa : Addr) (h : Heap), YP w h → h.Ns mainGlobals gl → gl d.name = some (.ref fa) →
      ∃ (K : PySem.W.Frag) (fd : FuncData) (sp : Sp), K.In h ∧ (∀ (s : Shared) (u : Value), BindsTo s fd ⟨[u], []⟩ [(x, u)]) ∧ (∀ (J : Hp) (a : Addr) (zs : List Int), zs.length ≤ n → Only J → SqL K J a (zs.map V.int) → sp [.ref a] J (fun v _ => v = .bl true) fun _ _ _ => False) ∧
        ∀ b0 : Heap, K.In b0 → b0.Ns mainGlobals gl → FnG true l.prog w K gl b0 (CX w) k fa fd [x] sp)
    (noX : ∀ (w : World) (J : Hp) (s : Shared) (e : Value) (s' : Shared), CX w [] J s (fun _ _ _ => False) e s' → False) :
    PySem.W.WalkO q loose XP YP l.row.toRowW d [] (fun f vs => PySem.call f vs) := by
  refine Att.attach_call most defs fun w s0 s1 gl bl fa o pm cd doc a vs zs T Y ho hd hcd at1 scr isz len gens => ?_
  obtain ⟨K, fd, sp, inK, hb, hp, hF⟩ := F w gl fa _ Y T.T.g at1
  exact lawG inK T.T.g T.T.b T.T.builtins T.T.nolimit gens scr isz (Nat.le_trans len few) room hF hb (fun J hO hS => hp J a zs len hO hS) fun J e s' => noX w J s1 e s'
end G
set_option maxHeartbeats 4000000
namespace G
open PySem L2 PySem.Spec PyProof.Rows PySem.Calls
def FnRM1 (gu : Bool) (P : Program) (w : World) (K : PySem.W.Frag) (mg : Str → Option Value) (base : Heap) (CX : CXT) (k : Nat) (f : Addr) (ka : Str) (d : Int) (sp : Sp) : Prop :=
  ∀ (A : Around) (outer : List Env) (s : Shared) (H : Hp) (x ua : Value) (us : List Value) (v va : V) (vs : List V) (Q : VK) (E : XK), Room k A → Clr gu A → Env0 P w K mg base A outer s H → RelV v x → RelV va ua → Vals vs us → sp (v :: va :: V.int d :: vs) H Q E →
    codeAny (model P w) A (.call (.ref f) ⟨x :: us, [(ka, ua)]⟩) (CR CX outer P w H s Q E) s
section
variable {gu : Bool} {P : Program} {w : World} {K : PySem.W.Frag} {mg : Str → Option Value} {base : Heap} {cls : Cl} {k : Nat}
end
theorem FnRM1.mono {gu : Bool} {P : Program} {w : World} {K : PySem.W.Frag} {mg : Str → Option Value} {base : Heap} {CX : CXT} {j k : Nat} {f : Addr} {ka : Str} {d : Int} {sp : Sp} (F : FnRM1 gu P w K mg base CX j f ka d sp) (h : j ≤ k) : FnRM1 gu P w K mg base CX k f ka d sp := fun A outer s H x ua us v va vs Q E hr => F A outer s H x ua us v va vs Q E (hr.mono h)
section
variable {gu : Bool} {X : Cx} {C : Cc} {ρ : List Sl} {k : Nat}
end
end G
namespace L2
open PySem PySem.Spec PyProof.Rows
section
variable {X : Cx} {pins : List (Addr × Obj)} {σ : St} {H : Hp} {s : Shared} {d : Addr} {o : Obj}
end
section
variable {P : Program} {w : World} {K : PySem.W.Frag} {tg : Expr} {d : Addr} {o : Obj} {es : Array DictEntry} {ep : Nat}
end
section
variable {X : Cx} {tg e : Expr} {td : TE} {apos cpos : Pos}
end
end L2
namespace G
open PySem L2 PySem.Spec PyProof.Rows
structure TL (H H' : Hp) : Prop where
  tup : ∀ a xs, H a = some (.tup xs) → H' a = some (.tup xs)
  ft : ∀ a o xs, H a = some (.frz o (.tup xs)) → H' a = some (.frz o (.tup xs))
  fl : ∀ a o xs, H a = some (.frz o (.lst xs)) → H' a = some (.frz o (.lst xs))
section
variable {K : PySem.W.Frag} {g g' : Gh} {H H' : Hp}
theorem TL.seqT {a : Addr} {xs : List V} (t : TL H H') (h : SqT K H a xs) : SqT K H' a xs := by
  rcases h with (h | ⟨o, h⟩) | h
  · exact .inl (.inl (t.tup _ _ h))
  · exact .inl (.inr ⟨o, t.ft _ _ _ h⟩)
  · exact .inr h
mutual
theorem Rep.monoL (p : Lv0 g g') (t : TL H H') : ∀ {v : V} {d : D}, Rep K g H v d → Rep K g' H' v d
  | _, _, .non => .non
  | _, _, .bl b => .bl b
  | _, _, .int i => .int i
  | _, _, .str x => .str x
  | _, _, .tup h r => .tup (t.seqT h) (RepL.monoL p t r)
  | _, _, .kt h r => .kt (t.tup _ _ h) (RepL.monoL p t r)
  | _, _, .fl h r => .fl (p.fz _ h) (RepL.monoL p t r)
  | _, _, .sc h r => .sc (by
      rcases h with ⟨o, h⟩ | h
      · exact .inl ⟨o, t.fl _ _ _ h⟩
      · exact .inr h) (RepL.monoL p t r)
  | _, _, .fd h r => .fd (p.fz _ h) (RepL.monoL p t r)
  | _, _, .ref h => .ref (pre_get p.hs h)
theorem RepL.monoL (p : Lv0 g g') (t : TL H H') : ∀ {vs : List V} {ds : List D}, RepL K g H vs ds → RepL K g' H' vs ds
  | _, _, .nil => .nil
  | _, _, .cons r s => .cons (Rep.monoL p t r) (RepL.monoL p t s)
end
theorem RepF.monoL (p : Lv0 g g') (t : TL H H') : ∀ {vs : List (Str × V)} {ds : List (Str × D)}, RepF K g H vs ds → RepF K g' H' vs ds
  | _, _, .nil => .nil
  | _, _, .cons r s => .cons (r.monoL p t) (RepF.monoL p t s)
theorem TL.trans {H1 H2 : Hp} (a : TL H H1) (b : TK H1 H2) : TL H H2 := ⟨fun x xs h => b.tup _ _ (a.tup _ _ h), fun x o xs h => b.frz _ _ _ (a.ft _ _ _ h), fun x o xs h => b.frz _ _ _ (a.fl _ _ _ h)⟩
end
section
variable {Γ : Cst} {g g' gB : Gh} {H H' : Hp} {m : Hs} {σ : L2.St} {ρ : List Sl}
theorem ObjR.monoL {a : Addr} (pg : Lv0 g g') (t : TL H H') (e : ∀ b o, (b = a ∨ ∃ vs, o = .xd vs) → H b = some o → H' b = some o) {o : O} (h : ObjR Γ g H a o) : ObjR Γ g' H' a o := by
  cases o with
  | lst ds => obtain ⟨xs, h1, h2⟩ := h; exact ⟨xs, e _ _ (.inl rfl) h1, h2.monoL pg t⟩
  | ins c fs => obtain ⟨C, dx, vs, h0, h1, h2⟩ := h; exact ⟨C, dx, vs, h0, e _ _ (.inl rfl) h1, h2.monoL pg t⟩
  | exc c fs =>
    obtain ⟨C, d, vs, h0, h1, h2, h3⟩ := h
    refine ⟨C, d, vs, h0, e _ _ (.inl rfl) h1, ?_, h3.monoL pg t⟩
    cases d with
    | none => exact h2
    | some d => exact e _ _ (.inr ⟨_, rfl⟩) h2
  | dct ks ds =>
    obtain ⟨kvs, h1, h2, h3⟩ := h
    exact ⟨kvs, e _ _ (.inl rfl) h1, h2, h3.monoL pg t⟩
  | sd ks ds =>
    obtain ⟨kvs, h1, h2, h3⟩ := h
    exact ⟨kvs, e _ _ (.inl rfl) h1, h2, h3.monoL pg t⟩
  | zd ks ds =>
    obtain ⟨o, kvs, h1, h2, h3⟩ := h
    exact ⟨o, kvs, e _ _ (.inl rfl) h1, h2, h3.monoL pg t⟩
theorem RelS.monoL (h : RelS Γ gB g H ρ σ) (t : TL H H') : RelS Γ gB g H' ρ σ := by
  refine ⟨h.len, fun i d e => ?_, fun i xs e => ?_, h.inj, h.raw⟩
  · obtain ⟨v, h1, h2⟩ := h.val i d e
    exact ⟨v, h1, h2.monoL (Lv0.refl g) t⟩
  · obtain ⟨b, ws, h1, h2, h3, h4⟩ := h.own i xs e
    exact ⟨b, ws, h1, h2, h3.monoL (Lv0.refl g) t, h4⟩
end
section
variable {X : Cx} {C : Cc} {ρ ρ' : List Sl} {A B A' B' : Type} {oa : A → List Sl} {ob : B → List Sl}
end
end G
namespace L2
open PySem PySem.Spec PyProof.Rows
section
variable {X : Cx}
end
end L2
namespace G
open PySem L2 PySem.Spec PyProof.Rows
section
variable {X : Cx} {C : Cc} {ρ : List Sl} {cls : Cl}
end
end G
namespace G
open PySem L2 PySem.Spec PyProof.Rows
section
variable {prog : Program} {w : World} {A : Around} {E : Value → Shared → Prop} {s : Shared} {K : PySem.W.Frag} {x C f : Addr} {ox : Obj} {od : Option Obj} {a ta : Value} {op : CmpOp}
open PySem.W in
end
open PySem.SeqAt MeetsSeq in
open AutoSeq1 (wpAny_loadPart') in
open PySem.SeqAt MeetsSeq in
open AutoSeq1 (wpAny_loadPart') in
open PySem.SeqAt MeetsSeq in
open AutoSeq1 (wpAny_loadPart') in
inductive AtV (K : PySem.W.Frag) (H : Hp) : V → String → Prop
  | non : AtV K H .non "NoneType"
  | int (i : Int) : AtV K H (.int i) "int"
  | str (x : Str) : AtV K H (.str x) "str"
  | tup {a : Addr} {xs : List V} (h : SqT K H a xs) : AtV K H (.ref a) "tuple"
section
variable {X : Cx} {pins : List (Addr × Obj)} {σ : L2.St} {H : Hp} {s : Shared} {x : V} {u : Value} {T : String}
open PySem.SeqAt MeetsSeq in
end
def atN : List String := ["NoneType", "int", "str", "tuple"]
structure EqC (K : PySem.W.Frag) (C : Addr) : Prop where
  it : ∀ T, T ∈ atN → PySem.W.subIn K (.type T) (.ref C) = some false
  ti : ∀ T, T ∈ atN → PySem.W.subIn K (.ref C) (.type T) = some false
theorem AtV.mem {K : PySem.W.Frag} {H : Hp} {x : V} {T : String} (h : AtV K H x T) : T ∈ atN := by
  cases h <;> simp [atN]
def qB (Q : VK) : VK := fun v H' => ∃ r, v = .bl r ∧ Q (.bl r) H'
section
variable {X : Cx} {C : Cc} {ρ : List Sl} {k : Nat} {gu : Bool}
def rEq {F : Type} (K : PySem.W.Frag) (ok : Addr → F → Prop) (sp : F → Sp) : R2 := fun x y H Q => ∃ D' n, ok D' n ∧
  ((∃ a dx fs, x = .ref a ∧ H a = some (.ins D' dx fs) ∧ ((∃ T, AtV K H y T ∧ PySem.W.notFirst K D' (.type T) = true) ∨ ∃ b E dy gs, y = .ref b ∧ H b = some (.ins E dy gs) ∧ PySem.W.notFirst K D' (.ref E) = true) ∧ sp n [x, y] H (qB Q) (fun _ _ _ => False)) ∨
   (∃ b dy gs, y = .ref b ∧ H b = some (.ins D' dy gs) ∧ ((∃ T, AtV K H x T ∧ PySem.W.subIn K (.ref D') (.type T) = some false) ∨ ∃ a E dx fs, x = .ref a ∧ H a = some (.ins E dx fs) ∧ E ≠ D' ∧ PySem.W.subIn K (.ref D') (.ref E) = some true) ∧ sp n [y, x] H (qB Q) (fun _ _ _ => False)))
def atB : D → Bool
  | .non => true
  | .int _ => true
  | .str _ => true
  | .tup _ => true
  | _ => false
def eqIF (tb : Nat → Option (List D → M D)) (sb : Nat → Nat → Option Bool) (x y : D) (m : Hs) : Option (M D) := match x with
  | .ref n => match m[n]? with
    | some (.ins c _) => match y with
      | .ref k => match m[k]? with
        | some (.ins d _) => match sb c d with
          | some true => (tb d).map fun f => f [y, x]
          | some false => (tb c).map fun f => f [x, y]
          | none => none
        | _ => none
      | y => if atB y = true then (tb c).map fun f => f [x, y] else none
    | _ => none
  | x => if atB x = true then match y with
    | .ref k => match m[k]? with
      | some (.ins d _) => (tb d).map fun f => f [y, x]
      | _ => none
    | _ => none
    else none
def itB (x : D) : M D := match x with
  | .bl b => ret (.bl b)
  | _ => bad
def eqIS (tb : Nat → Option (List D → M D)) (sb : Nat → Nat → Option Bool) (x y : D) : M D := bnd (ask (eqIF tb sb x y)) fun t => bnd (calm t) itB
def eqI (tb : Nat → Option (List D → M D)) (sb : Nat → Nat → Option Bool) (a b : M D) : M D := bnd a fun x => bnd b fun y => eqIS tb sb x y
def isoO2 (ob : Nat → Option Bool) (x : D) (m : Hs) : Option Bool := if atB x = true then some false else isoO ob x m
def isoN (ob : Nat → Option Bool) (a : M D) : M D := bnd a fun x => bnd (ask (isoO2 ob x)) fun b => ret (.bl b)
theorem AtV.ty {K : PySem.W.Frag} {H : Hp} {x : V} {T : String} (h : AtV K H x T) : TyX K H x (.type T) := by
  cases h with
  | non => exact .base .non
  | int i => exact .base (.int i)
  | str y => exact .base (.str y)
  | tup h =>
    rcases h with (h | ⟨o, h⟩) | ⟨o, its, n, h1, h2, _⟩
    · exact .base (.tup h)
    · exact .fTuple h
    · exact .kTuple h1 h2
end
section
variable {prog : Program} {w : World} {A : Around} {E : Value → Shared → Prop} {s : Shared} {K : PySem.W.Frag} {x y C f : Addr} {ox : Obj} {od : Option Obj} {tb : Value}
open PySem.W in
open PySem.W in
open PySem.W in
end
section
variable {X : Cx} {C : Cc} {ρ : List Sl} {k : Nat} {gu : Bool}
def nB (Q : VK) : VK := fun v H' => ∃ r, v = .bl r ∧ Q (.bl !r) H'
def nqF (tb : Nat → Option (List D → M D)) (sb : Nat → Nat → Option Bool) (x y : D) (m : Hs) : Option (M D) := match x, y with
  | .ref n, .ref k => match m[n]?, m[k]? with
    | some (.ins c _), some (.ins d _) => match sb c d with
      | some true => (tb d).map fun f => f [y, x]
      | some false => (tb c).map fun f => f [x, y]
      | none => none
    | _, _ => none
  | _, _ => none
def nqS (tb : Nat → Option (List D → M D)) (sb : Nat → Nat → Option Bool) (x y : D) : M D := bnd (ask (nqF tb sb x y)) fun t => bnd (calm t) notB
def nqI (tb : Nat → Option (List D → M D)) (sb : Nat → Nat → Option Bool) (a b : M D) : M D := bnd a fun x => bnd b fun y => nqS tb sb x y
end
end G
namespace G
open PySem L2 PySem.Spec PyProof.Rows
def txB {β : Type} (x : D) (f : Str → M β) : M β := match x with
  | .str s => f s
  | _ => bad
def strsL : List D → Option (List Str)
  | [] => some []
  | .str s :: xs => (strsL xs).map (s :: ·)
  | _ => none
def strsOf (x : D) (m : Hs) : Option (List Str) := (itemsOf x m).bind strsL
def spltM (a b : M D) : M D := bnd a fun x => txB x fun s => bnd b fun y => txB y fun t => if (t.length == 0) = false ∧ s.length + 2 ≤ sizeLine then ret (.fl ((Txt.split s t).map .str)) else bad
def prtM (a b : M D) : M D := bnd a fun x => txB x fun s => bnd b fun y => txB y fun t => if (t.length == 0) = false ∧ s.length ≤ sizeLine then ret (.tup [.str (Txt.partition s t).1, .str (Txt.partition s t).2.1, .str (Txt.partition s t).2.2]) else bad
def joinM (a b : M D) : M D := bnd a fun x => txB x fun s => bnd b fun y => bnd (ask (strsOf y)) fun ys => if (ys.map (·.length)).sum + ys.length * s.length ≤ 16777216 then ret (.str (Txt.join s ys)) else bad
def fmtS : D → M D
  | .str s => if s.length ≤ sizeLine then ret (.str s) else bad
  | .int i => if i.natAbs.log2 < 1920 then ret (.str (toString i)) else bad
  | _ => bad
def fmtM (a : M D) : M D := bnd a fmtS
def fsM : List (M D) → Str → M D
  | [], acc => ret (.str acc)
  | t :: ts, acc => bnd t fun x => txB x fun y => if (acc ++ y).length ≤ sizeLine then fsM ts (acc ++ y) else bad
def chrs (s : Str) : List D := s.cps.toList.map fun c => .str ⟨#[c]⟩
def chrI (t : M D) : M Its := bnd t fun x => txB x fun s => ret (chrs s, [])
def sgnOf (s : Str) : Option Nat := match s.cps.toList with
  | [c] => some c
  | _ => none
def insS (x y : D) : M D := txB x fun s => txB y fun z => match sgnOf s with
  | some c => ret (.bl (decide (c ∈ z.cps.toList)))
  | none => bad
def insM (a b : M D) : M D := bnd a fun x => bnd b fun y => insS x y
def ixtS (x y : D) : M D := match x, y with
  | .str z, .int i => if z.length ≤ sizeLine then (match atI z.cps.toList i with
    | some c => ret (.str ⟨#[c]⟩)
    | none => bad) else bad
  | _, _ => bad
def ixtM (a b : M D) : M D := bnd a fun x => bnd b fun y => ixtS x y
def idaS (x y : D) : M D := match x with
  | .str z => ixtS (.str z) y
  | x => idxS x y
def idaM (a b : M D) : M D := bnd a fun x => bnd b fun y => idaS x y
def slcT (x : D) (lo hi : Option Int) : M D := txB x fun z => if z.length ≤ sizeLine then ret (.str (cutS z lo hi)) else bad
def slcTM (a : M D) (lo hi : M (Option Int)) : M D := bnd a fun x => bnd lo fun l => bnd hi fun h => slcT x l h
section
variable {X : Cx} {C : Cc} {ρ : List Sl}
theorem Post.txB {β B : Type} {Γ : Cst} {K : PySem.W.Frag} {W : WX} {rep : Gh → Hp → B → β → Prop} {σ : L2.St} {g g0 : Gh} {H H0 : Hp} {Q : B → Hp → Prop} {x : D} {v : V} {f : Str → M β} {m : Hs} (hv : Rep K g0 H0 v x) (q : Post Γ W rep σ g H Q (txB x f m)) : ∃ s, x = .str s ∧ v = .str s ∧ Post Γ W rep σ g H Q (f s m) := by
  cases hv with
  | str s => exact ⟨s, rfl, rfl, q⟩
  | _ => exact q.elim
end
end G
namespace G
open PySem L2 PySem.Spec PyProof.Rows
section
variable {X : Cx} {C : Cc} {ρ : List Sl} {k kr : Nat} {gu : Bool}
end
section
variable {gu : Bool} {P : Program} {w : World} {K : PySem.W.Frag} {mg : Str → Option Value} {base : Heap} {cls : Cl} {k : Nat}
end
end G
namespace G
open PySem L2 PySem.Spec PyProof.Rows
structure LamY (sc scope : Scope) (y : Str) (N : List Str) : Prop where
  kind : scope.kind = .function
  co : scope.isCoroutine = false
  gen : scope.isGenerator = false
  own : ∀ z ∈ scope.names, z.2 ≠ .cell ∧ (z.2 = .local → z.1 = y)
  loc : scope.names.lookup y = some .local
  free : ∀ z ∈ scope.names, z.2 = .free → sc.names.lookup z.1 = some .cell ∨ sc.names.lookup z.1 = some .free
  new : y ∉ N
theorem LamY.has {X : Cx} {scope : Scope} {y : Str} {N : List Str} (L : LamY X.env.scope scope y N) (ok : X.Ok) : ∀ z ∈ scope.names, z.2 = .free → ∃ c, X.env.cells.lookup z.1 = some c := fun z hz e => by
  rcases L.free z hz e with q | q
  · exact ok.has _ (.inl q)
  · exact ok.has _ (.inr q)
section
variable {X : Cx} {pins : List (Addr × Obj)} {σ : L2.St} {H HZ : Hp} {s s1 : Shared}
theorem vals1 {v : V} {us : List Value} (r : Vals [v] us) : ∃ u, us = [u] ∧ RelV v u := by
  cases r with
  | cons r rr =>
    cases rr
    exact ⟨_, rfl, r⟩
end
theorem RelS.snoc {Γ : Cst} {gB g : Gh} {H : Hp} {ρ : List Sl} {σ : L2.St} {v : V} {d : D} (h : RelS Γ gB g H ρ σ) (r : Rep Γ.K g H v d) : RelS Γ gB g H (ρ ++ [.val d]) (σ ++ [some v]) := by
  have cs : ∀ (i : Nat) (x : Sl), (ρ ++ [.val d])[i]? = some x → (ρ[i]? = some x ∧ (σ ++ [some v])[i]? = σ[i]?) ∨ (i = ρ.length ∧ x = .val d ∧ (σ ++ [some v])[i]? = some (some v)) := fun i x e => by
    by_cases hi : i < ρ.length
    · rw [List.getElem?_append_left hi] at e
      exact .inl ⟨e, List.getElem?_append_left (by rw [← h.len]; exact hi)⟩
    · have hl : i < (ρ ++ [Sl.val d]).length := (List.getElem?_eq_some_iff.mp e).1
      have hi2 : i = ρ.length := by rw [List.length_append, List.length_singleton] at hl; omega
      subst hi2
      rw [List.getElem?_append_right (Nat.le_refl _)] at e
      simp at e
      exact .inr ⟨rfl, e.symm, by rw [h.len, List.getElem?_append_right (Nat.le_refl _)]; simp⟩
  refine ⟨by rw [List.length_append, List.length_append, h.len]; rfl, fun i e q => ?_, fun i xs q => ?_, fun i j xs ys a q1 q2 q3 q4 => ?_, fun i w q => ?_⟩
  · rcases cs i _ q with ⟨q, z⟩ | ⟨_, q, z⟩
    · obtain ⟨v', h1, h2⟩ := h.val i e q
      exact ⟨v', by rw [z]; exact h1, h2⟩
    · cases q
      exact ⟨v, z, r⟩
  · rcases cs i _ q with ⟨q, z⟩ | ⟨_, q, z⟩
    · obtain ⟨a, vs, h1, h2, h3⟩ := h.own i xs q
      exact ⟨a, vs, by rw [z]; exact h1, h2, h3⟩
    · cases q
  · rcases cs i _ q1 with ⟨q1, z1⟩ | ⟨_, q1, _⟩
    · rcases cs j _ q2 with ⟨q2, z2⟩ | ⟨_, q2, _⟩
      · rw [z1] at q3
        rw [z2] at q4
        exact h.inj i j xs ys a q1 q2 q3 q4
      · cases q2
    · cases q1
  · rcases cs i _ q with ⟨q, z⟩ | ⟨_, q, _⟩
    · rw [z]; exact h.raw i w q
    · cases q
section
variable {X : Cx} {C : Cc} {ρ : List Sl} {k : Nat}
end
end G
set_option maxHeartbeats 1000000
namespace L2
open PySem PySem.Spec PyProof.Rows PySem.W
section
variable {prog : Program} {w : World} {A : Around} {E : Value → Shared → Prop} {s : Shared}
end
section
variable {prog : Program} {w : World} {A : Around} {E : Value → Shared → Prop} {s : Shared} {z TI TO i1 i2 i3 T : Addr} {f : Bool} {oT : Obj} {fp1 fp2 fp3 : List Addr} {n1 n2 n3 i : Nat} {P1 P2 P3 : Nat → Value → Prop} {St1 St2 St3 : Nat → Heap → Prop}
end
section
variable {prog : Program} {w : World} {A : Around} {z TI TO i1 i2 i3 S B : Nat} {fp1 fp2 fp3 : List Addr} {n1 n2 n3 : Nat} {P1 P2 P3 : Nat → Value → Prop} {St1 St2 St3 : Nat → Heap → Prop}
structure Z3At (z TI TO i1 i2 i3 : Addr) (St1 St2 St3 : Nat → Heap → Prop) (B : Nat) (h : Heap) (k : Nat) : Prop where
  out : (IsZip h z TI TO .none ∧ ∃ x y u, IsTupOf3 h TO x y u) ∨ ∃ T f o, B ≤ T ∧ IsZipHeld h z TI TO T f ∧ h.get? T = some o
  ti : IsTupOf3 h TI (.ref i1) (.ref i2) (.ref i3)
  s1 : St1 k h
  s2 : St2 k h
  s3 : St3 k h
structure Z3Low (z TI TO S B : Nat) (fp1 fp2 fp3 : List Addr) : Prop where
  z : z < B
  TI : TI < B
  TO : TO < B
  S : S < B
  f1 : ∀ b : Nat, b ∈ fp1 → b < B
  f2 : ∀ b : Nat, b ∈ fp2 → b < B
  f3 : ∀ b : Nat, b ∈ fp3 → b < B
structure Z3Ne (z TI TO S : Nat) (fp1 fp2 fp3 : List Addr) : Prop where
  z : S ≠ z
  TI : S ≠ TI
  TO : S ≠ TO
  f1 : S ∉ fp1
  f2 : S ∉ fp2
  f3 : S ∉ fp3
structure Z3Out (P1 P2 P3 : Nat → Value → Prop) (B : Nat) (h : Heap) (ts : List Addr) : Prop where
  ge : ∀ t, t ∈ ts → B ≤ t ∧ t < h.objs.size
  nd : ts.Nodup
  at' : ∀ (j : Nat) t, ts[j]? = some t → ∃ x y u, P1 j x ∧ P2 j y ∧ P3 j u ∧ IsTupOf3 h t x y u
theorem Z3Out.nil {h : Heap} : Z3Out P1 P2 P3 B h [] := ⟨fun t ht => absurd ht (by simp), List.nodup_nil, fun j t hj => absurd hj (by simp)⟩
theorem Z3Out.up {h h' : Heap} {ts : List Addr} (o : Z3Out P1 P2 P3 B h ts) (k : ∀ t u, B ≤ t → h.get? t = some u → h'.get? t = some u) : Z3Out P1 P2 P3 B h' ts := ⟨fun t ht => by
    obtain ⟨j, hj⟩ := List.getElem?_of_mem ht
    obtain ⟨x, y, u, _, _, _, e3⟩ := o.at' j t hj
    have hg := (o.ge t ht).1
    exact ⟨hg, Heap.lt_size (k t _ hg e3)⟩, o.nd, fun j t hj => by
    obtain ⟨x, y, u, e1, e2, e3, e4⟩ := o.at' j t hj
    exact ⟨x, y, u, e1, e2, e3, k t _ (o.ge t (List.mem_of_getElem? hj)).1 e4⟩⟩
theorem Z3At.upd {h h' : Heap} {k : Nat} (D1 : Draws prog w A i1 fp1 n1 P1 St1) (D2 : Draws prog w A i2 fp2 n2 P2 St2) (D3 : Draws prog w A i3 fp3 n3 P3 St3) (L : Z3Low z TI TO S B fp1 fp2 fp3) (N : Z3Ne z TI TO S fp1 fp2 fp3) (st : Z3At z TI TO i1 i2 i3 St1 St2 St3 B h k) (kp : ∀ c o, c ≠ S → h.get? c = some o → h'.get? c = some o) : Z3At z TI TO i1 i2 i3 St1 St2 St3 B h' k := by
  obtain ⟨out, ti, s1, s2, s3⟩ := st
  refine ⟨?_, kp _ _ N.TI.symm ti, D1.frame _ _ _ s1 fun b hb o e => kp _ o (fun q => N.f1 (q ▸ hb)) e, D2.frame _ _ _ s2 fun b hb o e => kp _ o (fun q => N.f2 (q ▸ hb)) e, D3.frame _ _ _ s3 fun b hb o e => kp _ o (fun q => N.f3 (q ▸ hb)) e⟩
  rcases out with ⟨hz, x, y, u, hp⟩ | ⟨T, f, o, hB, hz, hT⟩
  · exact .inl ⟨kp _ _ N.z.symm hz, x, y, u, kp _ _ N.TO.symm hp⟩
  · exact .inr ⟨T, f, o, hB, kp _ _ N.z.symm hz, kp _ _ (fun e => by have := L.S; omega) hT⟩
end
section
variable {prog : Program} {w : World} {A : Around} {E : Value → Shared → Prop} {z TI TO i1 i2 i3 : Nat} {fp1 fp2 fp3 : List Addr} {n1 n2 n3 : Nat} {P1 P2 P3 : Nat → Value → Prop} {St1 St2 St3 : Nat → Heap → Prop}
end
end L2
set_option maxHeartbeats 4000000
namespace G
open PySem L2 PySem.Spec PyProof.Rows
structure CloS (scope : Scope) (cl : List (Str × Addr)) : Prop where
  kind : scope.kind = .function
  co : scope.isCoroutine = false
  gen : scope.isGenerator = false
  own : ∀ y ∈ scope.names, y.2 ≠ .local ∧ y.2 ≠ .cell
  has : ∀ y, scope.names.lookup y = some .free → ∃ c, cl.lookup y = some c
  inj : ∀ y z c, cl.lookup y = some c → cl.lookup z = some c → y = z
abbrev cloEnv (qual : Str) (cl : List (Str × Addr)) (scope : Scope) (L f c' : Addr) : Env := PySem.W.envX qual scope L f (.ref c') cl
def cloCx (P : Program) (w : World) (K : PySem.W.Frag) (mg : Str → Option Value) (base : Heap) (N : List Str) (qual : Str) (cl : List (Str × Addr)) (A : Around) (outer : List Env) (s : Shared) (H : Hp) (E : XK) (scope : Scope) (f c' : Addr) : Cx where
  prog := P
  w := w
  K := K
  mg := mg
  base := base
  A := A.deeper (cloEnv qual cl scope s.heap.objs.size f c')
  N := N
  s_0 := s
  H_0 := H
  env := cloEnv qual cl scope s.heap.objs.size f c'
  outer := outer
  stack := cloEnv qual cl scope s.heap.objs.size f c' :: outer
  ex := []
  fn := fun _ => false
  calm := true
  pn := []
  xe := fun e s' => wpAny (model P w) (A.deeper (cloEnv qual cl scope s.heap.objs.size f c')) (leaving (cloEnv qual cl scope s.heap.objs.size f c') e) (fun _ s'' => L2.CX P w outer H s E e s'') (fun e' s'' => L2.CX P w outer H s E e' s'') s'
structure CloC (scope : Scope) (cl : List (Str × Addr)) (N : List Str) (vs : List V) (H : Hp) (h : Heap) : Prop where
  cell : ∀ y c, cl.lookup y = some c → (∃ v, h.IsCell c v) ∧ H c = none
  look : ∀ (i : Nat) x v, N[i]? = some x → vs[i]? = some v → scope.names.lookup x = some .free → ∃ c u, cl.lookup x = some c ∧ RelV v u ∧ h.IsCell c (some u)
  len : vs.length = N.length
theorem CloC.go {scope : Scope} {cl : List (Str × Addr)} {N : List Str} {vs : List V} {H H' : Hp} {h h' : Heap} (C : CloC scope cl N vs H h) (k : ∀ c o, h.get? c = some o → H c = none → (∃ sl, h'.get? c = some { o with slots := sl }) ∧ H' c = none) : CloC scope cl N vs H' h' := by
  have ce : ∀ {c v}, H c = none → h.IsCell c v → h'.IsCell c v := fun {c v} n ⟨o, ho, hd⟩ => by
    obtain ⟨⟨sl, q⟩, _⟩ := k c o ho n
    exact ⟨_, q, hd⟩
  refine ⟨fun y c e => ?_, fun i x v e1 e2 e3 => ?_, C.len⟩
  · obtain ⟨⟨v, z⟩, n⟩ := C.cell y c e
    refine ⟨⟨v, ce n z⟩, ?_⟩
    obtain ⟨o, ho, _⟩ := z
    exact (k c o ho n).2
  · obtain ⟨c, u, q1, q2, q3⟩ := C.look i x v e1 e2 e3
    exact ⟨c, u, q1, q2, ce (C.cell x c q1).2 q3⟩
structure CloD where
  qual : Str
  params : Arguments
  body : Expr
  scope : Scope
  cl : List (Str × Addr)
  pm : Value
  c' : Addr
  ctv : Value
  N : List Str
  vs : List V
  ds : List D
structure CloAt (P : Program) (w : World) (K : PySem.W.Frag) (mg : Str → Option Value) (base : Heap) (cls : Cl) (k : Nat) (g : Gh) (H : Hp) (h : Heap) (f : Addr) (ask : M D) (z : CloD) : Prop where
  obj : h.get? f = some (PySem.W.kla_obj "<lambda>" z.qual z.params z.body z.scope z.cl z.pm z.c' z.ctv)
  new : H f = none
  code : (z.c', LamX.CodeO z.c' z.qual) ∈ g.fz
  sc : CloS z.scope z.cl
  ce : CloC z.scope z.cl z.N z.vs H h
  rep : RepL K g H z.vs z.ds
  noarg : bindArgs (PySem.W.kla_fn "<lambda>" z.qual z.params z.body z.scope z.cl z.pm (.ref z.c') z.ctv) ⟨[], []⟩ = pure []
  run : ∀ (A : Around) (outer : List Env) (s : Shared) (H : Hp) (E : XK) (gB : Gh) (f : Addr), Room k (cloCx P w K mg base z.N z.qual z.cl A outer s H E z.scope f z.c').A →
    PEc (cloCx P w K mg base z.N z.qual z.cl A outer s H E z.scope f z.c') ⟨cls, fun c d _ H' => E c d H', gB, H⟩ (z.ds.map Sl.val) z.body ask
theorem CloAt.go {P : Program} {w : World} {K : PySem.W.Frag} {mg : Str → Option Value} {base : Heap} {cls : Cl} {k : Nat} {g g' : Gh} {H H' : Hp} {h h' : Heap} {f : Addr} {ask : M D} {z : CloD} (C : CloAt P w K mg base cls k g H h f ask z) (p : Le g g') (t : TW H H') (of : h'.get? f = h.get? f) (nf : H' f = none)
    (kp : ∀ c o, h.get? c = some o → H c = none → (∃ y, z.cl.lookup y = some c) → (∃ sl, h'.get? c = some { o with slots := sl }) ∧ H' c = none) : CloAt P w K mg base cls k g' H' h' f ask z := by
  refine ⟨by rw [of]; exact C.obj, nf, p.fz _ C.code, C.sc, ⟨fun y c e => ?_, fun i x v e1 e2 e3 => ?_, C.ce.len⟩, RepL.moveW p.v t C.rep, C.noarg, C.run⟩
  · obtain ⟨⟨v, o, ho, hd⟩, n⟩ := C.ce.cell y c e
    obtain ⟨⟨sl, q⟩, n2⟩ := kp c o ho n ⟨y, e⟩
    exact ⟨⟨v, _, q, hd⟩, n2⟩
  · obtain ⟨c, u, q1, q2, o, ho, hd⟩ := C.ce.look i x v e1 e2 e3
    obtain ⟨⟨sl, q⟩, _⟩ := kp c o ho (C.ce.cell x c q1).2 ⟨x, q1⟩
    exact ⟨c, u, q1, q2, _, q, hd⟩
abbrev MkR := (M D) × List D
def MOk (Γ : Cst) (W : WX) (gB : Gh) (H : Hp) : Rs MkR → Prop
  | .ok _ _ => True
  | .ex c fs m => ∀ σ, PostX Γ W σ gB H c fs m
  | .bad => False
theorem MOk.mono {Γ : Cst} {W : WX} {gB gB' : Gh} {H H' : Hp} {r : Rs MkR} (p : Le gB gB') (t : TK H H') (h : MOk Γ W gB H r) : MOk Γ W gB' H' r := by
  cases r with
  | ok _ _ => trivial
  | ex c fs m => exact fun σ => PostX.mono p t (h σ)
  | bad => exact h
def LEnd (X : Cx) (C : Cc) (k : Nat) (H : Hp) (r : Rs MkR) (fl : Flow) (s3 : Shared) : Prop :=
  ∃ (rr : MkR) (m3 : Hs) (g3 : Gh) (J : Hp) (tt fa : Addr) (vs : List V) (z : CloD) (σ3 : L2.St), r = .ok rr m3 ∧ fl = .ret (.ref tt) ∧ Inv X [] σ3 J s3 ∧ Rel ⟨X.K, C.cls⟩ g3 m3 J ∧ Le C.gB g3 ∧ TK H J ∧ J tt = some (.tup (.ref fa :: vs)) ∧ RepL X.K g3 J vs rr.2 ∧
    CloAt X.prog X.w X.K X.mg X.base C.cls k g3 J s3.heap fa rr.1 z ∧ fa ∉ frs X.stack ∧ ∀ y c, z.cl.lookup y = some c → X.s_0.heap.objs.size ≤ c
theorem LEnd.mono {X : Cx} {C : Cc} {k : Nat} {H H' : Hp} {r : Rs MkR} {fl : Flow} {s3 : Shared} (t : TK H H') (h : LEnd X C k H' r fl s3) : LEnd X C k H r fl s3 := by
  obtain ⟨rr, m3, g3, J, tt, fa, vs, z, σ3, h1, h2, h3, h4, h5, h6, h7⟩ := h
  exact ⟨rr, m3, g3, J, tt, fa, vs, z, σ3, h1, h2, h3, h4, h5, t.trans h6, h7⟩
section
variable {X : Cx} {C : Cc} {ρ : List Sl} {k : Nat}
end
end G
namespace G
open PySem L2 PySem.Spec PyProof.Rows
inductive Cap (sc : Scope) (XN : List Str) (ρ : List Sl) : List Str → List D → Prop
  | nil : Cap sc XN ρ [] []
  | cons {i : Nat} {x : Str} {d : D} {N : List Str} {ds : List D} : XN[i]? = some x → ρ[i]? = some (.val d) → sc.names.lookup x = some .cell → Cap sc XN ρ N ds → Cap sc XN ρ (x :: N) (d :: ds)
theorem Cap.vals {Γ : Cst} {gB g : Gh} {H : Hp} {sc : Scope} {XN : List Str} {ρ : List Sl} {σ : L2.St} (rs : RelS Γ gB g H ρ σ) : ∀ {N : List Str} {ds : List D}, Cap sc XN ρ N ds → ∃ vs, RepL Γ.K g H vs ds ∧ vs.length = N.length ∧
    ∀ (j : Nat) x v, N[j]? = some x → vs[j]? = some v → sc.names.lookup x = some .cell ∧ ∃ i : Nat, XN[i]? = some x ∧ σ[i]? = some (some v)
  | _, _, .nil => ⟨[], .nil, rfl, fun j x v h => by simp at h⟩
  | _, _, .cons (i := i) (x := x) h1 h2 h3 c => by
    obtain ⟨vs, a1, a2, a3⟩ := Cap.vals rs c
    obtain ⟨v, b1, b2⟩ := rs.val i _ h2
    refine ⟨v :: vs, .cons b2 a1, by rw [List.length_cons, List.length_cons, a2], fun j y u e1 e2 => ?_⟩
    cases j with
    | zero =>
      cases e1
      cases e2
      exact ⟨h3, i, h1, b1⟩
    | succ j => exact a3 j y u e1 e2
section
variable {X : Cx} {C : Cc} {ρ : List Sl} {k : Nat}
end
def MkCR (P : Program) (w : World) (K : PySem.W.Frag) (mg : Str → Option Value) (base : Heap) (cls : Cl) (kq : Nat) (out : List Env) (H0 : Hp) (t0 : Shared) (E0 : XK) (g : Gh) (tr : Rs MkR) : Result → Shared → Prop
  | .ok (.ret u), s' => ∃ (rr : MkR) (m3 : Hs) (g3 : Gh) (J : Hp) (tt fa : Addr) (vs : List V) (z : CloD), tr = .ok rr m3 ∧ u = .ref tt ∧ s'.os = t0.os ∧ AllBare s'.gens ∧ Un (frs out) [] H0 J t0.heap s'.heap ∧ HOk P w J s'.heap ∧ Rel ⟨K, cls⟩ g3 m3 J ∧ Le g g3 ∧ TK H0 J ∧
      J tt = some (.tup (.ref fa :: vs)) ∧ RepL K g3 J vs rr.2 ∧ CloAt P w K mg base cls kq g3 J s'.heap fa rr.1 z ∧ fa ∉ frs out ∧ ∀ y c, z.cl.lookup y = some c → t0.heap.objs.size ≤ c
  | .ok _, _ => False
  | .error e, s' => L2.CX P w out H0 t0 E0 e s'
structure FnMk (gu : Bool) (P : Program) (w : World) (K : PySem.W.Frag) (mg : Str → Option Value) (base : Heap) (cls : Cl) (k kq : Nat) (f : Addr) (fd : FuncData) (ps : List Str) (t : List D → M MkR) : Prop where
  run : ∀ (B : Around) (out : List Env) (t0 : Shared) (H0 : Hp) (ar : Args) (ws : List Value) (xs : List V) (E0 : XK) (g : Gh) (m : Hs) (ds : List D), Room k B → Clr gu B → Env0 P w K mg base B out t0 H0 → BindsTo t0 fd ar (ps.zip ws) → Vals xs ws → Rel ⟨K, cls⟩ g m H0 → RepL K g H0 xs ds → ds.length = ps.length →
    MOk ⟨K, cls⟩ (fun c d _ H' => E0 c d H') g H0 (t ds m) → codeAny (model P w) B (.call (.ref f) ar) (MkCR P w K mg base cls kq out H0 t0 E0 g (t ds m)) t0
end G
namespace G
open PySem L2 PySem.Spec PyProof.Rows
section
variable {X : Cx} {C : Cc} {ρ : List Sl} {k : Nat}
end
def KeepB (X : Cx) (s s' : Shared) : Prop := ∀ b o, b ≠ X.env.locals → (∀ y c, X.env.cells.lookup y = some c → c ≠ b) → s.heap.get? b = some o → s'.heap.get? b = some o
theorem KeepB.of {X : Cx} {s s' : Shared} {x : Str} (h : ∃ a, Heap.SameBut a s.heap s'.heap ∧ (a = X.env.locals ∨ X.env.cells.lookup x = some a)) : KeepB X s s' := fun b o h1 h2 e => by
  obtain ⟨a, hs, ha⟩ := h
  refine (hs.2 b fun z => ?_).trans e
  rcases ha with ha | ha
  · exact h1 (z.trans ha)
  · exact h2 x a ha z.symm
theorem KeepB.trans {X : Cx} {s s1 s2 : Shared} (h : KeepB X s s1) (h' : KeepB X s1 s2) : KeepB X s s2 := fun b o h1 h2 e => h' b o h1 h2 (h b o h1 h2 e)
section
variable {X : Cx} {C : Cc} {ρ : List Sl} {k : Nat} {A B : Type} {oa : A → List Sl} {ob : B → List Sl}
end
end G
namespace G
open PySem L2 PySem.Spec PyProof.Rows GenW
structure Dozed (S B : Addr) (v : Value) (t t' : Shared) : Prop where
  same : t'.os = t.os
  gens : AllBare t'.gens
  rest : ∀ b ob, b ≠ S ∧ b ≠ B → t.heap.get? b = some ob → t'.heap.get? b = some ob
  more : ∀ its n, t.heap.get? S = some (lstObj its n) → ∃ n', t'.heap.get? S = some (lstObj (its.push v) n')
  name : ∃ ob, t'.heap.get? B = some ob ∧ ∀ w, ob.data ≠ .cell w
structure Dz (X : Cx) (S B : Addr) (oB : Obj) (out : List V) (σ : L2.St) (H : Hp) (t : Shared) : Prop where
  ex : ∃ (its : Array Value) (n : Nat), Vals out its.toList ∧ Inv X [(S, lstObj its n), (B, oB)] σ H t
section
variable {X : Cx} {S B : Addr} {oB : Obj} {out : List V} {σ : L2.St} {H : Hp} {t t' : Shared}
theorem Dz.at (h : Dz X S B oB out σ H t) : H S = none ∧ H B = none ∧ t.heap.get? B = some oB ∧ (∀ w, oB.data ≠ .cell w) ∧ ∃ (its : Array Value) (n : Nat), Vals out its.toList ∧ t.heap.get? S = some (lstObj its n) := by
  obtain ⟨its, n, r, I⟩ := h.ex
  have p1 := I.pin (S, lstObj its n) (List.mem_append_right _ List.mem_cons_self)
  have p2 := I.pin (B, oB) (List.mem_append_right _ (List.mem_cons_of_mem _ List.mem_cons_self))
  exact ⟨p1.2.1, p2.2.1, p2.1, p2.2.2.2.2, its, n, r, p1.1⟩
theorem Dz.wake {x : V} {v : Value} (hp : ∀ p ∈ X.pn, p.1 ≠ S ∧ p.1 ≠ B) (aS : Apart X S) (aB : Apart X B) (ne : S ≠ B) (h : Dz X S B oB out σ H t) (rv : L2.RelV x v) (z : Dozed S B v t t') : ∃ oB', t'.heap.get? B = some oB' ∧ Dz X S B oB' (out ++ [x]) σ H t' := by
  obtain ⟨its, n, r, I⟩ := h.ex
  have p1 := I.pin (S, lstObj its n) (List.mem_append_right _ List.mem_cons_self)
  have p2 := I.pin (B, oB) (List.mem_append_right _ (List.mem_cons_of_mem _ List.mem_cons_self))
  obtain ⟨n', eS⟩ := z.more its n p1.1
  obtain ⟨oB', eB, cB⟩ := z.name
  have I0 : Inv X [] σ H t := I.pins_of fun p hp => by simp at hp
  have nS : ∀ c u, H c = some u → c ≠ S := fun c u e q => by
    have := p1.2.1
    rw [show (S, lstObj its n).1 = S from rfl, ← q, e] at this
    cases this
  have nB : ∀ c u, H c = some u → c ≠ B := fun c u e q => by
    have := p2.2.1
    rw [show (B, oB).1 = B from rfl, ← q, e] at this
    cases this
  have two : ∀ b : Addr, b ∉ [S, B] → b ≠ S ∧ b ≠ B := fun b hb => by simpa using hb
  have J : Inv X [] σ H t' := by
    refine I0.call' (ch := [S, B]) z.same ⟨fun b o ho _ _ hx => z.rest b o (two b hx) ho, fun b o ho _ _ hx => ⟨o.slots, z.rest b o (two b hx) ho⟩, fun _ _ _ hz _ => hz, fun b o ho hx => ⟨o, z.rest b o (two b hx) ho⟩, fun _ _ e => e, fun _ _ _ e => e, fun b ps e => ⟨#[], by rw [e]; simp⟩⟩ (fun b u e => ?_) z.gens fun b hb => ?_
    · refine (I0.hok b u e).stay (fun c w hc q => z.rest c w ?_ q) (fun _ q => q) fun _ _ q => q
      rcases hc with rfl | hc
      · exact ⟨nS _ _ e, nB _ _ e⟩
      · exact ⟨nS _ _ hc, nB _ _ hc⟩
    · rcases List.mem_cons.mp hb with rfl | hb
      · exact ⟨.inr aS.1, Ne.symm (Ne.symm aS.2.1), aS.2.2, fun p q => (hp p (by simpa using q)).1⟩
      · rw [List.mem_singleton.mp hb]
        exact ⟨.inr aB.1, Ne.symm (Ne.symm aB.2.1), aB.2.2, fun p q => (hp p (by simpa using q)).2⟩
  refine ⟨oB', eB, ⟨its.push v, n', ?_, J.pins_of fun p hp => ?_⟩⟩
  · rw [Array.toList_push]
    exact r.append (.cons rv .nil)
  · rcases List.mem_cons.mp hp with rfl | hp
    · exact ⟨eS, p1.2.1, p1.2.2.1, p1.2.2.2.1, fun w q => by cases q⟩
    · rw [List.mem_singleton.mp hp]
      exact ⟨eB, p2.2.1, p2.2.2.1, p2.2.2.2.1, cB⟩
theorem Dz.turn {it : Addr} {h' : Heap} {tk : Nat} (k : ∀ b o, b ≠ it → t.heap.get? b = some o → h'.get? b = some o) (nS : it ≠ S) (nB : it ≠ B) (hpi : ∀ p ∈ X.pn, p.1 ≠ it) (old : it ∈ X.ex ∨ X.s_0.heap.objs.size ≤ it) (hL : it ≠ X.env.locals) (hcell : ∀ x c, X.env.cells.lookup x = some c → c ≠ it) (hH : H it = none)
    (h : Dz X S B oB out σ H t) : Dz X S B oB out σ H { t with heap := h', toks := tk } := by
  obtain ⟨its, n, r, I⟩ := h.ex
  refine ⟨its, n, r, I.turned k hH hL old hcell fun p hp => ?_⟩
  rcases List.mem_append.mp hp with hp | hp
  · exact hpi p hp
  · rcases List.mem_cons.mp hp with rfl | hp
    · exact Ne.symm nS
    · rw [List.mem_singleton.mp hp]
      exact Ne.symm nB
end
def DzY (t0 : Shared) (S B a : Addr) (g : Nat) : Protocol := fun n s₀ v t kap =>
  t.os = t0.os ∧ AllBare t.gens ∧ t.heap.NoLimit ∧ t.heap.IsGen a g ∧ (∃ (its : Array Value) (k : Nat), t.heap.get? S = some (lstObj its k) ∧ n + 1 + its.size = sizeLine) ∧ t.heap.get? B = s₀.heap.get? B ∧ ∀ t', Dozed S B v t t' → kap (.send .none) t'
def DEnd (P : Program) (w : World) (outer : List Env) (H : Hp) (t : Shared) (S B a : Addr) (g : Nat) (Q : List V → Hp → Prop) (E : XK) : GenEnd := fun n s₀ r t' =>
  ((r = .ok (.ret .none) ∨ r = .ok .next) ∧ ∃ (H' : Hp) (ys : List V) (its : Array Value) (c : Nat), t'.os = t.os ∧ AllBare t'.gens ∧ Un (frs outer) [] H H' t.heap t'.heap ∧ HOk P w H' t'.heap ∧ H' S = none ∧ H' B = none ∧ t'.heap.get? B = s₀.heap.get? B ∧ t'.heap.get? S = some (lstObj its c) ∧ Vals ys its.toList ∧ ys.length ≤ sizeLine ∧ Q ys H') ∨
  ∃ e, r = .error e ∧ (L2.CX P w outer H t E e t' ∧ t'.heap.IsGen a g)
abbrev yfC (it : Addr) : Code := .builtin "proto.yield_from" ⟨[.ref it, .bool false, .none], []⟩
section
variable {X : Cx} {S B a it : Addr} {g : Nat} {A : Around} {R : GenEnd} {fs : List Frame} {xs : List V} {T : Nat → Heap → Prop} {σ : L2.St} {H : Hp}
theorem seg_dz (hp : ∀ p ∈ X.pn, p.1 ≠ S ∧ p.1 ≠ B) (aS : Apart X S) (aB : Apart X B) (ne : S ≠ B) (nS : it ≠ S) (nB : it ≠ B) (hpi : ∀ p ∈ X.pn, p.1 ≠ it) (old : it ∈ X.ex ∨ X.s_0.heap.objs.size ≤ it) (hL : it ≠ X.env.locals) (hcell : ∀ x c, X.env.cells.lookup x = some c → c ≠ it) (hH : H it = none) (q : QIt X H it xs T)
    (gen : ∀ {oB out t}, Dz X S B oB out σ H t → t.heap.IsGen a g) (ho : (A.over (yfC it) fs).handled = none) (hsp : splitAtGen fs = none) (hgd : fs.any Frame.guarded = false) (hle : xs.length ≤ sizeLine)
    (fin : ∀ n s₀ t oB, n + xs.length = sizeLine → s₀.heap.get? B = some oB → Dz X S B oB xs σ H t → Seg (model X.prog X.w) A R (DzY X.s_0 S B a g) n s₀ (yfC it) (.pure (.done (.ret .none))) fs t) :
    ∀ (r j n : Nat) (s₀ t : Shared) (oB : Obj), j + r = xs.length → n + j = sizeLine → s₀.heap.get? B = some oB → Dz X S B oB (xs.take j) σ H t → T j t.heap → Seg (model X.prog X.w) A R (DzY X.s_0 S B a g) n s₀ (yfC it) ((model X.prog X.w).den (yfC it)) fs t := by
  obtain ⟨cn, hT, hcl, hng⟩ := q.ty
  intro r
  induction r with
  | zero =>
    intro j n s₀ t oB hj hn hB hI hst
    obtain rfl : j = xs.length := by omega
    rw [List.take_length] at hI
    rw [den_yf]
    unfold Builtin.«proto.yield_from»
    try dsimp only
    refine seg_bind (wpAny_pure (show _ from ?_))
    try dsimp only
    refine seg_bind (wpAny_attempt (wpAny_holding (show _ from ?_)))
    rw [if_neg Bool.false_ne_true, if_pos (show (Value.none == Value.none) = true from rfl)]
    refine wpAny_bind (wpAny_rule (wpAny_bind (q.done _ t _ _ ho hst fun e h' tk hS hk => ?_)))
    obtain ⟨ae, oe, vs, rfl, hoa, hcls, hdat, h5⟩ := hS
    try dsimp only
    refine seg_bind (wpAny_endsTurn hoa hcls (show _ from ?_))
    try dsimp only
    rw [if_pos rfl]
    have last := fin n s₀ _ oB hn hB (hI.turn (tk := tk) hk nS nB hpi old hL hcell hH)
    first
      | exact seg_bind (wpAny_rule (seg_bind (wpAny_field hoa hdat h5 last)))
      | (rw [if_neg Bool.false_ne_true]; exact seg_bind (wpAny_rule (seg_bind (wpAny_field hoa hdat h5 last))))
      | (rw [if_neg Bool.false_ne_true]; exact seg_bind (wpAny_pure (seg_bind (wpAny_rule (seg_bind (wpAny_field hoa hdat h5 last))))))
  | succ r ih =>
    intro j n s₀ t oB hj hn hB hI hst
    have hjl : j < xs.length := by omega
    have hx : xs[j]? = some xs[j] := List.getElem?_eq_getElem hjl
    generalize xs[j] = x at hx
    obtain ⟨n, rfl⟩ : ∃ m, n = m + 1 := ⟨n - 1, by omega⟩
    rw [den_yf]
    unfold Builtin.«proto.yield_from»
    try dsimp only
    refine seg_bind (wpAny_pure (show _ from ?_))
    try dsimp only
    refine seg_bind (wpAny_attempt (wpAny_holding (show _ from ?_)))
    rw [if_neg Bool.false_ne_true, if_pos (show (Value.none == Value.none) = true from rfl)]
    refine wpAny_bind (wpAny_rule (wpAny_bind (q.item _ j x t _ _ ho hx hst fun v h' tk rv hst' hk => ?_)))
    have hI' := hI.turn (tk := tk) hk nS nB hpi old hL hcell hH
    obtain ⟨oi, hoi, hoc⟩ := hT (j + 1) h' hst'
    refine wpAny_pure (show _ from ?_)
    try dsimp only
    refine seg_bind (wpAny_typeOf (T := cn) ⟨oi, hoi, hoc⟩ (show _ from ?_))
    try dsimp only
    first
      | (refine seg_bind (wpAny_of_eq hcl (show _ from ?_)); refine seg_bind (wpAny_pure (show _ from ?_)))
      | refine seg_bind (wpAny_bind (wpAny_of_eq hcl (wpAny_pure (show _ from ?_))))
      | refine seg_bind (wpAny_of_eq hcl (show _ from ?_))
    try dsimp only
    refine seg_bind (wpAny_sleptOver hoi hoc hng (show _ from ?_))
    refine seg_yield (g := false) hsp rfl hgd (show _ from ?_)
    obtain ⟨y1, y2, y3, y4, its, k, y5, y6⟩ := hI'.at
    obtain ⟨its', k', _, Ix⟩ := id hI'.ex
    have hsz : its.size = j := by
      have e1 := y5.length
      have e2 : its.toList.length = its.size := by simp
      rw [List.length_take] at e1
      omega
    refine ⟨Ix.os, Ix.bare, Ix.nolimit, gen hI', ⟨its, k, y6, by omega⟩, y3.trans hB.symm, fun t'' z => ?_⟩
    obtain ⟨oB', eB', hI2⟩ := hI'.wake hp aS aB ne rv z
    have hst2 : T (j + 1) t''.heap := q.frame (j + 1) h' t''.heap hst' fun b o hb e => z.rest b o ⟨fun hm => by
      rcases hb with w | w
      · exact nS (w.symm.trans hm)
      · exact w (by rw [hm]; exact y1), fun hm => by
      rcases hb with w | w
      · exact nB (w.symm.trans hm)
      · exact w (by rw [hm]; exact y2)⟩ e
    obtain ⟨oj, hoj, hojc⟩ := hT (j + 1) t''.heap hst2
    have etk : xs.take j ++ [x] = xs.take (j + 1) := by
      rw [List.take_add_one, hx]
      rfl
    rw [etk] at hI2
    refine show Seg _ _ _ _ n t'' _ (Builtin.Generator.sleptOver (.ref it) false >>= fun _ => _) fs t'' from seg_bind (wpAny_sleptOver hoj hojc hng ?_)
    try dsimp only
    exact seg_bind (wpAny_pure (seg_again (plainId_quiet plain_yf _) (ih (j + 1) n t'' t'' oB' (by omega) (by omega) eB' hI2 hst2)))
end
end G
namespace G
open PySem L2 PySem.Spec PyProof.Rows GenW
def DMade (P : Program) (w : World) (k : Nat) (outer : List Env) (H : Hp) (t : Shared) (Q : List V → Hp → Prop) (E : XK) (u : Value) (t' : Shared) : Prop :=
  ∃ (a : Addr) (g : Nat) (c : Code), u = .ref a ∧ t.heap.objs.size ≤ a ∧ a < t'.heap.objs.size ∧ t'.heap.IsGen a g ∧ t'.gens[g]? = some (.fresh c) ∧ t'.os = t.os ∧ AllBare t'.gens ∧ t'.heap.NoLimit ∧ (∀ b o, t.heap.get? b = some o → t'.heap.get? b = some o) ∧
    ∀ (A : Around) (S B : Addr) (oB : Obj) (t2 : Shared), Room k A → A.frames = some outer → t'.heap.objs.size ≤ S → t'.heap.objs.size ≤ B → S ≠ B → (∀ b o, t'.heap.get? b = some o → t2.heap.get? b = some o) → (∃ n, t2.heap.get? S = some (lstObj #[] n)) → t2.heap.get? B = some oB → (∀ w, oB.data ≠ .cell w) → t2.os = t.os → AllBare t2.gens →
      Seg (model P w) A (DEnd P w outer H t S B a g Q E) (DzY t S B a g) sizeLine t2 c ((model P w).den c) [] t2
structure DFn (P : Program) (w : World) (K : PySem.W.Frag) (mg : Str → Option Value) (base : Heap) (k : Nat) (f : Addr) (fd : FuncData) (ps : List Str) (sp : SpG) : Prop where
  len : ∀ vs H Q E, sp vs H Q E → vs.length = ps.length
  run : ∀ (A : Around) (outer : List Env) (t : Shared) (H : Hp) (args : Args) (us : List Value) (vs : List V) (Q : List V → Hp → Prop) (E : XK), Room k A → Env0 P w K mg base A outer t H → BindsTo t fd args (ps.zip us) → Vals vs us → sp vs H Q E →
    codeAny (model P w) A (.call (.ref f) args) (fun r t' => match r with | .ok (.ret u) => DMade P w k outer H t Q E u t' | _ => False) t
section
variable {P : Program} {w : World} {K : PySem.W.Frag} {mg : Str → Option Value} {base : Heap} {k : Nat} {f : Addr} {name qual : Str} {params : Arguments} {scope : Scope} {dV kV doc pm cdv ct oc : Value} {an od : Option Addr} {osl : Array (Option Value)} {N ps : List Str} {sp : SpG} {e : Expr} {yp pos : Pos}
theorem dfn_of (lk : K.lookup f = some ⟨oc, od, .func (PySem.W.fnOf name qual params [.Expr (.YieldFrom e yp) pos] scope dV kV doc pm an cdv ct), osl⟩) (hcd : PySem.W.codeIn K cdv qual = true) (Sc : GScope N ps scope) (hi : ∀ n, interactive (envOfC qual scope n f cdv) = false)
    (len : ∀ vs H Q E, sp vs H Q E → vs.length = ps.length)
    (hbody : ∀ (A : Around) (outer : List Env) (t : Shared) (H : Hp) (vs : List V) (Q : List V → Hp → Prop) (E : XK) (pn : List (Addr × Obj)), Room k (A.deeper (envOfC qual scope t.heap.objs.size f cdv)) → sp vs H Q E →
      ∃ ty, YfE (gcxOf P w K mg base N qual scope f cdv A outer t H E pn) e ty ∧ ty (start N vs) H (fun xs H' => xs.length ≤ sizeLine ∧ Q xs H')) :
    DFn P w K mg base (k + 1) f (PySem.W.fnOf name qual params [.Expr (.YieldFrom e yp) pos] scope dV kV doc pm an cdv ct) ps sp := by
  refine ⟨len, fun A outer t H args us vs Q E hr e0 hb r hsp => ?_⟩
  have KX : K.In t.heap := e0.mod.kin.keeps fun b o h => (e0.bs b o h).1
  have lim : t.heap.NoLimit := e0.mod.nolimit.keeps fun b o h => (e0.bs b o h).1
  have hkind : ∀ y ∈ ps.zip us, scope.names.lookup y.1 = some .local ∨ (scope.names.lookup y.1 = some .cell ∧ ((cellsFrom (t.heap.objs.size + 1) scope.names []).lookup y.1).isSome = true) := fun y hy => by
    rcases Sc.par y.1 (List.of_mem_zip (show (y.1, y.2) ∈ ps.zip us from hy)).1 with h | h
    · exact .inl h
    · exact .inr ⟨h, PySem.W.cellsFrom_some _ _ _ (.inl h)⟩
  refine codeAny_mono (R := fun r t' => ∃ (t1 : Shared) (go : Obj) (z1 z2 : Value) (tk : Nat), r = .ok (.ret (.ref t1.heap.objs.size)) ∧ t' = { t1 with gens := t1.gens.push (.fresh (.func [.Expr (.YieldFrom e yp) pos] (envOfC qual scope t.heap.objs.size f cdv))), toks := tk, heap := t1.heap.push go } ∧ go.cls = .type "generator" ∧ go.data = .fields #[.int t1.gens.size 0, z1, z2] ∧ go.slots = #[] ∧
    (∀ h : Heap, (h.push go).get? h.objs.size = some go) ∧ InCallC t t.heap.objs.size (bindL (envOfC qual scope t.heap.objs.size f cdv).kindOf (ps.zip us) fun _ => none) (cellsFrom (t.heap.objs.size + 1) scope.names []) (bindC (envOfC qual scope t.heap.objs.size f cdv).kindOf (ps.zip us) fun _ => none) t1) ?_ fun r t' q => ?_
  · refine codeAny_call_generator hr.depth (KX _ _ lk) rfl Sc.co Sc.gen rfl (PySem.W.codeRec_of KX hcd) (hb _ _ _ _ (wpAny_newFunctionEnv_cells Sc.kind hkind fun env he t1 x => ?_))
    subst he
    exact ⟨lim.keeps x.toInCall.keep, t1, _, _, _, _, rfl, rfl, rfl, rfl, rfl, fun h => Heap.get?_push_size _ rfl, x⟩
  · obtain ⟨t1, go, z1, z2, tk2, rfl, rfl, hgc, hgd0, hgs, hgp, x⟩ := q
    obtain ⟨h1, tk, es1, hk1⟩ := x.done
    have os1 : t1.os = t.os := by rw [es1]
    have gen1 : t1.gens = t.gens := by rw [es1]
    have lt1 : t.heap.objs.size < t1.heap.objs.size := x.toInCall.ns.lt
    have kp1 : ∀ b o, t.heap.get? b = some o → t1.heap.get? b = some o := x.toInCall.keep
    have up1 : ∀ b o, t1.heap.get? b = some o → (t1.heap.push go).get? b = some o := fun b o h => Heap.get?_push_of_some _ h
    have hgen : ∀ h : Heap, h.get? t1.heap.objs.size = some go → h.IsGen t1.heap.objs.size t1.gens.size := fun h q => ⟨go, z1, z2, q, hgc, hgd0, hgs⟩
    have alt : t1.heap.objs.size < (t1.heap.push go).objs.size := by
      rw [Heap.size_push]
      exact Nat.lt_succ_self _
    refine ⟨t1.heap.objs.size, t1.gens.size, _, rfl, Nat.le_of_lt lt1, alt, hgen _ (hgp _), Array.getElem?_push_size .., os1, AllBare.push (by rw [gen1]; exact e0.bare) rfl, (lim.keeps kp1).keeps up1, fun b o h => up1 b o (kp1 b o h), ?_⟩
    intro Aw S B oB t2 hrw hfr hSx hBx ne hk2 hSo eB cB hos hba
    have e0w : Env0 P w K mg base Aw outer t H := ⟨hfr, e0.mod, e0.bs, e0.bsz, e0.funs, e0.frf, e0.hok, e0.bare⟩
    obtain ⟨ty, hty, hq⟩ := hbody Aw outer t H vs Q E [(t1.heap.objs.size, go)] (hrw.deeper _) hsp
    have I1 : Inv (gcxOf P w K mg base N qual scope f cdv Aw outer t H E []) [] (start N vs) H t1 := inv_startG Sc hrw.hd e0w (len _ _ _ _ hsp) r x
    have kp2 : ∀ b o, t1.heap.get? b = some o → t2.heap.get? b = some o := fun b o h => hk2 b o (up1 b o h)
    have I2 : Inv (gcxOf P w K mg base N qual scope f cdv Aw outer t H E []) [] (start N vs) H t2 :=
      I1.call' (ch := []) (hos.trans os1.symm) (Un.kept kp2) (I1.hok.kept kp2) hba fun b z => by simp at z
    have hSl : t1.heap.objs.size < S := Nat.lt_of_lt_of_le alt hSx
    have hBl : t1.heap.objs.size < B := Nat.lt_of_lt_of_le alt hBx
    obtain ⟨nS, eS⟩ := hSo
    have ea : t2.heap.get? t1.heap.objs.size = some go := hk2 _ _ (hgp _)
    have cg : ∀ v, go.data ≠ .cell v := fun v q => by rw [hgd0] at q; cases q
    have young : ∀ b, t1.heap.objs.size ≤ b → H b = none ∧ b ≠ t.heap.objs.size ∧ b ∉ frs outer ∧ t.heap.objs.size ≤ b ∧ ∀ y c, (cellsFrom (t.heap.objs.size + 1) scope.names []).lookup y = some c → c ≠ b := fun b hb => by
      have h2 : t.heap.objs.size < b := Nat.lt_of_lt_of_le lt1 hb
      refine ⟨I1.hok.fresh hb, Nat.ne_of_gt h2, I1.nofs hb, Nat.le_of_lt h2, fun y c q z => ?_⟩
      obtain ⟨_, ob, ho, _⟩ := I1.cell y c q
      subst z
      exact absurd (Heap.lt_size ho) (Nat.not_lt.2 hb)
    have dz : Dz (gcxOf P w K mg base N qual scope f cdv Aw outer t H E [(t1.heap.objs.size, go)]) S B oB [] (start N vs) H t2 := by
      refine ⟨#[], nS, .nil, Inv.pinnedG I2 fun p hp => ?_⟩
      have three : p = (t1.heap.objs.size, go) ∨ p = (S, lstObj #[] nS) ∨ p = (B, oB) := by simpa using hp
      rcases three with rfl | rfl | rfl
      · obtain ⟨y1, y2, y3, _, _⟩ := young _ (Nat.le_refl _)
        exact ⟨ea, y1, y2, y3, cg⟩
      · obtain ⟨y1, y2, y3, _, _⟩ := young S (Nat.le_of_lt hSl)
        exact ⟨eS, y1, y2, y3, fun v q => by cases q⟩
      · obtain ⟨y1, y2, y3, _, _⟩ := young B (Nat.le_of_lt hBl)
        exact ⟨eB, y1, y2, y3, cB⟩
    have aS : Apart (gcxOf P w K mg base N qual scope f cdv Aw outer t H E [(t1.heap.objs.size, go)]) S := by
      obtain ⟨_, y2, _, y4, y5⟩ := young S (Nat.le_of_lt hSl)
      exact ⟨y4, y2, y5⟩
    have aB : Apart (gcxOf P w K mg base N qual scope f cdv Aw outer t H E [(t1.heap.objs.size, go)]) B := by
      obtain ⟨_, y2, _, y4, y5⟩ := young B (Nat.le_of_lt hBl)
      exact ⟨y4, y2, y5⟩
    have hpn : ∀ p ∈ (gcxOf P w K mg base N qual scope f cdv Aw outer t H E [(t1.heap.objs.size, go)]).pn, p.1 ≠ S ∧ p.1 ≠ B := fun p hp => by
      have hp : p ∈ [(t1.heap.objs.size, go)] := hp
      rw [List.mem_singleton.mp hp]
      exact ⟨Nat.ne_of_lt hSl, Nat.ne_of_lt hBl⟩
    have isG : ∀ {oB : Obj} {out : List V} {σ' : L2.St} {H' : Hp} {t' : Shared}, Dz (gcxOf P w K mg base N qual scope f cdv Aw outer t H E [(t1.heap.objs.size, go)]) S B oB out σ' H' t' → t'.heap.IsGen t1.heap.objs.size t1.gens.size := fun {oB out σ' H' t'} h => by
      obtain ⟨_, _, _, J⟩ := h.ex
      exact hgen _ (J.pin (t1.heap.objs.size, go) (List.mem_append_left _ (List.mem_singleton.mpr rfl))).1
    -- an exception leaves the frame
    have exc : ∀ (n : Nat) (s₀ : Shared) (x : Value) (t' : Shared), (gcxOf P w K mg base N qual scope f cdv Aw outer t H E [(t1.heap.objs.size, go)]).xe x t' → Seg (model P w) Aw (DEnd P w outer H t S B t1.heap.objs.size t1.gens.size Q E) (DzY t S B t1.heap.objs.size t1.gens.size) n s₀ (.func [.Expr (.YieldFrom e yp) pos] (envOfC qual scope t.heap.objs.size f cdv))
        ((leaving (envOfC qual scope t.heap.objs.size f cdv) x).wrap (fun _ => .raise x) .raise id id) [] t' := fun n s₀ x t' hx => by
      refine seg_wrap ?_
      rw [over_func]
      have hx : wpAny (model P w) (Aw.deeper (envOfC qual scope t.heap.objs.size f cdv)) (leaving (envOfC qual scope t.heap.objs.size f cdv) x) (fun _ s'' => CX P w outer H t E x s'' ∧ ∀ p ∈ [(t1.heap.objs.size, go)], s''.heap.get? p.1 = some p.2) (fun _ _ => False) t' := hx
      refine wpAny_mono hx (fun _ s'' q => seg_end (.error x) (.inr ⟨x, rfl, q.1, hgen _ (q.2 (t1.heap.objs.size, go) (List.mem_singleton.mpr rfl))⟩)) fun _ s'' q => q.elim
    refine seg_func (seg_execs_cons ?_)
    rw [exec_Expr _ _ pos (hi _) rfl]
    refine show Seg _ _ _ _ _ _ _ (.at pos fun _ => ((eval e _ >>= fun v => (standAt yp >>= fun _ => yieldFrom _ v)) >>= fun x => dropValue (.YieldFrom e yp) pos x).wrap _ _ id id) [] t2 from seg_at ?_
    obtain ⟨its0, n0, r0, J0⟩ := dz.ex
    refine segw_bind2 ?_
    rw [over_func]
    refine wpAny_mono (hty.run _ t2 _ H _ J0 hq) (fun v t3 hv => ?_) fun x t' hx => exc _ _ x t' hx
    obtain ⟨cn, hT, hne, hit⟩ := hv
    refine seg_at (show Seg _ _ _ _ _ _ _ ((yieldFrom (envOfC qual scope t.heap.objs.size f cdv) v).wrap (fun b => (dropValue (.YieldFrom e yp) pos b).wrap _ _ id id) _ id id) [] t3 from ?_)
    unfold yieldFrom
    refine seg_bind_wrap (wpAny_typeOf hT (show _ from ?_))
    rw [if_neg (by rw [hne]; exact Bool.false_ne_true)]
    refine seg_bind_wrap (wpAny_holding (show _ from ?_))
    rw [over_func]
    refine wpAny_mono hit (fun u t4 hu => ?_) fun x t' hx => exc _ _ x t' hx
    obtain ⟨it, H', xs, T, rfl, J4, q1, q2, q3, q4, q5, q6, q7, hle, hQ⟩ := hu
    have pS := J4.pin (S, lstObj its0 n0) (List.mem_append_right _ List.mem_cons_self)
    have pB := J4.pin (B, oB) (List.mem_append_right _ (List.mem_cons_of_mem _ List.mem_cons_self))
    have iS : it ≠ S := fun z => q5 (S, lstObj its0 n0) (List.mem_append_right _ List.mem_cons_self) z.symm
    have iB : it ≠ B := fun z => q5 (B, oB) (List.mem_append_right _ (List.mem_cons_of_mem _ List.mem_cons_self)) z.symm
    refine seg_call fun p => ?_
    refine seg_dz (xs := xs) hpn aS aB ne iS iB (fun p hp => q5 p (List.mem_append_left _ hp)) q1 q2 q3 q4 q7 isG ?_ rfl rfl hle (fun n' s₀' t' oB' hn' hB' hD => ?_) xs.length 0 sizeLine t2 t4 oB (Nat.zero_add _) (Nat.add_zero _) eB ⟨its0, n0, by rw [List.take_zero]; exact r0, J4⟩ q6
    · have h1 : (Aw.over (.func [.Expr (.YieldFrom e yp) pos] (envOfC qual scope t.heap.objs.size f cdv)) []).handled = none := by
        rw [over_func]
        exact hrw.hd
      exact h1
    · obtain ⟨y1, y2, y3, _, its, n, rv, eS'⟩ := hD.at
      obtain ⟨_, _, _, J⟩ := id hD.ex
      refine seg_leaf (.ok (.ret .none)) ?_
      exact seg_end (.ok (.ret .none)) (.inl ⟨.inl rfl, H', xs, its, n, J.os, J.bare, J.base, J.hok, y1, y2, y3.trans hB'.symm, eS', rv, hle, hQ⟩)
end
end G
namespace G
open PySem L2 PySem.Spec PyProof.Rows GenW
structure PGenD (X : Cx) (k : Nat) (e : Expr) (tg : TGen) (E : XK) : Prop where
  run : ∀ (pins : List (Addr × Obj)) (t : Shared) (σ : L2.St) (H : Hp) (cont : List V → Hp → Prop), Inv X pins σ H t → tg σ H cont → wpAny (model X.prog X.w) X.A (eval e X.env) (fun u t' => ∃ H1 tc, Inv X pins σ H1 tc ∧ DMade X.prog X.w k X.stack H1 tc cont E u t') X.xe t
section
variable {P : Program} {w : World} {outer : List Env} {H : Hp} {t0 : Shared} {A : Around} {Q : List V → Hp → Prop} {S B a : Addr} {g : Nat} {ce : Env} {nm : Str} {e : Expr} {scope : Scope} {p1 p2 pos : Pos} {R : Result → Shared → Prop}
theorem drain_dz (hA : A.handled = none) (hd : A.depth < recursionLimit) (hce : ce.locals = B) (hk1 : ce.kindOf nm = some .local) (hk2 : ce.scope.kind = .function) (hdb : (nm == ("__debug__" : Str)) = false) (hSa : S ≠ a) (hBa : B ≠ a) (hSB : S ≠ B) (hSc : S ≠ cStatics) (hBc : B ≠ cStatics)
    (hend : ∀ t' its c H' ys mp, t'.heap.Ns B mp → t'.heap.get? S = some (lstObj its c) → Vals ys its.toList → ys.length ≤ sizeLine → t'.os = t0.os → AllBare t'.gens → Un (frs outer) [] H H' t0.heap t'.heap → HOk P w H' t'.heap → H' S = none → H' B = none → Q ys H' → R (.ok .next) t') :
    ∀ (n : Nat) (t : Shared), (∃ gs mp, t.gens[g]? = some gs ∧ t.heap.IsGen a g ∧ t.heap.NoLimit ∧ t.heap.Ns B mp ∧ gs.Goes (model P w) A.in1 (DEnd P w outer H t0 S B a g Q fun _ _ _ => False) (DzY t0 S B a g) n (.send .none) (t.setGen g .running)) →
      codeAny (model P w) A (.compLoop (.ListComp (.Name nm p1) [⟨.Name nm p2, e, [], 0⟩] scope pos) 0 (.ref a) (.ref S) ce) R t := by
  intro n t h
  refine codeAny_compLoop_list (fun n t => ∃ gs mp, t.gens[g]? = some gs ∧ t.heap.IsGen a g ∧ t.heap.NoLimit ∧ t.heap.Ns B mp ∧ gs.Goes (model P w) A.in1 (DEnd P w outer H t0 S B a g Q fun _ _ _ => False) (DzY t0 S B a g) n (.send .none) (t.setGen g .running)) ?_ n h
  clear h t n
  rintro n t ⟨gs, mp, hgs, hg, hl, hns, hgo⟩
  have hgl : g < t.gens.size := (Array.getElem?_eq_some_iff.mp hgs).1
  refine GenW.wpAny_gsz (n := g + 1) hgl ?_
  refine next_genG (F := fun n s₀ t' => ∃ (H' : Hp) (ys : List V) (its : Array Value) (c : Nat), t'.os = t0.os ∧ AllBare t'.gens ∧ Un (frs outer) [] H H' t0.heap t'.heap ∧ HOk P w H' t'.heap ∧ H' S = none ∧ H' B = none ∧ t'.heap.get? B = s₀.heap.get? B ∧ t'.heap.get? S = some (lstObj its c) ∧ Vals ys its.toList ∧ ys.length ≤ sizeLine ∧ Q ys H')
    (Er := fun e t' => L2.CX P w outer H t0 (fun _ _ _ => False) e t' ∧ t'.heap.IsGen a g) hA hl hd hg hgs hgo (fun v t1 gs' hbare hy => ?_) (fun t1 hf h' hk => ?_) (fun e t1 he => ?_)
  · obtain ⟨os1, b1, nl1, ig1, ⟨its, c, eS, hsz⟩, eB, kap⟩ := hy
    have eB : t1.heap.get? B = t.heap.get? B := eB
    obtain ⟨oB, es, ep, ob1, ob2, ob3⟩ := id hns
    have cB : ∀ w, oB.data ≠ .cell w := fun w q => by rw [ob2] at q; cases q
    have eB1 : t1.heap.get? B = some oB := eB.trans ob1
    intro hz
    cases n with
    | zero =>
      have no : False := kap { t1 with heap := t1.heap.update S (Obj.mapSeq (·.push v)) } ⟨rfl, b1, fun b ob hb q => (Heap.get?_update_other _ _ (Ne.symm hb.1)).trans q, fun its' c' q => by
        rw [eS] at q
        cases q
        exact ⟨_, Heap.get?_update_self _ eS rfl⟩, oB, (Heap.get?_update_other _ _ hSB).trans eB1, cB⟩
      exact no.elim
    | succ m =>
      have hn1 : (t1.setGen g gs').heap.Ns ce.locals mp := by
        rw [hce]
        exact ⟨oB, es, ep, eB1, ob2, ob3⟩
      have hgz : g < t1.gens.size := by
        have q : (t1.setGen g gs').gens.size = t1.gens.size := setGen_size _ _ _
        have hz' : g + 1 ≤ (t1.setGen g gs').gens.size := hz
        omega
      refine wpAny_assign_Name (wpAny_storeName_local hk1 hn1 (fun h2 hn2 sb2 => ?_) (by rw [hk2]; rfl))
      rw [hce] at sb2 hn2
      refine wpAny_Name (wpAny_loadName_local hk2 hk1 (by rw [hce]; exact hn2) (if_pos rfl) ?_) hdb
      have eS2 : h2.get? S = some (lstObj its c) := (sb2.2 S hSB).trans eS
      refine append_at (s := { t1.setGen g gs' with heap := h2, toks := _ }) (hsz := by omega) eS2 fun h3 sb3 eS3 => ⟨m, Nat.lt_succ_self m, gs', _, setGen_at hgz, ?_, ?_, hn2.sameBut sb3 (Ne.symm hSB), ?_⟩
      · obtain ⟨o, z1, z2, ho, zr⟩ := ig1
        exact ⟨o, z1, z2, (sb3.2 a (Ne.symm hSa)).trans ((sb2.2 a (Ne.symm hBa)).trans ho), zr⟩
      · obtain ⟨mc, hm1, hm2⟩ := nl1
        exact ⟨mc, (hm1.sameBut (h' := h2) sb2 (Ne.symm hBc)).sameBut sb3 (Ne.symm hSc), hm2⟩
      · refine kap _ ⟨rfl, ?_, fun b ob hb q => (sb3.2 b hb.1).trans ((sb2.2 b hb.2).trans q), fun its' c' q => ?_, ?_⟩
        · exact allBare_setGen (s := t1.setGen g gs') (allBare_setGen b1 hbare) rfl
        · have q : t1.heap.get? S = some (lstObj its' c') := q
          rw [eS] at q
          cases q
          exact ⟨_, eS3⟩
        · obtain ⟨o3, es3, ep3, x1, x2, _⟩ := hn2.sameBut sb3 (Ne.symm hSB)
          exact ⟨o3, x1, fun w q => by rw [x2] at q; cases q⟩
  · obtain ⟨H', ys, its, c, q1, q2, q3, q4, q5, q6, q7, q8, q9, q10, q11⟩ := hf
    have q7 : t1.heap.get? B = t.heap.get? B := q7
    obtain ⟨oB, es, ep, ob1, ob2, ob3⟩ := id hns
    intro _
    exact hend _ its c H' ys mp ⟨oB, es, ep, hk _ _ (q7.trans ob1), ob2, ob3⟩ (hk _ _ q8) q9 q10 q1 (allBare_setGen q2 rfl) (q3.trans (Un.kept hk)) (q4.kept hk) q5 q6 q11
  · obtain ⟨hc, _⟩ := he
    obtain ⟨_, _, _, _, _, _, _, _, _, _, _, _, hf⟩ := hc
    exact hf.elim
end
theorem look2 (nm : Str) : ([((".0" : Str), NameKind.local), (nm, NameKind.local)] : List (Str × NameKind)).lookup nm = some .local := by
  rw [List.lookup_cons]
  cases h : nm == (".0" : Str) with
  | true => rfl
  | false => simp [List.lookup]
section
variable {X : Cx} {k : Nat}
theorem pe_lcD {e : Expr} {nm : Str} {tg : TGen} {scope : Scope} {p1 p2 pos : Pos} (hc : X.calm = true) (h : PGenD X k e tg fun _ _ _ => False) (hr : Room (k + 1) X.A) (hsk : scope.kind = .function) (hsn : scope.names = [((".0" : Str), NameKind.local), (nm, .local)]) (hdb : (nm == ("__debug__" : Str)) = false) (hs : ∀ x, foldedSetIterable e X.env x = pure x := by intro _; rfl) :
    PE X (.ListComp (.Name nm p1) [⟨.Name nm p2, e, [], 0⟩] scope pos) (tListG tg) := by
  refine ⟨fun pins t σ H Q I q => ?_⟩
  rw [eval_ListComp]
  refine comprehension_at (use := none) rfl hs (closure_ok fun y hy hf => ?_) hsk (fun y hy _ => ?_) (thn (h.run pins t σ H _ I q) fun u t1 hu => ?_)
  · rw [hsn] at hy
    have two : y = ((".0" : Str), NameKind.local) ∨ y = (nm, .local) := by simpa using hy
    rcases two with rfl | rfl <;> cases hf
  · rw [hsn] at hy ⊢
    have two : y = ((".0" : Str), NameKind.local) ∨ y = (nm, .local) := by simpa using hy
    rcases two with rfl | rfl
    · simp [List.lookup]
    · exact look2 nm
  obtain ⟨H1, tc, I1, a, g, c, rfl, ha1, ha2, hg, hgs, hos, hb, hl, hkp, wake⟩ := hu
  refine wpAny_pyIter_gen hg (wpAny_newObj_type (newEnv_comp ?_) (by show 0 ≤ sizeLine; decide))
  have hpc : ∀ h : Heap, pushCells h scope.names = h := fun h => by rw [hsn]; rfl
  have hcf : ∀ n, cellsFrom n scope.names (cloFrom X.env.cells scope.names []) = [] := fun n => by rw [hsn]; rfl
  rw [hpc, hcf]
  generalize hS : t1.heap.objs.size = S
  have eS0 : (t1.heap.push { cls := .type "list", data := .seq ([] : List Value).toArray }).get? S = some (lstObj #[] 0) := by
    rw [← hS]
    exact Heap.get?_push_size _ rfl
  have sz2 : (t1.heap.push { cls := .type "list", data := .seq ([] : List Value).toArray }).objs.size = S + 1 := by
    rw [Heap.size_push, hS]
  have kp2 : ∀ b o, t1.heap.get? b = some o → (t1.heap.push { cls := .type "list", data := .seq ([] : List Value).toArray }).get? b = some o := fun b o q => Heap.get?_push_of_some _ q
  generalize hh2 : t1.heap.push { cls := .type "list", data := .seq ([] : List Value).toArray } = h2 at *
  generalize hB : h2.objs.size = B at *
  have nB0 : (h2.push { cls := .type "dict", data := .dict #[] }).Ns B fun _ => none := by
    rw [← hB]
    exact Heap.Ns.new _ _
  have kp3 : ∀ b o, h2.get? b = some o → (h2.push { cls := .type "dict", data := .dict #[] }).get? b = some o := fun b o q => Heap.get?_push_of_some _ q
  generalize h2.push { cls := .type "dict", data := .dict #[] } = h3 at *
  show codeAny _ _ (.compStart (.ListComp (.Name nm p1) [⟨.Name nm p2, e, [], 0⟩] scope pos) 0 (.ref a) (.ref S) (compEnvC scope [] B X.env)) (compEnds (model X.prog X.w) X.A X.xe none (EP X pins σ Q) (.ref S) (compEnvC scope [] B X.env)) { t1 with heap := h3 }
  have k13 : ∀ b o, t1.heap.get? b = some o → h3.get? b = some o := fun b o q => kp3 b o (kp2 b o q)
  have hSB : S ≠ B := Nat.ne_of_lt (show S < B by omega)
  have hcl : cStatics < t1.heap.objs.size := let ⟨_, hn, _⟩ := hl; hn.lt
  have tc1 : tc.heap.objs.size ≤ t1.heap.objs.size := Nat.le_trans ha1 (Nat.le_of_lt ha2)
  obtain ⟨oB, es, ep, eB, ob2, _⟩ := id nB0
  have ha2 : @LT.lt Nat _ a t1.heap.objs.size := ha2
  have hcl : @LT.lt Nat _ cStatics t1.heap.objs.size := hcl
  have n1 : S ≠ a := Nat.ne_of_gt (show @LT.lt Nat _ a S by omega)
  have n2 : B ≠ a := Nat.ne_of_gt (show @LT.lt Nat _ a B by omega)
  have n3 : S ≠ cStatics := Nat.ne_of_gt (show @LT.lt Nat _ cStatics S by omega)
  have n4 : B ≠ cStatics := Nat.ne_of_gt (show @LT.lt Nat _ cStatics B by omega)
  have loop : codeAny (model X.prog X.w) X.A (.compLoop (.ListComp (.Name nm p1) [⟨.Name nm p2, e, [], 0⟩] scope pos) 0 (.ref a) (.ref S) (compEnvC scope [] B X.env)) (compEnds (model X.prog X.w) X.A X.xe none (EP X pins σ Q) (.ref S) (compEnvC scope [] B X.env)) { t1 with heap := h3 } := by
    refine drain_dz (Q := fun out H2 => ∀ p, H2 p = none → Q (.ref p) (upd H2 p (.lst out))) (outer := X.stack) (H := H1) (t0 := tc) (g := g) hr.hd hr.depth rfl ?_ hsk hdb n1 n2 hSB n3 n4 (fun t' its n H' ys mp z0 z1 z2 z3 z4 z5 z6 z7 z8 z9 z10 => ?_) sizeLine _ ⟨_, _, hgs, hg.keeps k13, hl.keeps k13, nB0, rfl, ?_⟩
    · exact lookup_relabel_local (by rw [hsn]; exact look2 nm)
    · have I2 := I1.drained (S := S) (by omega) z3 z1 z2 .nil z4 z5 z6 z7 z8
      have FB := I1.fpOk (b := B) (H' := upd H' S (.lst ys)) (by omega) (by rw [upd_ne (Ne.symm hSB)]; exact z9)
      obtain ⟨c0, c1, _, c3, c4, c5⟩ := FB
      refine ⟨mp, z0, fun h'' sb => ⟨.ref S, _, I2.turned (t' := t'.toks) (fun b o hb q => (sb.2 b hb).trans q) c0 c1 c3 c4 c5, rfl, z10 S z8⟩⟩
    · exact wake _ S B oB _ hr.in1 I1.ok.frames (by omega) (by omega) hSB k13 ⟨0, kp3 _ _ eS0⟩ eB (fun w q => by rw [ob2] at q; cases q) hos (allBare_setGen (s := { t1 with heap := h3 }) hb rfl)
  exact codeAny_compStart_list loop (wpAny_pyIter_gen (s := { t1 with heap := h3 }) (hg.keeps k13) loop)
end
end G
namespace G
open PySem L2 PySem.Spec PyProof.Rows GenW
section
variable {P : Program} {w : World} {K : PySem.W.Frag} {mg : Str → Option Value} {base : Heap} {cls : Cl} {k : Nat}
theorem gd_core {x qual : Str} {st : Stmt} {f : Addr} {fd : FuncData} {N ps : List Str} {t : List D → M D} {e : Expr} {yp pos : Pos} (F : Fun K x qual st f fd) (S : GScope N ps (defScope st)) (hl : ∀ ds, ds.length ≠ ps.length → t ds = bad)
    (hb : defBody st = [.Expr (.YieldFrom e yp) pos]) (hi : ∀ n cdv, interactive (envOfC qual (defScope st) n f cdv) = false)
    (walk : ∀ ds, ds.length = ps.length → ∃ a : M D, t ds = gcM a ∧ ∀ (cdv : Value) (A : Around) (outer : List Env) (s : Shared) (H : Hp) (E : XK) (pn : List (Addr × Obj)) (gB : Gh), Room k (A.deeper (envOfC qual (defScope st) s.heap.objs.size f cdv)) →
      PEc (gcxOf P w K mg base N qual (defScope st) f cdv A outer s H E pn) ⟨cls, fun _ _ _ _ => False, gB, H⟩ (ds.map Sl.val ++ List.replicate (N.length - ds.length) Sl.un) e a) :
    DFn P w K mg base (k + 1) f fd ps (spY ⟨K, cls⟩ t) := by
  have hlen : ∀ (ds : List D) (xs : List D) (m m1 : Hs), t ds m = .ok (.fl xs) m1 → ds.length = ps.length := fun ds xs m m1 q => by
    by_cases h : ds.length = ps.length
    · exact h
    · rw [hl ds h] at q
      cases q
  obtain ⟨oc, od, kV, doc, pm, an, cdv, ct, osl, rfl, lk, hcd⟩ := F.ex
  rw [hb] at lk ⊢
  refine dfn_of lk hcd S (fun n => hi n _) (fun vs H Q E h => ?_) (fun A outer s H vs Q E pn hr h => ?_)
  · obtain ⟨g, m, ds, xs, m1, rel, rv, q, _⟩ := h
    rw [rv.length, hlen ds _ _ _ q]
  · obtain ⟨g, m, ds, xs, m1, rel, rv, q, go⟩ := h
    obtain ⟨a, ha, wk⟩ := walk ds (hlen ds _ _ _ q)
    rw [ha] at q
    obtain ⟨m2, h2, hm⟩ := gcM_fl q
    refine ⟨_, yf_lst (wk cdv A outer s H E pn g hr), g, m, ⟨Le.refl g, rel, ?_, TW.refl H⟩, ?_⟩
    · unfold L2.start
      rw [rv.length]
      exact relS_start rv _
    · rw [h2]
      intro g2 H2 v le tk rel2 hv
      rcases hm with rfl | ⟨c1, c2, rfl⟩
      · obtain ⟨la, ws, rfl, e1, e2⟩ := rep_fl rel2 hv
        exact ⟨la, ws, rfl, e1, fun hz => ⟨hz, go _ _ _ le tk rel2 e2⟩⟩
      · obtain ⟨la, ws, rfl, e1, e2⟩ := rep_fl (rel.gc le rel2 c2) (hv.shrink c1)
        exact ⟨la, ws, rfl, e1, fun hz => ⟨hz, go _ _ _ (le_cut rel le) tk (rel.gc le rel2 c2) e2⟩⟩
def IsDf (P : Program) (w : World) (K : PySem.W.Frag) (mg : Str → Option Value) (base : Heap) (cls : Cl) (k : Nat) (x : Str) (f : List D → M D) : Prop :=
  ∃ (a : Addr) (fd : FuncData) (ps : List Str), mg x = some (.ref a) ∧ PySem.W.keepIn K (.ref a) = true ∧ Binds K fd ps [] ∧ DFn P w K mg base k a fd ps (spY ⟨K, cls⟩ f)
end
section
variable {X : Cx} {C : Cc} {ρ : List Sl} {k : Nat}
theorem run_dfn {pins : List (Addr × Obj)} {σ : L2.St} {H : Hp} {t : Shared} {f : Addr} {fd : FuncData} {ps : List Str} {sp : SpG} {us : List Value} {vs : List V} {cont : List V → Hp → Prop} {E : XK} {E1 : Value → Shared → Prop} (F : DFn X.prog X.w X.K X.mg X.base k f fd ps sp) (hr : Room k X.A) (hb : Binds X.K fd ps []) (I : Inv X pins σ H t) (r : Vals vs us) (h : sp vs H cont E) :
    wpAny (model X.prog X.w) X.A (call (.ref f) us) (fun u t' => ∃ H1 tc, Inv X pins σ H1 tc ∧ DMade X.prog X.w k X.stack H1 tc cont E u t') E1 t := by
  have hl : (us ++ ([] : List Value)).length = ps.length := by rw [List.append_nil, ← r.length]; exact F.len _ _ _ _ h
  have b := hb t us I.kIn hl
  rw [List.append_nil] at b
  refine wpAny_call (codeAny_mono (F.run X.A X.stack t H ⟨us, []⟩ us vs cont E hr I.env0 b r h) fun res t' hq => ?_)
  match res, hq with
  | .ok (.ret u), hq => exact ⟨H, t, I, hq⟩
theorem pgenD_call {E : XK} {x : Str} {f : Addr} {fd : FuncData} {ps : List Str} {sp : SpG} {e : Expr} {es : List Expr} {t : TA} {p pos2 : Pos} (F : DFn X.prog X.w X.K X.mg X.base k f fd ps sp) (hr : Room k X.A) (hg : Gl X x) (hm : X.mg x = some (.ref f)) (hk : PySem.W.keepIn X.K (.ref f) = true) (hb : Binds X.K fd ps []) (ha : PA X (e :: es) t)
    (hdb : (x == ("__debug__" : Str)) = false) (he : starEach (e :: es) X.env = (false, eval e X.env) :: starEach es X.env) (hpl : (backTo pos2 (starEach es X.env)).any (·.1) = false) :
    PGenD X k (.Call (.Name x p) (e :: es) [] pos2) (fun σ H cont => t σ H fun vs H1 => sp vs H1 cont E) E := by
  refine ⟨fun pins s σ H cont I h => wpAny_Call_Name_kw (ld_glob I hg hm (PySem.W.callWith_K (h₀ := X.base) I.ok.mod.kin hk (thn (ha.run pos2 pins s σ H _ I h) fun us s1 q1 => ?_) he hpl) hdb)⟩
  obtain ⟨vs, H1, I1, r, q⟩ := q1
  exact ⟨I1.kIn, run_dfn F hr hb I1 r q⟩
theorem c_lcG {x nm : Str} {f : List D → M D} {e : Expr} {es : List Expr} {cs : M (List D)} {p p1 p2 pos pos2 : Pos} {scope : Scope} (h : IsDf X.prog X.w X.K X.mg X.base C.cls k x f) (hc : X.calm = true) (hr : Room (k + 1) X.A) (hg : Gl X x) (ha : PAc X C ρ (e :: es) cs) (hsk : scope.kind = .function) (hsn : scope.names = [((".0" : Str), NameKind.local), (nm, .local)])
    (hdn : (nm == ("__debug__" : Str)) = false := by decide) (hdb : (x == ("__debug__" : Str)) = false := by decide) (he : starEach (e :: es) X.env = (false, eval e X.env) :: starEach es X.env := by rfl) (hpl : (backTo pos2 (starEach es X.env)).any (·.1) = false := by rfl)
    (hs : ∀ v, foldedSetIterable (.Call (.Name x p) (e :: es) [] pos2) X.env v = pure v := by intro _; rfl) :
    PEc X C ρ (.ListComp (.Name nm p1) [⟨.Name nm p2, .Call (.Name x p) (e :: es) [] pos2, [], 0⟩] scope pos) (calM (ylS f) cs) := by
  obtain ⟨a, fd, ps, h1, h2, h3, F⟩ := h
  refine pe_imp (pe_lcD hc (pgenD_call F (hr.mono (by omega)) hg h1 h2 h3 ha hdb he hpl) hr hsk hsn hdn hs) fun σ H Q q => ?_
  refine tG.bind q fun g1 H1 m1 v1 x1 at1 hv1 q1 => ?_
  exact yl_post at1.rel hv1 q1
end
end G
namespace G.K08
open PySem G
def atL : List (Nat × List Str) := [(0, ["at_level", "at_size", "done", "fixed", "most", "paid", "places"])]
def atr (c : Nat) (f : Str) : Bool := match atL.lookup c with
  | some l => l.contains f
  | none => false
def bd_is_integer (value least most : D) : M (Fl Unit Empty) := seq (iff (orM (notM (isiM .int (ret value))) (orM (isiM .bl (ret value)) (cmpM .lt (ret value) (ret least)))) (rtn (ret (.bl false))) (nxt ())) fun (s : Unit) => rtn (orM (cmpM .is (ret most) (ret .non)) (cmpM .le (ret value) (ret most)))
def t_is_integer (value least most : D) : M D := fnM (bd_is_integer value least most)
def bd_top_level (policy : D) : M (Fl Unit Empty) := rtn (binM .sub (calM lenS (lsM [idxM (ret policy) (ret (.int 0))])) (ret (.int 1)))
def t_top_level (policy : D) : M D := fnM (bd_top_level policy)
def bd_capacity_of (policy level : D) : M (Fl Unit Empty) := rtn (idxM (idxM (ret policy) (ret (.int 0))) (ret level))
def t_capacity_of (policy level : D) : M D := fnM (bd_capacity_of policy level)
def bd_boundaries (policy : D) : M (Fl Unit Empty) := rtn (calM tupleS (lsM [lcM (zipI (idxM (ret policy) (ret (.int 0))) (idxM (ret policy) (ret (.int 1)))) fun x => un2 x fun upper lower => elM (tupM (lsM [ret upper, ret lower]))]))
def t_boundaries (policy : D) : M D := fnM (bd_boundaries policy)
def bd_is_run (value : D) : M (Fl Unit Empty) := seq (iff (orM (notM (isiM .tup (ret value))) (orM (cmpM .ne (calM lenS (lsM [ret value])) (ret (.int 2))) (notM (isiM .str (idxM (ret value) (ret (.int 0))))))) (rtn (ret (.bl false))) (nxt ())) fun (s : Unit) => rtn (andM (cmpM .isin (idxM (ret value) (ret (.int 0))) (tupM (lsM [ret (.str "push"), ret (.str "pop")]))) (calM (fs3 t_is_integer) (lsM [idxM (ret value) (ret (.int 1)), ret (.int 1), ret (.int 1000000000000000000)])))
def t_is_run (value : D) : M D := fnM (bd_is_run value)
def bd_are_operations (value : D) : M (Fl Unit Empty) := rtn (andM (isiM .tup (ret value)) (andM (cmpM .le (calM lenS (lsM [ret value])) (ret (.int 200))) (calM allS (lsM [lcM (seqI (ret value)) fun run => elM (calM (fs1 t_is_run) (lsM [ret run]))]))))
def t_are_operations (value : D) : M D := fnM (bd_are_operations value)
def bd_check_operations (value : D) : M (Fl Unit Empty) := iff (notM (calM (fs1 t_are_operations) (lsM [ret value]))) (bad) (nxt ())
def t_check_operations (value : D) : M D := fnM (bd_check_operations value)
def bd_Track___init__ (self policy state : D) : M (Fl Unit Empty) := bnd (calM (fs1 t_boundaries) (lsM [ret policy])) fun x => bnd (fldT atr (ret self) "places" x) fun _ => bnd (idxM (ret policy) (ret (.int 2))) fun x_1 => bnd (fldT atr (ret self) "fixed" x_1) fun _ => bnd (calM (fs2 t_capacity_of) (lsM [ret policy, calM (fs1 t_top_level) (lsM [ret policy])])) fun x_2 => bnd (fldT atr (ret self) "most" x_2) fun _ => bnd (ret state) fun x_3 => bnd (tpT [fldT atr (ret self) "at_level", fldT atr (ret self) "at_size"] x_3) fun _ => bnd (ret (.int 0)) fun x_4 => bnd (fldT atr (ret self) "paid" x_4) fun _ => bnd (fldT atr (ret self) "done" x_4) fun _ => nxt ()
def t_Track___init__ (self policy state : D) : M D := fnM (bd_Track___init__ self policy state)
def bd_Track_move (self size v_by : D) : M (Fl Unit Empty) := bnd (augF atr .add (ret self) "done" (binM .add (calM absS (lsM [binM .sub (ret size) (fldM atr (ret self) "at_size")])) (ret (.int 1)))) fun _ => bnd (iteM (cmpM .gt (ret v_by) (ret (.int 0))) (ret size) (binM .sub (ret size) (ret (.int 1)))) fun copied => bnd (tupM (lsM [binM .add (ret size) (ret v_by), binM .add (fldM atr (ret self) "at_level") (ret v_by)])) fun x => bnd (tpT [fldT atr (ret self) "at_size", fldT atr (ret self) "at_level"] x) fun _ => bnd (augF atr .add (ret self) "paid" (binM .add (ret copied) (fldM atr (ret self) "fixed"))) fun _ => rtn (tupM (lsM [binM .sub (fldM atr (ret self) "done") (ret (.int 1)), iteM (cmpM .gt (ret v_by) (ret (.int 0))) (ret (.str "grow")) (ret (.str "shrink")), fldM atr (ret self) "at_level", ret copied]))
def t_Track_move (self size v_by : D) : M D := fnM (bd_Track_move self size v_by)
def bd_Track_rest (self size : D) : M (Fl Unit Empty) := bnd (augF atr .add (ret self) "done" (calM absS (lsM [binM .sub (ret size) (fldM atr (ret self) "at_size")]))) fun _ => bnd (ret size) fun x => bnd (fldT atr (ret self) "at_size" x) fun _ => nxt ()
def t_Track_rest (self size : D) : M D := fnM (bd_Track_rest self size)
def tb_move (c : Nat) : Option (List D → M D) := if c = 0 then some (fs3 t_Track_move) else none
def tb_rest (c : Nat) : Option (List D → M D) := if c = 0 then some (fs2 t_Track_rest) else none
def bd_Track_push (self count : D) : M (Fl Unit Empty) := bnd (binM .add (fldM atr (ret self) "at_size") (ret count)) fun goal => bnd (ownM (lsM [])) fun found => seq (whlM (fun s => andM (cmpM .lt (fldM atr (ret self) "at_level") (calM lenS (lsM [fldM atr (ret self) "places"]))) (cmpM .gt (ret goal) (idxM (idxM (fldM atr (ret self) "places") (fldM atr (ret self) "at_level")) (ret (.int 0))))) (found : List D) fun s => appO s (mthM tb_move (ret self) "move" (lsM [idxM (idxM (fldM atr (ret self) "places") (fldM atr (ret self) "at_level")) (ret (.int 0)), ret (.int 1)])) fun found_1 => nxt found_1) fun s_1 => bnd (mthM tb_rest (ret self) "rest" (lsM [ret goal])) fun _ => rtn (ret (.fl s_1))
def t_Track_push (self count : D) : M D := fnM (bd_Track_push self count)
def bd_Track_pop (self count : D) : M (Fl Unit Empty) := bnd (binM .sub (fldM atr (ret self) "at_size") (ret count)) fun goal => bnd (ownM (lsM [])) fun found => seq (whlM (fun s => andM (cmpM .gt (fldM atr (ret self) "at_level") (ret (.int 0))) (cmpM .le (ret goal) (idxM (idxM (fldM atr (ret self) "places") (binM .sub (fldM atr (ret self) "at_level") (ret (.int 1)))) (ret (.int 1))))) (found : List D) fun s => appO s (mthM tb_move (ret self) "move" (lsM [binM .add (idxM (idxM (fldM atr (ret self) "places") (binM .sub (fldM atr (ret self) "at_level") (ret (.int 1)))) (ret (.int 1))) (ret (.int 1)), negM (ret (.int 1))])) fun found_1 => nxt found_1) fun s_1 => bnd (mthM tb_rest (ret self) "rest" (lsM [ret goal])) fun _ => rtn (ret (.fl s_1))
def t_Track_pop (self count : D) : M D := fnM (bd_Track_pop self count)
def tb_pop (c : Nat) : Option (List D → M D) := if c = 0 then some (fs2 t_Track_pop) else none
def tb_push (c : Nat) : Option (List D → M D) := if c = 0 then some (fs2 t_Track_push) else none
def bd_Track_run (self word count : D) : M (Fl Unit Empty) := seq (iff (cmpM .eq (ret word) (ret (.str "push"))) (rtn (iteM (cmpM .le (binM .add (fldM atr (ret self) "at_size") (ret count)) (fldM atr (ret self) "most")) (mthM tb_push (ret self) "push" (lsM [ret count])) (ret .non))) (nxt ())) fun (s : Unit) => rtn (iteM (cmpM .ge (fldM atr (ret self) "at_size") (ret count)) (mthM tb_pop (ret self) "pop" (lsM [ret count])) (ret .non))
def t_Track_run (self word count : D) : M D := fnM (bd_Track_run self word count)
def tb_run (c : Nat) : Option (List D → M D) := if c = 0 then some (fs3 t_Track_run) else none
def bd_tracked (policy state operations : D) : M (Fl Unit Empty) := bnd (calM (fs1 t_check_operations) (lsM [ret operations])) fun _ => bnd (makM 0 (fs3 t_Track___init__) (lsM [ret policy, ret state])) fun track => bnd (ownM (lsM [])) fun found => seq (forM (enumI (ret operations)) (found : List D) fun x s => un2 x fun index q => un2 q fun word count => seq (bnd (mthM tb_run (ret track) "run" (lsM [ret word, ret count])) fun v_some => iff (cmpM .is (ret v_some) (ret .non)) (bad) (nxt v_some)) fun (s_1 : D) => extO s (ret s_1) fun found_1 => nxt found_1) fun s_2 => rtn (tupM (lsM [ret track, ret (.fl s_2)]))
def t_tracked (policy state operations : D) : M D := fnM (bd_tracked policy state operations)
def t_moves (policy state operations : D) : M D := gcM (idxM (calM (fs3 t_tracked) (lsM [ret policy, ret state, ret operations])) (ret (.int 1)))
def bd_law_draws (script k : D) : M (Fl Unit Empty) := bnd (iteM (cmpM .lt (ret k) (calM lenS (lsM [ret script]))) (idxM (ret script) (ret k)) (binM .add (binM .mul (ret (.int 7)) (ret k)) (ret (.int 3)))) fun cell => bnd (binM .mul (binM .mod (calM absS (lsM [ret cell])) (binM .pow (binM .pow (ret (.int 10)) (ret (.int 60))) (ret (.int 5)))) (calM intS (lsM [cmpM .ge (calM absS (lsM [ret cell])) (binM .pow (ret (.int 10)) (ret (.int 18)))]))) fun great => rtn (lshM (lsM [ret great, binM .mod (binM .mul (binM .add (binM .add (binM .mod (ret cell) (ret (.int 2305843009213693951))) (binM .mul (binM .mul (ret (.int 7919)) (ret k)) (ret k))) (ret (.int 17))) (ret (.int 48271))) (ret (.int 2305843009213693921)), ret (.int 0)]))
def t_law_draws (script k : D) : M D := fnM (bd_law_draws script k)
def bd_law_below (draws_here many : D) : M (Fl Unit Empty) := seq (iff (cmpM .gt (idxM (ret draws_here) (ret (.int 0))) (ret (.int 0))) (bnd (binM .mod (idxM (ret draws_here) (ret (.int 0))) (ret many)) fun digit => bnd (binM .fdiv (idxM (ret draws_here) (ret (.int 0))) (ret many)) fun x => bnd (subT (ret draws_here) (ret (.int 0)) x) fun _ => rtn (ret digit)) (nxt ())) fun (s : Unit) => bnd (binM .add (idxM (ret draws_here) (ret (.int 2))) (ret (.int 1))) fun step => bnd (ret step) fun x_1 => bnd (subT (ret draws_here) (ret (.int 2)) x_1) fun _ => bnd (idxM (lstM (lsM [ret (.int 2305843009213693951), ret (.int 999999999989), ret (.int 1000000000039), ret (.int 67280421310721)])) (binM .mod (ret step) (ret (.int 4)))) fun prime => bnd (binM .mod (binM .add (binM .add (idxM (ret draws_here) (ret (.int 1))) (binM .mul (binM .mul (ret (.int 7919)) (ret step)) (ret step))) (binM .mul (ret (.int 65537)) (ret step))) (ret prime)) fun mixed => bnd (binM .mod (binM .pow (ret mixed) (ret (.int 5))) (ret prime)) fun mixed_1 => rtn (binM .mod (binM .add (binM .fdiv (ret mixed_1) (ret (.int 4099))) (binM .mul (binM .fdiv (ret mixed_1) (ret (.int 1000003))) (ret (.int 7)))) (ret many))
def t_law_below (draws_here many : D) : M D := fnM (bd_law_below draws_here many)
def bd_law_pick (draws_here items : D) : M (Fl Unit Empty) := rtn (idxM (ret items) (calM (fs2 t_law_below) (lsM [ret draws_here, calM lenS (lsM [ret items])])))
def t_law_pick (draws_here items : D) : M D := fnM (bd_law_pick draws_here items)
def bd_law_policy (draws_here levels step : D) : M (Fl Unit Empty) := bnd (calM (fs2 t_law_below) (lsM [ret draws_here, ret (.int 4)])) fun way => bnd (negM (ret (.int 1))) fun low => bnd (ownM (lsM [binM .add (ret (.int 1)) (calM (fs2 t_law_below) (lsM [ret draws_here, ret step]))])) fun capacities => seq (forM (rng1I (calM (fs2 t_law_below) (lsM [ret draws_here, ret levels]))) (capacities : List D) fun turn s => bnd (idxM (lstM (lsM [binM .add (ret (.int 1)) (calM (fs2 t_law_below) (lsM [ret draws_here, ret step])), idxL s (negM (ret (.int 1))), ret (.int 1), binM .add (ret (.int 1)) (calM (fs2 t_law_below) (lsM [ret draws_here, binM .mul (ret (.int 2)) (ret step)]))])) (ret way)) fun more => appO s (binM .add (idxL s (negM (ret (.int 1)))) (ret more)) fun capacities_1 => nxt capacities_1) fun s_1 => bnd (calM (fs2 t_law_below) (lsM [ret draws_here, ret (.int 4)])) fun way_1 => bnd (ownM (lsM [])) fun limits => seq (forM (seqI (slcM (ret (.fl s_1)) noP (soP (negM (ret (.int 1)))))) ((low, limits) : D × List D) fun room s_2 => bnd (lstM (lsM [binM .add (ret s_2.1) (ret (.int 1)), ret room, binM .add (binM .add (ret s_2.1) (ret (.int 1))) (calM (fs2 t_law_below) (lsM [ret draws_here, binM .sub (ret room) (ret s_2.1)])), calM max2S (lsM [binM .add (ret s_2.1) (ret (.int 1)), binM .fdiv (ret room) (ret (.int 2))])])) fun v_some => bnd (idxM (ret v_some) (ret way_1)) fun low_1 => appO s_2.2 (ret low_1) fun limits_1 => nxt (low_1, limits_1)) fun s_3 => rtn (tupM (lsM [calM tupleS (lsM [ret (.fl s_1)]), calM tupleS (lsM [ret (.fl s_3.2)]), calM (fs2 t_law_pick) (lsM [ret draws_here, lstM (lsM [ret (.int 0), ret (.int 0), ret (.int 1), calM (fs2 t_law_below) (lsM [ret draws_here, ret (.int 20)])])])]))
def t_law_policy (draws_here levels step : D) : M D := fnM (bd_law_policy draws_here levels step)
def bd_law_pushed (policy_here level size : D) : M (Fl Unit Empty) := bnd (ret policy_here) fun x => un3 x fun capacities limits fixed => seq (iff (cmpM .lt (ret size) (idxM (ret capacities) (ret level))) (rtn (tupM (lsM [ret level, binM .add (ret size) (ret (.int 1)), ret (.int 0)]))) (nxt ())) fun (s : Unit) => rtn (iteM (cmpM .lt (binM .add (ret level) (ret (.int 1))) (calM lenS (lsM [ret capacities]))) (tupM (lsM [binM .add (ret level) (ret (.int 1)), binM .add (ret size) (ret (.int 1)), binM .add (ret size) (ret fixed)])) (ret .non))
def t_law_pushed (policy_here level size : D) : M D := fnM (bd_law_pushed policy_here level size)
def bd_law_popped (policy_here level size : D) : M (Fl Unit Empty) := bnd (ret policy_here) fun x => un3 x fun capacities limits fixed => seq (iff (cmpM .eq (ret size) (ret (.int 0))) (rtn (ret .non)) (nxt ())) fun (s : Unit) => seq (iff (andM (cmpM .gt (ret level) (ret (.int 0))) (cmpM .eq (binM .sub (ret size) (ret (.int 1))) (idxM (ret limits) (binM .sub (ret level) (ret (.int 1)))))) (rtn (tupM (lsM [binM .sub (ret level) (ret (.int 1)), binM .sub (ret size) (ret (.int 1)), binM .add (binM .sub (ret size) (ret (.int 1))) (ret fixed)]))) (nxt ())) fun (s_1 : Unit) => rtn (tupM (lsM [ret level, binM .sub (ret size) (ret (.int 1)), ret (.int 0)]))
def t_law_popped (policy_here level size : D) : M D := fnM (bd_law_popped policy_here level size)
def bd_law_states (policy_here : D) : M (Fl Unit Empty) := bnd (ret policy_here) fun x => un3 x fun capacities limits fixed => bnd (lcO (rng1I (binM .add (idxM (ret capacities) (ret (.int 0))) (ret (.int 1)))) fun size => elM (tupM (lsM [ret (.int 0), ret size]))) fun found => seq (forM (rng2I (ret (.int 1)) (calM lenS (lsM [ret capacities]))) (found : List D) fun level s => extO s (lcM (rng2I (binM .add (idxM (ret limits) (binM .sub (ret level) (ret (.int 1)))) (ret (.int 1))) (binM .add (idxM (ret capacities) (ret level)) (ret (.int 1)))) fun size_1 => elM (tupM (lsM [ret level, ret size_1]))) fun found_1 => nxt found_1) fun s_1 => rtn (ret (.fl s_1))
def t_law_states (policy_here : D) : M D := fnM (bd_law_states policy_here)
def bd_law_pairs (draws_here most longest : D) : M (Fl Unit Empty) := bnd (ownM (lsM [])) fun found => seq (forM (rng1I (calM (fs2 t_law_below) (lsM [ret draws_here, binM .add (ret most) (ret (.int 1))]))) (found : List D) fun turn s => bnd (calM (fs2 t_law_pick) (lsM [ret draws_here, lstM (lsM [ret (.int 1), binM .add (ret (.int 1)) (calM (fs2 t_law_below) (lsM [ret draws_here, ret (.int 3)])), binM .add (ret (.int 1)) (calM (fs2 t_law_below) (lsM [ret draws_here, ret longest]))])])) fun count => appO s (tupM (lsM [calM (fs2 t_law_pick) (lsM [ret draws_here, lstM (lsM [ret (.str "push"), ret (.str "push"), ret (.str "pop")])]), ret count])) fun found_1 => nxt found_1) fun s_1 => rtn (calM tupleS (lsM [ret (.fl s_1)]))
def t_law_pairs (draws_here most longest : D) : M D := fnM (bd_law_pairs draws_here most longest)
def bd_law_fitting (draws_here policy_here level size most longest : D) : M (Fl Unit Empty) := bnd (ownM (lsM [])) fun found => bnd (idxM (idxM (ret policy_here) (ret (.int 0))) (negM (ret (.int 1)))) fun room => seq (forM (seqI (calM (fs3 t_law_pairs) (lsM [ret draws_here, ret most, ret longest]))) ((size, found) : D × List D) fun x s => un2 x fun word count => bnd (calM min2S (lsM [ret count, iteM (cmpM .eq (ret word) (ret (.str "push"))) (binM .sub (ret room) (ret s.1)) (ret s.1)])) fun count_1 => iff (cmpM .gt (ret count_1) (ret (.int 0))) (appO s.2 (tupM (lsM [ret word, ret count_1])) fun found_1 => bnd (binM .add (ret s.1) (iteM (cmpM .eq (ret word) (ret (.str "push"))) (ret count_1) (binM .sub (ret (.int 0)) (ret count_1)))) fun size_1 => nxt (size_1, found_1)) (nxt (s.1, s.2))) fun s_1 => rtn (calM tupleS (lsM [ret (.fl s_1.2)]))
def t_law_fitting (draws_here policy_here level size most longest : D) : M D := fnM (bd_law_fitting draws_here policy_here level size most longest)
def bd_law_moves (policy_here level size pairs_here : D) : M (Fl Unit Empty) := bnd (ownM (lsM [])) fun found => bnd (ret (.int 0)) fun done => bnd (idxM (ret policy_here) (ret (.int 2))) fun fixed => seq (forM (seqI (ret pairs_here)) ((level, size, found, done) : D × D × List D × D) fun x s => un2 x fun word count => seq (forM (rng1I (ret count)) ((s.1, s.2.1, s.2.2.1, s.2.2.2) : D × D × List D × D) fun turn s_1 => bnd (iteM (cmpM .eq (ret word) (ret (.str "push"))) (calM (fs3 t_law_pushed) (lsM [ret policy_here, ret s_1.1, ret s_1.2.1])) (calM (fs3 t_law_popped) (lsM [ret policy_here, ret s_1.1, ret s_1.2.1]))) fun step => seq (iff (cmpM .is (ret step) (ret .non)) (rtn (ret .non)) (nxt ())) fun (s_2 : Unit) => seq (iff (cmpM .ne (idxM (ret step) (ret (.int 0))) (ret s_1.1)) (appO s_1.2.2.1 (tupM (lsM [ret s_1.2.2.2, iteM (cmpM .eq (ret word) (ret (.str "push"))) (ret (.str "grow")) (ret (.str "shrink")), idxM (ret step) (ret (.int 0)), binM .sub (idxM (ret step) (ret (.int 2))) (ret fixed)])) fun found_1 => nxt found_1) (nxt s_1.2.2.1)) fun (s_3 : List D) => bnd (idxM (ret step) (ret (.int 0))) fun level_1 => bnd (idxM (ret step) (ret (.int 1))) fun size_1 => bnd (binM .add (ret s_1.2.2.2) (ret (.int 1))) fun done_1 => nxt (level_1, size_1, s_3, done_1)) fun s_4 => nxt (s_4.1, s_4.2.1, s_4.2.2.1, s_4.2.2.2)) fun s_5 => rtn (ret (.fl s_5.2.2.1))
def t_law_moves (policy_here level size pairs_here : D) : M D := fnM (bd_law_moves policy_here level size pairs_here)
def bd_law (script : D) : M (Fl Unit Empty) := seq (forM (rng1I (calM max2S (lsM [ret (.int 1), calM min2S (lsM [ret (.int 3), calM lenS (lsM [ret script])])]))) (() : Unit) fun k s => bnd (calM (fs2 t_law_draws) (lsM [ret script, ret k])) fun draws_here => seq (forM (rng1I (ret (.int 4))) (() : Unit) fun turn s_1 => bnd (calM (fs3 t_law_policy) (lsM [ret draws_here, ret (.int 6), ret (.int 8)])) fun policy_here => seq (forM (seqI (tupM (lsM [tupM (lsM [ret (.int 0), ret (.int 0)]), calM (fs2 t_law_pick) (lsM [ret draws_here, calM (fs1 t_law_states) (lsM [ret policy_here])])]))) (() : Unit) fun state s_2 => bnd (calM (fs6 t_law_fitting) (lsM [ret draws_here, ret policy_here, idxM (ret state) (ret (.int 0)), idxM (ret state) (ret (.int 1)), ret (.int 8), ret (.int 40)])) fun pairs_here => bnd (calM (fs4 t_law_moves) (lsM [ret policy_here, idxM (ret state) (ret (.int 0)), idxM (ret state) (ret (.int 1)), ret pairs_here])) fun due => seq (iff (orM (cmpM .is (ret due) (ret .non)) (cmpM .ne (calM reprS (lsM [calM (ylS (fs3 t_moves)) (lsM [ret policy_here, ret state, ret pairs_here])])) (calM reprS (lsM [ret due])))) (rtn (ret (.bl false))) (nxt ())) fun (s_3 : Unit) => iff (cmpM .ne (calM reprS (lsM [calM (ylS (fs3 t_moves)) (lsM [ret policy_here, ret state, ret pairs_here])])) (calM reprS (lsM [ret due]))) (rtn (ret (.bl false))) (nxt ())) fun s_4 => nxt ()) fun s_5 => nxt ()) fun s_6 => rtn (ret (.bl true))
def t_law (script : D) : M D := fnM (bd_law script)
end G.K08
namespace G.K08
open PySem L2 PySem.Spec PyProof.Rows G
structure Ad where
  a_is_integer : Addr
  d_is_integer : FuncData
  a_top_level : Addr
  d_top_level : FuncData
  a_capacity_of : Addr
  d_capacity_of : FuncData
  a_boundaries : Addr
  d_boundaries : FuncData
  a_is_run : Addr
  d_is_run : FuncData
  a_are_operations : Addr
  d_are_operations : FuncData
  a_check_operations : Addr
  d_check_operations : FuncData
  a_Track___init__ : Addr
  d_Track___init__ : FuncData
  a_Track_move : Addr
  d_Track_move : FuncData
  a_Track_rest : Addr
  d_Track_rest : FuncData
  a_Track_push : Addr
  d_Track_push : FuncData
  a_Track_pop : Addr
  d_Track_pop : FuncData
  a_Track_run : Addr
  d_Track_run : FuncData
  a_tracked : Addr
  d_tracked : FuncData
  a_moves : Addr
  d_moves : FuncData
  a_law_draws : Addr
  d_law_draws : FuncData
  a_law_below : Addr
  d_law_below : FuncData
  a_law_pick : Addr
  d_law_pick : FuncData
  a_law_policy : Addr
  d_law_policy : FuncData
  a_law_pushed : Addr
  d_law_pushed : FuncData
  a_law_popped : Addr
  d_law_popped : FuncData
  a_law_states : Addr
  d_law_states : FuncData
  a_law_pairs : Addr
  d_law_pairs : FuncData
  a_law_fitting : Addr
  d_law_fitting : FuncData
  a_law_moves : Addr
  d_law_moves : FuncData
  a_law : Addr
  d_law : FuncData
  C_Track : Addr
  t_GROW : Tok
  t_MOST_COUNT : Tok
  t_MOST_PAIRS : Tok
  t_PAIR : Tok
  t_POP : Tok
  t_PUSH : Tok
  t_SHRINK : Tok
def clsA (z : Ad) : Cl := ⟨fun c => ([(0, z.C_Track)] : List (Nat × Addr)).lookup c, [], false⟩
structure Txt (K : PySem.W.Frag) (mg : Str → Option Value) (z : Ad) (base : Heap) : Prop where
  F_is_integer : Fun K "is_integer" "is_integer" st_is_integer z.a_is_integer z.d_is_integer
  B_is_integer : Binds K z.d_is_integer ["value", "least", "most"] []
  m_is_integer : mg "is_integer" = some (.ref z.a_is_integer)
  F_top_level : Fun K "top_level" "top_level" st_top_level z.a_top_level z.d_top_level
  B_top_level : Binds K z.d_top_level ["policy"] []
  m_top_level : mg "top_level" = some (.ref z.a_top_level)
  F_capacity_of : Fun K "capacity_of" "capacity_of" st_capacity_of z.a_capacity_of z.d_capacity_of
  B_capacity_of : Binds K z.d_capacity_of ["policy", "level"] []
  m_capacity_of : mg "capacity_of" = some (.ref z.a_capacity_of)
  F_boundaries : Fun K "boundaries" "boundaries" st_boundaries z.a_boundaries z.d_boundaries
  B_boundaries : Binds K z.d_boundaries ["policy"] []
  m_boundaries : mg "boundaries" = some (.ref z.a_boundaries)
  F_is_run : Fun K "is_run" "is_run" st_is_run z.a_is_run z.d_is_run
  B_is_run : Binds K z.d_is_run ["value"] []
  m_is_run : mg "is_run" = some (.ref z.a_is_run)
  F_are_operations : Fun K "are_operations" "are_operations" st_are_operations z.a_are_operations z.d_are_operations
  B_are_operations : Binds K z.d_are_operations ["value"] []
  m_are_operations : mg "are_operations" = some (.ref z.a_are_operations)
  F_check_operations : Fun K "check_operations" "check_operations" st_check_operations z.a_check_operations z.d_check_operations
  B_check_operations : Binds K z.d_check_operations ["value"] []
  m_check_operations : mg "check_operations" = some (.ref z.a_check_operations)
  F_Track___init__ : Fun K "__init__" "Track.__init__" st_Track___init__ z.a_Track___init__ z.d_Track___init__
  B_Track___init__ : Binds K z.d_Track___init__ ["self", "policy", "state"] []
  F_Track_move : Fun K "move" "Track.move" st_Track_move z.a_Track_move z.d_Track_move
  B_Track_move : Binds K z.d_Track_move ["self", "size", "by"] []
  m_Track_move : Meth K z.C_Track "move" z.a_Track_move
  F_Track_rest : Fun K "rest" "Track.rest" st_Track_rest z.a_Track_rest z.d_Track_rest
  B_Track_rest : Binds K z.d_Track_rest ["self", "size"] []
  m_Track_rest : Meth K z.C_Track "rest" z.a_Track_rest
  F_Track_push : Fun K "push" "Track.push" st_Track_push z.a_Track_push z.d_Track_push
  B_Track_push : Binds K z.d_Track_push ["self", "count"] []
  m_Track_push : Meth K z.C_Track "push" z.a_Track_push
  F_Track_pop : Fun K "pop" "Track.pop" st_Track_pop z.a_Track_pop z.d_Track_pop
  B_Track_pop : Binds K z.d_Track_pop ["self", "count"] []
  m_Track_pop : Meth K z.C_Track "pop" z.a_Track_pop
  F_Track_run : Fun K "run" "Track.run" st_Track_run z.a_Track_run z.d_Track_run
  B_Track_run : Binds K z.d_Track_run ["self", "word", "count"] []
  m_Track_run : Meth K z.C_Track "run" z.a_Track_run
  F_tracked : Fun K "tracked" "tracked" st_tracked z.a_tracked z.d_tracked
  B_tracked : Binds K z.d_tracked ["policy", "state", "operations"] []
  m_tracked : mg "tracked" = some (.ref z.a_tracked)
  F_moves : Fun K "moves" "moves" st_moves z.a_moves z.d_moves
  B_moves : Binds K z.d_moves ["policy", "state", "operations"] []
  m_moves : mg "moves" = some (.ref z.a_moves)
  F_law_draws : Fun K "_law_draws" "_law_draws" st_law_draws z.a_law_draws z.d_law_draws
  B_law_draws : Binds K z.d_law_draws ["_law_script", "_law_k"] []
  m_law_draws : mg "_law_draws" = some (.ref z.a_law_draws)
  F_law_below : Fun K "_law_below" "_law_below" st_law_below z.a_law_below z.d_law_below
  B_law_below : Binds K z.d_law_below ["_law_draws_here", "_law_many"] []
  m_law_below : mg "_law_below" = some (.ref z.a_law_below)
  F_law_pick : Fun K "_law_pick" "_law_pick" st_law_pick z.a_law_pick z.d_law_pick
  B_law_pick : Binds K z.d_law_pick ["_law_draws_here", "_law_items"] []
  m_law_pick : mg "_law_pick" = some (.ref z.a_law_pick)
  F_law_policy : Fun K "_law_policy" "_law_policy" st_law_policy z.a_law_policy z.d_law_policy
  B_law_policy : Binds K z.d_law_policy ["_law_draws_here", "_law_levels", "_law_step"] []
  m_law_policy : mg "_law_policy" = some (.ref z.a_law_policy)
  F_law_pushed : Fun K "_law_pushed" "_law_pushed" st_law_pushed z.a_law_pushed z.d_law_pushed
  B_law_pushed : Binds K z.d_law_pushed ["_law_policy_here", "_law_level", "_law_size"] []
  m_law_pushed : mg "_law_pushed" = some (.ref z.a_law_pushed)
  F_law_popped : Fun K "_law_popped" "_law_popped" st_law_popped z.a_law_popped z.d_law_popped
  B_law_popped : Binds K z.d_law_popped ["_law_policy_here", "_law_level", "_law_size"] []
  m_law_popped : mg "_law_popped" = some (.ref z.a_law_popped)
  F_law_states : Fun K "_law_states" "_law_states" st_law_states z.a_law_states z.d_law_states
  B_law_states : Binds K z.d_law_states ["_law_policy_here"] []
  m_law_states : mg "_law_states" = some (.ref z.a_law_states)
  F_law_pairs : Fun K "_law_pairs" "_law_pairs" st_law_pairs z.a_law_pairs z.d_law_pairs
  B_law_pairs : Binds K z.d_law_pairs ["_law_draws_here", "_law_most", "_law_longest"] []
  m_law_pairs : mg "_law_pairs" = some (.ref z.a_law_pairs)
  F_law_fitting : Fun K "_law_fitting" "_law_fitting" st_law_fitting z.a_law_fitting z.d_law_fitting
  B_law_fitting : Binds K z.d_law_fitting ["_law_draws_here", "_law_policy_here", "_law_level", "_law_size", "_law_most", "_law_longest"] []
  m_law_fitting : mg "_law_fitting" = some (.ref z.a_law_fitting)
  F_law_moves : Fun K "_law_moves" "_law_moves" st_law_moves z.a_law_moves z.d_law_moves
  B_law_moves : Binds K z.d_law_moves ["_law_policy_here", "_law_level", "_law_size", "_law_pairs_here"] []
  m_law_moves : mg "_law_moves" = some (.ref z.a_law_moves)
  F_law : Fun K "law" "law" st_law z.a_law z.d_law
  B_law : Binds K z.d_law ["_law_script"] []
  m_law : mg "law" = some (.ref z.a_law)
  c_Track : Cls K z.C_Track
  g_Track : mg "Track" = some (.ref z.C_Track)
  h_Track : Mk K z.C_Track z.a_Track___init__
  n_Track_at_level : NoAttr K z.C_Track "at_level"
  n_Track_at_size : NoAttr K z.C_Track "at_size"
  n_Track_done : NoAttr K z.C_Track "done"
  n_Track_fixed : NoAttr K z.C_Track "fixed"
  n_Track_most : NoAttr K z.C_Track "most"
  n_Track_paid : NoAttr K z.C_Track "paid"
  n_Track_places : NoAttr K z.C_Track "places"
  z_abs : mg "abs" = none
  z_all : mg "all" = none
  z_bool : mg "bool" = none
  z_enumerate : mg "enumerate" = none
  z_int : mg "int" = none
  z_isinstance : mg "isinstance" = none
  z_len : mg "len" = none
  z_list : mg "list" = none
  z_max : mg "max" = none
  z_min : mg "min" = none
  z_range : mg "range" = none
  z_repr : mg "repr" = none
  z_str : mg "str" = none
  z_tuple : mg "tuple" = none
  z_zip : mg "zip" = none
  k_GROW : mg "GROW" = some (.str "grow" z.t_GROW)
  k_MOST_COUNT : mg "MOST_COUNT" = some (.int 1000000000000000000 z.t_MOST_COUNT)
  k_MOST_PAIRS : mg "MOST_PAIRS" = some (.int 200 z.t_MOST_PAIRS)
  k_PAIR : mg "PAIR" = some (.int 2 z.t_PAIR)
  k_POP : mg "POP" = some (.str "pop" z.t_POP)
  k_PUSH : mg "PUSH" = some (.str "push" z.t_PUSH)
  k_SHRINK : mg "SHRINK" = some (.str "shrink" z.t_SHRINK)
section
variable {gu : Bool} {P : Program} {w : World} {K : PySem.W.Frag} {mg : Str → Option Value} {base : Heap} {z : Ad}
theorem ct_ok (T : Txt K mg z base) : IsAt K (clsA z) atr := by
  intro c f h
  unfold atr at h
  cases hl : atL.lookup c with
  | none => rw [hl] at h; cases h
  | some l =>
    rw [hl] at h
    have hm := lookup_mem hl
    simp only [atL, List.mem_cons, Prod.mk.injEq, List.not_mem_nil, or_false] at hm
    obtain ⟨rfl, rfl⟩ := hm
    have hf := List.contains_iff_mem.mp h
    simp only [List.mem_cons, List.not_mem_nil, or_false] at hf
    rcases hf with rfl | rfl | rfl | rfl | rfl | rfl | rfl
    · exact ⟨z.C_Track, rfl, T.c_Track, T.n_Track_at_level⟩
    · exact ⟨z.C_Track, rfl, T.c_Track, T.n_Track_at_size⟩
    · exact ⟨z.C_Track, rfl, T.c_Track, T.n_Track_done⟩
    · exact ⟨z.C_Track, rfl, T.c_Track, T.n_Track_fixed⟩
    · exact ⟨z.C_Track, rfl, T.c_Track, T.n_Track_most⟩
    · exact ⟨z.C_Track, rfl, T.c_Track, T.n_Track_paid⟩
    · exact ⟨z.C_Track, rfl, T.c_Track, T.n_Track_places⟩
theorem sc_is_integer : FnScope ["value", "least", "most"] ["value", "least", "most"] (defScope st_is_integer) := ⟨rfl, rfl, rfl, by decide +kernel, rfl, by decide +kernel, by decide +kernel⟩
theorem o_is_integer (T : Txt K mg z base) : FnG gu P w K mg base (L2.CX P w) 1 z.a_is_integer z.d_is_integer ["value", "least", "most"] (spM ⟨K, clsA z⟩ (fs3 t_is_integer)) := by
  refine fn_3 (k := 0) (b := bd_is_integer) T.F_is_integer sc_is_integer (.inl fun _ _ _ => rfl) fun value least most cdv A outer s0 H E gB hr0 cl0 => ?_
  unfold bd_is_integer
  have sc := sc_is_integer
  have hr : Room 0 (cxOf (L2.CX P w) P w K mg base ["value", "least", "most"] "is_integer" (defScope st_is_integer) z.a_is_integer cdv A outer s0 H E).A := hr0
  have cl : Clr gu (cxOf (L2.CX P w) P w K mg base ["value", "least", "most"] "is_integer" (defScope st_is_integer) z.a_is_integer cdv A outer s0 H E).A := cl0
  have hu := hr.units
  have tk : Takes (cxOf (L2.CX P w) P w K mg base ["value", "least", "most"] "is_integer" (defScope st_is_integer) z.a_is_integer cdv A outer s0 H E) (fun c d _ H' => E c d H') := takes_of rfl rfl rfl rfl
  have hp := passes_of (X := (cxOf (L2.CX P w) P w K mg base ["value", "least", "most"] "is_integer" (defScope st_is_integer) z.a_is_integer cdv A outer s0 H E)) rfl
  exact s_if (oa' := fun (s : Unit) => [.val value, .val least, .val most]) (PW.pt (p_or (p_not (p_truth (c_isi (t := .int) (by decide) (by rfl) T.z_isinstance (by rfl) T.z_int (by decide +kernel) (c_var (pv 0) rfl)))) (p_or (p_truth (c_isi (t := .bl) (by decide) (by rfl) T.z_isinstance (by rfl) T.z_bool (by decide +kernel) (c_var (pv 0) rfl))) (p_one' (p_cmp op_lt sv_lt (nomark _) (c_var (pv 0) rfl) (c_var (pv 1) rfl)))))) (s_ret (c_bl)) (s_nil (.eq (.eq (.eq .nil)))) (fun s => s_ret (c_or (c_cmp op_isN sv_is (nomark _) (c_var (pv 2) rfl) (c_non)) (c_one (c_cmp op_le sv_le (nomark _) (c_var (pv 0) rfl) (c_var (pv 2) rfl)))))
theorem sc_top_level : FnScope ["policy"] ["policy"] (defScope st_top_level) := ⟨rfl, rfl, rfl, by decide +kernel, rfl, by decide +kernel, by decide +kernel⟩
theorem o_top_level (T : Txt K mg z base) : FnG gu P w K mg base (L2.CX P w) 1 z.a_top_level z.d_top_level ["policy"] (spM ⟨K, clsA z⟩ (fs1 t_top_level)) := by
  refine fn_1 (k := 0) (b := bd_top_level) T.F_top_level sc_top_level (.inl fun _ => rfl) fun policy cdv A outer s0 H E gB hr0 cl0 => ?_
  unfold bd_top_level
  have sc := sc_top_level
  have hr : Room 0 (cxOf (L2.CX P w) P w K mg base ["policy"] "top_level" (defScope st_top_level) z.a_top_level cdv A outer s0 H E).A := hr0
  have cl : Clr gu (cxOf (L2.CX P w) P w K mg base ["policy"] "top_level" (defScope st_top_level) z.a_top_level cdv A outer s0 H E).A := cl0
  have hu := hr.units
  have tk : Takes (cxOf (L2.CX P w) P w K mg base ["policy"] "top_level" (defScope st_top_level) z.a_top_level cdv A outer s0 H E) (fun c d _ H' => E c d H') := takes_of rfl rfl rfl rfl
  have hp := passes_of (X := (cxOf (L2.CX P w) P w K mg base ["policy"] "top_level" (defScope st_top_level) z.a_top_level cdv A outer s0 H E)) rfl
  exact s_ret (c_bin op_sub sv_sub (c_bi sv_len (a_cons (c_idx (c_var (pv 0) rfl) (c_int)) a_nil) (fun {_} h => pe_callB call_lenA (by rfl) T.z_len (by decide +kernel) h)) (c_int))
theorem sc_capacity_of : FnScope ["policy", "level"] ["policy", "level"] (defScope st_capacity_of) := ⟨rfl, rfl, rfl, by decide +kernel, rfl, by decide +kernel, by decide +kernel⟩
theorem o_capacity_of (T : Txt K mg z base) : FnG gu P w K mg base (L2.CX P w) 1 z.a_capacity_of z.d_capacity_of ["policy", "level"] (spM ⟨K, clsA z⟩ (fs2 t_capacity_of)) := by
  refine fn_2 (k := 0) (b := bd_capacity_of) T.F_capacity_of sc_capacity_of (.inl fun _ _ => rfl) fun policy level cdv A outer s0 H E gB hr0 cl0 => ?_
  unfold bd_capacity_of
  have sc := sc_capacity_of
  have hr : Room 0 (cxOf (L2.CX P w) P w K mg base ["policy", "level"] "capacity_of" (defScope st_capacity_of) z.a_capacity_of cdv A outer s0 H E).A := hr0
  have cl : Clr gu (cxOf (L2.CX P w) P w K mg base ["policy", "level"] "capacity_of" (defScope st_capacity_of) z.a_capacity_of cdv A outer s0 H E).A := cl0
  have hu := hr.units
  have tk : Takes (cxOf (L2.CX P w) P w K mg base ["policy", "level"] "capacity_of" (defScope st_capacity_of) z.a_capacity_of cdv A outer s0 H E) (fun c d _ H' => E c d H') := takes_of rfl rfl rfl rfl
  have hp := passes_of (X := (cxOf (L2.CX P w) P w K mg base ["policy", "level"] "capacity_of" (defScope st_capacity_of) z.a_capacity_of cdv A outer s0 H E)) rfl
  exact s_ret (c_idx (c_idx (c_var (pv 0) rfl) (c_int)) (c_var (pv 1) rfl))
theorem sc_boundaries : FnScope ["policy", "upper", "lower"] ["policy"] (defScope st_boundaries) := ⟨rfl, rfl, rfl, by decide +kernel, rfl, by decide +kernel, by decide +kernel⟩
theorem o_boundaries (T : Txt K mg z base) : FnG gu P w K mg base (L2.CX P w) 1 z.a_boundaries z.d_boundaries ["policy"] (spM ⟨K, clsA z⟩ (fs1 t_boundaries)) := by
  refine fn_1 (k := 0) (b := bd_boundaries) T.F_boundaries sc_boundaries (.inl fun _ => rfl) fun policy cdv A outer s0 H E gB hr0 cl0 => ?_
  unfold bd_boundaries
  have sc := sc_boundaries
  have hr : Room 0 (cxOf (L2.CX P w) P w K mg base ["policy", "upper", "lower"] "boundaries" (defScope st_boundaries) z.a_boundaries cdv A outer s0 H E).A := hr0
  have cl : Clr gu (cxOf (L2.CX P w) P w K mg base ["policy", "upper", "lower"] "boundaries" (defScope st_boundaries) z.a_boundaries cdv A outer s0 H E).A := cl0
  have hu := hr.units
  have tk : Takes (cxOf (L2.CX P w) P w K mg base ["policy", "upper", "lower"] "boundaries" (defScope st_boundaries) z.a_boundaries cdv A outer s0 H E) (fun c d _ H' => E c d H') := takes_of rfl rfl rfl rfl
  have hp := passes_of (X := (cxOf (L2.CX P w) P w K mg base ["policy", "upper", "lower"] "boundaries" (defScope st_boundaries) z.a_boundaries cdv A outer s0 H E)) rfl
  exact s_ret (c_bi sv_tuple (a_cons (c_lc (own := [("upper", 1), ("lower", 2)]) rfl sc.nd (i_zip (by rfl) T.z_zip (a_cons (c_idx (c_var (pv 0) rfl) (c_int)) (a_cons (c_idx (c_var (pv 0) rfl) (c_int)) a_nil))) (blkOk_by (N := ["policy", "upper", "lower"]) (sc := defScope st_boundaries) (by decide +kernel)) (by decide) (fun _ _ _ _ _ => g_tp rfl (gs_cons (g_nm (pg_name (i := 1) sc.nd rfl (by first | exact Or.inl rfl | exact Or.inr rfl))) (gs_cons (g_nm (pg_name (i := 2) sc.nd rfl (by first | exact Or.inl rfl | exact Or.inr rfl))) gs_nil))) (fun x => bd_2 fun upper lower => bd_nm (bd_nm (ok_el (fun _ _ _ _ _ => c_tup (a_cons (c_var (pv 1) rfl) (a_cons (c_var (pv 2) rfl) a_nil))))))) a_nil) (fun {_} h => pe_callTy call_tuple_of (by rfl) T.z_tuple (by decide +kernel) h))
theorem sc_is_run : FnScope ["value"] ["value"] (defScope st_is_run) := ⟨rfl, rfl, rfl, by decide +kernel, rfl, by decide +kernel, by decide +kernel⟩
theorem o_is_run (T : Txt K mg z base) : FnG gu P w K mg base (L2.CX P w) 2 z.a_is_run z.d_is_run ["value"] (spM ⟨K, clsA z⟩ (fs1 t_is_run)) := by
  refine fn_1 (k := 1) (b := bd_is_run) T.F_is_run sc_is_run (.inl fun _ => rfl) fun value cdv A outer s0 H E gB hr0 cl0 => ?_
  unfold bd_is_run
  have sc := sc_is_run
  have hr : Room 1 (cxOf (L2.CX P w) P w K mg base ["value"] "is_run" (defScope st_is_run) z.a_is_run cdv A outer s0 H E).A := hr0
  have cl : Clr gu (cxOf (L2.CX P w) P w K mg base ["value"] "is_run" (defScope st_is_run) z.a_is_run cdv A outer s0 H E).A := cl0
  have hu := hr.units
  have tk : Takes (cxOf (L2.CX P w) P w K mg base ["value"] "is_run" (defScope st_is_run) z.a_is_run cdv A outer s0 H E) (fun c d _ H' => E c d H') := takes_of rfl rfl rfl rfl
  have hp := passes_of (X := (cxOf (L2.CX P w) P w K mg base ["value"] "is_run" (defScope st_is_run) z.a_is_run cdv A outer s0 H E)) rfl
  have i_is_integer : IsFn gu P w K mg base (clsA z) 1 "is_integer" (fs3 t_is_integer) := ⟨_, _, _, T.m_is_integer, T.F_is_integer.kp, T.B_is_integer, (o_is_integer T).mono (by decide)⟩
  exact s_if (oa' := fun (s : Unit) => [.val value]) (PW.pt (p_or (p_not (p_truth (c_isi (t := .tup) (by decide) (by rfl) T.z_isinstance (by rfl) T.z_tuple (by decide +kernel) (c_var (pv 0) rfl)))) (p_or (p_cmp (op_neA hu) sv_ne (nomark _) (c_bi sv_len (a_cons (c_var (pv 0) rfl) a_nil) (fun {_} h => pe_callB call_lenA (by rfl) T.z_len (by decide +kernel) h)) (c_cst (v := .int 2) (pe_glob (by rfl) T.k_PAIR ⟨_, rfl⟩) (fun _ _ => .int _))) (p_one' (p_not (p_truth (c_isi (t := .str) (by decide) (by rfl) T.z_isinstance (by rfl) T.z_str (by decide +kernel) (c_idx (c_var (pv 0) rfl) (c_int))))))))) (s_ret (c_bl)) (s_nil (.eq .nil)) (fun s => s_ret (c_and (c_cmp op_in_seq sv_in (by rfl) (c_idx (c_var (pv 0) rfl) (c_int)) (c_tup (a_cons (c_cst (v := .str "push") (pe_glob (by rfl) T.k_PUSH ⟨_, rfl⟩) (fun _ _ => .str _)) (a_cons (c_cst (v := .str "pop") (pe_glob (by rfl) T.k_POP ⟨_, rfl⟩) (fun _ _ => .str _)) a_nil)))) (c_one (c_call i_is_integer hr cl tk (by rfl) (a_cons (c_idx (c_var (pv 0) rfl) (c_int)) (a_cons (c_int) (a_cons (c_cst (v := .int 1000000000000000000) (pe_glob (by rfl) T.k_MOST_COUNT ⟨_, rfl⟩) (fun _ _ => .int _)) a_nil)))))))
theorem sc_are_operations : FnScope ["value", "run"] ["value"] (defScope st_are_operations) := ⟨rfl, rfl, rfl, by decide +kernel, rfl, by decide +kernel, by decide +kernel⟩
theorem o_are_operations (T : Txt K mg z base) : FnG gu P w K mg base (L2.CX P w) 3 z.a_are_operations z.d_are_operations ["value"] (spM ⟨K, clsA z⟩ (fs1 t_are_operations)) := by
  refine fn_1 (k := 2) (b := bd_are_operations) T.F_are_operations sc_are_operations (.inl fun _ => rfl) fun value cdv A outer s0 H E gB hr0 cl0 => ?_
  unfold bd_are_operations
  have sc := sc_are_operations
  have hr : Room 2 (cxOf (L2.CX P w) P w K mg base ["value", "run"] "are_operations" (defScope st_are_operations) z.a_are_operations cdv A outer s0 H E).A := hr0
  have cl : Clr gu (cxOf (L2.CX P w) P w K mg base ["value", "run"] "are_operations" (defScope st_are_operations) z.a_are_operations cdv A outer s0 H E).A := cl0
  have hu := hr.units
  have tk : Takes (cxOf (L2.CX P w) P w K mg base ["value", "run"] "are_operations" (defScope st_are_operations) z.a_are_operations cdv A outer s0 H E) (fun c d _ H' => E c d H') := takes_of rfl rfl rfl rfl
  have hp := passes_of (X := (cxOf (L2.CX P w) P w K mg base ["value", "run"] "are_operations" (defScope st_are_operations) z.a_are_operations cdv A outer s0 H E)) rfl
  have i_is_run : IsFn gu P w K mg base (clsA z) 2 "is_run" (fs1 t_is_run) := ⟨_, _, _, T.m_is_run, T.F_is_run.kp, T.B_is_run, (o_is_run T).mono (by decide)⟩
  exact s_ret (c_and (c_isi (t := .tup) (by decide) (by rfl) T.z_isinstance (by rfl) T.z_tuple (by decide +kernel) (c_var (pv 0) rfl)) (c_and (c_cmp op_le sv_le (nomark _) (c_bi sv_len (a_cons (c_var (pv 0) rfl) a_nil) (fun {_} h => pe_callB call_lenA (by rfl) T.z_len (by decide +kernel) h)) (c_cst (v := .int 200) (pe_glob (by rfl) T.k_MOST_PAIRS ⟨_, rfl⟩) (fun _ _ => .int _))) (c_one (c_bi sv_all (a_cons (c_lc (own := [("run", 1)]) rfl sc.nd (i_seq (c_var (pv 0) rfl)) (blkOk_by (N := ["value", "run"]) (sc := defScope st_are_operations) (by decide +kernel)) (by decide) (fun _ _ _ _ _ => g_nm (pg_name (i := 1) sc.nd rfl (by first | exact Or.inl rfl | exact Or.inr rfl))) (fun run => bd_nm (ok_el (fun _ _ _ _ _ => c_call i_is_run hr cl takes0 (by rfl) (a_cons (c_var (pv 1) rfl) a_nil))))) a_nil) (fun {_} h => pe_callB (cr_all rfl) (by rfl) T.z_all (by decide +kernel) h)))))
theorem sc_check_operations : FnScope ["value"] ["value"] (defScope st_check_operations) := ⟨rfl, rfl, rfl, by decide +kernel, rfl, by decide +kernel, by decide +kernel⟩
theorem o_check_operations (T : Txt K mg z base) : FnG gu P w K mg base (L2.CX P w) 4 z.a_check_operations z.d_check_operations ["value"] (spM ⟨K, clsA z⟩ (fs1 t_check_operations)) := by
  refine fn_1 (k := 3) (b := bd_check_operations) T.F_check_operations sc_check_operations (.inl fun _ => rfl) fun value cdv A outer s0 H E gB hr0 cl0 => ?_
  unfold bd_check_operations
  have sc := sc_check_operations
  have hr : Room 3 (cxOf (L2.CX P w) P w K mg base ["value"] "check_operations" (defScope st_check_operations) z.a_check_operations cdv A outer s0 H E).A := hr0
  have cl : Clr gu (cxOf (L2.CX P w) P w K mg base ["value"] "check_operations" (defScope st_check_operations) z.a_check_operations cdv A outer s0 H E).A := cl0
  have hu := hr.units
  have tk : Takes (cxOf (L2.CX P w) P w K mg base ["value"] "check_operations" (defScope st_check_operations) z.a_check_operations cdv A outer s0 H E) (fun c d _ H' => E c d H') := takes_of rfl rfl rfl rfl
  have hp := passes_of (X := (cxOf (L2.CX P w) P w K mg base ["value"] "check_operations" (defScope st_check_operations) z.a_check_operations cdv A outer s0 H E)) rfl
  have i_are_operations : IsFn gu P w K mg base (clsA z) 3 "are_operations" (fs1 t_are_operations) := ⟨_, _, _, T.m_are_operations, T.F_are_operations.kp, T.B_are_operations, (o_are_operations T).mono (by decide)⟩
  exact s_ifL (p_not (p_truth (c_call i_are_operations hr cl tk (by rfl) (a_cons (c_var (pv 0) rfl) a_nil)))) (s_bad) (s_end)
theorem sc_Track___init__ : FnScope ["self", "policy", "state"] ["self", "policy", "state"] (defScope st_Track___init__) := ⟨rfl, rfl, rfl, by decide +kernel, rfl, by decide +kernel, by decide +kernel⟩
theorem o_Track___init__ (T : Txt K mg z base) : FnG gu P w K mg base (L2.CX P w) 2 z.a_Track___init__ z.d_Track___init__ ["self", "policy", "state"] (spM ⟨K, clsA z⟩ (fs3 t_Track___init__)) := by
  refine fn_3 (k := 1) (b := bd_Track___init__) T.F_Track___init__ sc_Track___init__ (.inl fun _ _ _ => rfl) fun self policy state cdv A outer s0 H E gB hr0 cl0 => ?_
  unfold bd_Track___init__
  have sc := sc_Track___init__
  have hr : Room 1 (cxOf (L2.CX P w) P w K mg base ["self", "policy", "state"] "Track.__init__" (defScope st_Track___init__) z.a_Track___init__ cdv A outer s0 H E).A := hr0
  have cl : Clr gu (cxOf (L2.CX P w) P w K mg base ["self", "policy", "state"] "Track.__init__" (defScope st_Track___init__) z.a_Track___init__ cdv A outer s0 H E).A := cl0
  have hu := hr.units
  have tk : Takes (cxOf (L2.CX P w) P w K mg base ["self", "policy", "state"] "Track.__init__" (defScope st_Track___init__) z.a_Track___init__ cdv A outer s0 H E) (fun c d _ H' => E c d H') := takes_of rfl rfl rfl rfl
  have hp := passes_of (X := (cxOf (L2.CX P w) P w K mg base ["self", "policy", "state"] "Track.__init__" (defScope st_Track___init__) z.a_Track___init__ cdv A outer s0 H E)) rfl
  have ct := ct_ok T
  have i_boundaries : IsFn gu P w K mg base (clsA z) 1 "boundaries" (fs1 t_boundaries) := ⟨_, _, _, T.m_boundaries, T.F_boundaries.kp, T.B_boundaries, (o_boundaries T).mono (by decide)⟩
  have i_capacity_of : IsFn gu P w K mg base (clsA z) 1 "capacity_of" (fs2 t_capacity_of) := ⟨_, _, _, T.m_capacity_of, T.F_capacity_of.kp, T.B_capacity_of, (o_capacity_of T).mono (by decide)⟩
  have i_top_level : IsFn gu P w K mg base (clsA z) 1 "top_level" (fs1 t_top_level) := ⟨_, _, _, T.m_top_level, T.F_top_level.kp, T.B_top_level, (o_top_level T).mono (by decide)⟩
  exact s_tgt (c_call i_boundaries hr cl tk (by rfl) (a_cons (c_var (pv 1) rfl) a_nil)) (tg_fld ct (c_var (pv 0) rfl)) (s_tgt (c_idx (c_var (pv 1) rfl) (c_int)) (tg_fld ct (c_var (pv 0) rfl)) (s_tgt (c_call i_capacity_of hr cl tk (by rfl) (a_cons (c_var (pv 1) rfl) (a_cons (c_call i_top_level hr cl tk (by rfl) (a_cons (c_var (pv 1) rfl) a_nil)) a_nil))) (tg_fld ct (c_var (pv 0) rfl)) (s_tgt (c_var (pv 2) rfl) (tg_tp rfl (tgs_cons (tg_fld ct (c_var (pv 0) rfl)) (tgs_cons (tg_fld ct (c_var (pv 0) rfl)) tgs_nil))) (s_tgt2 (c_int) (tg_fld ct (c_var (pv 0) rfl)) (tg_fld ct (c_var (pv 0) rfl)) (s_end)))))
theorem sc_Track_move : FnScope ["self", "size", "by", "copied"] ["self", "size", "by"] (defScope st_Track_move) := ⟨rfl, rfl, rfl, by decide +kernel, rfl, by decide +kernel, by decide +kernel⟩
theorem o_Track_move (T : Txt K mg z base) : FnG gu P w K mg base (L2.CX P w) 1 z.a_Track_move z.d_Track_move ["self", "size", "by"] (spM ⟨K, clsA z⟩ (fs3 t_Track_move)) := by
  refine fn_3 (k := 0) (b := bd_Track_move) T.F_Track_move sc_Track_move (.inl fun _ _ _ => rfl) fun self size v_by cdv A outer s0 H E gB hr0 cl0 => ?_
  unfold bd_Track_move
  have sc := sc_Track_move
  have hr : Room 0 (cxOf (L2.CX P w) P w K mg base ["self", "size", "by", "copied"] "Track.move" (defScope st_Track_move) z.a_Track_move cdv A outer s0 H E).A := hr0
  have cl : Clr gu (cxOf (L2.CX P w) P w K mg base ["self", "size", "by", "copied"] "Track.move" (defScope st_Track_move) z.a_Track_move cdv A outer s0 H E).A := cl0
  have hu := hr.units
  have tk : Takes (cxOf (L2.CX P w) P w K mg base ["self", "size", "by", "copied"] "Track.move" (defScope st_Track_move) z.a_Track_move cdv A outer s0 H E) (fun c d _ H' => E c d H') := takes_of rfl rfl rfl rfl
  have hp := passes_of (X := (cxOf (L2.CX P w) P w K mg base ["self", "size", "by", "copied"] "Track.move" (defScope st_Track_move) z.a_Track_move cdv A outer s0 H E)) rfl
  have ct := ct_ok T
  exact s_augF (o := .add) (f := fun i j => i + j) ct (fun _ _ => rfl) augS_add in_add (c_var (pv 0) rfl) (c_bin op_addA sv_add (c_bi sv_abs (a_cons (c_bin op_sub sv_sub (c_var (pv 1) rfl) (c_fld ct (c_var (pv 0) rfl))) a_nil) (fun {_} h => pe_callB call_abs (by rfl) T.z_abs (by decide +kernel) h)) (c_int)) (s_set (s := Sl.val) (k_val (c_ite (p_cmp op_gt sv_gt (nomark _) (c_var (pv 2) rfl) (c_int)) (c_var (pv 1) rfl) (c_bin op_sub sv_sub (c_var (pv 1) rfl) (c_int)))) (pg_name (i := 3) sc.nd rfl (by first | exact Or.inl rfl | exact Or.inr rfl)) (fun copied => s_tgt (c_tup (a_cons (c_bin op_addA sv_add (c_var (pv 1) rfl) (c_var (pv 2) rfl)) (a_cons (c_bin op_addA sv_add (c_fld ct (c_var (pv 0) rfl)) (c_var (pv 2) rfl)) a_nil))) (tg_tp rfl (tgs_cons (tg_fld ct (c_var (pv 0) rfl)) (tgs_cons (tg_fld ct (c_var (pv 0) rfl)) tgs_nil))) (s_augF (o := .add) (f := fun i j => i + j) ct (fun _ _ => rfl) augS_add in_add (c_var (pv 0) rfl) (c_bin op_addA sv_add (c_var (pv 3) rfl) (c_fld ct (c_var (pv 0) rfl))) (s_ret (c_tup (a_cons (c_bin op_sub sv_sub (c_fld ct (c_var (pv 0) rfl)) (c_int)) (a_cons (c_ite (p_cmp op_gt sv_gt (nomark _) (c_var (pv 2) rfl) (c_int)) (c_cst (v := .str "grow") (pe_glob (by rfl) T.k_GROW ⟨_, rfl⟩) (fun _ _ => .str _)) (c_cst (v := .str "shrink") (pe_glob (by rfl) T.k_SHRINK ⟨_, rfl⟩) (fun _ _ => .str _))) (a_cons (c_fld ct (c_var (pv 0) rfl)) (a_cons (c_var (pv 3) rfl) a_nil)))))))))
theorem sc_Track_rest : FnScope ["self", "size"] ["self", "size"] (defScope st_Track_rest) := ⟨rfl, rfl, rfl, by decide +kernel, rfl, by decide +kernel, by decide +kernel⟩
theorem o_Track_rest (T : Txt K mg z base) : FnG gu P w K mg base (L2.CX P w) 1 z.a_Track_rest z.d_Track_rest ["self", "size"] (spM ⟨K, clsA z⟩ (fs2 t_Track_rest)) := by
  refine fn_2 (k := 0) (b := bd_Track_rest) T.F_Track_rest sc_Track_rest (.inl fun _ _ => rfl) fun self size cdv A outer s0 H E gB hr0 cl0 => ?_
  unfold bd_Track_rest
  have sc := sc_Track_rest
  have hr : Room 0 (cxOf (L2.CX P w) P w K mg base ["self", "size"] "Track.rest" (defScope st_Track_rest) z.a_Track_rest cdv A outer s0 H E).A := hr0
  have cl : Clr gu (cxOf (L2.CX P w) P w K mg base ["self", "size"] "Track.rest" (defScope st_Track_rest) z.a_Track_rest cdv A outer s0 H E).A := cl0
  have hu := hr.units
  have tk : Takes (cxOf (L2.CX P w) P w K mg base ["self", "size"] "Track.rest" (defScope st_Track_rest) z.a_Track_rest cdv A outer s0 H E) (fun c d _ H' => E c d H') := takes_of rfl rfl rfl rfl
  have hp := passes_of (X := (cxOf (L2.CX P w) P w K mg base ["self", "size"] "Track.rest" (defScope st_Track_rest) z.a_Track_rest cdv A outer s0 H E)) rfl
  have ct := ct_ok T
  exact s_augF (o := .add) (f := fun i j => i + j) ct (fun _ _ => rfl) augS_add in_add (c_var (pv 0) rfl) (c_bi sv_abs (a_cons (c_bin op_sub sv_sub (c_var (pv 1) rfl) (c_fld ct (c_var (pv 0) rfl))) a_nil) (fun {_} h => pe_callB call_abs (by rfl) T.z_abs (by decide +kernel) h)) (s_tgt (c_var (pv 1) rfl) (tg_fld ct (c_var (pv 0) rfl)) (s_end))
theorem mtk_move {k : Nat} (hk : 1 ≤ k) (T : Txt K mg z base) : IsMt gu P w K mg base (clsA z) k "move" tb_move := by
  intro c f hc
  unfold tb_move at hc
  by_cases h0 : c = 0
  · subst h0; rw [if_pos rfl] at hc; cases hc; exact ⟨z.C_Track, rfl, T.c_Track, _, _, _, T.m_Track_move, T.B_Track_move, (o_Track_move T).mono (Nat.le_trans (by decide) hk)⟩
  rw [if_neg h0] at hc
  cases hc
theorem mtk_rest {k : Nat} (hk : 1 ≤ k) (T : Txt K mg z base) : IsMt gu P w K mg base (clsA z) k "rest" tb_rest := by
  intro c f hc
  unfold tb_rest at hc
  by_cases h0 : c = 0
  · subst h0; rw [if_pos rfl] at hc; cases hc; exact ⟨z.C_Track, rfl, T.c_Track, _, _, _, T.m_Track_rest, T.B_Track_rest, (o_Track_rest T).mono (Nat.le_trans (by decide) hk)⟩
  rw [if_neg h0] at hc
  cases hc
theorem sc_Track_push : FnScope ["self", "count", "goal", "found"] ["self", "count"] (defScope st_Track_push) := ⟨rfl, rfl, rfl, by decide +kernel, rfl, by decide +kernel, by decide +kernel⟩
theorem o_Track_push (T : Txt K mg z base) : FnG gu P w K mg base (L2.CX P w) 2 z.a_Track_push z.d_Track_push ["self", "count"] (spM ⟨K, clsA z⟩ (fs2 t_Track_push)) := by
  refine fn_2 (k := 1) (b := bd_Track_push) T.F_Track_push sc_Track_push (.inl fun _ _ => rfl) fun self count cdv A outer s0 H E gB hr0 cl0 => ?_
  unfold bd_Track_push
  have sc := sc_Track_push
  have hr : Room 1 (cxOf (L2.CX P w) P w K mg base ["self", "count", "goal", "found"] "Track.push" (defScope st_Track_push) z.a_Track_push cdv A outer s0 H E).A := hr0
  have cl : Clr gu (cxOf (L2.CX P w) P w K mg base ["self", "count", "goal", "found"] "Track.push" (defScope st_Track_push) z.a_Track_push cdv A outer s0 H E).A := cl0
  have hu := hr.units
  have tk : Takes (cxOf (L2.CX P w) P w K mg base ["self", "count", "goal", "found"] "Track.push" (defScope st_Track_push) z.a_Track_push cdv A outer s0 H E) (fun c d _ H' => E c d H') := takes_of rfl rfl rfl rfl
  have hp := passes_of (X := (cxOf (L2.CX P w) P w K mg base ["self", "count", "goal", "found"] "Track.push" (defScope st_Track_push) z.a_Track_push cdv A outer s0 H E)) rfl
  have ct := ct_ok T
  have mt_move : IsMt gu P w K mg base (clsA z) 1 "move" tb_move := mtk_move (by decide) T
  have mt_rest : IsMt gu P w K mg base (clsA z) 1 "rest" tb_rest := mtk_rest (by decide) T
  exact s_par (i := 2) (j := 3) rfl sc.nd rfl rfl (by decide) rfl rfl (k_val (c_bin op_addA sv_add (c_fld ct (c_var (pv 0) rfl)) (c_var (pv 1) rfl))) (k_lst (a_nil)) (fun goal found => s_while hp (fun (s : List D) => [.val self, .val count, .val goal, .own s]) (.eq (.eq (.eq (.eq .nil)))) (fun s => PW.pt (p_and (p_cmp op_lt sv_lt (nomark _) (c_fld ct (c_var (pv 0) rfl)) (c_bi sv_len (a_cons (c_fld ct (c_var (pv 0) rfl)) a_nil) (fun {_} h => pe_callB call_lenA (by rfl) T.z_len (by decide +kernel) h))) (p_one (p_cmp op_gt sv_gt (nomark _) (c_var (pv 2) rfl) (c_idx (c_idx (c_fld ct (c_var (pv 0) rfl)) (c_fld ct (c_var (pv 0) rfl))) (c_int)))))) (fun s => s_app (pv 3) rfl (c_meth mt_move hr cl tk (c_var (pv 0) rfl) (a_cons (c_idx (c_idx (c_fld ct (c_var (pv 0) rfl)) (c_fld ct (c_var (pv 0) rfl))) (c_int)) (a_cons (c_int) a_nil))) (fun found_1 => s_nil (.eq (.eq (.eq (.eq .nil))))) (fun {_} {_} ho ha => pe_bm PySem.F.plainAttrs_list PySem.F.slot_list_append PySem.F.type_list_append mt_append ho ha)) (fun s_1 => s_exp (c_meth mt_rest hr cl tk (c_var (pv 0) rfl) (a_cons (c_var (pv 2) rfl) a_nil)) (s_frz (i := 3) rfl (s_ret (c_var (pv 3) rfl))))) (by rfl)
theorem sc_Track_pop : FnScope ["self", "count", "goal", "found"] ["self", "count"] (defScope st_Track_pop) := ⟨rfl, rfl, rfl, by decide +kernel, rfl, by decide +kernel, by decide +kernel⟩
theorem o_Track_pop (T : Txt K mg z base) : FnG gu P w K mg base (L2.CX P w) 2 z.a_Track_pop z.d_Track_pop ["self", "count"] (spM ⟨K, clsA z⟩ (fs2 t_Track_pop)) := by
  refine fn_2 (k := 1) (b := bd_Track_pop) T.F_Track_pop sc_Track_pop (.inl fun _ _ => rfl) fun self count cdv A outer s0 H E gB hr0 cl0 => ?_
  unfold bd_Track_pop
  have sc := sc_Track_pop
  have hr : Room 1 (cxOf (L2.CX P w) P w K mg base ["self", "count", "goal", "found"] "Track.pop" (defScope st_Track_pop) z.a_Track_pop cdv A outer s0 H E).A := hr0
  have cl : Clr gu (cxOf (L2.CX P w) P w K mg base ["self", "count", "goal", "found"] "Track.pop" (defScope st_Track_pop) z.a_Track_pop cdv A outer s0 H E).A := cl0
  have hu := hr.units
  have tk : Takes (cxOf (L2.CX P w) P w K mg base ["self", "count", "goal", "found"] "Track.pop" (defScope st_Track_pop) z.a_Track_pop cdv A outer s0 H E) (fun c d _ H' => E c d H') := takes_of rfl rfl rfl rfl
  have hp := passes_of (X := (cxOf (L2.CX P w) P w K mg base ["self", "count", "goal", "found"] "Track.pop" (defScope st_Track_pop) z.a_Track_pop cdv A outer s0 H E)) rfl
  have ct := ct_ok T
  have mt_move : IsMt gu P w K mg base (clsA z) 1 "move" tb_move := mtk_move (by decide) T
  have mt_rest : IsMt gu P w K mg base (clsA z) 1 "rest" tb_rest := mtk_rest (by decide) T
  exact s_par (i := 2) (j := 3) rfl sc.nd rfl rfl (by decide) rfl rfl (k_val (c_bin op_sub sv_sub (c_fld ct (c_var (pv 0) rfl)) (c_var (pv 1) rfl))) (k_lst (a_nil)) (fun goal found => s_while hp (fun (s : List D) => [.val self, .val count, .val goal, .own s]) (.eq (.eq (.eq (.eq .nil)))) (fun s => PW.pt (p_and (p_cmp op_gt sv_gt (nomark _) (c_fld ct (c_var (pv 0) rfl)) (c_int)) (p_one (p_cmp op_le sv_le (nomark _) (c_var (pv 2) rfl) (c_idx (c_idx (c_fld ct (c_var (pv 0) rfl)) (c_bin op_sub sv_sub (c_fld ct (c_var (pv 0) rfl)) (c_int))) (c_int)))))) (fun s => s_app (pv 3) rfl (c_meth mt_move hr cl tk (c_var (pv 0) rfl) (a_cons (c_bin op_addA sv_add (c_idx (c_idx (c_fld ct (c_var (pv 0) rfl)) (c_bin op_sub sv_sub (c_fld ct (c_var (pv 0) rfl)) (c_int))) (c_int)) (c_int)) (a_cons (c_neg (c_int)) a_nil))) (fun found_1 => s_nil (.eq (.eq (.eq (.eq .nil))))) (fun {_} {_} ho ha => pe_bm PySem.F.plainAttrs_list PySem.F.slot_list_append PySem.F.type_list_append mt_append ho ha)) (fun s_1 => s_exp (c_meth mt_rest hr cl tk (c_var (pv 0) rfl) (a_cons (c_var (pv 2) rfl) a_nil)) (s_frz (i := 3) rfl (s_ret (c_var (pv 3) rfl))))) (by rfl)
theorem mtk_pop {k : Nat} (hk : 2 ≤ k) (T : Txt K mg z base) : IsMt gu P w K mg base (clsA z) k "pop" tb_pop := by
  intro c f hc
  unfold tb_pop at hc
  by_cases h0 : c = 0
  · subst h0; rw [if_pos rfl] at hc; cases hc; exact ⟨z.C_Track, rfl, T.c_Track, _, _, _, T.m_Track_pop, T.B_Track_pop, (o_Track_pop T).mono (Nat.le_trans (by decide) hk)⟩
  rw [if_neg h0] at hc
  cases hc
theorem mtk_push {k : Nat} (hk : 2 ≤ k) (T : Txt K mg z base) : IsMt gu P w K mg base (clsA z) k "push" tb_push := by
  intro c f hc
  unfold tb_push at hc
  by_cases h0 : c = 0
  · subst h0; rw [if_pos rfl] at hc; cases hc; exact ⟨z.C_Track, rfl, T.c_Track, _, _, _, T.m_Track_push, T.B_Track_push, (o_Track_push T).mono (Nat.le_trans (by decide) hk)⟩
  rw [if_neg h0] at hc
  cases hc
theorem sc_Track_run : FnScope ["self", "word", "count"] ["self", "word", "count"] (defScope st_Track_run) := ⟨rfl, rfl, rfl, by decide +kernel, rfl, by decide +kernel, by decide +kernel⟩
theorem o_Track_run (T : Txt K mg z base) : FnG gu P w K mg base (L2.CX P w) 3 z.a_Track_run z.d_Track_run ["self", "word", "count"] (spM ⟨K, clsA z⟩ (fs3 t_Track_run)) := by
  refine fn_3 (k := 2) (b := bd_Track_run) T.F_Track_run sc_Track_run (.inl fun _ _ _ => rfl) fun self word count cdv A outer s0 H E gB hr0 cl0 => ?_
  unfold bd_Track_run
  have sc := sc_Track_run
  have hr : Room 2 (cxOf (L2.CX P w) P w K mg base ["self", "word", "count"] "Track.run" (defScope st_Track_run) z.a_Track_run cdv A outer s0 H E).A := hr0
  have cl : Clr gu (cxOf (L2.CX P w) P w K mg base ["self", "word", "count"] "Track.run" (defScope st_Track_run) z.a_Track_run cdv A outer s0 H E).A := cl0
  have hu := hr.units
  have tk : Takes (cxOf (L2.CX P w) P w K mg base ["self", "word", "count"] "Track.run" (defScope st_Track_run) z.a_Track_run cdv A outer s0 H E) (fun c d _ H' => E c d H') := takes_of rfl rfl rfl rfl
  have hp := passes_of (X := (cxOf (L2.CX P w) P w K mg base ["self", "word", "count"] "Track.run" (defScope st_Track_run) z.a_Track_run cdv A outer s0 H E)) rfl
  have ct := ct_ok T
  have mt_pop : IsMt gu P w K mg base (clsA z) 2 "pop" tb_pop := mtk_pop (by decide) T
  have mt_push : IsMt gu P w K mg base (clsA z) 2 "push" tb_push := mtk_push (by decide) T
  exact s_if (oa' := fun (s : Unit) => [.val self, .val word, .val count]) (p_cmp (op_eqA hu) sv_eq (nomark _) (c_var (pv 1) rfl) (c_cst (v := .str "push") (pe_glob (by rfl) T.k_PUSH ⟨_, rfl⟩) (fun _ _ => .str _))) (s_ret (c_ite (p_cmp op_le sv_le (nomark _) (c_bin op_addA sv_add (c_fld ct (c_var (pv 0) rfl)) (c_var (pv 2) rfl)) (c_fld ct (c_var (pv 0) rfl))) (c_meth mt_push hr cl tk (c_var (pv 0) rfl) (a_cons (c_var (pv 2) rfl) a_nil)) (c_non))) (s_nil (.eq (.eq (.eq .nil)))) (fun s => s_ret (c_ite (p_cmp op_ge sv_ge (nomark _) (c_fld ct (c_var (pv 0) rfl)) (c_var (pv 2) rfl)) (c_meth mt_pop hr cl tk (c_var (pv 0) rfl) (a_cons (c_var (pv 2) rfl) a_nil)) (c_non)))
theorem mtk_run {k : Nat} (hk : 3 ≤ k) (T : Txt K mg z base) : IsMt gu P w K mg base (clsA z) k "run" tb_run := by
  intro c f hc
  unfold tb_run at hc
  by_cases h0 : c = 0
  · subst h0; rw [if_pos rfl] at hc; cases hc; exact ⟨z.C_Track, rfl, T.c_Track, _, _, _, T.m_Track_run, T.B_Track_run, (o_Track_run T).mono (Nat.le_trans (by decide) hk)⟩
  rw [if_neg h0] at hc
  cases hc
theorem sc_tracked : FnScope ["policy", "state", "operations", "track", "found", "index", "word", "count", "some"] ["policy", "state", "operations"] (defScope st_tracked) := ⟨rfl, rfl, rfl, by decide +kernel, rfl, by decide +kernel, by decide +kernel⟩
theorem o_tracked (T : Txt K mg z base) : FnG gu P w K mg base (L2.CX P w) 5 z.a_tracked z.d_tracked ["policy", "state", "operations"] (spM ⟨K, clsA z⟩ (fs3 t_tracked)) := by
  refine fn_3 (k := 4) (b := bd_tracked) T.F_tracked sc_tracked (.inl fun _ _ _ => rfl) fun policy state operations cdv A outer s0 H E gB hr0 cl0 => ?_
  unfold bd_tracked
  have sc := sc_tracked
  have hr : Room 4 (cxOf (L2.CX P w) P w K mg base ["policy", "state", "operations", "track", "found", "index", "word", "count", "some"] "tracked" (defScope st_tracked) z.a_tracked cdv A outer s0 H E).A := hr0
  have cl : Clr gu (cxOf (L2.CX P w) P w K mg base ["policy", "state", "operations", "track", "found", "index", "word", "count", "some"] "tracked" (defScope st_tracked) z.a_tracked cdv A outer s0 H E).A := cl0
  have hu := hr.units
  have tk : Takes (cxOf (L2.CX P w) P w K mg base ["policy", "state", "operations", "track", "found", "index", "word", "count", "some"] "tracked" (defScope st_tracked) z.a_tracked cdv A outer s0 H E) (fun c d _ H' => E c d H') := takes_of rfl rfl rfl rfl
  have hp := passes_of (X := (cxOf (L2.CX P w) P w K mg base ["policy", "state", "operations", "track", "found", "index", "word", "count", "some"] "tracked" (defScope st_tracked) z.a_tracked cdv A outer s0 H E)) rfl
  have i_check_operations : IsFn gu P w K mg base (clsA z) 4 "check_operations" (fs1 t_check_operations) := ⟨_, _, _, T.m_check_operations, T.F_check_operations.kp, T.B_check_operations, (o_check_operations T).mono (by decide)⟩
  have mt_run : IsMt gu P w K mg base (clsA z) 4 "run" tb_run := mtk_run (by decide) T
  have j_Track : IsCl gu P w K mg base (clsA z) 3 "Track" 0 (fs3 t_Track___init__) := ⟨_, _, _, _, rfl, T.g_Track, T.h_Track, T.B_Track___init__, (o_Track___init__ T).mono (by decide)⟩
  exact s_exp (c_call i_check_operations hr cl tk (by rfl) (a_cons (c_var (pv 2) rfl) a_nil)) (s_par (i := 3) (j := 4) rfl sc.nd rfl rfl (by decide) rfl rfl (k_val (c_make j_Track hr cl tk (by rfl) (a_cons (c_var (pv 0) rfl) (a_cons (c_var (pv 1) rfl) a_nil)))) (k_lst (a_nil)) (fun track found => s_for hp rfl (fun (s : List D) => [.val policy, .val state, .val operations, .val track, .own s, .un, .un, .un, .un]) (i_enum (by rfl) T.z_enumerate (a_cons (c_var (pv 2) rfl) a_nil)) (g_tp rfl (gs_cons (g_nm (pg_name (i := 5) sc.nd rfl (by first | exact Or.inl rfl | exact Or.inr rfl))) (gs_cons (g_tp rfl (gs_cons (g_nm (pg_name (i := 6) sc.nd rfl (by first | exact Or.inl rfl | exact Or.inr rfl))) (gs_cons (g_nm (pg_name (i := 7) sc.nd rfl (by first | exact Or.inl rfl | exact Or.inr rfl))) gs_nil))) gs_nil))) (.eq (.eq (.eq (.eq (.eq (.un (.un (.un (.un .nil))))))))) (fun x s => bd_2 fun index q => bd_nm (bd_2 fun word count => bd_nm (bd_nm (s_ifw (oa' := fun (s_1 : D) => [.val policy, .val state, .val operations, .val track, .own s, .val index, .val word, .val count, .val s_1]) (i := 8) op_isN sv_is (nomark _) sc.nd rfl (by first | exact Or.inl rfl | exact Or.inr rfl) (c_meth mt_run hr cl tk (c_var (pv 3) rfl) (a_cons (c_var (pv 6) rfl) (a_cons (c_var (pv 7) rfl) a_nil))) (fun v_some => c_non) (fun v_some => s_bad) (fun v_some => s_nil (.eq (.eq (.eq (.eq (.eq (.eq (.eq (.eq (.eq .nil)))))))))) (fun s_1 => s_ext (pv 4) rfl (c_var (pv 8) rfl) (fun found_1 => s_nil (.eq (.eq (.eq (.eq (.eq (.un (.un (.un (.un .nil)))))))))) (fun {_} {_} ho ha => pe_bm PySem.F.plainAttrs_list PySem.F.slot_list_extend PySem.F.type_list_extend mt_extend ho ha)))))) (fun s_2 => s_frz (i := 4) rfl (s_ret (c_tup (a_cons (c_var (pv 3) rfl) (a_cons (c_var (pv 4) rfl) a_nil)))))) (by rfl))
theorem sc_moves : GScope ["policy", "state", "operations"] ["policy", "state", "operations"] (defScope st_moves) := ⟨rfl, rfl, rfl, by decide +kernel, rfl, by decide +kernel, by decide +kernel⟩
theorem o_moves (T : Txt K mg z base) : GFn P w K mg base 6 z.a_moves z.d_moves ["policy", "state", "operations"] (spY ⟨K, clsA z⟩ (fs3 t_moves)) := by
  refine gf_core (k := 5) T.F_moves sc_moves (fun ds h => by rcases ds with _ | ⟨_, _ | ⟨_, _ | ⟨_, _ | ⟨_, _⟩⟩⟩⟩ <;> first | rfl | exact absurd rfl h) rfl (fun _ _ => rfl) ?_
  intro ds h
  match ds, h with
  | [policy, state, operations], _ =>
  refine ⟨_, rfl, fun cdv A outer s0 H E pn gB hr0 => ?_⟩
  change PEc (gcxOf P w K mg base ["policy", "state", "operations"] "moves" (defScope st_moves) z.a_moves cdv A outer s0 H E pn) ⟨clsA z, fun _ _ _ _ => False, gB, H⟩ [.val policy, .val state, .val operations] _ _
  have sc := sc_moves
  have hr : Room 5 (gcxOf P w K mg base ["policy", "state", "operations"] "moves" (defScope st_moves) z.a_moves cdv A outer s0 H E pn).A := hr0
  have cl : Clr false (gcxOf P w K mg base ["policy", "state", "operations"] "moves" (defScope st_moves) z.a_moves cdv A outer s0 H E pn).A := fun h => by cases h
  have hu := hr.units
  have tk : Takes (gcxOf P w K mg base ["policy", "state", "operations"] "moves" (defScope st_moves) z.a_moves cdv A outer s0 H E pn) (fun _ _ _ _ => False) := takesF
  have i_tracked : IsFn false P w K mg base (clsA z) 5 "tracked" (fs3 t_tracked) := ⟨_, _, _, T.m_tracked, T.F_tracked.kp, T.B_tracked, (o_tracked T).mono (by decide)⟩
  exact c_idx (c_call i_tracked hr cl tk (by rfl) (a_cons (c_var (pv 0) rfl) (a_cons (c_var (pv 1) rfl) (a_cons (c_var (pv 2) rfl) a_nil)))) (c_int)
theorem od_moves (T : Txt K mg z base) : DFn P w K mg base 6 z.a_moves z.d_moves ["policy", "state", "operations"] (spY ⟨K, clsA z⟩ (fs3 t_moves)) := by
  refine gd_core (k := 5) T.F_moves sc_moves (fun ds h => by rcases ds with _ | ⟨_, _ | ⟨_, _ | ⟨_, _ | ⟨_, _⟩⟩⟩⟩ <;> first | rfl | exact absurd rfl h) rfl (fun _ _ => rfl) ?_
  intro ds h
  match ds, h with
  | [policy, state, operations], _ =>
  refine ⟨_, rfl, fun cdv A outer s0 H E pn gB hr0 => ?_⟩
  change PEc (gcxOf P w K mg base ["policy", "state", "operations"] "moves" (defScope st_moves) z.a_moves cdv A outer s0 H E pn) ⟨clsA z, fun _ _ _ _ => False, gB, H⟩ [.val policy, .val state, .val operations] _ _
  have sc := sc_moves
  have hr : Room 5 (gcxOf P w K mg base ["policy", "state", "operations"] "moves" (defScope st_moves) z.a_moves cdv A outer s0 H E pn).A := hr0
  have cl : Clr false (gcxOf P w K mg base ["policy", "state", "operations"] "moves" (defScope st_moves) z.a_moves cdv A outer s0 H E pn).A := fun h => by cases h
  have hu := hr.units
  have tk : Takes (gcxOf P w K mg base ["policy", "state", "operations"] "moves" (defScope st_moves) z.a_moves cdv A outer s0 H E pn) (fun _ _ _ _ => False) := takesF
  have i_tracked : IsFn false P w K mg base (clsA z) 5 "tracked" (fs3 t_tracked) := ⟨_, _, _, T.m_tracked, T.F_tracked.kp, T.B_tracked, (o_tracked T).mono (by decide)⟩
  exact c_idx (c_call i_tracked hr cl tk (by rfl) (a_cons (c_var (pv 0) rfl) (a_cons (c_var (pv 1) rfl) (a_cons (c_var (pv 2) rfl) a_nil)))) (c_int)
theorem sc_law_draws : FnScope ["_law_script", "_law_k", "_law_cell", "_law_great"] ["_law_script", "_law_k"] (defScope st_law_draws) := ⟨rfl, rfl, rfl, by decide +kernel, rfl, by decide +kernel, by decide +kernel⟩
theorem o_law_draws (T : Txt K mg z base) : FnG gu P w K mg base (L2.CX P w) 1 z.a_law_draws z.d_law_draws ["_law_script", "_law_k"] (spM ⟨K, clsA z⟩ (fs2 t_law_draws)) := by
  refine fn_2 (k := 0) (b := bd_law_draws) T.F_law_draws sc_law_draws (.inl fun _ _ => rfl) fun script k cdv A outer s0 H E gB hr0 cl0 => ?_
  unfold bd_law_draws
  have sc := sc_law_draws
  have hr : Room 0 (cxOf (L2.CX P w) P w K mg base ["_law_script", "_law_k", "_law_cell", "_law_great"] "_law_draws" (defScope st_law_draws) z.a_law_draws cdv A outer s0 H E).A := hr0
  have cl : Clr gu (cxOf (L2.CX P w) P w K mg base ["_law_script", "_law_k", "_law_cell", "_law_great"] "_law_draws" (defScope st_law_draws) z.a_law_draws cdv A outer s0 H E).A := cl0
  have hu := hr.units
  have tk : Takes (cxOf (L2.CX P w) P w K mg base ["_law_script", "_law_k", "_law_cell", "_law_great"] "_law_draws" (defScope st_law_draws) z.a_law_draws cdv A outer s0 H E) (fun c d _ H' => E c d H') := takes_of rfl rfl rfl rfl
  have hp := passes_of (X := (cxOf (L2.CX P w) P w K mg base ["_law_script", "_law_k", "_law_cell", "_law_great"] "_law_draws" (defScope st_law_draws) z.a_law_draws cdv A outer s0 H E)) rfl
  exact s_set (s := Sl.val) (k_val (c_ite (p_cmp op_lt sv_lt (nomark _) (c_var (pv 1) rfl) (c_bi sv_len (a_cons (c_var (pv 0) rfl) a_nil) (fun {_} h => pe_callB call_lenA (by rfl) T.z_len (by decide +kernel) h))) (c_idx (c_var (pv 0) rfl) (c_var (pv 1) rfl)) (c_bin op_addA sv_add (c_bin op_mulA sv_mul (c_int) (c_var (pv 1) rfl)) (c_int)))) (pg_name (i := 2) sc.nd rfl (by first | exact Or.inl rfl | exact Or.inr rfl)) (fun cell => s_set (s := Sl.val) (k_val (c_bin op_mulA sv_mul (c_bin op_mod sv_mod (c_bi sv_abs (a_cons (c_var (pv 2) rfl) a_nil) (fun {_} h => pe_callB call_abs (by rfl) T.z_abs (by decide +kernel) h)) (c_bin op_powW sv_pow (c_bin op_powW sv_pow (c_int) (c_int)) (c_int))) (c_bi sv_int (a_cons (c_cmp op_ge sv_ge (nomark _) (c_bi sv_abs (a_cons (c_var (pv 2) rfl) a_nil) (fun {_} h => pe_callB call_abs (by rfl) T.z_abs (by decide +kernel) h)) (c_bin op_powW sv_pow (c_int) (c_int))) a_nil) (fun {_} h => pe_callTy call_int1 (by rfl) T.z_int (by decide +kernel) h)))) (pg_name (i := 3) sc.nd rfl (by first | exact Or.inl rfl | exact Or.inr rfl)) (fun great => s_ret (c_lsh (a_cons (c_var (pv 3) rfl) (a_cons (c_bin op_mod sv_mod (c_bin op_mulA sv_mul (c_bin op_addA sv_add (c_bin op_addA sv_add (c_bin op_mod sv_mod (c_var (pv 2) rfl) (c_int)) (c_bin op_mulA sv_mul (c_bin op_mulA sv_mul (c_int) (c_var (pv 1) rfl)) (c_var (pv 1) rfl))) (c_int)) (c_int)) (c_int)) (a_cons (c_int) a_nil))))))
theorem sc_law_below : FnScope ["_law_draws_here", "_law_many", "_law_digit", "_law_step", "_law_prime", "_law_mixed"] ["_law_draws_here", "_law_many"] (defScope st_law_below) := ⟨rfl, rfl, rfl, by decide +kernel, rfl, by decide +kernel, by decide +kernel⟩
theorem o_law_below (T : Txt K mg z base) : FnG gu P w K mg base (L2.CX P w) 1 z.a_law_below z.d_law_below ["_law_draws_here", "_law_many"] (spM ⟨K, clsA z⟩ (fs2 t_law_below)) := by
  refine fn_2 (k := 0) (b := bd_law_below) T.F_law_below sc_law_below (.inl fun _ _ => rfl) fun draws_here many cdv A outer s0 H E gB hr0 cl0 => ?_
  unfold bd_law_below
  have sc := sc_law_below
  have hr : Room 0 (cxOf (L2.CX P w) P w K mg base ["_law_draws_here", "_law_many", "_law_digit", "_law_step", "_law_prime", "_law_mixed"] "_law_below" (defScope st_law_below) z.a_law_below cdv A outer s0 H E).A := hr0
  have cl : Clr gu (cxOf (L2.CX P w) P w K mg base ["_law_draws_here", "_law_many", "_law_digit", "_law_step", "_law_prime", "_law_mixed"] "_law_below" (defScope st_law_below) z.a_law_below cdv A outer s0 H E).A := cl0
  have hu := hr.units
  have tk : Takes (cxOf (L2.CX P w) P w K mg base ["_law_draws_here", "_law_many", "_law_digit", "_law_step", "_law_prime", "_law_mixed"] "_law_below" (defScope st_law_below) z.a_law_below cdv A outer s0 H E) (fun c d _ H' => E c d H') := takes_of rfl rfl rfl rfl
  have hp := passes_of (X := (cxOf (L2.CX P w) P w K mg base ["_law_draws_here", "_law_many", "_law_digit", "_law_step", "_law_prime", "_law_mixed"] "_law_below" (defScope st_law_below) z.a_law_below cdv A outer s0 H E)) rfl
  exact s_if (oa' := fun (s : Unit) => [.val draws_here, .val many, .un, .un, .un, .un]) (p_cmp op_gt sv_gt (nomark _) (c_idx (c_var (pv 0) rfl) (c_int)) (c_int)) (s_set (s := Sl.val) (k_val (c_bin op_mod sv_mod (c_idx (c_var (pv 0) rfl) (c_int)) (c_var (pv 1) rfl))) (pg_name (i := 2) sc.nd rfl (by first | exact Or.inl rfl | exact Or.inr rfl)) (fun digit => s_tgt (c_bin op_fdivW sv_fdiv (c_idx (c_var (pv 0) rfl) (c_int)) (c_var (pv 1) rfl)) (tg_sub (c_var (pv 0) rfl) (c_int)) (s_ret (c_var (pv 2) rfl)))) (s_nil (.eq (.eq (.un (.un (.un (.un .nil))))))) (fun s => s_set (s := Sl.val) (k_val (c_bin op_addA sv_add (c_idx (c_var (pv 0) rfl) (c_int)) (c_int))) (pg_name (i := 3) sc.nd rfl (by first | exact Or.inl rfl | exact Or.inr rfl)) (fun step => s_tgt (c_var (pv 3) rfl) (tg_sub (c_var (pv 0) rfl) (c_int)) (s_set (s := Sl.val) (k_val (c_idx (c_lst (a_cons (c_int) (a_cons (c_int) (a_cons (c_int) (a_cons (c_int) a_nil))))) (c_bin op_mod sv_mod (c_var (pv 3) rfl) (c_int)))) (pg_name (i := 4) sc.nd rfl (by first | exact Or.inl rfl | exact Or.inr rfl)) (fun prime => s_set (s := Sl.val) (k_val (c_bin op_mod sv_mod (c_bin op_addA sv_add (c_bin op_addA sv_add (c_idx (c_var (pv 0) rfl) (c_int)) (c_bin op_mulA sv_mul (c_bin op_mulA sv_mul (c_int) (c_var (pv 3) rfl)) (c_var (pv 3) rfl))) (c_bin op_mulA sv_mul (c_int) (c_var (pv 3) rfl))) (c_var (pv 4) rfl))) (pg_name (i := 5) sc.nd rfl (by first | exact Or.inl rfl | exact Or.inr rfl)) (fun mixed => s_set (s := Sl.val) (k_val (c_bin op_mod sv_mod (c_bin op_powW sv_pow (c_var (pv 5) rfl) (c_int)) (c_var (pv 4) rfl))) (pg_name (i := 5) sc.nd rfl (by first | exact Or.inl rfl | exact Or.inr rfl)) (fun mixed_1 => s_ret (c_bin op_mod sv_mod (c_bin op_addA sv_add (c_bin op_fdivW sv_fdiv (c_var (pv 5) rfl) (c_int)) (c_bin op_mulA sv_mul (c_bin op_fdivW sv_fdiv (c_var (pv 5) rfl) (c_int)) (c_int))) (c_var (pv 1) rfl))))))))
theorem sc_law_pick : FnScope ["_law_draws_here", "_law_items"] ["_law_draws_here", "_law_items"] (defScope st_law_pick) := ⟨rfl, rfl, rfl, by decide +kernel, rfl, by decide +kernel, by decide +kernel⟩
theorem o_law_pick (T : Txt K mg z base) : FnG gu P w K mg base (L2.CX P w) 2 z.a_law_pick z.d_law_pick ["_law_draws_here", "_law_items"] (spM ⟨K, clsA z⟩ (fs2 t_law_pick)) := by
  refine fn_2 (k := 1) (b := bd_law_pick) T.F_law_pick sc_law_pick (.inl fun _ _ => rfl) fun draws_here items cdv A outer s0 H E gB hr0 cl0 => ?_
  unfold bd_law_pick
  have sc := sc_law_pick
  have hr : Room 1 (cxOf (L2.CX P w) P w K mg base ["_law_draws_here", "_law_items"] "_law_pick" (defScope st_law_pick) z.a_law_pick cdv A outer s0 H E).A := hr0
  have cl : Clr gu (cxOf (L2.CX P w) P w K mg base ["_law_draws_here", "_law_items"] "_law_pick" (defScope st_law_pick) z.a_law_pick cdv A outer s0 H E).A := cl0
  have hu := hr.units
  have tk : Takes (cxOf (L2.CX P w) P w K mg base ["_law_draws_here", "_law_items"] "_law_pick" (defScope st_law_pick) z.a_law_pick cdv A outer s0 H E) (fun c d _ H' => E c d H') := takes_of rfl rfl rfl rfl
  have hp := passes_of (X := (cxOf (L2.CX P w) P w K mg base ["_law_draws_here", "_law_items"] "_law_pick" (defScope st_law_pick) z.a_law_pick cdv A outer s0 H E)) rfl
  have i_law_below : IsFn gu P w K mg base (clsA z) 1 "_law_below" (fs2 t_law_below) := ⟨_, _, _, T.m_law_below, T.F_law_below.kp, T.B_law_below, (o_law_below T).mono (by decide)⟩
  exact s_ret (c_idx (c_var (pv 1) rfl) (c_call i_law_below hr cl tk (by rfl) (a_cons (c_var (pv 0) rfl) (a_cons (c_bi sv_len (a_cons (c_var (pv 1) rfl) a_nil) (fun {_} h => pe_callB call_lenA (by rfl) T.z_len (by decide +kernel) h)) a_nil))))
theorem sc_law_policy : FnScope ["_law_draws_here", "_law_levels", "_law_step", "_law_way", "_law_low", "_law_capacities", "_law_turn", "_law_more", "_law_limits", "_law_room", "_law_some"] ["_law_draws_here", "_law_levels", "_law_step"] (defScope st_law_policy) := ⟨rfl, rfl, rfl, by decide +kernel, rfl, by decide +kernel, by decide +kernel⟩
theorem o_law_policy (T : Txt K mg z base) : FnG gu P w K mg base (L2.CX P w) 3 z.a_law_policy z.d_law_policy ["_law_draws_here", "_law_levels", "_law_step"] (spM ⟨K, clsA z⟩ (fs3 t_law_policy)) := by
  refine fn_3 (k := 2) (b := bd_law_policy) T.F_law_policy sc_law_policy (.inl fun _ _ _ => rfl) fun draws_here levels step cdv A outer s0 H E gB hr0 cl0 => ?_
  unfold bd_law_policy
  have sc := sc_law_policy
  have hr : Room 2 (cxOf (L2.CX P w) P w K mg base ["_law_draws_here", "_law_levels", "_law_step", "_law_way", "_law_low", "_law_capacities", "_law_turn", "_law_more", "_law_limits", "_law_room", "_law_some"] "_law_policy" (defScope st_law_policy) z.a_law_policy cdv A outer s0 H E).A := hr0
  have cl : Clr gu (cxOf (L2.CX P w) P w K mg base ["_law_draws_here", "_law_levels", "_law_step", "_law_way", "_law_low", "_law_capacities", "_law_turn", "_law_more", "_law_limits", "_law_room", "_law_some"] "_law_policy" (defScope st_law_policy) z.a_law_policy cdv A outer s0 H E).A := cl0
  have hu := hr.units
  have tk : Takes (cxOf (L2.CX P w) P w K mg base ["_law_draws_here", "_law_levels", "_law_step", "_law_way", "_law_low", "_law_capacities", "_law_turn", "_law_more", "_law_limits", "_law_room", "_law_some"] "_law_policy" (defScope st_law_policy) z.a_law_policy cdv A outer s0 H E) (fun c d _ H' => E c d H') := takes_of rfl rfl rfl rfl
  have hp := passes_of (X := (cxOf (L2.CX P w) P w K mg base ["_law_draws_here", "_law_levels", "_law_step", "_law_way", "_law_low", "_law_capacities", "_law_turn", "_law_more", "_law_limits", "_law_room", "_law_some"] "_law_policy" (defScope st_law_policy) z.a_law_policy cdv A outer s0 H E)) rfl
  have i_law_below : IsFn gu P w K mg base (clsA z) 2 "_law_below" (fs2 t_law_below) := ⟨_, _, _, T.m_law_below, T.F_law_below.kp, T.B_law_below, (o_law_below T).mono (by decide)⟩
  have i_law_pick : IsFn gu P w K mg base (clsA z) 2 "_law_pick" (fs2 t_law_pick) := ⟨_, _, _, T.m_law_pick, T.F_law_pick.kp, T.B_law_pick, (o_law_pick T).mono (by decide)⟩
  exact s_par3 (i := 3) (j := 4) (l := 5) rfl sc.nd rfl rfl rfl (by decide) (by decide) (by decide) rfl rfl rfl (k_val (c_call i_law_below hr cl tk (by rfl) (a_cons (c_var (pv 0) rfl) (a_cons (c_int) a_nil)))) (k_val (c_neg (c_int))) (k_lst (a_cons (c_bin op_addA sv_add (c_int) (c_call i_law_below hr cl tk (by rfl) (a_cons (c_var (pv 0) rfl) (a_cons (c_var (pv 2) rfl) a_nil)))) a_nil)) (fun way low capacities => s_for hp rfl (fun (s : List D) => [.val draws_here, .val levels, .val step, .val way, .val low, .own s, .un, .un, .un, .un, .un]) (i_rng1 (a_cons (c_call i_law_below hr cl tk (by rfl) (a_cons (c_var (pv 0) rfl) (a_cons (c_var (pv 1) rfl) a_nil))) a_nil) (fun {_} h => pi_range1 (by rfl) T.z_range h)) (g_nm (pg_name (i := 6) sc.nd rfl (by first | exact Or.inl rfl | exact Or.inr rfl))) (.eq (.eq (.eq (.eq (.eq (.eq (.un (.un (.un (.un (.un .nil))))))))))) (fun turn s => bd_nm (s_set (s := Sl.val) (k_val (c_idx (c_lst (a_cons (c_bin op_addA sv_add (c_int) (c_call i_law_below hr cl tk (by rfl) (a_cons (c_var (pv 0) rfl) (a_cons (c_var (pv 2) rfl) a_nil)))) (a_cons (c_idxO (pv 5) rfl (c_neg (c_int))) (a_cons (c_int) (a_cons (c_bin op_addA sv_add (c_int) (c_call i_law_below hr cl tk (by rfl) (a_cons (c_var (pv 0) rfl) (a_cons (c_bin op_mulA sv_mul (c_int) (c_var (pv 2) rfl)) a_nil)))) a_nil))))) (c_var (pv 3) rfl))) (pg_name (i := 7) sc.nd rfl (by first | exact Or.inl rfl | exact Or.inr rfl)) (fun more => s_app (pv 5) rfl (c_bin op_addA sv_add (c_idxO (pv 5) rfl (c_neg (c_int))) (c_var (pv 7) rfl)) (fun capacities_1 => s_nil (.eq (.eq (.eq (.eq (.eq (.eq (.un (.un (.un (.un (.un .nil)))))))))))) (fun {_} {_} ho ha => pe_bm PySem.F.plainAttrs_list PySem.F.slot_list_append PySem.F.type_list_append mt_append ho ha)))) (fun s_1 => s_par (i := 3) (j := 8) rfl sc.nd rfl rfl (by decide) rfl rfl (k_val (c_call i_law_below hr cl tk (by rfl) (a_cons (c_var (pv 0) rfl) (a_cons (c_int) a_nil)))) (k_lst (a_nil)) (fun way_1 limits => s_frz (i := 5) rfl (s_for hp rfl (fun (s_2 : D × List D) => [.val draws_here, .val levels, .val step, .val way_1, .val s_2.1, .val ((.fl s_1)), .un, .un, .own s_2.2, .un, .un]) (i_seq (c_slc (c_var (pv 5) rfl) o_none (o_some (c_neg (c_int))))) (g_nm (pg_name (i := 9) sc.nd rfl (by first | exact Or.inl rfl | exact Or.inr rfl))) (.eq (.eq (.eq (.eq (.eq (.eq (.un (.un (.eq (.un (.un .nil))))))))))) (fun room s_2 => bd_nm (s_set (s := Sl.val) (k_val (c_lst (a_cons (c_bin op_addA sv_add (c_var (pv 4) rfl) (c_int)) (a_cons (c_var (pv 9) rfl) (a_cons (c_bin op_addA sv_add (c_bin op_addA sv_add (c_var (pv 4) rfl) (c_int)) (c_call i_law_below hr cl tk (by rfl) (a_cons (c_var (pv 0) rfl) (a_cons (c_bin op_sub sv_sub (c_var (pv 9) rfl) (c_var (pv 4) rfl)) a_nil)))) (a_cons (c_bi sv_max2 (a_cons (c_bin op_addA sv_add (c_var (pv 4) rfl) (c_int)) (a_cons (c_bin op_fdivW sv_fdiv (c_var (pv 9) rfl) (c_int)) a_nil)) (fun {_} h => pe_callB (call_max2 rfl) (by rfl) T.z_max (by decide +kernel) h)) a_nil)))))) (pg_name (i := 10) sc.nd rfl (by first | exact Or.inl rfl | exact Or.inr rfl)) (fun v_some => s_set (s := Sl.val) (k_val (c_idx (c_var (pv 10) rfl) (c_var (pv 3) rfl))) (pg_name (i := 4) sc.nd rfl (by first | exact Or.inl rfl | exact Or.inr rfl)) (fun low_1 => s_app (pv 8) rfl (c_var (pv 4) rfl) (fun limits_1 => s_nil (.eq (.eq (.eq (.eq (.eq (.eq (.un (.un (.eq (.un (.un .nil)))))))))))) (fun {_} {_} ho ha => pe_bm PySem.F.plainAttrs_list PySem.F.slot_list_append PySem.F.type_list_append mt_append ho ha))))) (fun s_3 => s_frz (i := 8) rfl (s_ret (c_tup (a_cons (c_bi sv_tuple (a_cons (c_var (pv 5) rfl) a_nil) (fun {_} h => pe_callTy call_tuple_of (by rfl) T.z_tuple (by decide +kernel) h)) (a_cons (c_bi sv_tuple (a_cons (c_var (pv 8) rfl) a_nil) (fun {_} h => pe_callTy call_tuple_of (by rfl) T.z_tuple (by decide +kernel) h)) (a_cons (c_call i_law_pick hr cl tk (by rfl) (a_cons (c_var (pv 0) rfl) (a_cons (c_lst (a_cons (c_int) (a_cons (c_int) (a_cons (c_int) (a_cons (c_call i_law_below hr cl tk (by rfl) (a_cons (c_var (pv 0) rfl) (a_cons (c_int) a_nil))) a_nil))))) a_nil))) a_nil)))))))) (by rfl))) (by rfl)
theorem sc_law_pushed : FnScope ["_law_policy_here", "_law_level", "_law_size", "_law_capacities", "_law_limits", "_law_fixed"] ["_law_policy_here", "_law_level", "_law_size"] (defScope st_law_pushed) := ⟨rfl, rfl, rfl, by decide +kernel, rfl, by decide +kernel, by decide +kernel⟩
theorem o_law_pushed (T : Txt K mg z base) : FnG gu P w K mg base (L2.CX P w) 1 z.a_law_pushed z.d_law_pushed ["_law_policy_here", "_law_level", "_law_size"] (spM ⟨K, clsA z⟩ (fs3 t_law_pushed)) := by
  refine fn_3 (k := 0) (b := bd_law_pushed) T.F_law_pushed sc_law_pushed (.inl fun _ _ _ => rfl) fun policy_here level size cdv A outer s0 H E gB hr0 cl0 => ?_
  unfold bd_law_pushed
  have sc := sc_law_pushed
  have hr : Room 0 (cxOf (L2.CX P w) P w K mg base ["_law_policy_here", "_law_level", "_law_size", "_law_capacities", "_law_limits", "_law_fixed"] "_law_pushed" (defScope st_law_pushed) z.a_law_pushed cdv A outer s0 H E).A := hr0
  have cl : Clr gu (cxOf (L2.CX P w) P w K mg base ["_law_policy_here", "_law_level", "_law_size", "_law_capacities", "_law_limits", "_law_fixed"] "_law_pushed" (defScope st_law_pushed) z.a_law_pushed cdv A outer s0 H E).A := cl0
  have hu := hr.units
  have tk : Takes (cxOf (L2.CX P w) P w K mg base ["_law_policy_here", "_law_level", "_law_size", "_law_capacities", "_law_limits", "_law_fixed"] "_law_pushed" (defScope st_law_pushed) z.a_law_pushed cdv A outer s0 H E) (fun c d _ H' => E c d H') := takes_of rfl rfl rfl rfl
  have hp := passes_of (X := (cxOf (L2.CX P w) P w K mg base ["_law_policy_here", "_law_level", "_law_size", "_law_capacities", "_law_limits", "_law_fixed"] "_law_pushed" (defScope st_law_pushed) z.a_law_pushed cdv A outer s0 H E)) rfl
  exact s_asgP (c_var (pv 0) rfl) (g_tp rfl (gs_cons (g_nm (pg_name (i := 3) sc.nd rfl (by first | exact Or.inl rfl | exact Or.inr rfl))) (gs_cons (g_nm (pg_name (i := 4) sc.nd rfl (by first | exact Or.inl rfl | exact Or.inr rfl))) (gs_cons (g_nm (pg_name (i := 5) sc.nd rfl (by first | exact Or.inl rfl | exact Or.inr rfl))) gs_nil)))) (fun x => bd_3 fun capacities limits fixed => bd_nm (bd_nm (bd_nm (s_if (oa' := fun (s : Unit) => [.val policy_here, .val level, .val size, .val capacities, .val limits, .val fixed]) (p_cmp op_lt sv_lt (nomark _) (c_var (pv 2) rfl) (c_idx (c_var (pv 3) rfl) (c_var (pv 1) rfl))) (s_ret (c_tup (a_cons (c_var (pv 1) rfl) (a_cons (c_bin op_addA sv_add (c_var (pv 2) rfl) (c_int)) (a_cons (c_int) a_nil))))) (s_nil (.eq (.eq (.eq (.eq (.eq (.eq .nil))))))) (fun s => s_ret (c_ite (p_cmp op_lt sv_lt (nomark _) (c_bin op_addA sv_add (c_var (pv 1) rfl) (c_int)) (c_bi sv_len (a_cons (c_var (pv 3) rfl) a_nil) (fun {_} h => pe_callB call_lenA (by rfl) T.z_len (by decide +kernel) h))) (c_tup (a_cons (c_bin op_addA sv_add (c_var (pv 1) rfl) (c_int)) (a_cons (c_bin op_addA sv_add (c_var (pv 2) rfl) (c_int)) (a_cons (c_bin op_addA sv_add (c_var (pv 2) rfl) (c_var (pv 5) rfl)) a_nil)))) (c_non)))))))
theorem sc_law_popped : FnScope ["_law_policy_here", "_law_level", "_law_size", "_law_capacities", "_law_limits", "_law_fixed"] ["_law_policy_here", "_law_level", "_law_size"] (defScope st_law_popped) := ⟨rfl, rfl, rfl, by decide +kernel, rfl, by decide +kernel, by decide +kernel⟩
theorem o_law_popped (T : Txt K mg z base) : FnG gu P w K mg base (L2.CX P w) 1 z.a_law_popped z.d_law_popped ["_law_policy_here", "_law_level", "_law_size"] (spM ⟨K, clsA z⟩ (fs3 t_law_popped)) := by
  refine fn_3 (k := 0) (b := bd_law_popped) T.F_law_popped sc_law_popped (.inl fun _ _ _ => rfl) fun policy_here level size cdv A outer s0 H E gB hr0 cl0 => ?_
  unfold bd_law_popped
  have sc := sc_law_popped
  have hr : Room 0 (cxOf (L2.CX P w) P w K mg base ["_law_policy_here", "_law_level", "_law_size", "_law_capacities", "_law_limits", "_law_fixed"] "_law_popped" (defScope st_law_popped) z.a_law_popped cdv A outer s0 H E).A := hr0
  have cl : Clr gu (cxOf (L2.CX P w) P w K mg base ["_law_policy_here", "_law_level", "_law_size", "_law_capacities", "_law_limits", "_law_fixed"] "_law_popped" (defScope st_law_popped) z.a_law_popped cdv A outer s0 H E).A := cl0
  have hu := hr.units
  have tk : Takes (cxOf (L2.CX P w) P w K mg base ["_law_policy_here", "_law_level", "_law_size", "_law_capacities", "_law_limits", "_law_fixed"] "_law_popped" (defScope st_law_popped) z.a_law_popped cdv A outer s0 H E) (fun c d _ H' => E c d H') := takes_of rfl rfl rfl rfl
  have hp := passes_of (X := (cxOf (L2.CX P w) P w K mg base ["_law_policy_here", "_law_level", "_law_size", "_law_capacities", "_law_limits", "_law_fixed"] "_law_popped" (defScope st_law_popped) z.a_law_popped cdv A outer s0 H E)) rfl
  exact s_asgP (c_var (pv 0) rfl) (g_tp rfl (gs_cons (g_nm (pg_name (i := 3) sc.nd rfl (by first | exact Or.inl rfl | exact Or.inr rfl))) (gs_cons (g_nm (pg_name (i := 4) sc.nd rfl (by first | exact Or.inl rfl | exact Or.inr rfl))) (gs_cons (g_nm (pg_name (i := 5) sc.nd rfl (by first | exact Or.inl rfl | exact Or.inr rfl))) gs_nil)))) (fun x => bd_3 fun capacities limits fixed => bd_nm (bd_nm (bd_nm (s_if (oa' := fun (s : Unit) => [.val policy_here, .val level, .val size, .val capacities, .val limits, .val fixed]) (p_cmp (op_eqA hu) sv_eq (nomark _) (c_var (pv 2) rfl) (c_int)) (s_ret (c_non)) (s_nil (.eq (.eq (.eq (.eq (.eq (.eq .nil))))))) (fun s => s_if (oa' := fun (s_1 : Unit) => [.val policy_here, .val level, .val size, .val capacities, .val limits, .val fixed]) (PW.pt (p_and (p_cmp op_gt sv_gt (nomark _) (c_var (pv 1) rfl) (c_int)) (p_one (p_cmp (op_eqA hu) sv_eq (nomark _) (c_bin op_sub sv_sub (c_var (pv 2) rfl) (c_int)) (c_idx (c_var (pv 4) rfl) (c_bin op_sub sv_sub (c_var (pv 1) rfl) (c_int))))))) (s_ret (c_tup (a_cons (c_bin op_sub sv_sub (c_var (pv 1) rfl) (c_int)) (a_cons (c_bin op_sub sv_sub (c_var (pv 2) rfl) (c_int)) (a_cons (c_bin op_addA sv_add (c_bin op_sub sv_sub (c_var (pv 2) rfl) (c_int)) (c_var (pv 5) rfl)) a_nil))))) (s_nil (.eq (.eq (.eq (.eq (.eq (.eq .nil))))))) (fun s_1 => s_ret (c_tup (a_cons (c_var (pv 1) rfl) (a_cons (c_bin op_sub sv_sub (c_var (pv 2) rfl) (c_int)) (a_cons (c_int) a_nil))))))))))
theorem sc_law_states : FnScope ["_law_policy_here", "_law_capacities", "_law_limits", "_law_fixed", "_law_found", "_law_level", "_law_size"] ["_law_policy_here"] (defScope st_law_states) := ⟨rfl, rfl, rfl, by decide +kernel, rfl, by decide +kernel, by decide +kernel⟩
theorem o_law_states (T : Txt K mg z base) : FnG gu P w K mg base (L2.CX P w) 1 z.a_law_states z.d_law_states ["_law_policy_here"] (spM ⟨K, clsA z⟩ (fs1 t_law_states)) := by
  refine fn_1 (k := 0) (b := bd_law_states) T.F_law_states sc_law_states (.inl fun _ => rfl) fun policy_here cdv A outer s0 H E gB hr0 cl0 => ?_
  unfold bd_law_states
  have sc := sc_law_states
  have hr : Room 0 (cxOf (L2.CX P w) P w K mg base ["_law_policy_here", "_law_capacities", "_law_limits", "_law_fixed", "_law_found", "_law_level", "_law_size"] "_law_states" (defScope st_law_states) z.a_law_states cdv A outer s0 H E).A := hr0
  have cl : Clr gu (cxOf (L2.CX P w) P w K mg base ["_law_policy_here", "_law_capacities", "_law_limits", "_law_fixed", "_law_found", "_law_level", "_law_size"] "_law_states" (defScope st_law_states) z.a_law_states cdv A outer s0 H E).A := cl0
  have hu := hr.units
  have tk : Takes (cxOf (L2.CX P w) P w K mg base ["_law_policy_here", "_law_capacities", "_law_limits", "_law_fixed", "_law_found", "_law_level", "_law_size"] "_law_states" (defScope st_law_states) z.a_law_states cdv A outer s0 H E) (fun c d _ H' => E c d H') := takes_of rfl rfl rfl rfl
  have hp := passes_of (X := (cxOf (L2.CX P w) P w K mg base ["_law_policy_here", "_law_capacities", "_law_limits", "_law_fixed", "_law_found", "_law_level", "_law_size"] "_law_states" (defScope st_law_states) z.a_law_states cdv A outer s0 H E)) rfl
  exact s_asgP (c_var (pv 0) rfl) (g_tp rfl (gs_cons (g_nm (pg_name (i := 1) sc.nd rfl (by first | exact Or.inl rfl | exact Or.inr rfl))) (gs_cons (g_nm (pg_name (i := 2) sc.nd rfl (by first | exact Or.inl rfl | exact Or.inr rfl))) (gs_cons (g_nm (pg_name (i := 3) sc.nd rfl (by first | exact Or.inl rfl | exact Or.inr rfl))) gs_nil)))) (fun x => bd_3 fun capacities limits fixed => bd_nm (bd_nm (bd_nm (s_setLcO (i := 4) (own := [("_law_size", 6)]) rfl sc.nd rfl rfl (sw_true rfl rfl rfl (by decide +kernel)) (i_rng1 (a_cons (c_bin op_addA sv_add (c_idx (c_var (pv 1) rfl) (c_int)) (c_int)) a_nil) (fun {_} h => pi_range1 (by rfl) T.z_range h)) (blkOk_by (N := ["_law_policy_here", "_law_capacities", "_law_limits", "_law_fixed", "_law_found", "_law_level", "_law_size"]) (sc := defScope st_law_states) (by decide +kernel)) (by decide) (fun _ _ _ _ _ => g_nm (pg_name (i := 6) sc.nd rfl (by first | exact Or.inl rfl | exact Or.inr rfl))) (fun size => bd_nm (ok_el (fun _ _ _ _ _ => c_tup (a_cons (c_int) (a_cons (c_var (pv 6) rfl) a_nil))))) (fun found => s_for hp rfl (fun (s : List D) => [.val policy_here, .val capacities, .val limits, .val fixed, .own s, .un, .un]) (i_rng2 (a_cons (c_int) (a_cons (c_bi sv_len (a_cons (c_var (pv 1) rfl) a_nil) (fun {_} h => pe_callB call_lenA (by rfl) T.z_len (by decide +kernel) h)) a_nil)) (fun {_} h => pi_range2 (by rfl) T.z_range h)) (g_nm (pg_name (i := 5) sc.nd rfl (by first | exact Or.inl rfl | exact Or.inr rfl))) (.eq (.eq (.eq (.eq (.eq (.un (.un .nil))))))) (fun level s => bd_nm (s_ext (pv 4) rfl (c_lc (own := [("_law_size", 6)]) rfl sc.nd (i_rng2 (a_cons (c_bin op_addA sv_add (c_idx (c_var (pv 2) rfl) (c_bin op_sub sv_sub (c_var (pv 5) rfl) (c_int))) (c_int)) (a_cons (c_bin op_addA sv_add (c_idx (c_var (pv 1) rfl) (c_var (pv 5) rfl)) (c_int)) a_nil)) (fun {_} h => pi_range2 (by rfl) T.z_range h)) (blkOk_by (N := ["_law_policy_here", "_law_capacities", "_law_limits", "_law_fixed", "_law_found", "_law_level", "_law_size"]) (sc := defScope st_law_states) (by decide +kernel)) (by decide) (fun _ _ _ _ _ => g_nm (pg_name (i := 6) sc.nd rfl (by first | exact Or.inl rfl | exact Or.inr rfl))) (fun size_1 => bd_nm (ok_el (fun _ _ _ _ _ => c_tup (a_cons (c_var (pv 5) rfl) (a_cons (c_var (pv 6) rfl) a_nil)))))) (fun found_1 => s_nil (.eq (.eq (.eq (.eq (.eq (.un (.un .nil)))))))) (fun {_} {_} ho ha => pe_bm PySem.F.plainAttrs_list PySem.F.slot_list_extend PySem.F.type_list_extend mt_extend ho ha))) (fun s_1 => s_frz (i := 4) rfl (s_ret (c_var (pv 4) rfl))))))))
theorem sc_law_pairs : FnScope ["_law_draws_here", "_law_most", "_law_longest", "_law_found", "_law_turn", "_law_count"] ["_law_draws_here", "_law_most", "_law_longest"] (defScope st_law_pairs) := ⟨rfl, rfl, rfl, by decide +kernel, rfl, by decide +kernel, by decide +kernel⟩
theorem o_law_pairs (T : Txt K mg z base) : FnG gu P w K mg base (L2.CX P w) 3 z.a_law_pairs z.d_law_pairs ["_law_draws_here", "_law_most", "_law_longest"] (spM ⟨K, clsA z⟩ (fs3 t_law_pairs)) := by
  refine fn_3 (k := 2) (b := bd_law_pairs) T.F_law_pairs sc_law_pairs (.inl fun _ _ _ => rfl) fun draws_here most longest cdv A outer s0 H E gB hr0 cl0 => ?_
  unfold bd_law_pairs
  have sc := sc_law_pairs
  have hr : Room 2 (cxOf (L2.CX P w) P w K mg base ["_law_draws_here", "_law_most", "_law_longest", "_law_found", "_law_turn", "_law_count"] "_law_pairs" (defScope st_law_pairs) z.a_law_pairs cdv A outer s0 H E).A := hr0
  have cl : Clr gu (cxOf (L2.CX P w) P w K mg base ["_law_draws_here", "_law_most", "_law_longest", "_law_found", "_law_turn", "_law_count"] "_law_pairs" (defScope st_law_pairs) z.a_law_pairs cdv A outer s0 H E).A := cl0
  have hu := hr.units
  have tk : Takes (cxOf (L2.CX P w) P w K mg base ["_law_draws_here", "_law_most", "_law_longest", "_law_found", "_law_turn", "_law_count"] "_law_pairs" (defScope st_law_pairs) z.a_law_pairs cdv A outer s0 H E) (fun c d _ H' => E c d H') := takes_of rfl rfl rfl rfl
  have hp := passes_of (X := (cxOf (L2.CX P w) P w K mg base ["_law_draws_here", "_law_most", "_law_longest", "_law_found", "_law_turn", "_law_count"] "_law_pairs" (defScope st_law_pairs) z.a_law_pairs cdv A outer s0 H E)) rfl
  have i_law_below : IsFn gu P w K mg base (clsA z) 2 "_law_below" (fs2 t_law_below) := ⟨_, _, _, T.m_law_below, T.F_law_below.kp, T.B_law_below, (o_law_below T).mono (by decide)⟩
  have i_law_pick : IsFn gu P w K mg base (clsA z) 2 "_law_pick" (fs2 t_law_pick) := ⟨_, _, _, T.m_law_pick, T.F_law_pick.kp, T.B_law_pick, (o_law_pick T).mono (by decide)⟩
  exact s_set (s := Sl.own) (k_lst (a_nil)) (pg_name (i := 3) sc.nd rfl (by first | exact Or.inl rfl | exact Or.inr rfl)) (fun found => s_for hp rfl (fun (s : List D) => [.val draws_here, .val most, .val longest, .own s, .un, .un]) (i_rng1 (a_cons (c_call i_law_below hr cl tk (by rfl) (a_cons (c_var (pv 0) rfl) (a_cons (c_bin op_addA sv_add (c_var (pv 1) rfl) (c_int)) a_nil))) a_nil) (fun {_} h => pi_range1 (by rfl) T.z_range h)) (g_nm (pg_name (i := 4) sc.nd rfl (by first | exact Or.inl rfl | exact Or.inr rfl))) (.eq (.eq (.eq (.eq (.un (.un .nil)))))) (fun turn s => bd_nm (s_set (s := Sl.val) (k_val (c_call i_law_pick hr cl tk (by rfl) (a_cons (c_var (pv 0) rfl) (a_cons (c_lst (a_cons (c_int) (a_cons (c_bin op_addA sv_add (c_int) (c_call i_law_below hr cl tk (by rfl) (a_cons (c_var (pv 0) rfl) (a_cons (c_int) a_nil)))) (a_cons (c_bin op_addA sv_add (c_int) (c_call i_law_below hr cl tk (by rfl) (a_cons (c_var (pv 0) rfl) (a_cons (c_var (pv 2) rfl) a_nil)))) a_nil)))) a_nil)))) (pg_name (i := 5) sc.nd rfl (by first | exact Or.inl rfl | exact Or.inr rfl)) (fun count => s_app (pv 3) rfl (c_tup (a_cons (c_call i_law_pick hr cl tk (by rfl) (a_cons (c_var (pv 0) rfl) (a_cons (c_lst (a_cons (c_str) (a_cons (c_str) (a_cons (c_str) a_nil)))) a_nil))) (a_cons (c_var (pv 5) rfl) a_nil))) (fun found_1 => s_nil (.eq (.eq (.eq (.eq (.un (.un .nil))))))) (fun {_} {_} ho ha => pe_bm PySem.F.plainAttrs_list PySem.F.slot_list_append PySem.F.type_list_append mt_append ho ha)))) (fun s_1 => s_frz (i := 3) rfl (s_ret (c_bi sv_tuple (a_cons (c_var (pv 3) rfl) a_nil) (fun {_} h => pe_callTy call_tuple_of (by rfl) T.z_tuple (by decide +kernel) h)))))
theorem sc_law_fitting : FnScope ["_law_draws_here", "_law_policy_here", "_law_level", "_law_size", "_law_most", "_law_longest", "_law_found", "_law_room", "_law_word", "_law_count"] ["_law_draws_here", "_law_policy_here", "_law_level", "_law_size", "_law_most", "_law_longest"] (defScope st_law_fitting) := ⟨rfl, rfl, rfl, by decide +kernel, rfl, by decide +kernel, by decide +kernel⟩
theorem o_law_fitting (T : Txt K mg z base) : FnG gu P w K mg base (L2.CX P w) 4 z.a_law_fitting z.d_law_fitting ["_law_draws_here", "_law_policy_here", "_law_level", "_law_size", "_law_most", "_law_longest"] (spM ⟨K, clsA z⟩ (fs6 t_law_fitting)) := by
  refine fn_6 (k := 3) (b := bd_law_fitting) T.F_law_fitting sc_law_fitting (.inl fun _ _ _ _ _ _ => rfl) fun draws_here policy_here level size most longest cdv A outer s0 H E gB hr0 cl0 => ?_
  unfold bd_law_fitting
  have sc := sc_law_fitting
  have hr : Room 3 (cxOf (L2.CX P w) P w K mg base ["_law_draws_here", "_law_policy_here", "_law_level", "_law_size", "_law_most", "_law_longest", "_law_found", "_law_room", "_law_word", "_law_count"] "_law_fitting" (defScope st_law_fitting) z.a_law_fitting cdv A outer s0 H E).A := hr0
  have cl : Clr gu (cxOf (L2.CX P w) P w K mg base ["_law_draws_here", "_law_policy_here", "_law_level", "_law_size", "_law_most", "_law_longest", "_law_found", "_law_room", "_law_word", "_law_count"] "_law_fitting" (defScope st_law_fitting) z.a_law_fitting cdv A outer s0 H E).A := cl0
  have hu := hr.units
  have tk : Takes (cxOf (L2.CX P w) P w K mg base ["_law_draws_here", "_law_policy_here", "_law_level", "_law_size", "_law_most", "_law_longest", "_law_found", "_law_room", "_law_word", "_law_count"] "_law_fitting" (defScope st_law_fitting) z.a_law_fitting cdv A outer s0 H E) (fun c d _ H' => E c d H') := takes_of rfl rfl rfl rfl
  have hp := passes_of (X := (cxOf (L2.CX P w) P w K mg base ["_law_draws_here", "_law_policy_here", "_law_level", "_law_size", "_law_most", "_law_longest", "_law_found", "_law_room", "_law_word", "_law_count"] "_law_fitting" (defScope st_law_fitting) z.a_law_fitting cdv A outer s0 H E)) rfl
  have i_law_pairs : IsFn gu P w K mg base (clsA z) 3 "_law_pairs" (fs3 t_law_pairs) := ⟨_, _, _, T.m_law_pairs, T.F_law_pairs.kp, T.B_law_pairs, (o_law_pairs T).mono (by decide)⟩
  exact s_par (i := 6) (j := 7) rfl sc.nd rfl rfl (by decide) rfl rfl (k_lst (a_nil)) (k_val (c_idx (c_idx (c_var (pv 1) rfl) (c_int)) (c_neg (c_int)))) (fun found room => s_for hp rfl (fun (s : D × List D) => [.val draws_here, .val policy_here, .val level, .val s.1, .val most, .val longest, .own s.2, .val room, .un, .un]) (i_seq (c_call i_law_pairs hr cl tk (by rfl) (a_cons (c_var (pv 0) rfl) (a_cons (c_var (pv 4) rfl) (a_cons (c_var (pv 5) rfl) a_nil))))) (g_tp rfl (gs_cons (g_nm (pg_name (i := 8) sc.nd rfl (by first | exact Or.inl rfl | exact Or.inr rfl))) (gs_cons (g_nm (pg_name (i := 9) sc.nd rfl (by first | exact Or.inl rfl | exact Or.inr rfl))) gs_nil))) (.eq (.eq (.eq (.eq (.eq (.eq (.eq (.eq (.un (.un .nil)))))))))) (fun x s => bd_2 fun word count => bd_nm (bd_nm (s_set (s := Sl.val) (k_val (c_bi sv_min2 (a_cons (c_var (pv 9) rfl) (a_cons (c_ite (p_cmp (op_eqA hu) sv_eq (nomark _) (c_var (pv 8) rfl) (c_str)) (c_bin op_sub sv_sub (c_var (pv 7) rfl) (c_var (pv 3) rfl)) (c_var (pv 3) rfl)) a_nil)) (fun {_} h => pe_callB (call_min2 rfl) (by rfl) T.z_min (by decide +kernel) h))) (pg_name (i := 9) sc.nd rfl (by first | exact Or.inl rfl | exact Or.inr rfl)) (fun count_1 => s_ifL (p_cmp op_gt sv_gt (nomark _) (c_var (pv 9) rfl) (c_int)) (s_app (pv 6) rfl (c_tup (a_cons (c_var (pv 8) rfl) (a_cons (c_var (pv 9) rfl) a_nil))) (fun found_1 => s_set (s := Sl.val) (k_val (c_bin op_addA sv_add (c_var (pv 3) rfl) (c_ite (p_cmp (op_eqA hu) sv_eq (nomark _) (c_var (pv 8) rfl) (c_str)) (c_var (pv 9) rfl) (c_bin op_sub sv_sub (c_int) (c_var (pv 9) rfl))))) (pg_name (i := 3) sc.nd rfl (by first | exact Or.inl rfl | exact Or.inr rfl)) (fun size_1 => s_nil (.eq (.eq (.eq (.eq (.eq (.eq (.eq (.eq (.un (.un .nil)))))))))))) (fun {_} {_} ho ha => pe_bm PySem.F.plainAttrs_list PySem.F.slot_list_append PySem.F.type_list_append mt_append ho ha)) (s_nil (.eq (.eq (.eq (.eq (.eq (.eq (.eq (.eq (.un (.un .nil))))))))))))))) (fun s_1 => s_frz (i := 6) rfl (s_ret (c_bi sv_tuple (a_cons (c_var (pv 6) rfl) a_nil) (fun {_} h => pe_callTy call_tuple_of (by rfl) T.z_tuple (by decide +kernel) h))))) (by rfl)
theorem sc_law_moves : FnScope ["_law_policy_here", "_law_level", "_law_size", "_law_pairs_here", "_law_found", "_law_done", "_law_fixed", "_law_word", "_law_count", "_law_turn", "_law_step"] ["_law_policy_here", "_law_level", "_law_size", "_law_pairs_here"] (defScope st_law_moves) := ⟨rfl, rfl, rfl, by decide +kernel, rfl, by decide +kernel, by decide +kernel⟩
theorem o_law_moves (T : Txt K mg z base) : FnG gu P w K mg base (L2.CX P w) 2 z.a_law_moves z.d_law_moves ["_law_policy_here", "_law_level", "_law_size", "_law_pairs_here"] (spM ⟨K, clsA z⟩ (fs4 t_law_moves)) := by
  refine fn_4 (k := 1) (b := bd_law_moves) T.F_law_moves sc_law_moves (.inl fun _ _ _ _ => rfl) fun policy_here level size pairs_here cdv A outer s0 H E gB hr0 cl0 => ?_
  unfold bd_law_moves
  have sc := sc_law_moves
  have hr : Room 1 (cxOf (L2.CX P w) P w K mg base ["_law_policy_here", "_law_level", "_law_size", "_law_pairs_here", "_law_found", "_law_done", "_law_fixed", "_law_word", "_law_count", "_law_turn", "_law_step"] "_law_moves" (defScope st_law_moves) z.a_law_moves cdv A outer s0 H E).A := hr0
  have cl : Clr gu (cxOf (L2.CX P w) P w K mg base ["_law_policy_here", "_law_level", "_law_size", "_law_pairs_here", "_law_found", "_law_done", "_law_fixed", "_law_word", "_law_count", "_law_turn", "_law_step"] "_law_moves" (defScope st_law_moves) z.a_law_moves cdv A outer s0 H E).A := cl0
  have hu := hr.units
  have tk : Takes (cxOf (L2.CX P w) P w K mg base ["_law_policy_here", "_law_level", "_law_size", "_law_pairs_here", "_law_found", "_law_done", "_law_fixed", "_law_word", "_law_count", "_law_turn", "_law_step"] "_law_moves" (defScope st_law_moves) z.a_law_moves cdv A outer s0 H E) (fun c d _ H' => E c d H') := takes_of rfl rfl rfl rfl
  have hp := passes_of (X := (cxOf (L2.CX P w) P w K mg base ["_law_policy_here", "_law_level", "_law_size", "_law_pairs_here", "_law_found", "_law_done", "_law_fixed", "_law_word", "_law_count", "_law_turn", "_law_step"] "_law_moves" (defScope st_law_moves) z.a_law_moves cdv A outer s0 H E)) rfl
  have i_law_popped : IsFn gu P w K mg base (clsA z) 1 "_law_popped" (fs3 t_law_popped) := ⟨_, _, _, T.m_law_popped, T.F_law_popped.kp, T.B_law_popped, (o_law_popped T).mono (by decide)⟩
  have i_law_pushed : IsFn gu P w K mg base (clsA z) 1 "_law_pushed" (fs3 t_law_pushed) := ⟨_, _, _, T.m_law_pushed, T.F_law_pushed.kp, T.B_law_pushed, (o_law_pushed T).mono (by decide)⟩
  exact s_par3 (i := 4) (j := 5) (l := 6) rfl sc.nd rfl rfl rfl (by decide) (by decide) (by decide) rfl rfl rfl (k_lst (a_nil)) (k_val (c_int)) (k_val (c_idx (c_var (pv 0) rfl) (c_int))) (fun found done fixed => s_for hp rfl (fun (s : D × D × List D × D) => [.val policy_here, .val s.1, .val s.2.1, .val pairs_here, .own s.2.2.1, .val s.2.2.2, .val fixed, .un, .un, .un, .un]) (i_seq (c_var (pv 3) rfl)) (g_tp rfl (gs_cons (g_nm (pg_name (i := 7) sc.nd rfl (by first | exact Or.inl rfl | exact Or.inr rfl))) (gs_cons (g_nm (pg_name (i := 8) sc.nd rfl (by first | exact Or.inl rfl | exact Or.inr rfl))) gs_nil))) (.eq (.eq (.eq (.eq (.eq (.eq (.eq (.un (.un (.un (.un .nil))))))))))) (fun x s => bd_2 fun word count => bd_nm (bd_nm (s_for hp rfl (fun (s_1 : D × D × List D × D) => [.val policy_here, .val s_1.1, .val s_1.2.1, .val pairs_here, .own s_1.2.2.1, .val s_1.2.2.2, .val fixed, .val word, .val count, .un, .un]) (i_rng1 (a_cons (c_var (pv 8) rfl) a_nil) (fun {_} h => pi_range1 (by rfl) T.z_range h)) (g_nm (pg_name (i := 9) sc.nd rfl (by first | exact Or.inl rfl | exact Or.inr rfl))) (.eq (.eq (.eq (.eq (.eq (.eq (.eq (.eq (.eq (.un (.un .nil))))))))))) (fun turn s_1 => bd_nm (s_set (s := Sl.val) (k_val (c_ite (p_cmp (op_eqA hu) sv_eq (nomark _) (c_var (pv 7) rfl) (c_str)) (c_call i_law_pushed hr cl tk (by rfl) (a_cons (c_var (pv 0) rfl) (a_cons (c_var (pv 1) rfl) (a_cons (c_var (pv 2) rfl) a_nil)))) (c_call i_law_popped hr cl tk (by rfl) (a_cons (c_var (pv 0) rfl) (a_cons (c_var (pv 1) rfl) (a_cons (c_var (pv 2) rfl) a_nil)))))) (pg_name (i := 10) sc.nd rfl (by first | exact Or.inl rfl | exact Or.inr rfl)) (fun step => s_if (oa' := fun (s_2 : Unit) => [.val policy_here, .val s_1.1, .val s_1.2.1, .val pairs_here, .own s_1.2.2.1, .val s_1.2.2.2, .val fixed, .val word, .val count, .val turn, .val step]) (p_cmp op_isN sv_is (nomark _) (c_var (pv 10) rfl) (c_non)) (s_ret (c_non)) (s_nil (.eq (.eq (.eq (.eq (.eq (.eq (.eq (.eq (.eq (.eq (.eq .nil)))))))))))) (fun s_2 => s_if (oa' := fun (s_3 : List D) => [.val policy_here, .val s_1.1, .val s_1.2.1, .val pairs_here, .own s_3, .val s_1.2.2.2, .val fixed, .val word, .val count, .val turn, .val step]) (p_cmp (op_neA hu) sv_ne (nomark _) (c_idx (c_var (pv 10) rfl) (c_int)) (c_var (pv 1) rfl)) (s_app (pv 4) rfl (c_tup (a_cons (c_var (pv 5) rfl) (a_cons (c_ite (p_cmp (op_eqA hu) sv_eq (nomark _) (c_var (pv 7) rfl) (c_str)) (c_str) (c_str)) (a_cons (c_idx (c_var (pv 10) rfl) (c_int)) (a_cons (c_bin op_sub sv_sub (c_idx (c_var (pv 10) rfl) (c_int)) (c_var (pv 6) rfl)) a_nil))))) (fun found_1 => s_nil (.eq (.eq (.eq (.eq (.eq (.eq (.eq (.eq (.eq (.eq (.eq .nil)))))))))))) (fun {_} {_} ho ha => pe_bm PySem.F.plainAttrs_list PySem.F.slot_list_append PySem.F.type_list_append mt_append ho ha)) (s_nil (.eq (.eq (.eq (.eq (.eq (.eq (.eq (.eq (.eq (.eq (.eq .nil)))))))))))) (fun s_3 => s_par3 (i := 1) (j := 2) (l := 5) rfl sc.nd rfl rfl rfl (by decide) (by decide) (by decide) rfl rfl rfl (k_val (c_idx (c_var (pv 10) rfl) (c_int))) (k_val (c_idx (c_var (pv 10) rfl) (c_int))) (k_val (c_bin op_addA sv_add (c_var (pv 5) rfl) (c_int))) (fun level_1 size_1 done_1 => s_nil (.eq (.eq (.eq (.eq (.eq (.eq (.eq (.eq (.eq (.un (.un .nil)))))))))))) (by rfl)))))) (fun s_4 => s_nil (.eq (.eq (.eq (.eq (.eq (.eq (.eq (.un (.un (.un (.un .nil))))))))))))))) (fun s_5 => s_frz (i := 4) rfl (s_ret (c_var (pv 4) rfl)))) (by rfl)
theorem sc_law : FnScope ["_law_script", "_law_k", "_law_draws_here", "_law_turn", "_law_policy_here", "_law_state", "_law_pairs_here", "_law_due", "_law_move"] ["_law_script"] (defScope st_law) := ⟨rfl, rfl, rfl, by decide +kernel, rfl, by decide +kernel, by decide +kernel⟩
theorem o_law (T : Txt K mg z base) : FnG true P w K mg base (L2.CX P w) 10 z.a_law z.d_law ["_law_script"] (spM ⟨K, clsA z⟩ (fs1 t_law)) := by
  refine fn_1 (k := 9) (b := bd_law) T.F_law sc_law (.inl fun _ => rfl) fun script cdv A outer s0 H E gB hr0 cl0 => ?_
  unfold bd_law
  have sc := sc_law
  have hr : Room 9 (cxOf (L2.CX P w) P w K mg base ["_law_script", "_law_k", "_law_draws_here", "_law_turn", "_law_policy_here", "_law_state", "_law_pairs_here", "_law_due", "_law_move"] "law" (defScope st_law) z.a_law cdv A outer s0 H E).A := hr0
  have cl : Clr true (cxOf (L2.CX P w) P w K mg base ["_law_script", "_law_k", "_law_draws_here", "_law_turn", "_law_policy_here", "_law_state", "_law_pairs_here", "_law_due", "_law_move"] "law" (defScope st_law) z.a_law cdv A outer s0 H E).A := cl0
  have hu := hr.units
  have tk : Takes (cxOf (L2.CX P w) P w K mg base ["_law_script", "_law_k", "_law_draws_here", "_law_turn", "_law_policy_here", "_law_state", "_law_pairs_here", "_law_due", "_law_move"] "law" (defScope st_law) z.a_law cdv A outer s0 H E) (fun c d _ H' => E c d H') := takes_of rfl rfl rfl rfl
  have hp := passes_of (X := (cxOf (L2.CX P w) P w K mg base ["_law_script", "_law_k", "_law_draws_here", "_law_turn", "_law_policy_here", "_law_state", "_law_pairs_here", "_law_due", "_law_move"] "law" (defScope st_law) z.a_law cdv A outer s0 H E)) rfl
  have i_law_draws : IsFn true P w K mg base (clsA z) 9 "_law_draws" (fs2 t_law_draws) := ⟨_, _, _, T.m_law_draws, T.F_law_draws.kp, T.B_law_draws, (o_law_draws T).mono (by decide)⟩
  have i_law_fitting : IsFn true P w K mg base (clsA z) 9 "_law_fitting" (fs6 t_law_fitting) := ⟨_, _, _, T.m_law_fitting, T.F_law_fitting.kp, T.B_law_fitting, (o_law_fitting T).mono (by decide)⟩
  have i_law_moves : IsFn true P w K mg base (clsA z) 9 "_law_moves" (fs4 t_law_moves) := ⟨_, _, _, T.m_law_moves, T.F_law_moves.kp, T.B_law_moves, (o_law_moves T).mono (by decide)⟩
  have i_law_pick : IsFn true P w K mg base (clsA z) 9 "_law_pick" (fs2 t_law_pick) := ⟨_, _, _, T.m_law_pick, T.F_law_pick.kp, T.B_law_pick, (o_law_pick T).mono (by decide)⟩
  have i_law_policy : IsFn true P w K mg base (clsA z) 9 "_law_policy" (fs3 t_law_policy) := ⟨_, _, _, T.m_law_policy, T.F_law_policy.kp, T.B_law_policy, (o_law_policy T).mono (by decide)⟩
  have i_law_states : IsFn true P w K mg base (clsA z) 9 "_law_states" (fs1 t_law_states) := ⟨_, _, _, T.m_law_states, T.F_law_states.kp, T.B_law_states, (o_law_states T).mono (by decide)⟩
  have y_moves : IsGf P w K mg base (clsA z) 6 "moves" (fs3 t_moves) := ⟨_, _, _, T.m_moves, T.F_moves.kp, T.B_moves, o_moves T⟩
  have yd_moves : IsDf P w K mg base (clsA z) 6 "moves" (fs3 t_moves) := ⟨_, _, _, T.m_moves, T.F_moves.kp, T.B_moves, od_moves T⟩
  exact s_for hp rfl (fun (s : Unit) => [.val script, .un, .un, .un, .un, .un, .un, .un, .un]) (i_rng1 (a_cons (c_bi sv_max2 (a_cons (c_int) (a_cons (c_bi sv_min2 (a_cons (c_int) (a_cons (c_bi sv_len (a_cons (c_var (pv 0) rfl) a_nil) (fun {_} h => pe_callB call_lenA (by rfl) T.z_len (by decide +kernel) h)) a_nil)) (fun {_} h => pe_callB (call_min2 rfl) (by rfl) T.z_min (by decide +kernel) h)) a_nil)) (fun {_} h => pe_callB (call_max2 rfl) (by rfl) T.z_max (by decide +kernel) h)) a_nil) (fun {_} h => pi_range1 (by rfl) T.z_range h)) (g_nm (pg_name (i := 1) sc.nd rfl (by first | exact Or.inl rfl | exact Or.inr rfl))) (.eq (.un (.un (.un (.un (.un (.un (.un (.un .nil))))))))) (fun k s => bd_nm (s_set (s := Sl.val) (k_val (c_call i_law_draws hr cl tk (by rfl) (a_cons (c_var (pv 0) rfl) (a_cons (c_var (pv 1) rfl) a_nil)))) (pg_name (i := 2) sc.nd rfl (by first | exact Or.inl rfl | exact Or.inr rfl)) (fun draws_here => s_for hp rfl (fun (s_1 : Unit) => [.val script, .val k, .val draws_here, .un, .un, .un, .un, .un, .un]) (i_rng1 (a_cons (c_int) a_nil) (fun {_} h => pi_range1 (by rfl) T.z_range h)) (g_nm (pg_name (i := 3) sc.nd rfl (by first | exact Or.inl rfl | exact Or.inr rfl))) (.eq (.eq (.eq (.un (.un (.un (.un (.un (.un .nil))))))))) (fun turn s_1 => bd_nm (s_set (s := Sl.val) (k_val (c_call i_law_policy hr cl tk (by rfl) (a_cons (c_var (pv 2) rfl) (a_cons (c_int) (a_cons (c_int) a_nil))))) (pg_name (i := 4) sc.nd rfl (by first | exact Or.inl rfl | exact Or.inr rfl)) (fun policy_here => s_for hp rfl (fun (s_2 : Unit) => [.val script, .val k, .val draws_here, .val turn, .val policy_here, .un, .un, .un, .un]) (i_seq (c_tup (a_cons (c_tup (a_cons (c_int) (a_cons (c_int) a_nil))) (a_cons (c_call i_law_pick hr cl tk (by rfl) (a_cons (c_var (pv 2) rfl) (a_cons (c_call i_law_states hr cl tk (by rfl) (a_cons (c_var (pv 4) rfl) a_nil)) a_nil))) a_nil)))) (g_nm (pg_name (i := 5) sc.nd rfl (by first | exact Or.inl rfl | exact Or.inr rfl))) (.eq (.eq (.eq (.eq (.eq (.un (.un (.un (.un .nil))))))))) (fun state s_2 => bd_nm (s_set (s := Sl.val) (k_val (c_call i_law_fitting hr cl tk (by rfl) (a_cons (c_var (pv 2) rfl) (a_cons (c_var (pv 4) rfl) (a_cons (c_idx (c_var (pv 5) rfl) (c_int)) (a_cons (c_idx (c_var (pv 5) rfl) (c_int)) (a_cons (c_int) (a_cons (c_int) a_nil)))))))) (pg_name (i := 6) sc.nd rfl (by first | exact Or.inl rfl | exact Or.inr rfl)) (fun pairs_here => s_set (s := Sl.val) (k_val (c_call i_law_moves hr cl tk (by rfl) (a_cons (c_var (pv 4) rfl) (a_cons (c_idx (c_var (pv 5) rfl) (c_int)) (a_cons (c_idx (c_var (pv 5) rfl) (c_int)) (a_cons (c_var (pv 6) rfl) a_nil)))))) (pg_name (i := 7) sc.nd rfl (by first | exact Or.inl rfl | exact Or.inr rfl)) (fun due => s_if (oa' := fun (s_3 : Unit) => [.val script, .val k, .val draws_here, .val turn, .val policy_here, .val state, .val pairs_here, .val due, .un]) (PW.pt (p_or (p_cmp op_isN sv_is (nomark _) (c_var (pv 7) rfl) (c_non)) (p_one' (p_cmp (op_neA hu) sv_ne (nomark _) (c_bi sv_repr (a_cons (c_listG y_moves (hr.mono (by decide)) (by rfl) (by rfl) T.z_list (a_cons (c_var (pv 4) rfl) (a_cons (c_var (pv 5) rfl) (a_cons (c_var (pv 6) rfl) a_nil)))) a_nil) (fun {_} h => pe_callB (call_repr cl hu) (by rfl) T.z_repr (by decide +kernel) h)) (c_bi sv_repr (a_cons (c_var (pv 7) rfl) a_nil) (fun {_} h => pe_callB (call_repr cl hu) (by rfl) T.z_repr (by decide +kernel) h)))))) (s_ret (c_bl)) (s_nil (.eq (.eq (.eq (.eq (.eq (.eq (.eq (.eq (.un .nil)))))))))) (fun s_3 => s_ifL (p_cmp (op_neA hu) sv_ne (nomark _) (c_bi sv_repr (a_cons (c_lcG yd_moves rfl (hr.mono (by decide)) (by rfl) (a_cons (c_var (pv 4) rfl) (a_cons (c_var (pv 5) rfl) (a_cons (c_var (pv 6) rfl) a_nil))) (by rfl) (by rfl)) a_nil) (fun {_} h => pe_callB (call_repr cl hu) (by rfl) T.z_repr (by decide +kernel) h)) (c_bi sv_repr (a_cons (c_var (pv 7) rfl) a_nil) (fun {_} h => pe_callB (call_repr cl hu) (by rfl) T.z_repr (by decide +kernel) h))) (s_ret (c_bl)) (s_nil (.eq (.eq (.eq (.eq (.eq (.un (.un (.un (.un .nil))))))))))))))) (fun s_4 => s_nil (.eq (.eq (.eq (.un (.un (.un (.un (.un (.un .nil))))))))))))) (fun s_5 => s_nil (.eq (.un (.un (.un (.un (.un (.un (.un (.un .nil))))))))))))) (fun s_6 => s_ret (c_bl))
end
end G.K08
namespace G.K08
open PySem L2 PySem.Spec PyProof.Rows G
theorem all_mk {l : PySem.W.OpenLaw} {w : World} {K : PySem.W.Frag} {h : Heap} {mg : Str → Option Value} {fa : Addr} (X : K.In h) (G0 : h.Ns mainGlobals mg) (hfa : mg "law" = some (.ref fa))
    {f_is_integer : Addr} {od_is_integer an_is_integer : Option Addr} {sl_is_integer : Array (Option Value)} {oc_is_integer kV_is_integer dc_is_integer pm_is_integer cd_is_integer ct_is_integer : Value}
    {f_top_level : Addr} {od_top_level an_top_level : Option Addr} {sl_top_level : Array (Option Value)} {oc_top_level kV_top_level dc_top_level pm_top_level cd_top_level ct_top_level : Value}
    {f_capacity_of : Addr} {od_capacity_of an_capacity_of : Option Addr} {sl_capacity_of : Array (Option Value)} {oc_capacity_of kV_capacity_of dc_capacity_of pm_capacity_of cd_capacity_of ct_capacity_of : Value}
    {f_boundaries : Addr} {od_boundaries an_boundaries : Option Addr} {sl_boundaries : Array (Option Value)} {oc_boundaries kV_boundaries dc_boundaries pm_boundaries cd_boundaries ct_boundaries : Value}
    {f_is_run : Addr} {od_is_run an_is_run : Option Addr} {sl_is_run : Array (Option Value)} {oc_is_run kV_is_run dc_is_run pm_is_run cd_is_run ct_is_run : Value}
    {f_are_operations : Addr} {od_are_operations an_are_operations : Option Addr} {sl_are_operations : Array (Option Value)} {oc_are_operations kV_are_operations dc_are_operations pm_are_operations cd_are_operations ct_are_operations : Value}
    {f_check_operations : Addr} {od_check_operations an_check_operations : Option Addr} {sl_check_operations : Array (Option Value)} {oc_check_operations kV_check_operations dc_check_operations pm_check_operations cd_check_operations ct_check_operations : Value}
    {f_Track___init__ : Addr} {od_Track___init__ an_Track___init__ : Option Addr} {sl_Track___init__ : Array (Option Value)} {oc_Track___init__ kV_Track___init__ dc_Track___init__ pm_Track___init__ cd_Track___init__ ct_Track___init__ : Value}
    {f_Track_move : Addr} {od_Track_move an_Track_move : Option Addr} {sl_Track_move : Array (Option Value)} {oc_Track_move kV_Track_move dc_Track_move pm_Track_move cd_Track_move ct_Track_move : Value}
    {f_Track_rest : Addr} {od_Track_rest an_Track_rest : Option Addr} {sl_Track_rest : Array (Option Value)} {oc_Track_rest kV_Track_rest dc_Track_rest pm_Track_rest cd_Track_rest ct_Track_rest : Value}
    {f_Track_push : Addr} {od_Track_push an_Track_push : Option Addr} {sl_Track_push : Array (Option Value)} {oc_Track_push kV_Track_push dc_Track_push pm_Track_push cd_Track_push ct_Track_push : Value}
    {f_Track_pop : Addr} {od_Track_pop an_Track_pop : Option Addr} {sl_Track_pop : Array (Option Value)} {oc_Track_pop kV_Track_pop dc_Track_pop pm_Track_pop cd_Track_pop ct_Track_pop : Value}
    {f_Track_run : Addr} {od_Track_run an_Track_run : Option Addr} {sl_Track_run : Array (Option Value)} {oc_Track_run kV_Track_run dc_Track_run pm_Track_run cd_Track_run ct_Track_run : Value}
    {f_tracked : Addr} {od_tracked an_tracked : Option Addr} {sl_tracked : Array (Option Value)} {oc_tracked kV_tracked dc_tracked pm_tracked cd_tracked ct_tracked : Value}
    {f_moves : Addr} {od_moves an_moves : Option Addr} {sl_moves : Array (Option Value)} {oc_moves kV_moves dc_moves pm_moves cd_moves ct_moves : Value}
    {f_law_draws : Addr} {od_law_draws an_law_draws : Option Addr} {sl_law_draws : Array (Option Value)} {oc_law_draws kV_law_draws dc_law_draws pm_law_draws cd_law_draws ct_law_draws : Value}
    {f_law_below : Addr} {od_law_below an_law_below : Option Addr} {sl_law_below : Array (Option Value)} {oc_law_below kV_law_below dc_law_below pm_law_below cd_law_below ct_law_below : Value}
    {f_law_pick : Addr} {od_law_pick an_law_pick : Option Addr} {sl_law_pick : Array (Option Value)} {oc_law_pick kV_law_pick dc_law_pick pm_law_pick cd_law_pick ct_law_pick : Value}
    {f_law_policy : Addr} {od_law_policy an_law_policy : Option Addr} {sl_law_policy : Array (Option Value)} {oc_law_policy kV_law_policy dc_law_policy pm_law_policy cd_law_policy ct_law_policy : Value}
    {f_law_pushed : Addr} {od_law_pushed an_law_pushed : Option Addr} {sl_law_pushed : Array (Option Value)} {oc_law_pushed kV_law_pushed dc_law_pushed pm_law_pushed cd_law_pushed ct_law_pushed : Value}
    {f_law_popped : Addr} {od_law_popped an_law_popped : Option Addr} {sl_law_popped : Array (Option Value)} {oc_law_popped kV_law_popped dc_law_popped pm_law_popped cd_law_popped ct_law_popped : Value}
    {f_law_states : Addr} {od_law_states an_law_states : Option Addr} {sl_law_states : Array (Option Value)} {oc_law_states kV_law_states dc_law_states pm_law_states cd_law_states ct_law_states : Value}
    {f_law_pairs : Addr} {od_law_pairs an_law_pairs : Option Addr} {sl_law_pairs : Array (Option Value)} {oc_law_pairs kV_law_pairs dc_law_pairs pm_law_pairs cd_law_pairs ct_law_pairs : Value}
    {f_law_fitting : Addr} {od_law_fitting an_law_fitting : Option Addr} {sl_law_fitting : Array (Option Value)} {oc_law_fitting kV_law_fitting dc_law_fitting pm_law_fitting cd_law_fitting ct_law_fitting : Value}
    {f_law_moves : Addr} {od_law_moves an_law_moves : Option Addr} {sl_law_moves : Array (Option Value)} {oc_law_moves kV_law_moves dc_law_moves pm_law_moves cd_law_moves ct_law_moves : Value}
    {f_law : Addr} {od_law an_law : Option Addr} {sl_law : Array (Option Value)} {oc_law kV_law dc_law pm_law cd_law ct_law : Value}
    {C_Track : Addr}
    {t_GROW : Tok}
    {t_MOST_COUNT : Tok}
    {t_MOST_PAIRS : Tok}
    {t_PAIR : Tok}
    {t_POP : Tok}
    {t_PUSH : Tok}
    {t_SHRINK : Tok}
    (gc_Track : PySem.W.nsIn K mainGlobals "Track" = some (some (.ref C_Track)))
    (a_is_integer : PySem.W.nsIn K mainGlobals "is_integer" = some (some (.ref f_is_integer)))
    (l_is_integer : K.lookup f_is_integer = some ⟨oc_is_integer, od_is_integer, .func (PySem.W.fnOf "is_integer" "is_integer" (defArgs st_is_integer) (defBody st_is_integer) (defScope st_is_integer) .none kV_is_integer dc_is_integer pm_is_integer an_is_integer cd_is_integer ct_is_integer), sl_is_integer⟩)
    (c_is_integer : PySem.W.codeIn K cd_is_integer "is_integer" = true)
    (k_is_integer : PySem.W.keepIn K (.ref f_is_integer) = true)
    (a_top_level : PySem.W.nsIn K mainGlobals "top_level" = some (some (.ref f_top_level)))
    (l_top_level : K.lookup f_top_level = some ⟨oc_top_level, od_top_level, .func (PySem.W.fnOf "top_level" "top_level" (defArgs st_top_level) (defBody st_top_level) (defScope st_top_level) .none kV_top_level dc_top_level pm_top_level an_top_level cd_top_level ct_top_level), sl_top_level⟩)
    (c_top_level : PySem.W.codeIn K cd_top_level "top_level" = true)
    (k_top_level : PySem.W.keepIn K (.ref f_top_level) = true)
    (a_capacity_of : PySem.W.nsIn K mainGlobals "capacity_of" = some (some (.ref f_capacity_of)))
    (l_capacity_of : K.lookup f_capacity_of = some ⟨oc_capacity_of, od_capacity_of, .func (PySem.W.fnOf "capacity_of" "capacity_of" (defArgs st_capacity_of) (defBody st_capacity_of) (defScope st_capacity_of) .none kV_capacity_of dc_capacity_of pm_capacity_of an_capacity_of cd_capacity_of ct_capacity_of), sl_capacity_of⟩)
    (c_capacity_of : PySem.W.codeIn K cd_capacity_of "capacity_of" = true)
    (k_capacity_of : PySem.W.keepIn K (.ref f_capacity_of) = true)
    (a_boundaries : PySem.W.nsIn K mainGlobals "boundaries" = some (some (.ref f_boundaries)))
    (l_boundaries : K.lookup f_boundaries = some ⟨oc_boundaries, od_boundaries, .func (PySem.W.fnOf "boundaries" "boundaries" (defArgs st_boundaries) (defBody st_boundaries) (defScope st_boundaries) .none kV_boundaries dc_boundaries pm_boundaries an_boundaries cd_boundaries ct_boundaries), sl_boundaries⟩)
    (c_boundaries : PySem.W.codeIn K cd_boundaries "boundaries" = true)
    (k_boundaries : PySem.W.keepIn K (.ref f_boundaries) = true)
    (a_is_run : PySem.W.nsIn K mainGlobals "is_run" = some (some (.ref f_is_run)))
    (l_is_run : K.lookup f_is_run = some ⟨oc_is_run, od_is_run, .func (PySem.W.fnOf "is_run" "is_run" (defArgs st_is_run) (defBody st_is_run) (defScope st_is_run) .none kV_is_run dc_is_run pm_is_run an_is_run cd_is_run ct_is_run), sl_is_run⟩)
    (c_is_run : PySem.W.codeIn K cd_is_run "is_run" = true)
    (k_is_run : PySem.W.keepIn K (.ref f_is_run) = true)
    (a_are_operations : PySem.W.nsIn K mainGlobals "are_operations" = some (some (.ref f_are_operations)))
    (l_are_operations : K.lookup f_are_operations = some ⟨oc_are_operations, od_are_operations, .func (PySem.W.fnOf "are_operations" "are_operations" (defArgs st_are_operations) (defBody st_are_operations) (defScope st_are_operations) .none kV_are_operations dc_are_operations pm_are_operations an_are_operations cd_are_operations ct_are_operations), sl_are_operations⟩)
    (c_are_operations : PySem.W.codeIn K cd_are_operations "are_operations" = true)
    (k_are_operations : PySem.W.keepIn K (.ref f_are_operations) = true)
    (a_check_operations : PySem.W.nsIn K mainGlobals "check_operations" = some (some (.ref f_check_operations)))
    (l_check_operations : K.lookup f_check_operations = some ⟨oc_check_operations, od_check_operations, .func (PySem.W.fnOf "check_operations" "check_operations" (defArgs st_check_operations) (defBody st_check_operations) (defScope st_check_operations) .none kV_check_operations dc_check_operations pm_check_operations an_check_operations cd_check_operations ct_check_operations), sl_check_operations⟩)
    (c_check_operations : PySem.W.codeIn K cd_check_operations "check_operations" = true)
    (k_check_operations : PySem.W.keepIn K (.ref f_check_operations) = true)
    (a_Track___init__ : PySem.W.findIn K (.ref C_Track) "__init__" = some (some (.ref f_Track___init__)))
    (i_Track___init__ : PySem.W.isFn K (.ref f_Track___init__) = true)
    (l_Track___init__ : K.lookup f_Track___init__ = some ⟨oc_Track___init__, od_Track___init__, .func (PySem.W.fnOf "__init__" "Track.__init__" (defArgs st_Track___init__) (defBody st_Track___init__) (defScope st_Track___init__) .none kV_Track___init__ dc_Track___init__ pm_Track___init__ an_Track___init__ cd_Track___init__ ct_Track___init__), sl_Track___init__⟩)
    (c_Track___init__ : PySem.W.codeIn K cd_Track___init__ "Track.__init__" = true)
    (k_Track___init__ : PySem.W.keepIn K (.ref f_Track___init__) = true)
    (a_Track_move : PySem.W.findIn K (.ref C_Track) "move" = some (some (.ref f_Track_move)))
    (i_Track_move : PySem.W.isFn K (.ref f_Track_move) = true)
    (l_Track_move : K.lookup f_Track_move = some ⟨oc_Track_move, od_Track_move, .func (PySem.W.fnOf "move" "Track.move" (defArgs st_Track_move) (defBody st_Track_move) (defScope st_Track_move) .none kV_Track_move dc_Track_move pm_Track_move an_Track_move cd_Track_move ct_Track_move), sl_Track_move⟩)
    (c_Track_move : PySem.W.codeIn K cd_Track_move "Track.move" = true)
    (k_Track_move : PySem.W.keepIn K (.ref f_Track_move) = true)
    (a_Track_rest : PySem.W.findIn K (.ref C_Track) "rest" = some (some (.ref f_Track_rest)))
    (i_Track_rest : PySem.W.isFn K (.ref f_Track_rest) = true)
    (l_Track_rest : K.lookup f_Track_rest = some ⟨oc_Track_rest, od_Track_rest, .func (PySem.W.fnOf "rest" "Track.rest" (defArgs st_Track_rest) (defBody st_Track_rest) (defScope st_Track_rest) .none kV_Track_rest dc_Track_rest pm_Track_rest an_Track_rest cd_Track_rest ct_Track_rest), sl_Track_rest⟩)
    (c_Track_rest : PySem.W.codeIn K cd_Track_rest "Track.rest" = true)
    (k_Track_rest : PySem.W.keepIn K (.ref f_Track_rest) = true)
    (a_Track_push : PySem.W.findIn K (.ref C_Track) "push" = some (some (.ref f_Track_push)))
    (i_Track_push : PySem.W.isFn K (.ref f_Track_push) = true)
    (l_Track_push : K.lookup f_Track_push = some ⟨oc_Track_push, od_Track_push, .func (PySem.W.fnOf "push" "Track.push" (defArgs st_Track_push) (defBody st_Track_push) (defScope st_Track_push) .none kV_Track_push dc_Track_push pm_Track_push an_Track_push cd_Track_push ct_Track_push), sl_Track_push⟩)
    (c_Track_push : PySem.W.codeIn K cd_Track_push "Track.push" = true)
    (k_Track_push : PySem.W.keepIn K (.ref f_Track_push) = true)
    (a_Track_pop : PySem.W.findIn K (.ref C_Track) "pop" = some (some (.ref f_Track_pop)))
    (i_Track_pop : PySem.W.isFn K (.ref f_Track_pop) = true)
    (l_Track_pop : K.lookup f_Track_pop = some ⟨oc_Track_pop, od_Track_pop, .func (PySem.W.fnOf "pop" "Track.pop" (defArgs st_Track_pop) (defBody st_Track_pop) (defScope st_Track_pop) .none kV_Track_pop dc_Track_pop pm_Track_pop an_Track_pop cd_Track_pop ct_Track_pop), sl_Track_pop⟩)
    (c_Track_pop : PySem.W.codeIn K cd_Track_pop "Track.pop" = true)
    (k_Track_pop : PySem.W.keepIn K (.ref f_Track_pop) = true)
    (a_Track_run : PySem.W.findIn K (.ref C_Track) "run" = some (some (.ref f_Track_run)))
    (i_Track_run : PySem.W.isFn K (.ref f_Track_run) = true)
    (l_Track_run : K.lookup f_Track_run = some ⟨oc_Track_run, od_Track_run, .func (PySem.W.fnOf "run" "Track.run" (defArgs st_Track_run) (defBody st_Track_run) (defScope st_Track_run) .none kV_Track_run dc_Track_run pm_Track_run an_Track_run cd_Track_run ct_Track_run), sl_Track_run⟩)
    (c_Track_run : PySem.W.codeIn K cd_Track_run "Track.run" = true)
    (k_Track_run : PySem.W.keepIn K (.ref f_Track_run) = true)
    (a_tracked : PySem.W.nsIn K mainGlobals "tracked" = some (some (.ref f_tracked)))
    (l_tracked : K.lookup f_tracked = some ⟨oc_tracked, od_tracked, .func (PySem.W.fnOf "tracked" "tracked" (defArgs st_tracked) (defBody st_tracked) (defScope st_tracked) .none kV_tracked dc_tracked pm_tracked an_tracked cd_tracked ct_tracked), sl_tracked⟩)
    (c_tracked : PySem.W.codeIn K cd_tracked "tracked" = true)
    (k_tracked : PySem.W.keepIn K (.ref f_tracked) = true)
    (a_moves : PySem.W.nsIn K mainGlobals "moves" = some (some (.ref f_moves)))
    (l_moves : K.lookup f_moves = some ⟨oc_moves, od_moves, .func (PySem.W.fnOf "moves" "moves" (defArgs st_moves) (defBody st_moves) (defScope st_moves) .none kV_moves dc_moves pm_moves an_moves cd_moves ct_moves), sl_moves⟩)
    (c_moves : PySem.W.codeIn K cd_moves "moves" = true)
    (k_moves : PySem.W.keepIn K (.ref f_moves) = true)
    (a_law_draws : PySem.W.nsIn K mainGlobals "_law_draws" = some (some (.ref f_law_draws)))
    (l_law_draws : K.lookup f_law_draws = some ⟨oc_law_draws, od_law_draws, .func (PySem.W.fnOf "_law_draws" "_law_draws" (defArgs st_law_draws) (defBody st_law_draws) (defScope st_law_draws) .none kV_law_draws dc_law_draws pm_law_draws an_law_draws cd_law_draws ct_law_draws), sl_law_draws⟩)
    (c_law_draws : PySem.W.codeIn K cd_law_draws "_law_draws" = true)
    (k_law_draws : PySem.W.keepIn K (.ref f_law_draws) = true)
    (a_law_below : PySem.W.nsIn K mainGlobals "_law_below" = some (some (.ref f_law_below)))
    (l_law_below : K.lookup f_law_below = some ⟨oc_law_below, od_law_below, .func (PySem.W.fnOf "_law_below" "_law_below" (defArgs st_law_below) (defBody st_law_below) (defScope st_law_below) .none kV_law_below dc_law_below pm_law_below an_law_below cd_law_below ct_law_below), sl_law_below⟩)
    (c_law_below : PySem.W.codeIn K cd_law_below "_law_below" = true)
    (k_law_below : PySem.W.keepIn K (.ref f_law_below) = true)
    (a_law_pick : PySem.W.nsIn K mainGlobals "_law_pick" = some (some (.ref f_law_pick)))
    (l_law_pick : K.lookup f_law_pick = some ⟨oc_law_pick, od_law_pick, .func (PySem.W.fnOf "_law_pick" "_law_pick" (defArgs st_law_pick) (defBody st_law_pick) (defScope st_law_pick) .none kV_law_pick dc_law_pick pm_law_pick an_law_pick cd_law_pick ct_law_pick), sl_law_pick⟩)
    (c_law_pick : PySem.W.codeIn K cd_law_pick "_law_pick" = true)
    (k_law_pick : PySem.W.keepIn K (.ref f_law_pick) = true)
    (a_law_policy : PySem.W.nsIn K mainGlobals "_law_policy" = some (some (.ref f_law_policy)))
    (l_law_policy : K.lookup f_law_policy = some ⟨oc_law_policy, od_law_policy, .func (PySem.W.fnOf "_law_policy" "_law_policy" (defArgs st_law_policy) (defBody st_law_policy) (defScope st_law_policy) .none kV_law_policy dc_law_policy pm_law_policy an_law_policy cd_law_policy ct_law_policy), sl_law_policy⟩)
    (c_law_policy : PySem.W.codeIn K cd_law_policy "_law_policy" = true)
    (k_law_policy : PySem.W.keepIn K (.ref f_law_policy) = true)
    (a_law_pushed : PySem.W.nsIn K mainGlobals "_law_pushed" = some (some (.ref f_law_pushed)))
    (l_law_pushed : K.lookup f_law_pushed = some ⟨oc_law_pushed, od_law_pushed, .func (PySem.W.fnOf "_law_pushed" "_law_pushed" (defArgs st_law_pushed) (defBody st_law_pushed) (defScope st_law_pushed) .none kV_law_pushed dc_law_pushed pm_law_pushed an_law_pushed cd_law_pushed ct_law_pushed), sl_law_pushed⟩)
    (c_law_pushed : PySem.W.codeIn K cd_law_pushed "_law_pushed" = true)
    (k_law_pushed : PySem.W.keepIn K (.ref f_law_pushed) = true)
    (a_law_popped : PySem.W.nsIn K mainGlobals "_law_popped" = some (some (.ref f_law_popped)))
    (l_law_popped : K.lookup f_law_popped = some ⟨oc_law_popped, od_law_popped, .func (PySem.W.fnOf "_law_popped" "_law_popped" (defArgs st_law_popped) (defBody st_law_popped) (defScope st_law_popped) .none kV_law_popped dc_law_popped pm_law_popped an_law_popped cd_law_popped ct_law_popped), sl_law_popped⟩)
    (c_law_popped : PySem.W.codeIn K cd_law_popped "_law_popped" = true)
    (k_law_popped : PySem.W.keepIn K (.ref f_law_popped) = true)
    (a_law_states : PySem.W.nsIn K mainGlobals "_law_states" = some (some (.ref f_law_states)))
    (l_law_states : K.lookup f_law_states = some ⟨oc_law_states, od_law_states, .func (PySem.W.fnOf "_law_states" "_law_states" (defArgs st_law_states) (defBody st_law_states) (defScope st_law_states) .none kV_law_states dc_law_states pm_law_states an_law_states cd_law_states ct_law_states), sl_law_states⟩)
    (c_law_states : PySem.W.codeIn K cd_law_states "_law_states" = true)
    (k_law_states : PySem.W.keepIn K (.ref f_law_states) = true)
    (a_law_pairs : PySem.W.nsIn K mainGlobals "_law_pairs" = some (some (.ref f_law_pairs)))
    (l_law_pairs : K.lookup f_law_pairs = some ⟨oc_law_pairs, od_law_pairs, .func (PySem.W.fnOf "_law_pairs" "_law_pairs" (defArgs st_law_pairs) (defBody st_law_pairs) (defScope st_law_pairs) .none kV_law_pairs dc_law_pairs pm_law_pairs an_law_pairs cd_law_pairs ct_law_pairs), sl_law_pairs⟩)
    (c_law_pairs : PySem.W.codeIn K cd_law_pairs "_law_pairs" = true)
    (k_law_pairs : PySem.W.keepIn K (.ref f_law_pairs) = true)
    (a_law_fitting : PySem.W.nsIn K mainGlobals "_law_fitting" = some (some (.ref f_law_fitting)))
    (l_law_fitting : K.lookup f_law_fitting = some ⟨oc_law_fitting, od_law_fitting, .func (PySem.W.fnOf "_law_fitting" "_law_fitting" (defArgs st_law_fitting) (defBody st_law_fitting) (defScope st_law_fitting) .none kV_law_fitting dc_law_fitting pm_law_fitting an_law_fitting cd_law_fitting ct_law_fitting), sl_law_fitting⟩)
    (c_law_fitting : PySem.W.codeIn K cd_law_fitting "_law_fitting" = true)
    (k_law_fitting : PySem.W.keepIn K (.ref f_law_fitting) = true)
    (a_law_moves : PySem.W.nsIn K mainGlobals "_law_moves" = some (some (.ref f_law_moves)))
    (l_law_moves : K.lookup f_law_moves = some ⟨oc_law_moves, od_law_moves, .func (PySem.W.fnOf "_law_moves" "_law_moves" (defArgs st_law_moves) (defBody st_law_moves) (defScope st_law_moves) .none kV_law_moves dc_law_moves pm_law_moves an_law_moves cd_law_moves ct_law_moves), sl_law_moves⟩)
    (c_law_moves : PySem.W.codeIn K cd_law_moves "_law_moves" = true)
    (k_law_moves : PySem.W.keepIn K (.ref f_law_moves) = true)
    (a_law : PySem.W.nsIn K mainGlobals "law" = some (some (.ref f_law)))
    (l_law : K.lookup f_law = some ⟨oc_law, od_law, .func (PySem.W.fnOf "law" "law" (defArgs st_law) (defBody st_law) (defScope st_law) .none kV_law dc_law pm_law an_law cd_law ct_law), sl_law⟩)
    (c_law : PySem.W.codeIn K cd_law "law" = true)
    (k_law : PySem.W.keepIn K (.ref f_law) = true)
    (pg_Track : PySem.W.plainGet K C_Track Str.empty = true)
    (hd_Track : PySem.W.hasDictIn K C_Track = true)
    (po_Track : PySem.W.plainOver K C_Track = true)
    (sa_Track : PySem.W.findIn K (.ref C_Track) "__setattr__" = some (some (.builtin "object.__setattr__")))
    (mk_Track : PySem.W.makesIn K C_Track = true)
    (kc_Track : PySem.W.keepIn K (.ref C_Track) = true)
    (n_Track_at_level : PySem.W.findIn K (.ref C_Track) "at_level" = some none)
    (n_Track_at_size : PySem.W.findIn K (.ref C_Track) "at_size" = some none)
    (n_Track_done : PySem.W.findIn K (.ref C_Track) "done" = some none)
    (n_Track_fixed : PySem.W.findIn K (.ref C_Track) "fixed" = some none)
    (n_Track_most : PySem.W.findIn K (.ref C_Track) "most" = some none)
    (n_Track_paid : PySem.W.findIn K (.ref C_Track) "paid" = some none)
    (n_Track_places : PySem.W.findIn K (.ref C_Track) "places" = some none)
    (z_abs : PySem.W.nsIn K mainGlobals "abs" = some none)
    (z_all : PySem.W.nsIn K mainGlobals "all" = some none)
    (z_bool : PySem.W.nsIn K mainGlobals "bool" = some none)
    (z_enumerate : PySem.W.nsIn K mainGlobals "enumerate" = some none)
    (z_int : PySem.W.nsIn K mainGlobals "int" = some none)
    (z_isinstance : PySem.W.nsIn K mainGlobals "isinstance" = some none)
    (z_len : PySem.W.nsIn K mainGlobals "len" = some none)
    (z_list : PySem.W.nsIn K mainGlobals "list" = some none)
    (z_max : PySem.W.nsIn K mainGlobals "max" = some none)
    (z_min : PySem.W.nsIn K mainGlobals "min" = some none)
    (z_range : PySem.W.nsIn K mainGlobals "range" = some none)
    (z_repr : PySem.W.nsIn K mainGlobals "repr" = some none)
    (z_str : PySem.W.nsIn K mainGlobals "str" = some none)
    (z_tuple : PySem.W.nsIn K mainGlobals "tuple" = some none)
    (z_zip : PySem.W.nsIn K mainGlobals "zip" = some none)
    (q_GROW : PySem.W.nsIn K mainGlobals "GROW" = some (some (.str "grow" t_GROW)))
    (q_MOST_COUNT : PySem.W.nsIn K mainGlobals "MOST_COUNT" = some (some (.int 1000000000000000000 t_MOST_COUNT)))
    (q_MOST_PAIRS : PySem.W.nsIn K mainGlobals "MOST_PAIRS" = some (some (.int 200 t_MOST_PAIRS)))
    (q_PAIR : PySem.W.nsIn K mainGlobals "PAIR" = some (some (.int 2 t_PAIR)))
    (q_POP : PySem.W.nsIn K mainGlobals "POP" = some (some (.str "pop" t_POP)))
    (q_PUSH : PySem.W.nsIn K mainGlobals "PUSH" = some (some (.str "push" t_PUSH)))
    (q_SHRINK : PySem.W.nsIn K mainGlobals "SHRINK" = some (some (.str "shrink" t_SHRINK))) :
    ∃ (fd : FuncData) (z : Ad), (clsA z).T = [] ∧ (∀ (s : Shared) (v : Value), BindsTo s fd ⟨[v], []⟩ [("_law_script", v)]) ∧ ∀ base : Heap, K.In base → base.Ns mainGlobals mg → FnG true l.prog w K mg base (L2.CX l.prog w) 10 fa fd ["_law_script"] (spM ⟨K, clsA z⟩ (fs1 t_law)) := by
  have e := hfa.symm.trans (PySem.W.mg_of X G0 a_law)
  cases e
  have F_is_integer := fun_mk (st := st_is_integer) l_is_integer c_is_integer k_is_integer
  have B_is_integer := F_is_integer.binds (ps := ["value", "least", "most"]) fun _ _ _ _ _ _ us hl => match us, hl with | [_, _, _], _ => rfl
  have F_top_level := fun_mk (st := st_top_level) l_top_level c_top_level k_top_level
  have B_top_level := F_top_level.binds (ps := ["policy"]) fun _ _ _ _ _ _ us hl => match us, hl with | [_], _ => rfl
  have F_capacity_of := fun_mk (st := st_capacity_of) l_capacity_of c_capacity_of k_capacity_of
  have B_capacity_of := F_capacity_of.binds (ps := ["policy", "level"]) fun _ _ _ _ _ _ us hl => match us, hl with | [_, _], _ => rfl
  have F_boundaries := fun_mk (st := st_boundaries) l_boundaries c_boundaries k_boundaries
  have B_boundaries := F_boundaries.binds (ps := ["policy"]) fun _ _ _ _ _ _ us hl => match us, hl with | [_], _ => rfl
  have F_is_run := fun_mk (st := st_is_run) l_is_run c_is_run k_is_run
  have B_is_run := F_is_run.binds (ps := ["value"]) fun _ _ _ _ _ _ us hl => match us, hl with | [_], _ => rfl
  have F_are_operations := fun_mk (st := st_are_operations) l_are_operations c_are_operations k_are_operations
  have B_are_operations := F_are_operations.binds (ps := ["value"]) fun _ _ _ _ _ _ us hl => match us, hl with | [_], _ => rfl
  have F_check_operations := fun_mk (st := st_check_operations) l_check_operations c_check_operations k_check_operations
  have B_check_operations := F_check_operations.binds (ps := ["value"]) fun _ _ _ _ _ _ us hl => match us, hl with | [_], _ => rfl
  have F_Track___init__ := fun_mk (st := st_Track___init__) l_Track___init__ c_Track___init__ k_Track___init__
  have B_Track___init__ := F_Track___init__.binds (ps := ["self", "policy", "state"]) fun _ _ _ _ _ _ us hl => match us, hl with | [_, _, _], _ => rfl
  have F_Track_move := fun_mk (st := st_Track_move) l_Track_move c_Track_move k_Track_move
  have B_Track_move := F_Track_move.binds (ps := ["self", "size", "by"]) fun _ _ _ _ _ _ us hl => match us, hl with | [_, _, _], _ => rfl
  have F_Track_rest := fun_mk (st := st_Track_rest) l_Track_rest c_Track_rest k_Track_rest
  have B_Track_rest := F_Track_rest.binds (ps := ["self", "size"]) fun _ _ _ _ _ _ us hl => match us, hl with | [_, _], _ => rfl
  have F_Track_push := fun_mk (st := st_Track_push) l_Track_push c_Track_push k_Track_push
  have B_Track_push := F_Track_push.binds (ps := ["self", "count"]) fun _ _ _ _ _ _ us hl => match us, hl with | [_, _], _ => rfl
  have F_Track_pop := fun_mk (st := st_Track_pop) l_Track_pop c_Track_pop k_Track_pop
  have B_Track_pop := F_Track_pop.binds (ps := ["self", "count"]) fun _ _ _ _ _ _ us hl => match us, hl with | [_, _], _ => rfl
  have F_Track_run := fun_mk (st := st_Track_run) l_Track_run c_Track_run k_Track_run
  have B_Track_run := F_Track_run.binds (ps := ["self", "word", "count"]) fun _ _ _ _ _ _ us hl => match us, hl with | [_, _, _], _ => rfl
  have F_tracked := fun_mk (st := st_tracked) l_tracked c_tracked k_tracked
  have B_tracked := F_tracked.binds (ps := ["policy", "state", "operations"]) fun _ _ _ _ _ _ us hl => match us, hl with | [_, _, _], _ => rfl
  have F_moves := fun_mk (st := st_moves) l_moves c_moves k_moves
  have B_moves := F_moves.binds (ps := ["policy", "state", "operations"]) fun _ _ _ _ _ _ us hl => match us, hl with | [_, _, _], _ => rfl
  have F_law_draws := fun_mk (st := st_law_draws) l_law_draws c_law_draws k_law_draws
  have B_law_draws := F_law_draws.binds (ps := ["_law_script", "_law_k"]) fun _ _ _ _ _ _ us hl => match us, hl with | [_, _], _ => rfl
  have F_law_below := fun_mk (st := st_law_below) l_law_below c_law_below k_law_below
  have B_law_below := F_law_below.binds (ps := ["_law_draws_here", "_law_many"]) fun _ _ _ _ _ _ us hl => match us, hl with | [_, _], _ => rfl
  have F_law_pick := fun_mk (st := st_law_pick) l_law_pick c_law_pick k_law_pick
  have B_law_pick := F_law_pick.binds (ps := ["_law_draws_here", "_law_items"]) fun _ _ _ _ _ _ us hl => match us, hl with | [_, _], _ => rfl
  have F_law_policy := fun_mk (st := st_law_policy) l_law_policy c_law_policy k_law_policy
  have B_law_policy := F_law_policy.binds (ps := ["_law_draws_here", "_law_levels", "_law_step"]) fun _ _ _ _ _ _ us hl => match us, hl with | [_, _, _], _ => rfl
  have F_law_pushed := fun_mk (st := st_law_pushed) l_law_pushed c_law_pushed k_law_pushed
  have B_law_pushed := F_law_pushed.binds (ps := ["_law_policy_here", "_law_level", "_law_size"]) fun _ _ _ _ _ _ us hl => match us, hl with | [_, _, _], _ => rfl
  have F_law_popped := fun_mk (st := st_law_popped) l_law_popped c_law_popped k_law_popped
  have B_law_popped := F_law_popped.binds (ps := ["_law_policy_here", "_law_level", "_law_size"]) fun _ _ _ _ _ _ us hl => match us, hl with | [_, _, _], _ => rfl
  have F_law_states := fun_mk (st := st_law_states) l_law_states c_law_states k_law_states
  have B_law_states := F_law_states.binds (ps := ["_law_policy_here"]) fun _ _ _ _ _ _ us hl => match us, hl with | [_], _ => rfl
  have F_law_pairs := fun_mk (st := st_law_pairs) l_law_pairs c_law_pairs k_law_pairs
  have B_law_pairs := F_law_pairs.binds (ps := ["_law_draws_here", "_law_most", "_law_longest"]) fun _ _ _ _ _ _ us hl => match us, hl with | [_, _, _], _ => rfl
  have F_law_fitting := fun_mk (st := st_law_fitting) l_law_fitting c_law_fitting k_law_fitting
  have B_law_fitting := F_law_fitting.binds (ps := ["_law_draws_here", "_law_policy_here", "_law_level", "_law_size", "_law_most", "_law_longest"]) fun _ _ _ _ _ _ us hl => match us, hl with | [_, _, _, _, _, _], _ => rfl
  have F_law_moves := fun_mk (st := st_law_moves) l_law_moves c_law_moves k_law_moves
  have B_law_moves := F_law_moves.binds (ps := ["_law_policy_here", "_law_level", "_law_size", "_law_pairs_here"]) fun _ _ _ _ _ _ us hl => match us, hl with | [_, _, _, _], _ => rfl
  have F_law := fun_mk (st := st_law) l_law c_law k_law
  have B_law := F_law.binds (ps := ["_law_script"]) fun _ _ _ _ _ _ us hl => match us, hl with | [_], _ => rfl
  have T : ∀ base : Heap, (∀ t ∈ ([] : List (Str × Addr × Addr)), LamX.TabB base mg t.2.1 t.2.2) → Txt K mg ⟨f_is_integer, _, f_top_level, _, f_capacity_of, _, f_boundaries, _, f_is_run, _, f_are_operations, _, f_check_operations, _, f_Track___init__, _, f_Track_move, _, f_Track_rest, _, f_Track_push, _, f_Track_pop, _, f_Track_run, _, f_tracked, _, f_moves, _, f_law_draws, _, f_law_below, _, f_law_pick, _, f_law_policy, _, f_law_pushed, _, f_law_popped, _, f_law_states, _, f_law_pairs, _, f_law_fitting, _, f_law_moves, _, fa, _, C_Track, t_GROW, t_MOST_COUNT, t_MOST_PAIRS, t_PAIR, t_POP, t_PUSH, t_SHRINK⟩ base := fun base hbt => ⟨F_is_integer, B_is_integer, PySem.W.mg_of X G0 a_is_integer, F_top_level, B_top_level, PySem.W.mg_of X G0 a_top_level, F_capacity_of, B_capacity_of, PySem.W.mg_of X G0 a_capacity_of, F_boundaries, B_boundaries, PySem.W.mg_of X G0 a_boundaries, F_is_run, B_is_run, PySem.W.mg_of X G0 a_is_run, F_are_operations, B_are_operations, PySem.W.mg_of X G0 a_are_operations, F_check_operations, B_check_operations, PySem.W.mg_of X G0 a_check_operations, F_Track___init__, B_Track___init__, F_Track_move, B_Track_move, ⟨a_Track_move, i_Track_move, k_Track_move⟩, F_Track_rest, B_Track_rest, ⟨a_Track_rest, i_Track_rest, k_Track_rest⟩, F_Track_push, B_Track_push, ⟨a_Track_push, i_Track_push, k_Track_push⟩, F_Track_pop, B_Track_pop, ⟨a_Track_pop, i_Track_pop, k_Track_pop⟩, F_Track_run, B_Track_run, ⟨a_Track_run, i_Track_run, k_Track_run⟩, F_tracked, B_tracked, PySem.W.mg_of X G0 a_tracked, F_moves, B_moves, PySem.W.mg_of X G0 a_moves, F_law_draws, B_law_draws, PySem.W.mg_of X G0 a_law_draws, F_law_below, B_law_below, PySem.W.mg_of X G0 a_law_below, F_law_pick, B_law_pick, PySem.W.mg_of X G0 a_law_pick, F_law_policy, B_law_policy, PySem.W.mg_of X G0 a_law_policy, F_law_pushed, B_law_pushed, PySem.W.mg_of X G0 a_law_pushed, F_law_popped, B_law_popped, PySem.W.mg_of X G0 a_law_popped, F_law_states, B_law_states, PySem.W.mg_of X G0 a_law_states, F_law_pairs, B_law_pairs, PySem.W.mg_of X G0 a_law_pairs, F_law_fitting, B_law_fitting, PySem.W.mg_of X G0 a_law_fitting, F_law_moves, B_law_moves, PySem.W.mg_of X G0 a_law_moves, F_law, B_law, PySem.W.mg_of X G0 a_law, ⟨pg_Track, hd_Track, po_Track, sa_Track⟩, PySem.W.mg_of X G0 gc_Track, ⟨mk_Track, a_Track___init__, i_Track___init__, kc_Track⟩, n_Track_at_level, n_Track_at_size, n_Track_done, n_Track_fixed, n_Track_most, n_Track_paid, n_Track_places, PySem.W.mg_none_of X G0 z_abs, PySem.W.mg_none_of X G0 z_all, PySem.W.mg_none_of X G0 z_bool, PySem.W.mg_none_of X G0 z_enumerate, PySem.W.mg_none_of X G0 z_int, PySem.W.mg_none_of X G0 z_isinstance, PySem.W.mg_none_of X G0 z_len, PySem.W.mg_none_of X G0 z_list, PySem.W.mg_none_of X G0 z_max, PySem.W.mg_none_of X G0 z_min, PySem.W.mg_none_of X G0 z_range, PySem.W.mg_none_of X G0 z_repr, PySem.W.mg_none_of X G0 z_str, PySem.W.mg_none_of X G0 z_tuple, PySem.W.mg_none_of X G0 z_zip, PySem.W.mg_of X G0 q_GROW, PySem.W.mg_of X G0 q_MOST_COUNT, PySem.W.mg_of X G0 q_MOST_PAIRS, PySem.W.mg_of X G0 q_PAIR, PySem.W.mg_of X G0 q_POP, PySem.W.mg_of X G0 q_PUSH, PySem.W.mg_of X G0 q_SHRINK⟩
  exact ⟨_, _, rfl, fun s v => .of_eq rfl, fun base _ _ => o_law (T base (fun _ h => nomatch h))⟩
end G.K08
namespace G
open PySem
def wp {α : Type} (t : M α) (m : Hs) (Q : α → Hs → Prop) : Prop := match t m with
  | .ok a m' => Q a m'
  | _ => False
section
variable {α β γ : Type} {m : Hs} {Q : α → Hs → Prop} {A B C : Type}
theorem wp_imp {t : M α} {Q' : α → Hs → Prop} (h : wp t m Q) (k : ∀ a m', Q a m' → Q' a m') : wp t m Q' := by
  unfold wp at *
  split at h
  · exact k _ _ h
  · exact h.elim
theorem wp_iff_ok {t : M α} : wp t m Q ↔ ∃ a m', t m = .ok a m' ∧ Q a m' := by
  unfold wp
  constructor
  · intro h
    split at h
    · rename_i a m' e
      exact ⟨a, m', e, h⟩
    · exact h.elim
  · rintro ⟨a, m', e, h⟩
    rw [e]
    exact h
theorem wp_ret {a : α} : wp (ret a) m Q = Q a m := id rfl
theorem wp_bad : wp (bad : M α) m Q = False := id rfl
theorem Zax {t : M β} {f : β → M α} : wp (bnd t f) m Q = wp t m fun b m' => wp (f b) m' Q := by
  unfold wp bnd
  cases t m <;> rfl
theorem wp_opt {o : Option α} : wp (opt o) m Q = ∃ a, o = some a ∧ Q a m := by
  cases o with
  | none => simp [opt, wp_bad]
  | some a => simp [opt, wp_ret]
theorem wp_ask {f : Hs → Option α} : wp (ask f) m Q = ∃ a, f m = some a ∧ Q a m := by
  unfold wp ask
  cases f m with
  | none => simp
  | some a => simp
theorem wp_put {f : Hs → Option Hs} {R : Unit → Hs → Prop} : wp (put f) m R = ∃ m', f m = some m' ∧ R () m' := by
  unfold wp put
  cases f m with
  | none => simp
  | some a => simp
theorem wp_ite {c : Prop} [Decidable c] {t u : M α} : wp (if c then t else u) m Q = if c then wp t m Q else wp u m Q := by split <;> rfl
theorem wp_gd {c : Prop} [Decidable c] {t : M α} : wp (if c then t else bad) m Q = (c ∧ wp t m Q) := by
  by_cases h : c
  · simp [h]
  · simp [h, wp_bad]
theorem wp_nxt {a : A} {R : Fl A B → Hs → Prop} : wp (nxt a) m R = R (.nx a) m := id rfl
theorem wp_brk {b : B} {R : Fl A B → Hs → Prop} : wp (brk b) m R = R (.bk b) m := id rfl
theorem wp_cnt {b : B} {R : Fl A B → Hs → Prop} : wp (cnt b) m R = R (.ct b) m := id rfl
theorem wp_rtn {t : M D} {R : Fl A B → Hs → Prop} : wp (rtn t) m R = wp t m fun d m' => R (.rt d) m' := by
  unfold rtn
  rw [Zax]
  rfl
theorem wp_seq {t : M (Fl A B)} {f : A → M (Fl C B)} {R : Fl C B → Hs → Prop} : wp (seq t f) m R = wp t m fun fl m' => wp (goOn f fl) m' R := Zax
theorem wp_iff {c : M D} {t u : M (Fl A B)} {R : Fl A B → Hs → Prop} : wp (iff c t u) m R = wp c m fun x m1 => wp (tru x) m1 fun k m2 => if k = true then wp t m2 R else wp u m2 R := by
  unfold iff
  rw [Zax]
  congr 1
  funext x m1
  rw [Zax]
  congr 1
  funext k m2
  rw [wp_ite]
theorem wp_fnM {t : M (Fl Unit Empty)} {R : D → Hs → Prop} : wp (fnM t) m R = wp t m fun fl m' => wp (fnE fl) m' R := Zax
end
section
variable {m : Hs} {Q : D → Hs → Prop} {a b c : M D} {x y : D}
theorem wp_binM {o : Op} : wp (binM o a b) m Q = wp a m fun x m1 => wp b m1 fun y m2 => wp (binS o x y) m2 Q := by
  unfold binM
  rw [Zax]
  congr 1
  funext x m1
  rw [Zax]
theorem wp_cmpM {o : Cp} : wp (cmpM o a b) m Q = wp a m fun x m1 => wp b m1 fun y m2 => wp (cmpS o x y) m2 Q := by
  unfold cmpM
  rw [Zax]
  congr 1
  funext x m1
  rw [Zax]
theorem wp_idxM : wp (idxM a b) m Q = wp a m fun x m1 => wp b m1 fun y m2 => wp (idxS x y) m2 Q := by
  unfold idxM
  rw [Zax]
  congr 1
  funext x m1
  rw [Zax]
theorem wp_negM : wp (negM a) m Q = wp a m fun x m1 => wp (negS x) m1 Q := Zax
theorem wp_notM : wp (notM a) m Q = wp a m fun x m1 => wp (tru x) m1 fun k m2 => Q (.bl (!k)) m2 := by
  unfold notM
  rw [Zax]
  congr 1
  funext x m1
  rw [Zax]
  rfl
theorem wp_andM : wp (andM a b) m Q = wp a m fun x m1 => wp (tru x) m1 fun k m2 => if k = true then wp b m2 Q else Q x m2 := by
  unfold andM
  rw [Zax]
  congr 1
  funext x m1
  rw [Zax]
  congr 1
  funext k m2
  rw [wp_ite]
  rfl
theorem wp_orM : wp (orM a b) m Q = wp a m fun x m1 => wp (tru x) m1 fun k m2 => if k = true then Q x m2 else wp b m2 Q := by
  unfold orM
  rw [Zax]
  congr 1
  funext x m1
  rw [Zax]
  congr 1
  funext k m2
  rw [wp_ite]
  rfl
theorem wp_iteM : wp (iteM c a b) m Q = wp c m fun x m1 => wp (tru x) m1 fun k m2 => if k = true then wp a m2 Q else wp b m2 Q := by
  unfold iteM
  rw [Zax]
  congr 1
  funext x m1
  rw [Zax]
  congr 1
  funext k m2
  rw [wp_ite]
theorem wp_chnS {k : Bool} : wp (chnS (.bl k) a b) m Q = if k = true then wp a m Q else wp b m Q := by cases k <;> rfl
theorem wp_chnM {o p : Cp} : wp (chnM o p a b c) m Q = wp a m fun x m1 => wp b m1 fun y m2 => wp (cmpS o x y) m2 fun z m3 => wp (chnS z (bnd c fun w => cmpS p y w) (ret (.bl false))) m3 Q := by
  unfold chnM
  rw [Zax]
  congr 1
  funext x m1
  rw [Zax]
  congr 1
  funext y m2
  rw [Zax]
theorem wp_ls0 {R : List D → Hs → Prop} : wp (lsM []) m R = R [] m := id rfl
theorem wp_ls1 {ts : List (M D)} {R : List D → Hs → Prop} : wp (lsM (a :: ts)) m R = wp a m fun x m1 => wp (lsM ts) m1 fun xs m2 => R (x :: xs) m2 := by
  show wp (bnd a fun x => bnd (lsM ts) fun xs => ret (x :: xs)) m R = _
  rw [Zax]
  congr 1
  funext x m1
  rw [Zax]
  rfl
theorem wp_tupM {t : M (List D)} : wp (tupM t) m Q = wp t m fun xs m1 => xs.length ≤ sizeLine ∧ Q (.tup xs) m1 := by
  unfold tupM
  rw [Zax]
  congr 1
  funext xs m1
  rw [wp_gd]
  rfl
theorem wp_lstM {t : M (List D)} : wp (lstM t) m Q = wp t m fun xs m1 => xs.length ≤ sizeLine ∧ Q (.fl xs) m1 := by
  unfold lstM
  rw [Zax]
  congr 1
  funext xs m1
  rw [wp_gd]
  rfl
theorem wp_lshM {t : M (List D)} : wp (lshM t) m Q = wp t m fun xs m1 => xs.length ≤ sizeLine ∧ Q (.ref m1.length) (m1 ++ [.lst xs]) := by
  unfold lshM
  rw [Zax]
  congr 1
  funext xs m1
  rw [wp_gd]
  rfl
theorem wp_ownM {t : M (List D)} {R : List D → Hs → Prop} : wp (ownM t) m R = wp t m fun xs m1 => xs.length ≤ sizeLine ∧ R xs m1 := by
  unfold ownM
  rw [Zax]
  congr 1
  funext xs m1
  rw [wp_gd]
  rfl
theorem wp_idxL {xs : List D} : wp (idxL xs a) m Q = wp a m fun y m1 => wp (idlS xs y) m1 Q := Zax
theorem wp_slcM {l h : M (Option Int)} : wp (slcM a l h) m Q = wp a m fun x m1 => wp l m1 fun l' m2 => wp h m2 fun h' m3 => wp (slcS x l' h') m3 Q := by
  unfold slcM
  rw [Zax]
  congr 1
  funext x m1
  rw [Zax]
  congr 1
  funext y m2
  rw [Zax]
theorem wp_noP {R : Option Int → Hs → Prop} : wp noP m R = R none m := id rfl
theorem wp_soP {R : Option Int → Hs → Prop} : wp (soP a) m R = wp a m fun x m1 => wp (soS x) m1 R := Zax
theorem wp_calM {f : List D → M D} {t : M (List D)} : wp (calM f t) m Q = wp t m fun xs m1 => wp (f xs) m1 Q := Zax
variable {i j : Int}
theorem o_mul : binS .mul (.int i) (.int j) = if i.natAbs.log2 + j.natAbs.log2 < 1000000 then ret (.int (i * j)) else bad := rfl
theorem o_fdiv : binS .fdiv (.int i) (.int j) = if 0 < j ∧ j.natAbs.log2 < 9000 then ret (.int (i / j)) else bad := rfl
theorem o_mod : binS .mod (.int i) (.int j) = if 0 < j then ret (.int (i % j)) else bad := rfl
theorem o_pow : binS .pow (.int i) (.int j) = if 0 ≤ j ∧ (i.natAbs.log2 + 1) * j.toNat ≤ 134217728 then ret (.int (i ^ j.toNat)) else bad := rfl
theorem o_shl : binS .shl (.int i) (.int j) = if 0 ≤ j ∧ j ≤ 1000000 ∧ i.natAbs < 18446744073709551616 then ret (.int (i * 2 ^ j.toNat)) else bad := rfl
theorem o_addT {xs ys : List D} : binS .add (.tup xs) (.tup ys) = if xs.length + ys.length ≤ sizeLine then ret (.tup (xs ++ ys)) else bad := rfl
theorem o_addL {xs ys : List D} : binS .add (.fl xs) (.fl ys) = if xs.length + ys.length ≤ sizeLine then ret (.fl (xs ++ ys)) else bad := by
  funext m
  show (if xs.length + ys.length ≤ sizeLine then Rs.ok (D.fl (xs ++ ys)) m else .bad) = _
  split <;> rfl
theorem eqS_int : eqS (.int i) (.int j) m = some (i == j) := by
  simp only [eqS, eqP, pyD]
  rfl
theorem q_eq : cmpS .eq (.int i) (.int j) = ret (.bl (i == j)) := by
  funext m
  show bnd (ask (eqS (.int i) (.int j))) (fun b => ret (D.bl b)) m = _
  simp only [bnd, ask, eqS_int]
  rfl
theorem q_ne : cmpS .ne (.int i) (.int j) = ret (.bl (!(i == j))) := by
  funext m
  show bnd (ask (eqS (.int i) (.int j))) (fun b => ret (D.bl (!b))) m = _
  simp only [bnd, ask, eqS_int]
  rfl
theorem ix_r {n : Nat} : wp (idxS (.ref n) (.int i)) m Q = ∃ xs, m[n]? = some (.lst xs) ∧ ∃ d, atD xs i = some d ∧ Q d m := by
  show wp (bnd (ask (itemsOf (.ref n))) fun xs => opt (atD xs i)) m Q = _
  rw [Zax, wp_ask]
  simp only [itemsOf, wp_opt]
  cases hm : m[n]? with
  | none => simp
  | some o =>
    cases o with
    | ins c fs => simp
    | exc c fs => simp
    | dct _ _ => simp
    | sd _ _ => simp
    | zd _ _ => simp
    | lst xs => simp
theorem at_nat {xs : List D} {k : Nat} : atD xs (k : Int) = xs[k]? := by
  unfold atD ixD
  rw [if_pos (Int.natCast_nonneg k)]
  by_cases h : (k : Int) < xs.length
  · rw [if_pos h]; simp
  · rw [if_neg h, List.getElem?_eq_none (by omega)]; rfl
theorem at_0 {x : D} {xs : List D} : atD (x :: xs) 0 = some x := at_nat (k := 0)
theorem at_1 {x0 x1 : D} {xs : List D} : atD (x0 :: x1 :: xs) 1 = some x1 := at_nat (k := 1)
theorem at_2 {x0 x1 x2 : D} {xs : List D} : atD (x0 :: x1 :: x2 :: xs) 2 = some x2 := at_nat (k := 2)
theorem at_3 {x0 x1 x2 x3 : D} {xs : List D} : atD (x0 :: x1 :: x2 :: x3 :: xs) 3 = some x3 := at_nat (k := 3)
theorem at_last {xs : List D} {x : D} : atD (xs ++ [x]) (-1) = some x := by
  unfold atD ixD
  rw [if_neg (by decide), if_pos (by simp; omega)]
  have e : ((-1 : Int) + ((xs ++ [x]).length : Int)).toNat = xs.length := by simp; omega
  rw [e]
  simp
theorem un3_t {β : Type} {a b c : D} {k : D → D → D → M β} : un3 (.tup [a, b, c]) k = k a b c := rfl
theorem sumI_map : ∀ ns : List Int, sumI (ns.map D.int) = some ns.sum
  | [] => rfl
  | n :: ns => by simp [sumI, sumI_map ns]
theorem boolsOf_map : ∀ ns : List Bool, boolsOf (ns.map D.bl) = some ns
  | [] => rfl
  | n :: ns => by simp [boolsOf, boolsOf_map ns]
theorem f_sum {ns : List Int} : sumS [.fl (ns.map D.int)] = ret (.int ns.sum) := by
  show bnd (opt (sumI (ns.map D.int))) (fun k => ret (D.int k)) = _
  rw [sumI_map]
  rfl
theorem f_all {ns : List Bool} : allS [.fl (ns.map D.bl)] = ret (.bl (ns.all id)) := by
  show bnd (opt (boolsOf (ns.map D.bl))) (fun k => ret (D.bl (k.all id))) = _
  rw [boolsOf_map]
  rfl
theorem f_any {ns : List Bool} : anyS [.fl (ns.map D.bl)] = ret (.bl (ns.any id)) := by
  show bnd (opt (boolsOf (ns.map D.bl))) (fun k => ret (D.bl (k.any id))) = _
  rw [boolsOf_map]
  rfl
theorem wp_isiM {t : Ty} : wp (isiM t a) m Q = wp a m fun x m1 => wp (isiS t x) m1 Q := Zax
end
theorem stay_nil {α : Type} {f : Unit → M α} : bnd (stay []) f = f () := rfl
section
variable {A B : Type} {m : Hs}
theorem forL_wp {body : D → A → M (Fl A A)} {R : Fl A B → Hs → Prop} (I : List D → A → Hs → Prop)
    (step : ∀ x xs s m, I (x :: xs) s m → wp (body x s) m fun fl m' => match fl with
      | .nx s' => I xs s' m'
      | .ct s' => I xs s' m'
      | .bk s' => R (.nx s') m'
      | .rt d => R (.rt d) m')
    (done : ∀ s m, I [] s m → R (.nx s) m) : ∀ (xs : List D) (s : A) (m : Hs), I xs s m → wp (forL [] body xs s) m R
  | [], s, m, h => done s m h
  | x :: xs, s, m, h => by
    show wp (bnd (body x s) (turnF (forL [] body xs))) m R
    rw [Zax]
    refine wp_imp (step x xs s m h) fun fl m' q => ?_
    cases fl with
    | nx s' => exact forL_wp I step done xs s' m' q
    | ct s' => exact forL_wp I step done xs s' m' q
    | bk s' => exact q
    | rt d => exact q
theorem wp_forM {src : M Its} {s : A} {body : D → A → M (Fl A A)} {R : Fl A B → Hs → Prop} : wp (forM src s body) m R = wp src m fun z m' => wp (forL z.2 body z.1 s) m' R := Zax
theorem wp_seqI {a : M D} {R : Its → Hs → Prop} : wp (seqI a) m R = wp a m fun x m1 => wp (ask (guardOf x)) m1 R := Zax
theorem wp_rng1 {a : M D} {R : Its → Hs → Prop} : wp (rng1I a) m R = wp a m fun x m1 => wp (rng1S x) m1 R := Zax
theorem rng1_int {n : Int} {R : Its → Hs → Prop} : wp (rng1S (.int n)) m R = ((-(2 ^ 62) ≤ n ∧ n < 2 ^ 62) ∧ R (rngL 0 n.toNat, []) m) := by
  show wp (if -(2 ^ 62) ≤ n ∧ n < 2 ^ 62 then ret (rngL 0 n.toNat, ([] : List (Nat × List D))) else bad) m R = _
  rw [wp_gd, wp_ret]
theorem wp_rng2 {a b : M D} {R : Its → Hs → Prop} : wp (rng2I a b) m R = wp a m fun x m1 => wp b m1 fun y m2 => wp (rng2S x y) m2 R := by
  unfold rng2I
  rw [Zax]
  congr 1
  funext x m1
  rw [Zax]
theorem rng2_int {i j : Int} {R : Its → Hs → Prop} : wp (rng2S (.int i) (.int j)) m R = ((-(2 ^ 62) ≤ i ∧ i < 2 ^ 62 ∧ -(2 ^ 62) ≤ j ∧ j < 2 ^ 62) ∧ R (rngL i (j - i).toNat, []) m) := by
  show wp (if -(2 ^ 62) ≤ i ∧ i < 2 ^ 62 ∧ -(2 ^ 62) ≤ j ∧ j < 2 ^ 62 then ret (rngL i (j - i).toNat, ([] : List (Nat × List D))) else bad) m R = _
  rw [wp_gd, wp_ret]
theorem wp_enum {a : M D} {R : Its → Hs → Prop} : wp (enumI a) m R = wp a m fun x m1 => wp (enumS x) m1 R := Zax
theorem wp_enum2 {a b : M D} {R : Its → Hs → Prop} : wp (enum2I a b) m R = wp a m fun x m1 => wp b m1 fun y m2 => wp (enum2S x y) m2 R := by
  unfold enum2I
  rw [Zax]
  congr 1
  funext x m1
  rw [Zax]
theorem enum2_t {xs : List D} {s : Int} {R : Its → Hs → Prop} : wp (enum2S (.tup xs) (.int s)) m R = ((-(2 ^ 63) ≤ s ∧ s < 2 ^ 63) ∧ R (enumL s xs, []) m) := by
  show wp (if -(2 ^ 63) ≤ s ∧ s < 2 ^ 63 then ret (enumL s xs, ([] : List (Nat × List D))) else bad) m R = _
  rw [wp_gd, wp_ret]
theorem enum2_f {xs : List D} {s : Int} {R : Its → Hs → Prop} : wp (enum2S (.fl xs) (.int s)) m R = ((-(2 ^ 63) ≤ s ∧ s < 2 ^ 63) ∧ R (enumL s xs, []) m) := by
  show wp (if -(2 ^ 63) ≤ s ∧ s < 2 ^ 63 then ret (enumL s xs, ([] : List (Nat × List D))) else bad) m R = _
  rw [wp_gd, wp_ret]
theorem wp_zip {a b : M D} {R : Its → Hs → Prop} : wp (zipI a b) m R = wp a m fun x m1 => wp b m1 fun y m2 => wp (zipS x y) m2 R := by
  unfold zipI
  rw [Zax]
  congr 1
  funext x m1
  rw [Zax]
theorem whlL_wp {c : A → M D} {body : A → M (Fl A A)} {R : Fl A B → Hs → Prop} (I : Nat → A → Hs → Prop)
    (step : ∀ n s m, I n s m → wp (c s) m fun x m1 => wp (tru x) m1 fun k m2 => if k = true then wp (body s) m2 fun fl m' => match fl with
        | .nx s' => ∃ n', n' < n ∧ I n' s' m'
        | .ct s' => ∃ n', n' < n ∧ I n' s' m'
        | .bk s' => R (.nx s') m'
        | .rt d => R (.rt d) m'
      else R (.nx s) m2) : ∀ (f n : Nat) (s : A) (m : Hs), n < f → I n s m → wp (whlL c body f s) m R
  | 0, n, s, m, hf, h => absurd hf (Nat.not_lt_zero n)
  | f + 1, n, s, m, hf, h => by
    show wp (bnd (c s) fun x => bnd (tru x) fun k => if k = true then bnd (body s) (turnF (whlL c body f)) else ret (.nx s)) m R
    rw [Zax]
    refine wp_imp (step n s m h) fun x m1 q => ?_
    rw [Zax]
    refine wp_imp q fun k m2 q => ?_
    rw [wp_ite]
    split at q
    · rename_i hk
      rw [if_pos hk, Zax]
      refine wp_imp q fun fl m' q => ?_
      cases fl with
      | nx s' =>
        obtain ⟨n', h1, h2⟩ := q
        exact whlL_wp I step f n' s' m' (by omega) h2
      | ct s' =>
        obtain ⟨n', h1, h2⟩ := q
        exact whlL_wp I step f n' s' m' (by omega) h2
      | bk s' => exact q
      | rt d => exact q
    · rename_i hk
      rw [if_neg hk]
      exact q
theorem wp_whlM {c : A → M D} {body : A → M (Fl A A)} {R : Fl A B → Hs → Prop} {s : A} (I : Nat → A → Hs → Prop) (n : Nat) (hn : n < 100000) (h0 : I n s m)
    (step : ∀ n s m, I n s m → wp (c s) m fun x m1 => wp (tru x) m1 fun k m2 => if k = true then wp (body s) m2 fun fl m' => match fl with
        | .nx s' => ∃ n', n' < n ∧ I n' s' m'
        | .ct s' => ∃ n', n' < n ∧ I n' s' m'
        | .bk s' => R (.nx s') m'
        | .rt d => R (.rt d) m'
      else R (.nx s) m2) : wp (whlM c s body) m R := whlL_wp I step whileMost n s m hn h0
end
theorem wp_lcM {src : M Its} {turn : D → M (Option D)} {m : Hs} {Q : D → Hs → Prop} : wp (lcM src turn) m Q = wp src m fun z m1 => wp (lcL z.2 turn z.1 []) m1 fun ys m2 => Q (.fl ys) m2 := by
  unfold lcM
  rw [Zax]
  congr 1
  funext z m1
  rw [Zax]
  rfl
theorem wp_lcO {src : M Its} {turn : D → M (Option D)} {m : Hs} {R : List D → Hs → Prop} : wp (lcO src turn) m R = wp src m fun z m1 => wp (lcL z.2 turn z.1 []) m1 R := by
  unfold lcO
  rw [Zax]
  congr 1
  funext z m1
  rw [Zax]
  rfl
theorem calm_ret {α : Type} {a : α} : calm (ret a) = ret a := rfl
theorem lcL_pure {turn : D → M (Option D)} (f : D → Option D) : ∀ (xs acc : List D), (∀ x, x ∈ xs → turn x = ret (f x)) → acc.length + xs.length ≤ sizeLine → lcL [] turn xs acc = ret (acc ++ xs.filterMap f)
  | [], acc, _, _ => by simp [lcL, stay_nil]
  | x :: xs, acc, h, hl => by
    show bnd (calm (turn x)) _ = _
    rw [h x (by simp), calm_ret, bnd_ret]
    simp only [List.length_cons] at hl
    cases hf : f x with
    | none =>
      simp only [List.filterMap_cons, hf]
      exact lcL_pure f xs acc (fun y hy => h y (by simp [hy])) (by omega)
    | some y =>
      simp only [List.filterMap_cons, hf]
      rw [if_pos (by omega), lcL_pure f xs (acc ++ [y]) (fun y hy => h y (by simp [hy])) (by simp; omega)]
      simp
theorem lcL_map {turn : D → M (Option D)} (f : D → D) (xs : List D) (h : ∀ x, x ∈ xs → turn x = ret (some (f x))) (hl : xs.length ≤ sizeLine) : lcL [] turn xs [] = ret (xs.map f) := by
  rw [lcL_pure (fun x => some (f x)) xs [] h (by simpa using hl)]
  simp
theorem wp_appO {β : Type} {xs : List D} {t : M D} {k : List D → M β} {m : Hs} {R : β → Hs → Prop} : wp (appO xs t k) m R = wp t m fun y m1 => xs.length < sizeLine ∧ wp (k (xs ++ [y])) m1 R := by
  unfold appO
  rw [Zax]
  congr 1
  funext y m1
  rw [wp_gd]
theorem wp_extO {β : Type} {xs : List D} {t : M D} {k : List D → M β} {m : Hs} {R : β → Hs → Prop} : wp (extO xs t k) m R = wp t m fun y m1 => wp (ask (lstOf y)) m1 fun ys m2 => xs.length + ys.length ≤ sizeLine ∧ wp (k (xs ++ ys)) m2 R := by
  unfold extO
  rw [Zax]
  congr 1
  funext y m1
  rw [Zax]
  congr 1
  funext ys m2
  rw [wp_gd]
end G
namespace G
open PySem
section
variable {m : Hs} {Q : D → Hs → Prop} {i j : Int} {xs ys : List D} {s t : Str} {b : Bool} {n : Nat} {x x0 x1 x2 x3 y : D} {R : Bool → Hs → Prop}
theorem w_add : wp (binS .add (.int i) (.int j)) m Q = (Q (.int (i + j)) m) := id rfl
theorem w_sub : wp (binS .sub (.int i) (.int j)) m Q = (Q (.int (i - j)) m) := id rfl
theorem w_mul : wp (binS .mul (.int i) (.int j)) m Q = (i.natAbs.log2 + j.natAbs.log2 < 1000000 ∧ Q (.int (i * j)) m) := by rw [o_mul, wp_gd, wp_ret]
theorem w_fdiv : wp (binS .fdiv (.int i) (.int j)) m Q = ((0 < j ∧ j.natAbs.log2 < 9000) ∧ Q (.int (i / j)) m) := by rw [o_fdiv, wp_gd, wp_ret]
theorem w_mod : wp (binS .mod (.int i) (.int j)) m Q = (0 < j ∧ Q (.int (i % j)) m) := by rw [o_mod, wp_gd, wp_ret]
theorem w_pow : wp (binS .pow (.int i) (.int j)) m Q = ((0 ≤ j ∧ (i.natAbs.log2 + 1) * j.toNat ≤ 134217728) ∧ Q (.int (i ^ j.toNat)) m) := by rw [o_pow, wp_gd, wp_ret]
theorem w_shl : wp (binS .shl (.int i) (.int j)) m Q = ((0 ≤ j ∧ j ≤ 1000000 ∧ i.natAbs < 18446744073709551616) ∧ Q (.int (i * 2 ^ j.toNat)) m) := by rw [o_shl, wp_gd, wp_ret]
theorem w_addT : wp (binS .add (.tup xs) (.tup ys)) m Q = (xs.length + ys.length ≤ sizeLine ∧ Q (.tup (xs ++ ys)) m) := by rw [o_addT, wp_gd, wp_ret]
theorem w_addL : wp (binS .add (.fl xs) (.fl ys)) m Q = (xs.length + ys.length ≤ sizeLine ∧ Q (.fl (xs ++ ys)) m) := by rw [o_addL, wp_gd, wp_ret]
theorem w_lt : wp (cmpS .lt (.int i) (.int j)) m Q = (Q (.bl (decide (i < j))) m) := id rfl
theorem w_le : wp (cmpS .le (.int i) (.int j)) m Q = (Q (.bl (decide (i ≤ j))) m) := id rfl
theorem w_gt : wp (cmpS .gt (.int i) (.int j)) m Q = (Q (.bl (decide (j < i))) m) := id rfl
theorem w_ge : wp (cmpS .ge (.int i) (.int j)) m Q = (Q (.bl (decide (j ≤ i))) m) := id rfl
theorem w_eqI : wp (cmpS .eq (.int i) (.int j)) m Q = (Q (.bl (i == j)) m) := by rw [q_eq, wp_ret]
theorem w_neI : wp (cmpS .ne (.int i) (.int j)) m Q = (Q (.bl (!(i == j))) m) := by rw [q_ne, wp_ret]
theorem w_eqS : wp (cmpS .eq (.str s) (.str t)) m Q = (Q (.bl (decide (s = t))) m) := id rfl
theorem w_neS : wp (cmpS .ne (.str s) (.str t)) m Q = (Q (.bl (!decide (s = t))) m) := id rfl
theorem w_isN : wp (cmpS .is .non .non) m Q = (Q (.bl true) m) := id rfl
theorem w_ntN : wp (cmpS .isnot .non .non) m Q = (Q (.bl false) m) := id rfl
theorem w_isI : wp (cmpS .is (.int i) .non) m Q = (Q (.bl false) m) := id rfl
theorem w_ntI : wp (cmpS .isnot (.int i) .non) m Q = (Q (.bl true) m) := id rfl
theorem w_isT : wp (cmpS .is (.tup xs) .non) m Q = (Q (.bl false) m) := id rfl
theorem w_ntT : wp (cmpS .isnot (.tup xs) .non) m Q = (Q (.bl true) m) := id rfl
theorem w_isF : wp (cmpS .is (.fl xs) .non) m Q = (Q (.bl false) m) := id rfl
theorem w_ntF : wp (cmpS .isnot (.fl xs) .non) m Q = (Q (.bl true) m) := id rfl
theorem w_isR : wp (cmpS .is (.ref n) .non) m Q = (Q (.bl false) m) := id rfl
theorem w_ntR : wp (cmpS .isnot (.ref n) .non) m Q = (Q (.bl true) m) := id rfl
theorem w_isB : wp (cmpS .is (.bl b) .non) m Q = (Q (.bl false) m) := id rfl
theorem w_ntB : wp (cmpS .isnot (.bl b) .non) m Q = (Q (.bl true) m) := id rfl
theorem w_isS : wp (cmpS .is (.str s) .non) m Q = (Q (.bl false) m) := id rfl
theorem w_ntS : wp (cmpS .isnot (.str s) .non) m Q = (Q (.bl true) m) := id rfl
theorem w_trB : wp (tru (.bl b)) m R = (R b m) := id rfl
theorem w_trI : wp (tru (.int i)) m R = (R (i != 0) m) := id rfl
theorem w_trN : wp (tru .non) m R = (R false m) := id rfl
theorem w_trT : wp (tru (.tup xs)) m R = (R (!xs.isEmpty) m) := id rfl
theorem w_trF : wp (tru (.fl xs)) m R = (R (!xs.isEmpty) m) := id rfl
theorem w_ixT0 : wp (idxS (.tup (x0 :: xs)) (.int 0)) m Q = (Q x0 m) := by show wp (opt (atD _ _)) m Q = _; rw [at_0]; rfl
theorem w_ixT1 : wp (idxS (.tup (x0 :: x1 :: xs)) (.int 1)) m Q = (Q x1 m) := by show wp (opt (atD _ _)) m Q = _; rw [at_1]; rfl
theorem w_ixT2 : wp (idxS (.tup (x0 :: x1 :: x2 :: xs)) (.int 2)) m Q = (Q x2 m) := by show wp (opt (atD _ _)) m Q = _; rw [at_2]; rfl
theorem w_ixT3 : wp (idxS (.tup (x0 :: x1 :: x2 :: x3 :: xs)) (.int 3)) m Q = (Q x3 m) := by show wp (opt (atD _ _)) m Q = _; rw [at_3]; rfl
theorem w_ixF0 : wp (idxS (.fl (x0 :: xs)) (.int 0)) m Q = (Q x0 m) := by show wp (opt (atD _ _)) m Q = _; rw [at_0]; rfl
theorem w_ixF1 : wp (idxS (.fl (x0 :: x1 :: xs)) (.int 1)) m Q = (Q x1 m) := by show wp (opt (atD _ _)) m Q = _; rw [at_1]; rfl
theorem w_ixF2 : wp (idxS (.fl (x0 :: x1 :: x2 :: xs)) (.int 2)) m Q = (Q x2 m) := by show wp (opt (atD _ _)) m Q = _; rw [at_2]; rfl
theorem w_ixF3 : wp (idxS (.fl (x0 :: x1 :: x2 :: x3 :: xs)) (.int 3)) m Q = (Q x3 m) := by show wp (opt (atD _ _)) m Q = _; rw [at_3]; rfl
theorem w_ixS0 : wp (idxS (.sc (x0 :: xs)) (.int 0)) m Q = (Q x0 m) := by show wp (opt (atD _ _)) m Q = _; rw [at_0]; rfl
theorem w_ixS1 : wp (idxS (.sc (x0 :: x1 :: xs)) (.int 1)) m Q = (Q x1 m) := by show wp (opt (atD _ _)) m Q = _; rw [at_1]; rfl
theorem w_ixS2 : wp (idxS (.sc (x0 :: x1 :: x2 :: xs)) (.int 2)) m Q = (Q x2 m) := by show wp (opt (atD _ _)) m Q = _; rw [at_2]; rfl
theorem w_ixS3 : wp (idxS (.sc (x0 :: x1 :: x2 :: x3 :: xs)) (.int 3)) m Q = (Q x3 m) := by show wp (opt (atD _ _)) m Q = _; rw [at_3]; rfl
theorem w_ixT : wp (idxS (.tup xs) (.int i)) m Q = (∃ d, atD xs i = some d ∧ Q d m) := by show wp (opt (atD _ _)) m Q = _; rw [wp_opt]
theorem w_ixF : wp (idxS (.fl xs) (.int i)) m Q = (∃ d, atD xs i = some d ∧ Q d m) := by show wp (opt (atD _ _)) m Q = _; rw [wp_opt]
theorem w_ixS : wp (idxS (.sc xs) (.int i)) m Q = (∃ d, atD xs i = some d ∧ Q d m) := by show wp (opt (atD _ _)) m Q = _; rw [wp_opt]
theorem w_idL : wp (idlS xs (.int i)) m Q = (∃ d, atD xs i = some d ∧ Q d m) := by show wp (opt (atD _ _)) m Q = _; rw [wp_opt]
theorem w_neg : wp (negS (.int i)) m Q = (Q (.int (-i)) m) := id rfl
variable {l h : Option Int}
theorem w_slT : wp (slcS (.tup xs) l h) m Q = (Q (.tup (cutD xs l h)) m) := id rfl
theorem w_slF : wp (slcS (.fl xs) l h) m Q = (Q (.fl (cutD xs l h)) m) := id rfl
theorem w_soP {R : Option Int → Hs → Prop} : wp (soS (.int i)) m R = R (some i) m := id rfl
theorem w_lenT : wp (lenS [.tup xs]) m Q = (Q (.int xs.length) m) := id rfl
theorem w_lenF : wp (lenS [.fl xs]) m Q = (Q (.int xs.length) m) := id rfl
theorem w_lenS : wp (lenS [.sc xs]) m Q = (Q (.int xs.length) m) := id rfl
theorem w_abs : wp (absS [.int i]) m Q = (Q (.int (if i < 0 then -i else i)) m) := id rfl
theorem w_min : wp (min2S [.int i, .int j]) m Q = (Q (.int (if j < i then j else i)) m) := id rfl
theorem w_max : wp (max2S [.int i, .int j]) m Q = (Q (.int (if j > i then j else i)) m) := id rfl
theorem w_intI : wp (intS [.int i]) m Q = (Q (.int i) m) := id rfl
theorem w_intB : wp (intS [.bl b]) m Q = (Q (.int (if b then 1 else 0)) m) := id rfl
theorem w_tupT : wp (tupleS [.tup xs]) m Q = (Q (.tup xs) m) := id rfl
theorem w_tupF : wp (tupleS [.fl xs]) m Q = (Q (.tup xs) m) := id rfl
theorem w_lstT : wp (listS [.tup xs]) m Q = (Q (.fl xs) m) := id rfl
theorem w_lstF : wp (listS [.fl xs]) m Q = (Q (.fl xs) m) := id rfl
variable {is : List Int} {bs : List Bool}
theorem w_sum : wp (sumS [.fl (is.map D.int)]) m Q = (Q (.int is.sum) m) := by rw [f_sum, wp_ret]
theorem w_all : wp (allS [.fl (bs.map D.bl)]) m Q = (Q (.bl (bs.all id)) m) := by rw [f_all, wp_ret]
theorem w_any : wp (anyS [.fl (bs.map D.bl)]) m Q = (Q (.bl (bs.any id)) m) := by rw [f_any, wp_ret]
theorem Zac : wp (isiS .int .non) m Q = (Q (.bl false) m) := id rfl
theorem Zaw : wp (isiS .int (.bl b)) m Q = (Q (.bl true) m) := id rfl
theorem Zav : wp (isiS .int (.int i)) m Q = (Q (.bl true) m) := id rfl
theorem Zaq : wp (isiS .int (.str s)) m Q = (Q (.bl false) m) := id rfl
theorem Zaj : wp (isiS .int (.tup xs)) m Q = (Q (.bl false) m) := id rfl
theorem Zah : wp (isiS .int (.fl xs)) m Q = (Q (.bl false) m) := id rfl
theorem Zaz : wp (isiS .bl .non) m Q = (Q (.bl false) m) := id rfl
theorem Za1 : wp (isiS .bl (.bl b)) m Q = (Q (.bl true) m) := id rfl
theorem Za4 : wp (isiS .bl (.int i)) m Q = (Q (.bl false) m) := id rfl
theorem Za0 : wp (isiS .bl (.str s)) m Q = (Q (.bl false) m) := id rfl
theorem Za3 : wp (isiS .bl (.tup xs)) m Q = (Q (.bl false) m) := id rfl
theorem Za2 : wp (isiS .bl (.fl xs)) m Q = (Q (.bl false) m) := id rfl
theorem Zab : wp (isiS .tup .non) m Q = (Q (.bl false) m) := id rfl
theorem Zag : wp (isiS .tup (.bl b)) m Q = (Q (.bl false) m) := id rfl
theorem Zad : wp (isiS .tup (.int i)) m Q = (Q (.bl false) m) := id rfl
theorem Zay : wp (isiS .tup (.str s)) m Q = (Q (.bl false) m) := id rfl
theorem Zau : wp (isiS .tup (.tup xs)) m Q = (Q (.bl true) m) := id rfl
theorem Zai : wp (isiS .tup (.fl xs)) m Q = (Q (.bl false) m) := id rfl
theorem Zap : wp (isiS .str .non) m Q = (Q (.bl false) m) := id rfl
theorem Zas : wp (isiS .str (.bl b)) m Q = (Q (.bl false) m) := id rfl
theorem Zao : wp (isiS .str (.int i)) m Q = (Q (.bl false) m) := id rfl
theorem Zal : wp (isiS .str (.str s)) m Q = (Q (.bl true) m) := id rfl
theorem Zaa : wp (isiS .str (.tup xs)) m Q = (Q (.bl false) m) := id rfl
theorem Zak : wp (isiS .str (.fl xs)) m Q = (Q (.bl false) m) := id rfl
theorem Zaf : wp (isiS .lst .non) m Q = (Q (.bl false) m) := id rfl
theorem Zan : wp (isiS .lst (.bl b)) m Q = (Q (.bl false) m) := id rfl
theorem Zam : wp (isiS .lst (.int i)) m Q = (Q (.bl false) m) := id rfl
theorem Zae : wp (isiS .lst (.str s)) m Q = (Q (.bl false) m) := id rfl
theorem Zat : wp (isiS .lst (.tup xs)) m Q = (Q (.bl false) m) := id rfl
theorem Zar : wp (isiS .lst (.fl xs)) m Q = (Q (.bl true) m) := id rfl
theorem w_guT {R : Its → Hs → Prop} : wp (ask (guardOf (.tup xs))) m R = R (xs, []) m := id rfl
theorem w_guF {R : Its → Hs → Prop} : wp (ask (guardOf (.fl xs))) m R = R (xs, []) m := id rfl
theorem w_guS {R : Its → Hs → Prop} : wp (ask (guardOf (.sc xs))) m R = R (xs, []) m := id rfl
theorem w_lsF {R : List D → Hs → Prop} : wp (ask (lstOf (.fl xs))) m R = R xs m := id rfl
theorem w_enT {R : Its → Hs → Prop} : wp (enumS (.tup xs)) m R = R (enumL 0 xs, []) m := id rfl
theorem w_enF {R : Its → Hs → Prop} : wp (enumS (.fl xs)) m R = R (enumL 0 xs, []) m := id rfl
theorem w_zpT {R : Its → Hs → Prop} : wp (zipS (.tup xs) (.tup ys)) m R = R (zipL xs ys, []) m := id rfl
theorem w_zpF {R : Its → Hs → Prop} : wp (zipS (.fl xs) (.fl ys)) m R = R (zipL xs ys, []) m := id rfl
theorem w_gadd : wp (augS .add (.int i) (.int j)) m Q = (Q (.int (i + j)) m) := id rfl
theorem w_gsub : wp (augS .sub (.int i) (.int j)) m Q = (Q (.int (i - j)) m) := id rfl
theorem w_fs1 {f : D → M D} {a1 : D} : wp (fs1 f [a1]) m Q = wp (f a1) m Q := id rfl
theorem w_fs2 {f : D → D → M D} {a1 a2 : D} : wp (fs2 f [a1, a2]) m Q = wp (f a1 a2) m Q := id rfl
theorem w_fs3 {f : D → D → D → M D} {a1 a2 a3 : D} : wp (fs3 f [a1, a2, a3]) m Q = wp (f a1 a2 a3) m Q := id rfl
theorem w_fs4 {f : D → D → D → D → M D} {a1 a2 a3 a4 : D} : wp (fs4 f [a1, a2, a3, a4]) m Q = wp (f a1 a2 a3 a4) m Q := id rfl
theorem w_fs5 {f : D → D → D → D → D → M D} {a1 a2 a3 a4 a5 : D} : wp (fs5 f [a1, a2, a3, a4, a5]) m Q = wp (f a1 a2 a3 a4 a5) m Q := id rfl
theorem w_fs6 {f : D → D → D → D → D → D → M D} {a1 a2 a3 a4 a5 a6 : D} : wp (fs6 f [a1, a2, a3, a4, a5, a6]) m Q = wp (f a1 a2 a3 a4 a5 a6) m Q := id rfl
theorem w_un2 {β : Type} {f : D → D → M β} {a1 a2 : D} {S : β → Hs → Prop} : wp (un2 (.tup [a1, a2]) f) m S = wp (f a1 a2) m S := id rfl
theorem w_un3 {β : Type} {f : D → D → D → M β} {a1 a2 a3 : D} {S : β → Hs → Prop} : wp (un3 (.tup [a1, a2, a3]) f) m S = wp (f a1 a2 a3) m S := id rfl
theorem w_un4 {β : Type} {f : D → D → D → D → M β} {a1 a2 a3 a4 : D} {S : β → Hs → Prop} : wp (un4 (.tup [a1, a2, a3, a4]) f) m S = wp (f a1 a2 a3 a4) m S := id rfl
theorem w_goN {A B C : Type} {a : A} {f : A → M (Fl C B)} {S : Fl C B → Hs → Prop} : wp (goOn f (.nx a)) m S = wp (f a) m S := id rfl
theorem w_goR {A B C : Type} {d : D} {f : A → M (Fl C B)} {S : Fl C B → Hs → Prop} : wp (goOn f (.rt d)) m S = S (.rt d) m := id rfl
theorem w_goB {A B C : Type} {b : B} {f : A → M (Fl C B)} {S : Fl C B → Hs → Prop} : wp (goOn f (.bk b)) m S = S (.bk b) m := id rfl
theorem w_goC {A B C : Type} {b : B} {f : A → M (Fl C B)} {S : Fl C B → Hs → Prop} : wp (goOn f (.ct b)) m S = S (.ct b) m := id rfl
theorem w_feN {u : Unit} : wp (fnE (.nx u)) m Q = Q .non m := id rfl
theorem w_feR {d : D} : wp (fnE (.rt d)) m Q = Q d m := id rfl
theorem w_repr : wp (reprS [x]) m Q = ∃ p, pyD m deepest x = some p ∧ (p.showable = true ∧ p.shown.length ≤ sizeLine) ∧ Q (.str p.shown) m := by
  show wp (bnd (ask fun m => pyD m deepest x) fun p => if p.showable = true ∧ p.shown.length ≤ sizeLine then ret (D.str p.shown) else bad) m Q = _
  rw [Zax, wp_ask]
  simp only [wp_gd, wp_ret]
end
end G
namespace G
open PySem
section
variable {m : Hs} {Q : D → Hs → Prop} {n : Nat} {x0 x1 x2 v : D} {xs : List D} {o o' : O}
theorem hs_set (h : m[n]? = some o') : (m.set n o)[n]? = some o := List.getElem?_set_self (List.getElem?_eq_some_iff.mp h).1
theorem hs_new : (m ++ [o])[m.length]? = some o := by simp
theorem ixr0 (h : m[n]? = some (.lst (x0 :: xs))) : wp (idxS (.ref n) (.int 0)) m Q = Q x0 m := by
  rw [ix_r, h]
  simp [at_0]
theorem ixr1 (h : m[n]? = some (.lst (x0 :: x1 :: xs))) : wp (idxS (.ref n) (.int 1)) m Q = Q x1 m := by
  rw [ix_r, h]
  simp [at_1]
theorem ixr2 (h : m[n]? = some (.lst (x0 :: x1 :: x2 :: xs))) : wp (idxS (.ref n) (.int 2)) m Q = Q x2 m := by
  rw [ix_r, h]
  simp [at_2]
theorem wp_subT {a i : M D} {R : Unit → Hs → Prop} : wp (subT a i v) m R = wp a m fun x m1 => wp i m1 fun y m2 => wp (put (itmO x y v)) m2 R := by
  unfold subT
  rw [Zax]
  congr 1
  funext x m1
  rw [Zax]
theorem itm0 {R : Unit → Hs → Prop} (h : m[n]? = some (.lst (x0 :: xs))) : wp (put (itmO (.ref n) (.int 0) v)) m R = R () (m.set n (.lst (v :: xs))) := by
  rw [wp_put]
  simp only [itmO, h]
  have e : ixD (x0 :: xs).length 0 = some 0 := by
    simp only [ixD, List.length_cons]
    rw [if_pos (by decide), if_pos (by omega)]
    rfl
  rw [e]
  simp
theorem itm2 {R : Unit → Hs → Prop} (h : m[n]? = some (.lst (x0 :: x1 :: x2 :: xs))) : wp (put (itmO (.ref n) (.int 2) v)) m R = R () (m.set n (.lst (x0 :: x1 :: v :: xs))) := by
  rw [wp_put]
  simp only [itmO, h]
  have e : ixD (x0 :: x1 :: x2 :: xs).length 2 = some 2 := by
    simp only [ixD, List.length_cons]
    rw [if_pos (by decide), if_pos (by omega)]
    rfl
  rw [e]
  simp
end
def Bd (k : Nat) (i : Int) : Prop := i.natAbs < 2 ^ k
theorem Bd.of {k : Nat} {i : Int} (h1 : -(2 ^ k) < i) (h2 : i < 2 ^ k) : Bd k i := by
  unfold Bd
  have e : ((2 ^ k : Nat) : Int) = 2 ^ k := by push_cast; rfl
  omega
theorem Bd.mono {k l : Nat} {i : Int} (h : Bd k i) (hl : k ≤ l) : Bd l i := Nat.lt_of_lt_of_le h (Nat.pow_le_pow_right (by decide) hl)
theorem Bd.log {k : Nat} {i : Int} (h : Bd k i) : i.natAbs.log2 ≤ k := by
  by_cases hz : i.natAbs = 0
  · rw [hz]
    simp
  · exact Nat.le_of_lt ((Nat.log2_lt hz).mpr h)
theorem Bd.mul {k l : Nat} {i j : Int} (h : Bd k i) (h' : Bd l j) : Bd (k + l) (i * j) := by
  unfold Bd at *
  rw [Int.natAbs_mul, Nat.pow_add]
  exact Nat.mul_lt_mul'' h h'
theorem Bd.add {k : Nat} {i j : Int} (h : Bd k i) (h' : Bd k j) : Bd (k + 1) (i + j) := by
  unfold Bd at *
  rw [Nat.pow_succ]
  have := Int.natAbs_add_le i j
  omega
theorem mul_bd {k l : Nat} {i j : Int} (h : Bd k i) (h' : Bd l j) (hk : k + l < 1000000) : i.natAbs.log2 + j.natAbs.log2 < 1000000 := by
  have a := h.log
  have b := h'.log
  omega
theorem mul_ok {i j : Int} (h1 : -(2 ^ 200) < i) (h2 : i < 2 ^ 200) (h3 : -(2 ^ 200) < j) (h4 : j < 2 ^ 200) : i.natAbs.log2 + j.natAbs.log2 < 1000000 := mul_bd (Bd.of h1 h2) (Bd.of h3 h4) (by decide)
theorem div_bd {k : Nat} {j : Int} (h1 : 0 < j) (h : Bd k j) (hk : k < 9000) : 0 < j ∧ j.natAbs.log2 < 9000 := ⟨h1, by
  have a := h.log
  omega⟩
theorem div_ok {j : Int} (h1 : 0 < j) (h2 : j < 2 ^ 200) : 0 < j ∧ j.natAbs.log2 < 9000 := div_bd h1 (Bd.of (by omega) h2) (by decide)
def Dw (m : Hs) (n : Nat) (k : Int) : Prop := ∃ g x s : Int, m[n]? = some (.lst [.int g, .int x, .int s]) ∧ 0 ≤ g ∧ 0 ≤ x ∧ x < 2 ^ 70 ∧ 0 ≤ s ∧ s ≤ k
theorem Dw.mono {m : Hs} {n : Nat} {k l : Int} (h : Dw m n k) (hk : k ≤ l) : Dw m n l := by
  obtain ⟨g, x, s, h1, h2, h3, h4, h5, h6⟩ := h
  exact ⟨g, x, s, h1, h2, h3, h4, h5, by omega⟩
end G
namespace G
open PySem
theorem ix_one {P : Int → Prop} {ns : List Int} {m : Hs} {i : Int} {Q : D → Hs → Prop} (h0 : 0 ≤ i) (h1 : i < ns.length) (hp : ∀ n, n ∈ ns → P n) (h : ∀ n, n ∈ ns → P n → Q (.int n) m) : wp (idxS (.fl (ns.map .int)) (.int i)) m Q := by
  rw [w_ixF]
  obtain ⟨k, rfl⟩ := Int.eq_ofNat_of_zero_le h0
  have hk : k < ns.length := by omega
  refine ⟨.int ns[k], ?_, h _ (List.getElem_mem hk) (hp _ (List.getElem_mem hk))⟩
  show atD _ ((k : Nat) : Int) = _
  rw [at_nat, List.getElem?_map, List.getElem?_eq_getElem hk]
  rfl
theorem ix_any {xs : List D} {m : Hs} {i : Int} {Q : D → Hs → Prop} (h0 : 0 ≤ i) (h1 : i < xs.length) (h : ∀ x, x ∈ xs → Q x m) : wp (idxS (.fl xs) (.int i)) m Q := by
  rw [w_ixF]
  obtain ⟨k, rfl⟩ := Int.eq_ofNat_of_zero_le h0
  have hk : k < xs.length := by omega
  refine ⟨xs[k], ?_, h _ (List.getElem_mem hk)⟩
  show atD _ ((k : Nat) : Int) = _
  rw [at_nat, List.getElem?_eq_getElem hk]
theorem sz_le {n : Nat} (h : n ≤ 16777216) : n ≤ sizeLine := h
theorem sz_lt {n : Nat} (h : n < 16777216) : n < sizeLine := h
theorem mod2 {a b : Int} (h : 0 < b) : 0 ≤ a % b ∧ a % b < b := ⟨Int.emod_nonneg _ (by omega), Int.emod_lt_of_pos _ h⟩
theorem pow_ok {i j : Int} {k : Nat} (h : Bd k i) (hj : 0 ≤ j) (hk : (k + 1) * j.toNat ≤ 134217728) : 0 ≤ j ∧ (i.natAbs.log2 + 1) * j.toNat ≤ 134217728 := by
  refine ⟨hj, Nat.le_trans (Nat.mul_le_mul_right _ ?_) hk⟩
  have := h.log
  omega
end G
namespace G
open PySem
section
variable {k k' : Str} {v u : D} {l : List (Str × D)}
theorem lk_hit : ((k, v) :: l).lookup k = some v := by simp [List.lookup]
theorem lk_miss (h : (k == k') = false) : ((k', v) :: l).lookup k = l.lookup k := by simp only [List.lookup, h]
theorem lk_nil : ([] : List (Str × D)).lookup k = none := rfl
theorem pt_hit : putD k v ((k, u) :: l) = (k, v) :: l := by simp [putD]
theorem pt_miss (h : (k' == k) = false) : putD k v ((k', u) :: l) = (k', u) :: putD k v l := by
  have h : ¬ k' = k := fun e => by subst e; simp at h
  simp only [putD, if_neg h]
theorem pt_nil : putD k v [] = [(k, v)] := rfl
end
section
variable {m : Hs} {Q : D → Hs → Prop} {n c : Nat} {fs : List (Str × D)} {f : Str} {v w x : D} {at' : Nat → Str → Bool} {tb : Nat → Option (List D → M D)} {g : List D → M D}
theorem fld_wp (h : m[n]? = some (.ins c fs)) (hl : fs.lookup f = some v) (ha : at' c f = true) : wp (fldS at' f (.ref n)) m Q = Q v m := by
  unfold fldS
  rw [wp_ask]
  simp only [fldO, h, hl, ha, if_true]
  simp
theorem set_wp {R : Unit → Hs → Prop} (h : m[n]? = some (.ins c fs)) (hz : fs.length < 900) (ha : at' c f = true) : wp (put (setO at' f w (.ref n))) m R = R () (m.set n (.ins c (putD f w fs))) := by
  rw [wp_put]
  simp only [setO, h, ha, and_true, if_pos hz]
  simp
theorem fldC_wp {R : Nat × D → Hs → Prop} (h : m[n]? = some (.ins c fs)) (hl : fs.lookup f = some v) (ha : at' c f = true) : wp (ask (fldC at' f (.ref n))) m R = R (c, v) m := by
  rw [wp_ask]
  simp only [fldC, h, hl, ha, if_true]
  simp
theorem setC_wp {R : Unit → Hs → Prop} (h : m[n]? = some (.ins c fs)) (hz : fs.length < 900) : wp (put (setC c f w (.ref n))) m R = R () (m.set n (.ins c (putD f w fs))) := by
  rw [wp_put]
  simp only [setC, h, true_and, if_pos hz]
  simp
theorem mth_wp {R : (List D → M D) → Hs → Prop} (h : m[n]? = some (.ins c fs)) (hl : fs.lookup f = none) (ht : tb c = some g) : wp (mthS tb f (.ref n)) m R = R g m := by
  unfold mthS
  rw [wp_ask]
  simp only [mthO, h, hl, ht]
  simp
theorem wp_fldM {a : M D} : wp (fldM at' a f) m Q = wp a m fun x m1 => wp (fldS at' f x) m1 Q := Zax
theorem wp_fldT {a : M D} {R : Unit → Hs → Prop} : wp (fldT at' a f w) m R = wp a m fun x m1 => wp (put (setO at' f w x)) m1 R := Zax
theorem wp_mthM {a : M D} {t : M (List D)} : wp (mthM tb a f t) m Q = wp a m fun x m1 => wp (mthS tb f x) m1 fun g m2 => wp t m2 fun xs m3 => wp (g (x :: xs)) m3 Q := by
  unfold mthM
  rw [Zax]
  congr 1
  funext x m1
  rw [Zax]
  congr 1
  funext g m2
  rw [Zax]
theorem wp_makM {init : List D → M D} {t : M (List D)} : wp (makM c init t) m Q = wp t m fun xs m1 => wp (init (.ref m1.length :: xs)) (m1 ++ [.ins c []]) fun z m2 => wp (nonS z (.ref m1.length)) m2 Q := by
  unfold makM
  rw [Zax]
  congr 1
  funext xs m1
  rw [Zax]
  show wp (bnd (init (.ref m1.length :: xs)) fun z => nonS z (.ref m1.length)) (m1 ++ [.ins c []]) Q = _
  rw [Zax]
theorem nonS_non : wp (nonS .non x) m Q = Q x m := id rfl
theorem wp_augF {o : Op} {a t : M D} {R : Unit → Hs → Prop} : wp (augF at' o a f t) m R = wp a m fun x m1 => wp (ask (fldC at' f x)) m1 fun p m2 => wp t m2 fun y m3 => wp (augS o p.2 y) m3 fun z m4 => wp (put (setC p.1 f z x)) m4 R := by
  unfold augF
  rw [Zax]
  congr 1
  funext x m1
  rw [Zax]
  congr 1
  funext p m2
  rw [Zax]
  congr 1
  funext y m3
  rw [Zax]
theorem tpT2 {t1 t2 : D → M Unit} {d1 d2 : D} {R : Unit → Hs → Prop} : wp (tpT [t1, t2] (.tup [d1, d2])) m R = wp (t1 d1) m fun _ m1 => wp (t2 d2) m1 R := by
  show wp (bnd (t1 d1) fun _ => bnd (t2 d2) fun _ => ret ()) m R = _
  rw [Zax]
  congr 1
  funext _ m1
  rw [Zax]
  congr 1
theorem setset {o o' : O} : (m.set n o).set n o' = m.set n o' := List.set_set ..
theorem gcL_self (n : Nat) : ∀ (m g : Hs), gcL n m (m ++ g) = true
  | [], _ => rfl
  | o :: os, g => by simp [gcL, beqO_rfl, gcL_self n os g]
theorem wp_gcM {t : M D} (h : wp t m fun d m' => below m.length d = true ∧ ∃ g, m' = m ++ g ∧ Q d m) : wp (gcM t) m Q := by
  obtain ⟨d, m', e, hb, g, rfl, q⟩ := wp_iff_ok.1 h
  unfold wp gcM
  rw [e]
  simp only [gcR, hb, gcL_self, Bool.and_self, if_true, List.take_left']
  simpa using q
end
end G
namespace G
theorem ret_of {α : Type} {t : M α} {v : α} (h : ∀ (m : Hs) (Q : α → Hs → Prop), Q v m → wp t m Q) : t = ret v := by
  funext m
  obtain ⟨a, m', e, rfl, rfl⟩ := wp_iff_ok.1 (h m (fun a m' => a = v ∧ m' = m) ⟨rfl, rfl⟩)
  exact e
theorem ret_wp {α : Type} {t : M α} {v : α} {m : Hs} {Q : α → Hs → Prop} (h : t = ret v) : wp t m Q = Q v m := by rw [h, wp_ret]
end G
namespace G
theorem set_same : ∀ {m : Hs} {n : Nat} {o : O}, m[n]? = some o → m.set n o = m
  | [], _, _, h => by simp at h
  | _ :: _, 0, _, h => by simp at h; rw [h]; rfl
  | _ :: m, n + 1, _, h => by
    simp only [List.set_cons_succ]
    rw [set_same (m := m) (n := n) (by simpa using h)]
end G
namespace G
open PySem
def il (xs : List Int) : D := .tup (xs.map .int)
def pol (cs ls : List Int) (fx : Int) : D := .tup [il cs, il ls, .int fx]
def prD (p : Int × Int) : D := .tup [.int p.1, .int p.2]
def plc (P : List (Int × Int)) : D := .tup (P.map prD)
def stD (lv : Nat) (sz : Int) : D := .tup [.int lv, .int sz]
def ab (i : Int) : Int := if i < 0 then -i else i
structure Mv where
  no : Int
  up : Bool
  lv : Nat
  cp : Int
def Mv.d (v : Mv) : D := .tup [.int v.no, .str (if v.up then "grow" else "shrink"), .int v.lv, .int v.cp]
structure Tk where
  lv : Nat
  sz : Int
  pd : Int
  dn : Int
def Tk.up (fx : Int) (t : Tk) (u : Int) : Tk := ⟨t.lv + 1, u + 1, t.pd + (u + fx), t.dn + (ab (u - t.sz) + 1)⟩
def Tk.down (fx : Int) (t : Tk) (l : Int) : Tk := ⟨t.lv - 1, l, t.pd + (l + fx), t.dn + (ab (l + 1 - t.sz) + 1)⟩
def Tk.rest (t : Tk) (goal : Int) : Tk := ⟨t.lv, goal, t.pd, t.dn + ab (goal - t.sz)⟩
def pushT (fx goal : Int) : List (Int × Int) → Tk → Tk × List Mv
  | [], t => (t.rest goal, [])
  | p :: ps, t => if p.1 < goal then
      let r := pushT fx goal ps (t.up fx p.1)
      (r.1, ⟨t.dn + ab (p.1 - t.sz), true, t.lv + 1, p.1⟩ :: r.2)
    else (t.rest goal, [])
def popT (fx goal : Int) : List (Int × Int) → Tk → Tk × List Mv
  | [], t => (t.rest goal, [])
  | p :: ps, t => if goal ≤ p.2 then
      let r := popT fx goal ps (t.down fx p.2)
      (r.1, ⟨t.dn + ab (p.2 + 1 - t.sz), false, t.lv - 1, p.2⟩ :: r.2)
    else (t.rest goal, [])
abbrev Opn := Bool × Int
def wd (b : Bool) : Str := if b then "push" else "pop"
def opD (o : Opn) : D := .tup [.str (wd o.1), .int o.2]
def opsD (os : List Opn) : D := .tup (os.map opD)
def runT (P : List (Int × Int)) (fx : Int) (t : Tk) (o : Opn) : Tk × List Mv :=
  if o.1 then pushT fx (t.sz + o.2) (P.drop t.lv) t else popT fx (t.sz - o.2) (P.take t.lv).reverse t
def runsT (P : List (Int × Int)) (fx : Int) : Tk → List Opn → Tk × List Mv
  | t, [] => (t, [])
  | t, o :: os =>
    let r := runT P fx t o
    let s := runsT P fx r.1 os
    (s.1, r.2 ++ s.2)
theorem pushT_sz (fx goal : Int) : ∀ (ps : List (Int × Int)) (t : Tk), (pushT fx goal ps t).1.sz = goal
  | [], t => rfl
  | p :: ps, t => by
    simp only [pushT]
    split
    · exact pushT_sz fx goal ps _
    · rfl
theorem popT_sz (fx goal : Int) : ∀ (ps : List (Int × Int)) (t : Tk), (popT fx goal ps t).1.sz = goal
  | [], t => rfl
  | p :: ps, t => by
    simp only [popT]
    split
    · exact popT_sz fx goal ps _
    · rfl
theorem pushT_lv (fx goal : Int) : ∀ (ps : List (Int × Int)) (t : Tk), t.lv ≤ (pushT fx goal ps t).1.lv ∧ (pushT fx goal ps t).1.lv ≤ t.lv + ps.length
  | [], t => ⟨Nat.le_refl _, Nat.le_refl _⟩
  | p :: ps, t => by
    simp only [pushT]
    split
    · have := pushT_lv fx goal ps (t.up fx p.1)
      simp only [Tk.up, List.length_cons] at *
      omega
    · simp only [Tk.rest, List.length_cons]
      omega
theorem popT_lv (fx goal : Int) : ∀ (ps : List (Int × Int)) (t : Tk), (popT fx goal ps t).1.lv ≤ t.lv
  | [], t => Nat.le_refl _
  | p :: ps, t => by
    simp only [popT]
    split
    · have := popT_lv fx goal ps (t.down fx p.2)
      simp only [Tk.down] at *
      omega
    · exact Nat.le_refl _
theorem pushT_mv (fx goal : Int) : ∀ (ps : List (Int × Int)) (t : Tk), (pushT fx goal ps t).2.length ≤ ps.length
  | [], t => Nat.le_refl _
  | p :: ps, t => by
    simp only [pushT]
    split
    · simp only [List.length_cons]
      exact Nat.succ_le_succ (pushT_mv fx goal ps _)
    · simp
theorem popT_mv (fx goal : Int) : ∀ (ps : List (Int × Int)) (t : Tk), (popT fx goal ps t).2.length ≤ ps.length
  | [], t => Nat.le_refl _
  | p :: ps, t => by
    simp only [popT]
    split
    · simp only [List.length_cons]
      exact Nat.succ_le_succ (popT_mv fx goal ps _)
    · simp
theorem runT_lv {P : List (Int × Int)} {fx : Int} {t : Tk} {o : Opn} (h : t.lv ≤ P.length) : (runT P fx t o).1.lv ≤ P.length := by
  unfold runT
  split
  · have := pushT_lv fx (t.sz + o.2) (P.drop t.lv) t
    rw [List.length_drop] at this
    omega
  · have := popT_lv fx (t.sz - o.2) (P.take t.lv).reverse t
    omega
theorem runT_mv {P : List (Int × Int)} {fx : Int} {t : Tk} {o : Opn} (h : t.lv ≤ P.length) : (runT P fx t o).2.length ≤ P.length := by
  unfold runT
  split
  · have := pushT_mv fx (t.sz + o.2) (P.drop t.lv) t
    rw [List.length_drop] at this
    omega
  · have := popT_mv fx (t.sz - o.2) (P.take t.lv).reverse t
    simp only [List.length_reverse, List.length_take] at this
    omega
def goes (mo sz : Int) (o : Opn) : Prop := if o.1 then sz + o.2 ≤ mo else o.2 ≤ sz
def goesAll (mo : Int) : Int → List Opn → Prop
  | _, [] => True
  | sz, o :: os => goes mo sz o ∧ goesAll mo (if o.1 then sz + o.2 else sz - o.2) os
theorem runT_sz {P : List (Int × Int)} {fx : Int} {t : Tk} {o : Opn} : (runT P fx t o).1.sz = if o.1 then t.sz + o.2 else t.sz - o.2 := by
  unfold runT
  split
  · exact pushT_sz ..
  · exact popT_sz ..
def okOp (o : Opn) : Prop := 1 ≤ o.2 ∧ o.2 ≤ 1000000000000000000
end G
namespace G
open PySem
structure Vp (cs ls : List Int) : Prop where
  len : cs.length = ls.length + 1
  asc : ∀ (i : Nat) (a b : Int), cs[i]? = some a → cs[i + 1]? = some b → a < b
  pos : ∀ (i : Nat) (a : Int), cs[i]? = some a → 1 ≤ a
  lasc : ∀ (i : Nat) (a b : Int), ls[i]? = some a → ls[i + 1]? = some b → a < b
  lpos : ∀ (i : Nat) (a : Int), ls[i]? = some a → 0 ≤ a
  le : ∀ (i : Nat) (a b : Int), ls[i]? = some a → cs[i]? = some b → a ≤ b
structure Sv (cs ls : List Int) (lv : Nat) (sz : Int) : Prop where
  top : ∃ c, cs[lv]? = some c ∧ sz ≤ c
  low : 0 ≤ sz
  lim : ∀ (q : Nat) (l : Int), lv = q + 1 → ls[q]? = some l → l < sz
theorem zip_at {cs ls : List Int} {i : Nat} {c l : Int} (h1 : cs[i]? = some c) (h2 : ls[i]? = some l) : (cs.zip ls)[i]? = some (c, l) := by
  rw [List.getElem?_zip_eq_some]
  exact ⟨h1, h2⟩
theorem get_lt {α : Type} {l : List α} {i : Nat} {a : α} (h : l[i]? = some a) : i < l.length := (List.getElem?_eq_some_iff.mp h).1
theorem get_ex {α : Type} {l : List α} {i : Nat} (h : i < l.length) : ∃ a, l[i]? = some a := ⟨_, List.getElem?_eq_getElem h⟩
theorem drop_at {α : Type} {l : List α} {i : Nat} {a : α} (h : l[i]? = some a) : l.drop i = a :: l.drop (i + 1) := by
  rw [List.drop_eq_getElem_cons (get_lt h)]
  congr 1
  exact (List.getElem?_eq_some_iff.mp h).2
section
variable {cs ls : List Int} {fx : Int} {t : Tk} {goal : Int}
theorem Vp.zlen (v : Vp cs ls) : (cs.zip ls).length = ls.length := by
  rw [List.length_zip, v.len]
  omega
theorem Vp.mono (v : Vp cs ls) : ∀ (k i : Nat) (a b : Int), cs[i]? = some a → cs[i + k]? = some b → a ≤ b
  | 0, i, a, b, h1, h2 => by
    rw [Nat.add_zero, h1] at h2
    cases h2
    exact Int.le_refl _
  | k + 1, i, a, b, h1, h2 => by
    obtain ⟨c, hc⟩ := get_ex (l := cs) (i := i + k) (by have := get_lt h2; omega)
    have e1 := v.mono k i a c h1 hc
    have e2 := v.asc (i + k) c b hc h2
    omega
theorem Vp.last (v : Vp cs ls) {mo : Int} (hm : cs.getLast? = some mo) {i : Nat} {a : Int} (h : cs[i]? = some a) : a ≤ mo ∧ (i + 1 = cs.length → a = mo) := by
  rw [List.getLast?_eq_getElem?] at hm
  have hi := get_lt h
  refine ⟨v.mono (cs.length - 1 - i) i a mo h (by rw [show i + (cs.length - 1 - i) = cs.length - 1 by omega]; exact hm), fun e => ?_⟩
  rw [show cs.length - 1 = i by omega, h] at hm
  exact Option.some.inj hm
def upS (cs : List Int) (fx : Int) (t : Tk) : Tk × List Mv := match cs[t.lv]? with
  | some c => if t.sz < c then (⟨t.lv, t.sz + 1, t.pd, t.dn + 1⟩, []) else (⟨t.lv + 1, t.sz + 1, t.pd + (t.sz + fx), t.dn + 1⟩, [⟨t.dn, true, t.lv + 1, t.sz⟩])
  | none => (t, [])
def dnS (ls : List Int) (fx : Int) (t : Tk) : Tk × List Mv := match t.lv with
  | 0 => (⟨t.lv, t.sz - 1, t.pd, t.dn + 1⟩, [])
  | q + 1 => match ls[q]? with
    | some l => if t.sz - 1 = l then (⟨q, t.sz - 1, t.pd + (t.sz - 1 + fx), t.dn + 1⟩, [⟨t.dn, false, q, t.sz - 1⟩]) else (⟨t.lv, t.sz - 1, t.pd, t.dn + 1⟩, [])
    | none => (t, [])
theorem up_ok (v : Vp cs ls) {mo : Int} (hm : cs.getLast? = some mo) (s : Sv cs ls t.lv t.sz) (h1 : t.sz < goal) (h2 : goal ≤ mo) :
    Sv cs ls (upS cs fx t).1.lv (upS cs fx t).1.sz ∧ (upS cs fx t).1.sz = t.sz + 1 ∧ pushT fx goal ((cs.zip ls).drop t.lv) t = ((pushT fx goal ((cs.zip ls).drop (upS cs fx t).1.lv) (upS cs fx t).1).1, (upS cs fx t).2 ++ (pushT fx goal ((cs.zip ls).drop (upS cs fx t).1.lv) (upS cs fx t).1).2) := by
  obtain ⟨c, hc, hs⟩ := s.top
  obtain ⟨lv, sz, pd, dn⟩ := t
  simp only [upS] at *
  simp only [hc]
  have hl := v.last hm hc
  have hlt := get_lt hc
  have low := s.low
  by_cases hz : sz < c
  · rw [if_pos hz]
    refine ⟨⟨⟨c, hc, by simp only; omega⟩, by simp only; omega, fun q l e1 e2 => ?_⟩, rfl, ?_⟩
    · have := s.lim q l e1 e2
      simp only
      omega
    · simp only [List.nil_append]
      cases hd : (cs.zip ls).drop lv with
      | nil =>
        simp only [pushT, Tk.rest, ab]
        congr 2
        split <;> split <;> omega
      | cons p ps =>
        have hp : (cs.zip ls)[lv]? = some p := by
          have := congrArg (fun l => l[0]?) hd
          simpa using this
        have hpc : p.1 = c := by
          rw [List.getElem?_zip_eq_some, hc] at hp
          exact (Option.some.inj hp.1).symm
        simp only [pushT]
        have e1 : ab (p.1 - sz) = ab (p.1 - (sz + 1)) + 1 := by
          unfold ab
          split <;> split <;> omega
        by_cases hg : p.1 < goal
        · rw [if_pos hg, if_pos hg]
          simp only [Tk.up]
          rw [e1, show dn + 1 + (ab (p.1 - (sz + 1)) + 1) = dn + (ab (p.1 - (sz + 1)) + 1 + 1) by omega, show dn + 1 + ab (p.1 - (sz + 1)) = dn + (ab (p.1 - (sz + 1)) + 1) by omega]
        · rw [if_neg hg, if_neg hg]
          simp only [Tk.rest, ab]
          congr 2
          split <;> split <;> omega
  · rw [if_neg hz]
    have hcs : sz = c := by omega
    subst hcs
    have hne : lv + 1 ≠ cs.length := fun e => by
      have := hl.2 e
      omega
    obtain ⟨c', hc'⟩ := get_ex (l := cs) (i := lv + 1) (by omega)
    have hlen := v.len
    obtain ⟨l, hl'⟩ := get_ex (l := ls) (i := lv) (by omega)
    have ha := v.asc lv sz c' hc hc'
    refine ⟨⟨⟨c', hc', by simp only; omega⟩, by simp only; omega, fun q l2 e1 e2 => ?_⟩, rfl, ?_⟩
    · simp only at e1
      have e1 : lv = q := by omega
      subst e1
      have := v.le lv l2 sz e2 hc
      simp only
      omega
    · have hp := zip_at hc hl'
      rw [drop_at hp]
      simp only [pushT]
      rw [if_pos (show sz < goal from h1)]
      simp only [Tk.up, List.singleton_append]
      have e0 : ab (sz - sz) = 0 := by
        unfold ab
        split <;> omega
      rw [e0]
      simp
theorem dn_ok (v : Vp cs ls) (s : Sv cs ls t.lv t.sz) (h1 : goal < t.sz) (h2 : 0 ≤ goal) :
    Sv cs ls (dnS ls fx t).1.lv (dnS ls fx t).1.sz ∧ (dnS ls fx t).1.sz = t.sz - 1 ∧ popT fx goal ((cs.zip ls).take t.lv).reverse t = ((popT fx goal ((cs.zip ls).take (dnS ls fx t).1.lv).reverse (dnS ls fx t).1).1, (dnS ls fx t).2 ++ (popT fx goal ((cs.zip ls).take (dnS ls fx t).1.lv).reverse (dnS ls fx t).1).2) := by
  obtain ⟨c, hc, hs⟩ := s.top
  obtain ⟨lv, sz, pd, dn⟩ := t
  have low := s.low
  have hlt := get_lt hc
  have hlen := v.len
  simp only at *
  cases lv with
  | zero =>
    simp only [dnS]
    refine ⟨⟨⟨c, hc, by omega⟩, by omega, fun q l e => by cases e⟩, trivial, ?_⟩
    simp only [List.take_zero, List.reverse_nil, popT, Tk.rest, List.nil_append, ab]
    congr 2
    split <;> split <;> omega
  | succ q =>
    obtain ⟨l, hl⟩ := get_ex (l := ls) (i := q) (by omega)
    obtain ⟨c0, hc0⟩ := get_ex (l := cs) (i := q) (by omega)
    have hp := zip_at hc0 hl
    have hlim := s.lim q l rfl hl
    have hle := v.le q l c0 hl hc0
    have hrev : ((cs.zip ls).take (q + 1)).reverse = (c0, l) :: ((cs.zip ls).take q).reverse := by
      rw [List.take_succ, hp]
      simp
    simp only [dnS, hl]
    by_cases hz : sz - 1 = l
    · rw [if_pos hz]
      refine ⟨⟨⟨c0, hc0, by simp only; omega⟩, by simp only; omega, fun q' l' e1 e2 => ?_⟩, rfl, ?_⟩
      · simp only at e1 ⊢
        have := v.lasc q' l' l e2 (by rw [← e1]; exact hl)
        omega
      · rw [hrev]
        simp only [popT]
        rw [if_pos (show goal ≤ l by omega)]
        simp only [Tk.down, List.singleton_append]
        have e0 : ab (l + 1 - sz) = 0 := by
          unfold ab
          split <;> omega
        rw [e0, show sz - 1 = l from hz]
        simp
    · rw [if_neg hz]
      refine ⟨⟨⟨c, hc, by simp only; omega⟩, by simp only; omega, fun q' l' e1 e2 => ?_⟩, rfl, ?_⟩
      · simp only at e1 ⊢
        have e1 : q = q' := by omega
        subst e1
        rw [hl] at e2
        cases e2
        omega
      · rw [hrev]
        simp only [popT, List.nil_append]
        have e1 : ab (l + 1 - sz) = ab (l + 1 - (sz - 1)) + 1 := by
          unfold ab
          split <;> split <;> omega
        by_cases hg : goal ≤ l
        · rw [if_pos hg, if_pos hg]
          simp only [Tk.down]
          rw [e1, show dn + 1 + (ab (l + 1 - (sz - 1)) + 1) = dn + (ab (l + 1 - (sz - 1)) + 1 + 1) by omega, show dn + 1 + ab (l + 1 - (sz - 1)) = dn + (ab (l + 1 - (sz - 1)) + 1) by omega]
        · rw [if_neg hg, if_neg hg]
          simp only [Tk.rest, ab]
          congr 2
          split <;> split <;> omega
theorem push_0 (v : Vp cs ls) (s : Sv cs ls t.lv t.sz) : pushT fx t.sz ((cs.zip ls).drop t.lv) t = (t, []) := by
  obtain ⟨c, hc, hs⟩ := s.top
  have e0 : t.rest t.sz = t := by
    unfold Tk.rest ab
    have : (if t.sz - t.sz < 0 then -(t.sz - t.sz) else t.sz - t.sz) = 0 := by split <;> omega
    rw [this]
    simp
  cases hd : (cs.zip ls).drop t.lv with
  | nil => simp only [pushT, e0]
  | cons p ps =>
    have hp : (cs.zip ls)[t.lv]? = some p := by
      have := congrArg (fun l => l[0]?) hd
      simpa using this
    have hpc : p.1 = c := by
      rw [List.getElem?_zip_eq_some, hc] at hp
      exact (Option.some.inj hp.1).symm
    simp only [pushT]
    rw [if_neg (by omega), e0]
theorem pop_0 (v : Vp cs ls) (s : Sv cs ls t.lv t.sz) : popT fx t.sz ((cs.zip ls).take t.lv).reverse t = (t, []) := by
  have e0 : t.rest t.sz = t := by
    unfold Tk.rest ab
    have : (if t.sz - t.sz < 0 then -(t.sz - t.sz) else t.sz - t.sz) = 0 := by split <;> omega
    rw [this]
    simp
  cases hd : ((cs.zip ls).take t.lv).reverse with
  | nil => simp only [popT, e0]
  | cons p ps =>
    obtain ⟨c, hc, hs⟩ := s.top
    have hlt := get_lt hc
    have hlen := v.len
    cases hlv : t.lv with
    | zero => rw [hlv] at hd; simp at hd
    | succ q =>
      obtain ⟨l, hl⟩ := get_ex (l := ls) (i := q) (by omega)
      obtain ⟨c0, hc0⟩ := get_ex (l := cs) (i := q) (by omega)
      have hp := zip_at hc0 hl
      rw [hlv, List.take_succ, hp] at hd
      simp at hd
      have hlim := s.lim q l hlv hl
      simp only [popT]
      rw [← hd.1, if_neg (by simp only; omega), e0]
def stS (cs ls : List Int) (fx : Int) (b : Bool) (t : Tk) : Tk × List Mv := if b then upS cs fx t else dnS ls fx t
theorem run_step (v : Vp cs ls) {mo : Int} (hm : cs.getLast? = some mo) (s : Sv cs ls t.lv t.sz) {b : Bool} {c : Int} (hc : 0 < c) (hg : goes mo t.sz (b, c)) :
    Sv cs ls (stS cs ls fx b t).1.lv (stS cs ls fx b t).1.sz ∧ (stS cs ls fx b t).1.sz = (if b then t.sz + 1 else t.sz - 1) ∧ goes mo (stS cs ls fx b t).1.sz (b, c - 1) ∧
    runT (cs.zip ls) fx t (b, c) = ((runT (cs.zip ls) fx (stS cs ls fx b t).1 (b, c - 1)).1, (stS cs ls fx b t).2 ++ (runT (cs.zip ls) fx (stS cs ls fx b t).1 (b, c - 1)).2) := by
  cases b with
  | true =>
    simp only [goes, if_true] at hg
    obtain ⟨a1, a2, a3⟩ := up_ok (fx := fx) (goal := t.sz + c) v hm s (by omega) hg
    simp only [stS, if_true, runT, goes]
    refine ⟨a1, a2, by rw [a2]; omega, ?_⟩
    rw [a3, a2, show t.sz + 1 + (c - 1) = t.sz + c by omega]
  | false =>
    simp only [goes, if_false, Bool.false_eq_true] at hg
    obtain ⟨a1, a2, a3⟩ := dn_ok (fx := fx) (goal := t.sz - c) v s (by omega) (by omega)
    simp only [stS, if_false, Bool.false_eq_true, runT, goes]
    refine ⟨a1, a2, by rw [a2]; omega, ?_⟩
    rw [a3, a2, show t.sz - 1 - (c - 1) = t.sz - c by omega]
theorem run_0 (v : Vp cs ls) (s : Sv cs ls t.lv t.sz) {b : Bool} : runT (cs.zip ls) fx t (b, 0) = (t, []) := by
  cases b with
  | true =>
    simp only [runT, if_true, Int.add_zero]
    exact push_0 v s
  | false =>
    simp only [runT, if_false, Bool.false_eq_true, Int.sub_zero]
    exact pop_0 v s
end
end G
namespace G
open PySem
theorem get_snoc {α : Type} {l : List α} {a b : α} {i : Nat} (h : (l ++ [a])[i]? = some b) : l[i]? = some b ∨ (i = l.length ∧ b = a) := by
  by_cases hi : i < l.length
  · rw [List.getElem?_append_left hi] at h
    exact .inl h
  · have hl := get_lt h
    simp only [List.length_append, List.length_cons, List.length_nil] at hl
    have e : i = l.length := by omega
    subst e
    simp at h
    exact .inr ⟨rfl, h.symm⟩
theorem snoc_ex {α : Type} {l : List α} (h : l ≠ []) : ∃ i a, l = i ++ [a] := ⟨l.dropLast, l.getLast h, (List.dropLast_concat_getLast h).symm⟩
def Asc (l : List Int) : Prop := ∀ (i : Nat) (a b : Int), l[i]? = some a → l[i + 1]? = some b → a < b
theorem Asc.nil : Asc [] := fun i a b h => by simp at h
theorem Asc.one (x : Int) : Asc [x] := fun i a b h h2 => by
  have := get_lt h2
  simp at this
theorem Asc.snoc {l : List Int} {x : Int} (h : Asc l) (hx : ∀ y, l.getLast? = some y → y < x) : Asc (l ++ [x]) := fun i a b h1 h2 => by
  rcases get_snoc h2 with h3 | ⟨e, e2⟩
  · rcases get_snoc h1 with h4 | ⟨e, e2⟩
    · exact h i a b h4 h3
    · have := get_lt h3
      omega
  · rcases get_snoc h1 with h4 | ⟨e3, e4⟩
    · subst e2
      refine hx a ?_
      rw [List.getLast?_eq_getElem?, show l.length - 1 = i by omega]
      exact h4
    · omega
theorem all_snoc {l : List Int} {x : Int} {P : Nat → Int → Prop} (h : ∀ (i : Nat) (a : Int), l[i]? = some a → P i a) (hx : P l.length x) : ∀ (i : Nat) (a : Int), (l ++ [x])[i]? = some a → P i a := fun i a h1 => by
  rcases get_snoc h1 with h1 | ⟨rfl, rfl⟩
  · exact h i a h1
  · exact hx
theorem cut_init (xs : List D) : cutD xs none (some (-1)) = xs.dropLast := by
  unfold cutD sIxD
  simp only [List.drop_zero, Nat.sub_zero]
  rw [if_pos (by decide), List.dropLast_eq_take]
  congr 1
  omega
theorem rngL_succ (lo : Int) (n : Nat) : rngL lo (n + 1) = .int lo :: rngL (lo + 1) n := by
  unfold rngL
  rw [List.range_succ_eq_map]
  simp only [List.map_cons, List.map_map, Int.natCast_zero, Int.add_zero]
  congr 1
  apply List.map_congr_left
  intro k _
  simp only [Function.comp]
  congr 1
  omega
theorem rngL_len (lo : Int) (n : Nat) : (rngL lo n).length = n := by simp [rngL]
theorem rng_wp {A B : Type} {body : D → A → M (Fl A A)} {R : Fl A B → Hs → Prop} (I : Nat → A → Hs → Prop)
    (step : ∀ (i : Int) n s m, I (n + 1) s m → wp (body (.int i) s) m fun fl m' => match fl with
      | .nx s' => I n s' m'
      | .ct s' => I n s' m'
      | .bk s' => R (.nx s') m'
      | .rt d => R (.rt d) m')
    (done : ∀ s m, I 0 s m → R (.nx s) m) (lo : Int) (n : Nat) (s : A) (m : Hs) (h : I n s m) : wp (forL [] body (rngL lo n) s) m R := by
  refine forL_wp (fun xs s m => ∃ (j : Int) (n : Nat), xs = rngL j n ∧ I n s m) ?_ ?_ _ _ _ ⟨lo, n, rfl, h⟩
  · rintro x xs s m ⟨j, n, hx, h⟩
    cases n with
    | zero => cases hx
    | succ n =>
      rw [rngL_succ] at hx
      obtain ⟨rfl, rfl⟩ := List.cons.inj hx
      refine wp_imp (step j n s m h) fun fl m' q => ?_
      cases fl with
      | nx s' => exact ⟨_, _, rfl, q⟩
      | ct s' => exact ⟨_, _, rfl, q⟩
      | bk s' => exact q
      | rt d => exact q
  · rintro s m ⟨j, n, hx, h⟩
    cases n with
    | zero => exact done s m h
    | succ n => rw [rngL_succ] at hx; cases hx
theorem rngI_wp {A B : Type} {body : D → A → M (Fl A A)} {R : Fl A B → Hs → Prop} (I : Int → Nat → A → Hs → Prop)
    (step : ∀ (i : Int) n s m, I i (n + 1) s m → wp (body (.int i) s) m fun fl m' => match fl with
      | .nx s' => I (i + 1) n s' m'
      | .ct s' => I (i + 1) n s' m'
      | .bk s' => R (.nx s') m'
      | .rt d => R (.rt d) m')
    (done : ∀ i s m, I i 0 s m → R (.nx s) m) (lo : Int) (n : Nat) (s : A) (m : Hs) (h : I lo n s m) : wp (forL [] body (rngL lo n) s) m R := by
  refine forL_wp (fun xs s m => ∃ (j : Int) (n : Nat), xs = rngL j n ∧ I j n s m) ?_ ?_ _ _ _ ⟨lo, n, rfl, h⟩
  · rintro x xs s m ⟨j, n, hx, h⟩
    cases n with
    | zero => cases hx
    | succ n =>
      rw [rngL_succ] at hx
      obtain ⟨rfl, rfl⟩ := List.cons.inj hx
      refine wp_imp (step j n s m h) fun fl m' q => ?_
      cases fl with
      | nx s' => exact ⟨_, _, rfl, q⟩
      | ct s' => exact ⟨_, _, rfl, q⟩
      | bk s' => exact q
      | rt d => exact q
  · rintro s m ⟨j, n, hx, h⟩
    cases n with
    | zero => exact done j s m h
    | succ n => rw [rngL_succ] at hx; cases hx
theorem at_lastI {l : List Int} {x : Int} : atD ((l ++ [x]).map D.int) (-1) = some (.int x) := by
  rw [List.map_append]
  exact at_last
end G
namespace G
open PySem L2 PySem.Spec PyProof.Rows
def Pl (k w : Nat) (x : D) : Prop := ∃ p, (∀ m, pyD m k x = some p) ∧ p.showable = true ∧ p.shown.length ≤ w
def PlL (k w : Nat) (xs : List D) : Prop := ∃ ps, (∀ m, mapO (pyD m k) xs = some ps) ∧ PyData.showableAll ps = true ∧ piled (PyData.shownAll ps) ≤ w
theorem Pl.mono {k w w' : Nat} {x : D} (h : Pl k w x) (hw : w ≤ w') : Pl k w' x := by
  obtain ⟨p, h1, h2, h3⟩ := h
  exact ⟨p, h1, h2, Nat.le_trans h3 hw⟩
theorem Pl.int {k : Nat} {i : Int} (h : i.natAbs.log2 < 1920) : Pl k 1921 (.int i) := ⟨.int i, fun m => by simp [pyD], by simpa [PyData.showable] using h, by
  simp only [PyData.shown]
  exact PyProof.Rows.int_text_len_1921 h⟩
theorem Pl.bl {k : Nat} {b : Bool} : Pl k 5 (.bl b) := ⟨.bool b, fun m => by simp [pyD], rfl, by cases b <;> decide +kernel⟩
theorem Pl.non {k : Nat} : Pl k 4 .non := ⟨.none, fun m => by simp [pyD], rfl, by decide +kernel⟩
theorem Pl.str {k w : Nat} {s : Str} (h1 : PyData.strOk s = true) (h2 : (reprText s).length ≤ w) : Pl k w (.str s) := ⟨.str s, fun m => by simp [pyD, h1], rfl, h2⟩
theorem PlL.nil {k : Nat} : PlL k 0 [] := ⟨[], fun m => rfl, rfl, Nat.le_refl _⟩
theorem PlL.cons {k w v : Nat} {x : D} {xs : List D} (h : Pl k w x) (hs : PlL k v xs) : PlL k (w + 2 + v) (x :: xs) := by
  obtain ⟨p, h1, h2, h3⟩ := h
  obtain ⟨ps, h4, h5, h6⟩ := hs
  refine ⟨p :: ps, fun m => by simp only [mapO, h1, h4], by simp [PyData.showableAll, h2, h5], ?_⟩
  simp only [PyData.shownAll, piled_cons]
  omega
theorem PlL.mono {k w w' : Nat} {x : List D} (h : PlL k w x) (hw : w ≤ w') : PlL k w' x := by
  obtain ⟨p, h1, h2, h3⟩ := h
  exact ⟨p, h1, h2, Nat.le_trans h3 hw⟩
theorem PlL.map {α : Type} {f : α → D} {k w : Nat} : ∀ {l : List α}, (∀ a, a ∈ l → Pl k w (f a)) → PlL k (l.length * (w + 2)) (l.map f)
  | [], _ => by simpa using PlL.nil
  | a :: l, h => by
    have := PlL.cons (h a (by simp)) (PlL.map (l := l) fun b hb => h b (by simp [hb]))
    refine this.mono ?_
    simp only [List.length_cons, Nat.succ_mul]
    omega
theorem Pl.tup {k w : Nat} {xs : List D} (h : PlL k w xs) : Pl (k + 1) (w + 2) (.tup xs) := by
  obtain ⟨ps, h1, h2, h3⟩ := h
  refine ⟨.tuple ps, fun m => by simp only [pyD, h1]; rfl, by simpa [PyData.showable] using h2, ?_⟩
  simp only [PyData.shown]
  have := fmt_text (PyData.shownAll ps)
  omega
theorem Pl.get {k w : Nat} {x : D} (h : Pl k w x) : ∃ p, (∀ m, pyD m k x = some p) := by
  obtain ⟨p, h1, _⟩ := h
  exact ⟨p, h1⟩
def rp (x : D) : Str := match pyD [] deepest x with
  | some p => p.shown
  | none => "None"
theorem repr_eq {w : Nat} {x : D} (h : Pl deepest w x) (hw : w ≤ 16777216) : reprS [x] = ret (.str (rp x)) := by
  obtain ⟨p, h1, h2, h3⟩ := h
  refine ret_of fun m Q q => ?_
  rw [w_repr]
  refine ⟨p, h1 m, ⟨h2, Nat.le_trans h3 hw⟩, ?_⟩
  unfold rp at q
  rw [h1] at q
  exact q
theorem pl_int {k : Nat} {i : Int} (h1 : -(2 ^ 200) < i) (h2 : i < 2 ^ 200) : Pl k 1921 (.int i) := Pl.int (by
  have := (Bd.of h1 h2).log
  omega)
theorem pl_il {k n : Nat} {cs : List Int} (h : ∀ c, c ∈ cs → -(2 ^ 200) < c ∧ c < 2 ^ 200) (hn : cs.length ≤ n) : Pl (k + 1) (n * 1923 + 2) (il cs) := by
  refine (Pl.tup (PlL.map (w := 1921) fun c hc => pl_int (h c hc).1 (h c hc).2)).mono ?_
  have := Nat.mul_le_mul_right 1923 hn
  omega
theorem pl_pol {k n : Nat} {cs ls : List Int} {fx : Int} (h : ∀ c, c ∈ cs → -(2 ^ 200) < c ∧ c < 2 ^ 200) (h2 : ∀ c, c ∈ ls → -(2 ^ 200) < c ∧ c < 2 ^ 200) (hf : -(2 ^ 200) < fx ∧ fx < 2 ^ 200) (hn : cs.length ≤ n) (hm : ls.length ≤ n) : Pl (k + 2) (n * 3846 + 2000) (pol cs ls fx) := by
  refine (Pl.tup (PlL.cons (pl_il h hn) (PlL.cons (pl_il h2 hm) (PlL.cons (pl_int hf.1 hf.2) PlL.nil)))).mono ?_
  omega
end G
namespace G
open PySem
theorem lc_map_wp {turn : D → M (Option D)} {xs : List D} {m : Hs} {R : List D → Hs → Prop} (f : D → D) (h : ∀ x, x ∈ xs → turn x = ret (some (f x))) (hl : xs.length ≤ 16777216) (q : R (xs.map f) m) : wp (lcL [] turn xs []) m R := by
  rw [lcL_map f xs h hl]
  exact q
end G
namespace G
open PySem
theorem el_two (a b : D) : elM (tupM (lsM [ret a, ret b])) = ret (some (.tup [a, b])) := rfl
theorem wp_retE {α : Type} {a : α} {m : Hs} {R : α → Hs → Prop} : wp (ret a) m R = R a m := id rfl
theorem rng2_of {a b : M D} {i j : Int} {m : Hs} {R : Its → Hs → Prop} (ha : ∀ (m : Hs) (Q : D → Hs → Prop), wp a m Q = Q (.int i) m) (hb : ∀ (m : Hs) (Q : D → Hs → Prop), wp b m Q = Q (.int j) m) :
    wp (rng2I a b) m R = ((-(2 ^ 62) ≤ i ∧ i < 2 ^ 62 ∧ -(2 ^ 62) ≤ j ∧ j < 2 ^ 62) ∧ R (rngL i (j - i).toNat, []) m) := by
  rw [wp_rng2, ha, hb, rng2_int]
end G
namespace G
open PySem
theorem sz_2 {a b : D} : ([a, b].length ≤ sizeLine) = True := eq_true (sz_le (by simp))
theorem sz_3 {a b c : D} : ([a, b, c].length ≤ sizeLine) = True := eq_true (sz_le (by simp))
end G
namespace G
open PySem
theorem wp_calm {α : Type} {t : M α} {m : Hs} {Q : α → Hs → Prop} : wp (calm t) m Q = wp t m Q := by
  show (match (t m).calm with
    | .ok a m' => Q a m'
    | _ => False) = (match t m with
    | .ok a m' => Q a m'
    | _ => False)
  cases t m <;> rfl
theorem Vp.one {c : Int} (h : 1 ≤ c) : Vp [c] [] := ⟨rfl, Asc.one _, fun i a hi => by
  have := get_lt hi
  simp at this
  subst this
  simp at hi
  omega, Asc.nil, fun i a hi => by simp at hi, fun i a b hi => by simp at hi⟩
theorem Vp.snoc {cs ls : List Int} {c l d : Int} (v : Vp cs ls) (hc : cs.getLast? = some c) (h0 : 0 ≤ l) (h1 : l ≤ c) (h2 : ∀ y, ls.getLast? = some y → y < l) (h3 : c < d) : Vp (cs ++ [d]) (ls ++ [l]) := by
  have hlen := v.len
  have hc2 := hc
  rw [List.getLast?_eq_getElem?] at hc2
  have hcp := v.pos _ c hc2
  refine ⟨by simp; omega, Asc.snoc v.asc fun y hy => ?_, all_snoc v.pos (by omega), Asc.snoc v.lasc h2, all_snoc v.lpos h0, fun i a b e1 e2 => ?_⟩
  · rw [hc] at hy
    cases hy
    exact h3
  · rcases get_snoc e1 with e1 | ⟨rfl, rfl⟩
    · have hi := get_lt e1
      rcases get_snoc e2 with e2 | ⟨rfl, rfl⟩
      · exact v.le i a b e1 e2
      · omega
    · rcases get_snoc e2 with e2 | ⟨e, rfl⟩
      · rw [show cs.length - 1 = ls.length by omega, e2] at hc2
        cases hc2
        exact h1
      · omega
end G
namespace G
open PySem
abbrev Fr := Nat × Nat
def qOf (cs ls : List Int) (i : Nat) : Fr := ((cs[i]?.getD 0).toNat, match i with
  | 0 => 1
  | k + 1 => (ls[k]?.getD 0 + 1).toNat)
theorem pol_0 {cs ls : List Int} {fx : Int} {m : Hs} {Q : D → Hs → Prop} : wp (idxS (pol cs ls fx) (.int 0)) m Q = Q (il cs) m := by unfold pol; exact w_ixT0
theorem pol_2 {cs ls : List Int} {fx : Int} {m : Hs} {Q : D → Hs → Prop} : wp (idxS (pol cs ls fx) (.int 2)) m Q = Q (.int fx) m := by unfold pol; exact w_ixT2
theorem il_at {cs : List Int} {i : Nat} {c : Int} {m : Hs} {Q : D → Hs → Prop} (h : cs[i]? = some c) : wp (idxS (il cs) (.int i)) m Q = Q (.int c) m := by
  unfold il
  rw [w_ixT, at_nat, List.getElem?_map, h]
  simp
end G
namespace G
open PySem
theorem wp_calK {f : List D → M D} {n k : Nat} {is : List Nat} {t u : M (List D)} {m : Hs} {Q : D → Hs → Prop} : wp (calK f n k is t u) m Q = wp t m fun xs m1 => wp u m1 fun zs m2 => wp (kwS f n k is xs zs) m2 Q := by
  unfold calK
  rw [Zax]
  congr 1
  funext xs m1
  rw [Zax]
theorem kw_03 {f : List D → M D} {is : List Nat} {a b c : D} {m : Hs} {Q : D → Hs → Prop} : wp (kwS f 0 3 is [] [a, b, c]) m Q = wp (f (pick is [a, b, c])) m Q := rfl
theorem kw_02 {f : List D → M D} {is : List Nat} {a b : D} {m : Hs} {Q : D → Hs → Prop} : wp (kwS f 0 2 is [] [a, b]) m Q = wp (f (pick is [a, b])) m Q := rfl
theorem kw_01 {f : List D → M D} {is : List Nat} {a : D} {m : Hs} {Q : D → Hs → Prop} : wp (kwS f 0 1 is [] [a]) m Q = wp (f (pick is [a])) m Q := rfl
theorem pick_210 {a b c : D} : pick [2, 1, 0] [a, b, c] = [c, b, a] := rfl
theorem pick_10 {a b : D} : pick [1, 0] [a, b] = [b, a] := rfl
theorem pick_01 {a b : D} : pick [0, 1] [a, b] = [a, b] := rfl
theorem pick_0 {a : D} : pick [0] [a] = [a] := rfl
theorem fmt_textL (ts : List Str) : (listText ts).length ≤ piled ts + 2 := by
  have e1 : ((("[" : String) : Str)).length = 1 := rfl
  have e3 : ((("]" : String) : Str)).length = 1 := rfl
  have e2 : (ts.map (·.length)).sum + 2 * ts.length = piled ts := by
    clear e1 e3
    induction ts with
    | nil => rfl
    | cons t ts ih =>
      rw [piled_cons, ← ih]
      simp
      omega
  unfold listText
  rw [strLen_append, e3]
  have := textFrom_len_le ts 0 "["
  omega
theorem Pl.fl {k w : Nat} {xs : List D} (h : PlL k w xs) : Pl (k + 1) (w + 2) (.fl xs) := by
  obtain ⟨ps, h1, h2, h3⟩ := h
  refine ⟨.list ps, fun m => by simp only [pyD, h1]; rfl, by simpa [PyData.showable] using h2, ?_⟩
  simp only [PyData.shown]
  have := fmt_textL (PyData.shownAll ps)
  omega
theorem PlL.one {k w : Nat} {x : D} (h : Pl k w x) : PlL k (w + 2) [x] := PlL.cons h PlL.nil
theorem PlL.two {k w v : Nat} {x y : D} (h : Pl k w x) (h' : Pl k v y) : PlL k (w + 2 + (v + 2)) [x, y] := PlL.cons h (PlL.one h')
end G
namespace G
open PySem
theorem w_sumF {is : List Int} {m : Hs} {Q : D → Hs → Prop} : wp (sumAS [.fl (is.map D.int)]) m Q = Q (.int is.sum) m := w_sum
theorem w_sumT {is : List Int} {m : Hs} {Q : D → Hs → Prop} : wp (sumAS [.tup (is.map D.int)]) m Q = Q (.int is.sum) m := by
  show wp (bnd (opt (sumI (is.map D.int))) fun k => ret (.int k)) m Q = _
  rw [Zax, wp_opt, sumI_map]
  simp only [Option.some.injEq, exists_eq_left', wp_ret]
theorem intsOf_map : ∀ l : List Int, intsOf (l.map D.int) = some l
  | [] => rfl
  | a :: l => by simp only [List.map_cons, intsOf, intsOf_map l, Option.map_some]
theorem w_srt {is : List Int} {m : Hs} {Q : D → Hs → Prop} : wp (srtS [.fl (is.map D.int)]) m Q = (is.length < 64 ∧ Q (.fl ((srtU is).map D.int)) m) := by
  show wp (bnd (ask (lstOf (.fl (is.map D.int)))) srtI) m Q = _
  rw [Zax, w_lsF]
  unfold srtI
  rw [intsOf_map]
  show wp (if is.length < 64 then _ else bad) m Q = _
  rw [wp_gd, wp_ret]
theorem w_maxL {a : Int} {is : List Int} {m : Hs} {Q : D → Hs → Prop} : wp (maxLS [.fl ((a :: is).map D.int)]) m Q = Q (.int (mxI a is)) m := by
  show wp (bnd (ask (lstOf (.fl ((a :: is).map D.int)))) (ext1 mxI)) m Q = _
  rw [Zax, w_lsF]
  unfold ext1
  rw [intsOf_map]
  rfl
theorem w_minL {a : Int} {is : List Int} {m : Hs} {Q : D → Hs → Prop} : wp (minLS [.fl ((a :: is).map D.int)]) m Q = Q (.int (mnI a is)) m := by
  show wp (bnd (ask (lstOf (.fl ((a :: is).map D.int)))) (ext1 mnI)) m Q = _
  rw [Zax, w_lsF]
  unfold ext1
  rw [intsOf_map]
  rfl
theorem sum_zip {K : Int} : ∀ (cs ls : List Int) (n : Nat), n ≤ cs.length → n ≤ ls.length → (((cs.zip ls).take n).map fun p => p.1 + p.2 + K).sum = (cs.take n).sum + (ls.take n).sum + K * n
  | _, _, 0, _, _ => by simp
  | [], _, n + 1, h, _ => by simp at h
  | _ :: _, [], n + 1, _, h => by simp at h
  | c :: cs, l :: ls, n + 1, h1, h2 => by
    have ih := sum_zip (K := K) cs ls n (by simpa using h1) (by simpa using h2)
    simp only [List.zip_cons_cons, List.take_succ_cons, List.map_cons, List.sum_cons, ih, Int.natCast_succ, Int.mul_add]
    omega
theorem drop_zip : ∀ (cs ls : List Int) (a : Nat), (cs.zip ls).drop a = (cs.drop a).zip (ls.drop a)
  | _, _, 0 => by simp
  | [], _, _ + 1 => by simp
  | _ :: _, [], a + 1 => by simp
  | c :: cs, l :: ls, a + 1 => by
    simp only [List.zip_cons_cons, List.drop_succ_cons]
    exact drop_zip cs ls a
theorem sum_le {B : Int} : ∀ (l : List Int), (∀ x, x ∈ l → 0 ≤ x ∧ x ≤ B) → 0 ≤ l.sum ∧ l.sum ≤ B * l.length
  | [], _ => by simp
  | x :: l, h => by
    have ih := sum_le l fun y hy => h y (by simp [hy])
    have hx := h x (by simp)
    simp only [List.sum_cons, List.length_cons, Int.natCast_succ, Int.mul_add]
    omega
def sg (P : List (Int × Int)) (f : Int × Int → Int) (a n : Nat) : Int := (((P.drop a).take n).map f).sum
theorem sg_snoc {P : List (Int × Int)} {f : Int × Int → Int} {a n : Nat} {p : Int × Int} (h : P[a + n]? = some p) : sg P f a (n + 1) = sg P f a n + f p := by
  unfold sg
  rw [List.take_add_one, List.getElem?_drop, h]
  simp
end G
namespace G
open PySem
mutual
theorem eqv_pyD {m : Hs} : ∀ (k : Nat) (x : D) (p : PyData), pyD m k x = some p → PyData.eqv p p = true
  | _, .non, p, h => by simp [pyD] at h; subst h; rfl
  | _, .bl b, p, h => by simp [pyD] at h; subst h; simp [PyData.eqv]
  | _, .int i, p, h => by simp [pyD] at h; subst h; simp [PyData.eqv]
  | _, .str s, p, h => by
    simp only [pyD] at h
    split at h
    · cases h; simp [PyData.eqv]
    · cases h
  | 0, .tup _, p, h => by simp [pyD] at h
  | 0, .fl _, p, h => by simp [pyD] at h
  | 0, .sc _, p, h => by simp [pyD] at h
  | 0, .fd _ _, p, h => by simp [pyD] at h
  | _ + 1, .fd _ _, p, h => by simp [pyD] at h
  | 0, .ref _, p, h => by simp [pyD] at h
  | n + 1, .tup xs, p, h => by
    simp only [pyD, Option.map_eq_some_iff] at h
    obtain ⟨ps, h1, rfl⟩ := h
    rw [PyData.eqv]
    exact eqv_mapO n xs ps h1
  | n + 1, .fl xs, p, h => by
    simp only [pyD, Option.map_eq_some_iff] at h
    obtain ⟨ps, h1, rfl⟩ := h
    rw [PyData.eqv]
    exact eqv_mapO n xs ps h1
  | n + 1, .sc xs, p, h => by
    simp only [pyD, Option.map_eq_some_iff] at h
    obtain ⟨ps, h1, rfl⟩ := h
    rw [PyData.eqv]
    exact eqv_mapO n xs ps h1
  | n + 1, .ref j, p, h => by
    simp only [pyD] at h
    split at h
    · rename_i xs _
      simp only [Option.map_eq_some_iff] at h
      obtain ⟨ps, h1, rfl⟩ := h
      rw [PyData.eqv]
      exact eqv_mapO n xs ps h1
    · cases h
theorem eqv_mapO {m : Hs} : ∀ (k : Nat) (xs : List D) (ps : List PyData), mapO (pyD m k) xs = some ps → PyData.eqvAll ps ps = true
  | _, [], ps, h => by cases h; rfl
  | k, x :: xs, ps, h => by
    simp only [mapO] at h
    split at h
    · rename_i y ys h1 h2
      cases h
      rw [PyData.eqvAll, eqv_pyD k x y h1, eqv_mapO k xs ys h2]
      rfl
    · cases h
end
structure PB (L : Nat) (B F : Int) (cs ls : List Int) (fx : Int) : Prop where
  v : Vp cs ls
  len : cs.length ≤ L
  cB : ∀ c, c ∈ cs → 1 ≤ c ∧ c ≤ B
  f0 : 0 ≤ fx
  f1 : fx ≤ F
theorem PB.llen {L : Nat} {B F : Int} {cs ls : List Int} {fx : Int} (h : PB L B F cs ls fx) : ls.length + 1 ≤ L := by
  have := h.v.len
  have := h.len
  omega
theorem PB.lB {L : Nat} {B F : Int} {cs ls : List Int} {fx : Int} (h : PB L B F cs ls fx) {l : Int} (hl : l ∈ ls) : 0 ≤ l ∧ l ≤ B := by
  obtain ⟨i, hi⟩ := List.getElem?_of_mem hl
  have := h.v.len
  obtain ⟨c, hc⟩ := get_ex (l := cs) (i := i) (by have := get_lt hi; omega)
  have h1 := h.v.le i l c hi hc
  have h2 := h.cB c (List.mem_of_getElem? hc)
  exact ⟨h.v.lpos i l hi, by omega⟩
theorem PB.cAt {L : Nat} {B F : Int} {cs ls : List Int} {fx c : Int} {i : Nat} (h : PB L B F cs ls fx) (hc : cs[i]? = some c) : 1 ≤ c ∧ c ≤ B := h.cB c (List.mem_of_getElem? hc)
theorem PB.lAt {L : Nat} {B F : Int} {cs ls : List Int} {fx l : Int} {i : Nat} (h : PB L B F cs ls fx) (hl : ls[i]? = some l) : 0 ≤ l ∧ l ≤ B := h.lB (List.mem_of_getElem? hl)
theorem PB.pl {L : Nat} {B F : Int} {cs ls : List Int} {fx : Int} {k : Nat} (h : PB L B F cs ls fx) (hL : L ≤ 100) (hB : B < 2 ^ 200) (hF : F < 2 ^ 200) : Pl (k + 2) 400000 (pol cs ls fx) := by
  have := h.len
  have := h.llen
  have h0 := h.f0
  have h1 := h.f1
  exact (pl_pol (n := 100) (fun c hc => by have := h.cB c hc; omega) (fun c hc => by have := h.lB hc; omega) ⟨by omega, by omega⟩ (by omega) (by omega)).mono (by decide)
theorem PB.rp {L : Nat} {B F : Int} {cs ls : List Int} {fx : Int} (h : PB L B F cs ls fx) (hL : L ≤ 100 := by decide) (hB : B < 2 ^ 200 := by decide) (hF : F < 2 ^ 200 := by decide) : reprS [pol cs ls fx] = ret (.str (rp (pol cs ls fx))) := repr_eq (h.pl (k := 48) hL hB hF) (by decide)
theorem PB.mono {L L' : Nat} {B B' F F' : Int} {cs ls : List Int} {fx : Int} (h : PB L B F cs ls fx) (hL : L ≤ L') (hB : B ≤ B') (hF : F ≤ F') : PB L' B' F' cs ls fx := by
  have h1 := h.len
  have h2 := h.f1
  exact ⟨h.v, by omega, fun c hc => by have := h.cB c hc; omega, h.f0, by omega⟩
end G
namespace G
open PySem
section
variable {A B β : Type} {m : Hs}
end
def rowR (a : Nat) : Nat → Nat → List (Nat × Nat)
  | _, 0 => []
  | b, c + 1 => (a, b) :: rowR a (b + 1) c
def prsR : Nat → Nat → List (Nat × Nat)
  | _, 0 => []
  | a, c + 1 => rowR a a (c + 1) ++ prsR (a + 1) c
theorem mem_rowR {a : Nat} {p : Nat × Nat} : ∀ {c b : Nat}, p ∈ rowR a b c → p.1 = a ∧ b ≤ p.2 ∧ p.2 < b + c
  | 0, _, h => by simp [rowR] at h
  | c + 1, b, h => by
    rcases List.mem_cons.1 h with rfl | h
    · exact ⟨rfl, Nat.le_refl _, by omega⟩
    · have := mem_rowR h
      omega
theorem mem_prsR {p : Nat × Nat} : ∀ {c a : Nat}, p ∈ prsR a c → a ≤ p.1 ∧ p.1 ≤ p.2 ∧ p.2 < a + c
  | 0, _, h => by simp [prsR] at h
  | c + 1, a, h => by
    rcases List.mem_append.1 h with h | h
    · have := mem_rowR h
      omega
    · have := mem_prsR h
      omega
def swN (P : List (Int × Int)) (ex : Int) (p : Nat × Nat) : Int × Int := (sg P (fun q => q.1 + q.2 + ex) p.1 (p.2 + 1 - p.1), 2 * ((P[p.2]?.getD (0, 0)).1 + 1 - (P[p.1]?.getD (0, 0)).2))
theorem Bd.pl {k d : Nat} {i : Int} (h : Bd d i) (hd : d < 1920) : Pl k 1921 (.int i) := Pl.int (by
  have := h.log
  omega)
abbrev PK (cs ls : List Int) (fx : Int) : Prop := PB 50 1000000000000000000 1000000000000 cs ls fx
theorem swN_bd {cs ls : List Int} {fx : Int} {p : Nat × Nat} (h : PK cs ls fx) (hp : p ∈ prsR 0 ls.length) : 1 ≤ (swN (cs.zip ls) (2 * fx) p).1 ∧ (swN (cs.zip ls) (2 * fx) p).1 < 2 ^ 100 ∧ 2 ≤ (swN (cs.zip ls) (2 * fx) p).2 ∧ (swN (cs.zip ls) (2 * fx) p).2 < 2 ^ 100 := by
  obtain ⟨a, b⟩ := p
  have hm := mem_prsR hp
  simp only at hm
  have hlen := h.v.len
  have hle := h.len
  have hf0 := h.f0
  have hf1 := h.f1
  obtain ⟨c, hc⟩ := get_ex (l := cs) (i := b) (by omega)
  obtain ⟨ca, hca⟩ := get_ex (l := cs) (i := a) (by omega)
  obtain ⟨l, hl1⟩ := get_ex (l := ls) (i := a) (by omega)
  obtain ⟨lb, hlb⟩ := get_ex (l := ls) (i := b) (by omega)
  have h1 := h.v.le a l ca hl1 hca
  have h2 := h.v.mono (b - a) a ca c hca (by rw [show a + (b - a) = b by omega]; exact hc)
  have h3 := h.cAt hc
  have h4 := h.lAt hl1
  have h5 := h.lAt hlb
  have hz := zip_at hc hlb
  have hsm : 0 ≤ sg (cs.zip ls) (fun q => q.1 + q.2 + 2 * fx) a (b - a) ∧ sg (cs.zip ls) (fun q => q.1 + q.2 + 2 * fx) a (b - a) < 2 ^ 99 := by
    have := sum_le (B := 3 * 10 ^ 18) ((((cs.zip ls).drop a).take (b - a)).map fun p => p.1 + p.2 + 2 * fx) fun x hx => by
      obtain ⟨p, hp, rfl⟩ := List.mem_map.1 hx
      have hp2 := List.of_mem_zip (a := p.1) (b := p.2) (List.mem_of_mem_drop (List.mem_of_mem_take hp))
      have := h.cB _ hp2.1
      have := h.lB hp2.2
      omega
    have h2 : ((((cs.zip ls).drop a).take (b - a)).map fun p => p.1 + p.2 + 2 * fx).length ≤ 50 := by
      rw [List.length_map, List.length_take]
      omega
    unfold sg
    omega
  have es := sg_snoc (P := cs.zip ls) (f := fun q => q.1 + q.2 + 2 * fx) (a := a) (n := b - a) (p := (c, lb)) (by rw [show a + (b - a) = b by omega]; exact hz)
  unfold swN
  simp only [hz, zip_at hca hl1, Option.getD_some]
  rw [show b + 1 - a = b - a + 1 by omega, es]
  omega
end G
namespace G
open PySem
abbrev Ws : Type := (Int × Int) × Option (Nat × Nat)
def stW (P : List (Int × Int)) (ex : Int) (s : Ws) (ab : Nat × Nat) : Ws := if s.1.1 * (swN P ex ab).2 < (swN P ex ab).1 * s.1.2 then (swN P ex ab, some ab) else s
structure OkW (ls : List Int) (s : Ws) : Prop where
  n0 : 0 ≤ s.1.1
  n1 : s.1.1 < 2 ^ 100
  d0 : 1 ≤ s.1.2
  d1 : s.1.2 < 2 ^ 100
  mem : ∀ ab, s.2 = some ab → ab ∈ prsR 0 ls.length
theorem OkW.step {cs ls : List Int} {fx : Int} {s : Ws} {ab : Nat × Nat} (h : PK cs ls fx) (o : OkW ls s) (hm : ab ∈ prsR 0 ls.length) : OkW ls (stW (cs.zip ls) (2 * fx) s ab) := by
  unfold stW
  split
  · have := swN_bd h hm
    exact ⟨by simp only; omega, by simp only; omega, by simp only; omega, by simp only; omega, fun _ e => by cases e; exact hm⟩
  · exact o
end G
namespace G
open PySem
end G
namespace G
open PySem
theorem fr_trans {a b c d e f : Int} (hb : 0 ≤ b) (hd : 0 < d) (hf : 0 ≤ f) (h1 : a * d ≤ c * b) (h2 : c * f ≤ e * d) : a * f ≤ e * b := by
  refine Int.le_of_mul_le_mul_right (a := d) ?_ hd
  have k1 := Int.mul_le_mul_of_nonneg_right h1 hf
  have k2 := Int.mul_le_mul_of_nonneg_right h2 hb
  rw [Int.mul_right_comm a f d, Int.mul_right_comm e b d]
  rw [Int.mul_right_comm c b f] at k1
  omega
structure FoldW (P : List (Int × Int)) (ex : Int) (ps : List (Nat × Nat)) (s s' : Ws) : Prop where
  mx : ∀ ab, ab ∈ ps → (swN P ex ab).1 * s'.1.2 ≤ s'.1.1 * (swN P ex ab).2
  up : s.1.1 * s'.1.2 ≤ s'.1.1 * s.1.2
  pos : 0 < s'.1.2
  at' : s' = s ∨ ∃ ab, ab ∈ ps ∧ s'.1 = swN P ex ab ∧ s'.2 = some ab
structure FoldB (cs ls : List Int) (n : Nat) (b : Fr) : Prop where
  mx : ∀ i, i < n → (qOf cs ls i).1 * b.2 ≤ b.1 * (qOf cs ls i).2
  pos : 0 < b.2
  at' : b = (0, 1) ∨ ∃ i, i < n ∧ b = qOf cs ls i
end G
namespace G
open PySem
end G
namespace G
open PySem
section
variable {m : Hs} {Q : D → Hs → Prop} {R : List D → Hs → Prop}
theorem wp_starM {t : M D} {u : M (List D)} : wp (starM t u) m R = wp t m fun x m1 => wp (ask (itemsOf x)) m1 fun xs m2 => wp u m2 fun ys m3 => R (xs ++ ys) m3 := by
  unfold starM
  rw [Zax]
  congr 1
  funext x m1
  rw [Zax]
  congr 1
  funext xs m2
  rw [Zax]
  rfl
theorem wp_consM {t : M D} {u : M (List D)} : wp (consM t u) m R = wp t m fun x m1 => wp u m1 fun ys m2 => R (x :: ys) m2 := by
  unfold consM
  rw [Zax]
  congr 1
  funext x m1
  rw [Zax]
  rfl
theorem w_itT {xs : List D} : wp (ask (itemsOf (.tup xs))) m R = R xs m := id rfl
theorem w_itF {xs : List D} : wp (ask (itemsOf (.fl xs))) m R = R xs m := id rfl
theorem wp_rl2M {f : List D → D} {t u : M D} : wp (rl2M f t u) m Q = wp t m fun x m1 => wp u m1 fun y m2 => wp (rlS f x y) m2 Q := by
  unfold rl2M
  rw [Zax]
  congr 1
  funext x m1
  rw [Zax]
theorem wp_rl1M {f : List D → D} {t : M D} : wp (rl1M f t) m Q = wp t m fun x m1 => wp (rlS f (.int 0) x) m1 Q := by
  unfold rl1M
  rw [Zax]
theorem w_rl {f : List D → D} {i j : Int} : wp (rlS f (.int i) (.int j)) m Q = (rngOk i j ∧ Q (f (rngL i (j - i).toNat)) m) := by
  show wp (if rngOk i j then ret (f (rngL i (j - i).toNat)) else bad) m Q = _
  rw [wp_gd, wp_ret]
theorem wp_dn3I {t u w : M D} {R : Its → Hs → Prop} : wp (dn3I t u w) m R = wp t m fun x m1 => wp u m1 fun y m2 => wp w m2 fun z m3 => wp (dn3S x y z) m3 R := by
  unfold dn3I
  rw [Zax]
  congr 1
  funext x m1
  rw [Zax]
  congr 1
  funext y m2
  rw [Zax]
theorem w_dn3 {i j : Int} {R : Its → Hs → Prop} : wp (dn3S (.int i) (.int j) (.int (-1))) m R = ((-(2 ^ 62) ≤ i ∧ i < 2 ^ 62 ∧ -(2 ^ 62) ≤ j ∧ j < 2 ^ 62) ∧ R (dnL i (i - j).toNat, []) m) := by
  show wp (if (-1 : Int) = -1 ∧ -(2 ^ 62) ≤ i ∧ i < 2 ^ 62 ∧ -(2 ^ 62) ≤ j ∧ j < 2 ^ 62 then ret (dnL i (i - j).toNat, ([] : List (Nat × List D))) else bad) m R = _
  rw [wp_gd, wp_ret]
  simp only [true_and]
end
end G
namespace G
open PySem
theorem wp_mulTM {a b : M D} {m : Hs} {Q : D → Hs → Prop} : wp (mulTM a b) m Q = wp a m fun x m1 => wp b m1 fun y m2 => wp (mulTS x y) m2 Q := by
  unfold mulTM
  rw [Zax]
  congr 1
  funext x m1
  rw [Zax]
theorem w_mulT {xs : List D} {k : Int} {m : Hs} {Q : D → Hs → Prop} : wp (mulTS (.tup xs) (.int k)) m Q = ((xs ≠ [] ∧ 0 ≤ k ∧ k ≤ 1000 ∧ xs.length ≤ 1000) ∧ Q (.tup (List.replicate k.toNat xs).flatten) m) := by
  show wp (if xs ≠ [] ∧ 0 ≤ k ∧ k ≤ 1000 ∧ xs.length ≤ 1000 then ret (.tup (List.replicate k.toNat xs).flatten) else bad) m Q = _
  rw [wp_gd, wp_ret]
end G
namespace G
open PySem
def lmt (ls : List Int) : Nat → Int
  | 0 => -1
  | i + 1 => ls[i]?.getD 0
def hiL (cs ls : List Int) (i : Nat) : Int := match ls[i + 1]? with
  | some l => if l - 1 < cs[i]?.getD 0 then l - 1 else cs[i]?.getD 0
  | none => cs[i]?.getD 0
theorem lset_get {l : List Int} {i j : Nat} {x a : Int} (h : (l.set i x)[j]? = some a) : (j = i ∧ a = x ∧ i < l.length) ∨ (j ≠ i ∧ l[j]? = some a) := by
  rw [List.getElem?_set] at h
  split at h
  · rename_i e
    subst e
    split at h
    · rename_i hl
      exact .inl ⟨rfl, by simpa using h.symm, hl⟩
    · cases h
  · rename_i e
    exact .inr ⟨fun z => e z.symm, h⟩
theorem Vp.set {cs ls : List Int} (v : Vp cs ls) {i : Nat} {x : Int} (hi : i < ls.length) (h1 : lmt ls i < x) (h2 : x ≤ hiL cs ls i) : Vp cs (ls.set i x) := by
  have hlen := v.len
  obtain ⟨c, hc⟩ := get_ex (l := cs) (i := i) (by omega)
  have hx0 : 0 ≤ x := by
    cases i with
    | zero => simp only [lmt] at h1; omega
    | succ j =>
      obtain ⟨l, hl⟩ := get_ex (l := ls) (i := j) (by omega)
      simp only [lmt, hl, Option.getD_some] at h1
      have := v.lpos j l hl
      omega
  have hxc : x ≤ c := by
    unfold hiL at h2
    rw [hc] at h2
    split at h2
    · split at h2 <;> simp only [Option.getD_some] at * <;> omega
    · exact h2
  refine ⟨by simp [hlen], v.asc, v.pos, fun j a b ha hb => ?_, fun j a ha => ?_, fun j a b ha hb => ?_⟩
  · rcases lset_get ha with ⟨rfl, rfl, _⟩ | ⟨h3, ha⟩
    · rcases lset_get hb with ⟨h4, _, _⟩ | ⟨h4, hb⟩
      · omega
      · unfold hiL at h2
        rw [hb, hc] at h2
        simp only [Option.getD_some] at h2
        split at h2 <;> omega
    · have ha2 := ha
      rcases lset_get hb with ⟨rfl, rfl, _⟩ | ⟨h4, hb⟩
      · have e : lmt ls (j + 1) = a := by
          show ls[j]?.getD 0 = a
          rw [ha2]
          rfl
        rw [e] at h1
        exact h1
      · exact v.lasc j a b ha hb
  · rcases lset_get ha with ⟨rfl, rfl, _⟩ | ⟨h3, ha⟩
    · exact hx0
    · exact v.lpos j a ha
  · rcases lset_get ha with ⟨rfl, rfl, _⟩ | ⟨h3, ha⟩
    · rw [hc] at hb
      cases hb
      exact hxc
    · exact v.le j a b ha hb
theorem Vp.btw {cs ls : List Int} (v : Vp cs ls) {i : Nat} {l : Int} (hl : ls[i]? = some l) : lmt ls i < l ∧ l ≤ hiL cs ls i := by
  have hlen := v.len
  have hi := get_lt hl
  obtain ⟨c, hc⟩ := get_ex (l := cs) (i := i) (by omega)
  have h1 := v.le i l c hl hc
  refine ⟨?_, ?_⟩
  · cases i with
    | zero =>
      have := v.lpos 0 l hl
      simp only [lmt]
      omega
    | succ j =>
      obtain ⟨l2, hl2⟩ := get_ex (l := ls) (i := j) (by omega)
      have := v.lasc j l2 l hl2 hl
      simp only [lmt, hl2, Option.getD_some]
      exact this
  · unfold hiL
    rw [hc]
    cases hl2 : ls[i + 1]? with
    | none => exact h1
    | some l2 =>
      have := v.lasc i l l2 hl hl2
      simp only [Option.getD_some]
      split <;> omega
theorem PB.set {L : Nat} {B F : Int} {cs ls : List Int} {fx x : Int} {i : Nat} (h : PB L B F cs ls fx) (hi : i < ls.length) (h1 : lmt ls i < x) (h2 : x ≤ hiL cs ls i) : PB L B F cs (ls.set i x) fx :=
  ⟨h.v.set hi h1 h2, h.len, h.cB, h.f0, h.f1⟩
theorem set_self {l : List Int} {i : Nat} {x : Int} (h : l[i]? = some x) : l.set i x = l := by
  apply List.ext_getElem?
  intro j
  rw [List.getElem?_set]
  split
  · rename_i e
    subst e
    rw [if_pos (get_lt h), h]
  · rfl
def LeL (l l' : List Int) : Prop := l.length = l'.length ∧ ∀ (i : Nat) (a b : Int), l[i]? = some a → l'[i]? = some b → a ≤ b
theorem LeL.refl (l : List Int) : LeL l l := ⟨rfl, fun i a b h1 h2 => by
  rw [h1] at h2
  cases h2
  exact Int.le_refl _⟩
theorem LeL.set {l : List Int} {i : Nat} {x y : Int} (h : x ≤ y) : LeL (l.set i x) (l.set i y) := ⟨by simp, fun j a b ha hb => by
  rcases lset_get ha with ⟨rfl, rfl, _⟩ | ⟨h1, ha⟩
  · rcases lset_get hb with ⟨_, rfl, _⟩ | ⟨h2, _⟩
    · exact h
    · exact absurd rfl h2
  · rcases lset_get hb with ⟨h2, _, _⟩ | ⟨_, hb⟩
    · exact absurd h2 h1
    · rw [ha] at hb
      cases hb
      exact Int.le_refl _⟩
theorem LeL.trans {a b c : List Int} (h : LeL a b) (h' : LeL b c) : LeL a c := ⟨h.1.trans h'.1, fun i x z hx hz => by
  obtain ⟨y, hy⟩ := get_ex (l := b) (i := i) (by rw [← h.1]; exact get_lt hx)
  exact Int.le_trans (h.2 i x y hx hy) (h'.2 i y z hy hz)⟩
theorem LeL.drop {l l' : List Int} (h : LeL l l') (n : Nat) : LeL (l.drop n) (l'.drop n) := ⟨by simp [h.1], fun i a b ha hb => by
  rw [List.getElem?_drop] at ha hb
  exact h.2 _ a b ha hb⟩
theorem LeL.take {l l' : List Int} (h : LeL l l') (n : Nat) : LeL (l.take n) (l'.take n) := ⟨by simp [h.1], fun i a b ha hb => by
  rw [List.getElem?_take] at ha hb
  split at ha
  · rename_i hi
    rw [if_pos hi] at hb
    exact h.2 _ a b ha hb
  · cases ha⟩
theorem LeL.sum : ∀ {l l' : List Int}, LeL l l' → l.sum ≤ l'.sum
  | [], [], _ => Int.le_refl _
  | [], _ :: _, h => by cases h.1
  | _ :: _, [], h => by cases h.1
  | a :: l, b :: l', h => by
    have h1 := h.2 0 a b rfl rfl
    have h2 := LeL.sum (l := l) (l' := l') (h.drop 1)
    rw [List.sum_cons, List.sum_cons]
    omega
theorem swN_mono {cs ls ls' : List Int} {fx : Int} {ab : Nat × Nat} (hlen : cs.length = ls.length + 1) (h : LeL ls ls') (hm : ab ∈ prsR 0 ls.length) : (swN (cs.zip ls) (2 * fx) ab).1 ≤ (swN (cs.zip ls') (2 * fx) ab).1 ∧ (swN (cs.zip ls') (2 * fx) ab).2 ≤ (swN (cs.zip ls) (2 * fx) ab).2 := by
  obtain ⟨a, b⟩ := ab
  have hp := mem_prsR hm
  simp only at hp
  have hl := h.1
  constructor
  · unfold swN sg
    simp only
    rw [drop_zip, drop_zip, sum_zip _ _ _ (by rw [List.length_drop]; omega) (by rw [List.length_drop]; omega), sum_zip _ _ _ (by rw [List.length_drop]; omega) (by rw [List.length_drop]; omega)]
    have := ((h.drop a).take (b + 1 - a)).sum
    omega
  · obtain ⟨c, hc⟩ := get_ex (l := cs) (i := b) (by omega)
    obtain ⟨ca, hca⟩ := get_ex (l := cs) (i := a) (by omega)
    obtain ⟨lb, hlb⟩ := get_ex (l := ls) (i := b) (by omega)
    obtain ⟨la, hla⟩ := get_ex (l := ls) (i := a) (by omega)
    obtain ⟨lb', hlb'⟩ := get_ex (l := ls') (i := b) (by omega)
    obtain ⟨la', hla'⟩ := get_ex (l := ls') (i := a) (by omega)
    have h1 := h.2 a la la' hla hla'
    unfold swN
    simp only [zip_at hc hlb, zip_at hca hla, zip_at hc hlb', zip_at hca hla', Option.getD_some]
    omega
def Kp (cs ls : List Int) (fx p q : Int) : Prop := ∀ ab, ab ∈ prsR 0 ls.length → (swN (cs.zip ls) (2 * fx) ab).1 * q ≤ p * (swN (cs.zip ls) (2 * fx) ab).2
theorem Kp.mono {cs ls ls' : List Int} {fx p q : Int} (hlen : cs.length = ls.length + 1) (h : LeL ls ls') (hp : 0 ≤ p) (hq : 0 ≤ q) (k : Kp cs ls' fx p q) : Kp cs ls fx p q := fun ab hab => by
  obtain ⟨h1, h2⟩ := swN_mono (fx := fx) hlen h hab
  have h3 := k ab (by rw [← h.1]; exact hab)
  have h4 := Int.mul_le_mul_of_nonneg_right h1 hq
  have h5 := Int.mul_le_mul_of_nonneg_left h2 hp
  omega
theorem Kp.more {cs ls : List Int} {fx p q p' q' : Int} (hp : PK cs ls fx) (hq : 0 < q) (hq' : 0 ≤ q') (h : p * q' ≤ p' * q) (k : Kp cs ls fx p q) : Kp cs ls fx p' q' := fun ab hab => by
  have hb := swN_bd hp hab
  exact fr_trans (by omega) hq hq' (k ab hab) h
end G
namespace G
open PySem
def Mx (cs ls : List Int) (fx p q : Int) (a : Nat) : Prop := ∀ (j : Nat) (l y : Int), a ≤ j → ls[j]? = some l → l < y → y ≤ hiL cs ls j → ¬ Kp cs (ls.set j y) fx p q
theorem LeL.set2 {l l' : List Int} (h : LeL l l') (j : Nat) (y : Int) : LeL (l.set j y) (l'.set j y) := ⟨by simp [h.1], fun i a b ha hb => by
  rcases lset_get ha with ⟨rfl, rfl, _⟩ | ⟨h1, ha⟩
  · rcases lset_get hb with ⟨_, rfl, _⟩ | ⟨h2, _⟩
    · exact Int.le_refl _
    · exact absurd rfl h2
  · rcases lset_get hb with ⟨h2, _, _⟩ | ⟨_, hb⟩
    · exact absurd h2 h1
    · exact h.2 i a b ha hb⟩
theorem LeL.up {l : List Int} {j : Nat} {a y : Int} (h : l[j]? = some a) (hy : a ≤ y) : LeL l (l.set j y) := by
  have := LeL.set (l := l) (i := j) hy
  rwa [set_self h] at this
theorem LeL.set1 {l l' : List Int} (h : LeL l l') {j : Nat} {y b : Int} (hb : l'[j]? = some b) (hy : y ≤ b) : LeL (l.set j y) l' := by
  have h1 := h.set2 j y
  have h2 := LeL.set (l := l') (i := j) (x := y) (y := b) hy
  rw [set_self hb] at h2
  exact h1.trans h2
theorem Mx.stay {cs ls ls' : List Int} {fx p q : Int} (hv : cs.length = ls.length + 1) (hp : 0 ≤ p) (hq : 0 ≤ q) (h : Mx cs ls fx p q 0) (v' : Vp cs ls') (le : LeL ls ls') (k : Kp cs ls' fx p q) : ls' = ls := by
  have key : ∀ d j, j + d = ls.length → ls'[j]? = ls[j]? := fun d => by
    induction d using Nat.strongRecOn with
    | ind d ih =>
      intro j hj
      rcases Nat.eq_zero_or_pos d with rfl | hd
      · have hl := le.1
        rw [show ls'[j]? = none from List.getElem?_eq_none_iff.2 (by omega), show ls[j]? = none from List.getElem?_eq_none_iff.2 (by omega)]
      · obtain ⟨l, hl⟩ := get_ex (l := ls) (i := j) (by omega)
        obtain ⟨l', hl'⟩ := get_ex (l := ls') (i := j) (by rw [← le.1]; omega)
        have h1 := le.2 j l l' hl hl'
        rw [hl, hl']
        congr 1
        rcases Int.lt_trichotomy l l' with z | z | z
        · have hb := (v'.btw hl').2
          have e : hiL cs ls' j = hiL cs ls j := by
            unfold hiL
            rw [ih (d - 1) (by omega) (j + 1) (by omega)]
          rw [e] at hb
          exact absurd (k.mono (by rw [List.length_set]; exact hv) (le.set1 hl' (Int.le_refl _)) hp hq) (h j l l' (Nat.zero_le _) hl z hb)
        · exact z.symm
        · omega
  apply List.ext_getElem?
  intro j
  rcases Nat.lt_or_ge j ls.length with h1 | h1
  · exact key (ls.length - j) j (by omega)
  · have hl := le.1
    rw [show ls'[j]? = none from List.getElem?_eq_none_iff.2 (by omega), show ls[j]? = none from List.getElem?_eq_none_iff.2 h1]
def Wq (cs ls : List Int) (p q : Int) : Prop := ∀ i, i < cs.length → ((qOf cs ls i).1 : Int) * q ≤ p * (qOf cs ls i).2
theorem qOf_int {cs ls : List Int} (v : Vp cs ls) {i : Nat} {c : Int} (hc : cs[i]? = some c) : ((qOf cs ls i).1 : Int) = c ∧ ((qOf cs ls i).2 : Int) = lmt ls i + (if i = 0 then 2 else 1) := by
  have hp := v.pos i c hc
  have hlen := v.len
  have hi := get_lt hc
  unfold qOf
  rw [hc]
  refine ⟨by simp only [Option.getD_some]; omega, ?_⟩
  cases i with
  | zero => simp [lmt]
  | succ j =>
    obtain ⟨l, hl⟩ := get_ex (l := ls) (i := j) (by omega)
    have := v.lpos j l hl
    simp only [lmt, hl, Option.getD_some]
    rw [if_neg (by omega)]
    omega
theorem lmt_le {ls ls' : List Int} (h : LeL ls ls') (i : Nat) : lmt ls i ≤ lmt ls' i := by
  cases i with
  | zero => exact Int.le_refl _
  | succ j =>
    simp only [lmt]
    cases hl : ls[j]? with
    | none =>
      rw [List.getElem?_eq_none_iff] at hl
      rw [List.getElem?_eq_none_iff.2 (by rw [← h.1]; exact hl)]
      exact Int.le_refl _
    | some l =>
      obtain ⟨l', hl'⟩ := get_ex (l := ls') (i := j) (by rw [← h.1]; exact get_lt hl)
      rw [hl']
      exact h.2 j l l' hl hl'
theorem Wq.mono {cs ls ls' : List Int} {p q : Int} (v : Vp cs ls) (v' : Vp cs ls') (le : LeL ls ls') (hp : 0 ≤ p) (w : Wq cs ls p q) : Wq cs ls' p q := fun i hi => by
  obtain ⟨c, hc⟩ := get_ex hi
  have h1 := w i hi
  obtain ⟨e1, e2⟩ := qOf_int v hc
  obtain ⟨e3, e4⟩ := qOf_int v' hc
  have h2 := lmt_le le i
  rw [e1, e2] at h1
  rw [e3, e4]
  have h3 := Int.mul_le_mul_of_nonneg_left (show lmt ls i + (if i = 0 then 2 else 1) ≤ lmt ls' i + (if i = 0 then 2 else 1) by omega) hp
  omega
end G
namespace G
open PySem
structure Swg (cs ls : List Int) (a b : Nat) (c l : Int) : Prop where
  hab : a ≤ b
  hb : b < ls.length
  hc : cs[b]? = some c
  hl : ls[a]? = some l
theorem Swg.of {cs ls : List Int} {ab : Nat × Nat} (v : Vp cs ls) (h : ab ∈ prsR 0 ls.length) : ∃ c l, Swg cs ls ab.1 ab.2 c l := by
  have hm := mem_prsR h
  have hlen := v.len
  obtain ⟨c, hc⟩ := get_ex (l := cs) (i := ab.2) (by omega)
  obtain ⟨l, hl⟩ := get_ex (l := ls) (i := ab.1) (by omega)
  exact ⟨c, l, hm.2.1, by omega, hc, hl⟩
section
variable {cs ls : List Int} {fx c l : Int} {a b : Nat}
end
end G
namespace G
open PySem
def UpC (cs : List Int) (off sz : Int) : Nat → List Mv → Prop
  | _, [] => True
  | lv, v :: vs => v.up = true ∧ v.lv = lv + 1 ∧ cs[lv]? = some v.cp ∧ lv + 1 < cs.length ∧ v.no = off + v.cp ∧ sz ≤ v.cp ∧ UpC cs off sz (lv + 1) vs
def DnC (ls : List Int) (off sz : Int) : Nat → List Mv → Prop
  | _, [] => True
  | lv, v :: vs => v.up = false ∧ 0 < lv ∧ v.lv = lv - 1 ∧ ls[lv - 1]? = some v.cp ∧ v.no = off - v.cp - 1 ∧ v.cp < sz ∧ DnC ls off sz (lv - 1) vs
def cpS (fx : Int) (vs : List Mv) : Int := (vs.map fun v => v.cp + fx).sum
def upS1 (vs : List Mv) : Int := (vs.map fun v => if v.up then (1 : Int) else -1).sum
theorem cpS_app {fx : Int} {a b : List Mv} : cpS fx (a ++ b) = cpS fx a + cpS fx b := by simp [cpS]
theorem upS1_app {a b : List Mv} : upS1 (a ++ b) = upS1 a + upS1 b := by simp [upS1]
theorem UpC.mono {cs : List Int} {off sz sz' : Int} (h : sz' ≤ sz) : ∀ {lv : Nat} {vs : List Mv}, UpC cs off sz lv vs → UpC cs off sz' lv vs
  | _, [], _ => trivial
  | lv, v :: vs, ⟨h1, h2, h3, h4, h5, h6, h7⟩ => ⟨h1, h2, h3, h4, h5, by omega, UpC.mono h h7⟩
theorem DnC.mono {ls : List Int} {off sz sz' : Int} (h : sz ≤ sz') : ∀ {lv : Nat} {vs : List Mv}, DnC ls off sz lv vs → DnC ls off sz' lv vs
  | _, [], _ => trivial
  | lv, v :: vs, ⟨h1, h2, h3, h4, h5, h6, h7⟩ => ⟨h1, h2, h3, h4, h5, by omega, DnC.mono h h7⟩
structure RunC (fx : Int) (t : Tk) (r : Tk × List Mv) : Prop where
  pd : r.1.pd = t.pd + cpS fx r.2
  lv : (r.1.lv : Int) = t.lv + upS1 r.2
theorem RunC.trans {fx : Int} {t : Tk} {r q : Tk × List Mv} (a : RunC fx t r) (b : RunC fx r.1 q) : RunC fx t (q.1, r.2 ++ q.2) :=
  ⟨by have := a.pd; have := b.pd; simp only [cpS_app]; omega, by have := a.lv; have := b.lv; simp only [upS1_app]; omega⟩
end G
namespace G
open PySem
inductive Parted : List Opn → List Opn → Prop
  | nil : Parted [] []
  | one {o : Opn} {os qs : List Opn} : Parted os qs → Parted (o :: os) (o :: qs)
  | two {b : Bool} {x y : Int} {os qs : List Opn} : 1 ≤ x → 1 ≤ y → Parted os qs → Parted ((b, x + y) :: os) ((b, x) :: (b, y) :: qs)
theorem Parted.ok {os qs : List Opn} (h : Parted os qs) : (∀ o, o ∈ os → okOp o) → ∀ o, o ∈ qs → okOp o := by
  induction h with
  | nil => exact fun h => h
  | one _ ih =>
    intro h q hq
    rcases List.mem_cons.1 hq with rfl | hq
    · exact h _ (by simp)
    · exact ih (fun o ho => h o (by simp [ho])) q hq
  | @two b x y os qs hx hy _ ih =>
    intro h q hq
    have h1 := h (b, x + y) (by simp)
    unfold okOp at h1
    simp only at h1
    simp only [List.mem_cons] at hq
    rcases hq with rfl | rfl | hq
    · exact ⟨hx, by simp only; omega⟩
    · exact ⟨hy, by simp only; omega⟩
    · exact ih (fun o ho => h o (by simp [ho])) q hq
theorem Parted.len {os qs : List Opn} (h : Parted os qs) : qs.length ≤ 2 * os.length := by
  induction h with
  | nil => simp
  | one _ ih => simp only [List.length_cons]; omega
  | two _ _ _ ih => simp only [List.length_cons]; omega
theorem Parted.sum {os qs : List Opn} (h : Parted os qs) : (qs.map fun o => o.2).sum = (os.map fun o => o.2).sum := by
  induction h with
  | nil => rfl
  | one _ ih => simp only [List.map_cons, List.sum_cons]; omega
  | two _ _ _ ih => simp only [List.map_cons, List.sum_cons]; omega
end G
set_option maxHeartbeats 1000000
namespace G
open PySem
structure Cp0 (cs : List Int) : Prop where
  ne : cs ≠ []
  asc : ∀ (i : Nat) (a b : Int), cs[i]? = some a → cs[i + 1]? = some b → a < b
  pos : ∀ (i : Nat) (a : Int), cs[i]? = some a → 1 ≤ a
theorem wp_niDM {a b : M D} {m : Hs} {Q : D → Hs → Prop} : wp (niDM a b) m Q = wp a m fun x m1 => wp b m1 fun y m2 => wp (niDS x y) m2 Q := by
  unfold niDM
  rw [Zax]
  congr 1
  funext x m1
  rw [Zax]
theorem wp_inDM {a b : M D} {m : Hs} {Q : D → Hs → Prop} : wp (inDM a b) m Q = wp a m fun x m1 => wp b m1 fun y m2 => wp (inDS x y) m2 Q := by
  unfold inDM
  rw [Zax]
  congr 1
  funext x m1
  rw [Zax]
theorem wp_zpM {f : List D → D} {a b : M D} {m : Hs} {Q : D → Hs → Prop} : wp (zpM f a b) m Q = wp a m fun x m1 => wp b m1 fun y m2 => wp (zpS f x y) m2 Q := by
  unfold zpM
  rw [Zax]
  congr 1
  funext x m1
  rw [Zax]
theorem w_zpFF {f : List D → D} {xs ys : List D} {m : Hs} {Q : D → Hs → Prop} : wp (zpS f (.fl xs) (.fl ys)) m Q = Q (f (zpL xs ys)) m := id rfl
theorem wp_isBM {a b : M D} {m : Hs} {Q : D → Hs → Prop} : wp (isBM a b) m Q = wp a m fun x m1 => wp b m1 fun y m2 => wp (isBS x y) m2 Q := by
  unfold isBM
  rw [Zax]
  congr 1
  funext x m1
  rw [Zax]
theorem wp_nsBM {a b : M D} {m : Hs} {Q : D → Hs → Prop} : wp (nsBM a b) m Q = wp a m fun x m1 => wp b m1 fun y m2 => wp (nsBS x y) m2 Q := by
  unfold nsBM
  rw [Zax]
  congr 1
  funext x m1
  rw [Zax]
theorem w_isBB {a b : Bool} {m : Hs} {Q : D → Hs → Prop} : wp (isBS (.bl a) (.bl b)) m Q = Q (.bl (decide (a = b))) m := id rfl
theorem w_nsBB {a b : Bool} {m : Hs} {Q : D → Hs → Prop} : wp (nsBS (.bl a) (.bl b)) m Q = Q (.bl (!decide (a = b))) m := id rfl
end G
namespace G
open PySem
theorem mxI_mem (r : List Int) (a : Int) : mxI a r ∈ a :: r := (mxI_ok r a).1
theorem mxI_ge (r : List Int) (a : Int) {y : Int} (h : y ∈ a :: r) : y ≤ mxI a r := (mxI_ok r a).2 y h
theorem mxI_le {r : List Int} {a b : Int} (h : ∀ y, y ∈ a :: r → y ≤ b) : mxI a r ≤ b := h _ (mxI_mem r a)
section
variable {V : Type} (w : V → Int) (suc : V → List (V × Int))
def stp (X : V → Int) (v : V) : Int := w v + mxI 0 ((suc v).map fun e => X e.1 - e.2)
def itr : Nat → V → Int
  | 0 => fun _ => 0
  | n + 1 => stp w suc (itr n)
variable {w suc}
theorem stp_mono {S : V → Prop} (hS : ∀ v, S v → ∀ e, e ∈ suc v → S e.1) {X Y : V → Int} (h : ∀ v, S v → X v ≤ Y v) : ∀ v, S v → stp w suc X v ≤ stp w suc Y v := fun v hv => by
  unfold stp
  have : mxI 0 ((suc v).map fun e => X e.1 - e.2) ≤ mxI 0 ((suc v).map fun e => Y e.1 - e.2) := mxI_le fun y hy => by
    rcases List.mem_cons.1 hy with rfl | hy
    · exact mxI_ge _ _ List.mem_cons_self
    · obtain ⟨e, he, rfl⟩ := List.mem_map.1 hy
      have h1 := h e.1 (hS v hv e he)
      have h2 := mxI_ge ((suc v).map fun e => Y e.1 - e.2) 0 (List.mem_cons_of_mem _ (List.mem_map_of_mem (f := fun e => Y e.1 - e.2) he))
      omega
  omega
theorem itr_le {S : V → Prop} (hS : ∀ v, S v → ∀ e, e ∈ suc v → S e.1) (hw : ∀ v, S v → 0 ≤ w v) : ∀ (n : Nat) (v : V), S v → itr w suc n v ≤ itr w suc (n + 1) v
  | 0, v, hv => by
    show (0 : Int) ≤ w v + mxI 0 _
    exact Int.add_nonneg (hw v hv) (mxI_ge _ _ List.mem_cons_self)
  | n + 1, v, hv => stp_mono hS (fun u hu => itr_le hS hw n u hu) v hv
theorem itr_le' {S : V → Prop} (hS : ∀ v, S v → ∀ e, e ∈ suc v → S e.1) (hw : ∀ v, S v → 0 ≤ w v) {v : V} (hv : S v) : ∀ {m n : Nat}, m ≤ n → itr w suc m v ≤ itr w suc n v
  | m, 0, h => by
    rw [Nat.le_zero.1 h]
    exact Int.le_refl _
  | m, n + 1, h => by
    rcases Nat.lt_or_ge m (n + 1) with h1 | h1
    · exact Int.le_trans (itr_le' hS hw hv (Nat.lt_succ_iff.1 h1)) (itr_le hS hw n v hv)
    · rw [show m = n + 1 by omega]
      exact Int.le_refl _
theorem crit {S : V → Prop} (hS : ∀ v, S v → ∀ e, e ∈ suc v → S e.1) (hw : ∀ v, S v → 0 ≤ w v) {T : V → Int} (hT : ∀ v, S v → stp w suc T v ≤ T v) : ∀ (n : Nat) (v : V), S v → itr w suc n v < itr w suc (n + 1) v →
    ∃ vs : List V, vs.length = n + 1 ∧ vs.Nodup ∧ (∀ x, x ∈ vs → S x ∧ ∃ j, j ≤ n ∧ itr w suc j x < itr w suc (j + 1) x ∧ T x - itr w suc (j + 1) x ≤ T v - itr w suc (n + 1) v)
  | 0, v, hv, h => ⟨[v], rfl, by simp, fun x hx => by
    rw [List.mem_singleton.1 hx]
    exact ⟨hv, 0, Nat.le_refl _, h, Int.le_refl _⟩⟩
  | n + 1, v, hv, h => by
    have e1 : itr w suc (n + 1 + 1) v = w v + mxI 0 ((suc v).map fun e => itr w suc (n + 1) e.1 - e.2) := rfl
    have e0 : itr w suc (n + 1) v = w v + mxI 0 ((suc v).map fun e => itr w suc n e.1 - e.2) := rfl
    have g0 := mxI_ge ((suc v).map fun e => itr w suc n e.1 - e.2) 0 (y := 0) List.mem_cons_self
    rcases List.mem_cons.1 (mxI_mem ((suc v).map fun e => itr w suc (n + 1) e.1 - e.2) 0) with hm | hm
    · rw [hm] at e1
      omega
    · obtain ⟨e, he, hm⟩ := List.mem_map.1 hm
      have he2 := hS v hv e he
      have g1 := mxI_ge ((suc v).map fun e => itr w suc n e.1 - e.2) 0 (List.mem_cons_of_mem _ (List.mem_map_of_mem (f := fun e => itr w suc n e.1 - e.2) he))
      have hlt : itr w suc n e.1 < itr w suc (n + 1) e.1 := by omega
      obtain ⟨vs, h1, h2, h3⟩ := crit hS hw hT n e.1 he2 hlt
      have hT1 := hT v hv
      have g2 := mxI_ge ((suc v).map fun e => T e.1 - e.2) 0 (List.mem_cons_of_mem _ (List.mem_map_of_mem (f := fun e => T e.1 - e.2) he))
      have e2 : stp w suc T v = w v + mxI 0 ((suc v).map fun e => T e.1 - e.2) := rfl
      have hD : T e.1 - itr w suc (n + 1) e.1 ≤ T v - itr w suc (n + 1 + 1) v := by omega
      refine ⟨v :: vs, by simp [h1], ?_, fun x hx => ?_⟩
      · rw [List.nodup_cons]
        refine ⟨fun hmem => ?_, h2⟩
        obtain ⟨_, j, hj, _, hj2⟩ := h3 v hmem
        have h4 := itr_le' hS hw hv (show j + 1 ≤ n + 1 by omega)
        omega
      · rcases List.mem_cons.1 hx with rfl | hx
        · exact ⟨hv, n + 1, Nat.le_refl _, h, Int.le_refl _⟩
        · obtain ⟨h5, j, hj, h6, h7⟩ := h3 x hx
          exact ⟨h5, j, by omega, h6, by omega⟩
theorem nodup_le {α : Type} [DecidableEq α] : ∀ (vs S : List α), vs.Nodup → (∀ v, v ∈ vs → v ∈ S) → vs.length ≤ S.length
  | [], _, _, _ => Nat.zero_le _
  | v :: vs, S, h, hs => by
    rw [List.nodup_cons] at h
    have hv := hs v List.mem_cons_self
    have ih := nodup_le vs (S.erase v) h.2 fun x hx => (List.mem_erase_of_ne fun e => h.1 (by rw [← e]; exact hx)).2 (hs x (List.mem_cons_of_mem _ hx))
    rw [List.length_erase_of_mem hv] at ih
    have := List.length_pos_of_mem hv
    simp only [List.length_cons]
    omega
theorem itr_fix [DecidableEq V] {S : List V} (hS : ∀ v, v ∈ S → ∀ e, e ∈ suc v → e.1 ∈ S) (hw : ∀ v, v ∈ S → 0 ≤ w v) {T : V → Int} (hT : ∀ v, v ∈ S → stp w suc T v ≤ T v) {n : Nat} (hn : S.length ≤ n) : ∀ v, v ∈ S → itr w suc (n + 1) v = itr w suc n v := fun v hv => by
  have h1 := itr_le (S := (· ∈ S)) hS hw n v hv
  rcases Int.lt_or_eq_of_le h1 with h | h
  · obtain ⟨vs, a1, a2, a3⟩ := crit (S := (· ∈ S)) hS hw hT n v hv h
    have := nodup_le vs S a2 fun x hx => (a3 x hx).1
    omega
  · exact h.symm
end
end G
namespace G
open PySem
def us (cs : List Int) (k : Nat) : Int := cs[k]?.getD 0
abbrev Nd := Bool × Nat
def wG (cs ls : List Int) (fx q : Int) : Nd → Int
  | (true, k) => q * (us cs k + fx)
  | (false, k) => q * (us ls k + fx)
def sucG (cs ls : List Int) (p : Int) : Nd → List (Nd × Int)
  | (true, k) => (if k + 1 < ls.length then [((true, k + 1), p * (us cs (k + 1) - us cs k))] else []) ++ [((false, k), p * (us cs k + 1 - us ls k))]
  | (false, k) => ((true, k), p * (us cs k + 1 - us ls k)) :: (if 0 < k then [((false, k - 1), p * (us ls k - us ls (k - 1)))] else [])
def ndS (N : Nat) : List Nd := (List.range N).map (fun k => (true, k)) ++ (List.range N).map fun k => (false, k)
theorem mem_ndS {N : Nat} {v : Nd} : v ∈ ndS N ↔ v.2 < N := by
  obtain ⟨b, k⟩ := v
  unfold ndS
  rw [List.mem_append, List.mem_map, List.mem_map]
  constructor
  · rintro (⟨j, h, e⟩ | ⟨j, h, e⟩) <;> cases e <;> exact List.mem_range.1 h
  · intro h
    cases b
    · exact .inr ⟨k, List.mem_range.2 h, rfl⟩
    · exact .inl ⟨k, List.mem_range.2 h, rfl⟩
theorem ndS_len {N : Nat} : (ndS N).length = 2 * N := by
  unfold ndS
  rw [List.length_append, List.length_map, List.length_map, List.length_range]
  omega
theorem sucG_in {cs ls : List Int} {p : Int} (v : Nd) (hv : v ∈ ndS ls.length) (e : Nd × Int) (he : e ∈ sucG cs ls p v) : e.1 ∈ ndS ls.length := by
  rw [mem_ndS] at *
  obtain ⟨b, k⟩ := v
  cases b
  · simp only [sucG, List.mem_cons] at he
    rcases he with rfl | he
    · exact hv
    · split at he
      · rw [List.mem_singleton.1 he]
        simp only at hv ⊢
        omega
      · cases he
  · simp only [sucG, List.mem_append, List.mem_singleton] at he
    rcases he with he | rfl
    · split at he
      · rw [List.mem_singleton.1 he]
        simp only
        omega
      · cases he
    · exact hv
section
variable {cs ls : List Int} {fx p q : Int}
theorem us_at {k : Nat} {c : Int} (h : cs[k]? = some c) : us cs k = c := by simp [us, h]
theorem PB.us0 {n : Nat} {B F : Int} (h : PB n B F cs ls fx) {k : Nat} (hk : k < ls.length) : 1 ≤ us cs k ∧ us cs k ≤ B ∧ 0 ≤ us ls k ∧ us ls k ≤ us cs k := by
  have hlen := h.v.len
  obtain ⟨c, hc⟩ := get_ex (l := cs) (i := k) (by omega)
  obtain ⟨l, hl⟩ := get_ex hk
  rw [us_at hc, us_at hl]
  have h1 := h.v.pos k c hc
  have h2 := h.cB c (List.mem_of_getElem? hc)
  have h3 := h.v.lpos k l hl
  have h4 := h.v.le k l c hl hc
  omega
theorem wG_nn {n : Nat} {B F : Int} (h : PB n B F cs ls fx) (hq : 0 ≤ q) (v : Nd) (hv : v ∈ ndS ls.length) : 0 ≤ wG cs ls fx q v := by
  rw [mem_ndS] at hv
  have h1 := h.us0 hv
  have h2 := h.f0
  obtain ⟨b, k⟩ := v
  cases b <;> simp only [wG] <;> exact Int.mul_nonneg hq (by simp only at h1; omega)
theorem rowR_mem {a : Nat} : ∀ {c b x : Nat}, b ≤ x → x < b + c → (a, x) ∈ rowR a b c
  | 0, b, x, h1, h2 => by omega
  | c + 1, b, x, h1, h2 => by
    unfold rowR
    rcases Nat.lt_or_ge b x with h | h
    · exact List.mem_cons_of_mem _ (rowR_mem (by omega) (by omega))
    · rw [show x = b by omega]
      exact List.mem_cons_self
theorem prsR_mem : ∀ {c a0 a b : Nat}, a0 ≤ a → a ≤ b → b < a0 + c → (a, b) ∈ prsR a0 c
  | 0, a0, a, b, h1, h2, h3 => by omega
  | c + 1, a0, a, b, h1, h2, h3 => by
    unfold prsR
    rw [List.mem_append]
    rcases Nat.lt_or_ge a0 a with h | h
    · exact .inr (prsR_mem (by omega) h2 (by omega))
    · rw [show a = a0 by omega]
      exact .inl (rowR_mem (by omega) (by omega))
theorem descend {N : Nat} (L M : Nat → Int) (h : ∀ a b, a ≤ b → b < N → L b ≤ M a) : ∃ g : Nat → Int, (∀ k, k < N → L k ≤ g k) ∧ (∀ k, k < N → g k ≤ M k) ∧ ∀ k, k + 1 < N → g (k + 1) ≤ g k := by
  refine ⟨fun k => mxI (L k) (((List.range N).filter fun b => decide (k ≤ b)).map L), fun k _ => mxI_ge _ _ List.mem_cons_self, fun k hk => mxI_le fun y hy => ?_, fun k hk => mxI_le fun y hy => ?_⟩
  · rcases List.mem_cons.1 hy with rfl | hy
    · exact h k k (Nat.le_refl _) hk
    · obtain ⟨b, hb, rfl⟩ := List.mem_map.1 hy
      rw [List.mem_filter, List.mem_range] at hb
      exact h k b (by simpa using hb.2) hb.1
  · have : ∀ b, k ≤ b → b < N → L b ≤ mxI (L k) (((List.range N).filter fun b => decide (k ≤ b)).map L) := fun b h1 h2 =>
      mxI_ge _ _ (List.mem_cons_of_mem _ (List.mem_map_of_mem (List.mem_filter.2 ⟨List.mem_range.2 h2, by simpa using h1⟩)))
    rcases List.mem_cons.1 hy with rfl | hy
    · exact this _ (by omega) hk
    · obtain ⟨b, hb, rfl⟩ := List.mem_map.1 hy
      rw [List.mem_filter, List.mem_range] at hb
      have hb2 : k + 1 ≤ b := by simpa using hb.2
      exact this b (by omega) hb.1
theorem bd_all (f : Nat → Int) : ∀ N : Nat, ∃ K : Int, 0 ≤ K ∧ ∀ k, k < N → f k ≤ K
  | 0 => ⟨0, Int.le_refl _, fun k h => absurd h (Nat.not_lt_zero _)⟩
  | N + 1 => by
    obtain ⟨K, h0, h⟩ := bd_all f N
    refine ⟨K + (if 0 ≤ f N then f N else 0), by split <;> omega, fun k hk => ?_⟩
    rcases Nat.lt_or_ge k N with h1 | h1
    · have := h k h1
      split <;> omega
    · rw [show k = N by omega]
      split <;> omega
def sU (cs : List Int) (fx q : Int) : Nat → Int
  | 0 => 0
  | k + 1 => sU cs fx q k + q * (us cs k + fx)
theorem sg_q {a : Nat} (hlen : cs.length = ls.length + 1) : ∀ n : Nat, a + n ≤ ls.length → sg (cs.zip ls) (fun x => x.1 + x.2 + 2 * fx) a n * q = (sU cs fx q (a + n) + sU ls fx q (a + n)) - (sU cs fx q a + sU ls fx q a)
  | 0, _ => by simp [sg]
  | n + 1, h => by
    obtain ⟨c, hc⟩ := get_ex (l := cs) (i := a + n) (by omega)
    obtain ⟨l, hl⟩ := get_ex (l := ls) (i := a + n) (by omega)
    have ih := sg_q (a := a) hlen n (by omega)
    rw [sg_snoc (zip_at hc hl), Int.add_mul, ih]
    have e : a + (n + 1) = (a + n) + 1 := by omega
    rw [e]
    simp only [sU]
    rw [us_at hc, us_at hl]
    have : (c + l + 2 * fx) * q = q * (c + fx) + q * (l + fx) := by
      rw [← Int.mul_add, Int.mul_comm]
      congr 1
      omega
    rw [this]
    omega
theorem pre_ex {n : Nat} {B F : Int} (h : PB n B F cs ls fx) (k : Kp cs ls fx p q) : ∃ T : Nd → Int, ∀ v, v ∈ ndS ls.length → stp (wG cs ls fx q) (sucG cs ls p) T v ≤ T v := by
  have hlen := h.v.len
  obtain ⟨g, g1, g2, g3⟩ := descend (N := ls.length) (fun b => (sU cs fx q (b + 1) + sU ls fx q (b + 1)) - (2 * (p * us cs b) + p)) (fun a => (sU cs fx q a + sU ls fx q a) - (2 * (p * us ls a) - p)) (fun a b hab hb => by
    have h1 := k (a, b) (prsR_mem (Nat.zero_le _) hab (by omega))
    obtain ⟨cb, hcb⟩ := get_ex (l := cs) (i := b) (by omega)
    obtain ⟨lb, hlb⟩ := get_ex hb
    obtain ⟨ca, hca⟩ := get_ex (l := cs) (i := a) (by omega)
    obtain ⟨la, hla⟩ := get_ex (l := ls) (i := a) (by omega)
    unfold swN at h1
    simp only [zip_at hcb hlb, zip_at hca hla, Option.getD_some] at h1
    have h2 := sg_q (fx := fx) (q := q) (a := a) hlen (b + 1 - a) (by omega)
    rw [show a + (b + 1 - a) = b + 1 by omega] at h2
    rw [h2] at h1
    rw [us_at hcb, us_at hla]
    have e : p * (2 * (cb + 1 - la)) = 2 * (p * cb) + 2 * p - 2 * (p * la) := by
      rw [show 2 * (cb + 1 - la) = cb + cb + (1 + 1) - (la + la) by omega]
      simp only [Int.mul_sub, Int.mul_add, Int.mul_one]
      omega
    rw [e] at h1
    omega)
  obtain ⟨K1, _, hK1⟩ := bd_all (fun k => q * (us cs k + fx) - (g k - sU cs fx q k + p * us cs k)) ls.length
  obtain ⟨K2, _, hK2⟩ := bd_all (fun k => q * (us ls k + fx) - (sU ls fx q (k + 1) - p * us ls k)) ls.length
  refine ⟨fun v => match v with
    | (true, k) => g k + (if K1 ≤ K2 then K2 else K1) - sU cs fx q k + p * us cs k
    | (false, k) => (if K1 ≤ K2 then K2 else K1) + sU ls fx q (k + 1) - p * us ls k, fun v hv => ?_⟩
  have hKK : K1 ≤ (if K1 ≤ K2 then K2 else K1) ∧ K2 ≤ (if K1 ≤ K2 then K2 else K1) := by split <;> omega
  generalize (if K1 ≤ K2 then K2 else K1) = K at *
  rw [mem_ndS] at hv
  obtain ⟨b, i⟩ := v
  simp only at hv
  have a1 := g1 i hv
  have a2 := g2 i hv
  have b1 := hK1 i hv
  have b2 := hK2 i hv
  have eU : sU cs fx q (i + 1) = sU cs fx q i + q * (us cs i + fx) := rfl
  have eL : sU ls fx q (i + 1) = sU ls fx q i + q * (us ls i + fx) := rfl
  have e5 : p * (us cs i + 1 - us ls i) = p * us cs i + p - p * us ls i := by rw [Int.mul_sub, Int.mul_add, Int.mul_one]
  unfold stp
  cases b
  · simp only [wG]
    have : mxI 0 ((sucG cs ls p (false, i)).map fun e => (match e.1 with
      | (true, k) => g k + K - sU cs fx q k + p * us cs k
      | (false, k) => K + sU ls fx q (k + 1) - p * us ls k) - e.2) ≤ K + sU ls fx q (i + 1) - p * us ls i - q * (us ls i + fx) := mxI_le fun y hy => by
      rcases List.mem_cons.1 hy with rfl | hy
      · omega
      · obtain ⟨e, he, rfl⟩ := List.mem_map.1 hy
        simp only [sucG, List.mem_cons] at he
        rcases he with rfl | he
        · simp only [e5]
          omega
        · split at he
          · rw [List.mem_singleton.1 he]
            have e3 : sU ls fx q (i - 1 + 1) = sU ls fx q i := by rw [show i - 1 + 1 = i by omega]
            simp only [Int.mul_sub, e3]
            omega
          · cases he
    omega
  · simp only [wG]
    have : mxI 0 ((sucG cs ls p (true, i)).map fun e => (match e.1 with
      | (true, k) => g k + K - sU cs fx q k + p * us cs k
      | (false, k) => K + sU ls fx q (k + 1) - p * us ls k) - e.2) ≤ g i + K - sU cs fx q i + p * us cs i - q * (us cs i + fx) := mxI_le fun y hy => by
      rcases List.mem_cons.1 hy with rfl | hy
      · omega
      · obtain ⟨e, he, rfl⟩ := List.mem_map.1 hy
        simp only [sucG, List.mem_append, List.mem_singleton] at he
        rcases he with he | rfl
        · split at he
          · rename_i hi
            rw [List.mem_singleton.1 he]
            have a3 := g3 i hi
            simp only [Int.mul_sub, eU]
            omega
          · cases he
        · simp only [e5]
          omega
    omega
end
end G
namespace G
open PySem
abbrev Rw := Option Int × Option Int
def rwT (N : Nat) (X : Nd → Int) (i : Nat) : Rw := (if i < N then some (X (true, i)) else none, if 0 < i then some (X (false, i - 1)) else none)
def ups (p c sz : Int) (r : Option Int) : Option Int := r.map fun x => x - p * (c + 1 - sz)
def dws (p lm sz : Int) (r : Option Int) : Option Int := r.map fun x => x - p * (sz - lm)
def crd (p c lm sz : Int) (r : Rw) : List Int := (ups p c sz r.1).toList ++ (dws p lm sz r.2).toList
theorem crd_up {cs ls : List Int} {p : Int} {X : Nd → Int} {k : Nat} (hk : k < ls.length) : crd p (us cs (k + 1)) (us ls k) (us cs k + 1) (rwT ls.length X (k + 1)) = (sucG cs ls p (true, k)).map fun e => X e.1 - e.2 := by
  have e1 : us cs (k + 1) + 1 - (us cs k + 1) = us cs (k + 1) - us cs k := by omega
  unfold crd rwT ups dws
  simp only [sucG]
  by_cases h : k + 1 < ls.length
  · simp [h, e1]
  · simp [h]
theorem crd_dn {cs ls : List Int} {p : Int} {X : Nd → Int} {k : Nat} (hk : k < ls.length) : crd p (us cs k) (lmt ls k) (us ls k) (rwT ls.length X k) = (sucG cs ls p (false, k)).map fun e => X e.1 - e.2 := by
  unfold crd rwT ups dws
  simp only [sucG, if_pos hk]
  cases k with
  | zero => simp
  | succ j =>
    have e1 : lmt ls (j + 1) = us ls j := rfl
    simp [e1]
abbrev itG (cs ls : List Int) (fx p q : Int) : Nat → Nd → Int := itr (wG cs ls fx q) (sucG cs ls p)
theorem itG_fix {cs ls : List Int} {fx p q : Int} {n : Nat} {B F : Int} (h : PB n B F cs ls fx) (hq : 0 ≤ q) (k : Kp cs ls fx p q) {j : Nat} (hj : 2 * ls.length ≤ j) : ∀ v, v ∈ ndS ls.length → itG cs ls fx p q (j + 1) v = itG cs ls fx p q j v := by
  obtain ⟨T, hT⟩ := pre_ex h k
  exact itr_fix (fun v hv e he => sucG_in v hv e he) (wG_nn h hq) hT (by rw [ndS_len]; exact hj)
end G
namespace G
open PySem
section
variable {m : Hs} {xs ys : List D} {x y z : D} {Q : D → Hs → Prop}
end
theorem kw_04 {f : List D → M D} {is : List Nat} {a b c d : D} {m : Hs} {Q : D → Hs → Prop} : wp (kwS f 0 4 is [] [a, b, c, d]) m Q = wp (f (pick is [a, b, c, d])) m Q := rfl
theorem pick_3210 {a b c d : D} : pick [3, 2, 1, 0] [a, b, c, d] = [d, c, b, a] := rfl
def catS (x y : D) : M (List D) := bnd (ask (lstOf x)) fun xs => bnd (ask (lstOf y)) fun ys => if xs.length + ys.length ≤ sizeLine then ret (xs ++ ys) else bad
theorem wp_catO {a b : M D} {m : Hs} {R : List D → Hs → Prop} : wp (catO a b) m R = wp a m fun x m1 => wp b m1 fun y m2 => wp (catS x y) m2 R := by
  unfold catO
  rw [Zax]
  congr 1
  funext x m1
  rw [Zax]
  congr 1
theorem w_catF {xs ys : List D} {m : Hs} {R : List D → Hs → Prop} : wp (catS (.fl xs) (.fl ys)) m R = (xs.length + ys.length ≤ sizeLine ∧ R (xs ++ ys) m) := by
  unfold catS
  rw [Zax, wp_ask]
  simp only [lstOf, Option.some.injEq, exists_eq_left']
  rw [Zax, wp_ask]
  simp only [lstOf, Option.some.injEq, exists_eq_left']
  by_cases h : xs.length + ys.length ≤ sizeLine
  · rw [if_pos h, wp_ret]
    simp [h]
  · rw [if_neg h]
    simp [h]
    exact id
def crdv (cs ls : List Int) (p : Int) (X : Nd → Int) (st : Nat × Int) : Int := mxI 0 (crd p (us cs st.1) (lmt ls st.1) st.2 (rwT ls.length X st.1))
section
variable {cs ls : List Int} {fx p q : Int} {X : Nd → Int} {i : Nat} {sz : Int}
theorem Sv.cap (h : Sv cs ls i sz) : cs[i]? = some (us cs i) ∧ sz ≤ us cs i := by
  obtain ⟨c, h1, h2⟩ := h.top
  rw [us_at h1]
  exact ⟨h1, h2⟩
theorem Sv.lo (v : Vp cs ls) (h : Sv cs ls i sz) : lmt ls i < sz := by
  cases i with
  | zero =>
    have := h.low
    simp only [lmt]
    omega
  | succ k =>
    have hc := get_lt h.cap.1
    have hlen := v.len
    obtain ⟨l, hl⟩ := get_ex (l := ls) (i := k) (by omega)
    have := h.lim k l rfl hl
    simp only [lmt, hl, Option.getD_some]
    exact this
end
end G
namespace G
open PySem
section
variable {cs ls : List Int} {fx p q : Int} {X : Nd → Int}
theorem crdv_up (hk : i < ls.length) : crdv cs ls p X (i + 1, us cs i + 1) = mxI 0 ((sucG cs ls p (true, i)).map fun e => X e.1 - e.2) := by
  rw [← crd_up hk]
  unfold crdv
  simp only
  rw [show lmt ls (i + 1) = us ls i from rfl]
theorem crdv_dn (hk : i < ls.length) : crdv cs ls p X (i, us ls i) = mxI 0 ((sucG cs ls p (false, i)).map fun e => X e.1 - e.2) := by
  rw [← crd_dn hk]
  rfl
end
end G
namespace G
open PySem
section
variable {cs ls : List Int} {fx p q : Int} {X : Nd → Int} {i : Nat} {sz : Int} {t : Tk}
theorem crdv_0 : 0 ≤ crdv cs ls p X (i, sz) := mxI_ge _ 0 (by simp)
theorem crdv_geU (h : i < ls.length) : X (true, i) - p * (us cs i + 1 - sz) ≤ crdv cs ls p X (i, sz) := mxI_ge _ 0 (by simp [crd, rwT, ups, h])
theorem crdv_geD {k : Nat} : X (false, k) - p * (sz - lmt ls (k + 1)) ≤ crdv cs ls p X (k + 1, sz) := mxI_ge _ 0 (by simp [crd, rwT, dws])
theorem crdv_le {z : Int} (h0 : 0 ≤ z) (hu : i < ls.length → X (true, i) - p * (us cs i + 1 - sz) ≤ z) (hd : ∀ k, i = k + 1 → X (false, k) - p * (sz - lmt ls i) ≤ z) : crdv cs ls p X (i, sz) ≤ z := by
  unfold crdv
  refine mxI_le fun y hy => ?_
  simp only [crd, List.mem_cons, List.mem_append, Option.mem_toList] at hy
  rcases hy with rfl | hy | hy
  · exact h0
  · simp only [ups, rwT] at hy
    split at hy
    · rename_i h
      simp at hy
      have := hu h
      omega
    · cases hy
  · simp only [dws, rwT] at hy
    split at hy
    · rename_i h
      simp at hy
      have := hd (i - 1) (by omega)
      omega
    · cases hy
theorem crdv_move {sz' : Int} (hp : 0 ≤ p) (h : sz' = sz + 1 ∨ sz' = sz - 1) : crdv cs ls p X (i, sz') ≤ crdv cs ls p X (i, sz) + p := by
  have h0 := crdv_0 (cs := cs) (ls := ls) (p := p) (X := X) (i := i) (sz := sz)
  refine crdv_le (by omega) (fun hi => ?_) (fun k hk => ?_)
  · have := crdv_geU (cs := cs) (p := p) (X := X) (sz := sz) hi
    rcases h with rfl | rfl
    · have e : p * (us cs i + 1 - (sz + 1)) = p * (us cs i + 1 - sz) - p := by rw [show us cs i + 1 - (sz + 1) = (us cs i + 1 - sz) - 1 by omega, Int.mul_sub, Int.mul_one]
      omega
    · have e : p * (us cs i + 1 - (sz - 1)) = p * (us cs i + 1 - sz) + p := by rw [show us cs i + 1 - (sz - 1) = (us cs i + 1 - sz) + 1 by omega, Int.mul_add, Int.mul_one]
      omega
  · subst hk
    have := crdv_geD (cs := cs) (ls := ls) (p := p) (X := X) (sz := sz) (k := k)
    rcases h with rfl | rfl
    · have e : p * (sz + 1 - lmt ls (k + 1)) = p * (sz - lmt ls (k + 1)) + p := by rw [show sz + 1 - lmt ls (k + 1) = (sz - lmt ls (k + 1)) + 1 by omega, Int.mul_add, Int.mul_one]
      omega
    · have e : p * (sz - 1 - lmt ls (k + 1)) = p * (sz - lmt ls (k + 1)) - p := by rw [show sz - 1 - lmt ls (k + 1) = (sz - lmt ls (k + 1)) - 1 by omega, Int.mul_sub, Int.mul_one]
      omega
theorem crd_one (v : Vp cs ls) (hX : ∀ v, v ∈ ndS ls.length → stp (wG cs ls fx q) (sucG cs ls p) X v ≤ X v) (hp : 0 ≤ p) (s : Sv cs ls t.lv t.sz) {b : Bool} (h1 : b = true → t.sz < us cs t.lv ∨ t.lv < ls.length) :
    crdv cs ls p X ((stS cs ls fx b t).1.lv, (stS cs ls fx b t).1.sz) + q * ((stS cs ls fx b t).1.pd - t.pd) ≤ crdv cs ls p X (t.lv, t.sz) + p := by
  obtain ⟨c1, c2⟩ := s.cap
  have hlen := v.len
  cases b with
  | true =>
    have h1 := h1 rfl
    simp only [stS, if_true, upS, c1]
    split
    · rename_i h
      simp only
      rw [Int.sub_self, Int.mul_zero]
      have := crdv_move (cs := cs) (ls := ls) (X := X) (i := t.lv) (sz := t.sz) hp (.inl rfl)
      omega
    · rename_i h
      have hi : t.lv < ls.length := by omega
      have e : t.sz = us cs t.lv := by omega
      have g := crdv_geU (cs := cs) (p := p) (X := X) (sz := t.sz) hi
      have g2 := hX (true, t.lv) (mem_ndS.2 hi)
      have e3 : stp (wG cs ls fx q) (sucG cs ls p) X (true, t.lv) = q * (us cs t.lv + fx) + mxI 0 ((sucG cs ls p (true, t.lv)).map fun e => X e.1 - e.2) := rfl
      rw [e3, ← crdv_up hi] at g2
      simp only
      rw [e] at g ⊢
      rw [show us cs t.lv + 1 - us cs t.lv = 1 by omega, Int.mul_one] at g
      rw [show t.pd + (us cs t.lv + fx) - t.pd = us cs t.lv + fx by omega]
      omega
  | false =>
    simp only [stS, Bool.false_eq_true, if_false, dnS]
    cases hl : t.lv with
    | zero =>
      simp only
      rw [Int.sub_self, Int.mul_zero]
      have := crdv_move (cs := cs) (ls := ls) (X := X) (i := 0) (sz := t.sz) hp (.inr rfl)
      omega
    | succ k =>
      obtain ⟨l, hl2⟩ := get_ex (l := ls) (i := k) (by have := get_lt c1; omega)
      have e1 : lmt ls (k + 1) = l := by simp [lmt, hl2]
      have e2 : us ls k = l := us_at hl2
      simp only [hl2]
      split
      · rename_i h
        have g := crdv_geD (cs := cs) (ls := ls) (p := p) (X := X) (sz := t.sz) (k := k)
        have hk := get_lt hl2
        have g2 := hX (false, k) (mem_ndS.2 hk)
        have e3 : stp (wG cs ls fx q) (sucG cs ls p) X (false, k) = q * (us ls k + fx) + mxI 0 ((sucG cs ls p (false, k)).map fun e => X e.1 - e.2) := rfl
        rw [e3, ← crdv_dn hk] at g2
        simp only
        rw [e1, show t.sz - l = 1 by omega, Int.mul_one] at g
        rw [e2] at g2
        rw [h, show t.pd + (l + fx) - t.pd = l + fx by omega]
        omega
      · simp only
        rw [Int.sub_self, Int.mul_zero]
        have := crdv_move (cs := cs) (ls := ls) (X := X) (i := k + 1) (sz := t.sz) hp (.inr rfl)
        omega
end
end G
namespace G
open PySem
theorem zip_take {cs ls : List Int} {n : Nat} : (cs.take (n + 1)).zip (ls.take n) = (cs.zip ls).take n := by
  apply List.ext_getElem?
  intro i
  rw [List.getElem?_take]
  rcases Nat.lt_or_ge i n with h | h
  · rw [if_pos h]
    rcases h1 : cs[i]? with _ | c
    · rw [List.getElem?_eq_none_iff.2 (by rw [List.length_zip, List.length_take, List.length_take]; have := List.getElem?_eq_none_iff.1 h1; omega), List.getElem?_eq_none_iff.2 (by rw [List.length_zip]; have := List.getElem?_eq_none_iff.1 h1; omega)]
    · rcases h2 : ls[i]? with _ | l
      · rw [List.getElem?_eq_none_iff.2 (by rw [List.length_zip, List.length_take, List.length_take]; have := List.getElem?_eq_none_iff.1 h2; omega), List.getElem?_eq_none_iff.2 (by rw [List.length_zip]; have := List.getElem?_eq_none_iff.1 h2; omega)]
      · rw [zip_at h1 h2, zip_at (c := c) (l := l) (by rw [List.getElem?_take, if_pos (by omega)]; exact h1) (by rw [List.getElem?_take, if_pos h]; exact h2)]
  · rw [if_neg (by omega), List.getElem?_eq_none_iff.2 (by rw [List.length_zip, List.length_take, List.length_take]; omega)]
theorem sg_take {P : List (Int × Int)} {f : Int × Int → Int} {a n k : Nat} (h : a + n ≤ k) : sg (P.take k) f a n = sg P f a n := by
  unfold sg
  rw [List.drop_take, List.take_take, Nat.min_eq_left (by omega)]
theorem swN_take {P : List (Int × Int)} {ex : Int} {ab : Nat × Nat} {k : Nat} (h1 : ab.1 ≤ ab.2) (h2 : ab.2 < k) : swN (P.take k) ex ab = swN P ex ab := by
  unfold swN
  rw [sg_take (by omega), List.getElem?_take, List.getElem?_take, if_pos (by omega), if_pos (by omega)]
theorem Vp.take {cs ls : List Int} {n : Nat} (v : Vp cs ls) (hn : n ≤ ls.length) : Vp (cs.take (n + 1)) (ls.take n) := by
  have hl := v.len
  have gc : ∀ (i : Nat) (a : Int), (cs.take (n + 1))[i]? = some a → cs[i]? = some a := fun i a h => by
    rw [List.getElem?_take] at h
    split at h
    · exact h
    · cases h
  have gl : ∀ (i : Nat) (a : Int), (ls.take n)[i]? = some a → ls[i]? = some a := fun i a h => by
    rw [List.getElem?_take] at h
    split at h
    · exact h
    · cases h
  exact ⟨by rw [List.length_take, List.length_take]; omega, fun i a b h1 h2 => v.asc i a b (gc _ _ h1) (gc _ _ h2), fun i a h => v.pos i a (gc _ _ h), fun i a b h1 h2 => v.lasc i a b (gl _ _ h1) (gl _ _ h2), fun i a h => v.lpos i a (gl _ _ h), fun i a b h1 h2 => v.le i a b (gl _ _ h1) (gc _ _ h2)⟩
theorem Kp.take {cs ls : List Int} {fx p q : Int} {n : Nat} (hn : n ≤ ls.length) (k : Kp cs ls fx p q) : Kp (cs.take (n + 1)) (ls.take n) fx p q := fun ab hab => by
  rw [List.length_take, Nat.min_eq_left hn] at hab
  have hm := mem_prsR hab
  have := k ab (prsR_mem (by omega) hm.2.1 (by omega))
  rw [zip_take, swN_take hm.2.1 (by omega)]
  exact this
end G
namespace G
open PySem
section
variable {cs ls : List Int} {fx p q : Int} {T : Nd → Int}
end
section
variable {V : Type} {w : V → Int} {suc : V → List (V × Int)}
end
end G
namespace G
open PySem
def hlv (o : Opn) : List Opn := if o.2 / 2 > 0 then [(o.1, o.2 / 2), (o.1, o.2 - o.2 / 2)] else [(o.1, o.2 - o.2 / 2)]
end G
namespace G
open PySem
section
variable {α β A B C : Type} {m : Hs} {R : Nat → List (Str × D) → Hs → Prop}
end
end G
namespace G
open PySem
section
variable {α β A B C A1 : Type} {m : Hs} {R : Nat → List (Str × D) → Hs → Prop}
end
end G
set_option maxHeartbeats 2000000
namespace G
open PySem L2 PySem.Spec PyProof.Rows
mutual
def wt : D → Nat
  | .non => 4
  | .bl _ => 5
  | .int _ => 1921
  | .str s => (reprText s).length
  | .tup xs => wtL xs + 2
  | .fl xs => wtL xs + 2
  | .sc xs => wtL xs + 2
  | .fd ks vs => wtL ks + wtL vs + 7
  | .ref _ => 0
def wtL : List D → Nat
  | [] => 0
  | x :: xs => wt x + 2 + wtL xs
end
theorem wtL_len : ∀ xs : List D, 2 * xs.length ≤ wtL xs
  | [] => by simp [wtL]
  | x :: xs => by
    have := wtL_len xs
    simp only [wtL, List.length_cons]
    omega
inductive Kd (B : Nat) : Nat → D → Prop
  | non {k : Nat} : Kd B k .non
  | bl {k : Nat} (b : Bool) : Kd B k (.bl b)
  | int {k : Nat} {i : Int} : i.natAbs ≤ B → Kd B k (.int i)
  | str {k : Nat} {s : Str} : PyData.strOk s = true → Kd B k (.str s)
  | tup {k : Nat} {xs : List D} : (∀ x, x ∈ xs → Kd B k x) → Kd B (k + 1) (.tup xs)
  | fl {k : Nat} {xs : List D} : (∀ x, x ∈ xs → Kd B k x) → Kd B (k + 1) (.fl xs)
  | fd0 {k : Nat} : Kd B (k + 1) (.fd [] [])
  | fd1 {k : Nat} {a x : D} (h0 : isKt [a] = false) : Kd B k a → Kd B k x → Kd B (k + 1) (.fd [a] [x])
theorem Kd.mono {B C j k : Nat} {d : D} (h : Kd B j d) (hB : B ≤ C) (hk : j ≤ k) : Kd C k d := by
  induction h generalizing k with
  | non => exact .non
  | bl b => exact .bl b
  | int h => exact .int (Nat.le_trans h hB)
  | str h => exact .str h
  | tup h ih =>
    obtain ⟨k, rfl⟩ : ∃ q, k = q + 1 := ⟨k - 1, by omega⟩
    exact .tup fun x hx => ih x hx (by omega)
  | fl h ih =>
    obtain ⟨k, rfl⟩ : ∃ q, k = q + 1 := ⟨k - 1, by omega⟩
    exact .fl fun x hx => ih x hx (by omega)
  | fd0 =>
    obtain ⟨k, rfl⟩ : ∃ q, k = q + 1 := ⟨k - 1, by omega⟩
    exact .fd0
  | fd1 h0 h1 h2 ih1 ih2 =>
    obtain ⟨k, rfl⟩ : ∃ q, k = q + 1 := ⟨k - 1, by omega⟩
    exact .fd1 h0 (ih1 (by omega)) (ih2 (by omega))
def Qd (k w : Nat) (x : D) : Prop := ∃ p, (∀ m, pyQ m k x = some p) ∧ p.showable = true ∧ p.shown.length ≤ w
def QdL (k w : Nat) (xs : List D) : Prop := ∃ ps, (∀ m, mapO (pyQ m k) xs = some ps) ∧ PyData.showableAll ps = true ∧ piled (PyData.shownAll ps) ≤ w
theorem QdL.of {k : Nat} : ∀ {xs : List D}, (∀ x, x ∈ xs → Qd k (wt x) x) → QdL k (wtL xs) xs
  | [], _ => ⟨[], fun m => rfl, rfl, Nat.le_refl _⟩
  | x :: xs, h => by
    obtain ⟨p, h1, h2, h3⟩ := h x List.mem_cons_self
    obtain ⟨ps, h4, h5, h6⟩ := QdL.of (xs := xs) fun y hy => h y (List.mem_cons_of_mem _ hy)
    refine ⟨p :: ps, fun m => by simp only [mapO, h1, h4], by simp [PyData.showableAll, h2, h5], ?_⟩
    simp only [PyData.shownAll, piled_cons, wtL]
    omega
structure Th (B k w : Nat) (d : D) : Prop where
  dt : Kd B k d
  wg : G.wt d ≤ w
theorem Th.mono {B C j k v w : Nat} {d : D} (h : Th B j v d) (hB : B ≤ C) (hk : j ≤ k) (hw : v ≤ w) : Th C k w d := ⟨h.dt.mono hB hk, Nat.le_trans h.wg hw⟩
theorem Th.non {B k w : Nat} (h : 4 ≤ w := by decide) : Th B k w .non := ⟨.non, h⟩
theorem Th.bl {B k w : Nat} (b : Bool) (h : 5 ≤ w := by decide) : Th B k w (.bl b) := ⟨.bl b, h⟩
theorem Th.int {B k w : Nat} {i : Int} (hi : i.natAbs ≤ B) (h : 1921 ≤ w := by decide) : Th B k w (.int i) := ⟨.int hi, h⟩
theorem Th.tup {B k w : Nat} {xs : List D} (h : ∀ x, x ∈ xs → Kd B k x) (hw : wtL xs + 2 ≤ w) : Th B (k + 1) w (.tup xs) := ⟨.tup h, hw⟩
theorem Th.fl {B k w : Nat} {xs : List D} (h : ∀ x, x ∈ xs → Kd B k x) (hw : wtL xs + 2 ≤ w) : Th B (k + 1) w (.fl xs) := ⟨.fl h, hw⟩
theorem Th.one {B k w : Nat} {d : D} (h : Th B k w d) : Th B (k + 1) (w + 4) (.tup [d]) := ⟨.tup (by simpa using h.dt), by
  have := h.wg
  simp only [G.wt, wtL]
  omega⟩
theorem Th.len {B k w : Nat} {xs : List D} (h : Th B k w (.tup xs)) : xs.length ≤ w := by
  have := wtL_len xs
  have := h.wg
  simp only [G.wt] at this
  omega
section
variable {xs ys : List D} {m : Hs} {Q : D → Hs → Prop} {a b : M D} {o : Op} {i j : Int} {p q : Bool} {x : D}
end
end G
namespace G
open PySem
section
variable {m : Hs} {Q : D → Hs → Prop} {ks ds : List D} {x y z : D}
end
theorem beqD_iff {a b : D} : beqD a b = true ↔ a = b := ⟨beqD_eq a b, fun h => by rw [h]; exact beqD_rfl b⟩
instance decD : DecidableEq D := fun a b => decidable_of_iff (beqD a b = true) beqD_iff
end G
namespace G
open PySem
abbrev Stt := Nat × Int
def rowS (cs ls : List Int) (i : Nat) : List Stt := (List.range (us cs i - lmt ls i).toNat).map fun (k : Nat) => (i, lmt ls i + 1 + (k : Int))
def stR (cs ls : List Int) : List Stt := ((List.range cs.length).map (rowS cs ls)).flatten
section
variable {cs ls : List Int} {fx p q : Int} {i : Nat} {sz : Int}
theorem mem_rowS {s : Stt} : s ∈ rowS cs ls i ↔ s.1 = i ∧ lmt ls i < s.2 ∧ s.2 ≤ us cs i := by
  obtain ⟨a, b⟩ := s
  unfold rowS
  rw [List.mem_map]
  constructor
  · rintro ⟨k, hk, e⟩
    rw [List.mem_range] at hk
    cases e
    exact ⟨rfl, by simp only; omega, by simp only; omega⟩
  · rintro ⟨h1, h2, h3⟩
    simp only at h1 h2 h3
    subst h1
    exact ⟨(b - lmt ls a - 1).toNat, List.mem_range.2 (by omega), by simp only [Prod.mk.injEq, true_and]; omega⟩
theorem lmt_ge (v : Vp cs ls) (h : i < cs.length) : -1 ≤ lmt ls i := by
  cases i with
  | zero => exact Int.le_refl _
  | succ k =>
    have hlen := v.len
    obtain ⟨l, hl⟩ := get_ex (l := ls) (i := k) (by omega)
    have := v.lpos k l hl
    simp only [lmt, hl, Option.getD_some]
    omega
theorem mem_stR (v : Vp cs ls) : (i, sz) ∈ stR cs ls ↔ Sv cs ls i sz := by
  unfold stR
  rw [List.mem_flatten]
  constructor
  · rintro ⟨L, hL, hs⟩
    obtain ⟨k, hk, rfl⟩ := List.mem_map.1 hL
    rw [List.mem_range] at hk
    obtain ⟨h1, h2, h3⟩ := mem_rowS.1 hs
    simp only at h1 h2 h3
    subst h1
    obtain ⟨c, hc⟩ := get_ex (l := cs) hk
    have := lmt_ge v hk
    refine ⟨⟨c, hc, by rw [← us_at hc]; exact h3⟩, by omega, fun q l e hl => ?_⟩
    subst e
    simp only [lmt, hl, Option.getD_some] at h2
    exact h2
  · intro h
    obtain ⟨c1, c2⟩ := h.cap
    exact ⟨rowS cs ls i, List.mem_map.2 ⟨i, List.mem_range.2 (get_lt c1), rfl⟩, mem_rowS.2 ⟨rfl, h.lo v, c2⟩⟩
def uT (cs : List Int) (fx : Int) (s : Stt) : Tk := (upS cs fx ⟨s.1, s.2, 0, 0⟩).1
def dT' (ls : List Int) (fx : Int) (s : Stt) : Tk := (dnS ls fx ⟨s.1, s.2, 0, 0⟩).1
def dbU (cs : List Int) (fx p q : Int) (W : Stt → Int) (s : Stt) : Int := q * (uT cs fx s).pd - p + W ((uT cs fx s).lv, (uT cs fx s).sz)
def dbD (ls : List Int) (fx p q : Int) (W : Stt → Int) (s : Stt) : Int := q * (dT' ls fx s).pd - p + W ((dT' ls fx s).lv, (dT' ls fx s).sz)
def cU (cs ls : List Int) (s : Stt) : Prop := s.2 < us cs s.1 ∨ s.1 < ls.length
def Clo (cs ls : List Int) (fx p q : Int) (W : Stt → Int) : Prop := ∀ i sz, Sv cs ls i sz → (cU cs ls (i, sz) → dbU cs fx p q W (i, sz) ≤ W (i, sz)) ∧ (0 < sz → dbD ls fx p q W (i, sz) ≤ W (i, sz))
theorem Sv.at_ (h : Sv cs ls i sz) : cs[i]? = some (us cs i) := h.cap.1
theorem uT_in (h : cs[i]? = some (us cs i)) (hs : sz < us cs i) : uT cs fx (i, sz) = ⟨i, sz + 1, 0, 0 + 1⟩ := by
  unfold uT upS
  simp only [h, hs, if_true]
theorem uT_up (h : cs[i]? = some (us cs i)) (hs : ¬ sz < us cs i) : uT cs fx (i, sz) = ⟨i + 1, sz + 1, 0 + (sz + fx), 0 + 1⟩ := by
  unfold uT upS
  simp only [h, hs, if_false]
theorem dT_0 : dT' ls fx (0, sz) = ⟨0, sz - 1, 0, 0 + 1⟩ := rfl
theorem dT_in {l : Int} (h : ls[i]? = some l) (hs : ¬ sz - 1 = l) : dT' ls fx (i + 1, sz) = ⟨i + 1, sz - 1, 0, 0 + 1⟩ := by
  unfold dT' dnS
  simp only [h, hs, if_false]
theorem dT_dn {l : Int} (h : ls[i]? = some l) (hs : sz - 1 = l) : dT' ls fx (i + 1, sz) = ⟨i, sz - 1, 0 + (sz - 1 + fx), 0 + 1⟩ := by
  unfold dT' dnS
  simp only [h, hs, if_true]
theorem dbU_in {W : Stt → Int} (h : cs[i]? = some (us cs i)) (hs : sz < us cs i) : dbU cs fx p q W (i, sz) = W (i, sz + 1) - p := by
  unfold dbU
  rw [uT_in h hs]
  simp only [Int.mul_zero]
  omega
theorem dbU_up {W : Stt → Int} (h : cs[i]? = some (us cs i)) (hs : sz = us cs i) : dbU cs fx p q W (i, sz) = q * (us cs i + fx) - p + W (i + 1, us cs i + 1) := by
  unfold dbU
  rw [uT_up h (by omega)]
  simp only [hs, Int.zero_add]
theorem dbD_in {W : Stt → Int} (v : Vp cs ls) (h : Sv cs ls i sz) (hs : lmt ls i < sz - 1) : dbD ls fx p q W (i, sz) = W (i, sz - 1) - p := by
  unfold dbD
  cases i with
  | zero =>
    rw [dT_0]
    simp only [Int.mul_zero]
    omega
  | succ k =>
    have := get_lt h.at_
    have hlen := v.len
    obtain ⟨l, hl⟩ := get_ex (l := ls) (i := k) (by omega)
    simp only [lmt, hl, Option.getD_some] at hs
    rw [dT_in hl (by omega)]
    simp only [Int.mul_zero]
    omega
theorem dbD_dn {W : Stt → Int} (hi : i < ls.length) (hs : sz - 1 = us ls i) : dbD ls fx p q W (i + 1, sz) = q * (us ls i + fx) - p + W (i, us ls i) := by
  unfold dbD
  obtain ⟨l, hl⟩ := get_ex hi
  rw [us_at hl] at hs ⊢
  rw [dT_dn hl hs]
  simp only [hs, Int.zero_add]
end
end G
namespace G
open PySem
section
variable {cs ls : List Int} {fx p q : Int} {i : Nat} {sz : Int}
theorem Sv.mid (v : Vp cs ls) (h : Sv cs ls i sz) {z : Int} (h1 : lmt ls i < z) (h2 : z ≤ us cs i) : Sv cs ls i z := by
  have hi := get_lt h.at_
  exact (mem_stR v).1 (by
    unfold stR
    rw [List.mem_flatten]
    exact ⟨rowS cs ls i, List.mem_map.2 ⟨i, List.mem_range.2 hi, rfl⟩, mem_rowS.2 ⟨rfl, h1, h2⟩⟩)
theorem Sv.of (v : Vp cs ls) (hi : i < cs.length) {z : Int} (h1 : lmt ls i < z) (h2 : z ≤ us cs i) : Sv cs ls i z :=
  (mem_stR v).1 (by
    unfold stR
    rw [List.mem_flatten]
    exact ⟨rowS cs ls i, List.mem_map.2 ⟨i, List.mem_range.2 hi, rfl⟩, mem_rowS.2 ⟨rfl, h1, h2⟩⟩)
theorem us_asc (v : Vp cs ls) (hi : i < ls.length) : us cs i < us cs (i + 1) ∧ us ls i ≤ us cs i ∧ lmt ls i < us ls i ∧ 0 ≤ us ls i := by
  have hlen := v.len
  obtain ⟨c, hc⟩ := get_ex (l := cs) (i := i) (by omega)
  obtain ⟨c2, hc2⟩ := get_ex (l := cs) (i := i + 1) (by omega)
  obtain ⟨l, hl⟩ := get_ex hi
  have h1 := v.asc i c c2 hc hc2
  have h2 := v.le i l c hl hc
  have h3 := v.lpos i l hl
  rw [us_at hc, us_at hc2, us_at hl]
  refine ⟨h1, h2, ?_, h3⟩
  cases i with
  | zero => simp only [lmt]; omega
  | succ k =>
    obtain ⟨l2, hl2⟩ := get_ex (l := ls) (i := k) (by omega)
    have := v.lasc k l2 l hl2 hl
    simp only [lmt, hl2, Option.getD_some]
    exact this
theorem lmt_s {k : Nat} : lmt ls (k + 1) = us ls k := rfl
theorem Sv.upS (v : Vp cs ls) (hi : i < ls.length) : Sv cs ls (i + 1) (us cs i + 1) := by
  have hlen := v.len
  have := us_asc v hi
  exact Sv.of v (by omega) (by rw [lmt_s]; omega) (by omega)
theorem Sv.dnS (v : Vp cs ls) (hi : i < ls.length) : Sv cs ls i (us ls i) := by
  have hlen := v.len
  have := us_asc v hi
  exact Sv.of v (by omega) (by omega) (by omega)
theorem itG_s {n : Nat} {v : Nd} : itG cs ls fx p q (n + 1) v = wG cs ls fx q v + mxI 0 ((sucG cs ls p v).map fun e => itG cs ls fx p q n e.1 - e.2) := rfl
theorem itG_up {n : Nat} (hi : i < ls.length) : itG cs ls fx p q (n + 1) (true, i) = q * (us cs i + fx) + crdv cs ls p (itG cs ls fx p q n) (i + 1, us cs i + 1) := by
  rw [itG_s, crdv_up hi]
  rfl
theorem itG_dn {n : Nat} (hi : i < ls.length) : itG cs ls fx p q (n + 1) (false, i) = q * (us ls i + fx) + crdv cs ls p (itG cs ls fx p q n) (i, us ls i) := by
  rw [itG_s, crdv_dn hi]
  rfl
end
end G
namespace G
open PySem
section
variable {cs ls : List Int} {fx p q : Int} {i : Nat} {sz : Int} {W0 W : Stt → Int}
def cUb (cs ls : List Int) (s : Stt) : Bool := decide (s.2 < us cs s.1) || decide (s.1 < ls.length)
theorem cUb_iff {s : Stt} : cUb cs ls s = true ↔ cU cs ls s := by simp [cUb, cU]
def nxW (cs ls : List Int) (fx p q : Int) (W : Stt → Int) (s : Stt) : Int := mxI (W s) ((if cUb cs ls s = true then [dbU cs fx p q W s] else []) ++ (if 0 < s.2 then [dbD ls fx p q W s] else []))
def putW (W : Stt → Int) (s : Stt) (x : Int) : Stt → Int := fun z => if z = s then x else W z
theorem putW_at {s : Stt} {x : Int} : putW W s x s = x := by simp [putW]
theorem putW_ne {s z : Stt} {x : Int} (h : z ≠ s) : putW W s x z = W z := by simp [putW, h]
theorem nx_ge {s : Stt} : W s ≤ nxW cs ls fx p q W s := mxI_ge _ _ List.mem_cons_self
theorem nx_U {s : Stt} (h : cU cs ls s) : dbU cs fx p q W s ≤ nxW cs ls fx p q W s := mxI_ge _ _ (by simp [cUb_iff.2 h])
theorem nx_D {s : Stt} (h : 0 < s.2) : dbD ls fx p q W s ≤ nxW cs ls fx p q W s := mxI_ge _ _ (by simp [h])
theorem nx_le {s : Stt} {z : Int} (h : W s ≤ z) (hU : cU cs ls s → dbU cs fx p q W s ≤ z) (hD : 0 < s.2 → dbD ls fx p q W s ≤ z) : nxW cs ls fx p q W s ≤ z := mxI_le fun y hy => by
  rcases List.mem_cons.1 hy with rfl | hy
  · exact h
  · rcases List.mem_append.1 hy with hy | hy
    · split at hy
      · rename_i hc
        rw [List.mem_singleton.1 hy]
        exact hU (cUb_iff.1 hc)
      · cases hy
    · split at hy
      · rename_i hc
        rw [List.mem_singleton.1 hy]
        exact hD hc
      · cases hy
theorem put_ge {s z : Stt} {x : Int} (h : W s ≤ x) : W z ≤ putW W s x z := by
  unfold putW
  split
  · rename_i e
    rw [e]
    exact h
  · exact Int.le_refl _
structure RsW (cs ls : List Int) (fx p q : Int) (r : Nat) (W : Stt → Int) : Prop where
  nn : ∀ i sz, Sv cs ls i sz → 0 ≤ W (i, sz)
  lo : ∀ i sz, Sv cs ls i sz → crdv cs ls p (itG cs ls fx p q r) (i, sz) ≤ W (i, sz)
  hi : ∀ X : Nd → Int, (∀ v, v ∈ ndS ls.length → stp (wG cs ls fx q) (sucG cs ls p) X v ≤ X v) → ∀ i sz, Sv cs ls i sz → W (i, sz) ≤ crdv cs ls p X (i, sz)
structure RdW (cs ls : List Int) (fx p q : Int) (r : Nat) (W0 : Stt → Int) (done : List Stt) (b : Bool) (W : Stt → Int) : Prop where
  ge : ∀ i sz, Sv cs ls i sz → W0 (i, sz) ≤ W (i, sz)
  hi : ∀ X : Nd → Int, (∀ v, v ∈ ndS ls.length → stp (wG cs ls fx q) (sucG cs ls p) X v ≤ X v) → ∀ i sz, Sv cs ls i sz → W (i, sz) ≤ crdv cs ls p X (i, sz)
  same : b = true → W = W0 ∧ ∀ i sz, (i, sz) ∈ done → (cU cs ls (i, sz) → dbU cs fx p q W0 (i, sz) ≤ W0 (i, sz)) ∧ (0 < sz → dbD ls fx p q W0 (i, sz) ≤ W0 (i, sz))
  diff : b = false → ∃ i sz, Sv cs ls i sz ∧ W0 (i, sz) < W (i, sz)
  up : ∀ i sz, (i, sz) ∈ done → i < ls.length → itG cs ls fx p q (r + 1) (true, i) - p * (us cs i + 1 - sz) ≤ W (i, sz)
  dn : ∀ k sz, (k + 1, sz) ∈ done.drop (stR cs ls).length → itG cs ls fx p q (r + 1) (false, k) - p * (sz - us ls k) ≤ W (k + 1, sz)
theorem dbU_le {X : Nd → Int} (v : Vp cs ls) (hp : 0 ≤ p) (hX : ∀ v, v ∈ ndS ls.length → stp (wG cs ls fx q) (sucG cs ls p) X v ≤ X v) (hW : ∀ i sz, Sv cs ls i sz → W (i, sz) ≤ crdv cs ls p X (i, sz)) (s : Sv cs ls i sz) (h : cU cs ls (i, sz)) : dbU cs fx p q W (i, sz) ≤ crdv cs ls p X (i, sz) := by
  have hc := crd_one (fx := fx) (q := q) (t := ⟨i, sz, 0, 0⟩) (b := true) v hX hp s fun _ => h
  have hs := s.cap.2
  simp only [stS, if_true] at hc
  have hlo := s.lo v
  have e : (upS cs fx ⟨i, sz, 0, 0⟩).1 = uT cs fx (i, sz) := rfl
  rw [e, Int.sub_zero] at hc
  have hsv : Sv cs ls (uT cs fx (i, sz)).lv (uT cs fx (i, sz)).sz := by
    by_cases z : sz < us cs i
    · rw [uT_in s.at_ z]
      exact s.mid v (by simp only; omega) (by simp only; omega)
    · rw [uT_up s.at_ z]
      have hi : i < ls.length := h.resolve_left z
      have := Sv.upS v hi
      rw [show us cs i = sz by omega] at this
      exact this
  have := hW _ _ hsv
  unfold dbU
  omega
theorem dbD_le {X : Nd → Int} (v : Vp cs ls) (hp : 0 ≤ p) (hX : ∀ v, v ∈ ndS ls.length → stp (wG cs ls fx q) (sucG cs ls p) X v ≤ X v) (hW : ∀ i sz, Sv cs ls i sz → W (i, sz) ≤ crdv cs ls p X (i, sz)) (s : Sv cs ls i sz) (h : 0 < sz) : dbD ls fx p q W (i, sz) ≤ crdv cs ls p X (i, sz) := by
  have hc := crd_one (fx := fx) (q := q) (t := ⟨i, sz, 0, 0⟩) (b := false) v hX hp s fun z => by cases z
  simp only [stS, Bool.false_eq_true, if_false] at hc
  have e : (dnS ls fx ⟨i, sz, 0, 0⟩).1 = dT' ls fx (i, sz) := rfl
  rw [e, Int.sub_zero] at hc
  have hsv : Sv cs ls (dT' ls fx (i, sz)).lv (dT' ls fx (i, sz)).sz := (dn_ok (fx := fx) (t := ⟨i, sz, 0, 0⟩) (goal := 0) v s h (Int.le_refl _)).1
  have := hW _ _ hsv
  unfold dbD
  omega
theorem RdW.step {r : Nat} {done : List Stt} {b : Bool} (v : Vp cs ls) (hp : 0 ≤ p) (h0 : RsW cs ls fx p q r W0) (h : RdW cs ls fx p q r W0 done b W) (s : Sv cs ls i sz) (hu : sz < us cs i → (i, sz + 1) ∈ done) (hd : (stR cs ls).length ≤ done.length → lmt ls i < sz - 1 → (i, sz - 1) ∈ done.drop (stR cs ls).length) :
    RdW cs ls fx p q r W0 (done ++ [(i, sz)]) (b && decide (nxW cs ls fx p q W (i, sz) = W (i, sz))) (putW W (i, sz) (nxW cs ls fx p q W (i, sz))) := by
  have hlen := v.len
  have hge : ∀ z, W z ≤ putW W (i, sz) (nxW cs ls fx p q W (i, sz)) z := fun z => put_ge nx_ge
  refine ⟨fun j z hs => Int.le_trans (h.ge j z hs) (hge _), fun X hX j z hs => ?_, fun hb => ?_, fun hb => ?_, fun j z hm hj => ?_, fun k z hm => ?_⟩
  · by_cases e : (j, z) = (i, sz)
    · rw [e, putW_at]
      exact nx_le (h.hi X hX i sz s) (fun c => dbU_le v hp hX (h.hi X hX) s c) fun c => dbD_le v hp hX (h.hi X hX) s c
    · rw [putW_ne e]
      exact h.hi X hX j z hs
  · rw [Bool.and_eq_true, decide_eq_true_eq] at hb
    obtain ⟨rfl, hc⟩ := h.same hb.1
    refine ⟨?_, fun j z hm => ?_⟩
    · funext z
      unfold putW
      split
      · rename_i e
        rw [e, hb.2]
      · rfl
    · rcases List.mem_append.1 hm with hm | hm
      · exact hc j z hm
      · have e := List.mem_singleton.1 hm
        rw [Prod.mk.injEq] at e
        rw [e.1, e.2]
        refine ⟨fun c => ?_, fun c => ?_⟩
        · rw [← hb.2]
          conv => rhs; rw [hb.2]
          have := nx_U (W := W) (fx := fx) (p := p) (q := q) c
          omega
        · have := nx_D (cs := cs) (ls := ls) (W := W) (fx := fx) (p := p) (q := q) (s := (i, sz)) c
          omega
  · rw [Bool.and_eq_false_iff] at hb
    rcases hb with hb | hb
    · obtain ⟨j, z, hs, hlt⟩ := h.diff hb
      exact ⟨j, z, hs, Int.lt_of_lt_of_le hlt (hge _)⟩
    · rw [decide_eq_false_iff_not] at hb
      refine ⟨i, sz, s, ?_⟩
      rw [putW_at]
      have := h.ge i sz s
      have := nx_ge (cs := cs) (ls := ls) (fx := fx) (p := p) (q := q) (W := W) (s := (i, sz))
      omega
  · rcases List.mem_append.1 hm with hm | hm
    · exact Int.le_trans (h.up j z hm hj) (hge _)
    · have e := List.mem_singleton.1 hm
      rw [e, putW_at]
      rw [Prod.mk.injEq] at e
      obtain ⟨rfl, rfl⟩ := e
      by_cases hlt : z < us cs j
      · have h1 := h.up j (z + 1) (hu hlt) hj
        have h2 := nx_U (W := W) (cs := cs) (ls := ls) (fx := fx) (p := p) (q := q) (s := (j, z)) (.inl hlt)
        rw [dbU_in s.at_ hlt] at h2
        have e : p * (us cs j + 1 - (z + 1)) = p * (us cs j + 1 - z) - p := by rw [show us cs j + 1 - (z + 1) = (us cs j + 1 - z) - 1 by omega, Int.mul_sub, Int.mul_one]
        omega
      · have hz : z = us cs j := by
          have := s.cap.2
          omega
        have h2 := nx_U (W := W) (cs := cs) (ls := ls) (fx := fx) (p := p) (q := q) (s := (j, z)) (.inr hj)
        rw [dbU_up s.at_ hz] at h2
        have h3 := h.ge _ _ (Sv.upS v hj)
        have h4 := h0.lo _ _ (Sv.upS v hj)
        rw [itG_up hj, show us cs j + 1 - z = 1 by omega, Int.mul_one]
        omega
  · by_cases hl : (stR cs ls).length ≤ done.length
    · rw [List.drop_append_of_le_length hl] at hm
      rcases List.mem_append.1 hm with hm | hm
      · exact Int.le_trans (h.dn k z hm) (hge _)
      · have e := List.mem_singleton.1 hm
        rw [e, putW_at]
        rw [Prod.mk.injEq] at e
        obtain ⟨rfl, rfl⟩ := e
        have hlo := s.lo v
        have hk := get_lt s.at_
        have ha := us_asc v (show k < ls.length by omega)
        have hz0 : 0 < z := by
          rw [lmt_s] at hlo
          omega
        have h2 := nx_D (W := W) (cs := cs) (ls := ls) (fx := fx) (p := p) (q := q) (s := (k + 1, z)) hz0
        by_cases hlt : lmt ls (k + 1) < z - 1
        · have h1 := h.dn k (z - 1) (hd hl hlt)
          rw [dbD_in v s hlt] at h2
          have e : p * (z - 1 - us ls k) = p * (z - us ls k) - p := by rw [show z - 1 - us ls k = (z - us ls k) - 1 by omega, Int.mul_sub, Int.mul_one]
          omega
        · rw [lmt_s] at hlt hlo
          rw [dbD_dn (by omega) (by omega)] at h2
          have h3 := h.ge _ _ (Sv.dnS v (show k < ls.length by omega))
          have h4 := h0.lo _ _ (Sv.dnS v (show k < ls.length by omega))
          rw [itG_dn (by omega), show z - us ls k = 1 by omega, Int.mul_one]
          omega
    · rw [List.drop_of_length_le (by simp only [List.length_append, List.length_singleton]; omega)] at hm
      cases hm
def ordR (cs ls : List Int) : List Stt := (stR cs ls).reverse ++ stR cs ls
theorem RdW.fin {r : Nat} {b : Bool} (v : Vp cs ls) (h0 : RsW cs ls fx p q r W0) (h : RdW cs ls fx p q r W0 (ordR cs ls) b W) : (b = true → W = W0 ∧ Clo cs ls fx p q W0) ∧ RsW cs ls fx p q (r + 1) W := by
  have hmem : ∀ {i sz}, Sv cs ls i sz → (i, sz) ∈ ordR cs ls := fun s => List.mem_append_right _ ((mem_stR v).2 s)
  refine ⟨fun hb => ?_, fun i sz s => Int.le_trans (h0.nn i sz s) (h.ge i sz s), fun i sz s => ?_, h.hi⟩
  · obtain ⟨e, hc⟩ := h.same hb
    exact ⟨e, fun i sz s => hc i sz (hmem s)⟩
  · have hlen := v.len
    have hi := get_lt s.at_
    refine crdv_le (Int.le_trans (h0.nn i sz s) (h.ge i sz s)) (fun hi => h.up i sz (hmem s) hi) fun k hk => ?_
    subst hk
    rw [lmt_s]
    refine h.dn k sz ?_
    unfold ordR
    rw [List.drop_left' (by simp)]
    exact (mem_stR v).2 s
theorem RsW.top {n : Nat} {B F : Int} {r : Nat} (h : PB n B F cs ls fx) (hq : 0 ≤ q) (k : Kp cs ls fx p q) (hr : 2 * ls.length ≤ r) (h0 : RsW cs ls fx p q r W0) (s : Sv cs ls i sz) : W0 (i, sz) = crdv cs ls p (itG cs ls fx p q r) (i, sz) := by
  have h1 := h0.lo _ _ s
  have h2 := h0.hi (itG cs ls fx p q r) (fun v hv => Int.le_of_eq (itG_fix h hq k hr v hv)) _ _ s
  omega
end
end G
namespace G
open PySem
section
variable {m : Hs} {Q : D → Hs → Prop} {tb : Nat → Option (List D → M D)} {a : M D} {x : D}
theorem wp_prpM : wp (prpM tb a) m Q = wp a m fun x m1 => wp (ask (prpO tb x)) m1 fun g m2 => wp (g [x]) m2 Q := by
  unfold prpM
  rw [Zax]
  congr 1
  funext x m1
  rw [Zax]
  congr 1
  funext g m2
  rw [wp_calm]
theorem wp_lenI : wp (lenI tb a) m Q = wp a m fun x m1 => wp (ask (prpO tb x)) m1 fun g m2 => wp (g [x]) m2 fun y m3 => wp (lenC y) m3 Q := by
  unfold lenI
  rw [Zax]
  congr 1
  funext x m1
  rw [Zax]
  congr 1
  funext g m2
  rw [Zax, wp_calm]
theorem w_lenC {i : Int} : wp (lenC (.int i)) m Q = ((0 ≤ i ∧ i < 2 ^ 63) ∧ Q (.int i) m) := by
  show wp (if 0 ≤ i ∧ i < 2 ^ 63 then ret (.int i) else bad) m Q = _
  rw [wp_gd, wp_ret]
end
end G
namespace G
open PySem
theorem wp_mulWM {a b : M D} {m : Hs} {Q : D → Hs → Prop} : wp (mulWM a b) m Q = wp a m fun x m1 => wp b m1 fun y m2 => wp (mulWS x y) m2 Q := by
  unfold mulWM
  rw [Zax]
  simp only [Zax]
end G
namespace G
open PySem
theorem wp_neI {tb : Nat → Option (List D → M D)} {a b : M D} {m : Hs} {Q : D → Hs → Prop} : wp (neI tb a b) m Q = wp a m fun x m1 => wp b m1 fun y m2 => wp (neS tb x y) m2 Q := by
  unfold neI
  rw [Zax]
  simp only [Zax]
theorem wp_isoM {ob : Nat → Option Bool} {a : M D} {m : Hs} {Q : D → Hs → Prop} : wp (isoM ob a) m Q = wp a m fun x m1 => wp (bnd (ask (isoO ob x)) fun b => ret (.bl b)) m1 Q := by
  unfold isoM
  rw [Zax]
end G
namespace G
open PySem
section
variable {m : Hs} {Q : D → Hs → Prop} {R : Unit → Hs → Prop} {n : Nat} {ks ds : List D} {k : Str} {v z : D}
theorem w_sdM {ks : List Str} {t : M (List D)} : wp (sdM ks t) m Q = wp t m fun xs m1 => Q (.ref m1.length) (m1 ++ [.sd (ks.map .str) xs]) := by
  unfold sdM
  rw [Zax]
  rfl
end
end G
namespace G
open PySem
section
variable {m : Hs} {Q : D → Hs → Prop} {a c : M D} {k : Bool} {xs : List D}
theorem wp_fidB : wp (fidB a c) m Q = wp a m fun x m1 => wp (ask (isFlO x)) m1 fun _ m2 => wp c m2 fun y m3 => wp (fidS x y) m3 Q := by
  unfold fidB
  simp only [Zax]
end
end G
namespace G
open PySem
section
variable {m : Hs} {Q : D → Hs → Prop} {R : Unit → Hs → Prop} {n : Nat} {ks ds xs : List D} {x y : D} {a c : M D}
theorem wp_dcpM : wp (dcpM a) m Q = wp a m fun x m1 => wp (ask (dcpF x)) m1 fun p m2 => Q (.ref m2.length) (m2 ++ [.sd p.1 p.2]) := by
  unfold dcpM
  simp only [Zax]
  rfl
theorem wp_neLM : wp (neLM a c) m Q = wp a m fun x m1 => wp c m1 fun y m2 => wp (neLS x y) m2 Q := by
  unfold neLM
  simp only [Zax]
end
end G
namespace G
open PySem
structure Pc where
  cs : List Int
  ls : List Int
  fx : Int
  mo : Int
structure Pc.Ok (c : Pc) : Prop where
  pb : PB 40 (10 ^ 18) (10 ^ 12) c.cs c.ls c.fx
  last : c.cs.getLast? = some c.mo
  mo : c.mo ≤ 10000
abbrev SitT : Type := Tk × List D
def sit0 : SitT := (⟨0, 0, 0, 0⟩, [])
structure PO where
  i : Nat
  b : Bool
  x : Int
def nxtS (c : Pc) (o : PO) (s : SitT) : SitT := if o.b = true then ((upS c.cs c.fx s.1).1, s.2 ++ [.int o.x]) else ((dnS c.ls c.fx s.1).1, s.2.dropLast)
def skO (P : Nat → Pc) : List PO → Nat → List SitT
  | [], _ => [sit0]
  | o :: r, j => if j = o.i then nxtS (P j) o ((skO P r j).headD sit0) :: skO P r j else skO P r j
def topO (P : Nat → Pc) (r : List PO) (j : Nat) : SitT := (skO P r j).headD sit0
theorem topO_hit {P : Nat → Pc} {o : PO} {r : List PO} : topO P (o :: r) o.i = nxtS (P o.i) o (topO P r o.i) := by
  unfold topO
  simp only [skO, if_true, List.headD_cons]
theorem topO_miss {P : Nat → Pc} {o : PO} {r : List PO} {j : Nat} (h : j ≠ o.i) : topO P (o :: r) j = topO P r j := by
  unfold topO
  simp only [skO, if_neg h]
def paidO (P : Nat → Pc) : List PO → Int
  | [] => 0
  | o :: r => paidO P r + ((topO P (o :: r) o.i).1.pd - (topO P r o.i).1.pd)
def CanO (c : Pc) (o : PO) (s : SitT) : Prop := if o.b = true then s.1.sz < c.mo ∧ 0 ≤ o.x ∧ o.x < 1000 else s.2 ≠ []
def GoodO (P : Nat → Pc) (N : Nat) (p q l : Int) : List PO → Prop
  | [] => True
  | o :: r => GoodO P N p q l r ∧ o.i < N ∧ CanO (P o.i) o (topO P r o.i) ∧ 0 ≤ l + p * ((r.length : Int) + 1) - q * paidO P (o :: r)
structure InvO (c : Pc) (k : Nat) (s : SitT) : Prop where
  sz : s.1.sz = s.2.length
  sv : Sv c.cs c.ls s.1.lv s.1.sz
  dn0 : 0 ≤ s.1.dn
  dnk : s.1.dn ≤ k
  pd0 : 0 ≤ s.1.pd
  pdk : s.1.pd ≤ s.1.dn * (2 * 10 ^ 12)
  xs : ∀ d, d ∈ s.2 → ∃ z : Int, d = .int z ∧ 0 ≤ z ∧ z < 1000
  ln : (s.2.length : Int) ≤ s.1.dn
theorem Vp.sv0 {cs ls : List Int} (v : Vp cs ls) : Sv cs ls 0 0 := by
  have h := v.len
  obtain ⟨c, hc⟩ := get_ex (l := cs) (i := 0) (by omega)
  exact ⟨⟨c, hc, by have := v.pos 0 c hc; omega⟩, by omega, fun q l e => by omega⟩
theorem inv0 {c : Pc} (h : c.Ok) : InvO c 0 sit0 := ⟨rfl, h.pb.v.sv0, by decide, by decide, by decide, by decide, (fun d hd => by cases hd), by decide⟩
theorem upS_dn {cs ls : List Int} {fx : Int} {t : Tk} (s : Sv cs ls t.lv t.sz) : (upS cs fx t).1.dn = t.dn + 1 := by
  obtain ⟨c, hc, _⟩ := s.top
  unfold upS
  rw [hc]
  dsimp only
  split <;> rfl
theorem upS_pd {cs ls : List Int} {fx : Int} {t : Tk} (s : Sv cs ls t.lv t.sz) (h0 : 0 ≤ fx) : t.pd ≤ (upS cs fx t).1.pd ∧ (upS cs fx t).1.pd ≤ t.pd + (t.sz + fx) := by
  obtain ⟨c, hc, _⟩ := s.top
  have := s.low
  unfold upS
  rw [hc]
  dsimp only
  split <;> dsimp only <;> omega
theorem dnS_dn {cs ls : List Int} {fx : Int} {t : Tk} (v : Vp cs ls) (s : Sv cs ls t.lv t.sz) : (dnS ls fx t).1.dn = t.dn + 1 := by
  obtain ⟨c, hc, _⟩ := s.top
  have hlen := v.len
  have hlv := get_lt hc
  unfold dnS
  split
  · rfl
  · split
    · split <;> rfl
    · rename_i k hk hz
      exfalso
      rw [List.getElem?_eq_none_iff] at hz
      omega
theorem dnS_pd {cs ls : List Int} {fx : Int} {t : Tk} (s : Sv cs ls t.lv t.sz) (h1 : 1 ≤ t.sz) (h0 : 0 ≤ fx) : t.pd ≤ (dnS ls fx t).1.pd ∧ (dnS ls fx t).1.pd ≤ t.pd + (t.sz + fx) := by
  unfold dnS
  split
  · dsimp only
    omega
  · split
    · split <;> dsimp only <;> omega
    · dsimp only
      omega
theorem InvO.next {c : Pc} {k : Nat} {s : SitT} {o : PO} (hc : c.Ok) (h : InvO c k s) (hg : CanO c o s) : InvO c (k + 1) (nxtS c o s) ∧ (nxtS c o s).1.dn = s.1.dn + 1 ∧ s.1.pd ≤ (nxtS c o s).1.pd ∧ (nxtS c o s).1.pd ≤ s.1.pd + 2 * 10 ^ 12 := by
  have hf0 := hc.pb.f0
  have hf1 := hc.pb.f1
  have hv := hc.pb.v
  have h1 := h.sz
  have h2 := h.dn0
  have h3 := h.dnk
  have h4 := h.pd0
  have h5 := h.pdk
  have hmo := hc.mo
  unfold nxtS
  unfold CanO at hg
  by_cases hb : o.b = true
  · rw [if_pos hb] at hg ⊢
    obtain ⟨hg, hx⟩ := hg
    obtain ⟨u1, u2, _⟩ := up_ok (fx := c.fx) (goal := c.mo) hv hc.last h.sv hg (Int.le_refl _)
    have u3 := upS_dn (fx := c.fx) h.sv
    obtain ⟨u4, u5⟩ := upS_pd h.sv hf0
    have e : ((s.2 ++ [D.int o.x]).length : Int) = s.2.length + 1 := by simp
    have h6 := h.ln
    refine ⟨⟨by dsimp only; rw [u2, e, h1], u1, by dsimp only; omega, by dsimp only; push_cast; omega, by dsimp only; omega, by dsimp only; omega, fun d hd => ?_, by dsimp only; omega⟩, by dsimp only; omega, u4, by dsimp only; omega⟩
    rcases List.mem_append.1 hd with z | z
    · exact h.xs d z
    · exact ⟨o.x, List.mem_singleton.1 z, hx⟩
  · rw [if_neg hb] at hg ⊢
    have hp : 1 ≤ s.2.length := List.length_pos_iff.2 hg
    obtain ⟨u1, u2, _⟩ := dn_ok (fx := c.fx) (goal := 0) hv h.sv (by omega) (Int.le_refl _)
    have u3 := dnS_dn (fx := c.fx) hv h.sv
    obtain ⟨u4, u5⟩ := dnS_pd (fx := c.fx) h.sv (by omega) hf0
    have hsz : s.1.sz ≤ 10000 := by
      obtain ⟨c1, hc1, hs⟩ := h.sv.top
      have := (hv.last hc.last hc1).1
      omega
    have e : ((s.2.dropLast).length : Int) = s.2.length - 1 := by
      rw [List.length_dropLast]
      omega
    have h6 := h.ln
    refine ⟨⟨by dsimp only; rw [u2, e, h1], u1, by dsimp only; omega, by dsimp only; push_cast; omega, by dsimp only; omega, by dsimp only; omega, fun d hd => h.xs d (List.dropLast_subset _ hd), by dsimp only; omega⟩, by dsimp only; omega, u4, by dsimp only; omega⟩
theorem GoodO.inv {P : Nat → Pc} {N : Nat} {p q l : Int} (hP : ∀ j, (P j).Ok) : ∀ (r : List PO), GoodO P N p q l r → ∀ j, InvO (P j) r.length (topO P r j)
  | [], _, j => inv0 (hP j)
  | o :: r, h, j => by
    by_cases e : j = o.i
    · subst e
      rw [topO_hit]
      exact (InvO.next (hP o.i) (GoodO.inv hP r h.1 o.i) h.2.2.1).1
    · rw [topO_miss e]
      have z := GoodO.inv hP r h.1 j
      exact ⟨z.sz, z.sv, z.dn0, by have := z.dnk; rw [List.length_cons]; push_cast; omega, z.pd0, z.pdk, z.xs, z.ln⟩
theorem GoodO.pd {P : Nat → Pc} {N : Nat} {p q l : Int} (hP : ∀ j, (P j).Ok) : ∀ (r : List PO), GoodO P N p q l r → 0 ≤ paidO P r ∧ paidO P r ≤ (r.length : Int) * (2 * 10 ^ 12)
  | [], _ => ⟨Int.le_refl _, by simp [paidO]⟩
  | o :: r, h => by
    obtain ⟨e1, e2⟩ := GoodO.pd hP r h.1
    obtain ⟨_, _, h2, h3⟩ := InvO.next (hP o.i) (GoodO.inv hP r h.1 o.i) h.2.2.1
    unfold paidO
    rw [topO_hit, List.length_cons]
    push_cast
    omega
def Pc.D (c : Pc) : D := pol c.cs c.ls c.fx
section
variable {α A B : Type} {m : Hs} {R : Nat → List (Str × D) → Hs → Prop}
end
end G
namespace G
open PySem
def El (d : D) : Prop := d = .non ∨ (d = .str "a" ∨ d = .str "b") ∨ ∃ z : Int, d = .int z ∧ 0 ≤ z ∧ z < 1000
structure PE where
  i : Nat
  b : Bool
  x : D
def nxtE (c : Pc) (o : PE) (s : SitT) : SitT := if o.b = true then ((upS c.cs c.fx s.1).1, s.2 ++ [o.x]) else ((dnS c.ls c.fx s.1).1, s.2.dropLast)
def skE (P : Nat → Pc) : List PE → Nat → List SitT
  | [], _ => [sit0]
  | o :: r, j => if j = o.i then nxtE (P j) o ((skE P r j).headD sit0) :: skE P r j else skE P r j
def topE (P : Nat → Pc) (r : List PE) (j : Nat) : SitT := (skE P r j).headD sit0
theorem topE_hit {P : Nat → Pc} {o : PE} {r : List PE} : topE P (o :: r) o.i = nxtE (P o.i) o (topE P r o.i) := by
  unfold topE
  simp only [skE, if_true, List.headD_cons]
theorem topE_miss {P : Nat → Pc} {o : PE} {r : List PE} {j : Nat} (h : j ≠ o.i) : topE P (o :: r) j = topE P r j := by
  unfold topE
  simp only [skE, if_neg h]
def paidE (P : Nat → Pc) : List PE → Int
  | [] => 0
  | o :: r => paidE P r + ((topE P (o :: r) o.i).1.pd - (topE P r o.i).1.pd)
def CanE (c : Pc) (o : PE) (s : SitT) : Prop := if o.b = true then s.1.sz < c.mo ∧ El o.x else s.2 ≠ []
def GoodE (P : Nat → Pc) (N : Nat) (p q l : Int) : List PE → Prop
  | [] => True
  | o :: r => GoodE P N p q l r ∧ o.i < N ∧ CanE (P o.i) o (topE P r o.i) ∧ 0 ≤ l + p * ((r.length : Int) + 1) - q * paidE P (o :: r)
structure InvE (c : Pc) (k : Nat) (s : SitT) : Prop where
  sz : s.1.sz = s.2.length
  sv : Sv c.cs c.ls s.1.lv s.1.sz
  dn0 : 0 ≤ s.1.dn
  dnk : s.1.dn ≤ k
  pd0 : 0 ≤ s.1.pd
  pdk : s.1.pd ≤ s.1.dn * (2 * 10 ^ 12)
  xs : ∀ d, d ∈ s.2 → El d
  ln : (s.2.length : Int) ≤ s.1.dn
theorem inv0E {c : Pc} (h : c.Ok) : InvE c 0 sit0 := ⟨rfl, h.pb.v.sv0, by decide, by decide, by decide, by decide, (fun d hd => by cases hd), by decide⟩
theorem InvE.next {c : Pc} {k : Nat} {s : SitT} {o : PE} (hc : c.Ok) (h : InvE c k s) (hg : CanE c o s) : InvE c (k + 1) (nxtE c o s) ∧ (nxtE c o s).1.dn = s.1.dn + 1 ∧ s.1.pd ≤ (nxtE c o s).1.pd ∧ (nxtE c o s).1.pd ≤ s.1.pd + 2 * 10 ^ 12 := by
  have hf0 := hc.pb.f0
  have hf1 := hc.pb.f1
  have hv := hc.pb.v
  have h1 := h.sz
  have h2 := h.dn0
  have h3 := h.dnk
  have h4 := h.pd0
  have h5 := h.pdk
  have hmo := hc.mo
  unfold nxtE
  unfold CanE at hg
  by_cases hb : o.b = true
  · rw [if_pos hb] at hg ⊢
    obtain ⟨hg, hx⟩ := hg
    obtain ⟨u1, u2, _⟩ := up_ok (fx := c.fx) (goal := c.mo) hv hc.last h.sv hg (Int.le_refl _)
    have u3 := upS_dn (fx := c.fx) h.sv
    obtain ⟨u4, u5⟩ := upS_pd h.sv hf0
    have e : ((s.2 ++ [o.x]).length : Int) = s.2.length + 1 := by simp
    have h6 := h.ln
    refine ⟨⟨by dsimp only; rw [u2, e, h1], u1, by dsimp only; omega, by dsimp only; push_cast; omega, by dsimp only; omega, by dsimp only; omega, fun d hd => ?_, by dsimp only; omega⟩, by dsimp only; omega, u4, by dsimp only; omega⟩
    rcases List.mem_append.1 hd with z | z
    · exact h.xs d z
    · rw [List.mem_singleton.1 z]
      exact hx
  · rw [if_neg hb] at hg ⊢
    have hp : 1 ≤ s.2.length := List.length_pos_iff.2 hg
    obtain ⟨u1, u2, _⟩ := dn_ok (fx := c.fx) (goal := 0) hv h.sv (by omega) (Int.le_refl _)
    have u3 := dnS_dn (fx := c.fx) hv h.sv
    obtain ⟨u4, u5⟩ := dnS_pd (fx := c.fx) h.sv (by omega) hf0
    have hsz : s.1.sz ≤ 10000 := by
      obtain ⟨c1, hc1, hs⟩ := h.sv.top
      have := (hv.last hc.last hc1).1
      omega
    have e : ((s.2.dropLast).length : Int) = s.2.length - 1 := by
      rw [List.length_dropLast]
      omega
    have h6 := h.ln
    refine ⟨⟨by dsimp only; rw [u2, e, h1], u1, by dsimp only; omega, by dsimp only; push_cast; omega, by dsimp only; omega, by dsimp only; omega, fun d hd => h.xs d (List.dropLast_subset _ hd), by dsimp only; omega⟩, by dsimp only; omega, u4, by dsimp only; omega⟩
theorem GoodE.inv {P : Nat → Pc} {N : Nat} {p q l : Int} (hP : ∀ j, (P j).Ok) : ∀ (r : List PE), GoodE P N p q l r → ∀ j, InvE (P j) r.length (topE P r j)
  | [], _, j => inv0E (hP j)
  | o :: r, h, j => by
    by_cases e : j = o.i
    · subst e
      rw [topE_hit]
      exact (InvE.next (hP o.i) (GoodE.inv hP r h.1 o.i) h.2.2.1).1
    · rw [topE_miss e]
      have z := GoodE.inv hP r h.1 j
      exact ⟨z.sz, z.sv, z.dn0, by have := z.dnk; rw [List.length_cons]; push_cast; omega, z.pd0, z.pdk, z.xs, z.ln⟩
theorem GoodE.pd {P : Nat → Pc} {N : Nat} {p q l : Int} (hP : ∀ j, (P j).Ok) : ∀ (r : List PE), GoodE P N p q l r → 0 ≤ paidE P r ∧ paidE P r ≤ (r.length : Int) * (2 * 10 ^ 12)
  | [], _ => ⟨Int.le_refl _, by simp [paidE]⟩
  | o :: r, h => by
    obtain ⟨e1, e2⟩ := GoodE.pd hP r h.1
    obtain ⟨_, _, h2, h3⟩ := InvE.next (hP o.i) (GoodE.inv hP r h.1 o.i) h.2.2.1
    unfold paidE
    rw [topE_hit, List.length_cons]
    push_cast
    omega
end G
set_option maxHeartbeats 4000000
namespace G
open PySem
section
variable {tb : Nat → Option (List D → M D)} {sb : Nat → Nat → Option Bool} {ob : Nat → Option Bool} {a b : M D} {m : Hs} {Q : D → Hs → Prop} {x y : D} {n k c d : Nat} {fs gs : List (Str × D)} {f : List D → M D}
theorem wp_eqI : wp (eqI tb sb a b) m Q = wp a m fun x m1 => wp b m1 fun y m2 => wp (eqIS tb sb x y) m2 Q := by
  unfold eqI
  rw [Zax]
  congr 1
  funext x m1
  rw [Zax]
theorem wp_nqI : wp (nqI tb sb a b) m Q = wp a m fun x m1 => wp b m1 fun y m2 => wp (nqS tb sb x y) m2 Q := by
  unfold nqI
  rw [Zax]
  congr 1
  funext x m1
  rw [Zax]
theorem wp_isoN : wp (isoN ob a) m Q = wp a m fun x m1 => wp (bnd (ask (isoO2 ob x)) fun b => ret (.bl b)) m1 Q := by
  unfold isoN
  rw [Zax]
end
end G
namespace G
open PySem
section
variable {a b : M D} {m : Hs} {Q : D → Hs → Prop} {s z : Str} {c : Nat} {i : Int} {ts : List (M D)}
theorem w_txB {β : Type} {f : Str → M β} {S : β → Hs → Prop} : wp (txB (.str s) f) m S = wp (f s) m S := id rfl
theorem wp_spltM : wp (spltM a b) m Q = wp a m fun x m1 => wp (txB x fun s => bnd b fun y => txB y fun t => if (t.length == 0) = false ∧ s.length + 2 ≤ sizeLine then ret (.fl ((Txt.split s t).map .str)) else bad) m1 Q := by
  unfold spltM
  rw [Zax]
theorem wp_prtM : wp (prtM a b) m Q = wp a m fun x m1 => wp (txB x fun s => bnd b fun y => txB y fun t => if (t.length == 0) = false ∧ s.length ≤ sizeLine then ret (.tup [.str (Txt.partition s t).1, .str (Txt.partition s t).2.1, .str (Txt.partition s t).2.2]) else bad) m1 Q := by
  unfold prtM
  rw [Zax]
theorem wp_joinM : wp (joinM a b) m Q = wp a m fun x m1 => wp (txB x fun s => bnd b fun y => bnd (ask (strsOf y)) fun ys => if (ys.map (·.length)).sum + ys.length * s.length ≤ 16777216 then ret (.str (Txt.join s ys)) else bad) m1 Q := by
  unfold joinM
  rw [Zax]
theorem strsL_map : ∀ ys : List Str, strsL (ys.map D.str) = some ys
  | [] => rfl
  | y :: ys => by
    show (strsL (ys.map D.str)).map _ = _
    rw [strsL_map ys]
    rfl
theorem w_strsF {ys : List Str} {R : List Str → Hs → Prop} : wp (ask (strsOf (.fl (ys.map D.str)))) m R = R ys m := by
  rw [wp_ask]
  simp only [strsOf, itemsOf, Option.bind, strsL_map, Option.some.injEq, exists_eq_left']
theorem w_strsT {ys : List Str} {R : List Str → Hs → Prop} : wp (ask (strsOf (.tup (ys.map D.str)))) m R = R ys m := by
  rw [wp_ask]
  simp only [strsOf, itemsOf, Option.bind, strsL_map, Option.some.injEq, exists_eq_left']
theorem wp_fmtM : wp (fmtM a) m Q = wp a m fun x m1 => wp (fmtS x) m1 Q := by
  unfold fmtM
  rw [Zax]
theorem w_fmtS : wp (fmtS (.str s)) m Q = (s.length ≤ sizeLine ∧ Q (.str s) m) := by
  show wp (if s.length ≤ sizeLine then ret (.str s) else bad) m Q = _
  rw [wp_gd, wp_ret]
theorem w_fmtI : wp (fmtS (.int i)) m Q = (i.natAbs.log2 < 1920 ∧ Q (.str (toString i)) m) := by
  show wp (if i.natAbs.log2 < 1920 then ret (.str (toString i)) else bad) m Q = _
  rw [wp_gd, wp_ret]
theorem wp_fs0 : wp (fsM [] s) m Q = Q (.str s) m := id rfl
theorem wp_fs1 : wp (fsM (a :: ts) s) m Q = wp a m fun x m1 => wp (txB x fun y => if (s ++ y).length ≤ sizeLine then fsM ts (s ++ y) else bad) m1 Q := by
  show wp (bnd a fun x => txB x fun y => if (s ++ y).length ≤ sizeLine then fsM ts (s ++ y) else bad) m Q = _
  rw [Zax]
theorem wp_chrI {R : Its → Hs → Prop} : wp (chrI a) m R = wp a m fun x m1 => wp (txB x fun s => ret (chrs s, [])) m1 R := by
  unfold chrI
  rw [Zax]
theorem wp_insM : wp (insM a b) m Q = wp a m fun x m1 => wp b m1 fun y m2 => wp (insS x y) m2 Q := by
  unfold insM
  rw [Zax]
  congr 1
  funext x m1
  rw [Zax]
theorem w_insS : wp (insS (.str ⟨#[c]⟩) (.str z)) m Q = Q (.bl (decide (c ∈ z.cps.toList))) m := id rfl
theorem wp_ixtM : wp (ixtM a b) m Q = wp a m fun x m1 => wp b m1 fun y m2 => wp (ixtS x y) m2 Q := by
  unfold ixtM
  rw [Zax]
  congr 1
  funext x m1
  rw [Zax]
theorem wp_idaM : wp (idaM a b) m Q = wp a m fun x m1 => wp b m1 fun y m2 => wp (idaS x y) m2 Q := by
  unfold idaM
  rw [Zax]
  congr 1
  funext x m1
  rw [Zax]
theorem w_idaS {y : D} : wp (idaS (.str z) y) m Q = wp (ixtS (.str z) y) m Q := id rfl
theorem w_idaF {xs : List D} {y : D} : wp (idaS (.fl xs) y) m Q = wp (idxS (.fl xs) y) m Q := id rfl
theorem w_idaT {xs : List D} {y : D} : wp (idaS (.tup xs) y) m Q = wp (idxS (.tup xs) y) m Q := id rfl
theorem wp_rptM : wp (rptM a b) m Q = wp a m fun x m1 => wp b m1 fun y m2 => wp (rptS x y) m2 Q := by
  unfold rptM
  rw [Zax]
  congr 1
  funext x m1
  rw [Zax]
theorem wp_slcTM {l u : M (Option Int)} : wp (slcTM a l u) m Q = wp a m fun x m1 => wp l m1 fun p m2 => wp u m2 fun q m3 => wp (slcT x p q) m3 Q := by
  unfold slcTM
  rw [Zax]
  congr 1
  funext x m1
  rw [Zax]
  congr 1
  funext p m2
  rw [Zax]
theorem w_addX {s t : Str} : wp (binS .add (.str s) (.str t)) m Q = (s.length + t.length ≤ sizeLine ∧ Q (.str (s ++ t)) m) := by
  show wp (if s.length + t.length ≤ sizeLine then ret (.str (s ++ t)) else bad) m Q = _
  rw [wp_gd, wp_ret]
end
end G
local macro_rules
  | `(tactic| simp! [$xs,*]) => `(tactic| simp -failIfUnchanged only [$xs,*, ↓G.wp_subT, ↓G.wp_retE, ↓G.wp_bad, ↓G.Zax, ↓G.wp_nxt, ↓G.wp_brk, ↓G.wp_cnt, ↓G.wp_rtn, ↓G.wp_seq, ↓G.wp_iff, ↓G.wp_fnM, ↓G.wp_binM, ↓G.wp_cmpM, ↓G.wp_idxM, ↓G.wp_negM, ↓G.wp_notM, ↓G.wp_andM, ↓G.wp_orM, ↓G.wp_iteM, ↓G.wp_chnM, ↓G.wp_chnS, ↓G.wp_ls0, ↓G.wp_ls1, ↓G.wp_tupM, ↓G.wp_lstM, ↓G.wp_lshM, ↓G.wp_ownM, ↓G.wp_idxL, ↓G.wp_slcM, ↓G.wp_noP, ↓G.wp_soP, ↓G.wp_calM, ↓G.wp_isiM, ↓G.wp_forM, ↓G.wp_seqI, ↓G.wp_rng1, ↓G.wp_rng2, ↓G.wp_enum, ↓G.wp_enum2, ↓G.enum2_t, ↓G.enum2_f, ↓G.wp_zip, ↓G.rng1_int, ↓G.rng2_int, ↓G.wp_lcM, ↓G.wp_lcO, ↓G.wp_appO, ↓G.wp_extO, ↓G.wp_fldM, ↓G.wp_fldT, ↓G.wp_mthM, ↓G.wp_makM, ↓G.wp_augF, ↓G.tpT2, ↓G.nonS_non, ↓G.wp_subT, ↓G.w_add, ↓G.w_sub, ↓G.w_mul, ↓G.w_fdiv, ↓G.w_mod, ↓G.w_pow, ↓G.w_shl, ↓G.w_addT, ↓G.w_addL, ↓G.w_lt, ↓G.w_le, ↓G.w_gt, ↓G.w_ge, ↓G.w_eqI, ↓G.w_neI, ↓G.w_eqS, ↓G.w_neS, ↓G.w_isN, ↓G.w_ntN, ↓G.w_isI, ↓G.w_ntI, ↓G.w_isT, ↓G.w_ntT, ↓G.w_isF, ↓G.w_ntF, ↓G.w_isR, ↓G.w_ntR, ↓G.w_isB, ↓G.w_ntB, ↓G.w_isS, ↓G.w_ntS, ↓G.w_trB, ↓G.w_trI, ↓G.w_trN, ↓G.w_trT, ↓G.w_trF, ↓G.w_ixT0, ↓G.w_ixT1, ↓G.w_ixT2, ↓G.w_ixT3, ↓G.w_ixF0, ↓G.w_ixF1, ↓G.w_ixF2, ↓G.w_ixF3, ↓G.w_ixS0, ↓G.w_ixS1, ↓G.w_ixS2, ↓G.w_ixS3, ↓G.w_idL, ↓G.w_neg, ↓G.w_slT, ↓G.w_slF, ↓G.w_soP, ↓G.w_lenT, ↓G.w_lenF, ↓G.w_lenS, ↓G.w_abs, ↓G.w_min, ↓G.w_max, ↓G.w_intI, ↓G.w_intB, ↓G.w_tupT, ↓G.w_tupF, ↓G.w_lstT, ↓G.w_lstF, ↓G.w_sum, ↓G.w_all, ↓G.w_any, ↓G.Zac, ↓G.Zaw, ↓G.Zav, ↓G.Zaq, ↓G.Zaj, ↓G.Zah, ↓G.Zaz, ↓G.Za1, ↓G.Za4, ↓G.Za0, ↓G.Za3, ↓G.Za2, ↓G.Zab, ↓G.Zag, ↓G.Zad, ↓G.Zay, ↓G.Zau, ↓G.Zai, ↓G.Zap, ↓G.Zas, ↓G.Zao, ↓G.Zal, ↓G.Zaa, ↓G.Zak, ↓G.Zaf, ↓G.Zan, ↓G.Zam, ↓G.Zae, ↓G.Zat, ↓G.Zar, ↓G.w_guT, ↓G.w_guF, ↓G.w_guS, ↓G.w_lsF, ↓G.w_enT, ↓G.w_enF, ↓G.w_zpT, ↓G.w_zpF, ↓G.w_gadd, ↓G.w_gsub, ↓G.w_fs1, ↓G.w_fs2, ↓G.w_fs3, ↓G.w_fs4, ↓G.w_fs5, ↓G.w_fs6, ↓G.w_un2, ↓G.w_un3, ↓G.w_un4, ↓G.w_goN, ↓G.w_goR, ↓G.w_goB, ↓G.w_goC, ↓G.w_feN, ↓G.w_feR, ↓G.w_repr, true_and, and_true, and_self, if_true, if_false, Bool.false_eq_true, Bool.not_true, Bool.not_false, decide_true, decide_false, ↓G.wp_calK, ↓G.kw_03, ↓G.kw_02, ↓G.kw_01, ↓G.pick_210, ↓G.pick_10, ↓G.pick_01, ↓G.pick_0, ↓G.w_sumF, ↓G.w_sumT, ↓G.w_srt, ↓G.w_maxL, ↓G.w_minL, ↓G.wp_starM, ↓G.wp_consM, ↓G.w_itT, ↓G.w_itF, ↓G.wp_rl2M, ↓G.wp_rl1M, ↓G.w_rl, ↓G.wp_dn3I, ↓G.w_dn3, ↓G.wp_mulTM, ↓G.w_mulT, ↓G.wp_niDM, ↓G.wp_inDM, ↓G.wp_zpM, ↓G.w_zpFF, ↓G.wp_isBM, ↓G.wp_nsBM, ↓G.w_isBB, ↓G.w_nsBB, ↓G.wp_catO, ↓G.w_catF, ↓G.kw_04, ↓G.pick_3210, ↓G.wp_prpM, ↓G.wp_lenI, ↓G.w_lenC, ↓G.wp_mulWM, ↓G.wp_neI, ↓G.wp_isoM, ↓G.w_sdM, ↓G.wp_fidB, ↓G.wp_dcpM, ↓G.wp_neLM, ↓G.wp_eqI, ↓G.wp_nqI, ↓G.wp_isoN, ↓G.wp_spltM, ↓G.wp_prtM, ↓G.wp_joinM, ↓G.wp_fmtM, ↓G.wp_fs0, ↓G.wp_fs1, ↓G.wp_chrI, ↓G.wp_insM, ↓G.w_insS, ↓G.wp_ixtM, ↓G.wp_slcTM, ↓G.w_txB, ↓G.w_strsF, ↓G.w_strsT, ↓G.w_fmtS, ↓G.w_fmtI, ↓G.w_addX, ↓G.wp_idaM, ↓G.w_idaF, ↓G.w_idaT, ↓G.w_idaS, ↓G.wp_rptM])
namespace G.K08
open PySem G
def rc_Track (x_places x_fixed x_most x_at_level x_at_size x_paid x_done : D) : List (Str × D) := [("places", x_places), ("fixed", x_fixed), ("most", x_most), ("at_level", x_at_level), ("at_size", x_at_size), ("paid", x_paid), ("done", x_done)]
section
variable {x_places x_fixed x_most x_at_level x_at_size x_paid x_done : D} {m : Hs} {n : Nat} {Q : D → Hs → Prop} {w : D}
theorem at_Track_places : atr 0 "places" = true := by decide +kernel
theorem lk_Track_places : (rc_Track x_places x_fixed x_most x_at_level x_at_size x_paid x_done).lookup ("places" : Str) = some x_places := lk_hit
theorem wf_Track_places (h : m[n]? = some (.ins 0 (rc_Track x_places x_fixed x_most x_at_level x_at_size x_paid x_done))) : wp (fldS atr "places" (.ref n)) m Q = Q x_places m := fld_wp h lk_Track_places at_Track_places
theorem at_Track_fixed : atr 0 "fixed" = true := by decide +kernel
theorem lk_Track_fixed : (rc_Track x_places x_fixed x_most x_at_level x_at_size x_paid x_done).lookup ("fixed" : Str) = some x_fixed := (lk_miss (by decide +kernel)).trans (lk_hit)
theorem wf_Track_fixed (h : m[n]? = some (.ins 0 (rc_Track x_places x_fixed x_most x_at_level x_at_size x_paid x_done))) : wp (fldS atr "fixed" (.ref n)) m Q = Q x_fixed m := fld_wp h lk_Track_fixed at_Track_fixed
theorem at_Track_most : atr 0 "most" = true := by decide +kernel
theorem lk_Track_most : (rc_Track x_places x_fixed x_most x_at_level x_at_size x_paid x_done).lookup ("most" : Str) = some x_most := (lk_miss (by decide +kernel)).trans ((lk_miss (by decide +kernel)).trans (lk_hit))
theorem wf_Track_most (h : m[n]? = some (.ins 0 (rc_Track x_places x_fixed x_most x_at_level x_at_size x_paid x_done))) : wp (fldS atr "most" (.ref n)) m Q = Q x_most m := fld_wp h lk_Track_most at_Track_most
theorem at_Track_at_level : atr 0 "at_level" = true := by decide +kernel
theorem lk_Track_at_level : (rc_Track x_places x_fixed x_most x_at_level x_at_size x_paid x_done).lookup ("at_level" : Str) = some x_at_level := (lk_miss (by decide +kernel)).trans ((lk_miss (by decide +kernel)).trans ((lk_miss (by decide +kernel)).trans (lk_hit)))
theorem pt_Track_at_level : putD "at_level" w (rc_Track x_places x_fixed x_most x_at_level x_at_size x_paid x_done) = rc_Track x_places x_fixed x_most w x_at_size x_paid x_done := (pt_miss (by decide +kernel)).trans (congrArg (List.cons _) ((pt_miss (by decide +kernel)).trans (congrArg (List.cons _) ((pt_miss (by decide +kernel)).trans (congrArg (List.cons _) (pt_hit))))))
theorem wf_Track_at_level (h : m[n]? = some (.ins 0 (rc_Track x_places x_fixed x_most x_at_level x_at_size x_paid x_done))) : wp (fldS atr "at_level" (.ref n)) m Q = Q x_at_level m := fld_wp h lk_Track_at_level at_Track_at_level
theorem ws_Track_at_level {R : Unit → Hs → Prop} (h : m[n]? = some (.ins 0 (rc_Track x_places x_fixed x_most x_at_level x_at_size x_paid x_done))) : wp (put (setO atr "at_level" w (.ref n))) m R = R () (m.set n (.ins 0 (rc_Track x_places x_fixed x_most w x_at_size x_paid x_done))) := by rw [set_wp h (show 7 < 900 by decide) at_Track_at_level, pt_Track_at_level]
theorem at_Track_at_size : atr 0 "at_size" = true := by decide +kernel
theorem lk_Track_at_size : (rc_Track x_places x_fixed x_most x_at_level x_at_size x_paid x_done).lookup ("at_size" : Str) = some x_at_size := (lk_miss (by decide +kernel)).trans ((lk_miss (by decide +kernel)).trans ((lk_miss (by decide +kernel)).trans ((lk_miss (by decide +kernel)).trans (lk_hit))))
theorem pt_Track_at_size : putD "at_size" w (rc_Track x_places x_fixed x_most x_at_level x_at_size x_paid x_done) = rc_Track x_places x_fixed x_most x_at_level w x_paid x_done := (pt_miss (by decide +kernel)).trans (congrArg (List.cons _) ((pt_miss (by decide +kernel)).trans (congrArg (List.cons _) ((pt_miss (by decide +kernel)).trans (congrArg (List.cons _) ((pt_miss (by decide +kernel)).trans (congrArg (List.cons _) (pt_hit))))))))
theorem wf_Track_at_size (h : m[n]? = some (.ins 0 (rc_Track x_places x_fixed x_most x_at_level x_at_size x_paid x_done))) : wp (fldS atr "at_size" (.ref n)) m Q = Q x_at_size m := fld_wp h lk_Track_at_size at_Track_at_size
theorem ws_Track_at_size {R : Unit → Hs → Prop} (h : m[n]? = some (.ins 0 (rc_Track x_places x_fixed x_most x_at_level x_at_size x_paid x_done))) : wp (put (setO atr "at_size" w (.ref n))) m R = R () (m.set n (.ins 0 (rc_Track x_places x_fixed x_most x_at_level w x_paid x_done))) := by rw [set_wp h (show 7 < 900 by decide) at_Track_at_size, pt_Track_at_size]
theorem at_Track_paid : atr 0 "paid" = true := by decide +kernel
theorem lk_Track_paid : (rc_Track x_places x_fixed x_most x_at_level x_at_size x_paid x_done).lookup ("paid" : Str) = some x_paid := (lk_miss (by decide +kernel)).trans ((lk_miss (by decide +kernel)).trans ((lk_miss (by decide +kernel)).trans ((lk_miss (by decide +kernel)).trans ((lk_miss (by decide +kernel)).trans (lk_hit)))))
theorem pt_Track_paid : putD "paid" w (rc_Track x_places x_fixed x_most x_at_level x_at_size x_paid x_done) = rc_Track x_places x_fixed x_most x_at_level x_at_size w x_done := (pt_miss (by decide +kernel)).trans (congrArg (List.cons _) ((pt_miss (by decide +kernel)).trans (congrArg (List.cons _) ((pt_miss (by decide +kernel)).trans (congrArg (List.cons _) ((pt_miss (by decide +kernel)).trans (congrArg (List.cons _) ((pt_miss (by decide +kernel)).trans (congrArg (List.cons _) (pt_hit))))))))))
theorem wc_Track_paid {R : Nat × D → Hs → Prop} (h : m[n]? = some (.ins 0 (rc_Track x_places x_fixed x_most x_at_level x_at_size x_paid x_done))) : wp (ask (fldC atr "paid" (.ref n))) m R = R (0, x_paid) m := fldC_wp h lk_Track_paid at_Track_paid
theorem wd_Track_paid {R : Unit → Hs → Prop} (h : m[n]? = some (.ins 0 (rc_Track x_places x_fixed x_most x_at_level x_at_size x_paid x_done))) : wp (put (setC 0 "paid" w (.ref n))) m R = R () (m.set n (.ins 0 (rc_Track x_places x_fixed x_most x_at_level x_at_size w x_done))) := by rw [setC_wp h (show 7 < 900 by decide), pt_Track_paid]
theorem at_Track_done : atr 0 "done" = true := by decide +kernel
theorem lk_Track_done : (rc_Track x_places x_fixed x_most x_at_level x_at_size x_paid x_done).lookup ("done" : Str) = some x_done := (lk_miss (by decide +kernel)).trans ((lk_miss (by decide +kernel)).trans ((lk_miss (by decide +kernel)).trans ((lk_miss (by decide +kernel)).trans ((lk_miss (by decide +kernel)).trans ((lk_miss (by decide +kernel)).trans (lk_hit))))))
theorem pt_Track_done : putD "done" w (rc_Track x_places x_fixed x_most x_at_level x_at_size x_paid x_done) = rc_Track x_places x_fixed x_most x_at_level x_at_size x_paid w := (pt_miss (by decide +kernel)).trans (congrArg (List.cons _) ((pt_miss (by decide +kernel)).trans (congrArg (List.cons _) ((pt_miss (by decide +kernel)).trans (congrArg (List.cons _) ((pt_miss (by decide +kernel)).trans (congrArg (List.cons _) ((pt_miss (by decide +kernel)).trans (congrArg (List.cons _) ((pt_miss (by decide +kernel)).trans (congrArg (List.cons _) (pt_hit))))))))))))
theorem wf_Track_done (h : m[n]? = some (.ins 0 (rc_Track x_places x_fixed x_most x_at_level x_at_size x_paid x_done))) : wp (fldS atr "done" (.ref n)) m Q = Q x_done m := fld_wp h lk_Track_done at_Track_done
theorem wc_Track_done {R : Nat × D → Hs → Prop} (h : m[n]? = some (.ins 0 (rc_Track x_places x_fixed x_most x_at_level x_at_size x_paid x_done))) : wp (ask (fldC atr "done" (.ref n))) m R = R (0, x_done) m := fldC_wp h lk_Track_done at_Track_done
theorem wd_Track_done {R : Unit → Hs → Prop} (h : m[n]? = some (.ins 0 (rc_Track x_places x_fixed x_most x_at_level x_at_size x_paid x_done))) : wp (put (setC 0 "done" w (.ref n))) m R = R () (m.set n (.ins 0 (rc_Track x_places x_fixed x_most x_at_level x_at_size x_paid w))) := by rw [setC_wp h (show 7 < 900 by decide), pt_Track_done]
theorem wm_Track_move {R : (List D → M D) → Hs → Prop} (h : m[n]? = some (.ins 0 (rc_Track x_places x_fixed x_most x_at_level x_at_size x_paid x_done))) : wp (mthS tb_move "move" (.ref n)) m R = R (fs3 t_Track_move) m := mth_wp h ((lk_miss (by decide +kernel)).trans ((lk_miss (by decide +kernel)).trans ((lk_miss (by decide +kernel)).trans ((lk_miss (by decide +kernel)).trans ((lk_miss (by decide +kernel)).trans ((lk_miss (by decide +kernel)).trans ((lk_miss (by decide +kernel)).trans (lk_nil)))))))) rfl
theorem wm_Track_pop {R : (List D → M D) → Hs → Prop} (h : m[n]? = some (.ins 0 (rc_Track x_places x_fixed x_most x_at_level x_at_size x_paid x_done))) : wp (mthS tb_pop "pop" (.ref n)) m R = R (fs2 t_Track_pop) m := mth_wp h ((lk_miss (by decide +kernel)).trans ((lk_miss (by decide +kernel)).trans ((lk_miss (by decide +kernel)).trans ((lk_miss (by decide +kernel)).trans ((lk_miss (by decide +kernel)).trans ((lk_miss (by decide +kernel)).trans ((lk_miss (by decide +kernel)).trans (lk_nil)))))))) rfl
theorem wm_Track_push {R : (List D → M D) → Hs → Prop} (h : m[n]? = some (.ins 0 (rc_Track x_places x_fixed x_most x_at_level x_at_size x_paid x_done))) : wp (mthS tb_push "push" (.ref n)) m R = R (fs2 t_Track_push) m := mth_wp h ((lk_miss (by decide +kernel)).trans ((lk_miss (by decide +kernel)).trans ((lk_miss (by decide +kernel)).trans ((lk_miss (by decide +kernel)).trans ((lk_miss (by decide +kernel)).trans ((lk_miss (by decide +kernel)).trans ((lk_miss (by decide +kernel)).trans (lk_nil)))))))) rfl
theorem wm_Track_rest {R : (List D → M D) → Hs → Prop} (h : m[n]? = some (.ins 0 (rc_Track x_places x_fixed x_most x_at_level x_at_size x_paid x_done))) : wp (mthS tb_rest "rest" (.ref n)) m R = R (fs2 t_Track_rest) m := mth_wp h ((lk_miss (by decide +kernel)).trans ((lk_miss (by decide +kernel)).trans ((lk_miss (by decide +kernel)).trans ((lk_miss (by decide +kernel)).trans ((lk_miss (by decide +kernel)).trans ((lk_miss (by decide +kernel)).trans ((lk_miss (by decide +kernel)).trans (lk_nil)))))))) rfl
theorem wm_Track_run {R : (List D → M D) → Hs → Prop} (h : m[n]? = some (.ins 0 (rc_Track x_places x_fixed x_most x_at_level x_at_size x_paid x_done))) : wp (mthS tb_run "run" (.ref n)) m R = R (fs3 t_Track_run) m := mth_wp h ((lk_miss (by decide +kernel)).trans ((lk_miss (by decide +kernel)).trans ((lk_miss (by decide +kernel)).trans ((lk_miss (by decide +kernel)).trans ((lk_miss (by decide +kernel)).trans ((lk_miss (by decide +kernel)).trans ((lk_miss (by decide +kernel)).trans (lk_nil)))))))) rfl
end
section
variable {x_places x_fixed x_most x_at_level x_at_size x_paid x_done : D} {m : Hs} {n : Nat} {w : D}
theorem wi_Track_places {R : Unit → Hs → Prop} (h : m[n]? = some (.ins 0 [])) : wp (put (setO atr "places" w (.ref n))) m R = R () (m.set n (.ins 0 [("places", w)])) := by rw [set_wp h (show 0 < 900 by decide) at_Track_places, show putD "places" w ([] : List (Str × D)) = ([("places", w)] : List (Str × D)) from pt_nil]
theorem wi_Track_fixed {R : Unit → Hs → Prop} (h : m[n]? = some (.ins 0 [("places", x_places)])) : wp (put (setO atr "fixed" w (.ref n))) m R = R () (m.set n (.ins 0 [("places", x_places), ("fixed", w)])) := by rw [set_wp h (show 1 < 900 by decide) at_Track_fixed, show putD "fixed" w ([("places", x_places)] : List (Str × D)) = ([("places", x_places), ("fixed", w)] : List (Str × D)) from (pt_miss (by decide +kernel)).trans (congrArg (List.cons _) (pt_nil))]
theorem wi_Track_most {R : Unit → Hs → Prop} (h : m[n]? = some (.ins 0 [("places", x_places), ("fixed", x_fixed)])) : wp (put (setO atr "most" w (.ref n))) m R = R () (m.set n (.ins 0 [("places", x_places), ("fixed", x_fixed), ("most", w)])) := by rw [set_wp h (show 2 < 900 by decide) at_Track_most, show putD "most" w ([("places", x_places), ("fixed", x_fixed)] : List (Str × D)) = ([("places", x_places), ("fixed", x_fixed), ("most", w)] : List (Str × D)) from (pt_miss (by decide +kernel)).trans (congrArg (List.cons _) ((pt_miss (by decide +kernel)).trans (congrArg (List.cons _) (pt_nil))))]
theorem wi_Track_at_level {R : Unit → Hs → Prop} (h : m[n]? = some (.ins 0 [("places", x_places), ("fixed", x_fixed), ("most", x_most)])) : wp (put (setO atr "at_level" w (.ref n))) m R = R () (m.set n (.ins 0 [("places", x_places), ("fixed", x_fixed), ("most", x_most), ("at_level", w)])) := by rw [set_wp h (show 3 < 900 by decide) at_Track_at_level, show putD "at_level" w ([("places", x_places), ("fixed", x_fixed), ("most", x_most)] : List (Str × D)) = ([("places", x_places), ("fixed", x_fixed), ("most", x_most), ("at_level", w)] : List (Str × D)) from (pt_miss (by decide +kernel)).trans (congrArg (List.cons _) ((pt_miss (by decide +kernel)).trans (congrArg (List.cons _) ((pt_miss (by decide +kernel)).trans (congrArg (List.cons _) (pt_nil))))))]
theorem wi_Track_at_size {R : Unit → Hs → Prop} (h : m[n]? = some (.ins 0 [("places", x_places), ("fixed", x_fixed), ("most", x_most), ("at_level", x_at_level)])) : wp (put (setO atr "at_size" w (.ref n))) m R = R () (m.set n (.ins 0 [("places", x_places), ("fixed", x_fixed), ("most", x_most), ("at_level", x_at_level), ("at_size", w)])) := by rw [set_wp h (show 4 < 900 by decide) at_Track_at_size, show putD "at_size" w ([("places", x_places), ("fixed", x_fixed), ("most", x_most), ("at_level", x_at_level)] : List (Str × D)) = ([("places", x_places), ("fixed", x_fixed), ("most", x_most), ("at_level", x_at_level), ("at_size", w)] : List (Str × D)) from (pt_miss (by decide +kernel)).trans (congrArg (List.cons _) ((pt_miss (by decide +kernel)).trans (congrArg (List.cons _) ((pt_miss (by decide +kernel)).trans (congrArg (List.cons _) ((pt_miss (by decide +kernel)).trans (congrArg (List.cons _) (pt_nil))))))))]
theorem wi_Track_paid {R : Unit → Hs → Prop} (h : m[n]? = some (.ins 0 [("places", x_places), ("fixed", x_fixed), ("most", x_most), ("at_level", x_at_level), ("at_size", x_at_size)])) : wp (put (setO atr "paid" w (.ref n))) m R = R () (m.set n (.ins 0 [("places", x_places), ("fixed", x_fixed), ("most", x_most), ("at_level", x_at_level), ("at_size", x_at_size), ("paid", w)])) := by rw [set_wp h (show 5 < 900 by decide) at_Track_paid, show putD "paid" w ([("places", x_places), ("fixed", x_fixed), ("most", x_most), ("at_level", x_at_level), ("at_size", x_at_size)] : List (Str × D)) = ([("places", x_places), ("fixed", x_fixed), ("most", x_most), ("at_level", x_at_level), ("at_size", x_at_size), ("paid", w)] : List (Str × D)) from (pt_miss (by decide +kernel)).trans (congrArg (List.cons _) ((pt_miss (by decide +kernel)).trans (congrArg (List.cons _) ((pt_miss (by decide +kernel)).trans (congrArg (List.cons _) ((pt_miss (by decide +kernel)).trans (congrArg (List.cons _) ((pt_miss (by decide +kernel)).trans (congrArg (List.cons _) (pt_nil))))))))))]
theorem wi_Track_done {R : Unit → Hs → Prop} (h : m[n]? = some (.ins 0 [("places", x_places), ("fixed", x_fixed), ("most", x_most), ("at_level", x_at_level), ("at_size", x_at_size), ("paid", x_paid)])) : wp (put (setO atr "done" w (.ref n))) m R = R () (m.set n (.ins 0 [("places", x_places), ("fixed", x_fixed), ("most", x_most), ("at_level", x_at_level), ("at_size", x_at_size), ("paid", x_paid), ("done", w)])) := by rw [set_wp h (show 6 < 900 by decide) at_Track_done, show putD "done" w ([("places", x_places), ("fixed", x_fixed), ("most", x_most), ("at_level", x_at_level), ("at_size", x_at_size), ("paid", x_paid)] : List (Str × D)) = ([("places", x_places), ("fixed", x_fixed), ("most", x_most), ("at_level", x_at_level), ("at_size", x_at_size), ("paid", x_paid), ("done", w)] : List (Str × D)) from (pt_miss (by decide +kernel)).trans (congrArg (List.cons _) ((pt_miss (by decide +kernel)).trans (congrArg (List.cons _) ((pt_miss (by decide +kernel)).trans (congrArg (List.cons _) ((pt_miss (by decide +kernel)).trans (congrArg (List.cons _) ((pt_miss (by decide +kernel)).trans (congrArg (List.cons _) ((pt_miss (by decide +kernel)).trans (congrArg (List.cons _) (pt_nil))))))))))))]
end
end G.K08
namespace G.K08
open PySem G
theorem below_wp {m : Hs} {n : Nat} {k many : Int} {Q : D → Hs → Prop} (hd : Dw m n k) (hk : k < 2 ^ 60) (h0 : 0 < many) (h1 : many < 2 ^ 200)
    (h : ∀ (v : Int) (o : O), 0 ≤ v → v < many → Dw (m.set n o) n (k + 1) → Q (.int v) (m.set n o)) : wp (t_law_below (.ref n) (.int many)) m Q := by
  obtain ⟨g, x, s, hm, hg, hx, hx2, hs, hsk⟩ := hd
  unfold t_law_below bd_law_below
  simp! [↓ixr0 hm, ↓ixr1 hm, ↓ixr2 hm, ↓itm0 hm, ↓itm2 hm, ↓ixr1 (hs_set hm)]
  by_cases hgz : 0 < g
  · simp! [hgz, ↓ixr0 hm, ↓itm0 hm]
    refine ⟨h0, div_ok h0 h1, ?_⟩
    refine h _ _ (Int.emod_nonneg _ (by omega)) (Int.emod_lt_of_pos _ h0) ⟨g / many, x, s, hs_set hm, Int.ediv_nonneg hg (by omega), hx, hx2, hs, by omega⟩
  · simp! [hgz, ↓ixr1 hm, ↓ixr2 hm, ↓itm2 hm, ↓ixr1 (hs_set hm)]
    refine ⟨sz_le (by decide), by decide, ?_⟩
    have hr := mod2 (a := s + 1) (b := 4) (by decide)
    refine ix_one (ns := [2305843009213693951, 999999999989, 1000000000039, 67280421310721]) (P := fun p => 0 < p ∧ p < 2 ^ 62) hr.1 (by simpa using hr.2) (by decide) fun p _ hp => ?_
    have hm2 := hs_set (o := .lst [.int g, .int x, .int (s + 1)]) hm
    have q1 : (7919 * (s + 1)).natAbs.log2 + (s + 1).natAbs.log2 < 1000000 := mul_ok (by omega) (by omega) (by omega) (by omega)
    simp! [↓ixr1 hm2]
    refine ⟨mul_ok (by decide) (by decide) (by omega) (by omega), q1, mul_ok (by decide) (by decide) (by omega) (by omega), hp.1, ?_⟩
    have a1 := mod2 (a := x + 7919 * (s + 1) * (s + 1) + 65537 * (s + 1)) hp.1
    refine ⟨pow_ok (k := 62) (Bd.of (by omega) (by omega)) (by decide) (by decide), hp.1, ?_⟩
    generalize (x + 7919 * (s + 1) * (s + 1) + 65537 * (s + 1)) % p = y at a1
    have a2 := mod2 (a := y ^ (5 : Int).toNat) hp.1
    generalize (y ^ (5 : Int).toNat) % p = z at a2
    refine ⟨div_ok (by decide) (by decide), div_ok (by decide) (by decide), mul_ok (by omega) (by omega) (by decide) (by decide), h0, ?_⟩
    have a3 := mod2 (a := z / 4099 + z / 1000003 * 7) h0
    exact h _ _ a3.1 a3.2 ⟨g, x, s + 1, hm2, hg, hx, hx2, by omega, by omega⟩
theorem pick_wp {m : Hs} {n : Nat} {k : Int} {xs : List D} {Q : D → Hs → Prop} (hd : Dw m n k) (hk : k < 2 ^ 60) (h0 : 0 < xs.length) (h1 : xs.length < 16777216)
    (h : ∀ (x : D) (o : O), x ∈ xs → Dw (m.set n o) n (k + 1) → Q x (m.set n o)) : wp (t_law_pick (.ref n) (.fl xs)) m Q := by
  unfold t_law_pick bd_law_pick
  simp! [true_and]
  refine below_wp hd hk (by omega) (by omega) fun v o hv0 hv1 hd' => ?_
  exact ix_any hv0 hv1 fun x hx => h x o hx hd'
theorem draws_wp {m : Hs} {ns : List Int} {k : Nat} {Q : D → Hs → Prop} (hk : k < 100) (h : ∀ o : O, Dw (m ++ [o]) m.length 0 → Q (.ref m.length) (m ++ [o])) : wp (t_law_draws (.sc (ns.map .int)) (.int k)) m Q := by
  unfold t_law_draws bd_law_draws
  rw [wp_fnM, Zax]
  refine wp_imp (Q := fun d m' => ∃ cell : Int, d = .int cell ∧ m' = m) ?_ ?_
  · simp! [List.length_map]
    by_cases hl : (k : Int) < ns.length
    · simp! [hl]
      rw [w_ixS]
      have hk' : k < ns.length := by omega
      refine ⟨.int ns[k], ?_, _, rfl, rfl⟩
      rw [at_nat, List.getElem?_map, List.getElem?_eq_getElem hk']
      rfl
    · simp! [hl]
      exact ⟨mul_ok (by decide) (by decide) (by omega) (by omega), _, rfl⟩
  · rintro _ _ ⟨cell, rfl, rfl⟩
    simp! [true_and]
    generalize habs : (if cell < 0 then -cell else cell) = ab
    have hab : 0 ≤ ab := by
      rw [← habs]
      split <;> omega
    have h10 : (0 : Int) < (10 ^ Int.toNat 60) ^ Int.toNat 5 := by decide +kernel
    have hb10 : Bd 1000 ((10 ^ Int.toNat 60) ^ Int.toNat 5) := by
      unfold Bd
      decide +kernel
    have a1 := mod2 (a := ab) h10
    have hbm : Bd 1000 (ab % (10 ^ Int.toNat 60) ^ Int.toNat 5) := by
      unfold Bd at *
      omega
    generalize ab % (10 ^ Int.toNat 60) ^ Int.toNat 5 = gr at a1 hbm
    have a2 := mod2 (a := cell) (b := 2305843009213693951) (by decide)
    have a3 := mod2 (a := (cell % 2305843009213693951 + 7919 * k * k + 17) * 48271) (b := 2305843009213693921) (by decide)
    have hkk : (7919 : Int) * k * k ≤ 7919 * 100 * 100 := by
      have : (k : Int) * k ≤ 100 * 100 := Int.mul_le_mul (by omega) (by omega) (by omega) (by omega)
      rw [Int.mul_assoc, Int.mul_assoc]
      omega
    have hk0 : (0 : Int) ≤ 7919 * k * k := Int.mul_nonneg (Int.mul_nonneg (by decide) (by omega)) (by omega)
    refine ⟨⟨by decide, by decide +kernel⟩, ⟨by decide, by decide +kernel⟩, h10, ⟨by decide, by decide +kernel⟩, mul_bd (l := 1) hbm (by unfold Bd; split <;> decide) (by decide), by decide, mul_ok (by decide) (by decide) (by omega) (by omega), mul_ok (by omega) (by omega) (by omega) (by omega), mul_ok (by omega) (by omega) (by decide) (by decide), by decide, sz_le (by simp), ?_⟩
    refine h _ ⟨_, _, _, hs_new, ?_, a3.1, by omega, by decide, by decide⟩
    split <;> omega
end G.K08
namespace G.K08
open PySem G
theorem zip_map : ∀ (cs ls : List Int), zipL (cs.map D.int) (ls.map D.int) = (cs.zip ls).map prD
  | [], _ => rfl
  | _ :: _, [] => rfl
  | c :: cs, l :: ls => by simp only [List.map_cons, zipL, List.zip_cons_cons, prD, zip_map cs ls]
theorem bnds_eq {cs ls : List Int} {fx : Int} (hl : cs.length ≤ 1000) : t_boundaries (pol cs ls fx) = ret (plc (cs.zip ls)) := ret_of fun m Q q => by
  unfold t_boundaries bd_boundaries pol il
  simp! [true_and]
  rw [zip_map, lcL_map id _ (fun x hx => ?_) (sz_le ?_)]
  · simp! [true_and]
    simpa [plc] using q
  · rw [List.length_map, List.length_zip]
    omega
  · obtain ⟨p, _, rfl⟩ := List.mem_map.1 hx
    rfl
theorem top_eq {cs ls : List Int} {fx : Int} : t_top_level (pol cs ls fx) = ret (.int (cs.length - 1)) := ret_of fun m Q q => by
  unfold t_top_level bd_top_level pol il
  simp! [List.length_map]
  exact q
theorem cap_eq {cs ls : List Int} {fx : Int} {i : Nat} {c : Int} (h : cs[i]? = some c) : t_capacity_of (pol cs ls fx) (.int i) = ret (.int c) := ret_of fun m Q q => by
  unfold t_capacity_of bd_capacity_of pol il
  simp! [true_and]
  rw [w_ixT, at_nat]
  exact ⟨.int c, by rw [List.getElem?_map, h]; rfl, q⟩
abbrev trk (P : List (Int × Int)) (fx mo : Int) (t : Tk) : O := .ins 0 (rc_Track (plc P) (.int fx) (.int mo) (.int t.lv) (.int t.sz) (.int t.pd) (.int t.dn))
theorem init_wp {m : Hs} {n lv : Nat} {cs ls : List Int} {fx mo sz : Int} {Q : D → Hs → Prop} (hm : m[n]? = some (.ins 0 [])) (hl : cs.length ≤ 1000) (hc : cs.getLast? = some mo)
    (h : Q .non (m.set n (trk (cs.zip ls) fx mo ⟨lv, sz, 0, 0⟩))) : wp (t_Track___init__ (.ref n) (pol cs ls fx) (stD lv sz)) m Q := by
  have h0 : 0 < cs.length := by
    cases cs with
    | nil => simp at hc
    | cons _ _ => simp
  have e1 : ((cs.length : Int) - 1) = ((cs.length - 1 : Nat) : Int) := by omega
  have e2 : cs[cs.length - 1]? = some mo := by rw [← List.getLast?_eq_getElem?]; exact hc
  unfold t_Track___init__ bd_Track___init__
  have ix2 : ∀ {m : Hs} {Q : D → Hs → Prop}, wp (idxS (pol cs ls fx) (.int 2)) m Q = Q (.int fx) m := fun {m Q} => by unfold pol; exact w_ixT2
  simp! [↓ret_wp (bnds_eq hl), ↓wi_Track_places hm, ↓ix2, ↓wi_Track_fixed (hs_set hm), setset, ↓ret_wp top_eq, e1, ↓ret_wp (cap_eq e2), ↓wi_Track_most (hs_set hm), stD, ↓wi_Track_at_level (hs_set hm), ↓wi_Track_at_size (hs_set hm), ↓wi_Track_paid (hs_set hm), ↓wi_Track_done (hs_set hm)]
  exact h
theorem rest_wp {m : Hs} {n : Nat} {P : List (Int × Int)} {fx mo goal : Int} {t : Tk} {Q : D → Hs → Prop} (hm : m[n]? = some (trk P fx mo t)) (h : Q .non (m.set n (trk P fx mo (t.rest goal)))) : wp (t_Track_rest (.ref n) (.int goal)) m Q := by
  unfold t_Track_rest bd_Track_rest
  simp! [↓wc_Track_done hm, ↓wf_Track_at_size hm, ↓wd_Track_done hm, ↓ws_Track_at_size (hs_set hm), setset]
  exact h
theorem up_wp {m : Hs} {n : Nat} {P : List (Int × Int)} {fx mo u : Int} {t : Tk} {Q : D → Hs → Prop} (hm : m[n]? = some (trk P fx mo t)) (h : Q (Mv.d ⟨t.dn + ab (u - t.sz), true, t.lv + 1, u⟩) (m.set n (trk P fx mo (t.up fx u)))) : wp (t_Track_move (.ref n) (.int u) (.int 1)) m Q := by
  unfold t_Track_move bd_Track_move
  have e1 : decide ((0 : Int) < 1) = true := by decide
  have e2 : ((t.lv : Int) + 1) = ((t.lv + 1 : Nat) : Int) := by omega
  simp! [↓wc_Track_done hm, ↓wf_Track_at_size hm, ↓wd_Track_done hm, e1, ↓wf_Track_at_level (hs_set hm), ↓ws_Track_at_size (hs_set hm), ↓ws_Track_at_level (hs_set hm), setset, ↓wc_Track_paid (hs_set hm), ↓wf_Track_fixed (hs_set hm), ↓wd_Track_paid (hs_set hm), ↓wf_Track_done (hs_set hm)]
  refine ⟨sz_le (by simp), sz_le (by simp), ?_⟩
  have e3 : t.dn + ((if u - t.sz < 0 then -(u - t.sz) else u - t.sz) + 1) - 1 = t.dn + ab (u - t.sz) := by unfold ab; omega
  rw [e3, e2]
  exact h
theorem down_wp {m : Hs} {n : Nat} {P : List (Int × Int)} {fx mo l : Int} {t : Tk} {Q : D → Hs → Prop} (hm : m[n]? = some (trk P fx mo t)) (hlv : 0 < t.lv) (h : Q (Mv.d ⟨t.dn + ab (l + 1 - t.sz), false, t.lv - 1, l⟩) (m.set n (trk P fx mo (t.down fx l)))) : wp (t_Track_move (.ref n) (.int (l + 1)) (.int (-1))) m Q := by
  unfold t_Track_move bd_Track_move
  have e1 : decide ((0 : Int) < -1) = false := by decide
  have e2 : ((t.lv : Int) + -1) = ((t.lv - 1 : Nat) : Int) := by omega
  simp! [↓wc_Track_done hm, ↓wf_Track_at_size hm, ↓wd_Track_done hm, e1, ↓wf_Track_at_level (hs_set hm), ↓ws_Track_at_size (hs_set hm), ↓ws_Track_at_level (hs_set hm), setset, ↓wc_Track_paid (hs_set hm), ↓wf_Track_fixed (hs_set hm), ↓wd_Track_paid (hs_set hm), ↓wf_Track_done (hs_set hm)]
  refine ⟨sz_le (by simp), sz_le (by simp), ?_⟩
  have e3 : t.dn + ((if l + 1 - t.sz < 0 then -(l + 1 - t.sz) else l + 1 - t.sz) + 1) - 1 = t.dn + ab (l + 1 - t.sz) := by unfold ab; omega
  have e4 : l + 1 + -1 = l := by omega
  have e5 : l + 1 - 1 = l := by omega
  rw [e3, e2, e4, e5]
  exact h
theorem ixP {P : List (Int × Int)} {i : Nat} {p : Int × Int} {m : Hs} {Q : D → Hs → Prop} (h : P[i]? = some p) : wp (idxS (plc P) (.int i)) m Q = Q (prD p) m := by
  unfold plc
  rw [w_ixT, at_nat, List.getElem?_map, h]
  simp
theorem lenP {P : List (Int × Int)} {m : Hs} {Q : D → Hs → Prop} : wp (lenS [plc P]) m Q = Q (.int P.length) m := by
  unfold plc
  rw [w_lenT, List.length_map]
theorem push_wp {m : Hs} {n : Nat} {P : List (Int × Int)} {fx mo c : Int} {t : Tk} {Q : D → Hs → Prop} (hm : m[n]? = some (trk P fx mo t)) (hP : P.length ≤ 1000) (hlv : t.lv ≤ P.length)
    (h : Q (.fl ((pushT fx (t.sz + c) (P.drop t.lv) t).2.map Mv.d)) (m.set n (trk P fx mo (pushT fx (t.sz + c) (P.drop t.lv) t).1))) : wp (t_Track_push (.ref n) (.int c)) m Q := by
  unfold t_Track_push bd_Track_push
  simp! [↓wf_Track_at_size hm]
  refine ⟨sz_le (by simp), ?_⟩
  refine wp_whlM (fun k s m' => ∃ (t' : Tk) (mv : List Mv), k = P.length - t'.lv ∧ t'.lv ≤ P.length ∧ m' = m.set n (trk P fx mo t') ∧ s = mv.map Mv.d ∧ mv.length ≤ t'.lv ∧
    (pushT fx (t.sz + c) (P.drop t.lv) t).1 = (pushT fx (t.sz + c) (P.drop t'.lv) t').1 ∧ (pushT fx (t.sz + c) (P.drop t.lv) t).2 = mv ++ (pushT fx (t.sz + c) (P.drop t'.lv) t').2) (P.length - t.lv) (by omega)
    ⟨t, [], rfl, hlv, ?_, rfl, Nat.zero_le _, rfl, rfl⟩ ?_
  · exact (set_same hm).symm
  rintro k s m' ⟨t', mv, rfl, hlv', rfl, rfl, hmv, e1, e2⟩
  have hm' := hs_set (o := trk P fx mo t') hm
  by_cases hlt : t'.lv < P.length
  · have hp : P[t'.lv]? = some P[t'.lv] := List.getElem?_eq_getElem hlt
    have hd : P.drop t'.lv = P[t'.lv] :: P.drop (t'.lv + 1) := List.drop_eq_getElem_cons hlt
    generalize P[t'.lv] = p at hp hd
    rw [hd] at e1 e2
    simp only [pushT] at e1 e2
    have hi : ((t'.lv : Int) < P.length) := by omega
    simp! [↓wf_Track_at_level hm', ↓wf_Track_places hm', ↓lenP, hi, ↓ixP hp, prD]
    by_cases hg : p.1 < t.sz + c
    · rw [if_pos hg] at e1 e2
      simp! [hg, ↓wm_Track_move hm', ↓wf_Track_at_level hm', ↓wf_Track_places hm', ↓ixP hp, prD]
      refine up_wp hm' ⟨?_, P.length - (t'.lv + 1), by omega, t'.up fx p.1, mv ++ [⟨t'.dn + ab (p.1 - t'.sz), true, t'.lv + 1, p.1⟩], rfl, by simp only [Tk.up]; omega, setset, ?_, ?_, e1, ?_⟩
      · rw [List.length_map]
        exact sz_lt (by omega)
      · rw [List.map_append]
        rfl
      · simp only [List.length_append, List.length_cons, List.length_nil, Tk.up]
        omega
      · rw [e2]
        simp
        rfl
    · rw [if_neg hg] at e1 e2
      simp! [hg, ↓wm_Track_rest hm']
      refine rest_wp hm' ?_
      rw [e1, e2, List.append_nil] at h
      rw [setset]
      exact h
  · have hi : ¬ ((t'.lv : Int) < P.length) := by omega
    have hd : P.drop t'.lv = [] := List.drop_eq_nil_of_le (by omega)
    rw [hd] at e1 e2
    simp only [pushT] at e1 e2
    simp! [↓wf_Track_at_level hm', ↓wf_Track_places hm', ↓lenP, hi, ↓wm_Track_rest hm']
    refine rest_wp hm' ?_
    rw [e1, e2, List.append_nil] at h
    rw [setset]
    exact h
theorem take_rev {P : List (Int × Int)} {k : Nat} {p : Int × Int} (h : P[k]? = some p) : (P.take (k + 1)).reverse = p :: (P.take k).reverse := by
  have hk := (List.getElem?_eq_some_iff.mp h).1
  rw [List.take_succ, h]
  simp
theorem pop_wp {m : Hs} {n : Nat} {P : List (Int × Int)} {fx mo c : Int} {t : Tk} {Q : D → Hs → Prop} (hm : m[n]? = some (trk P fx mo t)) (hP : P.length ≤ 1000) (hlv : t.lv ≤ P.length)
    (h : Q (.fl ((popT fx (t.sz - c) (P.take t.lv).reverse t).2.map Mv.d)) (m.set n (trk P fx mo (popT fx (t.sz - c) (P.take t.lv).reverse t).1))) : wp (t_Track_pop (.ref n) (.int c)) m Q := by
  unfold t_Track_pop bd_Track_pop
  simp! [↓wf_Track_at_size hm]
  refine ⟨sz_le (by simp), ?_⟩
  refine wp_whlM (fun k s m' => ∃ (t' : Tk) (mv : List Mv), k = t'.lv ∧ t'.lv ≤ P.length ∧ m' = m.set n (trk P fx mo t') ∧ s = mv.map Mv.d ∧ mv.length + t'.lv ≤ P.length ∧
    (popT fx (t.sz - c) (P.take t.lv).reverse t).1 = (popT fx (t.sz - c) (P.take t'.lv).reverse t').1 ∧ (popT fx (t.sz - c) (P.take t.lv).reverse t).2 = mv ++ (popT fx (t.sz - c) (P.take t'.lv).reverse t').2) t.lv (by omega)
    ⟨t, [], rfl, hlv, ?_, rfl, by simpa using hlv, rfl, rfl⟩ ?_
  · exact (set_same hm).symm
  rintro k s m' ⟨t', mv, rfl, hlv', rfl, rfl, hmv, e1, e2⟩
  have hm' := hs_set (o := trk P fx mo t') hm
  by_cases hlt : 0 < t'.lv
  · obtain ⟨q, hq⟩ : ∃ q, t'.lv = q + 1 := ⟨t'.lv - 1, by omega⟩
    have hp : P[q]? = some P[q] := List.getElem?_eq_getElem (by omega)
    have hd := take_rev hp
    generalize P[q] = p at hp hd
    rw [hq, hd] at e1 e2
    simp only [popT] at e1 e2
    have hi : ((0 : Int) < (t'.lv : Int)) := by omega
    have hj : ((t'.lv : Int) - 1) = (q : Int) := by omega
    simp! [↓wf_Track_at_level hm', ↓wf_Track_places hm', hi, hj, ↓ixP hp, prD]
    by_cases hg : t.sz - c ≤ p.2
    · rw [if_pos hg] at e1 e2
      simp! [hg, ↓wm_Track_move hm', ↓wf_Track_at_level hm', ↓wf_Track_places hm', hj, ↓ixP hp, prD]
      have el : (t'.down fx p.2).lv = q := by simp only [Tk.down]; omega
      refine down_wp hm' hlt ⟨?_, q, by omega, t'.down fx p.2, mv ++ [⟨t'.dn + ab (p.2 + 1 - t'.sz), false, t'.lv - 1, p.2⟩], el.symm, by omega, setset, ?_, ?_, ?_, ?_⟩
      · rw [List.length_map]
        exact sz_lt (by omega)
      · rw [List.map_append]
        rfl
      · simp only [List.length_append, List.length_cons, List.length_nil]
        omega
      · rw [e1, el]
      · rw [e2, el]
        simp
    · rw [if_neg hg] at e1 e2
      simp! [hg, ↓wm_Track_rest hm']
      refine rest_wp hm' ?_
      rw [e1, e2, List.append_nil] at h
      rw [setset]
      exact h
  · have hi : ¬ ((0 : Int) < (t'.lv : Int)) := by omega
    have hz : t'.lv = 0 := by omega
    rw [hz] at e1 e2
    simp only [List.take_zero, List.reverse_nil, popT] at e1 e2
    simp! [↓wf_Track_at_level hm', hi, ↓wm_Track_rest hm']
    refine rest_wp hm' ?_
    rw [e1, e2, List.append_nil] at h
    rw [setset]
    exact h
theorem push_ne : ¬ (Str.ofString "pop" = Str.ofString "push") := by decide +kernel
theorem run_wp {m : Hs} {n : Nat} {P : List (Int × Int)} {fx mo : Int} {t : Tk} {o : Opn} {Q : D → Hs → Prop} (hm : m[n]? = some (trk P fx mo t)) (hP : P.length ≤ 1000) (hlv : t.lv ≤ P.length) (hg : goes mo t.sz o)
    (h : Q (.fl ((runT P fx t o).2.map Mv.d)) (m.set n (trk P fx mo (runT P fx t o).1))) : wp (t_Track_run (.ref n) (.str (wd o.1)) (.int o.2)) m Q := by
  unfold t_Track_run bd_Track_run
  obtain ⟨b, c⟩ := o
  cases b with
  | true =>
    simp only [goes, if_true, runT] at hg h
    simp only [wd, if_true]
    simp! [↓wf_Track_at_size hm, ↓wf_Track_most hm, hg, ↓wm_Track_push hm]
    exact push_wp hm hP hlv h
  | false =>
    simp only [goes, if_false, Bool.false_eq_true, runT] at hg h
    simp only [wd, if_false, Bool.false_eq_true]
    simp! [↓wf_Track_at_size hm, hg, ↓wm_Track_pop hm, push_ne]
    exact pop_wp hm hP hlv h
theorem isint_eq {c lo hi : Int} (h1 : lo ≤ c) (h2 : c ≤ hi) : t_is_integer (.int c) (.int lo) (.int hi) = ret (.bl true) := ret_of fun m Q q => by
  unfold t_is_integer bd_is_integer
  simp! [show ¬ c < lo by omega, h2]
  exact q
theorem in_ops {b : Bool} {m : Hs} {Q : D → Hs → Prop} : wp (cmpS .isin (.str (wd b)) (.tup [.str (Str.ofString "push"), .str (Str.ofString "pop")])) m Q = Q (.bl true) m := by
  cases b with
  | true =>
    show wp (bnd (ask (inS (.str (Str.ofString "push")) _)) _) m Q = _
    rw [Zax, wp_ask]
    simp only [inS, itemsOf, flatD, List.all_cons, List.all_nil, Bool.and_self, if_true, List.any_cons, List.any_nil, eqF, decide_true, Bool.true_or]
    simp [wp_ret]
  | false =>
    show wp (bnd (ask (inS (.str (Str.ofString "pop")) _)) _) m Q = _
    rw [Zax, wp_ask]
    simp only [inS, itemsOf, flatD, List.all_cons, List.all_nil, Bool.and_self, if_true, List.any_cons, List.any_nil, eqF, decide_true, Bool.true_or, Bool.or_true]
    simp [wp_ret]
theorem isrun_eq {o : Opn} (h : okOp o) : t_is_run (opD o) = ret (.bl true) := ret_of fun m Q q => by
  unfold t_is_run bd_is_run opD
  simp! [List.length_cons, List.length_nil, show (((0 + 1 + 1 : Nat) : Int) == 2) = true by decide, ↓in_ops, ↓ret_wp (isint_eq h.1 h.2)]
  exact ⟨sz_le (by simp), q⟩
theorem areops_eq {os : List Opn} (h : ∀ o, o ∈ os → okOp o) (hl : os.length ≤ 200) : t_are_operations (opsD os) = ret (.bl true) := ret_of fun m Q q => by
  unfold t_are_operations bd_are_operations opsD
  have hl' : ((os.length : Int) ≤ 200) := by omega
  simp! [List.length_map, hl']
  rw [lcL_map (fun _ => .bl true) _ (fun x hx => ?_) (sz_le ?_)]
  · have e : (os.map opD).map (fun _ => D.bl true) = (os.map fun _ => true).map D.bl := by simp
    rw [e]
    simp! [true_and]
    have e2 : (os.map fun _ => true).all id = true := by simp
    rw [e2]
    exact q
  · rw [List.length_map]
    omega
  · obtain ⟨o, ho, rfl⟩ := List.mem_map.1 hx
    show elM (bnd (lsM [ret (opD o)]) (fs1 t_is_run)) = _
    show elM (t_is_run (opD o)) = _
    rw [isrun_eq (h o ho)]
    rfl
theorem check_eq {os : List Opn} (h : ∀ o, o ∈ os → okOp o) (hl : os.length ≤ 200) : t_check_operations (opsD os) = ret .non := ret_of fun m Q q => by
  unfold t_check_operations bd_check_operations
  simp! [↓ret_wp (areops_eq h hl)]
  exact q
theorem enum_ops {i : Int} {o : Opn} {os : List Opn} : enumL i ((o :: os).map opD) = .tup [.int i, opD o] :: enumL (i + 1) (os.map opD) := rfl
theorem tracked_wp {m : Hs} {cs ls : List Int} {fx mo sz : Int} {lv : Nat} {os : List Opn} {Q : D → Hs → Prop} (hl : cs.length ≤ 1000) (hc : cs.getLast? = some mo) (hlv : lv ≤ (cs.zip ls).length) (ho : ∀ o, o ∈ os → okOp o) (hol : os.length ≤ 200) (hg : goesAll mo sz os)
    (h : Q (.tup [.ref m.length, .fl ((runsT (cs.zip ls) fx ⟨lv, sz, 0, 0⟩ os).2.map Mv.d)]) (m ++ [trk (cs.zip ls) fx mo (runsT (cs.zip ls) fx ⟨lv, sz, 0, 0⟩ os).1])) : wp (t_tracked (pol cs ls fx) (stD lv sz) (opsD os)) m Q := by
  unfold t_tracked bd_tracked
  have hPl : (cs.zip ls).length ≤ 1000 := by
    rw [List.length_zip]
    omega
  simp! [↓ret_wp (check_eq ho hol)]
  refine init_wp hs_new hl hc ?_
  simp! [true_and]
  refine ⟨sz_le (by simp), ?_⟩
  unfold opsD
  simp! [true_and]
  have e0 : ∀ o : O, (m ++ [O.ins 0 []]).set m.length o = m ++ [o] := fun o => by simp
  rw [e0]
  refine forL_wp (fun xs s m' => ∃ (i : Int) (os' : List Opn) (t : Tk) (mv : List Mv), xs = enumL i (os'.map opD) ∧ s = mv.map Mv.d ∧ m' = m ++ [trk (cs.zip ls) fx mo t] ∧ t.lv ≤ (cs.zip ls).length ∧ goesAll mo t.sz os' ∧ os'.length ≤ 200 ∧ mv.length ≤ 1000 * (200 - os'.length) ∧
    (runsT (cs.zip ls) fx ⟨lv, sz, 0, 0⟩ os).1 = (runsT (cs.zip ls) fx t os').1 ∧ (runsT (cs.zip ls) fx ⟨lv, sz, 0, 0⟩ os).2 = mv ++ (runsT (cs.zip ls) fx t os').2) ?_ ?_ _ _ _ ⟨0, os, _, [], rfl, rfl, rfl, hlv, hg, hol, Nat.zero_le _, rfl, rfl⟩
  · rintro x xs s m' ⟨i, os', t, mv, hx, rfl, rfl, hlv', hg', hol', hmv, e1, e2⟩
    cases os' with
    | nil => cases hx
    | cons o os' =>
      rw [enum_ops] at hx
      obtain ⟨rfl, rfl⟩ := List.cons.inj hx
      have hm : (m ++ [trk (cs.zip ls) fx mo t])[m.length]? = some (trk (cs.zip ls) fx mo t) := hs_new
      simp only [opD]
      simp! [↓wm_Track_run hm]
      refine run_wp hm hPl hlv' hg'.1 ?_
      have hml := runT_mv (fx := fx) (o := o) hlv'
      simp! [true_and]
      simp only [List.length_cons] at hol' hmv
      refine ⟨?_, i + 1, os', (runT (cs.zip ls) fx t o).1, mv ++ (runT (cs.zip ls) fx t o).2, rfl, ?_, ?_, runT_lv hlv', ?_, by omega, ?_, e1, ?_⟩
      · rw [List.length_map, List.length_map]
        exact sz_le (by omega)
      · rw [List.map_append]
      · simp
      · rw [runT_sz]
        exact hg'.2
      · rw [List.length_append]
        omega
      · rw [e2, List.append_assoc]
        rfl
  · rintro s m' ⟨i, os', t, mv, hx, rfl, rfl, hlv', hg', hol', hmv, e1, e2⟩
    cases os' with
    | cons o os' => cases hx
    | nil =>
      simp! [true_and]
      rw [e1, e2] at h
      simp only [runsT, List.append_nil] at h
      exact ⟨sz_le (by simp), h⟩
end G.K08
namespace G.K08
open PySem G
structure Cv (step : Int) (cs : List Int) : Prop where
  ne : cs ≠ []
  asc : Asc cs
  pos : ∀ (i : Nat) (a : Int), cs[i]? = some a → 1 ≤ a ∧ a ≤ 2 * step * 2 ^ i
theorem pow_mul {s : Int} {i : Nat} (hs : 0 ≤ s) : s ≤ s * 2 ^ i := by
  have : (1 : Int) ≤ 2 ^ i := by
    have : (0 : Int) < 2 ^ i := Int.pow_pos (by decide)
    omega
  have h2 := Int.mul_le_mul_of_nonneg_left this hs
  omega
theorem Cv.snoc {step : Int} {cs : List Int} {c d : Int} (h : Cv step cs) (hs : 1 ≤ step) (hc : cs.getLast? = some c) (h1 : c < d) (h2 : d ≤ c + c ∨ d ≤ c + 2 * step) : Cv step (cs ++ [d]) := by
  have hl : 0 < cs.length := by
    cases cs with
    | nil => exact absurd rfl h.ne
    | cons _ _ => simp
  have hc' := hc
  rw [List.getLast?_eq_getElem?] at hc'
  obtain ⟨p1, p2⟩ := h.pos _ c hc'
  refine ⟨by simp, h.asc.snoc fun y hy => ?_, all_snoc h.pos ⟨by omega, ?_⟩⟩
  · rw [hc] at hy
    cases hy
    exact h1
  · have e : (2 : Int) ^ cs.length = 2 * 2 ^ (cs.length - 1) := by
      rw [show cs.length = (cs.length - 1) + 1 by omega, Int.pow_succ]
      simp
      omega
    have e2 : 2 * step * 2 ^ cs.length = 2 * step * 2 ^ (cs.length - 1) + 2 * step * 2 ^ (cs.length - 1) := by
      rw [e, show 2 * step * (2 * 2 ^ (cs.length - 1)) = 2 * (2 * step * 2 ^ (cs.length - 1)) by rw [← Int.mul_assoc, ← Int.mul_assoc]; congr 1; omega]
      omega
    have e3 : 2 * step ≤ 2 * step * 2 ^ (cs.length - 1) := pow_mul (by omega)
    omega
structure Lm (cs ls : List Int) : Prop where
  asc : Asc ls
  ok : ∀ (i : Nat) (a : Int), ls[i]? = some a → 0 ≤ a ∧ ∃ b, cs[i]? = some b ∧ a ≤ b
theorem Lm.snoc {cs ls : List Int} {l r : Int} (h : Lm cs ls) (hr : cs[ls.length]? = some r) (h0 : 0 ≤ l) (h1 : l ≤ r) (h2 : ∀ y, ls.getLast? = some y → y < l) : Lm cs (ls ++ [l]) :=
  ⟨h.asc.snoc h2, all_snoc h.ok ⟨h0, r, hr, h1⟩⟩
theorem last_map {l : List Int} {c : Int} (h : l.getLast? = some c) : atD (l.map D.int) (-1) = some (.int c) := by
  obtain ⟨i, a, rfl⟩ := snoc_ex (l := l) (fun e => by rw [e] at h; simp at h)
  simp at h
  subst h
  exact at_lastI
theorem policy_wp {m : Hs} {n : Nat} {k : Int} {levels : Nat} {step : Int} {Q : D → Hs → Prop} (hd : Dw m n k) (hk : k < 2 ^ 50) (hl : 1 ≤ levels) (hl2 : levels ≤ 50) (hs : 1 ≤ step) (hs2 : step ≤ 1000000)
    (h : ∀ (cs ls : List Int) (fx : Int) (m' : Hs), Vp cs ls → cs.length ≤ levels → (∀ (i : Nat) (a : Int), cs[i]? = some a → a ≤ 2 * step * 2 ^ i) → 0 ≤ fx → fx < 20 → m'.length = m.length → Dw m' n (k + 300) → Q (pol cs ls fx) m') : wp (t_law_policy (.ref n) (.int levels) (.int step)) m Q := by
  unfold t_law_policy bd_law_policy
  simp! [true_and]
  refine below_wp hd (by omega) (by decide) (by decide) fun way o1 hw0 hw1 hd1 => ?_
  simp! [true_and]
  refine below_wp hd1 (by omega) (by omega) (by omega) fun v o2 hv0 hv1 hd2 => ?_
  simp! [true_and]
  refine ⟨sz_le (by simp), ?_⟩
  refine below_wp hd2 (by omega) (by omega) (by omega) fun many o3 hm0 hm1 hd3 => ?_
  simp! [true_and]
  refine ⟨⟨by omega, by omega⟩, ?_⟩
  refine rng_wp (fun j s m' => ∃ cs : List Int, s = cs.map D.int ∧ Cv step cs ∧ cs.length + j ≤ levels ∧ m'.length = m.length ∧ Dw m' n (k + 103 - 2 * j)) ?_ ?_ _ _ _ _ ⟨[1 + v], rfl, ⟨by simp, Asc.one _, fun i a hi => ?_⟩, by simp; omega, by simp, hd3.mono (by omega)⟩
  rotate_left 2
  · have := get_lt hi
    simp at this
    subst this
    simp at hi
    subst hi
    simp
    omega
  · rintro i j s m' ⟨cs, rfl, hcv, hcl, hml, hd4⟩
    simp! [true_and]
    obtain ⟨c, hc⟩ : ∃ c, cs.getLast? = some c := by
      cases hcs : cs.getLast? with
      | none => exact absurd (List.getLast?_eq_none_iff.1 hcs) hcv.ne
      | some c => exact ⟨c, rfl⟩
    have hc2 := hc
    rw [List.getLast?_eq_getElem?] at hc2
    have hcp := hcv.pos _ c hc2
    refine below_wp hd4 (by omega) (by omega) (by omega) fun v1 o4 hv10 hv11 hd5 => ?_
    simp! [true_and]
    refine ⟨_, last_map hc, mul_ok (by decide) (by decide) (by omega) (by omega), ?_⟩
    refine below_wp hd5 (by omega) (by omega) (by omega) fun v2 o5 hv20 hv21 hd6 => ?_
    simp! [true_and]
    refine ⟨sz_le (by simp), ?_⟩
    refine ix_one (ns := [1 + v1, c, 1, 1 + v2]) (P := fun x => 1 ≤ x ∧ (x ≤ c ∨ x ≤ 2 * step)) hw0 (by simpa using hw1) ?_ fun more _ hp => ?_
    · intro x hx
      simp at hx
      rcases hx with rfl | rfl | rfl | rfl <;> omega
    simp! [true_and]
    refine ⟨_, last_map hc, ?_⟩
    simp! [true_and]
    refine ⟨?_, cs ++ [c + more], by simp, hcv.snoc hs hc (by omega) (by omega), by simp; omega, by simpa using hml, hd6.mono (by omega)⟩
    rw [List.length_map]
    exact sz_lt (by omega)
  · rintro s m' ⟨cs, rfl, hcv, hcl, hml, hd4⟩
    simp! [true_and]
    refine below_wp hd4 (by omega) (by decide) (by decide) fun way1 o4 hw10 hw11 hd5 => ?_
    simp! [cut_init]
    refine ⟨sz_le (by simp), ?_⟩
    have hinit : (cs.map D.int).dropLast = cs.dropLast.map D.int := by rw [List.map_dropLast]
    rw [hinit]
    have hcl0 : 0 < cs.length := by
      have := hcv.ne
      cases cs with
      | nil => exact absurd rfl this
      | cons _ _ => simp
    refine forL_wp (fun xs s m' => ∃ (ls : List Int) (low : Int), xs = (cs.dropLast.drop ls.length).map D.int ∧ s = (.int low, ls.map D.int) ∧ Lm cs ls ∧ ls.length < cs.length ∧ (ls.getLast? = some low ∨ (ls = [] ∧ low = -1)) ∧ m'.length = m.length ∧ Dw m' n (k + 110 + ls.length)) ?_ ?_ _ _ _ ⟨[], -1, rfl, rfl, ⟨Asc.nil, fun i a h => by simp at h⟩, hcl0, .inr ⟨rfl, rfl⟩, by simpa using hml, hd5.mono (by simp; omega)⟩
    · rintro x xs s m'' ⟨ls, low, hx, rfl, hlm, hll, hlow, hml2, hd6⟩
      obtain ⟨r, hr⟩ := get_ex hll
      have hlt : ls.length < cs.dropLast.length := by
        have := congrArg List.length hx
        simp at this
        simp
        omega
      have hr2 : cs.dropLast[ls.length]? = some r := by
        rw [List.getElem?_dropLast, if_pos (by simpa using hlt)]
        exact hr
      rw [drop_at hr2, List.map_cons] at hx
      obtain ⟨rfl, rfl⟩ := List.cons.inj hx
      have hrp := hcv.pos _ r hr
      have hlr : low < r ∧ -1 ≤ low := by
        rcases hlow with hlow | ⟨rfl, rfl⟩
        · have h2 := hlow
          rw [List.getLast?_eq_getElem?] at h2
          obtain ⟨h0, b, hb, hle⟩ := hlm.ok _ _ h2
          have hne := get_lt h2
          have := hcv.asc (ls.length - 1) b r hb (by rw [show ls.length - 1 + 1 = ls.length by omega]; exact hr)
          omega
        · omega
      have hr50 : r < 2 ^ 100 := by
        have h3 : (2 : Int) ^ ls.length ≤ 2 ^ 50 := by
          have : (2 : Nat) ^ ls.length ≤ 2 ^ 50 := Nat.pow_le_pow_right (by decide) (by omega)
          exact_mod_cast this
        have h4 : 2 * step * 2 ^ ls.length ≤ 2000000 * 2 ^ 50 := Int.mul_le_mul (by omega) h3 (Int.le_of_lt (Int.pow_pos (by decide))) (by decide)
        omega
      simp! [true_and]
      refine below_wp hd6 (by omega) (by omega) (by omega) fun v1 o5 hv10 hv11 hd7 => ?_
      simp! [true_and]
      refine ⟨div_ok (by decide) (by decide), sz_le (by simp), ?_⟩
      refine ix_one (ns := [low + 1, r, low + 1 + v1, if r / 2 > low + 1 then r / 2 else low + 1]) (P := fun x => low < x ∧ x ≤ r ∧ 0 ≤ x) hw10 (by simpa using hw11) ?_ fun l _ hp => ?_
      · intro x hx
        simp only [List.mem_cons, List.not_mem_nil, or_false] at hx
        rcases hx with rfl | rfl | rfl | rfl
        · omega
        · omega
        · omega
        · split <;> omega
      simp! [true_and]
      refine ⟨?_, ls ++ [l], l, ?_, by simp, hlm.snoc hr hp.2.2 hp.2.1 ?_, ?_, .inl (by simp), by simpa using hml2, hd7.mono (by simp; omega)⟩
      · rw [List.length_map]
        exact sz_lt (by omega)
      · simp
      · intro y hy
        rcases hlow with hlow | ⟨e, _⟩
        · rw [hlow] at hy
          cases hy
          exact hp.1
        · rw [e] at hy
          simp at hy
      · simp at hlt ⊢
        omega
    · rintro s m'' ⟨ls, low, hx, rfl, hlm, hll, hlow, hml2, hd6⟩
      have hlen : cs.length = ls.length + 1 := by
        have := congrArg List.length hx
        simp at this
        omega
      simp! [true_and]
      refine below_wp hd6 (by omega) (by decide) (by decide) fun v1 o5 hv10 hv11 hd7 => ?_
      simp! [true_and]
      refine ⟨sz_le (by simp), ?_⟩
      refine pick_wp hd7 (by omega) (by simp) (by simp) fun x o6 hx hd8 => ?_
      have hfx : ∃ fx : Int, x = .int fx ∧ 0 ≤ fx ∧ fx < 20 := by
        simp only [List.mem_cons, List.not_mem_nil, or_false] at hx
        rcases hx with rfl | rfl | rfl | rfl
        · exact ⟨_, rfl, by decide, by decide⟩
        · exact ⟨_, rfl, by decide, by decide⟩
        · exact ⟨_, rfl, by decide, by decide⟩
        · exact ⟨_, rfl, hv10, hv11⟩
      obtain ⟨fx, rfl, hf0, hf1⟩ := hfx
      simp! [true_and]
      refine ⟨sz_le (by simp), h cs ls fx _ ⟨hlen, hcv.asc, fun i a hi => (hcv.pos i a hi).1, hlm.asc, fun i a hi => (hlm.ok i a hi).1, fun i a b h1 h2 => ?_⟩ (by omega) (fun i a hi => (hcv.pos i a hi).2) hf0 hf1 (by simpa using hml2) (hd8.mono (by omega))⟩
      obtain ⟨b', hb', hle⟩ := (hlm.ok i a h1).2
      rw [h2] at hb'
      cases hb'
      exact hle
end G.K08
namespace G.K08
open PySem G
theorem pairs_wp {m : Hs} {n : Nat} {k most longest : Int} {Q : D → Hs → Prop} (hd : Dw m n k) (hk : k < 2 ^ 50) (h0 : 0 ≤ most) (h1 : most ≤ 1000) (h2 : 1 ≤ longest) (h3 : longest ≤ 1000000000000000000)
    (h : ∀ (os : List Opn) (m' : Hs), (∀ o, o ∈ os → 1 ≤ o.2 ∧ o.2 ≤ longest ∨ 1 ≤ o.2 ∧ o.2 ≤ 3) → (os.length : Int) ≤ most → m'.length = m.length → Dw m' n (k + 5 + 4 * most) → Q (opsD os) m') : wp (t_law_pairs (.ref n) (.int most) (.int longest)) m Q := by
  unfold t_law_pairs bd_law_pairs
  simp! [true_and]
  refine ⟨sz_le (by simp), ?_⟩
  refine below_wp hd (by omega) (by omega) (by omega) fun many o1 hm0 hm1 hd1 => ?_
  simp! [true_and]
  refine ⟨⟨by omega, by omega⟩, ?_⟩
  refine rng_wp (fun j s m' => ∃ os : List Opn, s = os.map opD ∧ (∀ o, o ∈ os → 1 ≤ o.2 ∧ o.2 ≤ longest ∨ 1 ≤ o.2 ∧ o.2 ≤ 3) ∧ (os.length : Int) + j ≤ most ∧ m'.length = m.length ∧ Dw m' n (k + 1 + 4 * (most - j))) ?_ ?_ _ _ _ _ ⟨[], rfl, by simp, by simp; omega, by simp, hd1.mono (by omega)⟩
  · rintro i j s m' ⟨os, rfl, hos, hl, hml, hd2⟩
    simp! [true_and]
    refine below_wp hd2 (by omega) (by decide) (by decide) fun v1 o2 hv10 hv11 hd3 => ?_
    simp! [true_and]
    refine below_wp hd3 (by omega) (by omega) (by omega) fun v2 o3 hv20 hv21 hd4 => ?_
    simp! [true_and]
    refine ⟨sz_le (by simp), ?_⟩
    refine pick_wp hd4 (by omega) (by simp) (by simp) fun x o4 hx hd5 => ?_
    obtain ⟨c, rfl, hc⟩ : ∃ c : Int, x = .int c ∧ (1 ≤ c ∧ c ≤ longest ∨ 1 ≤ c ∧ c ≤ 3) := by
      simp only [List.mem_cons, List.not_mem_nil, or_false] at hx
      rcases hx with rfl | rfl | rfl
      · exact ⟨_, rfl, by omega⟩
      · exact ⟨_, rfl, by omega⟩
      · exact ⟨_, rfl, by omega⟩
    simp! [true_and]
    refine ⟨sz_le (by simp), ?_⟩
    refine pick_wp hd5 (by omega) (by simp) (by simp) fun x o5 hx hd6 => ?_
    obtain ⟨b, rfl⟩ : ∃ b : Bool, x = .str (wd b) := by
      simp only [List.mem_cons, List.not_mem_nil, or_false] at hx
      rcases hx with rfl | rfl | rfl
      · exact ⟨true, rfl⟩
      · exact ⟨true, rfl⟩
      · exact ⟨false, rfl⟩
    simp! [true_and]
    refine ⟨sz_le (by simp), ?_, os ++ [(b, c)], by simp [opD], fun o ho => ?_, by simp; omega, by simpa using hml, hd6.mono (by omega)⟩
    · rw [List.length_map]
      exact sz_lt (by omega)
    · rcases List.mem_append.1 ho with ho | ho
      · exact hos o ho
      · simp at ho
        subst ho
        exact hc
  · rintro s m' ⟨os, rfl, hos, hl, hml, hd2⟩
    simp! [true_and]
    exact h os m' hos (by omega) hml (hd2.mono (by omega))
end G.K08
namespace G.K08
open PySem G
theorem eq_push {b : Bool} : decide (wd b = Str.ofString "push") = b := by
  cases b with
  | true => rfl
  | false => exact decide_eq_false push_ne
theorem pol_0 {cs ls : List Int} {fx : Int} {m : Hs} {Q : D → Hs → Prop} : wp (idxS (pol cs ls fx) (.int 0)) m Q = Q (il cs) m := by unfold pol; exact w_ixT0
theorem pol_2 {cs ls : List Int} {fx : Int} {m : Hs} {Q : D → Hs → Prop} : wp (idxS (pol cs ls fx) (.int 2)) m Q = Q (.int fx) m := by unfold pol; exact w_ixT2
theorem il_last {cs : List Int} {c : Int} {m : Hs} {Q : D → Hs → Prop} (h : cs.getLast? = some c) : wp (idxS (il cs) (.int (-1))) m Q = Q (.int c) m := by
  unfold il
  rw [w_ixT, last_map h]
  simp
theorem il_at {cs : List Int} {i : Nat} {c : Int} {m : Hs} {Q : D → Hs → Prop} (h : cs[i]? = some c) : wp (idxS (il cs) (.int i)) m Q = Q (.int c) m := by
  unfold il
  rw [w_ixT, at_nat, List.getElem?_map, h]
  simp
theorem fitting_wp {m : Hs} {n lv : Nat} {k most longest sz mo fx : Int} {cs ls : List Int} {Q : D → Hs → Prop} (hd : Dw m n k) (hk : k < 2 ^ 50) (h0 : 0 ≤ most) (h1 : most ≤ 200) (h2 : 1 ≤ longest) (h3 : longest ≤ 1000000000000000000) (hmo : cs.getLast? = some mo) (hs0 : 0 ≤ sz) (hs1 : sz ≤ mo)
    (h : ∀ (os : List Opn) (m' : Hs), (∀ o, o ∈ os → okOp o) → os.length ≤ 200 → goesAll mo sz os → m'.length = m.length → Dw m' n (k + 5 + 4 * most) → (∀ o, o ∈ os → o.2 ≤ longest ∨ o.2 ≤ 3) → Q (opsD os) m') : wp (t_law_fitting (.ref n) (pol cs ls fx) (.int lv) (.int sz) (.int most) (.int longest)) m Q := by
  unfold t_law_fitting bd_law_fitting
  simp! [↓pol_0, ↓il_last hmo]
  refine ⟨sz_le (by simp), ?_⟩
  refine pairs_wp hd hk h0 (by omega) h2 h3 fun os m' hos hol hml hd1 => ?_
  unfold opsD
  simp! [true_and]
  refine forL_wp (fun xs s m2 => ∃ (rs os' : List Opn) (sz' : Int), xs = rs.map opD ∧ s = (.int sz', os'.map opD) ∧ (∀ o, o ∈ rs → 1 ≤ o.2 ∧ o.2 ≤ longest ∨ 1 ≤ o.2 ∧ o.2 ≤ 3) ∧ (∀ o, o ∈ os' → okOp o ∧ (o.2 ≤ longest ∨ o.2 ≤ 3)) ∧ os'.length + rs.length ≤ 200 ∧ 0 ≤ sz' ∧ sz' ≤ mo ∧ (∀ r, goesAll mo sz' r → goesAll mo sz (os' ++ r)) ∧ m2 = m') ?_ ?_ _ _ _ ⟨os, [], sz, rfl, rfl, hos, by simp, by simp; omega, hs0, hs1, fun r hr => hr, rfl⟩
  · rintro x xs s m2 ⟨rs, os', sz', hx, rfl, hrs, hok, hl, hz0, hz1, hgo, rfl⟩
    cases rs with
    | nil => cases hx
    | cons o rs =>
      simp only [List.map_cons] at hx
      obtain ⟨rfl, rfl⟩ := List.cons.inj hx
      have ho := hrs o (by simp)
      obtain ⟨b, c⟩ := o
      simp only [opD]
      simp only [List.length_cons] at hl
      have snoc : ∀ (c' : Int) (r : List Opn), goes mo sz' (b, c') → goesAll mo (if b then sz' + c' else sz' - c') r → goesAll mo sz (os' ++ [(b, c')] ++ r) := fun c' r g1 g2 => by
        rw [List.append_assoc]
        exact hgo _ ⟨g1, g2⟩
      simp! [eq_push]
      generalize hc' : (if (if b = true then mo - sz' else sz') < c then (if b = true then mo - sz' else sz') else c) = c'
      have hle : c' ≤ c ∧ c' ≤ (if b = true then mo - sz' else sz') := by
        rw [← hc']
        split <;> split <;> omega
      have fin : (if b = true then D.int c' else D.int (0 - c')) = D.int (if b = true then c' else 0 - c') := by cases b <;> rfl
      by_cases hpos : 0 < c'
      · cases b with
        | true =>
          simp only [if_true] at hle hc' snoc
          simp! [eq_push, hc', hpos]
          refine ⟨sz_le (by simp), ?_, rs, os' ++ [(true, c')], sz' + c', rfl, by simp [opD], fun o ho2 => hrs o (by simp [ho2]), fun o ho2 => ?_, by simp; omega, by omega, by omega, fun r hr => snoc c' r (by simp [goes]; omega) hr⟩
          · rw [List.length_map]
            exact sz_lt (by omega)
          · rcases List.mem_append.1 ho2 with ho2 | ho2
            · exact hok o ho2
            · simp at ho2
              subst ho2
              simp only at ho
              exact ⟨⟨by simp only; omega, by simp only; omega⟩, by simp only; omega⟩
        | false =>
          simp only [if_false, Bool.false_eq_true] at hle hc' snoc
          simp! [eq_push, hc', hpos]
          refine ⟨sz_le (by simp), ?_, rs, os' ++ [(false, c')], sz' - c', rfl, by simp [opD]; omega, fun o ho2 => hrs o (by simp [ho2]), fun o ho2 => ?_, by simp; omega, by omega, by omega, fun r hr => snoc c' r (by simp [goes]; omega) hr⟩
          · rw [List.length_map]
            exact sz_lt (by omega)
          · rcases List.mem_append.1 ho2 with ho2 | ho2
            · exact hok o ho2
            · simp at ho2
              subst ho2
              simp only at ho
              exact ⟨⟨by simp only; omega, by simp only; omega⟩, by simp only; omega⟩
      · cases b with
        | true =>
          simp only [if_true] at hle hc'
          simp! [eq_push, hc', hpos]
          exact ⟨rs, os', sz', rfl, rfl, fun o ho2 => hrs o (by simp [ho2]), hok, by omega, hz0, hz1, hgo⟩
        | false =>
          simp only [if_false, Bool.false_eq_true] at hle hc'
          simp! [eq_push, hc', hpos]
          exact ⟨rs, os', sz', rfl, rfl, fun o ho2 => hrs o (by simp [ho2]), hok, by omega, hz0, hz1, hgo⟩
  · rintro s m2 ⟨rs, os', sz', hx, rfl, hrs, hok, hl, hz0, hz1, hgo, rfl⟩
    simp! [true_and]
    have hg := hgo [] trivial
    rw [List.append_nil] at hg
    exact h os' m2 (fun o ho => (hok o ho).1) (by omega) hg hml (hd1.mono (by omega)) fun o ho => (hok o ho).2
end G.K08
namespace G.K08
open PySem G
def stp (t u : Tk) : D := .tup [.int u.lv, .int u.sz, .int (u.pd - t.pd)]
theorem pushed_eq {cs ls : List Int} {fx mo : Int} {t : Tk} (v : Vp cs ls) (hmo : cs.getLast? = some mo) (s : Sv cs ls t.lv t.sz) (hlt : t.sz < mo) : t_law_pushed (pol cs ls fx) (.int t.lv) (.int t.sz) = ret (stp t (upS cs fx t).1) := ret_of fun m Q q => by
  obtain ⟨c, hc, hs⟩ := s.top
  have hl := v.last hmo hc
  have hlv := get_lt hc
  unfold t_law_pushed bd_law_pushed
  have e : pol cs ls fx = .tup [il cs, il ls, .int fx] := rfl
  rw [e]
  have el : ∀ {m : Hs} {Q : D → Hs → Prop}, wp (lenS [il cs]) m Q = Q (.int cs.length) m := fun {m Q} => by unfold il; rw [w_lenT, List.length_map]
  unfold upS stp at q
  simp only [hc] at q
  simp! [↓il_at hc, ↓el]
  by_cases hz : t.sz < c
  · rw [if_pos hz] at q
    simp only [Int.sub_self] at q
    simp! [hz]
    exact ⟨sz_le (by simp), q⟩
  · rw [if_neg hz] at q
    have hne : ((t.lv : Int) + 1 < cs.length) := by
      have : t.lv + 1 ≠ cs.length := fun e => by
        have := hl.2 e
        omega
      omega
    have e1 : ((t.lv : Int) + 1) = ((t.lv + 1 : Nat) : Int) := by omega
    have e2 : t.pd + (t.sz + fx) - t.pd = t.sz + fx := by omega
    simp only [e2] at q
    simp! [hz, hne]
    rw [e1]
    exact ⟨sz_le (by simp), q⟩
theorem popped_eq {cs ls : List Int} {fx : Int} {t : Tk} (v : Vp cs ls) (s : Sv cs ls t.lv t.sz) : t_law_popped (pol cs ls fx) (.int t.lv) (.int t.sz) = ret (if t.sz = 0 then .non else stp t (dnS ls fx t).1) := ret_of fun m Q q => by
  obtain ⟨c, hc, hs⟩ := s.top
  have hlv := get_lt hc
  have hlen := v.len
  unfold t_law_popped bd_law_popped
  have e : pol cs ls fx = .tup [il cs, il ls, .int fx] := rfl
  rw [e]
  by_cases hz : t.sz = 0
  · rw [if_pos hz] at q
    simp! [hz, show ((0 : Int) == 0) = true from rfl]
    exact q
  · rw [if_neg hz] at q
    have hb : (t.sz == 0) = false := by simpa using hz
    cases hlv2 : t.lv with
    | zero =>
      unfold dnS stp at q
      simp only [hlv2, Int.sub_self] at q
      simp! [hb, show ¬ ((0 : Int) < ((0 : Nat) : Int)) by decide]
      exact ⟨sz_le (by simp), q⟩
    | succ p =>
      obtain ⟨l, hl⟩ := get_ex (l := ls) (i := p) (by omega)
      have e1 : (((p + 1 : Nat) : Int) - 1) = (p : Int) := by omega
      have e0 : (0 : Int) < ((p + 1 : Nat) : Int) := by omega
      unfold dnS stp at q
      simp only [hlv2, hl] at q
      simp! [hb, e0, e1, ↓il_at hl]
      by_cases hl2 : t.sz - 1 = l
      · rw [if_pos hl2] at q
        have e2 : t.pd + (t.sz - 1 + fx) - t.pd = t.sz - 1 + fx := by omega
        simp only [e2] at q
        simp! [hl2, beq_self_eq_true]
        rw [hl2] at q
        exact ⟨sz_le (by simp), q⟩
      · rw [if_neg hl2] at q
        have hb2 : (t.sz - 1 == l) = false := by simpa using hl2
        simp only [Int.sub_self] at q
        simp! [hb2]
        exact ⟨sz_le (by simp), q⟩
theorem st_mv {cs ls : List Int} {fx : Int} {t : Tk} {b : Bool} (v : Vp cs ls) (s : Sv cs ls t.lv t.sz) : (stS cs ls fx b t).1.dn = t.dn + 1 ∧ (stS cs ls fx b t).2 = if (stS cs ls fx b t).1.lv = t.lv then [] else [⟨t.dn, b, (stS cs ls fx b t).1.lv, (stS cs ls fx b t).1.pd - t.pd - fx⟩] := by
  obtain ⟨c, hc, hs⟩ := s.top
  have hlv := get_lt hc
  have hlen := v.len
  cases b with
  | true =>
    simp only [stS, if_true, upS, hc]
    by_cases hz : t.sz < c
    · rw [if_pos hz]
      simp
    · rw [if_neg hz]
      refine ⟨rfl, ?_⟩
      rw [if_neg (by simp)]
      have e : t.pd + (t.sz + fx) - t.pd - fx = t.sz := by omega
      rw [e]
  | false =>
    simp only [stS, Bool.false_eq_true, if_false, dnS]
    cases hl : t.lv with
    | zero => simp [hl]
    | succ p =>
      obtain ⟨l, hll⟩ := get_ex (l := ls) (i := p) (by omega)
      simp only [hll]
      by_cases hz : t.sz - 1 = l
      · rw [if_pos hz]
        refine ⟨rfl, ?_⟩
        rw [if_neg (by simp)]
        have e : t.pd + (t.sz - 1 + fx) - t.pd - fx = t.sz - 1 := by omega
        rw [e]
      · rw [if_neg hz]
        simp [hl]
theorem lmoves_eq {cs ls : List Int} {fx mo sz : Int} {lv : Nat} {os : List Opn} (v : Vp cs ls) (hmo : cs.getLast? = some mo) (s : Sv cs ls lv sz) (ho : ∀ o, o ∈ os → okOp o) (hg : goesAll mo sz os) (hml : (runsT (cs.zip ls) fx ⟨lv, sz, 0, 0⟩ os).2.length ≤ 1000000) :
    t_law_moves (pol cs ls fx) (.int lv) (.int sz) (opsD os) = ret (.fl ((runsT (cs.zip ls) fx ⟨lv, sz, 0, 0⟩ os).2.map Mv.d)) := ret_of fun m Q q => by
  unfold t_law_moves bd_law_moves opsD
  simp! [↓pol_2]
  refine ⟨sz_le (by simp), ?_⟩
  refine forL_wp (fun xs st m' => ∃ (rs : List Opn) (t : Tk) (acc : List Mv), xs = rs.map opD ∧ st = (.int t.lv, .int t.sz, acc.map Mv.d, .int t.dn) ∧ Sv cs ls t.lv t.sz ∧ (∀ o, o ∈ rs → okOp o) ∧ goesAll mo t.sz rs ∧ (runsT (cs.zip ls) fx ⟨lv, sz, 0, 0⟩ os).2 = acc ++ (runsT (cs.zip ls) fx t rs).2 ∧ m' = m) ?_ ?_ _ _ _ ⟨os, ⟨lv, sz, 0, 0⟩, [], rfl, rfl, s, ho, hg, rfl, rfl⟩
  · rintro x xs st m' ⟨rs, t, acc, hx, rfl, hsv, hok, hgo, e1, rfl⟩
    cases rs with
    | nil => cases hx
    | cons o rs =>
      simp only [List.map_cons] at hx
      obtain ⟨rfl, rfl⟩ := List.cons.inj hx
      obtain ⟨b, c⟩ := o
      have ho1 := hok (b, c) (by simp)
      unfold okOp at ho1
      simp only at ho1
      have hg1 := hgo.1
      have e0 : (runsT (cs.zip ls) fx t ((b, c) :: rs)).2 = (runT (cs.zip ls) fx t (b, c)).2 ++ (runsT (cs.zip ls) fx (runT (cs.zip ls) fx t (b, c)).1 rs).2 := rfl
      simp only [opD]
      simp! [true_and]
      refine ⟨⟨by omega, by omega⟩, ?_⟩
      refine rng_wp (fun j st m2 => ∃ (t2 : Tk) (ac : List Mv), st = (.int t2.lv, .int t2.sz, (acc ++ ac).map Mv.d, .int t2.dn) ∧ Sv cs ls t2.lv t2.sz ∧ goes mo t2.sz (b, (j : Int)) ∧ (runT (cs.zip ls) fx t (b, c)).1 = (runT (cs.zip ls) fx t2 (b, (j : Int))).1 ∧ (runT (cs.zip ls) fx t (b, c)).2 = ac ++ (runT (cs.zip ls) fx t2 (b, (j : Int))).2 ∧ m2 = m') ?_ ?_ _ _ _ _ ⟨t, [], by rw [List.append_nil], hsv, by rw [Int.toNat_of_nonneg (by omega)]; exact hg1, by rw [Int.toNat_of_nonneg (by omega)], by rw [Int.toNat_of_nonneg (by omega)]; rfl, rfl⟩
      · rintro i j st m2 ⟨t2, ac, rfl, hsv2, hgo2, e2, e3, rfl⟩
        obtain ⟨a1, a2, a3, a4⟩ := run_step (fx := fx) v hmo hsv2 (c := ((j + 1 : Nat) : Int)) (by omega) hgo2
        rw [show ((j + 1 : Nat) : Int) - 1 = (j : Int) by omega] at a3 a4
        obtain ⟨n1, n2⟩ := st_mv (fx := fx) (b := b) v hsv2
        have e4 : (runT (cs.zip ls) fx t (b, c)).1 = (runT (cs.zip ls) fx (stS cs ls fx b t2).1 (b, (j : Int))).1 := by rw [e2, a4]
        have e5 : (runT (cs.zip ls) fx t (b, c)).2 = (ac ++ (stS cs ls fx b t2).2) ++ (runT (cs.zip ls) fx (stS cs ls fx b t2).1 (b, (j : Int))).2 := by rw [e3, a4, List.append_assoc]
        have hlen : ((acc ++ ac).map Mv.d).length < 16777216 := by
          rw [e1, e0, e3] at hml
          simp only [List.length_append, List.length_map] at hml ⊢
          omega
        have step : ∀ {α : Type} {K : D → M α} {R : α → Hs → Prop}, wp (K (stp t2 (stS cs ls fx b t2).1)) m2 R → wp (bnd (iteM (cmpM .eq (ret (.str (wd b))) (ret (.str "push"))) (calM (fs3 t_law_pushed) (lsM [ret (pol cs ls fx), ret (.int t2.lv), ret (.int t2.sz)])) (calM (fs3 t_law_popped) (lsM [ret (pol cs ls fx), ret (.int t2.lv), ret (.int t2.sz)]))) K) m2 R := fun {α K R} h => by
          cases b with
          | true =>
            simp only [goes, if_true] at hgo2
            simp only [stS, if_true] at h
            simp! [eq_push, ↓ret_wp (pushed_eq (fx := fx) v hmo hsv2 (by omega))]
            exact h
          | false =>
            simp only [goes, if_false, Bool.false_eq_true] at hgo2
            simp only [stS, if_false, Bool.false_eq_true] at h
            simp! [eq_push, ↓ret_wp (popped_eq (fx := fx) v hsv2), show ¬ t2.sz = 0 by omega]
            exact h
        refine step ?_
        generalize hu : (stS cs ls fx b t2).1 = u at *
        unfold stp
        simp! [eq_push]
        by_cases hq : u.lv = t2.lv
        · rw [if_pos hq] at n2
          rw [n2, List.append_nil] at e5
          have hb : (!((u.lv : Int) == (t2.lv : Int))) = false := by simp [hq]
          simp! [hb]
          rw [← n1]
          exact ⟨u, ac, rfl, a1, a3, e4, e5⟩
        · rw [if_neg hq] at n2
          rw [n2] at e5
          have hb : (!((u.lv : Int) == (t2.lv : Int))) = true := by
            have : ¬ (u.lv : Int) = (t2.lv : Int) := by omega
            simp [this]
          have eg : Mv.d ⟨t2.dn, b, u.lv, u.pd - t2.pd - fx⟩ = .tup [.int t2.dn, if b = true then .str "grow" else .str "shrink", .int u.lv, .int (u.pd - t2.pd - fx)] := by
            unfold Mv.d
            cases b <;> rfl
          simp! [hb]
          have hl2 : ((acc ++ ac).map Mv.d).length < sizeLine := Nat.lt_of_lt_of_le hlen (by decide)
          have em : ∀ y : D, Mv.d ⟨t2.dn, b, u.lv, u.pd - t2.pd - fx⟩ = y → ((D.int u.lv, D.int u.sz, (acc ++ ac).map Mv.d ++ [y], D.int (t2.dn + 1)) : D × D × List D × D) = (.int u.lv, .int u.sz, (acc ++ (ac ++ [(⟨t2.dn, b, u.lv, u.pd - t2.pd - fx⟩ : Mv)])).map Mv.d, .int u.dn) := fun y hy => by
            subst hy
            rw [n1]
            simp only [List.map_append, List.map_cons, List.map_nil, List.append_assoc]
          cases b with
          | true =>
            rw [if_pos rfl]
            exact ⟨sz_le (by simp), hl2, u, _, em _ (by rw [eg, if_pos rfl]), a1, a3, e4, e5⟩
          | false =>
            rw [if_neg (by decide)]
            exact ⟨sz_le (by simp), hl2, u, _, em _ (by rw [eg, if_neg (by decide)]), a1, a3, e4, e5⟩
      · rintro st m2 ⟨t2, ac, rfl, hsv2, hgo2, e2, e3, rfl⟩
        simp! [true_and]
        rw [show (((0 : Nat) : Int)) = 0 from rfl, run_0 v hsv2] at e2 e3
        simp only [List.append_nil] at e2 e3
        refine ⟨rs, t2, acc ++ ac, rfl, rfl, hsv2, fun o ho => hok o (by simp [ho]), ?_, ?_⟩
        · have := hgo.2
          rw [← runT_sz (P := cs.zip ls) (fx := fx), e2] at this
          exact this
        · rw [e1, e0, e3, e2, List.append_assoc]
  · rintro st m' ⟨rs, t, acc, hx, rfl, hsv, hok, hgo, e1, rfl⟩
    cases rs with
    | cons o rs => cases hx
    | nil =>
      have e2 : (runsT (cs.zip ls) fx t []).2 = [] := rfl
      rw [e2, List.append_nil] at e1
      rw [e1] at q
      simp! [true_and]
      exact q
end G.K08
namespace G.K08
open PySem G
theorem states_wp {m : Hs} {cs ls : List Int} {fx B : Int} {Q : D → Hs → Prop} (v : Vp cs ls) (hB : ∀ (i : Nat) (a : Int), cs[i]? = some a → a ≤ B) (hl : cs.length ≤ 50) (hB2 : B ≤ 100000)
    (h : ∀ sts : List (Nat × Int), (∀ p, p ∈ sts → Sv cs ls p.1 p.2) → 0 < sts.length → sts.length < 16777216 → Q (.fl (sts.map fun p => stD p.1 p.2)) m) : wp (t_law_states (pol cs ls fx)) m Q := by
  unfold t_law_states bd_law_states
  have hlen := v.len
  obtain ⟨c0, hc0⟩ := get_ex (l := cs) (i := 0) (by omega)
  have hp0 := v.pos 0 c0 hc0
  have hb0 := hB 0 c0 hc0
  have e : pol cs ls fx = .tup [il cs, il ls, .int fx] := rfl
  rw [e]
  have el : ∀ {m : Hs} {Q : D → Hs → Prop}, wp (lenS [il cs]) m Q = Q (.int cs.length) m := fun {m Q} => by unfold il; rw [w_lenT, List.length_map]
  have i0 : ∀ {m : Hs} {Q : D → Hs → Prop}, wp (idxS (il cs) (.int 0)) m Q = Q (.int c0) m := fun {m Q} => il_at (i := 0) hc0
  have rngs : ∀ (l : Nat) (lo : Int) (k : Nat) (f : D → D), (∀ s : Int, f (.int s) = stD l s) → (rngL lo k).map f = ((List.range k).map fun j => ((l, lo + (j : Nat)) : Nat × Int)).map fun p => stD p.1 p.2 := fun l lo k f hf => by
    unfold rngL
    rw [List.map_map, List.map_map]
    apply List.map_congr_left
    intro j _
    exact hf _
  have hr : ∀ {m : Hs} {R : Its → Hs → Prop}, wp (rng2I (ret (.int 1)) (calM lenS (lsM [ret (il cs)]))) m R = ((-(2 ^ 62) ≤ (1 : Int) ∧ (1 : Int) < 2 ^ 62 ∧ -(2 ^ 62) ≤ (cs.length : Int) ∧ (cs.length : Int) < 2 ^ 62) ∧ R (rngL 1 ((cs.length : Int) - 1).toNat, []) m) := rng2_of (fun m Q => wp_retE) fun m Q => by
    simp! [↓el]
  simp only [↓wp_fnM, ↓Zax, ↓wp_ret, ↓un3_t]
  simp only [↓wp_seq, ↓wp_forM]
  simp only [↓hr]
  simp! [↓i0]
  refine ⟨⟨by omega, by omega⟩, ?_⟩
  refine lc_map_wp (fun x => .tup [.int 0, x]) (fun x hx => el_two _ _) (by rw [rngL_len]; omega) ?_
  simp! [↓el]
  refine ⟨⟨by decide, by decide, by omega, by omega⟩, ?_⟩
  rw [rngs 0 0 (c0 + 1).toNat _ (fun s => rfl)]
  refine rngI_wp (fun i j s m' => ∃ (lv : Nat) (sts : List (Nat × Int)), i = (lv : Int) + 1 ∧ lv + 1 + j = cs.length ∧ s = sts.map (fun p => stD p.1 p.2) ∧ (∀ p, p ∈ sts → Sv cs ls p.1 p.2) ∧ 0 < sts.length ∧ sts.length ≤ 100001 * (lv + 1) ∧ m' = m) ?_ ?_ _ _ _ _ ⟨0, _, rfl, by omega, rfl, fun p hp => ?_, ?_, ?_, rfl⟩
  · rintro i j s m' ⟨lv, sts, rfl, hj, rfl, hsv, hpos, hlen2, rfl⟩
    obtain ⟨c, hc⟩ := get_ex (l := cs) (i := lv + 1) (by omega)
    obtain ⟨l, hl2⟩ := get_ex (l := ls) (i := lv) (by omega)
    have e1 : ((lv : Int) + 1 - 1) = (lv : Int) := by omega
    have ic : ∀ {m : Hs} {Q : D → Hs → Prop}, wp (idxS (il cs) (.int ((lv : Int) + 1))) m Q = Q (.int c) m := fun {m Q} => il_at (i := lv + 1) hc
    have hlp := v.lpos lv l hl2
    have hcb := hB _ c hc
    have hcp := v.pos _ c hc
    simp! [e1, ↓il_at hl2, ↓ic]
    have hlb : l ≤ 100000 := by
      obtain ⟨b, hb⟩ := get_ex (l := cs) (i := lv) (by omega)
      have := v.le lv l b hl2 hb
      have := hB _ b hb
      omega
    refine ⟨⟨by omega, by omega, by omega, by omega⟩, ?_⟩
    refine lc_map_wp (fun x => .tup [.int ((lv + 1 : Nat) : Int), x]) (fun x hx => el_two _ _) (by rw [rngL_len]; omega) ?_
    simp! [true_and]
    rw [rngs (lv + 1) (l + 1) _ _ (fun s => rfl)]
    refine ⟨?_, lv + 1, sts ++ (List.range (c + 1 - (l + 1)).toNat).map (fun j => (lv + 1, l + 1 + (j : Nat))), by omega, by omega, by rw [List.map_append], fun p hp => ?_, by simp; omega, ?_⟩
    · rw [List.length_map, List.length_map, List.length_map, List.length_range]
      exact sz_le (by omega)
    · rcases List.mem_append.1 hp with hp | hp
      · exact hsv p hp
      · obtain ⟨k, hk, rfl⟩ := List.mem_map.1 hp
        rw [List.mem_range] at hk
        refine ⟨⟨c, hc, by simp only; omega⟩, by simp only; omega, fun q l3 e3 e4 => ?_⟩
        simp only at e3
        have e3 : lv = q := by omega
        subst e3
        rw [hl2] at e4
        cases e4
        simp only
        omega
    · rw [List.length_append, List.length_map, List.length_range]
      omega
  · rintro i s m' ⟨lv, sts, rfl, hj, rfl, hsv, hpos, hlen2, rfl⟩
    simp! [true_and]
    exact h sts hsv hpos (by omega)
  · obtain ⟨k, hk, rfl⟩ := List.mem_map.1 hp
    rw [List.mem_range] at hk
    exact ⟨⟨c0, hc0, by simp only; omega⟩, by simp only; omega, fun q l e => by cases e⟩
  · rw [List.length_map, List.length_range]
    omega
  · rw [List.length_map, List.length_range]
    omega
end G.K08
namespace G.K08
open PySem G
theorem ab_le {x a : Int} (h1 : -a ≤ x) (h2 : x ≤ a) : 0 ≤ ab x ∧ ab x ≤ a := by
  unfold ab
  split <;> omega
def MvR (d l : Int) (v : Mv) : Prop := 0 ≤ v.no ∧ v.no ≤ d ∧ (v.lv : Int) ≤ l ∧ 0 ≤ v.cp ∧ v.cp ≤ 2000
theorem MvR.mono {d l d' l' : Int} {v : Mv} (h : MvR d l v) (hd : d ≤ d') (hl : l ≤ l') : MvR d' l' v := by
  obtain ⟨h1, h2, h3, h4, h5⟩ := h
  exact ⟨h1, by omega, by omega, h4, h5⟩
structure TkR (t : Tk) (r : Tk × List Mv) (n : Nat) (d : Int) : Prop where
  dn0 : t.dn ≤ r.1.dn
  dn1 : r.1.dn ≤ t.dn + d
  lv : r.1.lv ≤ t.lv + n
  len : r.2.length ≤ n
  mv : ∀ v, v ∈ r.2 → MvR (t.dn + d) (t.lv + n) v
theorem pushT_mv {fx goal : Int} (hg : 0 ≤ goal ∧ goal ≤ 2000) : ∀ (ps : List (Int × Int)) (t : Tk), (∀ p, p ∈ ps → 0 ≤ p.1 ∧ p.1 ≤ 2000) → 0 ≤ t.sz → t.sz ≤ 2001 → 0 ≤ t.dn → TkR t (pushT fx goal ps t) ps.length ((ps.length + 1) * 2002)
  | [], t, _, h0, h1, h2 => by
    have := ab_le (x := goal - t.sz) (a := 2001) (by omega) (by omega)
    refine ⟨?_, ?_, ?_, ?_, fun v hv => ?_⟩ <;> simp [pushT, Tk.rest] at * <;> omega
  | p :: ps, t, hp, h0, h1, h2 => by
    have hp1 := hp p (by simp)
    have a1 := ab_le (x := p.1 - t.sz) (a := 2001) (by omega) (by omega)
    have a2 := ab_le (x := goal - t.sz) (a := 2001) (by omega) (by omega)
    unfold pushT
    split
    · have ih := pushT_mv (fx := fx) hg ps (t.up fx p.1) (fun q hq => hp q (by simp [hq])) (by simp [Tk.up]; omega) (by simp [Tk.up]; omega) (by simp [Tk.up]; omega)
      obtain ⟨i1, i2, i3, i4, i5⟩ := ih
      simp only [Tk.up] at i1 i2 i3 i5
      refine ⟨?_, ?_, ?_, ?_, fun v hv => ?_⟩
      · simp only [Tk.up]; omega
      · simp only [Tk.up, List.length_cons]; omega
      · simp only [Tk.up, List.length_cons]; omega
      · simp only [Tk.up, List.length_cons] at i4 ⊢; omega
      · simp only [List.mem_cons] at hv
        rcases hv with rfl | hv
        · refine ⟨?_, ?_, ?_, ?_, ?_⟩ <;> simp only [List.length_cons] <;> omega
        · refine (i5 v (by simpa only [Tk.up] using hv)).mono ?_ ?_ <;> simp only [List.length_cons] <;> omega
    · refine ⟨?_, ?_, ?_, ?_, fun v hv => ?_⟩
      · simp only [Tk.rest]; omega
      · simp only [Tk.rest, List.length_cons]; omega
      · simp only [Tk.rest]; omega
      · simp
      · simp at hv
theorem popT_mv {fx goal : Int} (hg : 0 ≤ goal ∧ goal ≤ 2000) : ∀ (ps : List (Int × Int)) (t : Tk), (∀ p, p ∈ ps → 0 ≤ p.2 ∧ p.2 ≤ 2000) → 0 ≤ t.sz → t.sz ≤ 2001 → 0 ≤ t.dn → TkR t (popT fx goal ps t) ps.length ((ps.length + 1) * 2002)
  | [], t, _, h0, h1, h2 => by
    have := ab_le (x := goal - t.sz) (a := 2001) (by omega) (by omega)
    refine ⟨?_, ?_, ?_, ?_, fun v hv => ?_⟩ <;> simp [popT, Tk.rest] at * <;> omega
  | p :: ps, t, hp, h0, h1, h2 => by
    have hp1 := hp p (by simp)
    have a1 := ab_le (x := p.2 + 1 - t.sz) (a := 2001) (by omega) (by omega)
    have a2 := ab_le (x := goal - t.sz) (a := 2001) (by omega) (by omega)
    unfold popT
    split
    · have ih := popT_mv (fx := fx) hg ps (t.down fx p.2) (fun q hq => hp q (by simp [hq])) (by simp [Tk.down]; omega) (by simp [Tk.down]; omega) (by simp [Tk.down]; omega)
      obtain ⟨i1, i2, i3, i4, i5⟩ := ih
      simp only [Tk.down] at i1 i2 i3 i5
      refine ⟨?_, ?_, ?_, ?_, fun v hv => ?_⟩
      · simp only [Tk.down]; omega
      · simp only [Tk.down, List.length_cons]; omega
      · simp only [Tk.down, List.length_cons]; omega
      · simp only [Tk.down, List.length_cons] at i4 ⊢; omega
      · simp only [List.mem_cons] at hv
        rcases hv with rfl | hv
        · refine ⟨?_, ?_, ?_, ?_, ?_⟩ <;> simp only [List.length_cons] <;> omega
        · refine (i5 v (by simpa only [Tk.down] using hv)).mono ?_ ?_ <;> simp only [List.length_cons] <;> omega
    · refine ⟨?_, ?_, ?_, ?_, fun v hv => ?_⟩
      · simp only [Tk.rest]; omega
      · simp only [Tk.rest, List.length_cons]; omega
      · simp only [Tk.rest]; omega
      · simp
      · simp at hv
theorem TkR.grow {t : Tk} {r : Tk × List Mv} {n n' : Nat} {d d' : Int} (h : TkR t r n d) (hn : n ≤ n') (hd : d ≤ d') : TkR t r n' d' :=
  ⟨h.dn0, by have := h.dn1; omega, by have := h.lv; omega, Nat.le_trans h.len hn, fun v hv => (h.mv v hv).mono (by omega) (by omega)⟩
theorem runT_mv {P : List (Int × Int)} {fx : Int} {t : Tk} {o : Opn} (hP : P.length ≤ 6) (hp : ∀ p, p ∈ P → (0 ≤ p.1 ∧ p.1 ≤ 2000) ∧ 0 ≤ p.2 ∧ p.2 ≤ 2000) (h0 : 0 ≤ t.sz) (h1 : t.sz ≤ 2000) (h2 : 0 ≤ t.dn)
    (hg : 0 ≤ (if o.1 then t.sz + o.2 else t.sz - o.2) ∧ (if o.1 then t.sz + o.2 else t.sz - o.2) ≤ 2000) : TkR t (runT P fx t o) 6 14014 := by
  unfold runT
  split
  · rename_i ho
    rw [if_pos ho] at hg
    exact (pushT_mv (fx := fx) hg (P.drop t.lv) t (fun p q => (hp p (List.mem_of_mem_drop q)).1) h0 (by omega) h2).grow (by rw [List.length_drop]; omega) (by rw [List.length_drop]; omega)
  · rename_i ho
    rw [if_neg ho] at hg
    exact (popT_mv (fx := fx) hg (P.take t.lv).reverse t (fun p q => (hp p (List.mem_of_mem_take (List.mem_reverse.1 q))).2) h0 (by omega) h2).grow (by rw [List.length_reverse, List.length_take]; omega) (by rw [List.length_reverse, List.length_take]; omega)
theorem runsT_mv {P : List (Int × Int)} {fx mo : Int} (hP : P.length ≤ 6) (hp : ∀ p, p ∈ P → (0 ≤ p.1 ∧ p.1 ≤ 2000) ∧ 0 ≤ p.2 ∧ p.2 ≤ 2000) (hmo : mo ≤ 2000) : ∀ (os : List Opn) (t : Tk), 0 ≤ t.sz → t.sz ≤ mo → 0 ≤ t.dn → (∀ o, o ∈ os → okOp o) → goesAll mo t.sz os → TkR t (runsT P fx t os) (6 * os.length) (14014 * os.length)
  | [], t, h0, h1, h2, _, _ => ⟨by simp [runsT], by simp [runsT], by simp [runsT], by simp [runsT], fun v hv => by simp [runsT] at hv⟩
  | o :: os, t, h0, h1, h2, hok, hg => by
    obtain ⟨g1, g2⟩ := hg
    have ok := hok o (by simp)
    unfold okOp at ok
    unfold goes at g1
    have hs : 0 ≤ (if o.1 then t.sz + o.2 else t.sz - o.2) ∧ (if o.1 then t.sz + o.2 else t.sz - o.2) ≤ mo := by
      split at g1 <;> rename_i ho <;> simp [ho] <;> omega
    have a := runT_mv (fx := fx) (o := o) hP hp h0 (by omega) h2 ⟨hs.1, by omega⟩
    have e := runT_sz (P := P) (fx := fx) (t := t) (o := o)
    have b := runsT_mv (fx := fx) hP hp hmo os (runT P fx t o).1 (by rw [e]; exact hs.1) (by rw [e]; exact hs.2) (by have := a.dn0; omega) (fun q hq => hok q (by simp [hq])) (by rw [e]; exact g2)
    obtain ⟨a1, a2, a3, a4, a5⟩ := a
    obtain ⟨b1, b2, b3, b4, b5⟩ := b
    unfold runsT
    refine ⟨?_, ?_, ?_, ?_, fun v hv => ?_⟩
    · dsimp only; omega
    · dsimp only; simp only [List.length_cons]; omega
    · dsimp only; simp only [List.length_cons]; omega
    · dsimp only; simp only [List.length_cons, List.length_append]; omega
    · rw [List.mem_append] at hv
      rcases hv with hv | hv
      · refine (a5 v hv).mono ?_ ?_ <;> simp only [List.length_cons] <;> omega
      · refine (b5 v hv).mono ?_ ?_ <;> simp only [List.length_cons] <;> omega
theorem mv_str (b : Bool) : PyData.strOk (if b then Str.ofString "grow" else Str.ofString "shrink") = true ∧ (reprText (if b then Str.ofString "grow" else Str.ofString "shrink")).length ≤ 10 := by
  cases b <;> exact ⟨by decide +kernel, by decide +kernel⟩
theorem pl_mv {k : Nat} {v : Mv} {d l : Int} (h : MvR d l v) (hd : d ≤ 10000000) (hl : l ≤ 10000000) : Pl (k + 1) 5800 v.d := by
  obtain ⟨h1, h2, h3, h4, h5⟩ := h
  unfold Mv.d
  refine (Pl.tup (PlL.cons (pl_int (by omega) (by omega)) (PlL.cons (Pl.str (mv_str v.up).1 (mv_str v.up).2) (PlL.cons (pl_int (by omega) (by omega)) (PlL.cons (pl_int (by omega) (by omega)) PlL.nil))))).mono ?_
  omega
theorem below_mv {n : Nat} : ∀ l : List Mv, belowL n (l.map Mv.d) = true
  | [] => rfl
  | v :: l => by
    rw [List.map_cons]
    unfold belowL
    rw [below_mv l, Bool.and_true]
    rfl
theorem moves_eq {cs ls : List Int} {fx mo sz : Int} {lv : Nat} {os : List Opn} (hl : cs.length ≤ 1000) (hc : cs.getLast? = some mo) (hlv : lv ≤ (cs.zip ls).length) (ho : ∀ o, o ∈ os → okOp o) (hol : os.length ≤ 200) (hg : goesAll mo sz os) :
    t_moves (pol cs ls fx) (stD lv sz) (opsD os) = ret (.fl ((runsT (cs.zip ls) fx ⟨lv, sz, 0, 0⟩ os).2.map Mv.d)) := ret_of fun m Q q => by
  unfold t_moves
  refine wp_gcM ?_
  simp! [true_and]
  refine tracked_wp hl hc hlv ho hol hg ?_
  simp! [true_and]
  exact ⟨below_mv _, _, rfl, q⟩
theorem wp_yl {f : D → D → D → M D} {a b c : D} {xs : List D} {m : Hs} {Q : D → Hs → Prop} (h : f a b c = ret (.fl xs)) : wp (ylS (fs3 f) [a, b, c]) m Q = Q (.fl xs) m := by
  unfold wp ylS fs3
  simp only [h]
  rfl
end G.K08
namespace G.K08
open PySem G
theorem sv_00 {cs ls : List Int} (v : Vp cs ls) : Sv cs ls 0 0 := by
  obtain ⟨c, hc⟩ := get_ex (l := cs) (i := 0) (by have := v.len; omega)
  exact ⟨⟨c, hc, by have := v.pos 0 c hc; omega⟩, by decide, fun q l e => by cases e⟩
theorem law_true (ns : List Int) (hl : ns.length ≤ 63) : ∃ m, t_law (.sc (ns.map .int)) [] = .ok (.bl true) m := by
  have key : wp (t_law (.sc (ns.map .int))) [] fun d _ => d = .bl true := by
    unfold t_law bd_law
    simp! [List.length_map]
    generalize hcount : (if (if (ns.length : Int) < 3 then (ns.length : Int) else 3) > 1 then (if (ns.length : Int) < 3 then (ns.length : Int) else 3) else 1) = count
    have hc3 : 0 ≤ count ∧ count ≤ 3 := by
      rw [← hcount]
      split <;> split <;> omega
    refine ⟨⟨by omega, by omega⟩, ?_⟩
    refine rngI_wp (fun i j s m => ∃ k : Nat, i = k ∧ k + j ≤ 3) ?_ ?_ _ _ _ _ ⟨0, rfl, by omega⟩
    · rintro i j s m ⟨k, rfl, hkj⟩
      simp! [true_and]
      refine draws_wp (by omega) fun o hd => ?_
      simp! [true_and]
      refine ⟨⟨by decide, by decide⟩, ?_⟩
      generalize m.length = n at hd
      refine rng_wp (fun j s m => Dw m n (1000 * (4 - j))) ?_ ?_ _ _ _ _ (by simpa using hd)
      · rintro i j s m hd
        simp! [true_and]
        refine policy_wp (levels := 6) hd (by omega) (by decide) (by decide) (by decide) (by decide) fun cs ls fx m1 hv hcl hcb hf0 hf1 _ hd1 => ?_
        have hlen := hv.len
        obtain ⟨mo, hmo⟩ : ∃ mo, cs.getLast? = some mo := by
          cases h : cs.getLast? with
          | none =>
            rw [List.getLast?_eq_none_iff] at h
            rw [h] at hlen
            simp at hlen
          | some c => exact ⟨c, rfl⟩
        have hcB : ∀ (i : Nat) (a : Int), cs[i]? = some a → 1 ≤ a ∧ a ≤ 1024 := fun i a hi => by
          have h1 := hcb i a hi
          have h2 : (2 : Int) ^ i ≤ 2 ^ 6 := by
            have := get_lt hi
            have : (2 : Nat) ^ i ≤ 2 ^ 6 := Nat.pow_le_pow_right (by decide) (by omega)
            exact_mod_cast this
          refine ⟨hv.pos i a hi, ?_⟩
          have : (2 : Int) * 8 * 2 ^ i ≤ 2 * 8 * 2 ^ 6 := Int.mul_le_mul_of_nonneg_left h2 (by decide)
          omega
        have hlB : ∀ (i : Nat) (a : Int), ls[i]? = some a → 0 ≤ a ∧ a ≤ 1024 := fun i a hi => by
          obtain ⟨b, hb⟩ := get_ex (l := cs) (i := i) (by have := get_lt hi; omega)
          have := hv.le i a b hi hb
          have := hcB i b hb
          have := hv.lpos i a hi
          omega
        have pcs : ∀ c, c ∈ cs → -(2 ^ 200) < c ∧ c < 2 ^ 200 := fun c hc => by
          obtain ⟨i, hi⟩ := List.getElem?_of_mem hc
          have := hcB i c hi
          omega
        have pls : ∀ c, c ∈ ls → -(2 ^ 200) < c ∧ c < 2 ^ 200 := fun c hc => by
          obtain ⟨i, hi⟩ := List.getElem?_of_mem hc
          have := hlB i c hi
          omega
        simp! [true_and]
        refine ⟨sz_le (by simp), ?_⟩
        refine states_wp hv (fun i a hi => (hcB i a hi).2) (by omega) (by decide) fun sts hsts hs0 hs1 => ?_
        simp! [true_and]
        refine pick_wp hd1 (by omega) (by simpa using hs0) (by simpa using hs1) fun x o1 hx hd2 => ?_
        obtain ⟨st, hst, rfl⟩ := List.mem_map.1 hx
        simp! [true_and]
        refine ⟨sz_le (by simp), ?_⟩
        refine forL_wp (fun xs s m' => ∃ rs : List (Nat × Int), xs = rs.map (fun p => stD p.1 p.2) ∧ rs.length ≤ 2 ∧ (∀ p, p ∈ rs → Sv cs ls p.1 p.2) ∧ Dw m' n (1000 * (4 - (j + 1 : Nat)) + 600 - 100 * rs.length)) ?_ ?_ _ _ _ ⟨[(0, 0), st], rfl, by simp, ?_, hd2.mono (by simp; omega)⟩
        · rintro x xs s m' ⟨rs, hx, hrl, hrs, hd3⟩
          cases rs with
          | nil => cases hx
          | cons p rs =>
            simp only [List.map_cons] at hx
            obtain ⟨rfl, rfl⟩ := List.cons.inj hx
            obtain ⟨lv, sz⟩ := p
            have hsv := hrs (lv, sz) (by simp)
            simp only at hsv
            obtain ⟨c, hc, hsc⟩ := hsv.top
            have hlv := get_lt hc
            have hcmo := (hv.last hmo hc).1
            simp only [stD]
            simp -failIfUnchanged only [↓wp_retE, ↓wp_bad, ↓Zax, ↓wp_nxt, ↓wp_brk, ↓wp_cnt, ↓wp_rtn, ↓wp_seq, ↓wp_iff, ↓wp_fnM, ↓wp_binM, ↓wp_cmpM, ↓wp_idxM, ↓wp_negM, ↓wp_notM, ↓wp_andM, ↓wp_orM, ↓wp_iteM, ↓wp_chnM, ↓wp_chnS, ↓wp_ls0, ↓wp_ls1, ↓wp_tupM, ↓wp_lstM, ↓wp_lshM, ↓wp_ownM, ↓wp_idxL, ↓wp_slcM, ↓wp_noP, ↓wp_soP, ↓wp_calM, ↓wp_isiM, ↓wp_forM, ↓wp_seqI, ↓wp_rng1, ↓wp_rng2, ↓wp_enum, ↓wp_enum2, ↓enum2_t, ↓enum2_f, ↓wp_zip, ↓rng1_int, ↓rng2_int, ↓wp_lcM, ↓wp_lcO, ↓wp_appO, ↓wp_extO, ↓wp_fldM, ↓wp_fldT, ↓wp_mthM, ↓wp_makM, ↓wp_augF, ↓tpT2, ↓nonS_non, ↓wp_subT, ↓w_add, ↓w_sub, ↓w_mul, ↓w_fdiv, ↓w_mod, ↓w_pow, ↓w_shl, ↓w_addT, ↓w_addL, ↓w_lt, ↓w_le, ↓w_gt, ↓w_ge, ↓w_eqI, ↓w_neI, ↓w_eqS, ↓w_neS, ↓w_isN, ↓w_ntN, ↓w_isI, ↓w_ntI, ↓w_isT, ↓w_ntT, ↓w_isF, ↓w_ntF, ↓w_isR, ↓w_ntR, ↓w_isB, ↓w_ntB, ↓w_isS, ↓w_ntS, ↓w_trB, ↓w_trI, ↓w_trN, ↓w_trT, ↓w_trF, ↓w_ixT0, ↓w_ixT1, ↓w_ixT2, ↓w_ixT3, ↓w_ixF0, ↓w_ixF1, ↓w_ixF2, ↓w_ixF3, ↓w_ixS0, ↓w_ixS1, ↓w_ixS2, ↓w_ixS3, ↓w_idL, ↓w_neg, ↓w_slT, ↓w_slF, ↓w_soP, ↓w_lenT, ↓w_lenF, ↓w_lenS, ↓w_abs, ↓w_min, ↓w_max, ↓w_intI, ↓w_intB, ↓w_tupT, ↓w_tupF, ↓w_lstT, ↓w_lstF, ↓w_sum, ↓w_all, ↓w_any, ↓Zac, ↓Zaw, ↓Zav, ↓Zaq, ↓Zaj, ↓Zah, ↓Zaz, ↓Za1, ↓Za4, ↓Za0, ↓Za3, ↓Za2, ↓Zab, ↓Zag, ↓Zad, ↓Zay, ↓Zau, ↓Zai, ↓Zap, ↓Zas, ↓Zao, ↓Zal, ↓Zaa, ↓Zak, ↓Zaf, ↓Zan, ↓Zam, ↓Zae, ↓Zat, ↓Zar, ↓w_guT, ↓w_guF, ↓w_guS, ↓w_lsF, ↓w_enT, ↓w_enF, ↓w_zpT, ↓w_zpF, ↓w_gadd, ↓w_gsub, ↓w_fs1, ↓w_fs2, ↓w_fs3, ↓w_fs4, ↓w_fs5, ↓w_fs6, ↓w_un2, ↓w_un3, ↓w_un4, ↓w_goN, ↓w_goR, ↓w_goB, ↓w_goC, ↓w_feN, ↓w_feR, true_and, and_true, and_self, if_true, if_false, Bool.false_eq_true, Bool.not_true, Bool.not_false, decide_true, decide_false, ↓wp_calK, ↓kw_03, ↓kw_02, ↓kw_01, ↓pick_210, ↓pick_10, ↓pick_01, ↓pick_0, ↓w_sumF, ↓w_sumT, ↓w_srt, ↓w_maxL, ↓w_minL, ↓wp_starM, ↓wp_consM, ↓w_itT, ↓w_itF, ↓wp_rl2M, ↓wp_rl1M, ↓w_rl, ↓wp_dn3I, ↓w_dn3, ↓wp_mulTM, ↓w_mulT, ↓wp_niDM, ↓wp_inDM, ↓wp_zpM, ↓w_zpFF, ↓wp_isBM, ↓wp_nsBM, ↓w_isBB, ↓w_nsBB, ↓wp_catO, ↓w_catF, ↓kw_04, ↓pick_3210, ↓wp_prpM, ↓wp_lenI, ↓w_lenC, ↓wp_mulWM, ↓wp_neI, ↓wp_isoM, ↓w_sdM, ↓wp_fidB, ↓wp_dcpM, ↓wp_neLM, ↓wp_eqI, ↓wp_nqI, ↓wp_isoN, ↓wp_spltM, ↓wp_prtM, ↓wp_joinM, ↓wp_fmtM, ↓wp_fs0, ↓wp_fs1, ↓wp_chrI, ↓wp_insM, ↓w_insS, ↓wp_ixtM, ↓wp_slcTM, ↓w_txB, ↓w_strsF, ↓w_strsT, ↓w_fmtS, ↓w_fmtI, ↓w_addX, ↓wp_idaM, ↓w_idaF, ↓w_idaT, ↓w_idaS, ↓wp_rptM]
            refine fitting_wp hd3 (by omega) (by decide) (by decide) (by decide) (by decide) hmo hsv.low (by omega) fun os m2 hok hol hgo _ hd4 _ => ?_
            have hzl : lv ≤ (cs.zip ls).length := by rw [hv.zlen]; omega
            have hcl2 : cs.length ≤ 1000 := by omega
            have hpz : ∀ p, p ∈ cs.zip ls → (0 ≤ p.1 ∧ p.1 ≤ 2000) ∧ 0 ≤ p.2 ∧ p.2 ≤ 2000 := fun p hp => by
              obtain ⟨h1, h2⟩ := List.of_mem_zip (a := p.1) (b := p.2) hp
              obtain ⟨i1, g1⟩ := List.getElem?_of_mem h1
              obtain ⟨i2, g2⟩ := List.getElem?_of_mem h2
              have := hcB i1 _ g1
              have := hlB i2 _ g2
              omega
            have hmoB : mo ≤ 2000 := by
              obtain ⟨i, hi⟩ := List.getElem?_of_mem (List.mem_of_getLast? hmo)
              have := (hcB i mo hi).2
              omega
            have hmv := runsT_mv (P := cs.zip ls) (fx := fx) (mo := mo) (by rw [hv.zlen]; omega) hpz hmoB os ⟨lv, sz, 0, 0⟩ hsv.low (by show sz ≤ mo; omega) (Int.le_refl _) hok hgo
            have em := moves_eq (fx := fx) hcl2 hmo hzl hok hol hgo
            have el := lmoves_eq (fx := fx) hv hmo hsv hok hgo (by have := hmv.len; omega)
            generalize runsT (cs.zip ls) fx ⟨lv, sz, 0, 0⟩ os = T at *
            obtain ⟨_, _, _, mlen, hmv⟩ := hmv
            have r1 := repr_eq (x := .fl (T.2.map Mv.d)) ((Pl.fl (k := 49) (PlL.map (w := 5800) fun v hv => pl_mv (k := 48) (hmv v hv) (by simp only; omega) (by simp only; omega))).mono (show _ ≤ 7000000 by omega)) (by decide)
            simp only [stD] at em
            simp -failIfUnchanged only [↓el, ↓wp_yl em, ↓r1, sz_2, sz_3, true_and, ↓wp_retE, ↓wp_bad, ↓Zax, ↓wp_nxt, ↓wp_brk, ↓wp_cnt, ↓wp_rtn, ↓wp_seq, ↓wp_iff, ↓wp_fnM, ↓wp_binM, ↓wp_cmpM, ↓wp_idxM, ↓wp_negM, ↓wp_notM, ↓wp_andM, ↓wp_orM, ↓wp_iteM, ↓wp_chnM, ↓wp_chnS, ↓wp_ls0, ↓wp_ls1, ↓wp_tupM, ↓wp_lstM, ↓wp_lshM, ↓wp_ownM, ↓wp_idxL, ↓wp_slcM, ↓wp_noP, ↓wp_soP, ↓wp_calM, ↓wp_isiM, ↓wp_forM, ↓wp_seqI, ↓wp_rng1, ↓wp_rng2, ↓wp_enum, ↓wp_enum2, ↓enum2_t, ↓enum2_f, ↓wp_zip, ↓rng1_int, ↓rng2_int, ↓wp_lcM, ↓wp_lcO, ↓wp_appO, ↓wp_extO, ↓wp_fldM, ↓wp_fldT, ↓wp_mthM, ↓wp_makM, ↓wp_augF, ↓tpT2, ↓nonS_non, ↓wp_subT, ↓w_add, ↓w_sub, ↓w_mul, ↓w_fdiv, ↓w_mod, ↓w_pow, ↓w_shl, ↓w_addT, ↓w_addL, ↓w_lt, ↓w_le, ↓w_gt, ↓w_ge, ↓w_eqI, ↓w_neI, ↓w_eqS, ↓w_neS, ↓w_isN, ↓w_ntN, ↓w_isI, ↓w_ntI, ↓w_isT, ↓w_ntT, ↓w_isF, ↓w_ntF, ↓w_isR, ↓w_ntR, ↓w_isB, ↓w_ntB, ↓w_isS, ↓w_ntS, ↓w_trB, ↓w_trI, ↓w_trN, ↓w_trT, ↓w_trF, ↓w_ixT0, ↓w_ixT1, ↓w_ixT2, ↓w_ixT3, ↓w_ixF0, ↓w_ixF1, ↓w_ixF2, ↓w_ixF3, ↓w_ixS0, ↓w_ixS1, ↓w_ixS2, ↓w_ixS3, ↓w_idL, ↓w_neg, ↓w_slT, ↓w_slF, ↓w_soP, ↓w_lenT, ↓w_lenF, ↓w_lenS, ↓w_abs, ↓w_min, ↓w_max, ↓w_intI, ↓w_intB, ↓w_tupT, ↓w_tupF, ↓w_lstT, ↓w_lstF, ↓w_sum, ↓w_all, ↓w_any, ↓Zac, ↓Zaw, ↓Zav, ↓Zaq, ↓Zaj, ↓Zah, ↓Zaz, ↓Za1, ↓Za4, ↓Za0, ↓Za3, ↓Za2, ↓Zab, ↓Zag, ↓Zad, ↓Zay, ↓Zau, ↓Zai, ↓Zap, ↓Zas, ↓Zao, ↓Zal, ↓Zaa, ↓Zak, ↓Zaf, ↓Zan, ↓Zam, ↓Zae, ↓Zat, ↓Zar, ↓w_guT, ↓w_guF, ↓w_guS, ↓w_lsF, ↓w_enT, ↓w_enF, ↓w_zpT, ↓w_zpF, ↓w_gadd, ↓w_gsub, ↓w_fs1, ↓w_fs2, ↓w_fs3, ↓w_fs4, ↓w_fs5, ↓w_fs6, ↓w_un2, ↓w_un3, ↓w_un4, ↓w_goN, ↓w_goR, ↓w_goB, ↓w_goC, ↓w_feN, ↓w_feR, true_and, and_true, and_self, if_true, if_false, Bool.false_eq_true, Bool.not_true, Bool.not_false, decide_true, decide_false, ↓wp_calK, ↓kw_03, ↓kw_02, ↓kw_01, ↓pick_210, ↓pick_10, ↓pick_01, ↓pick_0, ↓w_sumF, ↓w_sumT, ↓w_srt, ↓w_maxL, ↓w_minL, ↓wp_starM, ↓wp_consM, ↓w_itT, ↓w_itF, ↓wp_rl2M, ↓wp_rl1M, ↓w_rl, ↓wp_dn3I, ↓w_dn3, ↓wp_mulTM, ↓w_mulT, ↓wp_niDM, ↓wp_inDM, ↓wp_zpM, ↓w_zpFF, ↓wp_isBM, ↓wp_nsBM, ↓w_isBB, ↓w_nsBB, ↓wp_catO, ↓w_catF, ↓kw_04, ↓pick_3210, ↓wp_prpM, ↓wp_lenI, ↓w_lenC, ↓wp_mulWM, ↓wp_neI, ↓wp_isoM, ↓w_sdM, ↓wp_fidB, ↓wp_dcpM, ↓wp_neLM, ↓wp_eqI, ↓wp_nqI, ↓wp_isoN, ↓wp_spltM, ↓wp_prtM, ↓wp_joinM, ↓wp_fmtM, ↓wp_fs0, ↓wp_fs1, ↓wp_chrI, ↓wp_insM, ↓w_insS, ↓wp_ixtM, ↓wp_slcTM, ↓w_txB, ↓w_strsF, ↓w_strsT, ↓w_fmtS, ↓w_fmtI, ↓w_addX, ↓wp_idaM, ↓w_idaF, ↓w_idaT, ↓w_idaS, ↓wp_rptM]
            refine ⟨rs, rfl, by simp only [List.length_cons] at hrl; omega, fun p hp => hrs p (by simp [hp]), hd4.mono (by simp only [List.length_cons]; omega)⟩
        · rintro s m' ⟨rs, hx, hrl, hrs, hd3⟩
          simp! [true_and]
          refine hd3.mono (by omega)
        · intro p hp
          simp only [List.mem_cons, List.not_mem_nil, or_false] at hp
          rcases hp with rfl | rfl
          · exact sv_00 hv
          · exact hsts _ hst
      · intro s m hd
        simp! [true_and]
        exact ⟨k + 1, by omega, by omega⟩
    · rintro i s m _
      simp! [true_and]
  obtain ⟨d, m, e, rfl⟩ := wp_iff_ok.1 key
  exact ⟨m, e⟩
end G.K08
namespace G.K08
open PySem L2 PySem.Spec PyProof.Rows G
theorem facts {w : World} {K : PySem.W.Frag} {h : Heap} {mg : Str → Option Value} {fa : Addr} (X : K.In h) (G0 : h.Ns mainGlobals mg) (hfa : mg "law" = some (.ref fa)) (c : SaysB tst K) :
    ∃ (fd : FuncData) (z : Ad), (clsA z).T = [] ∧ (∀ (s : Shared) (v : Value), BindsTo s fd ⟨[v], []⟩ [("_law_script", v)]) ∧ ∀ base : Heap, K.In base → base.Ns mainGlobals mg → FnG true PySem.Challenge.rw_growshrink_k08_moves_one_by_one.prog w K mg base (L2.CX PySem.Challenge.rw_growshrink_k08_moves_one_by_one.prog w) 10 fa fd ["_law_script"] (spM ⟨K, clsA z⟩ (fs1 t_law)) := by
  obtain ⟨_, _, _, l_is_integer, c_is_integer, k_is_integer⟩ := fn_in (c.f 0 rfl rfl) (c.c 0 rfl)
  obtain ⟨_, _, _, l_top_level, c_top_level, k_top_level⟩ := fn_in (c.f 1 rfl rfl) (c.c 1 rfl)
  obtain ⟨_, _, _, l_capacity_of, c_capacity_of, k_capacity_of⟩ := fn_in (c.f 2 rfl rfl) (c.c 2 rfl)
  obtain ⟨_, _, _, l_boundaries, c_boundaries, k_boundaries⟩ := fn_in (c.f 3 rfl rfl) (c.c 3 rfl)
  obtain ⟨_, _, _, l_is_run, c_is_run, k_is_run⟩ := fn_in (c.f 4 rfl rfl) (c.c 4 rfl)
  obtain ⟨_, _, _, l_are_operations, c_are_operations, k_are_operations⟩ := fn_in (c.f 5 rfl rfl) (c.c 5 rfl)
  obtain ⟨_, _, _, l_check_operations, c_check_operations, k_check_operations⟩ := fn_in (c.f 6 rfl rfl) (c.c 6 rfl)
  obtain ⟨_, _, _, l_Track___init__, c_Track___init__, k_Track___init__⟩ := fn_in (c.f 7 rfl rfl) (c.c 7 rfl)
  obtain ⟨_, _, _, l_Track_move, c_Track_move, k_Track_move⟩ := fn_in (c.f 8 rfl rfl) (c.c 8 rfl)
  obtain ⟨_, _, _, l_Track_rest, c_Track_rest, k_Track_rest⟩ := fn_in (c.f 9 rfl rfl) (c.c 9 rfl)
  obtain ⟨_, _, _, l_Track_push, c_Track_push, k_Track_push⟩ := fn_in (c.f 10 rfl rfl) (c.c 10 rfl)
  obtain ⟨_, _, _, l_Track_pop, c_Track_pop, k_Track_pop⟩ := fn_in (c.f 11 rfl rfl) (c.c 11 rfl)
  obtain ⟨_, _, _, l_Track_run, c_Track_run, k_Track_run⟩ := fn_in (c.f 12 rfl rfl) (c.c 12 rfl)
  obtain ⟨_, _, _, l_tracked, c_tracked, k_tracked⟩ := fn_in (c.f 13 rfl rfl) (c.c 13 rfl)
  obtain ⟨_, _, _, l_moves, c_moves, k_moves⟩ := fn_in (c.f 14 rfl rfl) (c.c 14 rfl)
  obtain ⟨_, _, _, l_law_draws, c_law_draws, k_law_draws⟩ := fn_in (c.f 15 rfl rfl) (c.c 15 rfl)
  obtain ⟨_, _, _, l_law_below, c_law_below, k_law_below⟩ := fn_in (c.f 16 rfl rfl) (c.c 16 rfl)
  obtain ⟨_, _, _, l_law_pick, c_law_pick, k_law_pick⟩ := fn_in (c.f 17 rfl rfl) (c.c 17 rfl)
  obtain ⟨_, _, _, l_law_policy, c_law_policy, k_law_policy⟩ := fn_in (c.f 18 rfl rfl) (c.c 18 rfl)
  obtain ⟨_, _, _, l_law_pushed, c_law_pushed, k_law_pushed⟩ := fn_in (c.f 19 rfl rfl) (c.c 19 rfl)
  obtain ⟨_, _, _, l_law_popped, c_law_popped, k_law_popped⟩ := fn_in (c.f 20 rfl rfl) (c.c 20 rfl)
  obtain ⟨_, _, _, l_law_states, c_law_states, k_law_states⟩ := fn_in (c.f 21 rfl rfl) (c.c 21 rfl)
  obtain ⟨_, _, _, l_law_pairs, c_law_pairs, k_law_pairs⟩ := fn_in (c.f 22 rfl rfl) (c.c 22 rfl)
  obtain ⟨_, _, _, l_law_fitting, c_law_fitting, k_law_fitting⟩ := fn_in (c.f 23 rfl rfl) (c.c 23 rfl)
  obtain ⟨_, _, _, l_law_moves, c_law_moves, k_law_moves⟩ := fn_in (c.f 24 rfl rfl) (c.c 24 rfl)
  obtain ⟨_, _, _, l_law, c_law, k_law⟩ := fn_in (c.f 25 rfl rfl) (c.c 25 rfl)
  have gc_Track := He.eqO_ok (c.c 26 rfl)
  have a_is_integer := He.eqO_ok (c.c 27 rfl)
  have a_top_level := He.eqO_ok (c.c 28 rfl)
  have a_capacity_of := He.eqO_ok (c.c 29 rfl)
  have a_boundaries := He.eqO_ok (c.c 30 rfl)
  have a_is_run := He.eqO_ok (c.c 31 rfl)
  have a_are_operations := He.eqO_ok (c.c 32 rfl)
  have a_check_operations := He.eqO_ok (c.c 33 rfl)
  have a_Track___init__ := He.eqO_ok (c.c 34 rfl)
  have i_Track___init__ : PySem.W.isFn K (.ref (He.ma K (He.ga K "Track") "__init__")) = true := (c.c 35 rfl)
  have a_Track_move := He.eqO_ok (c.c 36 rfl)
  have i_Track_move : PySem.W.isFn K (.ref (He.ma K (He.ga K "Track") "move")) = true := (c.c 37 rfl)
  have a_Track_rest := He.eqO_ok (c.c 38 rfl)
  have i_Track_rest : PySem.W.isFn K (.ref (He.ma K (He.ga K "Track") "rest")) = true := (c.c 39 rfl)
  have a_Track_push := He.eqO_ok (c.c 40 rfl)
  have i_Track_push : PySem.W.isFn K (.ref (He.ma K (He.ga K "Track") "push")) = true := (c.c 41 rfl)
  have a_Track_pop := He.eqO_ok (c.c 42 rfl)
  have i_Track_pop : PySem.W.isFn K (.ref (He.ma K (He.ga K "Track") "pop")) = true := (c.c 43 rfl)
  have a_Track_run := He.eqO_ok (c.c 44 rfl)
  have i_Track_run : PySem.W.isFn K (.ref (He.ma K (He.ga K "Track") "run")) = true := (c.c 45 rfl)
  have a_tracked := He.eqO_ok (c.c 46 rfl)
  have a_moves := He.eqO_ok (c.c 47 rfl)
  have a_law_draws := He.eqO_ok (c.c 48 rfl)
  have a_law_below := He.eqO_ok (c.c 49 rfl)
  have a_law_pick := He.eqO_ok (c.c 50 rfl)
  have a_law_policy := He.eqO_ok (c.c 51 rfl)
  have a_law_pushed := He.eqO_ok (c.c 52 rfl)
  have a_law_popped := He.eqO_ok (c.c 53 rfl)
  have a_law_states := He.eqO_ok (c.c 54 rfl)
  have a_law_pairs := He.eqO_ok (c.c 55 rfl)
  have a_law_fitting := He.eqO_ok (c.c 56 rfl)
  have a_law_moves := He.eqO_ok (c.c 57 rfl)
  have a_law := He.eqO_ok (c.c 58 rfl)
  have pg_Track : PySem.W.plainGet K (He.ga K "Track") Str.empty = true := (c.c 59 rfl)
  have hd_Track : PySem.W.hasDictIn K (He.ga K "Track") = true := (c.c 60 rfl)
  have po_Track : PySem.W.plainOver K (He.ga K "Track") = true := (c.c 61 rfl)
  have sa_Track := He.eqO_ok (c.c 62 rfl)
  have mk_Track : PySem.W.makesIn K (He.ga K "Track") = true := (c.c 63 rfl)
  have kc_Track : PySem.W.keepIn K (.ref (He.ga K "Track")) = true := (c.c 64 rfl)
  have n_Track_at_level := He.eqO_ok (c.c 65 rfl)
  have n_Track_at_size := He.eqO_ok (c.c 66 rfl)
  have n_Track_done := He.eqO_ok (c.c 67 rfl)
  have n_Track_fixed := He.eqO_ok (c.c 68 rfl)
  have n_Track_most := He.eqO_ok (c.c 69 rfl)
  have n_Track_paid := He.eqO_ok (c.c 70 rfl)
  have n_Track_places := He.eqO_ok (c.c 71 rfl)
  have z_abs := He.eqO_ok (c.c 72 rfl)
  have z_all := He.eqO_ok (c.c 73 rfl)
  have z_bool := He.eqO_ok (c.c 74 rfl)
  have z_enumerate := He.eqO_ok (c.c 75 rfl)
  have z_int := He.eqO_ok (c.c 76 rfl)
  have z_isinstance := He.eqO_ok (c.c 77 rfl)
  have z_len := He.eqO_ok (c.c 78 rfl)
  have z_list := He.eqO_ok (c.c 79 rfl)
  have z_max := He.eqO_ok (c.c 80 rfl)
  have z_min := He.eqO_ok (c.c 81 rfl)
  have z_range := He.eqO_ok (c.c 82 rfl)
  have z_repr := He.eqO_ok (c.c 83 rfl)
  have z_str := He.eqO_ok (c.c 84 rfl)
  have z_tuple := He.eqO_ok (c.c 85 rfl)
  have z_zip := He.eqO_ok (c.c 86 rfl)
  obtain ⟨_, q_GROW⟩ := str_in (c.c 87 rfl)
  obtain ⟨_, q_MOST_COUNT⟩ := int_in (c.c 88 rfl)
  obtain ⟨_, q_MOST_PAIRS⟩ := int_in (c.c 89 rfl)
  obtain ⟨_, q_PAIR⟩ := int_in (c.c 90 rfl)
  obtain ⟨_, q_POP⟩ := str_in (c.c 91 rfl)
  obtain ⟨_, q_PUSH⟩ := str_in (c.c 92 rfl)
  obtain ⟨_, q_SHRINK⟩ := str_in (c.c 93 rfl)
  exact all_mk (l := PySem.Challenge.rw_growshrink_k08_moves_one_by_one) X G0 hfa gc_Track a_is_integer l_is_integer c_is_integer k_is_integer a_top_level l_top_level c_top_level k_top_level a_capacity_of l_capacity_of c_capacity_of k_capacity_of a_boundaries l_boundaries c_boundaries k_boundaries a_is_run l_is_run c_is_run k_is_run a_are_operations l_are_operations c_are_operations k_are_operations a_check_operations l_check_operations c_check_operations k_check_operations a_Track___init__ i_Track___init__ l_Track___init__ c_Track___init__ k_Track___init__ a_Track_move i_Track_move l_Track_move c_Track_move k_Track_move a_Track_rest i_Track_rest l_Track_rest c_Track_rest k_Track_rest a_Track_push i_Track_push l_Track_push c_Track_push k_Track_push a_Track_pop i_Track_pop l_Track_pop c_Track_pop k_Track_pop a_Track_run i_Track_run l_Track_run c_Track_run k_Track_run a_tracked l_tracked c_tracked k_tracked a_moves l_moves c_moves k_moves a_law_draws l_law_draws c_law_draws k_law_draws a_law_below l_law_below c_law_below k_law_below a_law_pick l_law_pick c_law_pick k_law_pick a_law_policy l_law_policy c_law_policy k_law_policy a_law_pushed l_law_pushed c_law_pushed k_law_pushed a_law_popped l_law_popped c_law_popped k_law_popped a_law_states l_law_states c_law_states k_law_states a_law_pairs l_law_pairs c_law_pairs k_law_pairs a_law_fitting l_law_fitting c_law_fitting k_law_fitting a_law_moves l_law_moves c_law_moves k_law_moves a_law l_law c_law k_law pg_Track hd_Track po_Track sa_Track mk_Track kc_Track n_Track_at_level n_Track_at_size n_Track_done n_Track_fixed n_Track_most n_Track_paid n_Track_places z_abs z_all z_bool z_enumerate z_int z_isinstance z_len z_list z_max z_min z_range z_repr z_str z_tuple z_zip q_GROW q_MOST_COUNT q_MOST_PAIRS q_PAIR q_POP q_PUSH q_SHRINK
end G.K08
open PySem PySem.W PySem.Calls PyProof.Rows in
set_option maxRecDepth 100000 in
set_option maxHeartbeats 0 in
theorem PySem.Challenge.cw_growshrink_k08_moves_one_by_one_holds : PySem.Challenge.rw_growshrink_k08_moves_one_by_one.Holds := by
  w_on; o_law
  refine HandSHeadRun.head_any (r := G.K08.RR) (q := view G.K08.RR.prog [34]) (H := G.hookB G.K08.tst) (ob := fun s => G.obsB G.K08.tst (HandSHeadRun.getT s) s.n) (M := 40000) (loose := G.K08.names) (d := HandSHeadRun.topDef G.K08.RR.prog 34) (kwd := []) (G.obB_eq G.K08.tst) (by kernel_rfl) (fun s => by kernel_rfl) G.K08.top_run (by kernel_rfl) (by kernel_rfl) (by kernel_rfl) (by rfl) (by first | assumption | decide +kernel) (by decide +kernel) ⟨rfl, rfl, rfl, rfl, rfl, by decide +kernel⟩ ?hw ?hc
  case hw => w_witness2
  case hc =>
    refine G.walkGE (l := PySem.Challenge.rw_growshrink_k08_moves_one_by_one) (n := 63) (k := 10) (x := "_law_script") (CX := fun w => L2.CX PySem.Challenge.rw_growshrink_k08_moves_one_by_one.prog w) rfl (by decide) (by kernel_rfl) ⟨rfl, by decide, by decide⟩ ?F (fun w H s e s' h => by obtain ⟨_, _, _, _, _, _, _, _, _, _, _, _, q⟩ := h; exact q)
    intro w mg fa h Y G0 hmg0
    obtain ⟨K, KX, c⟩ := Y
    have hmg : mg ("law" : PySem.Str) = some (.ref fa) := by rw [← hmg0]; congr 1
    obtain ⟨fd, z, hz, hb, hF⟩ := G.K08.facts (w := w) KX G0 hmg c
    exact ⟨K, fd, _, KX, hb, fun J a zs hl hO hS => G.law_sp (G.only3 hO) (fun t ht => by rw [hz] at ht; cases ht) hS (G.K08.law_true zs hl), hF⟩
