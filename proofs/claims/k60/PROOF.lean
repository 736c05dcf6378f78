import PyProof.Rows.All
import Wide.All
import OpenK.AllK
import Wide.FinOn
import HandS.ForMost
import HandS.ForExc
import HandS.IsInst
import HandS.ExcIs
import HandS.ExcField
import HandS.Zip
import HandS.TupAny
import HandS.TupMul
import HandS.Iter
import HandS.Conv
import KE.KDictKeyed
import KE.KDictDisplayH
import KE.KDictWalk
import KE.KDictPairs
import HandS.Wide
import PyProof.NeKinds
import KE.KTupSum
import HandS.Dict
import KE.GoesEnum
import HandS.SortInts
import HandS.SortRule
import HandS.Deep
import HandS.SetFor
import HandS.Strs
import PyProof.ReprRoads
import HandS.TupLe
import HandS.HotCalls
import HandS.DeepEq
import HandS.ExcInit
import KE.KExcIs
import HandS.Text
import HandS.Walk
import KE.KDictCopyH
import HandS.RevTup
import HandS.TupLen
import KE.SortData
import KE.DataMinMax
import HandS.Flow
import HandS.Rev
import HandS.Head0
import HandS.Head1
import HandS.Head2
import HandS.HeadHook1
import HandS.HeadHook2
import PySem.Challenge.RW_withindays_k60_put_in
set_option Elab.async false
set_option linter.all false
set_option autoImplicit false
set_option maxRecDepth 1000000
set_option maxHeartbeats 0
namespace WD
open PySem PySem.Spec PyProof.Rows L2
abbrev veBm : List Value := [.type "ValueError", .type "Exception", .type "BaseException", .type "object"]
def valsX (g : Addr → Option Obj) (a : Addr) : List Addr := match g a with
  | some ⟨_, _, .dict es _, _⟩ => es.toList.flatMap fun e => He.refV e.val
  | _ => []
def codeX (g : Addr → Option Obj) (a : Addr) : List Addr := match g a with
  | some ⟨_, _, .func fd, _⟩ => He.refV fd.code
  | _ => []
def clsX (g : Addr → Option Obj) (a : Addr) : List Addr := match g a with
  | some ⟨_, d, .cls cd, _⟩ => cd.ns :: (match d with
    | some b => [b]
    | none => [])
  | _ => []
/-- the module's names, their code, the classes' own names and their code -/
def asX (g : Addr → Option Obj) : List Addr :=
  mainGlobals :: (valsX g mainGlobals ++ ((valsX g mainGlobals).flatMap (codeX g) ++ ((valsX g mainGlobals).flatMap (clsX g) ++ (((valsX g mainGlobals).flatMap (clsX g)).flatMap (valsX g) ++ (((valsX g mainGlobals).flatMap (clsX g)).flatMap (valsX g)).flatMap (codeX g)))))
abbrev FcX : Type := PySem.W.Frag → Bool
abbrev AlX : Type := Bool × List He.FnV
def obsX (fcs : List FcX) (fns : List He.FnD) (K : PySem.W.Frag) : AlX := ((fcs.all fun f => f K) && fns.all fun d => (He.Fa.code d.at_ d.qual).ok K, fns.map fun d => He.fnObs K d.at_)
def valX (fns : List He.FnD) : AlX := (true, fns.map He.FnD.val)
def SaysX (fcs : List FcX) (fns : List He.FnD) (K : PySem.W.Frag) : Prop := obsX fcs fns K = valX fns
def obsXG (fcs : List FcX) (fns : List He.FnD) (g : Addr → Option Obj) : AlX := obsX fcs fns (He.frG g (asX g))
def hookX (fcs : List FcX) (fns : List He.FnD) : PySem.W.Hook where
  α := AlX
  obs := fun s => obsXG fcs fns s.heap.get?
  val := fun _ => valX fns
  says := fun _ h => ∃ K : PySem.W.Frag, K.In h ∧ SaysX fcs fns K
  of := fun _ _ e => ⟨_, He.frG_in, e⟩
  keeps := fun _ _ _ ⟨K, hK, c⟩ k => ⟨K, PySem.W.Frag.In.keeps hK k, c⟩
theorem obsXG_eq {fcs : List FcX} {fns : List He.FnD} {g : Addr → Option Obj} {s : Shared} (h : ∀ a, g a = s.heap.get? a) : obsXG fcs fns g = (hookX fcs fns).obs s := by
  have e : g = s.heap.get? := funext h
  rw [e]; rfl
section
variable {fcs : List FcX} {fns : List He.FnD} {K : PySem.W.Frag}
theorem SaysX.fact (c : SaysX fcs fns K) (i : Nat) {f : FcX} (h : fcs[i]? = some f) : f K = true := by
  have c1 := (He.ba (show ((fcs.all fun f => f K) && fns.all fun d => (He.Fa.code d.at_ d.qual).ok K) = true from congrArg (fun z : AlX => z.1) c)).1
  exact List.all_eq_true.mp c1 f (List.mem_of_getElem? h)
theorem SaysX.def_ (c : SaysX fcs fns K) (i : Nat) {d : He.FnD} (h : fns[i]? = some d) :
    ∃ oc od osl kV doc pm an cdv ct, K.lookup (He.fAd K d.at_) = some ⟨oc, od, .func (PySem.W.fnOf d.name d.qual d.params d.body d.scope .none kV doc pm an cdv ct), osl⟩ ∧ PySem.W.codeIn K cdv d.qual = true := by
  have c2 := (He.ba (show ((fcs.all fun f => f K) && fns.all fun d => (He.Fa.code d.at_ d.qual).ok K) = true from congrArg (fun z : AlX => z.1) c)).2
  have e : fns.map (fun d => He.fnObs K d.at_) = fns.map He.FnD.val := congrArg (fun z : AlX => z.2) c
  have e2 : (fns.map fun d => He.fnObs K d.at_)[i]? = (fns.map He.FnD.val)[i]? := by rw [e]
  rw [List.getElem?_map, List.getElem?_map, h] at e2
  exact He.fn_ok (Option.some.inj e2) (List.all_eq_true.mp c2 d (List.mem_of_getElem? h))
end
/-- a whole number that a name of the module stands for -/
def intXB (K : PySem.W.Frag) (x : Str) (i : Int) : Bool := match PySem.W.nsIn K mainGlobals x with
  | some (some (.int j _)) => decide (j = i)
  | _ => false
theorem intX_ok {K : PySem.W.Frag} {x : Str} {i : Int} (c : intXB K x i = true) : ∃ t, PySem.W.nsIn K mainGlobals x = some (some (.int i t)) := by
  unfold intXB at c
  cases e : PySem.W.nsIn K mainGlobals x with
  | none => rw [e] at c; cases c
  | some o =>
    rw [e] at c
    cases o with
    | none => cases c
    | some v =>
      cases v with
      | int j t =>
        have ej : j = i := of_decide_eq_true c
        rw [ej]
        exact ⟨t, rfl⟩
      | _ => cases c
def topS (i : Nat) : Stmt := PySem.Challenge.pw_withindays_k60_put_in.main.body.getD i (.Pass ⟨0, 0, 0, 0⟩)
abbrev s_is_whole : Stmt := topS 6
abbrev s_is_row : Stmt := topS 7
abbrev s_is_rising : Stmt := topS 8
abbrev s_told_rows : Stmt := topS 9
abbrev s_is_day : Stmt := topS 13
abbrev s_are_days : Stmt := topS 14
abbrev s_is_ring : Stmt := topS 15
abbrev s_asked_ring : Stmt := topS 16
abbrev s_farthest : Stmt := topS 20
abbrev s_places_from : Stmt := topS 21
abbrev s_fewest_places : Stmt := topS 22
abbrev s_put_in : Stmt := topS 23
abbrev s__law_deck : Stmt := topS 25
abbrev s__law_whole : Stmt := topS 26
abbrev s__law_lists : Stmt := topS 27
abbrev s__law_handed : Stmt := topS 28
abbrev s__law_odd : Stmt := topS 29
abbrev s__law_is_day : Stmt := topS 30
abbrev s__law_is_ring : Stmt := topS 31
abbrev s__law_day : Stmt := topS 32
abbrev s__law_ring : Stmt := topS 33
abbrev s__law_gaps : Stmt := topS 34
abbrev s__law_fewest : Stmt := topS 35
abbrev s__law_tried : Stmt := topS 36
abbrev s__law_is_put : Stmt := topS 37
abbrev s__law_told : Stmt := topS 38
abbrev s__law_wrong : Stmt := topS 39
abbrev s_law : Stmt := topS 40
section
open PySem.W
def fcH0 (K : PySem.W.Frag) : Bool := decide ((PySem.W.nsIn K mainGlobals "is_whole" = some (some (.ref (He.fAd K ("is_whole", none))))) ∧ (PySem.W.keepIn K (.ref (He.fAd K ("is_whole", none))) = true) ∧ (PySem.W.nsIn K mainGlobals "is_row" = some (some (.ref (He.fAd K ("is_row", none))))) ∧ (PySem.W.keepIn K (.ref (He.fAd K ("is_row", none))) = true) ∧ (PySem.W.nsIn K mainGlobals "is_rising" = some (some (.ref (He.fAd K ("is_rising", none))))) ∧ (PySem.W.keepIn K (.ref (He.fAd K ("is_rising", none))) = true) ∧ (PySem.W.nsIn K mainGlobals "told_rows" = some (some (.ref (He.fAd K ("told_rows", none))))) ∧ (PySem.W.keepIn K (.ref (He.fAd K ("told_rows", none))) = true) ∧ (PySem.W.nsIn K mainGlobals "is_day" = some (some (.ref (He.fAd K ("is_day", none))))) ∧ (PySem.W.keepIn K (.ref (He.fAd K ("is_day", none))) = true) ∧ (PySem.W.nsIn K mainGlobals "are_days" = some (some (.ref (He.fAd K ("are_days", none))))) ∧ (PySem.W.keepIn K (.ref (He.fAd K ("are_days", none))) = true))
theorem fcH0_ok {K : PySem.W.Frag} (h : fcH0 K = true) : (PySem.W.nsIn K mainGlobals "is_whole" = some (some (.ref (He.fAd K ("is_whole", none))))) ∧ (PySem.W.keepIn K (.ref (He.fAd K ("is_whole", none))) = true) ∧ (PySem.W.nsIn K mainGlobals "is_row" = some (some (.ref (He.fAd K ("is_row", none))))) ∧ (PySem.W.keepIn K (.ref (He.fAd K ("is_row", none))) = true) ∧ (PySem.W.nsIn K mainGlobals "is_rising" = some (some (.ref (He.fAd K ("is_rising", none))))) ∧ (PySem.W.keepIn K (.ref (He.fAd K ("is_rising", none))) = true) ∧ (PySem.W.nsIn K mainGlobals "told_rows" = some (some (.ref (He.fAd K ("told_rows", none))))) ∧ (PySem.W.keepIn K (.ref (He.fAd K ("told_rows", none))) = true) ∧ (PySem.W.nsIn K mainGlobals "is_day" = some (some (.ref (He.fAd K ("is_day", none))))) ∧ (PySem.W.keepIn K (.ref (He.fAd K ("is_day", none))) = true) ∧ (PySem.W.nsIn K mainGlobals "are_days" = some (some (.ref (He.fAd K ("are_days", none))))) ∧ (PySem.W.keepIn K (.ref (He.fAd K ("are_days", none))) = true) := of_decide_eq_true h
def fcH1 (K : PySem.W.Frag) : Bool := decide ((PySem.W.nsIn K mainGlobals "is_ring" = some (some (.ref (He.fAd K ("is_ring", none))))) ∧ (PySem.W.keepIn K (.ref (He.fAd K ("is_ring", none))) = true) ∧ (PySem.W.nsIn K mainGlobals "asked_ring" = some (some (.ref (He.fAd K ("asked_ring", none))))) ∧ (PySem.W.keepIn K (.ref (He.fAd K ("asked_ring", none))) = true) ∧ (PySem.W.nsIn K mainGlobals "farthest" = some (some (.ref (He.fAd K ("farthest", none))))) ∧ (PySem.W.keepIn K (.ref (He.fAd K ("farthest", none))) = true) ∧ (PySem.W.nsIn K mainGlobals "places_from" = some (some (.ref (He.fAd K ("places_from", none))))) ∧ (PySem.W.keepIn K (.ref (He.fAd K ("places_from", none))) = true) ∧ (PySem.W.nsIn K mainGlobals "fewest_places" = some (some (.ref (He.fAd K ("fewest_places", none))))) ∧ (PySem.W.keepIn K (.ref (He.fAd K ("fewest_places", none))) = true) ∧ (PySem.W.nsIn K mainGlobals "put_in" = some (some (.ref (He.fAd K ("put_in", none))))) ∧ (PySem.W.keepIn K (.ref (He.fAd K ("put_in", none))) = true))
theorem fcH1_ok {K : PySem.W.Frag} (h : fcH1 K = true) : (PySem.W.nsIn K mainGlobals "is_ring" = some (some (.ref (He.fAd K ("is_ring", none))))) ∧ (PySem.W.keepIn K (.ref (He.fAd K ("is_ring", none))) = true) ∧ (PySem.W.nsIn K mainGlobals "asked_ring" = some (some (.ref (He.fAd K ("asked_ring", none))))) ∧ (PySem.W.keepIn K (.ref (He.fAd K ("asked_ring", none))) = true) ∧ (PySem.W.nsIn K mainGlobals "farthest" = some (some (.ref (He.fAd K ("farthest", none))))) ∧ (PySem.W.keepIn K (.ref (He.fAd K ("farthest", none))) = true) ∧ (PySem.W.nsIn K mainGlobals "places_from" = some (some (.ref (He.fAd K ("places_from", none))))) ∧ (PySem.W.keepIn K (.ref (He.fAd K ("places_from", none))) = true) ∧ (PySem.W.nsIn K mainGlobals "fewest_places" = some (some (.ref (He.fAd K ("fewest_places", none))))) ∧ (PySem.W.keepIn K (.ref (He.fAd K ("fewest_places", none))) = true) ∧ (PySem.W.nsIn K mainGlobals "put_in" = some (some (.ref (He.fAd K ("put_in", none))))) ∧ (PySem.W.keepIn K (.ref (He.fAd K ("put_in", none))) = true) := of_decide_eq_true h
def fcH2 (K : PySem.W.Frag) : Bool := decide ((PySem.W.nsIn K mainGlobals "_law_deck" = some (some (.ref (He.fAd K ("_law_deck", none))))) ∧ (PySem.W.keepIn K (.ref (He.fAd K ("_law_deck", none))) = true) ∧ (PySem.W.nsIn K mainGlobals "_law_whole" = some (some (.ref (He.fAd K ("_law_whole", none))))) ∧ (PySem.W.keepIn K (.ref (He.fAd K ("_law_whole", none))) = true) ∧ (PySem.W.nsIn K mainGlobals "_law_lists" = some (some (.ref (He.fAd K ("_law_lists", none))))) ∧ (PySem.W.keepIn K (.ref (He.fAd K ("_law_lists", none))) = true) ∧ (PySem.W.nsIn K mainGlobals "_law_handed" = some (some (.ref (He.fAd K ("_law_handed", none))))) ∧ (PySem.W.keepIn K (.ref (He.fAd K ("_law_handed", none))) = true) ∧ (PySem.W.nsIn K mainGlobals "_law_odd" = some (some (.ref (He.fAd K ("_law_odd", none))))) ∧ (PySem.W.keepIn K (.ref (He.fAd K ("_law_odd", none))) = true) ∧ (PySem.W.nsIn K mainGlobals "_law_is_day" = some (some (.ref (He.fAd K ("_law_is_day", none))))) ∧ (PySem.W.keepIn K (.ref (He.fAd K ("_law_is_day", none))) = true))
theorem fcH2_ok {K : PySem.W.Frag} (h : fcH2 K = true) : (PySem.W.nsIn K mainGlobals "_law_deck" = some (some (.ref (He.fAd K ("_law_deck", none))))) ∧ (PySem.W.keepIn K (.ref (He.fAd K ("_law_deck", none))) = true) ∧ (PySem.W.nsIn K mainGlobals "_law_whole" = some (some (.ref (He.fAd K ("_law_whole", none))))) ∧ (PySem.W.keepIn K (.ref (He.fAd K ("_law_whole", none))) = true) ∧ (PySem.W.nsIn K mainGlobals "_law_lists" = some (some (.ref (He.fAd K ("_law_lists", none))))) ∧ (PySem.W.keepIn K (.ref (He.fAd K ("_law_lists", none))) = true) ∧ (PySem.W.nsIn K mainGlobals "_law_handed" = some (some (.ref (He.fAd K ("_law_handed", none))))) ∧ (PySem.W.keepIn K (.ref (He.fAd K ("_law_handed", none))) = true) ∧ (PySem.W.nsIn K mainGlobals "_law_odd" = some (some (.ref (He.fAd K ("_law_odd", none))))) ∧ (PySem.W.keepIn K (.ref (He.fAd K ("_law_odd", none))) = true) ∧ (PySem.W.nsIn K mainGlobals "_law_is_day" = some (some (.ref (He.fAd K ("_law_is_day", none))))) ∧ (PySem.W.keepIn K (.ref (He.fAd K ("_law_is_day", none))) = true) := of_decide_eq_true h
def fcH3 (K : PySem.W.Frag) : Bool := decide ((PySem.W.nsIn K mainGlobals "_law_is_ring" = some (some (.ref (He.fAd K ("_law_is_ring", none))))) ∧ (PySem.W.keepIn K (.ref (He.fAd K ("_law_is_ring", none))) = true) ∧ (PySem.W.nsIn K mainGlobals "_law_day" = some (some (.ref (He.fAd K ("_law_day", none))))) ∧ (PySem.W.keepIn K (.ref (He.fAd K ("_law_day", none))) = true) ∧ (PySem.W.nsIn K mainGlobals "_law_ring" = some (some (.ref (He.fAd K ("_law_ring", none))))) ∧ (PySem.W.keepIn K (.ref (He.fAd K ("_law_ring", none))) = true) ∧ (PySem.W.nsIn K mainGlobals "_law_gaps" = some (some (.ref (He.fAd K ("_law_gaps", none))))) ∧ (PySem.W.keepIn K (.ref (He.fAd K ("_law_gaps", none))) = true) ∧ (PySem.W.nsIn K mainGlobals "_law_fewest" = some (some (.ref (He.fAd K ("_law_fewest", none))))) ∧ (PySem.W.keepIn K (.ref (He.fAd K ("_law_fewest", none))) = true) ∧ (PySem.W.nsIn K mainGlobals "_law_tried" = some (some (.ref (He.fAd K ("_law_tried", none))))) ∧ (PySem.W.keepIn K (.ref (He.fAd K ("_law_tried", none))) = true))
theorem fcH3_ok {K : PySem.W.Frag} (h : fcH3 K = true) : (PySem.W.nsIn K mainGlobals "_law_is_ring" = some (some (.ref (He.fAd K ("_law_is_ring", none))))) ∧ (PySem.W.keepIn K (.ref (He.fAd K ("_law_is_ring", none))) = true) ∧ (PySem.W.nsIn K mainGlobals "_law_day" = some (some (.ref (He.fAd K ("_law_day", none))))) ∧ (PySem.W.keepIn K (.ref (He.fAd K ("_law_day", none))) = true) ∧ (PySem.W.nsIn K mainGlobals "_law_ring" = some (some (.ref (He.fAd K ("_law_ring", none))))) ∧ (PySem.W.keepIn K (.ref (He.fAd K ("_law_ring", none))) = true) ∧ (PySem.W.nsIn K mainGlobals "_law_gaps" = some (some (.ref (He.fAd K ("_law_gaps", none))))) ∧ (PySem.W.keepIn K (.ref (He.fAd K ("_law_gaps", none))) = true) ∧ (PySem.W.nsIn K mainGlobals "_law_fewest" = some (some (.ref (He.fAd K ("_law_fewest", none))))) ∧ (PySem.W.keepIn K (.ref (He.fAd K ("_law_fewest", none))) = true) ∧ (PySem.W.nsIn K mainGlobals "_law_tried" = some (some (.ref (He.fAd K ("_law_tried", none))))) ∧ (PySem.W.keepIn K (.ref (He.fAd K ("_law_tried", none))) = true) := of_decide_eq_true h
def fcH4 (K : PySem.W.Frag) : Bool := decide ((PySem.W.nsIn K mainGlobals "_law_is_put" = some (some (.ref (He.fAd K ("_law_is_put", none))))) ∧ (PySem.W.keepIn K (.ref (He.fAd K ("_law_is_put", none))) = true) ∧ (PySem.W.nsIn K mainGlobals "_law_told" = some (some (.ref (He.fAd K ("_law_told", none))))) ∧ (PySem.W.keepIn K (.ref (He.fAd K ("_law_told", none))) = true) ∧ (PySem.W.nsIn K mainGlobals "_law_wrong" = some (some (.ref (He.fAd K ("_law_wrong", none))))) ∧ (PySem.W.keepIn K (.ref (He.fAd K ("_law_wrong", none))) = true) ∧ (PySem.W.nsIn K mainGlobals "law" = some (some (.ref (He.fAd K ("law", none))))) ∧ (PySem.W.keepIn K (.ref (He.fAd K ("law", none))) = true) ∧ (PySem.W.nsIn K mainGlobals "bool" = some none) ∧ (PySem.W.nsIn K mainGlobals "enumerate" = some none) ∧ (PySem.W.nsIn K mainGlobals "int" = some none) ∧ (PySem.W.nsIn K mainGlobals "isinstance" = some none))
theorem fcH4_ok {K : PySem.W.Frag} (h : fcH4 K = true) : (PySem.W.nsIn K mainGlobals "_law_is_put" = some (some (.ref (He.fAd K ("_law_is_put", none))))) ∧ (PySem.W.keepIn K (.ref (He.fAd K ("_law_is_put", none))) = true) ∧ (PySem.W.nsIn K mainGlobals "_law_told" = some (some (.ref (He.fAd K ("_law_told", none))))) ∧ (PySem.W.keepIn K (.ref (He.fAd K ("_law_told", none))) = true) ∧ (PySem.W.nsIn K mainGlobals "_law_wrong" = some (some (.ref (He.fAd K ("_law_wrong", none))))) ∧ (PySem.W.keepIn K (.ref (He.fAd K ("_law_wrong", none))) = true) ∧ (PySem.W.nsIn K mainGlobals "law" = some (some (.ref (He.fAd K ("law", none))))) ∧ (PySem.W.keepIn K (.ref (He.fAd K ("law", none))) = true) ∧ (PySem.W.nsIn K mainGlobals "bool" = some none) ∧ (PySem.W.nsIn K mainGlobals "enumerate" = some none) ∧ (PySem.W.nsIn K mainGlobals "int" = some none) ∧ (PySem.W.nsIn K mainGlobals "isinstance" = some none) := of_decide_eq_true h
def fcH5 (K : PySem.W.Frag) : Bool := decide ((PySem.W.nsIn K mainGlobals "len" = some none) ∧ (PySem.W.nsIn K mainGlobals "list" = some none) ∧ (PySem.W.nsIn K mainGlobals "max" = some none) ∧ (PySem.W.nsIn K mainGlobals "min" = some none) ∧ (PySem.W.nsIn K mainGlobals "range" = some none) ∧ (PySem.W.nsIn K mainGlobals "sorted" = some none) ∧ (PySem.W.nsIn K mainGlobals "tuple" = some none) ∧ (PySem.W.nsIn K mainGlobals "zip" = some none) ∧ (PySem.W.nsIn K mainGlobals "DaysError" = some (some (.ref (He.ga K "DaysError")))) ∧ (PySem.W.excIn K (He.ga K "DaysError") veBm "ValueError.__new__" = true) ∧ (PySem.W.keepIn K (.ref (He.ga K "DaysError")) = true) ∧ (PySem.W.subIn K (.ref (He.ga K "DaysError")) (.type "BaseException") = some true))
theorem fcH5_ok {K : PySem.W.Frag} (h : fcH5 K = true) : (PySem.W.nsIn K mainGlobals "len" = some none) ∧ (PySem.W.nsIn K mainGlobals "list" = some none) ∧ (PySem.W.nsIn K mainGlobals "max" = some none) ∧ (PySem.W.nsIn K mainGlobals "min" = some none) ∧ (PySem.W.nsIn K mainGlobals "range" = some none) ∧ (PySem.W.nsIn K mainGlobals "sorted" = some none) ∧ (PySem.W.nsIn K mainGlobals "tuple" = some none) ∧ (PySem.W.nsIn K mainGlobals "zip" = some none) ∧ (PySem.W.nsIn K mainGlobals "DaysError" = some (some (.ref (He.ga K "DaysError")))) ∧ (PySem.W.excIn K (He.ga K "DaysError") veBm "ValueError.__new__" = true) ∧ (PySem.W.keepIn K (.ref (He.ga K "DaysError")) = true) ∧ (PySem.W.subIn K (.ref (He.ga K "DaysError")) (.type "BaseException") = some true) := of_decide_eq_true h
def fcH6 (K : PySem.W.Frag) : Bool := decide ((PySem.W.typeIn K (.ref (He.ga K "DaysError")) = some (.type "type")) ∧ (PySem.W.nsIn K mainGlobals "NoDays" = some (some (.ref (He.ga K "NoDays")))) ∧ (PySem.W.excIn K (He.ga K "NoDays") veBm "ValueError.__new__" = true) ∧ (PySem.W.keepIn K (.ref (He.ga K "NoDays")) = true) ∧ (PySem.W.subIn K (.ref (He.ga K "NoDays")) (.type "BaseException") = some true) ∧ (PySem.W.typeIn K (.ref (He.ga K "NoDays")) = some (.type "type")) ∧ (PySem.W.nsIn K mainGlobals "NoRing" = some (some (.ref (He.ga K "NoRing")))) ∧ (PySem.W.excIn K (He.ga K "NoRing") veBm "ValueError.__new__" = true) ∧ (PySem.W.keepIn K (.ref (He.ga K "NoRing")) = true) ∧ (PySem.W.subIn K (.ref (He.ga K "NoRing")) (.type "BaseException") = some true) ∧ (PySem.W.typeIn K (.ref (He.ga K "NoRing")) = some (.type "type")) ∧ (PySem.W.nsIn K mainGlobals "NoThing" = some (some (.ref (He.ga K "NoThing")))))
theorem fcH6_ok {K : PySem.W.Frag} (h : fcH6 K = true) : (PySem.W.typeIn K (.ref (He.ga K "DaysError")) = some (.type "type")) ∧ (PySem.W.nsIn K mainGlobals "NoDays" = some (some (.ref (He.ga K "NoDays")))) ∧ (PySem.W.excIn K (He.ga K "NoDays") veBm "ValueError.__new__" = true) ∧ (PySem.W.keepIn K (.ref (He.ga K "NoDays")) = true) ∧ (PySem.W.subIn K (.ref (He.ga K "NoDays")) (.type "BaseException") = some true) ∧ (PySem.W.typeIn K (.ref (He.ga K "NoDays")) = some (.type "type")) ∧ (PySem.W.nsIn K mainGlobals "NoRing" = some (some (.ref (He.ga K "NoRing")))) ∧ (PySem.W.excIn K (He.ga K "NoRing") veBm "ValueError.__new__" = true) ∧ (PySem.W.keepIn K (.ref (He.ga K "NoRing")) = true) ∧ (PySem.W.subIn K (.ref (He.ga K "NoRing")) (.type "BaseException") = some true) ∧ (PySem.W.typeIn K (.ref (He.ga K "NoRing")) = some (.type "type")) ∧ (PySem.W.nsIn K mainGlobals "NoThing" = some (some (.ref (He.ga K "NoThing")))) := of_decide_eq_true h
def fcH7 (K : PySem.W.Frag) : Bool := decide ((PySem.W.excIn K (He.ga K "NoThing") veBm "ValueError.__new__" = true) ∧ (PySem.W.keepIn K (.ref (He.ga K "NoThing")) = true) ∧ (PySem.W.subIn K (.ref (He.ga K "NoThing")) (.type "BaseException") = some true) ∧ (PySem.W.typeIn K (.ref (He.ga K "NoThing")) = some (.type "type")) ∧ (PySem.W.findIn K (.ref (He.ga K "NoRing")) "__getattribute__" = some (some (.builtin "BaseException.__getattribute__"))) ∧ (PySem.W.findIn K (.ref (He.ga K "NoRing")) "__getattr__" = some none) ∧ (PySem.W.subIn K (.ref (He.ga K "NoRing")) (.type "BaseException") = some true) ∧ (PySem.W.hasDictIn K (He.ga K "NoRing") = true) ∧ (PySem.W.findIn K (.ref (He.ga K "NoRing")) "__class__" = some (some (.builtin "object.__class__"))) ∧ (PySem.W.specialIn K (.builtin "object.__class__") "__get__" = some (some (.builtin "getset_descriptor.__get__"))) ∧ (PySem.W.takesIn K (.builtin "object.__class__") = some true) ∧ (PySem.W.mroIn K (He.ga K "NoRing") (.type "object") = some true))
theorem fcH7_ok {K : PySem.W.Frag} (h : fcH7 K = true) : (PySem.W.excIn K (He.ga K "NoThing") veBm "ValueError.__new__" = true) ∧ (PySem.W.keepIn K (.ref (He.ga K "NoThing")) = true) ∧ (PySem.W.subIn K (.ref (He.ga K "NoThing")) (.type "BaseException") = some true) ∧ (PySem.W.typeIn K (.ref (He.ga K "NoThing")) = some (.type "type")) ∧ (PySem.W.findIn K (.ref (He.ga K "NoRing")) "__getattribute__" = some (some (.builtin "BaseException.__getattribute__"))) ∧ (PySem.W.findIn K (.ref (He.ga K "NoRing")) "__getattr__" = some none) ∧ (PySem.W.subIn K (.ref (He.ga K "NoRing")) (.type "BaseException") = some true) ∧ (PySem.W.hasDictIn K (He.ga K "NoRing") = true) ∧ (PySem.W.findIn K (.ref (He.ga K "NoRing")) "__class__" = some (some (.builtin "object.__class__"))) ∧ (PySem.W.specialIn K (.builtin "object.__class__") "__get__" = some (some (.builtin "getset_descriptor.__get__"))) ∧ (PySem.W.takesIn K (.builtin "object.__class__") = some true) ∧ (PySem.W.mroIn K (He.ga K "NoRing") (.type "object") = some true) := of_decide_eq_true h
def fcH8 (K : PySem.W.Frag) : Bool := decide ((PySem.W.findIn K (.ref (He.ga K "NoDays")) "__getattribute__" = some (some (.builtin "BaseException.__getattribute__"))) ∧ (PySem.W.findIn K (.ref (He.ga K "NoDays")) "__getattr__" = some none) ∧ (PySem.W.subIn K (.ref (He.ga K "NoDays")) (.type "BaseException") = some true) ∧ (PySem.W.hasDictIn K (He.ga K "NoDays") = true) ∧ (PySem.W.findIn K (.ref (He.ga K "NoDays")) "__class__" = some (some (.builtin "object.__class__"))) ∧ (PySem.W.specialIn K (.builtin "object.__class__") "__get__" = some (some (.builtin "getset_descriptor.__get__"))) ∧ (PySem.W.takesIn K (.builtin "object.__class__") = some true) ∧ (PySem.W.mroIn K (He.ga K "NoDays") (.type "object") = some true) ∧ (PySem.W.findIn K (.ref (He.ga K "NoThing")) "__getattribute__" = some (some (.builtin "BaseException.__getattribute__"))) ∧ (PySem.W.findIn K (.ref (He.ga K "NoThing")) "__getattr__" = some none) ∧ (PySem.W.subIn K (.ref (He.ga K "NoThing")) (.type "BaseException") = some true) ∧ (PySem.W.hasDictIn K (He.ga K "NoThing") = true))
theorem fcH8_ok {K : PySem.W.Frag} (h : fcH8 K = true) : (PySem.W.findIn K (.ref (He.ga K "NoDays")) "__getattribute__" = some (some (.builtin "BaseException.__getattribute__"))) ∧ (PySem.W.findIn K (.ref (He.ga K "NoDays")) "__getattr__" = some none) ∧ (PySem.W.subIn K (.ref (He.ga K "NoDays")) (.type "BaseException") = some true) ∧ (PySem.W.hasDictIn K (He.ga K "NoDays") = true) ∧ (PySem.W.findIn K (.ref (He.ga K "NoDays")) "__class__" = some (some (.builtin "object.__class__"))) ∧ (PySem.W.specialIn K (.builtin "object.__class__") "__get__" = some (some (.builtin "getset_descriptor.__get__"))) ∧ (PySem.W.takesIn K (.builtin "object.__class__") = some true) ∧ (PySem.W.mroIn K (He.ga K "NoDays") (.type "object") = some true) ∧ (PySem.W.findIn K (.ref (He.ga K "NoThing")) "__getattribute__" = some (some (.builtin "BaseException.__getattribute__"))) ∧ (PySem.W.findIn K (.ref (He.ga K "NoThing")) "__getattr__" = some none) ∧ (PySem.W.subIn K (.ref (He.ga K "NoThing")) (.type "BaseException") = some true) ∧ (PySem.W.hasDictIn K (He.ga K "NoThing") = true) := of_decide_eq_true h
def fcH9 (K : PySem.W.Frag) : Bool := decide ((PySem.W.findIn K (.ref (He.ga K "NoThing")) "__class__" = some (some (.builtin "object.__class__"))) ∧ (PySem.W.specialIn K (.builtin "object.__class__") "__get__" = some (some (.builtin "getset_descriptor.__get__"))) ∧ (PySem.W.takesIn K (.builtin "object.__class__") = some true) ∧ (PySem.W.mroIn K (He.ga K "NoThing") (.type "object") = some true) ∧ (PySem.W.exmOne K (.ref (He.ga K "NoRing")) (.ref (He.ga K "DaysError")) = some true) ∧ (PySem.W.exmOne K (.ref (He.ga K "NoDays")) (.ref (He.ga K "DaysError")) = some true) ∧ (PySem.W.exmOne K (.ref (He.ga K "NoThing")) (.ref (He.ga K "DaysError")) = some true) ∧ (PySem.W.kitOne K (.ref (He.ga K "NoRing")) (.ref (He.ga K "NoDays")) = some false) ∧ (PySem.W.kitOne K (.ref (He.ga K "NoDays")) (.ref (He.ga K "NoDays")) = some true) ∧ (PySem.W.kitOne K (.ref (He.ga K "NoThing")) (.ref (He.ga K "NoDays")) = some false) ∧ (PySem.W.kitOne K (.ref (He.ga K "NoRing")) (.ref (He.ga K "NoRing")) = some true) ∧ (PySem.W.kitOne K (.ref (He.ga K "NoDays")) (.ref (He.ga K "NoRing")) = some false))
theorem fcH9_ok {K : PySem.W.Frag} (h : fcH9 K = true) : (PySem.W.findIn K (.ref (He.ga K "NoThing")) "__class__" = some (some (.builtin "object.__class__"))) ∧ (PySem.W.specialIn K (.builtin "object.__class__") "__get__" = some (some (.builtin "getset_descriptor.__get__"))) ∧ (PySem.W.takesIn K (.builtin "object.__class__") = some true) ∧ (PySem.W.mroIn K (He.ga K "NoThing") (.type "object") = some true) ∧ (PySem.W.exmOne K (.ref (He.ga K "NoRing")) (.ref (He.ga K "DaysError")) = some true) ∧ (PySem.W.exmOne K (.ref (He.ga K "NoDays")) (.ref (He.ga K "DaysError")) = some true) ∧ (PySem.W.exmOne K (.ref (He.ga K "NoThing")) (.ref (He.ga K "DaysError")) = some true) ∧ (PySem.W.kitOne K (.ref (He.ga K "NoRing")) (.ref (He.ga K "NoDays")) = some false) ∧ (PySem.W.kitOne K (.ref (He.ga K "NoDays")) (.ref (He.ga K "NoDays")) = some true) ∧ (PySem.W.kitOne K (.ref (He.ga K "NoThing")) (.ref (He.ga K "NoDays")) = some false) ∧ (PySem.W.kitOne K (.ref (He.ga K "NoRing")) (.ref (He.ga K "NoRing")) = some true) ∧ (PySem.W.kitOne K (.ref (He.ga K "NoDays")) (.ref (He.ga K "NoRing")) = some false) := of_decide_eq_true h
def fcH10 (K : PySem.W.Frag) : Bool := decide ((PySem.W.kitOne K (.ref (He.ga K "NoThing")) (.ref (He.ga K "NoRing")) = some false) ∧ (PySem.W.kitOne K (.ref (He.ga K "NoRing")) (.ref (He.ga K "NoThing")) = some false) ∧ (PySem.W.kitOne K (.ref (He.ga K "NoDays")) (.ref (He.ga K "NoThing")) = some false) ∧ (PySem.W.kitOne K (.ref (He.ga K "NoThing")) (.ref (He.ga K "NoThing")) = some true))
theorem fcH10_ok {K : PySem.W.Frag} (h : fcH10 K = true) : (PySem.W.kitOne K (.ref (He.ga K "NoThing")) (.ref (He.ga K "NoRing")) = some false) ∧ (PySem.W.kitOne K (.ref (He.ga K "NoRing")) (.ref (He.ga K "NoThing")) = some false) ∧ (PySem.W.kitOne K (.ref (He.ga K "NoDays")) (.ref (He.ga K "NoThing")) = some false) ∧ (PySem.W.kitOne K (.ref (He.ga K "NoThing")) (.ref (He.ga K "NoThing")) = some true) := of_decide_eq_true h
def fcE0 : FcX := fun K => intXB K "GREATEST" 40
def fcE1 : FcX := fun K => intXB K "LONGEST" 4000
def fcE2 : FcX := fun K => intXB K "MOST_ON_A_DAY" 2
def fcE3 : FcX := fun K => intXB K "MOST_THINGS" 8
def fcsH : List FcX := [fcH0, fcH1, fcH2, fcH3, fcH4, fcH5, fcH6, fcH7, fcH8, fcH9, fcH10, fcE0, fcE1, fcE2, fcE3]
def fnH0 : He.FnD := ⟨("is_whole", none), "is_whole", "is_whole", defArgs s_is_whole, defBody s_is_whole, defScope s_is_whole⟩
def fnH1 : He.FnD := ⟨("is_row", none), "is_row", "is_row", defArgs s_is_row, defBody s_is_row, defScope s_is_row⟩
def fnH2 : He.FnD := ⟨("is_rising", none), "is_rising", "is_rising", defArgs s_is_rising, defBody s_is_rising, defScope s_is_rising⟩
def fnH3 : He.FnD := ⟨("told_rows", none), "told_rows", "told_rows", defArgs s_told_rows, defBody s_told_rows, defScope s_told_rows⟩
def fnH4 : He.FnD := ⟨("is_day", none), "is_day", "is_day", defArgs s_is_day, defBody s_is_day, defScope s_is_day⟩
def fnH5 : He.FnD := ⟨("are_days", none), "are_days", "are_days", defArgs s_are_days, defBody s_are_days, defScope s_are_days⟩
def fnH6 : He.FnD := ⟨("is_ring", none), "is_ring", "is_ring", defArgs s_is_ring, defBody s_is_ring, defScope s_is_ring⟩
def fnH7 : He.FnD := ⟨("asked_ring", none), "asked_ring", "asked_ring", defArgs s_asked_ring, defBody s_asked_ring, defScope s_asked_ring⟩
def fnH8 : He.FnD := ⟨("farthest", none), "farthest", "farthest", defArgs s_farthest, defBody s_farthest, defScope s_farthest⟩
def fnH9 : He.FnD := ⟨("places_from", none), "places_from", "places_from", defArgs s_places_from, defBody s_places_from, defScope s_places_from⟩
def fnH10 : He.FnD := ⟨("fewest_places", none), "fewest_places", "fewest_places", defArgs s_fewest_places, defBody s_fewest_places, defScope s_fewest_places⟩
def fnH11 : He.FnD := ⟨("put_in", none), "put_in", "put_in", defArgs s_put_in, defBody s_put_in, defScope s_put_in⟩
def fnH12 : He.FnD := ⟨("_law_deck", none), "_law_deck", "_law_deck", defArgs s__law_deck, defBody s__law_deck, defScope s__law_deck⟩
def fnH13 : He.FnD := ⟨("_law_whole", none), "_law_whole", "_law_whole", defArgs s__law_whole, defBody s__law_whole, defScope s__law_whole⟩
def fnH14 : He.FnD := ⟨("_law_lists", none), "_law_lists", "_law_lists", defArgs s__law_lists, defBody s__law_lists, defScope s__law_lists⟩
def fnH15 : He.FnD := ⟨("_law_handed", none), "_law_handed", "_law_handed", defArgs s__law_handed, defBody s__law_handed, defScope s__law_handed⟩
def fnH16 : He.FnD := ⟨("_law_odd", none), "_law_odd", "_law_odd", defArgs s__law_odd, defBody s__law_odd, defScope s__law_odd⟩
def fnH17 : He.FnD := ⟨("_law_is_day", none), "_law_is_day", "_law_is_day", defArgs s__law_is_day, defBody s__law_is_day, defScope s__law_is_day⟩
def fnH18 : He.FnD := ⟨("_law_is_ring", none), "_law_is_ring", "_law_is_ring", defArgs s__law_is_ring, defBody s__law_is_ring, defScope s__law_is_ring⟩
def fnH19 : He.FnD := ⟨("_law_day", none), "_law_day", "_law_day", defArgs s__law_day, defBody s__law_day, defScope s__law_day⟩
def fnH20 : He.FnD := ⟨("_law_ring", none), "_law_ring", "_law_ring", defArgs s__law_ring, defBody s__law_ring, defScope s__law_ring⟩
def fnH21 : He.FnD := ⟨("_law_gaps", none), "_law_gaps", "_law_gaps", defArgs s__law_gaps, defBody s__law_gaps, defScope s__law_gaps⟩
def fnH22 : He.FnD := ⟨("_law_fewest", none), "_law_fewest", "_law_fewest", defArgs s__law_fewest, defBody s__law_fewest, defScope s__law_fewest⟩
def fnH23 : He.FnD := ⟨("_law_tried", none), "_law_tried", "_law_tried", defArgs s__law_tried, defBody s__law_tried, defScope s__law_tried⟩
def fnH24 : He.FnD := ⟨("_law_is_put", none), "_law_is_put", "_law_is_put", defArgs s__law_is_put, defBody s__law_is_put, defScope s__law_is_put⟩
def fnH25 : He.FnD := ⟨("_law_told", none), "_law_told", "_law_told", defArgs s__law_told, defBody s__law_told, defScope s__law_told⟩
def fnH26 : He.FnD := ⟨("_law_wrong", none), "_law_wrong", "_law_wrong", defArgs s__law_wrong, defBody s__law_wrong, defScope s__law_wrong⟩
def fnH27 : He.FnD := ⟨("law", none), "law", "law", defArgs s_law, defBody s_law, defScope s_law⟩
def fnsH : List He.FnD := [fnH0, fnH1, fnH2, fnH3, fnH4, fnH5, fnH6, fnH7, fnH8, fnH9, fnH10, fnH11, fnH12, fnH13, fnH14, fnH15, fnH16, fnH17, fnH18, fnH19, fnH20, fnH21, fnH22, fnH23, fnH24, fnH25, fnH26, fnH27]
abbrev rowH : PySem.W.OpenRow := PySem.W.OpenLaw.row PySem.Challenge.rw_withindays_k60_put_in
abbrev hkH : PySem.W.Hook := hookX fcsH fnsH
def obH (s : PySem.W.SharedT) : AlX := obsXG fcsH fnsH (HandSHeadRun.getT s)
theorem obH_eq (s : PySem.W.SharedT) : obH s = hkH.obs s.abs := obsXG_eq (HandSHeadRun.getT_eq s)
def looseH : List Str := (["__name__", "DaysError", "NoDays", "NoRing", "NoThing", "is_whole", "is_row", "is_rising", "told_rows", "MOST_ON_A_DAY", "LONGEST", "is_day", "are_days", "is_ring", "asked_ring", "MOST_THINGS", "GREATEST", "farthest", "places_from", "fewest_places", "put_in", "_law_deck", "_law_whole", "_law_lists", "_law_handed", "_law_odd", "_law_is_day", "_law_is_ring", "_law_day", "_law_ring"] : List Str) ++ (["_law_gaps", "_law_fewest", "_law_tried", "_law_is_put", "_law_told", "_law_wrong"] : List Str)
theorem runH (w : World) : HandSHeadRun.RunEq rowH (PySem.W.view rowH.prog [40]) hkH obH 60000 looseH w := by
  intro os
  kernel_rfl
end
end WD
namespace WD
open PySem PySem.Spec PyProof.Rows L2

inductive D where
  | non | bl (b : Bool) | int (i : Int) | str (x : Str)
  | tup (xs : List D) | lst (xs : List D) | scr (xs : List D) | dic (ks : List Key) (xs : List D) | loc (n : Nat)
/-- a changeable thing -/
inductive O where
  | lst (xs : List D)
  | ins (c : Str) (fs : List (Str × D))
  /-- a dict whose keys are tuples of ints and such tuples; fz: it is walked -/
  | dct (fz : Bool) (kvs : List (D × D))
  /-- a dict from numbers to numbers -/
  | dci (fz : Bool) (kvs : List (Int × Int))
abbrev Hs : Type := List O
/-- an error: its class's name, its one field -/
structure Xn where
  name : Str
  val : Option (Str × D) := none

/-- the still part of the heap, and what is kept aside -/
abbrev GG : Type := Hp × Hp
structure GLe (G G' : GG) : Prop where
  le : Same G.1 G'.1
  fr : G'.2 = G.2
theorem GLe.refl (G : GG) : GLe G G := ⟨Same.refl _, rfl⟩
theorem GLe.trans {G G1 G2 : GG} (a : GLe G G1) (b : GLe G1 G2) : GLe G G2 := ⟨a.le.trans b.le, b.fr.trans a.fr⟩
def gupd (G : GG) (p : Addr) (o : HO) : GG := (upd G.1 p o, G.2)
mutual
def Is (K : PySem.W.Frag) (G : GG) (ms : List Addr) : D → V → Prop
  | .non, v => v = .non
  | .bl b, v => v = .bl b
  | .int i, v => v = .int i
  | .str x, v => v = .str x
  | .tup xs, v => ∃ a vs, v = .ref a ∧ G.1 a = some (.tup vs) ∧ IsL K G ms xs vs
  | .lst xs, v => ∃ a vs, v = .ref a ∧ G.1 a = some (.lst vs) ∧ IsL K G ms xs vs
  | .scr xs, v => ∃ a vs, v = .ref a ∧ SqL K G.1 a vs ∧ IsL K G ms xs vs
  | .dic ks xs, v => ∃ a vs, v = .ref a ∧ G.1 a = some (.dK (ks.zip vs)) ∧ ks.length = vs.length ∧ IsL K G ms xs vs
  | .loc n, v => ∃ a, ms[n]? = some a ∧ v = .ref a
def IsL (K : PySem.W.Frag) (G : GG) (ms : List Addr) : List D → List V → Prop
  | [], vs => vs = []
  | x :: xs, vs => ∃ v r, vs = v :: r ∧ Is K G ms x v ∧ IsL K G ms xs r
end
section
variable {K : PySem.W.Frag} {G G' : GG} {H : Hp} {ms ms' : List Addr}
theorem Same.sqT {H H' : Hp} {a : Addr} {xs : List V} (e : Same H H') (h : SqT K H a xs) : SqT K H' a xs := by
  rcases h with (h | ⟨o, h⟩) | h
  · exact .inl (.inl (e _ _ h))
  · exact .inl (.inr ⟨o, e _ _ h⟩)
  · exact .inr h
theorem pre_get {n : Nat} {a : Addr} (p : ms <+: ms') (h : ms[n]? = some a) : ms'[n]? = some a := by
  obtain ⟨t, rfl⟩ := p
  have hl : n < ms.length := by
    rcases Nat.lt_or_ge n ms.length with q | q
    · exact q
    · rw [List.getElem?_eq_none q] at h; cases h
  rw [List.getElem?_append_left hl]; exact h
mutual
theorem Is.mono' (e : Same G.1 G'.1) (p : ms <+: ms') : ∀ (d : D) (v : V), Is K G ms d v → Is K G' ms' d v
  | .non, _, h => h
  | .bl _, _, h => h
  | .int _, _, h => h
  | .str _, _, h => h
  | .tup xs, v, h => by
    obtain ⟨a, vs, h1, h2, h3⟩ := h
    exact ⟨a, vs, h1, e _ _ h2, IsL.mono' e p xs vs h3⟩
  | .lst xs, v, h => by
    obtain ⟨a, vs, h1, h2, h3⟩ := h
    exact ⟨a, vs, h1, e _ _ h2, IsL.mono' e p xs vs h3⟩
  | .scr xs, v, h => by
    obtain ⟨a, vs, h1, h2, h3⟩ := h
    exact ⟨a, vs, h1, e.seq h2, IsL.mono' e p xs vs h3⟩
  | .dic ks xs, v, h => by
    obtain ⟨a, vs, h1, h2, hl, h3⟩ := h
    exact ⟨a, vs, h1, e _ _ h2, hl, IsL.mono' e p xs vs h3⟩
  | .loc n, v, h => by
    obtain ⟨a, h1, h2⟩ := h
    exact ⟨a, pre_get p h1, h2⟩
theorem IsL.mono' (e : Same G.1 G'.1) (p : ms <+: ms') : ∀ (xs : List D) (vs : List V), IsL K G ms xs vs → IsL K G' ms' xs vs
  | [], _, h => h
  | x :: xs, vs, h => by
    obtain ⟨v, r, h1, h2, h3⟩ := h
    exact ⟨v, r, h1, Is.mono' e p x v h2, IsL.mono' e p xs r h3⟩
end
theorem Is.mono (e : GLe G G') (p : ms <+: ms') (d : D) (v : V) (h : Is K G ms d v) : Is K G' ms' d v := Is.mono' e.le p d v h
theorem IsL.mono (e : GLe G G') (p : ms <+: ms') (xs : List D) (vs : List V) (h : IsL K G ms xs vs) : IsL K G' ms' xs vs := IsL.mono' e.le p xs vs h
theorem IsL.length : ∀ {xs : List D} {vs : List V}, IsL K G ms xs vs → xs.length = vs.length
  | [], _, h => by cases h; rfl
  | x :: xs, _, h => by
    obtain ⟨v, r, rfl, _, h3⟩ := h
    simp [IsL.length h3]
theorem IsL.get : ∀ {xs : List D} {vs : List V} {i : Nat} {d : D}, IsL K G ms xs vs → xs[i]? = some d → ∃ v, vs[i]? = some v ∧ Is K G ms d v
  | [], _, _, _, _, e => by simp at e
  | x :: xs, _, 0, d, h, e => by
    obtain ⟨v, r, rfl, h2, h3⟩ := h
    simp at e; subst e
    exact ⟨v, rfl, h2⟩
  | x :: xs, _, i + 1, d, h, e => by
    obtain ⟨v, r, rfl, h2, h3⟩ := h
    obtain ⟨w, q1, q2⟩ := IsL.get (i := i) h3 (by simpa using e)
    exact ⟨w, by simpa using q1, q2⟩
theorem IsL.append : ∀ {xs ys : List D} {vs ws : List V}, IsL K G ms xs vs → IsL K G ms ys ws → IsL K G ms (xs ++ ys) (vs ++ ws)
  | [], _, _, _, h, q => by cases h; exact q
  | x :: xs, _, _, _, h, q => by
    obtain ⟨v, r, rfl, h2, h3⟩ := h
    exact ⟨v, _, rfl, h2, IsL.append h3 q⟩
theorem IsL.take : ∀ {xs : List D} {vs : List V} (n : Nat), IsL K G ms xs vs → IsL K G ms (xs.take n) (vs.take n)
  | _, _, 0, _ => by simp [IsL]
  | [], _, n + 1, h => by cases h; simp [IsL]
  | x :: xs, _, n + 1, h => by
    obtain ⟨v, r, rfl, h2, h3⟩ := h
    exact ⟨v, _, rfl, h2, IsL.take n h3⟩
theorem IsL.drop : ∀ {xs : List D} {vs : List V} (n : Nat), IsL K G ms xs vs → IsL K G ms (xs.drop n) (vs.drop n)
  | _, _, 0, h => h
  | [], _, n + 1, h => by cases h; simp [IsL]
  | x :: xs, _, n + 1, h => by
    obtain ⟨v, r, rfl, h2, h3⟩ := h
    exact IsL.drop n h3
theorem IsL.one {d : D} {v : V} (h : Is K G ms d v) : IsL K G ms [d] [v] := ⟨v, [], rfl, h, rfl⟩
theorem IsL.rev : ∀ {xs : List D} {vs : List V}, IsL K G ms xs vs → IsL K G ms xs.reverse vs.reverse
  | [], _, h => by cases h; simp [IsL]
  | x :: xs, _, h => by
    obtain ⟨v, r, rfl, h2, h3⟩ := h
    rw [List.reverse_cons, List.reverse_cons]
    exact (IsL.rev h3).append (.one h2)
theorem IsL.set : ∀ {xs : List D} {vs : List V} {d : D} {v : V} (i : Nat), IsL K G ms xs vs → Is K G ms d v → IsL K G ms (xs.set i d) (vs.set i v)
  | [], _, _, _, _, h, _ => by cases h; simp [IsL]
  | x :: xs, _, d, v, 0, h, q => by
    obtain ⟨w, r, rfl, h2, h3⟩ := h
    exact ⟨v, r, rfl, q, h3⟩
  | x :: xs, _, d, v, i + 1, h, q => by
    obtain ⟨w, r, rfl, h2, h3⟩ := h
    exact ⟨w, _, rfl, h2, IsL.set i h3 q⟩
theorem IsL.dropLast {xs : List D} {vs : List V} (h : IsL K G ms xs vs) : IsL K G ms xs.dropLast vs.dropLast := by
  rw [List.dropLast_eq_take, List.dropLast_eq_take, h.length]
  exact h.take _
theorem IsL.rep {xs : List D} {vs : List V} (h : IsL K G ms xs vs) : ∀ k : Nat, IsL K G ms (List.replicate k xs).flatten (List.replicate k vs).flatten
  | 0 => by simp [IsL]
  | k + 1 => by
    rw [List.replicate_succ, List.replicate_succ, List.flatten_cons, List.flatten_cons]
    exact h.append (IsL.rep h k)
theorem IsL.ints : ∀ {ns : List Int} {vs : List V}, IsL K G ms (ns.map D.int) vs → vs = ns.map V.int
  | [], _, h => h
  | n :: ns, _, h => by
    obtain ⟨v, r, rfl, h2, h3⟩ := h
    rw [IsL.ints h3]; cases h2; rfl
theorem IsL.of_ints : ∀ (ns : List Int), IsL K G ms (ns.map D.int) (ns.map V.int)
  | [] => rfl
  | n :: ns => ⟨_, _, rfl, rfl, IsL.of_ints ns⟩
end

mutual
def nkOf : D → Option NestedKey
  | .int i => some (.num i)
  | .bl b => some (.num (if b = true then 1 else 0))
  | .tup xs => (nkOfs xs).map NestedKey.tup
  | _ => none
def nkOfs : List D → Option (List NestedKey)
  | [] => some []
  | x :: xs => (nkOf x).bind fun a => (nkOfs xs).map fun b => a :: b
end
mutual
theorem nk_hash (w w' : World) : ∀ (d : D) (k : NestedKey), nkOf d = some k → k.hash w = k.hash w'
  | .int i, k, e => by simp only [nkOf, Option.some.injEq] at e; subst e; rfl
  | .tup xs, k, e => by
    simp only [nkOf, Option.map_eq_some_iff] at e
    obtain ⟨ks, e, rfl⟩ := e
    simp only [NestedKey.hash, nks_hash w w' xs ks e]
  | .non, _, e => by simp [nkOf] at e
  | .bl _, k, e => by simp only [nkOf, Option.some.injEq] at e; subst e; rfl
  | .str _, _, e => by simp [nkOf] at e
  | .lst _, _, e => by simp [nkOf] at e
  | .scr _, _, e => by simp [nkOf] at e
  | .dic _ _, _, e => by simp [nkOf] at e
  | .loc _, _, e => by simp [nkOf] at e
theorem nks_hash (w w' : World) : ∀ (xs : List D) (ks : List NestedKey), nkOfs xs = some ks → NestedKey.hashes w ks = NestedKey.hashes w' ks
  | [], ks, e => by simp only [nkOfs, Option.some.injEq] at e; subst e; rfl
  | x :: xs, ks, e => by
    simp only [nkOfs, Option.bind_eq_some_iff, Option.map_eq_some_iff] at e
    obtain ⟨a, e1, b, e2, rfl⟩ := e
    simp only [NestedKey.hashes, nk_hash w w' x a e1, nks_hash w w' xs b e2]
end
/-- what is true of such a dict's one object -/
def ndO (a : Addr) (xs : List (NestedKey × Addr × V)) : HO := .ext fun h => ∃ (w : World) (ys : List (NestedKey × Addr × Value)), Paired (fun p q => p.1 = q.1 ∧ p.2.1 = q.2.1 ∧ RelV p.2.2 q.2.2) xs ys ∧
  ∃ o es ep, h.get? a = some o ∧ o.ExactDict ∧ o.data = .dict es ep ∧ es.toList = ys.map fun y => ⟨y.1.hash w, .ref y.2.1, y.2.2⟩
def IsKV (K : PySem.W.Frag) (G : GG) (ms : List Addr) : List (D × D) → List (NestedKey × Addr × V) → Prop
  | [], xs => xs = []
  | p :: r, xs => ∃ k a v s, xs = (k, a, v) :: s ∧ nkOf p.1 = some k ∧ k.depth ≤ 8 ∧ Is K G ms p.1 (.ref a) ∧ Is K G ms p.2 v ∧ IsKV K G ms r s
/-- attributes by name -/
def IsF (K : PySem.W.Frag) (G : GG) (ms : List Addr) : List (Str × D) → List (Str × V) → Prop
  | [], vs => vs = []
  | p :: r, vs => ∃ v s, vs = (p.1, v) :: s ∧ Is K G ms p.2 v ∧ IsF K G ms r s
def clsI : List String := ["int", "bool", "str", "list", "tuple", "dict"]
/-- what the layer asks of a class of the text -/
structure InsC (K : PySem.W.Frag) (C : Addr) : Prop where
  cls : Cls K C
  ha : PySem.W.findIn K (.ref C) "__class__" = some (some (.builtin "object.__class__"))
  hn : PySem.W.specialIn K (.builtin "object.__class__") "__get__" = some (some (.builtin "getset_descriptor.__get__"))
  htk : PySem.W.takesIn K (.builtin "object.__class__") = some true
  hm : PySem.W.mroIn K C (.type "object") = some true
  kit : ∀ n ∈ clsI, PySem.W.kitOne K (.ref C) (.type n) = some false
def ivK (kvs : List (Int × Int)) : List (Key × V) := kvs.map fun p => (.inl p.1, .int p.2)
def ObjIs (K : PySem.W.Frag) (G : GG) (ms : List Addr) (H : Hp) (a : Addr) : O → Prop
  | .lst xs => ∃ vs, H a = some (.lst vs) ∧ IsL K G ms xs vs ∧ xs.length ≤ sizeLine
  | .ins c fs => ∃ C dx vs, PySem.W.nsIn K mainGlobals c = some (some (.ref C)) ∧ InsC K C ∧ H a = some (.ins C dx vs) ∧ IsF K G ms fs vs ∧ fs.length ≤ 900
  | .dct fz kvs => ∃ xs, (if fz = true then ∃ od, H a = some (.frz od (ndO a xs)) else H a = some (ndO a xs)) ∧ (a == sysModules) = false ∧ IsKV K G ms kvs xs ∧ kvs.length ≤ sizeLine ∧ (xs.map (·.1)).Nodup
  | .dci fz kvs => if fz = true then ∃ od, H a = some (.frz od (.dK (ivK kvs))) else H a = some (.dK (ivK kvs))
def SzO : HO → Prop
  | .lst vs => vs.length ≤ sizeLine
  | .tup vs => vs.length ≤ sizeLine
  | .frz _ u => SzO u
  | _ => True
structure Hh (K : PySem.W.Frag) (G : GG) (ms : List Addr) (h : Hs) (H : Hp) : Prop where
  sub : Same G.1 H
  gsz : ∀ a o, G.1 a = some o → SzO o
  frm : Same G.2 H
  frd : ∀ a o, G.2 a = some o → G.1 a = none ∧ (a ∈ ms → ∃ od u, o = .frz od u)
  len : ms.length = h.length
  nd : ms.Nodup
  dis : ∀ a ∈ ms, G.1 a = none
  obj : ∀ (n : Nat) (a : Addr) (o : O), ms[n]? = some a → h[n]? = some o → ObjIs K G ms H a o
section
variable {K : PySem.W.Frag} {G G' : GG} {H H' : Hp} {ms ms' : List Addr} {h h' : Hs}
theorem Hh.at (x : Hh K G ms h H) {n : Nat} {xs : List D} (e : h[n]? = some (.lst xs)) : ∃ a vs, ms[n]? = some a ∧ H a = some (.lst vs) ∧ IsL K G ms xs vs := by
  have hl : n < h.length := by
    rcases Nat.lt_or_ge n h.length with q | q
    · exact q
    · rw [List.getElem?_eq_none q] at e; cases e
  have hm : n < ms.length := by rw [x.len]; exact hl
  obtain ⟨vs, h1, h2, _⟩ := x.obj n ms[n] _ (List.getElem?_eq_getElem hm) e
  exact ⟨ms[n], vs, List.getElem?_eq_getElem hm, h1, h2⟩
theorem Hh.atz (x : Hh K G ms h H) {n : Nat} {xs : List D} (e : h[n]? = some (.lst xs)) : xs.length ≤ sizeLine := by
  have hl : n < h.length := by
    rcases Nat.lt_or_ge n h.length with q | q
    · exact q
    · rw [List.getElem?_eq_none q] at e; cases e
  have hm : n < ms.length := by rw [x.len]; exact hl
  obtain ⟨vs, h1, h2, h3⟩ := x.obj n ms[n] _ (List.getElem?_eq_getElem hm) e
  exact h3
theorem Hh.some_at (x : Hh K G ms h H) {n : Nat} {a : Addr} (e : ms[n]? = some a) : ∃ o, H a = some o := by
  have hm : n < ms.length := by
    rcases Nat.lt_or_ge n ms.length with q | q
    · exact q
    · rw [List.getElem?_eq_none q] at e; cases e
  have hl : n < h.length := by rw [← x.len]; exact hm
  have q := x.obj n a h[n] e (List.getElem?_eq_getElem hl)
  cases ho : h[n] with
  | lst xs => rw [ho] at q; obtain ⟨vs, q1, _, _⟩ := q; exact ⟨_, q1⟩
  | ins c fs => rw [ho] at q; obtain ⟨C, dx, vs, _, _, q1, _⟩ := q; exact ⟨_, q1⟩
  | dct fz kvs =>
    rw [ho] at q
    obtain ⟨xs, q1, _⟩ := q
    cases fz with
    | true => obtain ⟨od, q1⟩ := q1; exact ⟨_, q1⟩
    | false => exact ⟨_, q1⟩
  | dci fz kvs =>
    rw [ho] at q
    cases fz with
    | true => obtain ⟨od, q1⟩ := q; exact ⟨_, q1⟩
    | false => exact ⟨_, q⟩
theorem IsKV.mono' (e : Same G.1 G'.1) (p : ms <+: ms') : ∀ (kvs : List (D × D)) (xs : List (NestedKey × Addr × V)), IsKV K G ms kvs xs → IsKV K G' ms' kvs xs
  | [], _, h => h
  | q :: r, xs, h => by
    obtain ⟨k, a, v, s, rfl, h1, h2, h3, h4, h5⟩ := h
    exact ⟨k, a, v, s, rfl, h1, h2, Is.mono' e p _ _ h3, Is.mono' e p _ _ h4, IsKV.mono' e p r s h5⟩
theorem IsKV.len : ∀ {kvs : List (D × D)} {xs : List (NestedKey × Addr × V)}, IsKV K G ms kvs xs → kvs.length = xs.length
  | [], _, h => by cases h; rfl
  | q :: r, xs, h => by
    obtain ⟨k, a, v, s, rfl, h1, h2, h3, h4, h5⟩ := h
    simp [IsKV.len h5]
theorem IsF.mono' (e : Same G.1 G'.1) (p : ms <+: ms') : ∀ (fs : List (Str × D)) (vs : List (Str × V)), IsF K G ms fs vs → IsF K G' ms' fs vs
  | [], _, h => h
  | q :: r, vs, h => by
    obtain ⟨v, s, rfl, h1, h2⟩ := h
    exact ⟨v, s, rfl, Is.mono' e p _ _ h1, IsF.mono' e p r s h2⟩
theorem Hh.ne (x : Hh K G ms h H) {a p : Addr} (ha : a ∈ ms) (hp : H p = none) : a ≠ p := by
  obtain ⟨n, hn⟩ := List.getElem?_of_mem ha
  obtain ⟨vs, q⟩ := x.some_at hn
  exact ne_of_none q hp
theorem ObjIs.mono' {o : O} {a : Addr} (e : Same G.1 G'.1) (p : ms <+: ms') (q : ObjIs K G ms H a o) (hh : H' a = H a) : ObjIs K G' ms' H' a o := by
  cases o with
  | lst xs =>
    obtain ⟨vs, h1, h2, h3⟩ := q
    exact ⟨vs, by rw [hh]; exact h1, IsL.mono' e p _ _ h2, h3⟩
  | ins c fs =>
    obtain ⟨C, dx, vs, h1, h2, h3, h4, h5⟩ := q
    exact ⟨C, dx, vs, h1, h2, by rw [hh]; exact h3, IsF.mono' e p _ _ h4, h5⟩
  | dct fz kvs =>
    obtain ⟨xs, h1, h2, h3, h4, h5⟩ := q
    exact ⟨xs, by rw [hh]; exact h1, h2, IsKV.mono' e p _ _ h3, h4, h5⟩
  | dci fz kvs =>
    simp only [ObjIs] at q ⊢
    rw [hh]; exact q
theorem ObjIs.mono {o : O} {a : Addr} (e : GLe G G') (p : ms <+: ms') (q : ObjIs K G ms H a o) (hh : H' a = H a) : ObjIs K G' ms' H' a o := q.mono' e.le p hh
theorem same_upd {H : Hp} {p : Addr} {o : HO} (h : H p = none) : Same H (upd H p o) := fun b x e => by
  rw [upd_ne (ne_of_none e h)]
  exact e
theorem Hh.gnone (x : Hh K G ms h H) {p : Addr} (hp : H p = none) : G.1 p = none := x.sub.free hp
theorem Hh.fnone (x : Hh K G ms h H) {p : Addr} (hp : H p = none) : G.2 p = none := x.frm.free hp
theorem gle_upd {p : Addr} {o : HO} (h : G.1 p = none) : GLe G (gupd G p o) := ⟨same_upd h, rfl⟩
theorem pre_refl (l : List Addr) : l <+: l := ⟨[], by simp⟩
theorem upd_some {H : Hp} {p a : Addr} {o u : HO} (hp : H p = none) (e : H a = some u) : upd H p o a = some u := by
  rw [upd_ne (ne_of_none e hp)]; exact e
/-- a new still object -/
theorem Hh.still (x : Hh K G ms h H) {p : Addr} {o : HO} (hp : H p = none) (hz : SzO o) : Hh K (gupd G p o) ms h (upd H p o) := by
  have eg : GLe G (gupd G p o) := gle_upd (x.gnone hp)
  refine ⟨fun a u e => ?_, fun a u e => ?_, fun a u e => upd_some hp (x.frm a u e), fun a u e => ⟨?_, (x.frd a u e).2⟩, x.len, x.nd, fun a ha => ?_, fun n a u e1 e2 => ?_⟩
  · by_cases hz : a = p
    · subst hz
      have e : upd G.1 a o a = some u := e
      rw [upd_same] at e ⊢; exact e
    · have e : upd G.1 p o a = some u := e
      rw [upd_ne hz] at e ⊢; exact x.sub a u e
  · by_cases hq : a = p
    · subst hq
      have e : upd G.1 a o a = some u := e
      rw [upd_same] at e; cases e; exact hz
    · have e : upd G.1 p o a = some u := e
      rw [upd_ne hq] at e; exact x.gsz a u e
  · show upd G.1 p o a = none
    rw [upd_ne (ne_of_none (x.frm a u e) hp)]; exact (x.frd a u e).1
  · show upd G.1 p o a = none
    rw [upd_ne (x.ne ha hp)]; exact x.dis a ha
  · exact (x.obj n a u e1 e2).mono eg (pre_refl _) (upd_ne (x.ne (List.mem_of_getElem? e1) hp))
/-- a new changeable thing -/
theorem Hh.allocO (x : Hh K G ms h H) {p : Addr} {ob : O} {ho : HO} (hp : H p = none) (hx : ObjIs K G (ms ++ [p]) (upd H p ho) p ob) : Hh K G (ms ++ [p]) (h ++ [ob]) (upd H p ho) := by
  have pp : ms <+: ms ++ [p] := ⟨[p], rfl⟩
  refine ⟨fun a u e => upd_some hp (x.sub a u e), x.gsz, fun a u e => upd_some hp (x.frm a u e), fun a u e => ⟨(x.frd a u e).1, fun hm => ?_⟩, by simp [x.len], ?_, fun a ha => ?_, fun n a u e1 e2 => ?_⟩
  · rcases List.mem_append.mp hm with q | q
    · exact (x.frd a u e).2 q
    · have : a = p := by simpa using q
      exact absurd this (ne_of_none (x.frm a u e) hp)
  · refine List.nodup_append.mpr ⟨x.nd, by simp, fun a ha b hb => ?_⟩
    have : b = p := by simpa using hb
    subst this
    exact x.ne ha hp
  · rcases List.mem_append.mp ha with q | q
    · exact x.dis a q
    · have : a = p := by simpa using q
      subst this; exact x.gnone hp
  · by_cases hn : n < ms.length
    · rw [List.getElem?_append_left hn] at e1
      rw [List.getElem?_append_left (by rw [← x.len]; exact hn)] at e2
      exact (x.obj n a u e1 e2).mono (GLe.refl _) pp (upd_ne (x.ne (List.mem_of_getElem? e1) hp))
    · have hn' : n = ms.length := by
        have hl : n < (ms ++ [p]).length := by
          rcases Nat.lt_or_ge n (ms ++ [p]).length with q | q
          · exact q
          · rw [List.getElem?_eq_none q] at e1; cases e1
        simp at hl; omega
      subst hn'
      simp at e1
      rw [x.len] at e2
      simp at e2
      subst e1 e2
      exact hx
/-- a new changeable list -/
theorem Hh.alloc (x : Hh K G ms h H) {p : Addr} {xs : List D} {vs : List V} (hp : H p = none) (hx : IsL K G ms xs vs) (hz : xs.length ≤ sizeLine) : Hh K G (ms ++ [p]) (h ++ [.lst xs]) (upd H p (.lst vs)) :=
  x.allocO hp ⟨vs, upd_same, IsL.mono (GLe.refl _) ⟨[p], rfl⟩ _ _ hx, hz⟩
/-- a thing changed -/
theorem Hh.writeO (x : Hh K G ms h H) {n : Nat} {a : Addr} {ob : O} {ho : HO} (e : ms[n]? = some a) (hnf : ∀ od u, H a ≠ some (.frz od u)) (hx : ObjIs K G ms (upd H a ho) a ob) : Hh K G ms (h.set n ob) (upd H a ho) := by
  have ha := List.mem_of_getElem? e
  have hg : G.1 a = none := x.dis a ha
  refine ⟨fun b u q => ?_, x.gsz, fun b u q => ?_, x.frd, by simp [x.len], x.nd, x.dis, fun m b u e1 e2 => ?_⟩
  · rw [upd_ne (fun z => by rw [z, hg] at q; cases q)]; exact x.sub b u q
  · rw [upd_ne (fun z => by
      obtain ⟨od, v, w⟩ := (x.frd b u q).2 (by rw [z]; exact ha)
      have k := x.frm b u q
      rw [z, w] at k
      exact hnf _ _ k)]; exact x.frm b u q
  · by_cases hm : m = n
    · subst hm
      rw [e] at e1; cases e1
      have hl : m < h.length := by
        rcases Nat.lt_or_ge m ms.length with q | q
        · rw [← x.len]; exact q
        · rw [List.getElem?_eq_none q] at e; cases e
      rw [List.getElem?_set_self hl] at e2
      cases e2
      exact hx
    · rw [List.getElem?_set_ne (Ne.symm hm)] at e2
      have hne : b ≠ a := fun z => hm (nd_ix x.nd e1 (by rw [z]; exact e))
      exact (x.obj m b u e1 e2).mono (GLe.refl _) (pre_refl _) (upd_ne hne)
/-- a list changed -/
theorem Hh.write (x : Hh K G ms h H) {n : Nat} {a : Addr} {xs : List D} {vs vs0 : List V} (e : ms[n]? = some a) (hw : H a = some (.lst vs0)) (hx : IsL K G ms xs vs) (hz : xs.length ≤ sizeLine) : Hh K G ms (h.set n (.lst xs)) (upd H a (.lst vs)) :=
  x.writeO e (fun od u z => by rw [hw] at z; cases z) ⟨vs, upd_same, hx, hz⟩
def fupd (G : GG) (p : Addr) (o : HO) : GG := (G.1, upd G.2 p o)
theorem Hh.frame (x : Hh K G ms h H) {p : Addr} {o : HO} (hp : H p = none) : Hh K (fupd G p o) ms h (upd H p o) := by
  refine ⟨fun a u e => upd_some hp (x.sub a u e), x.gsz, fun a u e => ?_, fun a u e => ?_, x.len, x.nd, x.dis, fun n a u e1 e2 => ?_⟩
  · by_cases hz : a = p
    · subst hz
      have e : upd G.2 a o a = some u := e
      rw [upd_same] at e ⊢; exact e
    · have e : upd G.2 p o a = some u := e
      rw [upd_ne hz] at e ⊢; exact x.frm a u e
  · by_cases hz : a = p
    · subst hz; exact ⟨x.gnone hp, fun hm => absurd rfl (x.ne hm hp)⟩
    · have e : upd G.2 p o a = some u := e
      rw [upd_ne hz] at e; exact x.frd a u e
  · exact ObjIs.mono' (G := G) (q := x.obj n a u e1 e2) (e := Same.refl G.1) (p := pre_refl _) (hh := upd_ne (x.ne (List.mem_of_getElem? e1) hp))
theorem Hh.reframe (x : Hh K G ms h H) {p : Addr} {o o' : HO} (hp : G.2 p = some o) (hnf : ∀ od u, o ≠ .frz od u) : Hh K (fupd G p o') ms h (upd H p o') := by
  obtain ⟨g0, m1⟩ := x.frd p o hp
  have m0 : p ∉ ms := fun z => by obtain ⟨od, u, w⟩ := m1 z; exact hnf _ _ w
  refine ⟨fun a u e => ?_, x.gsz, fun a u e => ?_, fun a u e => ?_, x.len, x.nd, x.dis, fun n a u e1 e2 => ?_⟩
  · rw [upd_ne (fun z => by have e : G.1 a = some u := e; rw [z, g0] at e; cases e)]; exact x.sub a u e
  · by_cases hz : a = p
    · subst hz
      have e : upd G.2 a o' a = some u := e
      rw [upd_same] at e ⊢; exact e
    · have e : upd G.2 p o' a = some u := e
      rw [upd_ne hz] at e ⊢; exact x.frm a u e
  · by_cases hz : a = p
    · subst hz; exact ⟨g0, fun hm => absurd hm m0⟩
    · have e : upd G.2 p o' a = some u := e
      rw [upd_ne hz] at e; exact x.frd a u e
  · exact ObjIs.mono' (G := G) (q := x.obj n a u e1 e2) (e := Same.refl G.1) (p := pre_refl _) (hh := upd_ne fun z => m0 (by rw [← z]; exact List.mem_of_getElem? e1))
/-- what was kept aside becomes still; the rest aside as F -/
theorem Hh.thaw (x : Hh K G ms h H) {p : Addr} {o : HO} {F : Hp} (hp : G.2 p = some o) (hF : ∀ a u, F a = some u → a ≠ p ∧ G.2 a = some u) (hz : SzO o) (hnf : ∀ od u, o ≠ .frz od u) : Hh K (upd G.1 p o, F) ms h H := by
  obtain ⟨g0, m1⟩ := x.frd p o hp
  have m0 : p ∉ ms := fun z => by obtain ⟨od, u, w⟩ := m1 z; exact hnf _ _ w
  refine ⟨fun a u e => ?_, fun a u e => ?_, fun a u e => x.frm a u (hF a u e).2, fun a u e => ⟨?_, (x.frd a u (hF a u e).2).2⟩, x.len, x.nd, fun a ha => ?_, fun n a u e1 e2 => ?_⟩
  · by_cases hz : a = p
    · subst hz
      have e : upd G.1 a o a = some u := e
      rw [upd_same] at e; cases e; exact x.frm a _ hp
    · have e : upd G.1 p o a = some u := e
      rw [upd_ne hz] at e; exact x.sub a u e
  · by_cases hq : a = p
    · subst hq
      have e : upd G.1 a o a = some u := e
      rw [upd_same] at e; cases e; exact hz
    · have e : upd G.1 p o a = some u := e
      rw [upd_ne hq] at e; exact x.gsz a u e
  · show upd G.1 p o a = none
    rw [upd_ne (hF a u e).1]; exact (x.frd a u (hF a u e).2).1
  · show upd G.1 p o a = none
    rw [upd_ne (fun z => m0 (by rw [← z]; exact ha))]; exact x.dis a ha
  · exact (x.obj n a u e1 e2).mono' (same_upd g0) (pre_refl _) rfl
/-- .. becomes changeable -/
theorem Hh.adopt (x : Hh K G ms h H) {p : Addr} {xs : List D} {vs : List V} {F : Hp} (hp : G.2 p = some (.lst vs)) (hF : ∀ a u, F a = some u → a ≠ p ∧ G.2 a = some u) (hx : IsL K G ms xs vs) (hz : xs.length ≤ sizeLine) : Hh K (G.1, F) (ms ++ [p]) (h ++ [.lst xs]) H := by
  obtain ⟨g0, m1⟩ := x.frd p _ hp
  have m0 : p ∉ ms := fun z => by obtain ⟨od, u, w⟩ := m1 z; cases w
  have pp : ms <+: ms ++ [p] := ⟨[p], rfl⟩
  refine ⟨x.sub, x.gsz, fun a u e => x.frm a u (hF a u e).2, fun a u e => ⟨(x.frd a u (hF a u e).2).1, fun hm => ?_⟩, by simp [x.len], ?_, fun a ha => ?_, fun n a u e1 e2 => ?_⟩
  · rcases List.mem_append.mp hm with q | q
    · exact (x.frd a u (hF a u e).2).2 q
    · exact absurd (by simpa using q) (hF a u e).1
  · refine List.nodup_append.mpr ⟨x.nd, by simp, fun a ha b hb => ?_⟩
    have : b = p := by simpa using hb
    subst this
    exact fun z => m0 (by rw [← z]; exact ha)
  · rcases List.mem_append.mp ha with q | q
    · exact x.dis a q
    · have : a = p := by simpa using q
      subst this; exact g0
  · by_cases hn : n < ms.length
    · rw [List.getElem?_append_left hn] at e1
      rw [List.getElem?_append_left (by rw [← x.len]; exact hn)] at e2
      exact ObjIs.mono' (G := G) (q := x.obj n a u e1 e2) (e := Same.refl G.1) (p := pp) (hh := rfl)
    · have hn' : n = ms.length := by
        have hl : n < (ms ++ [p]).length := by
          rcases Nat.lt_or_ge n (ms ++ [p]).length with q | q
          · exact q
          · rw [List.getElem?_eq_none q] at e1; cases e1
        simp at hl; omega
      subst hn'
      simp at e1
      rw [x.len] at e2
      simp at e2
      subst e1 e2
      exact ⟨vs, x.frm _ _ hp, IsL.mono' (G := G) (G' := (G.1, F)) (Same.refl G.1) pp _ _ hx, hz⟩
end
end WD
namespace WD
open PySem PySem.Spec PyProof.Rows L2

inductive R (α : Type) where
  | ok (a : α) (h : Hs)
  | err (x : Xn) (h : Hs)
  | bad
def R.bind {α β : Type} (r : R α) (k : α → Hs → R β) : R β := match r with
  | .ok a h => k a h
  | .err x h => .err x h
  | .bad => .bad
@[simp] theorem R.bind_ok {α β : Type} (a : α) (h : Hs) (k : α → Hs → R β) : (R.ok a h).bind k = k a h := rfl
@[simp] theorem R.bind_err {α β : Type} (x : Xn) (h : Hs) (k : α → Hs → R β) : (R.err x h).bind k = .err x h := rfl
@[simp] theorem R.bind_bad {α β : Type} (k : α → Hs → R β) : (R.bad : R α).bind k = .bad := rfl
abbrev Ss : Type := List (Option D)
abbrev FE : Type := Ss → Hs → R D
abbrev FA : Type := Ss → Hs → R (List D)
abbrev FT : Type := Ss → Hs → R Bool
inductive RS where
  | nx (s : Ss) (h : Hs)
  | rt (d : D) (h : Hs)
  | bk (s : Ss) (h : Hs)
  | ct (s : Ss) (h : Hs)
  | er (x : Xn) (s : Ss) (h : Hs)
  | bad
abbrev FS : Type := Ss → Hs → RS

def clsV (mg : Str → Option Value) (x : Xn) : Value := (mg x.name).getD .none
/-- the error's own dict -/
def XIs (K : PySem.W.Frag) (G : GG) (ms : List Addr) (H : Hp) (x : Xn) (d : Option Addr) : Prop :=
  match x.val with
  | none => d = none
  | some (f, e) => ∃ a v, d = some a ∧ G.1 a = some (.xd [(f, v)]) ∧ Is K G ms e v
/-- a pinned slot; an error's dict that stays -/
inductive Pn where
  | s (i : Nat) (v : V)
  | g (dd : Addr) (f : Str) (e : D)
def PnOk (K : PySem.W.Frag) (G : GG) (ms : List Addr) (σ : L2.St) : Pn → Prop
  | .s i v => σ[i]? = some (some v)
  | .g dd f e => ∃ v, G.1 dd = some (.xd [(f, v)]) ∧ Is K G ms e v
section
variable (X : Cx) (W : WX)
/-- what is wanted behind a step -/
def Post {α β : Type} (K : PySem.W.Frag) (mg : Str → Option Value) (E : XK) (G : GG) (ms : List Addr) (I : GG → List Addr → α → β → Prop) (r : R α) (Q : β → Hp → Prop) : Prop :=
  match r with
  | .ok a h' => ∀ b H' G' ms', GLe G G' → ms <+: ms' → Hh K G' ms' h' H' → I G' ms' a b → Q b H'
  | .err x h' => ∀ H' G' ms' d, GLe G G' → ms <+: ms' → Hh K G' ms' h' H' → XIs K G' ms' H' x d → E (clsV mg x) d H'
  | .bad => False
/-- the slots -/
structure Sl (K : PySem.W.Frag) (G : GG) (ms : List Addr) (pin : List Pn) (s : Ss) (σ : L2.St) : Prop where
  len : s.length = σ.length
  get : ∀ (i : Nat) (d : D), s[i]? = some (some d) → ∃ v, σ[i]? = some (some v) ∧ Is K G ms d v
  pin : ∀ p ∈ pin, PnOk K G ms σ p
def rdE (pin : List Pn) (f : FE) : TE := fun σ H Q => ∃ G ms s h, Hh X.K G ms h H ∧ Sl X.K G ms pin s σ ∧ Post X.K X.mg (fun c d H => W c d σ H) G ms (Is X.K) (f s h) Q
def rdA (pin : List Pn) (f : FA) : TA := fun σ H Q => ∃ G ms s h, Hh X.K G ms h H ∧ Sl X.K G ms pin s σ ∧ Post X.K X.mg (fun c d H => W c d σ H) G ms (IsL X.K) (f s h) Q
def rdT (pin : List Pn) (f : FT) : TT := fun σ H Q => ∃ G ms s h, Hh X.K G ms h H ∧ Sl X.K G ms pin s σ ∧ Post X.K X.mg (fun c d H => W c d σ H) G ms (fun _ _ (a b : Bool) => a = b) (f s h) Q
def PostS (K : PySem.W.Frag) (mg : Str → Option Value) (pin : List Pn) (σ : L2.St) (G : GG) (ms : List Addr) (r : RS) (D : Ends) : Prop :=
  match r with
  | .nx s' h' => ∀ σ' H' G' ms', GLe G G' → ms <+: ms' → Hh K G' ms' h' H' → Sl K G' ms' pin s' σ' → D.nx σ' H'
  | .rt d h' => ∀ v H' G' ms', GLe G G' → ms <+: ms' → Hh K G' ms' h' H' → Is K G' ms' d v → D.rt v H'
  | .bk s' h' => ∀ σ' H' G' ms', GLe G G' → ms <+: ms' → Hh K G' ms' h' H' → Sl K G' ms' pin s' σ' → D.bk σ' H'
  | .ct s' h' => ∀ σ' H' G' ms', GLe G G' → ms <+: ms' → Hh K G' ms' h' H' → Sl K G' ms' pin s' σ' → D.ct σ' H'
  | .er x s' h' => ∀ σ' H' G' ms' d, GLe G G' → ms <+: ms' → Hh K G' ms' h' H' → Sl K G' ms' pin s' σ' → XIs K G' ms' H' x d → W (clsV mg x) d σ' H'
  | .bad => False
def rdS (pin : List Pn) (f : FS) : TS := fun D σ H => ∃ G ms s h, Hh X.K G ms h H ∧ Sl X.K G ms pin s σ ∧ PostS W X.K X.mg pin σ G ms (f s h) D
end
/-- the judgements -/
abbrev VE (X : Cx) (W : WX) (pin : List Pn) (e : Expr) (f : FE) : Prop := PE X e (rdE X W pin f)
abbrev VT (X : Cx) (W : WX) (pin : List Pn) (e : Expr) (f : FT) : Prop := PT X e (rdT X W pin f)
abbrev VW (X : Cx) (W : WX) (pin : List Pn) (e : Expr) (f : FT) : Prop := PW X e (rdT X W pin f)
abbrev VA (X : Cx) (W : WX) (pin : List Pn) (es : List Expr) (f : FA) : Prop := PA X es (rdA X W pin f)
abbrev VS (X : Cx) (W : WX) (pin : List Pn) (st : Stmt) (f : FS) : Prop := PS X st (rdS X W pin f)
abbrev VSs (X : Cx) (W : WX) (pin : List Pn) (st : List Stmt) (f : FS) : Prop := PSs X st (rdS X W pin f)
/-- weaker readings -/
theorem pe_imp {X : Cx} {e : Expr} {t t' : TE} (h : PE X e t) (q : ∀ σ H Q, t' σ H Q → t σ H Q) : PE X e t' := ⟨fun pins s σ H Q I w => h.run pins s σ H Q I (q _ _ _ w)⟩
theorem pt_imp {X : Cx} {e : Expr} {t t' : TT} (h : PT X e t) (q : ∀ σ H Q, t' σ H Q → t σ H Q) : PT X e t' := ⟨fun pins s σ H Q I w => h.run pins s σ H Q I (q _ _ _ w)⟩
theorem pw_imp {X : Cx} {e : Expr} {t t' : TT} (h : PW X e t) (q : ∀ σ H Q, t' σ H Q → t σ H Q) : PW X e t' := ⟨fun wh pins s σ H Q I w => h.run wh pins s σ H Q I (q _ _ _ w)⟩
theorem pa_imp {X : Cx} {e : List Expr} {t t' : TA} (h : PA X e t) (q : ∀ σ H Q, t' σ H Q → t σ H Q) : PA X e t' := ⟨fun pos pins s σ H Q I w => h.run pos pins s σ H Q I (q _ _ _ w)⟩
theorem ps_imp {X : Cx} {e : Stmt} {t t' : TS} (h : PS X e t) (q : ∀ D σ H, t' D σ H → t D σ H) : PS X e t' := ⟨fun pins s σ H D I w => h.run pins s σ H D I (q _ _ _ w)⟩
theorem pss_imp {X : Cx} {e : List Stmt} {t t' : TS} (h : PSs X e t) (q : ∀ D σ H, t' D σ H → t D σ H) : PSs X e t' := ⟨fun pins s σ H D I w => h.run pins s σ H D I (q _ _ _ w)⟩

section
variable {X : Cx} {W : WX} {pin : List Pn} {K : PySem.W.Frag} {mg : Str → Option Value} {E : XK} {G G' : GG} {ms ms' : List Addr}
theorem PnOk.mono' {σ : L2.St} (e : Same G.1 G'.1) (p : ms <+: ms') : ∀ {z : Pn}, PnOk K G ms σ z → PnOk K G' ms' σ z
  | .s _ _, h => h
  | .g _ _ _, h => by obtain ⟨v, h1, h2⟩ := h; exact ⟨v, e _ _ h1, Is.mono' e p _ _ h2⟩
theorem Sl.mono {s : Ss} {σ : L2.St} (x : Sl K G ms pin s σ) (e : GLe G G') (p : ms <+: ms') : Sl K G' ms' pin s σ :=
  ⟨x.len, fun i d q => by obtain ⟨v, h1, h2⟩ := x.get i d q; exact ⟨v, h1, Is.mono e p d v h2⟩, fun z hz => (x.pin z hz).mono' e.le p⟩
theorem pre_trans {a b c : List Addr} (h : a <+: b) (q : b <+: c) : a <+: c := List.IsPrefix.trans h q
theorem Post.mono {α β : Type} {I : GG → List Addr → α → β → Prop} {r : R α} {Q : β → Hp → Prop} (x : Post K mg E G ms I r Q) (e : GLe G G') (p : ms <+: ms') : Post K mg E G' ms' I r Q := by
  cases r with
  | ok a h' => exact fun b H' G2 ms2 h1 h2 => x b H' G2 ms2 (e.trans h1) (pre_trans p h2)
  | err y h' => exact fun H' G2 ms2 d h1 h2 => x H' G2 ms2 d (e.trans h1) (pre_trans p h2)
  | bad => exact x
theorem Post.imp {α β : Type} {I : GG → List Addr → α → β → Prop} {r : R α} {Q Q' : β → Hp → Prop} (x : Post K mg E G ms I r Q) (f : ∀ b H, Q b H → Q' b H) : Post K mg E G ms I r Q' := by
  cases r with
  | ok a h' => exact fun b H' G2 ms2 h1 h2 h3 h4 => f _ _ (x b H' G2 ms2 h1 h2 h3 h4)
  | err y h' => exact x
  | bad => exact x
/-- one step, then another: the second starts where the first has come to -/
theorem Post.bind {α β γ δ : Type} {I : GG → List Addr → α → γ → Prop} {J : GG → List Addr → β → δ → Prop} {r : R α} {k : α → Hs → R β} {Q : δ → Hp → Prop} {Q' : γ → Hp → Prop}
    (x : Post K mg E G ms J (r.bind k) Q)
    (f : ∀ a h1 b H1 G1 ms1, GLe G G1 → ms <+: ms1 → Hh K G1 ms1 h1 H1 → I G1 ms1 a b → Post K mg E G1 ms1 J (k a h1) Q → Q' b H1) : Post K mg E G ms I r Q' := by
  cases r with
  | ok a h' => exact fun b H' G2 ms2 h1 h2 h3 h4 => f a h' b H' G2 ms2 h1 h2 h3 h4 (Post.mono (r := k a h') x h1 h2)
  | err y h' => exact x
  | bad => exact x
theorem Post.fin {α β : Type} {I : GG → List Addr → α → β → Prop} {a : α} {b : β} {h : Hs} {H : Hp} {Q : β → Hp → Prop} (x : Post K mg E G ms I (.ok a h) Q) (hh : Hh K G ms h H) (q : I G ms a b) : Q b H :=
  x b H G ms (GLe.refl _) (pre_refl _) hh q
theorem Post.fin2 {α β : Type} {I : GG → List Addr → α → β → Prop} {a : α} {b : β} {h : Hs} {H : Hp} {Q : β → Hp → Prop} (x : Post K mg E G ms I (.ok a h) Q) (e : GLe G G') (p : ms <+: ms') (hh : Hh K G' ms' h H) (q : I G' ms' a b) : Q b H :=
  x b H G' ms' e p hh q

def eVar (i : Nat) : FE := fun s h => match s[i]? with
  | some (some d) => .ok d h
  | _ => .bad
theorem ve_var (i : Nat) {x : Str} {pos : Pos} (hN : X.N[i]? = some x := by rfl) (hv : Vis X.env.scope x := by first | exact Or.inl rfl | exact Or.inr (Or.inl rfl) | exact Or.inr (Or.inr rfl)) (hd : (x == ("__debug__" : Str)) = false := by decide)
    (hcd : (x == ("__classdict__" : Str)) = false := by decide) : VE X W pin (.Name x pos) (eVar i) := by
  refine pe_imp (pe_var hN hv hd hcd) fun σ H Q ⟨G, ms, s, h, hh, sl, q⟩ => ?_
  unfold eVar at q
  split at q
  · rename_i d e
    obtain ⟨v, e1, e2⟩ := sl.get i d e
    exact ⟨v, e1, q.fin hh e2⟩
  · exact q.elim
def eC (d : D) : FE := fun _ h => .ok d h
theorem ve_int {i : Int} {j : Nat} {pos : Pos} : VE X W pin (.Constant (.int i) j pos) (eC (.int i)) := pe_imp pe_int fun σ H Q ⟨G, ms, s, h, hh, sl, q⟩ => Post.fin (b := V.int i) q hh rfl
theorem ve_bl {i : Bool} {j : Nat} {pos : Pos} : VE X W pin (.Constant (.bool i) j pos) (eC (.bl i)) := pe_imp pe_bl fun σ H Q ⟨G, ms, s, h, hh, sl, q⟩ => Post.fin (b := V.bl i) q hh rfl
theorem ve_str {i : Str} {j : Nat} {pos : Pos} : VE X W pin (.Constant (.str i) j pos) (eC (.str i)) := pe_imp pe_str fun σ H Q ⟨G, ms, s, h, hh, sl, q⟩ => Post.fin (b := V.str i) q hh rfl
theorem ve_non {j : Nat} {pos : Pos} : VE X W pin (.Constant .none j pos) (eC .non) := pe_imp pe_non fun σ H Q ⟨G, ms, s, h, hh, sl, q⟩ => Post.fin (b := V.non) q hh rfl
/-- a constant of the module, an int -/
theorem ve_globI {x : Str} {i : Int} {t : Tok} {pos : Pos} (hg : Gl X x) (hm : X.mg x = some (.int i t)) (hd : (x == ("__debug__" : Str)) = false := by decide) : VE X W pin (.Name x pos) (eC (.int i)) :=
  pe_imp (pe_glob (v := .int i) hg hm ⟨t, rfl⟩ hd) fun σ H Q ⟨G, ms, s, h, hh, sl, q⟩ => Post.fin (b := V.int i) q hh rfl

def aNil : FA := fun _ h => .ok [] h
def aCons (f : FE) (r : FA) : FA := fun s h => (f s h).bind fun d h1 => (r s h1).bind fun ds h2 => .ok (d :: ds) h2
theorem va_nil : VA X W pin [] aNil := pa_imp pa_nil fun σ H Q ⟨G, ms, s, h, hh, sl, q⟩ => Post.fin (b := ([] : List V)) q hh rfl
theorem va_cons {e : Expr} {es : List Expr} {f : FE} {r : FA} (h1 : VE X W pin e f) (h2 : VA X W pin es r) (hs : starEach (e :: es) X.env = (false, eval e X.env) :: starEach es X.env := by rfl) : VA X W pin (e :: es) (aCons f r) := by
  refine pa_imp (pa_cons h1 h2 hs) fun σ H Q ⟨G, ms, s, h, hh, sl, q⟩ => ?_
  refine ⟨G, ms, s, h, hh, sl, q.bind fun d h1 v H1 G1 ms1 e1 p1 hh1 i1 q1 => ?_⟩
  refine ⟨G1, ms1, s, h1, hh1, sl.mono e1 p1, q1.bind fun ds h2 vs H2 G2 ms2 e2 p2 hh2 i2 q2 => ?_⟩
  exact q2.fin hh2 ⟨v, vs, rfl, Is.mono e2 p2 _ _ i1, i2⟩

def rd2 (K : PySem.W.Frag) (g : D → D → Hs → R D) : R2 := fun x y H Q => ∃ G ms h a b, Hh K G ms h H ∧ Is K G ms a x ∧ Is K G ms b y ∧ Post K (fun _ => none) (fun _ _ _ => False) G ms (Is K) (g a b h) Q
def OpD (X : Cx) (f : Value → Value → Sem Value) (g : D → D → Hs → R D) : Prop := OpR X f (rd2 X.K g)
/-- an operation gives no error -/
def calm2 (g : D → D → Hs → R D) : D → D → Hs → R D := fun a b h => match g a b h with
  | .ok d h' => .ok d h'
  | _ => .bad
def eBin (g : D → D → Hs → R D) (fa fb : FE) : FE := fun s h => (fa s h).bind fun a h1 => (fb s h1).bind fun b h2 => calm2 g a b h2
theorem calm_post {g : D → D → Hs → R D} {a b : D} {h : Hs} {Q : VK} (q : Post K mg E G ms (Is K) (calm2 g a b h) Q) : Post K (fun _ => none) (fun _ _ _ => False) G ms (Is K) (g a b h) Q := by
  unfold calm2 at q
  cases e : g a b h with
  | ok d h' => rw [e] at q; exact q
  | err x h' => rw [e] at q; exact q.elim
  | bad => rw [e] at q; exact q.elim
theorem op_read {g : D → D → Hs → R D} {fa fb : FE} {σ : L2.St} {H : Hp} {Q : VK} (h : rdE X W pin (eBin g fa fb) σ H Q) : tOp (rd2 X.K g) (rdE X W pin fa) (rdE X W pin fb) σ H Q := by
  obtain ⟨G, ms, s, h, hh, sl, q⟩ := h
  refine ⟨G, ms, s, h, hh, sl, q.bind fun a h1 x H1 G1 ms1 e1 p1 hh1 i1 q1 => ?_⟩
  refine ⟨G1, ms1, s, h1, hh1, sl.mono e1 p1, q1.bind fun b h2 y H2 G2 ms2 e2 p2 hh2 i2 q2 => ?_⟩
  exact ⟨G2, ms2, h2, a, b, hh2, Is.mono e2 p2 _ _ i1, i2, calm_post q2⟩
theorem ve_bin {op : Operator} {g : D → D → Hs → R D} {a b : Expr} {fa fb : FE} {pos : Pos} (ho : OpD X (binaryOp op) g) (ha : VE X W pin a fa) (hb : VE X W pin b fb) : VE X W pin (.BinOp a op b pos) (eBin g fa fb) :=
  pe_imp (pe_op ho ha hb) fun _ _ _ h => op_read h
theorem ve_cmp {op : CmpOp} {g : D → D → Hs → R D} {a b : Expr} {fa fb : FE} {pos : Pos} (ho : OpD X (compareOp op) g) (ha : VE X W pin a fa) (hb : VE X W pin b fb) (hm : behindInMarks op b = false := by first | exact nomark _ | rfl) : VE X W pin (.Compare a [op] [b] pos) (eBin g fa fb) :=
  pe_imp (pe_cmpR ho ha hb hm) fun _ _ _ h => op_read h
/-- a truth -/
def truth (r : R D) : R Bool := r.bind fun d h => match d with
  | .bl b => .ok b h
  | _ => .bad
def tV (f : FE) : FT := fun s h => truth (f s h)
theorem test_read {f : FE} {σ : L2.St} {H : Hp} {Q : Bool → Hp → Prop} (h : rdT X W pin (tV f) σ H Q) : rdE X W pin f σ H fun x H' => ∃ k, x = .bl k ∧ Q k H' := by
  obtain ⟨G, ms, s, h, hh, sl, q⟩ := h
  refine ⟨G, ms, s, h, hh, sl, Post.bind q fun a h1 x H1 G1 ms1 e1 p1 hh1 i1 q1 => ?_⟩
  cases a with
  | bl b => cases i1; exact ⟨b, rfl, q1.fin hh1 rfl⟩
  | _ => exact q1.elim
theorem vt_val {e : Expr} {f : FE} (h : VE X W pin e f) (he : ∀ whole, isTrue e X.env whole = (do let v ← whole; standAt e.pos; holding [v] (truthy v)) := by intro _; rfl) : VT X W pin e (tV f) :=
  pt_imp (pt_val h he) fun _ _ _ h => test_read h
theorem vt_cmp {op : CmpOp} {g : D → D → Hs → R D} {a b : Expr} {fa fb : FE} {pos : Pos} (ho : OpD X (compareOp op) g) (ha : VE X W pin a fa) (hb : VE X W pin b fb) (hm : behindInMarks op b = false := by first | exact nomark _ | rfl) : VT X W pin (.Compare a [op] [b] pos) (tV (eBin g fa fb)) := by
  refine pt_imp (pt_cmpR ho ha hb hm) fun σ H Q h => ?_
  exact op_read (test_read h)
end
end WD
namespace WD
open PySem PySem.Spec PyProof.Rows L2
section
variable {X : Cx} {W : WX} {pin : List Pn} {K : PySem.W.Frag} {mg : Str → Option Value} {E : XK} {G G' : GG} {ms ms' : List Addr} {pos : Pos} {a b c : Expr} {rest : List Expr}
def tNotF (f : FT) : FT := fun s h => (f s h).bind fun b h1 => .ok (!b) h1
def tAndF (f g : FT) : FT := fun s h => (f s h).bind fun b h1 => if b = true then g s h1 else .ok false h1
def tOrF (f g : FT) : FT := fun s h => (f s h).bind fun b h1 => if b = true then .ok true h1 else g s h1
theorem vt_not {f : FT} (h : VT X W pin a f) : VT X W pin (.UnaryOp .Not a pos) (tNotF f) := by
  refine pt_imp (pt_not h) fun σ H Q ⟨G, ms, s, h, hh, sl, q⟩ => ?_
  exact ⟨G, ms, s, h, hh, sl, Post.bind q fun d h1 x H1 G1 ms1 e1 p1 hh1 i1 q1 => q1.fin hh1 (by rw [i1])⟩
theorem vw_and1 {f : FT} (h : VT X W pin a f) : VW X W pin (.BoolOp .And [a] pos) f := pw_and1 h
theorem vw_or1 {f : FT} (h : VT X W pin a f) : VW X W pin (.BoolOp .Or [a] pos) f := pw_or1 h
theorem vw_and {f g : FT} (ha : VT X W pin a f) (hb : VW X W pin (.BoolOp .And (b :: rest) pos) g) : VW X W pin (.BoolOp .And (a :: b :: rest) pos) (tAndF f g) := by
  refine pw_imp (pw_and ha hb) fun σ H Q ⟨G, ms, s, h, hh, sl, q⟩ => ?_
  refine ⟨G, ms, s, h, hh, sl, Post.bind q fun d h1 x H1 G1 ms1 e1 p1 hh1 i1 q1 => ?_⟩
  subst i1
  cases d with
  | true => exact ⟨G1, ms1, s, h1, hh1, sl.mono e1 p1, q1⟩
  | false => exact q1.fin hh1 rfl
theorem vw_or {f g : FT} (ha : VT X W pin a f) (hb : VW X W pin (.BoolOp .Or (b :: rest) pos) g) : VW X W pin (.BoolOp .Or (a :: b :: rest) pos) (tOrF f g) := by
  refine pw_imp (pw_or ha hb) fun σ H Q ⟨G, ms, s, h, hh, sl, q⟩ => ?_
  refine ⟨G, ms, s, h, hh, sl, Post.bind q fun d h1 x H1 G1 ms1 e1 p1 hh1 i1 q1 => ?_⟩
  subst i1
  cases d with
  | false => exact ⟨G1, ms1, s, h1, hh1, sl.mono e1 p1, q1⟩
  | true => exact q1.fin hh1 rfl
theorem vt_w {e : Expr} {f : FT} (h : VW X W pin e f) : VT X W pin e f := PW.pt h
/-- .. as values -/
def eAndF (fa fb : FE) : FE := fun s h => (truth (fa s h)).bind fun k h1 => if k = true then fb s h1 else .ok (.bl false) h1
def eOrF (fa fb : FE) : FE := fun s h => (truth (fa s h)).bind fun k h1 => if k = true then .ok (.bl true) h1 else fb s h1
def eNotF (fa : FE) : FE := fun s h => (truth (fa s h)).bind fun k h1 => .ok (.bl (!k)) h1
def eIfF (t : FT) (fa fb : FE) : FE := fun s h => (t s h).bind fun k h1 => if k = true then fa s h1 else fb s h1
theorem Post.truth {r : R D} {β : Type} {γ : Type} {J : GG → List Addr → γ → β → Prop} {k : Bool → Hs → R γ} {Q : β → Hp → Prop} {Q' : VK} (x : Post K mg E G ms J ((truth r).bind k) Q)
    (f : ∀ c h1 H1 G1 ms1, GLe G G1 → ms <+: ms1 → Hh K G1 ms1 h1 H1 → Post K mg E G1 ms1 J (k c h1) Q → Q' (.bl c) H1) : Post K mg E G ms (Is K) r Q' := by
  cases r with
  | ok d h1 =>
    cases d with
    | bl c =>
      intro v H1 G1 ms1 e1 p1 hh1 i1
      cases i1
      exact f c h1 H1 G1 ms1 e1 p1 hh1 (Post.mono (r := k c h1) x e1 p1)
    | _ => exact x.elim
  | err y h1 => exact x
  | bad => exact x
theorem ve_one {op : BoolOp} {f : FE} (h : VE X W pin a f) : VE X W pin (.BoolOp op [a] pos) f := pe_one h
theorem ve_and {fa fb : FE} (ha : VE X W pin a fa) (hb : VE X W pin (.BoolOp .And (b :: rest) pos) fb) : VE X W pin (.BoolOp .And (a :: b :: rest) pos) (eAndF fa fb) := by
  refine pe_imp (pe_and ha hb) fun σ H Q ⟨G, ms, s, h, hh, sl, q⟩ => ?_
  refine ⟨G, ms, s, h, hh, sl, Post.truth q fun c h1 H1 G1 ms1 e1 p1 hh1 q1 => ⟨c, rfl, ?_⟩⟩
  cases c with
  | true => exact ⟨G1, ms1, s, h1, hh1, sl.mono e1 p1, q1⟩
  | false => exact q1.fin hh1 rfl
theorem ve_or {fa fb : FE} (ha : VE X W pin a fa) (hb : VE X W pin (.BoolOp .Or (b :: rest) pos) fb) : VE X W pin (.BoolOp .Or (a :: b :: rest) pos) (eOrF fa fb) := by
  refine pe_imp (pe_or ha hb) fun σ H Q ⟨G, ms, s, h, hh, sl, q⟩ => ?_
  refine ⟨G, ms, s, h, hh, sl, Post.truth q fun c h1 H1 G1 ms1 e1 p1 hh1 q1 => ⟨c, rfl, ?_⟩⟩
  cases c with
  | false => exact ⟨G1, ms1, s, h1, hh1, sl.mono e1 p1, q1⟩
  | true => exact q1.fin hh1 rfl
theorem ve_not {fa : FE} (ha : VE X W pin a fa) : VE X W pin (.UnaryOp .Not a pos) (eNotF fa) := by
  refine pe_imp (pe_not ha) fun σ H Q ⟨G, ms, s, h, hh, sl, q⟩ => ?_
  exact ⟨G, ms, s, h, hh, sl, Post.truth q fun c h1 H1 G1 ms1 e1 p1 hh1 q1 => ⟨c, rfl, q1.fin hh1 rfl⟩⟩
/-- a < b < c -/
def eChain (g g' : D → D → Hs → R D) (fa fb fc : FE) : FE := fun s h => (fa s h).bind fun x h1 => (fb s h1).bind fun y h2 => (truth (calm2 g x y h2)).bind fun k h3 => if k = true then (fc s h3).bind fun z h4 => calm2 g' y z h4 else .ok (.bl false) h3
theorem chain_read {g g' : D → D → Hs → R D} {fa fb fc : FE} {σ : L2.St} {H : Hp} {Q : VK} (h : rdE X W pin (eChain g g' fa fb fc) σ H Q) : tChain (rd2 X.K g) (rd2 X.K g') (rdE X W pin fa) (rdE X W pin fb) (rdE X W pin fc) σ H Q := by
  obtain ⟨G, ms, s, h, hh, sl, q⟩ := h
  refine ⟨G, ms, s, h, hh, sl, Post.bind q fun x h1 xv H1 G1 ms1 e1 p1 hh1 i1 q1 => ?_⟩
  refine ⟨G1, ms1, s, h1, hh1, sl.mono e1 p1, Post.bind q1 fun y h2 yv H2 G2 ms2 e2 p2 hh2 i2 q2 => ?_⟩
  refine ⟨G2, ms2, h2, x, y, hh2, Is.mono e2 p2 _ _ i1, i2, calm_post (Post.truth q2 fun k h3 H3 G3 ms3 e3 p3 hh3 q3 => ⟨k, rfl, ?_⟩)⟩
  cases k with
  | false => exact q3.fin hh3 rfl
  | true =>
    refine ⟨G3, ms3, s, h3, hh3, ((sl.mono e1 p1).mono e2 p2).mono e3 p3, Post.bind q3 fun z h4 zv H4 G4 ms4 e4 p4 hh4 i4 q4 => ?_⟩
    exact ⟨G4, ms4, h4, y, z, hh4, Is.mono (e3.trans e4) (pre_trans p3 p4) _ _ i2, i4, calm_post q4⟩
theorem ve_chain {op op' : CmpOp} {g g' : D → D → Hs → R D} {fa fb fc : FE} (ho : OpD X (compareOp op) g) (ho' : OpD X (compareOp op') g') (ha : VE X W pin a fa) (hb : VE X W pin b fb) (hc : VE X W pin c fc)
    (hm : lastMarks [op, op'] [b, c] = false := by with_unfolding_all rfl) : VE X W pin (.Compare a [op, op'] [b, c] pos) (eChain g g' fa fb fc) :=
  pe_imp (pe_chain ho ho' ha hb hc hm) fun _ _ _ h => chain_read h
theorem vt_chain {op op' : CmpOp} {g g' : D → D → Hs → R D} {fa fb fc : FE} (ho : OpD X (compareOp op) g) (ho' : OpD X (compareOp op') g') (ha : VE X W pin a fa) (hb : VE X W pin b fb) (hc : VE X W pin c fc)
    (hm : lastMarks [op, op'] [b, c] = false := by with_unfolding_all rfl) : VT X W pin (.Compare a [op, op'] [b, c] pos) (tV (eChain g g' fa fb fc)) :=
  pt_imp (pt_chain ho ho' ha hb hc hm) fun _ _ _ h => chain_read (test_read h)

def RS.ofR (s : Ss) (r : R D) (k : D → Hs → RS) : RS := match r with
  | .ok d h => k d h
  | .err x h => .er x s h
  | .bad => .bad
@[simp] theorem RS.ofR_ok (s : Ss) (d : D) (h : Hs) (k : D → Hs → RS) : RS.ofR s (.ok d h) k = k d h := rfl
@[simp] theorem RS.ofR_err (s : Ss) (x : Xn) (h : Hs) (k : D → Hs → RS) : RS.ofR s (.err x h) k = .er x s h := rfl
@[simp] theorem RS.ofR_bad (s : Ss) (k : D → Hs → RS) : RS.ofR s .bad k = .bad := rfl
def sNext : FS := fun s h => .nx s h
def sSeq (f g : FS) : FS := fun s h => match f s h with
  | .nx s' h' => g s' h'
  | r => r
def sIf (t : FT) (f g : FS) : FS := fun s h => match t s h with
  | .ok k h1 => if k = true then f s h1 else g s h1
  | .err x h1 => .er x s h1
  | .bad => .bad
def sSet (i : Nat) (f : FE) : FS := fun s h => RS.ofR s (f s h) fun d h1 => .nx (s.set i (some d)) h1
def sRet (f : FE) : FS := fun s h => RS.ofR s (f s h) fun d h1 => .rt d h1
def sExpr (f : FE) : FS := fun s h => RS.ofR s (f s h) fun _ h1 => .nx s h1
def sBreak : FS := fun s h => .bk s h
def sCont : FS := fun s h => .ct s h
theorem PostS.mono {σ σ' : L2.St} {r : RS} {D : Ends} (x : PostS W K mg pin σ G ms r D) (e : GLe G G') (p : ms <+: ms') : PostS W K mg pin σ' G' ms' r D := by
  cases r with
  | nx s h => exact fun σ' H' G2 ms2 h1 h2 => x σ' H' G2 ms2 (e.trans h1) (pre_trans p h2)
  | rt d h => exact fun v H' G2 ms2 h1 h2 => x v H' G2 ms2 (e.trans h1) (pre_trans p h2)
  | bk s h => exact fun σ' H' G2 ms2 h1 h2 => x σ' H' G2 ms2 (e.trans h1) (pre_trans p h2)
  | ct s h => exact fun σ' H' G2 ms2 h1 h2 => x σ' H' G2 ms2 (e.trans h1) (pre_trans p h2)
  | er y s h => exact fun σ' H' G2 ms2 d h1 h2 => x σ' H' G2 ms2 d (e.trans h1) (pre_trans p h2)
  | bad => exact x
/-- an expression, then a statement's end -/
theorem PostS.ofR {σ : L2.St} {s : Ss} {r : R D} {k : D → Hs → RS} {D0 : Ends} {Q' : VK} (sl : Sl K G ms pin s σ) (x : PostS W K mg pin σ G ms (RS.ofR s r k) D0)
    (f : ∀ d h1 v H1 G1 ms1, GLe G G1 → ms <+: ms1 → Hh K G1 ms1 h1 H1 → Is K G1 ms1 d v → PostS W K mg pin σ G1 ms1 (k d h1) D0 → Q' v H1) : Post K mg (fun c d H => W c d σ H) G ms (Is K) r Q' := by
  cases r with
  | ok d h' => exact fun v H' G2 ms2 h1 h2 h3 h4 => f d h' v H' G2 ms2 h1 h2 h3 h4 (PostS.mono (r := k d h') x h1 h2)
  | err y h' => exact fun H' G2 ms2 d h1 h2 h3 h4 => x σ H' G2 ms2 d h1 h2 h3 (sl.mono h1 h2) h4
  | bad => exact x
theorem vss_nil : VSs X W pin [] sNext := pss_imp pss_nil fun D σ H ⟨G, ms, s, h, hh, sl, q⟩ => q σ H G ms (GLe.refl _) (pre_refl _) hh sl
theorem vss_one {st : Stmt} {f : FS} (h : VS X W pin st f) : VSs X W pin [st] f := pss_one h
theorem vss_cons {st : Stmt} {r : List Stmt} {f g : FS} (h1 : VS X W pin st f) (h2 : VSs X W pin r g) : VSs X W pin (st :: r) (sSeq f g) := by
  refine pss_imp (pss_cons h1 h2) fun D σ H ⟨G, ms, s, h, hh, sl, q⟩ => ⟨G, ms, s, h, hh, sl, ?_⟩
  unfold sSeq at q
  cases e : f s h with
  | nx s' h' =>
    rw [e] at q
    exact fun σ' H' G2 ms2 h1 h2 h3 h4 => ⟨G2, ms2, s', h', h3, h4, PostS.mono (r := g s' h') q h1 h2⟩
  | rt d h' => rw [e] at q; exact q
  | bk s' h' => rw [e] at q; exact q
  | ct s' h' => rw [e] at q; exact q
  | er y s' h' => rw [e] at q; exact q
  | bad => rw [e] at q; exact q
theorem vs_expr {e : Expr} {f : FE} (he : VE X W pin e f) (hs : swapsWith e none pos.line X.env = pure false := by rfl) : VS X W pin (.Expr e pos) (sExpr f) := by
  refine ps_imp (ps_expr he hs) fun D σ H ⟨G, ms, s, h, hh, sl, q⟩ => ⟨G, ms, s, h, hh, sl, PostS.ofR sl q fun d h1 v H1 G1 ms1 e1 p1 hh1 i1 q1 => ?_⟩
  exact q1 σ H1 G1 ms1 (GLe.refl _) (pre_refl _) hh1 (sl.mono e1 p1)
theorem vs_ret {e : Expr} {f : FE} (he : VE X W pin e f) : VS X W pin (.Return (some e) pos) (sRet f) := by
  refine ps_imp (ps_ret he) fun D σ H ⟨G, ms, s, h, hh, sl, q⟩ => ⟨G, ms, s, h, hh, sl, PostS.ofR sl q fun d h1 v H1 G1 ms1 e1 p1 hh1 i1 q1 => ?_⟩
  exact q1 v H1 G1 ms1 (GLe.refl _) (pre_refl _) hh1 i1
theorem vs_if {ya na : List Stmt} {t : FT} {f g : FS} (hc : VT X W pin c t) (ha : VSs X W pin ya f) (hb : VSs X W pin na g) : VS X W pin (.If c ya na pos) (sIf t f g) := by
  refine ps_imp (ps_if hc ha hb) fun D σ H ⟨G, ms, s, h, hh, sl, q⟩ => ⟨G, ms, s, h, hh, sl, ?_⟩
  unfold sIf at q
  cases e : t s h with
  | ok k h1 =>
    rw [e] at q
    intro b H1 G1 ms1 e1 p1 hh1 i1
    subst i1
    cases k with
    | true => exact ⟨G1, ms1, s, h1, hh1, sl.mono e1 p1, PostS.mono (r := f s h1) q e1 p1⟩
    | false => exact ⟨G1, ms1, s, h1, hh1, sl.mono e1 p1, PostS.mono (r := g s h1) q e1 p1⟩
  | err y h1 =>
    rw [e] at q
    exact fun H' G2 ms2 d h1 h2 h3 h4 => q σ H' G2 ms2 d h1 h2 h3 (sl.mono h1 h2) h4
  | bad => rw [e] at q; exact q
/-- free of the pinned slots -/
def Pn.not (i : Nat) : Pn → Prop
  | .s j _ => j ≠ i
  | .g _ _ _ => True
def NotPin (pin : List Pn) (i : Nat) : Prop := ∀ p ∈ pin, p.not i
theorem PnOk.set {σ : L2.St} {i : Nat} {o : Option V} : ∀ {z : Pn}, z.not i → PnOk K G ms σ z → PnOk K G ms (σ.set i o) z
  | .s j v, np, h => by
    show (σ.set i o)[j]? = some (some v)
    rw [List.getElem?_set_ne (Ne.symm np)]; exact h
  | .g _ _ _, _, h => h
theorem notPin_nil {i : Nat} : NotPin [] i := fun _ h => nomatch h
theorem Sl.set {s : Ss} {σ : L2.St} {i : Nat} {d : D} {v : V} (x : Sl K G ms pin s σ) (q : Is K G ms d v) (np : NotPin pin i) : Sl K G ms pin (s.set i (some d)) (σ.set i (some v)) := by
  refine ⟨by simp [x.len], fun j d' e => ?_, fun p hp => ?_⟩
  · by_cases hj : j = i
    · subst hj
      have hl : j < s.length := by
        rcases Nat.lt_or_ge j s.length with z | z
        · exact z
        · rw [List.getElem?_eq_none (by simpa using z)] at e; cases e
      rw [List.getElem?_set_self hl] at e
      cases e
      exact ⟨v, List.getElem?_set_self (by rw [← x.len]; exact hl), q⟩
    · rw [List.getElem?_set_ne (Ne.symm hj)] at e ⊢
      exact x.get j d' e
  · exact (x.pin p hp).set (np p hp)
theorem vs_set (i : Nat) {x : Str} {e : Expr} {f : FE} {pos' : Pos} (hN : X.N.Nodup) (he : VE X W pin e f) (hi : X.N[i]? = some x := by rfl) (hx : Loc X.env.scope x := by first | exact Or.inl rfl | exact Or.inr rfl) (np : NotPin pin i := by first | exact notPin_nil | decide)
    (hs : swapsWith e (some (.Name x pos')) pos.line X.env = pure false := by rfl) (hf : X.fn x = true ∨ X.env.scope.names.lookup x = some .local := by first | exact .inl rfl | exact .inr rfl | assumption) : VS X W pin (.Assign [.Name x pos'] e pos) (sSet i f) := by
  refine ps_imp (ps_set hN hi hx he hs hf) fun D σ H ⟨G, ms, s, h, hh, sl, q⟩ => ⟨G, ms, s, h, hh, sl, PostS.ofR sl q fun d h1 v H1 G1 ms1 e1 p1 hh1 i1 q1 => ?_⟩
  exact q1 _ H1 G1 ms1 (GLe.refl _) (pre_refl _) hh1 ((sl.mono e1 p1).set i1 np)
end
end WD
namespace L2
open PySem PySem.Spec PyProof.Rows
set_option maxHeartbeats 400000 in
theorem tuple_mulS (l : Addr) (items : Array Value) (n : Nat) (dd : Option Addr) (sl : Array (Option Value)) (x : Int) (u : Tok) (c0 : (decide (x < -(2 ^ 63)) || decide (x ≥ 2 ^ 63)) = false) (c1 : (items.isEmpty || x == 1) = true) :
    Meets (Builtin.«tuple.__mul__» ⟨[.ref l, .int x u], []⟩) (fun _ R s => s.heap.get? l = some { cls := .type "tuple", dict := dd, data := .seq items n, slots := sl } ∧
      R (.ok (.ret (Value.ref l))) s) :=
  .of_wp fun prog w A R s h => by
    obtain ⟨hp, g, d, tk, os⟩ := s
    obtain ⟨hl, h⟩ := h
    have f1 := AutoSeq1.idx_int
    wp_walk using wpAny_loadPart' hl
    repeat (first
      | (refine wpAny_ite_false (decide_eq_false (by rw [c0]; exact Bool.false_ne_true)) ?_; wp_walk using wpAny_loadPart' hl)
      | (refine wpAny_ite_true (decide_eq_true (by rw [c1])) ?_; wp_walk using wpAny_loadPart' hl))
    exact ⟨_, rfl, h⟩
set_option maxHeartbeats 400000 in
theorem tuple_mulZ (l : Addr) (items : Array Value) (n : Nat) (dd : Option Addr) (sl : Array (Option Value)) (x : Int) (u : Tok) (c0 : (decide (x < -(2 ^ 63)) || decide (x ≥ 2 ^ 63)) = false) (c1 : (items.isEmpty || x == 1) = false) (c2 : (decide (x ≤ 0) || items.isEmpty) = true) :
    Meets (Builtin.«tuple.__mul__» ⟨[.ref l, .int x u], []⟩) (fun _ R s => s.heap.get? l = some { cls := .type "tuple", dict := dd, data := .seq items n, slots := sl } ∧
      R (.ok (.ret (Value.ref s.heap.objs.size))) { s with heap := s.heap.push { cls := Value.type "tuple", data := Data.seq #[] }, toks := s.toks }) :=
  .of_wp fun prog w A R s h => by
    obtain ⟨hp, g, d, tk, os⟩ := s
    obtain ⟨hl, h⟩ := h
    have f1 := AutoSeq1.idx_int
    wp_walk using wpAny_loadPart' hl
    repeat (first
      | (refine wpAny_ite_false (decide_eq_false (by rw [c0]; exact Bool.false_ne_true)) ?_; wp_walk using wpAny_loadPart' hl)
      | (refine wpAny_ite_false (decide_eq_false (by rw [c1]; exact Bool.false_ne_true)) ?_; wp_walk using wpAny_loadPart' hl)
      | (refine wpAny_ite_true (decide_eq_true (by rw [c2])) ?_; wp_walk using wpAny_loadPart' hl))
    exact ⟨_, rfl, h⟩
def rRepT2 (K : PySem.W.Frag) : R2 := fun x y H Q => ∃ l k xs, x = .ref l ∧ y = .int k ∧ SqT K H l xs ∧ -(2 ^ 63) ≤ k ∧ k < 2 ^ 63 ∧ xs.length * k.toNat ≤ sizeLine ∧ ((xs = [] ∨ k = 1) → Q (.ref l) H) ∧ (xs ≠ [] → k ≠ 1 → ∀ p, H p = none → Q (.ref p) (upd H p (.tup (List.replicate k.toNat xs).flatten)))
section
variable {X : Cx}
theorem op_repT2 : OpR X (binaryOp .Mult) (rRepT2 X.K) := by
  intro pins s σ H x y v u Q I rx ry h
  obtain ⟨l, k, xs, rfl, rfl, hT, h1, h2, hz, qs, qn⟩ := h
  cases rx
  obtain ⟨t, rfl⟩ := ry
  obtain ⟨its, r, ⟨⟨cls, dd, data, sl⟩, ho, hc, n, hd⟩, hs⟩ := I.tuple hT
  simp only at hc hd
  subst hc hd
  have hle : its.length = xs.length := r.length.symm
  have hsz0 : its.toArray.size = xs.length := by rw [List.size_toArray, hle]
  have c0 : (decide (k < -(2 ^ 63)) || decide (k ≥ 2 ^ 63)) = false := by
    rw [decide_eq_false (by omega), decide_eq_false (by omega)] <;> rfl
  have isE : its.toArray.isEmpty = decide (xs = []) := by
    cases its with
    | nil => 
      have : xs = [] := List.eq_nil_of_length_eq_zero hle.symm
      subst this; rfl
    | cons a b =>
      have : xs ≠ [] := fun e => by subst e; cases hle
      rw [decide_eq_false this]; rfl
  by_cases hsame : xs = [] ∨ k = 1
  · have c1 : (its.toArray.isEmpty || k == 1) = true := by
      rw [isE]
      rcases hsame with e | e
      · rw [decide_eq_true e]; rfl
      · subst e; simp
    refine wpAny_binaryOp_repeat_ref (T := "tuple") (U := "int") (by decide) ⟨_, ho, rfl⟩ (fun s' => typeIs_int s' k t) noFill_tuple_mul F.fills_int_mul F.slot_int_rmul repeat_tuple F.slot_int_index.lookup
      (call_meets F.slot_int_rmul (typeIs_int s k t) F.entry_int_rmul (F.args_int_rmul_2 _ _) (int_rmul_tuple k t l its.toArray n dd sl)
        ⟨ho, rfl, ⟨_, ho, rfl⟩, call_meets F.slot_tuple_mul ⟨_, ho, rfl⟩ F.entry_tuple_mul (F.args_tuple_mul_2 _ _) (tuple_mulS l its.toArray n dd sl k t c0 c1) ⟨ho, ?_⟩⟩)
    exact ⟨.ref l, H, I, rfl, qs hsame⟩
  · have hne : xs ≠ [] := fun e => hsame (.inl e)
    have hk1 : k ≠ 1 := fun e => hsame (.inr e)
    have q := qn hne hk1
    have c1 : (its.toArray.isEmpty || k == 1) = false := by
      rw [isE, decide_eq_false hne, Bool.false_or]
      exact beq_eq_false_iff_ne.mpr hk1
    by_cases hk : k ≤ 0
    · have c2 : (decide (k ≤ 0) || its.toArray.isEmpty) = true := by
        rw [decide_eq_true hk]; rfl
      refine wpAny_binaryOp_repeat_ref (T := "tuple") (U := "int") (by decide) ⟨_, ho, rfl⟩ (fun s' => typeIs_int s' k t) noFill_tuple_mul F.fills_int_mul F.slot_int_rmul repeat_tuple F.slot_int_index.lookup
        (call_meets F.slot_int_rmul (typeIs_int s k t) F.entry_int_rmul (F.args_int_rmul_2 _ _) (int_rmul_tuple k t l its.toArray n dd sl)
          ⟨ho, rfl, ⟨_, ho, rfl⟩, call_meets F.slot_tuple_mul ⟨_, ho, rfl⟩ F.entry_tuple_mul (F.args_tuple_mul_2 _ _) (tuple_mulZ l its.toArray n dd sl k t c0 c1 c2) ⟨ho, ?_⟩⟩)
      have e0 : (List.replicate k.toNat xs).flatten = [] := by rw [Int.toNat_of_nonpos hk]; rfl
      rw [e0] at q
      refine ⟨.ref s.heap.objs.size, _, I.laid (t' := s.toks) (o := .tup []) (fun b ob q => Heap.get?_push_of_some _ q) (Nat.le_refl _) ?_, rfl, q _ (I.hok.fresh (Nat.le_refl _))⟩
      exact ⟨Nat.zero_le _, _, .nil, IsTup.new _ _⟩
    · have hn : its ≠ [] := fun e => by rw [e] at hle; exact hne (List.eq_nil_of_length_eq_zero hle.symm)
      have c2 : (decide (k ≤ 0) || its.toArray.isEmpty) = false := by
        rw [isE, decide_eq_false hne, Bool.or_false]
        exact decide_eq_false hk
      have hm : ((its.toArray.size : Nat) : Int) * k ≤ 16777216 := by
        rw [hsz0]
        have e1 : ((xs.length : Nat) : Int) * k = ((xs.length * k.toNat : Nat) : Int) := by
          rw [Int.natCast_mul, Int.toNat_of_nonneg (by omega)]
        rw [e1]
        have : xs.length * k.toNat ≤ 16777216 := hz
        omega
      have flen : (List.replicate k.toNat its).flatten.length ≤ sizeLine := by
        rw [PyProof.Rows.lm_len_rep_flat, hle, Nat.mul_comm]
        exact hz
      have c4 : Builtin.Tuple.tupleTooMany (((its.toArray.size : Nat) : Int) * k) = false := by
        unfold Builtin.Tuple.tupleTooMany
        rw [sizeLine_eq]
        exact decide_eq_false (by omega)
      refine wpAny_binaryOp_repeat_ref (T := "tuple") (U := "int") (by decide) ⟨_, ho, rfl⟩ (fun s' => typeIs_int s' k t) noFill_tuple_mul F.fills_int_mul F.slot_int_rmul repeat_tuple F.slot_int_index.lookup
        (call_meets F.slot_int_rmul (typeIs_int s k t) F.entry_int_rmul (F.args_int_rmul_2 _ _) (int_rmul_tuple k t l its.toArray n dd sl)
          ⟨ho, rfl, ⟨_, ho, rfl⟩, call_meets F.slot_tuple_mul ⟨_, ho, rfl⟩ F.entry_tuple_mul (F.args_tuple_mul_2 _ _) (tuple_mulW l its.toArray n dd sl k t c0 c1 c2 (by omega) c4 (by rw [size_rep, List.size_toArray]; exact flen)) ⟨ho, ?_⟩⟩)
      rw [size_rep]
      refine ⟨.ref s.heap.objs.size, _, I.laid (t' := s.toks) (o := .tup (List.replicate k.toNat xs).flatten) (fun b ob q => Heap.get?_push_of_some _ q) (Nat.le_refl _) ?_, rfl, q _ (I.hok.fresh (Nat.le_refl _))⟩
      exact ⟨by rw [PyProof.Rows.lm_len_rep_flat, Nat.mul_comm]; exact hz, _, r.rep k.toNat, IsTup.new _ _⟩
end
end L2
namespace WD
open PySem PySem.Spec PyProof.Rows L2
def O.items : O → Option (List D)
  | .lst xs => some xs
  | .ins _ _ => none
  | .dct _ _ => none
  | .dci _ _ => none
def locAt (h : Hs) (n : Nat) : Option (List D) := (h[n]?).bind O.items
theorem locAt_some {h : Hs} {n : Nat} {xs : List D} (e : locAt h n = some xs) : h[n]? = some (.lst xs) := by
  unfold locAt at e
  cases q : h[n]? with
  | none => rw [q] at e; cases e
  | some o =>
    rw [q] at e
    cases o with
    | lst ys => cases e; rfl
    | ins c fs => cases e
    | dct z kvs => cases e
    | dci z kvs => cases e
def lstX (h : Hs) : D → Option (List D)
  | .lst xs => some xs
  | .loc n => locAt h n
  | _ => none
def lstOf (h : Hs) : D → Option (List D)
  | .scr xs => some xs
  | d => lstX h d
def rowOf (h : Hs) : D → Option (List D)
  | .tup xs => some xs
  | d => lstOf h d
section
variable {X : Cx} {W : WX} {pin : List Pn} {K : PySem.W.Frag} {mg : Str → Option Value} {E : XK} {G G' : GG} {H : Hp} {ms ms' : List Addr} {h : Hs} {pos : Pos} {a b c : Expr} {rest : List Expr}
theorem Hh.listX (hh : Hh K G ms h H) {d : D} {v : V} {xs : List D} (i : Is K G ms d v) (e : lstX h d = some xs) : ∃ a vs, v = .ref a ∧ H a = some (.lst vs) ∧ IsL K G ms xs vs := by
  cases d with
  | lst ys =>
    cases e
    obtain ⟨a, vs, h1, h2, h3⟩ := i
    exact ⟨a, vs, h1, hh.sub _ _ h2, h3⟩
  | loc n =>
    obtain ⟨a, h1, h2⟩ := i
    obtain ⟨a', vs, q1, q2, q3⟩ := hh.at (locAt_some e)
    rw [h1] at q1; cases q1
    exact ⟨a, vs, h2, q2, q3⟩
  | _ => cases e
theorem Hh.list (hh : Hh K G ms h H) {d : D} {v : V} {xs : List D} (i : Is K G ms d v) (e : lstOf h d = some xs) : ∃ a vs, v = .ref a ∧ SqL K H a vs ∧ IsL K G ms xs vs := by
  cases d with
  | scr ys =>
    cases e
    obtain ⟨a, vs, h1, h2, h3⟩ := i
    exact ⟨a, vs, h1, hh.sub.seq h2, h3⟩
  | _ =>
    obtain ⟨a, vs, h1, h2, h3⟩ := hh.listX i e
    exact ⟨a, vs, h1, .of h2, h3⟩
theorem Hh.tuple (hh : Hh K G ms h H) {v : V} {xs : List D} (i : Is K G ms (.tup xs) v) : ∃ a vs, v = .ref a ∧ SqT K H a vs ∧ IsL K G ms xs vs := by
  obtain ⟨a, vs, h1, h2, h3⟩ := i
  exact ⟨a, vs, h1, .of (hh.sub _ _ h2), h3⟩
theorem Hh.row (hh : Hh K G ms h H) {d : D} {v : V} {xs : List D} (i : Is K G ms d v) (e : rowOf h d = some xs) : ∃ a vs, v = .ref a ∧ (SqL K H a vs ∨ SqT K H a vs) ∧ IsL K G ms xs vs := by
  cases d with
  | tup ys =>
    cases e
    obtain ⟨a, vs, h1, h2, h3⟩ := hh.tuple i
    exact ⟨a, vs, h1, .inr h2, h3⟩
  | _ =>
    obtain ⟨a, vs, h1, h2, h3⟩ := hh.list i e
    exact ⟨a, vs, h1, .inl h2, h3⟩
theorem Hh.rowz (hh : Hh K G ms h H) {d : D} {v : V} {xs : List D} (i : Is K G ms d v) (e : rowOf h d = some xs) : xs.length ≤ sizeLine := by
  cases d with
  | tup ys =>
    cases e
    obtain ⟨a, vs, h1, h2, h3⟩ := i
    rw [h3.length]; exact hh.gsz _ _ h2
  | lst ys =>
    cases e
    obtain ⟨a, vs, h1, h2, h3⟩ := i
    rw [h3.length]; exact hh.gsz _ _ h2
  | scr ys =>
    cases e
    obtain ⟨a, vs, h1, h2, h3⟩ := i
    rw [h3.length]
    rcases h2 with (h2 | ⟨o, h2⟩) | ⟨o, its, n, _, _, _, _, hz, hv⟩
    · exact hh.gsz _ _ h2
    · exact hh.gsz _ _ h2
    · rw [hv.length, Array.length_toList]; exact hz
  | loc n => exact hh.atz (locAt_some e)
  | _ => cases e
/-- a new still list, tuple: the end of a step -/
theorem Post.newT {xs : List D} {vs : List V} {Q : VK} {p : Addr} (q : Post K mg E G ms (Is K) (.ok (.tup xs) h) Q) (hh : Hh K G ms h H) (i : IsL K G ms xs vs) (hz : xs.length ≤ sizeLine) (hp : H p = none) : Q (.ref p) (upd H p (.tup vs)) := by
  have eg : GLe G (gupd G p (.tup vs)) := gle_upd (hh.gnone hp)
  exact q.fin2 eg (pre_refl _) (hh.still hp (show vs.length ≤ sizeLine by rw [← i.length]; exact hz)) ⟨p, vs, rfl, upd_same, IsL.mono eg (pre_refl _) _ _ i⟩
/-- a list that comes to be: still (false) or changeable (true) -/
def newL (m : Bool) (xs : List D) (h : Hs) : R D := if m = true then .ok (.loc h.length) (h ++ [.lst xs]) else .ok (.lst xs) h
theorem Post.newL {m : Bool} {xs : List D} {vs : List V} {Q : VK} {p : Addr} (q : Post K mg E G ms (Is K) (newL m xs h) Q) (hh : Hh K G ms h H) (i : IsL K G ms xs vs) (hz : xs.length ≤ sizeLine) (hp : H p = none) : Q (.ref p) (upd H p (.lst vs)) := by
  cases m with
  | false =>
    have eg : GLe G (gupd G p (.lst vs)) := gle_upd (hh.gnone hp)
    exact Post.fin2 (a := D.lst xs) q eg (pre_refl _) (hh.still hp (show vs.length ≤ sizeLine by rw [← i.length]; exact hz)) ⟨p, vs, rfl, upd_same, IsL.mono eg (pre_refl _) _ _ i⟩
  | true =>
    refine Post.fin2 (a := D.loc h.length) q (GLe.refl _) ⟨[p], rfl⟩ (hh.alloc hp i hz) ⟨p, ?_, rfl⟩
    rw [← hh.len]
    simp

def eTup (f : FA) : FE := fun s h => (f s h).bind fun ds h1 => if ds.length ≤ sizeLine then .ok (.tup ds) h1 else .bad
def eLst (m : Bool) (f : FA) : FE := fun s h => (f s h).bind fun ds h1 => if ds.length ≤ sizeLine then newL m ds h1 else .bad
theorem ve_tup {es : List Expr} {f : FA} {x1 : Nat} (h : VA X W pin es f) : VE X W pin (.Tuple es x1 pos) (eTup f) := by
  refine pe_imp (pe_tup h) fun σ H Q ⟨G, ms, s, h, hh, sl, q⟩ => ⟨G, ms, s, h, hh, sl, Post.bind q fun ds h1 vs H1 G1 ms1 e1 p1 hh1 i1 q1 => ?_⟩
  by_cases hz : ds.length ≤ sizeLine
  · rw [if_pos hz] at q1
    exact ⟨by rw [← i1.length]; exact hz, fun p hp => q1.newT hh1 i1 hz hp⟩
  · rw [if_neg hz] at q1; exact q1.elim
theorem ve_lst (m : Bool) {es : List Expr} {f : FA} (h : VA X W pin es f) : VE X W pin (.List es pos) (eLst m f) := by
  refine pe_imp (pe_lst h) fun σ H Q ⟨G, ms, s, h, hh, sl, q⟩ => ⟨G, ms, s, h, hh, sl, Post.bind q fun ds h1 vs H1 G1 ms1 e1 p1 hh1 i1 q1 => ?_⟩
  by_cases hz : ds.length ≤ sizeLine
  · rw [if_pos hz] at q1
    exact ⟨by rw [← i1.length]; exact hz, fun p hp => q1.newL hh1 i1 hz hp⟩
  · rw [if_neg hz] at q1; exact q1.elim

theorem len_rep {α : Type} (xs : List α) (k : Nat) : (List.replicate k xs).flatten.length = k * xs.length := by
  induction k with
  | zero => simp
  | succ k ih => rw [List.replicate_succ, List.flatten_cons, List.length_append, ih, Nat.succ_mul, Nat.add_comm]
def addD : D → D → Hs → R D
  | .int i, .int j, h => .ok (.int (i + j)) h
  | .str x, .str y, h => if x.length + y.length ≤ sizeLine then .ok (.str (x ++ y)) h else .bad
  | .tup xs, .tup ys, h => if xs.length + ys.length ≤ sizeLine then .ok (.tup (xs ++ ys)) h else .bad
  | x, y, h => match lstX h x, lstX h y with
    | some xs, some ys => if xs.length + ys.length ≤ sizeLine then .ok (.lst (xs ++ ys)) h else .bad
    | _, _ => .bad
theorem cat_ok {x y : V} {da db : D} {xs ys : List D} {Q : VK} (hh : Hh K G ms h H) (ia : Is K G ms da x) (ib : Is K G ms db y) (ea : lstX h da = some xs) (eb : lstX h db = some ys)
    (q : Post K mg E G ms (Is K) (if xs.length + ys.length ≤ sizeLine then .ok (.lst (xs ++ ys)) h else .bad) Q) : rCat x y H Q := by
  obtain ⟨l, vs, rfl, h2, h3⟩ := hh.listX ia ea
  obtain ⟨l', ws, rfl, k2, k3⟩ := hh.listX ib eb
  by_cases hz : xs.length + ys.length ≤ sizeLine
  · rw [if_pos hz] at q
    exact ⟨l, l', vs, ws, rfl, rfl, h2, k2, by rw [← h3.length, ← k3.length]; exact hz, fun p hp => Post.newL (m := false) q hh (h3.append k3) (by rw [List.length_append]; exact hz) hp⟩
  · rw [if_neg hz] at q; exact q.elim
theorem od_add : OpD X (binaryOp .Add) addD := by
  intro pins s σ H x y v u Q I rx ry ⟨G, ms, h, da, db, hh, ia, ib, q⟩
  unfold addD at q
  split at q
  · cases ia; cases ib
    exact op_add pins s σ H _ _ v u Q I rx ry ⟨_, _, rfl, rfl, q.fin hh rfl⟩
  · cases ia; cases ib
    split at q
    · rename_i hz
      exact op_add_str pins s σ H _ _ v u Q I rx ry ⟨_, _, rfl, rfl, hz, q.fin hh rfl⟩
    · exact q.elim
  · rename_i xs ys
    split at q
    · rename_i hz
      obtain ⟨l, vs, rfl, h2, h3⟩ := hh.tuple ia
      obtain ⟨l', ws, rfl, k2, k3⟩ := hh.tuple ib
      refine op_catA pins s σ H _ _ v u Q I rx ry ⟨l, l', vs, ws, rfl, rfl, h2, k2, by rw [← h3.length, ← k3.length]; exact hz, fun e0 => ?_, fun _ e0 => ?_, fun _ _ p hp => q.newT hh (h3.append k3) (by rw [List.length_append]; exact hz) hp⟩
      · subst e0
        have : xs = [] := by
          have hl := h3.length
          exact List.length_eq_zero_iff.mp (by simpa using hl)
        subst this
        exact q.fin hh ib
      · subst e0
        have : ys = [] := by
          have hl := k3.length
          exact List.length_eq_zero_iff.mp (by simpa using hl)
        subst this
        rw [List.append_nil] at q
        exact q.fin hh ia
    · exact q.elim
  · split at q
    · rename_i xs ys e1 e2
      exact op_cat pins s σ H _ _ v u Q I rx ry (cat_ok hh ia ib e1 e2 q)
    · exact q.elim
def subD : D → D → Hs → R D
  | .int i, .int j, h => .ok (.int (i - j)) h
  | _, _, _ => .bad
theorem od_sub : OpD X (binaryOp .Sub) subD := by
  intro pins s σ H x y v u Q I rx ry ⟨G, ms, h, da, db, hh, ia, ib, q⟩
  unfold subD at q
  split at q
  · cases ia; cases ib
    exact op_sub pins s σ H _ _ v u Q I rx ry ⟨_, _, rfl, rfl, q.fin hh rfl⟩
  · exact q.elim
def smallI (i : Int) : Prop := -(2 ^ 64) < i ∧ i < 2 ^ 64
def repOk (k : Int) (n : Nat) : Prop := -(2 ^ 63) ≤ k ∧ k < 2 ^ 63 ∧ n * k.toNat ≤ sizeLine
def divOk0 (j : Int) : Prop := 0 < j ∧ j.natAbs.log2 < 9000
def powOk (i j : Int) : Prop := 0 ≤ j ∧ j ≤ 1000000 ∧ i.natAbs < 2 ^ 64
open Classical in
noncomputable def mulD : D → D → Hs → R D
  | .int i, .int j, h => if smallI i ∨ smallI j then .ok (.int (i * j)) h else .bad
  | .lst xs, .int k, h => if repOk k xs.length then .ok (.lst (List.replicate k.toNat xs).flatten) h else .bad
  | .tup xs, .int k, h => if repOk k xs.length then .ok (.tup (List.replicate k.toNat xs).flatten) h else .bad
  | _, _, _ => .bad
theorem od_mul : OpD X (binaryOp .Mult) mulD := by
  intro pins s σ H x y v u Q I rx ry ⟨G, ms, h, da, db, hh, ia, ib, q⟩
  unfold mulD at q
  split at q
  · cases ia; cases ib
    split at q
    · rename_i hz
      exact op_mul pins s σ H _ _ v u Q I rx ry ⟨_, _, rfl, rfl, hz, q.fin hh rfl⟩
    · exact q.elim
  · rename_i xs k
    cases ib
    split at q
    · rename_i hz
      obtain ⟨l, vs, rfl, h2, h3⟩ := hh.listX ia rfl
      exact op_rep pins s σ H _ _ v u Q I rx ry ⟨l, k, vs, rfl, rfl, h2, hz.1, hz.2.1, by rw [← h3.length]; exact hz.2.2, fun p hp => Post.newL (m := false) q hh (h3.rep _) (by rw [len_rep]; rw [Nat.mul_comm]; exact hz.2.2) hp⟩
    · exact q.elim
  · rename_i xs k
    cases ib
    split at q
    · rename_i hz
      obtain ⟨l, vs, rfl, h2, h3⟩ := hh.tuple ia
      refine op_repT2 pins s σ H _ _ v u Q I rx ry ⟨l, k, vs, rfl, rfl, h2, hz.1, hz.2.1, by rw [← h3.length]; exact hz.2.2, fun e0 => ?_, fun _ _ p hp => q.newT hh (h3.rep _) (by rw [len_rep]; rw [Nat.mul_comm]; exact hz.2.2) hp⟩
      rcases e0 with e0 | e0
      · subst e0
        have : xs = [] := List.length_eq_zero_iff.mp (by simpa using h3.length)
        subst this
        have e1 : (List.replicate k.toNat ([] : List D)).flatten = [] := by simp
        rw [e1] at q
        exact q.fin hh ia
      · subst e0
        have e1 : (List.replicate (1 : Int).toNat xs).flatten = xs := by simp
        rw [e1] at q
        exact q.fin hh ia
    · exact q.elim
  · exact q.elim
open Classical in
noncomputable def fdivD : D → D → Hs → R D
  | .int i, .int j, h => if divOk0 j then .ok (.int (i / j)) h else .bad
  | _, _, _ => .bad
theorem od_fdiv : OpD X (binaryOp .FloorDiv) fdivD := by
  intro pins s σ H x y v u Q I rx ry ⟨G, ms, h, da, db, hh, ia, ib, q⟩
  unfold fdivD at q
  split at q
  · cases ia; cases ib
    split at q
    · rename_i hz
      exact op_fdivW pins s σ H _ _ v u Q I rx ry ⟨_, _, rfl, rfl, hz, q.fin hh rfl⟩
    · exact q.elim
  · exact q.elim
def modD : D → D → Hs → R D
  | .int i, .int j, h => if 0 < j then .ok (.int (i % j)) h else .bad
  | _, _, _ => .bad
theorem od_mod : OpD X (binaryOp .Mod) modD := by
  intro pins s σ H x y v u Q I rx ry ⟨G, ms, h, da, db, hh, ia, ib, q⟩
  unfold modD at q
  split at q
  · cases ia; cases ib
    split at q
    · rename_i hz
      exact op_mod pins s σ H _ _ v u Q I rx ry ⟨_, _, rfl, rfl, hz, q.fin hh rfl⟩
    · exact q.elim
  · exact q.elim
open Classical in
noncomputable def powD : D → D → Hs → R D
  | .int i, .int j, h => if powOk i j then .ok (.int (i ^ j.toNat)) h else .bad
  | _, _, _ => .bad
theorem od_pow : OpD X (binaryOp .Pow) powD := by
  intro pins s σ H x y v u Q I rx ry ⟨G, ms, h, da, db, hh, ia, ib, q⟩
  unfold powD at q
  split at q
  · cases ia; cases ib
    split at q
    · rename_i hz
      exact op_pow pins s σ H _ _ v u Q I rx ry ⟨_, _, rfl, rfl, hz, q.fin hh rfl⟩
    · exact q.elim
  · exact q.elim
/-- -a -/
def negD (fa : FE) : FE := fun s h => (fa s h).bind fun d h1 => match d with
  | .int i => .ok (.int (-i)) h1
  | _ => .bad
theorem ve_neg {fa : FE} (ha : VE X W pin a fa) : VE X W pin (.UnaryOp .USub a pos) (negD fa) := by
  refine pe_imp (pe_un un_neg ha) fun σ H Q ⟨G, ms, s, h, hh, sl, q⟩ => ⟨G, ms, s, h, hh, sl, Post.bind q fun d h1 v H1 G1 ms1 e1 p1 hh1 i1 q1 => ?_⟩
  cases d with
  | int i => cases i1; exact ⟨i, rfl, q1.fin hh1 rfl⟩
  | _ => exact q1.elim

def cmpI (p : Int → Int → Bool) : D → D → Hs → R D
  | .int i, .int j, h => .ok (.bl (p i j)) h
  | _, _, _ => .bad
theorem od_cmpI {op : CmpOp} {p : Int → Int → Bool} (r : OpR X (compareOp op) (rI0 fun i j => .bl (p i j))) : OpD X (compareOp op) (cmpI p) := by
  intro pins s σ H x y v u Q I rx ry ⟨G, ms, h, da, db, hh, ia, ib, q⟩
  unfold cmpI at q
  split at q
  · cases ia; cases ib
    exact r pins s σ H _ _ v u Q I rx ry ⟨_, _, rfl, rfl, q.fin hh rfl⟩
  · exact q.elim
abbrev ltD := cmpI fun i j => decide (i < j)
abbrev leD := cmpI fun i j => decide (i ≤ j)
abbrev gtD := cmpI fun i j => decide (j < i)
abbrev geD := cmpI fun i j => decide (j ≤ i)
theorem od_lt : OpD X (compareOp .Lt) ltD := od_cmpI op_lt
theorem od_le : OpD X (compareOp .LtE) leD := od_cmpI op_le
theorem od_gt : OpD X (compareOp .Gt) gtD := od_cmpI op_gt
theorem od_ge : OpD X (compareOp .GtE) geD := od_cmpI op_ge
/-- is None -/
def D.isNon : D → Bool
  | .non => true
  | _ => false
def isNonD (n : Bool) : D → D → Hs → R D
  | d, .non, h => .ok (.bl (if n = true then !d.isNon else d.isNon)) h
  | _, _, _ => .bad
theorem is_non {d : D} {v : V} (i : Is K G ms d v) : decide (v = .non) = d.isNon := by
  cases d with
  | non => cases i; rfl
  | bl _ => cases i; rfl
  | int _ => cases i; rfl
  | str _ => cases i; rfl
  | tup _ => obtain ⟨_, _, rfl, _⟩ := i; rfl
  | lst _ => obtain ⟨_, _, rfl, _⟩ := i; rfl
  | scr _ => obtain ⟨_, _, rfl, _⟩ := i; rfl
  | dic _ _ => obtain ⟨_, _, rfl, _⟩ := i; rfl
  | loc _ => obtain ⟨_, _, rfl⟩ := i; rfl
theorem od_is : OpD X (compareOp .Is) (isNonD false) := by
  intro pins s σ H x y v u Q I rx ry ⟨G, ms, h, da, db, hh, ia, ib, q⟩
  unfold isNonD at q
  split at q
  · cases ib
    refine op_isN pins s σ H _ _ v u Q I rx ry ⟨rfl, ?_⟩
    rw [is_non ia]
    exact q.fin hh rfl
  · exact q.elim
theorem od_isnot : OpD X (compareOp .IsNot) (isNonD true) := by
  intro pins s σ H x y v u Q I rx ry ⟨G, ms, h, da, db, hh, ia, ib, q⟩
  unfold isNonD at q
  split at q
  · cases ib
    refine op_notN pins s σ H _ _ v u Q I rx ry ⟨rfl, ?_⟩
    rw [is_non ia]
    exact q.fin hh rfl
  · exact q.elim
end
end WD
namespace WD
open PySem PySem.Spec PyProof.Rows L2
def toP (h : Hs) : Nat → D → Option PyData
  | 0, d => match d with
    | .non => some .none
    | .bl b => some (.bool b)
    | .int i => some (.int i)
    | .str x => if PyData.strOk x = true then some (.str x) else none
    | _ => none
  | n + 1, d => match d with
    | .non => some .none
    | .bl b => some (.bool b)
    | .int i => some (.int i)
    | .str x => if PyData.strOk x = true then some (.str x) else none
    | .tup xs => (xs.mapM (toP h n)).map PyData.tuple
    | d => match lstOf h d with
      | some xs => (xs.mapM (toP h n)).map PyData.list
      | none => none
theorem mapM_cons_some {α β : Type} {f : α → Option β} {x : α} {xs : List α} {r : List β} (e : (x :: xs).mapM f = some r) : ∃ y ys, f x = some y ∧ xs.mapM f = some ys ∧ r = y :: ys := by
  rw [List.mapM_cons] at e
  cases h1 : f x with
  | none => rw [h1] at e; cases e
  | some y =>
    rw [h1] at e
    cases h2 : xs.mapM f with
    | none => rw [h2] at e; cases e
    | some ys =>
      rw [h2] at e
      cases e
      exact ⟨y, ys, rfl, rfl, rfl⟩
theorem mapM_all {α : Type} {f : α → Option PyData} (n : Nat) (hf : ∀ x p, f x = some p → p.canLay0 = true ∧ p.depth ≤ n) : ∀ {xs : List α} {ps : List PyData}, xs.mapM f = some ps → PyData.canLayAll0 ps = true ∧ PyData.depthAll ps ≤ n
  | [], ps, e => by
    have : ps = [] := by cases e; rfl
    subst this
    exact ⟨by simp [PyData.canLayAll0], by simp [PyData.depthAll]⟩
  | x :: xs, ps, e => by
    obtain ⟨y, ys, h1, h2, rfl⟩ := mapM_cons_some e
    obtain ⟨q1, q2⟩ := mapM_all n hf h2
    obtain ⟨r1, r2⟩ := hf x y h1
    exact ⟨by simp [PyData.canLayAll0, r1, q1], by simp only [PyData.depthAll]; omega⟩
theorem toP_ok (h : Hs) : ∀ (n : Nat) (d : D) (p : PyData), toP h n d = some p → p.canLay0 = true ∧ p.depth ≤ n
  | 0, d, p, e => by
    cases d <;> simp only [toP] at e
    case str =>
      split at e
      · rename_i hs
        cases e; exact ⟨by simp [PyData.canLay0, hs], by simp [PyData.depth]⟩
      · cases e
    all_goals first | (cases e; done) | (cases e; exact ⟨by simp [PyData.canLay0], by simp [PyData.depth]⟩)
  | n + 1, d, p, e => by
    have lists : ∀ d, (match lstOf h d with | some xs => (xs.mapM (toP h n)).map PyData.list | none => none) = some p → p.canLay0 = true ∧ p.depth ≤ n + 1 := fun d e => by
      split at e
      · rename_i xs _
        cases q : xs.mapM (toP h n) with
        | none => rw [q] at e; cases e
        | some ps =>
          rw [q] at e; cases e
          obtain ⟨q1, q2⟩ := mapM_all n (toP_ok h n) q
          exact ⟨by simp [PyData.canLay0, q1], by simp only [PyData.depth]; omega⟩
      · cases e
    cases d with
    | non => cases e; exact ⟨by simp [PyData.canLay0], by simp [PyData.depth]⟩
    | bl b => cases e; exact ⟨by simp [PyData.canLay0], by simp [PyData.depth]⟩
    | int i => cases e; exact ⟨by simp [PyData.canLay0], by simp [PyData.depth]⟩
    | str x =>
      simp only [toP] at e
      split at e
      · rename_i hs
        cases e; exact ⟨by simp [PyData.canLay0, hs], by simp [PyData.depth]⟩
      · cases e
    | tup xs =>
      simp only [toP] at e
      cases q : xs.mapM (toP h n) with
      | none => rw [q] at e; cases e
      | some ps =>
        rw [q] at e; cases e
        obtain ⟨q1, q2⟩ := mapM_all n (toP_ok h n) q
        exact ⟨by simp [PyData.canLay0, q1], by simp only [PyData.depth]; omega⟩
    | lst xs => exact lists (.lst xs) e
    | scr xs => exact lists (.scr xs) e
    | loc m => exact lists (.loc m) e
    | dic ks xs => exact lists (.dic ks xs) e
section
variable {X : Cx} {W : WX} {pin : List Pn} {K : PySem.W.Frag} {mg : Str → Option Value} {E : XK} {G G' : GG} {H : Hp} {ms ms' : List Addr} {h : Hs} {pos : Pos} {a b c : Expr} {rest : List Expr}
theorem dpAll_of {n : Nat} (hf : ∀ d v p, Is K G ms d v → toP h n d = some p → Dp K H v p) : ∀ {xs : List D} {vs : List V} {ps : List PyData}, IsL K G ms xs vs → xs.mapM (toP h n) = some ps → DpAll K H vs ps
  | [], _, ps, i, e => by
    cases i
    have : ps = [] := by cases e; rfl
    subst this
    exact .nil
  | x :: xs, _, ps, i, e => by
    obtain ⟨v, r, rfl, i1, i2⟩ := i
    obtain ⟨y, ys, h1, h2, rfl⟩ := mapM_cons_some e
    exact .cons (hf x v y i1 h1) (dpAll_of hf i2 h2)
theorem dp_of (hh : Hh K G ms h H) : ∀ (n : Nat) (d : D) (v : V) (p : PyData), Is K G ms d v → toP h n d = some p → Dp K H v p
  | 0, d, v, p, i, e => by
    cases d <;> simp only [toP] at e
    case non => cases e; cases i; exact .non
    case bl => cases e; cases i; exact .bl _
    case int => cases e; cases i; exact .int _
    case str =>
      split at e
      · cases e; cases i; exact .str _
      · cases e
    all_goals cases e
  | n + 1, d, v, p, i, e => by
    have lists : ∀ d, Is K G ms d v → (match lstOf h d with | some xs => (xs.mapM (toP h n)).map PyData.list | none => none) = some p → Dp K H v p := fun d i e => by
      split at e
      · rename_i xs hx
        cases q : xs.mapM (toP h n) with
        | none => rw [q] at e; cases e
        | some ps =>
          rw [q] at e; cases e
          obtain ⟨a, vs, rfl, h2, h3⟩ := hh.list i hx
          exact .lst h2 (dpAll_of (dp_of hh n) h3 q)
      · cases e
    cases d with
    | non => cases e; cases i; exact .non
    | bl b => cases e; cases i; exact .bl _
    | int j => cases e; cases i; exact .int _
    | str x =>
      simp only [toP] at e
      split at e
      · cases e; cases i; exact .str _
      · cases e
    | tup xs =>
      simp only [toP] at e
      cases q : xs.mapM (toP h n) with
      | none => rw [q] at e; cases e
      | some ps =>
        rw [q] at e; cases e
        obtain ⟨a, vs, rfl, h2, h3⟩ := hh.tuple i
        exact .tup h2 (dpAll_of (dp_of hh n) h3 q)
    | lst xs => exact lists (.lst xs) i e
    | scr xs => exact lists (.scr xs) i e
    | loc m => exact lists (.loc m) i e
    | dic ks xs => exact lists (.dic ks xs) i e
def eqD (n : Bool) : D → D → Hs → R D := fun x y h => match toP h 64 x, toP h 64 y with
  | some p, some q => .ok (.bl (if n = true then !PyData.eqv p q else PyData.eqv p q)) h
  | _, _ => match lstX h x, lstX h y with
    | some xs, some ys => if xs.length ≠ ys.length then .ok (.bl n) h else .bad
    | _, _ => .bad
theorem shaped_of {n : Nat} {d : D} {p : PyData} (e : toP h n d = some p) (hn : n ≤ 64) : SeqAt.shaped p = true := by
  obtain ⟨q1, q2⟩ := toP_ok h n d p e
  unfold SeqAt.shaped
  rw [q1, Bool.true_and]
  exact decide_eq_true (by omega)
theorem od_eq (hu : X.A.units + 64 < cLine) : OpD X (compareOp .Eq) (eqD false) := by
  intro pins s σ H x y v u Q I rx ry ⟨G, ms, h, da, db, hh, ia, ib, q⟩
  unfold eqD at q
  split at q
  · rename_i p r e1 e2
    exact op_eqD hu pins s σ H _ _ v u Q I rx ry ⟨p, r, dp_of hh _ _ _ _ ia e1, dp_of hh _ _ _ _ ib e2, shaped_of e1 (Nat.le_refl _), shaped_of e2 (Nat.le_refl _), q.fin hh rfl⟩
  · split at q
    · rename_i xs ys e1 e2
      split at q
      · rename_i hn
        obtain ⟨a, vs, rfl, a2, a3⟩ := hh.listX ia e1
        obtain ⟨b, ws, rfl, b2, b3⟩ := hh.listX ib e2
        cases (show v = Value.ref a from rx)
        cases (show u = Value.ref b from ry)
        obtain ⟨_, its, n1, p1, l1, g1⟩ := I.lstM a2
        obtain ⟨_, jts, n2, p2, l2, g2⟩ := I.lstM b2
        refine SeqAt.eq_list_lengthsAt (PySem.IsL.isList g1) (PySem.IsL.isList g2) ?_ (by omega) ⟨.bl false, H, I, rfl, q.fin hh rfl⟩
        have z1 := a3.length
        have z2 := b3.length
        have z3 := hn
        simp
        omega
      · exact q.elim
    · exact q.elim
theorem od_ne (hu : X.A.units + 64 < cLine) : OpD X (compareOp .NotEq) (eqD true) := by
  intro pins s σ H x y v u Q I rx ry ⟨G, ms, h, da, db, hh, ia, ib, q⟩
  unfold eqD at q
  split at q
  · rename_i p r e1 e2
    exact op_neD hu pins s σ H _ _ v u Q I rx ry ⟨p, r, dp_of hh _ _ _ _ ia e1, dp_of hh _ _ _ _ ib e2, shaped_of e1 (Nat.le_refl _), shaped_of e2 (Nat.le_refl _), q.fin hh rfl⟩
  · split at q
    · rename_i xs ys e1 e2
      split at q
      · rename_i hn
        obtain ⟨a, vs, rfl, a2, a3⟩ := hh.listX ia e1
        obtain ⟨b, ws, rfl, b2, b3⟩ := hh.listX ib e2
        cases (show v = Value.ref a from rx)
        cases (show u = Value.ref b from ry)
        obtain ⟨_, its, n1, p1, l1, g1⟩ := I.lstM a2
        obtain ⟨_, jts, n2, p2, l2, g2⟩ := I.lstM b2
        refine SeqAt.RcNeAt.lists_lengths (PySem.IsL.isList g1) (PySem.IsL.isList g2) ?_ (by omega) _ _ _ _ ⟨.bl true, H, I, rfl, q.fin hh rfl⟩
        have z1 := a3.length
        have z2 := b3.length
        have z3 := hn
        simp
        omega
      · exact q.elim
    · exact q.elim

def flatD : D → Bool
  | .non => true
  | .bl _ => true
  | .int _ => true
  | .str _ => true
  | _ => false
def eqF : D → D → Bool
  | .non, .non => true
  | .bl a, .bl b => a == b
  | .bl a, .int b => (if a then 1 else 0) == b
  | .int a, .bl b => a == (if b then 1 else 0)
  | .int a, .int b => a == b
  | .str a, .str b => a == b
  | _, _ => false
theorem flat_of {d : D} {v : V} (i : Is K G ms d v) (f : flatD d = true) : flatV v = true := by
  cases d <;> first | (cases i; rfl) | cases f
theorem eqF_of {d e : D} {v w : V} (i : Is K G ms d v) (j : Is K G ms e w) (f : flatD d = true) (g : flatD e = true) : eqV v w = eqF d e := by
  cases d <;> first | (cases f; done) | (cases i; cases e <;> first | (cases g; done) | (cases j; rfl))
theorem anyF {x : D} {v : V} (i : Is K G ms x v) (f : flatD x = true) : ∀ {xs : List D} {vs : List V}, IsL K G ms xs vs → xs.all flatD = true → vs.all flatV = true ∧ inV v vs = xs.any fun y => eqF y x
  | [], _, h, _ => by cases h; exact ⟨rfl, rfl⟩
  | d :: xs, _, h, g => by
    obtain ⟨w, r, rfl, h2, h3⟩ := h
    simp only [List.all_cons, Bool.and_eq_true] at g
    obtain ⟨q1, q2⟩ := anyF i f h3 g.2
    refine ⟨by simp [flat_of h2 g.1, q1], ?_⟩
    show (eqV w v || inV v r) = _
    rw [List.any_cons, q2, eqF_of h2 i g.1 f]
def inD (n : Bool) : D → D → Hs → R D := fun x y h => match rowOf h y with
  | some xs => if flatD x = true ∧ xs.all flatD = true then .ok (.bl (if n = true then !(xs.any fun y => eqF y x) else xs.any fun y => eqF y x)) h else .bad
  | none => .bad
theorem od_in : OpD X (compareOp .In) (inD false) := by
  intro pins s σ H x y v u Q I rx ry ⟨G, ms, h, da, db, hh, ia, ib, q⟩
  unfold inD at q
  split at q
  · rename_i xs e
    split at q
    · rename_i hf
      obtain ⟨p, vs, rfl, h2, h3⟩ := hh.row ib e
      obtain ⟨f1, f2⟩ := anyF ia hf.1 h3 hf.2
      refine op_in_seq pins s σ H _ _ v u Q I rx ry ⟨p, vs, rfl, h2, flat_of ia hf.1, f1, ?_⟩
      rw [f2]
      exact q.fin hh rfl
    · exact q.elim
  · exact q.elim
theorem od_notin : OpD X (compareOp .NotIn) (inD true) := by
  intro pins s σ H x y v u Q I rx ry ⟨G, ms, h, da, db, hh, ia, ib, q⟩
  unfold inD at q
  split at q
  · rename_i xs e
    split at q
    · rename_i hf
      obtain ⟨p, vs, rfl, h2, h3⟩ := hh.row ib e
      obtain ⟨f1, f2⟩ := anyF ia hf.1 h3 hf.2
      refine op_notIn_seq pins s σ H _ _ v u Q I rx ry ⟨p, vs, rfl, h2, flat_of ia hf.1, f1, ?_⟩
      rw [f2]
      exact q.fin hh rfl
    · exact q.elim
  · exact q.elim

def rdC (K : PySem.W.Frag) (g : List D → Hs → R D) : List V → Hp → VK → Prop := fun xs H Q => ∃ G ms h ds, Hh K G ms h H ∧ IsL K G ms ds xs ∧ Post K (fun _ => none) (fun _ _ _ => False) G ms (Is K) (g ds h) Q
def CallD (X : Cx) (f : Value) (g : List D → Hs → R D) : Prop := CallR X f (rdC X.K g)
def calm1 (r : R D) : R D := match r with
  | .ok d h' => .ok d h'
  | _ => .bad
theorem calm1_post {r : R D} {Q : VK} (q : Post K mg E G ms (Is K) (calm1 r) Q) : Post K (fun _ => none) (fun _ _ _ => False) G ms (Is K) r Q := by
  cases r with
  | ok d h' => exact q
  | err x h' => exact q.elim
  | bad => exact q.elim
def eB (g : List D → Hs → R D) (f : FA) : FE := fun s h => (f s h).bind fun ds h1 => calm1 (g ds h1)
theorem ve_callB {id : String} {x : Str} {e : Expr} {es : List Expr} {g : List D → Hs → R D} {f : FA} {p : Pos} (hc : CallD X (.builtin id) g) (hg : Gl X x) (hm : X.mg x = none) (hv : bootBuiltins x = some (.builtin id)) (ha : VA X W pin (e :: es) f) (hn : x ≠ "__name__" := by decide) (hdb : (x == ("__debug__" : Str)) = false := by decide)
    (he : starEach (e :: es) X.env = (false, eval e X.env) :: starEach es X.env := by rfl) (hpl : (backTo pos (starEach es X.env)).any (·.1) = false := by rfl) : VE X W pin (.Call (.Name x p) (e :: es) [] pos) (eB g f) := by
  refine pe_imp (pe_callB hc hg hm hv ha hn hdb he hpl) fun σ H Q ⟨G, ms, s, h, hh, sl, q⟩ => ⟨G, ms, s, h, hh, sl, Post.bind q fun ds h1 vs H1 G1 ms1 e1 p1 hh1 i1 q1 => ?_⟩
  exact ⟨G1, ms1, h1, ds, hh1, i1, calm1_post q1⟩
theorem ve_callTy {id : String} {x : Str} {e : Expr} {es : List Expr} {g : List D → Hs → R D} {f : FA} {p : Pos} (hc : CallD X (.type id) g) (hg : Gl X x) (hm : X.mg x = none) (hv : bootBuiltins x = some (.type id)) (ha : VA X W pin (e :: es) f) (hn : x ≠ "__name__" := by decide) (hdb : (x == ("__debug__" : Str)) = false := by decide)
    (he : starEach (e :: es) X.env = (false, eval e X.env) :: starEach es X.env := by rfl) (hpl : (backTo pos (starEach es X.env)).any (·.1) = false := by rfl) : VE X W pin (.Call (.Name x p) (e :: es) [] pos) (eB g f) := by
  refine pe_imp (pe_callTy hc hg hm hv ha hn hdb he hpl) fun σ H Q ⟨G, ms, s, h, hh, sl, q⟩ => ⟨G, ms, s, h, hh, sl, Post.bind q fun ds h1 vs H1 G1 ms1 e1 p1 hh1 i1 q1 => ?_⟩
  exact ⟨G1, ms1, h1, ds, hh1, i1, calm1_post q1⟩
theorem isL1 {ds : List D} {d : D} {vs : List V} (i : IsL K G ms [d] vs) : ∃ v, vs = [v] ∧ Is K G ms d v := by
  obtain ⟨v, r, rfl, i1, i2⟩ := i
  cases i2
  exact ⟨v, rfl, i1⟩
theorem isL2 {d e : D} {vs : List V} (i : IsL K G ms [d, e] vs) : ∃ v w, vs = [v, w] ∧ Is K G ms d v ∧ Is K G ms e w := by
  obtain ⟨v, r, rfl, i1, w, r2, rfl, i2, i3⟩ := i
  cases i3
  exact ⟨v, w, rfl, i1, i2⟩
def lenD : List D → Hs → R D
  | [.str x], h => if x.length ≤ sizeLine then .ok (.int x.length) h else .bad
  | [d], h => match rowOf h d with
    | some xs => .ok (.int xs.length) h
    | none => .bad
  | _, _ => .bad
theorem cd_len : CallD X (.builtin "len") lenD := by
  intro pins s σ H xs us Q I r ⟨G, ms, h, ds, hh, i, q⟩
  unfold lenD at q
  split at q
  · obtain ⟨v, rfl, i1⟩ := isL1 (ds := []) i
    cases i1
    split at q
    · rename_i hz
      exact call_len_str pins s σ H _ us Q I r ⟨_, rfl, hz, q.fin hh rfl⟩
    · exact q.elim
  · obtain ⟨v, rfl, i1⟩ := isL1 (ds := []) i
    split at q
    · rename_i ys e
      obtain ⟨p, vs, rfl, h2, h3⟩ := hh.row i1 e
      refine call_len_seq pins s σ H _ us Q I r ⟨p, vs, rfl, h2, ?_⟩
      rw [← h3.length]
      exact q.fin hh rfl
    · exact q.elim
  · exact q.elim
/-- isinstance -/
def tyO : Option O → String
  | some (.lst _) => "list"
  | some (.ins _ _) => "object"
  | some (.dct _ _) => "dict"
  | some (.dci _ _) => "dict"
  | none => "NoneType"
def tyD (h : Hs) : D → String
  | .non => "NoneType"
  | .bl _ => "bool"
  | .int _ => "int"
  | .str _ => "str"
  | .tup _ => "tuple"
  | .lst _ => "list"
  | .scr _ => "list"
  | .loc n => tyO h[n]?
  | .dic _ _ => "dict"
def tysD : List String := ["NoneType", "bool", "int", "str", "tuple", "list", "dict", "object"]
def clsD : List String := ["int", "bool", "str", "list", "tuple", "dict"]
def isSub (t n : String) : Bool := t == n || (t == "bool" && n == "int")
theorem kit_tab : ∀ t ∈ tysD, ∀ n ∈ clsD, kitB t n = some (isSub t n) := by decide +kernel
theorem tyD_mem {d : D} : tyD h d ∈ tysD := by
  cases d with
  | loc n =>
    show tyO h[n]? ∈ tysD
    cases h[n]? with
    | none => simp [tyO, tysD]
    | some o => cases o with
      | lst xs => simp [tyO, tysD]
      | ins c fs => simp [tyO, tysD]
      | dct z kvs => simp [tyO, tysD]
      | dci z kvs => simp [tyO, tysD]
  | _ => simp [tyD, tysD]
/-- a value's type, the layer's dicts too -/
inductive TyY (K : PySem.W.Frag) (H : Hp) : V → Value → Prop where
  | x {v : V} {t : Value} (h : TyX K H v t) : TyY K H v t
  | dct {a : Addr} {fz : Bool} {xs : List (NestedKey × Addr × V)} (e : if fz = true then ∃ od, H a = some (.frz od (ndO a xs)) else H a = some (ndO a xs)) : TyY K H (.ref a) (.type "dict")
  | dci {a : Addr} {od : Obj} {kvs : List (Key × V)} (e : H a = some (.frz od (.dK kvs))) : TyY K H (.ref a) (.type "dict")
theorem ndO_at {X : Cx} {pins : List (Addr × Obj)} {σ : L2.St} {H : Hp} {s : Shared} {a : Addr} {fz : Bool} {xs : List (NestedKey × Addr × V)} (I : Inv X pins σ H s) (e : if fz = true then ∃ od, H a = some (.frz od (ndO a xs)) else H a = some (ndO a xs)) :
    ∃ o, s.heap.get? a = some o ∧ o.ExactDict := by
  cases fz with
  | true =>
    obtain ⟨od, e⟩ := e
    obtain ⟨_, ⟨_, _, _, o, _, _, h1, h2, _⟩, _⟩ := (show ObjOk X.prog X.w H s.heap a (.frz od (ndO a xs)) from I.hok a _ e)
    exact ⟨o, h1, h2⟩
  | false =>
    obtain ⟨⟨_, _, _, o, _, _, h1, h2, _⟩, _⟩ := (show ObjOk X.prog X.w H s.heap a (ndO a xs) from I.hok a _ e)
    exact ⟨o, h1, h2⟩
theorem kit_ofY {X : Cx} {pins : List (Addr × Obj)} {σ : L2.St} {H : Hp} {s : Shared} {x : V} {u t : Value} (I : Inv X pins σ H s) (rx : RelV x u) (ty : TyY X.K H x t) : ∃ P : Heap → Prop, PySem.W.KitX X.K u t P ∧ P s.heap ∧ u ≠ .builtin "__main__.__loader__#opaque" := by
  cases ty with
  | x h => exact kit_of I rx h
  | @dct a fz xs e =>
    cases (show u = Value.ref a from rx)
    obtain ⟨o, h1, h2⟩ := ndO_at I e
    exact ⟨_, PySem.W.kitx_dict, ⟨o, h1, h2.1⟩, fun z => nomatch z⟩
  | @dci a od kvs e =>
    cases (show u = Value.ref a from rx)
    obtain ⟨_, _, _, vs, _, o, _, _, h1, h2, _⟩ := (show ObjOk X.prog X.w H s.heap a (.frz od (.dK kvs)) from I.hok a _ e)
    exact ⟨_, PySem.W.kitx_dict, ⟨o, h1, h2.1⟩, fun z => nomatch z⟩
def rIsiY (K : PySem.W.Frag) : List V → Hp → VK → Prop := fun xs H Q => ∃ (x c : V) (t u : Value) (b : Bool), xs = [x, c] ∧ ClsV c u ∧ TyY K H x t ∧ PySem.W.kitOne K t u = some b ∧ Q (.bl b) H
def rIsiTY (K : PySem.W.Frag) : List V → Hp → VK → Prop := fun xs H Q => ∃ (x : V) (tp : Addr) (cs : List V) (t : Value) (us : List Value) (b : Bool), xs = [x, .ref tp] ∧ H tp = some (.tup cs) ∧ Paired ClsV cs us ∧ TyY K H x t ∧ PySem.W.kitAny K t us = some b ∧ Q (.bl b) H
theorem call_isiY : CallR X (.builtin "isinstance") (rIsiY X.K) := by
  intro pins s σ H xs us Q I r h
  obtain ⟨x, c, t, u, b, rfl, k, ty, e, q⟩ := h
  obtain ⟨u1, u2, rfl, r1, r2⟩ := vals2 r
  have e2 := k.eq r2
  subst e2
  obtain ⟨P, Z, p, hx⟩ := kit_ofY I r1 ty
  exact PySem.W.kia_one Z I.kIn p e hx fun tk => ⟨.bl b, H, I.tok tk, rfl, q⟩
theorem call_isiTY : CallR X (.builtin "isinstance") (rIsiTY X.K) := by
  intro pins s σ H xs us Q I r h
  obtain ⟨x, tp, cs, t, ws, b, rfl, hT, k, ty, e, q⟩ := h
  obtain ⟨u1, u2, rfl, r1, r2⟩ := vals2 r
  cases (show u2 = Value.ref tp from r2)
  obtain ⟨P, Z, p, hx⟩ := kit_ofY I r1 ty
  obtain ⟨_, its, rv, o, h1, h2, n, h3⟩ := (show ObjOk X.prog X.w H s.heap tp (.tup cs) from I.hok tp _ hT)
  have e3 := ClsV.all k rv
  subst e3
  obtain ⟨oc, od, dt, sl⟩ := o
  simp only at h2 h3
  subst h2 h3
  exact PySem.W.kia_tup Z I.kIn p h1 e hx fun tk => ⟨.bl b, H, I.tok tk, rfl, q⟩
theorem tyX_of (hh : Hh K G ms h H) {d : D} {v : V} (i : Is K G ms d v) : ∃ tv : Value, TyY K H v tv ∧ ∀ n ∈ clsD, PySem.W.kitOne K tv (.type n) = some (isSub (tyD h d) n) := by
  have base : TyX K H v (.type (tyD h d)) → ∃ tv : Value, TyY K H v tv ∧ ∀ n ∈ clsD, PySem.W.kitOne K tv (.type n) = some (isSub (tyD h d) n) := fun q => ⟨_, .x q, fun n hn => kit_ty (kit_tab _ tyD_mem n hn)⟩
  cases d with
  | non => cases i; exact base (.base .non)
  | bl b => cases i; exact base (.base (.bl _))
  | int j => cases i; exact base (.base (.int _))
  | str x => cases i; exact base (.base (.str _))
  | tup xs =>
    obtain ⟨a, vs, rfl, h2, _⟩ := hh.tuple i
    refine base ?_
    rcases h2 with (h2 | ⟨o, h2⟩) | ⟨o, its, n, hk, hc, _⟩
    · exact .base (.tup h2)
    · exact .fTuple h2
    · exact .kTuple hk hc
  | lst xs =>
    obtain ⟨a, vs, rfl, h2, _⟩ := hh.listX i rfl
    exact base (.base (.lst h2))
  | scr xs =>
    obtain ⟨a, vs, rfl, h2, _⟩ := hh.list i rfl
    refine base ?_
    rcases h2 with (h2 | ⟨o, h2⟩) | ⟨o, its, n, hk, hc, _⟩
    · exact .base (.lst h2)
    · exact .base (.frz h2)
    · exact .kList hk hc
  | loc m =>
    obtain ⟨a, h1, rfl⟩ := i
    have hl : m < h.length := by rw [← hh.len]; exact (List.getElem?_eq_some_iff.mp h1).1
    have q := hh.obj m a h[m] h1 (List.getElem?_eq_getElem hl)
    have et : tyD h (.loc m) = tyO (some h[m]) := by show tyO h[m]? = _; rw [List.getElem?_eq_getElem hl]
    cases ho : h[m] with
    | lst xs =>
      rw [ho] at q et
      obtain ⟨vs, h2, _⟩ := q
      exact base (by rw [et]; exact .base (.lst h2))
    | ins c fs =>
      rw [ho] at q et
      obtain ⟨C, dx, vs, _, cl, h2, _⟩ := q
      refine ⟨.ref C, .x (.base (.ins h2 cl.cls cl.ha cl.hn cl.htk cl.hm)), fun n hn => ?_⟩
      rw [et, cl.kit n hn]
      have : ∀ n ∈ clsD, isSub "object" n = false := by decide
      exact congrArg some (this n hn).symm
    | dct fz kvs =>
      rw [ho] at q et
      obtain ⟨xs, h2, _⟩ := q
      refine ⟨_, .dct h2, fun n hn => ?_⟩
      rw [et]
      exact kit_ty (kit_tab "dict" (by simp [tysD]) n hn)
    | dci fz kvs =>
      rw [ho] at q et
      cases fz with
      | false => exact base (by rw [et]; exact .base (.dK q))
      | true =>
        obtain ⟨od, h2⟩ := q
        refine ⟨_, .dci h2, fun n hn => ?_⟩
        rw [et]
        exact kit_ty (kit_tab "dict" (by simp [tysD]) n hn)
  | dic ks xs =>
    obtain ⟨a, vs, rfl, h2, _⟩ := i
    exact base (.base (.dK (hh.sub _ _ h2)))
def eIsi (ns : List String) (f : FE) : FE := fun s h => (f s h).bind fun d h1 => .ok (.bl (ns.any fun n => isSub (tyD h1 d) n)) h1
theorem kitAny_of {tv : Value} {t : String} (ht : ∀ n ∈ clsD, PySem.W.kitOne K tv (.type n) = some (isSub t n)) : ∀ {ns : List String}, (∀ n ∈ ns, n ∈ clsD) → PySem.W.kitAny K tv (ns.map Value.type) = some (ns.any fun n => isSub t n)
  | [], _ => rfl
  | n :: ns, h => by
    have e := ht n (h n List.mem_cons_self)
    refine kitAny_cons e (fun hb => ?_) fun hb => ?_
    · rw [List.any_cons, hb, Bool.false_or]
      exact kitAny_of ht fun m hm => h m (List.mem_cons_of_mem _ hm)
    · rw [List.any_cons, hb, Bool.true_or]
theorem ve_isi {n : String} {x : Str} {e : Expr} {f : FE} {p p2 : Pos} (he : VE X W pin e f) (hg : Gl X "isinstance") (hm : X.mg "isinstance" = none) (hg2 : Gl X x) (hm2 : X.mg x = none) (hv2 : bootBuiltins x = some (.type n)) (hn : n ∈ clsD) (hnn : x ≠ "__name__" := by decide) (hd : (x == ("__debug__" : Str)) = false := by decide)
    (hs : starEach [e, .Name x p2] X.env = (false, eval e X.env) :: starEach [.Name x p2] X.env := by rfl) (hs2 : starEach [.Name x p2] X.env = (false, eval (.Name x p2) X.env) :: starEach [] X.env := by rfl)
    (hpl : (backTo pos (starEach [.Name x p2] X.env)).any (·.1) = false := by rfl) : VE X W pin (.Call (.Name "isinstance" p) [e, .Name x p2] [] pos) (eIsi [n] f) := by
  refine pe_imp (pe_callB call_isiY hg hm (by decide +kernel) (pa_cons he (pa_cons (pe_bltn (v := .ty n) hg2 hm2 hv2 rfl hnn hd) pa_nil hs2) hs) (by decide) (by decide) hs hpl) fun σ H Q ⟨G, ms, s, h, hh, sl, q⟩ => ⟨G, ms, s, h, hh, sl, Post.bind q fun d h1 v H1 G1 ms1 e1 p1 hh1 i1 q1 => ?_⟩
  obtain ⟨tv, ty, kt⟩ := tyX_of hh1 i1
  refine ⟨v, _, _, _, _, rfl, .ty n, ty, kt n hn, ?_⟩
  have := q1.fin (b := V.bl ([n].any fun n => isSub (tyD h1 d) n)) hh1 rfl
  simpa using this
theorem ve_isiT {n n' : String} {x x' : Str} {e : Expr} {f : FE} {p p2 p3 p4 : Pos} {kk : Nat} (he : VE X W pin e f) (hg : Gl X "isinstance") (hm : X.mg "isinstance" = none) (hg2 : Gl X x) (hm2 : X.mg x = none) (hv2 : bootBuiltins x = some (.type n)) (hg3 : Gl X x') (hm3 : X.mg x' = none) (hv3 : bootBuiltins x' = some (.type n')) (hn : n ∈ clsD) (hn' : n' ∈ clsD)
    (hnn : x ≠ "__name__" := by decide) (hd : (x == ("__debug__" : Str)) = false := by decide) (hnn' : x' ≠ "__name__" := by decide) (hd' : (x' == ("__debug__" : Str)) = false := by decide)
    (hs : starEach [e, .Tuple [.Name x p2, .Name x' p3] kk p4] X.env = (false, eval e X.env) :: starEach [.Tuple [.Name x p2, .Name x' p3] kk p4] X.env := by rfl) (hs2 : starEach [.Tuple [.Name x p2, .Name x' p3] kk p4] X.env = (false, eval (.Tuple [.Name x p2, .Name x' p3] kk p4) X.env) :: starEach [] X.env := by rfl)
    (hs3 : starEach [.Name x p2, .Name x' p3] X.env = (false, eval (.Name x p2) X.env) :: starEach [.Name x' p3] X.env := by rfl) (hs4 : starEach [.Name x' p3] X.env = (false, eval (.Name x' p3) X.env) :: starEach [] X.env := by rfl)
    (hpl : (backTo pos (starEach [.Tuple [.Name x p2, .Name x' p3] kk p4] X.env)).any (·.1) = false := by rfl) : VE X W pin (.Call (.Name "isinstance" p) [e, .Tuple [.Name x p2, .Name x' p3] kk p4] [] pos) (eIsi [n, n'] f) := by
  refine pe_imp (pe_callB call_isiTY hg hm (by decide +kernel) (pa_cons he (pa_cons (pe_tup (pa_cons (pe_bltn (v := .ty n) hg2 hm2 hv2 rfl hnn hd) (pa_cons (pe_bltn (v := .ty n') hg3 hm3 hv3 rfl hnn' hd') pa_nil hs4) hs3)) pa_nil hs2) hs) (by decide) (by decide) hs hpl) fun σ H Q ⟨G, ms, s, h, hh, sl, q⟩ => ⟨G, ms, s, h, hh, sl, Post.bind q fun d h1 v H1 G1 ms1 e1 p1 hh1 i1 q1 => ?_⟩
  refine ⟨(by decide : 2 ≤ sizeLine), fun pp hp => ?_⟩
  have hn2 : ∀ m ∈ [n, n'], m ∈ clsD := by
    intro m hm
    rcases List.mem_cons.mp hm with rfl | hm
    · exact hn
    · rcases List.mem_cons.mp hm with rfl | hm
      · exact hn'
      · exact nomatch hm
  have hh2 := hh1.still (o := .tup [.ty n, .ty n']) hp (by decide : 2 ≤ sizeLine)
  have eg : GLe G1 (gupd G1 pp (.tup [.ty n, .ty n'])) := gle_upd (hh1.gnone hp)
  obtain ⟨tv, ty, kt⟩ := tyX_of hh2 (Is.mono eg (pre_refl _) _ _ i1)
  refine ⟨v, pp, [.ty n, .ty n'], _, [.type n, .type n'], _, rfl, upd_same, .cons (.ty n) (.cons (.ty n') .nil), ty, kitAny_of kt hn2, ?_⟩
  exact q1.fin2 (b := V.bl ([n, n'].any fun n => isSub (tyD h1 d) n)) eg (pre_refl _) hh2 rfl
end
end WD
namespace WD
open PySem PySem.Spec PyProof.Rows L2
def intsOf : List D → Option (List Int)
  | [] => some []
  | .int i :: r => match intsOf r with
    | some ns => some (i :: ns)
    | none => none
  | _ => none
theorem intsOf_eq : ∀ {ds : List D} {ns : List Int}, intsOf ds = some ns → ds = ns.map D.int
  | [], ns, e => by cases e; rfl
  | d :: ds, ns, e => by
    cases d with
    | int i =>
      unfold intsOf at e
      split at e
      · rename_i ns' e'
        cases e
        rw [intsOf_eq e']; rfl
      · cases e
    | _ => simp [intsOf] at e
@[simp] theorem intsOf_map : ∀ (ns : List Int), intsOf (ns.map D.int) = some ns
  | [] => rfl
  | n :: ns => by simp [intsOf, intsOf_map ns]
def bolsOf : List D → Option (List Bool)
  | [] => some []
  | .bl i :: r => match bolsOf r with
    | some ns => some (i :: ns)
    | none => none
  | _ => none
@[simp] theorem bolsOf_map : ∀ (ns : List Bool), bolsOf (ns.map D.bl) = some ns
  | [] => rfl
  | n :: ns => by simp [bolsOf, bolsOf_map ns]
section
variable {X : Cx} {W : WX} {pin : List Pn} {K : PySem.W.Frag} {mg : Str → Option Value} {E : XK} {G G' : GG} {H : Hp} {ms ms' : List Addr} {h : Hs} {pos : Pos} {a b c : Expr} {rest : List Expr}
def sumD : List D → Hs → R D
  | [d], h => match rowOf h d with
    | some xs => match intsOf xs with
      | some ns => .ok (.int ns.sum) h
      | none => .bad
    | none => .bad
  | _, _ => .bad
def maxL : List Int → Int
  | [] => 0
  | n :: ns => ns.foldl (fun a b => if b > a then b else a) n
def minL : List Int → Int
  | [] => 0
  | n :: ns => ns.foldl (fun a b => if b < a then b else a) n
theorem foldl_max : ∀ (ns : List Int) (n : Int), n ≤ ns.foldl (fun a b => if b > a then b else a) n ∧ (∀ m ∈ ns, m ≤ ns.foldl (fun a b => if b > a then b else a) n) ∧ (ns.foldl (fun a b => if b > a then b else a) n = n ∨ ns.foldl (fun a b => if b > a then b else a) n ∈ ns)
  | [], n => ⟨Int.le_refl _, fun _ h => (nomatch h), .inl rfl⟩
  | m :: ns, n => by
    obtain ⟨h1, h2, h3⟩ := foldl_max ns (if m > n then m else n)
    rw [List.foldl_cons]
    refine ⟨?_, fun k hk => ?_, ?_⟩
    · refine Int.le_trans ?_ h1; split <;> omega
    · rcases List.mem_cons.mp hk with rfl | hk
      · refine Int.le_trans ?_ h1; split <;> omega
      · exact h2 k hk
    · rcases h3 with h3 | h3
      · rw [h3]
        split
        · exact .inr List.mem_cons_self
        · exact .inl rfl
      · exact .inr (List.mem_cons_of_mem _ h3)
theorem foldl_min : ∀ (ns : List Int) (n : Int), ns.foldl (fun a b => if b < a then b else a) n ≤ n ∧ (∀ m ∈ ns, ns.foldl (fun a b => if b < a then b else a) n ≤ m) ∧ (ns.foldl (fun a b => if b < a then b else a) n = n ∨ ns.foldl (fun a b => if b < a then b else a) n ∈ ns)
  | [], n => ⟨Int.le_refl _, fun _ h => (nomatch h), .inl rfl⟩
  | m :: ns, n => by
    obtain ⟨h1, h2, h3⟩ := foldl_min ns (if m < n then m else n)
    rw [List.foldl_cons]
    refine ⟨?_, fun k hk => ?_, ?_⟩
    · refine Int.le_trans h1 ?_; split <;> omega
    · rcases List.mem_cons.mp hk with rfl | hk
      · refine Int.le_trans h1 ?_; split <;> omega
      · exact h2 k hk
    · rcases h3 with h3 | h3
      · rw [h3]
        split
        · exact .inr List.mem_cons_self
        · exact .inl rfl
      · exact .inr (List.mem_cons_of_mem _ h3)
theorem maxL_is {ns : List Int} {m : Int} (hm : m ∈ ns) (hl : ∀ y ∈ ns, y ≤ m) : m = maxL ns := by
  cases ns with
  | nil => cases hm
  | cons n ns =>
    obtain ⟨h1, h2, h3⟩ := foldl_max ns n
    have hu : maxL (n :: ns) ≤ m := by
      rcases h3 with h3 | h3
      · show ns.foldl _ n ≤ m; rw [h3]; exact hl n List.mem_cons_self
      · exact hl _ (List.mem_cons_of_mem _ h3)
    have hd : m ≤ maxL (n :: ns) := by
      rcases List.mem_cons.mp hm with rfl | hm
      · exact h1
      · exact h2 m hm
    omega
theorem minL_is {ns : List Int} {m : Int} (hm : m ∈ ns) (hl : ∀ y ∈ ns, m ≤ y) : m = minL ns := by
  cases ns with
  | nil => cases hm
  | cons n ns =>
    obtain ⟨h1, h2, h3⟩ := foldl_min ns n
    have hu : m ≤ minL (n :: ns) := by
      rcases h3 with h3 | h3
      · show m ≤ ns.foldl _ n; rw [h3]; exact hl n List.mem_cons_self
      · exact hl _ (List.mem_cons_of_mem _ h3)
    have hd : minL (n :: ns) ≤ m := by
      rcases List.mem_cons.mp hm with rfl | hm
      · exact h1
      · exact h2 m hm
    omega
def maxD : List D → Hs → R D
  | [.int i, .int j], h => .ok (.int (if j > i then j else i)) h
  | [d], h => match rowOf h d with
    | some xs => match intsOf xs with
      | some ns => if 0 < ns.length then .ok (.int (maxL ns)) h else .bad
      | none => .bad
    | none => .bad
  | _, _ => .bad
def minD : List D → Hs → R D
  | [.int i, .int j], h => .ok (.int (if j < i then j else i)) h
  | [d], h => match rowOf h d with
    | some xs => match intsOf xs with
      | some ns => if 0 < ns.length then .ok (.int (minL ns)) h else .bad
      | none => .bad
    | none => .bad
  | _, _ => .bad
def rMaxT (K : PySem.W.Frag) (lt : Int → Int → Prop) : List V → Hp → VK → Prop := fun vs H Q => ∃ (a : Addr) (ns : List Int), vs = [V.ref a] ∧ SqT K H a (ns.map V.int) ∧ 0 < ns.length ∧ ∀ m, m ∈ ns → (∀ y, y ∈ ns → lt y m) → Q (.int m) H
theorem iter_tupI {prog : Program} {w : World} {A : Around} {E : Value → Shared → Prop} {s : Shared} {t : Addr} {its : Array Value} {Q : Value → Shared → Prop} (ht : s.heap.IsTuple t its)
    (h : ∀ s2 : Shared, s2 = { s with heap := s.heap.push { cls := .type "tuple_iterator", data := .fields #[.ref t, .int 0 0] } } → (s2.heap.IsTupleIter s.heap.objs.size t 0 ∧ s2.heap.IsTuple t its) → (∀ b ∈ [s.heap.objs.size, t], b < s2.heap.objs.size) → t ≠ s.heap.objs.size → Q (.ref s.heap.objs.size) s2) :
    wpAny (model prog w) A (pyIter (.ref t)) Q E s := by
  have hlt : t < s.heap.objs.size := by obtain ⟨_, e, _⟩ := ht; exact Heap.lt_size e
  refine wpAny_pyIter_tuple ht (h _ rfl ⟨⟨_, Heap.get?_push_size _ rfl, rfl, rfl⟩, ht.at fun o e => Heap.get?_push_of_some _ e⟩ (fun b hb => ?_) (Nat.ne_of_lt hlt))
  show b < (s.heap.push _).objs.size
  rw [Heap.size_push]
  rcases (show b = s.heap.objs.size ∨ b = t by simpa using hb) with rfl | rfl
  · exact Nat.lt_succ_self _
  · exact Nat.lt_succ_of_lt hlt
theorem cr_maxT (hc : X.calm = true) : CallR X (.builtin "max") (rMaxT X.K fun y m => y ≤ m) := by
  intro pins s σ H vs us Q I r h
  obtain ⟨a, ns, rfl, hs, hne, q⟩ := h
  obtain ⟨its, rv, hl, _⟩ := I.tuple hs
  rw [Vals.ref1 r]
  obtain ⟨xs, e⟩ := rv.ints.allInts.items
  have hn : numsOf (intItems xs).toList = ns := by rw [← e]; exact rv.ints.numsOf
  rw [nums_intItems] at hn
  subst hn
  rw [e] at hl
  have hsz : 0 < xs.size := by simpa using hne
  refine call_max_walk (iter_tupI hl fun s2 e2 st hfp hne2 => ?_)
  subst e2
  refine ⟨_, _, _, _, _, _, _, rfl, Walks.tuple (A := X.A.in1) (I.ok.hd hc) _ a hne2 (intItems xs), st, hfp, by simpa [intItems] using hsz, CmpOf.ints_gt (numAt xs) (fun _ _ => intItems_at), fun v h' tk hP hk => ?_⟩
  obtain ⟨t, rfl⟩ := intItems_at hP
  obtain ⟨h1, h2⟩ := argBest_gt (numAt xs) (xs.size - 1)
  have hz : (intItems xs).size = xs.size := by simp [intItems]
  rw [hz] at hP ⊢
  refine ⟨.int _, H, I.kept (t' := tk) fun b o e => hk b o (fun z => absurd (Heap.lt_size e) (by rw [List.mem_singleton.mp z]; exact Nat.lt_irrefl _)) (Heap.get?_push_of_some _ e), ⟨_, rfl⟩, q _ ?_ fun y hy => ?_⟩
  · rw [numAt_eq]; exact PySem.getD_mem (by rw [List.length_map, Array.length_toList]; omega)
  · obtain ⟨j, hj, rfl⟩ := mem_getD hy
    rw [List.length_map, Array.length_toList] at hj
    rw [← numAt_eq]; exact h2 j (by omega)
theorem cr_minT (hc : X.calm = true) : CallR X (.builtin "min") (rMaxT X.K fun y m => m ≤ y) := by
  intro pins s σ H vs us Q I r h
  obtain ⟨a, ns, rfl, hs, hne, q⟩ := h
  obtain ⟨its, rv, hl, _⟩ := I.tuple hs
  rw [Vals.ref1 r]
  obtain ⟨xs, e⟩ := rv.ints.allInts.items
  have hn : numsOf (intItems xs).toList = ns := by rw [← e]; exact rv.ints.numsOf
  rw [nums_intItems] at hn
  subst hn
  rw [e] at hl
  have hsz : 0 < xs.size := by simpa using hne
  refine call_min_walk (iter_tupI hl fun s2 e2 st hfp hne2 => ?_)
  subst e2
  refine ⟨_, _, _, _, _, _, _, rfl, Walks.tuple (A := X.A.in1) (I.ok.hd hc) _ a hne2 (intItems xs), st, hfp, by simpa [intItems] using hsz, CmpOf.ints_lt (numAt xs) (fun _ _ => intItems_at), fun v h' tk hP hk => ?_⟩
  obtain ⟨t, rfl⟩ := intItems_at hP
  obtain ⟨h1, h2⟩ := argBest_lt (numAt xs) (xs.size - 1)
  have hz : (intItems xs).size = xs.size := by simp [intItems]
  rw [hz] at hP ⊢
  refine ⟨.int _, H, I.kept (t' := tk) fun b o e => hk b o (fun z => absurd (Heap.lt_size e) (by rw [List.mem_singleton.mp z]; exact Nat.lt_irrefl _)) (Heap.get?_push_of_some _ e), ⟨_, rfl⟩, q _ ?_ fun y hy => ?_⟩
  · rw [numAt_eq]; exact PySem.getD_mem (by rw [List.length_map, Array.length_toList]; omega)
  · obtain ⟨j, hj, rfl⟩ := mem_getD hy
    rw [List.length_map, Array.length_toList] at hj
    rw [← numAt_eq]; exact h2 j (by omega)
theorem cd_max (hc : X.calm = true) : CallD X (.builtin "max") maxD := by
  intro pins s σ H xs us Q I r ⟨G, ms, h, ds, hh, i, q⟩
  unfold maxD at q
  split at q
  · obtain ⟨v, w, rfl, i1, i2⟩ := isL2 i
    cases i1; cases i2
    exact call_max2 hc pins s σ H _ us Q I r ⟨_, _, rfl, q.fin hh rfl⟩
  · obtain ⟨v, rfl, i1⟩ := isL1 (ds := []) i
    split at q
    · rename_i ys e
      split at q
      · rename_i ns e2
        split at q
        · rename_i hl
          obtain ⟨p, vs, rfl, h2, h3⟩ := hh.row i1 e
          rw [intsOf_eq e2] at h3
          rw [h3.ints] at h2
          rcases h2 with h2 | h2
          · exact cr_max hc pins s σ H _ us Q I r ⟨p, ns, rfl, h2, hl, fun m h1 h2 => by rw [maxL_is h1 h2]; exact q.fin hh rfl⟩
          · exact cr_maxT hc pins s σ H _ us Q I r ⟨p, ns, rfl, h2, hl, fun m h1 h2 => by rw [maxL_is h1 h2]; exact q.fin hh rfl⟩
        · exact q.elim
      · exact q.elim
    · exact q.elim
  · exact q.elim
theorem cd_min (hc : X.calm = true) : CallD X (.builtin "min") minD := by
  intro pins s σ H xs us Q I r ⟨G, ms, h, ds, hh, i, q⟩
  unfold minD at q
  split at q
  · obtain ⟨v, w, rfl, i1, i2⟩ := isL2 i
    cases i1; cases i2
    exact call_min2 hc pins s σ H _ us Q I r ⟨_, _, rfl, q.fin hh rfl⟩
  · obtain ⟨v, rfl, i1⟩ := isL1 (ds := []) i
    split at q
    · rename_i ys e
      split at q
      · rename_i ns e2
        split at q
        · rename_i hl
          obtain ⟨p, vs, rfl, h2, h3⟩ := hh.row i1 e
          rw [intsOf_eq e2] at h3
          rw [h3.ints] at h2
          rcases h2 with h2 | h2
          · exact cr_min hc pins s σ H _ us Q I r ⟨p, ns, rfl, h2, hl, fun m h1 h2 => by rw [minL_is h1 h2]; exact q.fin hh rfl⟩
          · exact cr_minT hc pins s σ H _ us Q I r ⟨p, ns, rfl, h2, hl, fun m h1 h2 => by rw [minL_is h1 h2]; exact q.fin hh rfl⟩
        · exact q.elim
      · exact q.elim
    · exact q.elim
  · exact q.elim
def intD : List D → Hs → R D
  | [.int i], h => .ok (.int i) h
  | [.bl k], h => .ok (.int (if k = true then 1 else 0)) h
  | _, _ => .bad
theorem cd_int : CallD X (.type "int") intD := by
  intro pins s σ H xs us Q I r ⟨G, ms, h, ds, hh, i, q⟩
  unfold intD at q
  split at q
  · obtain ⟨v, rfl, i1⟩ := isL1 (ds := []) i
    cases i1
    exact call_int1 pins s σ H _ us Q I r (.inl ⟨_, rfl, q.fin hh rfl⟩)
  · obtain ⟨v, rfl, i1⟩ := isL1 (ds := []) i
    cases i1
    exact call_int1 pins s σ H _ us Q I r (.inr ⟨_, rfl, q.fin hh rfl⟩)
  · exact q.elim
def listD (m : Bool) : List D → Hs → R D
  | [d], h => match rowOf h d with
    | some xs => newL m xs h
    | none => .bad
  | _, _ => .bad
theorem cd_list (m : Bool) : CallD X (.type "list") (listD m) := by
  intro pins s σ H xs us Q I r ⟨G, ms, h, ds, hh, i, q⟩
  unfold listD at q
  split at q
  · obtain ⟨v, rfl, i1⟩ := isL1 (ds := []) i
    split at q
    · rename_i ys e
      obtain ⟨p, vs, rfl, h2, h3⟩ := hh.row i1 e
      exact call_list_of pins s σ H _ us Q I r ⟨p, vs, rfl, h2, fun l hl => q.newL hh h3 (hh.rowz i1 e) hl⟩
    · exact q.elim
  · exact q.elim
def tupleD : List D → Hs → R D
  | [d], h => match rowOf h d with
    | some xs => .ok (.tup xs) h
    | none => .bad
  | _, _ => .bad
theorem cd_tuple : CallD X (.type "tuple") tupleD := by
  intro pins s σ H xs us Q I r ⟨G, ms, h, ds, hh, i, q⟩
  unfold tupleD at q
  split at q
  · rename_i d
    obtain ⟨v, rfl, i1⟩ := isL1 (ds := []) i
    split at q
    · rename_i ys e
      have lists : ∀ p vs, v = V.ref p → SqL X.K H p vs → IsL X.K G ms ys vs → wpAny (model X.prog X.w) X.A (call (.type "tuple") us) (EP X pins σ Q) X.xe s := fun p vs e1 h2 h3 => by
        subst e1
        exact call_tuple_of pins s σ H _ us Q I r ⟨p, vs, rfl, .inl ⟨h2, fun l hl => q.newT hh h3 (hh.rowz i1 e) hl⟩⟩
      cases d with
      | tup zs =>
        cases e
        obtain ⟨p, vs, rfl, h2, h3⟩ := hh.tuple i1
        exact call_tuple_of pins s σ H _ us Q I r ⟨p, vs, rfl, .inr ⟨h2, q.fin hh i1⟩⟩
      | _ =>
        obtain ⟨p, vs, e1, h2, h3⟩ := hh.list i1 e
        exact lists p vs e1 h2 h3
    · exact q.elim
  · exact q.elim
end
end WD
namespace WD
open PySem PySem.Spec PyProof.Rows L2
section
variable {X : Cx} {W : WX} {pin : List Pn} {K : PySem.W.Frag} {mg : Str → Option Value} {E : XK} {G G' : GG} {H : Hp} {ms ms' : List Addr} {h : Hs} {pos : Pos} {a b c : Expr} {rest : List Expr}
def rdM (K : PySem.W.Frag) (g : D → List D → Hs → R D) : V → List V → Hp → VK → Prop := fun x xs H Q => ∃ G ms h d ds, Hh K G ms h H ∧ Is K G ms d x ∧ IsL K G ms ds xs ∧ Post K (fun _ => none) (fun _ _ _ => False) G ms (Is K) (g d ds h) Q
def MtD (X : Cx) (id : String) (g : D → List D → Hs → R D) : Prop := MtR X id (rdM X.K g)
/-- o.m(..), o a list -/
def eML (g : D → List D → Hs → R D) (fo : FE) (fa : FA) : FE := fun s h => (fo s h).bind fun d h1 => match lstOf h1 d with
  | some _ => (fa s h1).bind fun ds h2 => calm1 (g d ds h2)
  | none => .bad
theorem ve_ml {o e : Expr} {es : List Expr} {name : Str} {apos cpos : Pos} {id : String} {g : D → List D → Hs → R D} {fo : FE} {fa : FA} (slot : Slot "list" name id) (hty : typeOf (.builtin id) = pure (.type "method_descriptor")) (hm : MtD X id g) (ho : VE X W pin o fo) (ha : VA X W pin (e :: es) fa)
    (hbase : attributeBase o name X.env (eval o X.env) = eval o X.env := by rfl)
    (hfew : ((backTo cpos (starEach (e :: es) X.env)).all (fun x => !x.1) && (backToKw cpos (keywordEach [] X.env)).all (fun x => x.1.isSome)
      && decide ((e :: es).length + ([] : List Keyword).length + (if ([] : List Keyword).isEmpty then 0 else 1) < 30)) = true := by rfl)
    (hline : (apos.endLine == cpos.line) = true := by rfl) (hs : starEach (e :: es) X.env = (false, eval e X.env) :: starEach es X.env := by rfl) (hplain : (backTo cpos (starEach es X.env)).any (·.1) = false := by rfl) :
    VE X W pin (.Call (.Attribute o name apos) (e :: es) [] cpos) (eML g fo fa) := by
  refine pe_imp (pe_bm PySem.F.plainAttrs_list slot hty hm ho ha hbase hfew hline hs hplain) fun σ H Q ⟨G, ms, s, h, hh, sl, q⟩ => ⟨G, ms, s, h, hh, sl, Post.bind q fun d h1 v H1 G1 ms1 e1 p1 hh1 i1 q1 => ?_⟩
  split at q1
  · rename_i xs hx
    obtain ⟨p, vs, rfl, h2, h3⟩ := hh1.list i1 hx
    refine ⟨.inl ⟨rfl, vs, h2⟩, G1, ms1, s, h1, hh1, sl.mono e1 p1, Post.bind q1 fun ds h2 ws H2 G2 ms2 e2 p2 hh2 i2 q2 => ?_⟩
    exact ⟨G2, ms2, h2, d, ds, hh2, Is.mono e2 p2 _ _ i1, i2, calm1_post q2⟩
  · exact q1.elim
theorem ve_ml0 {o : Expr} {name : Str} {apos cpos : Pos} {id : String} {g : D → List D → Hs → R D} {fo : FE} (slot : Slot "list" name id) (hty : typeOf (.builtin id) = pure (.type "method_descriptor")) (hm : MtD X id g) (ho : VE X W pin o fo)
    (hbase : attributeBase o name X.env (eval o X.env) = eval o X.env := by rfl) (hline : (apos.endLine == cpos.line) = true := by rfl) :
    VE X W pin (.Call (.Attribute o name apos) [] [] cpos) (eML g fo aNil) := by
  refine pe_imp (pe_bm0 PySem.F.plainAttrs_list slot hty hm ho hbase hline) fun σ H Q ⟨G, ms, s, h, hh, sl, q⟩ => ⟨G, ms, s, h, hh, sl, Post.bind q fun d h1 v H1 G1 ms1 e1 p1 hh1 i1 q1 => ?_⟩
  split at q1
  · rename_i xs hx
    obtain ⟨p, vs, rfl, h2, h3⟩ := hh1.list i1 hx
    exact ⟨.inl ⟨rfl, vs, h2⟩, G1, ms1, h1, d, [], hh1, i1, rfl, calm1_post q1⟩
  · exact q1.elim
/-- a list that may be changed is read, and changed -/
theorem Hh.locW (hh : Hh K G ms h H) {n : Nat} {v : V} {xs : List D} (i : Is K G ms (.loc n) v) (e : locAt h n = some xs) : ∃ a vs, v = .ref a ∧ ms[n]? = some a ∧ H a = some (.lst vs) ∧ IsL K G ms xs vs := by
  obtain ⟨a, h1, h2⟩ := i
  obtain ⟨a', vs, q1, q2, q3⟩ := hh.at (locAt_some e)
  rw [h1] at q1; cases q1
  exact ⟨a, vs, h2, h1, q2, q3⟩
theorem Post.wrote {n : Nat} {d : D} {v : V} {p : Addr} {xs : List D} {vs vs0 : List V} {Q : VK} (q : Post K mg E G ms (Is K) (.ok d (h.set n (.lst xs))) Q) (hh : Hh K G ms h H) (e : ms[n]? = some p) (hw : H p = some (.lst vs0)) (hx : IsL K G ms xs vs) (hz : xs.length ≤ sizeLine) (i : Is K G ms d v) : Q v (upd H p (.lst vs)) :=
  q.fin (hh.write e hw hx hz) i
def appendD : D → List D → Hs → R D
  | .loc n, [d], h => match locAt h n with
    | some xs => if xs.length < sizeLine then .ok .non (h.set n (.lst (xs ++ [d]))) else .bad
    | none => .bad
  | _, _, _ => .bad
theorem md_append : MtD X "list.append" appendD := by
  intro pins s σ H x xs v us Q I rx rs ⟨G, ms, h, d, ds, hh, i, il, q⟩
  unfold appendD at q
  split at q
  · obtain ⟨w, rfl, i1⟩ := isL1 (ds := []) il
    split at q
    · rename_i ys e
      split at q
      · rename_i hz
        obtain ⟨p, vs, rfl, h1, h2, h3⟩ := hh.locW i e
        exact mt_append pins s σ H _ _ v us Q I rx rs ⟨p, vs, w, rfl, rfl, h2, by rw [← h3.length]; exact hz, q.wrote hh h1 h2 (h3.append (.one i1)) (by rw [List.length_append]; exact hz) rfl⟩
      · exact q.elim
    · exact q.elim
  · exact q.elim
def popD : D → List D → Hs → R D
  | .loc n, [], h => match locAt h n with
    | some xs => match xs.getLast? with
      | some d => .ok d (h.set n (.lst xs.dropLast))
      | none => .bad
    | none => .bad
  | _, _, _ => .bad
theorem md_pop : MtD X "list.pop" popD := by
  intro pins s σ H x xs v us Q I rx rs ⟨G, ms, h, d, ds, hh, i, il, q⟩
  unfold popD at q
  split at q
  · cases il
    split at q
    · rename_i ys e
      split at q
      · rename_i d e2
        obtain ⟨p, vs, rfl, h1, h2, h3⟩ := hh.locW i e
        rw [List.getLast?_eq_getElem?] at e2
        obtain ⟨w, k1, k2⟩ := h3.get e2
        exact mt_pop pins s σ H _ _ v us Q I rx rs ⟨p, vs, w, rfl, rfl, h2, by rw [← h3.length]; exact k1, q.wrote hh h1 h2 h3.dropLast (by rw [List.length_dropLast]; exact Nat.le_trans (Nat.sub_le _ _) (hh.atz (locAt_some e))) k2⟩
      · exact q.elim
    · exact q.elim
  · exact q.elim
def reverseD : D → List D → Hs → R D
  | .loc n, [], h => match locAt h n with
    | some xs => .ok .non (h.set n (.lst xs.reverse))
    | none => .bad
  | _, _, _ => .bad
theorem md_reverse : MtD X "list.reverse" reverseD := by
  intro pins s σ H x xs v us Q I rx rs ⟨G, ms, h, d, ds, hh, i, il, q⟩
  unfold reverseD at q
  split at q
  · cases il
    split at q
    · rename_i ys e
      obtain ⟨p, vs, rfl, h1, h2, h3⟩ := hh.locW i e
      exact mt_reverse pins s σ H _ _ v us Q I rx rs ⟨p, vs, rfl, rfl, h2, q.wrote hh h1 h2 h3.rev (by rw [List.length_reverse]; exact hh.atz (locAt_some e)) rfl⟩
    · exact q.elim
  · exact q.elim
def ixD : D → D → Hs → R D
  | .str x, .int i, h => if x.length ≤ sizeLine then (match atI x.cps.toList i with
    | some c => .ok (.str ⟨#[c]⟩) h
    | none => .bad) else .bad
  | d, .int i, h => match rowOf h d with
    | some xs => match atI xs i with
      | some e => .ok e h
      | none => .bad
    | none => .bad
  | _, _, _ => .bad
theorem atI_is {xs : List D} {vs : List V} {i : Int} {d : D} (il : IsL K G ms xs vs) (e : atI xs i = some d) : ∃ v, atI vs i = some v ∧ Is K G ms d v := by
  unfold atI at e
  cases q : ixN xs.length i with
  | none => rw [q] at e; cases e
  | some j =>
    rw [q] at e
    obtain ⟨v, h1, h2⟩ := il.get (show xs[j]? = some d from e)
    refine ⟨v, ?_, h2⟩
    unfold atI
    rw [← il.length, q]
    exact h1
theorem id_ix : IxR X (rd2 X.K ixD) := by
  intro value slice pins s σ H x y v u Q I rx ry ⟨G, ms, h, da, db, hh, ia, ib, q⟩ hs
  unfold ixD at q
  split at q
  · cases ia; cases ib
    split at q
    · rename_i hz
      split at q
      · rename_i c e
        exact ix_seq value slice pins s σ H _ _ v u Q I rx ry (.inr (.inr ⟨_, _, _, rfl, rfl, hz, e, q.fin hh rfl⟩)) hs
      · exact q.elim
    · exact q.elim
  · cases ib
    split at q
    · rename_i xs e
      split at q
      · rename_i d e2
        obtain ⟨p, vs, rfl, h2, h3⟩ := hh.row ia e
        obtain ⟨w, k1, k2⟩ := atI_is h3 e2
        rcases h2 with h2 | h2
        · exact ix_seq value slice pins s σ H _ _ v u Q I rx ry (.inl ⟨p, vs, _, w, rfl, rfl, h2, k1, q.fin hh k2⟩) hs
        · exact ix_seq value slice pins s σ H _ _ v u Q I rx ry (.inr (.inl ⟨p, vs, _, w, rfl, rfl, h2, k1, q.fin hh k2⟩)) hs
      · exact q.elim
    · exact q.elim
  · exact q.elim
theorem ve_ix {fa fb : FE} (ha : VE X W pin a fa) (hb : VE X W pin b fb) (hs : PlainIx b := by exact fun _ _ => rfl) : VE X W pin (.Subscript a b pos) (eBin ixD fa fb) :=
  pe_imp (pe_ix id_ix ha hb hs) fun _ _ _ h => op_read h
def cutD (xs : List D) (lo hi : Option Int) : List D := (xs.drop (HT.sIx xs.length 0 lo)).take (HT.sIx xs.length xs.length hi - HT.sIx xs.length 0 lo)
def FO : Type := Ss → Hs → R (Option Int)
def oNone : FO := fun _ h => .ok none h
def oSome (f : FE) : FO := fun s h => (f s h).bind fun d h1 => match d with
  | .int i => .ok (some i) h1
  | _ => .bad
def slD (m : Bool) (d : D) (lo hi : Option Int) (h : Hs) : R D := match d with
  | .tup xs => .ok (.tup (cutD xs lo hi)) h
  | d => match lstOf h d with
    | some xs => newL m (cutD xs lo hi) h
    | none => .bad
def eSl (m : Bool) (f : FE) (fl fh : FO) : FE := fun s h => (f s h).bind fun d h1 => (fl s h1).bind fun lo h2 => (fh s h2).bind fun hi h3 => slD m d lo hi h3
def setD (o i v : D) (h : Hs) : Option Hs := match o, i with
  | .loc n, .int k => match locAt h n with
    | some xs => match ixN xs.length k with
      | some j => some (h.set n (.lst (xs.set j v)))
      | none => none
    | none => none
  | _, _ => none
def sItem (fo fi fe : FE) : FS := fun s h => RS.ofR s (fe s h) fun v h1 => RS.ofR s (fo s h1) fun o h2 => RS.ofR s (fi s h2) fun i h3 => match setD o i v h3 with
  | some h4 => .nx s h4
  | none => .bad
theorem vs_item {o i e : Expr} {fo fi fe : FE} {pos' : Pos} (he : VE X W pin e fe) (ho : VE X W pin o fo) (hi : VE X W pin i fi)
    (ha : ∀ v, assign (.Subscript o i pos') X.env v = (do
      let ov ← holding [v] (eval o X.env)
      let iv ← holding [v, ov] (eval i X.env)
      standAt pos'
      holding [v, ov, iv] (setItem ov iv v)
      release [v, ov, iv] []) := by intro _; rfl)
    (hs : swapsWithSole [.Subscript o i pos'] e pos.line X.env = pure false := by rfl) (hw : swappedStores [.Subscript o i pos'] e X.env = pure none := by rfl)
    (h1 : (assignEach [.Subscript o i pos'] X.env).map (·.2) = [assign (.Subscript o i pos') X.env] := by rfl) : VS X W pin (.Assign [.Subscript o i pos'] e pos) (sItem fo fi fe) := by
  refine ps_imp (ps_asg he (pg_sub ho hi set_list ha) hs hw h1) fun D σ H ⟨G, ms, s, h, hh, sl, q⟩ => ⟨G, ms, s, h, hh, sl, PostS.ofR sl q fun dv h1 v H1 G1 ms1 e1 p1 hh1 i1 q1 => ?_⟩
  refine ⟨G1, ms1, s, h1, hh1, sl.mono e1 p1, PostS.ofR (sl.mono e1 p1) q1 fun od h2 ov H2 G2 ms2 e2 p2 hh2 i2 q2 => ?_⟩
  refine ⟨G2, ms2, s, h2, hh2, (sl.mono e1 p1).mono e2 p2, PostS.ofR ((sl.mono e1 p1).mono e2 p2) q2 fun id h3 iv H3 G3 ms3 e3 p3 hh3 i3 q3 => ?_⟩
  split at q3
  · rename_i h4 es
    have i1' := Is.mono (e2.trans e3) (pre_trans p2 p3) _ _ i1
    have i2' := Is.mono e3 p3 _ _ i2
    unfold setD at es
    split at es
    · rename_i n k
      split at es
      · rename_i xs ex
        split at es
        · rename_i j ej
          cases es
          cases i3
          obtain ⟨p, vs, rfl, k1, k2, k3⟩ := hh3.locW i2' ex
          refine ⟨p, vs, k, j, rfl, rfl, k2, by rw [← k3.length]; exact ej, ?_⟩
          exact q3 σ _ G3 ms3 (GLe.refl _) (pre_refl _) (hh3.write k1 k2 (k3.set j i1') (by rw [List.length_set]; exact hh3.atz (locAt_some ex))) (((sl.mono e1 p1).mono e2 p2).mono e3 p3)
        · cases es
      · cases es
    · cases es
  · exact q3.elim
def ipAddD : D → D → Hs → R D
  | .int i, .int j, h => .ok (.int (i + j)) h
  | _, _, _ => .bad
def ipSubD : D → D → Hs → R D
  | .int i, .int j, h => .ok (.int (i - j)) h
  | _, _, _ => .bad
/-- x += e: ints -/
def sAug (i : Nat) (g : D → D → Hs → R D) (f : FE) : FS := fun s h => match s[i]? with
  | some (some x) => RS.ofR s (f s h) fun y h1 => RS.ofR s (calm2 g x y h1) fun z h2 => .nx (s.set i (some z)) h2
  | _ => .bad
end
end WD
namespace WD
open PySem PySem.Spec PyProof.Rows L2
abbrev Tg : Type := D → Ss → Hs → Option Ss
def gVar (i : Nat) : Tg := fun d s _ => some (s.set i (some d))
def unp : List Tg → List D → Ss → Hs → Option Ss
  | [], [], s, _ => some s
  | g :: gs, d :: ds, s, h => match g d s h with
    | some s' => unp gs ds s' h
    | none => none
  | _, _, _, _ => none
def gUn (gs : List Tg) : Tg := fun d s h => match rowOf h d with
  | some xs => unp gs xs s h
  | none => none
/-- σ' is σ but for the slots vs -/
structure But (vs : List Nat) (σ σ' : L2.St) : Prop where
  len : σ'.length = σ.length
  out : ∀ j, j ∉ vs → σ'[j]? = σ[j]?
theorem But.refl {vs : List Nat} {σ : L2.St} : But vs σ σ := ⟨rfl, fun _ _ => rfl⟩
theorem But.trans {vs : List Nat} {σ σ1 σ2 : L2.St} (a : But vs σ σ1) (b : But vs σ1 σ2) : But vs σ σ2 := ⟨b.len.trans a.len, fun j hj => (b.out j hj).trans (a.out j hj)⟩
section
variable (X : Cx) (pin : List Pn)
def rdG (vs : List Nat) (g : Tg) : TG := fun v σ H Q => ∃ G ms s h d, Hh X.K G ms h H ∧ Sl X.K G ms pin s σ ∧ Is X.K G ms d v ∧ match g d s h with
  | some s' => ∀ σ', But vs σ σ' → Sl X.K G ms pin s' σ' → Q σ' H
  | none => False
def rdGs (vs : List Nat) (gs : List Tg) : TGs := fun ws σ H Q => ∃ G ms s h ds, Hh X.K G ms h H ∧ Sl X.K G ms pin s σ ∧ IsL X.K G ms ds ws ∧ match unp gs ds s h with
  | some s' => ∀ σ', But vs σ σ' → Sl X.K G ms pin s' σ' → Q σ' H
  | none => False
end
abbrev VG (X : Cx) (pin : List Pn) (vs : List Nat) (e : Expr) (g : Tg) : Prop := PG X e (rdG X pin vs g)
abbrev VGs (X : Cx) (pin : List Pn) (vs : List Nat) (es : List Expr) (gs : List Tg) : Prop := PGs X es (rdGs X pin vs gs)
section
variable {X : Cx} {W : WX} {pin : List Pn} {K : PySem.W.Frag} {mg : Str → Option Value} {E : XK} {G G' : GG} {H : Hp} {ms ms' : List Addr} {h : Hs} {pos : Pos} {a b c : Expr} {rest : List Expr} {vs : List Nat}
theorem pg_imp {e : Expr} {t t' : TG} (h : PG X e t) (q : ∀ v σ H Q, t' v σ H Q → t v σ H Q) : PG X e t' := ⟨fun pins s σ H v u Q I r w => h.run pins s σ H v u Q I r (q _ _ _ _ w)⟩
theorem pgs_imp {e : List Expr} {t t' : TGs} (h : PGs X e t) (q : ∀ v σ H Q, t' v σ H Q → t v σ H Q) : PGs X e t' := ⟨fun pins s σ H v u Q I r w => h.run pins s σ H v u Q I r (q _ _ _ _ w)⟩
theorem vg_name (i : Nat) {x : Str} (hN : X.N.Nodup) (hi : X.N[i]? = some x := by rfl) (hx : Loc X.env.scope x := by first | exact Or.inl rfl | exact Or.inr rfl) (np : NotPin pin i := by first | exact notPin_nil | decide) (hv : i ∈ vs := by decide)
    (hf : X.fn x = true ∨ X.env.scope.names.lookup x = some .local := by first | exact .inl rfl | exact .inr rfl | assumption) : VG X pin vs (.Name x pos) (gVar i) := by
  refine pg_imp (pg_name hN hi hx hf) fun v σ H Q ⟨G, ms, s, h, d, hh, sl, i1, q⟩ => ?_
  refine q _ ⟨by simp, fun j hj => ?_⟩ (sl.set i1 np)
  rw [List.getElem?_set_ne]
  exact fun z => hj (z ▸ hv)
theorem vgs_nil : VGs X pin vs [] [] := by
  refine pgs_imp pgs_nil fun v σ H Q ⟨G, ms, s, h, d, hh, sl, i1, q⟩ => ?_
  cases d with
  | nil => cases i1; exact ⟨rfl, q σ .refl sl⟩
  | cons _ _ => exact q.elim
theorem vgs_cons {e : Expr} {es : List Expr} {g : Tg} {gs : List Tg} (h1 : VG X pin vs e g) (h2 : VGs X pin vs es gs)
    (hs : (assignEach (e :: es) X.env).map (·.2) = assign e X.env :: (assignEach es X.env).map (·.2) := by rfl) : VGs X pin vs (e :: es) (g :: gs) := by
  refine pgs_imp (pgs_cons h1 h2 hs) fun ws σ H Q ⟨G, ms, s, h, ds, hh, sl, i1, q⟩ => ?_
  cases ds with
  | nil => exact q.elim
  | cons d ds =>
    obtain ⟨v, r, rfl, i2, i3⟩ := i1
    refine ⟨v, r, rfl, G, ms, s, h, d, hh, sl, i2, ?_⟩
    unfold unp at q
    cases e1 : g d s h with
    | none => rw [e1] at q; exact q
    | some s' =>
      rw [e1] at q
      intro σ' b' sl'
      refine ⟨G, ms, s', h, ds, hh, sl', i3, ?_⟩
      dsimp only at q
      cases e2 : unp gs ds s' h with
      | none => rw [e2] at q; exact q
      | some s2 =>
        rw [e2] at q
        exact fun σ2 b2 sl2 => q σ2 (b'.trans b2) sl2
theorem PG.or {e : Expr} {t t' : TG} (h : PG X e t) (h' : PG X e t') : PG X e (fun v σ H Q => t v σ H Q ∨ t' v σ H Q) := ⟨fun pins s σ H v u Q I r w => by
  rcases w with w | w
  · exact h.run pins s σ H v u Q I r w
  · exact h'.run pins s σ H v u Q I r w⟩
theorem unp_len : ∀ {gs : List Tg} {ds : List D} {s s' : Ss} {h : Hs}, unp gs ds s h = some s' → ds.length = gs.length
  | [], [], _, _, _, _ => rfl
  | [], _ :: _, _, _, _, e => by cases e
  | _ :: _, [], _, _, _, e => by cases e
  | g :: gs, d :: ds, s, s', h, e => by
    unfold unp at e
    split at e
    · simp [unp_len e]
    · cases e
theorem vg_un {es : List Expr} {k : Nat} {gs : List Tg} (hc : X.calm = true) (h : VGs X pin vs es gs)
    (hn : (assignEach es X.env).length = gs.length := by rfl) (hst : (assignEach es X.env).findIdx? (·.1) = none := by rfl) : VG X pin vs (.Tuple es k pos) (gUn gs) := by
  refine pg_imp (PG.or (pg_lst hc h hn hst) (pg_tup hc h hn hst)) fun v σ H Q ⟨G, ms, s, h, d, hh, sl, i1, q⟩ => ?_
  unfold gUn at q
  cases er : rowOf h d with
  | none => rw [er] at q; exact q.elim
  | some xs =>
    rw [er] at q
    dsimp only at q
    obtain ⟨p, ws, rfl, h2, h3⟩ := hh.row i1 er
    have hl : ws.length = gs.length := by
      rw [← h3.length]
      cases e2 : unp gs xs s h with
      | none => rw [e2] at q; exact q.elim
      | some s' => exact unp_len e2
    rcases h2 with h2 | h2
    · exact .inl ⟨p, ws, rfl, h2, hl, G, ms, s, h, xs, hh, sl, h3, q⟩
    · exact .inr ⟨p, ws, rfl, h2, hl, G, ms, s, h, xs, hh, sl, h3, q⟩
/-- a, b = e -/
def sUn (g : Tg) (f : FE) : FS := fun s h => RS.ofR s (f s h) fun d h1 => match g d s h1 with
  | some s' => .nx s' h1
  | none => .bad
/-- a, b = x, y -/
def sPar (i j : Nat) (f : FA) : FS := fun s h => match f s h with
  | .ok [x, y] h1 => .nx ((s.set i (some x)).set j (some y)) h1
  | .ok _ _ => .bad
  | .err x h1 => .er x s h1
  | .bad => .bad
inductive It0 where
  | seq (ds : List D)
  | rng (lo : Int) (n : Nat)
  | loc (n : Nat)
abbrev FI : Type := Ss → Hs → R It0
/-- J yields ds, wherever the still part has grown -/
def Yields (K : PySem.W.Frag) (J : It) (G0 : GG) (ms0 : List Addr) (ds : List D) : Prop := ∀ (i : Nat) (h : Hs) (G : GG) (ms : List Addr) (H : Hp), Hh K G ms h H → Same G0.1 G.1 → ms0 <+: ms →
  (∀ d, ds[i]? = some d → J.go i H ∧ ∀ x H', J.yld i H x H' → ∃ G', GLe G G' ∧ Hh K G' ms h H' ∧ Is K G' ms d x) ∧ (ds.length = i → J.stop i H)
def ItIs (K : PySem.W.Frag) (G : GG) (ms : List Addr) : It0 → It → Prop
  | .seq ds, J => Yields K J G ms ds ∧ ds.length ≤ sizeLine
  | .rng lo n, J => J = Itr lo n
  | .loc n, J => ∃ a, ms[n]? = some a ∧ J = Itl K a
def rdI (X : Cx) (W : WX) (pin : List Pn) (f : FI) : TI := fun σ H R => ∃ G ms s h, Hh X.K G ms h H ∧ Sl X.K G ms pin s σ ∧ Post X.K X.mg (fun c d H => W c d σ H) G ms (ItIs X.K) (f s h) R
abbrev VI (X : Cx) (W : WX) (pin : List Pn) (tg e : Expr) (f : FI) : Prop := PI X tg e (rdI X W pin f)
theorem pi_imp {tg e : Expr} {t t' : TI} (h : PI X tg e t) (q : ∀ σ H Q, t' σ H Q → t σ H Q) : PI X tg e t' := ⟨fun pins s σ H Q I w => h.run pins s σ H Q I (q _ _ _ w)⟩
/-- a list or a tuple -/
def iSeq (K : PySem.W.Frag) (tl : TE) : TI := fun σ H R => tl σ H fun x H1 => ∃ a, x = .ref a ∧ (((∃ xs, SqL K H1 a xs) ∧ R (Itl K a) H1) ∨ ((∃ xs, SqT K H1 a xs) ∧ R (Itt K a) H1))
theorem pi_seq {tg l : Expr} {tl : TE} (hl : PE X l tl) : PI X tg l (iSeq X.K tl) := by
  refine ⟨fun pins s σ H R I h => ?_⟩
  refine thn (hl.run pins s σ H _ I h) fun v s1 ⟨x, H1, I1, r1, q1⟩ => ?_
  obtain ⟨a, e, ⟨⟨xs, hq⟩, q⟩ | ⟨⟨xs, hq⟩, q⟩⟩ := q1
  · subst e
    cases r1
    obtain ⟨its, rv, p, hz⟩ := I1.list hq
    refine wpAny_pyIter_list p.isList ?_
    refine ⟨s1.heap.objs.size, [s1.heap.objs.size], _, _, H1, rfl, I1.kept (t' := s1.toks) fun b o e => Heap.get?_push_of_some _ e, turn_list a _, ⟨_, Heap.get?_push_size _ rfl, rfl, rfl⟩, fun b hb => ?_, q⟩
    have e : b = s1.heap.objs.size := by simpa using hb
    subst e
    exact I1.fpOk (Nat.le_refl _) (I1.hok.fresh (Nat.le_refl _))
  · subst e
    cases r1
    obtain ⟨its, rv, p, hz⟩ := I1.tuple hq
    refine wpAny_pyIter_tuple (show s1.heap.IsTuple a its.toArray from p) ?_
    refine ⟨s1.heap.objs.size, [s1.heap.objs.size], _, _, H1, rfl, I1.kept (t' := s1.toks) fun b o e => Heap.get?_push_of_some _ e, turn_tuple a _, ⟨_, Heap.get?_push_size _ rfl, rfl, rfl⟩, fun b hb => ?_, q⟩
    have e : b = s1.heap.objs.size := by simpa using hb
    subst e
    exact I1.fpOk (Nat.le_refl _) (I1.hok.fresh (Nat.le_refl _))
theorem yields_list {a : Addr} {ds : List D} {ws : List V} (q : SqL K G.1 a ws) (i : IsL K G ms ds ws) : Yields K (Itl K a) G ms ds := fun j h G' ms' H hh e p => by
  have q' : SqL K H a ws := hh.sub.seq (e.seq q)
  have i' := IsL.mono' e p _ _ i
  refine ⟨fun d hd => ?_, fun hl => ⟨ws, q', by rw [← i.length]; exact Nat.le_of_eq hl⟩⟩
  obtain ⟨v, h1, h2⟩ := i'.get hd
  refine ⟨⟨ws, v, q', h1⟩, fun x H' ⟨e1, e2⟩ => ?_⟩
  subst e1
  have := e2 ws q'
  rw [h1] at this
  cases this
  exact ⟨G', .refl _, hh, h2⟩
theorem yields_tup {a : Addr} {ds : List D} {ws : List V} (q : SqT K G.1 a ws) (i : IsL K G ms ds ws) : Yields K (Itt K a) G ms ds := fun j h G' ms' H hh e p => by
  have q' : SqT K H a ws := Same.sqT hh.sub (Same.sqT e q)
  have i' := IsL.mono' e p _ _ i
  refine ⟨fun d hd => ?_, fun hl => ⟨ws, q', by rw [← i.length]; exact Nat.le_of_eq hl⟩⟩
  obtain ⟨v, h1, h2⟩ := i'.get hd
  refine ⟨⟨ws, v, q', h1⟩, fun x H' ⟨e1, e2⟩ => ?_⟩
  subst e1
  have := e2 ws q'
  rw [h1] at this
  cases this
  exact ⟨G', .refl _, hh, h2⟩
def iRow (f : FE) : FI := fun s h => (f s h).bind fun d h1 => match d with
  | .tup xs => .ok (.seq xs) h1
  | .lst xs => .ok (.seq xs) h1
  | .scr xs => .ok (.seq xs) h1
  | .loc n => if (locAt h1 n).isSome = true then .ok (.loc n) h1 else .bad
  | _ => .bad
theorem vi_row {tg e : Expr} {f : FE} (he : VE X W pin e f) : VI X W pin tg e (iRow f) := by
  refine pi_imp (pi_seq he) fun σ H R ⟨G, ms, s, h, hh, sl, q⟩ => ⟨G, ms, s, h, hh, sl, Post.bind q fun d h1 v H1 G1 ms1 e1 p1 hh1 i1 q1 => ?_⟩
  cases d with
  | tup xs =>
    obtain ⟨a, ws, rfl, k1, k2⟩ := id i1
    exact ⟨a, rfl, .inr ⟨⟨ws, .of (hh1.sub _ _ k1)⟩, q1.fin hh1 ⟨yields_tup (.of k1) k2, hh1.rowz i1 rfl⟩⟩⟩
  | lst xs =>
    obtain ⟨a, ws, rfl, k1, k2⟩ := id i1
    exact ⟨a, rfl, .inl ⟨⟨ws, .of (hh1.sub _ _ k1)⟩, q1.fin hh1 ⟨yields_list (.of k1) k2, hh1.rowz i1 rfl⟩⟩⟩
  | scr xs =>
    obtain ⟨a, ws, rfl, k1, k2⟩ := id i1
    exact ⟨a, rfl, .inl ⟨⟨ws, hh1.sub.seq k1⟩, q1.fin hh1 ⟨yields_list k1 k2, hh1.rowz i1 rfl⟩⟩⟩
  | loc n =>
    dsimp only at q1
    split at q1
    · rename_i hls
      obtain ⟨a, k1, rfl⟩ := i1
      obtain ⟨ys, hys⟩ := Option.isSome_iff_exists.mp hls
      obtain ⟨a', ws, k0, k2, _⟩ := hh1.at (locAt_some hys)
      rw [k1] at k0; cases k0
      exact ⟨a, rfl, .inl ⟨⟨ws, .of k2⟩, q1.fin hh1 ⟨a, k1, rfl⟩⟩⟩
    · exact q1.elim
  | _ => exact q1.elim
/-- range -/
def rgL (lo : Int) (n : Nat) : List D := (List.range n).map fun (i : Nat) => D.int (lo + i)
theorem rgL_get {lo : Int} {n i : Nat} {d : D} (h : (rgL lo n)[i]? = some d) : i < n ∧ d = .int (lo + i) := by
  unfold rgL at h
  rw [List.getElem?_map] at h
  cases q : (List.range n)[i]? with
  | none => rw [q] at h; cases h
  | some j =>
    rw [q] at h
    have hi : i < n := by
      rcases Nat.lt_or_ge i n with z | z
      · exact z
      · rw [List.getElem?_eq_none (by simpa using z)] at q; cases q
    rw [List.getElem?_range hi] at q
    cases q
    exact ⟨hi, (Option.some.inj h).symm⟩
theorem yields_range {lo : Int} {n : Nat} : Yields K (Itr lo n) G ms (rgL lo n) := fun j h G' ms' H hh e p => by
  refine ⟨fun d hd => ?_, fun hl => ?_⟩
  · obtain ⟨hi, rfl⟩ := rgL_get hd
    exact ⟨hi, fun x H' ⟨e1, e2⟩ => by subst e1 e2; exact ⟨G', .refl _, hh, rfl⟩⟩
  · have : (rgL lo n).length = n := by unfold rgL; simp
    rw [this] at hl
    exact Nat.le_of_eq hl
def r62 (i : Int) : Prop := -(2 ^ 62) ≤ i ∧ i < 2 ^ 62
open Classical in
noncomputable def iRng1 (f : FA) : FI := fun s h => (f s h).bind fun ds h1 => match ds with
  | [.int j] => if r62 j then .ok (.rng 0 j.toNat) h1 else .bad
  | _ => .bad
open Classical in
noncomputable def iRng2 (f : FA) : FI := fun s h => (f s h).bind fun ds h1 => match ds with
  | [.int i, .int j] => if r62 i ∧ r62 j then .ok (.rng i (j - i).toNat) h1 else .bad
  | _ => .bad
theorem vi_range1 {tg e : Expr} {f : FA} {p : Pos} (hg : Gl X "range") (hm : X.mg "range" = none) (ha : VA X W pin [e] f) (hs : starEach [e] X.env = [(false, eval e X.env)] := by rfl) : VI X W pin tg (.Call (.Name "range" p) [e] [] pos) (iRng1 f) := by
  refine pi_imp (pi_range1 hg hm ha hs) fun σ H R ⟨G, ms, s, h, hh, sl, q⟩ => ⟨G, ms, s, h, hh, sl, Post.bind q fun ds h1 ws H1 G1 ms1 e1 p1 hh1 i1 q1 => ?_⟩
  split at q1
  · obtain ⟨v, rfl, j1⟩ := isL1 (ds := []) i1
    cases j1
    split at q1
    · rename_i hz
      exact ⟨_, rfl, hz.1, hz.2, q1.fin hh1 rfl⟩
    · exact q1.elim
  · exact q1.elim
theorem vi_range2 {tg e e' : Expr} {f : FA} {p : Pos} (hg : Gl X "range") (hm : X.mg "range" = none) (ha : VA X W pin [e, e'] f) (hs : starEach [e, e'] X.env = [(false, eval e X.env), (false, eval e' X.env)] := by rfl) (hs2 : starEach [e'] X.env = [(false, eval e' X.env)] := by rfl) :
    VI X W pin tg (.Call (.Name "range" p) [e, e'] [] pos) (iRng2 f) := by
  refine pi_imp (pi_range2 hg hm ha hs hs2) fun σ H R ⟨G, ms, s, h, hh, sl, q⟩ => ⟨G, ms, s, h, hh, sl, Post.bind q fun ds h1 ws H1 G1 ms1 e1 p1 hh1 i1 q1 => ?_⟩
  split at q1
  · obtain ⟨v, w, rfl, j1, j2⟩ := isL2 i1
    cases j1; cases j2
    split at q1
    · rename_i hz
      exact ⟨_, _, rfl, ⟨hz.1.1, hz.1.2, hz.2.1, hz.2.2⟩, q1.fin hh1 rfl⟩
    · exact q1.elim
  · exact q1.elim
end
end WD
namespace WD
open PySem PySem.Spec PyProof.Rows L2
/-- behind a turn -/
def afterT (r : RS) (k : Ss → Hs → RS) : RS := match r with
  | .nx s h => k s h
  | .ct s h => k s h
  | .bk s h => .nx s h
  | .rt d h => .rt d h
  | .er x s h => .er x s h
  | .bad => .bad
def loopS (g : Tg) (b : FS) : List D → FS
  | [], s, h => .nx s h
  | d :: ds, s, h => match g d s h with
    | some s' => afterT (b s' h) (loopS g b ds)
    | none => .bad
def loopL (g : Tg) (b : FS) (n : Nat) : Nat → Nat → FS
  | 0, _, _, _ => .bad
  | f + 1, i, s, h => match locAt h n with
    | some xs => match xs[i]? with
      | some d => (match g d s h with
        | some s' => afterT (b s' h) (loopL g b n f (i + 1))
        | none => .bad)
      | none => .nx s h
    | none => .bad
def sFor (fi : FI) (g : Tg) (b : FS) : FS := fun s h => match fi s h with
  | .ok (.seq ds) h1 => loopS g b ds s h1
  | .ok (.rng lo n) h1 => loopS g b (rgL lo n) s h1
  | .ok (.loc n) h1 => match locAt h1 n with
    | some xs => loopL g b n (xs.length + 1) 0 s h1
    | none => .bad
  | .err x h1 => .er x s h1
  | .bad => .bad
section
variable {X : Cx} {W : WX} {pin : List Pn} {K : PySem.W.Frag} {mg : Str → Option Value} {E : XK} {G G' : GG} {H : Hp} {ms ms' : List Addr} {h : Hs} {pos : Pos} {a b c : Expr} {rest : List Expr} {vs : List Nat}
theorem after_post {σ σ' : L2.St} {r : RS} {k : Ss → Hs → RS} {D0 : Ends} {N : L2.St → Hp → Prop} (q : PostS W K mg pin σ G ms (afterT r k) D0)
    (hN : ∀ s1 h1 σ1 H1 G1 ms1, GLe G G1 → ms <+: ms1 → Hh K G1 ms1 h1 H1 → Sl K G1 ms1 pin s1 σ1 → PostS W K mg pin σ1 G1 ms1 (k s1 h1) D0 → N σ1 H1) : PostS W K mg pin σ' G ms r { D0 with nx := N, ct := N, bk := D0.nx } := by
  cases r with
  | nx s1 h1 => exact fun σ1 H1 G1 ms1 e1 p1 hh1 sl1 => hN s1 h1 σ1 H1 G1 ms1 e1 p1 hh1 sl1 (PostS.mono (r := k s1 h1) q e1 p1)
  | ct s1 h1 => exact fun σ1 H1 G1 ms1 e1 p1 hh1 sl1 => hN s1 h1 σ1 H1 G1 ms1 e1 p1 hh1 sl1 (PostS.mono (r := k s1 h1) q e1 p1)
  | bk s1 h1 => exact q
  | rt d h1 => exact q
  | er x s1 h1 => exact q
  | bad => exact q
theorem vs_for {tg iter : Expr} {body : List Stmt} {fi : FI} {g : Tg} {f : FS} (hp : PassesOwn (model X.prog X.w) X.A X.env X.xe) (hc : X.calm = true) (hi : VI X W pin tg iter fi) (hg : VG X pin vs tg g) (hb : VSs X W pin body f)
    (hs : ∀ x, foldedSetIterable iter X.env x = pure x := by intro _; rfl) : VS X W pin (.For tg iter body [] pos) (sFor fi g f) := by
  refine ps_imp (ps_for hp hc hi hg hb hs) fun D σ H ⟨G, ms, s, h, hh, sl, q⟩ => ⟨G, ms, s, h, hh, sl, ?_⟩
  unfold sFor at q
  cases e : fi s h with
  | bad => rw [e] at q; exact q
  | err z h1 => rw [e] at q; exact fun H' G2 ms2 d h1 h2 h3 h4 => q σ H' G2 ms2 d h1 h2 h3 (sl.mono h1 h2) h4
  | ok it h1 =>
    rw [e] at q
    intro J H1 G1 ms1 e1 p1 hh1 ij
    have seqs : ∀ ds, Yields X.K J G1 ms1 ds → PostS W X.K X.mg pin σ G ms (loopS g f ds s h1) D →
        (∃ WW : Nat → Nat → L2.St → Hp → Prop, (∃ m, WW 0 m σ H1) ∧ ∀ i m σ H, WW i m σ H → (J.stop i H ∧ D.nx σ H) ∨ (J.go i H ∧ ∃ N : L2.St → Hp → Prop, (∀ σ' H', N σ' H' → ∃ m', m' < m ∧ WW (i + 1) m' σ' H') ∧
          ∀ x H', J.yld i H x H' → rdG X pin vs g x σ H' fun σ2 H2 => rdS X W pin f { D with nx := N, ct := N, bk := D.nx } σ2 H2)) := fun ds ij q => by
      refine ⟨fun i m σ' H' => ∃ G2 ms2 s2 h2, Hh X.K G2 ms2 h2 H' ∧ Sl X.K G2 ms2 pin s2 σ' ∧ GLe G1 G2 ∧ ms1 <+: ms2 ∧ (m = ds.length - i ∧ i ≤ ds.length) ∧ PostS W X.K X.mg pin σ' G2 ms2 (loopS g f (ds.drop i) s2 h2) D,
        ⟨ds.length, G1, ms1, s, h1, hh1, sl.mono e1 p1, .refl _, pre_refl _, ⟨by simp, Nat.zero_le _⟩, PostS.mono (r := loopS g f ds s h1) q e1 p1⟩, ?_⟩
      rintro i m σ2 H2 ⟨G2, ms2, s2, h2, hh2, sl2, e2, p2, ⟨rfl, hle⟩, q2⟩
      by_cases hi : i < ds.length
      · have hd : ds.drop i = ds[i] :: ds.drop (i + 1) := List.drop_eq_getElem_cons hi
        rw [hd] at q2
        obtain ⟨hgo, hy⟩ := (ij i h2 G2 ms2 H2 hh2 e2.le p2).1 ds[i] (List.getElem?_eq_getElem hi)
        refine .inr ⟨hgo, fun σ' H' => ∃ G3 ms3 s3 h3, Hh X.K G3 ms3 h3 H' ∧ Sl X.K G3 ms3 pin s3 σ' ∧ GLe G1 G3 ∧ ms1 <+: ms3 ∧ PostS W X.K X.mg pin σ' G3 ms3 (loopS g f (ds.drop (i + 1)) s3 h3) D, ?_, ?_⟩
        · rintro σ' H' ⟨G3, ms3, s3, h3, k1, k2, k3, k4, k5⟩
          exact ⟨ds.length - (i + 1), by omega, G3, ms3, s3, h3, k1, k2, k3, k4, ⟨rfl, hi⟩, k5⟩
        · intro x H' y
          obtain ⟨G3, e3, hh3, i3⟩ := hy x H' y
          refine ⟨G3, ms2, s2, h2, ds[i], hh3, sl2.mono e3 (pre_refl _), i3, ?_⟩
          unfold loopS at q2
          cases eg : g ds[i] s2 h2 with
          | none => rw [eg] at q2; exact q2
          | some s3 =>
            rw [eg] at q2
            intro σ3 _ sl3
            refine ⟨G3, ms2, s3, h2, hh3, sl3, after_post (PostS.mono (r := afterT (f s3 h2) (loopS g f (ds.drop (i + 1)))) (σ' := σ3) q2 e3 (pre_refl _)) ?_⟩
            exact fun s4 h4 σ4 H4 G4 ms4 e4 p4 hh4 sl4 q4 => ⟨G4, ms4, s4, h4, hh4, sl4, (e2.trans e3).trans e4, pre_trans p2 p4, q4⟩
      · rw [List.drop_eq_nil_of_le (by omega)] at q2
        exact .inl ⟨(ij i h2 G2 ms2 H2 hh2 e2.le p2).2 (by omega), q2 σ2 H2 G2 ms2 (.refl _) (pre_refl _) hh2 sl2⟩
    cases it with
    | seq ds => exact seqs ds ij.1 q
    | rng lo n =>
      cases ij
      exact seqs (rgL lo n) yields_range q
    | loc n =>
      obtain ⟨ad, ha, rfl⟩ := ij
      dsimp only at q
      cases el : locAt h1 n with
      | none => rw [el] at q; exact q.elim
      | some xs =>
        rw [el] at q
        dsimp only at q
        refine ⟨fun i m σ' H' => ∃ G2 ms2 s2 h2, Hh X.K G2 ms2 h2 H' ∧ Sl X.K G2 ms2 pin s2 σ' ∧ GLe G1 G2 ∧ ms1 <+: ms2 ∧ PostS W X.K X.mg pin σ' G2 ms2 (loopL g f n m i s2 h2) D,
          ⟨xs.length + 1, G1, ms1, s, h1, hh1, sl.mono e1 p1, .refl _, pre_refl _, PostS.mono (r := loopL g f n (xs.length + 1) 0 s h1) q e1 p1⟩, ?_⟩
        rintro i m σ2 H2 ⟨G2, ms2, s2, h2, hh2, sl2, e2, p2, q2⟩
        cases m with
        | zero => exact q2.elim
        | succ m =>
          unfold loopL at q2
          cases el2 : locAt h2 n with
          | none => rw [el2] at q2; exact q2.elim
          | some ys =>
            rw [el2] at q2
            dsimp only at q2
            obtain ⟨ad', ws, k1, k2, k3⟩ := hh2.at (locAt_some el2)
            rw [pre_get p2 ha] at k1
            cases k1
            have hq : SqL X.K H2 ad ws := .of k2
            cases ey : ys[i]? with
            | none =>
              rw [ey] at q2
              refine .inl ⟨⟨ws, hq, ?_⟩, q2 σ2 H2 G2 ms2 (.refl _) (pre_refl _) hh2 sl2⟩
              rw [← k3.length]
              exact List.getElem?_eq_none_iff.mp ey
            | some d =>
              rw [ey] at q2
              dsimp only at q2
              obtain ⟨v, j1, j2⟩ := k3.get ey
              refine .inr ⟨⟨ws, v, hq, j1⟩, fun σ' H' => ∃ G3 ms3 s3 h3, Hh X.K G3 ms3 h3 H' ∧ Sl X.K G3 ms3 pin s3 σ' ∧ GLe G1 G3 ∧ ms1 <+: ms3 ∧ PostS W X.K X.mg pin σ' G3 ms3 (loopL g f n m (i + 1) s3 h3) D, ?_, ?_⟩
              · rintro σ' H' ⟨G3, ms3, s3, h3, k1, k2, k3, k4, k5⟩
                exact ⟨m, by omega, G3, ms3, s3, h3, k1, k2, k3, k4, k5⟩
              · rintro x H' ⟨rfl, y⟩
                have := y ws hq
                rw [j1] at this
                cases this
                refine ⟨G2, ms2, s2, h2, d, hh2, sl2, j2, ?_⟩
                cases eg : g d s2 h2 with
                | none => rw [eg] at q2; exact q2
                | some s3 =>
                  rw [eg] at q2
                  dsimp only at q2
                  intro σ3 _ sl3
                  refine ⟨G2, ms2, s3, h2, hh2, sl3, after_post (σ' := σ3) q2 ?_⟩
                  exact fun s4 h4 σ4 H4 G4 ms4 e4 p4 hh4 sl4 q4 => ⟨G4, ms4, s4, h4, hh4, sl4, e2.trans e4, pre_trans p2 p4, q4⟩
end
def whileF (t : FT) (b : FS) : Nat → FS
  | 0, _, _ => .bad
  | n + 1, s, h => match t s h with
    | .ok k h1 => if k = true then afterT (b s h1) (whileF t b n) else .nx s h1
    | .err x h1 => .er x s h1
    | .bad => .bad
open Classical in
noncomputable def sWhile (t : FT) (b : FS) : FS := fun s h => if q : ∃ n, whileF t b n s h ≠ .bad then whileF t b (Classical.choose q) s h else .bad
theorem afterT_bad {r : RS} {k k' : Ss → Hs → RS} (hk : ∀ s h, k s h ≠ .bad → k' s h = k s h) (h : afterT r k ≠ .bad) : afterT r k' = afterT r k := by
  cases r with
  | nx s h1 => exact hk s h1 h
  | ct s h1 => exact hk s h1 h
  | _ => rfl
theorem whileF_mono {t : FT} {b : FS} : ∀ {n m : Nat} {s : Ss} {h : Hs}, n ≤ m → whileF t b n s h ≠ .bad → whileF t b m s h = whileF t b n s h
  | 0, _, _, _, _, h => absurd rfl h
  | n + 1, 0, _, _, hl, _ => absurd hl (by omega)
  | n + 1, m + 1, s, h, hl, hn => by
    unfold whileF at hn ⊢
    cases e : t s h with
    | bad => rfl
    | err x h1 => rfl
    | ok k h1 =>
      rw [e] at hn
      dsimp only at hn ⊢
      cases k with
      | false => rfl
      | true =>
        rw [if_pos rfl] at hn ⊢
        exact afterT_bad (fun s h q => whileF_mono (by omega) q) hn
theorem sWhile_eq {t : FT} {b : FS} {n : Nat} {s : Ss} {h : Hs} {r : RS} (e : whileF t b n s h = r) (hr : r ≠ .bad) : sWhile t b s h = r := by
  have q : ∃ n, whileF t b n s h ≠ .bad := ⟨n, by rw [e]; exact hr⟩
  unfold sWhile
  rw [dif_pos q]
  have h1 := Classical.choose_spec q
  rcases Nat.le_total (Classical.choose q) n with hl | hl
  · rw [← whileF_mono hl h1, e]
  · rw [whileF_mono hl (by rw [e]; exact hr), e]
theorem sWhile_run {t : FT} {b : FS} {s : Ss} {h : Hs} : sWhile t b s h = .bad ∨ ∃ n, whileF t b n s h = sWhile t b s h := by
  unfold sWhile
  split
  · exact .inr ⟨_, rfl⟩
  · exact .inl rfl
section
variable {X : Cx} {W : WX} {pin : List Pn} {pos : Pos} {c : Expr}
theorem vs_while {body : List Stmt} {t : FT} {f : FS} (hp : PassesOwn (model X.prog X.w) X.A X.env X.xe) (hc : VT X W pin c t) (hb : VSs X W pin body f) : VS X W pin (.While c body [] pos) (sWhile t f) := by
  refine ps_imp (ps_while hp hc hb) fun D σ H ⟨G, ms, s, h, hh, sl, q⟩ => ?_
  rcases sWhile_run (t := t) (b := f) (s := s) (h := h) with e | ⟨n, e⟩
  · rw [e] at q; exact q.elim
  · rw [← e] at q
    refine ⟨fun m σ' H' => ∃ G2 ms2 s2 h2, Hh X.K G2 ms2 h2 H' ∧ Sl X.K G2 ms2 pin s2 σ' ∧ PostS W X.K X.mg pin σ' G2 ms2 (whileF t f m s2 h2) D, ⟨n, G, ms, s, h, hh, sl, q⟩, ?_⟩
    rintro m σ2 H2 ⟨G2, ms2, s2, h2, hh2, sl2, q2⟩
    cases m with
    | zero => exact q2.elim
    | succ m =>
      refine ⟨G2, ms2, s2, h2, hh2, sl2, ?_⟩
      unfold whileF at q2
      cases et : t s2 h2 with
      | bad => rw [et] at q2; exact q2
      | err x h3 => rw [et] at q2; exact fun H' G3 ms3 d h1 h2 h3 h4 => q2 σ2 H' G3 ms3 d h1 h2 h3 (sl2.mono h1 h2) h4
      | ok k h3 =>
        rw [et] at q2
        dsimp only at q2
        intro k' H3 G3 ms3 e3 p3 hh3 ek
        subst ek
        cases k with
        | false => exact q2 σ2 H3 G3 ms3 e3 p3 hh3 (sl2.mono e3 p3)
        | true =>
          rw [if_pos rfl] at q2 ⊢
          refine ⟨fun σ' H' => ∃ G4 ms4 s4 h4, Hh X.K G4 ms4 h4 H' ∧ Sl X.K G4 ms4 pin s4 σ' ∧ PostS W X.K X.mg pin σ' G4 ms4 (whileF t f m s4 h4) D, fun σ' H' hw => ⟨m, by omega, hw⟩, G3, ms3, s2, h3, hh3, sl2.mono e3 p3, ?_⟩
          refine after_post (PostS.mono (σ' := σ2) (r := afterT (f s2 h3) (whileF t f m)) q2 e3 p3) ?_
          exact fun s4 h4 σ4 H4 G4 ms4 e4 p4 hh4 sl4 q4 => ⟨G4, ms4, s4, h4, hh4, sl4, q4⟩
end
end WD
namespace WD
open PySem PySem.Spec PyProof.Rows L2
def wipeS (s : Ss) : List Nat → Ss
  | [] => s
  | v :: vs => (wipeS s vs).set v none
theorem wipeS_length (s : Ss) : ∀ vs : List Nat, (wipeS s vs).length = s.length
  | [] => rfl
  | v :: vs => by unfold wipeS; rw [List.length_set, wipeS_length s vs]
theorem wipeS_some {s : Ss} {i : Nat} {x : D} : ∀ {vs : List Nat}, (wipeS s vs)[i]? = some (some x) → s[i]? = some (some x) ∧ i ∉ vs
  | [], h => ⟨h, by simp⟩
  | v :: vs, h => by
    unfold wipeS at h
    by_cases hi : v = i
    · subst hi
      by_cases hv : v < (wipeS s vs).length
      · rw [List.getElem?_set_self hv] at h; cases h
      · rw [List.getElem?_eq_none (by simpa using hv)] at h; cases h
    · rw [List.getElem?_set_ne hi] at h
      obtain ⟨h1, h2⟩ := wipeS_some h
      exact ⟨h1, by simp only [List.mem_cons, not_or]; exact ⟨fun e => hi e.symm, h2⟩⟩
theorem wipe_in {σ : L2.St} {i : Nat} : ∀ {vs : List Nat}, i ∈ vs → (wipe σ vs)[i]? = if i < σ.length then some none else none
  | [], h => (nomatch h)
  | v :: vs, h => by
    unfold wipe
    by_cases hi : v = i
    · subst hi
      by_cases hv : v < σ.length
      · rw [if_pos hv, List.getElem?_set_self (by rw [wipe_length]; exact hv)]
      · rw [if_neg hv, List.getElem?_eq_none (by rw [List.length_set, wipe_length]; omega)]
    · rw [List.getElem?_set_ne hi]
      exact wipe_in (by rcases List.mem_cons.mp h with e | e; exact absurd e.symm hi; exact e)
theorem wipe_but {σ σ2 : L2.St} {vs : List Nat} (b : But vs (wipe σ vs) σ2) : wipe σ2 vs = wipe σ vs := by
  have hl : σ2.length = σ.length := by rw [b.len, wipe_length]
  apply List.ext_getElem?
  intro j
  by_cases hj : j ∈ vs
  · rw [wipe_in hj, wipe_in hj, hl]
  · rw [wipe_out hj, b.out j hj]
def quiet {α : Type} (r : R α) : R α := match r with
  | .ok d h' => .ok d h'
  | _ => .bad
/-- one turn -/
def stepC (g : Tg) (tt : FT) (te : FE) (s : Ss) (d : D) (h : Hs) (no : Hs → R D) (yes : D → Hs → R D) : R D := match g d s h with
  | none => .bad
  | some s2 => (quiet (tt s2 h)).bind fun b h3 => if b = true then (quiet (te s2 h3)).bind fun y h4 => yes y h4 else no h3
def compA (g : Tg) (tt : FT) (te : FE) (s : Ss) (k : List D → Hs → R D) : List D → List D → Hs → R D
  | [], acc, h => k acc h
  | d :: ds, acc, h => stepC g tt te s d h (fun h3 => compA g tt te s k ds acc h3) fun y h4 => compA g tt te s k ds (acc ++ [y]) h4
def compL (g : Tg) (tt : FT) (te : FE) (s : Ss) (n : Nat) (k : List D → Hs → R D) : Nat → Nat → List D → Hs → R D
  | 0, _, _, _ => .bad
  | f + 1, i, acc, h => match locAt h n with
    | none => .bad
    | some xs => match xs[i]? with
      | none => k acc h
      | some d => stepC g tt te s d h (fun h3 => compL g tt te s n k f (i + 1) acc h3) fun y h4 => compL g tt te s n k f (i + 1) (acc ++ [y]) h4
def eComp (m : Bool) (vs : List Nat) (fi : FI) (g : Tg) (tt : FT) (te : FE) : FE := fun s h => (fi s h).bind fun it h1 => match it with
  | .seq ds => compA g tt te (wipeS s vs) (newL m) ds [] h1
  | .rng lo n => if n ≤ sizeLine then compA g tt te (wipeS s vs) (newL m) (rgL lo n) [] h1 else .bad
  | .loc n => match locAt h1 n with
    | some xs => compL g tt te (wipeS s vs) n (newL m) (xs.length + 1) 0 [] h1
    | none => .bad
def tYesF : FT := fun _ h => .ok true h
abbrev VTs (X : Cx) (W : WX) (pin : List Pn) (es : List Expr) (f : FT) : Prop := PTs X es (rdT X W pin f)
abbrev W0 : WX := fun _ _ _ _ => False
section
variable {X : Cx} {W : WX} {pin : List Pn} {K : PySem.W.Frag} {mg : Str → Option Value} {E : XK} {G G' : GG} {H : Hp} {ms ms' : List Addr} {h : Hs} {pos : Pos} {c : Expr} {vs : List Nat}
theorem vts_nil : VTs X W pin [] tYesF := ⟨fun pins s σ H Q I ⟨G, ms, s', h, hh, sl, q⟩ => pts_nil.run pins s σ H Q I (Post.fin (b := true) q hh rfl)⟩
theorem vts_one {f : FT} (h : VT X W pin c f) : VTs X W pin [c] f := pts_one h
theorem Sl.mono' {s : Ss} {σ : L2.St} (x : Sl K G ms pin s σ) (e : Same G.1 G'.1) (p : ms <+: ms') : Sl K G' ms' pin s σ :=
  ⟨x.len, fun i d q => by obtain ⟨v, h1, h2⟩ := x.get i d q; exact ⟨v, h1, Is.mono' e p d v h2⟩, fun z hz => (x.pin z hz).mono' e p⟩
theorem Sl.wipe {s : Ss} {σ : L2.St} (x : Sl K G ms pin s σ) : Sl K G ms [] (wipeS s vs) (L2.wipe σ vs) := by
  refine ⟨by rw [wipeS_length, wipe_length]; exact x.len, fun i d e => ?_, fun _ h => (nomatch h)⟩
  obtain ⟨h1, h2⟩ := wipeS_some e
  obtain ⟨v, k1, k2⟩ := x.get i d h1
  exact ⟨v, by rw [wipe_out h2]; exact k1, k2⟩
/-- a turn of a comprehension over the list at D -/
theorem comp_turn {Xb : Cx} (eK : Xb.K = X.K) {g : Tg} {tt : FT} {te : FE} {s : Ss} {σ : L2.St} {d : D} {x : V} {h2 : Hs} {G1 G3 : GG} {ms1 ms2 : List Addr} {H2 : Hp} {Dd : Addr} {acc : List D} {ws : List V} {Q : VK} {no : Hs → R D} {yes : D → Hs → R D} {Nx : Hp → Prop}
    (hh : Hh X.K G3 ms2 h2 H2) (sl : Sl X.K G3 ms2 [] (wipeS s vs) (L2.wipe σ vs)) (i : Is X.K G3 ms2 d x) (e1 : Same G1.1 G3.1) (p1 : ms1 <+: ms2) (ef : G3.2 = upd G1.2 Dd (.lst ws)) (ia : IsL X.K G3 ms2 acc ws) (hz : acc.length < sizeLine)
    (q : Post X.K mg E G1 ms1 (Is X.K) (stepC g tt te (wipeS s vs) d h2 no yes) Q)
    (hno : ∀ h5 G5 ms5 H5, Hh X.K G5 ms5 h5 H5 → Same G1.1 G5.1 → ms1 <+: ms5 → G5.2 = upd G1.2 Dd (.lst ws) → IsL X.K G5 ms5 acc ws → Post X.K mg E G1 ms1 (Is X.K) (no h5) Q → Nx H5)
    (hyes : ∀ y v h5 G5 ms5 H5, Hh X.K G5 ms5 h5 H5 → Same G1.1 G5.1 → ms1 <+: ms5 → G5.2 = upd G1.2 Dd (.lst (ws ++ [v])) → IsL X.K G5 ms5 (acc ++ [y]) (ws ++ [v]) → Post X.K mg E G1 ms1 (Is X.K) (yes y h5) Q → Nx H5) :
    rdG Xb [] vs g x (L2.wipe σ vs) H2 fun σ2 H2 => L2.wipe σ2 vs = L2.wipe σ vs ∧ rdT Xb W0 [] tt σ2 H2 fun b H3 =>
      if b = true then rdE Xb W0 [] te σ2 H3 fun y H4 => ∃ acc, H4 Dd = some (.lst acc) ∧ acc.length < sizeLine ∧ Nx (upd H4 Dd (.lst (acc ++ [y]))) else Nx H3 := by
  unfold stepC at q
  refine ⟨G3, ms2, wipeS s vs, h2, d, by rw [eK]; exact hh, by rw [eK]; exact sl, by rw [eK]; exact i, ?_⟩
  cases eg : g d (wipeS s vs) h2 with
  | none => rw [eg] at q; exact q.elim
  | some s2 =>
    rw [eg] at q
    dsimp only at q
    intro σ2 b2 sl2
    refine ⟨wipe_but b2, G3, ms2, s2, h2, by rw [eK]; exact hh, sl2, ?_⟩
    cases et : tt s2 h2 with
    | bad => rw [et] at q; exact q.elim
    | err z h3 => rw [et] at q; exact q.elim
    | ok b h3 =>
      rw [et] at q
      dsimp only [quiet, R.bind] at q
      intro b' H3 G4 ms4 e4 p4 hh4 eb
      subst eb
      rw [eK] at hh4 sl2
      cases b with
      | false => exact hno h3 G4 ms4 H3 hh4 (e1.trans e4.le) (pre_trans p1 p4) (e4.fr.trans ef) (IsL.mono e4 p4 _ _ ia) q
      | true =>
        rw [if_pos rfl] at q ⊢
        refine ⟨G4, ms4, s2, h3, by rw [eK]; exact hh4, by rw [eK]; exact sl2.mono e4 p4, ?_⟩
        cases ee : te s2 h3 with
        | bad => rw [ee] at q; exact q.elim
        | err z h4 => rw [ee] at q; exact q.elim
        | ok y h4 =>
          rw [ee] at q
          dsimp only [quiet, R.bind] at q
          intro v H4 G5 ms5 e5 p5 hh5 iy
          rw [eK] at hh5 iy
          have ef5 : G5.2 = upd G1.2 Dd (.lst ws) := (e5.fr.trans e4.fr).trans ef
          have hD : G5.2 Dd = some (.lst ws) := by rw [ef5, upd_same]
          refine ⟨ws, hh5.frm _ _ hD, by rw [← ia.length]; exact hz, ?_⟩
          have ia5 := IsL.mono (e4.trans e5) (pre_trans p4 p5) _ _ ia
          refine hyes y v h4 (fupd G5 Dd (.lst (ws ++ [v]))) ms5 _ (hh5.reframe hD (fun _ _ z => nomatch z)) ((e1.trans e4.le).trans e5.le) (pre_trans p1 (pre_trans p4 p5)) ?_ ?_ q
          · show upd G5.2 Dd _ = _
            rw [ef5, upd_upd]
          · exact IsL.mono' (G := G5) (G' := fupd G5 Dd (.lst (ws ++ [v]))) (Same.refl G5.1) (pre_refl _) _ _ (ia5.append (.one iy))
/-- the end of a comprehension -/
theorem comp_end {m : Bool} {G1 G2 : GG} {ms1 ms2 : List Addr} {h2 : Hs} {H2 : Hp} {Dd : Addr} {acc : List D} {ws : List V} {Q : VK}
    (hh : Hh K G2 ms2 h2 H2) (e1 : Same G1.1 G2.1) (p1 : ms1 <+: ms2) (ef : G2.2 = upd G1.2 Dd (.lst ws)) (hF : G1.2 Dd = none) (ia : IsL K G2 ms2 acc ws) (hz : acc.length ≤ sizeLine)
    (q : Post K mg E G1 ms1 (Is K) (newL m acc h2) Q) : Q (.ref Dd) H2 := by
  have hD : G2.2 Dd = some (.lst ws) := by rw [ef, upd_same]
  obtain ⟨g0, m0⟩ := hh.frd _ _ hD
  have hFF : ∀ a u, G1.2 a = some u → a ≠ Dd ∧ G2.2 a = some u := fun a u e => by
    have hne : a ≠ Dd := fun z => by rw [z, hF] at e; cases e
    exact ⟨hne, by rw [ef, upd_ne hne]; exact e⟩
  cases m with
  | false =>
    refine Post.fin2 (a := D.lst acc) (G' := (upd G2.1 Dd (.lst ws), G1.2)) q ⟨e1.trans (same_upd g0), rfl⟩ p1 (hh.thaw hD hFF (show ws.length ≤ sizeLine by rw [← ia.length]; exact hz) (fun _ _ z => nomatch z)) ?_
    exact ⟨Dd, ws, rfl, upd_same, IsL.mono' (G := G2) (same_upd g0) (pre_refl _) _ _ ia⟩
  | true =>
    refine Post.fin2 (a := D.loc h2.length) (G' := (G2.1, G1.2)) (ms' := ms2 ++ [Dd]) q ⟨e1, rfl⟩ (pre_trans p1 ⟨[Dd], rfl⟩) (hh.adopt hD hFF ia hz) ⟨Dd, ?_, rfl⟩
    rw [← hh.len]
    simp
theorem comp_read (m : Bool) {fi : FI} {g : Tg} {tt : FT} {te : FE} {σ : L2.St} {H : Hp} {Q : VK} (hq : rdE X W pin (eComp m vs fi g tt te) σ H Q) : tLc (rdI X W pin fi) (rdG X [] vs g) (rdT X W0 [] tt) (rdE X W0 [] te) vs σ H Q := by
  obtain ⟨G, ms, s, h, hh, sl, q⟩ := hq
  refine ⟨G, ms, s, h, hh, sl, Post.bind q fun it h1 J H1 G1 ms1 e1 p1 hh1 ij q1 => ?_⟩
  intro Dd hD
  have hF := hh1.fnone hD
  have hh2 : Hh X.K (fupd G1 Dd (.lst [])) ms1 h1 (upd H1 Dd (.lst [])) := hh1.frame hD
  have seqs : ∀ ds, Yields X.K J G1 ms1 ds → ds.length ≤ sizeLine → Post X.K X.mg (fun c d H => W c d σ H) G1 ms1 (Is X.K) (compA g tt te (wipeS s vs) (newL m) ds [] h1) Q →
      (∃ WW : Nat → Nat → Hp → Prop, (∃ m, WW 0 m (upd H1 Dd (.lst []))) ∧ ∀ i m H, WW i m H →
        (J.stop i H ∧ Q (.ref Dd) H) ∨ (J.go i H ∧ ∃ Nx : Hp → Prop, (∀ H', Nx H' → ∃ m', m' < m ∧ WW (i + 1) m' H') ∧ ∀ x H', J.yld i H x H' → rdG X [] vs g x (L2.wipe σ vs) H' fun σ2 H2 => L2.wipe σ2 vs = L2.wipe σ vs ∧ rdT X W0 [] tt σ2 H2 fun b H3 =>
          if b = true then rdE X W0 [] te σ2 H3 fun y H4 => ∃ acc, H4 Dd = some (.lst acc) ∧ acc.length < sizeLine ∧ Nx (upd H4 Dd (.lst (acc ++ [y]))) else Nx H3)) := fun ds ij hlen q => by
    refine ⟨fun i m' H' => ∃ G2 ms2 h2 acc ws, Hh X.K G2 ms2 h2 H' ∧ Same G1.1 G2.1 ∧ ms1 <+: ms2 ∧ G2.2 = upd G1.2 Dd (.lst ws) ∧ IsL X.K G2 ms2 acc ws ∧ acc.length ≤ i ∧ i ≤ ds.length ∧ m' = ds.length - i ∧
        Post X.K X.mg (fun c d H => W c d σ H) G1 ms1 (Is X.K) (compA g tt te (wipeS s vs) (newL m) (ds.drop i) acc h2) Q,
      ⟨ds.length, _, ms1, h1, [], [], hh2, Same.refl _, pre_refl _, rfl, rfl, Nat.le_refl _, Nat.zero_le _, by simp, q⟩, ?_⟩
    rintro i m' H' ⟨G2, ms2, h2, acc, ws, k1, k2, k3, k4, k5, k6, k7, rfl, k8⟩
    by_cases hi : i < ds.length
    · have hd : ds.drop i = ds[i] :: ds.drop (i + 1) := List.drop_eq_getElem_cons hi
      rw [hd] at k8
      obtain ⟨hgo, hy⟩ := (ij i h2 G2 ms2 H' k1 k2 k3).1 ds[i] (List.getElem?_eq_getElem hi)
      refine .inr ⟨hgo, fun H' => ∃ G2 ms2 h2 acc ws, Hh X.K G2 ms2 h2 H' ∧ Same G1.1 G2.1 ∧ ms1 <+: ms2 ∧ G2.2 = upd G1.2 Dd (.lst ws) ∧ IsL X.K G2 ms2 acc ws ∧ acc.length ≤ i + 1 ∧
        Post X.K X.mg (fun c d H => W c d σ H) G1 ms1 (Is X.K) (compA g tt te (wipeS s vs) (newL m) (ds.drop (i + 1)) acc h2) Q, ?_, ?_⟩
      · rintro H' ⟨G2, ms2, h2, acc, ws, k1, k2, k3, k4, k5, k6, k8⟩
        exact ⟨ds.length - (i + 1), by omega, G2, ms2, h2, acc, ws, k1, k2, k3, k4, k5, k6, hi, rfl, k8⟩
      · intro x H3 y
        obtain ⟨G3, e3, hh3, i3⟩ := hy x H3 y
        have hs3 : Sl X.K G3 ms2 [] (wipeS s vs) (L2.wipe σ vs) := (Sl.wipe (vs := vs) ((sl.mono e1 p1).mono' k2 k3)).mono e3 (pre_refl _)
        refine comp_turn rfl hh3 hs3 i3 (k2.trans e3.le) k3 (e3.fr.trans k4) (IsL.mono e3 (pre_refl _) _ _ k5) (by omega) k8 ?_ ?_
        · exact fun h5 G5 ms5 H5 a1 a2 a3 a4 a5 a6 => ⟨G5, ms5, h5, acc, ws, a1, a2, a3, a4, a5, by omega, a6⟩
        · exact fun y v h5 G5 ms5 H5 a1 a2 a3 a4 a5 a6 => ⟨G5, ms5, h5, acc ++ [y], ws ++ [v], a1, a2, a3, a4, a5, by rw [List.length_append]; simp; omega, a6⟩
    · rw [List.drop_eq_nil_of_le (by omega)] at k8
      refine .inl ⟨(ij i h2 G2 ms2 H' k1 k2 k3).2 (by omega), ?_⟩
      exact comp_end k1 k2 k3 k4 hF k5 (by omega) k8
  cases it with
  | seq ds => exact seqs ds ij.1 ij.2 q1
  | rng lo n =>
    cases ij
    dsimp only at q1
    split at q1
    · rename_i hz
      exact seqs (rgL lo n) yields_range (by unfold rgL; simpa using hz) q1
    · exact q1.elim
  | loc n =>
    obtain ⟨ad, ha, rfl⟩ := ij
    dsimp only at q1
    cases el : locAt h1 n with
    | none => rw [el] at q1; exact q1.elim
    | some xs =>
      rw [el] at q1
      dsimp only at q1
      refine ⟨fun i m' H' => ∃ G2 ms2 h2 acc ws, Hh X.K G2 ms2 h2 H' ∧ Same G1.1 G2.1 ∧ ms1 <+: ms2 ∧ G2.2 = upd G1.2 Dd (.lst ws) ∧ IsL X.K G2 ms2 acc ws ∧ (acc.length ≤ i ∧ acc.length ≤ sizeLine) ∧
          Post X.K X.mg (fun c d H => W c d σ H) G1 ms1 (Is X.K) (compL g tt te (wipeS s vs) n (newL m) m' i acc h2) Q,
        ⟨xs.length + 1, _, ms1, h1, [], [], hh2, Same.refl _, pre_refl _, rfl, rfl, ⟨Nat.le_refl _, Nat.zero_le _⟩, q1⟩, ?_⟩
      rintro i m' H' ⟨G2, ms2, h2, acc, ws, k1, k2, k3, k4, k5, k6, k8⟩
      cases m' with
      | zero => exact k8.elim
      | succ m' =>
        unfold compL at k8
        cases el2 : locAt h2 n with
        | none => rw [el2] at k8; exact k8.elim
        | some ys =>
          rw [el2] at k8
          dsimp only at k8
          obtain ⟨ad', zs, j1, j2, j3⟩ := k1.at (locAt_some el2)
          have hyz := k1.atz (locAt_some el2)
          rw [pre_get k3 ha] at j1
          cases j1
          have hq : SqL X.K H' ad zs := .of j2
          cases ey : ys[i]? with
          | none =>
            rw [ey] at k8
            dsimp only at k8
            refine .inl ⟨⟨zs, hq, ?_⟩, comp_end k1 k2 k3 k4 hF k5 k6.2 k8⟩
            rw [← j3.length]
            exact List.getElem?_eq_none_iff.mp ey
          | some d =>
            rw [ey] at k8
            dsimp only at k8
            have hiy : i < ys.length := (List.getElem?_eq_some_iff.mp ey).1
            obtain ⟨v, n1, n2⟩ := j3.get ey
            refine .inr ⟨⟨zs, v, hq, n1⟩, fun H' => ∃ G2 ms2 h2 acc ws, Hh X.K G2 ms2 h2 H' ∧ Same G1.1 G2.1 ∧ ms1 <+: ms2 ∧ G2.2 = upd G1.2 Dd (.lst ws) ∧ IsL X.K G2 ms2 acc ws ∧ (acc.length ≤ i + 1 ∧ acc.length ≤ sizeLine) ∧
              Post X.K X.mg (fun c d H => W c d σ H) G1 ms1 (Is X.K) (compL g tt te (wipeS s vs) n (newL m) m' (i + 1) acc h2) Q, fun H' hw => ⟨m', by omega, hw⟩, ?_⟩
            rintro x H3 ⟨rfl, y⟩
            have := y zs hq
            rw [n1] at this
            cases this
            have hs3 : Sl X.K G2 ms2 [] (wipeS s vs) (L2.wipe σ vs) := Sl.wipe (vs := vs) ((sl.mono e1 p1).mono' k2 k3)
            refine comp_turn rfl k1 hs3 n2 k2 k3 k4 k5 (Nat.lt_of_le_of_lt k6.1 (Nat.lt_of_lt_of_le hiy hyz)) k8 ?_ ?_
            · exact fun h5 G5 ms5 H5 a1 a2 a3 a4 a5 a6 => ⟨G5, ms5, h5, acc, ws, a1, a2, a3, a4, a5, ⟨by omega, k6.2⟩, a6⟩
            · exact fun y v h5 G5 ms5 H5 a1 a2 a3 a4 a5 a6 => ⟨G5, ms5, h5, acc ++ [y], ws ++ [v], a1, a2, a3, a4, a5, ⟨by rw [List.length_append]; simp; omega, by rw [List.length_append]; exact Nat.le_trans (Nat.add_le_add_right k6.1 1) (Nat.le_trans hiy hyz)⟩, a6⟩
theorem ve_comp (m : Bool) {elt tg iter : Expr} {ifs : List Expr} {scope : Scope} (own : List (Str × Nat)) {fi : FI} {g : Tg} {tt : FT} {te : FE} (hc : X.calm = true) (hN : X.N.Nodup) (hi : VI X W pin tg iter fi) (ok : BlkOk X.N X.env.scope scope own)
    (hg : ∀ (s : Shared) (H : Hp) (C : Addr) (cl : List (Str × Addr)) (fp : List Addr), VG (X.blk s H scope (compEnvC scope cl C X.env) fp) [] (own.map (·.2)) tg g) (ht : ∀ (s : Shared) (H : Hp) (C : Addr) (cl : List (Str × Addr)) (fp : List Addr), VTs (X.blk s H scope (compEnvC scope cl C X.env) fp) W0 [] ifs tt)
    (he : ∀ (s : Shared) (H : Hp) (C : Addr) (cl : List (Str × Addr)) (fp : List Addr), VE (X.blk s H scope (compEnvC scope cl C X.env) fp) W0 [] elt te) (hs : ∀ x, foldedSetIterable iter X.env x = pure x := by intro _; rfl) :
    VE X W pin (.ListComp elt [⟨tg, iter, ifs, 0⟩] scope pos) (eComp m (own.map (·.2)) fi g tt te) :=
  pe_imp (pe_lc (g := rdG X [] (own.map (fun (p : Str × Nat) => p.2)) g) (tt := rdT X W0 [] tt) (te := rdE X W0 [] te) hc hN hi ok hg ht he hs) fun σ H Q q => comp_read m q
theorem vs_setComp (m : Bool) (i : Nat) {y : Str} {py : Pos} {elt tg iter : Expr} {ifs : List Expr} {scope : Scope} {spos : Pos} (own : List (Str × Nat)) {fi : FI} {g : Tg} {tt : FT} {te : FE} (hc : X.calm = true) (hN : X.N.Nodup) (hi : VI X W pin tg iter fi) (ok : BlkOk X.N X.env.scope scope own)
    (hg : ∀ (s : Shared) (H : Hp) (C : Addr) (cl : List (Str × Addr)) (fp : List Addr), VG (X.blk s H scope (compEnvC scope cl C X.env) fp) [] (own.map (·.2)) tg g) (ht : ∀ (s : Shared) (H : Hp) (C : Addr) (cl : List (Str × Addr)) (fp : List Addr), VTs (X.blk s H scope (compEnvC scope cl C X.env) fp) W0 [] ifs tt)
    (he : ∀ (s : Shared) (H : Hp) (C : Addr) (cl : List (Str × Addr)) (fp : List Addr), VE (X.blk s H scope (compEnvC scope cl C X.env) fp) W0 [] elt te)
    (hy : X.N[i]? = some y := by rfl) (hyl : X.env.scope.names.lookup y = some .local := by rfl) (np : NotPin pin i := by first | exact notPin_nil | decide)
    (hsw : swapsWith (.ListComp elt [⟨tg, iter, ifs, 0⟩] scope pos) (some (.Name y py)) spos.line X.env = pure true := by exact sw_true rfl rfl rfl (by decide +kernel)) (hs : ∀ x, foldedSetIterable iter X.env x = pure x := by intro _; rfl) :
    VS X W pin (.Assign [.Name y py] (.ListComp elt [⟨tg, iter, ifs, 0⟩] scope pos) spos) (sSet i (eComp m (own.map (·.2)) fi g tt te)) := by
  refine ps_imp (ps_setLc (g := rdG X [] (own.map (fun (p : Str × Nat) => p.2)) g) (tt := rdT X W0 [] tt) (te := rdE X W0 [] te) hc hN hy hyl hsw hi ok hg ht he hs) fun D σ H ⟨G, ms, s, h, hh, sl, q⟩ => ?_
  refine comp_read m ⟨G, ms, s, h, hh, sl, PostS.ofR sl q fun d h1 v H1 G1 ms1 e1 p1 hh1 i1 q1 => ?_⟩
  exact q1 _ H1 G1 ms1 (GLe.refl _) (pre_refl _) hh1 ((sl.mono e1 p1).set i1 np)
end
end WD
namespace WD
open PySem PySem.Spec PyProof.Rows L2
mutual
def D.und (n : Nat) : D → Bool
  | .tup xs => undL n xs
  | .lst xs => undL n xs
  | .scr xs => undL n xs
  | .dic _ xs => undL n xs
  | .loc m => decide (m < n)
  | _ => true
def undL (n : Nat) : List D → Bool
  | [] => true
  | x :: xs => x.und n && undL n xs
end
def O.und (n : Nat) : O → Bool
  | .lst xs => undL n xs
  | .ins _ fs => undL n (fs.map Prod.snd)
  | .dct _ kvs => undL n (kvs.map Prod.fst) && undL n (kvs.map Prod.snd)
  | .dci _ _ => true
section
variable {K : PySem.W.Frag} {mg : Str → Option Value} {E : XK} {G G' : GG} {H : Hp} {ms ms' : List Addr} {h h' : Hs}
theorem get_cut {n : Nat} {a : Addr} (p : ms <+: ms') (h : ms'[n]? = some a) (hn : n < ms.length) : ms[n]? = some a := by
  obtain ⟨t, rfl⟩ := p
  rw [List.getElem?_append_left hn] at h; exact h
theorem lt_of_get {α : Type} {l : List α} {n : Nat} {a : α} (h : l[n]? = some a) : n < l.length := by
  rcases Nat.lt_or_ge n l.length with q | q
  · exact q
  · rw [List.getElem?_eq_none q] at h; cases h
mutual
theorem Is.cut (p : ms <+: ms') : ∀ (d : D) (v : V), Is K G ms' d v → d.und ms.length = true → Is K G ms d v
  | .non, _, h, _ => h
  | .bl _, _, h, _ => h
  | .int _, _, h, _ => h
  | .str _, _, h, _ => h
  | .tup xs, v, h, b => by
    obtain ⟨a, vs, h1, h2, h3⟩ := h
    exact ⟨a, vs, h1, h2, IsL.cut p xs vs h3 (by simpa [D.und] using b)⟩
  | .lst xs, v, h, b => by
    obtain ⟨a, vs, h1, h2, h3⟩ := h
    exact ⟨a, vs, h1, h2, IsL.cut p xs vs h3 (by simpa [D.und] using b)⟩
  | .scr xs, v, h, b => by
    obtain ⟨a, vs, h1, h2, h3⟩ := h
    exact ⟨a, vs, h1, h2, IsL.cut p xs vs h3 (by simpa [D.und] using b)⟩
  | .dic ks xs, v, h, b => by
    obtain ⟨a, vs, h1, h2, hl, h3⟩ := h
    exact ⟨a, vs, h1, h2, hl, IsL.cut p xs vs h3 (by simpa [D.und] using b)⟩
  | .loc n, v, h, b => by
    obtain ⟨a, h1, h2⟩ := h
    exact ⟨a, get_cut p h1 (by simpa [D.und] using b), h2⟩
theorem IsL.cut (p : ms <+: ms') : ∀ (xs : List D) (vs : List V), IsL K G ms' xs vs → undL ms.length xs = true → IsL K G ms xs vs
  | [], _, h, _ => h
  | x :: xs, vs, h, b => by
    obtain ⟨v, r, h1, h2, h3⟩ := h
    simp only [undL, Bool.and_eq_true] at b
    exact ⟨v, r, h1, Is.cut p x v h2 b.1, IsL.cut p xs r h3 b.2⟩
end
mutual
theorem Is.und : ∀ (d : D) (v : V), Is K G ms d v → d.und ms.length = true
  | .non, _, _ => rfl
  | .bl _, _, _ => rfl
  | .int _, _, _ => rfl
  | .str _, _, _ => rfl
  | .tup xs, v, h => by
    obtain ⟨a, vs, h1, h2, h3⟩ := h
    simpa [D.und] using IsL.und xs vs h3
  | .lst xs, v, h => by
    obtain ⟨a, vs, h1, h2, h3⟩ := h
    simpa [D.und] using IsL.und xs vs h3
  | .scr xs, v, h => by
    obtain ⟨a, vs, h1, h2, h3⟩ := h
    simpa [D.und] using IsL.und xs vs h3
  | .dic ks xs, v, h => by
    obtain ⟨a, vs, h1, h2, hl, h3⟩ := h
    simpa [D.und] using IsL.und xs vs h3
  | .loc n, v, h => by
    obtain ⟨a, h1, h2⟩ := h
    simpa [D.und] using lt_of_get h1
theorem IsL.und : ∀ (xs : List D) (vs : List V), IsL K G ms xs vs → undL ms.length xs = true
  | [], _, _ => rfl
  | x :: xs, vs, h => by
    obtain ⟨v, r, h1, h2, h3⟩ := h
    simp only [undL, Bool.and_eq_true]
    exact ⟨Is.und x v h2, IsL.und xs r h3⟩
end
theorem IsF.und : ∀ (fs : List (Str × D)) (vs : List (Str × V)), IsF K G ms fs vs → undL ms.length (fs.map Prod.snd) = true
  | [], _, _ => rfl
  | q :: r, vs, h => by
    obtain ⟨v, s, rfl, h1, h2⟩ := h
    rw [List.map_cons, undL, Is.und q.2 v h1, IsF.und r s h2]; rfl
theorem IsF.cut (p : ms <+: ms') : ∀ (fs : List (Str × D)) (vs : List (Str × V)), IsF K G ms' fs vs → undL ms.length (fs.map Prod.snd) = true → IsF K G ms fs vs
  | [], _, h, _ => h
  | q :: r, vs, h, b => by
    obtain ⟨v, s, rfl, h1, h2⟩ := h
    rw [List.map_cons, undL, Bool.and_eq_true] at b
    exact ⟨v, s, rfl, Is.cut p _ _ h1 b.1, IsF.cut p r s h2 b.2⟩
theorem IsKV.und : ∀ (kvs : List (D × D)) (xs : List (NestedKey × Addr × V)), IsKV K G ms kvs xs → (undL ms.length (kvs.map Prod.fst) && undL ms.length (kvs.map Prod.snd)) = true
  | [], _, _ => rfl
  | q :: r, xs, h => by
    obtain ⟨k, a, v, s, rfl, h1, h2, h3, h4, h5⟩ := h
    have i := IsKV.und r s h5
    rw [Bool.and_eq_true] at i
    rw [List.map_cons, List.map_cons, undL, undL, Is.und q.1 _ h3, Is.und q.2 _ h4, i.1, i.2]; rfl
theorem IsKV.cut (p : ms <+: ms') : ∀ (kvs : List (D × D)) (xs : List (NestedKey × Addr × V)), IsKV K G ms' kvs xs → undL ms.length (kvs.map Prod.fst) = true → undL ms.length (kvs.map Prod.snd) = true → IsKV K G ms kvs xs
  | [], _, h, _, _ => h
  | q :: r, xs, h, b, c => by
    obtain ⟨k, a, v, s, rfl, h1, h2, h3, h4, h5⟩ := h
    rw [List.map_cons, undL, Bool.and_eq_true] at b c
    exact ⟨k, a, v, s, rfl, h1, h2, Is.cut p _ _ h3 b.1, Is.cut p _ _ h4 c.1, IsKV.cut p r s h5 b.2 c.2⟩
theorem Hh.und (x : Hh K G ms h H) {i : Nat} {o : O} (e : h[i]? = some o) : o.und ms.length = true := by
  have hm : i < ms.length := by rw [x.len]; exact lt_of_get e
  have q := x.obj i ms[i] o (List.getElem?_eq_getElem hm) e
  cases o with
  | lst xs =>
    obtain ⟨vs, h1, h2, _⟩ := q
    exact IsL.und xs vs h2
  | ins c fs =>
    obtain ⟨C, dx, vs, _, _, _, h4, _⟩ := q
    exact IsF.und fs vs h4
  | dct fz kvs =>
    obtain ⟨xs, _, _, h3, _⟩ := q
    exact IsKV.und kvs xs h3
  | dci fz kvs => rfl
theorem ObjIs.cut (p : ms <+: ms') {a : Addr} {o : O} (q : ObjIs K G ms' H a o) (b : o.und ms.length = true) : ObjIs K G ms H a o := by
  cases o with
  | lst xs =>
    obtain ⟨vs, h1, h2, h3⟩ := q
    exact ⟨vs, h1, IsL.cut p _ _ h2 b, h3⟩
  | ins c fs =>
    obtain ⟨C, dx, vs, h1, h2, h3, h4, h5⟩ := q
    exact ⟨C, dx, vs, h1, h2, h3, IsF.cut p _ _ h4 b, h5⟩
  | dct fz kvs =>
    obtain ⟨xs, h1, h2, h3, h4, h5⟩ := q
    simp only [O.und, Bool.and_eq_true] at b
    exact ⟨xs, h1, h2, IsKV.cut p _ _ h3 b.1 b.2, h4, h5⟩
  | dci fz kvs => exact q
theorem Hh.trunc (x : Hh K G ms' h' H) (p : ms <+: ms') (hb : ∀ (i : Nat) (o : O), i < ms.length → h'[i]? = some o → o.und ms.length = true) : Hh K G ms (h'.take ms.length) H := by
  have hl : ms.length ≤ ms'.length := p.length_le
  have sub : ∀ a ∈ ms, a ∈ ms' := fun a ha => p.subset ha
  refine ⟨x.sub, x.gsz, x.frm, fun a o e => ⟨(x.frd a o e).1, fun hm => (x.frd a o e).2 (sub a hm)⟩, ?_, ?_, fun a ha => x.dis a (sub a ha), fun n a o e1 e2 => ?_⟩
  · rw [List.length_take, ← x.len]; omega
  · obtain ⟨t, rfl⟩ := p
    exact (List.nodup_append.mp x.nd).1
  · have hn := lt_of_get e1
    rw [List.getElem?_take_of_lt hn] at e2
    have q := x.obj n a o (pre_get p e1) e2
    have b := hb n o hn e2
    cases o with
    | lst xs =>
      obtain ⟨vs, h1, h2, h3⟩ := q
      exact ⟨vs, h1, IsL.cut p _ _ h2 b, h3⟩
    | ins c fs =>
      obtain ⟨C, dx, vs, h1, h2, h3, h4, h5⟩ := q
      exact ⟨C, dx, vs, h1, h2, h3, IsF.cut p _ _ h4 b, h5⟩
    | dct fz kvs =>
      obtain ⟨xs, h1, h2, h3, h4, h5⟩ := q
      simp only [O.und, Bool.and_eq_true] at b
      exact ⟨xs, h1, h2, IsKV.cut p _ _ h3 b.1 b.2, h4, h5⟩
    | dci fz kvs => exact q
theorem Hh.ice (x : Hh K G ms h H) {a : Addr} {o : HO} (e : H a = some o) (g1 : G.1 a = none) (g2 : G.2 a = none) (nm : a ∉ ms) (hz : SzO o) : Hh K (gupd G a o) ms h H := by
  refine ⟨fun b u q => ?_, fun b u q => ?_, x.frm, fun b u q => ⟨?_, (x.frd b u q).2⟩, x.len, x.nd, fun b hb => ?_, fun n b u e1 e2 => (x.obj n b u e1 e2).mono (gle_upd g1) (pre_refl _) rfl⟩
  · by_cases hq : b = a
    · subst hq
      have q : upd G.1 b o b = some u := q
      rw [upd_same] at q; cases q; exact e
    · have q : upd G.1 a o b = some u := q
      rw [upd_ne hq] at q; exact x.sub b u q
  · by_cases hq : b = a
    · subst hq
      have q : upd G.1 b o b = some u := q
      rw [upd_same] at q; cases q; exact hz
    · have q : upd G.1 a o b = some u := q
      rw [upd_ne hq] at q; exact x.gsz b u q
  · show upd G.1 a o b = none
    rw [upd_ne (fun z => by have q : G.2 b = some u := q; rw [z, g2] at q; cases q)]; exact (x.frd b u q).1
  · show upd G.1 a o b = none
    rw [upd_ne (fun z => nm (by rw [← z]; exact hb))]; exact x.dis b hb
end
inductive Md where
  | trunc | keep | move
def TruncOk (n : Nat) (h h' : Hs) : Prop := ∀ (i : Nat) (o : O), i < n → h'[i]? = some o → h[i]? = some o ∨ o.und n = true
def frz1 (n : Nat) (h' : Hs) (d : D) : Option D := if d.und n = true then some d else match d with
  | .loc m => match locAt h' m with
    | some xs => if undL n xs = true then some (.lst xs) else none
    | none => none
  | _ => none
open Classical in
noncomputable def exitT (h : Hs) (d : D) (h' : Hs) : R D := if TruncOk h.length h h' then (match frz1 h.length h' d with
  | some d' => .ok d' (h'.take h.length)
  | none => .bad) else .bad
def dctF (h : Hs) (n : Nat) : Option (List (D × D)) := match h[n]? with
  | some (.dct false kvs) => some kvs
  | _ => none
theorem dctF_some {h : Hs} {n : Nat} {kvs : List (D × D)} (e : dctF h n = some kvs) : h[n]? = some (.dct false kvs) := by
  unfold dctF at e
  split at e
  · rename_i q; cases e; exact q
  · cases e
open Classical in
noncomputable def exitM (h : Hs) (m : Nat) (h' : Hs) : R D := if TruncOk h.length h h' ∧ h.length ≤ m then (match locAt h' m with
  | some xs => if undL h.length xs = true then .ok (.loc h.length) (h'.take h.length ++ [.lst xs]) else .bad
  | none => (match dctF h' m with
    | some kvs => if (O.dct false kvs).und h.length = true then .ok (.loc h.length) (h'.take h.length ++ [.dct false kvs]) else .bad
    | none => .bad)) else .bad
noncomputable def exitF (md : Md) (h : Hs) (d : D) (h' : Hs) : R D := match md with
  | .keep => .ok d h'
  | .trunc => exitT h d h'
  | .move => match d with
    | .loc m => exitM h m h'
    | _ => exitT h d h'
open Classical in
noncomputable def exitX (h : Hs) (x : Xn) (h' : Hs) : R D := if TruncOk h.length h h' ∧ (∀ f d, x.val = some (f, d) → d.und h.length = true) then .err x (h'.take h.length) else .bad
noncomputable def runF (n N : Nat) (md : Md) (b : FS) : List D → Hs → R D := fun ds h => if ds.length = n then (match b (ds.map some ++ List.replicate (N - n) none) h with
  | .nx _ h' => exitF md h .non h'
  | .rt d h' => exitF md h d h'
  | .er x _ h' => exitX h x h'
  | _ => .bad) else .bad
/-- a def's promise: it does what g says -/
def spF (K : PySem.W.Frag) (mg : Str → Option Value) (n : Nat) (g : List D → Hs → R D) : Sp := fun vs H Q E => vs.length = n ∧ ∃ G ms ds h, Hh K G ms h H ∧ IsL K G ms ds vs ∧ Post K mg E G ms (Is K) (g ds h) Q
section
variable {K : PySem.W.Frag} {mg : Str → Option Value} {E : XK} {G G' : GG} {H H' : Hp} {ms ms' : List Addr} {h h' : Hs}
theorem trunc_ok (x : Hh K G ms h H) (x' : Hh K G' ms' h' H') (p : ms <+: ms') (t : TruncOk h.length h h') : Hh K G' ms (h'.take h.length) H' := by
  rw [← x.len] at t ⊢
  refine x'.trunc p fun i o hi e => ?_
  rcases t i o hi e with q | q
  · exact x.und q
  · exact q
theorem exitT_post {d : D} {v : V} {Q : VK} (x : Hh K G ms h H) (e : GLe G G') (p : ms <+: ms') (x' : Hh K G' ms' h' H') (i : Is K G' ms' d v) (q : Post K mg E G ms (Is K) (exitT h d h') Q) : Q v H' := by
  unfold exitT at q
  split at q
  · rename_i t
    have xt := trunc_ok x x' p t
    unfold frz1 at q
    split at q
    · rename_i d' ed
      split at ed
      · rename_i hb
        cases ed
        exact q.fin2 e (pre_refl _) xt (Is.cut p _ _ i (by rw [x.len]; exact hb))
      · split at ed
        · rename_i m hb
          split at ed
          · rename_i xs ex
            split at ed
            · rename_i hx
              cases ed
              obtain ⟨a, vs, e1, e2, e3, e4⟩ := x'.locW i ex
              subst e1
              have g1 := x'.dis a (List.mem_of_getElem? e2)
              have g2 : G'.2 a = none := by
                cases z : G'.2 a with
                | none => rfl
                | some u =>
                  obtain ⟨od, u', w⟩ := (x'.frd a u z).2 (List.mem_of_getElem? e2)
                  have k := x'.frm a u z
                  rw [w, e3] at k
                  cases k
              have nm : a ∉ ms := fun hm => by
                obtain ⟨j, hj⟩ := List.getElem?_of_mem hm
                have := nd_ix x'.nd (pre_get p hj) e2
                subst this
                exact hb (by simpa [D.und, x.len] using lt_of_get hj)
              refine q.fin2 (e.trans (gle_upd g1)) (pre_refl _) (xt.ice e3 g1 g2 nm (show vs.length ≤ sizeLine by rw [← e4.length]; exact x'.atz (locAt_some ex))) ⟨a, vs, rfl, upd_same, ?_⟩
              exact IsL.mono (gle_upd g1) (pre_refl _) _ _ (IsL.cut p _ _ e4 (by rw [x.len]; exact hx))
            · cases ed
          · cases ed
        · cases ed
    · exact q.elim
  · exact q.elim
theorem exitM_core {m : Nat} {a : Addr} {ob : O} (x : Hh K G ms h H) (p : ms <+: ms') (x' : Hh K G' ms' h' H') (e2 : ms'[m]? = some a) (eo : h'[m]? = some ob) (hu : ob.und h.length = true) (t : TruncOk h.length h h') (hm : h.length ≤ m) :
    Hh K G' (ms ++ [a]) (h'.take h.length ++ [ob]) H' := by
  have xt := trunc_ok x x' p t
  have q := x'.obj m a ob e2 eo
  have q' := q.cut p (by rw [x.len]; exact hu)
  have nm : a ∉ ms := fun hma => by
    obtain ⟨j, hj⟩ := List.getElem?_of_mem hma
    have := nd_ix x'.nd (pre_get p hj) e2
    subst this
    have := lt_of_get hj
    rw [x.len] at this
    omega
  have hl : (h'.take h.length).length = ms.length := xt.len.symm
  have pp : ms <+: ms ++ [a] := ⟨[a], rfl⟩
  refine ⟨xt.sub, xt.gsz, xt.frm, fun b u z => ⟨(xt.frd b u z).1, fun hm => ?_⟩, by simp [hl], ?_, fun b hb => ?_, fun n b u e1 e2' => ?_⟩
  · rcases List.mem_append.mp hm with w | w
    · exact (xt.frd b u z).2 w
    · have : b = a := by simpa using w
      subst this
      exact (x'.frd b u z).2 (List.mem_of_getElem? e2)
  · refine List.nodup_append.mpr ⟨xt.nd, by simp, fun b hb c hc => ?_⟩
    have : c = a := by simpa using hc
    subst this
    exact fun z => nm (by rw [← z]; exact hb)
  · rcases List.mem_append.mp hb with w | w
    · exact xt.dis b w
    · have : b = a := by simpa using w
      subst this
      exact x'.dis _ (List.mem_of_getElem? e2)
  · by_cases hn : n < ms.length
    · rw [List.getElem?_append_left hn] at e1
      rw [List.getElem?_append_left (by rw [hl]; exact hn)] at e2'
      exact (xt.obj n b u e1 e2').mono (GLe.refl _) pp rfl
    · have hn' : n = ms.length := by
        have := lt_of_get e1
        simp at this; omega
      subst hn'
      simp at e1
      rw [← hl] at e2'
      simp at e2'
      subst e1 e2'
      exact q'.mono (GLe.refl _) pp rfl
theorem exitM_post {m : Nat} {v : V} {Q : VK} (x : Hh K G ms h H) (e : GLe G G') (p : ms <+: ms') (x' : Hh K G' ms' h' H') (i : Is K G' ms' (.loc m) v) (q : Post K mg E G ms (Is K) (exitM h m h') Q) : Q v H' := by
  obtain ⟨a, e2, rfl⟩ := i
  have fin : ∀ ob : O, h'[m]? = some ob → ob.und h.length = true → TruncOk h.length h h' ∧ h.length ≤ m → Post K mg E G ms (Is K) (.ok (.loc h.length) (h'.take h.length ++ [ob])) Q → Q (.ref a) H' := fun ob eo hu t q =>
    q.fin2 (ms' := ms ++ [a]) e ⟨[a], rfl⟩ (exitM_core x p x' e2 eo hu t.1 t.2) ⟨a, by rw [← x.len]; simp, rfl⟩
  unfold exitM at q
  split at q
  · rename_i t
    split at q
    · rename_i xs ex
      split at q
      · rename_i hx
        exact fin (.lst xs) (locAt_some ex) hx t q
      · exact q.elim
    · split at q
      · rename_i kvs ek
        split at q
        · rename_i hx
          exact fin (.dct false kvs) (dctF_some ek) hx t q
        · exact q.elim
      · exact q.elim
  · exact q.elim
theorem exitF_post {md : Md} {d : D} {v : V} {Q : VK} (x : Hh K G ms h H) (e : GLe G G') (p : ms <+: ms') (x' : Hh K G' ms' h' H') (i : Is K G' ms' d v) (q : Post K mg E G ms (Is K) (exitF md h d h') Q) : Q v H' := by
  cases md with
  | keep => exact q.fin2 e p x' i
  | trunc => exact exitT_post x e p x' i q
  | move =>
    cases d with
    | loc m => exact exitM_post x e p x' i q
    | _ => exact exitT_post x e p x' i q
theorem exitX_post {y : Xn} {d : Option Addr} {Q : VK} (x : Hh K G ms h H) (e : GLe G G') (p : ms <+: ms') (x' : Hh K G' ms' h' H') (i : XIs K G' ms' H' y d) (q : Post K mg E G ms (Is K) (exitX h y h') Q) : E (clsV mg y) d H' := by
  unfold exitX at q
  split at q
  · rename_i t
    have xt := trunc_ok x x' p t.1
    refine q H' G' ms d e (pre_refl _) xt ?_
    unfold XIs at i ⊢
    cases ev : y.val with
    | none => rw [ev] at i; exact i
    | some fd =>
      obtain ⟨f, dd⟩ := fd
      rw [ev] at i
      obtain ⟨a, v, k1, k2, k3⟩ := i
      exact ⟨a, v, k1, k2, Is.cut p _ _ k3 (by rw [x.len]; exact t.2 f dd ev)⟩
  · exact q.elim
theorem map_start {N : List Str} {ds : List D} {vs : List V} (i : IsL K G ms ds vs) : Sl K G ms [] (ds.map some ++ List.replicate (N.length - ds.length) none) (start N vs) := by
  unfold L2.start
  have hl := i.length
  refine ⟨by simp [hl], fun j d e => ?_, fun _ h => (nomatch h)⟩
  by_cases hj : j < ds.length
  · rw [List.getElem?_append_left (by simpa using hj), List.getElem?_map] at e
    cases ed : ds[j]? with
    | none => rw [ed] at e; cases e
    | some d' =>
      rw [ed] at e
      cases e
      obtain ⟨v, k1, k2⟩ := i.get ed
      refine ⟨v, ?_, k2⟩
      rw [List.getElem?_append_left (by rw [List.length_map, ← hl]; exact hj), List.getElem?_map, k1]
      rfl
  · rw [List.getElem?_append_right (by simpa using hj)] at e
    have := List.mem_of_getElem? e
    have := List.eq_of_mem_replicate this
    cases this
end
section
variable {P : Program} {w : World} {K : PySem.W.Frag} {mg : Str → Option Value} {base : Heap}
/-- THE RULE for a def -/
theorem fn_ok (md : Md) {x qual : Str} {st : Stmt} {f : Addr} {fd : FuncData} {N ps : List Str} {k : Nat} {b : FS} (F : Fun K x qual st f fd) (S : FnScope N ps (defScope st))
    (hb : ∀ (cdv : Value) (A : Around) (outer : List Env) (s : Shared) (H : Hp) (E : XK), Room k (A.deeper (envOfC qual (defScope st) s.heap.objs.size f cdv)) → VSs (cxOf (L2.CX P w) P w K mg base N qual (defScope st) f cdv A outer s H E) (fun cls d _ H => E cls d H) [] (defBody st) b) :
    FnOk P w K mg base (L2.CX P w) (k + 1) f fd ps (spF K mg ps.length (runF ps.length N.length md b)) := by
  refine F.okX S (fun vs H Q E h => h.1) (fun cdv A outer s H vs Q E hr h => ?_)
  obtain ⟨hl, G, ms, ds, h, hh, i, q⟩ := h
  refine ⟨_, hb cdv A outer s H E hr, G, ms, _, h, hh, map_start (N := N) i, ?_⟩
  have hd : ds.length = ps.length := by rw [i.length]; exact hl
  unfold runF at q
  rw [if_pos hd] at q
  rw [hd]
  cases e : b (ds.map some ++ List.replicate (N.length - ps.length) none) h with
  | nx s' h' =>
    rw [e] at q
    exact fun σ' H' G' ms' e1 p1 hh1 sl1 => exitF_post (d := .non) hh e1 p1 hh1 rfl q
  | rt d h' =>
    rw [e] at q
    exact fun v H' G' ms' e1 p1 hh1 i1 => exitF_post hh e1 p1 hh1 i1 q
  | er y s' h' =>
    rw [e] at q
    exact fun σ' H' G' ms' d e1 p1 hh1 _ i1 => exitX_post hh e1 p1 hh1 i1 q
  | bk s' h' => rw [e] at q; exact q.elim
  | ct s' h' => rw [e] at q; exact q.elim
  | bad => rw [e] at q; exact q.elim
end
section
variable {X : Cx} {W : WX} {pin : List Pn} {pos p : Pos}
def eCall (n : Nat) (g : List D → Hs → R D) (f : FA) : FE := fun s h => (f s h).bind fun ds h1 => if ds.length = n then g ds h1 else .bad
theorem ve_call {k n : Nat} {f : Addr} {fd : FuncData} {ps : List Str} {x : Str} {e : Expr} {es : List Expr} {g : List D → Hs → R D} {fa : FA} (F : FnOk X.prog X.w X.K X.mg X.base (L2.CX X.prog X.w) k f fd ps (spF X.K X.mg n g)) (hr : Room k X.A) (hg : Gl X x) (hm : X.mg x = some (.ref f)) (hk : PySem.W.keepIn X.K (.ref f) = true) (hb : Binds X.K fd ps []) (tk : Takes X W)
    (ha : VA X W pin (e :: es) fa) (hdb : (x == ("__debug__" : Str)) = false := by decide) (he : starEach (e :: es) X.env = (false, eval e X.env) :: starEach es X.env := by rfl) (hpl : (backTo pos (starEach es X.env)).any (·.1) = false := by rfl) :
    VE X W pin (.Call (.Name x p) (e :: es) [] pos) (eCall n g fa) := by
  refine pe_imp (pe_callS F hr hg hm hk hb (fun σ => passAt tk σ) ha hdb he hpl) fun σ H Q ⟨G, ms, s, h, hh, sl, q⟩ => ⟨G, ms, s, h, hh, sl, Post.bind q fun ds h1 vs H1 G1 ms1 e1 p1 hh1 i1 q1 => ?_⟩
  by_cases hn : ds.length = n
  · rw [if_pos hn] at q1
    exact ⟨by rw [← i1.length]; exact hn, G1, ms1, ds, h1, hh1, i1, q1⟩
  · rw [if_neg hn] at q1; exact q1.elim
end
/-- the law's own promise -/
def spL (K : PySem.W.Frag) (g : List D → Hs → R D) : Sp := fun vs H Q _ => spF K (fun _ => none) 1 g vs H Q fun _ _ _ => False
theorem spL_imp {K : PySem.W.Frag} {mg : Str → Option Value} {g : List D → Hs → R D} {vs : List V} {H : Hp} {Q : VK} {E : XK} (q : spL K g vs H Q E) : spF K mg 1 g vs H Q E := by
  obtain ⟨hl, G, ms, ds, h, hh, i, q⟩ := q
  refine ⟨hl, G, ms, ds, h, hh, i, ?_⟩
  cases e : g ds h with
  | ok d h' => rw [e] at q; exact q
  | err x h' => rw [e] at q; exact fun H' G' ms' d h1 h2 h3 h4 => (q H' G' ms' d h1 h2 h3 h4).elim
  | bad => rw [e] at q; exact q
end WD
namespace WD
open PySem PySem.Spec PyProof.Rows L2
def sRaise (name : Str) : FS := fun s h => .er ⟨name, none⟩ s h
/-- what is known of an own error's class -/
structure Xc (K : PySem.W.Frag) (mg : Str → Option Value) (x : Str) (C : Addr) : Prop where
  g : mg x = some (.ref C)
  q : PySem.W.excIn K C veBm "ValueError.__new__" = true
  k : PySem.W.keepIn K (.ref C) = true
  b : PySem.W.subIn K (.ref C) (.type "BaseException") = some true
  t : PySem.W.typeIn K (.ref C) = some (.type "type")
section
variable {X : Cx} {W : WX} {pin : List Pn} {pos : Pos}
theorem pmk_own0 {x : Str} {p : Pos} {C : Addr} (c : Xc X.K X.mg x C) (hg : Gl X x) (hdb : (x == ("__debug__" : Str)) = false := by decide) : PMk X (.Call (.Name x p) [] [] pos) (fun _ H Q => Q (.ref C) none H) := by
  intro pins s σ H Q I h
  refine wpAny_Call_Name_kw (ld_glob I hg c.g ?_ hdb)
  refine PySem.W.callWith_K0 I.kIn c.k ?_
  obtain ⟨bm, N, nm, qn, bs, hdct, sn, sub, ab, col, dd, k0, k1, k2, k3, k5, mN, hC, hN, hni, T⟩ := exc_obj I.kIn c.q
  refine wpAny_call_exc_subT PySem.F.excBase_ValueError T hC hN hni (fun h' e hm => ?_) (Nat.zero_le _)
  exact mk_of I hm (raises_own c.b c.t) h (I.hok.gone hm.new)
theorem vs_raise {x : Str} {p pos' : Pos} {C : Addr} (c : Xc X.K X.mg x C) (hg : Gl X x) (hc : X.calm = true) (tk : Takes X W) (hdb : (x == ("__debug__" : Str)) = false := by decide) : VS X W pin (.Raise (some (.Call (.Name x p) [] [] pos')) none pos) (sRaise x) := by
  refine ps_imp (ps_raise hc tk (pmk_own0 c hg hdb)) fun D σ H ⟨G, ms, s, h, hh, sl, q⟩ => ?_
  have e : clsV X.mg ⟨x, none⟩ = .ref C := by unfold clsV; rw [c.g]; rfl
  have := q σ H G ms none (GLe.refl _) (pre_refl _) hh sl rfl
  rw [e] at this
  exact this
end
/-- every error is a DaysError and a ValueError -/
def subX (y c : Str) : Bool := decide (y = c) || decide (c = "DaysError") || decide (c = "ValueError")
def unset (i : Nat) (r : RS) : RS := match r with
  | .nx s h => .nx (s.set i none) h
  | .bk s h => .bk (s.set i none) h
  | .ct s h => .ct (s.set i none) h
  | .rt d h => .rt d h
  | _ => .bad
def sTry (c : Str) (i : Nat) (names : List Str) (fb : FS) (fs : Str → FS) : FS := fun s h => match fb s h with
  | .er y s' h' => if y.val.isNone = true ∧ y.name ∈ names ∧ i < s'.length then (if subX y.name c = true then unset i (fs y.name (s'.set i none) h') else .er y s' h') else .bad
  | r => r
section
variable {X : Cx} {W : WX} {pin : List Pn} {pos : Pos} {K : PySem.W.Frag} {G : GG} {ms : List Addr}
theorem Sl.setPin {s : Ss} {σ : L2.St} {i : Nat} {v : V} (x : Sl K G ms pin s σ) (np : NotPin pin i) (hi : i < σ.length) : Sl K G ms (.s i v :: pin) (s.set i none) (σ.set i (some v)) := by
  refine ⟨by simp [x.len], fun j d e => ?_, fun p hp => ?_⟩
  · by_cases hj : j = i
    · subst hj
      rw [List.getElem?_set_self (by rw [x.len]; exact hi)] at e
      cases e
    · rw [List.getElem?_set_ne (Ne.symm hj)] at e ⊢
      exact x.get j d e
  · rcases List.mem_cons.mp hp with rfl | hp
    · exact List.getElem?_set_self hi
    · exact (x.pin p hp).set (np p hp)
theorem Sl.unPin {s : Ss} {σ : L2.St} {i : Nat} {v : V} (x : Sl K G ms (.s i v :: pin) s σ) (np : NotPin pin i) : Sl K G ms pin (s.set i none) (σ.set i none) := by
  refine ⟨by simp [x.len], fun j d e => ?_, fun p hp => ?_⟩
  · by_cases hj : j = i
    · subst hj
      have hl := lt_of_get e
      simp at hl
      rw [List.getElem?_set_self hl] at e
      cases e
    · rw [List.getElem?_set_ne (Ne.symm hj)] at e ⊢
      exact x.get j d e
  · exact (x.pin p (List.mem_cons_of_mem _ hp)).set (np p hp)
/-- try: body; except c as n: suite -/
theorem vs_try (i : Nat) (names : List Str) {x n : Str} {body suite : List Stmt} {b0 : Stmt} {np pos' : Pos} {fb : FS} {fs : Str → FS} {C : Addr} (hs : X.stack = X.env :: X.outer) (hf : X.env.frame = some X.env.locals) (hN : X.N.Nodup) (hg : Gl X x) (hm : X.mg x = some (.ref C)) (tk : Takes X W)
    (hex : ∀ y ∈ names, PySem.W.exmOne X.K (clsV X.mg ⟨y, none⟩) (.ref C) = some (subX y x))
    (hb : ∀ (W : WX) (pn : List (Addr × Obj)) (xe : Value → Shared → Prop), Takes (X.tr pn xe) W → PassesOwn (model X.prog X.w) X.A X.env xe → VSs (X.tr pn xe) W pin body fb)
    (hsu : ∀ (a : Addr) (oe : Obj) (y : Str) (pn : List (Addr × Obj)), y ∈ names → Zc (clsV X.mg ⟨y, none⟩) none oe → (∃ vs, oe.data = .fields vs) → VSs (X.suite a ((a, oe) :: pn)) W0 (.s i (.ref a) :: pin) (b0 :: suite) (fs y))
    (hi : X.N[i]? = some n := by rfl) (hln : X.env.kindOf n = some .local := by rfl) (npn : NotPin pin i := by first | exact notPin_nil | decide) (hdb : (x == ("__debug__" : Str)) = false := by decide) :
    VS X W pin (.Try body [.ExceptHandler (some (.Name x np)) (some n) (b0 :: suite) pos'] [] [] pos) (sTry x i names fb fs) := by
  refine ⟨fun pins s σ H D I hq => ?_⟩
  have hlen := I.len
  have hil : i < σ.length := by rw [hlen]; exact lt_of_get hi
  refine (ps_try_as (tb := fun W => rdS X W pin fb) (ts := fun a cls d D σ H => ∃ y, y ∈ names ∧ cls = clsV X.mg ⟨y, none⟩ ∧ d = none ∧ rdS X W0 (.s i (.ref a) :: pin) (fs y) D σ H) hs hf hN hi hln ⟨hg, hdb, .inl hm⟩ tk hb ?_).run pins s σ H D I ?_
  · intro a oe cls d pn hz hfl
    refine ⟨fun pins s σ H D I hq => ?_⟩
    obtain ⟨y, hy, rfl, rfl, hq⟩ := hq
    exact (hsu a oe y pn hy hz hfl).run pins s σ H D I hq
  · obtain ⟨G, ms, s, h, hh, sl, q⟩ := hq
    refine ⟨G, ms, s, h, hh, sl, ?_⟩
    unfold sTry at q
    cases e : fb s h with
    | nx s' h' => rw [e] at q; exact q
    | rt d h' => rw [e] at q; exact q
    | bk s' h' => rw [e] at q; exact q
    | ct s' h' => rw [e] at q; exact q
    | bad => rw [e] at q; exact q
    | er y s' h' =>
      rw [e] at q
      dsimp only at q
      split at q
      · rename_i hy
        obtain ⟨yn, yv⟩ := y
        have hv : yv = none := by
          cases yv with
          | none => rfl
          | some _ => cases hy.1
        subst hv
        intro σ' H' G' ms' d e1 p1 hh1 sl1 xi
        have hd : d = none := xi
        subst hd
        refine ⟨_, hex yn hy.2.1, fun hbt a ha => ?_, fun hbf => ?_⟩
        · rw [if_pos hbt] at q
          have hl' : i < σ'.length := by
            rw [← sl1.len]; exact hy.2.2
          refine ⟨yn, hy.2.1, rfl, rfl, G', ms', s'.set i none, h', hh1, sl1.setPin npn hl', ?_⟩
          have q' := PostS.mono (σ' := σ'.set i (some (.ref a))) (r := unset i (fs yn (s'.set i none) h')) q e1 p1
          cases er : fs yn (s'.set i none) h' with
          | nx s2 h2 => rw [er] at q'; exact fun σ2 H2 G2 ms2 e2 p2 hh2 sl2 => q' _ H2 G2 ms2 e2 p2 hh2 (sl2.unPin npn)
          | bk s2 h2 => rw [er] at q'; exact fun σ2 H2 G2 ms2 e2 p2 hh2 sl2 => q' _ H2 G2 ms2 e2 p2 hh2 (sl2.unPin npn)
          | ct s2 h2 => rw [er] at q'; exact fun σ2 H2 G2 ms2 e2 p2 hh2 sl2 => q' _ H2 G2 ms2 e2 p2 hh2 (sl2.unPin npn)
          | rt d h2 => rw [er] at q'; exact q'
          | er z s2 h2 => rw [er] at q'; exact q'.elim
          | bad => rw [er] at q'; exact q'
        · rw [if_neg (by rw [hbf]; decide)] at q
          exact q σ' H' G' ms' none e1 p1 hh1 sl1 rfl
      · exact q.elim
/-- isinstance(n, c) of the caught error -/
theorem ve_isE {a Dc : Addr} {oe : Obj} {pn : List (Addr × Obj)} (i : Nat) {n x : Str} {cv : Value} {c : V} {b : Bool} {p p1 p2 : Pos} (C : ExcC X.K Dc) (hz : Zc (.ref Dc) none oe) (hf : ∃ vs, oe.data = .fields vs) (hk : PySem.W.kitOne X.K (.ref Dc) cv = some b) (hcv : ∀ u, RelV c u → u = cv)
    (hx : PE (X.suite a ((a, oe) :: pn)) (.Name x p2) (tC c)) (hp : Pn.s i (V.ref a) ∈ pin) (hgi : Gl X "isinstance") (hmi : X.mg "isinstance" = none) (hN : X.N[i]? = some n := by rfl) (hv : Vis X.env.scope n := by first | exact Or.inl rfl | exact Or.inr (Or.inl rfl) | exact Or.inr (Or.inr rfl))
    (hd : (n == ("__debug__" : Str)) = false := by decide) (hcd : (n == ("__classdict__" : Str)) = false := by decide)
    (hs1 : starEach [.Name n p1, .Name x p2] X.env = (false, eval (.Name n p1) X.env) :: starEach [.Name x p2] X.env := by rfl) (hs2 : starEach [.Name x p2] X.env = (false, eval (.Name x p2) X.env) :: starEach [] X.env := by rfl) (hpl : (backTo pos (starEach [.Name x p2] X.env)).any (·.1) = false := by rfl) :
    VE (X.suite a ((a, oe) :: pn)) W pin (.Call (.Name "isinstance" p) [.Name n p1, .Name x p2] [] pos) (eC (.bl b)) := by
  refine pe_imp (pe_callB (call_isE C hz hf) hgi hmi (by decide +kernel) (pa_cons (pe_var (X := X.suite a ((a, oe) :: pn)) (i := i) hN hv hd hcd) (pa_cons hx pa_nil hs2) hs1) (by decide) (by decide) hs1 hpl) fun σ H Q ⟨G, ms, s, h, hh, sl, q⟩ => ?_
  refine ⟨.ref a, sl.pin _ hp, ?_⟩
  exact ⟨c, cv, b, rfl, hcv, hk, Post.fin (b := V.bl b) q hh rfl⟩
end
end WD
namespace WD
open PySem PySem.Spec PyProof.Rows L2
section
variable {X : Cx} {W : WX} {pin : List Pn} {K : PySem.W.Frag} {mg : Str → Option Value} {E : XK} {G G' : GG} {H : Hp} {ms ms' : List Addr} {h : Hs} {pos : Pos}
theorem Post.newD {ks : List Key} {xs : List D} {vs : List V} {Q : VK} {p : Addr} (q : Post K mg E G ms (Is K) (.ok (.dic ks xs) h) Q) (hh : Hh K G ms h H) (i : IsL K G ms xs vs) (hl : ks.length = vs.length) (hp : H p = none) : Q (.ref p) (upd H p (.dK (ks.zip vs))) := by
  have eg : GLe G (gupd G p (.dK (ks.zip vs))) := gle_upd (hh.gnone hp)
  exact q.fin2 eg (pre_refl _) (hh.still hp trivial) ⟨p, vs, rfl, upd_same, hl, IsL.mono eg (pre_refl _) _ _ i⟩
theorem ve_dict0 : VE X W pin (.Dict [] [] pos) (eC (.dic [] [])) :=
  pe_imp pe_dnewK fun σ H Q ⟨G, ms, s, h, hh, sl, q⟩ p hp => Post.newD (vs := []) q hh rfl rfl hp
theorem upd_upd {H : Hp} {p : Addr} {o o' : HO} : upd (upd H p o) p o' = upd H p o' := by
  funext a
  by_cases hz : a = p
  · subst hz; rw [upd_same, upd_same]
  · rw [upd_ne hz, upd_ne hz, upd_ne hz]
theorem ve_dict1 {i j : Int} {a b : Nat} {p1 p2 : Pos} : VE X W pin (.Dict [some (.Constant (.int i) a p1)] [.Constant (.int j) b p2] pos) (eC (.dic [.inl i] [.int j])) :=
  pe_imp (pe_disp (pps_cons pe_int pe_int pps_nil) rfl rfl (by simp) (by simp)) fun σ H Q ⟨G, ms, s, h, hh, sl, q⟩ p hp => by
    refine ⟨upd_same, [(.inl i, .int j)], rfl, by simp, ?_⟩
    rw [upd_upd]
    exact Post.newD (vs := [.int j]) q hh ⟨_, _, rfl, rfl, rfl⟩ rfl hp
end
end WD
namespace WD
open PySem PySem.Spec PyProof.Rows L2
set_option maxHeartbeats 1000000 in
theorem enum_new1 {v : Value} {o : Obj} {Z : Heap → Prop} (B : Begins v o Z) :
    Meets (Builtin.«enumerate.__new__» ⟨[.type "enumerate", v], []⟩) (fun _ R s => Z s.heap ∧
      R (.ok (.ret (.ref (s.heap.push o).objs.size))) { s with heap := (s.heap.push o).push { cls := .type "enumerate", data := .fields #[.none, .bool false, .ref s.heap.objs.size, rawInt 0, .none, .none] } }) :=
  .of_wp fun prog w A R s h => by
    obtain ⟨hp, gs, dr, tk, os⟩ := s
    obtain ⟨h1, h⟩ := h
    have hsub := sub_enumerate
    have q1 : ∀ {A' : Around} {E : Value → Shared → Prop} {Q : Value → Shared → Prop}, Q (.ref hp.objs.size) ⟨hp.push o, gs, dr, tk, os⟩ → wpAny (model prog w) A' (pyIter v) Q E ⟨hp, gs, dr, tk, os⟩ :=
      fun q => B.iter prog w _ _ ⟨hp, gs, dr, tk, os⟩ _ h1 q
    wp_walk using q1
    refine wpAny_stack_any fun st => wpAny_pure ?_
    split
    · rename_i c _ _ _ _ _
      cases (c == Value.type "enumerate") <;> (wp_walk using q1; exact ⟨_, rfl, h⟩)
    · wp_walk using q1
      exact ⟨_, rfl, h⟩
theorem enum_call1 {prog : Program} {w : World} {A : Around} {E : Value → Shared → Prop} {s : Shared} {v : Value} {o : Obj} {Z : Heap → Prop} {Q : Value → Shared → Prop} (B : Begins v o Z) (h1 : Z s.heap)
    (h : ∀ h', IsEnum h' (s.heap.objs.size + 1) s.heap.objs.size 0 .none → h'.get? s.heap.objs.size = some o → (∀ b o, s.heap.get? b = some o → h'.get? b = some o) → Q (.ref (s.heap.objs.size + 1)) { s with heap := h' }) :
    wpAny (model prog w) A (call (.type "enumerate") [v]) Q E s := by
  refine callType_new F.called_enumerate (by decide) (F.typeCall_enumerate_1 _) (F.newCall_enumerate_1 _) (fun obj => F.args_object_init_2 obj _) F.entry_enumerate_new (enum_new1 B) ⟨h1, ?_⟩
  have hz : (s.heap.push o).objs.size = s.heap.objs.size + 1 := Heap.size_push ..
  show _ ∧ _
  rw [hz]
  have he : IsEnum ((s.heap.push o).push { cls := .type "enumerate", data := .fields #[.none, .bool false, .ref s.heap.objs.size, rawInt 0, .none, .none] }) (s.heap.objs.size + 1) s.heap.objs.size 0 .none := by
    have q := Heap.get?_push_size (s.heap.push o) (o := { cls := .type "enumerate", data := .fields #[.none, .bool false, .ref s.heap.objs.size, rawInt 0, .none, .none] }) rfl
    rw [hz] at q; exact q
  exact ⟨⟨_, he, rfl⟩, h _ he (Heap.get?_push_of_some _ (Heap.get?_push_size _ B.free)) fun b o x => Heap.get?_push_of_some _ (Heap.get?_push_of_some _ x)⟩
/-- the tuple at a, each item in a new pair -/
def IteT (K : PySem.W.Frag) (a : Addr) : It :=
  ⟨fun i H => ∃ (xs : List V) (x : V), SqT K H a xs ∧ xs[i]? = some x, fun i H v H' => ∃ T x, v = .ref T ∧ H T = none ∧ H' = upd H T (.tup [.int (i : Nat), x]) ∧ ∀ xs, SqT K H a xs → xs[i]? = some x, fun i H => ∃ xs : List V, SqT K H a xs ∧ xs.length = i⟩
theorem turn_enumT {P : Program} {w : World} {K : PySem.W.Frag} {elts : List Expr} {kk : Nat} {tpos : Pos} (a e it : Addr) :
    Turn P w K (.Tuple elts kk tpos) (IteT K a) [e, it] e (fun i h => (∃ old, IsEnum h e it ((i : Nat) : Int) old) ∧ h.IsTupleIter it a i ∧ e ≠ it ∧ a ≠ it ∧ a ≠ e) where
  mem := List.mem_cons_self
  obj := fun i h st b hb => by
    obtain ⟨⟨old, he⟩, ⟨o, ho, hc, hd⟩, _⟩ := st
    rcases (show b = e ∨ b = it by simpa using hb) with rfl | rfl
    · exact ⟨_, he, fun v q => nomatch q⟩
    · exact ⟨o, ho, fun v q => by rw [hd] at q; cases q⟩
  keep := fun i h h' st k => let ⟨⟨old, he⟩, hi, hne⟩ := st; ⟨⟨old, k e (by simp) _ he⟩, hi.at fun o q => k it (by simp) o q, hne⟩
  item := by
    intro X hP hw hK hc i pins s σ H E I hf st hg
    subst hP hw hK
    obtain ⟨⟨old, he⟩, hit, hne, hai, hae⟩ := st
    obtain ⟨xs, x, hq, hx⟩ := hg
    obtain ⟨its, rv, p, hz⟩ := I.tuple hq
    obtain ⟨u, hu, ru⟩ := rv.get hx
    have hel : e < s.heap.objs.size := Heap.lt_size he
    have hil : it < s.heap.objs.size := by obtain ⟨_, q, _⟩ := hit; exact Heap.lt_size q
    have hlt : i < its.toArray.size := by
      rcases Nat.lt_or_ge i its.length with z | z
      · simpa using z
      · rw [List.getElem?_eq_none z] at hu; cases hu
    refine wpAny_pyNext_enum_itemC (Draws.tuple (A := X.A.in1) (I.ok.hd hc) it a hai its.toArray) he ⟨hit, p⟩ hlt hne (by simp; exact ⟨hne, Ne.symm hae⟩) fun x' h' tk hPx ho st' hT hsz hk => ?_
    have hxu : x' = u := by
      have h2 : its[i]? = some x' := by simpa using hPx
      rw [hu] at h2
      exact (Option.some.inj h2).symm
    subst hxu
    refine ⟨_, rfl, wpAny_letOwnedTupleGo_enum (s := { s with heap := h', toks := tk + 1 }) ho fun h'' he' sb => ?_⟩
    have hT2 : h''.get? s.heap.objs.size = some { cls := .type "tuple", data := .seq #[.int i tk, x'] } := (sb.2 _ (Nat.ne_of_gt hel)).trans hT
    have new : ObjOk X.prog X.w (upd H s.heap.objs.size (.tup [.int (i : Nat), x])) h'' s.heap.objs.size (.tup [.int (i : Nat), x]) :=
      ⟨show 2 ≤ sizeLine by decide, [.int i tk, x'], .cons ⟨_, rfl⟩ (.cons ru .nil), ⟨_, hT2, rfl, _, rfl⟩⟩
    have I1 : Inv X pins σ (upd H s.heap.objs.size (.tup [.int (i : Nat), x])) { s with heap := h'', toks := tk + 1 } :=
      I.turnedNew (ch := [e, it]) (fun b ob hb q => (sb.2 b (fun z => hb (by simp [z]))).trans (hk b ob (fun z => hb (by simp [z])) (fun z => hb (by simp [z])) q)) hf (Nat.le_refl _) new
    refine ⟨.ref s.heap.objs.size, _, I1, rfl, ⟨_, x, rfl, I.hok.fresh (Nat.le_refl _), rfl, fun ys hy => by rw [I.tuple_inj hy hq]; exact hx⟩, ⟨⟨x', ?_⟩, st'.1.at fun o q => (sb.2 it (Ne.symm hne)).trans q, hne, hai, hae⟩, fun b hb => ?_⟩
    · rw [show ((i + 1 : Nat) : Int) = (i : Int) + 1 by omega]; exact he'
    · have hb' : b < s.heap.objs.size := by
        rcases (show b = e ∨ b = it by simpa using hb) with rfl | rfl
        · exact hel
        · exact hil
      rw [upd_ne (Nat.ne_of_lt hb')]
      exact (hf b hb).1
  done := by
    intro X hP hw hK hc i pins s σ H E I hf st hg
    subst hP hw hK
    obtain ⟨⟨old, he⟩, hit, hne, hai, hae⟩ := st
    obtain ⟨xs, hq, hx⟩ := hg
    obtain ⟨its, rv, p, hz⟩ := I.tuple hq
    obtain ⟨f0, f1, f2, f3, f4, f5⟩ := hf it (by simp)
    have hl : its.toArray.size = i := by have := rv.length; simp; omega
    exact wpAny_pyNext_enum_endD (Draws.tuple (A := X.A.in1) (I.ok.hd hc) it a hai its.toArray) he (by rw [hl]; exact ⟨hit, p⟩) fun h' eb => ⟨rfl, I.turned (t' := s.toks) (fun b o hb q => eb b o hb q) f0 f1 f3 f4 f5⟩
  self := fun A i s Q E st h => let ⟨⟨_, he⟩, _⟩ := st; wpAny_pyIter_enum he h
section
variable {X : Cx} {W : WX} {pin : List Pn} {K : PySem.W.Frag} {mg : Str → Option Value} {E : XK} {G G' : GG} {H : Hp} {ms ms' : List Addr} {h : Hs} {pos : Pos}
/-- enumerate of a list or a tuple -/
def iEnumA (K : PySem.W.Frag) (ta : TA) : TI := fun σ H R => ta σ H fun vs H1 => ∃ a, vs = [.ref a] ∧ (((∃ xs, SqL K H1 a xs) ∧ R (Ite K a) H1) ∨ ((∃ xs, SqT K H1 a xs) ∧ R (IteT K a) H1))
theorem pi_enumA {e : Expr} {ta : TA} {p tpos : Pos} {elts : List Expr} {kk : Nat} (hg : Gl X "enumerate") (hm : X.mg "enumerate" = none) (ha : PA X [e] ta) (hs : starEach [e] X.env = [(false, eval e X.env)] := by rfl) :
    PI X (.Tuple elts kk tpos) (.Call (.Name "enumerate" p) [e] [] pos) (iEnumA X.K ta) := by
  refine ⟨fun pins s σ H R I h => ?_⟩
  refine Call_ (ld_blt I hg hm boot_enumerate (PyProof.Rows.callWith_type1 (thn (ha.run pos pins s σ H _ I h) fun us s1 ⟨vs, H1, I1, r1, q1⟩ => ?_) hs rfl))
  obtain ⟨a, rfl, q1⟩ := q1
  cases r1 with
  | cons r rr =>
    cases rr
    cases r
    have fp : ∀ b ∈ [s1.heap.objs.size + 1, s1.heap.objs.size], FpOk X pins H1 b := fun b hb => by
      have hle : s1.heap.objs.size ≤ b := by
        rcases (show b = s1.heap.objs.size + 1 ∨ b = s1.heap.objs.size by simpa using hb) with rfl | rfl
        · exact Nat.le_add_right _ _
        · exact Nat.le_refl _
      exact I1.fpOk hle (I1.hok.fresh hle)
    rcases q1 with ⟨⟨xs, hq⟩, q⟩ | ⟨⟨xs, hq⟩, q⟩
    · obtain ⟨its, rv, p', hz⟩ := I1.list hq
      refine call_enumerate_list p'.isList fun h' he hit hsz hk => wpAny_pyIter_enum he ?_
      exact ⟨s1.heap.objs.size + 1, [s1.heap.objs.size + 1, s1.heap.objs.size], _, _, H1, rfl, I1.kept (t' := s1.toks) hk, turn_enum a (s1.heap.objs.size + 1) s1.heap.objs.size, ⟨⟨.none, he⟩, hit, Nat.succ_ne_self _⟩, fp, q⟩
    · obtain ⟨its, rv, p', hz⟩ := I1.tuple hq
      have hal : a < s1.heap.objs.size := by obtain ⟨_, q, _⟩ := p'; exact Heap.lt_size q
      refine enum_call1 (begins_tuple a its.toArray) p' fun h' he hit hk => wpAny_pyIter_enum he ?_
      exact ⟨s1.heap.objs.size + 1, [s1.heap.objs.size + 1, s1.heap.objs.size], _, _, H1, rfl, I1.kept (t' := s1.toks) hk, turn_enumT a (s1.heap.objs.size + 1) s1.heap.objs.size, ⟨⟨.none, he⟩, ⟨_, hit, rfl, rfl⟩, Nat.succ_ne_self _, Nat.ne_of_lt hal, Nat.ne_of_lt (Nat.lt_succ_of_lt hal)⟩, fp, q⟩
def enL : Nat → List D → List D
  | _, [] => []
  | i, d :: ds => .tup [.int (i : Nat), d] :: enL (i + 1) ds
theorem enL_length : ∀ (ds : List D) (i : Nat), (enL i ds).length = ds.length
  | [], _ => rfl
  | d :: ds, i => by simp [enL, enL_length ds]
theorem enL_get : ∀ (ds : List D) (k i : Nat), (enL k ds)[i]? = (ds[i]?).map fun d => .tup [.int ((k + i : Nat)), d]
  | [], k, i => by simp [enL]
  | d :: ds, k, 0 => by simp [enL]
  | d :: ds, k, i + 1 => by
    rw [enL, List.getElem?_cons_succ, List.getElem?_cons_succ, enL_get ds (k + 1) i]
    rw [show k + 1 + i = k + (i + 1) by omega]
theorem pair_new {a b : D} {x y : V} {p : Addr} (hh : Hh K G ms h H) (i1 : Is K G ms a x) (i2 : Is K G ms b y) (hp : H p = none) : ∃ G', GLe G G' ∧ Hh K G' ms h (upd H p (.tup [x, y])) ∧ Is K G' ms (.tup [a, b]) (.ref p) := by
  have eg : GLe G (gupd G p (.tup [x, y])) := gle_upd (hh.gnone hp)
  exact ⟨_, eg, hh.still hp (show 2 ≤ sizeLine by decide), p, [x, y], rfl, upd_same, x, [y], rfl, Is.mono eg (pre_refl _) _ _ i1, y, [], rfl, Is.mono eg (pre_refl _) _ _ i2, rfl⟩
theorem yields_enL {a : Addr} {ds : List D} {ws : List V} (q : SqL K G.1 a ws) (i : IsL K G ms ds ws) : Yields K (Ite K a) G ms (enL 0 ds) := fun j h G' ms' H hh e p => by
  have q' : SqL K H a ws := hh.sub.seq (e.seq q)
  have i' := IsL.mono' e p _ _ i
  refine ⟨fun d hd => ?_, fun hl => ⟨ws, q', by rw [← i.length]; rw [enL_length] at hl; exact Nat.le_of_eq hl⟩⟩
  rw [enL_get] at hd
  cases hx : ds[j]? with
  | none => rw [hx] at hd; cases hd
  | some b =>
    rw [hx] at hd
    cases hd
    obtain ⟨v, h1, h2⟩ := i'.get hx
    refine ⟨⟨ws, v, q', h1⟩, fun x H' ⟨T, x', e1, e2, e3, e4⟩ => ?_⟩
    subst e1 e3
    have := e4 ws q'
    rw [h1] at this
    cases this
    rw [Nat.zero_add]
    exact pair_new hh rfl h2 e2
theorem yields_enT {a : Addr} {ds : List D} {ws : List V} (q : SqT K G.1 a ws) (i : IsL K G ms ds ws) : Yields K (IteT K a) G ms (enL 0 ds) := fun j h G' ms' H hh e p => by
  have q' : SqT K H a ws := Same.sqT hh.sub (Same.sqT e q)
  have i' := IsL.mono' e p _ _ i
  refine ⟨fun d hd => ?_, fun hl => ⟨ws, q', by rw [← i.length]; rw [enL_length] at hl; exact hl⟩⟩
  rw [enL_get] at hd
  cases hx : ds[j]? with
  | none => rw [hx] at hd; cases hd
  | some b =>
    rw [hx] at hd
    cases hd
    obtain ⟨v, h1, h2⟩ := i'.get hx
    refine ⟨⟨ws, v, q', h1⟩, fun x H' ⟨T, x', e1, e2, e3, e4⟩ => ?_⟩
    subst e1 e3
    have := e4 ws q'
    rw [h1] at this
    cases this
    rw [Nat.zero_add]
    exact pair_new hh rfl h2 e2
def iEnumerate (f : FA) : FI := fun s h => (f s h).bind fun ds h1 => match ds with
  | [.tup xs] => .ok (.seq (enL 0 xs)) h1
  | [.lst xs] => .ok (.seq (enL 0 xs)) h1
  | _ => .bad
theorem vi_enumerate {e : Expr} {f : FA} {p tpos : Pos} {elts : List Expr} {kk : Nat} (hg : Gl X "enumerate") (hm : X.mg "enumerate" = none) (ha : VA X W pin [e] f) (hs : starEach [e] X.env = [(false, eval e X.env)] := by rfl) :
    VI X W pin (.Tuple elts kk tpos) (.Call (.Name "enumerate" p) [e] [] pos) (iEnumerate f) := by
  refine pi_imp (pi_enumA hg hm ha hs) fun σ H R ⟨G, ms, s, h, hh, sl, q⟩ => ⟨G, ms, s, h, hh, sl, Post.bind q fun ds h1 ws H1 G1 ms1 e1 p1 hh1 i1 q1 => ?_⟩
  split at q1
  · obtain ⟨v, rfl, j1⟩ := isL1 (ds := []) i1
    obtain ⟨a, us, rfl, k1, k2⟩ := id j1
    exact ⟨a, rfl, .inr ⟨⟨us, .of (hh1.sub _ _ k1)⟩, q1.fin hh1 ⟨yields_enT (.of k1) k2, by rw [enL_length]; exact hh1.rowz j1 rfl⟩⟩⟩
  · obtain ⟨v, rfl, j1⟩ := isL1 (ds := []) i1
    obtain ⟨a, us, rfl, k1, k2⟩ := id j1
    exact ⟨a, rfl, .inl ⟨⟨us, .of (hh1.sub _ _ k1)⟩, q1.fin hh1 ⟨yields_enL (.of k1) k2, by rw [enL_length]; exact hh1.rowz j1 rfl⟩⟩⟩
  · exact q1.elim
/-- zip of two lists or two tuples -/
def zpL : List D → List D → List D
  | x :: xs, y :: ys => .tup [x, y] :: zpL xs ys
  | _, _ => []
theorem zpL_length : ∀ (xs ys : List D), (zpL xs ys).length = min xs.length ys.length
  | [], ys => by simp [zpL]
  | x :: xs, [] => by simp [zpL]
  | x :: xs, y :: ys => by simp [zpL, zpL_length xs ys]
theorem zpL_get : ∀ (xs ys : List D) (i : Nat) (d : D), (zpL xs ys)[i]? = some d → ∃ x y, xs[i]? = some x ∧ ys[i]? = some y ∧ d = .tup [x, y]
  | [], ys, i, d, h => by simp [zpL] at h
  | x :: xs, [], i, d, h => by simp [zpL] at h
  | x :: xs, y :: ys, 0, d, h => by simp [zpL] at h; exact ⟨x, y, rfl, rfl, h.symm⟩
  | x :: xs, y :: ys, i + 1, d, h => by
    simp only [zpL, List.getElem?_cons_succ] at h
    exact zpL_get xs ys i d h
theorem yields_zpL {a b : Addr} {xs ys : List D} {us ws : List V} (q1 : SqL K G.1 a us) (q2 : SqL K G.1 b ws) (i1 : IsL K G ms xs us) (i2 : IsL K G ms ys ws) : Yields K (Itz K a b) G ms (zpL xs ys) := fun j h G' ms' H hh e p => by
  have q1' : SqL K H a us := hh.sub.seq (e.seq q1)
  have q2' : SqL K H b ws := hh.sub.seq (e.seq q2)
  have j1 := IsL.mono' e p _ _ i1
  have j2 := IsL.mono' e p _ _ i2
  refine ⟨fun d hd => ?_, fun hl => ⟨us, ws, q1', q2', by rw [zpL_length, i1.length, i2.length] at hl; omega⟩⟩
  obtain ⟨x, y, hx, hy, rfl⟩ := zpL_get _ _ _ _ hd
  obtain ⟨v, h1, h2⟩ := j1.get hx
  obtain ⟨u, h3, h4⟩ := j2.get hy
  refine ⟨⟨us, ws, v, u, q1', q2', h1, h3⟩, fun z H' ⟨T, x', y', e1, e2, e3, e4, e5⟩ => ?_⟩
  subst e1 e3
  have t1 := e4 us q1'
  have t2 := e5 ws q2'
  rw [h1] at t1
  rw [h3] at t2
  cases t1
  cases t2
  exact pair_new hh h2 h4 e2
theorem yields_zpT {a b : Addr} {xs ys : List D} {us ws : List V} (q1 : SqT K G.1 a us) (q2 : SqT K G.1 b ws) (i1 : IsL K G ms xs us) (i2 : IsL K G ms ys ws) : Yields K (RZ.ItzT K a b) G ms (zpL xs ys) := fun j h G' ms' H hh e p => by
  have q1' : SqT K H a us := Same.sqT hh.sub (Same.sqT e q1)
  have q2' : SqT K H b ws := Same.sqT hh.sub (Same.sqT e q2)
  have j1 := IsL.mono' e p _ _ i1
  have j2 := IsL.mono' e p _ _ i2
  refine ⟨fun d hd => ?_, fun hl => ⟨us, ws, q1', q2', by rw [zpL_length, i1.length, i2.length] at hl; omega⟩⟩
  obtain ⟨x, y, hx, hy, rfl⟩ := zpL_get _ _ _ _ hd
  obtain ⟨v, h1, h2⟩ := j1.get hx
  obtain ⟨u, h3, h4⟩ := j2.get hy
  refine ⟨⟨us, ws, v, u, q1', q2', h1, h3⟩, fun z H' ⟨T, x', y', e1, e2, e3, e4, e5⟩ => ?_⟩
  subst e1 e3
  have t1 := e4 us q1'
  have t2 := e5 ws q2'
  rw [h1] at t1
  rw [h3] at t2
  cases t1
  cases t2
  exact pair_new hh h2 h4 e2
def iZip (f : FA) : FI := fun s h => (f s h).bind fun ds h1 => match ds with
  | [.tup xs, .tup ys] => .ok (.seq (zpL xs ys)) h1
  | [.lst xs, .lst ys] => .ok (.seq (zpL xs ys)) h1
  | _ => .bad
theorem vi_zip {e e2 : Expr} {f : FA} {p tpos : Pos} {elts : List Expr} {kk : Nat} (hg : Gl X "zip") (hm : X.mg "zip" = none) (ha : VA X W pin [e, e2] f)
    (hs : starEach [e, e2] X.env = (false, eval e X.env) :: starEach [e2] X.env := by rfl) (hpl : (backTo pos (starEach [e2] X.env)).any (·.1) = false := by rfl) :
    VI X W pin (.Tuple elts kk tpos) (.Call (.Name "zip" p) [e, e2] [] pos) (iZip f) := by
  refine pi_imp (RZ.pi_zipA hg hm ha hs hpl) fun σ H R ⟨G, ms, s, h, hh, sl, q⟩ => ⟨G, ms, s, h, hh, sl, Post.bind q fun ds h1 ws H1 G1 ms1 e1 p1 hh1 i1 q1 => ?_⟩
  split at q1
  · obtain ⟨v, w, rfl, j1, j2⟩ := isL2 i1
    obtain ⟨a, us, rfl, k1, k2⟩ := id j1
    obtain ⟨b, vs, rfl, l1, l2⟩ := id j2
    exact ⟨a, b, us, vs, rfl, .inr ⟨.of (hh1.sub _ _ k1), .of (hh1.sub _ _ l1), q1.fin hh1 ⟨yields_zpT (.of k1) (.of l1) k2 l2, by rw [zpL_length]; have := hh1.rowz j1 rfl; omega⟩⟩⟩
  · obtain ⟨v, w, rfl, j1, j2⟩ := isL2 i1
    obtain ⟨a, us, rfl, k1, k2⟩ := id j1
    obtain ⟨b, vs, rfl, l1, l2⟩ := id j2
    exact ⟨a, b, us, vs, rfl, .inl ⟨.of (hh1.sub _ _ k1), .of (hh1.sub _ _ l1), q1.fin hh1 ⟨yields_zpL (.of k1) (.of l1) k2 l2, by rw [zpL_length]; have := hh1.rowz j1 rfl; omega⟩⟩⟩
  · exact q1.elim
end
end WD
namespace WD
open PySem PySem.Spec PyProof.Rows L2
def fgS (vs : List Nat) (r : RS) : RS := match r with
  | .nx s h => .nx (wipeS s vs) h
  | .ct s h => .ct (wipeS s vs) h
  | .bk s h => .bk (wipeS s vs) h
  | r => r
/-- forgotten behind -/
def sFa (vs : List Nat) (f : FS) : FS := fun s h => fgS vs (f s h)
/-- forgotten ahead -/
def sFb (vs : List Nat) (f : FS) : FS := fun s h => f (wipeS s vs) h
section
variable {X : Cx} {W : WX} {pin : List Pn} {K : PySem.W.Frag} {mg : Str → Option Value} {G : GG} {ms : List Addr} {vs : List Nat}
theorem Sl.fgt {s : Ss} {σ : L2.St} (x : Sl K G ms pin s σ) : Sl K G ms pin (wipeS s vs) σ :=
  ⟨by rw [wipeS_length]; exact x.len, fun i d e => x.get i d (wipeS_some e).1, x.pin⟩
theorem vss_fa {st : List Stmt} {f : FS} (h : VSs X W pin st f) : VSs X W pin st (sFa vs f) := by
  refine pss_imp h fun D σ H ⟨G, ms, s, h, hh, sl, q⟩ => ⟨G, ms, s, h, hh, sl, ?_⟩
  unfold sFa fgS at q
  cases e : f s h with
  | nx s' h' => rw [e] at q; exact fun σ' H' G' ms' e1 p1 hh1 sl1 => q σ' H' G' ms' e1 p1 hh1 sl1.fgt
  | ct s' h' => rw [e] at q; exact fun σ' H' G' ms' e1 p1 hh1 sl1 => q σ' H' G' ms' e1 p1 hh1 sl1.fgt
  | bk s' h' => rw [e] at q; exact fun σ' H' G' ms' e1 p1 hh1 sl1 => q σ' H' G' ms' e1 p1 hh1 sl1.fgt
  | rt d h' => rw [e] at q; exact q
  | er x s' h' => rw [e] at q; exact q
  | bad => rw [e] at q; exact q
theorem vs_fa {st : Stmt} {f : FS} (h : VS X W pin st f) : VS X W pin st (sFa vs f) := by
  refine ps_imp h fun D σ H ⟨G, ms, s, h, hh, sl, q⟩ => ⟨G, ms, s, h, hh, sl, ?_⟩
  unfold sFa fgS at q
  cases e : f s h with
  | nx s' h' => rw [e] at q; exact fun σ' H' G' ms' e1 p1 hh1 sl1 => q σ' H' G' ms' e1 p1 hh1 sl1.fgt
  | ct s' h' => rw [e] at q; exact fun σ' H' G' ms' e1 p1 hh1 sl1 => q σ' H' G' ms' e1 p1 hh1 sl1.fgt
  | bk s' h' => rw [e] at q; exact fun σ' H' G' ms' e1 p1 hh1 sl1 => q σ' H' G' ms' e1 p1 hh1 sl1.fgt
  | rt d h' => rw [e] at q; exact q
  | er x s' h' => rw [e] at q; exact q
  | bad => rw [e] at q; exact q
theorem vs_fb {st : Stmt} {f : FS} (h : VS X W pin st f) : VS X W pin st (sFb vs f) := by
  refine ps_imp h fun D σ H ⟨G, ms, s, h, hh, sl, q⟩ => ⟨G, ms, wipeS s vs, h, hh, sl.fgt, q⟩
end
def rgC (lo c : Int) (n : Nat) : List D := (List.range n).map fun (i : Nat) => D.int (lo + (i : Nat) * c)
open Classical in
noncomputable def iRngC (f : FA) : FI := fun s h => (f s h).bind fun ds h1 => match ds with
  | [.int i, .int j, .int c] => if RgC i j c (Builtin.Range.rangeSize i j c).toNat ∧ (Builtin.Range.rangeSize i j c).toNat ≤ sizeLine then .ok (.seq (rgC i c (Builtin.Range.rangeSize i j c).toNat)) h1 else .bad
  | _ => .bad
section
variable {X : Cx} {W : WX} {pin : List Pn} {K : PySem.W.Frag} {G : GG} {ms : List Addr} {pos : Pos}
theorem rgC_get {lo c : Int} {n i : Nat} {d : D} (h : (rgC lo c n)[i]? = some d) : i < n ∧ d = .int (lo + (i : Nat) * c) := by
  unfold rgC at h
  rw [List.getElem?_map] at h
  by_cases hi : i < n
  · rw [List.getElem?_range hi] at h
    exact ⟨hi, (Option.some.inj h).symm⟩
  · rw [List.getElem?_eq_none (by simpa using hi)] at h; cases h
theorem yields_rgC {lo c : Int} {n : Nat} : Yields K (Itc lo c n) G ms (rgC lo c n) := fun j h G' ms' H hh e p => by
  refine ⟨fun d hd => ?_, fun hl => ?_⟩
  · obtain ⟨hi, rfl⟩ := rgC_get hd
    exact ⟨hi, fun x H' ⟨e1, e2⟩ => by subst e1 e2; exact ⟨G', .refl _, hh, rfl⟩⟩
  · have : (rgC lo c n).length = n := by unfold rgC; simp
    rw [this] at hl
    exact Nat.le_of_eq hl
theorem vi_range3 {tg e e' e'' : Expr} {f : FA} {p : Pos} (hg : Gl X "range") (hm : X.mg "range" = none) (ha : VA X W pin [e, e', e''] f)
    (hs : starEach [e, e', e''] X.env = (false, eval e X.env) :: starEach [e', e''] X.env := by rfl) (hpl : (backTo pos (starEach [e', e''] X.env)).any (·.1) = false := by rfl) : VI X W pin tg (.Call (.Name "range" p) [e, e', e''] [] pos) (iRngC f) := by
  refine pi_imp (pi_range3 hg hm ha hs hpl) fun σ H R ⟨G, ms, s, h, hh, sl, q⟩ => ⟨G, ms, s, h, hh, sl, Post.bind q fun ds h1 ws H1 G1 ms1 e1 p1 hh1 i1 q1 => ?_⟩
  split at q1
  · obtain ⟨v, r, rfl, j1, w, r2, rfl, j2, u, r3, rfl, j3, j4⟩ := i1
    cases j1; cases j2; cases j3; cases j4
    split at q1
    · rename_i hz
      refine ⟨_, _, _, _, rfl, hz.1, q1.fin hh1 ⟨yields_rgC, ?_⟩⟩
      unfold rgC; simpa using hz.2
    · exact q1.elim
  · exact q1.elim
end
end WD
namespace SrtO
open PySem PySem.Spec PyProof.Rows Srt
section
variable {prog : Program} {w : World} {A : Around} {E : Value → Shared → Prop} {s : Shared}
theorem wd_collectT {t : Addr} {us : List Value} {Q : List Value → Shared → Prop} (ht : s.heap.IsTuple t us.toArray) (hz : us.length ≤ sizeLine)
    (q : Q us { s with heap := (s.heap.push (seqObj "list" #[] 0)).update s.heap.objs.size (Obj.mapSeq (· ++ us.toArray)) }) : wpAny (model prog w) A (collect (.ref t)) Q E s := by
  obtain ⟨ob, e1, e2, m, e3⟩ := id ht
  have e4 : (s.heap.push (seqObj "list" #[] 0)).get? t = some ob := Heap.get?_push_of_some _ e1
  unfold collect
  refine wpAny_bind (wpAny_runValue (codeAny_builtin entry_proto_collect' ?x0))
  case x0 =>
    show wpAny _ _ (do again (.builtin "list.__iadd__" ⟨[← newList [], .ref t], []⟩)) _ _ s
    refine wpAny_bind (wpAny_newList (wpAny_pure ⟨Code.quiet_builtin _ (by decide +kernel), codeAny_builtin entry_list_iadd' ?x1⟩))
    show wpAny _ _ (Builtin.List.listExtendWith (.ref s.heap.objs.size) (.ref t) (.ref s.heap.objs.size)) _ _ { s with heap := s.heap.push (seqObj "list" #[] 0) }
    unfold Builtin.List.listExtendWith
    refine wpAny_bind (wpAny_typeOf (T := "tuple") ⟨ob, e4, e2⟩ ?x2)
    have tt : (Value.type "tuple" == Value.type "tuple") = true := by rfl
    rw [if_pos (by rw [tt]; simp)]
    refine wpAny_bind (listItems_at e4 e3 (wpAny_bind (listItems_at (xs := #[]) (n := 0) (Heap.get?_push_size _ rfl) rfl ?x3)))
    rw [if_neg (by simp)]
    refine wpAny_bind (listUpdate_at (xs := #[]) (n := 0) (Heap.get?_push_size _ rfl) rfl (wpAny_pure ?x4) (Nat.zero_le _) (by show (#[] ++ us.toArray).size ≤ sizeLine + 1; simp only [Array.size_append, List.size_toArray, List.length_nil]; omega))
    show wpAny (model prog w) A (do
        let o ← load s.heap.objs.size
        match o.data with
        | .seq xs _ => pure xs.toList
        | _ => unsupported "internal:collect") Q E { s with heap := (s.heap.push (seqObj "list" #[] 0)).update s.heap.objs.size (Obj.mapSeq (· ++ us.toArray)) }
    refine wpAny_bind (wpAny_load (get?_update_seq (Heap.get?_push_size _ rfl) _) ?x5)
    show wpAny _ _ (pure ((#[] : Array Value) ++ us.toArray).toList) Q E _
    have e5 : ((#[] : Array Value) ++ us.toArray).toList = us := by simp
    rw [e5]; exact wpAny_pure q
theorem wd_sortedT {t : Addr} {us : List Value} {lt : Value → Value → Bool} {Q : Value → Shared → Prop} (O : Swo lt) (ht : s.heap.IsTuple t us.toArray) (hz : us.length ≤ sizeLine)
    (hS : 2 ≤ us.length → ∀ (h1 : Heap) (a : Addr), h1.get? a = some (seqObj "list" us.toArray 0) → (∀ b o, s.heap.get? b = some o → b ≠ a ∧ h1.get? b = some o) → SortableO prog w A.in1.in1 { s with heap := h1 } a us lt)
    (q : ∀ out : List Value, Srtd lt out → Stb lt out us → Q (.ref (s.heap.objs.size + 1)) { s with heap := sortedAll s.heap us out.toArray }) : wpAny (model prog w) A (call (.builtin "sorted") [.ref t]) Q E s := by
  refine Calls.call_function_entry kind_sorted plain_sorted entry_sorted (args_sorted1 _) ?x
  unfold Builtin.«sorted»
  refine wpAny_bind (m := checkCount "sorted" 1 1 _) (wpAny_pure (wpAny_bind (wd_collectT ht hz (wpAny_bind (wpAny_newList ?y hz)))))
  have z1 : ((s.heap.push (seqObj "list" #[] 0)).update s.heap.objs.size (Obj.mapSeq (· ++ us.toArray))).objs.size = s.heap.objs.size + 1 := by rw [Heap.size_update, size_push']
  have z2 : (((s.heap.push (seqObj "list" #[] 0)).update s.heap.objs.size (Obj.mapSeq (· ++ us.toArray))).push (seqObj "list" us.toArray 0)).get? (s.heap.objs.size + 1) = some (seqObj "list" us.toArray 0) := by
    rw [← z1]; exact Heap.get?_push_size _ rfl
  have z3 : ∀ b o, s.heap.get? b = some o → b ≠ s.heap.objs.size + 1 ∧ (((s.heap.push (seqObj "list" #[] 0)).update s.heap.objs.size (Obj.mapSeq (· ++ us.toArray))).push (seqObj "list" us.toArray 0)).get? b = some o := fun b o e => by
    have hb : b < s.heap.objs.size := Heap.lt_size e
    refine ⟨Nat.ne_of_lt (Nat.lt_succ_of_lt hb), Heap.get?_push_of_some _ ((Heap.get?_update_ne _ _ _ _ (Nat.ne_of_lt hb)).trans (Heap.get?_push_of_some _ e))⟩
  show wpAny _ _ _ _ _ { s with heap := ((s.heap.push (seqObj "list" #[] 0)).update s.heap.objs.size (Obj.mapSeq (· ++ us.toArray))).push (seqObj "list" us.toArray 0) }
  rw [z1]
  exact wpAny_bind (wpAny_holding (wpAny_call_entry slot_list_sort ⟨_, z2, rfl⟩ entry_list_sort (list_sort_ord O z2 hz (fun h2 => hS h2 _ _ z2 z3) fun out a b => ⟨_, rfl, wpAny_pure ⟨_, rfl, q out a b⟩⟩) (args_list_sort _)))
end
end SrtO
namespace WD
open PySem PySem.Spec PyProof.Rows L2
open Classical in
noncomputable def shlD : D → D → Hs → R D
  | .int i, .int j, h => if powOk i j then .ok (.int (i * 2 ^ j.toNat)) h else .bad
  | _, _, _ => .bad
def shrD : D → D → Hs → R D
  | .int i, .int j, h => if 0 ≤ j then .ok (.int (i / 2 ^ j.toNat)) h else .bad
  | _, _, _ => .bad
def absD : List D → Hs → R D
  | [.int i], h => .ok (.int (if i < 0 then -i else i)) h
  | _, _ => .bad
section
variable {X : Cx} {W : WX} {pin : List Pn} {K : PySem.W.Frag} {mg : Str → Option Value} {E : XK} {G G' : GG} {H : Hp} {ms ms' : List Addr} {h : Hs} {pos : Pos} {a b c : Expr} {rest : List Expr}
theorem od_shl : OpD X (binaryOp .LShift) shlD := by
  intro pins s σ H x y v u Q I rx ry ⟨G, ms, h, da, db, hh, ia, ib, q⟩
  unfold shlD at q
  split at q
  · cases ia; cases ib
    split at q
    · rename_i hz
      exact op_shl pins s σ H _ _ v u Q I rx ry ⟨_, _, rfl, rfl, hz, q.fin hh rfl⟩
    · exact q.elim
  · exact q.elim
theorem od_shr : OpD X (binaryOp .RShift) shrD := by
  intro pins s σ H x y v u Q I rx ry ⟨G, ms, h, da, db, hh, ia, ib, q⟩
  unfold shrD at q
  split at q
  · cases ia; cases ib
    split at q
    · rename_i hz
      exact op_shr pins s σ H _ _ v u Q I rx ry ⟨_, _, rfl, rfl, hz, q.fin hh rfl⟩
    · exact q.elim
  · exact q.elim
end
section
variable {α : Type}
def insL (lt : α → α → Bool) (x : α) : List α → List α
  | [] => [x]
  | y :: ys => if lt y x = true then y :: insL lt x ys else x :: y :: ys
def sortL (lt : α → α → Bool) : List α → List α
  | [] => []
  | x :: xs => insL lt x (sortL lt xs)
theorem insL_perm {lt : α → α → Bool} {x : α} : ∀ ys : List α, (insL lt x ys).Perm (x :: ys)
  | [] => List.Perm.refl _
  | y :: ys => by
    unfold insL
    split
    · exact ((insL_perm ys).cons y).trans (List.Perm.swap x y ys)
    · exact List.Perm.refl _
theorem sortL_perm {lt : α → α → Bool} : ∀ xs : List α, (sortL lt xs).Perm xs
  | [] => List.Perm.refl _
  | x :: xs => (insL_perm _).trans ((sortL_perm xs).cons x)
theorem insL_srt {lt : α → α → Bool} {x : α} (as : ∀ a b, lt a b = true → lt b a = false) (tr : ∀ a b c, lt b a = false → lt c b = false → lt c a = false) : ∀ ys : List α, ys.Pairwise (fun a b => lt b a = false) → (insL lt x ys).Pairwise (fun a b => lt b a = false)
  | [], _ => List.pairwise_singleton _ _
  | y :: ys, h => by
    have h0 := List.pairwise_cons.mp h
    unfold insL
    split
    · rename_i hl
      refine List.pairwise_cons.mpr ⟨fun z hz => ?_, insL_srt as tr ys h0.2⟩
      rcases List.mem_cons.mp ((insL_perm ys).mem_iff.mp hz) with rfl | hz
      · exact as _ _ hl
      · exact h0.1 z hz
    · rename_i hl
      have hl : lt y x = false := by simpa using hl
      refine List.pairwise_cons.mpr ⟨fun z hz => ?_, h⟩
      rcases List.mem_cons.mp hz with rfl | hz
      · exact hl
      · exact tr _ _ _ hl (h0.1 z hz)
theorem sortL_srt {lt : α → α → Bool} (as : ∀ a b, lt a b = true → lt b a = false) (tr : ∀ a b c, lt b a = false → lt c b = false → lt c a = false) : ∀ xs : List α, (sortL lt xs).Pairwise (fun a b => lt b a = false)
  | [] => List.Pairwise.nil
  | x :: xs => insL_srt as tr _ (sortL_srt as tr xs)
theorem srt_uniq {r : α → α → Prop} (anti : ∀ a b, r a b → r b a → a = b) : ∀ xs ys : List α, xs.Pairwise r → ys.Pairwise r → xs.Perm ys → xs = ys
  | [], ys, _, _, p => (List.nil_perm.mp p).symm
  | x :: xs, ys, hx, hy, p => by
    cases ys with
    | nil => exact absurd p.length_eq (by simp)
    | cons y ys =>
      have hx' := List.pairwise_cons.mp hx
      have hy' := List.pairwise_cons.mp hy
      have e : x = y := by
        rcases List.mem_cons.mp (p.mem_iff.mp List.mem_cons_self) with e | e
        · exact e
        · rcases List.mem_cons.mp (p.mem_iff.mpr List.mem_cons_self) with e2 | e2
          · exact e2.symm
          · exact anti _ _ (hx'.1 y e2) (hy'.1 x e)
      subst e
      rw [srt_uniq anti xs ys hx'.2 hy'.2 (List.Perm.cons_inv p)]
end
def ltI (a b : Int) : Bool := decide (a < b)
def sortI (ns : List Int) : List Int := sortL ltI ns
theorem sortI_perm (ns : List Int) : (sortI ns).Perm ns := sortL_perm ns
theorem sortI_srt (ns : List Int) : (sortI ns).Pairwise (· ≤ ·) := by
  refine (sortL_srt (lt := ltI) (fun a b h => ?_) (fun a b c h1 h2 => ?_) ns).imp fun {a b} h => ?_
  · simp only [ltI, decide_eq_true_eq, decide_eq_false_iff_not] at h ⊢; omega
  · simp only [ltI, decide_eq_false_iff_not] at h1 h2 ⊢; omega
  · simp only [ltI, decide_eq_false_iff_not] at h; omega
theorem sortI_uniq {ms ns : List Int} (p : ms.Perm ns) (h : ms.Pairwise (· ≤ ·)) : ms = sortI ns :=
  srt_uniq (fun a b h1 h2 => by omega) _ _ h (sortI_srt ns) (p.trans (sortI_perm ns).symm)
abbrev ltPr := SrtO.lexB
def sortP (ps : List (Int × Int)) : List (Int × Int) := sortL ltPr ps
theorem ltPr_as (a b : Int × Int) (h : ltPr a b = true) : ltPr b a = false := by
  have := SrtO.lexB_iff.mp h
  exact SrtO.lexB_no.mpr (by omega)
theorem ltPr_tr (a b c : Int × Int) (h1 : ltPr b a = false) (h2 : ltPr c b = false) : ltPr c a = false := by
  have := SrtO.lexB_no.mp h1
  have := SrtO.lexB_no.mp h2
  exact SrtO.lexB_no.mpr (by omega)
theorem sortP_perm (ps : List (Int × Int)) : (sortP ps).Perm ps := sortL_perm ps
theorem sortP_srt (ps : List (Int × Int)) : (sortP ps).Pairwise (fun a b => ltPr b a = false) := sortL_srt ltPr_as ltPr_tr ps
theorem sortP_uniq {ms ns : List (Int × Int)} (p : ms.Perm ns) (h : ms.Pairwise (fun a b => ltPr b a = false)) : ms = sortP ns :=
  srt_uniq (fun a b h1 h2 => by
    have := SrtO.lexB_no.mp h1
    have := SrtO.lexB_no.mp h2
    exact Prod.ext (by omega) (by omega)) _ _ h (sortP_srt ns) (p.trans (sortP_perm ns).symm)
/-- a pair of ints -/
def prD (p : Int × Int) : D := .tup [.int p.1, .int p.2]
def prsOf : List D → Option (List (Int × Int))
  | [] => some []
  | .tup [.int i, .int j] :: r => match prsOf r with
    | some ns => some ((i, j) :: ns)
    | none => none
  | _ => none
theorem prsOf_eq : ∀ {ds : List D} {ps : List (Int × Int)}, prsOf ds = some ps → ds = ps.map prD
  | [], ps, e => by cases e; rfl
  | d :: ds, ps, e => by
    unfold prsOf at e
    split at e
    · rename_i heq; cases heq
    · rename_i i j r heq
      cases heq
      split at e
      · rename_i ns' e'
        cases e
        rw [prsOf_eq e']; rfl
      · cases e
    · cases e
@[simp] theorem prsOf_map : ∀ (ps : List (Int × Int)), prsOf (ps.map prD) = some ps
  | [] => rfl
  | p :: ps => by
    show prsOf (.tup [.int p.1, .int p.2] :: ps.map prD) = _
    unfold prsOf
    rw [prsOf_map ps]
/-- sorted of a row of ints, of a list of pairs of ints -/
def sortedD (m : Bool) : List D → Hs → R D
  | [d], h => match rowOf h d with
    | some xs => match intsOf xs with
      | some ns => newL m ((sortI ns).map D.int) h
      | none => match lstOf h d with
        | some _ => match prsOf xs with
          | some ps => newL m ((sortP ps).map prD) h
          | none => .bad
        | none => .bad
    | none => .bad
  | _, _ => .bad
section
variable {X : Cx} {W : WX} {pin : List Pn} {K : PySem.W.Frag} {mg : Str → Option Value} {E : XK} {G G' : GG} {H : Hp} {ms ms' : List Addr} {h : Hs} {pos : Pos} {a b c : Expr} {rest : List Expr}
/-- sorted(t), t a tuple of ints -/
def rSortedTI (K : PySem.W.Frag) : List V → Hp → VK → Prop := fun vs H Q => ∃ (a : Addr) (ns : List Int), vs = [V.ref a] ∧ SqT K H a (ns.map V.int) ∧ ∀ (ms : List Int) (p : Addr), ms.Perm ns → ms.Pairwise (· ≤ ·) → H p = none → Q (.ref p) (upd H p (.lst (ms.map V.int)))
theorem cr_sortedTI : CallR X (.builtin "sorted") (rSortedTI X.K) := by
  intro pins s σ H vs us Q I r ⟨a, ns, e0, hs, q⟩
  subst e0
  obtain ⟨its, rv, hl, hz⟩ := I.tuple hs
  rw [Vals.ref1 r]
  have hi := rv.ints
  have hz' : its.length ≤ sizeLine := by rw [← rv.length]; exact hz
  refine SrtO.wd_sortedT SrtO.swo_int hl hz' (fun h2 _ _ _ _ => SrtO.ints_sortable hi h2) fun out h1 h2 => ?_
  obtain ⟨k1, k2, k3⟩ := SrtO.ints_out hi h1 h2
  obtain ⟨ep, he⟩ := PyProof.Rows.sortedAll_at s.heap its out.toArray
  have hlen : ((out.map SrtO.iv).map V.int).length ≤ sizeLine := by rw [List.length_map, k2.length_eq]; simpa using hz
  refine ⟨.ref _, upd H (s.heap.objs.size + 1) (.lst ((out.map SrtO.iv).map V.int)), ?_, rfl, q _ _ k2 k3 (I.hok.fresh (Nat.le_succ _))⟩
  exact I.laid (t' := s.toks) (fun _ _ => PyProof.Rows.sortedAll_old) (Nat.le_succ _) ⟨hlen, out, ep, vals_of_ints k1, he⟩
open Classical in
noncomputable def pkV (H : Hp) (v : V) : Int × Int := if e : ∃ t i j, v = V.ref t ∧ H t = some (.tup [.int i, .int j]) then (e.choose_spec.choose, e.choose_spec.choose_spec.choose) else (0, 0)
theorem pkV_eq {t : Addr} {i j : Int} (e : H t = some (.tup [.int i, .int j])) : pkV H (V.ref t) = (i, j) := by
  unfold pkV
  have ex : ∃ t' i j, V.ref t = V.ref t' ∧ H t' = some (.tup [.int i, .int j]) := ⟨t, i, j, rfl, e⟩
  rw [dif_pos ex]
  obtain ⟨h1, h2⟩ := ex.choose_spec.choose_spec.choose_spec
  have h3 : t = ex.choose := by injection h1
  have e' : H ex.choose = some (.tup [.int i, .int j]) := by rw [← h3]; exact e
  have h2 := e'.symm.trans h2
  simp only [Option.some.injEq, HO.tup.injEq, List.cons.injEq, V.int.injEq, and_true] at h2
  exact Prod.ext h2.1.symm h2.2.symm
theorem IsL.prs (hh : Hh K G ms h H) : ∀ {ps : List (Int × Int)} {vs : List V}, IsL K G ms (ps.map prD) vs → vs.map (pkV H) = ps ∧ ∀ v ∈ vs, ∃ t, v = .ref t ∧ G.1 t = some (.tup [.int (pkV H v).1, .int (pkV H v).2])
  | [], _, i => by cases i; exact ⟨rfl, fun v hv => nomatch hv⟩
  | p :: ps, _, i => by
    obtain ⟨v, r, rfl, ⟨t, ws, rfl, e1, e2⟩, i3⟩ := i
    obtain ⟨w1, w2, rfl, j1, j2⟩ := isL2 e2
    cases j1; cases j2
    have ek := pkV_eq (hh.sub _ _ e1)
    obtain ⟨k1, k2⟩ := IsL.prs hh i3
    refine ⟨by rw [List.map_cons, ek, k1], fun v hv => ?_⟩
    rcases List.mem_cons.mp hv with rfl | hv
    · exact ⟨t, rfl, by rw [ek]; exact e1⟩
    · exact k2 v hv
theorem IsL.prs_of : ∀ {vs : List V}, (∀ v ∈ vs, ∃ t, v = .ref t ∧ G.1 t = some (.tup [.int (pkV H v).1, .int (pkV H v).2])) → IsL K G ms ((vs.map (pkV H)).map prD) vs
  | [], _ => rfl
  | v :: vs, hv => by
    obtain ⟨t, rfl, e⟩ := hv v List.mem_cons_self
    exact ⟨.ref t, vs, rfl, ⟨t, _, rfl, e, _, _, rfl, rfl, _, _, rfl, rfl, rfl⟩, IsL.prs_of fun u hu => hv u (List.mem_cons_of_mem _ hu)⟩
theorem cd_sorted (m : Bool) : CallD X (.builtin "sorted") (sortedD m) := by
  intro pins s σ H xs us Q I r ⟨G, ms, h, ds, hh, i, q⟩
  unfold sortedD at q
  split at q
  · obtain ⟨v, rfl, i1⟩ := isL1 (ds := []) i
    split at q
    · rename_i ys e
      split at q
      · rename_i ns e2
        obtain ⟨p, vs, rfl, h2, h3⟩ := hh.row i1 e
        have hlen : ∀ ms : List Int, ms.Perm ns → (ms.map D.int).length ≤ sizeLine := fun ms pm => by
          have := hh.rowz i1 e
          rw [intsOf_eq e2, List.length_map] at this
          rw [List.length_map, pm.length_eq]; exact this
        rw [intsOf_eq e2] at h3
        rw [h3.ints] at h2
        rcases h2 with h2 | h2
        · exact cr_sortedI pins s σ H _ us Q I r ⟨p, ns, rfl, h2, fun ks p' pm sr hp => by
            rw [← sortI_uniq pm sr] at q
            exact q.newL hh (.of_ints ks) (hlen ks pm) hp⟩
        · exact cr_sortedTI pins s σ H _ us Q I r ⟨p, ns, rfl, h2, fun ks p' pm sr hp => by
            rw [← sortI_uniq pm sr] at q
            exact q.newL hh (.of_ints ks) (hlen ks pm) hp⟩
      · split at q
        · rename_i zs e3
          split at q
          · rename_i ps e4
            obtain ⟨p, vs, rfl, h2, h3⟩ := hh.list i1 e3
            have ez : ys = zs := by
              have q1 := hh.row i1 e
              rename_i dd _ _ _ _ _
              cases dd <;> first | (cases e3; done) | exact Option.some.inj (e.symm.trans e3)
            subst ez
            have hlz := hh.rowz i1 e
            rw [prsOf_eq e4] at h3 hlz
            obtain ⟨k1, k2⟩ := h3.prs hh
            refine cr_sortedPO pins s σ H _ us Q I r ⟨p, vs, pkV H, rfl, h2, fun x hx => ?_, fun zs p' sr st hp => ?_⟩
            · obtain ⟨t, e5, e6⟩ := k2 x hx
              exact ⟨t, e5, hh.sub _ _ e6⟩
            · have pm := st.perm
              have em : zs.map (pkV H) = sortP ps := sortP_uniq (by rw [← k1]; exact pm.map _) (List.pairwise_map.mpr (List.Pairwise.imp (fun {a b} hab => hab) sr))
              have i5 : IsL X.K G ms ((zs.map (pkV H)).map prD) zs := IsL.prs_of fun v hv => k2 v (pm.mem_iff.mp hv)
              rw [em] at i5
              refine q.newL hh i5 ?_ hp
              rw [List.length_map, (sortP_perm ps).length_eq]
              simpa using hlz
          · exact q.elim
        · exact q.elim
    · exact q.elim
  · exact q.elim
end
end WD
namespace WD
open PySem PySem.Spec PyProof.Rows L2
/-- a class that is only asked for -/
structure Xg (K : PySem.W.Frag) (mg : Str → Option Value) (x : Str) (C : Addr) : Prop where
  g : mg x = some (.ref C)
section
variable {X : Cx} {W : WX} {pin : List Pn} {pos : Pos} {K : PySem.W.Frag} {G : GG} {ms : List Addr}
end
section
variable {X : Cx} {W : WX} {pin : List Pn} {K : PySem.W.Frag} {mg : Str → Option Value} {E : XK} {G G' : GG} {H : Hp} {ms ms' : List Addr} {h : Hs} {pos : Pos} {a b c : Expr} {rest : List Expr}
theorem units65 {k : Nat} {A : Around} (r : Room k A) : A.units + 65 < cLine := by have := r.un; omega
open Classical in
noncomputable def mulLv : D → D → Hs → R D
  | .lst xs, .int k, h => if repOk k xs.length then newL true (List.replicate k.toNat xs).flatten h else .bad
  | _, _, _ => .bad
end
end WD
namespace WD
open PySem PySem.Spec PyProof.Rows L2
section
variable {X : Cx} {W : WX} {pin : List Pn} {pos : Pos}
end
section
variable {X : Cx} {W : WX} {pin : List Pn} {pos : Pos}
end
end WD
namespace WD
open PySem PySem.Spec PyProof.Rows L2
structure RoomG (k : Nat) (A : Around) : Prop extends Room k A where
  gu : A.guards = some []
theorem RoomG.mono {j k : Nat} {A : Around} (r : RoomG k A) (h : j ≤ k) : RoomG j A := ⟨r.toRoom.mono h, r.gu⟩
theorem RoomG.under {k : Nat} {A : Around} (r : RoomG (k + 1) A) (env : Env) : RoomG k (A.deeper env) := ⟨r.toRoom.deeper env, r.gu⟩
structure FnG (P : Program) (w : World) (K : PySem.W.Frag) (mg : Str → Option Value) (base : Heap) (k : Nat) (f : Addr) (fd : FuncData) (ps : List Str) (sp : Sp) : Prop where
  count : ∀ xs H Q E, sp xs H Q E → xs.length = ps.length
  goes : ∀ A outer s H args us xs Q E, RoomG k A → Env0 P w K mg base A outer s H → BindsTo s fd args (ps.zip us) → Vals xs us → sp xs H Q E →
      codeAny (model P w) A (.call (.ref f) args) (CR (L2.CX P w) outer P w H s Q E) s
section
variable {P : Program} {w : World} {K : PySem.W.Frag} {mg : Str → Option Value} {base : Heap} {f : Addr} {fd : FuncData} {ps : List Str} {sp : Sp}
theorem FnG.mono {j k : Nat} (F : FnG P w K mg base j f fd ps sp) (hj : j ≤ k) : FnG P w K mg base k f fd ps sp :=
  ⟨F.count, fun A outer s H args us xs Q E r => F.goes A outer s H args us xs Q E (r.mono hj)⟩
theorem FnG.imp {k : Nat} {sp' : Sp} (F : FnG P w K mg base k f fd ps sp) (hi : ∀ xs H Q E, sp' xs H Q E → sp xs H Q E) : FnG P w K mg base k f fd ps sp' :=
  ⟨fun xs H Q E q => F.count xs H Q E (hi _ _ _ _ q), fun A outer s H args us xs Q E r e b v q => F.goes A outer s H args us xs Q E r e b v (hi _ _ _ _ q)⟩
end
section
variable {X : Cx} {W : WX} {pin : List Pn} {pos p : Pos}
end
open Classical in
noncomputable def reprD : List D → Hs → R D
  | [d], h => match toP h 60 d with
    | some p => if p.showable = true ∧ p.shown.length ≤ sizeLine then .ok (.str p.shown) h else .bad
    | none => .bad
  | _, _ => .bad
section
variable {X : Cx}
end
end WD
namespace WD
open PySem PySem.Spec PyProof.Rows L2
def lexGe (ns ms : List Int) : Bool := Ob.lexAt (fun j => ns.getD j 0 == ms.getD j 0) (fun j => decide (ms.getD j 0 ≤ ns.getD j 0)) (decide (ns.length ≥ ms.length)) 0 (min ns.length ms.length)
def geT : D → D → Hs → R D
  | .tup xs, .tup ys, h => match intsOf xs, intsOf ys with
    | some ns, some ms => .ok (.bl (lexGe ns ms)) h
    | _, _ => .bad
  | _, _, _ => .bad
section
variable {X : Cx} {W : WX} {pin : List Pn}
end
theorem lexGe_two {a b c d : Int} : lexGe [a, b] [c, d] = decide (c < a ∨ (a = c ∧ d ≤ b)) := by
  unfold lexGe
  by_cases h1 : a = c
  · subst h1
    by_cases h2 : b = d
    · subst h2; simp [Ob.lexAt]
    · simp [Ob.lexAt, h2]
  · simp [Ob.lexAt, h1]
    omega
@[simp] theorem x_geP {p q : Int × Int} {h : Hs} : geT (prD p) (prD q) h = .ok (.bl (decide (q.1 < p.1 ∨ (p.1 = q.1 ∧ q.2 ≤ p.2)))) h := by
  show R.ok (D.bl (lexGe [p.1, p.2] [q.1, q.2])) h = _
  rw [lexGe_two]
end WD
namespace WD
open PySem PySem.Spec PyProof.Rows L2
section
variable {Y : Cx} {W : WX} {pin : List Pn} {pos : Pos}
end
/-- what is asked of an error: one of the classes names, by its object -/
structure ErO (mg : Str → Option Value) (names : List Str) (y : Str) (o : Obj) : Prop where
  mem : y ∈ names
  cls : Zc (clsV mg ⟨y, none⟩) none o
  fld : ∃ vs, o.data = .fields vs
structure FnE (P : Program) (w : World) (K : PySem.W.Frag) (mg : Str → Option Value) (base : Heap) (k : Nat) (f : Addr) (fd : FuncData) (x : Str) (names : List Str) (g : Str → Hs → R D) : Prop where
  goes : ∀ A outer s H p y Q, L2H.RoomH k A → L2H.PinOk outer H s p → ErO mg names y p.2 → Env0 P w K mg base A outer s H → BindsTo s fd ⟨[.ref p.1], []⟩ [(x, .ref p.1)] →
    (∃ G ms h, Hh K G ms h H ∧ Post K mg (fun _ _ _ => False) G ms (Is K) (g y h) Q) → codeAny (model P w) A (.call (.ref f) ⟨[.ref p.1], []⟩) (CR (L2.CX P w) outer P w H s Q (fun _ _ _ => False)) s
section
variable {P : Program} {w : World} {K : PySem.W.Frag} {mg : Str → Option Value} {base : Heap} {f : Addr} {fd : FuncData}
theorem FnE.mono {j k : Nat} {x : Str} {names : List Str} {g : Str → Hs → R D} (F : FnE P w K mg base j f fd x names g) (h : j ≤ k) : FnE P w K mg base k f fd x names g := ⟨fun A outer s H p y Q r => F.goes A outer s H p y Q (r.mono h)⟩
end
def eErr (r : Hs → R D) : FE := fun _ h => r h
@[simp] theorem x_eErr {r : Hs → R D} {s : Ss} {h : Hs} : eErr r s h = r h := (rfl)
section
variable {X : Cx} {W : WX} {pin : List Pn} {pos : Pos}
end
end WD
namespace WD
open PySem PySem.Spec PyProof.Rows L2
/-- the lists that are summed lie in the heap -/
def LsAt (h : Heap) (ls : List (Addr × List Value)) (bar : List Addr) : Prop := ∀ p ∈ ls, p.1 ∉ bar ∧ ∃ c, h.get? p.1 = some { cls := .type "list", dict := none, data := .seq p.2.toArray c, slots := #[] }
theorem LsAt.keep {h h' : Heap} {ls : List (Addr × List Value)} {bar : List Addr} (x : LsAt h ls bar) (k : ∀ b o, b ∉ bar → h.get? b = some o → h'.get? b = some o) : LsAt h' ls bar := fun p hp => by
  obtain ⟨h1, c, h2⟩ := x p hp
  exact ⟨h1, c, k _ _ h1 h2⟩
section
variable {prog : Program} {w : World} {A : Around} {R : Result → Shared → Prop} {E : Value → Shared → Prop}
end
section
variable {X : Cx} {W : WX} {pin : List Pn} {K : PySem.W.Frag} {mg : Str → Option Value} {E : XK} {G G' : GG} {H : Hp} {ms ms' : List Addr} {h : Hs}
end
end WD
namespace WD
open PySem PySem.Spec PyProof.Rows L2
section
variable {P : Program} {w : World} {A : Around} {E : Value → Shared → Prop} {s : Shared}
end
section
variable {X : Cx} {W : WX} {pin : List Pn} {pos : Pos}
end
end WD
namespace SrtO
open PySem PySem.Spec PyProof.Rows Srt
def IsRow (h : Heap) (v : Value) (ns : List Int) : Prop := ∃ (a : Addr) (o : Obj) (us : Array Value) (n : Nat), v = .ref a ∧ h.get? a = some o ∧ o.cls = .type "tuple" ∧ o.data = .seq us n ∧ IntsAre us.toList ns
theorem IsRow.keeps {h h' : Heap} {v : Value} {ns : List Int} (x : IsRow h v ns) (k : ∀ b o, h.get? b = some o → o.cls = .type "tuple" → h'.get? b = some o) : IsRow h' v ns := by
  obtain ⟨a, o, us, n, h1, h2, h3, h4, h5⟩ := x
  exact ⟨a, o, us, n, h1, k _ _ h2 h3, h3, h4, h5⟩
section
variable {prog : Program} {w : World} {A : Around} {E : Value → Shared → Prop} {s : Shared}
end
end SrtO
namespace WD
open PySem PySem.Spec PyProof.Rows L2
section
variable {X : Cx} {K : PySem.W.Frag} {mg : Str → Option Value} {G : GG} {H : Hp} {ms : List Addr} {h : Hs}
open Classical in
noncomputable def dyV (H : Hp) (v : V) : List Int := if e : ∃ (t : Addr) (ns : List Int), v = V.ref t ∧ H t = some (.tup (ns.map V.int)) then e.choose_spec.choose else []
end
end WD
namespace WD
open PySem PySem.Spec PyProof.Rows L2
section
variable {X : Cx}
end
end WD
namespace WD
open PySem PySem.Spec PyProof.Rows L2
open PySem.Sem (wp)
section
variable {prog : Program} {w : World} {A : Around} {E : Value → Shared → Prop} {s : Shared}
end
section
variable {prog : Program} {w : World} {A : Around} {E : Value → Shared → Prop} {s : Shared}
end
section
variable {X : Cx} {W : WX} {pin : List Pn} {K : PySem.W.Frag} {G : GG} {ms : List Addr} {pos : Pos}
end
end WD
namespace WD
open PySem PySem.Spec PyProof.Rows L2
section
variable {X : Cx} {W : WX} {pin : List Pn} {pos : Pos}
end
end WD
namespace WD
open PySem PySem.Spec PyProof.Rows L2
section
open PySem.SeqAt AutoSeq1 MeetsSeq MeetsSeq2 MeetsSeq3 SeqRoads2
variable {prog : Program} {w : World}
end
/-- nested still lists, dicts of one key at most, flat things; of nesting below n -/
def sameOk : Nat → D → Bool
  | 0, _ => false
  | n + 1, d => match d with
    | .non | .bl _ | .int _ | .str _ => true
    | .lst xs => xs.all (sameOk n)
    | .dic ks xs => decide (ks.length ≤ 1) && xs.all (sameOk n)
    | _ => false
section
variable {K : PySem.W.Frag} {G : GG} {ms : List Addr} {H : Hp} {h : Hs}
end
open Classical in
noncomputable def neX : D → D → Hs → R D := fun x y h => match x with
  | .lst xs => if x = y ∧ xs.all (sameOk 40) = true then .ok (.bl false) h else eqD true x y h
  | _ => eqD true x y h
section
variable {X : Cx}
end
end WD
namespace WD
open PySem PySem.Spec PyProof.Rows L2
def spI (C : Addr) (f : Str) : Sp := fun xs H Q _ => ∃ (a : Addr) (v : V), xs = [.ref a, v] ∧ H a = some (exo a C none) ∧ ∀ dx, H dx = none → dx ≠ a → Q .non (upd (upd H dx (exd dx [(f, v)])) a (exo a C (some dx)))
structure Xf (P : Program) (w : World) (K : PySem.W.Frag) (mg : Str → Option Value) (base : Heap) (x f : Str) (C : Addr) : Prop where
  g : mg x = some (.ref C)
  T : OexC K C
  no : PySem.W.findIn K (.ref C) f = some none
  ex : ∃ fI fd, PySem.W.findIn K (.ref C) "__init__" = some (some (.ref fI)) ∧ PySem.W.typeIn K (.ref fI) = some (.type "function") ∧ Binds K fd ["self", f] [] ∧ FnOk P w K mg base (L2.CX P w) 1 fI fd ["self", f] (spI C f)
section
variable {P : Program} {w : World} {K : PySem.W.Frag} {mg : Str → Option Value} {base : Heap}
end
/-- raise x(e) -/
def sRaise1 (x f : Str) (fe : FE) : FS := fun s h => RS.ofR s (fe s h) fun d h1 => .er ⟨x, some (f, d)⟩ s h1
@[simp] theorem x_sRaise1 {x f : Str} {fe : FE} {s : Ss} {h : Hs} : sRaise1 x f fe s h = RS.ofR s (fe s h) fun d h1 => .er ⟨x, some (f, d)⟩ s h1 := (rfl)
section
variable {X : Cx} {W : WX} {pin : List Pn} {pos : Pos} {K : PySem.W.Frag} {G : GG} {ms : List Addr}
def OkX (names : List Str) (flds : List (Str × Str)) (y : Xn) : Prop := match y.val with
  | none => y.name ∈ names
  | some (f, _) => (y.name, f) ∈ flds
open Classical in
noncomputable def sTryX (c : Str) (i : Nat) (names : List Str) (flds : List (Str × Str)) (fb : FS) (fs : Xn → FS) : FS := fun s h => match fb s h with
  | .er y s' h' => if OkX names flds y ∧ i < s'.length then (if subX y.name c = true then unset i (fs y (s'.set i none) h') else .er y s' h') else .bad
  | r => r
/-- the error's field; bad if it has none -/
def eFld (y : Xn) (f : Str) : FE := fun s h => match y.val with
  | some (g, d) => if g = f then .ok d h else .bad
  | none => .bad
@[simp] theorem x_eFld {n f : Str} {d : D} {s : Ss} {h : Hs} : eFld ⟨n, some (f, d)⟩ f s h = .ok d h := by unfold eFld; simp
end
end WD
namespace SrtO
open PySem PySem.Spec PyProof.Rows L2
variable {prog : Program} {w : World} {A : Around} {E : Value → Shared → Prop} {s : Shared}
end SrtO
namespace WD
open PySem PySem.Spec PyProof.Rows L2
def sortedTD (m : Bool) : List D → Hs → R D
  | [.tup xs], h => match prsOf xs with
    | some ps => newL m ((sortP ps).map prD) h
    | none => .bad
  | _, _ => .bad
@[simp] theorem x_sortedTD {m : Bool} {ps : List (Int × Int)} {h : Hs} : sortedTD m [.tup (ps.map prD)] h = newL m ((sortP ps).map prD) h := by
  show (match prsOf (ps.map prD) with | some ps => _ | none => _) = _
  rw [prsOf_map]
section
variable {X : Cx} {W : WX} {pin : List Pn} {pos : Pos} {K : PySem.W.Frag} {G : GG} {ms : List Addr}
end
def strOk (i : Int) : Prop := i.natAbs.log2 < 1920
def istr (i : Int) : Str := (toString i : String)
open Classical in
noncomputable def strD : List D → Hs → R D
  | [.int i], h => if strOk i then .ok (.str (istr i)) h else .bad
  | _, _ => .bad
def strsOf : List D → Option (List Str)
  | [] => some []
  | .str x :: r => match strsOf r with
    | some xs => some (x :: xs)
    | none => none
  | _ => none
@[simp] theorem strsOf_map : ∀ (xs : List Str), strsOf (xs.map D.str) = some xs
  | [] => rfl
  | x :: xs => by
    show strsOf (.str x :: xs.map D.str) = _
    unfold strsOf
    rw [strsOf_map xs]
def joinS (a : Str) (d : D) (h : Hs) : R D := match rowOf h d with
  | some xs => match strsOf xs with
    | some ys => if (ys.map (·.length)).sum + ys.length * a.length ≤ sizeLine then .ok (.str (Txt.join a ys)) h else .bad
    | none => .bad
  | none => .bad
/-- a.join(d) -/
def eJoin (fo fe : FE) : FE := fun s h => (fo s h).bind fun o h1 => match o with
  | .str a => (fe s h1).bind fun d h2 => joinS a d h2
  | _ => .bad
@[simp] theorem x_eJoin {fo fe : FE} {s : Ss} {h : Hs} : eJoin fo fe s h = (fo s h).bind fun o h1 => match o with
  | .str a => (fe s h1).bind fun d h2 => joinS a d h2
  | _ => .bad := (rfl)
section
variable {X : Cx} {W : WX} {pin : List Pn} {pos apos : Pos} {K : PySem.W.Frag} {G : GG} {ms : List Addr}
end
section
variable {Y : Cx} {W : WX} {pin : List Pn} {pos : Pos}
end
end WD
namespace WD
open PySem PySem.Spec PyProof.Rows L2
structure FnE2 (P : Program) (w : World) (K : PySem.W.Frag) (mg : Str → Option Value) (base : Heap) (k : Nat) (f : Addr) (fd : FuncData) (x x2 : Str) (names : List Str) (g : Str → D → Hs → R D) : Prop where
  goes : ∀ A outer s H p y d v u Q, L2H.RoomH k A → L2H.PinOk outer H s p → ErO mg names y p.2 → Env0 P w K mg base A outer s H → RelV v u → BindsTo s fd ⟨[.ref p.1, u], []⟩ [(x, .ref p.1), (x2, u)] →
    (∃ G ms h, Hh K G ms h H ∧ Is K G ms d v ∧ Post K mg (fun _ _ _ => False) G ms (Is K) (g y d h) Q) → codeAny (model P w) A (.call (.ref f) ⟨[.ref p.1, u], []⟩) (CR (L2.CX P w) outer P w H s Q (fun _ _ _ => False)) s
section
variable {P : Program} {w : World} {K : PySem.W.Frag} {mg : Str → Option Value} {base : Heap} {f : Addr} {fd : FuncData}
theorem FnE2.mono {j k : Nat} {x x2 : Str} {names : List Str} {g : Str → D → Hs → R D} (F : FnE2 P w K mg base j f fd x x2 names g) (h : j ≤ k) : FnE2 P w K mg base k f fd x x2 names g := ⟨fun A outer s H p y d v u Q r => F.goes A outer s H p y d v u Q (r.mono h)⟩
end
def eErr2 (r : D → Hs → R D) (j : Nat) : FE := fun s h => match s[j]? with
  | some (some d) => r d h
  | _ => .bad
@[simp] theorem x_eErr2 {r : D → Hs → R D} {j : Nat} {s : Ss} {h : Hs} : eErr2 r j s h = match s[j]? with
  | some (some d) => r d h
  | _ => .bad := (rfl)
section
variable {X : Cx} {W : WX} {pin : List Pn} {pos : Pos}
end
end WD
namespace WD
open PySem PySem.Spec PyProof.Rows L2
section
open HT
variable {prog : Program} {w : World} {A : Around} {E : Value → Shared → Prop} {s : Shared}
end
section
variable {X : Cx} {W : WX} {pin : List Pn} {pos p2 : Pos}
end
end WD
namespace WD
open PySem PySem.Spec PyProof.Rows L2
open PySem.Sem (wp)
section
variable {prog : Program} {w : World} {A : Around} {E : Value → Shared → Prop} {s : Shared}
end
section
variable {prog : Program} {w : World} {A : Around} {E : Value → Shared → Prop} {s : Shared}
end
section
variable {X : Cx} {W : WX} {pin : List Pn} {K : PySem.W.Frag} {G : GG} {ms : List Addr} {pos : Pos}
end
end WD
namespace WD
open PySem PySem.Spec PyProof.Rows L2
section
variable {X : Cx} {pins : List (Addr × Obj)} {σ : L2.St} {H : Hp} {s : Shared}
end
section
variable {X : Cx} {x n v : Str} {c : Value} {i j : Nat} {body : List Stmt} {np pos pos' p1 p2 p3 : Pos} {tb : WX → TS} {tk2 : Addr → Value → Option Addr → TS} {Wout : WX} {st2 : Stmt}
end
section
variable {X : Cx} {W : WX} {pin : List Pn} {pos : Pos}
end
end WD
namespace WD
open PySem PySem.Spec PyProof.Rows L2
section
variable {X : Cx} {W : WX} {pin : List Pn} {K : PySem.W.Frag} {mg : Str → Option Value} {E : XK} {G G' : GG} {H : Hp} {ms ms' : List Addr} {h : Hs} {pos : Pos} {vs : List Nat}
end
end WD
namespace WD
open PySem PySem.Spec PyProof.Rows L2
mutual
inductive Rx (h : Heap) : Value → PyData → Prop
  | none : Rx h .none .none
  | bool (b) : Rx h (.bool b) (.bool b)
  | int (i t) : Rx h (.int i t) (.int i)
  | str (x t) : Rx h (.str x t) (.str x)
  | list {a o vs n xs} : h.get? a = some o → o.cls = .type "list" → o.data = .seq vs n → Rxs h vs.toList xs → Rx h (.ref a) (.list xs)
  | tuple {a o vs n xs} : h.get? a = some o → o.cls = .type "tuple" → o.data = .seq vs n → Rxs h vs.toList xs → Rx h (.ref a) (.tuple xs)
  | dict {a o es n kvs} : h.get? a = some o → o.cls = .type "dict" → o.data = .dict es n → (a == sysModules) = false → Rxs h (es.toList.map (·.key)) (kvs.map (·.1)) →
      Rxs h (es.toList.map (·.val)) (kvs.map (·.2)) → Rx h (.ref a) (.dict kvs)
inductive Rxs (h : Heap) : List Value → List PyData → Prop
  | nil : Rxs h [] []
  | cons {v vs d ds} : Rx h v d → Rxs h vs ds → Rxs h (v :: vs) (d :: ds)
end
mutual
theorem Rx.reads {h : Heap} : ∀ {v : Value} {d : PyData}, Rx h v d → ∃ as, Reads h v d as
  | _, _, .none => ⟨_, .none⟩
  | _, _, .bool b => ⟨_, .bool b⟩
  | _, _, .int i t => ⟨_, .int i t⟩
  | _, _, .str x t => ⟨_, .str x t⟩
  | _, _, .list a b c r => let ⟨_, q⟩ := r.reads; ⟨_, .list a b c q⟩
  | _, _, .tuple a b c r => let ⟨_, q⟩ := r.reads; ⟨_, .tuple a b c q⟩
  | _, _, .dict a b c _ r1 r2 => let ⟨_, q1⟩ := r1.reads; let ⟨_, q2⟩ := r2.reads; ⟨_, .dict a b c q1 q2⟩
theorem Rxs.reads {h : Heap} : ∀ {v : List Value} {d : List PyData}, Rxs h v d → ∃ as, ReadsAll h v d as
  | _, _, .nil => ⟨_, .nil⟩
  | _, _, .cons r1 r2 => let ⟨_, q1⟩ := r1.reads; let ⟨_, q2⟩ := r2.reads; ⟨_, .cons q1 q2⟩
end
section
variable {prog : Program} {w : World} {h₀ : Heap}
/-- a thing is shown, the places under way being at most as deep as it is -/
def Shn (prog : Program) (w : World) (h₀ : Heap) (n : Nat) (v : Value) (t : Str) : Prop := ∃ bs, ReadAtMost h₀ n bs ∧ ReprK prog w bs h₀ n v t
def Shns (prog : Program) (w : World) (h₀ : Heap) (n : Nat) (vs : List Value) (ts : List Str) : Prop := ∃ bs, ReadAtMost h₀ n bs ∧ ReprAllK prog w bs h₀ n vs ts
theorem Shn.flat {v : Value} {t : Str} (n : Nat) (h : ReprIs prog w v t) : Shn prog w h₀ n v t := ⟨[], fun _ q => (nomatch q), .of_is h _ _ _⟩
theorem Shns.cons {n m : Nat} {v : Value} {vs : List Value} {t : Str} {ts : List Str} (a : Shn prog w h₀ n v t) (b : Shns prog w h₀ m vs ts) : Shns prog w h₀ (max n m) (v :: vs) (t :: ts) := by
  obtain ⟨b1, q1, k1⟩ := a
  obtain ⟨b2, q2, k2⟩ := b
  exact ⟨b1 ++ b2, (q1.mono (Nat.le_max_left _ _)).append (q2.mono (Nat.le_max_right _ _)),
    .cons ((k1.more fun _ z => List.mem_append_left _ z).level_le (Nat.le_max_left _ _)) (k2.more_le (fun _ z => List.mem_append_right _ z) (Nat.le_max_right _ _))⟩
theorem Shns.mono {n m : Nat} {vs : List Value} {ts : List Str} (a : Shns prog w h₀ n vs ts) (h : n ≤ m) : Shns prog w h₀ m vs ts := by
  obtain ⟨bs, q, k⟩ := a
  exact ⟨bs, q.mono h, k.more_le (fun _ z => z) h⟩
/-- the entries of a dict, its keys and its values shown -/
theorem Shns.two {n : Nat} {es : List DictEntry} {ks vs : List Str} (a : Shns prog w h₀ n (es.map (·.key)) ks) (b : Shns prog w h₀ n (es.map (·.val)) vs) :
    ∃ bs, ReadAtMost h₀ n bs ∧ ReprEntriesK prog w bs h₀ n es (List.zipWith (fun k v : Str => k ++ ": " ++ v) ks vs) := by
  obtain ⟨b1, q1, k1⟩ := a
  obtain ⟨b2, q2, k2⟩ := b
  exact ⟨b1 ++ b2, q1.append q2, .of_two es ks vs (k1.more_le (fun _ z => List.mem_append_left _ z) (Nat.le_refl _)) (k2.more_le (fun _ z => List.mem_append_right _ z) (Nat.le_refl _))⟩
theorem depth_kv (kvs : List (PyData × PyData)) : PyData.depthAll (kvs.map (·.1)) ≤ PyData.depthKv kvs ∧ PyData.depthAll (kvs.map (·.2)) ≤ PyData.depthKv kvs := ⟨PyData.depthAll_keys_le kvs, PyData.depthAll_vals_le kvs⟩
theorem short_kv {kvs : List (PyData × PyData)} (hz : (dictText (PyData.shownKv kvs)).length ≤ sizeLine) : (∀ t ∈ PyData.shownAll (kvs.map (·.1)), t.length ≤ sizeLine) ∧ ∀ t ∈ PyData.shownAll (kvs.map (·.2)), t.length ≤ sizeLine :=
  ⟨fun t ht => let ⟨_, hp, hl⟩ := PyData.shownKv_key_le kvs t ht; Nat.le_trans hl (Nat.le_trans (dictText_mem_le hp) hz), fun t ht => let ⟨_, hp, hl⟩ := PyData.shownKv_val_le kvs t ht; Nat.le_trans hl (Nat.le_trans (dictText_mem_le hp) hz)⟩
mutual
theorem Rx.shn : ∀ {v : Value} {d : PyData}, Rx h₀ v d → d.showable = true → d.shown.length ≤ sizeLine → Shn prog w h₀ d.depth v d.shown
  | _, _, .none, _, _ => by simp only [PyData.shown]; exact .flat _ ReprIs.none
  | _, _, .bool b, _, _ => by simp only [PyData.shown]; exact .flat _ (ReprIs.bool b)
  | _, _, .int i t, hs, _ => by simp only [PyData.shown]; exact .flat _ (ReprIs.int t (by simpa [PyData.showable] using hs))
  | _, _, .str x t, _, hz => by
    simp only [PyData.shown] at hz ⊢
    exact .flat _ (ReprIs.str x t hz)
  | _, _, .list (a := a) (vs := vs) (xs := xs) h1 h2 h3 h4, hs, hz => by
    obtain ⟨as, q⟩ := h4.reads
    simp only [PyData.shown] at hz
    obtain ⟨bs, hb, hk⟩ := Rxs.shn h4 (by simpa [PyData.showable] using hs) fun t ht => Nat.le_trans (listText_mem_le ht) hz
    have r : Reads h₀ (.ref a) (.list xs) _ := .list h1 h2 h3 q
    refine ⟨a :: bs, ReadAtMost.cons r (by simp only [PyData.depth]; omega) hb, ?_⟩
    simp only [PyData.depth, PyData.shown]
    obtain ⟨l⟩ := vs
    cases l with
    | nil =>
      have h4' : Rxs h₀ [] xs := h4
      cases h4'
      simp only [PyData.shownAll, listText_nil]
      exact .listEmpty h1 h2 h3
    | cons x l => exact .list h1 h2 h3 (not_mem_of_deeper r (by simp only [PyData.depth]; omega) hb) (by simpa using hk.length_eq) (fun i y e => hk.item i y (by simpa using e))
  | _, _, .tuple (a := a) (xs := xs) h1 h2 h3 h4, hs, hz => by
    obtain ⟨as, q⟩ := h4.reads
    simp only [PyData.shown] at hz
    obtain ⟨bs, hb, hk⟩ := Rxs.shn h4 (by simpa [PyData.showable] using hs) fun t ht => Nat.le_trans (tupleText_mem_le ht) hz
    have r : Reads h₀ (.ref a) (.tuple xs) _ := .tuple h1 h2 h3 q
    refine ⟨a :: bs, ReadAtMost.cons r (by simp only [PyData.depth]; omega) hb, ?_⟩
    simp only [PyData.depth, PyData.shown]
    exact .tuple h1 h2 h3 (not_mem_of_deeper r (by simp only [PyData.depth]; omega) hb) hk
  | _, _, .dict (a := a) (kvs := kvs) h1 h2 h3 hy h4 h5, hs, hz => by
    obtain ⟨as, q4⟩ := h4.reads
    obtain ⟨cs, q5⟩ := h5.reads
    simp only [PyData.shown] at hz
    obtain ⟨s1, s2⟩ := PyData.showableKv_split kvs (by simpa [PyData.showable] using hs)
    obtain ⟨z1, z2⟩ := short_kv hz
    obtain ⟨d1, d2⟩ := depth_kv kvs
    obtain ⟨bs, hb, hk⟩ := Shns.two (Shns.mono (Rxs.shn h4 s1 z1) d1) (Shns.mono (Rxs.shn h5 s2 z2) d2)
    have r : Reads h₀ (.ref a) (.dict kvs) _ := .dict h1 h2 h3 q4 q5
    refine ⟨a :: bs, ReadAtMost.cons r (by simp only [PyData.depth]; omega) hb, ?_⟩
    simp only [PyData.depth, PyData.shown, PyData.shownKv_eq]
    exact .dict h1 h2 h3 hy (not_mem_of_deeper r (by simp only [PyData.depth]; omega) hb) hk
theorem Rxs.shn : ∀ {vs : List Value} {ds : List PyData}, Rxs h₀ vs ds → PyData.showableAll ds = true → (∀ t ∈ PyData.shownAll ds, t.length ≤ sizeLine) → Shns prog w h₀ (PyData.depthAll ds) vs (PyData.shownAll ds)
  | _, _, .nil, _, _ => ⟨[], fun _ q => (nomatch q), by simp only [PyData.shownAll]; exact .nil⟩
  | _, _, .cons r rs, hs, hz => by
    simp only [PyData.showableAll, Bool.and_eq_true] at hs
    simp only [PyData.shownAll, List.mem_cons, forall_eq_or_imp] at hz
    simp only [PyData.depthAll, PyData.shownAll]
    exact Shns.cons (Rx.shn r hs.1 hz.1) (Rxs.shn rs hs.2 hz.2)
end

theorem Rx.call {A : Around} {E : Value → Shared → Prop} {s : Shared} {Q : Value → Shared → Prop} {v : Value} {d : PyData} (r : Rx h₀ v d) (hs : d.showable = true) (hz : d.shown.length ≤ sizeLine) (hg : A.guards = some []) (hu : A.units + (d.depth + 1) < cLine)
    (hk0 : ∀ b o, h₀.get? b = some o → s.heap.get? b = some o) (hQ : ∀ h' u tk, (∀ b o, s.heap.get? b = some o → h'.get? b = some o) → Q (.str d.shown u) { s with heap := h', toks := tk }) : wpAny (model prog w) A (call (.builtin "repr") [v]) Q E s := by
  cases r with
  | none => exact PySem.P.repr_of_none (by simpa only [PyData.shown] using hQ s.heap _ _ fun _ _ z => z)
  | bool b => exact PySem.P.repr_of_bool (by simpa only [PyData.shown] using hQ s.heap _ _ fun _ _ z => z)
  | int i t => exact PySem.P.repr_of_int (by simpa [PyData.showable] using hs) (by simpa only [PyData.shown] using hQ s.heap _ _ fun _ _ z => z)
  | str x t => exact PySem.P.repr_of_str (by simpa only [PyData.shown] using hQ s.heap _ _ fun _ _ z => z) (by simpa only [PyData.shown] using hz)
  | list h1 h2 h3 h4 =>
    rename_i a o vs n xs
    obtain ⟨as, q⟩ := h4.reads
    simp only [PyData.shown] at hz hQ
    simp only [PyData.depth] at hu
    obtain ⟨bs, hb, hk⟩ := Rxs.shn (prog := prog) (w := w) h4 (by simpa [PyData.showable] using hs) fun t ht => Nat.le_trans (listText_mem_le ht) hz
    have r : Reads h₀ (.ref a) (.list xs) _ := .list h1 h2 h3 q
    have hna := not_mem_of_deeper r (by simp only [PyData.depth]; omega) hb
    refine call_repr_slot (by omega) ⟨o, hk0 _ _ h1, h2⟩ F.slot_list_repr.toG ?_
    obtain ⟨l⟩ := vs
    cases l with
    | nil =>
      have h4' : Rxs h₀ [] xs := h4
      cases h4'
      simp only [PyData.shownAll, listText_nil] at hQ
      exact call_list_repr_empty ⟨o, hk0 _ _ h1, h2⟩ (hk0 _ _ h1) h3 ⟨_, _, rfl, hQ s.heap _ _ fun _ _ e => e⟩
    | cons x l =>
      exact call_list_reprK h1 h2 h3 hna (by simpa using hk.length_eq) (fun i y e => hk.item i y (by simpa using e)) hg (fun b _ => Clear.nil b) (by show A.units + 1 + _ < cLine; omega) hk0 (fun h' u tk z => ⟨_, _, rfl, hQ h' u tk z⟩) hz
  | tuple h1 h2 h3 h4 =>
    rename_i a o vs n xs
    obtain ⟨as, q⟩ := h4.reads
    simp only [PyData.shown] at hz hQ
    simp only [PyData.depth] at hu
    obtain ⟨bs, hb, hk⟩ := Rxs.shn (prog := prog) (w := w) h4 (by simpa [PyData.showable] using hs) fun t ht => Nat.le_trans (tupleText_mem_le ht) hz
    have r : Reads h₀ (.ref a) (.tuple xs) _ := .tuple h1 h2 h3 q
    have hna := not_mem_of_deeper r (by simp only [PyData.depth]; omega) hb
    exact call_repr_slot (by omega) ⟨o, hk0 _ _ h1, h2⟩ F.slot_tuple_repr
      (call_tuple_reprK h1 h2 h3 hna hk hg (fun b _ => Clear.nil b) (by show A.units + 1 + _ < cLine; omega) hk0 (fun h' u tk z => ⟨_, _, rfl, hQ h' u tk z⟩) hz)
  | dict h1 h2 h3 hy h4 h5 =>
    rename_i a o es n kvs
    obtain ⟨as, q4⟩ := h4.reads
    obtain ⟨cs, q5⟩ := h5.reads
    simp only [PyData.shown, PyData.shownKv_eq] at hQ
    simp only [PyData.shown] at hz
    simp only [PyData.depth] at hu
    obtain ⟨s1, s2⟩ := PyData.showableKv_split kvs (by simpa [PyData.showable] using hs)
    obtain ⟨z1, z2⟩ := short_kv hz
    obtain ⟨d1, d2⟩ := depth_kv kvs
    obtain ⟨bs, hb, hk⟩ := Shns.two (Shns.mono (Rxs.shn (prog := prog) (w := w) h4 s1 z1) d1) (Shns.mono (Rxs.shn h5 s2 z2) d2)
    have r : Reads h₀ (.ref a) (.dict kvs) _ := .dict h1 h2 h3 q4 q5
    have hna := not_mem_of_deeper r (by simp only [PyData.depth]; omega) hb
    exact call_repr_slot (by omega) ⟨o, hk0 _ _ h1, h2⟩ F.slot_dict_repr
      (call_dict_reprK h1 h2 h3 hy hna hk hg (fun b _ => Clear.nil b) (by show A.units + 1 + _ < cLine; omega) hk0 (fun h' u tk z => ⟨_, _, rfl, hQ h' u tk z⟩) (by rw [← PyData.shownKv_eq]; exact hz))
end
def keyP : Key → PyData
  | .inl i => .int i
  | .inr x => .str x
def keyOk : Key → Bool
  | .inl _ => true
  | .inr x => PyData.strOk x
def toR (h : Hs) : Nat → D → Option PyData
  | 0, d => toP h 0 d
  | n + 1, d => match d with
    | .tup xs => (xs.mapM (toR h n)).map PyData.tuple
    | .dic ks xs => if ks.all keyOk = true then (xs.mapM (toR h n)).map fun ps => .dict ((ks.map keyP).zip ps) else none
    | d => match lstOf h d with
      | some xs => (xs.mapM (toR h n)).map PyData.list
      | none => toP h 0 d
open Classical in
noncomputable def reprR : List D → Hs → R D
  | [d], h => match toR h 60 d with
    | some p => if p.showable = true ∧ p.shown.length ≤ sizeLine ∧ p.depth ≤ 62 then .ok (.str p.shown) h else .bad
    | none => .bad
  | _, _ => .bad
section
variable {X : Cx} {pins : List (Addr × Obj)} {σ : L2.St} {H : Hp} {s : Shared} {G : GG} {ms : List Addr} {h : Hs}
end
end WD
namespace WD
open PySem PySem.Spec PyProof.Rows L2
section
variable {X : Cx} {x1 x2 n : Str} {c1 c2 : Value} {i : Nat} {body su1 su2 : List Stmt} {b1 b2 : Stmt} {np1 np2 pos p1 p2 : Pos} {tb : WX → TS} {ts1 ts2 : Addr → Value → Option Addr → TS} {Wout : WX}
end
open Classical in
noncomputable def sTryX2 (c c' : Str) (i : Nat) (names : List Str) (flds : List (Str × Str)) (fb : FS) (fs fs' : Xn → FS) : FS := fun s h => match fb s h with
  | .er y s' h' => if OkX names flds y ∧ i < s'.length then (if subX y.name c = true then unset i (fs y (s'.set i none) h') else if subX y.name c' = true then unset i (fs' y (s'.set i none) h') else .er y s' h') else .bad
  | r => r
section
variable {X : Cx} {W : WX} {pin : List Pn} {pos : Pos} {K : PySem.W.Frag} {mg : Str → Option Value} {G : GG} {ms : List Addr}
end
section
variable {X : Cx} {W : WX} {pin : List Pn} {pos : Pos}
end
end WD
namespace WD
open PySem PySem.Spec PyProof.Rows L2
section
variable {K : PySem.W.Frag} {G G' : GG} {H H' : Hp} {ms ms' : List Addr} {h h' : Hs}
theorem IsF.lookup {f : Str} : ∀ {fs : List (Str × D)} {vs : List (Str × V)}, IsF K G ms fs vs → ∀ x, fs.lookup f = some x → ∃ v, vs.lookup f = some v ∧ Is K G ms x v
  | [], _, _, _, e => by cases e
  | (g, y) :: r, _, h, x, e => by
    obtain ⟨v, s, rfl, h1, h2⟩ := h
    simp only [List.lookup_cons] at e ⊢
    cases hb : f == g with
    | true => rw [hb] at e; cases e; exact ⟨v, rfl, h1⟩
    | false => rw [hb] at e; exact IsF.lookup h2 x e
theorem IsF.len : ∀ {fs : List (Str × D)} {vs : List (Str × V)}, IsF K G ms fs vs → fs.length = vs.length
  | [], _, h => by cases h; rfl
  | (g, y) :: r, _, h => by
    obtain ⟨v, s, rfl, h1, h2⟩ := h
    simp [IsF.len h2]
end
section
variable {X : Cx} {W : WX} {pin : List Pn} {pos : Pos}
end
end WD
namespace WD
open PySem PySem.Spec PyProof.Rows L2
section
variable {X : Cx} {W : WX} {pin : List Pn} {pos : Pos}
end
end WD
namespace WD
open PySem PySem.Spec PyProof.Rows L2
section
variable {Y : Cx} {W : WX} {pin : List Pn} {pos : Pos}
end
structure FnEF (P : Program) (w : World) (K : PySem.W.Frag) (mg : Str → Option Value) (base : Heap) (k : Nat) (f : Addr) (fd : FuncData) (x : Str) (flds : List (Str × Str)) (g : Xn → Hs → R D) : Prop where
  goes : ∀ A outer s H p y ff dd d Q, L2H.RoomH k A → L2H.PinOk outer H s p → (y, ff) ∈ flds → Zc (clsV mg ⟨y, none⟩) (some dd) p.2 → (∃ vs, p.2.data = .fields vs) → Env0 P w K mg base A outer s H → BindsTo s fd ⟨[.ref p.1], []⟩ [(x, .ref p.1)] →
    (∃ G ms h v, Hh K G ms h H ∧ G.1 dd = some (.xd [(ff, v)]) ∧ Is K G ms d v ∧ Post K mg (fun _ _ _ => False) G ms (Is K) (g ⟨y, some (ff, d)⟩ h) Q) → codeAny (model P w) A (.call (.ref f) ⟨[.ref p.1], []⟩) (CR (L2.CX P w) outer P w H s Q (fun _ _ _ => False)) s
section
variable {P : Program} {w : World} {K : PySem.W.Frag} {mg : Str → Option Value} {base : Heap} {f : Addr} {fd : FuncData}
theorem FnEF.mono {j k : Nat} {x : Str} {flds : List (Str × Str)} {g : Xn → Hs → R D} (F : FnEF P w K mg base j f fd x flds g) (h : j ≤ k) : FnEF P w K mg base k f fd x flds g := ⟨fun A outer s H p y ff dd d Q r => F.goes A outer s H p y ff dd d Q (r.mono h)⟩
end
section
variable {X : Cx} {W : WX} {pin : List Pn} {pos : Pos}
end
end WD
namespace WD
open PySem PySem.Spec PyProof.Rows L2
section
variable {X : Cx} {W : WX} {pin : List Pn} {pos : Pos}
end
end WD
namespace WD
open PySem PySem.Spec PyProof.Rows L2
section
variable {P : Program} {w : World} {K : PySem.W.Frag} {G : GG} {ms : List Addr} {H : Hp} {hp : Heap}
mutual
theorem nest_of (ok : HOk P w H hp) (sm : Same G.1 H) : ∀ (d : D) (v : V) (u : Value) (k : NestedKey), Is K G ms d v → nkOf d = some k → RelV v u → NestedIs hp k u
  | .int i, v, u, k, i1, e, r => by
    simp only [nkOf, Option.some.injEq] at e
    subst e
    cases i1
    obtain ⟨t, rfl⟩ := r
    exact .int i t
  | .tup xs, v, u, k, i1, e, r => by
    simp only [nkOf, Option.map_eq_some_iff] at e
    obtain ⟨ks, e, rfl⟩ := e
    obtain ⟨a, vs, rfl, h2, h3⟩ := i1
    cases (show u = Value.ref a from r)
    obtain ⟨_, its, rv, o, k1, k2, n, k3⟩ := (show ObjOk P w H hp a (.tup vs) from ok a _ (sm _ _ h2))
    exact .tup k1 k2 k3 (by simpa using nests_of ok sm xs vs its ks h3 e rv)
  | .non, _, _, _, _, e, _ => by simp [nkOf] at e
  | .bl b, v, u, k, i1, e, r => by
    simp only [nkOf, Option.some.injEq] at e
    subst e
    cases i1
    obtain rfl := r
    exact .bool rfl
  | .str _, _, _, _, _, e, _ => by simp [nkOf] at e
  | .lst _, _, _, _, _, e, _ => by simp [nkOf] at e
  | .scr _, _, _, _, _, e, _ => by simp [nkOf] at e
  | .dic _ _, _, _, _, _, e, _ => by simp [nkOf] at e
  | .loc _, _, _, _, _, e, _ => by simp [nkOf] at e
theorem nests_of (ok : HOk P w H hp) (sm : Same G.1 H) : ∀ (xs : List D) (vs : List V) (us : List Value) (ks : List NestedKey), IsL K G ms xs vs → nkOfs xs = some ks → Vals vs us → NestedAll hp ks us
  | [], vs, us, ks, i, e, r => by
    simp only [nkOfs, Option.some.injEq] at e
    subst e
    cases i
    cases r
    exact .nil
  | x :: xs, vs, us, ks, i, e, r => by
    simp only [nkOfs, Option.bind_eq_some_iff, Option.map_eq_some_iff] at e
    obtain ⟨a, e1, b, e2, rfl⟩ := e
    obtain ⟨v, vs', rfl, i1, i2⟩ := i
    cases r with
    | cons r1 r2 => exact .cons (nest_of ok sm x v _ a i1 e1 r1) (nests_of ok sm xs vs' _ b i2 e2 r2)
end
theorem IsKV.mem : ∀ {kvs : List (D × D)} {xs : List (NestedKey × Addr × V)}, IsKV K G ms kvs xs → ∀ q ∈ xs, ∃ p ∈ kvs, nkOf p.1 = some q.1 ∧ q.1.depth ≤ 8 ∧ Is K G ms p.1 (.ref q.2.1)
  | [], _, h, q, hq => by cases h; cases hq
  | p :: r, xs, h, q, hq => by
    obtain ⟨k, a, v, s, rfl, h1, h2, h3, h4, h5⟩ := h
    rcases List.mem_cons.mp hq with rfl | hq
    · exact ⟨p, List.mem_cons_self, h1, h2, h3⟩
    · obtain ⟨p', m, z⟩ := IsKV.mem h5 q hq
      exact ⟨p', List.mem_cons_of_mem _ m, z⟩
end
section
variable {X : Cx} {W : WX} {pin : List Pn} {pins : List (Addr × Obj)} {σ : L2.St} {G : GG} {ms : List Addr} {h : Hs} {H : Hp} {s : Shared} {pos : Pos}
theorem Hh.adoptO {K : PySem.W.Frag} {G : GG} {ms : List Addr} {h : Hs} {H : Hp} (x : Hh K G ms h H) {p : Addr} {ho : HO} {ob : O} {F : Hp} (hp : G.2 p = some ho) (hF : ∀ a u, F a = some u → a ≠ p ∧ G.2 a = some u) (hob : ObjIs K (G.1, F) (ms ++ [p]) H p ob) (hnf : ∀ od u, ho ≠ .frz od u) : Hh K (G.1, F) (ms ++ [p]) (h ++ [ob]) H := by
  obtain ⟨g0, m1⟩ := x.frd p _ hp
  have m0 : p ∉ ms := fun z => by obtain ⟨od, u, w⟩ := m1 z; exact hnf _ _ w
  have pp : ms <+: ms ++ [p] := ⟨[p], rfl⟩
  refine ⟨x.sub, x.gsz, fun a u e => x.frm a u (hF a u e).2, fun a u e => ⟨(x.frd a u (hF a u e).2).1, fun hm => ?_⟩, by simp [x.len], ?_, fun a ha => ?_, fun n a u e1 e2 => ?_⟩
  · rcases List.mem_append.mp hm with q | q
    · exact (x.frd a u (hF a u e).2).2 q
    · exact absurd (by simpa using q) (hF a u e).1
  · refine List.nodup_append.mpr ⟨x.nd, by simp, fun a ha b hb => ?_⟩
    have : b = p := by simpa using hb
    subst this
    exact fun z => m0 (by rw [← z]; exact ha)
  · rcases List.mem_append.mp ha with q | q
    · exact x.dis a q
    · have : a = p := by simpa using q
      subst this; exact g0
  · by_cases hn : n < ms.length
    · rw [List.getElem?_append_left hn] at e1
      rw [List.getElem?_append_left (by rw [← x.len]; exact hn)] at e2
      exact ObjIs.mono' (G := G) (q := x.obj n a u e1 e2) (e := Same.refl G.1) (p := pp) (hh := rfl)
    · have hn' : n = ms.length := by
        have hl : n < (ms ++ [p]).length := by
          rcases Nat.lt_or_ge n (ms ++ [p]).length with q | q
          · exact q
          · rw [List.getElem?_eq_none q] at e1; cases e1
        simp at hl; omega
      subst hn'
      simp at e1
      rw [x.len] at e2
      simp at e2
      subst e1 e2
      exact hob
end
end WD
namespace L2
open PySem PySem.Spec PyProof.Rows WD
section
variable {P : Program} {w : World} {K : PySem.W.Frag} {tg : Expr} {d : Addr} {o : Obj} {es : Array DictEntry} {ep : Nat}
end
end L2
namespace WD
open PySem PySem.Spec PyProof.Rows L2
open Classical in
/-- the dict is let go -/
noncomputable def letD (n : Nat) (kvs : List (D × D)) (h : Hs) : Option Hs := if h[n]? = some (.dct true kvs) then some (h.set n (.dct false kvs)) else none
noncomputable def afterD (n : Nat) (kvs : List (D × D)) (r : RS) (k : Ss → Hs → RS) : RS := match r with
  | .nx s h => k s h
  | .ct s h => k s h
  | .bk s h => (match letD n kvs h with
    | some h' => .nx s h'
    | none => .bad)
  | .rt d h => (match letD n kvs h with
    | some h' => .rt d h'
    | none => .bad)
  | .er x s h => .er x s h
  | .bad => .bad
open Classical in
noncomputable def loopD (g : Tg) (b : FS) (n : Nat) (kvs : List (D × D)) : List (D × D) → FS
  | [], s, h => (match letD n kvs h with
    | some h' => .nx s h'
    | none => .bad)
  | p :: r, s, h => if h[n]? = some (.dct true kvs) then (match g p.1 s h with
    | some s' => afterD n kvs (b s' h) (loopD g b n kvs r)
    | none => .bad) else .bad
section
variable {K : PySem.W.Frag} {G G' : GG} {H H' : Hp} {ms ms' : List Addr} {h h' : Hs}
/-- what was kept aside is no longer watched -/
theorem Hh.drop (hh : Hh K G' ms' h' H') {a : Addr} {o : HO} (F : Hp) (f : G'.2 = upd F a o) (hF : F a = none) : Hh K (G'.1, F) ms' h' H' := by
  have hn : ∀ b u, F b = some u → G'.2 b = some u := fun b u e => by
    have : b ≠ a := fun z => by rw [z, hF] at e; cases e
    rw [f, upd_ne this]; exact e
  exact ⟨hh.sub, hh.gsz, fun b u e => hh.frm b u (hn b u e), fun b u e => hh.frd b u (hn b u e), hh.len, hh.nd, hh.dis, fun m b u e1 e2 => ObjIs.mono' (G := G') (q := hh.obj m b u e1 e2) (e := Same.refl G'.1) (p := pre_refl _) (hh := rfl)⟩
end
section
variable {X : Cx} {W : WX} {pin : List Pn} {pos : Pos} {vs : List Nat}
theorem Sl.mono2 {K : PySem.W.Frag} {G G' : GG} {ms ms' : List Addr} {s : Ss} {σ : L2.St} (x : Sl K G ms pin s σ) (e : Same G.1 G'.1) (p : ms <+: ms') : Sl K G' ms' pin s σ := x.mono' e p
open Classical in
noncomputable def compD (g : Tg) (tt : FT) (te : FE) (s : Ss) (n : Nat) (kvs : List (D × D)) (k : List D → Hs → R D) : List (D × D) → List D → Hs → R D
  | [], acc, h => (match letD n kvs h with
    | some h' => k acc h'
    | none => .bad)
  | p :: r, acc, h => if h[n]? = some (.dct true kvs) ∧ acc.length < sizeLine then stepC g tt te s p.1 h (fun h3 => compD g tt te s n kvs k r acc h3) fun y h4 => compD g tt te s n kvs k r (acc ++ [y]) h4 else .bad
end
end WD
namespace WD
open PySem PySem.Spec PyProof.Rows L2
theorem upd_comm {H : Hp} {a b : Addr} {x y : HO} (h : a ≠ b) : upd (upd H a x) b y = upd (upd H b y) a x := by
  funext c
  unfold upd
  by_cases h1 : c = a
  · by_cases h2 : c = b
    · exact absurd (h1.symm.trans h2) h
    · simp [h1, h]
  · by_cases h2 : c = b
    · simp [h2, Ne.symm h]
    · simp [h1, h2]
section
variable {X : Cx} {W : WX} {pin : List Pn} {K : PySem.W.Frag} {mg : Str → Option Value} {E : XK} {G G' : GG} {H : Hp} {ms ms' : List Addr} {h : Hs} {pos : Pos} {vs : List Nat}
/-- a turn of a comprehension over the list at D, what is kept aside told apart from where it began -/
theorem comp_turn2 {Xb : Cx} (eK : Xb.K = X.K) {g : Tg} {tt : FT} {te : FE} {s : Ss} {σ : L2.St} {d : D} {x : V} {h2 : Hs} {G1 G3 : GG} {F0 : Hp} {ms1 ms2 : List Addr} {H2 : Hp} {Dd : Addr} {acc : List D} {ws : List V} {Q : VK} {no : Hs → R D} {yes : D → Hs → R D} {Nx : Hp → Prop}
    (hh : Hh X.K G3 ms2 h2 H2) (sl : Sl X.K G3 ms2 [] (wipeS s vs) (L2.wipe σ vs)) (i : Is X.K G3 ms2 d x) (e1 : Same G1.1 G3.1) (p1 : ms1 <+: ms2) (ef : G3.2 = upd F0 Dd (.lst ws)) (ia : IsL X.K G3 ms2 acc ws) (hz : acc.length < sizeLine)
    (q : Post X.K mg E G1 ms1 (Is X.K) (stepC g tt te (wipeS s vs) d h2 no yes) Q)
    (hno : ∀ h5 G5 ms5 H5, Hh X.K G5 ms5 h5 H5 → Same G1.1 G5.1 → ms1 <+: ms5 → G5.2 = upd F0 Dd (.lst ws) → IsL X.K G5 ms5 acc ws → Post X.K mg E G1 ms1 (Is X.K) (no h5) Q → Nx H5)
    (hyes : ∀ y v h5 G5 ms5 H5, Hh X.K G5 ms5 h5 H5 → Same G1.1 G5.1 → ms1 <+: ms5 → G5.2 = upd F0 Dd (.lst (ws ++ [v])) → IsL X.K G5 ms5 (acc ++ [y]) (ws ++ [v]) → Post X.K mg E G1 ms1 (Is X.K) (yes y h5) Q → Nx H5) :
    rdG Xb [] vs g x (L2.wipe σ vs) H2 fun σ2 H2 => L2.wipe σ2 vs = L2.wipe σ vs ∧ rdT Xb W0 [] tt σ2 H2 fun b H3 =>
      if b = true then rdE Xb W0 [] te σ2 H3 fun y H4 => ∃ acc, H4 Dd = some (.lst acc) ∧ acc.length < sizeLine ∧ Nx (upd H4 Dd (.lst (acc ++ [y]))) else Nx H3 := by
  unfold stepC at q
  refine ⟨G3, ms2, wipeS s vs, h2, d, by rw [eK]; exact hh, by rw [eK]; exact sl, by rw [eK]; exact i, ?_⟩
  cases eg : g d (wipeS s vs) h2 with
  | none => rw [eg] at q; exact q.elim
  | some s2 =>
    rw [eg] at q
    dsimp only at q
    intro σ2 b2 sl2
    refine ⟨wipe_but b2, G3, ms2, s2, h2, by rw [eK]; exact hh, sl2, ?_⟩
    cases et : tt s2 h2 with
    | bad => rw [et] at q; exact q.elim
    | err z h3 => rw [et] at q; exact q.elim
    | ok b h3 =>
      rw [et] at q
      dsimp only [quiet, R.bind] at q
      intro b' H3 G4 ms4 e4 p4 hh4 eb
      subst eb
      rw [eK] at hh4 sl2
      cases b with
      | false => exact hno h3 G4 ms4 H3 hh4 (e1.trans e4.le) (pre_trans p1 p4) (e4.fr.trans ef) (IsL.mono e4 p4 _ _ ia) q
      | true =>
        rw [if_pos rfl] at q ⊢
        refine ⟨G4, ms4, s2, h3, by rw [eK]; exact hh4, by rw [eK]; exact sl2.mono e4 p4, ?_⟩
        cases ee : te s2 h3 with
        | bad => rw [ee] at q; exact q.elim
        | err z h4 => rw [ee] at q; exact q.elim
        | ok y h4 =>
          rw [ee] at q
          dsimp only [quiet, R.bind] at q
          intro v H4 G5 ms5 e5 p5 hh5 iy
          rw [eK] at hh5 iy
          have ef5 : G5.2 = upd F0 Dd (.lst ws) := (e5.fr.trans e4.fr).trans ef
          have hD : G5.2 Dd = some (.lst ws) := by rw [ef5, upd_same]
          refine ⟨ws, hh5.frm _ _ hD, by rw [← ia.length]; exact hz, ?_⟩
          have ia5 := IsL.mono (e4.trans e5) (pre_trans p4 p5) _ _ ia
          refine hyes y v h4 (fupd G5 Dd (.lst (ws ++ [v]))) ms5 _ (hh5.reframe hD (fun _ _ z => nomatch z)) ((e1.trans e4.le).trans e5.le) (pre_trans p1 (pre_trans p4 p5)) ?_ ?_ q
          · show upd G5.2 Dd _ = _
            rw [ef5, upd_upd]
          · exact IsL.mono' (G := G5) (G' := fupd G5 Dd (.lst (ws ++ [v]))) (Same.refl G5.1) (pre_refl _) _ _ (ia5.append (.one iy))
end
end WD
namespace RT
open PySem PySem.W PySem.Spec
section
variable {prog : Program} {w : World} {A : Around} {E : Value → Shared → Prop} {s : Shared}
end
end RT
namespace WD
open PySem PySem.Spec PyProof.Rows L2
section
variable {X : Cx} {W : WX} {pin : List Pn} {K : PySem.W.Frag} {G : GG} {H : Hp} {ms : List Addr} {h : Hs} {pos : Pos}
theorem IsKV.keys : ∀ {kvs : List (D × D)} {xs : List (NestedKey × Addr × V)}, IsKV K G ms kvs xs → IsL K G ms (kvs.map (·.1)) (xs.map fun q => V.ref q.2.1)
  | [], _, h => by cases h; rfl
  | q :: r, xs, h => by
    obtain ⟨k, a, v, s, rfl, h1, h2, h3, h4, h5⟩ := h
    exact ⟨.ref a, _, rfl, h3, IsKV.keys h5⟩
end
end WD
namespace WD
open PySem PySem.Spec PyProof.Rows L2
section
variable {X : Cx} {W : WX} {pin : List Pn} {G : GG} {H : Hp} {ms : List Addr} {h : Hs} {pos : Pos} {pins : List (Addr × Obj)} {σ : L2.St} {s : Shared}
abbrev PT (hp : Heap) (t : Addr) (r : NestedKey × Addr × Value) : Prop := PairAt hp t (.ref r.2.1) r.2.2
end
end WD
namespace WD
open PySem PySem.Spec PyProof.Rows L2
section
variable {X : Cx} {W : WX} {pin : List Pn} {pos : Pos}
end
end WD
namespace SrtN
open PySem PySem.W PySem.Spec PyProof.Rows PySem.Calls
section
variable {prog : Program} {w : World} {A : Around} {E : Value → Shared → Prop} {s : Shared}
end
end SrtN
namespace WD
open PySem PySem.Spec PyProof.Rows L2
def toI : Nat → D → Option PyData
  | 0, d => match d with
    | .int i => some (.int i)
    | _ => none
  | n + 1, d => match d with
    | .int i => some (.int i)
    | .tup xs => (xs.mapM (toI n)).map PyData.tuple
    | _ => none
mutual
def ofP : PyData → D
  | .int i => .int i
  | .tuple xs => .tup (ofPs xs)
  | _ => .non
def ofPs : List PyData → List D
  | [] => []
  | p :: ps => ofP p :: ofPs ps
end
/-- such can be sorted: tuples, none of them empty, that can be told apart -/
def SortOk (ps : List PyData) : Prop := (∀ p ∈ ps, ∃ x r, p = .tuple (x :: r)) ∧ PySem.W.AllAlike ps
section
variable {X : Cx} {W : WX} {K : PySem.W.Frag} {mg : Str → Option Value} {G : GG} {H : Hp} {ms : List Addr} {h : Hs} {s : Shared} {pins : List (Addr × Obj)} {σ : L2.St}
open Classical in
noncomputable def sortPs (m : Bool) (h : Hs) (xs : List D) : R D := match xs.mapM (toI 60) with
  | some ps => if SortOk ps then newL m ((ps.mergeSort (PySem.W.dataLe false id)).map ofP) h else .bad
  | none => .bad
end
end WD
namespace WD
open PySem PySem.Spec PyProof.Rows L2
section
variable {X : Cx} {W : WX} {pin : List Pn} {pos p2 : Pos} {K : PySem.W.Frag} {G : GG} {ms : List Addr}
end
end WD
namespace WD
open PySem PySem.Spec PyProof.Rows L2
def eOrV (fa fb : FE) : FE := fun s h => (fa s h).bind fun d h1 => match lstOf h1 d with
  | some xs => if xs.isEmpty = true then fb s h1 else .ok d h1
  | none => .bad
section
variable {X : Cx} {W : WX} {pin : List Pn} {pos : Pos} {a b : Expr} {rest : List Expr}
end
@[simp] theorem x_orV {fa fb : FE} {s : Ss} {h : Hs} : eOrV fa fb s h = (fa s h).bind fun d h1 => match lstOf h1 d with
  | some xs => if xs.isEmpty = true then fb s h1 else .ok d h1
  | none => .bad := (rfl)
end WD
namespace WD
open PySem PySem.Spec PyProof.Rows L2
section
variable {X : Cx} {W : WX} {pin : List Pn} {K : PySem.W.Frag} {G : GG} {H : Hp} {ms : List Addr} {h : Hs} {pos : Pos}
end
end WD
namespace WD
open PySem PySem.Spec PyProof.Rows L2
def sThru (fb : FS) : FS := fun s h => match fb s h with
  | .er _ _ _ => .bad
  | r => r
section
variable {X : Cx} {W W' : WX} {pin : List Pn} {pos : Pos}
end
@[simp] theorem x_thru {fb : FS} {s : Ss} {h : Hs} : sThru fb s h = match fb s h with
  | .er _ _ _ => .bad
  | r => r := (rfl)
end WD
namespace WD
open PySem PySem.Spec PyProof.Rows L2
def getI (kvs : List (Int × Int)) (k : Int) : Option Int := (kvs.find? fun p => decide (p.1 = k)).map (·.2)
def putI (kvs : List (Int × Int)) (k v : Int) : List (Int × Int) := if (getI kvs k).isSome = true then kvs.map (fun p => if p.1 = k then (p.1, v) else p) else kvs ++ [(k, v)]
theorem ivK_val (k : Int) : ∀ kvs : List (Int × Int), valV (ivK kvs) (Sum.inl k) = (getI kvs k).map V.int
  | [] => rfl
  | p :: r => by
    have ih := ivK_val k r
    by_cases e : p.1 = k
    · rw [show ivK (p :: r) = (Sum.inl p.1, V.int p.2) :: ivK r from rfl, valV_pos (by rw [e])]
      simp [getI, e]
    · rw [show ivK (p :: r) = (Sum.inl p.1, V.int p.2) :: ivK r from rfl, valV_neg (fun z => e (by cases z; rfl)), ih]
      simp [getI, e]
theorem ivK_put (k v : Int) (kvs : List (Int × Int)) : putK (ivK kvs) (Sum.inl k) (V.int v) = ivK (putI kvs k v) := by
  unfold putK putI
  rw [valV_any, ivK_val, Option.isSome_map]
  split
  · simp only [ivK, List.map_map]
    refine List.map_congr_left fun p _ => ?_
    by_cases e : p.1 = k
    · simp [e]
    · have : ¬ ((Sum.inl p.1 : Key) = Sum.inl k) := fun z => e (by cases z; rfl)
      simp [e, this]
  · simp [ivK]
def dciG (h : Hs) : D → Option (List (Int × Int))
  | .loc n => (match h[n]? with
    | some (.dci _ kvs) => some kvs
    | _ => none)
  | _ => none
theorem dciG_some {h : Hs} {d : D} {kvs : List (Int × Int)} (e : dciG h d = some kvs) : ∃ n fz, d = .loc n ∧ h[n]? = some (.dci fz kvs) := by
  unfold dciG at e
  split at e
  · rename_i n
    split at e
    · rename_i fz kvs' q; cases e; exact ⟨n, fz, rfl, q⟩
    · cases e
  · cases e
def dciF (h : Hs) (n : Nat) : Option (List (Int × Int)) := match h[n]? with
  | some (.dci false kvs) => some kvs
  | _ => none
theorem dciF_some {h : Hs} {n : Nat} {kvs : List (Int × Int)} (e : dciF h n = some kvs) : h[n]? = some (.dci false kvs) := by
  unfold dciF at e
  split at e
  · rename_i q; cases e; exact q
  · cases e
section
variable {X : Cx} {W : WX} {pin : List Pn} {K : PySem.W.Frag} {mg : Str → Option Value} {E : XK} {G G' : GG} {H H' : Hp} {ms ms' : List Addr} {h h' : Hs} {pos : Pos} {pins : List (Addr × Obj)} {σ : L2.St} {s : Shared} {vs : List Nat}
theorem dci_open (hh : Hh K G ms h H) {n : Nat} {fz : Bool} {kvs : List (Int × Int)} (e : h[n]? = some (.dci fz kvs)) : ∃ a, ms[n]? = some a ∧ (if fz = true then ∃ od, H a = some (.frz od (.dK (ivK kvs))) else H a = some (.dK (ivK kvs))) ∧ Rd H a (.dK (ivK kvs)) := by
  have hl : n < h.length := lt_of_get e
  have hm : n < ms.length := by rw [hh.len]; exact hl
  have q : ObjIs K G ms H ms[n] (.dci fz kvs) := hh.obj n ms[n] _ (List.getElem?_eq_getElem hm) e
  refine ⟨ms[n], List.getElem?_eq_getElem hm, q, ?_⟩
  cases fz with
  | true => obtain ⟨od, q⟩ := q; exact .inr ⟨od, q⟩
  | false => exact .inl q
def eIGet (fd fk : FE) : FE := fun s h => (fd s h).bind fun d h1 => (fk s h1).bind fun k h2 => match dciG h2 d, k with
  | some kvs, .int i => (match getI kvs i with
    | some v => .ok (.int v) h2
    | none => .bad)
  | _, _ => .bad
theorem ve_iget {o i : Expr} {fd fk : FE} (hu : X.A.units + 65 < cLine) (ho : VE X W pin o fd) (hi : VE X W pin i fk) (hs : NoSl i := by intro _ _; rfl) : VE X W pin (.Subscript o i pos) (eIGet fd fk) := by
  refine pe_imp (pe_dget (by omega) ho hi hs) fun σ H Q ⟨G, ms, s, h, hh, sl, q⟩ => ⟨G, ms, s, h, hh, sl, Post.bind q fun d h1 v H1 G1 ms1 e1 p1 hh1 i1 q1 => ?_⟩
  refine ⟨G1, ms1, s, h1, hh1, sl.mono e1 p1, Post.bind q1 fun k h2 y H2 G2 ms2 e2 p2 hh2 i2 q2 => ?_⟩
  split at q2
  · rename_i kvs i z1
    cases z3 : getI kvs i with
    | none => rw [z3] at q2; exact q2.elim
    | some w =>
      rw [z3] at q2
      obtain ⟨n, fz, rfl, en⟩ := dciG_some z1
      obtain ⟨a, ea, _, er⟩ := dci_open hh2 en
      obtain ⟨a', ea', rfl⟩ := Is.mono e2 p2 _ _ i1
      rw [ea] at ea'; cases ea'
      obtain rfl : y = V.int i := i2
      exact ⟨a, .int w, rfl, .inl ⟨_, Sum.inl i, er, rfl, by rw [ivK_val, z3]; rfl⟩, q2.fin hh2 rfl⟩
  · exact q2.elim
def inKI (n : Bool) : D → D → Hs → R D := fun k d h => match dciG h d, k with
  | some kvs, .int i => .ok (.bl (if n = true then !(getI kvs i).isSome else (getI kvs i).isSome)) h
  | _, _ => .bad
theorem od_inI (hu : X.A.units + 65 < cLine) : OpD X (compareOp .In) (inKI false) := by
  intro pins s σ H x y v u Q I rx ry ⟨G, ms, h, da, db, hh, ia, ib, q⟩
  unfold inKI at q
  split at q
  · rename_i kvs i z1
    obtain ⟨n, fz, rfl, en⟩ := dciG_some z1
    obtain ⟨a, ea, _, er⟩ := dci_open hh en
    obtain ⟨a', ea', rfl⟩ := ib
    rw [ea] at ea'; cases ea'
    obtain rfl : u = Value.ref a := ry
    obtain rfl : x = V.int i := ia
    refine d_in (o := (getI kvs i).map V.int) (by omega) I (.inl ⟨_, Sum.inl i, er, rfl, (ivK_val i kvs).symm⟩) rx fun s' I' => ⟨.bl (getI kvs i).isSome, H, I', ?_, q.fin hh rfl⟩
    rw [Option.isSome_map]; rfl
  · exact q.elim
def sIPut (fd fk fv : FE) : FS := fun s h => RS.ofR s (fv s h) fun v h1 => RS.ofR s (fd s h1) fun d h2 => RS.ofR s (fk s h2) fun k h3 => match d, k, v with
  | .loc n, .int i, .int w => (match dciF h3 n with
    | some kvs => if kvs.length < sizeLine then .nx s (h3.set n (.dci false (putI kvs i w))) else .bad
    | none => .bad)
  | _, _, _ => .bad
theorem vs_iput {o i value : Expr} {pos' : Pos} {fd fk fv : FE} (hu : X.A.units + 65 < cLine) (hv : VE X W pin value fv) (ho : VE X W pin o fd) (hi : VE X W pin i fk) (hs : swapsWith value (some (.Subscript o i pos')) pos.line X.env = pure false := by rfl) :
    VS X W pin (.Assign [.Subscript o i pos'] value pos) (sIPut fd fk fv) := by
  refine ps_imp (ps_dput (by omega) ho hi hv hs) fun D σ H ⟨G, ms, s, h, hh, sl, q⟩ => ⟨G, ms, s, h, hh, sl, PostS.ofR sl q fun dv h1 v H1 G1 ms1 e1 p1 hh1 i1 q1 => ?_⟩
  refine ⟨G1, ms1, s, h1, hh1, sl.mono e1 p1, PostS.ofR (sl.mono e1 p1) q1 fun od h2 ov H2 G2 ms2 e2 p2 hh2 i2 q2 => ?_⟩
  refine ⟨G2, ms2, s, h2, hh2, (sl.mono e1 p1).mono e2 p2, PostS.ofR ((sl.mono e1 p1).mono e2 p2) q2 fun kd h3 kv H3 G3 ms3 e3 p3 hh3 i3 q3 => ?_⟩
  split at q3
  · rename_i n i w
    cases z1 : dciF h3 n with
    | none => rw [z1] at q3; exact q3.elim
    | some kvs =>
      rw [z1] at q3
      dsimp only at q3
      split at q3
      · rename_i hl
        obtain ⟨a, ea, eH, _⟩ := dci_open hh3 (dciF_some z1)
        have eH : H3 a = some (.dK (ivK kvs)) := eH
        obtain ⟨a', ea', rfl⟩ := Is.mono e3 p3 _ _ i2
        rw [ea] at ea'; cases ea'
        obtain rfl : kv = V.int i := i3
        obtain rfl : v = V.int w := Is.mono (e2.trans e3) (pre_trans p2 p3) _ _ i1
        have hput : ObjIs X.K G3 ms3 (upd H3 a (.dK (ivK (putI kvs i w)))) a (.dci false (putI kvs i w)) := upd_same
        have hnf : ∀ od u, H3 a ≠ some (.frz od u) := fun od u z => by rw [eH] at z; cases z
        refine ⟨a, _, rfl, .inl ⟨ivK kvs, Sum.inl i, eH, rfl, by rw [ivK, List.length_map]; exact hl, rfl⟩, ?_⟩
        rw [ivK_put]
        exact q3 σ _ G3 ms3 (GLe.refl _) (pre_refl _) (hh3.writeO ea hnf hput) (((sl.mono e1 p1).mono e2 p2).mono e3 p3)
      · exact q3.elim
  · exact q3.elim
def eINew : FE := fun _ h => .ok (.loc h.length) (h ++ [.dci false []])
def eIOne (fk fv : FE) : FE := fun s h => (quiet (fk s h)).bind fun k h1 => (quiet (fv s h1)).bind fun v h2 => match k, v with
  | .int i, .int w => .ok (.loc h2.length) (h2 ++ [.dci false [(i, w)]])
  | _, _ => .bad
theorem ve_ione {ke e : Expr} {fk fv : FE} (hk : VE X W pin ke fk) (hv : VE X W pin e fv) : VE X W pin (.Dict [some ke] [e] pos) (eIOne fk fv) := by
  refine pe_imp (pe_disp (pps_cons hk hv pps_nil) rfl rfl (by simp) (by simp)) fun σ H Q ⟨G, ms, s0, h, hh, sl, q⟩ => fun p hp => ?_
  have hF := hh.fnone hp
  have hh0 : Hh X.K (fupd G p (.dK [])) ms h (upd H p (.dK [])) := hh.frame hp
  have sl0 : Sl X.K (fupd G p (.dK [])) ms pin s0 σ := sl.mono' (G' := fupd G p (.dK [])) (Same.refl _) (pre_refl _)
  unfold eIOne at q
  cases ek : fk s0 h with
  | bad => rw [ek] at q; exact q.elim
  | err z h1 => rw [ek] at q; exact q.elim
  | ok k h1 =>
    rw [ek] at q
    dsimp only [quiet, R.bind] at q
    cases ev : fv s0 h1 with
    | bad => rw [ev] at q; exact q.elim
    | err z h2 => rw [ev] at q; exact q.elim
    | ok v h2 =>
      rw [ev] at q
      dsimp only [quiet, R.bind] at q
      split at q
      · rename_i i w
        refine ⟨_, ms, s0, h, hh0, sl0, ?_⟩
        rw [ek]
        intro y H1 G1 ms1 e1 p1 hh1 i1
        refine ⟨G1, ms1, s0, h1, hh1, sl0.mono e1 p1, ?_⟩
        rw [ev]
        intro z H2 G2 ms2 e2 p2 hh2 i2
        obtain rfl : y = V.int i := i1
        obtain rfl : z = V.int w := i2
        have f2 : G2.2 = upd G.2 p (.dK []) := e2.fr.trans e1.fr
        have hD : G2.2 p = some (.dK []) := by rw [f2, upd_same]
        have hH2 : H2 p = some (.dK []) := hh2.frm _ _ hD
        refine ⟨hH2, [(Sum.inl i, V.int w)], rfl, by simp, ?_⟩
        have em : mergeK [] [((Sum.inl i : Key), V.int w)] = ivK [(i, w)] := rfl
        rw [em]
        have hh3 := hh2.reframe (o' := .dK (ivK [(i, w)])) hD (fun od u z => nomatch z)
        have pp : ms2 <+: ms2 ++ [p] := ⟨_, rfl⟩
        have ho : ObjIs X.K (G2.1, G.2) (ms2 ++ [p]) (upd H2 p (.dK (ivK [(i, w)]))) p (.dci false [(i, w)]) := upd_same
        have hh4 : Hh X.K (G2.1, G.2) (ms2 ++ [p]) (h2 ++ [.dci false [(i, w)]]) (upd H2 p (.dK (ivK [(i, w)]))) := by
          refine hh3.adoptO (p := p) (ho := .dK (ivK [(i, w)])) (F := G.2) ?_ (fun a u e => ?_) ho (fun od u z => nomatch z)
          · exact upd_same
          · have hne : a ≠ p := fun w => by rw [w, hF] at e; cases e
            refine ⟨hne, ?_⟩
            show upd G2.2 p _ a = _
            rw [upd_ne hne, f2, upd_ne hne]; exact e
        exact q (.ref p) _ (G2.1, G.2) (ms2 ++ [p]) ⟨e1.le.trans e2.le, rfl⟩ (pre_trans (pre_trans p1 p2) pp) hh4 ⟨p, by rw [← hh2.len]; simp, rfl⟩
      · exact q.elim
/-- locked while it is walked -/
theorem Hh.lockI (hh : Hh K G ms h H) {n : Nat} {a : Addr} {kvs : List (Int × Int)} (od : Obj) (ea : ms[n]? = some a) (eH : H a = some (.dK (ivK kvs))) :
    Hh K (fupd G a (.frz od (.dK (ivK kvs)))) ms (h.set n (.dci true kvs)) (upd H a (.frz od (.dK (ivK kvs)))) := by
  have hnf : ∀ od u, H a ≠ some (.frz od u) := fun od u z => by rw [eH] at z; cases z
  have ho : ObjIs K G ms (upd H a (.frz od (.dK (ivK kvs)))) a (.dci true kvs) := ⟨od, upd_same⟩
  have h1 : Hh K G ms (h.set n (.dci true kvs)) (upd H a (.frz od (.dK (ivK kvs)))) := hh.writeO ea hnf ho
  have g0 := hh.dis a (List.mem_of_getElem? ea)
  refine ⟨h1.sub, h1.gsz, fun b u e => ?_, fun b u e => ?_, h1.len, h1.nd, h1.dis, fun m b u e1 e2 => ObjIs.mono' (G := G) (q := h1.obj m b u e1 e2) (e := Same.refl G.1) (p := pre_refl _) (hh := rfl)⟩
  · by_cases hz : b = a
    · subst hz
      have e : upd G.2 b _ b = some u := e
      rw [upd_same] at e ⊢; exact e
    · have e : upd G.2 a _ b = some u := e
      rw [upd_ne hz] at e; exact h1.frm b u e
  · by_cases hz : b = a
    · subst hz
      have e : upd G.2 b _ b = some u := e
      rw [upd_same] at e; cases e
      exact ⟨g0, fun _ => ⟨_, _, rfl⟩⟩
    · have e : upd G.2 a _ b = some u := e
      rw [upd_ne hz] at e; exact h1.frd b u e
theorem Hh.freeI (hh : Hh K G' ms' h' H') {n : Nat} {a : Addr} {od : Obj} {kvs : List (Int × Int)} (F : Hp) (f : G'.2 = upd F a (.frz od (.dK (ivK kvs)))) (hF : F a = none) (ea : ms'[n]? = some a) :
    H' a = some (.frz od (.dK (ivK kvs))) ∧ Hh K (G'.1, F) ms' (h'.set n (.dci false kvs)) (upd H' a (.dK (ivK kvs))) := by
  have hD : G'.2 a = some (.frz od (.dK (ivK kvs))) := by rw [f, upd_same]
  have hH := hh.frm _ _ hD
  have hn : ∀ b u, F b = some u → b ≠ a ∧ G'.2 b = some u := fun b u e => by
    have : b ≠ a := fun z => by rw [z, hF] at e; cases e
    exact ⟨this, by rw [f, upd_ne this]; exact e⟩
  have ha := List.mem_of_getElem? ea
  have g0 := hh.dis a ha
  refine ⟨hH, ⟨fun b u e => ?_, hh.gsz, fun b u e => ?_, fun b u e => ?_, by simp [hh.len], hh.nd, hh.dis, fun m b u e1 e2 => ?_⟩⟩
  · rw [upd_ne (fun z => by have e : G'.1 b = some u := e; rw [z, g0] at e; cases e)]; exact hh.sub b u e
  · obtain ⟨z1, z2⟩ := hn b u e
    rw [upd_ne z1]; exact hh.frm b u z2
  · exact hh.frd b u (hn b u e).2
  · by_cases hm : m = n
    · subst hm
      rw [ea] at e1; cases e1
      have hl : m < h'.length := by rw [← hh.len]; exact lt_of_get ea
      rw [List.getElem?_set_self hl] at e2
      cases e2
      exact (upd_same : upd H' a (.dK (ivK kvs)) a = some (.dK (ivK kvs)))
    · rw [List.getElem?_set_ne (Ne.symm hm)] at e2
      have hne : b ≠ a := fun z => hm (nd_ix hh.nd e1 (by rw [z]; exact ea))
      exact ObjIs.mono' (G := G') (q := hh.obj m b u e1 e2) (e := Same.refl G'.1) (p := pre_refl _) (hh := upd_ne hne)
open Classical in
noncomputable def letI' (n : Nat) (kvs : List (Int × Int)) (h : Hs) : Option Hs := if h[n]? = some (.dci true kvs) then some (h.set n (.dci false kvs)) else none
theorem letI_some {n : Nat} {kvs : List (Int × Int)} {h h' : Hs} (e : letI' n kvs h = some h') : h[n]? = some (.dci true kvs) ∧ h' = h.set n (.dci false kvs) := by
  unfold letI' at e
  split at e
  · rename_i q; cases e; exact ⟨q, rfl⟩
  · cases e
open Classical in
noncomputable def compI (g : Tg) (tt : FT) (te : FE) (s : Ss) (n : Nat) (kvs : List (Int × Int)) (k : List D → Hs → R D) : List (Int × Int) → List D → Hs → R D
  | [], acc, h => (match letI' n kvs h with
    | some h' => k acc h'
    | none => .bad)
  | p :: r, acc, h => if h[n]? = some (.dci true kvs) ∧ acc.length < sizeLine then stepC g tt te s (.int p.1) h (fun h3 => compI g tt te s n kvs k r acc h3) fun y h4 => compI g tt te s n kvs k r (acc ++ [y]) h4 else .bad
noncomputable def eCompI (m : Bool) (vs : List Nat) (i : Nat) (g : Tg) (tt : FT) (te : FE) : FE := fun s h => match s[i]? with
  | some (some (.loc n)) => (match dciF h n with
    | some kvs => compI g tt te (wipeS s vs) n kvs (newL m) kvs [] (h.set n (.dci true kvs))
    | none => .bad)
  | _ => .bad
theorem comp_coreI (m : Bool) (i : Nat) {g : Tg} {tt : FT} {te : FE} {pins : List (Addr × Obj)} {σ : L2.St} {H : Hp} {s0 : Shared} {Q : VK} (I : Inv X pins σ H s0) (hq : rdE X W pin (eCompI m vs i g tt te) σ H Q) :
    ∃ a u, H a = some u ∧ Mut (some u) ∧ ∀ od, tLc (iKeys (rdE X W pin (eVar i))) (rdG X [] vs g) (rdT X W0 [] tt) (rdE X W0 [] te) vs σ (upd H a (.frz od u)) fun v H' => H' a = some (.frz od u) ∧ Q v (upd H' a u) := by
  obtain ⟨G, ms, s, h, hh, sl, q⟩ := hq
  unfold eCompI at q
  split at q
  · rename_i n ev
    cases ek : dciF h n with
    | none => rw [ek] at q; exact q.elim
    | some kvs =>
      rw [ek] at q
      dsimp only at q
      have en := dciF_some ek
      obtain ⟨a, ea, eH, _⟩ := dci_open hh en
      have eH : H a = some (.dK (ivK kvs)) := eH
      have hF : G.2 a = none := by
        cases z : G.2 a with
        | none => rfl
        | some u =>
          obtain ⟨od, u', w⟩ := (hh.frd a u z).2 (List.mem_of_getElem? ea)
          have k := hh.frm a u z
          rw [w, eH] at k
          cases k
      have hlen : (ivK kvs).length = kvs.length := by rw [ivK, List.length_map]
      refine ⟨a, .dK (ivK kvs), eH, True.intro, fun od => ?_⟩
      have hh1 := hh.lockI od ea eH
      have sl1 : Sl X.K (fupd G a (.frz od (.dK (ivK kvs)))) ms pin s σ := sl.mono2 (Same.refl _) (pre_refl _)
      refine ⟨_, ms, s, h.set n (.dci true kvs), hh1, sl1, ?_⟩
      have hev : eVar i s (h.set n (.dci true kvs)) = .ok (.loc n) (h.set n (.dci true kvs)) := by unfold eVar; rw [ev]
      rw [hev]
      intro v H1 G1 ms1 e1 p1 hh2 i1
      obtain ⟨a', ea', rfl⟩ := i1
      rw [pre_get p1 ea] at ea'; cases ea'
      have fr1 : G1.2 = upd G.2 a (.frz od (.dK (ivK kvs))) := e1.fr
      have hD1 : G1.2 a = some (.frz od (.dK (ivK kvs))) := by rw [fr1, upd_same]
      have hH1 := hh2.frm _ _ hD1
      refine ⟨a, od, rfl, .inl ⟨ivK kvs, hH1, ?_⟩⟩
      intro Dd hDd
      have haD : a ≠ Dd := fun z => by rw [z, hDd] at hH1; cases hH1
      have hGD : G.2 Dd = none := by
        have := hh2.fnone hDd
        rw [fr1, upd_ne (Ne.symm haD)] at this
        exact this
      have hh3 : Hh X.K (fupd G1 Dd (.lst [])) ms1 (h.set n (.dci true kvs)) (upd H1 Dd (.lst [])) := hh2.frame hDd
      let Pv : Nat → Hp → Prop := fun j H' => ∃ G2 ms2 h2 acc ws, Hh X.K G2 ms2 h2 H' ∧ Same G.1 G2.1 ∧ ms <+: ms2 ∧ G2.2 = upd (upd G.2 a (.frz od (.dK (ivK kvs)))) Dd (.lst ws) ∧ IsL X.K G2 ms2 acc ws ∧ acc.length ≤ sizeLine ∧
        Post X.K X.mg (fun c d H => W c d σ H) G ms (Is X.K) (compI g tt te (wipeS s vs) n kvs (newL m) (kvs.drop j) acc h2) Q
      refine lc_it (Y := fun i H x H' => H' = H ∧ ∃ k v, (ivK kvs)[i]? = some (k, v) ∧ x = kV k) walk_keys Pv ?_ ?_ ?_ ?_
      · exact ⟨_, ms1, _, [], [], hh3, e1.le, p1, by show upd G1.2 Dd _ = _; rw [fr1], rfl, Nat.zero_le _, q⟩
      · rintro j H' hj ⟨G2, ms2, h2, acc, ws, k1, k3, k4, k5, k6, kz, k7⟩
        exact k1.frm _ _ (by rw [k5, upd_ne haD, upd_same])
      · rintro j x' H2 H3 hj ⟨G2, ms2, h2, acc, ws, k1, k3, k4, k5, k6, kz, k7⟩ ⟨rfl, kk, vv, hq, rfl⟩
        have hj' : j < kvs.length := by rw [← hlen]; exact hj
        rw [List.drop_eq_getElem_cons hj'] at k7
        unfold compI at k7
        split at k7
        · rename_i hc
          have ikey : Is X.K G2 ms2 (.int kvs[j].1) (kV kk) := by
            have : (ivK kvs)[j]? = some (Sum.inl kvs[j].1, V.int kvs[j].2) := by simp [ivK, hj']
            rw [this] at hq; cases hq; rfl
          have hs3 : Sl X.K G2 ms2 [] (wipeS s vs) (L2.wipe σ vs) := Sl.wipe (vs := vs) (sl.mono' k3 k4)
          refine comp_turn2 rfl k1 hs3 ikey k3 k4 k5 k6 hc.2 k7 ?_ ?_
          · exact fun h5 G5 ms5 H5 a1 a2 a3 a4 a5 a6 => ⟨G5, ms5, h5, acc, ws, a1, a2, a3, a4, a5, kz, a6⟩
          · exact fun y v h5 G5 ms5 H5 a1 a2 a3 a4 a5 a6 => ⟨G5, ms5, h5, acc ++ [y], ws ++ [v], a1, a2, a3, a4, a5, by rw [List.length_append]; exact hc.2, a6⟩
        · exact k7.elim
      · rintro H2 ⟨G2, ms2, h2, acc, ws, k1, k3, k4, k5, k6, kz, k7⟩
        rw [List.drop_eq_nil_of_le (by rw [hlen]; exact Nat.le_refl _)] at k7
        unfold compI at k7
        cases el : letI' n kvs h2 with
        | none => rw [el] at k7; exact k7.elim
        | some h5 =>
          rw [el] at k7
          dsimp only at k7
          obtain ⟨z1, rfl⟩ := letI_some el
          have k5' : G2.2 = upd (upd G.2 Dd (.lst ws)) a (.frz od (.dK (ivK kvs))) := by rw [k5, upd_comm haD]
          obtain ⟨w1, w2⟩ := k1.freeI (upd G.2 Dd (.lst ws)) k5' (by rw [upd_ne haD]; exact hF) (pre_get k4 ea)
          refine ⟨w1, ?_⟩
          exact comp_end (G2 := (G2.1, upd G.2 Dd (.lst ws))) w2 k3 k4 rfl hGD (IsL.mono' (G := G2) (G' := (G2.1, upd G.2 Dd (.lst ws))) (Same.refl _) (pre_refl _) _ _ k6) kz k7
  · exact q.elim
theorem vs_setCompI (m : Bool) (d i : Nat) {y : Str} {py : Pos} {elt tg : Expr} {x : Str} {px : Pos} {ifs : List Expr} {scope : Scope} {spos : Pos} (own : List (Str × Nat)) {g : Tg} {tt : FT} {te : FE} (hc : X.calm = true) (hN : X.N.Nodup) (hi : VE X W pin (.Name x px) (eVar d)) (ok : BlkOk X.N X.env.scope scope own)
    (hg : ∀ (s : Shared) (H : Hp) (C : Addr) (cl : List (Str × Addr)) (fp : List Addr), VG (X.blk s H scope (compEnvC scope cl C X.env) fp) [] (own.map (·.2)) tg g) (ht : ∀ (s : Shared) (H : Hp) (C : Addr) (cl : List (Str × Addr)) (fp : List Addr), VTs (X.blk s H scope (compEnvC scope cl C X.env) fp) W0 [] ifs tt)
    (he : ∀ (s : Shared) (H : Hp) (C : Addr) (cl : List (Str × Addr)) (fp : List Addr), VE (X.blk s H scope (compEnvC scope cl C X.env) fp) W0 [] elt te)
    (hy : X.N[i]? = some y := by rfl) (hyl : X.env.scope.names.lookup y = some .local := by rfl) (np : NotPin pin i := by first | exact notPin_nil | decide)
    (hsw : swapsWith (.ListComp elt [⟨tg, .Name x px, ifs, 0⟩] scope pos) (some (.Name y py)) spos.line X.env = pure true := by exact sw_true rfl rfl rfl (by decide +kernel)) (hs : ∀ y, foldedSetIterable (.Name x px) X.env y = pure y := by intro _; rfl) :
    VS X W pin (.Assign [.Name y py] (.ListComp elt [⟨tg, .Name x px, ifs, 0⟩] scope pos) spos) (sSet i (eCompI m (own.map (·.2)) d g tt te)) := by
  refine ⟨fun pins s0 σ H D I ⟨G, ms, s, h, hh, sl, q⟩ => ?_⟩
  have q2 : rdE X W pin (eCompI m (own.map (·.2)) d g tt te) σ H (fun v H' => gName i v σ H' D.nx) := ⟨G, ms, s, h, hh, sl, PostS.ofR sl q fun dd h1 v H1 G1 ms1 e1 p1 hh1 i1 q1 => q1 _ H1 G1 ms1 (GLe.refl _) (pre_refl _) hh1 ((sl.mono e1 p1).set i1 np)⟩
  obtain ⟨a, u, h1, h2, h3⟩ := comp_coreI m d I q2
  exact (ps_lock (ps_setLc (g := rdG X [] (own.map (fun (p : Str × Nat) => p.2)) g) (tt := rdT X W0 [] tt) (te := rdE X W0 [] te) hc hN hy hyl hsw (pi_keys hi) ok hg ht he hs)).run pins s0 σ H D I ⟨a, u, h1, h2, h3⟩
end
end WD
namespace WD
open PySem PySem.Spec PyProof.Rows L2
theorem truncOk_app (h t : Hs) : TruncOk h.length h (h ++ t) := fun i o hi e => .inl (by rw [List.getElem?_append_left hi] at e; exact e)
theorem truncOk_refl (h : Hs) : TruncOk h.length h h := fun i o hi e => .inl e
theorem exitT_same {d : D} {h : Hs} (hd : d.und h.length = true) : exitT h d h = .ok d h := by
  unfold exitT; rw [if_pos (truncOk_refl h)]; unfold frz1; rw [if_pos hd]; simp
theorem exitT_app {d : D} {h t : Hs} (hd : d.und h.length = true) : exitT h d (h ++ t) = .ok d h := by
  unfold exitT; rw [if_pos (truncOk_app h t)]; unfold frz1; rw [if_pos hd]; simp
@[simp] theorem exitT_bl {b : Bool} {h : Hs} : exitT h (.bl b) h = .ok (.bl b) h := exitT_same rfl
@[simp] theorem exitT_int {i : Int} {h : Hs} : exitT h (.int i) h = .ok (.int i) h := exitT_same rfl
@[simp] theorem exitT_str {i : Str} {h : Hs} : exitT h (.str i) h = .ok (.str i) h := exitT_same rfl
@[simp] theorem exitT_non {h : Hs} : exitT h .non h = .ok .non h := exitT_same rfl
@[simp] theorem exitX_same {x : Str} {h : Hs} : exitX h ⟨x, none⟩ h = .err ⟨x, none⟩ h := by
  unfold exitX; rw [if_pos ⟨truncOk_refl h, fun f d e => (nomatch e)⟩]; simp
mutual
theorem und_mono {n m : Nat} (hm : n ≤ m) : ∀ d : D, d.und n = true → d.und m = true
  | .non, _ => rfl
  | .bl _, _ => rfl
  | .int _, _ => rfl
  | .str _, _ => rfl
  | .tup xs, h => by simpa [D.und] using undL_mono hm xs (by simpa [D.und] using h)
  | .lst xs, h => by simpa [D.und] using undL_mono hm xs (by simpa [D.und] using h)
  | .scr xs, h => by simpa [D.und] using undL_mono hm xs (by simpa [D.und] using h)
  | .dic _ xs, h => by simpa [D.und] using undL_mono hm xs (by simpa [D.und] using h)
  | .loc k, h => by simp [D.und] at h ⊢; omega
theorem undL_mono {n m : Nat} (hm : n ≤ m) : ∀ xs : List D, undL n xs = true → undL m xs = true
  | [], _ => rfl
  | x :: xs, h => by
    simp only [undL, Bool.and_eq_true] at h ⊢
    exact ⟨und_mono hm x h.1, undL_mono hm xs h.2⟩
end
theorem undL_iff {n : Nat} : ∀ {xs : List D}, undL n xs = true ↔ ∀ x ∈ xs, x.und n = true
  | [] => by simp [undL]
  | x :: xs => by simp [undL, undL_iff (xs := xs)]
@[simp] theorem und_int {n : Nat} {i : Int} : (D.int i).und n = true := (rfl)
@[simp] theorem und_bl {n : Nat} {i : Bool} : (D.bl i).und n = true := (rfl)
@[simp] theorem und_str {n : Nat} {i : Str} : (D.str i).und n = true := (rfl)
@[simp] theorem und_non {n : Nat} : D.non.und n = true := (rfl)
@[simp] theorem und_tup {n : Nat} {xs : List D} : (D.tup xs).und n = undL n xs := by simp [D.und]
@[simp] theorem und_lst {n : Nat} {xs : List D} : (D.lst xs).und n = undL n xs := by simp [D.und]
@[simp] theorem und_loc {n k : Nat} : (D.loc k).und n = decide (k < n) := by simp [D.und]
@[simp] theorem undL_nil {n : Nat} : undL n [] = true := (rfl)
@[simp] theorem undL_cons {n : Nat} {x : D} {xs : List D} : undL n (x :: xs) = (x.und n && undL n xs) := (rfl)
@[simp] theorem undL_append {n : Nat} {xs ys : List D} : undL n (xs ++ ys) = (undL n xs && undL n ys) := by
  induction xs with
  | nil => simp
  | cons x xs ih => simp [ih, Bool.and_assoc]
@[simp] theorem undL_ints {n : Nat} (ns : List Int) : undL n (ns.map D.int) = true := undL_iff.mpr (by simp)
section
variable {s : Ss} {h : Hs} {d : D} {f g fa fb fc : FE} {t u : FT} {a b : FS}
@[simp] theorem x_c : eC d s h = .ok d h := (rfl)
@[simp] theorem x_var {i : Nat} : eVar i s h = match s[i]? with | some (some d) => .ok d h | _ => .bad := (rfl)
@[simp] theorem x_anil : aNil s h = .ok [] h := (rfl)
@[simp] theorem x_acons {r : FA} : aCons f r s h = (f s h).bind fun d h1 => (r s h1).bind fun ds h2 => .ok (d :: ds) h2 := (rfl)
@[simp] theorem x_bin {o : D → D → Hs → R D} : eBin o fa fb s h = (fa s h).bind fun a h1 => (fb s h1).bind fun b h2 => calm2 o a b h2 := (rfl)
@[simp] theorem x_calm2 {o : D → D → Hs → R D} {x y : D} : calm2 o x y h = calm1 (o x y h) := by
  unfold calm2 calm1; rfl
@[simp] theorem x_calm1_ok : calm1 (.ok d h) = .ok d h := (rfl)
@[simp] theorem x_calm1_bad : calm1 .bad = .bad := (rfl)
@[simp] theorem x_quiet_ok {α : Type} {x : α} : quiet (.ok x h) = .ok x h := (rfl)
@[simp] theorem x_b {o : List D → Hs → R D} {r : FA} : eB o r s h = (r s h).bind fun ds h1 => calm1 (o ds h1) := (rfl)
@[simp] theorem x_call {n : Nat} {o : List D → Hs → R D} {r : FA} : eCall n o r s h = (r s h).bind fun ds h1 => if ds.length = n then o ds h1 else .bad := (rfl)
@[simp] theorem x_ml {o : D → List D → Hs → R D} {r : FA} : eML o f r s h = (f s h).bind fun d h1 => match lstOf h1 d with
  | some _ => (r s h1).bind fun ds h2 => calm1 (o d ds h2)
  | none => .bad := (rfl)
@[simp] theorem x_tup {r : FA} : eTup r s h = (r s h).bind fun ds h1 => if ds.length ≤ sizeLine then .ok (.tup ds) h1 else .bad := (rfl)
@[simp] theorem x_lst {m : Bool} {r : FA} : eLst m r s h = (r s h).bind fun ds h1 => if ds.length ≤ sizeLine then newL m ds h1 else .bad := (rfl)
@[simp] theorem x_truth_bl {k : Bool} : truth (.ok (.bl k) h) = .ok k h := (rfl)
@[simp] theorem x_truth_bad : truth .bad = .bad := (rfl)
@[simp] theorem x_truth_err {x : Xn} : truth (.err x h) = .err x h := (rfl)
@[simp] theorem x_tv : tV f s h = truth (f s h) := (rfl)
@[simp] theorem x_tnot : tNotF t s h = (t s h).bind fun b h1 => .ok (!b) h1 := (rfl)
@[simp] theorem x_tand : tAndF t u s h = (t s h).bind fun b h1 => if b = true then u s h1 else .ok false h1 := (rfl)
@[simp] theorem x_tor : tOrF t u s h = (t s h).bind fun b h1 => if b = true then .ok true h1 else u s h1 := (rfl)
@[simp] theorem x_tyes : tYesF s h = .ok true h := (rfl)
@[simp] theorem x_and : eAndF fa fb s h = (truth (fa s h)).bind fun k h1 => if k = true then fb s h1 else .ok (.bl false) h1 := (rfl)
@[simp] theorem x_or : eOrF fa fb s h = (truth (fa s h)).bind fun k h1 => if k = true then .ok (.bl true) h1 else fb s h1 := (rfl)
@[simp] theorem x_not : eNotF fa s h = (truth (fa s h)).bind fun k h1 => .ok (.bl (!k)) h1 := (rfl)
@[simp] theorem x_if : eIfF t fa fb s h = (t s h).bind fun k h1 => if k = true then fa s h1 else fb s h1 := (rfl)
@[simp] theorem x_chain {o o' : D → D → Hs → R D} : eChain o o' fa fb fc s h = (fa s h).bind fun x h1 => (fb s h1).bind fun y h2 => (truth (calm2 o x y h2)).bind fun k h3 => if k = true then (fc s h3).bind fun z h4 => calm2 o' y z h4 else .ok (.bl false) h3 := (rfl)
@[simp] theorem x_neg : negD fa s h = (fa s h).bind fun d h1 => match d with
  | .int i => .ok (.int (-i)) h1
  | _ => .bad := (rfl)
@[simp] theorem x_onone : oNone s h = .ok none h := (rfl)
@[simp] theorem x_osome : oSome f s h = (f s h).bind fun d h1 => match d with
  | .int i => .ok (some i) h1
  | _ => .bad := (rfl)
@[simp] theorem x_sl {m : Bool} {p q : FO} : eSl m f p q s h = (f s h).bind fun d h1 => (p s h1).bind fun lo h2 => (q s h2).bind fun hi h3 => slD m d lo hi h3 := (rfl)
@[simp] theorem x_next : sNext s h = .nx s h := (rfl)
@[simp] theorem x_seq : sSeq a b s h = match a s h with
  | .nx s' h' => b s' h'
  | r => r := (rfl)
@[simp] theorem x_sif : sIf t a b s h = match t s h with
  | .ok k h1 => if k = true then a s h1 else b s h1
  | .err x h1 => .er x s h1
  | .bad => .bad := (rfl)
@[simp] theorem x_set {i : Nat} : sSet i f s h = RS.ofR s (f s h) fun d h1 => .nx (s.set i (some d)) h1 := (rfl)
@[simp] theorem x_ret : sRet f s h = RS.ofR s (f s h) fun d h1 => .rt d h1 := (rfl)
@[simp] theorem x_expr : sExpr f s h = RS.ofR s (f s h) fun _ h1 => .nx s h1 := (rfl)
@[simp] theorem x_raise {n : Str} : sRaise n s h = .er ⟨n, none⟩ s h := (rfl)
@[simp] theorem x_break : sBreak s h = .bk s h := (rfl)
@[simp] theorem x_cont : sCont s h = .ct s h := (rfl)
@[simp] theorem x_item {fo fi fe : FE} : sItem fo fi fe s h = RS.ofR s (fe s h) fun v h1 => RS.ofR s (fo s h1) fun o h2 => RS.ofR s (fi s h2) fun i h3 => match setD o i v h3 with
  | some h4 => .nx s h4
  | none => .bad := (rfl)
@[simp] theorem x_aug {i : Nat} {o : D → D → Hs → R D} : sAug i o f s h = match s[i]? with
  | some (some x) => RS.ofR s (f s h) fun y h1 => RS.ofR s (calm2 o x y h1) fun z h2 => .nx (s.set i (some z)) h2
  | _ => .bad := (rfl)
@[simp] theorem x_un {o : Tg} : sUn o f s h = RS.ofR s (f s h) fun d h1 => match o d s h1 with
  | some s' => .nx s' h1
  | none => .bad := (rfl)
@[simp] theorem x_par {i j : Nat} {r : FA} : sPar i j r s h = match r s h with
  | .ok [x, y] h1 => .nx ((s.set i (some x)).set j (some y)) h1
  | .ok _ _ => .bad
  | .err x h1 => .er x s h1
  | .bad => .bad := (rfl)
@[simp] theorem x_gvar {i : Nat} : gVar i d s h = some (s.set i (some d)) := (rfl)
@[simp] theorem x_after_nx {k : Ss → Hs → RS} : afterT (.nx s h) k = k s h := (rfl)
@[simp] theorem x_after_ct {k : Ss → Hs → RS} : afterT (.ct s h) k = k s h := (rfl)
@[simp] theorem x_after_bk {k : Ss → Hs → RS} : afterT (.bk s h) k = .nx s h := (rfl)
@[simp] theorem x_after_rt {k : Ss → Hs → RS} : afterT (.rt d h) k = .rt d h := (rfl)
@[simp] theorem x_after_er {k : Ss → Hs → RS} {x : Xn} : afterT (.er x s h) k = .er x s h := (rfl)
@[simp] theorem x_newF {xs : List D} : newL false xs h = .ok (.lst xs) h := (rfl)
@[simp] theorem x_newT {xs : List D} : newL true xs h = .ok (.loc h.length) (h ++ [.lst xs]) := (rfl)
@[simp] theorem x_add {i j : Int} : addD (.int i) (.int j) h = .ok (.int (i + j)) h := (rfl)
@[simp] theorem x_sub {i j : Int} : subD (.int i) (.int j) h = .ok (.int (i - j)) h := (rfl)
open Classical in
theorem x_mul {i j : Int} : mulD (.int i) (.int j) h = if smallI i ∨ smallI j then .ok (.int (i * j)) h else .bad := (rfl)
open Classical in
theorem x_fdiv {i j : Int} : fdivD (.int i) (.int j) h = if divOk0 j then .ok (.int (i / j)) h else .bad := (rfl)
theorem x_mod {i j : Int} : modD (.int i) (.int j) h = if 0 < j then .ok (.int (i % j)) h else .bad := (rfl)
open Classical in
theorem x_pow {i j : Int} : powD (.int i) (.int j) h = if powOk i j then .ok (.int (i ^ j.toNat)) h else .bad := (rfl)
@[simp] theorem x_cmp {p : Int → Int → Bool} {i j : Int} : cmpI p (.int i) (.int j) h = .ok (.bl (p i j)) h := (rfl)
@[simp] theorem x_ipadd {i j : Int} : ipAddD (.int i) (.int j) h = .ok (.int (i + j)) h := (rfl)
@[simp] theorem x_ipsub {i j : Int} : ipSubD (.int i) (.int j) h = .ok (.int (i - j)) h := (rfl)
@[simp] theorem x_row_tup {xs : List D} : rowOf h (.tup xs) = some xs := (rfl)
@[simp] theorem x_row_lst {xs : List D} : rowOf h (.lst xs) = some xs := (rfl)
@[simp] theorem x_row_scr {xs : List D} : rowOf h (.scr xs) = some xs := (rfl)
@[simp] theorem x_row_loc {n : Nat} : rowOf h (.loc n) = locAt h n := (rfl)
@[simp] theorem x_lo_lst {xs : List D} : lstOf h (.lst xs) = some xs := (rfl)
@[simp] theorem x_lo_loc {n : Nat} : lstOf h (.loc n) = locAt h n := (rfl)
@[simp] theorem x_lx_lst {xs : List D} : lstX h (.lst xs) = some xs := (rfl)
@[simp] theorem x_lx_loc {n : Nat} : lstX h (.loc n) = locAt h n := (rfl)
@[simp] theorem x_len_tup {xs : List D} : lenD [.tup xs] h = .ok (.int xs.length) h := (rfl)
@[simp] theorem x_len_lst {xs : List D} : lenD [.lst xs] h = .ok (.int xs.length) h := (rfl)
theorem x_len {xs : List D} (e : rowOf h d = some xs) : lenD [d] h = .ok (.int xs.length) h := by
  cases d <;> first | (simp [rowOf, lstOf, lstX] at e; done) | (simp only [lenD]; rw [e])
@[simp] theorem x_max2 {i j : Int} : maxD [.int i, .int j] h = .ok (.int (if j > i then j else i)) h := (rfl)
@[simp] theorem x_min2 {i j : Int} : minD [.int i, .int j] h = .ok (.int (if j < i then j else i)) h := (rfl)
@[simp] theorem x_intb {k : Bool} : intD [.bl k] h = .ok (.int (if k = true then 1 else 0)) h := (rfl)
@[simp] theorem x_inti {k : Int} : intD [.int k] h = .ok (.int k) h := (rfl)
theorem x_tuple {xs : List D} (e : rowOf h d = some xs) : tupleD [d] h = .ok (.tup xs) h := by simp only [tupleD]; rw [e]
@[simp] theorem x_tuple_lst {xs : List D} : tupleD [.lst xs] h = .ok (.tup xs) h := (rfl)
@[simp] theorem x_tuple_tup {xs : List D} : tupleD [.tup xs] h = .ok (.tup xs) h := (rfl)
@[simp] theorem x_list_tup {m : Bool} {xs : List D} : listD m [.tup xs] h = newL m xs h := (rfl)
@[simp] theorem x_list_scr {m : Bool} {xs : List D} : listD m [.scr xs] h = newL m xs h := (rfl)
@[simp] theorem x_sum_lst {ns : List Int} : sumD [.lst (ns.map D.int)] h = .ok (.int ns.sum) h := by simp [sumD]
@[simp] theorem x_sum_tup {ns : List Int} : sumD [.tup (ns.map D.int)] h = .ok (.int ns.sum) h := by simp [sumD]
@[simp] theorem x_exit_keep {h' : Hs} : exitF .keep h d h' = .ok d h' := (rfl)
@[simp] theorem x_exit_trunc {h' : Hs} : exitF .trunc h d h' = exitT h d h' := (rfl)
end
/-- the items that a walk takes, where nothing changes -/
def itemsOf (h : Hs) : It0 → Option (List D)
  | .seq ds => some ds
  | .rng lo n => if n ≤ sizeLine then some (rgL lo n) else none
  | .loc n => locAt h n
/-- the walk over a row -/
theorem iRow_ok {f : FE} {s : Ss} {h h1 : Hs} {d : D} {xs : List D} (e : f s h = .ok d h1) (hr : rowOf h1 d = some xs) : ∃ it, iRow f s h = .ok it h1 ∧ itemsOf h1 it = some xs := by
  unfold iRow
  rw [e]
  cases d with
  | tup ys => cases hr; exact ⟨_, rfl, rfl⟩
  | lst ys => cases hr; exact ⟨_, rfl, rfl⟩
  | scr ys => cases hr; exact ⟨_, rfl, rfl⟩
  | loc n =>
    have hr : locAt h1 n = some xs := hr
    have hl : n < h1.length := by
      have := locAt_some hr
      exact lt_of_get this
    exact ⟨.loc n, by simp [hr], hr⟩
  | _ => cases hr
theorem sFor_rng {fi : FI} {g : Tg} {b : FS} {s : Ss} {h h1 : Hs} {lo : Int} {n : Nat} (e : fi s h = .ok (.rng lo n) h1) : sFor fi g b s h = loopS g b (rgL lo n) s h1 := by unfold sFor; rw [e]
theorem sFor_seq {fi : FI} {g : Tg} {b : FS} {s : Ss} {h h1 : Hs} {ds : List D} (e : fi s h = .ok (.seq ds) h1) : sFor fi g b s h = loopS g b ds s h1 := by unfold sFor; rw [e]
theorem sFor_loc {fi : FI} {g : Tg} {b : FS} {s : Ss} {h h1 : Hs} {n : Nat} {xs : List D} (e : fi s h = .ok (.loc n) h1) (el : locAt h1 n = some xs) : sFor fi g b s h = loopL g b n (xs.length + 1) 0 s h1 := by unfold sFor; rw [e]; simp only [el]
theorem iRng2_ok {f : FA} {s : Ss} {h h1 : Hs} {i j : Int} (e : f s h = .ok [.int i, .int j] h1) (hi : -1000000000 ≤ i ∧ i ≤ 1000000000) (hj : -1000000000 ≤ j ∧ j ≤ 1000000000) : iRng2 f s h = .ok (.rng i (j - i).toNat) h1 := by
  unfold iRng2
  rw [e, R.bind_ok]
  have h1 : r62 i := ⟨Int.le_trans (by decide) hi.1, Int.lt_of_le_of_lt hi.2 (by decide)⟩
  have h2 : r62 j := ⟨Int.le_trans (by decide) hj.1, Int.lt_of_le_of_lt hj.2 (by decide)⟩
  dsimp only
  rw [if_pos ⟨h1, h2⟩]
theorem rgL_ints (lo : Int) (n : Nat) : rgL lo n = ((List.range n).map fun (i : Nat) => lo + (i : Int)).map D.int := by
  unfold rgL; simp
theorem loop_nx {g : Tg} {b : FS} {d : D} {ds : List D} {s s1 s2 : Ss} {h h2 : Hs} (eg : g d s h = some s1) (e : b s1 h = .nx s2 h2) : loopS g b (d :: ds) s h = loopS g b ds s2 h2 := by
  conv => lhs; unfold loopS
  rw [eg]; dsimp only; rw [e]; rfl
theorem loop_rt {g : Tg} {b : FS} {d : D} {ds : List D} {s s1 : Ss} {h h2 : Hs} {v : D} (eg : g d s h = some s1) (e : b s1 h = .rt v h2) : loopS g b (d :: ds) s h = .rt v h2 := by
  conv => lhs; unfold loopS
  rw [eg]; dsimp only; rw [e]; rfl
end WD
namespace WD
open PySem PySem.Spec PyProof.Rows L2
@[simp] theorem toP_int {h : Hs} {n : Nat} {i : Int} : toP h n (.int i) = some (.int i) := by cases n <;> rfl
@[simp] theorem toP_bl {h : Hs} {n : Nat} {i : Bool} : toP h n (.bl i) = some (.bool i) := by cases n <;> rfl
@[simp] theorem toP_non {h : Hs} {n : Nat} : toP h n .non = some .none := by cases n <;> rfl
theorem mapM_some {α β : Type} {f : α → Option β} {g : α → β} : ∀ {xs : List α}, (∀ x ∈ xs, f x = some (g x)) → xs.mapM f = some (xs.map g)
  | [], _ => rfl
  | x :: xs, hx => by
    rw [List.mapM_cons, hx x List.mem_cons_self, mapM_some fun y hy => hx y (List.mem_cons_of_mem _ hy)]
    rfl
theorem toP_tup {h : Hs} {n : Nat} {xs : List D} {ps : List PyData} (e : xs.mapM (toP h n) = some ps) : toP h (n + 1) (.tup xs) = some (.tuple ps) := by
  simp only [toP, e]; rfl
theorem toP_lst {h : Hs} {n : Nat} {d : D} {xs : List D} {ps : List PyData} (hd : lstOf h d = some xs) (e : xs.mapM (toP h n) = some ps) : toP h (n + 1) d = some (.list ps) := by
  cases d <;> first | (simp [lstOf, lstX] at hd; done) | (simp only [toP]; rw [hd]; simp only [e]; rfl)
theorem mapM_ints {h : Hs} {n : Nat} (ns : List Int) : (ns.map D.int).mapM (toP h n) = some (ns.map PyData.int) := by
  rw [mapM_some (g := fun d => match d with | .int i => PyData.int i | _ => .none) (by simp)]
  simp
theorem eqv_ints : ∀ ns ms : List Int, PyData.eqvAll (ns.map PyData.int) (ms.map PyData.int) = decide (ns = ms)
  | [], [] => by simp [PyData.eqvAll]
  | [], _ :: _ => by simp [PyData.eqvAll]
  | _ :: _, [] => by simp [PyData.eqvAll]
  | n :: ns, m :: ms => by
    simp only [List.map_cons, PyData.eqvAll, PyData.eqv, eqv_ints ns ms, List.cons.injEq]
    by_cases h1 : n = m <;> by_cases h2 : ns = ms <;> simp [h1, h2]
@[simp] theorem x_eqI {n : Bool} {h : Hs} {i j : Int} : eqD n (.int i) (.int j) h = .ok (.bl (if n = true then !(i == j) else i == j)) h := by
  simp [eqD, PyData.eqv]
theorem x_eqL {n : Bool} {h : Hs} {d e : D} {ns ms : List Int} (hd : lstOf h d = some (ns.map D.int)) (he : lstOf h e = some (ms.map D.int)) : eqD n d e h = .ok (.bl (if n = true then !decide (ns = ms) else decide (ns = ms))) h := by
  unfold eqD
  rw [toP_lst hd (mapM_ints ns), toP_lst he (mapM_ints ms)]
  simp [PyData.eqv, eqv_ints]
@[simp] theorem locAt_cons0 {xs : List D} {t : Hs} : locAt (.lst xs :: t) 0 = some xs := (rfl)
@[simp] theorem locAt_end {g : Hs} {xs : List D} {t : Hs} : locAt (g ++ (.lst xs :: t)) g.length = some xs := by
  unfold locAt; simp [O.items]
@[simp] theorem set_end {α : Type} {g : List α} {o x : α} {t : List α} : (g ++ (o :: t)).set g.length x = g ++ (x :: t) := by
  rw [List.set_append_right _ _ (Nat.le_refl _)]; simp
theorem atI_in {α : Type} {xs : List α} {i : Int} (h0 : 0 ≤ i) (h1 : i < xs.length) : atI xs i = some (xs[i.toNat]'(by omega)) := by
  have hl : i.toNat < xs.length := by omega
  have := atI_nat (xs := xs) (j := i.toNat) (v := xs[i.toNat]) (List.getElem?_eq_getElem hl)
  rwa [Int.toNat_of_nonneg h0] at this
theorem ixN_in {n : Nat} {i : Int} (h0 : 0 ≤ i) (h1 : i < n) : ixN n i = some i.toNat := by
  unfold ixN; rw [if_pos h0, if_pos h1]
theorem x_ix_row {h : Hs} {d e : D} {xs : List D} {i : Int} (hr : rowOf h d = some xs) (he : atI xs i = some e) : ixD d (.int i) h = .ok e h := by
  cases d <;> first | (simp [rowOf, lstOf, lstX] at hr; done) | (simp only [ixD]; rw [hr]; simp only [he])
end WD
namespace WD
open PySem PySem.Spec PyProof.Rows L2
section
variable {s : Ss} {h : Hs} {d : D} {f : FE} {b : FS} {g : Tg}
@[simp] theorem x_isi {ns : List String} : eIsi ns f s h = (f s h).bind fun d h1 => .ok (.bl (ns.any fun n => isSub (tyD h1 d) n)) h1 := (rfl)
@[simp] theorem x_fa {vs : List Nat} : sFa vs b s h = fgS vs (b s h) := (rfl)
@[simp] theorem x_fb {vs : List Nat} : sFb vs b s h = b (wipeS s vs) h := (rfl)
@[simp] theorem x_fg_nx {vs : List Nat} : fgS vs (.nx s h) = .nx (wipeS s vs) h := (rfl)
@[simp] theorem x_fg_ct {vs : List Nat} : fgS vs (.ct s h) = .ct (wipeS s vs) h := (rfl)
@[simp] theorem x_fg_bk {vs : List Nat} : fgS vs (.bk s h) = .bk (wipeS s vs) h := (rfl)
@[simp] theorem x_fg_rt {vs : List Nat} : fgS vs (.rt d h) = .rt d h := (rfl)
@[simp] theorem x_fg_er {vs : List Nat} {x : Xn} : fgS vs (.er x s h) = .er x s h := (rfl)
@[simp] theorem x_fg_bad {vs : List Nat} : fgS vs .bad = .bad := (rfl)
@[simp] theorem x_after_bad {k : Ss → Hs → RS} : afterT .bad k = .bad := (rfl)
@[simp] theorem x_wipe_nil : wipeS s [] = s := (rfl)
@[simp] theorem x_wipe_cons {v : Nat} {vs : List Nat} : wipeS s (v :: vs) = (wipeS s vs).set v none := (rfl)
@[simp] theorem x_gun {gs : List Tg} : gUn gs d s h = match rowOf h d with
  | some xs => unp gs xs s h
  | none => none := (rfl)
@[simp] theorem x_unp_nil : unp [] [] s h = some s := (rfl)
@[simp] theorem x_unp_cons {gs : List Tg} {ds : List D} : unp (g :: gs) (d :: ds) s h = match g d s h with
  | some s' => unp gs ds s' h
  | none => none := (rfl)
@[simp] theorem x_run {n N : Nat} {md : Md} {ds : List D} : runF n N md b ds h = if ds.length = n then (match b (ds.map some ++ List.replicate (N - n) none) h with
  | .nx _ h' => exitF md h .non h'
  | .rt d h' => exitF md h d h'
  | .er x _ h' => exitX h x h'
  | _ => .bad) else .bad := (rfl)
theorem x_loop_nil : loopS g b [] s h = .nx s h := (rfl)
theorem x_loop_cons {ds : List D} : loopS g b (d :: ds) s h = match g d s h with
  | some s' => afterT (b s' h) (loopS g b ds)
  | none => .bad := (rfl)
end
@[simp] theorem size_val : sizeLine = 16777216 := (rfl)
theorem small_bd {i : Int} (h0 : -18446744073709551616 < i) (h1 : i < 18446744073709551616) : smallI i := ⟨by omega, by omega⟩
theorem divOk {j : Int} (h0 : 0 < j) (h1 : j < 18446744073709551616) : divOk0 j := by
  refine ⟨h0, ?_⟩
  have h2 : j.natAbs ≠ 0 := by omega
  have h3 : j.natAbs < 2 ^ 64 := by omega
  have := (Nat.log2_lt h2).mpr h3
  omega
@[simp] theorem x_fdv {i j : Int} {h : Hs} (h0 : 0 < j) (h1 : j < 18446744073709551616) : fdivD (.int i) (.int j) h = .ok (.int (i / j)) h := by
  rw [x_fdiv, if_pos (divOk h0 h1)]
@[simp] theorem x_pw {i j : Int} {h : Hs} (h0 : 0 ≤ j) (h1 : j ≤ 1000000) (h2 : -18446744073709551616 < i) (h3 : i < 18446744073709551616) : powD (.int i) (.int j) h = .ok (.int (i ^ j.toNat)) h := by
  rw [x_pow, if_pos ⟨h0, h1, by omega⟩]
@[simp] theorem x_md {i j : Int} {h : Hs} (h0 : 0 < j) : modD (.int i) (.int j) h = .ok (.int (i % j)) h := by
  rw [x_mod, if_pos h0]
@[simp] theorem x_mlL {i j : Int} {h : Hs} (h0 : -18446744073709551616 < i) (h1 : i < 18446744073709551616) : mulD (.int i) (.int j) h = .ok (.int (i * j)) h := by
  rw [x_mul, if_pos (.inl (small_bd h0 h1))]
@[simp] theorem x_mlR {i j : Int} {h : Hs} (h0 : -18446744073709551616 < j) (h1 : j < 18446744073709551616) : mulD (.int i) (.int j) h = .ok (.int (i * j)) h := by
  rw [x_mul, if_pos (.inr (small_bd h0 h1))]
def isW (lo hi : Int) : D → Bool
  | .int i => decide (lo ≤ i) && decide (i ≤ hi)
  | _ => false
@[simp] theorem isW_int {lo hi i : Int} : isW lo hi (.int i) = (decide (lo ≤ i) && decide (i ≤ hi)) := (rfl)
def D.isI : D → Bool
  | .int _ => true
  | .bl _ => true
  | _ => false
def D.isB : D → Bool
  | .bl _ => true
  | _ => false
def D.isT : D → Bool
  | .tup _ => true
  | _ => false
def D.isS : D → Bool
  | .str _ => true
  | _ => false
@[simp] theorem isSub_int {h : Hs} {d : D} : isSub (tyD h d) "int" = d.isI := by
  cases d with
  | loc n =>
    simp only [tyD]
    cases h[n]? with
    | none => simp [tyO, isSub, D.isI]
    | some o => cases o with
      | lst xs => simp [tyO, isSub, D.isI]
      | ins c fs => simp [tyO, isSub, D.isI]
      | dct z kvs => simp [tyO, isSub, D.isI]
      | dci z kvs => simp [tyO, isSub, D.isI]
  | _ => simp [tyD, isSub, D.isI]
@[simp] theorem isSub_bool {h : Hs} {d : D} : isSub (tyD h d) "bool" = d.isB := by
  cases d with
  | loc n =>
    simp only [tyD]
    cases h[n]? with
    | none => simp [tyO, isSub, D.isB]
    | some o => cases o with
      | lst xs => simp [tyO, isSub, D.isB]
      | ins c fs => simp [tyO, isSub, D.isB]
      | dct z kvs => simp [tyO, isSub, D.isB]
      | dci z kvs => simp [tyO, isSub, D.isB]
  | _ => simp [tyD, isSub, D.isB]
@[simp] theorem isSub_tuple {h : Hs} {d : D} : isSub (tyD h d) "tuple" = d.isT := by
  cases d with
  | loc n =>
    simp only [tyD]
    cases h[n]? with
    | none => simp [tyO, isSub, D.isT]
    | some o => cases o with
      | lst xs => simp [tyO, isSub, D.isT]
      | ins c fs => simp [tyO, isSub, D.isT]
      | dct z kvs => simp [tyO, isSub, D.isT]
      | dci z kvs => simp [tyO, isSub, D.isT]
  | _ => simp [tyD, isSub, D.isT]
@[simp] theorem isSub_str {h : Hs} {d : D} : isSub (tyD h d) "str" = d.isS := by
  cases d with
  | loc n =>
    simp only [tyD]
    cases h[n]? with
    | none => simp [tyO, isSub, D.isS]
    | some o => cases o with
      | lst xs => simp [tyO, isSub, D.isS]
      | ins c fs => simp [tyO, isSub, D.isS]
      | dct z kvs => simp [tyO, isSub, D.isS]
      | dci z kvs => simp [tyO, isSub, D.isS]
  | _ => simp [tyD, isSub, D.isS]
@[simp] theorem isSub_list {h : Hs} {d : D} : isSub (tyD h d) "list" = (lstOf h d).isSome := by
  cases d with
  | loc n =>
    simp only [tyD, lstOf, lstX, locAt]
    cases h[n]? with
    | none => simp [tyO, isSub]
    | some o => cases o with
      | lst xs => simp [tyO, isSub, O.items]
      | ins c fs => simp [tyO, isSub, O.items]
      | dct z kvs => simp [tyO, isSub, O.items]
      | dci z kvs => simp [tyO, isSub, O.items]
  | _ => simp [tyD, isSub, lstOf, lstX]
@[simp] theorem isRow_or {h : Hs} {d : D} : ((lstOf h d).isSome || d.isT) = (rowOf h d).isSome := by
  cases d with
  | tup xs => simp [rowOf, D.isT]
  | _ => simp [rowOf, D.isT]
@[simp] theorem isI_int {i : Int} : (D.int i).isI = true := (rfl)
@[simp] theorem isB_int {i : Int} : (D.int i).isB = false := (rfl)
@[simp] theorem isI_bl {i : Bool} : (D.bl i).isI = true := (rfl)
@[simp] theorem isB_bl {i : Bool} : (D.bl i).isB = true := (rfl)
@[simp] theorem isT_tup {i : List D} : (D.tup i).isT = true := (rfl)
@[simp] theorem isT_int {i : Int} : (D.int i).isT = false := (rfl)
@[simp] theorem isT_non : D.non.isT = false := (rfl)
@[simp] theorem isI_non : D.non.isI = false := (rfl)
@[simp] theorem isI_tup {i : List D} : (D.tup i).isI = false := (rfl)
@[simp] theorem isT_bl {i : Bool} : (D.bl i).isT = false := (rfl)
@[simp] theorem isT_loc {i : Nat} : (D.loc i).isT = false := (rfl)
@[simp] theorem x_row_int {h : Hs} {i : Int} : rowOf h (.int i) = none := (rfl)
@[simp] theorem x_row_non {h : Hs} : rowOf h .non = none := (rfl)
@[simp] theorem x_row_bl {h : Hs} {i : Bool} : rowOf h (.bl i) = none := (rfl)
@[simp] theorem x_lo_tup {h : Hs} {i : List D} : lstOf h (.tup i) = none := (rfl)
@[simp] theorem x_lo_int {h : Hs} {i : Int} : lstOf h (.int i) = none := (rfl)
def Itr (fi : FI) (s : Ss) (h h1 : Hs) (xs : List D) : Prop := ∃ it, fi s h = .ok it h1 ∧ itemsOf h1 it = some xs
theorem Itr.row {f : FE} {s : Ss} {h h1 : Hs} {d : D} {xs : List D} (e : f s h = .ok d h1) (hr : rowOf h1 d = some xs) : Itr (iRow f) s h h1 xs := iRow_ok e hr
theorem Itr.tup {f : FE} {s : Ss} {h h1 : Hs} {xs : List D} (e : f s h = .ok (.tup xs) h1) : Itr (iRow f) s h h1 xs := ⟨.seq xs, by unfold iRow; rw [e]; rfl, rfl⟩
theorem Itr.lst {f : FE} {s : Ss} {h h1 : Hs} {xs : List D} (e : f s h = .ok (.lst xs) h1) : Itr (iRow f) s h h1 xs := ⟨.seq xs, by unfold iRow; rw [e]; rfl, rfl⟩
theorem Itr.enT {f : FA} {s : Ss} {h h1 : Hs} {xs : List D} (e : f s h = .ok [.tup xs] h1) : Itr (iEnumerate f) s h h1 (enL 0 xs) := ⟨.seq _, by unfold iEnumerate; rw [e]; rfl, rfl⟩
theorem Itr.zpL {f : FA} {s : Ss} {h h1 : Hs} {xs ys : List D} (e : f s h = .ok [.lst xs, .lst ys] h1) : Itr (iZip f) s h h1 (zpL xs ys) := ⟨.seq _, by unfold iZip; rw [e]; rfl, rfl⟩
def rgI (lo : Int) (n : Nat) : List Int := (List.range n).map fun (i : Nat) => lo + (i : Int)
theorem Itr.rng {f : FA} {s : Ss} {h h1 : Hs} {n : Int} (e : f s h = .ok [.int n] h1) (h1 : n ≤ 16777216) (h0 : -1000000000 ≤ n) : Itr (iRng1 f) s h ‹_› ((rgI 0 n.toNat).map D.int) := by
  refine ⟨.rng 0 n.toNat, ?_, ?_⟩
  · unfold iRng1
    rw [e, R.bind_ok]
    exact if_pos ⟨Int.le_trans (by decide) h0, Int.lt_of_le_of_lt h1 (by decide)⟩
  · show (if n.toNat ≤ sizeLine then some (rgL 0 n.toNat) else none) = _
    rw [if_pos (by rw [size_val]; omega), rgL_ints]; rfl
theorem comp_ty {α : Type} {em : α → D} {m : Bool} {vs : List Nat} {fi : FI} {g : Tg} {tt : FT} {te : FE} {s : Ss} {h h1 : Hs} {xs : List α} (p : α → Bool) (F : α → D) (hi : Itr fi s h h1 (xs.map em))
    (hs : ∀ x ∈ xs, ∃ s2, g (em x) (wipeS s vs) h1 = some s2 ∧ tt s2 h1 = .ok (p x) h1 ∧ (p x = true → te s2 h1 = .ok (F x) h1)) : eComp m vs fi g tt te s h = newL m ((xs.filter p).map F) h1 := by
  obtain ⟨it, e1, e2⟩ := hi
  unfold eComp
  rw [e1, R.bind_ok]
  have main : ∀ (ys : List α) (acc : List D), (∀ y ∈ ys, y ∈ xs) → compA g tt te (wipeS s vs) (newL m) (ys.map em) acc h1 = newL m (acc ++ (ys.filter p).map F) h1 := by
    intro ys
    induction ys with
    | nil => intro acc _; simp [compA]
    | cons y ys ih =>
      intro acc hy
      obtain ⟨s2, k1, k2, k3⟩ := hs y (hy y List.mem_cons_self)
      have ih := fun acc => ih acc fun z hz => hy z (List.mem_cons_of_mem _ hz)
      rw [List.map_cons]
      unfold compA stepC
      simp only [k1, k2, x_quiet_ok, R.bind_ok]
      cases hp : p y with
      | true => simp [k3 hp, ih, hp]
      | false => simp [ih, hp]
  have loc : ∀ n, locAt h1 n = some (xs.map em) → ∀ (k i : Nat) (acc : List D), xs.length - i < k → acc.length ≤ i → i ≤ xs.length → compL g tt te (wipeS s vs) n (newL m) k i acc h1 = newL m (acc ++ ((xs.drop i).filter p).map F) h1 := by
    intro n e k
    induction k with
    | zero => intro i acc hm; omega
    | succ k ih =>
      intro i acc hm ha hi
      unfold compL
      rw [e]
      dsimp only
      by_cases hl : i < xs.length
      · have hl2 : (xs.map em)[i]? = some (em xs[i]) := by simp [List.getElem?_eq_getElem hl]
        rw [hl2, List.drop_eq_getElem_cons hl]
        obtain ⟨s2, k1, k2, k3⟩ := hs xs[i] (List.getElem_mem hl)
        dsimp only
        unfold stepC
        simp only [k1, k2, x_quiet_ok, R.bind_ok]
        cases hp : p xs[i] with
        | true =>
          simp only [if_true, k3 hp, x_quiet_ok, R.bind_ok]
          rw [ih (i + 1) _ (by omega) (by simp; omega) hl, List.filter_cons_of_pos hp, List.map_cons]
          simp only [List.append_assoc, List.singleton_append]
        | false =>
          simp only [Bool.false_eq_true, if_false]
          rw [ih (i + 1) _ (by omega) (by omega) hl, List.filter_cons_of_neg (by rw [hp]; decide)]
      · rw [List.getElem?_eq_none (by simp; omega), List.drop_eq_nil_of_le (by omega)]
        simp
  cases it with
  | seq ds =>
    simp only [itemsOf] at e2
    cases e2
    have := main xs [] fun _ h => h
    simpa using this
  | rng lo n =>
    simp only [itemsOf] at e2
    split at e2
    · rename_i hz
      have e3 : rgL lo n = xs.map em := by injection e2
      dsimp only
      rw [if_pos hz, e3]
      have := main xs [] fun _ h => h
      simpa using this
    · cases e2
  | loc n =>
    have el : locAt h1 n = some (xs.map em) := e2
    have := loc n el ((xs.map em).length + 1) 0 [] (by simp) (Nat.le_refl _) (Nat.zero_le _)
    dsimp only
    rw [el]
    simpa using this
@[simp] theorem filt_true {α : Type} (xs : List α) : xs.filter (fun _ => true) = xs := List.filter_eq_self.mpr (by simp)
theorem comp_map {α : Type} {em : α → D} {m : Bool} {vs : List Nat} {fi : FI} {g : Tg} {te : FE} {s : Ss} {h h1 : Hs} {xs : List α} (F : α → D) (hi : Itr fi s h h1 (xs.map em))
    (hs : ∀ x ∈ xs, ∃ s2, g (em x) (wipeS s vs) h1 = some s2 ∧ te s2 h1 = .ok (F x) h1) : eComp m vs fi g tYesF te s h = newL m (xs.map F) h1 := by
  rw [comp_ty (fun _ => true) F hi fun x hx => ?_, filt_true]
  obtain ⟨s2, k1, k2⟩ := hs x hx
  exact ⟨s2, k1, rfl, fun _ => k2⟩
theorem for_lst {f : FE} {g : Tg} {b : FS} {s : Ss} {h h1 : Hs} {xs : List D} (e : f s h = .ok (.lst xs) h1) : sFor (iRow f) g b s h = loopS g b xs s h1 := sFor_seq (by unfold iRow; rw [e]; rfl)
theorem for_rng {f : FA} {g : Tg} {b : FS} {s : Ss} {h h1 : Hs} {n : Int} (e : f s h = .ok [.int n] h1) (h2 : n ≤ 1000000000) (h0 : -1000000000 ≤ n) : sFor (iRng1 f) g b s h = loopS g b ((rgI 0 n.toNat).map D.int) s h1 := by
  have : iRng1 f s h = .ok (.rng 0 n.toNat) h1 := by
    unfold iRng1
    rw [e, R.bind_ok]
    exact if_pos ⟨Int.le_trans (by decide) h0, Int.lt_of_le_of_lt h2 (by decide)⟩
  rw [sFor_rng this, rgL_ints]; rfl
theorem for_rngN {f : FA} {g : Tg} {b : FS} {s : Ss} {h h1 : Hs} {n : Nat} (e : f s h = .ok [.int n] h1) (h2 : n ≤ 1000000000) : sFor (iRng1 f) g b s h = loopS g b ((List.range n).map fun (k : Nat) => .int k) s h1 := by
  rw [for_rng e (by omega) (by omega)]
  simp [rgI, Function.comp_def]
theorem Itr.rngN {f : FA} {s : Ss} {h h1 : Hs} {n : Nat} (e : f s h = .ok [.int n] h1) (h2 : n ≤ 16777216) : Itr (iRng1 f) s h h1 ((List.range n).map fun (k : Nat) => .int k) := by
  have := Itr.rng (n := n) e (by omega) (by omega)
  simpa [rgI, Function.comp_def] using this
theorem for_rng2 {f : FA} {g : Tg} {b : FS} {s : Ss} {h h1 : Hs} {m n : Int} (e : f s h = .ok [.int m, .int n] h1) (h2 : n ≤ 1000000000) (h0 : -1000000000 ≤ n) (h3 : -1000000000 ≤ m) (h4 : m ≤ 1000000000) : sFor (iRng2 f) g b s h = loopS g b ((rgI m (n - m).toNat).map D.int) s h1 := by
  rw [sFor_rng (iRng2_ok e (by omega) (by omega)), rgL_ints]; rfl
theorem for_zpT {f : FA} {g : Tg} {b : FS} {s : Ss} {h h1 : Hs} {xs ys : List D} (e : f s h = .ok [.tup xs, .tup ys] h1) : sFor (iZip f) g b s h = loopS g b (zpL xs ys) s h1 := sFor_seq (by unfold iZip; rw [e]; rfl)
def cutG {α : Type} (xs : List α) (lo hi : Option Int) : List α := (xs.drop (HT.sIx xs.length 0 lo)).take (HT.sIx xs.length xs.length hi - HT.sIx xs.length 0 lo)
theorem cutG_map {α β : Type} (f : α → β) (xs : List α) (lo hi : Option Int) : cutG (xs.map f) lo hi = (cutG xs lo hi).map f := by
  unfold cutG
  simp [List.map_take, List.map_drop]
theorem sIx_pos {n d : Nat} {v : Int} (h : 0 ≤ v) : HT.sIx n d (some v) = min v.toNat n := by
  unfold HT.sIx
  exact if_neg (by omega)
theorem cut_lo {α : Type} {xs : List α} {v : Int} (h : 0 ≤ v) : cutG xs (some v) none = xs.drop v.toNat := by
  unfold cutG
  rw [sIx_pos h, HT.sIx_none]
  by_cases hv : v.toNat ≤ xs.length
  · rw [Nat.min_eq_left hv, List.take_of_length_le (by simp)]
  · rw [List.drop_eq_nil_of_le (by omega), List.drop_eq_nil_of_le (by omega)]; simp
theorem cut_hi {α : Type} {xs : List α} {v : Int} (h : 0 ≤ v) : cutG xs none (some v) = xs.take v.toNat := by
  unfold cutG
  rw [sIx_pos h, HT.sIx_none, List.drop_zero, Nat.sub_zero]
  by_cases hv : v.toNat ≤ xs.length
  · rw [Nat.min_eq_left hv]
  · rw [Nat.min_eq_right (by omega), List.take_of_length_le (Nat.le_refl _), List.take_of_length_le (by omega)]
@[simp] theorem cut_lo0 {α : Type} {xs : List α} : cutG xs (some 0) none = xs := by simp [cut_lo]
@[simp] theorem cut_none {α : Type} {xs : List α} : cutG xs none none = xs := by simp [cutG, HT.sIx_none]
@[simp] theorem cut_lo1 {α : Type} {xs : List α} : cutG xs (some 1) none = xs.drop 1 := cut_lo (by decide)
@[simp] theorem cut_hi1 {α : Type} {xs : List α} : cutG xs none (some 1) = xs.take 1 := cut_hi (by decide)
@[simp] theorem sl_tup {m : Bool} {xs : List D} {lo hi : Option Int} {h : Hs} : slD m (.tup xs) lo hi h = .ok (.tup (cutG xs lo hi)) h := (rfl)
@[simp] theorem sl_lst {m : Bool} {xs : List D} {lo hi : Option Int} {h : Hs} : slD m (.lst xs) lo hi h = newL m (cutG xs lo hi) h := (rfl)
@[simp] theorem add_lst {xs ys : List D} {h : Hs} (hz : xs.length + ys.length ≤ 16777216) : addD (.lst xs) (.lst ys) h = .ok (.lst (xs ++ ys)) h := by
  simp [addD, lstX, hz]
@[simp] theorem add_tup {xs ys : List D} {h : Hs} (hz : xs.length + ys.length ≤ 16777216) : addD (.tup xs) (.tup ys) h = .ok (.tup (xs ++ ys)) h := by
  simp [addD, hz]
@[simp] theorem max_row {ns : List Int} {d : D} {h : Hs} (hr : rowOf h d = some (ns.map D.int)) (h0 : 0 < ns.length) : maxD [d] h = .ok (.int (maxL ns)) h := by
  cases d <;> first | (cases hr; done) | (simp only [maxD]; rw [hr]; simp [h0])
@[simp] theorem min_row {ns : List Int} {d : D} {h : Hs} (hr : rowOf h d = some (ns.map D.int)) (h0 : 0 < ns.length) : minD [d] h = .ok (.int (minL ns)) h := by
  cases d <;> first | (cases hr; done) | (simp only [minD]; rw [hr]; simp [h0])
end WD
namespace WD
open PySem PySem.Spec PyProof.Rows L2
theorem app_at {h : Hs} {n : Nat} {xs : List D} {d : D} (e : locAt h n = some xs) (hz : xs.length < 16777216) : appendD (.loc n) [d] h = .ok .non (h.set n (.lst (xs ++ [d]))) := by
  have hz' : xs.length < sizeLine := by simpa using hz
  simp only [appendD, e, if_pos hz']
theorem app_last {g : Hs} {xs : List D} {d : D} (hz : xs.length < 16777216) : appendD (.loc g.length) [d] (g ++ [.lst xs]) = .ok .non (g ++ [.lst (xs ++ [d])]) := by
  rw [app_at locAt_end hz, set_end]
theorem split_last {α : Type} {l : List α} (h : 0 < l.length) : ∃ ds d, l = ds ++ [d] :=
  ⟨l.dropLast, l.getLast (by intro e; subst e; simp at h), (List.dropLast_concat_getLast _).symm⟩
theorem pop_head {ds : List Int} {d : Int} {t : Hs} : popD (.loc 0) [] (.lst ((ds ++ [d]).map D.int) :: t) = .ok (.int d) (.lst (ds.map D.int) :: t) := by
  simp [popD]
@[simp] theorem pop_head' {ds : List Int} {d : Int} {t : Hs} : popD (.loc 0) [] (.lst (ds.map D.int ++ [D.int d]) :: t) = .ok (.int d) (.lst (ds.map D.int) :: t) := by
  have := pop_head (ds := ds) (d := d) (t := t)
  rwa [List.map_append] at this
@[simp] theorem lstOf_head {xs : List D} {t : Hs} : lstOf (.lst xs :: t) (.loc 0) = some xs := (rfl)
theorem trunc_head {o o' : O} {r t : Hs} (ho : o'.und (r.length + 1) = true) : TruncOk (o :: r).length (o :: r) (o' :: (r ++ t)) := fun i u hi e => by
  cases i with
  | zero => cases e; exact .inr ho
  | succ i =>
    simp only [List.length_cons] at hi
    rw [List.getElem?_cons_succ, List.getElem?_append_left (by omega)] at e
    exact .inl (by rw [List.getElem?_cons_succ]; exact e)
theorem exitT_head {o o' : O} {r t : Hs} {d : D} (ho : o'.und (r.length + 1) = true) (hd : d.und (r.length + 1) = true) : exitT (o :: r) d (o' :: (r ++ t)) = .ok d (o' :: r) := by
  unfold exitT
  rw [if_pos (trunc_head ho)]
  unfold frz1
  rw [if_pos (by simpa using hd)]
  simp
theorem exitT_head0 {o o' : O} {r : Hs} {d : D} (ho : o'.und (r.length + 1) = true) (hd : d.und (r.length + 1) = true) : exitT (o :: r) d (o' :: r) = .ok d (o' :: r) := by
  have := exitT_head (o := o) (t := []) ho hd
  simpa using this
@[simp] theorem und_O_ints {n : Nat} {ds : List Int} : (O.lst (ds.map D.int)).und n = true := by simp [O.und]
theorem undL_map {α : Type} {f : α → D} {n : Nat} {xs : List α} (h : ∀ x ∈ xs, (f x).und n = true) : undL n (xs.map f) = true := undL_iff.mpr (by
  intro d hd
  obtain ⟨x, hx, rfl⟩ := List.mem_map.mp hd
  exact h x hx)
theorem ix_mem {h : Hs} {d : D} {xs : List D} {i : Int} (hr : rowOf h d = some xs) (h0 : 0 ≤ i) (h1 : i < xs.length) : ixD d (.int i) h = .ok (xs[i.toNat]'(by omega)) h := x_ix_row hr (atI_in h0 h1)
theorem ix_any {h : Hs} {d : D} {xs : List D} {i : Int} (hr : rowOf h d = some xs) (h0 : 0 ≤ i) (h1 : i < xs.length) : ∃ e ∈ xs, ixD d (.int i) h = .ok e h := by
  have hl : i.toNat < xs.length := by omega
  exact ⟨xs[i.toNat], List.getElem_mem hl, x_ix_row hr (atI_in h0 h1)⟩
theorem ix_ints {h : Hs} {d : D} {ns : List Int} {i : Int} (hr : rowOf h d = some (ns.map D.int)) (h0 : 0 ≤ i) (h1 : i < ns.length) : ixD d (.int i) h = .ok (.int (ns.getD i.toNat 0)) h := by
  rw [ix_mem hr h0 (by simpa using h1)]
  simp [List.getD, List.getElem?_eq_getElem (show i.toNat < ns.length by omega)]
theorem set_ints {h : Hs} {n : Nat} {ns : List Int} {i v : Int} (e : locAt h n = some (ns.map D.int)) (h0 : 0 ≤ i) (h1 : i < ns.length) : setD (.loc n) (.int i) (.int v) h = some (h.set n (.lst ((ns.set i.toNat v).map D.int))) := by
  simp only [setD, e, List.length_map, ixN_in h0 h1, List.map_set]
@[simp] theorem at2a {g : Hs} {xs ys : List D} : locAt (g ++ [.lst xs, .lst ys]) g.length = some xs := locAt_end
@[simp] theorem at2b {g : Hs} {xs ys : List D} : locAt (g ++ [.lst xs, .lst ys]) (g.length + 1) = some ys := by
  have := locAt_end (g := g ++ [.lst xs]) (xs := ys) (t := [])
  simpa using this
@[simp] theorem set2a {g : Hs} {x y z : O} : (g ++ [x, y]).set g.length z = g ++ [z, y] := set_end
@[simp] theorem set2b {g : Hs} {x y z : O} : (g ++ [x, y]).set (g.length + 1) z = g ++ [x, z] := by
  have := set_end (g := g ++ [x]) (o := y) (x := z) (t := [])
  simpa using this
/-- told apart by == just where they are unlike -/
class EqE {α : Type} (f : α → D) : Prop where
  ex : ∃ (py : α → PyData) (n : Nat), n ≤ 50 ∧ (∀ h m a, n ≤ m → toP h m (f a) = some (py a)) ∧ ∀ a b, PyData.eqv (py a) (py b) = true ↔ a = b
instance : EqE D.int := ⟨PyData.int, 0, by omega, fun h m a _ => toP_int, fun a b => by simp [PyData.eqv]⟩
instance : EqE D.bl := ⟨PyData.bool, 0, by omega, fun h m a _ => toP_bl, fun a b => by cases a <;> cases b <;> simp [PyData.eqv]⟩
theorem eqvAll_iff {α : Type} {py : α → PyData} (hq : ∀ a b, PyData.eqv (py a) (py b) = true ↔ a = b) : ∀ xs ys : List α, PyData.eqvAll (xs.map py) (ys.map py) = true ↔ xs = ys
  | [], [] => by simp [PyData.eqvAll]
  | [], _ :: _ => by simp [PyData.eqvAll]
  | _ :: _, [] => by simp [PyData.eqvAll]
  | x :: xs, y :: ys => by simp [PyData.eqvAll, hq, eqvAll_iff hq xs ys]
class EqS {α : Type} (f : α → D) (k : Nat) : Prop where
  ex : ∃ (py : α → PyData), (∀ h m a, k ≤ m → toP h m (f a) = some (py a)) ∧ ∀ a b, PyData.eqv (py a) (py b) = true ↔ a = b
instance : EqS D.int 0 := ⟨PyData.int, fun h m a _ => toP_int, fun a b => by simp [PyData.eqv]⟩
instance : EqS D.bl 0 := ⟨PyData.bool, fun h m a _ => toP_bl, fun a b => by cases a <;> cases b <;> simp [PyData.eqv]⟩
theorem mapM_map {α : Type} {f : α → D} {py : α → PyData} {h : Hs} {m : Nat} (e : ∀ a, toP h m (f a) = some (py a)) : ∀ xs : List α, (xs.map f).mapM (toP h m) = some (xs.map py)
  | [] => rfl
  | x :: xs => by rw [List.map_cons, List.mapM_cons, e x, mapM_map e xs]; rfl
instance {α : Type} {f : α → D} {k : Nat} [E : EqS f k] : EqS (fun xs : List α => D.tup (xs.map f)) (k + 1) := by
  obtain ⟨py, h1, h2⟩ := E.ex
  refine ⟨fun xs => .tuple (xs.map py), fun h m xs hm => ?_, fun xs ys => by rw [PyData.eqv]; exact eqvAll_iff h2 xs ys⟩
  obtain ⟨m', rfl⟩ : ∃ m', m = m' + 1 := ⟨m - 1, by omega⟩
  exact toP_tup (mapM_map (fun a => h1 h m' a (by omega)) xs)
instance {α : Type} {f : α → D} {k : Nat} [E : EqS f k] : EqS (fun xs : List α => D.lst (xs.map f)) (k + 1) := by
  obtain ⟨py, h1, h2⟩ := E.ex
  refine ⟨fun xs => .list (xs.map py), fun h m xs hm => ?_, fun xs ys => by rw [PyData.eqv]; exact eqvAll_iff h2 xs ys⟩
  obtain ⟨m', rfl⟩ : ∃ m', m = m' + 1 := ⟨m - 1, by omega⟩
  exact toP_lst rfl (mapM_map (fun a => h1 h m' a (by omega)) xs)
theorem eq_of {α : Type} (f : α → D) {k : Nat} [E : EqS f k] (hk : k ≤ 64) {n : Bool} {a b : α} {h : Hs} [dd : Decidable (a = b)] : eqD n (f a) (f b) h = .ok (.bl (if n = true then !decide (a = b) else decide (a = b))) h := by
  obtain ⟨py, h1, h2⟩ := E.ex
  unfold eqD
  rw [h1 h 64 a hk, h1 h 64 b hk]
  have : PyData.eqv (py a) (py b) = decide (a = b) := by
    rw [Bool.eq_iff_iff, h2, decide_eq_true_iff]
  simp only [this]
/-- tuples of ints; of days -/
def iT (ns : List Int) : D := .tup (ns.map D.int)
def dT (r : List (List Int)) : D := .tup (r.map iT)
instance : EqS iT 1 := inferInstanceAs (EqS (fun xs : List Int => D.tup (xs.map D.int)) 1)
instance : EqS dT 2 := inferInstanceAs (EqS (fun xs : List (List Int) => D.tup (xs.map iT)) 2)
@[simp] theorem eq_iT {n : Bool} {a b : List Int} {h : Hs} : eqD n (iT a) (iT b) h = .ok (.bl (if n = true then !decide (a = b) else decide (a = b))) h := eq_of iT (k := 1) (by omega)
@[simp] theorem eq_dT {n : Bool} {a b : List (List Int)} {h : Hs} : eqD n (dT a) (dT b) h = .ok (.bl (if n = true then !decide (a = b) else decide (a = b))) h := eq_of dT (k := 2) (by omega)
@[simp] theorem eq_bl {n : Bool} {a b : Bool} {h : Hs} : eqD n (.bl a) (.bl b) h = .ok (.bl (if n = true then !decide (a = b) else decide (a = b))) h := eq_of D.bl (k := 0) (by omega)
@[simp] theorem row_iT {ns : List Int} {h : Hs} : rowOf h (iT ns) = some (ns.map D.int) := (rfl)
@[simp] theorem row_dT {r : List (List Int)} {h : Hs} : rowOf h (dT r) = some (r.map iT) := (rfl)
@[simp] theorem und_iT {ns : List Int} {n : Nat} : (iT ns).und n = true := by simp [iT]
@[simp] theorem und_dT {ns : List (List Int)} {n : Nat} : (dT ns).und n = true := by
  show (D.tup (ns.map iT)).und n = true
  rw [und_tup]
  exact undL_map fun _ _ => und_iT
@[simp] theorem len_iT {ns : List Int} {h : Hs} : lenD [iT ns] h = .ok (.int ns.length) h := by simp [iT]
@[simp] theorem len_dT {ns : List (List Int)} {h : Hs} : lenD [dT ns] h = .ok (.int ns.length) h := by simp [dT]
@[simp] theorem sl_iT {m : Bool} {xs : List Int} {lo hi : Option Int} {h : Hs} : slD m (iT xs) lo hi h = .ok (iT (cutG xs lo hi)) h := by
  simp [iT, cutG_map]
@[simp] theorem sl_dT {m : Bool} {xs : List (List Int)} {lo hi : Option Int} {h : Hs} : slD m (dT xs) lo hi h = .ok (dT (cutG xs lo hi)) h := by
  simp [dT, cutG_map]
@[simp] theorem add_iT {xs ys : List Int} {h : Hs} (hz : xs.length + ys.length ≤ 16777216) : addD (iT xs) (iT ys) h = .ok (iT (xs ++ ys)) h := by
  simp [iT, hz]
@[simp] theorem add_dT {xs ys : List (List Int)} {h : Hs} (hz : xs.length + ys.length ≤ 16777216) : addD (dT xs) (dT ys) h = .ok (dT (xs ++ ys)) h := by
  simp [dT, hz]
theorem ix_dT {r : List (List Int)} {i : Int} {h : Hs} (h0 : 0 ≤ i) (h1 : i < r.length) : ixD (dT r) (.int i) h = .ok (iT (r.getD i.toNat [])) h := by
  rw [ix_mem row_dT h0 (by simpa using h1)]
  simp [List.getD, List.getElem?_eq_getElem (show i.toNat < r.length by omega)]
@[simp] theorem isT_iT {ns : List Int} : (iT ns).isT = true := (rfl)
@[simp] theorem isT_dT {ns : List (List Int)} : (dT ns).isT = true := (rfl)
@[simp] theorem lo_iT {ns : List Int} {h : Hs} : lstOf h (iT ns) = none := (rfl)
@[simp] theorem lo_dT {ns : List (List Int)} {h : Hs} : lstOf h (dT ns) = none := (rfl)
/-- still lists of ints; of days -/
def iL (ns : List Int) : D := .lst (ns.map D.int)
def dL (r : List (List Int)) : D := .lst (r.map iT)
@[simp] theorem row_iL {ns : List Int} {h : Hs} : rowOf h (iL ns) = some (ns.map D.int) := (rfl)
@[simp] theorem row_dL {r : List (List Int)} {h : Hs} : rowOf h (dL r) = some (r.map iT) := (rfl)
@[simp] theorem lo_iL {ns : List Int} {h : Hs} : lstOf h (iL ns) = some (ns.map D.int) := (rfl)
@[simp] theorem lo_dL {ns : List (List Int)} {h : Hs} : lstOf h (dL ns) = some (ns.map iT) := (rfl)
@[simp] theorem tuple_iL {ns : List Int} {h : Hs} : tupleD [iL ns] h = .ok (iT ns) h := (rfl)
@[simp] theorem tuple_dL {ns : List (List Int)} {h : Hs} : tupleD [dL ns] h = .ok (dT ns) h := (rfl)
@[simp] theorem tuple_iT {ns : List Int} {h : Hs} : tupleD [iT ns] h = .ok (iT ns) h := (rfl)
@[simp] theorem tuple_dT {ns : List (List Int)} {h : Hs} : tupleD [dT ns] h = .ok (dT ns) h := (rfl)
@[simp] theorem len_iL {ns : List Int} {h : Hs} : lenD [iL ns] h = .ok (.int ns.length) h := by simp [iL]
@[simp] theorem len_dL {ns : List (List Int)} {h : Hs} : lenD [dL ns] h = .ok (.int ns.length) h := by simp [dL]
@[simp] theorem sum_iL {ns : List Int} {h : Hs} : sumD [iL ns] h = .ok (.int ns.sum) h := by simp [iL]
@[simp] theorem und_iL {ns : List Int} {n : Nat} : (iL ns).und n = true := by simp [iL]
@[simp] theorem und_dL {ns : List (List Int)} {n : Nat} : (dL ns).und n = true := by
  show (D.lst (ns.map iT)).und n = true
  rw [und_lst]
  exact undL_map fun _ _ => und_iT
@[simp] theorem isT_iL {ns : List Int} : (iL ns).isT = false := (rfl)
@[simp] theorem isT_dL {ns : List (List Int)} : (dL ns).isT = false := (rfl)
@[simp] theorem sl_iL {xs : List Int} {lo hi : Option Int} {h : Hs} : slD false (iL xs) lo hi h = .ok (iL (cutG xs lo hi)) h := by
  simp [iL, cutG_map]
@[simp] theorem sl_dL {xs : List (List Int)} {lo hi : Option Int} {h : Hs} : slD false (dL xs) lo hi h = .ok (dL (cutG xs lo hi)) h := by
  simp [dL, cutG_map]
@[simp] theorem add_iL {xs ys : List Int} {h : Hs} (hz : xs.length + ys.length ≤ 16777216) : addD (iL xs) (iL ys) h = .ok (iL (xs ++ ys)) h := by
  simp [iL, hz]
@[simp] theorem add_dL {xs ys : List (List Int)} {h : Hs} (hz : xs.length + ys.length ≤ 16777216) : addD (dL xs) (dL ys) h = .ok (dL (xs ++ ys)) h := by
  simp [dL, hz]
instance : EqS iL 1 := inferInstanceAs (EqS (fun xs : List Int => D.lst (xs.map D.int)) 1)
instance : EqS dL 2 := inferInstanceAs (EqS (fun xs : List (List Int) => D.lst (xs.map iT)) 2)
@[simp] theorem eq_iL {n : Bool} {a b : List Int} {h : Hs} : eqD n (iL a) (iL b) h = .ok (.bl (if n = true then !decide (a = b) else decide (a = b))) h := eq_of iL (k := 1) (by omega)
@[simp] theorem eq_dL {n : Bool} {a b : List (List Int)} {h : Hs} : eqD n (dL a) (dL b) h = .ok (.bl (if n = true then !decide (a = b) else decide (a = b))) h := eq_of dL (k := 2) (by omega)
@[simp] theorem eq_iLn {n : Bool} {a : List Int} {h : Hs} : eqD n (iL a) (.lst []) h = .ok (.bl (if n = true then !decide (a = []) else decide (a = []))) h := eq_of iL (k := 1) (b := []) (by omega)
@[simp] theorem eq_dLn {n : Bool} {a : List (List Int)} {h : Hs} : eqD n (dL a) (.lst []) h = .ok (.bl (if n = true then !decide (a = []) else decide (a = []))) h := eq_of dL (k := 2) (b := []) (by omega)
theorem tup_ints {ns : List Int} : D.tup (ns.map D.int) = iT ns := rfl
theorem tup_days {ns : List (List Int)} : D.tup (ns.map iT) = dT ns := rfl
/-- == with an empty list -/
theorem toP_cons {h : Hs} {n : Nat} {y : D} {ys : List D} {p : PyData} (e : toP h (n + 1) (.lst (y :: ys)) = some p) : ∃ q qs, p = .list (q :: qs) := by
  have e' : ((y :: ys).mapM (toP h n)).map PyData.list = some p := e
  cases em : (y :: ys).mapM (toP h n) with
  | none => rw [em] at e'; cases e'
  | some r =>
    rw [em] at e'
    obtain ⟨a, b, _, _, rfl⟩ := mapM_cons_some em
    cases e'
    exact ⟨a, b, rfl⟩
@[simp] theorem x_eqNil {h : Hs} {ys : List D} : eqD false (.lst ys) (.lst []) h = .ok (.bl ys.isEmpty) h := by
  unfold eqD
  have e0 : toP h 64 (.lst []) = some (.list []) := toP_lst (d := .lst []) (xs := []) rfl rfl
  cases ys with
  | nil => rw [e0]; rfl
  | cons y ys =>
    cases e : toP h 64 (.lst (y :: ys)) with
    | none =>
      rw [e0]
      simp only [x_lx_lst]
      rw [if_pos (by simp)]
      rfl
    | some p =>
      rw [e0]
      obtain ⟨q, qs, rfl⟩ := toP_cons e
      simp [PyData.eqv, PyData.eqvAll]
@[simp] theorem x_neNil {h : Hs} {ys : List D} : eqD true (.lst ys) (.lst []) h = .ok (.bl (!ys.isEmpty)) h := by
  unfold eqD
  have e0 : toP h 64 (.lst []) = some (.list []) := toP_lst (d := .lst []) (xs := []) rfl rfl
  cases ys with
  | nil => rw [e0]; rfl
  | cons y ys =>
    cases e : toP h 64 (.lst (y :: ys)) with
    | none =>
      rw [e0]
      simp only [x_lx_lst]
      rw [if_pos (by simp)]
      rfl
    | some p =>
      rw [e0]
      obtain ⟨q, qs, rfl⟩ := toP_cons e
      simp [PyData.eqv, PyData.eqvAll]
theorem any_intsD {i : Int} : ∀ ns : List Int, ((ns.map D.int).any fun y => eqF y (.int i)) = ns.contains i
  | [] => rfl
  | n :: ns => by
    rw [List.map_cons, List.any_cons, any_intsD ns]
    show ((n == i) || ns.contains i) = _
    rw [List.contains_cons, Bool.beq_comm (a := n)]
theorem flat_ints (ns : List Int) : (ns.map D.int).all flatD = true := by
  simp [flatD]
@[simp] theorem in_ints {n : Bool} {i : Int} {d : D} {ns : List Int} {h : Hs} (hr : rowOf h d = some (ns.map D.int)) : inD n (.int i) d h = .ok (.bl (if n = true then !ns.contains i else ns.contains i)) h := by
  unfold inD
  rw [hr]
  dsimp only
  rw [if_pos ⟨rfl, flat_ints ns⟩, any_intsD]
@[simp] theorem in_iT {n : Bool} {i : Int} {ns : List Int} {h : Hs} : inD n (.int i) (iT ns) h = .ok (.bl (if n = true then !ns.contains i else ns.contains i)) h := in_ints rfl
theorem loopL_still {g : Tg} {b : FS} {n : Nat} {xs : List D} {h : Hs} (P : Ss → Prop) (e : locAt h n = some xs)
    (hb : ∀ x ∈ xs, ∀ s, P s → ∃ s1, g x s h = some s1 ∧ ((∃ s2, b s1 h = .nx s2 h ∧ P s2) ∨ ∃ d h', b s1 h = .rt d h')) : ∀ (m i : Nat) (s : Ss), xs.length - i < m → P s → loopL g b n m i s h = loopS g b (xs.drop i) s h
  | 0, _, _, hm, _ => absurd hm (by omega)
  | m + 1, i, s, hm, hp => by
    unfold loopL
    rw [e]
    dsimp only
    by_cases hl : i < xs.length
    · rw [List.getElem?_eq_getElem hl, List.drop_eq_getElem_cons hl]
      obtain ⟨s1, h1, h2⟩ := hb xs[i] (List.getElem_mem hl) s hp
      dsimp only
      rw [h1]
      rcases h2 with ⟨s2, h2, h3⟩ | ⟨d, h', h2⟩
      · rw [loop_nx h1 h2]
        dsimp only
        rw [h2]
        exact loopL_still P e hb m (i + 1) s2 (by omega) h3
      · rw [loop_rt h1 h2]
        dsimp only
        rw [h2]
        rfl
    · rw [List.getElem?_eq_none (by omega), List.drop_eq_nil_of_le (by omega)]
      rfl
theorem sFor_row {f : FE} {g : Tg} {b : FS} {s : Ss} {h : Hs} {d : D} {xs : List D} (P : Ss → Prop) (ef : f s h = .ok d h) (hr : rowOf h d = some xs) (hp : P s)
    (hb : ∀ x ∈ xs, ∀ s, P s → ∃ s1, g x s h = some s1 ∧ ((∃ s2, b s1 h = .nx s2 h ∧ P s2) ∨ ∃ d h', b s1 h = .rt d h')) : sFor (iRow f) g b s h = loopS g b xs s h := by
  cases d with
  | tup ys => cases hr; exact sFor_seq (by unfold iRow; rw [ef]; rfl)
  | lst ys => cases hr; exact sFor_seq (by unfold iRow; rw [ef]; rfl)
  | scr ys => cases hr; exact sFor_seq (by unfold iRow; rw [ef]; rfl)
  | loc n =>
    have e : locAt h n = some xs := hr
    have ei : iRow f s h = .ok (.loc n) h := by
      unfold iRow
      rw [ef]
      exact if_pos (by rw [e]; rfl)
    rw [sFor_loc ei e, loopL_still P e hb _ 0 s (by omega) hp]
    rfl
  | _ => cases hr
inductive Q where
  | non | bl (b : Bool) | int (i : Int) | str (x : Str) | row (xs : List Q) | dic
def vq (h : Hs) : Nat → D → Option Q
  | _, .non => some .non
  | _, .bl b => some (.bl b)
  | _, .int i => some (.int i)
  | _, .str x => some (.str x)
  | _, .dic _ _ => some .dic
  | 0, _ => none
  | n + 1, d => (rowOf h d).bind fun xs => (xs.mapM (vq h n)).map Q.row
@[simp] theorem vq_int {h : Hs} {n : Nat} {i : Int} : vq h n (.int i) = some (.int i) := by cases n <;> rfl
@[simp] theorem vq_non {h : Hs} {n : Nat} : vq h n .non = some .non := by cases n <;> rfl
@[simp] theorem vq_bl {h : Hs} {n : Nat} {i : Bool} : vq h n (.bl i) = some (.bl i) := by cases n <;> rfl
@[simp] theorem vq_str {h : Hs} {n : Nat} {i : Str} : vq h n (.str i) = some (.str i) := by cases n <;> rfl
@[simp] theorem vq_dic {h : Hs} {n : Nat} {k : List Key} {i : List D} : vq h n (.dic k i) = some .dic := by cases n <;> rfl
theorem vq_row {h : Hs} {n : Nat} {d : D} {xs : List D} (hr : rowOf h d = some xs) : vq h (n + 1) d = (xs.mapM (vq h n)).map Q.row := by
  cases d <;> first | (cases hr; done) | (simp only [vq]; rw [hr]; rfl)
/-- what a view tells of a thing -/
theorem vq_inv {h : Hs} {n : Nat} {d : D} {q : Q} (e : vq h n d = some q) : (rowOf h d = none ∧ (match q with | .non => d = .non | .bl b => d = .bl b | .int i => d = .int i | .str x => d = .str x | .dic => ∃ k xs, d = .dic k xs | .row _ => False)) ∨
    ∃ m xs qs, n = m + 1 ∧ rowOf h d = some xs ∧ xs.mapM (vq h m) = some qs ∧ q = .row qs := by
  cases d with
  | non => rw [vq_non] at e; cases e; exact .inl ⟨rfl, rfl⟩
  | bl b => rw [vq_bl] at e; cases e; exact .inl ⟨rfl, rfl⟩
  | int i => rw [vq_int] at e; cases e; exact .inl ⟨rfl, rfl⟩
  | str x => rw [vq_str] at e; cases e; exact .inl ⟨rfl, rfl⟩
  | dic k xs => rw [vq_dic] at e; cases e; exact .inl ⟨rfl, k, xs, rfl⟩
  | _ =>
    cases n with
    | zero => cases e
    | succ m =>
      simp only [vq] at e
      cases hr : rowOf h _ with
      | none => rw [hr] at e; cases e
      | some xs =>
        rw [hr] at e
        simp only [Option.bind_some] at e
        cases em : xs.mapM (vq h m) with
        | none => rw [em] at e; cases e
        | some qs => rw [em] at e; cases e; exact .inr ⟨m, xs, qs, rfl, rfl, em, rfl⟩
mutual
def qD : Q → D
  | .non => .non
  | .bl b => .bl b
  | .int i => .int i
  | .str x => .str x
  | .row xs => .tup (qDL xs)
  | .dic => .non
def qDL : List Q → List D
  | [] => []
  | x :: xs => qD x :: qDL xs
end
mutual
def Q.nd : Q → Bool
  | .row xs => ndL xs
  | .dic => false
  | .str x => PyData.strOk x
  | _ => true
def ndL : List Q → Bool
  | [] => true
  | x :: xs => x.nd && ndL xs
end
mutual
theorem und_qD (n : Nat) : ∀ q : Q, (qD q).und n = true
  | .non => rfl
  | .bl _ => rfl
  | .int _ => rfl
  | .str _ => rfl
  | .dic => rfl
  | .row xs => by simp only [qD, und_tup]; exact und_qDL n xs
theorem und_qDL (n : Nat) : ∀ qs : List Q, undL n (qDL qs) = true
  | [] => rfl
  | x :: xs => by simp only [qDL, undL_cons, und_qD n x, und_qDL n xs, Bool.and_self]
end
theorem mapM_len {α β : Type} {f : α → Option β} : ∀ {xs : List α} {ys : List β}, xs.mapM f = some ys → xs.length = ys.length
  | [], ys, e => by cases e; rfl
  | x :: xs, ys, e => by
    obtain ⟨y, ys', h1, h2, rfl⟩ := mapM_cons_some e
    simp [mapM_len h2]
theorem mapM_mem {α β : Type} {f : α → Option β} : ∀ {xs : List α} {ys : List β}, xs.mapM f = some ys → ∀ x ∈ xs, ∃ y ∈ ys, f x = some y
  | [], ys, e, x, hx => nomatch hx
  | x :: xs, ys, e, z, hz => by
    obtain ⟨y, ys', h1, h2, rfl⟩ := mapM_cons_some e
    rcases List.mem_cons.mp hz with rfl | hz
    · exact ⟨y, List.mem_cons_self, h1⟩
    · obtain ⟨w, hw, e'⟩ := mapM_mem h2 z hz
      exact ⟨w, List.mem_cons_of_mem _ hw, e'⟩
theorem enL_map {α : Type} {em : α → D} : ∀ (xs : List α) (k : Nat), enL k (xs.map em) = (xs.zipIdx k).map fun x => .tup [.int (x.2 : Nat), em x.1]
  | [], _ => rfl
  | x :: xs, k => by simp [enL, enL_map xs, List.zipIdx_cons]
theorem zpL_map {α β : Type} {em : α → D} {en : β → D} : ∀ (xs : List α) (ys : List β), zpL (xs.map em) (ys.map en) = (xs.zip ys).map fun x => .tup [em x.1, en x.2]
  | [], ys => by simp [zpL]
  | x :: xs, [] => by simp [zpL]
  | x :: xs, y :: ys => by simp [zpL, zpL_map xs ys]
def dayQ (d : List Int) : Q := .row (d.map Q.int)
def ringQ (r : List (List Int)) : Q := .row (r.map dayQ)
theorem mapM_ints_vq {h : Hs} {n : Nat} : ∀ {xs : List D} {ns : List Int}, xs.mapM (vq h n) = some (ns.map Q.int) → xs = ns.map D.int
  | [], [], _ => rfl
  | [], _ :: _, e => by cases e
  | x :: xs, ns, e => by
    obtain ⟨y, ys, h1, h2, h3⟩ := mapM_cons_some e
    cases ns with
    | nil => cases h3
    | cons n ns =>
      simp only [List.map_cons, List.cons.injEq] at h3
      obtain ⟨rfl, rfl⟩ := h3
      rw [mapM_ints_vq h2]
      rcases vq_inv h1 with ⟨_, h4⟩ | ⟨_, _, _, _, _, _, h4⟩
      · cases h4; rfl
      · cases h4
theorem dayQ_inv {h : Hs} {n : Nat} {x : D} {d : List Int} (e : vq h n x = some (dayQ d)) : ∃ m, n = m + 1 ∧ rowOf h x = some (d.map D.int) := by
  rcases vq_inv e with ⟨_, h4⟩ | ⟨m, xs, qs, h1, h2, h3, h4⟩
  · exact h4.elim
  · simp only [dayQ, Q.row.injEq] at h4
    subst h4
    exact ⟨m, h1, by rw [h2, mapM_ints_vq h3]⟩
theorem ringQ_inv {h : Hs} {n : Nat} {x : D} {r : List (List Int)} (e : vq h n x = some (ringQ r)) : ∃ m xs, n = m + 1 ∧ rowOf h x = some xs ∧ xs.mapM (vq h m) = some (r.map dayQ) := by
  rcases vq_inv e with ⟨_, h4⟩ | ⟨m, xs, qs, h1, h2, h3, h4⟩
  · exact h4.elim
  · simp only [ringQ, Q.row.injEq] at h4
    subst h4
    exact ⟨m, xs, h1, h2, h3⟩
@[simp] theorem vq_iT {h : Hs} {n : Nat} {d : List Int} : vq h (n + 1) (iT d) = some (dayQ d) := by
  rw [vq_row row_iT]
  have : ∀ d : List Int, (d.map D.int).mapM (vq h n) = some (d.map Q.int) := fun d => by
    induction d with
    | nil => rfl
    | cons a d ih => rw [List.map_cons, List.mapM_cons, vq_int, ih]; rfl
  rw [this]; rfl
@[simp] theorem vq_dT {h : Hs} {n : Nat} {r : List (List Int)} : vq h (n + 2) (dT r) = some (ringQ r) := by
  rw [vq_row row_dT]
  have : ∀ r : List (List Int), (r.map iT).mapM (vq h (n + 1)) = some (r.map dayQ) := fun r => by
    induction r with
    | nil => rfl
    | cons a d ih => rw [List.map_cons, List.mapM_cons, vq_iT, ih]; rfl
  rw [this]; rfl
theorem qD_day (d : List Int) : qD (dayQ d) = iT d := by
  simp only [dayQ, qD, iT]
  congr 1
  induction d with
  | nil => rfl
  | cons a d ih => simp [qDL, qD, ih]
theorem qD_ring (r : List (List Int)) : qD (ringQ r) = dT r := by
  simp only [ringQ, qD, dT]
  congr 1
  induction r with
  | nil => rfl
  | cons a d ih => simp [qDL, qD_day, ih]
theorem nd_day (d : List Int) : (dayQ d).nd = true := by
  simp only [dayQ, Q.nd]
  induction d with
  | nil => rfl
  | cons a d ih => simp [ndL, Q.nd, ih]
theorem nd_ring (r : List (List Int)) : (ringQ r).nd = true := by
  simp only [ringQ, Q.nd]
  induction r with
  | nil => rfl
  | cons a d ih => simp [ndL, nd_day, ih]
theorem ndL_mem : ∀ {qs : List Q} {q : Q}, ndL qs = true → q ∈ qs → q.nd = true
  | [], _, _, hq => nomatch hq
  | x :: xs, q, h, hq => by
    simp only [ndL, Bool.and_eq_true] at h
    rcases List.mem_cons.mp hq with rfl | hq
    · exact h.1
    · exact ndL_mem h.2 hq
theorem mapM_qD {h : Hs} {n : Nat} : ∀ {xs : List D} {qs : List Q}, xs.mapM (vq h n) = some qs → xs.map (fun x => qD ((vq h n x).getD .non)) = qDL qs
  | [], qs, e => by cases e; rfl
  | x :: xs, qs, e => by
    obtain ⟨y, ys, h1, h2, rfl⟩ := mapM_cons_some e
    simp [qDL, h1, mapM_qD h2]
theorem comp_inv {m : Bool} {vs : List Nat} {fi : FI} {g : Tg} {tt : FT} {te : FE} {s : Ss} {h h1 : Hs} {xs : List D} (I : List D → List D → Hs → Prop) (hi : Itr fi s h h1 xs) (hl : ∀ n, fi s h ≠ .ok (.loc n) h1) (h0 : I [] xs h1)
    (hs : ∀ acc x rest h, I acc (x :: rest) h → ∃ s2, g x (wipeS s vs) h = some s2 ∧ ((tt s2 h = .ok false h ∧ I acc rest h) ∨ (tt s2 h = .ok true h ∧ ∃ y h', te s2 h = .ok y h' ∧ I (acc ++ [y]) rest h'))) :
    ∃ acc h', I acc [] h' ∧ eComp m vs fi g tt te s h = newL m acc h' := by
  obtain ⟨it, e1, e2⟩ := hi
  have main : ∀ (ys acc : List D) (h : Hs), I acc ys h → ∃ acc' h', I acc' [] h' ∧ compA g tt te (wipeS s vs) (newL m) ys acc h = newL m acc' h' := by
    intro ys
    induction ys with
    | nil => intro acc h hI; exact ⟨acc, h, hI, rfl⟩
    | cons y ys ih =>
      intro acc h hI
      obtain ⟨s2, k1, k2⟩ := hs acc y ys h hI
      rcases k2 with ⟨k2, k3⟩ | ⟨k2, z, h', k3, k4⟩
      · obtain ⟨acc', h', a1, a2⟩ := ih acc h k3
        refine ⟨acc', h', a1, ?_⟩
        rw [← a2]
        conv => lhs; unfold compA stepC
        simp only [k1, k2, x_quiet_ok, R.bind_ok, Bool.false_eq_true, if_false]
      · obtain ⟨acc', h'', a1, a2⟩ := ih (acc ++ [z]) h' k4
        refine ⟨acc', h'', a1, ?_⟩
        rw [← a2]
        conv => lhs; unfold compA stepC
        simp only [k1, k2, k3, x_quiet_ok, R.bind_ok, if_true]
  obtain ⟨acc', h', a1, a2⟩ := main xs [] h1 h0
  refine ⟨acc', h', a1, ?_⟩
  unfold eComp
  rw [e1, R.bind_ok]
  cases it with
  | seq ds => cases e2; exact a2
  | rng lo n =>
    simp only [itemsOf] at e2
    split at e2
    · rename_i hz
      have e3 : rgL lo n = xs := by injection e2
      dsimp only
      rw [if_pos hz, e3]
      exact a2
    · cases e2
  | loc n => exact absurd e1 (hl n)
theorem rng_noloc {f : FA} {s : Ss} {h h1 : Hs} {n : Nat} : iRng1 f s h ≠ .ok (.loc n) h1 := by
  unfold iRng1
  cases f s h with
  | ok ds h2 =>
    rw [R.bind_ok]
    split
    · split <;> simp
    · simp
  | err x h2 => simp
  | bad => simp
theorem while_steps {t : FT} {b : FS} (st : Nat → Ss) (h : Hs) (n : Nat) (ht : ∀ k, k < n → t (st k) h = .ok true h ∧ b (st k) h = .nx (st (k + 1)) h) (hn : t (st n) h = .ok false h) : sWhile t b (st 0) h = .nx (st n) h := by
  have : ∀ j k, k + j = n → whileF t b (j + 1) (st k) h = .nx (st n) h := by
    intro j
    induction j with
    | zero =>
      intro k hk
      obtain rfl : k = n := by omega
      unfold whileF
      rw [hn]; rfl
    | succ j ih =>
      intro k hk
      obtain ⟨h1, h2⟩ := ht k (by omega)
      unfold whileF
      rw [h1]
      dsimp only
      rw [if_pos rfl, h2]
      exact ih (k + 1) (by omega)
  exact sWhile_eq (this n 0 (by omega)) (by simp)
theorem tup0 : D.tup [] = iT [] := (rfl)
theorem tup1 {a : Int} : D.tup [.int a] = iT [a] := (rfl)
theorem tup2 {a b : Int} : D.tup [.int a, .int b] = iT [a, b] := (rfl)
theorem mul_tup {xs : List D} {k : Int} {h : Hs} (h0 : -1000000 ≤ k) (h1 : xs.length * k.toNat ≤ 16777216) (h2 : k ≤ 1000000000) : mulD (.tup xs) (.int k) h = .ok (.tup (List.replicate k.toNat xs).flatten) h := by
  have : repOk k xs.length := ⟨by omega, by omega, h1⟩
  unfold mulD
  exact if_pos this
structure LiveAt (h : Hs) (b : Nat) (r : List (List Int)) : Prop where
  day : ∀ j (hj : j < r.length), locAt h (b + j) = some ((r[j]).map D.int)
  all : locAt h (b + r.length) = some ((List.range r.length).map fun i => .loc (b + i))
theorem maxL_le {ns : List Int} : ∀ m ∈ ns, m ≤ maxL ns := by
  intro m hm
  cases ns with
  | nil => cases hm
  | cons n ns =>
    obtain ⟨h1, h2, _⟩ := foldl_max ns n
    rcases List.mem_cons.mp hm with rfl | hm
    · exact h1
    · exact h2 m hm
theorem maxL_mem {ns : List Int} (h : ns ≠ []) : maxL ns ∈ ns := by
  cases ns with
  | nil => exact absurd rfl h
  | cons n ns =>
    obtain ⟨_, _, h3⟩ := foldl_max ns n
    rcases h3 with h3 | h3
    · exact List.mem_cons.mpr (.inl h3)
    · exact List.mem_cons_of_mem _ h3
mutual
def qL : Q → PyData
  | .non => .none
  | .bl b => .bool b
  | .int i => .int i
  | .str x => .str x
  | .row xs => .list (qLL xs)
  | .dic => .none
def qLL : List Q → List PyData
  | [] => []
  | x :: xs => qL x :: qLL xs
end
mutual
theorem eqv_qL : ∀ q : Q, PyData.eqv (qL q) (qL q) = true
  | .non => by simp [qL, PyData.eqv]
  | .bl b => by simp [qL, PyData.eqv]
  | .int i => by simp [qL, PyData.eqv]
  | .str x => by simp [qL, PyData.eqv]
  | .dic => by simp [qL, PyData.eqv]
  | .row xs => by rw [qL, PyData.eqv]; exact eqv_qLL xs
theorem eqv_qLL : ∀ qs : List Q, PyData.eqvAll (qLL qs) (qLL qs) = true
  | [] => by simp [qLL, PyData.eqvAll]
  | x :: xs => by rw [qLL, PyData.eqvAll, eqv_qL x, eqv_qLL xs]; rfl
end
/-- a copy as lists: it hangs on the places from b on alone -/
def LCopy (b : Nat) (H : Hs) (n : Nat) (d : D) (q : Q) : Prop := ∀ h' : Hs, (∀ k, b ≤ k → k < H.length → h'[k]? = H[k]?) → toP h' n d = some (qL q) ∧ vq h' n d = some q
theorem LCopy.from {b b' : Nat} {h : Hs} {n : Nat} {d : D} {q : Q} (x : LCopy b h n d q) (hb : b' ≤ b) : LCopy b' h n d q := fun h' e => x h' fun k h1 h2 => e k (by omega) h2
@[simp] theorem list_iT {m : Bool} {ns : List Int} {h : Hs} : listD m [iT ns] h = newL m (ns.map D.int) h := (rfl)
@[simp] theorem list_dT {m : Bool} {ns : List (List Int)} {h : Hs} : listD m [dT ns] h = newL m (ns.map iT) h := (rfl)
@[simp] theorem vq_iL {h : Hs} {n : Nat} {d : List Int} : vq h (n + 1) (iL d) = some (dayQ d) := by
  have := vq_iT (h := h) (n := n) (d := d)
  rw [vq_row row_iT] at this
  rw [vq_row row_iL]; exact this
theorem sWhile_true {t : FT} {b : FS} {s s' : Ss} {h h1 h' : Hs} (ht : t s h = .ok true h1) (hb : b s h1 = .nx s' h') : sWhile t b s h = sWhile t b s' h' := by
  have step : ∀ n, whileF t b (n + 1) s h = whileF t b n s' h' := fun n => by
    conv => lhs; unfold whileF
    rw [ht]
    dsimp only
    rw [if_pos rfl, hb]
    rfl
  by_cases e : sWhile t b s' h' = .bad
  · have all : ∀ n, whileF t b n s h = .bad := fun n => by
      cases n with
      | zero => rfl
      | succ n =>
        rw [step]
        by_cases q : whileF t b n s' h' = .bad
        · exact q
        · have := sWhile_eq (n := n) rfl q
          rw [e] at this
          exact absurd this.symm q
    rw [e]
    unfold sWhile
    rw [dif_neg]
    rintro ⟨n, hn⟩
    exact hn (all n)
  · rcases sWhile_run (t := t) (b := b) (s := s') (h := h') with q | ⟨n, q⟩
    · exact absurd q e
    · exact sWhile_eq (n := n + 1) ((step n).trans q) e
theorem sWhile_rt {t : FT} {b : FS} {s : Ss} {h h1 h' : Hs} {d : D} (ht : t s h = .ok true h1) (hb : b s h1 = .rt d h') : sWhile t b s h = .rt d h' := by
  refine sWhile_eq (n := 1) ?_ (by simp)
  unfold whileF
  rw [ht]
  dsimp only
  rw [if_pos rfl, hb]
  rfl
theorem sWhile_false {t : FT} {b : FS} {s : Ss} {h h1 : Hs} (ht : t s h = .ok false h1) : sWhile t b s h = .nx s h1 := by
  refine sWhile_eq (n := 1) ?_ (by simp)
  unfold whileF
  rw [ht]
  rfl
end WD
namespace WD
open PySem PySem.Spec PyProof.Rows L2
section
variable {h : Hs} {d : D}
open Classical in
theorem x_shl {i j : Int} : shlD (.int i) (.int j) h = if powOk i j then .ok (.int (i * 2 ^ j.toNat)) h else .bad := (rfl)
@[simp] theorem x_sl1 {i j : Int} (h0 : 0 ≤ j) (h1 : j ≤ 1000000) (h2 : -18446744073709551616 < i) (h3 : i < 18446744073709551616) : shlD (.int i) (.int j) h = .ok (.int (i * 2 ^ j.toNat)) h := by
  rw [x_shl, if_pos ⟨h0, h1, by omega⟩]
@[simp] theorem x_shr {i j : Int} (h0 : 0 ≤ j) : shrD (.int i) (.int j) h = .ok (.int (i / 2 ^ j.toNat)) h := if_pos h0
@[simp] theorem x_abs {i : Int} : absD [.int i] h = .ok (.int (if i < 0 then -i else i)) h := (rfl)
theorem x_sorted_ints {m : Bool} {ns : List Int} (hr : rowOf h d = some (ns.map D.int)) : sortedD m [d] h = newL m ((sortI ns).map D.int) h := by
  simp only [sortedD, hr, intsOf_map]
end
end WD
namespace WD
open PySem PySem.Spec PyProof.Rows L2
section
variable {K : PySem.W.Frag} {G : GG} {ms : List Addr} {X : Cx} {W : WX} {pin : List Pn}
end
section
variable {s : Ss} {h h1 : Hs} {n : Nat} {fz : Bool} {kvs : List (Int × Int)}
@[simp] theorem x_iget {fd fk : FE} : eIGet fd fk s h = (fd s h).bind fun d h1 => (fk s h1).bind fun k h2 => match dciG h2 d, k with
  | some kvs, .int i => (match getI kvs i with
    | some v => .ok (.int v) h2
    | none => .bad)
  | _, _ => .bad := (rfl)
@[simp] theorem x_iput {fd fk fv : FE} : sIPut fd fk fv s h = RS.ofR s (fv s h) fun v h1 => RS.ofR s (fd s h1) fun d h2 => RS.ofR s (fk s h2) fun k h3 => match d, k, v with
  | .loc n, .int i, .int w => (match dciF h3 n with
    | some kvs => if kvs.length < sizeLine then .nx s (h3.set n (.dci false (putI kvs i w))) else .bad
    | none => .bad)
  | _, _, _ => .bad := (rfl)
@[simp] theorem x_inew : eINew s h = .ok (.loc h.length) (h ++ [.dci false []]) := (rfl)
@[simp] theorem x_ione {fk fv : FE} : eIOne fk fv s h = (quiet (fk s h)).bind fun k h1 => (quiet (fv s h1)).bind fun v h2 => match k, v with
  | .int i, .int w => .ok (.loc h2.length) (h2 ++ [.dci false [(i, w)]])
  | _, _ => .bad := (rfl)
theorem dciG_at (e : h[n]? = some (.dci fz kvs)) : dciG h (.loc n) = some kvs := by
  show (match h[n]? with
    | some (.dci _ kvs) => some kvs
    | _ => none) = _
  rw [e]
theorem dciF_at (e : h[n]? = some (.dci false kvs)) : dciF h n = some kvs := by unfold dciF; rw [e]
theorem inI_at {b : Bool} {i : Int} (e : h[n]? = some (.dci fz kvs)) : inKI b (.int i) (.loc n) h = .ok (.bl (if b = true then !(getI kvs i).isSome else (getI kvs i).isSome)) h := by unfold inKI; rw [dciG_at e]
theorem compI_ty {g : Tg} {tt : FT} {te : FE} {m : Bool} {hk : Hs} (p : Int → Bool) (F : Int → D) (hl : hk[n]? = some (.dci true kvs)) (hs : ∀ q ∈ kvs, ∃ s2, g (.int q.1) s hk = some s2 ∧ tt s2 hk = .ok (p q.1) hk ∧ (p q.1 = true → te s2 hk = .ok (F q.1) hk)) :
    ∀ (rest : List (Int × Int)) (acc : List D), (∀ q ∈ rest, q ∈ kvs) → acc.length + rest.length < 16777216 →
      compI g tt te s n kvs (newL m) rest acc hk = newL m (acc ++ ((rest.map (·.1)).filter p).map F) (List.set hk n (O.dci false kvs))
  | [], acc, _, _ => by
    show (match letI' n kvs hk with
      | some h' => newL m acc h'
      | none => R.bad) = _
    unfold letI'
    rw [if_pos hl]
    simp
  | q :: rest, acc, hin, hz => by
    have ih := fun acc' => compI_ty (m := m) p F hl hs rest acc' (fun r hr => hin r (List.mem_cons_of_mem _ hr))
    obtain ⟨s2, e1, e2, e3⟩ := hs q (hin q (by simp))
    simp only [List.length_cons] at hz
    have hsz : sizeLine = 16777216 := by decide
    have hcond : hk[n]? = some (O.dci true kvs) ∧ acc.length < sizeLine := ⟨hl, by omega⟩
    unfold compI
    rw [if_pos hcond]
    unfold stepC
    rw [e1]
    dsimp only
    rw [e2]
    cases hp : p q.1 with
    | false =>
      show compI g tt te s n kvs (newL m) rest acc hk = _
      rw [ih acc (by omega), List.map_cons, List.filter_cons_of_neg (by simp [hp])]
    | true =>
      show (quiet (te s2 hk)).bind (fun y h4 => compI g tt te s n kvs (newL m) rest (acc ++ [y]) h4) = _
      rw [e3 hp]
      show compI g tt te s n kvs (newL m) rest (acc ++ [F q.1]) hk = _
      rw [ih (acc ++ [F q.1]) (by simp; omega), List.map_cons, List.filter_cons_of_pos hp]
      simp
theorem compI_eq {g : Tg} {tt : FT} {te : FE} {vs : List Nat} {i : Nat} {m : Bool} (p : Int → Bool) (F : Int → D) (hi : s[i]? = some (some (.loc n))) (hn : h[n]? = some (.dci false kvs)) (hz : kvs.length < 16777216)
    (hs : ∀ q ∈ kvs, ∃ s2, g (.int q.1) (wipeS s vs) (List.set h n (.dci true kvs)) = some s2 ∧ tt s2 (List.set h n (.dci true kvs)) = .ok (p q.1) (List.set h n (.dci true kvs)) ∧ (p q.1 = true → te s2 (List.set h n (.dci true kvs)) = .ok (F q.1) (List.set h n (.dci true kvs)))) :
    eCompI m vs i g tt te s h = newL m (((kvs.map (·.1)).filter p).map F) h := by
  have hlt := lt_of_get hn
  have hl : (List.set h n (O.dci true kvs))[n]? = some (O.dci true kvs) := List.getElem?_set_self hlt
  have key := compI_ty (m := m) (s := wipeS s vs) p F hl hs kvs [] (fun q hq => hq) (by simpa using hz)
  have hb : List.set (List.set h n (O.dci true kvs)) n (O.dci false kvs) = h := by
    rw [List.set_set]
    apply List.ext_getElem?
    intro j
    by_cases hj : n = j
    · subst hj
      rw [List.getElem?_set_self hlt]; exact hn.symm
    · rw [List.getElem?_set_ne hj]
  rw [hb, List.nil_append] at key
  unfold eCompI
  rw [hi]
  dsimp only
  rw [dciF_at hn]
  exact key
end
end WD
namespace WD
open PySem PySem.Spec PyProof.Rows L2
theorem walk_ofX {l : PySem.W.OpenLaw} {n k : Nat} {q : Program} {loose : List Str} {XP : (Str → Option Value) → Heap → Prop} {YP : World → Heap → Prop} {d : DefRec} {CX : World → CXT} {x : Str}
    (most : l.most = some n) (fits : n ≤ sizeLine) (nodef : d.params.defaults = []) (rm : Room k callerA)
    (F : ∀ (w : World) (mg : Str → Option Value) (fa : Addr) (h : Heap), YP w h → h.Ns mainGlobals mg → mg d.name = some (.ref fa) →
      ∃ (K : PySem.W.Frag) (fd : FuncData) (sp : Sp), K.In h ∧ (∀ (s : Shared) (u : Value), BindsTo s fd ⟨[u], []⟩ [(x, u)]) ∧
        (∀ (H : Hp) (a : Addr) (ns : List Int), ns.length ≤ n → Only H → SqL K H a (ns.map V.int) → sp [.ref a] H (fun v _ => v = .bl true) fun _ _ _ => False) ∧
        ∀ base : Heap, K.In base → base.Ns mainGlobals mg → FnOk l.prog w K mg base (CX w) k fa fd [x] sp)
    (hCX : ∀ (w : World) (H : Hp) (s : Shared) (e : Value) (s' : Shared), CX w [] H s (fun _ _ _ => False) e s' → False) :
    PySem.W.WalkO q loose XP YP l.row.toRowW d [] (fun f vs => PySem.call f vs) :=
  Att.attach_call most nodef fun w s₀ s₁ mg mb fa o pm cd doc a vs ns G Y ho hd hcd hmg hobj hints hlen hg =>
    have ⟨K, fd, sp, KX, hb, hsp, hF⟩ := F w mg fa _ Y G.T.g hmg
    law_call KX G.T.g G.T.b G.T.builtins G.T.nolimit hg hobj hints (Nat.le_trans hlen fits) rm hF hb (fun H hO hS => hsp H a ns hlen hO hS) fun H e s' => hCX w H s₁ e s'
end WD

namespace WD
open PySem PySem.Spec PyProof.Rows L2
@[simp] noncomputable def t_is_whole_0 : FS := (sRet (eAndF (eIsi ["int"] (eVar 0)) (eAndF (eNotF (eIsi ["bool"] (eVar 0))) (eChain leD leD (eVar 1) (eVar 0) (eVar 2)))))
noncomputable def b_is_whole : FS :=
  t_is_whole_0
noncomputable def F_is_whole : List D → Hs → R D := runF 3 3 .trunc b_is_whole
@[simp] noncomputable def t_is_row_0 : FS := (sRet (eIsi ["list", "tuple"] (eVar 0)))
noncomputable def b_is_row : FS :=
  t_is_row_0
noncomputable def F_is_row : List D → Hs → R D := runF 1 1 .trunc b_is_row
@[simp] noncomputable def t_is_rising_0a_0 : FS := (sRet (eC (.bl false)))
@[simp] noncomputable def t_is_rising_0 : FS := (sIf (tNotF (tV (eCall 1 F_is_row (aCons (eVar 0) aNil)))) t_is_rising_0a_0 sNext)
@[simp] noncomputable def t_is_rising_1 : FS := (sSet 3 (eBin subD (eVar 1) (eC (.int 1))))
@[simp] noncomputable def t_is_rising_2_0a_0 : FS := (sRet (eC (.bl false)))
@[simp] noncomputable def t_is_rising_2_0 : FS := (sIf (tNotF (tV (eCall 3 F_is_whole (aCons (eVar 4) (aCons (eBin addD (eVar 3) (eC (.int 1))) (aCons (eVar 2) aNil)))))) t_is_rising_2_0a_0 sNext)
@[simp] noncomputable def t_is_rising_2_1 : FS := (sSet 3 (eVar 4))
noncomputable def k_is_rising_2 : FS := (sFa [4] (sSeq t_is_rising_2_0 t_is_rising_2_1))
@[simp] theorem k_is_rising_2_ap (s : Ss) (h : Hs) : k_is_rising_2 s h = (sFa [4] (sSeq t_is_rising_2_0 t_is_rising_2_1)) s h := (rfl)
@[simp] noncomputable def t_is_rising_2 : FS := (sFa [3, 4] (sFb [4] (sFor (iRow (eVar 0)) (gVar 4) k_is_rising_2)))
@[simp] noncomputable def t_is_rising_3 : FS := (sRet (eC (.bl true)))
noncomputable def b_is_rising : FS :=
  (sSeq t_is_rising_0 (sSeq t_is_rising_1 (sSeq t_is_rising_2 t_is_rising_3)))
noncomputable def F_is_rising : List D → Hs → R D := runF 3 5 .trunc b_is_rising
noncomputable def b_told_rows (self : List D → Hs → R D) : FS :=
  (sSeq (sIf (tV (eCall 1 F_is_row (aCons (eVar 0) aNil))) (sRet (eB tupleD (aCons (eComp false [1] (iRow (eVar 0)) (gVar 1) tYesF (eCall 1 self (aCons (eVar 1) aNil))) aNil))) sNext) (sRet (eVar 0)))
noncomputable def F_told_rows : Nat → List D → Hs → R D
  | 0 => fun _ _ => .bad
  | n + 1 => runF 1 2 .trunc (b_told_rows (F_told_rows n))
@[simp] noncomputable def t_is_day_0 : FS := (sRet (eAndF (eCall 3 F_is_rising (aCons (eVar 1) (aCons (eC (.int 0)) (aCons (eBin subD (eVar 0) (eC (.int 1))) aNil)))) (eBin leD (eB lenD (aCons (eVar 1) aNil)) (eC (.int 2)))))
noncomputable def b_is_day : FS :=
  t_is_day_0
noncomputable def F_is_day : List D → Hs → R D := runF 2 2 .trunc b_is_day
@[simp] noncomputable def t_are_days_0a_0 : FS := (sRet (eC (.bl false)))
@[simp] noncomputable def t_are_days_0 : FS := (sIf (tOrF (tNotF (tV (eCall 1 F_is_row (aCons (eVar 1) aNil)))) (tV (eBin gtD (eB lenD (aCons (eVar 1) aNil)) (eC (.int 4000))))) t_are_days_0a_0 sNext)
@[simp] noncomputable def t_are_days_1 : FS := (sRet (eBin (eqD false) (eComp false [2] (iRow (eVar 1)) (gVar 2) (tNotF (tV (eCall 2 F_is_day (aCons (eVar 0) (aCons (eVar 2) aNil))))) (eVar 2)) (eLst false aNil)))
noncomputable def b_are_days : FS :=
  (sSeq t_are_days_0 t_are_days_1)
noncomputable def F_are_days : List D → Hs → R D := runF 2 3 .trunc b_are_days
@[simp] noncomputable def t_is_ring_0 : FS := (sRet (eAndF (eCall 2 F_are_days (aCons (eVar 0) (aCons (eVar 1) aNil))) (eBin gtD (eB lenD (aCons (eVar 1) aNil)) (eC (.int 0)))))
noncomputable def b_is_ring : FS :=
  t_is_ring_0
noncomputable def F_is_ring : List D → Hs → R D := runF 2 2 .trunc b_is_ring
@[simp] noncomputable def t_asked_ring_0a_0 : FS := (sRaise "NoRing")
@[simp] noncomputable def t_asked_ring_0 : FS := (sIf (tNotF (tV (eCall 2 F_is_ring (aCons (eVar 0) (aCons (eVar 1) aNil))))) t_asked_ring_0a_0 sNext)
@[simp] noncomputable def t_asked_ring_1 : FS := (sRet (eCall 1 (F_told_rows 45) (aCons (eVar 1) aNil)))
noncomputable def b_asked_ring : FS :=
  (sSeq t_asked_ring_0 t_asked_ring_1)
noncomputable def F_asked_ring : List D → Hs → R D := runF 2 2 .trunc b_asked_ring
@[simp] noncomputable def t_farthest_0_0a_0 : FS := (sRet (eBin addD (eVar 2) (eVar 4)))
@[simp] noncomputable def t_farthest_0_0 : FS := (sIf (tV (eBin ltD (eB lenD (aCons (eBin ixD (eVar 0) (eBin modD (eBin addD (eVar 2) (eVar 4)) (eB lenD (aCons (eVar 0) aNil)))) aNil)) (eVar 1))) t_farthest_0_0a_0 sNext)
noncomputable def k_farthest_0 : FS := (sFa [4] t_farthest_0_0)
@[simp] theorem k_farthest_0_ap (s : Ss) (h : Hs) : k_farthest_0 s h = (sFa [4] t_farthest_0_0) s h := (rfl)
@[simp] noncomputable def t_farthest_0 : FS := (sFb [4] (sFor (iRngC (aCons (eVar 3) (aCons (eC (.int 0)) (aCons (negD (eC (.int 1))) aNil)))) (gVar 4) k_farthest_0))
@[simp] noncomputable def t_farthest_1 : FS := (sRet (eC .non))
noncomputable def b_farthest : FS :=
  (sSeq t_farthest_0 t_farthest_1)
noncomputable def F_farthest : List D → Hs → R D := runF 4 5 .trunc b_farthest
@[simp] noncomputable def t_places_from_0 : FS := (sSet 4 (eLst true (aCons (eVar 2) aNil)))
@[simp] noncomputable def t_places_from_1_0 : FS := (sSet 5 (eCall 4 F_farthest (aCons (eVar 0) (aCons (eVar 1) (aCons (eBin ixD (eVar 4) (negD (eC (.int 1)))) (aCons (eVar 3) aNil))))))
@[simp] noncomputable def t_places_from_1_1a_0 : FS := (sRet (eC .non))
@[simp] noncomputable def t_places_from_1_1 : FS := (sIf (tV (eBin (isNonD false) (eVar 5) (eC .non))) t_places_from_1_1a_0 sNext)
@[simp] noncomputable def t_places_from_1_2 : FS := (sExpr (eML appendD (eVar 4) (aCons (eVar 5) aNil)))
noncomputable def k_places_from_1 : FS := (sFa [5] (sSeq t_places_from_1_0 (sSeq t_places_from_1_1 t_places_from_1_2)))
@[simp] theorem k_places_from_1_ap (s : Ss) (h : Hs) : k_places_from_1 s h = (sFa [5] (sSeq t_places_from_1_0 (sSeq t_places_from_1_1 t_places_from_1_2))) s h := (rfl)
@[simp] noncomputable def t_places_from_1 : FS := (sFb [5] (sWhile (tV (eBin gtD (eBin subD (eBin addD (eVar 2) (eB lenD (aCons (eVar 0) aNil))) (eBin ixD (eVar 4) (negD (eC (.int 1))))) (eVar 3))) k_places_from_1))
@[simp] noncomputable def t_places_from_2 : FS := (sRet (eVar 4))
noncomputable def b_places_from : FS :=
  (sSeq t_places_from_0 (sSeq t_places_from_1 t_places_from_2))
noncomputable def F_places_from : List D → Hs → R D := runF 4 6 .trunc b_places_from
@[simp] noncomputable def t_fewest_places_0 : FS := (sSet 3 (eC .non))
@[simp] noncomputable def t_fewest_places_1_0a_0 : FS := (sSet 5 (eCall 4 F_places_from (aCons (eVar 0) (aCons (eVar 1) (aCons (eVar 4) (aCons (eVar 2) aNil))))))
@[simp] noncomputable def t_fewest_places_1_0a_1a_0 : FS := (sSet 3 (eVar 5))
@[simp] noncomputable def t_fewest_places_1_0a_1 : FS := (sIf (tAndF (tV (eBin (isNonD true) (eVar 5) (eC .non))) (tOrF (tV (eBin (isNonD false) (eVar 3) (eC .non))) (tV (eBin ltD (eB lenD (aCons (eVar 5) aNil)) (eB lenD (aCons (eVar 3) aNil)))))) t_fewest_places_1_0a_1a_0 sNext)
@[simp] noncomputable def t_fewest_places_1_0 : FS := (sIf (tV (eBin ltD (eB lenD (aCons (eBin ixD (eVar 0) (eVar 4)) aNil)) (eVar 1))) (sSeq t_fewest_places_1_0a_0 t_fewest_places_1_0a_1) sNext)
noncomputable def k_fewest_places_1 : FS := (sFa [4, 5] t_fewest_places_1_0)
@[simp] theorem k_fewest_places_1_ap (s : Ss) (h : Hs) : k_fewest_places_1 s h = (sFa [4, 5] t_fewest_places_1_0) s h := (rfl)
@[simp] noncomputable def t_fewest_places_1 : FS := (sFb [4, 5] (sFor (iRng1 (aCons (eB minD (aCons (eVar 2) (aCons (eB lenD (aCons (eVar 0) aNil)) aNil))) aNil)) (gVar 4) k_fewest_places_1))
@[simp] noncomputable def t_fewest_places_2 : FS := (sRet (eVar 3))
noncomputable def b_fewest_places : FS :=
  (sSeq t_fewest_places_0 (sSeq t_fewest_places_1 t_fewest_places_2))
noncomputable def F_fewest_places : List D → Hs → R D := runF 3 6 .trunc b_fewest_places
@[simp] noncomputable def t_put_in_0 : FS := (sSet 0 (eCall 2 F_asked_ring (aCons (eC (.int 8)) (aCons (eVar 0) aNil))))
@[simp] noncomputable def t_put_in_1a_0 : FS := (sRaise "NoDays")
@[simp] noncomputable def t_put_in_1 : FS := (sIf (tOrF (tNotF (tV (eCall 3 F_is_whole (aCons (eVar 1) (aCons (eC (.int 1)) (aCons (eC (.int 2)) aNil)))))) (tOrF (tNotF (tV (eCall 3 F_is_whole (aCons (eVar 2) (aCons (eC (.int 0)) (aCons (eBin subD (eC (.int 8)) (eC (.int 1))) aNil)))))) (tNotF (tV (eCall 3 F_is_whole (aCons (eVar 3) (aCons (eC (.int 1)) (aCons (eC (.int 40)) aNil)))))))) t_put_in_1a_0 sNext)
@[simp] noncomputable def t_put_in_2a_0 : FS := (sRaise "NoThing")
@[simp] noncomputable def t_put_in_2 : FS := (sIf (tV (eBin (eqD true) (eComp false [4] (iRow (eVar 0)) (gVar 4) (tV (eBin (inD false) (eVar 2) (eVar 4))) (eVar 4)) (eLst false aNil))) t_put_in_2a_0 sNext)
@[simp] noncomputable def t_put_in_3 : FS := (sSet 5 (eCall 3 F_fewest_places (aCons (eVar 0) (aCons (eVar 1) (aCons (eVar 3) aNil)))))
@[simp] noncomputable def t_put_in_4a_0 : FS := (sRet (eC .non))
@[simp] noncomputable def t_put_in_4 : FS := (sIf (tV (eBin (isNonD false) (eVar 5) (eC .non))) t_put_in_4a_0 sNext)
@[simp] noncomputable def t_put_in_5 : FS := (sSet 6 (eComp false [7] (iRow (eVar 5)) (gVar 7) tYesF (eBin modD (eVar 7) (eB lenD (aCons (eVar 0) aNil)))))
@[simp] noncomputable def t_put_in_6 : FS := (sRet (eB tupleD (aCons (eComp false [8, 4] (iEnumerate (aCons (eVar 0) aNil)) (gUn [(gVar 8), (gVar 4)]) tYesF (eB tupleD (aCons (eB (sortedD false) (aCons (eBin addD (eVar 4) (eBin mulD (eTup (aCons (eVar 2) aNil)) (eB intD (aCons (eBin (inD false) (eVar 8) (eVar 6)) aNil)))) aNil)) aNil))) aNil)))
noncomputable def b_put_in : FS :=
  (sSeq t_put_in_0 (sSeq t_put_in_1 (sSeq t_put_in_2 (sSeq t_put_in_3 (sSeq t_put_in_4 (sSeq t_put_in_5 t_put_in_6))))))
noncomputable def F_put_in : List D → Hs → R D := runF 4 9 .trunc b_put_in
@[simp] noncomputable def t__law_deck_0 : FS := (sSet 2 (eB (listD true) (aCons (eVar 0) aNil)))
@[simp] noncomputable def t__law_deck_1a_0 : FS := (sSet 2 (eLst true (aCons (eC (.int 4)) aNil)))
@[simp] noncomputable def t__law_deck_1 : FS := (sIf (tV (eBin (eqD false) (eVar 2) (eLst false aNil))) t__law_deck_1a_0 sNext)
@[simp] noncomputable def t__law_deck_2 : FS := (sSet 3 (eBin modD (eBin ixD (eVar 2) (eC (.int 0))) (eC (.int 2))))
@[simp] noncomputable def t__law_deck_3 : FS := (sItem (eVar 2) (eC (.int 0)) (eBin fdivD (eBin ixD (eVar 2) (eC (.int 0))) (eC (.int 2))))
@[simp] noncomputable def t__law_deck_4 : FS := (sSet 4 (eLst true aNil))
@[simp] noncomputable def t__law_deck_5_0 : FS := (sSet 6 (eBin modD (eVar 5) (eB lenD (aCons (eVar 2) aNil))))
@[simp] noncomputable def t__law_deck_5_1 : FS := (sSet 7 (eBin modD (eBin ixD (eVar 2) (eVar 6)) (eC (.int 1000000))))
@[simp] noncomputable def t__law_deck_5_2a_0 : FS := (sSet 7 (eBin modD (eBin addD (eBin addD (eBin ixD (eVar 2) (eVar 6)) (eBin mulD (eBin mulD (eVar 5) (eVar 5)) (eC (.int 16807)))) (eBin mulD (eC (.int 3)) (eVar 5))) (eC (.int 2147483629))))
@[simp] noncomputable def t__law_deck_5_2a_1 : FS := (sSet 7 (eBin modD (eBin addD (eBin mulD (eVar 7) (eBin ixD (eLst false (aCons (eC (.int 48271)) (aCons (eC (.int 69621)) (aCons (eC (.int 39373)) (aCons (eC (.int 40692)) aNil))))) (eBin modD (eVar 5) (eC (.int 4))))) (eC (.int 7))) (eC (.int 2147483647))))
@[simp] noncomputable def t__law_deck_5_2a_2 : FS := (sSet 7 (eBin modD (eBin mulD (eVar 7) (eVar 7)) (eC (.int 2147483629))))
@[simp] noncomputable def t__law_deck_5_2b_0 : FS := (sItem (eVar 2) (eVar 6) (eBin fdivD (eBin ixD (eVar 2) (eVar 6)) (eC (.int 1000000))))
@[simp] noncomputable def t__law_deck_5_2 : FS := (sIf (tV (eBin (eqD false) (eVar 3) (eC (.int 0)))) (sSeq t__law_deck_5_2a_0 (sSeq t__law_deck_5_2a_1 t__law_deck_5_2a_2)) t__law_deck_5_2b_0)
@[simp] noncomputable def t__law_deck_5_3 : FS := (sExpr (eML appendD (eVar 4) (aCons (eVar 7) aNil)))
noncomputable def k__law_deck_5 : FS := (sFa [5, 6, 7] (sSeq t__law_deck_5_0 (sSeq t__law_deck_5_1 (sSeq t__law_deck_5_2 t__law_deck_5_3))))
@[simp] theorem k__law_deck_5_ap (s : Ss) (h : Hs) : k__law_deck_5 s h = (sFa [5, 6, 7] (sSeq t__law_deck_5_0 (sSeq t__law_deck_5_1 (sSeq t__law_deck_5_2 t__law_deck_5_3)))) s h := (rfl)
@[simp] noncomputable def t__law_deck_5 : FS := (sFb [5, 6, 7] (sFor (iRng1 (aCons (eVar 1) aNil)) (gVar 5) k__law_deck_5))
@[simp] noncomputable def t__law_deck_6 : FS := (sExpr (eML reverseD (eVar 4) aNil))
@[simp] noncomputable def t__law_deck_7 : FS := (sRet (eVar 4))
noncomputable def b__law_deck : FS :=
  (sSeq t__law_deck_0 (sSeq t__law_deck_1 (sSeq t__law_deck_2 (sSeq t__law_deck_3 (sSeq t__law_deck_4 (sSeq t__law_deck_5 (sSeq t__law_deck_6 t__law_deck_7)))))))
noncomputable def F__law_deck : List D → Hs → R D := runF 2 8 .move b__law_deck
@[simp] noncomputable def t__law_whole_0 : FS := (sRet (eAndF (eIsi ["int"] (eVar 0)) (eAndF (eNotF (eIsi ["bool"] (eVar 0))) (eChain leD leD (eVar 1) (eVar 0) (eVar 2)))))
noncomputable def b__law_whole : FS :=
  t__law_whole_0
noncomputable def F__law_whole : List D → Hs → R D := runF 3 3 .trunc b__law_whole
noncomputable def b__law_lists (self : List D → Hs → R D) : FS :=
  (sSeq (sIf (tV (eIsi ["list", "tuple"] (eVar 0))) (sRet (eComp false [1] (iRow (eVar 0)) (gVar 1) tYesF (eCall 1 self (aCons (eVar 1) aNil)))) sNext) (sRet (eVar 0)))
noncomputable def F__law_lists : Nat → List D → Hs → R D
  | 0 => fun _ _ => .bad
  | n + 1 => runF 1 2 .keep (b__law_lists (F__law_lists n))
@[simp] noncomputable def t__law_handed_0a_0 : FS := (sRet (eVar 0))
@[simp] noncomputable def t__law_handed_0 : FS := (sIf (tV (eBin (eqD false) (eBin modD (eVar 1) (eC (.int 2))) (eC (.int 0)))) t__law_handed_0a_0 sNext)
@[simp] noncomputable def t__law_handed_1 : FS := (sRet (eCall 1 (F__law_lists 45) (aCons (eVar 0) aNil)))
noncomputable def b__law_handed : FS :=
  (sSeq t__law_handed_0 t__law_handed_1)
noncomputable def F__law_handed : List D → Hs → R D := runF 2 2 .keep b__law_handed
@[simp] noncomputable def t__law_odd_0 : FS := (sSet 1 (eLst false (aCons (eC .non) (aCons (eC (.bl true)) (aCons (eC (.bl false)) (aCons (eC (.str "3")) (aCons (eC (.str "")) (aCons (eTup aNil) (aCons (eLst false aNil) (aCons (eC (.dic [] [])) (aCons (eTup (aCons (eC (.int 1)) aNil)) (aCons (eLst false (aCons (eLst false (aCons (eC (.int 2)) aNil)) aNil)) (aCons (negD (eC (.int 1))) (aCons (eBin powD (eC (.int 10)) (eC (.int 60))) (aCons (eBin subD (eC (.int 0)) (eBin powD (eC (.int 10)) (eC (.int 60)))) (aCons (eC (.str "abc")) (aCons (eC (.dic [.inl 1] [.int 2])) (aCons (eTup (aCons (eC .non) aNil)) aNil))))))))))))))))))
@[simp] noncomputable def t__law_odd_1 : FS := (sRet (eBin ixD (eVar 1) (eBin modD (eVar 0) (eC (.int 16)))))
noncomputable def b__law_odd : FS :=
  (sSeq t__law_odd_0 t__law_odd_1)
noncomputable def F__law_odd : List D → Hs → R D := runF 1 2 .trunc b__law_odd
@[simp] noncomputable def t__law_is_day_0a_0 : FS := (sRet (eC (.bl false)))
@[simp] noncomputable def t__law_is_day_0 : FS := (sIf (tOrF (tNotF (tV (eIsi ["list", "tuple"] (eVar 1)))) (tV (eBin gtD (eB lenD (aCons (eVar 1) aNil)) (eC (.int 2))))) t__law_is_day_0a_0 sNext)
@[simp] noncomputable def t__law_is_day_1a_0 : FS := (sRet (eC (.bl false)))
@[simp] noncomputable def t__law_is_day_1 : FS := (sIf (tV (eBin (eqD true) (eComp false [2] (iRow (eVar 1)) (gVar 2) (tNotF (tV (eCall 3 F__law_whole (aCons (eVar 2) (aCons (eC (.int 0)) (aCons (eBin subD (eVar 0) (eC (.int 1))) aNil)))))) (eVar 2)) (eLst false aNil))) t__law_is_day_1a_0 sNext)
@[simp] noncomputable def t__law_is_day_2 : FS := (sRet (eOrF (eBin ltD (eB lenD (aCons (eVar 1) aNil)) (eC (.int 2))) (eBin ltD (eBin ixD (eVar 1) (eC (.int 0))) (eBin ixD (eVar 1) (eC (.int 1))))))
noncomputable def b__law_is_day : FS :=
  (sSeq t__law_is_day_0 (sSeq t__law_is_day_1 t__law_is_day_2))
noncomputable def F__law_is_day : List D → Hs → R D := runF 2 3 .trunc b__law_is_day
@[simp] noncomputable def t__law_is_ring_0a_0 : FS := (sRet (eC (.bl false)))
@[simp] noncomputable def t__law_is_ring_0 : FS := (sIf (tOrF (tNotF (tV (eIsi ["list", "tuple"] (eVar 1)))) (tNotF (tV (eChain leD leD (eC (.int 1)) (eB lenD (aCons (eVar 1) aNil)) (eC (.int 4000)))))) t__law_is_ring_0a_0 sNext)
@[simp] noncomputable def t__law_is_ring_1 : FS := (sRet (eBin (eqD false) (eComp false [2] (iRow (eVar 1)) (gVar 2) (tNotF (tV (eCall 2 F__law_is_day (aCons (eVar 0) (aCons (eVar 2) aNil))))) (eVar 2)) (eLst false aNil)))
noncomputable def b__law_is_ring : FS :=
  (sSeq t__law_is_ring_0 t__law_is_ring_1)
noncomputable def F__law_is_ring : List D → Hs → R D := runF 2 3 .trunc b__law_is_ring
@[simp] noncomputable def t__law_day_0 : FS := (sSet 2 (eML popD (eVar 0) aNil))
@[simp] noncomputable def t__law_day_1a_0 : FS := (sRet (eTup aNil))
@[simp] noncomputable def t__law_day_1 : FS := (sIf (tOrF (tV (eBin (eqD false) (eVar 1) (eC (.int 0)))) (tV (eBin (eqD false) (eBin modD (eVar 2) (eC (.int 5))) (eC (.int 0))))) t__law_day_1a_0 sNext)
@[simp] noncomputable def t__law_day_2 : FS := (sSet 3 (eBin modD (eBin fdivD (eVar 2) (eC (.int 5))) (eVar 1)))
@[simp] noncomputable def t__law_day_3 : FS := (sSet 4 (eBin modD (eBin fdivD (eVar 2) (eC (.int 64))) (eVar 1)))
@[simp] noncomputable def t__law_day_4a_0 : FS := (sRet (eTup (aCons (eVar 3) aNil)))
@[simp] noncomputable def t__law_day_4 : FS := (sIf (tOrF (tV (eBin gtD (eBin modD (eBin fdivD (eVar 2) (eC (.int 1024))) (eC (.int 3))) (eC (.int 0)))) (tV (eBin (eqD false) (eVar 3) (eVar 4)))) t__law_day_4a_0 sNext)
@[simp] noncomputable def t__law_day_5 : FS := (sRet (eTup (aCons (eB minD (aCons (eVar 3) (aCons (eVar 4) aNil))) (aCons (eB maxD (aCons (eVar 3) (aCons (eVar 4) aNil))) aNil))))
noncomputable def b__law_day : FS :=
  (sSeq t__law_day_0 (sSeq t__law_day_1 (sSeq t__law_day_2 (sSeq t__law_day_3 (sSeq t__law_day_4 t__law_day_5)))))
noncomputable def F__law_day : List D → Hs → R D := runF 2 5 .trunc b__law_day
@[simp] noncomputable def t__law_ring_0 : FS := (sRet (eB tupleD (aCons (eComp false [3] (iRng1 (aCons (eVar 2) aNil)) (gVar 3) tYesF (eCall 2 F__law_day (aCons (eVar 0) (aCons (eVar 1) aNil)))) aNil)))
noncomputable def b__law_ring : FS :=
  t__law_ring_0
noncomputable def F__law_ring : List D → Hs → R D := runF 3 4 .trunc b__law_ring
@[simp] noncomputable def t__law_gaps_0 : FS := (sSet 2 (eLst true aNil))
@[simp] noncomputable def t__law_gaps_1_0a_0 : FS := (sSet 4 (eC (.int 1)))
@[simp] noncomputable def t__law_gaps_1_0a_1_0 : FS := (sSet 4 (eBin addD (eVar 4) (eC (.int 1))))
noncomputable def k__law_gaps_1_0a_1 : FS := t__law_gaps_1_0a_1_0
@[simp] theorem k__law_gaps_1_0a_1_ap (s : Ss) (h : Hs) : k__law_gaps_1_0a_1 s h = t__law_gaps_1_0a_1_0 s h := (rfl)
@[simp] noncomputable def t__law_gaps_1_0a_1 : FS := (sWhile (tV (eBin (inD true) (eVar 1) (eBin ixD (eVar 0) (eBin modD (eBin addD (eVar 3) (eVar 4)) (eB lenD (aCons (eVar 0) aNil)))))) k__law_gaps_1_0a_1)
@[simp] noncomputable def t__law_gaps_1_0a_2 : FS := (sExpr (eML appendD (eVar 2) (aCons (eVar 4) aNil)))
@[simp] noncomputable def t__law_gaps_1_0 : FS := (sIf (tV (eBin (inD false) (eVar 1) (eBin ixD (eVar 0) (eVar 3)))) (sSeq t__law_gaps_1_0a_0 (sSeq t__law_gaps_1_0a_1 t__law_gaps_1_0a_2)) sNext)
noncomputable def k__law_gaps_1 : FS := (sFa [3, 4] t__law_gaps_1_0)
@[simp] theorem k__law_gaps_1_ap (s : Ss) (h : Hs) : k__law_gaps_1 s h = (sFa [3, 4] t__law_gaps_1_0) s h := (rfl)
@[simp] noncomputable def t__law_gaps_1 : FS := (sFb [3, 4] (sFor (iRng1 (aCons (eB lenD (aCons (eVar 0) aNil)) aNil)) (gVar 3) k__law_gaps_1))
@[simp] noncomputable def t__law_gaps_2 : FS := (sRet (eB tupleD (aCons (eVar 2) aNil)))
noncomputable def b__law_gaps : FS :=
  (sSeq t__law_gaps_0 (sSeq t__law_gaps_1 t__law_gaps_2))
noncomputable def F__law_gaps : List D → Hs → R D := runF 2 5 .trunc b__law_gaps
@[simp] noncomputable def t__law_fewest_0 : FS := (sSet 3 (eComp false [4] (iRng1 (aCons (eB lenD (aCons (eVar 0) aNil)) aNil)) (gVar 4) (tV (eBin ltD (eB lenD (aCons (eBin ixD (eVar 0) (eVar 4)) aNil)) (eVar 1))) (eVar 4)))
@[simp] noncomputable def t__law_fewest_1 : FS := (sSet 5 (eC .non))
@[simp] noncomputable def t__law_fewest_2_0 : FS := (sSet 7 (eIOne (eVar 6) (eC (.int 1))))
@[simp] noncomputable def t__law_fewest_2_1_0 : FS := (sSet 9 (eCompI false [8] 7 (gVar 8) (tV (eChain ltD leD (eVar 8) (eVar 4) (eBin addD (eVar 8) (eVar 2)))) (eIGet (eVar 7) (eVar 8))))
@[simp] noncomputable def t__law_fewest_2_1_1a_0 : FS := (sIPut (eVar 7) (eVar 4) (eBin addD (eC (.int 1)) (eB minD (aCons (eVar 9) aNil))))
@[simp] noncomputable def t__law_fewest_2_1_1 : FS := (sIf (tAndF (tV (eBin (eqD true) (eVar 9) (eLst false aNil))) (tV (eBin gtD (eVar 4) (eVar 6)))) t__law_fewest_2_1_1a_0 sNext)
noncomputable def k__law_fewest_2_1 : FS := (sFa [4, 9] (sSeq t__law_fewest_2_1_0 t__law_fewest_2_1_1))
@[simp] theorem k__law_fewest_2_1_ap (s : Ss) (h : Hs) : k__law_fewest_2_1 s h = (sFa [4, 9] (sSeq t__law_fewest_2_1_0 t__law_fewest_2_1_1)) s h := (rfl)
@[simp] noncomputable def t__law_fewest_2_1 : FS := (sFb [4, 9] (sFor (iRow (eBin addD (eVar 3) (eComp false [8] (iRow (eVar 3)) (gVar 8) tYesF (eBin addD (eVar 8) (eB lenD (aCons (eVar 0) aNil)))))) (gVar 4) k__law_fewest_2_1))
@[simp] noncomputable def t__law_fewest_2_2a_0 : FS := (sSet 5 (eBin subD (eIGet (eVar 7) (eBin addD (eVar 6) (eB lenD (aCons (eVar 0) aNil)))) (eC (.int 1))))
@[simp] noncomputable def t__law_fewest_2_2 : FS := (sIf (tAndF (tV (eBin (inKI false) (eBin addD (eVar 6) (eB lenD (aCons (eVar 0) aNil))) (eVar 7))) (tOrF (tV (eBin (isNonD false) (eVar 5) (eC .non))) (tV (eBin ltD (eBin subD (eIGet (eVar 7) (eBin addD (eVar 6) (eB lenD (aCons (eVar 0) aNil)))) (eC (.int 1))) (eVar 5))))) t__law_fewest_2_2a_0 sNext)
noncomputable def k__law_fewest_2 : FS := (sFa [4, 6, 7, 9] (sSeq t__law_fewest_2_0 (sSeq t__law_fewest_2_1 t__law_fewest_2_2)))
@[simp] theorem k__law_fewest_2_ap (s : Ss) (h : Hs) : k__law_fewest_2 s h = (sFa [4, 6, 7, 9] (sSeq t__law_fewest_2_0 (sSeq t__law_fewest_2_1 t__law_fewest_2_2))) s h := (rfl)
@[simp] noncomputable def t__law_fewest_2 : FS := (sFb [4, 6, 7, 9] (sFor (iRow (eVar 3)) (gVar 6) k__law_fewest_2))
@[simp] noncomputable def t__law_fewest_3 : FS := (sRet (eVar 5))
noncomputable def b__law_fewest : FS :=
  (sSeq t__law_fewest_0 (sSeq t__law_fewest_1 (sSeq t__law_fewest_2 t__law_fewest_3)))
noncomputable def F__law_fewest : List D → Hs → R D := runF 3 10 .trunc b__law_fewest
@[simp] noncomputable def t__law_tried_0 : FS := (sSet 3 (eC .non))
@[simp] noncomputable def t__law_tried_1_0 : FS := (sSet 5 (eComp false [6] (iRng1 (aCons (eB lenD (aCons (eVar 0) aNil)) aNil)) (gVar 6) (tV (eBin (eqD false) (eBin modD (eBin shrD (eVar 4) (eVar 6)) (eC (.int 2))) (eC (.int 1)))) (eVar 6)))
@[simp] noncomputable def t__law_tried_1_1a_0 : FS := (sSet 7 (eB tupleD (aCons (eComp false [6] (iRng1 (aCons (eB lenD (aCons (eVar 0) aNil)) aNil)) (gVar 6) tYesF (eBin ixD (eTup (aCons (eTup aNil) (aCons (eTup (aCons (eC (.int 0)) aNil)) aNil))) (eB intD (aCons (eBin (inD false) (eVar 6) (eVar 5)) aNil)))) aNil)))
@[simp] noncomputable def t__law_tried_1_1a_1a_0 : FS := (sSet 3 (eB lenD (aCons (eVar 5) aNil)))
@[simp] noncomputable def t__law_tried_1_1a_1 : FS := (sIf (tAndF (tV (eBin leD (eB maxD (aCons (eCall 2 F__law_gaps (aCons (eVar 7) (aCons (eC (.int 0)) aNil))) aNil)) (eVar 2))) (tOrF (tV (eBin (isNonD false) (eVar 3) (eC .non))) (tV (eBin ltD (eB lenD (aCons (eVar 5) aNil)) (eVar 3))))) t__law_tried_1_1a_1a_0 sNext)
@[simp] noncomputable def t__law_tried_1_1 : FS := (sIf (tV (eBin (eqD false) (eComp false [6] (iRow (eVar 5)) (gVar 6) (tV (eBin geD (eB lenD (aCons (eBin ixD (eVar 0) (eVar 6)) aNil)) (eVar 1))) (eVar 6)) (eLst false aNil))) (sSeq t__law_tried_1_1a_0 t__law_tried_1_1a_1) sNext)
noncomputable def k__law_tried_1 : FS := (sFa [4, 5, 7] (sSeq t__law_tried_1_0 t__law_tried_1_1))
@[simp] theorem k__law_tried_1_ap (s : Ss) (h : Hs) : k__law_tried_1 s h = (sFa [4, 5, 7] (sSeq t__law_tried_1_0 t__law_tried_1_1)) s h := (rfl)
@[simp] noncomputable def t__law_tried_1 : FS := (sFb [4, 5, 7] (sFor (iRng2 (aCons (eC (.int 1)) (aCons (eBin shlD (eC (.int 1)) (eB lenD (aCons (eVar 0) aNil))) aNil))) (gVar 4) k__law_tried_1))
@[simp] noncomputable def t__law_tried_2 : FS := (sRet (eVar 3))
noncomputable def b__law_tried : FS :=
  (sSeq t__law_tried_0 (sSeq t__law_tried_1 t__law_tried_2))
noncomputable def F__law_tried : List D → Hs → R D := runF 3 8 .trunc b__law_tried
@[simp] noncomputable def t__law_is_put_0a_0 : FS := (sRet (eC (.bl false)))
@[simp] noncomputable def t__law_is_put_0 : FS := (sIf (tOrF (tNotF (tV (eCall 2 F__law_is_ring (aCons (eC (.int 8)) (aCons (eVar 0) aNil))))) (tOrF (tNotF (tV (eIsi ["tuple"] (eVar 0)))) (tV (eBin (eqD true) (eB lenD (aCons (eVar 0) aNil)) (eB lenD (aCons (eVar 1) aNil)))))) t__law_is_put_0a_0 sNext)
@[simp] noncomputable def t__law_is_put_1 : FS := (sSet 6 (eC (.int 0)))
@[simp] noncomputable def t__law_is_put_2_0a_0 : FS := (sRet (eC (.bl false)))
@[simp] noncomputable def t__law_is_put_2_0 : FS := (sIf (tNotF (tV (eIsi ["tuple"] (eVar 7)))) t__law_is_put_2_0a_0 sNext)
@[simp] noncomputable def t__law_is_put_2_1a_0 : FS := (sSet 6 (eBin addD (eVar 6) (eC (.int 1))))
@[simp] noncomputable def t__law_is_put_2_1a_1a_0 : FS := (sRet (eC (.bl false)))
@[simp] noncomputable def t__law_is_put_2_1a_1 : FS := (sIf (tOrF (tV (eBin geD (eB lenD (aCons (eVar 8) aNil)) (eVar 2))) (tV (eBin (eqD true) (eVar 7) (eB tupleD (aCons (eB (sortedD false) (aCons (eBin addD (eVar 8) (eTup (aCons (eVar 3) aNil))) aNil)) aNil))))) t__law_is_put_2_1a_1a_0 sNext)
@[simp] noncomputable def t__law_is_put_2_1 : FS := (sIf (tV (eBin (eqD true) (eVar 7) (eVar 8))) (sSeq t__law_is_put_2_1a_0 t__law_is_put_2_1a_1) sNext)
noncomputable def k__law_is_put_2 : FS := (sFa [7, 8] (sSeq t__law_is_put_2_0 t__law_is_put_2_1))
@[simp] theorem k__law_is_put_2_ap (s : Ss) (h : Hs) : k__law_is_put_2 s h = (sFa [7, 8] (sSeq t__law_is_put_2_0 t__law_is_put_2_1)) s h := (rfl)
@[simp] noncomputable def t__law_is_put_2 : FS := (sFb [7, 8] (sFor (iZip (aCons (eVar 0) (aCons (eVar 1) aNil))) (gUn [(gVar 7), (gVar 8)]) k__law_is_put_2))
@[simp] noncomputable def t__law_is_put_3 : FS := (sRet (eAndF (eBin (eqD false) (eVar 6) (eVar 5)) (eBin leD (eB maxD (aCons (eCall 2 F__law_gaps (aCons (eVar 0) (aCons (eVar 3) aNil))) aNil)) (eVar 4))))
noncomputable def b__law_is_put : FS :=
  (sSeq t__law_is_put_0 (sSeq t__law_is_put_1 (sSeq t__law_is_put_2 t__law_is_put_3)))
noncomputable def F__law_is_put : List D → Hs → R D := runF 6 9 .trunc b__law_is_put
@[simp] noncomputable def t__law_told_0_0 : FS := (sRet (eCall 4 F_put_in (aCons (eVar 0) (aCons (eVar 1) (aCons (eVar 2) (aCons (eVar 3) aNil))))))
noncomputable def k__law_told_0 : FS := t__law_told_0_0
@[simp] theorem k__law_told_0_ap (s : Ss) (h : Hs) : k__law_told_0 s h = t__law_told_0_0 s h := (rfl)
@[simp] noncomputable def t__law_told_0 : FS := (sTry "DaysError" 4 ["NoRing", "NoDays", "NoThing"] k__law_told_0 (fun y => (sRet (eLst false (aCons (eC (.bl (subX y "NoRing"))) (aCons (eC (.bl (subX y "NoDays"))) (aCons (eC (.bl (subX y "NoThing"))) aNil)))))))
noncomputable def b__law_told : FS :=
  t__law_told_0
noncomputable def F__law_told : List D → Hs → R D := runF 4 5 .trunc b__law_told
@[simp] noncomputable def t__law_wrong_0 : FS := (sSet 2 (eML popD (eVar 0) aNil))
@[simp] noncomputable def t__law_wrong_1 : FS := (sSet 3 (eBin modD (eVar 2) (eC (.int 4))))
@[simp] noncomputable def t__law_wrong_2a_0 : FS := (sItem (eVar 1) (eC (.int 0)) (eBin ixD (eLst false (aCons (eC .non) (aCons (eTup aNil) (aCons (eTup (aCons (eTup (aCons (eC (.int 0)) (aCons (eC (.int 8)) aNil))) aNil)) (aCons (eLst false (aCons (eLst false (aCons (eC (.int 1)) (aCons (eC (.int 0)) aNil))) aNil)) (aCons (eBin mulD (eTup (aCons (eTup aNil) aNil)) (eC (.int 4001))) (aCons (eC (.str "ab")) (aCons (eC (.int 5)) (aCons (eTup (aCons (eTup (aCons (eC (.int 0)) aNil)) (aCons (eC .non) aNil))) aNil))))))))) (eBin modD (eBin fdivD (eVar 2) (eC (.int 4))) (eC (.int 8)))))
@[simp] noncomputable def t__law_wrong_2a_1 : FS := (sItem (eVar 1) (eBin addD (eC (.int 1)) (eBin modD (eBin fdivD (eVar 2) (eC (.int 32))) (eC (.int 3)))) (eBin ixD (eLst false (aCons (eC (.int 0)) (aCons (eBin ixD (eVar 1) (eBin addD (eC (.int 1)) (eBin modD (eBin fdivD (eVar 2) (eC (.int 32))) (eC (.int 3))))) aNil))) (eBin modD (eBin fdivD (eVar 2) (eC (.int 96))) (eC (.int 2)))))
@[simp] noncomputable def t__law_wrong_2b_0a_0 : FS := (sItem (eVar 1) (eC (.int 1)) (eBin ixD (eLst false (aCons (eC (.int 0)) (aCons (eC (.int 3)) (aCons (eC (.bl true)) (aCons (eC .non) (aCons (eC (.str "1")) (aCons (eCall 1 F__law_odd (aCons (eBin fdivD (eVar 2) (eC (.int 64))) aNil)) aNil))))))) (eBin modD (eBin fdivD (eVar 2) (eC (.int 4))) (eC (.int 6)))))
@[simp] noncomputable def t__law_wrong_2b_0b_0a_0 : FS := (sItem (eVar 1) (eC (.int 2)) (eBin ixD (eLst false (aCons (eC (.int 8)) (aCons (negD (eC (.int 1))) (aCons (eC (.bl false)) (aCons (eC .non) (aCons (eC (.str "1")) (aCons (eCall 1 F__law_odd (aCons (eBin fdivD (eVar 2) (eC (.int 64))) aNil)) aNil))))))) (eBin modD (eBin fdivD (eVar 2) (eC (.int 4))) (eC (.int 6)))))
@[simp] noncomputable def t__law_wrong_2b_0b_0b_0 : FS := (sItem (eVar 1) (eC (.int 3)) (eBin ixD (eLst false (aCons (eC (.int 0)) (aCons (eC (.int 41)) (aCons (eC (.bl true)) (aCons (eC .non) (aCons (eC (.str "1")) (aCons (eCall 1 F__law_odd (aCons (eBin fdivD (eVar 2) (eC (.int 64))) aNil)) aNil))))))) (eBin modD (eBin fdivD (eVar 2) (eC (.int 4))) (eC (.int 6)))))
@[simp] noncomputable def t__law_wrong_2b_0b_0 : FS := (sIf (tV (eBin (eqD false) (eVar 3) (eC (.int 2)))) t__law_wrong_2b_0b_0a_0 t__law_wrong_2b_0b_0b_0)
@[simp] noncomputable def t__law_wrong_2b_0 : FS := (sIf (tV (eBin (eqD false) (eVar 3) (eC (.int 1)))) t__law_wrong_2b_0a_0 t__law_wrong_2b_0b_0)
@[simp] noncomputable def t__law_wrong_2 : FS := (sIf (tV (eBin (eqD false) (eVar 3) (eC (.int 0)))) (sSeq t__law_wrong_2a_0 t__law_wrong_2a_1) t__law_wrong_2b_0)
@[simp] noncomputable def t__law_wrong_3 : FS := (sRet (eLst false (aCons (eBin (eqD false) (eVar 3) (eC (.int 0))) (aCons (eBin gtD (eVar 3) (eC (.int 0))) (aCons (eC (.bl false)) aNil)))))
noncomputable def b__law_wrong : FS :=
  (sSeq t__law_wrong_0 (sSeq t__law_wrong_1 (sSeq t__law_wrong_2 t__law_wrong_3)))
noncomputable def F__law_wrong : List D → Hs → R D := runF 2 4 .trunc b__law_wrong
@[simp] noncomputable def t_law_0 : FS := (sSet 1 (eCall 2 F__law_deck (aCons (eVar 0) (aCons (eC (.int 120)) aNil))))
@[simp] noncomputable def t_law_1_0 : FS := (sSet 3 (eML popD (eVar 1) aNil))
@[simp] noncomputable def t_law_1_1 : FS := (sSet 4 (eCall 3 F__law_ring (aCons (eVar 1) (aCons (eBin addD (eC (.int 1)) (eBin modD (eVar 3) (eC (.int 5)))) (aCons (eBin ixD (eLst false (aCons (eBin addD (eC (.int 1)) (eBin modD (eBin fdivD (eVar 3) (eC (.int 8))) (eC (.int 9)))) (aCons (eBin addD (eC (.int 1)) (eBin modD (eBin fdivD (eVar 3) (eC (.int 8))) (eC (.int 9)))) (aCons (eBin addD (eC (.int 1)) (eBin modD (eBin fdivD (eVar 3) (eC (.int 8))) (eC (.int 40)))) aNil)))) (eVar 2)) aNil)))))
@[simp] noncomputable def t_law_1_2 : FS := (sSet 5 (eBin addD (eC (.int 1)) (eBin modD (eBin fdivD (eVar 3) (eC (.int 512))) (eC (.int 2)))))
@[simp] noncomputable def t_law_1_3 : FS := (sSet 6 (eBin addD (eC (.int 1)) (eBin modD (eML popD (eVar 1) aNil) (eBin ixD (eLst false (aCons (eC (.int 9)) (aCons (eC (.int 6)) (aCons (eC (.int 40)) aNil)))) (eVar 2)))))
@[simp] noncomputable def t_law_1_4 : FS := (sSet 7 (eCall 3 F__law_fewest (aCons (eVar 4) (aCons (eVar 5) (aCons (eVar 6) aNil)))))
@[simp] noncomputable def t_law_1_5a_0 : FS := (sRet (eC (.bl false)))
@[simp] noncomputable def t_law_1_5 : FS := (sIf (tAndF (tV (eBin ltD (eVar 2) (eC (.int 2)))) (tV (eBin (eqD true) (eVar 7) (eCall 3 F__law_tried (aCons (eVar 4) (aCons (eVar 5) (aCons (eVar 6) aNil))))))) t_law_1_5a_0 sNext)
@[simp] noncomputable def t_law_1_6 : FS := (sSet 8 (eBin modD (eML popD (eVar 1) aNil) (eC (.int 8))))
@[simp] noncomputable def t_law_1_7 : FS := (sSet 9 (eComp false [10] (iRng1 (aCons (eC (.int 8)) aNil)) (gVar 10) (tV (eBin (eqD true) (eVar 10) (eVar 8))) (eVar 10)))
@[simp] noncomputable def t_law_1_8 : FS := (sSet 11 (eBin modD (eML popD (eVar 1) aNil) (eC (.int 3))))
@[simp] noncomputable def t_law_1_9 : FS := (sSet 4 (eB tupleD (aCons (eComp false [12] (iRow (eVar 4)) (gVar 12) tYesF (eB tupleD (aCons (eComp false [10] (iRow (eVar 12)) (gVar 10) tYesF (eBin ixD (eVar 9) (eBin addD (eVar 11) (eVar 10)))) aNil))) aNil)))
@[simp] noncomputable def t_law_1_10 : FS := (sSet 13 (eLst true (aCons (eCall 2 F__law_handed (aCons (eVar 4) (aCons (eML popD (eVar 1) aNil) aNil))) (aCons (eVar 5) (aCons (eVar 8) (aCons (eVar 6) aNil))))))
@[simp] noncomputable def t_law_1_11 : FS := (sSet 14 (eCall 1 (F__law_lists 45) (aCons (eVar 13) aNil)))
@[simp] noncomputable def t_law_1_12 : FS := (sSet 15 (eCall 4 F__law_told (aCons (eBin ixD (eVar 13) (eC (.int 0))) (aCons (eBin ixD (eVar 13) (eC (.int 1))) (aCons (eBin ixD (eVar 13) (eC (.int 2))) (aCons (eBin ixD (eVar 13) (eC (.int 3))) aNil))))))
@[simp] noncomputable def t_law_1_13a_0 : FS := (sRet (eC (.bl false)))
@[simp] noncomputable def t_law_1_13 : FS := (sIf (tOrF (tV (eBin (eqD true) (eCall 1 (F__law_lists 45) (aCons (eVar 13) aNil)) (eVar 14))) (tAndF (tV (eBin (isNonD false) (eVar 7) (eC .non))) (tV (eBin (isNonD true) (eVar 15) (eC .non))))) t_law_1_13a_0 sNext)
@[simp] noncomputable def t_law_1_14a_0 : FS := (sRet (eC (.bl false)))
@[simp] noncomputable def t_law_1_14 : FS := (sIf (tAndF (tV (eBin (isNonD true) (eVar 7) (eC .non))) (tNotF (tV (eCall 6 F__law_is_put (aCons (eVar 15) (aCons (eVar 4) (aCons (eVar 5) (aCons (eVar 8) (aCons (eVar 6) (aCons (eVar 7) aNil)))))))))) t_law_1_14a_0 sNext)
@[simp] noncomputable def t_law_1_15 : FS := (sSet 16 (eComp false [12] (iRow (eVar 4)) (gVar 12) (tV (eBin (eqD true) (eVar 12) (eTup aNil))) (eBin ixD (eVar 12) (eC (.int 0)))))
@[simp] noncomputable def t_law_1_16a_0 : FS := (sRet (eC (.bl false)))
@[simp] noncomputable def t_law_1_16 : FS := (sIf (tAndF (tV (eBin (eqD true) (eVar 16) (eLst false aNil))) (tV (eBin (eqD true) (eCall 4 F__law_told (aCons (eVar 4) (aCons (eVar 5) (aCons (eBin ixD (eVar 16) (eC (.int 0))) (aCons (eVar 6) aNil))))) (eLst false (aCons (eC (.bl false)) (aCons (eC (.bl false)) (aCons (eC (.bl true)) aNil))))))) t_law_1_16a_0 sNext)
@[simp] noncomputable def t_law_1_17 : FS := (sSet 13 (eLst true (aCons (eVar 4) (aCons (eVar 5) (aCons (eBin ixD (eBin addD (eVar 16) (eLst false (aCons (eVar 8) aNil))) (eC (.int 0))) (aCons (eVar 6) aNil))))))
@[simp] noncomputable def t_law_1_18 : FS := (sSet 17 (eCall 2 F__law_wrong (aCons (eVar 1) (aCons (eVar 13) aNil))))
@[simp] noncomputable def t_law_1_19a_0 : FS := (sRet (eC (.bl false)))
@[simp] noncomputable def t_law_1_19 : FS := (sIf (tV (eBin (eqD true) (eCall 4 F__law_told (aCons (eBin ixD (eVar 13) (eC (.int 0))) (aCons (eBin ixD (eVar 13) (eC (.int 1))) (aCons (eBin ixD (eVar 13) (eC (.int 2))) (aCons (eBin ixD (eVar 13) (eC (.int 3))) aNil))))) (eVar 17))) t_law_1_19a_0 sNext)
noncomputable def k_law_1 : FS := (sFa [2, 3, 4, 5, 6, 7, 8, 9, 11, 13, 14, 15, 16, 17] (sSeq t_law_1_0 (sSeq t_law_1_1 (sSeq t_law_1_2 (sSeq t_law_1_3 (sSeq t_law_1_4 (sSeq t_law_1_5 (sSeq t_law_1_6 (sSeq t_law_1_7 (sSeq t_law_1_8 (sSeq t_law_1_9 (sSeq t_law_1_10 (sSeq t_law_1_11 (sSeq t_law_1_12 (sSeq t_law_1_13 (sSeq t_law_1_14 (sSeq t_law_1_15 (sSeq t_law_1_16 (sSeq t_law_1_17 (sSeq t_law_1_18 t_law_1_19))))))))))))))))))))
@[simp] theorem k_law_1_ap (s : Ss) (h : Hs) : k_law_1 s h = (sFa [2, 3, 4, 5, 6, 7, 8, 9, 11, 13, 14, 15, 16, 17] (sSeq t_law_1_0 (sSeq t_law_1_1 (sSeq t_law_1_2 (sSeq t_law_1_3 (sSeq t_law_1_4 (sSeq t_law_1_5 (sSeq t_law_1_6 (sSeq t_law_1_7 (sSeq t_law_1_8 (sSeq t_law_1_9 (sSeq t_law_1_10 (sSeq t_law_1_11 (sSeq t_law_1_12 (sSeq t_law_1_13 (sSeq t_law_1_14 (sSeq t_law_1_15 (sSeq t_law_1_16 (sSeq t_law_1_17 (sSeq t_law_1_18 t_law_1_19)))))))))))))))))))) s h := (rfl)
@[simp] noncomputable def t_law_1 : FS := (sFb [2, 3, 4, 5, 6, 7, 8, 9, 11, 13, 14, 15, 16, 17] (sFor (iRng1 (aCons (eC (.int 3)) aNil)) (gVar 2) k_law_1))
@[simp] noncomputable def t_law_2 : FS := (sRet (eC (.bl true)))
noncomputable def b_law : FS :=
  (sSeq t_law_0 (sSeq t_law_1 t_law_2))
noncomputable def F_law : List D → Hs → R D := runF 1 18 .trunc b_law
end WD
namespace WD
open PySem PySem.Spec PyProof.Rows L2
theorem sc_is_whole : FnScope ["thing", "least", "most"] ["thing", "least", "most"] (defScope s_is_whole) := ⟨rfl, rfl, rfl, by decide +kernel, rfl, by decide +kernel, by decide +kernel⟩
theorem sc_is_row : FnScope ["thing"] ["thing"] (defScope s_is_row) := ⟨rfl, rfl, rfl, by decide +kernel, rfl, by decide +kernel, by decide +kernel⟩
theorem sc_is_rising : FnScope ["thing", "least", "most", "last", "one"] ["thing", "least", "most"] (defScope s_is_rising) := ⟨rfl, rfl, rfl, by decide +kernel, rfl, by decide +kernel, by decide +kernel⟩
theorem sc_told_rows : FnScope ["thing", "one"] ["thing"] (defScope s_told_rows) := ⟨rfl, rfl, rfl, by decide +kernel, rfl, by decide +kernel, by decide +kernel⟩
theorem sc_is_day : FnScope ["many", "thing"] ["many", "thing"] (defScope s_is_day) := ⟨rfl, rfl, rfl, by decide +kernel, rfl, by decide +kernel, by decide +kernel⟩
theorem sc_are_days : FnScope ["many", "thing", "day"] ["many", "thing"] (defScope s_are_days) := ⟨rfl, rfl, rfl, by decide +kernel, rfl, by decide +kernel, by decide +kernel⟩
theorem sc_is_ring : FnScope ["many", "thing"] ["many", "thing"] (defScope s_is_ring) := ⟨rfl, rfl, rfl, by decide +kernel, rfl, by decide +kernel, by decide +kernel⟩
theorem sc_asked_ring : FnScope ["many", "thing"] ["many", "thing"] (defScope s_asked_ring) := ⟨rfl, rfl, rfl, by decide +kernel, rfl, by decide +kernel, by decide +kernel⟩
theorem sc_farthest : FnScope ["ring", "hands", "cur", "number", "far"] ["ring", "hands", "cur", "number"] (defScope s_farthest) := ⟨rfl, rfl, rfl, by decide +kernel, rfl, by decide +kernel, by decide +kernel⟩
theorem sc_places_from : FnScope ["ring", "hands", "begin", "number", "found", "place"] ["ring", "hands", "begin", "number"] (defScope s_places_from) := ⟨rfl, rfl, rfl, by decide +kernel, rfl, by decide +kernel, by decide +kernel⟩
theorem sc_fewest_places : FnScope ["ring", "hands", "number", "best", "begin", "found"] ["ring", "hands", "number"] (defScope s_fewest_places) := ⟨rfl, rfl, rfl, by decide +kernel, rfl, by decide +kernel, by decide +kernel⟩
theorem sc_put_in : FnScope ["ring", "hands", "i", "number", "day", "places", "at", "place", "k"] ["ring", "hands", "i", "number"] (defScope s_put_in) := ⟨rfl, rfl, rfl, by decide +kernel, rfl, by decide +kernel, by decide +kernel⟩
theorem sc__law_deck : FnScope ["_law_script", "_law_many", "_law_row", "_law_odd_here", "_law_deck_here", "_law_k", "_law_at", "_law_one"] ["_law_script", "_law_many"] (defScope s__law_deck) := ⟨rfl, rfl, rfl, by decide +kernel, rfl, by decide +kernel, by decide +kernel⟩
theorem sc__law_whole : FnScope ["_law_thing", "_law_least", "_law_most"] ["_law_thing", "_law_least", "_law_most"] (defScope s__law_whole) := ⟨rfl, rfl, rfl, by decide +kernel, rfl, by decide +kernel, by decide +kernel⟩
theorem sc__law_lists : FnScope ["_law_thing", "_law_one"] ["_law_thing"] (defScope s__law_lists) := ⟨rfl, rfl, rfl, by decide +kernel, rfl, by decide +kernel, by decide +kernel⟩
theorem sc__law_handed : FnScope ["_law_thing", "_law_draw"] ["_law_thing", "_law_draw"] (defScope s__law_handed) := ⟨rfl, rfl, rfl, by decide +kernel, rfl, by decide +kernel, by decide +kernel⟩
theorem sc__law_odd : FnScope ["_law_draw", "_law_some"] ["_law_draw"] (defScope s__law_odd) := ⟨rfl, rfl, rfl, by decide +kernel, rfl, by decide +kernel, by decide +kernel⟩
theorem sc__law_is_day : FnScope ["_law_many", "_law_thing", "_law_one"] ["_law_many", "_law_thing"] (defScope s__law_is_day) := ⟨rfl, rfl, rfl, by decide +kernel, rfl, by decide +kernel, by decide +kernel⟩
theorem sc__law_is_ring : FnScope ["_law_many", "_law_thing", "_law_day_here"] ["_law_many", "_law_thing"] (defScope s__law_is_ring) := ⟨rfl, rfl, rfl, by decide +kernel, rfl, by decide +kernel, by decide +kernel⟩
theorem sc__law_day : FnScope ["_law_deck_here", "_law_many", "_law_draw", "_law_i", "_law_j"] ["_law_deck_here", "_law_many"] (defScope s__law_day) := ⟨rfl, rfl, rfl, by decide +kernel, rfl, by decide +kernel, by decide +kernel⟩
theorem sc__law_ring : FnScope ["_law_deck_here", "_law_many", "_law_size", "_law_k"] ["_law_deck_here", "_law_many", "_law_size"] (defScope s__law_ring) := ⟨rfl, rfl, rfl, by decide +kernel, rfl, by decide +kernel, by decide +kernel⟩
theorem sc__law_gaps : FnScope ["_law_days", "_law_i", "_law_found", "_law_at", "_law_far"] ["_law_days", "_law_i"] (defScope s__law_gaps) := ⟨rfl, rfl, rfl, by decide +kernel, rfl, by decide +kernel, by decide +kernel⟩
theorem sc__law_fewest : FnScope ["_law_days", "_law_hands", "_law_number", "_law_free", "_law_at", "_law_best", "_law_begin", "_law_steps", "_law_one", "_law_near"] ["_law_days", "_law_hands", "_law_number"] (defScope s__law_fewest) := ⟨rfl, rfl, rfl, by decide +kernel, rfl, by decide +kernel, by decide +kernel⟩
theorem sc__law_tried : FnScope ["_law_days", "_law_hands", "_law_number", "_law_best", "_law_mask", "_law_places", "_law_at", "_law_marks"] ["_law_days", "_law_hands", "_law_number"] (defScope s__law_tried) := ⟨rfl, rfl, rfl, by decide +kernel, rfl, by decide +kernel, by decide +kernel⟩
theorem sc__law_is_put : FnScope ["_law_found", "_law_days", "_law_hands", "_law_i", "_law_number", "_law_many", "_law_more", "_law_day_here", "_law_old"] ["_law_found", "_law_days", "_law_hands", "_law_i", "_law_number", "_law_many"] (defScope s__law_is_put) := ⟨rfl, rfl, rfl, by decide +kernel, rfl, by decide +kernel, by decide +kernel⟩
theorem sc__law_told : FnScope ["_law_ring_here", "_law_hands", "_law_i", "_law_number", "error"] ["_law_ring_here", "_law_hands", "_law_i", "_law_number"] (defScope s__law_told) := ⟨rfl, rfl, rfl, by decide +kernel, rfl, by decide +kernel, by decide +kernel⟩
theorem sc__law_wrong : FnScope ["_law_deck_here", "_law_asked", "_law_draw", "_law_which"] ["_law_deck_here", "_law_asked"] (defScope s__law_wrong) := ⟨rfl, rfl, rfl, by decide +kernel, rfl, by decide +kernel, by decide +kernel⟩
theorem sc_law : FnScope ["_law_script", "_law_deck_here", "_law_turn", "_law_draw", "_law_days", "_law_hands", "_law_number", "_law_best", "_law_i", "_law_others", "_law_one", "_law_first", "_law_day_here", "_law_asked", "_law_kept", "_law_found", "_law_there", "_law_due"] ["_law_script"] (defScope s_law) := ⟨rfl, rfl, rfl, by decide +kernel, rfl, by decide +kernel, by decide +kernel⟩
structure Adr where
  f_is_whole : Addr
  d_is_whole : FuncData
  f_is_row : Addr
  d_is_row : FuncData
  f_is_rising : Addr
  d_is_rising : FuncData
  f_told_rows : Addr
  d_told_rows : FuncData
  f_is_day : Addr
  d_is_day : FuncData
  f_are_days : Addr
  d_are_days : FuncData
  f_is_ring : Addr
  d_is_ring : FuncData
  f_asked_ring : Addr
  d_asked_ring : FuncData
  f_farthest : Addr
  d_farthest : FuncData
  f_places_from : Addr
  d_places_from : FuncData
  f_fewest_places : Addr
  d_fewest_places : FuncData
  f_put_in : Addr
  d_put_in : FuncData
  f__law_deck : Addr
  d__law_deck : FuncData
  f__law_whole : Addr
  d__law_whole : FuncData
  f__law_lists : Addr
  d__law_lists : FuncData
  f__law_handed : Addr
  d__law_handed : FuncData
  f__law_odd : Addr
  d__law_odd : FuncData
  f__law_is_day : Addr
  d__law_is_day : FuncData
  f__law_is_ring : Addr
  d__law_is_ring : FuncData
  f__law_day : Addr
  d__law_day : FuncData
  f__law_ring : Addr
  d__law_ring : FuncData
  f__law_gaps : Addr
  d__law_gaps : FuncData
  f__law_fewest : Addr
  d__law_fewest : FuncData
  f__law_tried : Addr
  d__law_tried : FuncData
  f__law_is_put : Addr
  d__law_is_put : FuncData
  f__law_told : Addr
  d__law_told : FuncData
  f__law_wrong : Addr
  d__law_wrong : FuncData
  f_law : Addr
  d_law : FuncData
  c_DaysError : Addr
  c_NoDays : Addr
  c_NoRing : Addr
  c_NoThing : Addr
  t_GREATEST : Tok
  t_LONGEST : Tok
  t_MOST_ON_A_DAY : Tok
  t_MOST_THINGS : Tok
structure Txt (K : PySem.W.Frag) (mg : Str → Option Value) (A : Adr) : Prop where
  u_is_whole : Fun K "is_whole" "is_whole" s_is_whole A.f_is_whole A.d_is_whole
  g_is_whole : mg "is_whole" = some (.ref A.f_is_whole)
  b_is_whole : Binds K A.d_is_whole ["thing", "least", "most"] []
  u_is_row : Fun K "is_row" "is_row" s_is_row A.f_is_row A.d_is_row
  g_is_row : mg "is_row" = some (.ref A.f_is_row)
  b_is_row : Binds K A.d_is_row ["thing"] []
  u_is_rising : Fun K "is_rising" "is_rising" s_is_rising A.f_is_rising A.d_is_rising
  g_is_rising : mg "is_rising" = some (.ref A.f_is_rising)
  b_is_rising : Binds K A.d_is_rising ["thing", "least", "most"] []
  u_told_rows : Fun K "told_rows" "told_rows" s_told_rows A.f_told_rows A.d_told_rows
  g_told_rows : mg "told_rows" = some (.ref A.f_told_rows)
  b_told_rows : Binds K A.d_told_rows ["thing"] []
  u_is_day : Fun K "is_day" "is_day" s_is_day A.f_is_day A.d_is_day
  g_is_day : mg "is_day" = some (.ref A.f_is_day)
  b_is_day : Binds K A.d_is_day ["many", "thing"] []
  u_are_days : Fun K "are_days" "are_days" s_are_days A.f_are_days A.d_are_days
  g_are_days : mg "are_days" = some (.ref A.f_are_days)
  b_are_days : Binds K A.d_are_days ["many", "thing"] []
  u_is_ring : Fun K "is_ring" "is_ring" s_is_ring A.f_is_ring A.d_is_ring
  g_is_ring : mg "is_ring" = some (.ref A.f_is_ring)
  b_is_ring : Binds K A.d_is_ring ["many", "thing"] []
  u_asked_ring : Fun K "asked_ring" "asked_ring" s_asked_ring A.f_asked_ring A.d_asked_ring
  g_asked_ring : mg "asked_ring" = some (.ref A.f_asked_ring)
  b_asked_ring : Binds K A.d_asked_ring ["many", "thing"] []
  u_farthest : Fun K "farthest" "farthest" s_farthest A.f_farthest A.d_farthest
  g_farthest : mg "farthest" = some (.ref A.f_farthest)
  b_farthest : Binds K A.d_farthest ["ring", "hands", "cur", "number"] []
  u_places_from : Fun K "places_from" "places_from" s_places_from A.f_places_from A.d_places_from
  g_places_from : mg "places_from" = some (.ref A.f_places_from)
  b_places_from : Binds K A.d_places_from ["ring", "hands", "begin", "number"] []
  u_fewest_places : Fun K "fewest_places" "fewest_places" s_fewest_places A.f_fewest_places A.d_fewest_places
  g_fewest_places : mg "fewest_places" = some (.ref A.f_fewest_places)
  b_fewest_places : Binds K A.d_fewest_places ["ring", "hands", "number"] []
  u_put_in : Fun K "put_in" "put_in" s_put_in A.f_put_in A.d_put_in
  g_put_in : mg "put_in" = some (.ref A.f_put_in)
  b_put_in : Binds K A.d_put_in ["ring", "hands", "i", "number"] []
  u__law_deck : Fun K "_law_deck" "_law_deck" s__law_deck A.f__law_deck A.d__law_deck
  g__law_deck : mg "_law_deck" = some (.ref A.f__law_deck)
  b__law_deck : Binds K A.d__law_deck ["_law_script", "_law_many"] []
  u__law_whole : Fun K "_law_whole" "_law_whole" s__law_whole A.f__law_whole A.d__law_whole
  g__law_whole : mg "_law_whole" = some (.ref A.f__law_whole)
  b__law_whole : Binds K A.d__law_whole ["_law_thing", "_law_least", "_law_most"] []
  u__law_lists : Fun K "_law_lists" "_law_lists" s__law_lists A.f__law_lists A.d__law_lists
  g__law_lists : mg "_law_lists" = some (.ref A.f__law_lists)
  b__law_lists : Binds K A.d__law_lists ["_law_thing"] []
  u__law_handed : Fun K "_law_handed" "_law_handed" s__law_handed A.f__law_handed A.d__law_handed
  g__law_handed : mg "_law_handed" = some (.ref A.f__law_handed)
  b__law_handed : Binds K A.d__law_handed ["_law_thing", "_law_draw"] []
  u__law_odd : Fun K "_law_odd" "_law_odd" s__law_odd A.f__law_odd A.d__law_odd
  g__law_odd : mg "_law_odd" = some (.ref A.f__law_odd)
  b__law_odd : Binds K A.d__law_odd ["_law_draw"] []
  u__law_is_day : Fun K "_law_is_day" "_law_is_day" s__law_is_day A.f__law_is_day A.d__law_is_day
  g__law_is_day : mg "_law_is_day" = some (.ref A.f__law_is_day)
  b__law_is_day : Binds K A.d__law_is_day ["_law_many", "_law_thing"] []
  u__law_is_ring : Fun K "_law_is_ring" "_law_is_ring" s__law_is_ring A.f__law_is_ring A.d__law_is_ring
  g__law_is_ring : mg "_law_is_ring" = some (.ref A.f__law_is_ring)
  b__law_is_ring : Binds K A.d__law_is_ring ["_law_many", "_law_thing"] []
  u__law_day : Fun K "_law_day" "_law_day" s__law_day A.f__law_day A.d__law_day
  g__law_day : mg "_law_day" = some (.ref A.f__law_day)
  b__law_day : Binds K A.d__law_day ["_law_deck_here", "_law_many"] []
  u__law_ring : Fun K "_law_ring" "_law_ring" s__law_ring A.f__law_ring A.d__law_ring
  g__law_ring : mg "_law_ring" = some (.ref A.f__law_ring)
  b__law_ring : Binds K A.d__law_ring ["_law_deck_here", "_law_many", "_law_size"] []
  u__law_gaps : Fun K "_law_gaps" "_law_gaps" s__law_gaps A.f__law_gaps A.d__law_gaps
  g__law_gaps : mg "_law_gaps" = some (.ref A.f__law_gaps)
  b__law_gaps : Binds K A.d__law_gaps ["_law_days", "_law_i"] []
  u__law_fewest : Fun K "_law_fewest" "_law_fewest" s__law_fewest A.f__law_fewest A.d__law_fewest
  g__law_fewest : mg "_law_fewest" = some (.ref A.f__law_fewest)
  b__law_fewest : Binds K A.d__law_fewest ["_law_days", "_law_hands", "_law_number"] []
  u__law_tried : Fun K "_law_tried" "_law_tried" s__law_tried A.f__law_tried A.d__law_tried
  g__law_tried : mg "_law_tried" = some (.ref A.f__law_tried)
  b__law_tried : Binds K A.d__law_tried ["_law_days", "_law_hands", "_law_number"] []
  u__law_is_put : Fun K "_law_is_put" "_law_is_put" s__law_is_put A.f__law_is_put A.d__law_is_put
  g__law_is_put : mg "_law_is_put" = some (.ref A.f__law_is_put)
  b__law_is_put : Binds K A.d__law_is_put ["_law_found", "_law_days", "_law_hands", "_law_i", "_law_number", "_law_many"] []
  u__law_told : Fun K "_law_told" "_law_told" s__law_told A.f__law_told A.d__law_told
  g__law_told : mg "_law_told" = some (.ref A.f__law_told)
  b__law_told : Binds K A.d__law_told ["_law_ring_here", "_law_hands", "_law_i", "_law_number"] []
  u__law_wrong : Fun K "_law_wrong" "_law_wrong" s__law_wrong A.f__law_wrong A.d__law_wrong
  g__law_wrong : mg "_law_wrong" = some (.ref A.f__law_wrong)
  b__law_wrong : Binds K A.d__law_wrong ["_law_deck_here", "_law_asked"] []
  u_law : Fun K "law" "law" s_law A.f_law A.d_law
  g_law : mg "law" = some (.ref A.f_law)
  b_law : Binds K A.d_law ["_law_script"] []
  z_bool : mg "bool" = none
  z_enumerate : mg "enumerate" = none
  z_int : mg "int" = none
  z_isinstance : mg "isinstance" = none
  z_len : mg "len" = none
  z_list : mg "list" = none
  z_max : mg "max" = none
  z_min : mg "min" = none
  z_range : mg "range" = none
  z_sorted : mg "sorted" = none
  z_tuple : mg "tuple" = none
  z_zip : mg "zip" = none
  x_DaysError : Xc K mg "DaysError" A.c_DaysError
  x_NoDays : Xc K mg "NoDays" A.c_NoDays
  x_NoRing : Xc K mg "NoRing" A.c_NoRing
  x_NoThing : Xc K mg "NoThing" A.c_NoThing
  e_NoRing : ExcC K A.c_NoRing
  e_NoDays : ExcC K A.c_NoDays
  e_NoThing : ExcC K A.c_NoThing
  m_NoRing_DaysError : PySem.W.exmOne K (.ref A.c_NoRing) (.ref A.c_DaysError) = some (subX "NoRing" "DaysError")
  m_NoDays_DaysError : PySem.W.exmOne K (.ref A.c_NoDays) (.ref A.c_DaysError) = some (subX "NoDays" "DaysError")
  m_NoThing_DaysError : PySem.W.exmOne K (.ref A.c_NoThing) (.ref A.c_DaysError) = some (subX "NoThing" "DaysError")
  k_NoRing_NoDays : PySem.W.kitOne K (.ref A.c_NoRing) (.ref A.c_NoDays) = some (subX "NoRing" "NoDays")
  k_NoDays_NoDays : PySem.W.kitOne K (.ref A.c_NoDays) (.ref A.c_NoDays) = some (subX "NoDays" "NoDays")
  k_NoThing_NoDays : PySem.W.kitOne K (.ref A.c_NoThing) (.ref A.c_NoDays) = some (subX "NoThing" "NoDays")
  k_NoRing_NoRing : PySem.W.kitOne K (.ref A.c_NoRing) (.ref A.c_NoRing) = some (subX "NoRing" "NoRing")
  k_NoDays_NoRing : PySem.W.kitOne K (.ref A.c_NoDays) (.ref A.c_NoRing) = some (subX "NoDays" "NoRing")
  k_NoThing_NoRing : PySem.W.kitOne K (.ref A.c_NoThing) (.ref A.c_NoRing) = some (subX "NoThing" "NoRing")
  k_NoRing_NoThing : PySem.W.kitOne K (.ref A.c_NoRing) (.ref A.c_NoThing) = some (subX "NoRing" "NoThing")
  k_NoDays_NoThing : PySem.W.kitOne K (.ref A.c_NoDays) (.ref A.c_NoThing) = some (subX "NoDays" "NoThing")
  k_NoThing_NoThing : PySem.W.kitOne K (.ref A.c_NoThing) (.ref A.c_NoThing) = some (subX "NoThing" "NoThing")
  c_GREATEST : mg "GREATEST" = some (.int 40 A.t_GREATEST)
  c_LONGEST : mg "LONGEST" = some (.int 4000 A.t_LONGEST)
  c_MOST_ON_A_DAY : mg "MOST_ON_A_DAY" = some (.int 2 A.t_MOST_ON_A_DAY)
  c_MOST_THINGS : mg "MOST_THINGS" = some (.int 8 A.t_MOST_THINGS)
section
variable {P : Program} {w : World} {K : PySem.W.Frag} {mg : Str → Option Value} {base : Heap} {A : Adr}
theorem cls_at (T : Txt K mg A) : ∀ y ∈ (["NoRing", "NoDays", "NoThing"] : List Str), (y = "NoRing" ∧ clsV mg ⟨y, none⟩ = .ref A.c_NoRing) ∨ (y = "NoDays" ∧ clsV mg ⟨y, none⟩ = .ref A.c_NoDays) ∨ (y = "NoThing" ∧ clsV mg ⟨y, none⟩ = .ref A.c_NoThing) := by
  intro y hy
  simp only [List.mem_cons, List.not_mem_nil, or_false] at hy
  rcases hy with rfl | rfl | rfl
  · exact .inl ⟨rfl, by unfold clsV; rw [T.x_NoRing.g]; rfl⟩
  · exact .inr (.inl ⟨rfl, by unfold clsV; rw [T.x_NoDays.g]; rfl⟩)
  · exact .inr (.inr (⟨rfl, by unfold clsV; rw [T.x_NoThing.g]; rfl⟩))
theorem exc_at (T : Txt K mg A) : ∀ y ∈ (["NoRing", "NoDays", "NoThing"] : List Str), ∃ Dc, clsV mg ⟨y, none⟩ = .ref Dc ∧ ExcC K Dc := by
  intro y hy
  rcases cls_at T y hy with ⟨rfl, e⟩ | ⟨rfl, e⟩ | ⟨rfl, e⟩
  · exact ⟨A.c_NoRing, e, T.e_NoRing⟩
  · exact ⟨A.c_NoDays, e, T.e_NoDays⟩
  · exact ⟨A.c_NoThing, e, T.e_NoThing⟩
theorem exm_DaysError (T : Txt K mg A) : ∀ y ∈ (["NoRing", "NoDays", "NoThing"] : List Str), PySem.W.exmOne K (clsV mg ⟨y, none⟩) (.ref A.c_DaysError) = some (subX y "DaysError") := by
  intro y hy
  rcases cls_at T y hy with ⟨rfl, e⟩ | ⟨rfl, e⟩ | ⟨rfl, e⟩
  · rw [e]; exact T.m_NoRing_DaysError
  · rw [e]; exact T.m_NoDays_DaysError
  · rw [e]; exact T.m_NoThing_DaysError
theorem kit_NoDays (T : Txt K mg A) : ∀ y ∈ (["NoRing", "NoDays", "NoThing"] : List Str), PySem.W.kitOne K (clsV mg ⟨y, none⟩) (.ref A.c_NoDays) = some (subX y "NoDays") := by
  intro y hy
  rcases cls_at T y hy with ⟨rfl, e⟩ | ⟨rfl, e⟩ | ⟨rfl, e⟩
  · rw [e]; exact T.k_NoRing_NoDays
  · rw [e]; exact T.k_NoDays_NoDays
  · rw [e]; exact T.k_NoThing_NoDays
theorem kit_NoRing (T : Txt K mg A) : ∀ y ∈ (["NoRing", "NoDays", "NoThing"] : List Str), PySem.W.kitOne K (clsV mg ⟨y, none⟩) (.ref A.c_NoRing) = some (subX y "NoRing") := by
  intro y hy
  rcases cls_at T y hy with ⟨rfl, e⟩ | ⟨rfl, e⟩ | ⟨rfl, e⟩
  · rw [e]; exact T.k_NoRing_NoRing
  · rw [e]; exact T.k_NoDays_NoRing
  · rw [e]; exact T.k_NoThing_NoRing
theorem kit_NoThing (T : Txt K mg A) : ∀ y ∈ (["NoRing", "NoDays", "NoThing"] : List Str), PySem.W.kitOne K (clsV mg ⟨y, none⟩) (.ref A.c_NoThing) = some (subX y "NoThing") := by
  intro y hy
  rcases cls_at T y hy with ⟨rfl, e⟩ | ⟨rfl, e⟩ | ⟨rfl, e⟩
  · rw [e]; exact T.k_NoRing_NoThing
  · rw [e]; exact T.k_NoDays_NoThing
  · rw [e]; exact T.k_NoThing_NoThing
theorem ok_is_whole (T : Txt K mg A) : FnOk P w K mg base (L2.CX P w) 1 A.f_is_whole A.d_is_whole ["thing", "least", "most"] (spF K mg 3 F_is_whole) := by
    refine fn_ok (k := 0) .trunc T.u_is_whole sc_is_whole fun cdv Ar outer s H E hr => ?_
    have tk := takes_of (X := cxOf (L2.CX P w) P w K mg base ["thing", "least", "most"] "is_whole" (defScope s_is_whole) A.f_is_whole cdv Ar outer s H E) rfl rfl rfl rfl
    have hp := passes_of (X := cxOf (L2.CX P w) P w K mg base ["thing", "least", "most"] "is_whole" (defScope s_is_whole) A.f_is_whole cdv Ar outer s H E) rfl
    exact (vss_one (vs_ret (ve_and (ve_isi (ve_var 0) (by rfl) T.z_isinstance (by rfl) T.z_int (by decide +kernel) (by decide)) (ve_and (ve_not (ve_isi (ve_var 0) (by rfl) T.z_isinstance (by rfl) T.z_bool (by decide +kernel) (by decide))) (ve_one (ve_chain od_le od_le (ve_var 1) (ve_var 0) (ve_var 2)))))))
theorem ok_is_row (T : Txt K mg A) : FnOk P w K mg base (L2.CX P w) 1 A.f_is_row A.d_is_row ["thing"] (spF K mg 1 F_is_row) := by
    refine fn_ok (k := 0) .trunc T.u_is_row sc_is_row fun cdv Ar outer s H E hr => ?_
    have tk := takes_of (X := cxOf (L2.CX P w) P w K mg base ["thing"] "is_row" (defScope s_is_row) A.f_is_row cdv Ar outer s H E) rfl rfl rfl rfl
    have hp := passes_of (X := cxOf (L2.CX P w) P w K mg base ["thing"] "is_row" (defScope s_is_row) A.f_is_row cdv Ar outer s H E) rfl
    exact (vss_one (vs_ret (ve_isiT (ve_var 0) (by rfl) T.z_isinstance (by rfl) T.z_list (by decide +kernel) (by rfl) T.z_tuple (by decide +kernel) (by decide) (by decide))))
theorem ok_is_rising (T : Txt K mg A) : FnOk P w K mg base (L2.CX P w) 2 A.f_is_rising A.d_is_rising ["thing", "least", "most"] (spF K mg 3 F_is_rising) := by
    refine fn_ok (k := 1) .trunc T.u_is_rising sc_is_rising fun cdv Ar outer s H E hr => ?_
    have tk := takes_of (X := cxOf (L2.CX P w) P w K mg base ["thing", "least", "most", "last", "one"] "is_rising" (defScope s_is_rising) A.f_is_rising cdv Ar outer s H E) rfl rfl rfl rfl
    have hp := passes_of (X := cxOf (L2.CX P w) P w K mg base ["thing", "least", "most", "last", "one"] "is_rising" (defScope s_is_rising) A.f_is_rising cdv Ar outer s H E) rfl
    exact (vss_cons (vs_if (vt_not (vt_val (ve_call (ok_is_row T) (hr.mono (by first | decide | omega)) (by rfl) T.g_is_row T.u_is_row.kp T.b_is_row tk (va_cons (ve_var 0) va_nil)))) (vss_one (vs_ret ve_bl)) vss_nil)
      (vss_cons (vs_set 3 sc_is_rising.nd (ve_bin od_sub (ve_var 1) ve_int))
      (vss_cons (vs_fa (vs_fb (vs_for (vs := [4]) hp rfl (vi_row (ve_var 0)) (vg_name 4 sc_is_rising.nd) (vss_fa (vss_cons (vs_if (vt_not (vt_val (ve_call (ok_is_whole T) (hr.mono (by first | decide | omega)) (by rfl) T.g_is_whole T.u_is_whole.kp T.b_is_whole tk (va_cons (ve_var 4) (va_cons (ve_bin od_add (ve_var 3) ve_int) (va_cons (ve_var 2) va_nil)))))) (vss_one (vs_ret ve_bl)) vss_nil)
      (vss_one (vs_set 3 sc_is_rising.nd (ve_var 4))))))))
      (vss_one (vs_ret ve_bl)))))
theorem ok_told_rows_n (T : Txt K mg A) : ∀ m : Nat, FnOk P w K mg base (L2.CX P w) (1 + m) A.f_told_rows A.d_told_rows ["thing"] (spF K mg 1 (F_told_rows m))
  | 0 => ⟨fun vs H Q E h => h.1, fun A outer s H args us vs Q E _ _ _ _ h => by obtain ⟨_, G, ms, ds, h, hh, i, q⟩ := h; exact q.elim⟩
  | m + 1 => by
    have hself := ok_told_rows_n T m
    refine fn_ok (k := 1 + m) .trunc T.u_told_rows sc_told_rows fun cdv Ar outer s H E hr => ?_
    have tk := takes_of (X := cxOf (L2.CX P w) P w K mg base ["thing", "one"] "told_rows" (defScope s_told_rows) A.f_told_rows cdv Ar outer s H E) rfl rfl rfl rfl
    have hp := passes_of (X := cxOf (L2.CX P w) P w K mg base ["thing", "one"] "told_rows" (defScope s_told_rows) A.f_told_rows cdv Ar outer s H E) rfl
    exact (vss_cons (vs_if (vt_val (ve_call (ok_is_row T) (hr.mono (by first | decide | omega)) (by rfl) T.g_is_row T.u_is_row.kp T.b_is_row tk (va_cons (ve_var 0) va_nil))) (vss_one (vs_ret (ve_callTy cd_tuple (by rfl) T.z_tuple (by decide +kernel) (va_cons (ve_comp false [("one", 1)] rfl sc_told_rows.nd (vi_row (ve_var 0)) (blkOk_by (own := [("one", 1)]) (N := ["thing", "one"]) (sc := defScope s_told_rows) (by decide +kernel)) (fun _ _ _ _ _ => (vg_name 1 sc_told_rows.nd)) (fun _ _ _ _ _ => vts_nil) (fun _ _ _ _ _ => (ve_call hself (hr.mono (by omega)) (by rfl) T.g_told_rows T.u_told_rows.kp T.b_told_rows takes0 (va_cons (ve_var 1) va_nil)))) va_nil)))) vss_nil)
      (vss_one (vs_ret (ve_var 0))))
theorem ok_told_rows (T : Txt K mg A) : FnOk P w K mg base (L2.CX P w) 47 A.f_told_rows A.d_told_rows ["thing"] (spF K mg 1 (F_told_rows 45)) := (ok_told_rows_n T 45).mono (by decide)
theorem ok_is_day (T : Txt K mg A) : FnOk P w K mg base (L2.CX P w) 3 A.f_is_day A.d_is_day ["many", "thing"] (spF K mg 2 F_is_day) := by
    refine fn_ok (k := 2) .trunc T.u_is_day sc_is_day fun cdv Ar outer s H E hr => ?_
    have tk := takes_of (X := cxOf (L2.CX P w) P w K mg base ["many", "thing"] "is_day" (defScope s_is_day) A.f_is_day cdv Ar outer s H E) rfl rfl rfl rfl
    have hp := passes_of (X := cxOf (L2.CX P w) P w K mg base ["many", "thing"] "is_day" (defScope s_is_day) A.f_is_day cdv Ar outer s H E) rfl
    exact (vss_one (vs_ret (ve_and (ve_call (ok_is_rising T) (hr.mono (by first | decide | omega)) (by rfl) T.g_is_rising T.u_is_rising.kp T.b_is_rising tk (va_cons (ve_var 1) (va_cons ve_int (va_cons (ve_bin od_sub (ve_var 0) ve_int) va_nil)))) (ve_one (ve_cmp od_le (ve_callB cd_len (by rfl) T.z_len (by decide +kernel) (va_cons (ve_var 1) va_nil)) (ve_globI (by rfl) T.c_MOST_ON_A_DAY))))))
theorem ok_are_days (T : Txt K mg A) : FnOk P w K mg base (L2.CX P w) 4 A.f_are_days A.d_are_days ["many", "thing"] (spF K mg 2 F_are_days) := by
    refine fn_ok (k := 3) .trunc T.u_are_days sc_are_days fun cdv Ar outer s H E hr => ?_
    have tk := takes_of (X := cxOf (L2.CX P w) P w K mg base ["many", "thing", "day"] "are_days" (defScope s_are_days) A.f_are_days cdv Ar outer s H E) rfl rfl rfl rfl
    have hp := passes_of (X := cxOf (L2.CX P w) P w K mg base ["many", "thing", "day"] "are_days" (defScope s_are_days) A.f_are_days cdv Ar outer s H E) rfl
    exact (vss_cons (vs_if (vt_w (vw_or (vt_not (vt_val (ve_call (ok_is_row T) (hr.mono (by first | decide | omega)) (by rfl) T.g_is_row T.u_is_row.kp T.b_is_row tk (va_cons (ve_var 1) va_nil)))) (vw_or1 (vt_cmp od_gt (ve_callB cd_len (by rfl) T.z_len (by decide +kernel) (va_cons (ve_var 1) va_nil)) (ve_globI (by rfl) T.c_LONGEST))))) (vss_one (vs_ret ve_bl)) vss_nil)
      (vss_one (vs_ret (ve_cmp (od_eq hr.units) (ve_comp false [("day", 2)] rfl sc_are_days.nd (vi_row (ve_var 1)) (blkOk_by (own := [("day", 2)]) (N := ["many", "thing", "day"]) (sc := defScope s_are_days) (by decide +kernel)) (fun _ _ _ _ _ => (vg_name 2 sc_are_days.nd)) (fun _ _ _ _ _ => (vts_one (vt_not (vt_val (ve_call (ok_is_day T) (hr.mono (by first | decide | omega)) (by rfl) T.g_is_day T.u_is_day.kp T.b_is_day takes0 (va_cons (ve_var 0) (va_cons (ve_var 2) va_nil))))))) (fun _ _ _ _ _ => (ve_var 2))) (ve_lst false va_nil)))))
theorem ok_is_ring (T : Txt K mg A) : FnOk P w K mg base (L2.CX P w) 5 A.f_is_ring A.d_is_ring ["many", "thing"] (spF K mg 2 F_is_ring) := by
    refine fn_ok (k := 4) .trunc T.u_is_ring sc_is_ring fun cdv Ar outer s H E hr => ?_
    have tk := takes_of (X := cxOf (L2.CX P w) P w K mg base ["many", "thing"] "is_ring" (defScope s_is_ring) A.f_is_ring cdv Ar outer s H E) rfl rfl rfl rfl
    have hp := passes_of (X := cxOf (L2.CX P w) P w K mg base ["many", "thing"] "is_ring" (defScope s_is_ring) A.f_is_ring cdv Ar outer s H E) rfl
    exact (vss_one (vs_ret (ve_and (ve_call (ok_are_days T) (hr.mono (by first | decide | omega)) (by rfl) T.g_are_days T.u_are_days.kp T.b_are_days tk (va_cons (ve_var 0) (va_cons (ve_var 1) va_nil))) (ve_one (ve_cmp od_gt (ve_callB cd_len (by rfl) T.z_len (by decide +kernel) (va_cons (ve_var 1) va_nil)) ve_int)))))
theorem ok_asked_ring (T : Txt K mg A) : FnOk P w K mg base (L2.CX P w) 48 A.f_asked_ring A.d_asked_ring ["many", "thing"] (spF K mg 2 F_asked_ring) := by
    refine fn_ok (k := 47) .trunc T.u_asked_ring sc_asked_ring fun cdv Ar outer s H E hr => ?_
    have tk := takes_of (X := cxOf (L2.CX P w) P w K mg base ["many", "thing"] "asked_ring" (defScope s_asked_ring) A.f_asked_ring cdv Ar outer s H E) rfl rfl rfl rfl
    have hp := passes_of (X := cxOf (L2.CX P w) P w K mg base ["many", "thing"] "asked_ring" (defScope s_asked_ring) A.f_asked_ring cdv Ar outer s H E) rfl
    exact (vss_cons (vs_if (vt_not (vt_val (ve_call (ok_is_ring T) (hr.mono (by first | decide | omega)) (by rfl) T.g_is_ring T.u_is_ring.kp T.b_is_ring tk (va_cons (ve_var 0) (va_cons (ve_var 1) va_nil))))) (vss_one (vs_raise T.x_NoRing (by rfl) rfl tk)) vss_nil)
      (vss_one (vs_ret (ve_call (ok_told_rows T) (hr.mono (by first | decide | omega)) (by rfl) T.g_told_rows T.u_told_rows.kp T.b_told_rows tk (va_cons (ve_var 1) va_nil)))))
theorem ok_farthest (T : Txt K mg A) : FnOk P w K mg base (L2.CX P w) 1 A.f_farthest A.d_farthest ["ring", "hands", "cur", "number"] (spF K mg 4 F_farthest) := by
    refine fn_ok (k := 0) .trunc T.u_farthest sc_farthest fun cdv Ar outer s H E hr => ?_
    have tk := takes_of (X := cxOf (L2.CX P w) P w K mg base ["ring", "hands", "cur", "number", "far"] "farthest" (defScope s_farthest) A.f_farthest cdv Ar outer s H E) rfl rfl rfl rfl
    have hp := passes_of (X := cxOf (L2.CX P w) P w K mg base ["ring", "hands", "cur", "number", "far"] "farthest" (defScope s_farthest) A.f_farthest cdv Ar outer s H E) rfl
    exact (vss_cons (vs_fb (vs_for (vs := [4]) hp rfl (vi_range3 (by rfl) T.z_range (va_cons (ve_var 3) (va_cons ve_int (va_cons (ve_neg ve_int) va_nil)))) (vg_name 4 sc_farthest.nd) (vss_fa (vss_one (vs_if (vt_cmp od_lt (ve_callB cd_len (by rfl) T.z_len (by decide +kernel) (va_cons (ve_ix (ve_var 0) (ve_bin od_mod (ve_bin od_add (ve_var 2) (ve_var 4)) (ve_callB cd_len (by rfl) T.z_len (by decide +kernel) (va_cons (ve_var 0) va_nil)))) va_nil)) (ve_var 1)) (vss_one (vs_ret (ve_bin od_add (ve_var 2) (ve_var 4)))) vss_nil)))))
      (vss_one (vs_ret ve_non)))
theorem ok_places_from (T : Txt K mg A) : FnOk P w K mg base (L2.CX P w) 2 A.f_places_from A.d_places_from ["ring", "hands", "begin", "number"] (spF K mg 4 F_places_from) := by
    refine fn_ok (k := 1) .trunc T.u_places_from sc_places_from fun cdv Ar outer s H E hr => ?_
    have tk := takes_of (X := cxOf (L2.CX P w) P w K mg base ["ring", "hands", "begin", "number", "found", "place"] "places_from" (defScope s_places_from) A.f_places_from cdv Ar outer s H E) rfl rfl rfl rfl
    have hp := passes_of (X := cxOf (L2.CX P w) P w K mg base ["ring", "hands", "begin", "number", "found", "place"] "places_from" (defScope s_places_from) A.f_places_from cdv Ar outer s H E) rfl
    exact (vss_cons (vs_set 4 sc_places_from.nd (ve_lst true (va_cons (ve_var 2) va_nil)))
      (vss_cons (vs_fb (vs_while hp (vt_cmp od_gt (ve_bin od_sub (ve_bin od_add (ve_var 2) (ve_callB cd_len (by rfl) T.z_len (by decide +kernel) (va_cons (ve_var 0) va_nil))) (ve_ix (ve_var 4) (ve_neg ve_int))) (ve_var 3)) (vss_fa (vss_cons (vs_set 5 sc_places_from.nd (ve_call (ok_farthest T) (hr.mono (by first | decide | omega)) (by rfl) T.g_farthest T.u_farthest.kp T.b_farthest tk (va_cons (ve_var 0) (va_cons (ve_var 1) (va_cons (ve_ix (ve_var 4) (ve_neg ve_int)) (va_cons (ve_var 3) va_nil))))))
      (vss_cons (vs_if (vt_cmp od_is (ve_var 5) ve_non) (vss_one (vs_ret ve_non)) vss_nil)
      (vss_one (vs_expr (ve_ml PySem.F.slot_list_append PySem.F.type_list_append md_append (ve_var 4) (va_cons (ve_var 5) va_nil)))))))))
      (vss_one (vs_ret (ve_var 4)))))
theorem ok_fewest_places (T : Txt K mg A) : FnOk P w K mg base (L2.CX P w) 3 A.f_fewest_places A.d_fewest_places ["ring", "hands", "number"] (spF K mg 3 F_fewest_places) := by
    refine fn_ok (k := 2) .trunc T.u_fewest_places sc_fewest_places fun cdv Ar outer s H E hr => ?_
    have tk := takes_of (X := cxOf (L2.CX P w) P w K mg base ["ring", "hands", "number", "best", "begin", "found"] "fewest_places" (defScope s_fewest_places) A.f_fewest_places cdv Ar outer s H E) rfl rfl rfl rfl
    have hp := passes_of (X := cxOf (L2.CX P w) P w K mg base ["ring", "hands", "number", "best", "begin", "found"] "fewest_places" (defScope s_fewest_places) A.f_fewest_places cdv Ar outer s H E) rfl
    exact (vss_cons (vs_set 3 sc_fewest_places.nd ve_non)
      (vss_cons (vs_fb (vs_for (vs := [4]) hp rfl (vi_range1 (by rfl) T.z_range (va_cons (ve_callB (cd_min rfl) (by rfl) T.z_min (by decide +kernel) (va_cons (ve_var 2) (va_cons (ve_callB cd_len (by rfl) T.z_len (by decide +kernel) (va_cons (ve_var 0) va_nil)) va_nil))) va_nil)) (vg_name 4 sc_fewest_places.nd) (vss_fa (vss_one (vs_if (vt_cmp od_lt (ve_callB cd_len (by rfl) T.z_len (by decide +kernel) (va_cons (ve_ix (ve_var 0) (ve_var 4)) va_nil)) (ve_var 1)) (vss_cons (vs_set 5 sc_fewest_places.nd (ve_call (ok_places_from T) (hr.mono (by first | decide | omega)) (by rfl) T.g_places_from T.u_places_from.kp T.b_places_from tk (va_cons (ve_var 0) (va_cons (ve_var 1) (va_cons (ve_var 4) (va_cons (ve_var 2) va_nil))))))
      (vss_one (vs_if (vt_w (vw_and (vt_cmp od_isnot (ve_var 5) ve_non) (vw_and1 (vt_w (vw_or (vt_cmp od_is (ve_var 3) ve_non) (vw_or1 (vt_cmp od_lt (ve_callB cd_len (by rfl) T.z_len (by decide +kernel) (va_cons (ve_var 5) va_nil)) (ve_callB cd_len (by rfl) T.z_len (by decide +kernel) (va_cons (ve_var 3) va_nil))))))))) (vss_one (vs_set 3 sc_fewest_places.nd (ve_var 5))) vss_nil))) vss_nil)))))
      (vss_one (vs_ret (ve_var 3)))))
theorem ok_put_in (T : Txt K mg A) : FnOk P w K mg base (L2.CX P w) 49 A.f_put_in A.d_put_in ["ring", "hands", "i", "number"] (spF K mg 4 F_put_in) := by
    refine fn_ok (k := 48) .trunc T.u_put_in sc_put_in fun cdv Ar outer s H E hr => ?_
    have tk := takes_of (X := cxOf (L2.CX P w) P w K mg base ["ring", "hands", "i", "number", "day", "places", "at", "place", "k"] "put_in" (defScope s_put_in) A.f_put_in cdv Ar outer s H E) rfl rfl rfl rfl
    have hp := passes_of (X := cxOf (L2.CX P w) P w K mg base ["ring", "hands", "i", "number", "day", "places", "at", "place", "k"] "put_in" (defScope s_put_in) A.f_put_in cdv Ar outer s H E) rfl
    exact (vss_cons (vs_set 0 sc_put_in.nd (ve_call (ok_asked_ring T) (hr.mono (by first | decide | omega)) (by rfl) T.g_asked_ring T.u_asked_ring.kp T.b_asked_ring tk (va_cons (ve_globI (by rfl) T.c_MOST_THINGS) (va_cons (ve_var 0) va_nil))))
      (vss_cons (vs_if (vt_w (vw_or (vt_not (vt_val (ve_call (ok_is_whole T) (hr.mono (by first | decide | omega)) (by rfl) T.g_is_whole T.u_is_whole.kp T.b_is_whole tk (va_cons (ve_var 1) (va_cons ve_int (va_cons ve_int va_nil)))))) (vw_or (vt_not (vt_val (ve_call (ok_is_whole T) (hr.mono (by first | decide | omega)) (by rfl) T.g_is_whole T.u_is_whole.kp T.b_is_whole tk (va_cons (ve_var 2) (va_cons ve_int (va_cons (ve_bin od_sub (ve_globI (by rfl) T.c_MOST_THINGS) ve_int) va_nil)))))) (vw_or1 (vt_not (vt_val (ve_call (ok_is_whole T) (hr.mono (by first | decide | omega)) (by rfl) T.g_is_whole T.u_is_whole.kp T.b_is_whole tk (va_cons (ve_var 3) (va_cons ve_int (va_cons (ve_globI (by rfl) T.c_GREATEST) va_nil)))))))))) (vss_one (vs_raise T.x_NoDays (by rfl) rfl tk)) vss_nil)
      (vss_cons (vs_if (vt_cmp (od_ne hr.units) (ve_comp false [("day", 4)] rfl sc_put_in.nd (vi_row (ve_var 0)) (blkOk_by (own := [("day", 4)]) (N := ["ring", "hands", "i", "number", "day", "places", "at", "place", "k"]) (sc := defScope s_put_in) (by decide +kernel)) (fun _ _ _ _ _ => (vg_name 4 sc_put_in.nd)) (fun _ _ _ _ _ => (vts_one (vt_cmp od_in (ve_var 2) (ve_var 4)))) (fun _ _ _ _ _ => (ve_var 4))) (ve_lst false va_nil)) (vss_one (vs_raise T.x_NoThing (by rfl) rfl tk)) vss_nil)
      (vss_cons (vs_set 5 sc_put_in.nd (ve_call (ok_fewest_places T) (hr.mono (by first | decide | omega)) (by rfl) T.g_fewest_places T.u_fewest_places.kp T.b_fewest_places tk (va_cons (ve_var 0) (va_cons (ve_var 1) (va_cons (ve_var 3) va_nil)))))
      (vss_cons (vs_if (vt_cmp od_is (ve_var 5) ve_non) (vss_one (vs_ret ve_non)) vss_nil)
      (vss_cons (vs_set 6 sc_put_in.nd (ve_comp false [("place", 7)] rfl sc_put_in.nd (vi_row (ve_var 5)) (blkOk_by (own := [("place", 7)]) (N := ["ring", "hands", "i", "number", "day", "places", "at", "place", "k"]) (sc := defScope s_put_in) (by decide +kernel)) (fun _ _ _ _ _ => (vg_name 7 sc_put_in.nd)) (fun _ _ _ _ _ => vts_nil) (fun _ _ _ _ _ => (ve_bin od_mod (ve_var 7) (ve_callB cd_len (by rfl) T.z_len (by decide +kernel) (va_cons (ve_var 0) va_nil))))))
      (vss_one (vs_ret (ve_callTy cd_tuple (by rfl) T.z_tuple (by decide +kernel) (va_cons (ve_comp false [("k", 8), ("day", 4)] rfl sc_put_in.nd (vi_enumerate (by rfl) T.z_enumerate (va_cons (ve_var 0) va_nil)) (blkOk_by (own := [("k", 8), ("day", 4)]) (N := ["ring", "hands", "i", "number", "day", "places", "at", "place", "k"]) (sc := defScope s_put_in) (by decide +kernel)) (fun _ _ _ _ _ => (vg_un rfl (vgs_cons (vg_name 8 sc_put_in.nd) (vgs_cons (vg_name 4 sc_put_in.nd) vgs_nil)))) (fun _ _ _ _ _ => vts_nil) (fun _ _ _ _ _ => (ve_callTy cd_tuple (by rfl) T.z_tuple (by decide +kernel) (va_cons (ve_callB (cd_sorted false) (by rfl) T.z_sorted (by decide +kernel) (va_cons (ve_bin od_add (ve_var 4) (ve_bin od_mul (ve_tup (va_cons (ve_var 2) va_nil)) (ve_callTy cd_int (by rfl) T.z_int (by decide +kernel) (va_cons (ve_cmp od_in (ve_var 8) (ve_var 6)) va_nil)))) va_nil)) va_nil)))) va_nil))))))))))
theorem ok__law_deck (T : Txt K mg A) : FnOk P w K mg base (L2.CX P w) 1 A.f__law_deck A.d__law_deck ["_law_script", "_law_many"] (spF K mg 2 F__law_deck) := by
    refine fn_ok (k := 0) .move T.u__law_deck sc__law_deck fun cdv Ar outer s H E hr => ?_
    have tk := takes_of (X := cxOf (L2.CX P w) P w K mg base ["_law_script", "_law_many", "_law_row", "_law_odd_here", "_law_deck_here", "_law_k", "_law_at", "_law_one"] "_law_deck" (defScope s__law_deck) A.f__law_deck cdv Ar outer s H E) rfl rfl rfl rfl
    have hp := passes_of (X := cxOf (L2.CX P w) P w K mg base ["_law_script", "_law_many", "_law_row", "_law_odd_here", "_law_deck_here", "_law_k", "_law_at", "_law_one"] "_law_deck" (defScope s__law_deck) A.f__law_deck cdv Ar outer s H E) rfl
    exact (vss_cons (vs_set 2 sc__law_deck.nd (ve_callTy (cd_list true) (by rfl) T.z_list (by decide +kernel) (va_cons (ve_var 0) va_nil)))
      (vss_cons (vs_if (vt_cmp (od_eq hr.units) (ve_var 2) (ve_lst false va_nil)) (vss_one (vs_set 2 sc__law_deck.nd (ve_lst true (va_cons ve_int va_nil)))) vss_nil)
      (vss_cons (vs_set 3 sc__law_deck.nd (ve_bin od_mod (ve_ix (ve_var 2) ve_int) ve_int))
      (vss_cons (vs_item (ve_bin od_fdiv (ve_ix (ve_var 2) ve_int) ve_int) (ve_var 2) ve_int)
      (vss_cons (vs_set 4 sc__law_deck.nd (ve_lst true va_nil))
      (vss_cons (vs_fb (vs_for (vs := [5]) hp rfl (vi_range1 (by rfl) T.z_range (va_cons (ve_var 1) va_nil)) (vg_name 5 sc__law_deck.nd) (vss_fa (vss_cons (vs_set 6 sc__law_deck.nd (ve_bin od_mod (ve_var 5) (ve_callB cd_len (by rfl) T.z_len (by decide +kernel) (va_cons (ve_var 2) va_nil))))
      (vss_cons (vs_set 7 sc__law_deck.nd (ve_bin od_mod (ve_ix (ve_var 2) (ve_var 6)) ve_int))
      (vss_cons (vs_if (vt_cmp (od_eq hr.units) (ve_var 3) ve_int) (vss_cons (vs_set 7 sc__law_deck.nd (ve_bin od_mod (ve_bin od_add (ve_bin od_add (ve_ix (ve_var 2) (ve_var 6)) (ve_bin od_mul (ve_bin od_mul (ve_var 5) (ve_var 5)) ve_int)) (ve_bin od_mul ve_int (ve_var 5))) ve_int))
      (vss_cons (vs_set 7 sc__law_deck.nd (ve_bin od_mod (ve_bin od_add (ve_bin od_mul (ve_var 7) (ve_ix (ve_lst false (va_cons ve_int (va_cons ve_int (va_cons ve_int (va_cons ve_int va_nil))))) (ve_bin od_mod (ve_var 5) ve_int))) ve_int) ve_int))
      (vss_one (vs_set 7 sc__law_deck.nd (ve_bin od_mod (ve_bin od_mul (ve_var 7) (ve_var 7)) ve_int))))) (vss_one (vs_item (ve_bin od_fdiv (ve_ix (ve_var 2) (ve_var 6)) ve_int) (ve_var 2) (ve_var 6))))
      (vss_one (vs_expr (ve_ml PySem.F.slot_list_append PySem.F.type_list_append md_append (ve_var 4) (va_cons (ve_var 7) va_nil))))))))))
      (vss_cons (vs_expr (ve_ml0 PySem.F.slot_list_reverse PySem.F.type_list_reverse md_reverse (ve_var 4)))
      (vss_one (vs_ret (ve_var 4))))))))))
theorem ok__law_whole (T : Txt K mg A) : FnOk P w K mg base (L2.CX P w) 1 A.f__law_whole A.d__law_whole ["_law_thing", "_law_least", "_law_most"] (spF K mg 3 F__law_whole) := by
    refine fn_ok (k := 0) .trunc T.u__law_whole sc__law_whole fun cdv Ar outer s H E hr => ?_
    have tk := takes_of (X := cxOf (L2.CX P w) P w K mg base ["_law_thing", "_law_least", "_law_most"] "_law_whole" (defScope s__law_whole) A.f__law_whole cdv Ar outer s H E) rfl rfl rfl rfl
    have hp := passes_of (X := cxOf (L2.CX P w) P w K mg base ["_law_thing", "_law_least", "_law_most"] "_law_whole" (defScope s__law_whole) A.f__law_whole cdv Ar outer s H E) rfl
    exact (vss_one (vs_ret (ve_and (ve_isi (ve_var 0) (by rfl) T.z_isinstance (by rfl) T.z_int (by decide +kernel) (by decide)) (ve_and (ve_not (ve_isi (ve_var 0) (by rfl) T.z_isinstance (by rfl) T.z_bool (by decide +kernel) (by decide))) (ve_one (ve_chain od_le od_le (ve_var 1) (ve_var 0) (ve_var 2)))))))
theorem ok__law_lists_n (T : Txt K mg A) : ∀ m : Nat, FnOk P w K mg base (L2.CX P w) (0 + m) A.f__law_lists A.d__law_lists ["_law_thing"] (spF K mg 1 (F__law_lists m))
  | 0 => ⟨fun vs H Q E h => h.1, fun A outer s H args us vs Q E _ _ _ _ h => by obtain ⟨_, G, ms, ds, h, hh, i, q⟩ := h; exact q.elim⟩
  | m + 1 => by
    have hself := ok__law_lists_n T m
    refine fn_ok (k := 0 + m) .keep T.u__law_lists sc__law_lists fun cdv Ar outer s H E hr => ?_
    have tk := takes_of (X := cxOf (L2.CX P w) P w K mg base ["_law_thing", "_law_one"] "_law_lists" (defScope s__law_lists) A.f__law_lists cdv Ar outer s H E) rfl rfl rfl rfl
    have hp := passes_of (X := cxOf (L2.CX P w) P w K mg base ["_law_thing", "_law_one"] "_law_lists" (defScope s__law_lists) A.f__law_lists cdv Ar outer s H E) rfl
    exact (vss_cons (vs_if (vt_val (ve_isiT (ve_var 0) (by rfl) T.z_isinstance (by rfl) T.z_list (by decide +kernel) (by rfl) T.z_tuple (by decide +kernel) (by decide) (by decide))) (vss_one (vs_ret (ve_comp false [("_law_one", 1)] rfl sc__law_lists.nd (vi_row (ve_var 0)) (blkOk_by (own := [("_law_one", 1)]) (N := ["_law_thing", "_law_one"]) (sc := defScope s__law_lists) (by decide +kernel)) (fun _ _ _ _ _ => (vg_name 1 sc__law_lists.nd)) (fun _ _ _ _ _ => vts_nil) (fun _ _ _ _ _ => (ve_call hself (hr.mono (by omega)) (by rfl) T.g__law_lists T.u__law_lists.kp T.b__law_lists takes0 (va_cons (ve_var 1) va_nil)))))) vss_nil)
      (vss_one (vs_ret (ve_var 0))))
theorem ok__law_lists (T : Txt K mg A) : FnOk P w K mg base (L2.CX P w) 46 A.f__law_lists A.d__law_lists ["_law_thing"] (spF K mg 1 (F__law_lists 45)) := (ok__law_lists_n T 45).mono (by decide)
theorem ok__law_handed (T : Txt K mg A) : FnOk P w K mg base (L2.CX P w) 47 A.f__law_handed A.d__law_handed ["_law_thing", "_law_draw"] (spF K mg 2 F__law_handed) := by
    refine fn_ok (k := 46) .keep T.u__law_handed sc__law_handed fun cdv Ar outer s H E hr => ?_
    have tk := takes_of (X := cxOf (L2.CX P w) P w K mg base ["_law_thing", "_law_draw"] "_law_handed" (defScope s__law_handed) A.f__law_handed cdv Ar outer s H E) rfl rfl rfl rfl
    have hp := passes_of (X := cxOf (L2.CX P w) P w K mg base ["_law_thing", "_law_draw"] "_law_handed" (defScope s__law_handed) A.f__law_handed cdv Ar outer s H E) rfl
    exact (vss_cons (vs_if (vt_cmp (od_eq hr.units) (ve_bin od_mod (ve_var 1) ve_int) ve_int) (vss_one (vs_ret (ve_var 0))) vss_nil)
      (vss_one (vs_ret (ve_call (ok__law_lists T) (hr.mono (by first | decide | omega)) (by rfl) T.g__law_lists T.u__law_lists.kp T.b__law_lists tk (va_cons (ve_var 0) va_nil)))))
theorem ok__law_odd (T : Txt K mg A) : FnOk P w K mg base (L2.CX P w) 1 A.f__law_odd A.d__law_odd ["_law_draw"] (spF K mg 1 F__law_odd) := by
    refine fn_ok (k := 0) .trunc T.u__law_odd sc__law_odd fun cdv Ar outer s H E hr => ?_
    have tk := takes_of (X := cxOf (L2.CX P w) P w K mg base ["_law_draw", "_law_some"] "_law_odd" (defScope s__law_odd) A.f__law_odd cdv Ar outer s H E) rfl rfl rfl rfl
    have hp := passes_of (X := cxOf (L2.CX P w) P w K mg base ["_law_draw", "_law_some"] "_law_odd" (defScope s__law_odd) A.f__law_odd cdv Ar outer s H E) rfl
    exact (vss_cons (vs_set 1 sc__law_odd.nd (ve_lst false (va_cons ve_non (va_cons ve_bl (va_cons ve_bl (va_cons ve_str (va_cons ve_str (va_cons (ve_tup va_nil) (va_cons (ve_lst false va_nil) (va_cons ve_dict0 (va_cons (ve_tup (va_cons ve_int va_nil)) (va_cons (ve_lst false (va_cons (ve_lst false (va_cons ve_int va_nil)) va_nil)) (va_cons (ve_neg ve_int) (va_cons (ve_bin od_pow ve_int ve_int) (va_cons (ve_bin od_sub ve_int (ve_bin od_pow ve_int ve_int)) (va_cons ve_str (va_cons ve_dict1 (va_cons (ve_tup (va_cons ve_non va_nil)) va_nil))))))))))))))))))
      (vss_one (vs_ret (ve_ix (ve_var 1) (ve_bin od_mod (ve_var 0) ve_int)))))
theorem ok__law_is_day (T : Txt K mg A) : FnOk P w K mg base (L2.CX P w) 2 A.f__law_is_day A.d__law_is_day ["_law_many", "_law_thing"] (spF K mg 2 F__law_is_day) := by
    refine fn_ok (k := 1) .trunc T.u__law_is_day sc__law_is_day fun cdv Ar outer s H E hr => ?_
    have tk := takes_of (X := cxOf (L2.CX P w) P w K mg base ["_law_many", "_law_thing", "_law_one"] "_law_is_day" (defScope s__law_is_day) A.f__law_is_day cdv Ar outer s H E) rfl rfl rfl rfl
    have hp := passes_of (X := cxOf (L2.CX P w) P w K mg base ["_law_many", "_law_thing", "_law_one"] "_law_is_day" (defScope s__law_is_day) A.f__law_is_day cdv Ar outer s H E) rfl
    exact (vss_cons (vs_if (vt_w (vw_or (vt_not (vt_val (ve_isiT (ve_var 1) (by rfl) T.z_isinstance (by rfl) T.z_list (by decide +kernel) (by rfl) T.z_tuple (by decide +kernel) (by decide) (by decide)))) (vw_or1 (vt_cmp od_gt (ve_callB cd_len (by rfl) T.z_len (by decide +kernel) (va_cons (ve_var 1) va_nil)) ve_int)))) (vss_one (vs_ret ve_bl)) vss_nil)
      (vss_cons (vs_if (vt_cmp (od_ne hr.units) (ve_comp false [("_law_one", 2)] rfl sc__law_is_day.nd (vi_row (ve_var 1)) (blkOk_by (own := [("_law_one", 2)]) (N := ["_law_many", "_law_thing", "_law_one"]) (sc := defScope s__law_is_day) (by decide +kernel)) (fun _ _ _ _ _ => (vg_name 2 sc__law_is_day.nd)) (fun _ _ _ _ _ => (vts_one (vt_not (vt_val (ve_call (ok__law_whole T) (hr.mono (by first | decide | omega)) (by rfl) T.g__law_whole T.u__law_whole.kp T.b__law_whole takes0 (va_cons (ve_var 2) (va_cons ve_int (va_cons (ve_bin od_sub (ve_var 0) ve_int) va_nil)))))))) (fun _ _ _ _ _ => (ve_var 2))) (ve_lst false va_nil)) (vss_one (vs_ret ve_bl)) vss_nil)
      (vss_one (vs_ret (ve_or (ve_cmp od_lt (ve_callB cd_len (by rfl) T.z_len (by decide +kernel) (va_cons (ve_var 1) va_nil)) ve_int) (ve_one (ve_cmp od_lt (ve_ix (ve_var 1) ve_int) (ve_ix (ve_var 1) ve_int))))))))
theorem ok__law_is_ring (T : Txt K mg A) : FnOk P w K mg base (L2.CX P w) 3 A.f__law_is_ring A.d__law_is_ring ["_law_many", "_law_thing"] (spF K mg 2 F__law_is_ring) := by
    refine fn_ok (k := 2) .trunc T.u__law_is_ring sc__law_is_ring fun cdv Ar outer s H E hr => ?_
    have tk := takes_of (X := cxOf (L2.CX P w) P w K mg base ["_law_many", "_law_thing", "_law_day_here"] "_law_is_ring" (defScope s__law_is_ring) A.f__law_is_ring cdv Ar outer s H E) rfl rfl rfl rfl
    have hp := passes_of (X := cxOf (L2.CX P w) P w K mg base ["_law_many", "_law_thing", "_law_day_here"] "_law_is_ring" (defScope s__law_is_ring) A.f__law_is_ring cdv Ar outer s H E) rfl
    exact (vss_cons (vs_if (vt_w (vw_or (vt_not (vt_val (ve_isiT (ve_var 1) (by rfl) T.z_isinstance (by rfl) T.z_list (by decide +kernel) (by rfl) T.z_tuple (by decide +kernel) (by decide) (by decide)))) (vw_or1 (vt_not (vt_chain od_le od_le ve_int (ve_callB cd_len (by rfl) T.z_len (by decide +kernel) (va_cons (ve_var 1) va_nil)) ve_int))))) (vss_one (vs_ret ve_bl)) vss_nil)
      (vss_one (vs_ret (ve_cmp (od_eq hr.units) (ve_comp false [("_law_day_here", 2)] rfl sc__law_is_ring.nd (vi_row (ve_var 1)) (blkOk_by (own := [("_law_day_here", 2)]) (N := ["_law_many", "_law_thing", "_law_day_here"]) (sc := defScope s__law_is_ring) (by decide +kernel)) (fun _ _ _ _ _ => (vg_name 2 sc__law_is_ring.nd)) (fun _ _ _ _ _ => (vts_one (vt_not (vt_val (ve_call (ok__law_is_day T) (hr.mono (by first | decide | omega)) (by rfl) T.g__law_is_day T.u__law_is_day.kp T.b__law_is_day takes0 (va_cons (ve_var 0) (va_cons (ve_var 2) va_nil))))))) (fun _ _ _ _ _ => (ve_var 2))) (ve_lst false va_nil)))))
theorem ok__law_day (T : Txt K mg A) : FnOk P w K mg base (L2.CX P w) 1 A.f__law_day A.d__law_day ["_law_deck_here", "_law_many"] (spF K mg 2 F__law_day) := by
    refine fn_ok (k := 0) .trunc T.u__law_day sc__law_day fun cdv Ar outer s H E hr => ?_
    have tk := takes_of (X := cxOf (L2.CX P w) P w K mg base ["_law_deck_here", "_law_many", "_law_draw", "_law_i", "_law_j"] "_law_day" (defScope s__law_day) A.f__law_day cdv Ar outer s H E) rfl rfl rfl rfl
    have hp := passes_of (X := cxOf (L2.CX P w) P w K mg base ["_law_deck_here", "_law_many", "_law_draw", "_law_i", "_law_j"] "_law_day" (defScope s__law_day) A.f__law_day cdv Ar outer s H E) rfl
    exact (vss_cons (vs_set 2 sc__law_day.nd (ve_ml0 PySem.F.slot_list_pop PySem.F.type_list_pop md_pop (ve_var 0)))
      (vss_cons (vs_if (vt_w (vw_or (vt_cmp (od_eq hr.units) (ve_var 1) ve_int) (vw_or1 (vt_cmp (od_eq hr.units) (ve_bin od_mod (ve_var 2) ve_int) ve_int)))) (vss_one (vs_ret (ve_tup va_nil))) vss_nil)
      (vss_cons (vs_set 3 sc__law_day.nd (ve_bin od_mod (ve_bin od_fdiv (ve_var 2) ve_int) (ve_var 1)))
      (vss_cons (vs_set 4 sc__law_day.nd (ve_bin od_mod (ve_bin od_fdiv (ve_var 2) ve_int) (ve_var 1)))
      (vss_cons (vs_if (vt_w (vw_or (vt_cmp od_gt (ve_bin od_mod (ve_bin od_fdiv (ve_var 2) ve_int) ve_int) ve_int) (vw_or1 (vt_cmp (od_eq hr.units) (ve_var 3) (ve_var 4))))) (vss_one (vs_ret (ve_tup (va_cons (ve_var 3) va_nil)))) vss_nil)
      (vss_one (vs_ret (ve_tup (va_cons (ve_callB (cd_min rfl) (by rfl) T.z_min (by decide +kernel) (va_cons (ve_var 3) (va_cons (ve_var 4) va_nil))) (va_cons (ve_callB (cd_max rfl) (by rfl) T.z_max (by decide +kernel) (va_cons (ve_var 3) (va_cons (ve_var 4) va_nil))) va_nil))))))))))
theorem ok__law_ring (T : Txt K mg A) : FnOk P w K mg base (L2.CX P w) 2 A.f__law_ring A.d__law_ring ["_law_deck_here", "_law_many", "_law_size"] (spF K mg 3 F__law_ring) := by
    refine fn_ok (k := 1) .trunc T.u__law_ring sc__law_ring fun cdv Ar outer s H E hr => ?_
    have tk := takes_of (X := cxOf (L2.CX P w) P w K mg base ["_law_deck_here", "_law_many", "_law_size", "_law_k"] "_law_ring" (defScope s__law_ring) A.f__law_ring cdv Ar outer s H E) rfl rfl rfl rfl
    have hp := passes_of (X := cxOf (L2.CX P w) P w K mg base ["_law_deck_here", "_law_many", "_law_size", "_law_k"] "_law_ring" (defScope s__law_ring) A.f__law_ring cdv Ar outer s H E) rfl
    exact (vss_one (vs_ret (ve_callTy cd_tuple (by rfl) T.z_tuple (by decide +kernel) (va_cons (ve_comp false [("_law_k", 3)] rfl sc__law_ring.nd (vi_range1 (by rfl) T.z_range (va_cons (ve_var 2) va_nil)) (blkOk_by (own := [("_law_k", 3)]) (N := ["_law_deck_here", "_law_many", "_law_size", "_law_k"]) (sc := defScope s__law_ring) (by decide +kernel)) (fun _ _ _ _ _ => (vg_name 3 sc__law_ring.nd)) (fun _ _ _ _ _ => vts_nil) (fun _ _ _ _ _ => (ve_call (ok__law_day T) (hr.mono (by first | decide | omega)) (by rfl) T.g__law_day T.u__law_day.kp T.b__law_day takes0 (va_cons (ve_var 0) (va_cons (ve_var 1) va_nil))))) va_nil))))
theorem ok__law_gaps (T : Txt K mg A) : FnOk P w K mg base (L2.CX P w) 1 A.f__law_gaps A.d__law_gaps ["_law_days", "_law_i"] (spF K mg 2 F__law_gaps) := by
    refine fn_ok (k := 0) .trunc T.u__law_gaps sc__law_gaps fun cdv Ar outer s H E hr => ?_
    have tk := takes_of (X := cxOf (L2.CX P w) P w K mg base ["_law_days", "_law_i", "_law_found", "_law_at", "_law_far"] "_law_gaps" (defScope s__law_gaps) A.f__law_gaps cdv Ar outer s H E) rfl rfl rfl rfl
    have hp := passes_of (X := cxOf (L2.CX P w) P w K mg base ["_law_days", "_law_i", "_law_found", "_law_at", "_law_far"] "_law_gaps" (defScope s__law_gaps) A.f__law_gaps cdv Ar outer s H E) rfl
    exact (vss_cons (vs_set 2 sc__law_gaps.nd (ve_lst true va_nil))
      (vss_cons (vs_fb (vs_for (vs := [3]) hp rfl (vi_range1 (by rfl) T.z_range (va_cons (ve_callB cd_len (by rfl) T.z_len (by decide +kernel) (va_cons (ve_var 0) va_nil)) va_nil)) (vg_name 3 sc__law_gaps.nd) (vss_fa (vss_one (vs_if (vt_cmp od_in (ve_var 1) (ve_ix (ve_var 0) (ve_var 3))) (vss_cons (vs_set 4 sc__law_gaps.nd ve_int)
      (vss_cons (vs_while hp (vt_cmp od_notin (ve_var 1) (ve_ix (ve_var 0) (ve_bin od_mod (ve_bin od_add (ve_var 3) (ve_var 4)) (ve_callB cd_len (by rfl) T.z_len (by decide +kernel) (va_cons (ve_var 0) va_nil))))) (vss_one (vs_set 4 sc__law_gaps.nd (ve_bin od_add (ve_var 4) ve_int))))
      (vss_one (vs_expr (ve_ml PySem.F.slot_list_append PySem.F.type_list_append md_append (ve_var 2) (va_cons (ve_var 4) va_nil)))))) vss_nil)))))
      (vss_one (vs_ret (ve_callTy cd_tuple (by rfl) T.z_tuple (by decide +kernel) (va_cons (ve_var 2) va_nil))))))
theorem ok__law_fewest (T : Txt K mg A) : FnOk P w K mg base (L2.CX P w) 1 A.f__law_fewest A.d__law_fewest ["_law_days", "_law_hands", "_law_number"] (spF K mg 3 F__law_fewest) := by
    refine fn_ok (k := 0) .trunc T.u__law_fewest sc__law_fewest fun cdv Ar outer s H E hr => ?_
    have tk := takes_of (X := cxOf (L2.CX P w) P w K mg base ["_law_days", "_law_hands", "_law_number", "_law_free", "_law_at", "_law_best", "_law_begin", "_law_steps", "_law_one", "_law_near"] "_law_fewest" (defScope s__law_fewest) A.f__law_fewest cdv Ar outer s H E) rfl rfl rfl rfl
    have hp := passes_of (X := cxOf (L2.CX P w) P w K mg base ["_law_days", "_law_hands", "_law_number", "_law_free", "_law_at", "_law_best", "_law_begin", "_law_steps", "_law_one", "_law_near"] "_law_fewest" (defScope s__law_fewest) A.f__law_fewest cdv Ar outer s H E) rfl
    exact (vss_cons (vs_setComp false 3 [("_law_at", 4)] rfl sc__law_fewest.nd (vi_range1 (by rfl) T.z_range (va_cons (ve_callB cd_len (by rfl) T.z_len (by decide +kernel) (va_cons (ve_var 0) va_nil)) va_nil)) (blkOk_by (own := [("_law_at", 4)]) (N := ["_law_days", "_law_hands", "_law_number", "_law_free", "_law_at", "_law_best", "_law_begin", "_law_steps", "_law_one", "_law_near"]) (sc := defScope s__law_fewest) (by decide +kernel)) (fun _ _ _ _ _ => (vg_name 4 sc__law_fewest.nd)) (fun _ _ _ _ _ => (vts_one (vt_cmp od_lt (ve_callB cd_len (by rfl) T.z_len (by decide +kernel) (va_cons (ve_ix (ve_var 0) (ve_var 4)) va_nil)) (ve_var 1)))) (fun _ _ _ _ _ => (ve_var 4)))
      (vss_cons (vs_set 5 sc__law_fewest.nd ve_non)
      (vss_cons (vs_fb (vs_for (vs := [6]) hp rfl (vi_row (ve_var 3)) (vg_name 6 sc__law_fewest.nd) (vss_fa (vss_cons (vs_set 7 sc__law_fewest.nd (ve_ione (ve_var 6) ve_int))
      (vss_cons (vs_fb (vs_for (vs := [4]) hp rfl (vi_row (ve_bin od_add (ve_var 3) (ve_comp false [("_law_one", 8)] rfl sc__law_fewest.nd (vi_row (ve_var 3)) (blkOk_by (own := [("_law_one", 8)]) (N := ["_law_days", "_law_hands", "_law_number", "_law_free", "_law_at", "_law_best", "_law_begin", "_law_steps", "_law_one", "_law_near"]) (sc := defScope s__law_fewest) (by decide +kernel)) (fun _ _ _ _ _ => (vg_name 8 sc__law_fewest.nd)) (fun _ _ _ _ _ => vts_nil) (fun _ _ _ _ _ => (ve_bin od_add (ve_var 8) (ve_callB cd_len (by rfl) T.z_len (by decide +kernel) (va_cons (ve_var 0) va_nil))))))) (vg_name 4 sc__law_fewest.nd) (vss_fa (vss_cons (vs_setCompI false 7 9 [("_law_one", 8)] rfl sc__law_fewest.nd (ve_var 7) (blkOk_by (own := [("_law_one", 8)]) (N := ["_law_days", "_law_hands", "_law_number", "_law_free", "_law_at", "_law_best", "_law_begin", "_law_steps", "_law_one", "_law_near"]) (sc := defScope s__law_fewest) (by decide +kernel)) (fun _ _ _ _ _ => (vg_name 8 sc__law_fewest.nd)) (fun _ _ _ _ _ => (vts_one (vt_chain od_lt od_le (ve_var 8) (ve_var 4) (ve_bin od_add (ve_var 8) (ve_var 2))))) (fun _ _ _ _ _ => (ve_iget (units65 hr) (ve_var 7) (ve_var 8))))
      (vss_one (vs_if (vt_w (vw_and (vt_cmp (od_ne hr.units) (ve_var 9) (ve_lst false va_nil)) (vw_and1 (vt_cmp od_gt (ve_var 4) (ve_var 6))))) (vss_one (vs_iput (units65 hr) (ve_bin od_add ve_int (ve_callB (cd_min rfl) (by rfl) T.z_min (by decide +kernel) (va_cons (ve_var 9) va_nil))) (ve_var 7) (ve_var 4))) vss_nil))))))
      (vss_one (vs_if (vt_w (vw_and (vt_cmp (od_inI (units65 hr)) (ve_bin od_add (ve_var 6) (ve_callB cd_len (by rfl) T.z_len (by decide +kernel) (va_cons (ve_var 0) va_nil))) (ve_var 7)) (vw_and1 (vt_w (vw_or (vt_cmp od_is (ve_var 5) ve_non) (vw_or1 (vt_cmp od_lt (ve_bin od_sub (ve_iget (units65 hr) (ve_var 7) (ve_bin od_add (ve_var 6) (ve_callB cd_len (by rfl) T.z_len (by decide +kernel) (va_cons (ve_var 0) va_nil)))) ve_int) (ve_var 5)))))))) (vss_one (vs_set 5 sc__law_fewest.nd (ve_bin od_sub (ve_iget (units65 hr) (ve_var 7) (ve_bin od_add (ve_var 6) (ve_callB cd_len (by rfl) T.z_len (by decide +kernel) (va_cons (ve_var 0) va_nil)))) ve_int))) vss_nil)))))))
      (vss_one (vs_ret (ve_var 5))))))
theorem ok__law_tried (T : Txt K mg A) : FnOk P w K mg base (L2.CX P w) 2 A.f__law_tried A.d__law_tried ["_law_days", "_law_hands", "_law_number"] (spF K mg 3 F__law_tried) := by
    refine fn_ok (k := 1) .trunc T.u__law_tried sc__law_tried fun cdv Ar outer s H E hr => ?_
    have tk := takes_of (X := cxOf (L2.CX P w) P w K mg base ["_law_days", "_law_hands", "_law_number", "_law_best", "_law_mask", "_law_places", "_law_at", "_law_marks"] "_law_tried" (defScope s__law_tried) A.f__law_tried cdv Ar outer s H E) rfl rfl rfl rfl
    have hp := passes_of (X := cxOf (L2.CX P w) P w K mg base ["_law_days", "_law_hands", "_law_number", "_law_best", "_law_mask", "_law_places", "_law_at", "_law_marks"] "_law_tried" (defScope s__law_tried) A.f__law_tried cdv Ar outer s H E) rfl
    exact (vss_cons (vs_set 3 sc__law_tried.nd ve_non)
      (vss_cons (vs_fb (vs_for (vs := [4]) hp rfl (vi_range2 (by rfl) T.z_range (va_cons ve_int (va_cons (ve_bin od_shl ve_int (ve_callB cd_len (by rfl) T.z_len (by decide +kernel) (va_cons (ve_var 0) va_nil))) va_nil))) (vg_name 4 sc__law_tried.nd) (vss_fa (vss_cons (vs_set 5 sc__law_tried.nd (ve_comp false [("_law_at", 6)] rfl sc__law_tried.nd (vi_range1 (by rfl) T.z_range (va_cons (ve_callB cd_len (by rfl) T.z_len (by decide +kernel) (va_cons (ve_var 0) va_nil)) va_nil)) (blkOk_by (own := [("_law_at", 6)]) (N := ["_law_days", "_law_hands", "_law_number", "_law_best", "_law_mask", "_law_places", "_law_at", "_law_marks"]) (sc := defScope s__law_tried) (by decide +kernel)) (fun _ _ _ _ _ => (vg_name 6 sc__law_tried.nd)) (fun _ _ _ _ _ => (vts_one (vt_cmp (od_eq hr.units) (ve_bin od_mod (ve_bin od_shr (ve_var 4) (ve_var 6)) ve_int) ve_int))) (fun _ _ _ _ _ => (ve_var 6))))
      (vss_one (vs_if (vt_cmp (od_eq hr.units) (ve_comp false [("_law_at", 6)] rfl sc__law_tried.nd (vi_row (ve_var 5)) (blkOk_by (own := [("_law_at", 6)]) (N := ["_law_days", "_law_hands", "_law_number", "_law_best", "_law_mask", "_law_places", "_law_at", "_law_marks"]) (sc := defScope s__law_tried) (by decide +kernel)) (fun _ _ _ _ _ => (vg_name 6 sc__law_tried.nd)) (fun _ _ _ _ _ => (vts_one (vt_cmp od_ge (ve_callB cd_len (by rfl) T.z_len (by decide +kernel) (va_cons (ve_ix (ve_var 0) (ve_var 6)) va_nil)) (ve_var 1)))) (fun _ _ _ _ _ => (ve_var 6))) (ve_lst false va_nil)) (vss_cons (vs_set 7 sc__law_tried.nd (ve_callTy cd_tuple (by rfl) T.z_tuple (by decide +kernel) (va_cons (ve_comp false [("_law_at", 6)] rfl sc__law_tried.nd (vi_range1 (by rfl) T.z_range (va_cons (ve_callB cd_len (by rfl) T.z_len (by decide +kernel) (va_cons (ve_var 0) va_nil)) va_nil)) (blkOk_by (own := [("_law_at", 6)]) (N := ["_law_days", "_law_hands", "_law_number", "_law_best", "_law_mask", "_law_places", "_law_at", "_law_marks"]) (sc := defScope s__law_tried) (by decide +kernel)) (fun _ _ _ _ _ => (vg_name 6 sc__law_tried.nd)) (fun _ _ _ _ _ => vts_nil) (fun _ _ _ _ _ => (ve_ix (ve_tup (va_cons (ve_tup va_nil) (va_cons (ve_tup (va_cons ve_int va_nil)) va_nil))) (ve_callTy cd_int (by rfl) T.z_int (by decide +kernel) (va_cons (ve_cmp od_in (ve_var 6) (ve_var 5)) va_nil))))) va_nil)))
      (vss_one (vs_if (vt_w (vw_and (vt_cmp od_le (ve_callB (cd_max rfl) (by rfl) T.z_max (by decide +kernel) (va_cons (ve_call (ok__law_gaps T) (hr.mono (by first | decide | omega)) (by rfl) T.g__law_gaps T.u__law_gaps.kp T.b__law_gaps tk (va_cons (ve_var 7) (va_cons ve_int va_nil))) va_nil)) (ve_var 2)) (vw_and1 (vt_w (vw_or (vt_cmp od_is (ve_var 3) ve_non) (vw_or1 (vt_cmp od_lt (ve_callB cd_len (by rfl) T.z_len (by decide +kernel) (va_cons (ve_var 5) va_nil)) (ve_var 3)))))))) (vss_one (vs_set 3 sc__law_tried.nd (ve_callB cd_len (by rfl) T.z_len (by decide +kernel) (va_cons (ve_var 5) va_nil)))) vss_nil))) vss_nil))))))
      (vss_one (vs_ret (ve_var 3)))))
theorem ok__law_is_put (T : Txt K mg A) : FnOk P w K mg base (L2.CX P w) 4 A.f__law_is_put A.d__law_is_put ["_law_found", "_law_days", "_law_hands", "_law_i", "_law_number", "_law_many"] (spF K mg 6 F__law_is_put) := by
    refine fn_ok (k := 3) .trunc T.u__law_is_put sc__law_is_put fun cdv Ar outer s H E hr => ?_
    have tk := takes_of (X := cxOf (L2.CX P w) P w K mg base ["_law_found", "_law_days", "_law_hands", "_law_i", "_law_number", "_law_many", "_law_more", "_law_day_here", "_law_old"] "_law_is_put" (defScope s__law_is_put) A.f__law_is_put cdv Ar outer s H E) rfl rfl rfl rfl
    have hp := passes_of (X := cxOf (L2.CX P w) P w K mg base ["_law_found", "_law_days", "_law_hands", "_law_i", "_law_number", "_law_many", "_law_more", "_law_day_here", "_law_old"] "_law_is_put" (defScope s__law_is_put) A.f__law_is_put cdv Ar outer s H E) rfl
    exact (vss_cons (vs_if (vt_w (vw_or (vt_not (vt_val (ve_call (ok__law_is_ring T) (hr.mono (by first | decide | omega)) (by rfl) T.g__law_is_ring T.u__law_is_ring.kp T.b__law_is_ring tk (va_cons ve_int (va_cons (ve_var 0) va_nil))))) (vw_or (vt_not (vt_val (ve_isi (ve_var 0) (by rfl) T.z_isinstance (by rfl) T.z_tuple (by decide +kernel) (by decide)))) (vw_or1 (vt_cmp (od_ne hr.units) (ve_callB cd_len (by rfl) T.z_len (by decide +kernel) (va_cons (ve_var 0) va_nil)) (ve_callB cd_len (by rfl) T.z_len (by decide +kernel) (va_cons (ve_var 1) va_nil))))))) (vss_one (vs_ret ve_bl)) vss_nil)
      (vss_cons (vs_set 6 sc__law_is_put.nd ve_int)
      (vss_cons (vs_fb (vs_for (vs := [7, 8]) hp rfl (vi_zip (by rfl) T.z_zip (va_cons (ve_var 0) (va_cons (ve_var 1) va_nil))) (vg_un rfl (vgs_cons (vg_name 7 sc__law_is_put.nd) (vgs_cons (vg_name 8 sc__law_is_put.nd) vgs_nil))) (vss_fa (vss_cons (vs_if (vt_not (vt_val (ve_isi (ve_var 7) (by rfl) T.z_isinstance (by rfl) T.z_tuple (by decide +kernel) (by decide)))) (vss_one (vs_ret ve_bl)) vss_nil)
      (vss_one (vs_if (vt_cmp (od_ne hr.units) (ve_var 7) (ve_var 8)) (vss_cons (vs_set 6 sc__law_is_put.nd (ve_bin od_add (ve_var 6) ve_int))
      (vss_one (vs_if (vt_w (vw_or (vt_cmp od_ge (ve_callB cd_len (by rfl) T.z_len (by decide +kernel) (va_cons (ve_var 8) va_nil)) (ve_var 2)) (vw_or1 (vt_cmp (od_ne hr.units) (ve_var 7) (ve_callTy cd_tuple (by rfl) T.z_tuple (by decide +kernel) (va_cons (ve_callB (cd_sorted false) (by rfl) T.z_sorted (by decide +kernel) (va_cons (ve_bin od_add (ve_var 8) (ve_tup (va_cons (ve_var 3) va_nil))) va_nil)) va_nil)))))) (vss_one (vs_ret ve_bl)) vss_nil))) vss_nil))))))
      (vss_one (vs_ret (ve_and (ve_cmp (od_eq hr.units) (ve_var 6) (ve_var 5)) (ve_one (ve_cmp od_le (ve_callB (cd_max rfl) (by rfl) T.z_max (by decide +kernel) (va_cons (ve_call (ok__law_gaps T) (hr.mono (by first | decide | omega)) (by rfl) T.g__law_gaps T.u__law_gaps.kp T.b__law_gaps tk (va_cons (ve_var 0) (va_cons (ve_var 3) va_nil))) va_nil)) (ve_var 4)))))))))
theorem ok__law_told (T : Txt K mg A) : FnOk P w K mg base (L2.CX P w) 50 A.f__law_told A.d__law_told ["_law_ring_here", "_law_hands", "_law_i", "_law_number"] (spF K mg 4 F__law_told) := by
    refine fn_ok (k := 49) .trunc T.u__law_told sc__law_told fun cdv Ar outer s H E hr => ?_
    have tk := takes_of (X := cxOf (L2.CX P w) P w K mg base ["_law_ring_here", "_law_hands", "_law_i", "_law_number", "error"] "_law_told" (defScope s__law_told) A.f__law_told cdv Ar outer s H E) rfl rfl rfl rfl
    have hp := passes_of (X := cxOf (L2.CX P w) P w K mg base ["_law_ring_here", "_law_hands", "_law_i", "_law_number", "error"] "_law_told" (defScope s__law_told) A.f__law_told cdv Ar outer s H E) rfl
    unfold b__law_told t__law_told_0
    exact (by
      refine vss_one ?_
      exact (vs_try 4 ["NoRing", "NoDays", "NoThing"] rfl rfl sc__law_told.nd (by rfl) T.x_DaysError.g tk (exm_DaysError T) (fun W' pn xe tk' hp' => (vss_one (vs_ret (ve_call (ok_put_in T) (hr.mono (by first | decide | omega)) (by rfl) T.g_put_in T.u_put_in.kp T.b_put_in tk' (va_cons (ve_var 0) (va_cons (ve_var 1) (va_cons (ve_var 2) (va_cons (ve_var 3) va_nil))))))))
      (fun a oe y pn hy hz hf => by
        have hK_NoDays : ∀ y ∈ (["NoRing", "NoDays", "NoThing"] : List Str), PySem.W.kitOne K (clsV mg ⟨y, none⟩) (.ref A.c_NoDays) = some (subX y "NoDays") := kit_NoDays T
        have hK_NoRing : ∀ y ∈ (["NoRing", "NoDays", "NoThing"] : List Str), PySem.W.kitOne K (clsV mg ⟨y, none⟩) (.ref A.c_NoRing) = some (subX y "NoRing") := kit_NoRing T
        have hK_NoThing : ∀ y ∈ (["NoRing", "NoDays", "NoThing"] : List Str), PySem.W.kitOne K (clsV mg ⟨y, none⟩) (.ref A.c_NoThing) = some (subX y "NoThing") := kit_NoThing T
        obtain ⟨Dc, eD, hC⟩ := exc_at T y hy
        replace hz : Zc (clsV mg ⟨y, none⟩) none oe := hz
        have hz0 := hz
        rw [eD] at hz
        have hKr := eD
        exact (vss_one (vs_ret (ve_lst false (va_cons (ve_isE (c := .ref A.c_NoRing) (cv := .ref A.c_NoRing) 4 hC hz hf (by rw [← eD]; exact hK_NoRing y hy) (fun _ z => z) (pe_glob (v := .ref A.c_NoRing) (by rfl) T.x_NoRing.g rfl) List.mem_cons_self (by rfl) T.z_isinstance) (va_cons (ve_isE (c := .ref A.c_NoDays) (cv := .ref A.c_NoDays) 4 hC hz hf (by rw [← eD]; exact hK_NoDays y hy) (fun _ z => z) (pe_glob (v := .ref A.c_NoDays) (by rfl) T.x_NoDays.g rfl) List.mem_cons_self (by rfl) T.z_isinstance) (va_cons (ve_isE (c := .ref A.c_NoThing) (cv := .ref A.c_NoThing) 4 hC hz hf (by rw [← eD]; exact hK_NoThing y hy) (fun _ z => z) (pe_glob (v := .ref A.c_NoThing) (by rfl) T.x_NoThing.g rfl) List.mem_cons_self (by rfl) T.z_isinstance) va_nil)))))))))
theorem ok__law_wrong (T : Txt K mg A) : FnOk P w K mg base (L2.CX P w) 2 A.f__law_wrong A.d__law_wrong ["_law_deck_here", "_law_asked"] (spF K mg 2 F__law_wrong) := by
    refine fn_ok (k := 1) .trunc T.u__law_wrong sc__law_wrong fun cdv Ar outer s H E hr => ?_
    have tk := takes_of (X := cxOf (L2.CX P w) P w K mg base ["_law_deck_here", "_law_asked", "_law_draw", "_law_which"] "_law_wrong" (defScope s__law_wrong) A.f__law_wrong cdv Ar outer s H E) rfl rfl rfl rfl
    have hp := passes_of (X := cxOf (L2.CX P w) P w K mg base ["_law_deck_here", "_law_asked", "_law_draw", "_law_which"] "_law_wrong" (defScope s__law_wrong) A.f__law_wrong cdv Ar outer s H E) rfl
    exact (vss_cons (vs_set 2 sc__law_wrong.nd (ve_ml0 PySem.F.slot_list_pop PySem.F.type_list_pop md_pop (ve_var 0)))
      (vss_cons (vs_set 3 sc__law_wrong.nd (ve_bin od_mod (ve_var 2) ve_int))
      (vss_cons (vs_if (vt_cmp (od_eq hr.units) (ve_var 3) ve_int) (vss_cons (vs_item (ve_ix (ve_lst false (va_cons ve_non (va_cons (ve_tup va_nil) (va_cons (ve_tup (va_cons (ve_tup (va_cons ve_int (va_cons ve_int va_nil))) va_nil)) (va_cons (ve_lst false (va_cons (ve_lst false (va_cons ve_int (va_cons ve_int va_nil))) va_nil)) (va_cons (ve_bin od_mul (ve_tup (va_cons (ve_tup va_nil) va_nil)) ve_int) (va_cons ve_str (va_cons ve_int (va_cons (ve_tup (va_cons (ve_tup (va_cons ve_int va_nil)) (va_cons ve_non va_nil))) va_nil))))))))) (ve_bin od_mod (ve_bin od_fdiv (ve_var 2) ve_int) ve_int)) (ve_var 1) ve_int)
      (vss_one (vs_item (ve_ix (ve_lst false (va_cons ve_int (va_cons (ve_ix (ve_var 1) (ve_bin od_add ve_int (ve_bin od_mod (ve_bin od_fdiv (ve_var 2) ve_int) ve_int))) va_nil))) (ve_bin od_mod (ve_bin od_fdiv (ve_var 2) ve_int) ve_int)) (ve_var 1) (ve_bin od_add ve_int (ve_bin od_mod (ve_bin od_fdiv (ve_var 2) ve_int) ve_int))))) (vss_one (vs_if (vt_cmp (od_eq hr.units) (ve_var 3) ve_int) (vss_one (vs_item (ve_ix (ve_lst false (va_cons ve_int (va_cons ve_int (va_cons ve_bl (va_cons ve_non (va_cons ve_str (va_cons (ve_call (ok__law_odd T) (hr.mono (by first | decide | omega)) (by rfl) T.g__law_odd T.u__law_odd.kp T.b__law_odd tk (va_cons (ve_bin od_fdiv (ve_var 2) ve_int) va_nil)) va_nil))))))) (ve_bin od_mod (ve_bin od_fdiv (ve_var 2) ve_int) ve_int)) (ve_var 1) ve_int)) (vss_one (vs_if (vt_cmp (od_eq hr.units) (ve_var 3) ve_int) (vss_one (vs_item (ve_ix (ve_lst false (va_cons ve_int (va_cons (ve_neg ve_int) (va_cons ve_bl (va_cons ve_non (va_cons ve_str (va_cons (ve_call (ok__law_odd T) (hr.mono (by first | decide | omega)) (by rfl) T.g__law_odd T.u__law_odd.kp T.b__law_odd tk (va_cons (ve_bin od_fdiv (ve_var 2) ve_int) va_nil)) va_nil))))))) (ve_bin od_mod (ve_bin od_fdiv (ve_var 2) ve_int) ve_int)) (ve_var 1) ve_int)) (vss_one (vs_item (ve_ix (ve_lst false (va_cons ve_int (va_cons ve_int (va_cons ve_bl (va_cons ve_non (va_cons ve_str (va_cons (ve_call (ok__law_odd T) (hr.mono (by first | decide | omega)) (by rfl) T.g__law_odd T.u__law_odd.kp T.b__law_odd tk (va_cons (ve_bin od_fdiv (ve_var 2) ve_int) va_nil)) va_nil))))))) (ve_bin od_mod (ve_bin od_fdiv (ve_var 2) ve_int) ve_int)) (ve_var 1) ve_int)))))))
      (vss_one (vs_ret (ve_lst false (va_cons (ve_cmp (od_eq hr.units) (ve_var 3) ve_int) (va_cons (ve_cmp od_gt (ve_var 3) ve_int) (va_cons ve_bl va_nil)))))))))
theorem ok_law (T : Txt K mg A) : FnOk P w K mg base (L2.CX P w) 51 A.f_law A.d_law ["_law_script"] (spF K mg 1 F_law) := by
    refine fn_ok (k := 50) .trunc T.u_law sc_law fun cdv Ar outer s H E hr => ?_
    have tk := takes_of (X := cxOf (L2.CX P w) P w K mg base ["_law_script", "_law_deck_here", "_law_turn", "_law_draw", "_law_days", "_law_hands", "_law_number", "_law_best", "_law_i", "_law_others", "_law_one", "_law_first", "_law_day_here", "_law_asked", "_law_kept", "_law_found", "_law_there", "_law_due"] "law" (defScope s_law) A.f_law cdv Ar outer s H E) rfl rfl rfl rfl
    have hp := passes_of (X := cxOf (L2.CX P w) P w K mg base ["_law_script", "_law_deck_here", "_law_turn", "_law_draw", "_law_days", "_law_hands", "_law_number", "_law_best", "_law_i", "_law_others", "_law_one", "_law_first", "_law_day_here", "_law_asked", "_law_kept", "_law_found", "_law_there", "_law_due"] "law" (defScope s_law) A.f_law cdv Ar outer s H E) rfl
    exact (vss_cons (vs_set 1 sc_law.nd (ve_call (ok__law_deck T) (hr.mono (by first | decide | omega)) (by rfl) T.g__law_deck T.u__law_deck.kp T.b__law_deck tk (va_cons (ve_var 0) (va_cons ve_int va_nil))))
      (vss_cons (vs_fb (vs_for (vs := [2]) hp rfl (vi_range1 (by rfl) T.z_range (va_cons ve_int va_nil)) (vg_name 2 sc_law.nd) (vss_fa (vss_cons (vs_set 3 sc_law.nd (ve_ml0 PySem.F.slot_list_pop PySem.F.type_list_pop md_pop (ve_var 1)))
      (vss_cons (vs_set 4 sc_law.nd (ve_call (ok__law_ring T) (hr.mono (by first | decide | omega)) (by rfl) T.g__law_ring T.u__law_ring.kp T.b__law_ring tk (va_cons (ve_var 1) (va_cons (ve_bin od_add ve_int (ve_bin od_mod (ve_var 3) ve_int)) (va_cons (ve_ix (ve_lst false (va_cons (ve_bin od_add ve_int (ve_bin od_mod (ve_bin od_fdiv (ve_var 3) ve_int) ve_int)) (va_cons (ve_bin od_add ve_int (ve_bin od_mod (ve_bin od_fdiv (ve_var 3) ve_int) ve_int)) (va_cons (ve_bin od_add ve_int (ve_bin od_mod (ve_bin od_fdiv (ve_var 3) ve_int) ve_int)) va_nil)))) (ve_var 2)) va_nil)))))
      (vss_cons (vs_set 5 sc_law.nd (ve_bin od_add ve_int (ve_bin od_mod (ve_bin od_fdiv (ve_var 3) ve_int) ve_int)))
      (vss_cons (vs_set 6 sc_law.nd (ve_bin od_add ve_int (ve_bin od_mod (ve_ml0 PySem.F.slot_list_pop PySem.F.type_list_pop md_pop (ve_var 1)) (ve_ix (ve_lst false (va_cons ve_int (va_cons ve_int (va_cons ve_int va_nil)))) (ve_var 2)))))
      (vss_cons (vs_set 7 sc_law.nd (ve_call (ok__law_fewest T) (hr.mono (by first | decide | omega)) (by rfl) T.g__law_fewest T.u__law_fewest.kp T.b__law_fewest tk (va_cons (ve_var 4) (va_cons (ve_var 5) (va_cons (ve_var 6) va_nil)))))
      (vss_cons (vs_if (vt_w (vw_and (vt_cmp od_lt (ve_var 2) ve_int) (vw_and1 (vt_cmp (od_ne hr.units) (ve_var 7) (ve_call (ok__law_tried T) (hr.mono (by first | decide | omega)) (by rfl) T.g__law_tried T.u__law_tried.kp T.b__law_tried tk (va_cons (ve_var 4) (va_cons (ve_var 5) (va_cons (ve_var 6) va_nil)))))))) (vss_one (vs_ret ve_bl)) vss_nil)
      (vss_cons (vs_set 8 sc_law.nd (ve_bin od_mod (ve_ml0 PySem.F.slot_list_pop PySem.F.type_list_pop md_pop (ve_var 1)) ve_int))
      (vss_cons (vs_set 9 sc_law.nd (ve_comp false [("_law_one", 10)] rfl sc_law.nd (vi_range1 (by rfl) T.z_range (va_cons ve_int va_nil)) (blkOk_by (own := [("_law_one", 10)]) (N := ["_law_script", "_law_deck_here", "_law_turn", "_law_draw", "_law_days", "_law_hands", "_law_number", "_law_best", "_law_i", "_law_others", "_law_one", "_law_first", "_law_day_here", "_law_asked", "_law_kept", "_law_found", "_law_there", "_law_due"]) (sc := defScope s_law) (by decide +kernel)) (fun _ _ _ _ _ => (vg_name 10 sc_law.nd)) (fun _ _ _ _ _ => (vts_one (vt_cmp (od_ne hr.units) (ve_var 10) (ve_var 8)))) (fun _ _ _ _ _ => (ve_var 10))))
      (vss_cons (vs_set 11 sc_law.nd (ve_bin od_mod (ve_ml0 PySem.F.slot_list_pop PySem.F.type_list_pop md_pop (ve_var 1)) ve_int))
      (vss_cons (vs_set 4 sc_law.nd (ve_callTy cd_tuple (by rfl) T.z_tuple (by decide +kernel) (va_cons (ve_comp false [("_law_day_here", 12)] rfl sc_law.nd (vi_row (ve_var 4)) (blkOk_by (own := [("_law_day_here", 12)]) (N := ["_law_script", "_law_deck_here", "_law_turn", "_law_draw", "_law_days", "_law_hands", "_law_number", "_law_best", "_law_i", "_law_others", "_law_one", "_law_first", "_law_day_here", "_law_asked", "_law_kept", "_law_found", "_law_there", "_law_due"]) (sc := defScope s_law) (by decide +kernel)) (fun _ _ _ _ _ => (vg_name 12 sc_law.nd)) (fun _ _ _ _ _ => vts_nil) (fun _ _ _ _ _ => (ve_callTy cd_tuple (by rfl) T.z_tuple (by decide +kernel) (va_cons (ve_comp false [("_law_one", 10)] rfl sc_law.nd (vi_row (ve_var 12)) (blkOk_by (own := [("_law_one", 10)]) (N := ["_law_script", "_law_deck_here", "_law_turn", "_law_draw", "_law_days", "_law_hands", "_law_number", "_law_best", "_law_i", "_law_others", "_law_one", "_law_first", "_law_day_here", "_law_asked", "_law_kept", "_law_found", "_law_there", "_law_due"]) (sc := { kind := .function, names := [(".0", .local), ("_law_day_here", .local), ("tuple", .globalImplicit), ("_law_first", .cell), ("_law_others", .cell)], isGenerator := false, isCoroutine := false }) (by decide +kernel)) (fun _ _ _ _ _ => (vg_name 10 sc_law.nd)) (fun _ _ _ _ _ => vts_nil) (fun _ _ _ _ _ => (ve_ix (ve_var 9) (ve_bin od_add (ve_var 11) (ve_var 10))))) va_nil)))) va_nil)))
      (vss_cons (vs_set 13 sc_law.nd (ve_lst true (va_cons (ve_call (ok__law_handed T) (hr.mono (by first | decide | omega)) (by rfl) T.g__law_handed T.u__law_handed.kp T.b__law_handed tk (va_cons (ve_var 4) (va_cons (ve_ml0 PySem.F.slot_list_pop PySem.F.type_list_pop md_pop (ve_var 1)) va_nil))) (va_cons (ve_var 5) (va_cons (ve_var 8) (va_cons (ve_var 6) va_nil))))))
      (vss_cons (vs_set 14 sc_law.nd (ve_call (ok__law_lists T) (hr.mono (by first | decide | omega)) (by rfl) T.g__law_lists T.u__law_lists.kp T.b__law_lists tk (va_cons (ve_var 13) va_nil)))
      (vss_cons (vs_set 15 sc_law.nd (ve_call (ok__law_told T) (hr.mono (by first | decide | omega)) (by rfl) T.g__law_told T.u__law_told.kp T.b__law_told tk (va_cons (ve_ix (ve_var 13) ve_int) (va_cons (ve_ix (ve_var 13) ve_int) (va_cons (ve_ix (ve_var 13) ve_int) (va_cons (ve_ix (ve_var 13) ve_int) va_nil))))))
      (vss_cons (vs_if (vt_w (vw_or (vt_cmp (od_ne hr.units) (ve_call (ok__law_lists T) (hr.mono (by first | decide | omega)) (by rfl) T.g__law_lists T.u__law_lists.kp T.b__law_lists tk (va_cons (ve_var 13) va_nil)) (ve_var 14)) (vw_or1 (vt_w (vw_and (vt_cmp od_is (ve_var 7) ve_non) (vw_and1 (vt_cmp od_isnot (ve_var 15) ve_non))))))) (vss_one (vs_ret ve_bl)) vss_nil)
      (vss_cons (vs_if (vt_w (vw_and (vt_cmp od_isnot (ve_var 7) ve_non) (vw_and1 (vt_not (vt_val (ve_call (ok__law_is_put T) (hr.mono (by first | decide | omega)) (by rfl) T.g__law_is_put T.u__law_is_put.kp T.b__law_is_put tk (va_cons (ve_var 15) (va_cons (ve_var 4) (va_cons (ve_var 5) (va_cons (ve_var 8) (va_cons (ve_var 6) (va_cons (ve_var 7) va_nil)))))))))))) (vss_one (vs_ret ve_bl)) vss_nil)
      (vss_cons (vs_setComp false 16 [("_law_day_here", 12)] rfl sc_law.nd (vi_row (ve_var 4)) (blkOk_by (own := [("_law_day_here", 12)]) (N := ["_law_script", "_law_deck_here", "_law_turn", "_law_draw", "_law_days", "_law_hands", "_law_number", "_law_best", "_law_i", "_law_others", "_law_one", "_law_first", "_law_day_here", "_law_asked", "_law_kept", "_law_found", "_law_there", "_law_due"]) (sc := defScope s_law) (by decide +kernel)) (fun _ _ _ _ _ => (vg_name 12 sc_law.nd)) (fun _ _ _ _ _ => (vts_one (vt_cmp (od_ne hr.units) (ve_var 12) (ve_tup va_nil)))) (fun _ _ _ _ _ => (ve_ix (ve_var 12) ve_int)))
      (vss_cons (vs_if (vt_w (vw_and (vt_cmp (od_ne hr.units) (ve_var 16) (ve_lst false va_nil)) (vw_and1 (vt_cmp (od_ne hr.units) (ve_call (ok__law_told T) (hr.mono (by first | decide | omega)) (by rfl) T.g__law_told T.u__law_told.kp T.b__law_told tk (va_cons (ve_var 4) (va_cons (ve_var 5) (va_cons (ve_ix (ve_var 16) ve_int) (va_cons (ve_var 6) va_nil))))) (ve_lst false (va_cons ve_bl (va_cons ve_bl (va_cons ve_bl va_nil)))))))) (vss_one (vs_ret ve_bl)) vss_nil)
      (vss_cons (vs_set 13 sc_law.nd (ve_lst true (va_cons (ve_var 4) (va_cons (ve_var 5) (va_cons (ve_ix (ve_bin od_add (ve_var 16) (ve_lst false (va_cons (ve_var 8) va_nil))) ve_int) (va_cons (ve_var 6) va_nil))))))
      (vss_cons (vs_set 17 sc_law.nd (ve_call (ok__law_wrong T) (hr.mono (by first | decide | omega)) (by rfl) T.g__law_wrong T.u__law_wrong.kp T.b__law_wrong tk (va_cons (ve_var 1) (va_cons (ve_var 13) va_nil))))
      (vss_one (vs_if (vt_cmp (od_ne hr.units) (ve_call (ok__law_told T) (hr.mono (by first | decide | omega)) (by rfl) T.g__law_told T.u__law_told.kp T.b__law_told tk (va_cons (ve_ix (ve_var 13) ve_int) (va_cons (ve_ix (ve_var 13) ve_int) (va_cons (ve_ix (ve_var 13) ve_int) (va_cons (ve_ix (ve_var 13) ve_int) va_nil))))) (ve_var 17)) (vss_one (vs_ret ve_bl)) vss_nil))))))))))))))))))))))))
      (vss_one (vs_ret ve_bl))))
end
theorem all_mk {l : PySem.W.OpenLaw} {w : World} {K : PySem.W.Frag} {h : Heap} {mg : Str → Option Value} {fa : Addr} (X : K.In h) (G : h.Ns mainGlobals mg) (hfa : mg "law" = some (.ref fa))
    {f0 : Addr} {od0 an0 : Option Addr} {sl0 : Array (Option Value)} {oc0 kV0 dc0 pm0 cd0 ct0 : Value}
    {f1 : Addr} {od1 an1 : Option Addr} {sl1 : Array (Option Value)} {oc1 kV1 dc1 pm1 cd1 ct1 : Value}
    {f2 : Addr} {od2 an2 : Option Addr} {sl2 : Array (Option Value)} {oc2 kV2 dc2 pm2 cd2 ct2 : Value}
    {f3 : Addr} {od3 an3 : Option Addr} {sl3 : Array (Option Value)} {oc3 kV3 dc3 pm3 cd3 ct3 : Value}
    {f4 : Addr} {od4 an4 : Option Addr} {sl4 : Array (Option Value)} {oc4 kV4 dc4 pm4 cd4 ct4 : Value}
    {f5 : Addr} {od5 an5 : Option Addr} {sl5 : Array (Option Value)} {oc5 kV5 dc5 pm5 cd5 ct5 : Value}
    {f6 : Addr} {od6 an6 : Option Addr} {sl6 : Array (Option Value)} {oc6 kV6 dc6 pm6 cd6 ct6 : Value}
    {f7 : Addr} {od7 an7 : Option Addr} {sl7 : Array (Option Value)} {oc7 kV7 dc7 pm7 cd7 ct7 : Value}
    {f8 : Addr} {od8 an8 : Option Addr} {sl8 : Array (Option Value)} {oc8 kV8 dc8 pm8 cd8 ct8 : Value}
    {f9 : Addr} {od9 an9 : Option Addr} {sl9 : Array (Option Value)} {oc9 kV9 dc9 pm9 cd9 ct9 : Value}
    {f10 : Addr} {od10 an10 : Option Addr} {sl10 : Array (Option Value)} {oc10 kV10 dc10 pm10 cd10 ct10 : Value}
    {f11 : Addr} {od11 an11 : Option Addr} {sl11 : Array (Option Value)} {oc11 kV11 dc11 pm11 cd11 ct11 : Value}
    {f12 : Addr} {od12 an12 : Option Addr} {sl12 : Array (Option Value)} {oc12 kV12 dc12 pm12 cd12 ct12 : Value}
    {f13 : Addr} {od13 an13 : Option Addr} {sl13 : Array (Option Value)} {oc13 kV13 dc13 pm13 cd13 ct13 : Value}
    {f14 : Addr} {od14 an14 : Option Addr} {sl14 : Array (Option Value)} {oc14 kV14 dc14 pm14 cd14 ct14 : Value}
    {f15 : Addr} {od15 an15 : Option Addr} {sl15 : Array (Option Value)} {oc15 kV15 dc15 pm15 cd15 ct15 : Value}
    {f16 : Addr} {od16 an16 : Option Addr} {sl16 : Array (Option Value)} {oc16 kV16 dc16 pm16 cd16 ct16 : Value}
    {f17 : Addr} {od17 an17 : Option Addr} {sl17 : Array (Option Value)} {oc17 kV17 dc17 pm17 cd17 ct17 : Value}
    {f18 : Addr} {od18 an18 : Option Addr} {sl18 : Array (Option Value)} {oc18 kV18 dc18 pm18 cd18 ct18 : Value}
    {f19 : Addr} {od19 an19 : Option Addr} {sl19 : Array (Option Value)} {oc19 kV19 dc19 pm19 cd19 ct19 : Value}
    {f20 : Addr} {od20 an20 : Option Addr} {sl20 : Array (Option Value)} {oc20 kV20 dc20 pm20 cd20 ct20 : Value}
    {f21 : Addr} {od21 an21 : Option Addr} {sl21 : Array (Option Value)} {oc21 kV21 dc21 pm21 cd21 ct21 : Value}
    {f22 : Addr} {od22 an22 : Option Addr} {sl22 : Array (Option Value)} {oc22 kV22 dc22 pm22 cd22 ct22 : Value}
    {f23 : Addr} {od23 an23 : Option Addr} {sl23 : Array (Option Value)} {oc23 kV23 dc23 pm23 cd23 ct23 : Value}
    {f24 : Addr} {od24 an24 : Option Addr} {sl24 : Array (Option Value)} {oc24 kV24 dc24 pm24 cd24 ct24 : Value}
    {f25 : Addr} {od25 an25 : Option Addr} {sl25 : Array (Option Value)} {oc25 kV25 dc25 pm25 cd25 ct25 : Value}
    {f26 : Addr} {od26 an26 : Option Addr} {sl26 : Array (Option Value)} {oc26 kV26 dc26 pm26 cd26 ct26 : Value}
    {f27 : Addr} {od27 an27 : Option Addr} {sl27 : Array (Option Value)} {oc27 kV27 dc27 pm27 cd27 ct27 : Value}
    {C_DaysError : Addr}
    {C_NoDays : Addr}
    {C_NoRing : Addr}
    {C_NoThing : Addr}
    {t_GREATEST : Tok}
    {t_LONGEST : Tok}
    {t_MOST_ON_A_DAY : Tok}
    {t_MOST_THINGS : Tok}
    (a0 : PySem.W.nsIn K mainGlobals "is_whole" = some (some (.ref f0)))
    (l0 : K.lookup f0 = some ⟨oc0, od0, .func (PySem.W.fnOf "is_whole" "is_whole" (defArgs s_is_whole) (defBody s_is_whole) (defScope s_is_whole) .none kV0 dc0 pm0 an0 cd0 ct0), sl0⟩)
    (c0 : PySem.W.codeIn K cd0 "is_whole" = true)
    (k0 : PySem.W.keepIn K (.ref f0) = true)
    (a1 : PySem.W.nsIn K mainGlobals "is_row" = some (some (.ref f1)))
    (l1 : K.lookup f1 = some ⟨oc1, od1, .func (PySem.W.fnOf "is_row" "is_row" (defArgs s_is_row) (defBody s_is_row) (defScope s_is_row) .none kV1 dc1 pm1 an1 cd1 ct1), sl1⟩)
    (c1 : PySem.W.codeIn K cd1 "is_row" = true)
    (k1 : PySem.W.keepIn K (.ref f1) = true)
    (a2 : PySem.W.nsIn K mainGlobals "is_rising" = some (some (.ref f2)))
    (l2 : K.lookup f2 = some ⟨oc2, od2, .func (PySem.W.fnOf "is_rising" "is_rising" (defArgs s_is_rising) (defBody s_is_rising) (defScope s_is_rising) .none kV2 dc2 pm2 an2 cd2 ct2), sl2⟩)
    (c2 : PySem.W.codeIn K cd2 "is_rising" = true)
    (k2 : PySem.W.keepIn K (.ref f2) = true)
    (a3 : PySem.W.nsIn K mainGlobals "told_rows" = some (some (.ref f3)))
    (l3 : K.lookup f3 = some ⟨oc3, od3, .func (PySem.W.fnOf "told_rows" "told_rows" (defArgs s_told_rows) (defBody s_told_rows) (defScope s_told_rows) .none kV3 dc3 pm3 an3 cd3 ct3), sl3⟩)
    (c3 : PySem.W.codeIn K cd3 "told_rows" = true)
    (k3 : PySem.W.keepIn K (.ref f3) = true)
    (a4 : PySem.W.nsIn K mainGlobals "is_day" = some (some (.ref f4)))
    (l4 : K.lookup f4 = some ⟨oc4, od4, .func (PySem.W.fnOf "is_day" "is_day" (defArgs s_is_day) (defBody s_is_day) (defScope s_is_day) .none kV4 dc4 pm4 an4 cd4 ct4), sl4⟩)
    (c4 : PySem.W.codeIn K cd4 "is_day" = true)
    (k4 : PySem.W.keepIn K (.ref f4) = true)
    (a5 : PySem.W.nsIn K mainGlobals "are_days" = some (some (.ref f5)))
    (l5 : K.lookup f5 = some ⟨oc5, od5, .func (PySem.W.fnOf "are_days" "are_days" (defArgs s_are_days) (defBody s_are_days) (defScope s_are_days) .none kV5 dc5 pm5 an5 cd5 ct5), sl5⟩)
    (c5 : PySem.W.codeIn K cd5 "are_days" = true)
    (k5 : PySem.W.keepIn K (.ref f5) = true)
    (a6 : PySem.W.nsIn K mainGlobals "is_ring" = some (some (.ref f6)))
    (l6 : K.lookup f6 = some ⟨oc6, od6, .func (PySem.W.fnOf "is_ring" "is_ring" (defArgs s_is_ring) (defBody s_is_ring) (defScope s_is_ring) .none kV6 dc6 pm6 an6 cd6 ct6), sl6⟩)
    (c6 : PySem.W.codeIn K cd6 "is_ring" = true)
    (k6 : PySem.W.keepIn K (.ref f6) = true)
    (a7 : PySem.W.nsIn K mainGlobals "asked_ring" = some (some (.ref f7)))
    (l7 : K.lookup f7 = some ⟨oc7, od7, .func (PySem.W.fnOf "asked_ring" "asked_ring" (defArgs s_asked_ring) (defBody s_asked_ring) (defScope s_asked_ring) .none kV7 dc7 pm7 an7 cd7 ct7), sl7⟩)
    (c7 : PySem.W.codeIn K cd7 "asked_ring" = true)
    (k7 : PySem.W.keepIn K (.ref f7) = true)
    (a8 : PySem.W.nsIn K mainGlobals "farthest" = some (some (.ref f8)))
    (l8 : K.lookup f8 = some ⟨oc8, od8, .func (PySem.W.fnOf "farthest" "farthest" (defArgs s_farthest) (defBody s_farthest) (defScope s_farthest) .none kV8 dc8 pm8 an8 cd8 ct8), sl8⟩)
    (c8 : PySem.W.codeIn K cd8 "farthest" = true)
    (k8 : PySem.W.keepIn K (.ref f8) = true)
    (a9 : PySem.W.nsIn K mainGlobals "places_from" = some (some (.ref f9)))
    (l9 : K.lookup f9 = some ⟨oc9, od9, .func (PySem.W.fnOf "places_from" "places_from" (defArgs s_places_from) (defBody s_places_from) (defScope s_places_from) .none kV9 dc9 pm9 an9 cd9 ct9), sl9⟩)
    (c9 : PySem.W.codeIn K cd9 "places_from" = true)
    (k9 : PySem.W.keepIn K (.ref f9) = true)
    (a10 : PySem.W.nsIn K mainGlobals "fewest_places" = some (some (.ref f10)))
    (l10 : K.lookup f10 = some ⟨oc10, od10, .func (PySem.W.fnOf "fewest_places" "fewest_places" (defArgs s_fewest_places) (defBody s_fewest_places) (defScope s_fewest_places) .none kV10 dc10 pm10 an10 cd10 ct10), sl10⟩)
    (c10 : PySem.W.codeIn K cd10 "fewest_places" = true)
    (k10 : PySem.W.keepIn K (.ref f10) = true)
    (a11 : PySem.W.nsIn K mainGlobals "put_in" = some (some (.ref f11)))
    (l11 : K.lookup f11 = some ⟨oc11, od11, .func (PySem.W.fnOf "put_in" "put_in" (defArgs s_put_in) (defBody s_put_in) (defScope s_put_in) .none kV11 dc11 pm11 an11 cd11 ct11), sl11⟩)
    (c11 : PySem.W.codeIn K cd11 "put_in" = true)
    (k11 : PySem.W.keepIn K (.ref f11) = true)
    (a12 : PySem.W.nsIn K mainGlobals "_law_deck" = some (some (.ref f12)))
    (l12 : K.lookup f12 = some ⟨oc12, od12, .func (PySem.W.fnOf "_law_deck" "_law_deck" (defArgs s__law_deck) (defBody s__law_deck) (defScope s__law_deck) .none kV12 dc12 pm12 an12 cd12 ct12), sl12⟩)
    (c12 : PySem.W.codeIn K cd12 "_law_deck" = true)
    (k12 : PySem.W.keepIn K (.ref f12) = true)
    (a13 : PySem.W.nsIn K mainGlobals "_law_whole" = some (some (.ref f13)))
    (l13 : K.lookup f13 = some ⟨oc13, od13, .func (PySem.W.fnOf "_law_whole" "_law_whole" (defArgs s__law_whole) (defBody s__law_whole) (defScope s__law_whole) .none kV13 dc13 pm13 an13 cd13 ct13), sl13⟩)
    (c13 : PySem.W.codeIn K cd13 "_law_whole" = true)
    (k13 : PySem.W.keepIn K (.ref f13) = true)
    (a14 : PySem.W.nsIn K mainGlobals "_law_lists" = some (some (.ref f14)))
    (l14 : K.lookup f14 = some ⟨oc14, od14, .func (PySem.W.fnOf "_law_lists" "_law_lists" (defArgs s__law_lists) (defBody s__law_lists) (defScope s__law_lists) .none kV14 dc14 pm14 an14 cd14 ct14), sl14⟩)
    (c14 : PySem.W.codeIn K cd14 "_law_lists" = true)
    (k14 : PySem.W.keepIn K (.ref f14) = true)
    (a15 : PySem.W.nsIn K mainGlobals "_law_handed" = some (some (.ref f15)))
    (l15 : K.lookup f15 = some ⟨oc15, od15, .func (PySem.W.fnOf "_law_handed" "_law_handed" (defArgs s__law_handed) (defBody s__law_handed) (defScope s__law_handed) .none kV15 dc15 pm15 an15 cd15 ct15), sl15⟩)
    (c15 : PySem.W.codeIn K cd15 "_law_handed" = true)
    (k15 : PySem.W.keepIn K (.ref f15) = true)
    (a16 : PySem.W.nsIn K mainGlobals "_law_odd" = some (some (.ref f16)))
    (l16 : K.lookup f16 = some ⟨oc16, od16, .func (PySem.W.fnOf "_law_odd" "_law_odd" (defArgs s__law_odd) (defBody s__law_odd) (defScope s__law_odd) .none kV16 dc16 pm16 an16 cd16 ct16), sl16⟩)
    (c16 : PySem.W.codeIn K cd16 "_law_odd" = true)
    (k16 : PySem.W.keepIn K (.ref f16) = true)
    (a17 : PySem.W.nsIn K mainGlobals "_law_is_day" = some (some (.ref f17)))
    (l17 : K.lookup f17 = some ⟨oc17, od17, .func (PySem.W.fnOf "_law_is_day" "_law_is_day" (defArgs s__law_is_day) (defBody s__law_is_day) (defScope s__law_is_day) .none kV17 dc17 pm17 an17 cd17 ct17), sl17⟩)
    (c17 : PySem.W.codeIn K cd17 "_law_is_day" = true)
    (k17 : PySem.W.keepIn K (.ref f17) = true)
    (a18 : PySem.W.nsIn K mainGlobals "_law_is_ring" = some (some (.ref f18)))
    (l18 : K.lookup f18 = some ⟨oc18, od18, .func (PySem.W.fnOf "_law_is_ring" "_law_is_ring" (defArgs s__law_is_ring) (defBody s__law_is_ring) (defScope s__law_is_ring) .none kV18 dc18 pm18 an18 cd18 ct18), sl18⟩)
    (c18 : PySem.W.codeIn K cd18 "_law_is_ring" = true)
    (k18 : PySem.W.keepIn K (.ref f18) = true)
    (a19 : PySem.W.nsIn K mainGlobals "_law_day" = some (some (.ref f19)))
    (l19 : K.lookup f19 = some ⟨oc19, od19, .func (PySem.W.fnOf "_law_day" "_law_day" (defArgs s__law_day) (defBody s__law_day) (defScope s__law_day) .none kV19 dc19 pm19 an19 cd19 ct19), sl19⟩)
    (c19 : PySem.W.codeIn K cd19 "_law_day" = true)
    (k19 : PySem.W.keepIn K (.ref f19) = true)
    (a20 : PySem.W.nsIn K mainGlobals "_law_ring" = some (some (.ref f20)))
    (l20 : K.lookup f20 = some ⟨oc20, od20, .func (PySem.W.fnOf "_law_ring" "_law_ring" (defArgs s__law_ring) (defBody s__law_ring) (defScope s__law_ring) .none kV20 dc20 pm20 an20 cd20 ct20), sl20⟩)
    (c20 : PySem.W.codeIn K cd20 "_law_ring" = true)
    (k20 : PySem.W.keepIn K (.ref f20) = true)
    (a21 : PySem.W.nsIn K mainGlobals "_law_gaps" = some (some (.ref f21)))
    (l21 : K.lookup f21 = some ⟨oc21, od21, .func (PySem.W.fnOf "_law_gaps" "_law_gaps" (defArgs s__law_gaps) (defBody s__law_gaps) (defScope s__law_gaps) .none kV21 dc21 pm21 an21 cd21 ct21), sl21⟩)
    (c21 : PySem.W.codeIn K cd21 "_law_gaps" = true)
    (k21 : PySem.W.keepIn K (.ref f21) = true)
    (a22 : PySem.W.nsIn K mainGlobals "_law_fewest" = some (some (.ref f22)))
    (l22 : K.lookup f22 = some ⟨oc22, od22, .func (PySem.W.fnOf "_law_fewest" "_law_fewest" (defArgs s__law_fewest) (defBody s__law_fewest) (defScope s__law_fewest) .none kV22 dc22 pm22 an22 cd22 ct22), sl22⟩)
    (c22 : PySem.W.codeIn K cd22 "_law_fewest" = true)
    (k22 : PySem.W.keepIn K (.ref f22) = true)
    (a23 : PySem.W.nsIn K mainGlobals "_law_tried" = some (some (.ref f23)))
    (l23 : K.lookup f23 = some ⟨oc23, od23, .func (PySem.W.fnOf "_law_tried" "_law_tried" (defArgs s__law_tried) (defBody s__law_tried) (defScope s__law_tried) .none kV23 dc23 pm23 an23 cd23 ct23), sl23⟩)
    (c23 : PySem.W.codeIn K cd23 "_law_tried" = true)
    (k23 : PySem.W.keepIn K (.ref f23) = true)
    (a24 : PySem.W.nsIn K mainGlobals "_law_is_put" = some (some (.ref f24)))
    (l24 : K.lookup f24 = some ⟨oc24, od24, .func (PySem.W.fnOf "_law_is_put" "_law_is_put" (defArgs s__law_is_put) (defBody s__law_is_put) (defScope s__law_is_put) .none kV24 dc24 pm24 an24 cd24 ct24), sl24⟩)
    (c24 : PySem.W.codeIn K cd24 "_law_is_put" = true)
    (k24 : PySem.W.keepIn K (.ref f24) = true)
    (a25 : PySem.W.nsIn K mainGlobals "_law_told" = some (some (.ref f25)))
    (l25 : K.lookup f25 = some ⟨oc25, od25, .func (PySem.W.fnOf "_law_told" "_law_told" (defArgs s__law_told) (defBody s__law_told) (defScope s__law_told) .none kV25 dc25 pm25 an25 cd25 ct25), sl25⟩)
    (c25 : PySem.W.codeIn K cd25 "_law_told" = true)
    (k25 : PySem.W.keepIn K (.ref f25) = true)
    (a26 : PySem.W.nsIn K mainGlobals "_law_wrong" = some (some (.ref f26)))
    (l26 : K.lookup f26 = some ⟨oc26, od26, .func (PySem.W.fnOf "_law_wrong" "_law_wrong" (defArgs s__law_wrong) (defBody s__law_wrong) (defScope s__law_wrong) .none kV26 dc26 pm26 an26 cd26 ct26), sl26⟩)
    (c26 : PySem.W.codeIn K cd26 "_law_wrong" = true)
    (k26 : PySem.W.keepIn K (.ref f26) = true)
    (a27 : PySem.W.nsIn K mainGlobals "law" = some (some (.ref f27)))
    (l27 : K.lookup f27 = some ⟨oc27, od27, .func (PySem.W.fnOf "law" "law" (defArgs s_law) (defBody s_law) (defScope s_law) .none kV27 dc27 pm27 an27 cd27 ct27), sl27⟩)
    (c27 : PySem.W.codeIn K cd27 "law" = true)
    (k27 : PySem.W.keepIn K (.ref f27) = true)
    (z_bool : PySem.W.nsIn K mainGlobals "bool" = some none)
    (z_enumerate : PySem.W.nsIn K mainGlobals "enumerate" = some none)
    (z_int : PySem.W.nsIn K mainGlobals "int" = some none)
    (z_isinstance : PySem.W.nsIn K mainGlobals "isinstance" = some none)
    (z_len : PySem.W.nsIn K mainGlobals "len" = some none)
    (z_list : PySem.W.nsIn K mainGlobals "list" = some none)
    (z_max : PySem.W.nsIn K mainGlobals "max" = some none)
    (z_min : PySem.W.nsIn K mainGlobals "min" = some none)
    (z_range : PySem.W.nsIn K mainGlobals "range" = some none)
    (z_sorted : PySem.W.nsIn K mainGlobals "sorted" = some none)
    (z_tuple : PySem.W.nsIn K mainGlobals "tuple" = some none)
    (z_zip : PySem.W.nsIn K mainGlobals "zip" = some none)
    (xa_DaysError : PySem.W.nsIn K mainGlobals "DaysError" = some (some (.ref C_DaysError)))
    (xq_DaysError : PySem.W.excIn K C_DaysError veBm "ValueError.__new__" = true)
    (xk_DaysError : PySem.W.keepIn K (.ref C_DaysError) = true)
    (xb_DaysError : PySem.W.subIn K (.ref C_DaysError) (.type "BaseException") = some true)
    (xt_DaysError : PySem.W.typeIn K (.ref C_DaysError) = some (.type "type"))
    (xa_NoDays : PySem.W.nsIn K mainGlobals "NoDays" = some (some (.ref C_NoDays)))
    (xq_NoDays : PySem.W.excIn K C_NoDays veBm "ValueError.__new__" = true)
    (xk_NoDays : PySem.W.keepIn K (.ref C_NoDays) = true)
    (xb_NoDays : PySem.W.subIn K (.ref C_NoDays) (.type "BaseException") = some true)
    (xt_NoDays : PySem.W.typeIn K (.ref C_NoDays) = some (.type "type"))
    (xa_NoRing : PySem.W.nsIn K mainGlobals "NoRing" = some (some (.ref C_NoRing)))
    (xq_NoRing : PySem.W.excIn K C_NoRing veBm "ValueError.__new__" = true)
    (xk_NoRing : PySem.W.keepIn K (.ref C_NoRing) = true)
    (xb_NoRing : PySem.W.subIn K (.ref C_NoRing) (.type "BaseException") = some true)
    (xt_NoRing : PySem.W.typeIn K (.ref C_NoRing) = some (.type "type"))
    (xa_NoThing : PySem.W.nsIn K mainGlobals "NoThing" = some (some (.ref C_NoThing)))
    (xq_NoThing : PySem.W.excIn K C_NoThing veBm "ValueError.__new__" = true)
    (xk_NoThing : PySem.W.keepIn K (.ref C_NoThing) = true)
    (xb_NoThing : PySem.W.subIn K (.ref C_NoThing) (.type "BaseException") = some true)
    (xt_NoThing : PySem.W.typeIn K (.ref C_NoThing) = some (.type "type"))
    (ehg_NoRing : PySem.W.findIn K (.ref C_NoRing) "__getattribute__" = some (some (.builtin "BaseException.__getattribute__")))
    (ehk_NoRing : PySem.W.findIn K (.ref C_NoRing) "__getattr__" = some none)
    (ehs_NoRing : PySem.W.subIn K (.ref C_NoRing) (.type "BaseException") = some true)
    (ehd_NoRing : PySem.W.hasDictIn K C_NoRing = true)
    (eha_NoRing : PySem.W.findIn K (.ref C_NoRing) "__class__" = some (some (.builtin "object.__class__")))
    (ehn_NoRing : PySem.W.specialIn K (.builtin "object.__class__") "__get__" = some (some (.builtin "getset_descriptor.__get__")))
    (eht_NoRing : PySem.W.takesIn K (.builtin "object.__class__") = some true)
    (ehm_NoRing : PySem.W.mroIn K C_NoRing (.type "object") = some true)
    (ehg_NoDays : PySem.W.findIn K (.ref C_NoDays) "__getattribute__" = some (some (.builtin "BaseException.__getattribute__")))
    (ehk_NoDays : PySem.W.findIn K (.ref C_NoDays) "__getattr__" = some none)
    (ehs_NoDays : PySem.W.subIn K (.ref C_NoDays) (.type "BaseException") = some true)
    (ehd_NoDays : PySem.W.hasDictIn K C_NoDays = true)
    (eha_NoDays : PySem.W.findIn K (.ref C_NoDays) "__class__" = some (some (.builtin "object.__class__")))
    (ehn_NoDays : PySem.W.specialIn K (.builtin "object.__class__") "__get__" = some (some (.builtin "getset_descriptor.__get__")))
    (eht_NoDays : PySem.W.takesIn K (.builtin "object.__class__") = some true)
    (ehm_NoDays : PySem.W.mroIn K C_NoDays (.type "object") = some true)
    (ehg_NoThing : PySem.W.findIn K (.ref C_NoThing) "__getattribute__" = some (some (.builtin "BaseException.__getattribute__")))
    (ehk_NoThing : PySem.W.findIn K (.ref C_NoThing) "__getattr__" = some none)
    (ehs_NoThing : PySem.W.subIn K (.ref C_NoThing) (.type "BaseException") = some true)
    (ehd_NoThing : PySem.W.hasDictIn K C_NoThing = true)
    (eha_NoThing : PySem.W.findIn K (.ref C_NoThing) "__class__" = some (some (.builtin "object.__class__")))
    (ehn_NoThing : PySem.W.specialIn K (.builtin "object.__class__") "__get__" = some (some (.builtin "getset_descriptor.__get__")))
    (eht_NoThing : PySem.W.takesIn K (.builtin "object.__class__") = some true)
    (ehm_NoThing : PySem.W.mroIn K C_NoThing (.type "object") = some true)
    (m_NoRing_DaysError : PySem.W.exmOne K (.ref C_NoRing) (.ref C_DaysError) = some true)
    (m_NoDays_DaysError : PySem.W.exmOne K (.ref C_NoDays) (.ref C_DaysError) = some true)
    (m_NoThing_DaysError : PySem.W.exmOne K (.ref C_NoThing) (.ref C_DaysError) = some true)
    (k_NoRing_NoDays : PySem.W.kitOne K (.ref C_NoRing) (.ref C_NoDays) = some false)
    (k_NoDays_NoDays : PySem.W.kitOne K (.ref C_NoDays) (.ref C_NoDays) = some true)
    (k_NoThing_NoDays : PySem.W.kitOne K (.ref C_NoThing) (.ref C_NoDays) = some false)
    (k_NoRing_NoRing : PySem.W.kitOne K (.ref C_NoRing) (.ref C_NoRing) = some true)
    (k_NoDays_NoRing : PySem.W.kitOne K (.ref C_NoDays) (.ref C_NoRing) = some false)
    (k_NoThing_NoRing : PySem.W.kitOne K (.ref C_NoThing) (.ref C_NoRing) = some false)
    (k_NoRing_NoThing : PySem.W.kitOne K (.ref C_NoRing) (.ref C_NoThing) = some false)
    (k_NoDays_NoThing : PySem.W.kitOne K (.ref C_NoDays) (.ref C_NoThing) = some false)
    (k_NoThing_NoThing : PySem.W.kitOne K (.ref C_NoThing) (.ref C_NoThing) = some true)
    (cc_GREATEST : PySem.W.nsIn K mainGlobals "GREATEST" = some (some (.int 40 t_GREATEST)))
    (cc_LONGEST : PySem.W.nsIn K mainGlobals "LONGEST" = some (some (.int 4000 t_LONGEST)))
    (cc_MOST_ON_A_DAY : PySem.W.nsIn K mainGlobals "MOST_ON_A_DAY" = some (some (.int 2 t_MOST_ON_A_DAY)))
    (cc_MOST_THINGS : PySem.W.nsIn K mainGlobals "MOST_THINGS" = some (some (.int 8 t_MOST_THINGS))) :
    ∃ fd : FuncData, (∀ (s : Shared) (v : Value), BindsTo s fd ⟨[v], []⟩ [("_law_script", v)]) ∧ ∀ base : Heap, K.In base → base.Ns mainGlobals mg → FnOk l.prog w K mg base (L2.CX l.prog w) 51 fa fd ["_law_script"] (spL K F_law) := by
  have e := hfa.symm.trans (PySem.W.mg_of X G a27)
  cases e
  have T : Txt K mg ⟨f0, _, f1, _, f2, _, f3, _, f4, _, f5, _, f6, _, f7, _, f8, _, f9, _, f10, _, f11, _, f12, _, f13, _, f14, _, f15, _, f16, _, f17, _, f18, _, f19, _, f20, _, f21, _, f22, _, f23, _, f24, _, f25, _, f26, _, fa, _, C_DaysError, C_NoDays, C_NoRing, C_NoThing, t_GREATEST, t_LONGEST, t_MOST_ON_A_DAY, t_MOST_THINGS⟩ :=
    ⟨fun_mk (st := s_is_whole) l0 c0 k0, PySem.W.mg_of X G a0, (fun_mk (st := s_is_whole) l0 c0 k0).binds (ps := ["thing", "least", "most"]) fun _ _ _ _ _ _ us hl => match us, hl with | [_, _, _], _ => rfl,
    fun_mk (st := s_is_row) l1 c1 k1, PySem.W.mg_of X G a1, (fun_mk (st := s_is_row) l1 c1 k1).binds (ps := ["thing"]) fun _ _ _ _ _ _ us hl => match us, hl with | [_], _ => rfl,
    fun_mk (st := s_is_rising) l2 c2 k2, PySem.W.mg_of X G a2, (fun_mk (st := s_is_rising) l2 c2 k2).binds (ps := ["thing", "least", "most"]) fun _ _ _ _ _ _ us hl => match us, hl with | [_, _, _], _ => rfl,
    fun_mk (st := s_told_rows) l3 c3 k3, PySem.W.mg_of X G a3, (fun_mk (st := s_told_rows) l3 c3 k3).binds (ps := ["thing"]) fun _ _ _ _ _ _ us hl => match us, hl with | [_], _ => rfl,
    fun_mk (st := s_is_day) l4 c4 k4, PySem.W.mg_of X G a4, (fun_mk (st := s_is_day) l4 c4 k4).binds (ps := ["many", "thing"]) fun _ _ _ _ _ _ us hl => match us, hl with | [_, _], _ => rfl,
    fun_mk (st := s_are_days) l5 c5 k5, PySem.W.mg_of X G a5, (fun_mk (st := s_are_days) l5 c5 k5).binds (ps := ["many", "thing"]) fun _ _ _ _ _ _ us hl => match us, hl with | [_, _], _ => rfl,
    fun_mk (st := s_is_ring) l6 c6 k6, PySem.W.mg_of X G a6, (fun_mk (st := s_is_ring) l6 c6 k6).binds (ps := ["many", "thing"]) fun _ _ _ _ _ _ us hl => match us, hl with | [_, _], _ => rfl,
    fun_mk (st := s_asked_ring) l7 c7 k7, PySem.W.mg_of X G a7, (fun_mk (st := s_asked_ring) l7 c7 k7).binds (ps := ["many", "thing"]) fun _ _ _ _ _ _ us hl => match us, hl with | [_, _], _ => rfl,
    fun_mk (st := s_farthest) l8 c8 k8, PySem.W.mg_of X G a8, (fun_mk (st := s_farthest) l8 c8 k8).binds (ps := ["ring", "hands", "cur", "number"]) fun _ _ _ _ _ _ us hl => match us, hl with | [_, _, _, _], _ => rfl,
    fun_mk (st := s_places_from) l9 c9 k9, PySem.W.mg_of X G a9, (fun_mk (st := s_places_from) l9 c9 k9).binds (ps := ["ring", "hands", "begin", "number"]) fun _ _ _ _ _ _ us hl => match us, hl with | [_, _, _, _], _ => rfl,
    fun_mk (st := s_fewest_places) l10 c10 k10, PySem.W.mg_of X G a10, (fun_mk (st := s_fewest_places) l10 c10 k10).binds (ps := ["ring", "hands", "number"]) fun _ _ _ _ _ _ us hl => match us, hl with | [_, _, _], _ => rfl,
    fun_mk (st := s_put_in) l11 c11 k11, PySem.W.mg_of X G a11, (fun_mk (st := s_put_in) l11 c11 k11).binds (ps := ["ring", "hands", "i", "number"]) fun _ _ _ _ _ _ us hl => match us, hl with | [_, _, _, _], _ => rfl,
    fun_mk (st := s__law_deck) l12 c12 k12, PySem.W.mg_of X G a12, (fun_mk (st := s__law_deck) l12 c12 k12).binds (ps := ["_law_script", "_law_many"]) fun _ _ _ _ _ _ us hl => match us, hl with | [_, _], _ => rfl,
    fun_mk (st := s__law_whole) l13 c13 k13, PySem.W.mg_of X G a13, (fun_mk (st := s__law_whole) l13 c13 k13).binds (ps := ["_law_thing", "_law_least", "_law_most"]) fun _ _ _ _ _ _ us hl => match us, hl with | [_, _, _], _ => rfl,
    fun_mk (st := s__law_lists) l14 c14 k14, PySem.W.mg_of X G a14, (fun_mk (st := s__law_lists) l14 c14 k14).binds (ps := ["_law_thing"]) fun _ _ _ _ _ _ us hl => match us, hl with | [_], _ => rfl,
    fun_mk (st := s__law_handed) l15 c15 k15, PySem.W.mg_of X G a15, (fun_mk (st := s__law_handed) l15 c15 k15).binds (ps := ["_law_thing", "_law_draw"]) fun _ _ _ _ _ _ us hl => match us, hl with | [_, _], _ => rfl,
    fun_mk (st := s__law_odd) l16 c16 k16, PySem.W.mg_of X G a16, (fun_mk (st := s__law_odd) l16 c16 k16).binds (ps := ["_law_draw"]) fun _ _ _ _ _ _ us hl => match us, hl with | [_], _ => rfl,
    fun_mk (st := s__law_is_day) l17 c17 k17, PySem.W.mg_of X G a17, (fun_mk (st := s__law_is_day) l17 c17 k17).binds (ps := ["_law_many", "_law_thing"]) fun _ _ _ _ _ _ us hl => match us, hl with | [_, _], _ => rfl,
    fun_mk (st := s__law_is_ring) l18 c18 k18, PySem.W.mg_of X G a18, (fun_mk (st := s__law_is_ring) l18 c18 k18).binds (ps := ["_law_many", "_law_thing"]) fun _ _ _ _ _ _ us hl => match us, hl with | [_, _], _ => rfl,
    fun_mk (st := s__law_day) l19 c19 k19, PySem.W.mg_of X G a19, (fun_mk (st := s__law_day) l19 c19 k19).binds (ps := ["_law_deck_here", "_law_many"]) fun _ _ _ _ _ _ us hl => match us, hl with | [_, _], _ => rfl,
    fun_mk (st := s__law_ring) l20 c20 k20, PySem.W.mg_of X G a20, (fun_mk (st := s__law_ring) l20 c20 k20).binds (ps := ["_law_deck_here", "_law_many", "_law_size"]) fun _ _ _ _ _ _ us hl => match us, hl with | [_, _, _], _ => rfl,
    fun_mk (st := s__law_gaps) l21 c21 k21, PySem.W.mg_of X G a21, (fun_mk (st := s__law_gaps) l21 c21 k21).binds (ps := ["_law_days", "_law_i"]) fun _ _ _ _ _ _ us hl => match us, hl with | [_, _], _ => rfl,
    fun_mk (st := s__law_fewest) l22 c22 k22, PySem.W.mg_of X G a22, (fun_mk (st := s__law_fewest) l22 c22 k22).binds (ps := ["_law_days", "_law_hands", "_law_number"]) fun _ _ _ _ _ _ us hl => match us, hl with | [_, _, _], _ => rfl,
    fun_mk (st := s__law_tried) l23 c23 k23, PySem.W.mg_of X G a23, (fun_mk (st := s__law_tried) l23 c23 k23).binds (ps := ["_law_days", "_law_hands", "_law_number"]) fun _ _ _ _ _ _ us hl => match us, hl with | [_, _, _], _ => rfl,
    fun_mk (st := s__law_is_put) l24 c24 k24, PySem.W.mg_of X G a24, (fun_mk (st := s__law_is_put) l24 c24 k24).binds (ps := ["_law_found", "_law_days", "_law_hands", "_law_i", "_law_number", "_law_many"]) fun _ _ _ _ _ _ us hl => match us, hl with | [_, _, _, _, _, _], _ => rfl,
    fun_mk (st := s__law_told) l25 c25 k25, PySem.W.mg_of X G a25, (fun_mk (st := s__law_told) l25 c25 k25).binds (ps := ["_law_ring_here", "_law_hands", "_law_i", "_law_number"]) fun _ _ _ _ _ _ us hl => match us, hl with | [_, _, _, _], _ => rfl,
    fun_mk (st := s__law_wrong) l26 c26 k26, PySem.W.mg_of X G a26, (fun_mk (st := s__law_wrong) l26 c26 k26).binds (ps := ["_law_deck_here", "_law_asked"]) fun _ _ _ _ _ _ us hl => match us, hl with | [_, _], _ => rfl,
    fun_mk (st := s_law) l27 c27 k27, PySem.W.mg_of X G a27, (fun_mk (st := s_law) l27 c27 k27).binds (ps := ["_law_script"]) fun _ _ _ _ _ _ us hl => match us, hl with | [_], _ => rfl,
    PySem.W.mg_none_of X G z_bool,
    PySem.W.mg_none_of X G z_enumerate,
    PySem.W.mg_none_of X G z_int,
    PySem.W.mg_none_of X G z_isinstance,
    PySem.W.mg_none_of X G z_len,
    PySem.W.mg_none_of X G z_list,
    PySem.W.mg_none_of X G z_max,
    PySem.W.mg_none_of X G z_min,
    PySem.W.mg_none_of X G z_range,
    PySem.W.mg_none_of X G z_sorted,
    PySem.W.mg_none_of X G z_tuple,
    PySem.W.mg_none_of X G z_zip,
    ⟨PySem.W.mg_of X G xa_DaysError, xq_DaysError, xk_DaysError, xb_DaysError, xt_DaysError⟩,
    ⟨PySem.W.mg_of X G xa_NoDays, xq_NoDays, xk_NoDays, xb_NoDays, xt_NoDays⟩,
    ⟨PySem.W.mg_of X G xa_NoRing, xq_NoRing, xk_NoRing, xb_NoRing, xt_NoRing⟩,
    ⟨PySem.W.mg_of X G xa_NoThing, xq_NoThing, xk_NoThing, xb_NoThing, xt_NoThing⟩,
    ⟨ehg_NoRing, ehk_NoRing, ehs_NoRing, ehd_NoRing, eha_NoRing, ehn_NoRing, eht_NoRing, ehm_NoRing⟩,
    ⟨ehg_NoDays, ehk_NoDays, ehs_NoDays, ehd_NoDays, eha_NoDays, ehn_NoDays, eht_NoDays, ehm_NoDays⟩,
    ⟨ehg_NoThing, ehk_NoThing, ehs_NoThing, ehd_NoThing, eha_NoThing, ehn_NoThing, eht_NoThing, ehm_NoThing⟩,
    m_NoRing_DaysError.trans (by decide),
    m_NoDays_DaysError.trans (by decide),
    m_NoThing_DaysError.trans (by decide),
    k_NoRing_NoDays.trans (by decide),
    k_NoDays_NoDays.trans (by decide),
    k_NoThing_NoDays.trans (by decide),
    k_NoRing_NoRing.trans (by decide),
    k_NoDays_NoRing.trans (by decide),
    k_NoThing_NoRing.trans (by decide),
    k_NoRing_NoThing.trans (by decide),
    k_NoDays_NoThing.trans (by decide),
    k_NoThing_NoThing.trans (by decide),
    PySem.W.mg_of X G cc_GREATEST,
    PySem.W.mg_of X G cc_LONGEST,
    PySem.W.mg_of X G cc_MOST_ON_A_DAY,
    PySem.W.mg_of X G cc_MOST_THINGS⟩
  exact ⟨_, fun s v => .of_eq rfl, fun base _ _ => (ok_law T).imp fun vs H Q E q => spL_imp q⟩
end WD
namespace WD
open PySem PySem.Spec PyProof.Rows L2
open PySem.W
theorem all_hd {l : PySem.W.OpenLaw} {w : World} {K : PySem.W.Frag} {h : Heap} {mg : Str → Option Value} {fa : Addr} (X : K.In h) (G : h.Ns mainGlobals mg) (hfa : mg "law" = some (.ref fa)) (c : SaysX fcsH fnsH K) :
    ∃ fd : FuncData, (∀ (s : Shared) (v : Value), BindsTo s fd ⟨[v], []⟩ [("_law_script", v)]) ∧ ∀ base : Heap, K.In base → base.Ns mainGlobals mg → FnOk l.prog w K mg base (L2.CX l.prog w) 51 fa fd ["_law_script"] (spL K F_law) := by
  obtain ⟨a0, k0, a1, k1, a2, k2, a3, k3, a4, k4, a5, k5⟩ := fcH0_ok (c.fact 0 (f := fcH0) rfl)
  obtain ⟨a6, k6, a7, k7, a8, k8, a9, k9, a10, k10, a11, k11⟩ := fcH1_ok (c.fact 1 (f := fcH1) rfl)
  obtain ⟨a12, k12, a13, k13, a14, k14, a15, k15, a16, k16, a17, k17⟩ := fcH2_ok (c.fact 2 (f := fcH2) rfl)
  obtain ⟨a18, k18, a19, k19, a20, k20, a21, k21, a22, k22, a23, k23⟩ := fcH3_ok (c.fact 3 (f := fcH3) rfl)
  obtain ⟨a24, k24, a25, k25, a26, k26, a27, k27, z_bool, z_enumerate, z_int, z_isinstance⟩ := fcH4_ok (c.fact 4 (f := fcH4) rfl)
  obtain ⟨z_len, z_list, z_max, z_min, z_range, z_sorted, z_tuple, z_zip, xa_DaysError, xq_DaysError, xk_DaysError, xb_DaysError⟩ := fcH5_ok (c.fact 5 (f := fcH5) rfl)
  obtain ⟨xt_DaysError, xa_NoDays, xq_NoDays, xk_NoDays, xb_NoDays, xt_NoDays, xa_NoRing, xq_NoRing, xk_NoRing, xb_NoRing, xt_NoRing, xa_NoThing⟩ := fcH6_ok (c.fact 6 (f := fcH6) rfl)
  obtain ⟨xq_NoThing, xk_NoThing, xb_NoThing, xt_NoThing, ehg_NoRing, ehk_NoRing, ehs_NoRing, ehd_NoRing, eha_NoRing, ehn_NoRing, eht_NoRing, ehm_NoRing⟩ := fcH7_ok (c.fact 7 (f := fcH7) rfl)
  obtain ⟨ehg_NoDays, ehk_NoDays, ehs_NoDays, ehd_NoDays, eha_NoDays, ehn_NoDays, eht_NoDays, ehm_NoDays, ehg_NoThing, ehk_NoThing, ehs_NoThing, ehd_NoThing⟩ := fcH8_ok (c.fact 8 (f := fcH8) rfl)
  obtain ⟨eha_NoThing, ehn_NoThing, eht_NoThing, ehm_NoThing, m_NoRing_DaysError, m_NoDays_DaysError, m_NoThing_DaysError, k_NoRing_NoDays, k_NoDays_NoDays, k_NoThing_NoDays, k_NoRing_NoRing, k_NoDays_NoRing⟩ := fcH9_ok (c.fact 9 (f := fcH9) rfl)
  obtain ⟨k_NoThing_NoRing, k_NoRing_NoThing, k_NoDays_NoThing, k_NoThing_NoThing⟩ := fcH10_ok (c.fact 10 (f := fcH10) rfl)
  obtain ⟨_, cc_GREATEST⟩ := intX_ok (c.fact 11 (f := fcE0) rfl)
  obtain ⟨_, cc_LONGEST⟩ := intX_ok (c.fact 12 (f := fcE1) rfl)
  obtain ⟨_, cc_MOST_ON_A_DAY⟩ := intX_ok (c.fact 13 (f := fcE2) rfl)
  obtain ⟨_, cc_MOST_THINGS⟩ := intX_ok (c.fact 14 (f := fcE3) rfl)
  obtain ⟨oc0, od0, sl0, kV0, dc0, pm0, an0, cd0, ct0, l0, c0⟩ := c.def_ 0 (d := fnH0) rfl
  obtain ⟨oc1, od1, sl1, kV1, dc1, pm1, an1, cd1, ct1, l1, c1⟩ := c.def_ 1 (d := fnH1) rfl
  obtain ⟨oc2, od2, sl2, kV2, dc2, pm2, an2, cd2, ct2, l2, c2⟩ := c.def_ 2 (d := fnH2) rfl
  obtain ⟨oc3, od3, sl3, kV3, dc3, pm3, an3, cd3, ct3, l3, c3⟩ := c.def_ 3 (d := fnH3) rfl
  obtain ⟨oc4, od4, sl4, kV4, dc4, pm4, an4, cd4, ct4, l4, c4⟩ := c.def_ 4 (d := fnH4) rfl
  obtain ⟨oc5, od5, sl5, kV5, dc5, pm5, an5, cd5, ct5, l5, c5⟩ := c.def_ 5 (d := fnH5) rfl
  obtain ⟨oc6, od6, sl6, kV6, dc6, pm6, an6, cd6, ct6, l6, c6⟩ := c.def_ 6 (d := fnH6) rfl
  obtain ⟨oc7, od7, sl7, kV7, dc7, pm7, an7, cd7, ct7, l7, c7⟩ := c.def_ 7 (d := fnH7) rfl
  obtain ⟨oc8, od8, sl8, kV8, dc8, pm8, an8, cd8, ct8, l8, c8⟩ := c.def_ 8 (d := fnH8) rfl
  obtain ⟨oc9, od9, sl9, kV9, dc9, pm9, an9, cd9, ct9, l9, c9⟩ := c.def_ 9 (d := fnH9) rfl
  obtain ⟨oc10, od10, sl10, kV10, dc10, pm10, an10, cd10, ct10, l10, c10⟩ := c.def_ 10 (d := fnH10) rfl
  obtain ⟨oc11, od11, sl11, kV11, dc11, pm11, an11, cd11, ct11, l11, c11⟩ := c.def_ 11 (d := fnH11) rfl
  obtain ⟨oc12, od12, sl12, kV12, dc12, pm12, an12, cd12, ct12, l12, c12⟩ := c.def_ 12 (d := fnH12) rfl
  obtain ⟨oc13, od13, sl13, kV13, dc13, pm13, an13, cd13, ct13, l13, c13⟩ := c.def_ 13 (d := fnH13) rfl
  obtain ⟨oc14, od14, sl14, kV14, dc14, pm14, an14, cd14, ct14, l14, c14⟩ := c.def_ 14 (d := fnH14) rfl
  obtain ⟨oc15, od15, sl15, kV15, dc15, pm15, an15, cd15, ct15, l15, c15⟩ := c.def_ 15 (d := fnH15) rfl
  obtain ⟨oc16, od16, sl16, kV16, dc16, pm16, an16, cd16, ct16, l16, c16⟩ := c.def_ 16 (d := fnH16) rfl
  obtain ⟨oc17, od17, sl17, kV17, dc17, pm17, an17, cd17, ct17, l17, c17⟩ := c.def_ 17 (d := fnH17) rfl
  obtain ⟨oc18, od18, sl18, kV18, dc18, pm18, an18, cd18, ct18, l18, c18⟩ := c.def_ 18 (d := fnH18) rfl
  obtain ⟨oc19, od19, sl19, kV19, dc19, pm19, an19, cd19, ct19, l19, c19⟩ := c.def_ 19 (d := fnH19) rfl
  obtain ⟨oc20, od20, sl20, kV20, dc20, pm20, an20, cd20, ct20, l20, c20⟩ := c.def_ 20 (d := fnH20) rfl
  obtain ⟨oc21, od21, sl21, kV21, dc21, pm21, an21, cd21, ct21, l21, c21⟩ := c.def_ 21 (d := fnH21) rfl
  obtain ⟨oc22, od22, sl22, kV22, dc22, pm22, an22, cd22, ct22, l22, c22⟩ := c.def_ 22 (d := fnH22) rfl
  obtain ⟨oc23, od23, sl23, kV23, dc23, pm23, an23, cd23, ct23, l23, c23⟩ := c.def_ 23 (d := fnH23) rfl
  obtain ⟨oc24, od24, sl24, kV24, dc24, pm24, an24, cd24, ct24, l24, c24⟩ := c.def_ 24 (d := fnH24) rfl
  obtain ⟨oc25, od25, sl25, kV25, dc25, pm25, an25, cd25, ct25, l25, c25⟩ := c.def_ 25 (d := fnH25) rfl
  obtain ⟨oc26, od26, sl26, kV26, dc26, pm26, an26, cd26, ct26, l26, c26⟩ := c.def_ 26 (d := fnH26) rfl
  obtain ⟨oc27, od27, sl27, kV27, dc27, pm27, an27, cd27, ct27, l27, c27⟩ := c.def_ 27 (d := fnH27) rfl
  exact all_mk X G hfa a0 l0 c0 k0 a1 l1 c1 k1 a2 l2 c2 k2 a3 l3 c3 k3 a4 l4 c4 k4 a5 l5 c5 k5 a6 l6 c6 k6 a7 l7 c7 k7 a8 l8 c8 k8 a9 l9 c9 k9 a10 l10 c10 k10 a11 l11 c11 k11 a12 l12 c12 k12 a13 l13 c13 k13 a14 l14 c14 k14 a15 l15 c15 k15 a16 l16 c16 k16 a17 l17 c17 k17 a18 l18 c18 k18 a19 l19 c19 k19 a20 l20 c20 k20 a21 l21 c21 k21 a22 l22 c22 k22 a23 l23 c23 k23 a24 l24 c24 k24 a25 l25 c25 k25 a26 l26 c26 k26 a27 l27 c27 k27 z_bool z_enumerate z_int z_isinstance z_len z_list z_max z_min z_range z_sorted z_tuple z_zip xa_DaysError xq_DaysError xk_DaysError xb_DaysError xt_DaysError xa_NoDays xq_NoDays xk_NoDays xb_NoDays xt_NoDays xa_NoRing xq_NoRing xk_NoRing xb_NoRing xt_NoRing xa_NoThing xq_NoThing xk_NoThing xb_NoThing xt_NoThing ehg_NoRing ehk_NoRing ehs_NoRing ehd_NoRing eha_NoRing ehn_NoRing eht_NoRing ehm_NoRing ehg_NoDays ehk_NoDays ehs_NoDays ehd_NoDays eha_NoDays ehn_NoDays eht_NoDays ehm_NoDays ehg_NoThing ehk_NoThing ehs_NoThing ehd_NoThing eha_NoThing ehn_NoThing eht_NoThing ehm_NoThing m_NoRing_DaysError m_NoDays_DaysError m_NoThing_DaysError k_NoRing_NoDays k_NoDays_NoDays k_NoThing_NoDays k_NoRing_NoRing k_NoDays_NoRing k_NoThing_NoRing k_NoRing_NoThing k_NoDays_NoThing k_NoThing_NoThing cc_GREATEST cc_LONGEST cc_MOST_ON_A_DAY cc_MOST_THINGS
end WD
namespace WD
open PySem PySem.Spec PyProof.Rows L2
theorem F_is_whole_eq {d : D} {lo hi : Int} {h : Hs} : F_is_whole [d, .int lo, .int hi] h = .ok (.bl (isW lo hi d)) h := by
  cases d with
  | int i => by_cases h1 : lo ≤ i <;> by_cases h2 : i ≤ hi <;> simp [F_is_whole, b_is_whole, h1, h2]
  | bl b => simp [F_is_whole, b_is_whole, isW]
  | _ => simp [F_is_whole, b_is_whole, D.isI, isW]
theorem F_is_row_eq {d : D} {h : Hs} : F_is_row [d] h = .ok (.bl (rowOf h d).isSome) h := by
  simp [F_is_row, b_is_row]
def risL : Int → Int → List D → Bool
  | _, _, [] => true
  | lo, hi, .int n :: ns => decide (lo ≤ n) && decide (n ≤ hi) && risL (n + 1) hi ns
  | _, _, _ => false
def isRis (h : Hs) (lo hi : Int) (d : D) : Bool := match rowOf h d with
  | some xs => risL lo hi xs
  | none => false
theorem ris_loop {hi : Int} {a b : D} {h : Hs} : ∀ (xs : List D) (l : Int), fgS [3, 4] (loopS (gVar 4) k_is_rising_2 xs [some a, some b, some (.int hi), some (.int l), none] h) = if risL (l + 1) hi xs = true then .nx [some a, some b, some (.int hi), none, none] h else .rt (.bl false) h := by
  intro xs
  induction xs with
  | nil => intro l; simp [x_loop_nil, risL]
  | cons x xs ih =>
    intro l
    rw [x_loop_cons]
    cases x with
    | int n =>
      by_cases h1 : l + 1 ≤ n
      · by_cases h2 : n ≤ hi
        · simpa [F_is_whole_eq, h1, h2, risL] using ih n
        · simp [F_is_whole_eq, h1, h2, risL]
      · simp [F_is_whole_eq, h1, risL]
    | _ => simp [F_is_whole_eq, isW, risL]
theorem F_is_rising_eq {d : D} {lo hi : Int} {h : Hs} : F_is_rising [d, .int lo, .int hi] h = .ok (.bl (isRis h lo hi d)) h := by
  cases hr : rowOf h d with
  | none => simp [F_is_rising, b_is_rising, F_is_row_eq, hr, isRis]
  | some xs =>
    have hf : sFor (iRow (eVar 0)) (gVar 4) k_is_rising_2 [some d, some (.int lo), some (.int hi), some (.int (lo - 1)), none] h = loopS (gVar 4) k_is_rising_2 xs [some d, some (.int lo), some (.int hi), some (.int (lo - 1)), none] h := by
      refine sFor_row (fun s => ∃ l, s = [some d, some (.int lo), some (.int hi), some (.int l), none]) rfl hr ⟨_, rfl⟩ fun x hx s ⟨l, hs⟩ => ?_
      subst hs
      refine ⟨_, rfl, ?_⟩
      cases x with
      | int n => by_cases h1 : l + 1 ≤ n <;> by_cases h2 : n ≤ hi <;> simp [F_is_whole_eq, h1, h2]
      | _ => simp [F_is_whole_eq, isW]
    have hl := ris_loop (hi := hi) (a := d) (b := .int lo) (h := h) xs (lo - 1)
    rw [show lo - 1 + 1 = lo by omega] at hl
    cases hb : risL lo hi xs <;> simp [F_is_rising, b_is_rising, F_is_row_eq, hr, isRis, hf, hl, hb]
/-- told as tuples -/
theorem F_told_eq : ∀ (n : Nat) (d : D) (q : Q) (h : Hs) (fuel : Nat), n < fuel → vq h n d = some q → q.nd = true → F_told_rows fuel [d] h = .ok (qD q) h := by
  intro n
  induction n with
  | zero =>
    intro d q h fuel hf e hq
    obtain ⟨fuel, rfl⟩ : ∃ f, fuel = f + 1 := ⟨fuel - 1, by omega⟩
    rcases vq_inv e with ⟨h1, h2⟩ | ⟨_, _, _, h1, _⟩
    · cases q with
      | row _ => exact h2.elim
      | dic => cases hq
      | _ => cases h2; simp [F_told_rows, b_told_rows, F_is_row_eq, h1, qD, exitT_same]
    · omega
  | succ n ih =>
    intro d q h fuel hf e hq
    obtain ⟨fuel, rfl⟩ : ∃ f, fuel = f + 1 := ⟨fuel - 1, by omega⟩
    rcases vq_inv e with ⟨h1, h2⟩ | ⟨m, xs, qs, h1, h2, h3, rfl⟩
    · cases q with
      | row _ => exact h2.elim
      | dic => cases hq
      | _ => cases h2; simp [F_told_rows, b_told_rows, F_is_row_eq, h1, qD, exitT_same]
    · obtain rfl : n = m := by omega
      have hq' : ndL qs = true := hq
      have hc : eComp false [1] (iRow (eVar 0)) (gVar 1) tYesF (eCall 1 (F_told_rows fuel) (aCons (eVar 1) aNil)) [some d, none] h = .ok (.lst (qDL qs)) h := by
        rw [comp_map (em := id) (fun x => qD ((vq h n x).getD .non)) (by rw [List.map_id]; exact Itr.row rfl h2) fun x hx => ?_]
        · simp only [x_newF, R.ok.injEq, D.lst.injEq, and_true]
          exact mapM_qD h3
        · obtain ⟨y, hy, ey⟩ := mapM_mem h3 x hx
          have := ih x y h fuel (by omega) ey (ndL_mem hq' hy)
          simp [this, ey]
      simp [F_told_rows, b_told_rows, F_is_row_eq, h2, hc, qD, exitT_same, und_qDL]

end WD
namespace WD
open PySem PySem.Spec PyProof.Rows L2
def isDay (h : Hs) (many : Int) (d : D) : Bool := match rowOf h d with
  | some xs => risL 0 (many - 1) xs && decide ((xs.length : Int) ≤ 2)
  | none => false
def areDays (h : Hs) (many : Int) (d : D) : Bool := match rowOf h d with
  | some xs => decide ((xs.length : Int) ≤ 4000) && xs.all (isDay h many)
  | none => false
def isRing (h : Hs) (many : Int) (d : D) : Bool := match rowOf h d with
  | some xs => decide ((xs.length : Int) ≤ 4000) && xs.all (isDay h many) && decide ((0 : Int) < xs.length)
  | none => false
theorem F_is_day_eq {many : Int} {d : D} {h : Hs} : F_is_day [.int many, d] h = .ok (.bl (isDay h many d)) h := by
  cases hr : rowOf h d with
  | none => simp [F_is_day, b_is_day, F_is_rising_eq, isRis, isDay, hr]
  | some xs =>
    cases hb : risL 0 (many - 1) xs <;> simp [F_is_day, b_is_day, F_is_rising_eq, isRis, isDay, hr, hb, x_len hr]
theorem filter_not_empty {α : Type} (p : α → Bool) (xs : List α) : (xs.filter fun x => !p x).isEmpty = xs.all p := by
  rw [Bool.eq_iff_iff]; simp
theorem F_are_days_eq {many : Int} {d : D} {h : Hs} : F_are_days [.int many, d] h = .ok (.bl (areDays h many d)) h := by
  cases hr : rowOf h d with
  | none => simp [F_are_days, b_are_days, F_is_row_eq, areDays, hr]
  | some xs =>
    have hc : eComp false [2] (iRow (eVar 1)) (gVar 2) (tNotF (tV (eCall 2 F_is_day (aCons (eVar 0) (aCons (eVar 2) aNil))))) (eVar 2) [some (.int many), some d, none] h = .ok (.lst (xs.filter fun x => !isDay h many x)) h := by
      rw [comp_ty (em := id) (fun x => !isDay h many x) id (by rw [List.map_id]; exact Itr.row rfl hr) fun x hx => ?_]
      · simp
      · simp [F_is_day_eq]
    by_cases hz : (4000 : Int) < xs.length
    · have hz' : ¬ (xs.length : Int) ≤ 4000 := by omega
      simp [F_are_days, b_are_days, F_is_row_eq, areDays, hr, x_len hr, hz, hz']
    · have hz' : (xs.length : Int) ≤ 4000 := by omega
      simp [F_are_days, b_are_days, F_is_row_eq, areDays, hr, x_len hr, hz, hz', hc, filter_not_empty]
theorem F_is_ring_eq {many : Int} {d : D} {h : Hs} : F_is_ring [.int many, d] h = .ok (.bl (isRing h many d)) h := by
  cases hr : rowOf h d with
  | none => simp [F_is_ring, b_is_ring, F_are_days_eq, areDays, isRing, hr]
  | some xs =>
    cases hb : decide ((xs.length : Int) ≤ 4000) && xs.all (isDay h many) with
    | false => simp only [F_is_ring, b_is_ring, t_is_ring_0]; simp [F_are_days_eq, areDays, isRing, hr, hb, x_len hr]
    | true => simp [F_is_ring, b_is_ring, F_are_days_eq, areDays, isRing, hr, hb, x_len hr]
/-- good rings -/
def DayOk (many : Int) (d : List Int) : Prop := risL 0 (many - 1) (d.map D.int) = true ∧ d.length ≤ 2
structure RingOk (many : Int) (r : List (List Int)) : Prop where
  pos : 0 < r.length
  most : r.length ≤ 4000
  day : ∀ d ∈ r, DayOk many d
theorem isDay_ok {h : Hs} {n : Nat} {x : D} {d : List Int} {many : Int} (e : vq h n x = some (dayQ d)) (hd : DayOk many d) : isDay h many x = true := by
  obtain ⟨m, _, hr⟩ := dayQ_inv e
  have := hd.2
  simp [isDay, hr, hd.1]
  omega
theorem mapM_days {h : Hs} {n : Nat} : ∀ {xs : List D} {r : List (List Int)}, xs.mapM (vq h n) = some (r.map dayQ) → ∀ x ∈ xs, ∃ d ∈ r, vq h n x = some (dayQ d) := by
  intro xs r e x hx
  obtain ⟨y, hy, ey⟩ := mapM_mem e x hx
  obtain ⟨d, hd, rfl⟩ := List.mem_map.mp hy
  exact ⟨d, hd, ey⟩
theorem isRing_ok {h : Hs} {n : Nat} {x : D} {r : List (List Int)} {many : Int} (e : vq h n x = some (ringQ r)) (hr : RingOk many r) : isRing h many x = true := by
  obtain ⟨m, xs, _, h2, h3⟩ := ringQ_inv e
  have hl := mapM_len h3
  rw [List.length_map] at hl
  have h4 := hr.pos
  have h5 := hr.most
  simp only [isRing, h2, Bool.and_eq_true, decide_eq_true_eq, List.all_eq_true]
  refine ⟨⟨by omega, fun y hy => ?_⟩, by omega⟩
  obtain ⟨d, hd, ed⟩ := mapM_days h3 y hy
  exact isDay_ok ed (hr.day d hd)
theorem F_asked_ring_eq {h : Hs} {n : Nat} {x : D} {r : List (List Int)} {many : Int} (e : vq h n x = some (ringQ r)) (hn : n ≤ 40) (hr : RingOk many r) : F_asked_ring [.int many, x] h = .ok (dT r) h := by
  have h1 := isRing_ok e hr
  have h2 := F_told_eq n x (ringQ r) h 45 (by omega) e (nd_ring r)
  rw [qD_ring] at h2
  simp [F_asked_ring, b_asked_ring, F_is_ring_eq, h1, h2, exitT_same]
theorem risL_mono {hi hi' : Int} (hh : hi ≤ hi') : ∀ (xs : List D) (lo : Int), risL lo hi xs = true → risL lo hi' xs = true
  | [], _, _ => rfl
  | .int n :: xs, lo, h => by
    simp only [risL, Bool.and_eq_true, decide_eq_true_eq] at h ⊢
    exact ⟨⟨h.1.1, by omega⟩, risL_mono hh xs _ h.2⟩
  | .non :: _, _, h => by cases h
  | .bl _ :: _, _, h => by cases h
  | .str _ :: _, _, h => by cases h
  | .tup _ :: _, _, h => by cases h
  | .lst _ :: _, _, h => by cases h
  | .scr _ :: _, _, h => by cases h
  | .dic _ _ :: _, _, h => by cases h
  | .loc _ :: _, _, h => by cases h
theorem DayOk.mono {m m' : Int} {d : List Int} (h : DayOk m d) (hm : m ≤ m') : DayOk m' d := ⟨risL_mono (by omega) _ _ h.1, h.2⟩
/-- the day at a place, round and round -/
def dayAt (r : List (List Int)) (a : Int) : List Int := r.getD (a % (r.length : Int)).toNat []
theorem ix_at {r : List (List Int)} {a : Int} {h : Hs} (hr : 0 < r.length) : ixD (dT r) (.int (a % (r.length : Int))) h = .ok (iT (dayAt r a)) h :=
  ix_dT (Int.emod_nonneg _ (by omega)) (Int.emod_lt_of_pos _ (by omega))

end WD
namespace WD
open PySem PySem.Spec PyProof.Rows L2
/-- the places of the days that have a thing -/
def placesN (r : List (List Int)) (i : Int) : List Nat := ((r.zipIdx).filter fun x => x.1.contains i).map (·.2)
def places (r : List (List Int)) (i : Int) : List Int := (placesN r i).map fun (n : Nat) => (n : Int)
def gapsOf (r : List (List Int)) (i : Int) : List Int := ((places r i).zip ((places r i).drop 1 ++ (places r i).take 1)).map fun x => (x.2 - x.1 - 1) % (r.length : Int) + 1
end WD
namespace WD
open PySem PySem.Spec PyProof.Rows L2
/-- whether the day at a place, round and round, has a thing -/
def hasAt (r : List (List Int)) (i : Int) (p : Nat) : Bool := (r.getD (p % r.length) []).contains i
structure IsGap (r : List (List Int)) (i : Int) (p g : Nat) : Prop where
  lo : 1 ≤ g
  hi : g ≤ r.length
  has : hasAt r i (p + g) = true
  no : ∀ f, 1 ≤ f → f < g → hasAt r i (p + f) = false
theorem least_of {P : Nat → Bool} : ∀ n, P n = true → ∃ m, m ≤ n ∧ P m = true ∧ ∀ k, k < m → P k = false := by
  intro n
  induction n using Nat.strongRecOn with
  | ind n ih =>
    intro hn
    by_cases h : ∃ k, k < n ∧ P k = true
    · obtain ⟨k, hk, pk⟩ := h
      obtain ⟨m, h1, h2, h3⟩ := ih k hk pk
      exact ⟨m, by omega, h2, h3⟩
    · exact ⟨n, Nat.le_refl _, hn, fun k hk => by
        cases e : P k with
        | false => rfl
        | true => exact absurd ⟨k, hk, e⟩ h⟩
theorem gap_ex {r : List (List Int)} {i : Int} {p : Nat} (hp : p < r.length) (hh : hasAt r i p = true) : ∃ g, IsGap r i p g := by
  have e : hasAt r i (p + (r.length - 1 + 1)) = true := by
    unfold hasAt at hh ⊢
    rw [show p + (r.length - 1 + 1) = p + r.length by omega, Nat.add_mod_right]
    exact hh
  obtain ⟨m, h1, h2, h3⟩ := least_of (P := fun k => hasAt r i (p + (k + 1))) (r.length - 1) e
  refine ⟨m + 1, by omega, by omega, h2, fun f hf1 hf2 => ?_⟩
  have := h3 (f - 1) (by omega)
  rwa [show f - 1 + 1 = f by omega] at this
theorem IsGap.uniq {r : List (List Int)} {i : Int} {p g g' : Nat} (a : IsGap r i p g) (b : IsGap r i p g') : g = g' := by
  rcases Nat.lt_trichotomy g g' with h | h | h
  · have := b.no g a.lo h; rw [a.has] at this; cases this
  · exact h
  · have := a.no g' b.lo h; rw [b.has] at this; cases this
open Classical in
noncomputable def gapN (r : List (List Int)) (i : Int) (p : Nat) : Nat := if h : ∃ g, IsGap r i p g then Classical.choose h else 1
theorem gapN_is {r : List (List Int)} {i : Int} {p : Nat} (hp : p < r.length) (hh : hasAt r i p = true) : IsGap r i p (gapN r i p) := by
  have h := gap_ex hp hh
  unfold gapN
  rw [dif_pos h]
  exact Classical.choose_spec h
theorem placesN_eq (r : List (List Int)) (i : Int) : placesN r i = (List.range r.length).filter fun p => hasAt r i p := by
  unfold placesN
  have key : ∀ (xs : List (List Int)) (k : Nat), (∀ j, j < xs.length → hasAt r i (k + j) = (xs.getD j []).contains i) → ((xs.zipIdx k).filter fun x => x.1.contains i).map (·.2) = (List.range' k xs.length).filter fun p => hasAt r i p := by
    intro xs
    induction xs with
    | nil => intro k _; rfl
    | cons x xs ih =>
      intro k hk
      have h0 := hk 0 (by simp)
      have h1 := ih (k + 1) fun j hj => by
        have := hk (j + 1) (by simp; omega)
        rw [show k + 1 + j = k + (j + 1) by omega, this]
        rfl
      simp only [Nat.add_zero, List.getD_cons_zero] at h0
      rw [List.zipIdx_cons, List.length_cons, List.range'_succ]
      cases hx : x.contains i with
      | true => rw [List.filter_cons_of_pos (by simpa using hx), List.filter_cons_of_pos (by rw [h0]; exact hx), List.map_cons, h1]
      | false => rw [List.filter_cons_of_neg (by simpa using hx), List.filter_cons_of_neg (by rw [h0, hx]; simp), h1]
  rw [List.range_eq_range']
  refine key r 0 fun j hj => ?_
  unfold hasAt
  rw [Nat.zero_add, Nat.mod_eq_of_lt hj]
theorem mem_places {r : List (List Int)} {i : Int} {p : Nat} : p ∈ placesN r i ↔ p < r.length ∧ hasAt r i p = true := by
  rw [placesN_eq]; simp
theorem places_sorted (r : List (List Int)) (i : Int) : (placesN r i).Pairwise (· < ·) := by
  rw [placesN_eq]
  exact List.Pairwise.filter _ List.pairwise_lt_range
theorem wrap_gap {a b n : Nat} (h : a ≤ b) (hb : b < n) : ((a : Int) - (b : Int) - 1) % (n : Int) + 1 = a + n - b := by
  rw [show (a : Int) - (b : Int) - 1 = ((a : Int) - (b : Int) - 1 + n) + (n : Int) * (-1) by omega, Int.add_mul_emod_self_left, Int.emod_eq_of_lt (by omega) (by omega)]
  omega
/-- the told gaps are the gaps -/
theorem gaps_are {r : List (List Int)} {i : Int} (hr : 0 < r.length) : gapsOf r i = ((placesN r i).map (gapN r i)).map fun (n : Nat) => (n : Int) := by
  have hs := List.pairwise_iff_getElem.mp (places_sorted r i)
  have hn : (0 : Int) < r.length := by omega
  apply List.ext_getElem
  · simp [gapsOf, places]
    omega
  · intro k h1 h2
    have hk : k < (placesN r i).length := by simpa using h2
    have hp := mem_places.mp (List.getElem_mem hk)
    have hg := gapN_is hp.1 hp.2
    simp only [List.getElem_map]
    generalize hgd : gapN r i (placesN r i)[k] = g at hg
    have hmem : ∀ x, x < r.length → hasAt r i x = true → ∃ j, ∃ hj : j < (placesN r i).length, (placesN r i)[j] = x := fun x hx hh => List.mem_iff_getElem.mp (mem_places.mpr ⟨hx, hh⟩)
    have hq0 : hasAt r i ((placesN r i)[k] + g) = true := hg.has
    by_cases hl : k + 1 < (placesN r i).length
    · have hq := mem_places.mp (List.getElem_mem hl)
      have hlt := hs k (k + 1) hk hl (by omega)
      have e : g = (placesN r i)[k + 1] - (placesN r i)[k] := by
        refine hg.uniq ⟨by omega, by omega, ?_, fun f h1 h2 => ?_⟩
        · rw [show (placesN r i)[k] + ((placesN r i)[k + 1] - (placesN r i)[k]) = (placesN r i)[k + 1] by omega]; exact hq.2
        · cases eh : hasAt r i ((placesN r i)[k] + f) with
          | false => rfl
          | true =>
            obtain ⟨j, hj, ej⟩ := hmem _ (by omega) eh
            have c1 : k < j := by
              rcases Nat.lt_trichotomy k j with c | c | c
              · exact c
              · subst c; omega
              · have := hs j k hj hk c; omega
            rcases Nat.lt_trichotomy j (k + 1) with c | c | c
            · omega
            · subst c; omega
            · have := hs (k + 1) j hl hj c; omega
      have er : ((places r i).drop 1 ++ (places r i).take 1)[k]'(by simp [places]; omega) = ((placesN r i)[k + 1] : Int) := by
        rw [List.getElem_append_left (by simp [places]; omega)]
        simp [places]
      simp only [gapsOf, List.getElem_map, List.getElem_zip, er]
      simp only [places, List.getElem_map]
      rw [Int.emod_eq_of_lt (by omega) (by omega)]
      omega
    · have hk0 : 0 < (placesN r i).length := by omega
      have hq := mem_places.mp (List.getElem_mem hk0)
      have hle : (placesN r i)[0] ≤ (placesN r i)[k] := by
        rcases Nat.eq_zero_or_pos k with c | c
        · subst c; exact Nat.le_refl _
        · exact Nat.le_of_lt (hs 0 k hk0 hk c)
      have e : g = (placesN r i)[0] + r.length - (placesN r i)[k] := by
        refine hg.uniq ⟨by omega, by omega, ?_, fun f h1 h2 => ?_⟩
        · rw [show (placesN r i)[k] + ((placesN r i)[0] + r.length - (placesN r i)[k]) = (placesN r i)[0] + r.length by omega]
          unfold hasAt
          rw [Nat.add_mod_right]
          exact hq.2
        · cases eh : hasAt r i ((placesN r i)[k] + f) with
          | false => rfl
          | true =>
            by_cases hw : (placesN r i)[k] + f < r.length
            · obtain ⟨j, hj, ej⟩ := hmem _ hw eh
              rcases Nat.lt_trichotomy j k with c | c | c
              · have := hs j k hj hk c; omega
              · subst c; omega
              · omega
            · have eh2 : hasAt r i ((placesN r i)[k] + f - r.length) = true := by
                unfold hasAt at eh ⊢
                rwa [show (placesN r i)[k] + f = ((placesN r i)[k] + f - r.length) + r.length by omega, Nat.add_mod_right] at eh
              obtain ⟨j, hj, ej⟩ := hmem _ (by omega) eh2
              rcases Nat.eq_zero_or_pos j with c | c
              · subst c; omega
              · have := hs 0 j hk0 hj c; omega
      have er : ((places r i).drop 1 ++ (places r i).take 1)[k]'(by simp [places]; omega) = ((placesN r i)[0] : Int) := by
        rw [List.getElem_append_right (by simp [places]; omega)]
        simp only [places, List.length_drop, List.length_map, List.getElem_take, List.getElem_map]
        congr 2; omega
      simp only [gapsOf, List.getElem_map, List.getElem_zip, er]
      simp only [places, List.getElem_map]
      rw [wrap_gap hle hp.1]
      omega
theorem at_has {r : List (List Int)} {i : Int} {p : Nat} {a : Int} (e : a = (p : Int)) : (dayAt r a).contains i = hasAt r i p := by
  subst e
  unfold dayAt hasAt
  rw [← Int.natCast_emod, Int.toNat_natCast]
/-- what reads as a ring of days -/
structure RL (h : Hs) (d : D) (r : List (List Int)) : Prop where
  len : lenD [d] h = .ok (.int r.length) h
  ix : ∀ a : Int, 0 ≤ a → a < r.length → ∃ e, ixD d (.int a) h = .ok e h ∧ rowOf h e = some ((r.getD a.toNat []).map D.int)
theorem rl_dT {h : Hs} {r : List (List Int)} : RL h (dT r) r := ⟨len_dT, fun a h0 h1 => ⟨_, ix_dT h0 h1, row_iT⟩⟩
theorem RL.at {h : Hs} {d : D} {r : List (List Int)} (x : RL h d r) (hr : 0 < r.length) (a : Int) : ∃ e, ixD d (.int (a % (r.length : Int))) h = .ok e h ∧ ∀ (n : Bool) (i : Int), inD n (.int i) e h = .ok (.bl (if n = true then !(dayAt r a).contains i else (dayAt r a).contains i)) h := by
  obtain ⟨e, h1, h2⟩ := x.ix (a % (r.length : Int)) (Int.emod_nonneg _ (by omega)) (Int.emod_lt_of_pos _ (by omega))
  exact ⟨e, h1, fun n i => in_ints h2⟩
theorem far_while {d : D} {r : List (List Int)} {i : Int} {p g : Nat} {f2 : Option D} {h : Hs} (hR : RL h d r) (hr : 0 < r.length) (hg : IsGap r i p g) :
    sWhile (tV (eBin (inD true) (eVar 1) (eBin ixD (eVar 0) (eBin modD (eBin addD (eVar 3) (eVar 4)) (eB lenD (aCons (eVar 0) aNil)))))) k__law_gaps_1_0a_1 [some d, some (.int i), f2, some (.int p), some (.int 1)] h = .nx [some d, some (.int i), f2, some (.int p), some (.int g)] h := by
  have h1 := hg.lo
  have hl := hR.len
  have key := while_steps (t := tV (eBin (inD true) (eVar 1) (eBin ixD (eVar 0) (eBin modD (eBin addD (eVar 3) (eVar 4)) (eB lenD (aCons (eVar 0) aNil)))))) (b := k__law_gaps_1_0a_1) (fun k => [some d, some (.int i), f2, some (.int p), some (.int ((k : Int) + 1))]) h (g - 1) (fun k hk => ?_) ?_
  · rw [show ((g - 1 : Nat) : Int) + 1 = g by omega] at key
    exact key
  · have hx := (at_has (r := r) (i := i) (p := p + (k + 1)) (a := (p : Int) + ((k : Int) + 1)) (by omega)).trans (hg.no (k + 1) (by omega) (by omega))
    obtain ⟨e, e1, e2⟩ := hR.at hr ((p : Int) + ((k : Int) + 1))
    have e3 := e2 true i
    rw [hx] at e3
    simp [hr, hl, e1, e3]
  · have hx := (at_has (r := r) (i := i) (p := p + g) (a := (p : Int) + (((g - 1 : Nat) : Int) + 1)) (by omega)).trans hg.has
    obtain ⟨e, e1, e2⟩ := hR.at hr ((p : Int) + (((g - 1 : Nat) : Int) + 1))
    have e3 := e2 true i
    rw [hx] at e3
    simp [hr, hl, e1, e3]
theorem lgaps_loop {d : D} {r : List (List Int)} {i : Int} {g : Hs} (hR : ∀ u, RL (g ++ u) d r) (hr : 0 < r.length) : ∀ (ks : List Nat) (acc : List Int), (∀ k ∈ ks, k < r.length) → acc.length + ks.length < 16777216 →
    loopS (gVar 3) k__law_gaps_1 (ks.map fun (k : Nat) => .int k) [some d, some (.int i), some (.loc g.length), none, none] (g ++ [.lst (acc.map D.int)]) =
      .nx [some d, some (.int i), some (.loc g.length), none, none] (g ++ [.lst ((acc ++ ((ks.filter fun p => hasAt r i p).map (gapN r i)).map fun (n : Nat) => (n : Int)).map D.int)]) := by
  intro ks
  induction ks with
  | nil => intro acc _ _; simp [x_loop_nil]
  | cons k ks ih =>
    intro acc hk hz
    simp only [List.length_cons] at hz
    have hk0 := hk k List.mem_cons_self
    obtain ⟨e, hix, hrow⟩ := (hR [.lst (acc.map D.int)]).ix (k : Int) (by omega) (by omega)
    have hin := in_ints (n := false) (i := i) hrow
    have eh : (r.getD (k : Int).toNat []).contains i = hasAt r i k := by
      unfold hasAt
      rw [Nat.mod_eq_of_lt hk0, Int.toNat_natCast]
    rw [eh] at hin
    rw [List.map_cons, x_loop_cons]
    cases hh : hasAt r i k with
    | false =>
      rw [hh] at hin
      have := ih acc (fun k hk' => hk k (List.mem_cons_of_mem _ hk')) (by omega)
      simpa [hix, hin, hh] using this
    | true =>
      rw [hh] at hin
      have hf := far_while (f2 := some (.loc g.length)) (h := g ++ [.lst (acc.map D.int)]) (hR _) hr (gapN_is hk0 hh)
      have ha := app_last (g := g) (xs := acc.map D.int) (d := .int (gapN r i k)) (by simp; omega)
      have := ih (acc ++ [(gapN r i k : Int)]) (fun k hk' => hk k (List.mem_cons_of_mem _ hk')) (by simp; omega)
      simpa [hix, hin, hh, hf, ha] using this
theorem F_law_gaps_gen {d : D} {r : List (List Int)} {i : Int} {h : Hs} (hR : ∀ u, RL (h ++ u) d r) (hr : 0 < r.length) (hm : r.length ≤ 4000) : F__law_gaps [d, .int i] h = .ok (iT (gapsOf r i)) h := by
  have hl := lgaps_loop (i := i) (g := h) hR hr (List.range r.length) [] (by simp) (by simp; omega)
  rw [← placesN_eq, List.nil_append, ← gaps_are hr] at hl
  have hlen := (hR [.lst []]).len
  have hf := (for_rngN (f := aCons (eB lenD (aCons (eVar 0) aNil)) aNil) (g := gVar 3) (b := k__law_gaps_1) (s := [some d, some (.int i), some (.loc h.length), none, none]) (h := h ++ [.lst []]) (h1 := h ++ [.lst []]) (n := r.length) (by simp [hlen]) (by omega)).trans hl
  have ht := x_tuple (d := .loc h.length) (h := h ++ [.lst ((gapsOf r i).map D.int)]) (xs := (gapsOf r i).map D.int) (by simp)
  simp [F__law_gaps, b__law_gaps, hf, ht, tup_ints, exitT_app]
theorem F_law_gaps_eq {r : List (List Int)} {i : Int} {h : Hs} (hr : 0 < r.length) (hm : r.length ≤ 4000) : F__law_gaps [dT r, .int i] h = .ok (iT (gapsOf r i)) h := F_law_gaps_gen (fun _ => rl_dT) hr hm

end WD
namespace WD
open PySem PySem.Spec PyProof.Rows L2
end WD
namespace WD
open PySem PySem.Spec PyProof.Rows L2
theorem rgI_bd {lo : Int} {n : Nat} {k : Int} (h : k ∈ rgI lo n) : lo ≤ k ∧ k < lo + n := by
  unfold rgI at h
  simp only [List.mem_map, List.mem_range] at h
  obtain ⟨i, hi, rfl⟩ := h
  omega
@[simp] theorem rgI_len {lo : Int} {n : Nat} : (rgI lo n).length = n := by simp [rgI]
end WD
namespace WD
open PySem PySem.Spec PyProof.Rows L2
theorem deck_turn {a m : D} {g : Hs} {kk odd : Int} {row deck : List Int} (hrow : 0 < row.length) (hk0 : 0 ≤ kk) (hk : kk < 100000) (hd : deck.length < 100000) :
    ∃ (row' : List Int) (one : Int), row'.length = row.length ∧ k__law_deck_5 [some a, some m, some (.loc g.length), some (.int odd), some (.loc (g.length + 1)), some (.int kk), none, none] (g ++ [.lst (row.map D.int), .lst (deck.map D.int)]) =
      .nx [some a, some m, some (.loc g.length), some (.int odd), some (.loc (g.length + 1)), none, none, none] (g ++ [.lst (row'.map D.int), .lst ((deck ++ [one]).map D.int)]) := by
  have hm0 : 0 ≤ kk % (row.length : Int) := Int.emod_nonneg _ (by omega)
  have hm1 : kk % (row.length : Int) < row.length := Int.emod_lt_of_pos _ (by omega)
  have hlen : ∀ ds : List D, lenD [.loc g.length] (g ++ [.lst (row.map D.int), .lst ds]) = .ok (.int row.length) (g ++ [.lst (row.map D.int), .lst ds]) := fun ds => by
    rw [x_len (d := .loc g.length) at2a]; simp
  have hix : ∀ ds : List D, ixD (.loc g.length) (.int (kk % (row.length : Int))) (g ++ [.lst (row.map D.int), .lst ds]) = .ok (.int (row.getD (kk % (row.length : Int)).toNat 0)) (g ++ [.lst (row.map D.int), .lst ds]) := fun ds => ix_ints (d := .loc g.length) at2a hm0 hm1
  generalize row.getD (kk % (row.length : Int)).toNat 0 = one0 at hix
  have hap : ∀ (row' : List Int) (v : Int), appendD (.loc (g.length + 1)) [.int v] (g ++ [.lst (row'.map D.int), .lst (deck.map D.int)]) = .ok .non (g ++ [.lst (row'.map D.int), .lst (deck.map D.int ++ [.int v])]) := fun row' v => by
    rw [app_at at2b (by simp; omega), set2b]
  have hpos : (0 : Int) < row.length := by omega
  have b1 : -18446744073709551616 < kk := by omega
  have b2 : kk < 18446744073709551616 := by omega
  by_cases ho : odd = 0
  · have sm1 : ∀ c : Int, -18446744073709551616 < c % 2147483629 ∧ c % 2147483629 < 18446744073709551616 := fun c => by omega
    have sm2 : ∀ c : Int, -18446744073709551616 < c % 2147483647 ∧ c % 2147483647 < 18446744073709551616 := fun c => by omega
    have h4 : ∀ h : Hs, ixD (.lst [.int 48271, .int 69621, .int 39373, .int 40692]) (.int (kk % 4)) h = .ok (.int ([48271, 69621, 39373, 40692].getD (kk % 4).toNat 0)) h := fun h => ix_ints (ns := [48271, 69621, 39373, 40692]) rfl (by omega) (by simp; omega)
    refine ⟨row, ?_⟩
    simp [hlen, hix, ho, b1, b2, sm1, sm2, h4, hap, hrow]
  · refine ⟨row.set (kk % (row.length : Int)).toNat (one0 / 1000000), ?_⟩
    have hs := set_ints (h := g ++ [.lst (row.map D.int), .lst (deck.map D.int)]) (n := g.length) (v := one0 / 1000000) at2a hm0 hm1
    rw [set2a] at hs
    have hap2 := hap (row.set (kk % (row.length : Int)).toNat (one0 / 1000000))
    simp at hs hap2
    simp [hlen, hix, ho, hs, hap2, hrow]
theorem deck_loop {a m : D} {g : Hs} {odd : Int} : ∀ (ks row deck : List Int), (∀ k ∈ ks, 0 ≤ k ∧ k < 100000) → 0 < row.length → deck.length + ks.length ≤ 100000 →
    ∃ (row' deck' : List Int), deck'.length = deck.length + ks.length ∧ loopS (gVar 5) k__law_deck_5 (ks.map D.int) [some a, some m, some (.loc g.length), some (.int odd), some (.loc (g.length + 1)), none, none, none] (g ++ [.lst (row.map D.int), .lst (deck.map D.int)]) =
      .nx [some a, some m, some (.loc g.length), some (.int odd), some (.loc (g.length + 1)), none, none, none] (g ++ [.lst (row'.map D.int), .lst (deck'.map D.int)])
  | [], row, deck, _, _, _ => ⟨row, deck, by simp, rfl⟩
  | k :: ks, row, deck, hk, hrow, hd => by
    simp only [List.length_cons] at hd
    obtain ⟨row1, one, h1, h2⟩ := deck_turn (a := a) (m := m) (g := g) (odd := odd) hrow (hk k List.mem_cons_self).1 (hk k List.mem_cons_self).2 (deck := deck) (by omega)
    obtain ⟨row2, deck2, h3, h4⟩ := deck_loop (a := a) (m := m) (g := g) (odd := odd) ks row1 (deck ++ [one]) (fun k hk' => hk k (List.mem_cons_of_mem _ hk')) (by omega) (by simp; omega)
    refine ⟨row2, deck2, by simp at h3 ⊢; omega, ?_⟩
    exact (loop_nx rfl h2).trans h4
theorem deck_rest {a : D} {g : Hs} {n : Nat} {row : List Int} (hn : n ≤ 1000) (hrow : 0 < row.length) :
    ∃ (row' deck : List Int), deck.length = n ∧ (sSeq t__law_deck_2 (sSeq t__law_deck_3 (sSeq t__law_deck_4 (sSeq t__law_deck_5 (sSeq t__law_deck_6 t__law_deck_7))))) [some a, some (.int n), some (.loc g.length), none, none, none, none, none] (g ++ [.lst (row.map D.int)]) =
      .rt (.loc (g.length + 1)) (g ++ [.lst (row'.map D.int), .lst (deck.map D.int)]) := by
  have hix := ix_ints (h := g ++ [.lst (row.map D.int)]) (d := .loc g.length) (ns := row) (i := 0) (by simp) (by decide) (by omega)
  generalize row.getD (0 : Int).toNat 0 = one0 at hix
  have hs := set_ints (h := g ++ [.lst (row.map D.int)]) (n := g.length) (ns := row) (i := 0) (v := one0 / 2) locAt_end (by decide) (by omega)
  rw [set_end] at hs
  obtain ⟨row2, deck2, h3, h4⟩ := deck_loop (a := a) (m := .int n) (g := g) (odd := one0 % 2) (rgI 0 n) (row.set 0 (one0 / 2)) [] (fun k hk => by have := rgI_bd hk; omega) (by simpa using hrow) (by simp; omega)
  refine ⟨row2, deck2.reverse, by simpa using h3, ?_⟩
  have hf : sFor (iRng1 (aCons (eVar 1) aNil)) (gVar 5) k__law_deck_5 [some a, some (.int n), some (.loc g.length), some (.int (one0 % 2)), some (.loc (g.length + 1)), none, none, none] (g ++ [.lst ((row.set 0 (one0 / 2)).map D.int), .lst []]) = _ := (for_rng (n := n) rfl (by omega) (by omega)).trans h4
  have hrev : ∀ ds : List D, reverseD (.loc (g.length + 1)) [] (g ++ [.lst (row2.map D.int), .lst ds]) = .ok .non (g ++ [.lst (row2.map D.int), .lst ds.reverse]) := fun ds => by simp [reverseD]
  simp at hf hs
  simp [hix, hs, hf, hrev]
theorem F_deck {ns : List Int} {n : Nat} (hn : n ≤ 1000) : ∃ deck : List Int, deck.length = n ∧ F__law_deck [.scr (ns.map D.int), .int n] [] = .ok (.loc 0) [.lst (deck.map D.int)] := by
  have fin : ∀ (g : Hs) (row : List Int), 0 < row.length → (∀ k : FS, (sSeq t__law_deck_0 (sSeq t__law_deck_1 k)) [some (.scr (ns.map D.int)), some (.int n), none, none, none, none, none, none] [] = k [some (.scr (ns.map D.int)), some (.int n), some (.loc g.length), none, none, none, none, none] (g ++ [.lst (row.map D.int)])) →
      ∃ deck : List Int, deck.length = n ∧ F__law_deck [.scr (ns.map D.int), .int n] [] = .ok (.loc 0) [.lst (deck.map D.int)] := fun g row hrow hk => by
    obtain ⟨row', deck, h1, h2⟩ := deck_rest (a := .scr (ns.map D.int)) (g := g) hn hrow
    refine ⟨deck, h1, ?_⟩
    have e : b__law_deck [some (.scr (ns.map D.int)), some (.int n), none, none, none, none, none, none] [] = .rt (.loc (g.length + 1)) (g ++ [.lst (row'.map D.int), .lst (deck.map D.int)]) := (hk _).trans h2
    have hx : exitM [] (g.length + 1) (g ++ [.lst (row'.map D.int), .lst (deck.map D.int)]) = .ok (.loc 0) [.lst (deck.map D.int)] := by
      unfold exitM
      rw [if_pos ⟨fun i o hi => absurd hi (Nat.not_lt_zero _), Nat.zero_le _⟩, at2b]
      simp
    simp only [F__law_deck, x_run, List.length_cons, List.length_nil]
    simp only [Nat.zero_add, Nat.reduceAdd, if_true, List.map_cons, List.map_nil, Nat.reduceSub, List.replicate, List.cons_append, List.nil_append, e]
    exact hx
  cases ns with
  | nil =>
    refine fin [.lst []] [4] (by decide) fun k => ?_
    have he : eqD false (.loc 0) (.lst []) [.lst []] = .ok (.bl true) [.lst []] := by
      rw [x_eqL (ns := []) (ms := []) (by simp) (by simp)]; simp
    simp [he]
  | cons a ns =>
    refine fin [] (a :: ns) (by simp) fun k => ?_
    have he : eqD false (.loc 0) (.lst []) [.lst ((a :: ns).map D.int)] = .ok (.bl false) [.lst ((a :: ns).map D.int)] := by
      rw [x_eqL (ns := a :: ns) (ms := []) (by simp) (by simp)]; simp
    simp only [List.map_cons] at he
    simp [he]

end WD
namespace WD
open PySem PySem.Spec PyProof.Rows L2
/-- some day -/
theorem F_law_day_eq {dk : List Int} {d many : Int} {r : Hs} (h0 : 0 ≤ many) (h8 : many ≤ 8) : ∃ day, DayOk many day ∧ F__law_day [.loc 0, .int many] (.lst ((dk ++ [d]).map D.int) :: r) = .ok (iT day) (.lst (dk.map D.int) :: r) := by
  by_cases hm : many = 0
  · subst hm
    exact ⟨[], ⟨rfl, by simp⟩, by simp [F__law_day, b__law_day, tup0, exitT_head0]⟩
  · have hp : 0 < many := by omega
    have hb : many < 18446744073709551616 := by omega
    by_cases h5 : d % 5 = 0
    · exact ⟨[], ⟨rfl, by simp⟩, by simp [F__law_day, b__law_day, hm, h5, tup0, exitT_head0]⟩
    · have hi := Int.emod_nonneg (d / 5) hm
      have hi2 := Int.emod_lt_of_pos (d / 5) hp
      have hj := Int.emod_nonneg (d / 64) hm
      have hj2 := Int.emod_lt_of_pos (d / 64) hp
      by_cases hc : 0 < d / 1024 % 3 ∨ d / 5 % many = d / 64 % many
      · refine ⟨[d / 5 % many], ⟨?_, by simp⟩, ?_⟩
        · simp [risL]; omega
        · by_cases hc1 : 0 < d / 1024 % 3
          · simp [F__law_day, b__law_day, hm, h5, hp, hc1, tup1, exitT_head0]
          · have hc2 : d / 5 % many = d / 64 % many := by omega
            simp [F__law_day, b__law_day, hm, h5, hp, hc1, hc2, tup1, exitT_head0]
      · have hc1 : ¬ 0 < d / 1024 % 3 := by omega
        have hc2 : ¬ d / 5 % many = d / 64 % many := by omega
        refine ⟨[if d / 64 % many < d / 5 % many then d / 64 % many else d / 5 % many, if d / 64 % many > d / 5 % many then d / 64 % many else d / 5 % many], ⟨?_, by simp⟩, ?_⟩
        · generalize d / 5 % many = i at *
          generalize d / 64 % many = j at *
          by_cases hij : j < i
          · have : ¬ i < j := by omega
            simp [risL, hij, this]; omega
          · have : i < j := by omega
            simp [risL, hij, this]; omega
        · simp [F__law_day, b__law_day, hm, h5, hp, hc1, hc2, tup2, exitT_head0]
theorem F_law_ring_eq {dk : List Int} {many : Int} {r : Hs} {size : Nat} (h0 : 0 ≤ many) (h8 : many ≤ 8) (hz : size ≤ dk.length) (hs : size ≤ 1000) : ∃ (days : List (List Int)) (dk' : List Int), days.length = size ∧ (∀ d ∈ days, DayOk many d) ∧ dk.length = dk'.length + size ∧ F__law_ring [.loc 0, .int many, .int size] (.lst (dk.map D.int) :: r) = .ok (dT days) (.lst (dk'.map D.int) :: r) := by
  have key := comp_inv (m := false) (vs := [3]) (fi := iRng1 (aCons (eVar 2) aNil)) (g := gVar 3) (tt := tYesF) (te := eCall 2 F__law_day (aCons (eVar 0) (aCons (eVar 1) aNil))) (s := [some (.loc 0), some (.int many), some (.int size), none]) (h := .lst (dk.map D.int) :: r)
    (fun acc rest h => ∃ (days : List (List Int)) (dk' : List Int), acc = days.map iT ∧ h = .lst (dk'.map D.int) :: r ∧ (∀ d ∈ days, DayOk many d) ∧ days.length + rest.length = size ∧ dk.length + rest.length = dk'.length + size)
    (Itr.rng (n := size) rfl (by omega) (by omega)) (fun n => rng_noloc) ⟨[], dk, rfl, rfl, by simp, by simp, by simp⟩ fun acc x rest h hI => by
    obtain ⟨days, dk', rfl, rfl, a1, a2, a3⟩ := hI
    simp only [List.length_cons] at a2 a3
    obtain ⟨dk2, d, rfl⟩ := split_last (l := dk') (by omega)
    obtain ⟨day, b1, b2⟩ := F_law_day_eq (dk := dk2) (d := d) (r := r) h0 h8
    refine ⟨_, rfl, .inr ⟨rfl, iT day, _, ?_, ⟨days ++ [day], dk2, by simp, rfl, ?_, by simp; omega, by simp at a3; omega⟩⟩⟩
    · simp at b2
      simp [b2]
    · intro d hd
      rcases List.mem_append.mp hd with hd | hd
      · exact a1 d hd
      · have : d = day := by simpa using hd
        subst this; exact b1
  obtain ⟨acc, h', ⟨days, dk', rfl, rfl, a1, a2, a3⟩, e⟩ := key
  refine ⟨days, dk', by simpa using a2, a1, by simpa using a3, ?_⟩
  simp [F__law_ring, b__law_ring, e, tup_days, exitT_head0]

end WD
namespace WD
open PySem PySem.Spec PyProof.Rows L2
inductive Cn (fr : Nat → Bool) (w b : Nat) : Nat → Nat → Prop
  | base : Cn fr w b b 1
  | step {a c k : Nat} : Cn fr w b a k → a < c → c ≤ a + w → fr c = true → Cn fr w b c (k + 1)
theorem Cn.pos {fr : Nat → Bool} {w b a k : Nat} (h : Cn fr w b a k) : 1 ≤ k := by
  induction h with
  | base => exact Nat.le_refl _
  | step _ _ _ _ ih => omega
theorem Cn.le {fr : Nat → Bool} {w b a k : Nat} (h : Cn fr w b a k) : b ≤ a := by
  induction h with
  | base => exact Nat.le_refl _
  | step _ h1 _ _ ih => omega
theorem Cn.inv {fr : Nat → Bool} {w b c k : Nat} (h : Cn fr w b c k) : (c = b ∧ k = 1) ∨ ∃ a j, k = j + 1 ∧ Cn fr w b a j ∧ a < c ∧ c ≤ a + w ∧ fr c = true := by
  cases h with
  | base => exact .inl ⟨rfl, rfl⟩
  | step h1 h2 h3 h4 => exact .inr ⟨_, _, rfl, h1, h2, h3, h4⟩
def farO (fr : Nat → Bool) (cur : Nat) : Nat → Option Nat
  | 0 => none
  | f + 1 => if fr (cur + (f + 1)) = true then some (cur + (f + 1)) else farO fr cur f
theorem farO_some {fr : Nat → Bool} {cur c : Nat} : ∀ {w : Nat}, farO fr cur w = some c → cur < c ∧ c ≤ cur + w ∧ fr c = true ∧ ∀ x, cur < x → x ≤ cur + w → fr x = true → x ≤ c
  | 0, h => by cases h
  | f + 1, h => by
    unfold farO at h
    split at h
    · rename_i q
      cases h
      exact ⟨by omega, by omega, q, fun x _ h2 _ => h2⟩
    · rename_i q
      obtain ⟨a, b, c1, d⟩ := farO_some h
      refine ⟨a, by omega, c1, fun x h1 h2 h3 => ?_⟩
      by_cases e : x = cur + (f + 1)
      · subst e; exact absurd h3 q
      · exact d x h1 (by omega) h3
theorem farO_none {fr : Nat → Bool} {cur : Nat} : ∀ {w : Nat}, farO fr cur w = none → ∀ x, cur < x → x ≤ cur + w → ¬ fr x = true
  | 0, _ => fun x h1 h2 => by omega
  | f + 1, h => by
    unfold farO at h
    split at h
    · cases h
    · rename_i q
      intro x h1 h2
      by_cases e : x = cur + (f + 1)
      · subst e; exact q
      · exact farO_none h x h1 (by omega)
/-- the greedy walk, so far -/
structure GI (fr : Nat → Bool) (w b : Nat) (L : List Nat) (l : Nat) : Prop where
  cn : Cn fr w b l L.length
  dom : ∀ k a, k ≤ L.length → Cn fr w b a k → a ≤ l
  pw : L.Pairwise (· < ·)
  bd : ∀ x ∈ L, b ≤ x ∧ x ≤ l
  lmem : l ∈ L
  bmem : b ∈ L
  free : ∀ x ∈ L, fr x = true
  nx : ∀ x ∈ L, x = l ∨ ∃ y ∈ L, x < y ∧ y ≤ x + w
theorem GI.start {fr : Nat → Bool} {w b : Nat} (hb : fr b = true) : GI fr w b [b] b := by
  refine ⟨.base, fun k a hk h => ?_, List.pairwise_singleton _ _, fun x hx => ?_, by simp, by simp, fun x hx => ?_, fun x hx => .inl (by simpa using hx)⟩
  · have := h.pos
    have hk : k ≤ 1 := hk
    rcases h.inv with ⟨e, _⟩ | ⟨a', j, e, h1, _⟩
    · omega
    · have := h1.pos; omega
  · have : x = b := by simpa using hx
    omega
  · have : x = b := by simpa using hx
    rw [this]; exact hb
theorem GI.next {fr : Nat → Bool} {w b l c : Nat} {L : List Nat} (g : GI fr w b L l) (h : farO fr l w = some c) : GI fr w b (L ++ [c]) c := by
  obtain ⟨h1, h2, h3, h4⟩ := farO_some h
  refine ⟨?_, fun k a hk hc => ?_, ?_, fun x hx => ?_, by simp, List.mem_append_left _ g.bmem, fun x hx => ?_, fun x hx => ?_⟩
  · rw [List.length_append]
    exact .step g.cn h1 h2 h3
  · rw [List.length_append, List.length_singleton] at hk
    by_cases e : k ≤ L.length
    · have := g.dom k a e hc; omega
    · rcases hc.inv with ⟨e1, e2⟩ | ⟨a', j, e1, k1, k2, k3, k4⟩
      · have := g.cn.le; omega
      · have := g.dom j a' (by omega) k1
        by_cases q : a ≤ l
        · omega
        · exact h4 a (by omega) (by omega) k4
  · refine List.pairwise_append.mpr ⟨g.pw, List.pairwise_singleton _ _, fun x hx y hy => ?_⟩
    have := (g.bd x hx).2
    have : y = c := by simpa using hy
    omega
  · rcases List.mem_append.mp hx with q | q
    · have := g.bd x q; omega
    · have e : x = c := by simpa using q
      have := g.cn.le
      omega
  · rcases List.mem_append.mp hx with q | q
    · exact g.free x q
    · have e : x = c := by simpa using q
      rw [e]; exact h3
  · rcases List.mem_append.mp hx with q | q
    · right
      rcases g.nx x q with e | ⟨y, y1, y2, y3⟩
      · exact ⟨c, by simp, by omega, by omega⟩
      · exact ⟨y, List.mem_append_left _ y1, y2, y3⟩
    · exact .inl (by simpa using q)
theorem GI.stuck {fr : Nat → Bool} {w b l : Nat} {L : List Nat} (g : GI fr w b L l) (h : farO fr l w = none) : ∀ a k, Cn fr w b a k → a ≤ l := by
  intro a k hc
  induction hc with
  | base => exact g.cn.le
  | step _ h1 h2 h3 ih =>
    apply Classical.byContradiction
    intro q
    exact farO_none h _ (by omega) (by omega) h3
/-- a ring of places: round about from b, n places in all -/
structure Lop (fr : Nat → Bool) (w b n : Nat) (L : List Nat) : Prop where
  pw : L.Pairwise (· < ·)
  bd : ∀ x ∈ L, b ≤ x ∧ x < b + n
  bmem : b ∈ L
  free : ∀ x ∈ L, fr x = true
  nx : ∀ x ∈ L, ∃ y, (y ∈ L ∨ y = b + n) ∧ x < y ∧ y ≤ x + w
theorem GI.lop {fr : Nat → Bool} {w b l n : Nat} {L : List Nat} (g : GI fr w b L l) (h1 : l < b + n) (h2 : b + n ≤ l + w) : Lop fr w b n L := by
  refine ⟨g.pw, fun x hx => by have := g.bd x hx; omega, g.bmem, g.free, fun x hx => ?_⟩
  rcases g.nx x hx with e | ⟨y, y1, y2, y3⟩
  · exact ⟨b + n, .inr rfl, by omega, by omega⟩
  · exact ⟨y, .inl y1, y2, y3⟩
theorem GI.least {fr : Nat → Bool} {w b l n : Nat} {L : List Nat} (g : GI fr w b L l) (h1 : l < b + n) (h2 : b + n ≤ l + w) (hf : fr (b + n) = true) : Cn fr w b (b + n) (L.length + 1) ∧ ∀ k, Cn fr w b (b + n) (k + 1) → L.length ≤ k := by
  refine ⟨.step g.cn h1 h2 hf, fun k hc => ?_⟩
  apply Classical.byContradiction
  intro q
  have := g.dom (k + 1) (b + n) (by omega) hc
  omega
theorem Cn.list {fr : Nat → Bool} {w b a k : Nat} (hb : fr b = true) (h : Cn fr w b a k) : ∃ L : List Nat, L.length + 1 = k ∧ (L ++ [a]).Pairwise (· < ·) ∧ (∀ x ∈ L ++ [a], b ≤ x ∧ x ≤ a ∧ fr x = true) ∧ b ∈ L ++ [a] ∧ ∀ x ∈ L, ∃ y ∈ L ++ [a], x < y ∧ y ≤ x + w := by
  induction h with
  | base =>
    refine ⟨[], rfl, List.pairwise_singleton _ _, fun x hx => ?_, by simp, fun x hx => by cases hx⟩
    have : x = b := by simpa using hx
    subst this
    exact ⟨Nat.le_refl _, Nat.le_refl _, hb⟩
  | @step a c k h0 h1 h2 h3 ih =>
    obtain ⟨L, e1, e2, e3, e4, e5⟩ := ih
    refine ⟨L ++ [a], by simp; omega, ?_, fun x hx => ?_, List.mem_append_left _ e4, fun x hx => ?_⟩
    · refine List.pairwise_append.mpr ⟨e2, List.pairwise_singleton _ _, fun x hx y hy => ?_⟩
      have := (e3 x hx).2.1
      have : y = c := by simpa using hy
      omega
    · rcases List.mem_append.mp hx with q | q
      · have := e3 x q; exact ⟨this.1, by omega, this.2.2⟩
      · have e : x = c := by simpa using q
        subst e
        have := h0.le
        exact ⟨by omega, Nat.le_refl _, h3⟩
    · rcases List.mem_append.mp hx with q | q
      · obtain ⟨y, y1, y2⟩ := e5 x q
        exact ⟨y, List.mem_append_left _ y1, y2⟩
      · have e : x = a := by simpa using q
        subst e
        exact ⟨c, by simp, h1, h2⟩
theorem Cn.lop {fr : Nat → Bool} {w b n k : Nat} (hb : fr b = true) (hn : 0 < n) (h : Cn fr w b (b + n) (k + 1)) : ∃ L : List Nat, L.length = k ∧ Lop fr w b n L := by
  obtain ⟨L, e1, e2, e3, e4, e5⟩ := h.list hb
  obtain ⟨p1, _, p3⟩ := List.pairwise_append.mp e2
  refine ⟨L, by omega, p1, fun x hx => ⟨(e3 x (List.mem_append_left _ hx)).1, p3 x hx _ (by simp)⟩, ?_, fun x hx => (e3 x (List.mem_append_left _ hx)).2.2, fun x hx => ?_⟩
  · rcases List.mem_append.mp e4 with q | q
    · exact q
    · have : b = b + n := by simpa using q
      omega
  · obtain ⟨y, y1, y2⟩ := e5 x hx
    rcases List.mem_append.mp y1 with q | q
    · exact ⟨y, .inl q, y2⟩
    · exact ⟨y, .inr (by simpa using q), y2⟩
def Cov (r : List (List Int)) (i : Int) (w : Nat) : Prop := ∀ p ∈ placesN r i, ∃ g, 1 ≤ g ∧ g ≤ w ∧ hasAt r i (p + g) = true
theorem gaps_cov {r : List (List Int)} {i : Int} {w : Nat} (hr : 0 < r.length) : (∀ g ∈ gapsOf r i, g ≤ (w : Int)) ↔ Cov r i w := by
  rw [gaps_are hr]
  constructor
  · intro h p hp
    obtain ⟨h1, h2⟩ := mem_places.mp hp
    have q := gapN_is h1 h2
    have := h (gapN r i p : Nat) (List.mem_map.mpr ⟨gapN r i p, List.mem_map.mpr ⟨p, hp, rfl⟩, rfl⟩)
    exact ⟨gapN r i p, q.lo, by omega, q.has⟩
  · intro h g hg
    obtain ⟨m, hm, rfl⟩ := List.mem_map.mp hg
    obtain ⟨p, hp, rfl⟩ := List.mem_map.mp hm
    obtain ⟨h1, h2⟩ := mem_places.mp hp
    have q := gapN_is h1 h2
    obtain ⟨g, g1, g2, g3⟩ := h p hp
    have : gapN r i p ≤ g := by
      apply Classical.byContradiction
      intro z
      have := q.no g g1 (by omega)
      rw [g3] at this; cases this
    omega
theorem lop_cov {fr : Nat → Bool} {w b n : Nat} {L : List Nat} {r : List (List Int)} {i : Int} (l : Lop fr w b n L) (hb : b < n) (hn : r.length = n) (hh : ∀ p, hasAt r i p = true ↔ p % n ∈ L.map (· % n)) : Cov r i w ∧ (placesN r i).length = L.length := by
  have hpos : 0 < n := by omega
  constructor
  · intro p hp
    obtain ⟨h1, h2⟩ := mem_places.mp hp
    obtain ⟨x, hx, ex⟩ := List.mem_map.mp ((hh p).mp h2)
    obtain ⟨y, hy, y1, y2⟩ := l.nx x hx
    have hx2 := l.bd x hx
    refine ⟨y - x, by omega, by omega, (hh _).mpr ?_⟩
    have e : (p + (y - x)) % n = y % n := by
      have : p % n = x % n := ex.symm
      have e2 : (p + (y - x)) % n = (x + (y - x)) % n := by
        rw [Nat.add_mod, this, ← Nat.add_mod]
      rw [e2]
      congr 1
      omega
    rw [e]
    rcases hy with hy | hy
    · exact List.mem_map.mpr ⟨y, hy, rfl⟩
    · subst hy
      exact List.mem_map.mpr ⟨b, l.bmem, by rw [Nat.add_mod_right]⟩
  · have inj : ∀ x ∈ L, ∀ y ∈ L, x % n = y % n → x = y := fun x hx y hy e => by
      have h1 := l.bd x hx
      have h2 := l.bd y hy
      have a : ∀ z, b ≤ z → z < b + n → (z < n ∧ z % n = z) ∨ (n ≤ z ∧ z % n = z - n) := fun z z1 z2 => by
        by_cases c : z < n
        · exact .inl ⟨c, Nat.mod_eq_of_lt c⟩
        · refine .inr ⟨by omega, ?_⟩
          rw [Nat.mod_eq_sub_mod (by omega), Nat.mod_eq_of_lt (by omega)]
      rcases a x h1.1 h1.2 with ⟨a1, a2⟩ | ⟨a1, a2⟩ <;> rcases a y h2.1 h2.2 with ⟨b1, b2⟩ | ⟨b1, b2⟩ <;> omega
    have nd2 : (L.map (· % n)).Nodup := by
      have : ∀ M : List Nat, (∀ x ∈ M, x ∈ L) → M.Pairwise (· < ·) → (M.map (· % n)).Nodup := fun M => by
        induction M with
        | nil => intro _ _; exact List.nodup_nil
        | cons x M ih =>
          intro hs hp
          obtain ⟨p1, p2⟩ := List.pairwise_cons.mp hp
          rw [List.map_cons]
          refine List.nodup_cons.mpr ⟨fun z => ?_, ih (fun y hy => hs y (List.mem_cons_of_mem _ hy)) p2⟩
          obtain ⟨y, hy, e⟩ := List.mem_map.mp z
          have := inj y (hs y (List.mem_cons_of_mem _ hy)) x (hs x List.mem_cons_self) e
          have := p1 y hy
          omega
      exact this L (fun _ h => h) l.pw
    have nd1 : (placesN r i).Nodup := (places_sorted r i).imp fun h => by omega
    have := ((List.perm_ext_iff_of_nodup nd1 nd2).mpr fun p => by
      rw [mem_places, hn, hh p]
      constructor
      · rintro ⟨h1, h2⟩
        rw [Nat.mod_eq_of_lt h1] at h2; exact h2
      · intro h
        obtain ⟨x, hx, rfl⟩ := List.mem_map.mp h
        have hlt := Nat.mod_lt x hpos
        exact ⟨hlt, by rw [Nat.mod_eq_of_lt hlt]; exact h⟩).length_eq
    rw [this, List.length_map]
/-- from a ring that is covered, a chain from its first place -/
theorem cov_chain {fr : Nat → Bool} {w n p0 : Nat} {rest : List Nat} {r : List (List Int)} {i : Int} (hn : r.length = n) (he : placesN r i = p0 :: rest) (hc : Cov r i w) (hf : ∀ p ∈ placesN r i, fr p = true) (hper : ∀ p, fr (p + n) = fr p) :
    p0 < n ∧ p0 < w ∧ fr p0 = true ∧ Cn fr w p0 (p0 + n) ((p0 :: rest).length + 1) := by
  have srt := places_sorted r i
  rw [he] at srt
  have mem : ∀ p, p ∈ p0 :: rest ↔ p < n ∧ hasAt r i p = true := fun p => by rw [← he, mem_places, hn]
  have h0 := (mem p0).mp List.mem_cons_self
  have f0 : fr p0 = true := hf p0 (by rw [he]; exact List.mem_cons_self)
  have low : ∀ p ∈ p0 :: rest, p0 ≤ p := fun p hp => by
    rcases List.mem_cons.mp hp with rfl | q
    · exact Nat.le_refl _
    · have := (List.pairwise_cons.mp srt).1 p q; omega
  have hasM : ∀ p, hasAt r i (p % n) = hasAt r i p := fun p => by
    unfold hasAt; rw [hn, Nat.mod_mod]
  -- where the next one lies
  have nxt : ∀ p ∈ p0 :: rest, (∃ y ∈ p0 :: rest, p < y ∧ y ≤ p + w) ∨ n + p0 ≤ p + w := fun p hp => by
    obtain ⟨g, g1, g2, g3⟩ := hc p (by rw [he]; exact hp)
    have hpn := ((mem p).mp hp).1
    by_cases c : p + g < n
    · exact .inl ⟨p + g, (mem _).mpr ⟨c, g3⟩, by omega, by omega⟩
    · right
      have hm : (p + g) % n ∈ p0 :: rest := (mem _).mpr ⟨Nat.mod_lt _ (by omega), by rw [hasM]; exact g3⟩
      have h1 := low _ hm
      have h2 : n + (p + g) % n ≤ p + g := by
        have := Nat.mod_add_div (p + g) n
        have : 1 ≤ (p + g) / n := (Nat.le_div_iff_mul_le (by omega)).mpr (by omega)
        have : n * 1 ≤ n * ((p + g) / n) := Nat.mul_le_mul_left _ this
        omega
      omega
  have walk : ∀ (M pre : List Nat) (a k : Nat), p0 :: rest = pre ++ a :: M → Cn fr w p0 a k → ∃ l, l ∈ p0 :: rest ∧ (∀ y ∈ p0 :: rest, y ≤ l) ∧ Cn fr w p0 l (k + M.length) := fun M => by
    induction M with
    | nil =>
      intro pre a k e h
      refine ⟨a, by rw [e]; simp, fun y hy => ?_, h⟩
      rw [e] at hy srt
      rcases List.mem_append.mp hy with q | q
      · have := (List.pairwise_append.mp srt).2.2 y q a (by simp); omega
      · have : y = a := by simpa using q
        omega
    | cons y M ih =>
      intro pre a k e h
      have ha : a ∈ p0 :: rest := by rw [e]; simp
      have hy : y ∈ p0 :: rest := by rw [e]; simp
      have srt2 := srt
      rw [e] at srt2
      obtain ⟨s1, s2, s3⟩ := List.pairwise_append.mp srt2
      obtain ⟨t1, t2⟩ := List.pairwise_cons.mp s2
      obtain ⟨u1, u2⟩ := List.pairwise_cons.mp t2
      have hay := t1 y List.mem_cons_self
      have hyw : y ≤ a + w := by
        rcases nxt a ha with ⟨z, z1, z2, z3⟩ | q
        · rw [e] at z1
          rcases List.mem_append.mp z1 with z1 | z1
          · have := s3 z z1 a List.mem_cons_self; omega
          · rcases List.mem_cons.mp z1 with z1 | z1
            · omega
            · rcases List.mem_cons.mp z1 with z1 | z1
              · omega
              · have := u1 z z1; omega
        · have := ((mem y).mp hy).1; omega
      obtain ⟨l, l1, l2, l3⟩ := ih (pre ++ [a]) y (k + 1) (by rw [e]; simp) (.step h hay hyw (hf y (by rw [he]; exact hy)))
      exact ⟨l, l1, l2, by rw [List.length_cons, show k + (M.length + 1) = k + 1 + M.length by omega]; exact l3⟩
  obtain ⟨l, l1, l2, l3⟩ := walk rest [] p0 1 rfl .base
  have hln := ((mem l).mp l1).1
  have hlast : n + p0 ≤ l + w := by
    rcases nxt l l1 with ⟨y, y1, y2, _⟩ | q
    · have := l2 y y1; omega
    · exact q
  refine ⟨h0.1, by omega, f0, ?_⟩
  have : Cn fr w p0 (p0 + n) (1 + rest.length + 1) := .step l3 (by omega) (by omega) (by rw [hper]; exact f0)
  rw [List.length_cons, show rest.length + 1 + 1 = 1 + rest.length + 1 by omega]
  exact this

end WD
namespace WD
open PySem PySem.Spec PyProof.Rows L2
theorem size_dn {n : Nat} : Builtin.Range.rangeSize (n : Int) 0 (-1) = n := by
  unfold Builtin.Range.rangeSize
  rw [if_neg (by decide)]
  split
  · rw [show -(-1 : Int) = 1 by decide, Int.ediv_one]; omega
  · omega
theorem rgC_dn {n : Nat} (hn : n ≤ 1000000) : RgC (n : Int) 0 (-1) (Builtin.Range.rangeSize (n : Int) 0 (-1)).toNat ∧ (Builtin.Range.rangeSize (n : Int) 0 (-1)).toNat ≤ sizeLine := by
  rw [size_dn]
  refine ⟨⟨by decide, by decide, ?_, by rw [size_dn]; omega⟩, by rw [size_val]; omega⟩
  unfold Builtin.Range.small
  rw [size_dn]
  simp only [Builtin.Range.rangeFitsLong, Bool.and_eq_true, Bool.or_eq_true, decide_eq_true_eq, beq_iff_eq, show ¬ ((-1 : Int) > 0) by decide, if_false]
  omega
def dnL : Nat → List Int
  | 0 => []
  | n + 1 => ((n + 1 : Nat) : Int) :: dnL n
theorem dnL_eq : ∀ n : Nat, dnL n = (List.range n).map fun (k : Nat) => (n : Int) - k
  | 0 => rfl
  | n + 1 => by
    rw [List.range_succ_eq_map, List.map_cons, List.map_map, dnL, dnL_eq n]
    have e1 : ((n + 1 : Nat) : Int) - ((0 : Nat) : Int) = ((n + 1 : Nat) : Int) := by omega
    rw [e1]
    congr 1
    refine List.map_congr_left fun k _ => ?_
    show (n : Int) - (k : Nat) = ((n + 1 : Nat) : Int) - ((Nat.succ k : Nat) : Int)
    omega
theorem for_dn {f : FA} {g : Tg} {b : FS} {s : Ss} {h h' : Hs} {n : Nat} (e : f s h = .ok [.int (n : Int), .int 0, .int (-1)] h') (hn : n ≤ 1000000) : sFor (iRngC f) g b s h = loopS g b ((dnL n).map D.int) s h' := by
  have ei : iRngC f s h = .ok (.seq (rgC (n : Int) (-1) (Builtin.Range.rangeSize (n : Int) 0 (-1)).toNat)) h' := by
    unfold iRngC
    rw [e, R.bind_ok]
    exact if_pos (rgC_dn hn)
  rw [sFor_seq ei, size_dn, Int.toNat_natCast, dnL_eq]
  unfold rgC
  rw [List.map_map]
  congr 1
  refine List.map_congr_left fun k _ => ?_
  show D.int ((n : Int) + (k : Nat) * (-1)) = D.int ((n : Int) - (k : Nat))
  congr 1
  omega
theorem isN_non {b : Bool} {h : Hs} : isNonD b .non .non h = .ok (.bl !b) h := by cases b <;> rfl
theorem isN_int {b : Bool} {i : Int} {h : Hs} : isNonD b (.int i) .non h = .ok (.bl b) h := by cases b <;> rfl
theorem isN_lst {b : Bool} {xs : List D} {h : Hs} : isNonD b (.lst xs) .non h = .ok (.bl b) h := by cases b <;> rfl
def frB (r : List (List Int)) (hands : Int) (p : Nat) : Bool := decide (((r.getD (p % r.length) []).length : Int) < hands)
theorem frB_per {r : List (List Int)} {hands : Int} (p : Nat) : frB r hands (p + r.length) = frB r hands p := by
  unfold frB; rw [Nat.add_mod_right]
theorem dayAt_nat {r : List (List Int)} {a : Int} {p : Nat} (e : a = (p : Int)) : dayAt r a = r.getD (p % r.length) [] := by
  subst e
  unfold dayAt
  rw [show ((p : Int) % (r.length : Int)).toNat = p % r.length by omega]
def natO : Option Nat → D
  | none => .non
  | some c => .int (c : Nat)
theorem far_loop {r : List (List Int)} {hands : Int} {cur : Nat} {w : D} {h : Hs} (hr : 0 < r.length) : ∀ n : Nat, loopS (gVar 4) k_farthest_0 ((dnL n).map D.int) [some (dT r), some (.int hands), some (.int (cur : Int)), some w, none] h = match farO (frB r hands) cur n with
    | none => .nx [some (dT r), some (.int hands), some (.int (cur : Int)), some w, none] h
    | some c => .rt (.int (c : Nat)) h
  | 0 => x_loop_nil
  | n + 1 => by
    have ih := far_loop (hands := hands) (cur := cur) (w := w) (h := h) hr n
    have ix := ix_at (r := r) (a := (cur : Int) + ((n + 1 : Nat) : Int)) (h := h) hr
    have ed := dayAt_nat (r := r) (a := (cur : Int) + ((n + 1 : Nat) : Int)) (p := cur + (n + 1)) (by omega)
    rw [ed] at ix
    have ln : lenD [dT r] h = .ok (.int r.length) h := len_dT
    have md : modD (.int ((cur : Int) + ((n + 1 : Nat) : Int))) (.int r.length) h = .ok (.int (((cur : Int) + ((n + 1 : Nat) : Int)) % (r.length : Int))) h := by rw [x_mod, if_pos (by omega)]
    have l2 : lenD [iT (r.getD ((cur + (n + 1)) % r.length) [])] h = .ok (.int (r.getD ((cur + (n + 1)) % r.length) []).length) h := len_iT
    have ef : frB r hands (cur + (n + 1)) = decide (((r.getD ((cur + (n + 1)) % r.length) []).length : Int) < hands) := rfl
    rw [dnL, List.map_cons]
    unfold farO
    rw [ef]
    by_cases c : ((r.getD ((cur + (n + 1)) % r.length) []).length : Int) < hands
    · rw [decide_eq_true c, if_pos rfl, x_loop_cons]
      have e3 : ((cur + (n + 1) : Nat) : Int) = (cur : Int) + ((n + 1 : Nat) : Int) := by omega
      dsimp only
      rw [e3]
      generalize ((n + 1 : Nat) : Int) = N at *
      generalize (cur : Int) = C at *
      generalize ((r.getD ((cur + (n + 1)) % r.length) []).length : Int) = LL at *
      generalize iT (r.getD ((cur + (n + 1)) % r.length) []) = X at *
      generalize (r.length : Int) = RL at *
      generalize dT r = T at *
      simp [-x_mod, ln, md, ix, l2, c]
    · rw [decide_eq_false c]
      refine (loop_nx (s1 := [some (dT r), some (.int hands), some (.int (cur : Int)), some w, some (.int ((n + 1 : Nat) : Int))]) rfl ?_).trans ih
      clear ih ef ed
      generalize ((n + 1 : Nat) : Int) = N at *
      generalize (cur : Int) = C at *
      generalize ((r.getD ((cur + (n + 1)) % r.length) []).length : Int) = LL at *
      generalize iT (r.getD ((cur + (n + 1)) % r.length) []) = X at *
      generalize (r.length : Int) = RL at *
      generalize dT r = T at *
      simp [-x_mod, ln, md, ix, l2, c]
theorem F_farthest_eq {r : List (List Int)} {hands : Int} {cur w : Nat} {h : Hs} (hr : 0 < r.length) (hw : w ≤ 1000) : F_farthest [dT r, .int hands, .int (cur : Int), .int (w : Int)] h = .ok (natO (farO (frB r hands) cur w)) h := by
  have lp := far_loop (hands := hands) (cur := cur) (w := .int (w : Int)) (h := h) hr w
  have f0 : sFor (iRngC (aCons (eVar 3) (aCons (eC (.int 0)) (aCons (negD (eC (.int 1))) aNil)))) (gVar 4) k_farthest_0 [some (dT r), some (.int hands), some (.int (cur : Int)), some (.int (w : Int)), none] h = _ := (for_dn (n := w) (h' := h) rfl (by omega)).trans lp
  have hx : ∀ d : D, d.und h.length = true → exitT h d h = .ok d h := fun d hd => exitT_same hd
  cases q : farO (frB r hands) cur w with
  | none =>
    rw [q] at f0
    have hx := hx .non rfl
    generalize dT r = T at *
    generalize (cur : Int) = C at *
    generalize (w : Int) = W at *
    simp [F_farthest, b_farthest, f0, natO, hx]
  | some c =>
    rw [q] at f0
    have hx := hx (.int (c : Nat)) rfl
    generalize dT r = T at *
    generalize (cur : Int) = C at *
    generalize (w : Int) = W at *
    simp [F_farthest, b_farthest, f0, natO, hx]
def grd (fr : Nat → Bool) (w e : Nat) : Nat → List Nat → Nat → Option (List Nat)
  | 0, _, _ => none
  | n + 1, L, l => if l + w < e then (match farO fr l w with
    | none => none
    | some c => grd fr w e n (L ++ [c]) c) else some L
theorem grd_spec {fr : Nat → Bool} {w b n : Nat} (hf : fr (b + n) = true) (hn : 0 < n) : ∀ (m : Nat) (L : List Nat) (l : Nat), GI fr w b L l → l < b + n → b + n < l + m → (match grd fr w (b + n) m L l with
    | none => ∀ k, ¬ Cn fr w b (b + n) (k + 1)
    | some L' => ∃ l', GI fr w b L' l' ∧ l' < b + n ∧ b + n ≤ l' + w)
  | 0, L, l, g, h1, h2 => by omega
  | m + 1, L, l, g, h1, h2 => by
    unfold grd
    by_cases c : l + w < b + n
    · rw [if_pos c]
      cases q : farO fr l w with
      | none =>
        intro k hk
        have := g.stuck q _ _ hk
        omega
      | some x =>
        have h3 := farO_some q
        exact grd_spec hf hn m (L ++ [x]) x (g.next q) (by omega) (by omega)
    · rw [if_neg c]
      exact ⟨l, g, h1, by omega⟩
def natL (L : List Nat) : List D := L.map fun (p : Nat) => D.int (p : Int)
def natsO : Option (List Nat) → D
  | none => .non
  | some L => .lst (natL L)
theorem ix_lastF {h : Hs} {d x : D} {xs : List D} (hr : rowOf h d = some (xs ++ [x])) : ixD d (.int (-1)) h = .ok x h := by
  refine x_ix_row hr ?_
  unfold atI ixN
  rw [if_neg (by omega), if_pos (by simp; omega)]
  have e : (-1 + ((xs.length : Int) + 1)).toNat = xs.length := by omega
  simp [e]
theorem places_loop {r : List (List Int)} {hands : Int} {b w : Nat} {h : Hs} (hr : 0 < r.length) (hw : w ≤ 1000) : ∀ (m : Nat) (L : List Nat) (l : Nat), L.getLast? = some l → l < b + r.length → b + r.length < l + m → L.length + m ≤ 100000 →
    ∃ L2 : List Nat, sWhile (tV (eBin gtD (eBin subD (eBin addD (eVar 2) (eB lenD (aCons (eVar 0) aNil))) (eBin ixD (eVar 4) (negD (eC (.int 1))))) (eVar 3))) k_places_from_1 [some (dT r), some (.int hands), some (.int (b : Int)), some (.int (w : Int)), some (.loc h.length), none] (h ++ [.lst (natL L)]) = match grd (frB r hands) w (b + r.length) m L l with
      | none => .rt .non (h ++ [.lst (natL L2)])
      | some L' => .nx [some (dT r), some (.int hands), some (.int (b : Int)), some (.int (w : Int)), some (.loc h.length), none] (h ++ [.lst (natL L')])
  | 0, L, l, _, h1, h2, _ => by omega
  | m + 1, L, l, hl, h1, h2, hz => by
    have hne : L ≠ [] := by intro e; rw [e] at hl; cases hl
    have hlen : 0 < L.length := List.length_pos_iff.mpr hne
    have ln : lenD [dT r] (h ++ [.lst (natL L)]) = .ok (.int r.length) (h ++ [.lst (natL L)]) := len_dT
    have hat : locAt (h ++ [.lst (natL L)]) h.length = some (natL L) := locAt_end
    have ix : ixD (.loc h.length) (.int (-1)) (h ++ [.lst (natL L)]) = .ok (.int (l : Int)) (h ++ [.lst (natL L)]) := by
      obtain ⟨M, rfl⟩ := List.getLast?_eq_some_iff.mp hl
      refine ix_lastF (xs := natL M) ?_
      show locAt _ _ = _
      rw [hat]
      unfold natL
      rw [List.map_append]; rfl
    unfold grd
    by_cases c : l + w < b + r.length
    · rw [if_pos c]
      have ff := F_farthest_eq (r := r) (hands := hands) (cur := l) (w := w) (h := h ++ [.lst (natL L)]) hr hw
      have cc : (w : Int) < (b : Int) + (r.length : Int) - (l : Int) := by omega
      have ht : tV (eBin gtD (eBin subD (eBin addD (eVar 2) (eB lenD (aCons (eVar 0) aNil))) (eBin ixD (eVar 4) (negD (eC (.int 1))))) (eVar 3)) [some (dT r), some (.int hands), some (.int (b : Int)), some (.int (w : Int)), some (.loc h.length), none] (h ++ [.lst (natL L)]) = .ok true (h ++ [.lst (natL L)]) := by
        clear hat ff
        generalize h ++ [O.lst (natL L)] = H at *
        generalize dT r = T at *
        generalize (r.length : Int) = RL at *
        generalize (l : Int) = LI at *
        generalize (b : Int) = B at *
        generalize (w : Int) = W at *
        simp [ln, ix, cc]
      cases q : farO (frB r hands) l w with
      | none =>
        rw [q] at ff
        refine ⟨L, sWhile_rt ht ?_⟩
        clear hat ht
        generalize h ++ [O.lst (natL L)] = H at *
        generalize dT r = T at *
        generalize (l : Int) = LI at *
        generalize (b : Int) = B at *
        generalize (w : Int) = W at *
        simp [ix, ff, natO, isN_non]
      | some x =>
        rw [q] at ff
        have h3 := farO_some q
        obtain ⟨L2, ih⟩ := places_loop (hands := hands) (b := b) (h := h) hr hw m (L ++ [x]) x (by simp) (by omega) (by omega) (by simp; omega)
        refine ⟨L2, ?_⟩
        refine Eq.trans (sWhile_true (s' := [some (dT r), some (.int hands), some (.int (b : Int)), some (.int (w : Int)), some (.loc h.length), none]) (h' := h ++ [.lst (natL (L ++ [x]))]) ht ?_) ih
        have ha : appendD (.loc h.length) [.int (x : Int)] (h ++ [.lst (natL L)]) = .ok .non (h ++ [.lst (natL (L ++ [x]))]) := by
          have := app_last (g := h) (xs := natL L) (d := .int (x : Int)) (by unfold natL; rw [List.length_map]; omega)
          rw [this]
          unfold natL
          rw [List.map_append]; rfl
        clear ht ih
        generalize h ++ [O.lst (natL (L ++ [x]))] = H2 at *
        generalize h ++ [O.lst (natL L)] = H at *
        generalize dT r = T at *
        generalize (l : Int) = LI at *
        generalize (b : Int) = B at *
        generalize (w : Int) = W at *
        simp [ix, ff, natO, ha, hat, isN_int]
    · rw [if_neg c]
      have cc : ¬ (w : Int) < (b : Int) + (r.length : Int) - (l : Int) := by omega
      refine ⟨L, sWhile_false ?_⟩
      clear hat
      generalize h ++ [O.lst (natL L)] = H at *
      generalize dT r = T at *
      generalize (r.length : Int) = RL at *
      generalize (l : Int) = LI at *
      generalize (b : Int) = B at *
      generalize (w : Int) = W at *
      simp [ln, ix, cc]
theorem exit_locF {h : Hs} {ys : List D} (hu : undL h.length ys = true) : exitT h (.loc h.length) (h ++ [.lst ys]) = .ok (.lst ys) h := by
  have e := exitT_app (h := h) (t := [.lst ys]) (d := .non) rfl
  unfold exitT at e ⊢
  split at e
  · rename_i tr
    rw [if_pos tr]
    have e : R.ok D.non ((h ++ [O.lst ys]).take h.length) = R.ok D.non h := e
    injection e with _ e2
    rw [e2]
    unfold frz1
    rw [if_neg (by simp [D.und])]
    have hl : locAt (h ++ [.lst ys]) h.length = some ys := locAt_end
    simp only [hl, hu, if_true]
  · cases e
theorem F_places_eq {r : List (List Int)} {hands : Int} {b w : Nat} {h : Hs} (hr : 0 < r.length) (hz : r.length ≤ 4000) (hw : w ≤ 1000) : F_places_from [dT r, .int hands, .int (b : Int), .int (w : Int)] h = .ok (natsO (grd (frB r hands) w (b + r.length) (r.length + 1) [b] b)) h := by
  obtain ⟨L2, lp⟩ := places_loop (hands := hands) (b := b) (w := w) (h := h) hr hw (r.length + 1) [b] b rfl (by omega) (by omega) (by simp; omega)
  have e0 : natL [b] = [.int (b : Int)] := rfl
  rw [e0] at lp
  cases q : grd (frB r hands) w (b + r.length) (r.length + 1) [b] b with
  | none =>
    rw [q] at lp
    dsimp only at lp
    have hx : exitT h .non (h ++ [.lst (natL L2)]) = .ok .non h := exitT_app rfl
    generalize h ++ [O.lst (natL L2)] = H2 at *
    generalize dT r = T at *
    generalize (b : Int) = B at *
    generalize (w : Int) = W at *
    simp only [F_places_from, b_places_from, x_run, x_seq]
    simp [lp, natsO, hx]
  | some L =>
    rw [q] at lp
    dsimp only at lp
    have hu : undL h.length (natL L) = true := undL_map fun x _ => rfl
    have hx : exitT h (.loc h.length) (h ++ [.lst (natL L)]) = .ok (.lst (natL L)) h := exit_locF hu
    generalize h ++ [O.lst (natL L)] = H2 at *
    generalize dT r = T at *
    generalize (b : Int) = B at *
    generalize (w : Int) = W at *
    simp only [F_places_from, b_places_from, x_run, x_seq]
    simp [lp, natsO, hx]
def bst (best : Option (List Nat)) (o : Option (List Nat)) : Option (List Nat) := match o with
  | none => best
  | some L => match best with
    | none => some L
    | some M => if L.length < M.length then some L else some M
def bestO (r : List (List Int)) (hands : Int) (w : Nat) (bs : List Nat) (best : Option (List Nat)) : Option (List Nat) := bs.foldl (fun best b => if frB r hands b = true then bst best (grd (frB r hands) w (b + r.length) (r.length + 1) [b] b) else best) best
abbrev fp60 (r : List (List Int)) (hands : Int) (w : Nat) (a b c : Option D) : Ss := [some (dT r), some (.int hands), some (.int (w : Int)), a, b, c]
theorem fewest_loop60 {r : List (List Int)} {hands : Int} {w : Nat} {h : Hs} (hr : 0 < r.length) (hz : r.length ≤ 4000) (hw : w ≤ 1000) : ∀ (bs : List Nat) (best : Option (List Nat)), (∀ b ∈ bs, b < r.length) → loopS (gVar 4) k_fewest_places_1 (bs.map fun (k : Nat) => D.int k) (fp60 r hands w (some (natsO best)) none none) h = .nx (fp60 r hands w (some (natsO (bestO r hands w bs best))) none none) h
  | [], best, _ => x_loop_nil
  | b :: bs, best, hb => by
    have ih := fun best' => fewest_loop60 (hands := hands) (w := w) (h := h) hr hz hw bs best' fun c hc => hb c (List.mem_cons_of_mem _ hc)
    have hbl := hb b List.mem_cons_self
    have ix : ixD (dT r) (.int (b : Int)) h = .ok (iT (r.getD b [])) h := by
      have := ix_dT (r := r) (i := (b : Int)) (h := h) (by omega) (by omega)
      simpa using this
    have l2 : lenD [iT (r.getD b [])] h = .ok (.int (r.getD b []).length) h := len_iT
    have ef : frB r hands b = decide (((r.getD b []).length : Int) < hands) := by unfold frB; rw [Nat.mod_eq_of_lt hbl]
    have pf := F_places_eq (r := r) (hands := hands) (b := b) (w := w) (h := h) hr hz hw
    rw [List.map_cons]
    have key : k_fewest_places_1 (fp60 r hands w (some (natsO best)) (some (.int (b : Int))) none) h = .nx (fp60 r hands w (some (natsO (if frB r hands b = true then bst best (grd (frB r hands) w (b + r.length) (r.length + 1) [b] b) else best))) none none) h := by
      rw [ef]
      by_cases c : ((r.getD b []).length : Int) < hands
      · rw [decide_eq_true c, if_pos rfl]
        cases q : grd (frB r hands) w (b + r.length) (r.length + 1) [b] b with
        | none =>
          rw [q] at pf
          have pf : F_places_from [dT r, .int hands, .int (b : Int), .int (w : Int)] h = .ok .non h := pf
          rw [show bst best none = best from rfl]
          unfold fp60
          generalize ((r.getD b []).length : Int) = LL at *
          generalize iT (r.getD b []) = X at *
          generalize dT r = T at *
          generalize natsO best = NB at *
          simp [ix, l2, c, pf, isN_non]
        | some L =>
          rw [q] at pf
          have lL : lenD [.lst (natL L)] h = .ok (.int L.length) h := by rw [x_len (d := .lst (natL L)) rfl]; unfold natL; rw [List.length_map]
          cases best with
          | none =>
            unfold fp60
            generalize ((r.getD b []).length : Int) = LL at *
            generalize iT (r.getD b []) = X at *
            generalize dT r = T at *
            simp only [natsO] at *
            simp [ix, l2, c, pf, natsO, bst, isN_non, isN_lst]
          | some M =>
            have lM : lenD [.lst (natL M)] h = .ok (.int M.length) h := by rw [x_len (d := .lst (natL M)) rfl]; unfold natL; rw [List.length_map]
            have pick : natsO (bst (some M) (some L)) = if ((L.length : Nat) : Int) < ((M.length : Nat) : Int) then .lst (natL L) else .lst (natL M) := by
              unfold bst
              by_cases c2 : L.length < M.length
              · rw [if_pos (by omega)]; simp [c2, natsO]
              · rw [if_neg (by omega)]; simp [c2, natsO]
            rw [pick]
            unfold fp60
            simp only [natsO] at *
            generalize ((r.getD b []).length : Int) = LL at *
            generalize iT (r.getD b []) = X at *
            generalize dT r = T at *
            have i1 : ∀ b : Bool, isNonD b (.lst (natL L)) .non h = .ok (.bl b) h := fun b => isN_lst
            have i2 : ∀ b : Bool, isNonD b (.lst (natL M)) .non h = .ok (.bl b) h := fun b => isN_lst
            generalize D.lst (natL L) = DL at *
            generalize D.lst (natL M) = DM at *
            generalize ((L.length : Nat) : Int) = NL at *
            generalize ((M.length : Nat) : Int) = NM at *
            by_cases c2 : NL < NM
            · simp [ix, l2, c, pf, i1, i2, lL, lM, c2]
            · simp [ix, l2, c, pf, i1, i2, lL, lM, c2]
      · rw [decide_eq_false c, if_neg (by decide)]
        unfold fp60
        generalize ((r.getD b []).length : Int) = LL at *
        generalize iT (r.getD b []) = X at *
        generalize dT r = T at *
        generalize natsO best = NB at *
        simp [ix, l2, c]
    exact (loop_nx (s1 := fp60 r hands w (some (natsO best)) (some (.int (b : Int))) none) rfl key).trans (ih _)
theorem F_fewest_eq {r : List (List Int)} {hands : Int} {w : Nat} {h : Hs} (hr : 0 < r.length) (hz : r.length ≤ 4000) (hw : w ≤ 1000) : F_fewest_places [dT r, .int hands, .int (w : Int)] h = .ok (natsO (bestO r hands w (List.range (min w r.length)) none)) h := by
  have lp := fewest_loop60 (hands := hands) (w := w) (h := h) hr hz hw (List.range (min w r.length)) none fun b hb => by
    have := List.mem_range.mp hb
    omega
  have ln : lenD [dT r] h = .ok (.int r.length) h := len_dT
  have f1 : sFor (iRng1 (aCons (eB minD (aCons (eVar 2) (aCons (eB lenD (aCons (eVar 0) aNil)) aNil))) aNil)) (gVar 4) k_fewest_places_1 (fp60 r hands w (some .non) none none) h = .nx (fp60 r hands w (some (natsO (bestO r hands w (List.range (min w r.length)) none))) none none) h := by
    refine (for_rngN (h1 := h) (n := min w r.length) ?_ (by omega)).trans lp
    have em : (if (r.length : Int) < (w : Int) then (r.length : Int) else (w : Int)) = ((min w r.length : Nat) : Int) := by
      by_cases c : (r.length : Int) < (w : Int)
      · rw [if_pos c]; omega
      · rw [if_neg c]; omega
    unfold fp60
    rw [← em]
    generalize (w : Int) = W at *
    generalize (r.length : Int) = RL at *
    generalize dT r = T at *
    simp [ln]
  have hu : (natsO (bestO r hands w (List.range (min w r.length)) none)).und h.length = true := by
    cases bestO r hands w (List.range (min w r.length)) none with
    | none => rfl
    | some L => exact undL_map fun x _ => rfl
  have hx := exitT_same hu
  unfold fp60 at f1
  generalize natsO (bestO r hands w (List.range (min w r.length)) none) = N at *
  generalize (w : Int) = W at *
  generalize dT r = T at *
  simp [F_fewest_places, b_fewest_places, f1, hx]

end WD
namespace WD
open PySem PySem.Spec PyProof.Rows L2
def MinO (S : Nat → Prop) : Option Nat → Prop
  | none => ∀ k, ¬ S k
  | some v => S v ∧ ∀ k, S k → v ≤ k
theorem MinO.uniq {S : Nat → Prop} : ∀ {a b : Option Nat}, MinO S a → MinO S b → a = b
  | none, none, _, _ => rfl
  | none, some v, h, g => absurd g.1 (h v)
  | some v, none, h, g => absurd h.1 (g v)
  | some u, some v, h, g => by
    have := h.2 v g.1
    have := g.2 u h.1
    rw [show u = v by omega]
theorem MinO.congr {S T : Nat → Prop} {a : Option Nat} (h : MinO S a) (e : ∀ k, S k ↔ T k) : MinO T a := by
  cases a with
  | none => exact fun k q => h k ((e k).mpr q)
  | some v => exact ⟨(e v).mp h.1, fun k q => h.2 k ((e k).mpr q)⟩
/-- a ring of k places that starts at b -/
def Away (r : List (List Int)) (hands : Int) (w b k : Nat) : Prop := frB r hands b = true ∧ Cn (frB r hands) w b (b + r.length) (k + 1)
def Som (r : List (List Int)) (hands : Int) (w k : Nat) : Prop := ∃ b, b < r.length ∧ Away r hands w b k
def BI (r : List (List Int)) (hands : Int) (w : Nat) (done : List Nat) : Option (List Nat) → Prop
  | none => ∀ b ∈ done, ∀ k, ¬ Away r hands w b k
  | some L => (∃ b ∈ done, Away r hands w b L.length ∧ Lop (frB r hands) w b r.length L) ∧ ∀ b ∈ done, ∀ k, Away r hands w b k → L.length ≤ k
theorem BI.step {r : List (List Int)} {hands : Int} {w b : Nat} {done : List Nat} {best : Option (List Nat)} (hr : 0 < r.length) (h : BI r hands w done best) :
    BI r hands w (done ++ [b]) (if frB r hands b = true then bst best (grd (frB r hands) w (b + r.length) (r.length + 1) [b] b) else best) := by
  have old : ∀ c ∈ done ++ [b], c ∈ done ∨ c = b := fun c hc => by simpa using hc
  by_cases hf : frB r hands b = true
  · rw [if_pos hf]
    have sp := grd_spec (fr := frB r hands) (w := w) (b := b) (n := r.length) (by rw [frB_per]; exact hf) hr (r.length + 1) [b] b (GI.start hf) (by omega) (by omega)
    cases q : grd (frB r hands) w (b + r.length) (r.length + 1) [b] b with
    | none =>
      rw [q] at sp
      cases best with
      | none =>
        intro c hc k hk
        rcases old c hc with z | rfl
        · exact h c z k hk
        · exact sp k hk.2
      | some M =>
        obtain ⟨⟨c, c1, c2⟩, h2⟩ := h
        refine ⟨⟨c, List.mem_append_left _ c1, c2⟩, fun c hc k hk => ?_⟩
        rcases old c hc with z | rfl
        · exact h2 c z k hk
        · exact absurd hk.2 (sp k)
    | some L =>
      rw [q] at sp
      obtain ⟨l, g, g1, g2⟩ := sp
      obtain ⟨m1, m2⟩ := g.least g1 g2 (by rw [frB_per]; exact hf)
      have lp := g.lop g1 g2
      cases best with
      | none =>
        refine ⟨⟨b, by simp, ⟨hf, m1⟩, lp⟩, fun c hc k hk => ?_⟩
        rcases old c hc with z | rfl
        · exact absurd hk (h c z k)
        · exact m2 k hk.2
      | some M =>
        obtain ⟨⟨c, c1, c2⟩, h2⟩ := h
        show BI r hands w (done ++ [b]) (if L.length < M.length then some L else some M)
        by_cases hlt : L.length < M.length
        · rw [if_pos hlt]
          refine ⟨⟨b, by simp, ⟨hf, m1⟩, lp⟩, fun c hc k hk => ?_⟩
          rcases old c hc with z | rfl
          · have := h2 c z k hk; omega
          · exact m2 k hk.2
        · rw [if_neg hlt]
          refine ⟨⟨c, List.mem_append_left _ c1, c2⟩, fun c hc k hk => ?_⟩
          rcases old c hc with z | rfl
          · exact h2 c z k hk
          · have := m2 k hk.2; omega
  · rw [if_neg hf]
    cases best with
    | none =>
      intro c hc k hk
      rcases old c hc with z | rfl
      · exact h c z k hk
      · exact hf hk.1
    | some M =>
      obtain ⟨⟨c, c1, c2⟩, h2⟩ := h
      refine ⟨⟨c, List.mem_append_left _ c1, c2⟩, fun c hc k hk => ?_⟩
      rcases old c hc with z | rfl
      · exact h2 c z k hk
      · exact absurd hk.1 hf
theorem BI.all {r : List (List Int)} {hands : Int} {w : Nat} (hr : 0 < r.length) : ∀ (bs done : List Nat) (best : Option (List Nat)), BI r hands w done best → BI r hands w (done ++ bs) (bestO r hands w bs best)
  | [], done, best, h => by rw [List.append_nil]; exact h
  | b :: bs, done, best, h => by
    have := BI.all hr bs (done ++ [b]) _ (h.step (b := b) hr)
    rw [List.append_assoc] at this
    exact this
def marks (n : Nat) (S : Nat → Bool) : List (List Int) := (List.range n).map fun p => if S p = true then [0] else []
theorem marks_len {n : Nat} {S : Nat → Bool} : (marks n S).length = n := by simp [marks]
theorem has_marks {n p : Nat} {S : Nat → Bool} (hn : 0 < n) : hasAt (marks n S) 0 p = S (p % n) := by
  unfold hasAt
  rw [marks_len]
  have hm := Nat.mod_lt p hn
  have e : (marks n S).getD (p % n) [] = if S (p % n) = true then [0] else [] := by
    simp [marks, hm]
  rw [e]
  cases h : S (p % n) <;> simp
theorem places_marks {n : Nat} {S : Nat → Bool} (hn : 0 < n) : placesN (marks n S) 0 = (List.range n).filter S := by
  rw [placesN_eq, marks_len]
  refine List.filter_congr fun p hp => ?_
  rw [has_marks hn, Nat.mod_eq_of_lt (List.mem_range.mp hp)]
def Bs (r : List (List Int)) (hands : Int) (w k : Nat) : Prop := ∃ S : Nat → Bool, (List.range r.length).filter S ≠ [] ∧ (∀ p ∈ (List.range r.length).filter S, frB r hands p = true) ∧ Cov (marks r.length S) 0 w ∧ ((List.range r.length).filter S).length = k
theorem frB_mod {r : List (List Int)} {hands : Int} (p : Nat) : frB r hands (p % r.length) = frB r hands p := by
  unfold frB; rw [Nat.mod_mod]
theorem bs_of {r : List (List Int)} {hands : Int} {w k : Nat} (h : Som r hands w k) : Bs r hands w k := by
  obtain ⟨b, hb, hf, hc⟩ := h
  have hr : 0 < r.length := by omega
  obtain ⟨L, e1, lp⟩ := hc.lop hf hr
  have hS : ∀ p, hasAt (marks r.length fun p => decide (p ∈ L.map (· % r.length))) 0 p = true ↔ p % r.length ∈ L.map (· % r.length) := fun p => by
    rw [has_marks hr, decide_eq_true_eq]
  obtain ⟨c1, c2⟩ := lop_cov lp hb marks_len hS
  rw [places_marks hr] at c2
  refine ⟨fun p => decide (p ∈ L.map (· % r.length)), fun e => ?_, fun p hp => ?_, c1, by rw [c2]; exact e1⟩
  · have : b % r.length ∈ (List.range r.length).filter fun p => decide (p ∈ L.map (· % r.length)) := by
      rw [List.mem_filter, List.mem_range, decide_eq_true_eq]
      exact ⟨Nat.mod_lt _ hr, List.mem_map.mpr ⟨b, lp.bmem, rfl⟩⟩
    rw [e] at this; cases this
  · have := of_decide_eq_true (List.mem_filter.mp hp).2
    obtain ⟨x, hx, rfl⟩ := List.mem_map.mp this
    rw [frB_mod]; exact lp.free x hx
theorem som_of {r : List (List Int)} {hands : Int} {w k : Nat} (hr : 0 < r.length) (h : Bs r hands w k) : ∃ b, b < min w r.length ∧ Away r hands w b k := by
  obtain ⟨S, s1, s2, s3, s4⟩ := h
  cases he : (List.range r.length).filter S with
  | nil => exact absurd he s1
  | cons p0 rest =>
    have hp := places_marks (S := S) hr
    rw [he] at hp s4
    obtain ⟨h1, h2, h3, h4⟩ := cov_chain (fr := frB r hands) marks_len hp s3 (fun p q => s2 p (by rw [he, ← hp]; exact q)) frB_per
    rw [s4] at h4
    exact ⟨p0, by omega, h3, h4⟩
theorem bs_iff {r : List (List Int)} {hands : Int} {w k : Nat} (hr : 0 < r.length) : Bs r hands w k ↔ Som r hands w k :=
  ⟨fun h => by obtain ⟨b, h1, h2⟩ := som_of hr h; exact ⟨b, by omega, h2⟩, bs_of⟩
/-- the program's own -/
theorem best_spec {r : List (List Int)} {hands : Int} {w : Nat} (hr : 0 < r.length) : MinO (Som r hands w) ((bestO r hands w (List.range (min w r.length)) none).map List.length) ∧ ∀ L, bestO r hands w (List.range (min w r.length)) none = some L → ∃ b, b < r.length ∧ Lop (frB r hands) w b r.length L := by
  have h := BI.all (r := r) (hands := hands) (w := w) hr (List.range (min w r.length)) [] none (fun b hb => by cases hb)
  rw [List.nil_append] at h
  have low : ∀ k, Som r hands w k → ∃ b ∈ List.range (min w r.length), Away r hands w b k := fun k hk => by
    obtain ⟨b, b1, b2⟩ := som_of hr (bs_of hk)
    exact ⟨b, List.mem_range.mpr b1, b2⟩
  cases q : bestO r hands w (List.range (min w r.length)) none with
  | none =>
    rw [q] at h
    refine ⟨fun k hk => ?_, fun L e => by cases e⟩
    obtain ⟨b, b1, b2⟩ := low k hk
    exact h b b1 k b2
  | some L =>
    rw [q] at h
    obtain ⟨⟨b, b1, b2, b3⟩, h2⟩ := h
    have hb : b < r.length := by have := List.mem_range.mp b1; omega
    refine ⟨⟨⟨b, hb, b2⟩, fun k hk => ?_⟩, fun M e => by cases e; exact ⟨b, hb, b3⟩⟩
    obtain ⟨c, c1, c2⟩ := low k hk
    exact h2 c c1 k c2

end WD
namespace WD
open PySem PySem.Spec PyProof.Rows L2
theorem getI_put {kvs : List (Int × Int)} {k v j : Int} : getI (putI kvs k v) j = if j = k then some v else getI kvs j := by
  have h := L2.valV_put (ivK kvs) (Sum.inl k) (Sum.inl j) (V.int v)
  rw [ivK_put, ivK_val, ivK_val] at h
  by_cases c : j = k
  · subst c
    rw [if_pos rfl] at h ⊢
    cases q : getI (putI kvs j v) j with
    | none => rw [q] at h; cases h
    | some x => rw [q] at h; injection h with h; injection h with h; rw [h]
  · rw [if_neg (fun z => c (by injection z))] at h
    rw [if_neg c]
    cases q : getI (putI kvs k v) j with
    | none =>
      rw [q] at h
      cases p : getI kvs j with
      | none => rfl
      | some x => rw [p] at h; cases h
    | some y =>
      rw [q] at h
      cases p : getI kvs j with
      | none => rw [p] at h; cases h
      | some x => rw [p] at h; injection h with h; injection h with h; rw [h]
theorem getI_key {k : Int} : ∀ {kvs : List (Int × Int)}, (getI kvs k).isSome = true ↔ k ∈ kvs.map (·.1)
  | [] => by simp [getI]
  | p :: r => by
    have ih := getI_key (k := k) (kvs := r)
    by_cases e : p.1 = k
    · simp [getI, e]
    · have e2 : getI (p :: r) k = getI r k := by simp [getI, e]
      rw [e2, ih, List.map_cons, List.mem_cons]
      exact ⟨fun h => .inr h, fun h => h.resolve_left fun z => e z.symm⟩
theorem putI_len {kvs : List (Int × Int)} {k v : Int} : (putI kvs k v).length ≤ kvs.length + 1 := by
  unfold putI
  split <;> simp
theorem minL_leF {ns : List Int} : ∀ m ∈ ns, minL ns ≤ m := by
  intro m hm
  cases ns with
  | nil => cases hm
  | cons n ns =>
    obtain ⟨h1, h2, _⟩ := foldl_min ns n
    rcases List.mem_cons.mp hm with rfl | hm
    · exact h1
    · exact h2 m hm
theorem minL_memF {ns : List Int} (h : ns ≠ []) : minL ns ∈ ns := by
  cases ns with
  | nil => exact absurd rfl h
  | cons n ns =>
    obtain ⟨_, _, h3⟩ := foldl_min ns n
    rcases h3 with h3 | h3
    · exact List.mem_cons.mpr (.inl h3)
    · exact List.mem_cons_of_mem _ h3
def nearL (w : Int) (kvs : List (Int × Int)) (x : Int) : List Int := ((kvs.map (·.1)).filter fun k => decide (k < x) && decide (x ≤ k + w)).map fun k => (getI kvs k).getD 0
noncomputable def dpS (w b : Int) (kvs : List (Int × Int)) (x : Int) : List (Int × Int) := if nearL w kvs x ≠ [] ∧ b < x then putI kvs x (1 + minL (nearL w kvs x)) else kvs
structure DI (fr : Nat → Bool) (w b : Nat) (done : List Nat) (kvs : List (Int × Int)) : Prop where
  snd : ∀ a v : Int, getI kvs a = some v → ∃ an vn : Nat, a = an ∧ v = vn ∧ Cn fr w b an vn ∧ ∀ k, Cn fr w b an k → vn ≤ k
  cmp : ∀ an k, Cn fr w b an k → (an = b ∨ an ∈ done) → (getI kvs (an : Int)).isSome = true
  len : kvs.length ≤ done.length + 1
theorem DI.start {fr : Nat → Bool} {w b : Nat} : DI fr w b [] [((b : Int), 1)] := by
  have g : ∀ a : Int, getI [((b : Int), 1)] a = if a = (b : Int) then some 1 else none := fun a => by
    by_cases c : a = (b : Int)
    · simp [getI, c]
    · have : ¬ (b : Int) = a := fun z => c z.symm
      simp [getI, c, this]
  refine ⟨fun a v e => ?_, fun an k _ h => ?_, by simp⟩
  · rw [g] at e
    split at e
    · rename_i c
      cases e
      exact ⟨b, 1, c, rfl, .base, fun k h => h.pos⟩
    · cases e
  · rcases h with rfl | h
    · rw [g, if_pos rfl]; rfl
    · cases h
theorem DI.step {fr : Nat → Bool} {w b x : Nat} {done : List Nat} {kvs : List (Int × Int)} (d : DI fr w b done kvs) (hx : fr x = true) (hd : ∀ y, fr y = true → y < x → b < y → y ∈ done) : DI fr w b (done ++ [x]) (dpS w b kvs x) := by
  have mem : ∀ v, v ∈ nearL w kvs x ↔ ∃ a u : Nat, Cn fr w b a u ∧ (∀ k, Cn fr w b a k → u ≤ k) ∧ a < x ∧ x ≤ a + w ∧ v = u ∧ getI kvs (a : Int) = some (u : Int) := fun v => by
    unfold nearL
    constructor
    · intro h
      obtain ⟨k, hk, rfl⟩ := List.mem_map.mp h
      obtain ⟨h1, h2⟩ := List.mem_filter.mp hk
      obtain ⟨v, hv⟩ := Option.isSome_iff_exists.mp (getI_key.mpr h1)
      obtain ⟨a, u, rfl, rfl, c1, c2⟩ := d.snd k v hv
      rw [Bool.and_eq_true, decide_eq_true_eq, decide_eq_true_eq] at h2
      exact ⟨a, u, c1, c2, by omega, by omega, by rw [hv]; rfl, hv⟩
    · rintro ⟨a, u, c1, c2, h1, h2, rfl, hv⟩
      refine List.mem_map.mpr ⟨(a : Int), List.mem_filter.mpr ⟨getI_key.mp (by rw [hv]; rfl), ?_⟩, by rw [hv]; rfl⟩
      rw [Bool.and_eq_true, decide_eq_true_eq, decide_eq_true_eq]
      omega
  -- what comes to x comes from a place near it
  have back : ∀ k, Cn fr w b x k → x ≠ b → ∃ u : Nat, (u : Int) ∈ nearL w kvs x ∧ u + 1 ≤ k := fun k hk hne => by
    rcases hk.inv with ⟨e, _⟩ | ⟨a, j, rfl, h1, h2, h3, _⟩
    · exact absurd e hne
    · have hs : (getI kvs (a : Int)).isSome = true := by
        refine d.cmp a j h1 ?_
        rcases h1.inv with ⟨e, _⟩ | ⟨_, _, _, g0, g1, _, g2⟩
        · exact .inl e
        · have := g0.le
          exact .inr (hd a g2 h2 (by omega))
      obtain ⟨v, hv⟩ := Option.isSome_iff_exists.mp hs
      obtain ⟨a', u, ea, eu, c1, c2⟩ := d.snd _ _ hv
      have : a' = a := by omega
      subst this
      rw [eu] at hv
      exact ⟨u, (mem u).mpr ⟨a', u, c1, c2, h2, h3, rfl, hv⟩, by have := c2 j h1; omega⟩
  unfold dpS
  by_cases c : nearL w kvs x ≠ [] ∧ (b : Int) < x
  · rw [if_pos c]
    have hbx : b < x := by omega
    obtain ⟨a, u, c1, c2, c3, c4, c5, c6⟩ := (mem _).mp (minL_memF c.1)
    have hnew : Cn fr w b x (u + 1) := .step c1 c3 c4 hx
    have hleast : ∀ k, Cn fr w b x k → u + 1 ≤ k := fun k hk => by
      obtain ⟨u', h1, h2⟩ := back k hk (by omega)
      have := minL_leF _ h1
      omega
    refine ⟨fun y v e => ?_, fun an k hk hm => ?_, ?_⟩
    · rw [getI_put] at e
      split at e
      · rename_i hy
        cases e
        exact ⟨x, u + 1, hy, by omega, hnew, hleast⟩
      · exact d.snd y v e
    · rw [getI_put]
      split
      · rfl
      · rename_i hne
        refine d.cmp an k hk ?_
        rcases hm with h | h
        · exact .inl h
        · rcases List.mem_append.mp h with h | h
          · exact .inr h
          · exact absurd (by have : an = x := by simpa using h
                             rw [this]) hne
    · have := putI_len (kvs := kvs) (k := (x : Int)) (v := 1 + minL (nearL w kvs x))
      have := d.len
      rw [List.length_append, List.length_singleton]; omega
  · rw [if_neg c]
    refine ⟨d.snd, fun an k hk hm => ?_, by have := d.len; rw [List.length_append, List.length_singleton]; omega⟩
    rcases hm with h | h
    · exact d.cmp an k hk (.inl h)
    · rcases List.mem_append.mp h with h | h
      · exact d.cmp an k hk (.inr h)
      · have e : an = x := by simpa using h
        subst e
        by_cases hb : an = b
        · exact d.cmp an k hk (.inl hb)
        · exfalso
          obtain ⟨u, h1, _⟩ := back k hk hb
          have := hk.le
          refine c ⟨fun z => ?_, by omega⟩
          rw [z] at h1; cases h1
theorem DI.all {fr : Nat → Bool} {w b : Nat} : ∀ (ps done : List Nat) (kvs : List (Int × Int)), DI fr w b done kvs → (∀ x ∈ ps, fr x = true) → (done ++ ps).Pairwise (· < ·) → (∀ y, fr y = true → b < y → (∃ x ∈ ps, y < x) → y ∈ done ++ ps) →
    DI fr w b (done ++ ps) (ps.foldl (fun kvs (x : Nat) => dpS w b kvs x) kvs)
  | [], done, kvs, d, _, _, _ => by rw [List.append_nil]; exact d
  | x :: ps, done, kvs, d, hf, hp, hm => by
    have e : done ++ x :: ps = done ++ [x] ++ ps := by simp
    have d2 := d.step (hf x List.mem_cons_self) fun y h1 h2 h3 => by
      have := hm y h1 h3 ⟨x, List.mem_cons_self, h2⟩
      rcases List.mem_append.mp this with q | q
      · exact q
      · rcases List.mem_cons.mp q with q | q
        · omega
        · have := (List.pairwise_cons.mp (List.pairwise_append.mp hp).2.1).1 y q
          omega
    rw [e] at hp hm ⊢
    exact DI.all ps (done ++ [x]) _ d2 (fun y hy => hf y (List.mem_cons_of_mem _ hy)) hp fun y h1 h2 h3 => by
      obtain ⟨z, hz, hlt⟩ := h3
      exact hm y h1 h2 ⟨z, List.mem_cons_of_mem _ hz, hlt⟩
/-- the free places, twice round -/
def frees (r : List (List Int)) (hands : Int) : List Nat := (List.range r.length).filter (frB r hands)
def twice (r : List (List Int)) (hands : Int) : List Nat := frees r hands ++ (frees r hands).map (· + r.length)
theorem frees_mem {r : List (List Int)} {hands : Int} {p : Nat} : p ∈ frees r hands ↔ p < r.length ∧ frB r hands p = true := by
  unfold frees; rw [List.mem_filter, List.mem_range]
theorem twice_mem {r : List (List Int)} {hands : Int} {p : Nat} : p ∈ twice r hands ↔ p < 2 * r.length ∧ frB r hands p = true := by
  unfold twice
  rw [List.mem_append, frees_mem, List.mem_map]
  constructor
  · rintro (⟨h1, h2⟩ | ⟨q, hq, rfl⟩)
    · exact ⟨by omega, h2⟩
    · obtain ⟨h1, h2⟩ := frees_mem.mp hq
      exact ⟨by omega, by rw [frB_per]; exact h2⟩
  · rintro ⟨h1, h2⟩
    by_cases c : p < r.length
    · exact .inl ⟨c, h2⟩
    · refine .inr ⟨p - r.length, frees_mem.mpr ⟨by omega, ?_⟩, by omega⟩
      have := frB_per (r := r) (hands := hands) (p - r.length)
      rw [show p - r.length + r.length = p by omega] at this
      rw [← this]; exact h2
theorem twice_pw {r : List (List Int)} {hands : Int} : (twice r hands).Pairwise (· < ·) := by
  have h : (frees r hands).Pairwise (· < ·) := List.Pairwise.filter _ List.pairwise_lt_range
  refine List.pairwise_append.mpr ⟨h, ?_, fun x hx y hy => ?_⟩
  · rw [List.pairwise_map]
    exact h.imp fun q => by omega
  · have := (frees_mem.mp hx).1
    obtain ⟨z, hz, rfl⟩ := List.mem_map.mp hy
    omega
noncomputable def dpAll (r : List (List Int)) (hands : Int) (w b : Nat) : List (Int × Int) := (twice r hands).foldl (fun kvs (x : Nat) => dpS w b kvs x) [((b : Int), 1)]
theorem dp_spec {r : List (List Int)} {hands : Int} {w b : Nat} (hb : b ∈ frees r hands) : (match getI (dpAll r hands w b) ((b : Int) + r.length) with
    | none => ∀ k, ¬ Away r hands w b k
    | some v => ∃ k : Nat, v = (k : Int) + 1 ∧ Away r hands w b k ∧ ∀ j, Away r hands w b j → k ≤ j) ∧ (dpAll r hands w b).length ≤ 2 * r.length + 1 := by
  obtain ⟨hbn, hbf⟩ := frees_mem.mp hb
  have d := DI.all (fr := frB r hands) (w := w) (b := b) (twice r hands) [] _ DI.start (fun x hx => (twice_mem.mp hx).2) (by rw [List.nil_append]; exact twice_pw) fun y h1 h2 h3 => by
    obtain ⟨x, hx, hlt⟩ := h3
    rw [List.nil_append, twice_mem]
    have := (twice_mem.mp hx).1
    exact ⟨by omega, h1⟩
  rw [List.nil_append] at d
  have hfn : frB r hands (b + r.length) = true := by rw [frB_per]; exact hbf
  constructor
  · cases q : getI (dpAll r hands w b) ((b : Int) + r.length) with
    | none =>
      intro k hk
      have := d.cmp (b + r.length) (k + 1) hk.2 (.inr (twice_mem.mpr ⟨by omega, hfn⟩))
      rw [show ((b + r.length : Nat) : Int) = (b : Int) + r.length by omega] at this
      have q : getI ((twice r hands).foldl (fun kvs (x : Nat) => dpS w b kvs x) [((b : Int), 1)]) ((b : Int) + r.length) = none := q
      rw [q] at this; cases this
    | some v =>
      obtain ⟨an, vn, e1, rfl, c1, c2⟩ := d.snd _ _ q
      have ea : an = b + r.length := by omega
      subst ea
      have hp := c1.pos
      rcases c1.inv with ⟨z, _⟩ | _
      · omega
      refine ⟨vn - 1, by omega, ⟨hbf, by rw [show vn - 1 + 1 = vn by omega]; exact c1⟩, fun j hj => ?_⟩
      have := c2 (j + 1) hj.2
      omega
  · have := d.len
    have h2 : (twice r hands).length ≤ 2 * r.length := by
      unfold twice frees
      rw [List.length_append, List.length_map]
      have := List.length_filter_le (frB r hands) (List.range r.length)
      rw [List.length_range] at this
      omega
    show (dpAll r hands w b).length ≤ _
    unfold dpAll
    omega

end WD
namespace WD
open PySem PySem.Spec PyProof.Rows L2
def intO : Option Int → D
  | none => .non
  | some v => .int v
def bstI (best g : Option Int) : Option Int := match g with
  | none => best
  | some v => match best with
    | none => some (v - 1)
    | some m => if v - 1 < m then some (v - 1) else some m
noncomputable def fewO (r : List (List Int)) (hands : Int) (w : Nat) (bs : List Nat) (best : Option Int) : Option Int := bs.foldl (fun best (b : Nat) => bstI best (getI (dpAll r hands w b) ((b : Int) + r.length))) best
def BF (r : List (List Int)) (hands : Int) (w : Nat) (done : List Nat) : Option Int → Prop
  | none => ∀ b ∈ done, ∀ k, ¬ Away r hands w b k
  | some v => ∃ k : Nat, v = (k : Int) ∧ (∃ b ∈ done, Away r hands w b k) ∧ ∀ b ∈ done, ∀ j, Away r hands w b j → k ≤ j
theorem BF.all {r : List (List Int)} {hands : Int} {w : Nat} : ∀ (bs done : List Nat) (best : Option Int), (∀ b ∈ bs, b ∈ frees r hands) → BF r hands w done best → BF r hands w (done ++ bs) (fewO r hands w bs best)
  | [], done, best, _, h => by rw [List.append_nil]; exact h
  | b :: bs, done, best, hb, h => by
    have sp := (dp_spec (w := w) (hb b List.mem_cons_self)).1
    have old : ∀ c ∈ done ++ [b], c ∈ done ∨ c = b := fun c hc => by simpa using hc
    have st : BF r hands w (done ++ [b]) (bstI best (getI (dpAll r hands w b) ((b : Int) + r.length))) := by
      cases q : getI (dpAll r hands w b) ((b : Int) + r.length) with
      | none =>
        rw [q] at sp
        show BF r hands w (done ++ [b]) best
        cases best with
        | none =>
          intro c hc k hk
          rcases old c hc with z | rfl
          · exact h c z k hk
          · exact sp k hk
        | some m =>
          obtain ⟨k, rfl, ⟨c, c1, c2⟩, h2⟩ := h
          refine ⟨k, rfl, ⟨c, List.mem_append_left _ c1, c2⟩, fun c hc j hj => ?_⟩
          rcases old c hc with z | rfl
          · exact h2 c z j hj
          · exact absurd hj (sp j)
      | some v =>
        rw [q] at sp
        obtain ⟨k, rfl, k1, k2⟩ := sp
        cases best with
        | none =>
          show BF r hands w (done ++ [b]) (some ((k : Int) + 1 - 1))
          refine ⟨k, by omega, ⟨b, by simp, k1⟩, fun c hc j hj => ?_⟩
          rcases old c hc with z | rfl
          · exact absurd hj (h c z j)
          · exact k2 j hj
        | some m =>
          obtain ⟨m', rfl, ⟨c, c1, c2⟩, h2⟩ := h
          show BF r hands w (done ++ [b]) (if (k : Int) + 1 - 1 < (m' : Int) then some ((k : Int) + 1 - 1) else some (m' : Int))
          by_cases hlt : (k : Int) + 1 - 1 < (m' : Int)
          · rw [if_pos hlt]
            refine ⟨k, by omega, ⟨b, by simp, k1⟩, fun c hc j hj => ?_⟩
            rcases old c hc with z | rfl
            · have := h2 c z j hj; omega
            · exact k2 j hj
          · rw [if_neg hlt]
            refine ⟨m', rfl, ⟨c, List.mem_append_left _ c1, c2⟩, fun c hc j hj => ?_⟩
            rcases old c hc with z | rfl
            · exact h2 c z j hj
            · have := k2 j hj; omega
    have := BF.all bs (done ++ [b]) _ (fun c hc => hb c (List.mem_cons_of_mem _ hc)) st
    rw [List.append_assoc] at this
    exact this
theorem few_spec {r : List (List Int)} {hands : Int} {w : Nat} : ∃ o : Option Nat, fewO r hands w (frees r hands) none = o.map (fun (k : Nat) => (k : Int)) ∧ MinO (Som r hands w) o := by
  have h := BF.all (r := r) (hands := hands) (w := w) (frees r hands) [] none (fun _ h => h) (fun b hb => by cases hb)
  rw [List.nil_append] at h
  have low : ∀ k, Som r hands w k → ∃ b ∈ frees r hands, Away r hands w b k := fun k ⟨b, b1, b2⟩ => ⟨b, frees_mem.mpr ⟨b1, b2.1⟩, b2⟩
  cases q : fewO r hands w (frees r hands) none with
  | none =>
    rw [q] at h
    refine ⟨none, rfl, fun k hk => ?_⟩
    obtain ⟨b, b1, b2⟩ := low k hk
    exact h b b1 k b2
  | some v =>
    rw [q] at h
    obtain ⟨k, rfl, ⟨b, b1, b2⟩, h2⟩ := h
    refine ⟨some k, rfl, ⟨b, (frees_mem.mp b1).1, b2⟩, fun j hj => ?_⟩
    obtain ⟨c, c1, c2⟩ := low j hj
    exact h2 c c1 j c2
abbrev lf60 (r : List (List Int)) (hands : Int) (w : Nat) (f a best b st one near : Option D) : Ss := [some (dT r), some (.int hands), some (.int (w : Int)), f, a, best, b, st, one, near]
theorem near_comp {r : List (List Int)} {hands : Int} {w : Nat} {f best b : Option D} {x : Int} {G : Hs} {kvs : List (Int × Int)} (hz : kvs.length < 16777216) :
    eCompI false [8] 7 (gVar 8) (tV (eChain ltD leD (eVar 8) (eVar 4) (eBin addD (eVar 8) (eVar 2)))) (eIGet (eVar 7) (eVar 8)) (lf60 r hands w f (some (.int x)) best b (some (.loc G.length)) none none) (G ++ [.dci false kvs]) = .ok (.lst ((nearL w kvs x).map D.int)) (G ++ [.dci false kvs]) := by
  have hat : (G ++ [O.dci false kvs])[G.length]? = some (.dci false kvs) := by simp
  rw [compI_eq (n := G.length) (kvs := kvs) (fun k => decide (k < x) && decide (x ≤ k + w)) (fun k => .int ((getI kvs k).getD 0)) rfl hat hz fun q hq => ?_]
  · unfold nearL
    rw [List.map_map]; rfl
  · obtain ⟨v, hv⟩ := Option.isSome_iff_exists.mp (getI_key.mpr (List.mem_map_of_mem hq : q.1 ∈ kvs.map (·.1)))
    have dg := dciG_at (h := List.set (G ++ [O.dci false kvs]) G.length (.dci true kvs)) (n := G.length) (fz := true) (kvs := kvs) (by simp)
    refine ⟨_, rfl, ?_, fun _ => ?_⟩
    · generalize List.set (G ++ [O.dci false kvs]) G.length (.dci true kvs) = HK at *
      unfold lf60
      generalize dT r = T at *
      generalize (w : Int) = W at *
      by_cases c1 : q.1 < x
      · simp [wipeS, c1]
      · simp [wipeS, c1]
    · rw [hv]
      generalize List.set (G ++ [O.dci false kvs]) G.length (.dci true kvs) = HK at *
      unfold lf60
      generalize dT r = T at *
      simp [wipeS, dg, hv]
theorem dp_loop60 {r : List (List Int)} {hands : Int} {w b : Nat} {f best : Option D} {G : Hs} : ∀ (ps : List Nat) (kvs : List (Int × Int)), kvs.length + ps.length ≤ 100000 → loopS (gVar 4) k__law_fewest_2_1 (natL ps) (lf60 r hands w f none best (some (.int (b : Int))) (some (.loc G.length)) none none) (G ++ [.dci false kvs]) = .nx (lf60 r hands w f none best (some (.int (b : Int))) (some (.loc G.length)) none none) (G ++ [.dci false (ps.foldl (fun kvs (x : Nat) => dpS w b kvs x) kvs)])
  | [], kvs, _ => x_loop_nil
  | x :: ps, kvs, hz => by
    simp only [List.length_cons] at hz
    have hl : (dpS w b kvs (x : Int)).length ≤ kvs.length + 1 := by
      unfold dpS
      split
      · exact putI_len
      · omega
    have ih := dp_loop60 (r := r) (hands := hands) (w := w) (b := b) (f := f) (best := best) (G := G) ps (dpS w b kvs x) (by omega)
    rw [show natL (x :: ps) = D.int (x : Int) :: natL ps from rfl, List.foldl_cons]
    refine Eq.trans (loop_nx (s1 := lf60 r hands w f (some (.int (x : Int))) best (some (.int (b : Int))) (some (.loc G.length)) none none) (h2 := G ++ [.dci false (dpS w b kvs x)]) (s2 := lf60 r hands w f none best (some (.int (b : Int))) (some (.loc G.length)) none none) rfl ?_) ih
    have nc := near_comp (r := r) (hands := hands) (w := w) (f := f) (best := best) (b := some (.int (b : Int))) (x := (x : Int)) (G := G) (kvs := kvs) (by omega)
    have hat : (G ++ [O.dci false kvs])[G.length]? = some (.dci false kvs) := by simp
    have df := dciF_at hat
    have hlt : kvs.length < 16777216 := by omega
    clear ih
    unfold dpS
    generalize nearL w kvs x = N at *
    by_cases c1 : N = []
    · rw [if_neg (fun z => z.1 c1)]
      subst c1
      have nc : _ = R.ok (D.lst []) _ := nc
      unfold lf60 at *
      clear hat df
      generalize G ++ [O.dci false kvs] = H at *
      generalize dT r = T at *
      generalize (w : Int) = W at *
      simp [nc]
    · have hne : eqD true (.lst (N.map D.int)) (.lst []) (G ++ [O.dci false kvs]) = .ok (.bl true) (G ++ [O.dci false kvs]) := by
        rw [x_neNil]
        cases N with
        | nil => exact absurd rfl c1
        | cons a l => rfl
      have mn : minD [.lst (N.map D.int)] (G ++ [O.dci false kvs]) = .ok (.int (minL N)) (G ++ [O.dci false kvs]) := min_row (d := .lst (N.map D.int)) rfl (List.length_pos_iff.mpr c1)
      by_cases c2 : (b : Int) < (x : Int)
      · rw [if_pos ⟨c1, c2⟩]
        have hse : (G ++ [O.dci false kvs]).set G.length (.dci false (putI kvs (x : Int) (1 + minL N))) = G ++ [.dci false (putI kvs (x : Int) (1 + minL N))] := by simp
        unfold lf60 at *
        clear hat
        generalize G ++ [O.dci false (putI kvs (x : Int) (1 + minL N))] = H2 at *
        generalize G ++ [O.dci false kvs] = H at *
        generalize D.lst (N.map D.int) = DN at *
        generalize dT r = T at *
        generalize (w : Int) = W at *
        simp [nc, hne, c2, mn, df, hlt, hse]
      · rw [if_neg (fun z => c2 z.2)]
        unfold lf60 at *
        clear hat df
        generalize G ++ [O.dci false kvs] = H at *
        generalize D.lst (N.map D.int) = DN at *
        generalize dT r = T at *
        generalize (w : Int) = W at *
        simp [nc, hne, c2]
theorem natL_add {ps : List Nat} {n : Nat} : (ps.map fun (p : Nat) => D.int ((p : Int) + (n : Int))) = natL (ps.map (· + n)) := by
  unfold natL
  rw [List.map_map]
  refine List.map_congr_left fun p _ => ?_
  show D.int ((p : Int) + (n : Int)) = D.int ((p + n : Nat) : Int)
  congr 1
theorem few_turn60 {r : List (List Int)} {hands : Int} {w b : Nat} {best : Option Int} {G : Hs} (hz : r.length ≤ 4000) (hb : b ∈ frees r hands) : ∃ u : Hs, k__law_fewest_2 (lf60 r hands w (some (.lst (natL (frees r hands)))) none (some (intO best)) (some (.int (b : Int))) none none none) G = .nx (lf60 r hands w (some (.lst (natL (frees r hands)))) none (some (intO (bstI best (getI (dpAll r hands w b) ((b : Int) + r.length))))) none none none none) (G ++ u) := by
  have hfl : (frees r hands).length ≤ r.length := by
    unfold frees
    have := List.length_filter_le (frB r hands) (List.range r.length)
    rw [List.length_range] at this
    exact this
  have htl : (twice r hands).length ≤ 2 * r.length := by
    unfold twice
    rw [List.length_append, List.length_map]; omega
  have lp := dp_loop60 (r := r) (hands := hands) (w := w) (b := b) (f := some (.lst (natL (frees r hands)))) (best := some (intO best)) (G := G) (twice r hands) [((b : Int), 1)] (by simp; omega)
  have hd : (twice r hands).foldl (fun kvs (x : Nat) => dpS w b kvs x) [((b : Int), 1)] = dpAll r hands w b := rfl
  rw [hd] at lp
  obtain ⟨G1, hG1⟩ : ∃ G1 : Hs, G1 = G ++ [.dci false [((b : Int), 1)]] := ⟨_, rfl⟩
  obtain ⟨G2, hG2⟩ : ∃ G2 : Hs, G2 = G ++ [.dci false (dpAll r hands w b)] := ⟨_, rfl⟩
  rw [← hG1, ← hG2] at lp
  have ln : lenD [dT r] G1 = .ok (.int r.length) G1 := len_dT
  have ln2 : lenD [dT r] G2 = .ok (.int r.length) G2 := len_dT
  have hc : eComp false [8] (iRow (eVar 3)) (gVar 8) tYesF (eBin addD (eVar 8) (eB lenD (aCons (eVar 0) aNil))) (lf60 r hands w (some (.lst (natL (frees r hands)))) none (some (intO best)) (some (.int (b : Int))) (some (.loc G.length)) none none) G1 = .ok (.lst (natL ((frees r hands).map (· + r.length)))) G1 := by
    rw [comp_map (em := fun (p : Nat) => D.int (p : Int)) (xs := frees r hands) (h1 := G1) (fun p => .int ((p : Int) + (r.length : Int))) (Itr.lst rfl) fun p hp => ?_]
    · rw [natL_add]; rfl
    · refine ⟨_, rfl, ?_⟩
      unfold lf60
      generalize D.lst (natL (frees r hands)) = FL at *
      generalize (r.length : Int) = RL at *
      generalize dT r = T at *
      simp [wipeS, ln]
  have ad : addD (.lst (natL (frees r hands))) (.lst (natL ((frees r hands).map (· + r.length)))) G1 = .ok (.lst (natL (twice r hands))) G1 := by
    rw [add_lst (by unfold natL; rw [List.length_map, List.length_map, List.length_map]; omega)]
    unfold natL twice
    rw [← List.map_append]
  have f1 : sFor (iRow (eBin addD (eVar 3) (eComp false [8] (iRow (eVar 3)) (gVar 8) tYesF (eBin addD (eVar 8) (eB lenD (aCons (eVar 0) aNil)))))) (gVar 4) k__law_fewest_2_1 (lf60 r hands w (some (.lst (natL (frees r hands)))) none (some (intO best)) (some (.int (b : Int))) (some (.loc G.length)) none none) G1 = .nx (lf60 r hands w (some (.lst (natL (frees r hands)))) none (some (intO best)) (some (.int (b : Int))) (some (.loc G.length)) none none) G2 := by
    refine (for_lst (h1 := G1) (xs := natL (twice r hands)) ?_).trans lp
    unfold lf60 at *
    clear lp ln
    generalize D.lst (natL (twice r hands)) = TL at *
    generalize D.lst (natL ((frees r hands).map (· + r.length))) = F2 at *
    generalize D.lst (natL (frees r hands)) = FL at *
    generalize dT r = T at *
    simp [-add_lst, hc, ad]
  have hat : G2[G.length]? = some (.dci false (dpAll r hands w b)) := by rw [hG2]; simp
  have ik := inI_at (b := false) (i := (b : Int) + r.length) hat
  have dg := dciG_at hat
  refine ⟨[.dci false (dpAll r hands w b)], ?_⟩
  rw [← hG2]
  clear lp hat hc ad
  generalize dpAll r hands w b = KV at *
  unfold lf60 at *
  obtain ⟨BB, hBB⟩ : ∃ BB : D, intO best = BB := ⟨_, rfl⟩
  rw [hBB] at f1 ⊢
  cases q : getI KV ((b : Int) + r.length) with
  | none =>
    rw [q] at ik
    have eb : bstI best none = best := rfl
    rw [eb, hBB]
    generalize D.lst (natL (frees r hands)) = FL at *
    generalize (r.length : Int) = RL at *
    generalize dT r = T at *
    simp [← hG1, f1, ln2, ik]
  | some v =>
    rw [q] at ik
    cases best with
    | none =>
      have eb : intO (bstI none (some v)) = .int (v - 1) := rfl
      rw [eb]
      have hBB : BB = .non := hBB.symm
      subst hBB
      generalize D.lst (natL (frees r hands)) = FL at *
      generalize (r.length : Int) = RL at *
      generalize dT r = T at *
      simp [← hG1, f1, ln2, ik, isN_non, dg, q]
    | some m =>
      have eb : intO (bstI (some m) (some v)) = if v - 1 < m then .int (v - 1) else .int m := by
        unfold bstI
        by_cases c : v - 1 < m
        · rw [if_pos c]; simp [c, intO]
        · rw [if_neg c]; simp [c, intO]
      rw [eb]
      have hBB : BB = .int m := hBB.symm
      subst hBB
      generalize D.lst (natL (frees r hands)) = FL at *
      generalize (r.length : Int) = RL at *
      generalize dT r = T at *
      by_cases c : v - 1 < m
      · simp [← hG1, f1, ln2, ik, isN_int, dg, q, c]
      · simp [← hG1, f1, ln2, ik, isN_int, dg, q, c]
theorem few_loop60 {r : List (List Int)} {hands : Int} {w : Nat} (hz : r.length ≤ 4000) : ∀ (bs : List Nat) (best : Option Int) (G : Hs), (∀ b ∈ bs, b ∈ frees r hands) → ∃ u : Hs, loopS (gVar 6) k__law_fewest_2 (natL bs) (lf60 r hands w (some (.lst (natL (frees r hands)))) none (some (intO best)) none none none none) G = .nx (lf60 r hands w (some (.lst (natL (frees r hands)))) none (some (intO (fewO r hands w bs best))) none none none none) (G ++ u)
  | [], best, G, _ => ⟨[], by rw [List.append_nil]; exact x_loop_nil⟩
  | b :: bs, best, G, hb => by
    obtain ⟨u, e1⟩ := few_turn60 (w := w) (best := best) (G := G) hz (hb b List.mem_cons_self)
    obtain ⟨v, e2⟩ := few_loop60 (w := w) hz bs (bstI best (getI (dpAll r hands w b) ((b : Int) + r.length))) (G ++ u) fun c hc => hb c (List.mem_cons_of_mem _ hc)
    refine ⟨u ++ v, ?_⟩
    rw [← List.append_assoc]
    exact (loop_nx (s1 := lf60 r hands w (some (.lst (natL (frees r hands)))) none (some (intO best)) (some (.int (b : Int))) none none none) rfl e1).trans e2
theorem law_fewest60 {r : List (List Int)} {hands : Int} {w : Nat} {h : Hs} (hz : r.length ≤ 4000) : F__law_fewest [dT r, .int hands, .int (w : Int)] h = .ok (intO (fewO r hands w (frees r hands) none)) h := by
  obtain ⟨u, lp⟩ := few_loop60 (r := r) (hands := hands) (w := w) hz (frees r hands) none h fun _ h => h
  have ln : lenD [dT r] h = .ok (.int r.length) h := len_dT
  have hc : eComp false [4] (iRng1 (aCons (eB lenD (aCons (eVar 0) aNil)) aNil)) (gVar 4) (tV (eBin ltD (eB lenD (aCons (eBin ixD (eVar 0) (eVar 4)) aNil)) (eVar 1))) (eVar 4) (lf60 r hands w none none none none none none none) h = .ok (.lst (natL (frees r hands))) h := by
    rw [comp_ty (em := fun (k : Nat) => D.int k) (xs := List.range r.length) (h1 := h) (frB r hands) (fun (k : Nat) => D.int k) (Itr.rngN (n := r.length) ?_ (by omega)) fun k hk => ?_]
    · rfl
    · unfold lf60
      generalize (r.length : Int) = RL at *
      generalize dT r = T at *
      simp [ln]
    · have hk := List.mem_range.mp hk
      have ix : ixD (dT r) (.int (k : Int)) h = .ok (iT (r.getD k [])) h := by
        have := ix_dT (r := r) (i := (k : Int)) (h := h) (by omega) (by omega)
        simpa using this
      have l2 : lenD [iT (r.getD k [])] h = .ok (.int (r.getD k []).length) h := len_iT
      have ef : frB r hands k = decide (((r.getD k []).length : Int) < hands) := by unfold frB; rw [Nat.mod_eq_of_lt hk]
      rw [ef]
      unfold lf60
      generalize ((r.getD k []).length : Int) = LL at *
      generalize iT (r.getD k []) = X at *
      generalize dT r = T at *
      exact ⟨_, rfl, by simp [wipeS, ix, l2], fun _ => by simp [wipeS]⟩
  have f2 : sFor (iRow (eVar 3)) (gVar 6) k__law_fewest_2 (lf60 r hands w (some (.lst (natL (frees r hands)))) none (some .non) none none none none) h = .nx (lf60 r hands w (some (.lst (natL (frees r hands)))) none (some (intO (fewO r hands w (frees r hands) none))) none none none none) (h ++ u) := (for_lst (h1 := h) (xs := natL (frees r hands)) rfl).trans lp
  have hu : (intO (fewO r hands w (frees r hands) none)).und h.length = true := by
    cases fewO r hands w (frees r hands) none <;> rfl
  have hx : exitT h (intO (fewO r hands w (frees r hands) none)) (h ++ u) = .ok (intO (fewO r hands w (frees r hands) none)) h := exitT_app hu
  clear lp
  unfold lf60 at *
  generalize intO (fewO r hands w (frees r hands) none) = N at *
  generalize D.lst (natL (frees r hands)) = FL at *
  generalize (w : Int) = W at *
  generalize dT r = T at *
  simp [F__law_fewest, b__law_fewest, hc, f2, hx]

end WD
namespace WD
open PySem PySem.Spec PyProof.Rows L2
def bitB (m p : Nat) : Bool := decide (m / 2 ^ p % 2 = 1)
theorem bit_add {m p n : Nat} (h : p < n) : (m + 2 ^ n) / 2 ^ p % 2 = m / 2 ^ p % 2 := by
  obtain ⟨c, rfl⟩ : ∃ c, n = p + 1 + c := ⟨n - p - 1, by omega⟩
  have e : (2 : Nat) ^ (p + 1 + c) = 2 ^ p * (2 * 2 ^ c) := by
    rw [Nat.pow_add, Nat.pow_succ, Nat.mul_assoc]
  rw [e, Nat.add_mul_div_left _ _ (Nat.pow_pos (by decide)), Nat.add_mul_mod_self_left]
theorem mask_ex : ∀ (n : Nat) (S : Nat → Bool), ∃ m, m < 2 ^ n ∧ ∀ p, p < n → bitB m p = S p
  | 0, _ => ⟨0, by decide, fun p h => by omega⟩
  | n + 1, S => by
    obtain ⟨m, h1, h2⟩ := mask_ex n S
    have e : (2 : Nat) ^ (n + 1) = 2 ^ n * 2 := Nat.pow_succ ..
    cases hs : S n with
    | false =>
      refine ⟨m, by omega, fun p hp => ?_⟩
      by_cases c : p = n
      · subst c
        rw [hs]
        unfold bitB
        rw [Nat.div_eq_of_lt h1]; rfl
      · exact h2 p (by omega)
    | true =>
      refine ⟨m + 2 ^ n, by omega, fun p hp => ?_⟩
      by_cases c : p = n
      · subst c
        rw [hs]
        unfold bitB
        rw [Nat.add_div_right _ (Nat.pow_pos (by decide)), Nat.div_eq_of_lt h1]; rfl
      · have := h2 p (by omega)
        unfold bitB at this ⊢
        rw [bit_add (by omega)]; exact this
theorem mask_zero : ∀ (n m : Nat), m < 2 ^ n → (∀ p, p < n → bitB m p = false) → m = 0
  | 0, m, h, _ => by simpa using h
  | n + 1, m, h, hb => by
    have e : (2 : Nat) ^ (n + 1) = 2 ^ n * 2 := Nat.pow_succ ..
    have hn := hb n (by omega)
    have hlt : m < 2 ^ n := by
      apply Classical.byContradiction
      intro q
      have h1 : m / 2 ^ n = 1 := by
        refine Nat.div_eq_of_lt_le ?_ ?_
        · omega
        · omega
      unfold bitB at hn
      rw [h1] at hn
      cases hn
    exact mask_zero n m hlt fun p hp => hb p (by omega)
def plM (n m : Nat) : List Nat := (List.range n).filter (bitB m)
def okM (r : List (List Int)) (hands : Int) (w m : Nat) : Prop := (∀ p ∈ plM r.length m, frB r hands p = true) ∧ Cov (marks r.length (bitB m)) 0 w
theorem plM_ne {n m : Nat} (h1 : 1 ≤ m) (h2 : m < 2 ^ n) : plM n m ≠ [] := by
  intro e
  have := mask_zero n m h2 fun p hp => by
    cases q : bitB m p with
    | false => rfl
    | true =>
      have : p ∈ plM n m := List.mem_filter.mpr ⟨List.mem_range.mpr hp, q⟩
      rw [e] at this; cases this
  omega
theorem bs_mask {r : List (List Int)} {hands : Int} {w k : Nat} : Bs r hands w k ↔ ∃ m, 1 ≤ m ∧ m < 2 ^ r.length ∧ okM r hands w m ∧ (plM r.length m).length = k := by
  constructor
  · rintro ⟨S, s1, s2, s3, s4⟩
    obtain ⟨m, h1, h2⟩ := mask_ex r.length S
    have ef : plM r.length m = (List.range r.length).filter S := List.filter_congr fun p hp => h2 p (List.mem_range.mp hp)
    have em : marks r.length (bitB m) = marks r.length S := by
      unfold marks
      exact List.map_congr_left fun p hp => by rw [h2 p (List.mem_range.mp hp)]
    refine ⟨m, ?_, h1, ⟨by rw [ef]; exact s2, by rw [em]; exact s3⟩, by rw [ef]; exact s4⟩
    apply Classical.byContradiction
    intro q
    have hm : m = 0 := by omega
    subst hm
    apply s1
    rw [← ef]
    unfold plM
    rw [List.filter_eq_nil_iff]
    intro p _
    unfold bitB
    rw [Nat.zero_div]; decide
  · rintro ⟨m, h1, h2, ⟨h3, h4⟩, h5⟩
    exact ⟨bitB m, plM_ne h1 h2, h3, h4, h5⟩
theorem natL_ints {L : List Nat} : natL L = (L.map fun (p : Nat) => (p : Int)).map D.int := by
  unfold natL; rw [List.map_map]; rfl
theorem has_nat {L : List Nat} {p : Nat} : (L.map fun (q : Nat) => (q : Int)).contains (p : Int) = L.contains p := by
  rw [Bool.eq_iff_iff, List.contains_iff_mem, List.contains_iff_mem, List.mem_map]
  constructor
  · rintro ⟨q, hq, e⟩
    have : q = p := by omega
    rw [← this]; exact hq
  · intro h; exact ⟨p, h, rfl⟩
open Classical in
noncomputable def bstT (r : List (List Int)) (hands : Int) (w : Nat) (best : Option Nat) (m : Nat) : Option Nat := if okM r hands w m then (match best with
  | none => some (plM r.length m).length
  | some v => if (plM r.length m).length < v then some (plM r.length m).length else some v) else best
def natN : Option Nat → D
  | none => .non
  | some v => .int (v : Nat)
def natM (best : Option Nat) (k : Int) : D := match best with
  | none => .int k
  | some v => if k < (v : Int) then .int k else .int (v : Nat)
theorem int_blF {b : Bool} {h : Hs} : intD [.bl b] h = .ok (.int (if b = true then 1 else 0)) h := by cases b <;> rfl
abbrev lt60 (r : List (List Int)) (hands : Int) (w : Nat) (best a b c d : Option D) : Ss := [some (dT r), some (.int hands), some (.int (w : Int)), best, a, b, c, d]
theorem shl_oneF {k : Nat} {h : Hs} (hk : k ≤ 100) : shlD (.int 1) (.int k) h = .ok (.int (2 ^ k : Nat)) h := by
  have e := x_sl1 (h := h) (i := 1) (j := k) (by omega) (by omega) (by omega) (by omega)
  simpa using e
theorem try_turn60 {r : List (List Int)} {hands : Int} {w m : Nat} {best : Option Nat} {h : Hs} (hr : 0 < r.length) (hz : r.length ≤ 9) (h1 : 1 ≤ m) (h2 : m < 2 ^ r.length) : k__law_tried_1 (lt60 r hands w (some (natN best)) (some (.int (m : Int))) none none none) h = .nx (lt60 r hands w (some (natN (bstT r hands w best m))) none none none none) h := by
  have ln : lenD [dT r] h = .ok (.int r.length) h := len_dT
  have hc : eComp false [6] (iRng1 (aCons (eB lenD (aCons (eVar 0) aNil)) aNil)) (gVar 6) (tV (eBin (eqD false) (eBin modD (eBin shrD (eVar 4) (eVar 6)) (eC (.int 2))) (eC (.int 1)))) (eVar 6) (lt60 r hands w (some (natN best)) (some (.int (m : Int))) none none none) h = .ok (.lst (natL (plM r.length m))) h := by
    rw [comp_ty (em := fun (k : Nat) => D.int k) (xs := List.range r.length) (h1 := h) (bitB m) (fun (k : Nat) => D.int k) (Itr.rngN (n := r.length) ?_ (by omega)) fun k hk => ?_]
    · rfl
    · unfold lt60
      generalize (r.length : Int) = RL at *
      generalize dT r = T at *
      simp [ln]
    · have e1 : shrD (.int (m : Int)) (.int (k : Int)) h = .ok (.int ((m / 2 ^ k : Nat) : Int)) h := by
        rw [x_shr (by omega), Int.toNat_natCast]
        congr 2
      have e2 : modD (.int ((m / 2 ^ k : Nat) : Int)) (.int 2) h = .ok (.int ((m / 2 ^ k % 2 : Nat) : Int)) h := by
        rw [x_mod, if_pos (by decide)]
        congr 2
      have e3 : eqD false (.int ((m / 2 ^ k % 2 : Nat) : Int)) (.int 1) h = .ok (.bl (bitB m k)) h := by
        have := eq_of D.int (k := 0) (by omega) (n := false) (a := ((m / 2 ^ k % 2 : Nat) : Int)) (b := 1) (h := h)
        rw [this]
        unfold bitB
        simp only [Bool.false_eq_true, if_false]
        congr 2
        rw [decide_eq_decide]; omega
      unfold lt60
      generalize ((m / 2 ^ k % 2 : Nat) : Int) = V2 at *
      generalize ((m / 2 ^ k : Nat) : Int) = V1 at *
      generalize (k : Int) = KI at *
      generalize bitB m k = B at *
      generalize dT r = T at *
      exact ⟨_, rfl, by simp [wipeS, e1, e2, e3], fun _ => by simp [wipeS]⟩
  have hc2 : eComp false [6] (iRow (eVar 5)) (gVar 6) (tV (eBin geD (eB lenD (aCons (eBin ixD (eVar 0) (eVar 6)) aNil)) (eVar 1))) (eVar 6) (lt60 r hands w (some (natN best)) (some (.int (m : Int))) (some (.lst (natL (plM r.length m)))) none none) h = .ok (.lst (natL ((plM r.length m).filter fun p => !frB r hands p))) h := by
    rw [comp_ty (em := fun (k : Nat) => D.int k) (xs := plM r.length m) (h1 := h) (fun p => !frB r hands p) (fun (k : Nat) => D.int k) (Itr.lst rfl) fun k hk => ?_]
    · rfl
    · have hk := List.mem_range.mp (List.mem_filter.mp hk).1
      have ix : ixD (dT r) (.int (k : Int)) h = .ok (iT (r.getD k [])) h := by
        have := ix_dT (r := r) (i := (k : Int)) (h := h) (by omega) (by omega)
        simpa using this
      have l2 : lenD [iT (r.getD k [])] h = .ok (.int (r.getD k []).length) h := len_iT
      have ef : (!frB r hands k) = decide (hands ≤ ((r.getD k []).length : Int)) := by
        unfold frB
        rw [Nat.mod_eq_of_lt hk, Bool.eq_iff_iff]
        simp
      rw [ef]
      unfold lt60
      generalize ((r.getD k []).length : Int) = LL at *
      generalize iT (r.getD k []) = X at *
      generalize dT r = T at *
      exact ⟨_, rfl, by simp [wipeS, ix, l2], fun _ => by simp [wipeS]⟩
  have hfree : (∀ p ∈ plM r.length m, frB r hands p = true) ↔ ((plM r.length m).filter fun p => !frB r hands p) = [] := by
    rw [List.filter_eq_nil_iff]
    constructor
    · intro q p hp
      rw [q p hp]; decide
    · intro q p hp
      have := q p hp
      simpa using this
  by_cases c1 : ∀ p ∈ plM r.length m, frB r hands p = true
  · have c1' := hfree.mp c1
    rw [c1'] at hc2
    have hc2 : _ = R.ok (D.lst []) h := hc2
    have eqn : eqD false (.lst []) (.lst []) h = .ok (.bl true) h := by rw [x_eqNil]; rfl
    have hc3 : eComp false [6] (iRng1 (aCons (eB lenD (aCons (eVar 0) aNil)) aNil)) (gVar 6) tYesF (eBin ixD (eTup (aCons (eTup aNil) (aCons (eTup (aCons (eC (.int 0)) aNil)) aNil))) (eB intD (aCons (eBin (inD false) (eVar 6) (eVar 5)) aNil))) (lt60 r hands w (some (natN best)) (some (.int (m : Int))) (some (.lst (natL (plM r.length m)))) none none) h = .ok (.lst ((marks r.length (bitB m)).map iT)) h := by
      rw [comp_map (em := fun (k : Nat) => D.int k) (xs := List.range r.length) (h1 := h) (fun k => iT (if bitB m k = true then [0] else [])) (Itr.rngN (n := r.length) ?_ (by omega)) fun k hk => ?_]
      · unfold marks
        rw [List.map_map]; rfl
      · unfold lt60
        generalize (r.length : Int) = RL at *
        generalize dT r = T at *
        simp [ln]
      · have i1 : inD false (.int (k : Int)) (.lst (natL (plM r.length m))) h = .ok (.bl (bitB m k)) h := by
          have hrow : rowOf h (.lst (natL (plM r.length m))) = some (((plM r.length m).map fun (p : Nat) => (p : Int)).map D.int) := by
            show some (natL _) = _
            rw [natL_ints]
          rw [in_ints hrow, has_nat]
          have : (plM r.length m).contains k = bitB m k := by
            rw [Bool.eq_iff_iff, List.contains_iff_mem]
            unfold plM
            rw [List.mem_filter]
            exact ⟨fun q => q.2, fun q => ⟨hk, q⟩⟩
          rw [this]
          simp only [Bool.false_eq_true, if_false]
        have i2 := int_blF (b := bitB m k) (h := h)
        have i3 : ixD (.tup [.tup [], .tup [.int 0]]) (.int (if bitB m k = true then 1 else 0)) h = .ok (iT (if bitB m k = true then [0] else [])) h := by
          cases bitB m k <;> rfl
        unfold lt60
        generalize iT (if bitB m k = true then [0] else []) = X at *
        generalize (if bitB m k = true then (1 : Int) else 0) = I2 at *
        generalize bitB m k = B at *
        generalize D.lst (natL (plM r.length m)) = PL at *
        generalize dT r = T at *
        exact ⟨_, rfl, by simp [wipeS, i1, i2, i3]⟩
    have tu : tupleD [.lst ((marks r.length (bitB m)).map iT)] h = .ok (dT (marks r.length (bitB m))) h := by rw [x_tuple (d := .lst _) rfl]; rfl
    have gp := F_law_gaps_eq (r := marks r.length (bitB m)) (i := 0) (h := h) (by rw [marks_len]; exact hr) (by rw [marks_len]; omega)
    have hlen : 0 < (gapsOf (marks r.length (bitB m)) 0).length := by
      rw [gaps_are (by rw [marks_len]; exact hr), List.length_map, List.length_map, places_marks hr]
      exact List.length_pos_iff.mpr (plM_ne h1 h2)
    have mx : maxD [iT (gapsOf (marks r.length (bitB m)) 0)] h = .ok (.int (maxL (gapsOf (marks r.length (bitB m)) 0))) h := max_row (d := iT _) rfl hlen
    have hcov : maxL (gapsOf (marks r.length (bitB m)) 0) ≤ (w : Int) ↔ Cov (marks r.length (bitB m)) 0 w := by
      rw [← gaps_cov (by rw [marks_len]; exact hr)]
      constructor
      · intro q g hg
        have := maxL_le g hg
        omega
      · exact fun q => q _ (maxL_mem (List.length_pos_iff.mp hlen))
    have lp : lenD [.lst (natL (plM r.length m))] h = .ok (.int (plM r.length m).length) h := by
      rw [x_len (d := .lst _) rfl]; unfold natL; rw [List.length_map]
    by_cases c2 : Cov (marks r.length (bitB m)) 0 w
    · have ok : okM r hands w m := ⟨c1, c2⟩
      have c2 := hcov.mpr c2
      have eb : natN (bstT r hands w best m) = natM best ((plM r.length m).length : Int) := by
        unfold bstT
        rw [if_pos ok]
        cases best with
        | none => rfl
        | some v =>
          by_cases q : (plM r.length m).length < v
          · simp [q, natN, natM]
          · simp [q, natN, natM]
      rw [eb]
      clear eb ok c1 hfree hcov
      generalize maxL (gapsOf (marks r.length (bitB m)) 0) = MX at *
      generalize iT (gapsOf (marks r.length (bitB m)) 0) = GP at *
      generalize dT (marks r.length (bitB m)) = MK at *
      generalize D.lst ((marks r.length (bitB m)).map iT) = ML at *
      generalize ((plM r.length m).length : Int) = PN at *
      generalize D.lst (natL (plM r.length m)) = PL at *
      unfold lt60 at *
      generalize (w : Int) = W at *
      generalize dT r = T at *
      obtain ⟨BB, hBB⟩ : ∃ BB : D, natN best = BB := ⟨_, rfl⟩
      rw [hBB] at hc hc2 hc3 ⊢
      cases best with
      | none =>
        have e1 : natM none PN = .int PN := rfl
        rw [e1]
        have hBB : BB = .non := hBB.symm
        subst hBB
        simp [hc, hc2, eqn, hc3, tu, gp, mx, c2, isN_non, lp]
      | some v =>
        have e1 : natM (some v) PN = if PN < (v : Int) then .int PN else .int (v : Nat) := rfl
        rw [e1]
        have hBB : BB = .int (v : Nat) := hBB.symm
        subst hBB
        by_cases q : PN < (v : Int)
        · simp [hc, hc2, eqn, hc3, tu, gp, mx, c2, isN_int, lp, q]
        · simp [hc, hc2, eqn, hc3, tu, gp, mx, c2, isN_int, lp, q]
    · have eb : bstT r hands w best m = best := by
        unfold bstT
        rw [if_neg (fun z => c2 z.2)]
      have c2 : ¬ maxL (gapsOf (marks r.length (bitB m)) 0) ≤ (w : Int) := fun z => c2 (hcov.mp z)
      rw [eb]
      clear eb c1 hfree hcov
      generalize maxL (gapsOf (marks r.length (bitB m)) 0) = MX at *
      generalize iT (gapsOf (marks r.length (bitB m)) 0) = GP at *
      generalize dT (marks r.length (bitB m)) = MK at *
      generalize D.lst ((marks r.length (bitB m)).map iT) = ML at *
      generalize D.lst (natL (plM r.length m)) = PL at *
      generalize natN best = BB at *
      unfold lt60 at *
      generalize (w : Int) = W at *
      generalize dT r = T at *
      simp [hc, hc2, eqn, hc3, tu, gp, mx, c2]
  · have eb : bstT r hands w best m = best := by
      unfold bstT
      rw [if_neg (fun z => c1 z.1)]
    have hne : ((plM r.length m).filter fun p => !frB r hands p) ≠ [] := fun z => c1 (hfree.mpr z)
    rw [eb]
    generalize ((plM r.length m).filter fun p => !frB r hands p) = BAD at *
    have eqn : eqD false (.lst (natL BAD)) (.lst []) h = .ok (.bl false) h := by
      rw [x_eqNil]
      cases BAD with
      | nil => exact absurd rfl hne
      | cons a l => rfl
    generalize D.lst (natL BAD) = BD at *
    generalize D.lst (natL (plM r.length m)) = PL at *
    generalize natN best = BB at *
    unfold lt60 at *
    generalize dT r = T at *
    simp [hc, hc2, eqn]
theorem try_loop60 {r : List (List Int)} {hands : Int} {w : Nat} {h : Hs} (hr : 0 < r.length) (hz : r.length ≤ 9) : ∀ (ms : List Nat) (best : Option Nat), (∀ m ∈ ms, 1 ≤ m ∧ m < 2 ^ r.length) → loopS (gVar 4) k__law_tried_1 (natL ms) (lt60 r hands w (some (natN best)) none none none none) h = .nx (lt60 r hands w (some (natN (ms.foldl (bstT r hands w) best))) none none none none) h
  | [], best, _ => x_loop_nil
  | m :: ms, best, hm => by
    have ih := try_loop60 (hands := hands) (w := w) (h := h) hr hz ms (bstT r hands w best m) fun k hk => hm k (List.mem_cons_of_mem _ hk)
    obtain ⟨h1, h2⟩ := hm m List.mem_cons_self
    rw [show natL (m :: ms) = D.int (m : Int) :: natL ms from rfl, List.foldl_cons]
    exact (loop_nx (s1 := lt60 r hands w (some (natN best)) (some (.int (m : Int))) none none none) rfl (try_turn60 hr hz h1 h2)).trans ih
theorem tried_spec {r : List (List Int)} {hands : Int} {w : Nat} : ∀ (ms done : List Nat) (best : Option Nat), MinO (fun k => ∃ m ∈ done, okM r hands w m ∧ (plM r.length m).length = k) best → MinO (fun k => ∃ m ∈ done ++ ms, okM r hands w m ∧ (plM r.length m).length = k) (ms.foldl (bstT r hands w) best)
  | [], done, best, h => by rw [List.append_nil]; exact h
  | m :: ms, done, best, h => by
    have old : ∀ c ∈ done ++ [m], c ∈ done ∨ c = m := fun c hc => by simpa using hc
    have st : MinO (fun k => ∃ c ∈ done ++ [m], okM r hands w c ∧ (plM r.length c).length = k) (bstT r hands w best m) := by
      unfold bstT
      by_cases ok : okM r hands w m
      · rw [if_pos ok]
        cases best with
        | none =>
          refine ⟨⟨m, by simp, ok, rfl⟩, fun k ⟨c, c1, c2, c3⟩ => ?_⟩
          rcases old c c1 with z | rfl
          · exact absurd ⟨c, z, c2, c3⟩ (h k)
          · omega
        | some v =>
          obtain ⟨⟨c, c1, c2, c3⟩, h2⟩ := h
          show MinO _ (if (plM r.length m).length < v then some (plM r.length m).length else some v)
          by_cases q : (plM r.length m).length < v
          · rw [if_pos q]
            refine ⟨⟨m, by simp, ok, rfl⟩, fun k ⟨c, c1, c2, c3⟩ => ?_⟩
            rcases old c c1 with z | rfl
            · have := h2 k ⟨c, z, c2, c3⟩; omega
            · omega
          · rw [if_neg q]
            refine ⟨⟨c, List.mem_append_left _ c1, c2, c3⟩, fun k ⟨c, c1, c2, c3⟩ => ?_⟩
            rcases old c c1 with z | rfl
            · exact h2 k ⟨c, z, c2, c3⟩
            · omega
      · rw [if_neg ok]
        cases best with
        | none =>
          intro k ⟨c, c1, c2, c3⟩
          rcases old c c1 with z | rfl
          · exact h k ⟨c, z, c2, c3⟩
          · exact ok c2
        | some v =>
          obtain ⟨⟨c, c1, c2, c3⟩, h2⟩ := h
          refine ⟨⟨c, List.mem_append_left _ c1, c2, c3⟩, fun k ⟨c, c1, c2, c3⟩ => ?_⟩
          rcases old c c1 with z | rfl
          · exact h2 k ⟨c, z, c2, c3⟩
          · exact absurd c2 ok
    have := tried_spec ms (done ++ [m]) _ st
    rw [List.append_assoc] at this
    exact this
theorem law_tried60 {r : List (List Int)} {hands : Int} {w : Nat} {h : Hs} (hr : 0 < r.length) (hz : r.length ≤ 9) : ∃ o : Option Nat, MinO (Som r hands w) o ∧ F__law_tried [dT r, .int hands, .int (w : Int)] h = .ok (natN o) h := by
  obtain ⟨ms, hms⟩ : ∃ ms : List Nat, ms = (List.range (2 ^ r.length - 1)).map (· + 1) := ⟨_, rfl⟩
  have hin : ∀ m, m ∈ ms ↔ 1 ≤ m ∧ m < 2 ^ r.length := fun m => by
    rw [hms, List.mem_map]
    constructor
    · rintro ⟨k, hk, rfl⟩
      have := List.mem_range.mp hk
      omega
    · rintro ⟨a, b⟩
      exact ⟨m - 1, List.mem_range.mpr (by omega), by omega⟩
  have sp := tried_spec (r := r) (hands := hands) (w := w) ms [] none (fun k ⟨m, m1, _⟩ => by cases m1)
  rw [List.nil_append] at sp
  refine ⟨ms.foldl (bstT r hands w) none, sp.congr fun k => ?_, ?_⟩
  · rw [← bs_iff hr, bs_mask]
    constructor
    · rintro ⟨m, m1, m2, m3⟩
      exact ⟨m, ((hin m).mp m1).1, ((hin m).mp m1).2, m2, m3⟩
    · rintro ⟨m, a, b, c, d⟩
      exact ⟨m, (hin m).mpr ⟨a, b⟩, c, d⟩
  have lp := try_loop60 (hands := hands) (w := w) (h := h) hr hz ms none fun m hm => (hin m).mp hm
  have ln : lenD [dT r] h = .ok (.int r.length) h := len_dT
  have hp : 2 ^ r.length ≤ 2 ^ 9 := Nat.pow_le_pow_right (by omega) hz
  have hp0 : 0 < 2 ^ r.length := Nat.pow_pos (by omega)
  have sh := shl_oneF (k := r.length) (h := h) (by omega)
  have f1 : sFor (iRng2 (aCons (eC (.int 1)) (aCons (eBin shlD (eC (.int 1)) (eB lenD (aCons (eVar 0) aNil))) aNil))) (gVar 4) k__law_tried_1 (lt60 r hands w (some .non) none none none none) h = .nx (lt60 r hands w (some (natN (ms.foldl (bstT r hands w) none))) none none none none) h := by
    refine Eq.trans (for_rng2 (h1 := h) (m := 1) (n := ((2 ^ r.length : Nat) : Int)) ?_ (by omega) (by omega) (by omega) (by omega)) ?_
    · unfold lt60
      generalize ((2 ^ r.length : Nat) : Int) = P2 at *
      generalize (r.length : Int) = RL at *
      generalize dT r = T at *
      simp [ln, sh]
    · have e : (rgI 1 (((2 ^ r.length : Nat) : Int) - 1).toNat).map D.int = natL ms := by
        rw [hms, show (((2 ^ r.length : Nat) : Int) - 1).toNat = 2 ^ r.length - 1 by omega]
        unfold rgI natL
        rw [List.map_map, List.map_map]
        refine List.map_congr_left fun k _ => ?_
        show D.int (1 + (k : Nat)) = D.int ((k + 1 : Nat) : Int)
        congr 1
        omega
      rw [e]
      exact lp
  have hu : (natN (ms.foldl (bstT r hands w) none)).und h.length = true := by
    cases ms.foldl (bstT r hands w) none <;> rfl
  have hx := exitT_same hu
  clear lp sp
  unfold lt60 at *
  generalize natN (ms.foldl (bstT r hands w) none) = N at *
  generalize (w : Int) = W at *
  generalize dT r = T at *
  simp [F__law_tried, b__law_tried, f1, hx]

end WD
namespace WD
open PySem PySem.Spec PyProof.Rows L2
theorem F_law_whole_eq {d : D} {lo hi : Int} {h : Hs} : F__law_whole [d, .int lo, .int hi] h = .ok (.bl (isW lo hi d)) h := by
  have := F_is_whole_eq (d := d) (lo := lo) (hi := hi) (h := h)
  simpa [F_is_whole, b_is_whole, F__law_whole, b__law_whole] using this
theorem isW_iff {lo hi : Int} {d : D} (h : isW lo hi d = true) : ∃ i, d = .int i ∧ lo ≤ i ∧ i ≤ hi := by
  cases d <;> simp [isW] at h
  exact ⟨_, rfl, h⟩
theorem F_law_is_day_eq {many : Int} {d : D} {h : Hs} (hp : ∀ xs, rowOf h d = some xs → ∀ x ∈ xs, (toP h 63 x).isSome = true) : F__law_is_day [.int many, d] h = .ok (.bl (isDay h many d)) h := by
  cases hr : rowOf h d with
  | none =>
    have h1 := F_is_row_eq (d := d) (h := h)
    simp [F_is_row, b_is_row, hr] at h1
    simp [F__law_is_day, b__law_is_day, isDay, hr, h1]
  | some xs =>
    have h1 := F_is_row_eq (d := d) (h := h)
    simp [F_is_row, b_is_row, hr] at h1
    have hc : eComp false [2] (iRow (eVar 1)) (gVar 2) (tNotF (tV (eCall 3 F__law_whole (aCons (eVar 2) (aCons (eC (.int 0)) (aCons (eBin subD (eVar 0) (eC (.int 1))) aNil)))))) (eVar 2) [some (.int many), some d, none] h = .ok (.lst (xs.filter fun x => !isW 0 (many - 1) x)) h := by
      rw [comp_ty (em := id) (fun x => !isW 0 (many - 1) x) id (by rw [List.map_id]; exact Itr.row rfl hr) fun x hx => ?_]
      · simp
      · simp [F_law_whole_eq]
    have hne := x_neNil (h := h) (ys := xs.filter fun x => !isW 0 (many - 1) x)
    by_cases hz : (2 : Int) < xs.length
    · have hz' : ¬ (xs.length : Int) ≤ 2 := by omega
      simp [F__law_is_day, b__law_is_day, isDay, hr, h1, x_len hr, hz, hz']
    · have hz' : (xs.length : Int) ≤ 2 := by omega
      match xs, hr, hc, hz, hz', h1, hne with
      | [], hr, hc, hz, hz', h1, hne =>
        simp at hc hne
        simp [F__law_is_day, b__law_is_day, isDay, hr, h1, x_len hr, hc, hne, risL]
      | [x], hr, hc, hz, hz', h1, hne =>
        cases hx : isW 0 (many - 1) x with
        | false =>
          have hn : risL 0 (many - 1) [x] = false := by
            cases x <;> simp [risL, isW] at hx ⊢
            exact hx
          simp [hx] at hc hne
          simp [F__law_is_day, b__law_is_day, isDay, hr, h1, x_len hr, hc, hne, hn]
        | true =>
          obtain ⟨i, rfl, hi⟩ := isW_iff hx
          simp [hx] at hc hne
          have hn : risL 0 (many - 1) [.int i] = true := by simp [risL]; omega
          simp [F__law_is_day, b__law_is_day, isDay, hr, h1, x_len hr, hc, hne, hn]
      | [x, y], hr, hc, hz, hz', h1, hne =>
        cases hx : isW 0 (many - 1) x with
        | false =>
          have hn : risL 0 (many - 1) [x, y] = false := by
            cases x <;> simp [risL, isW] at hx ⊢
            intro a b; omega
          simp [hx] at hc hne
          simp [F__law_is_day, b__law_is_day, isDay, hr, h1, x_len hr, hc, hne, hn]
        | true =>
          obtain ⟨i, rfl, hi⟩ := isW_iff hx
          cases hy : isW 0 (many - 1) y with
          | false =>
            have hn : risL 0 (many - 1) [.int i, y] = false := by
              cases y <;> simp [risL, isW] at hy ⊢
              intros; omega
            simp [hx, hy] at hc hne
            simp [F__law_is_day, b__law_is_day, isDay, hr, h1, x_len hr, hc, hne, hn]
          | true =>
            obtain ⟨j, rfl, hj⟩ := isW_iff hy
            have hn : risL 0 (many - 1) [.int i, .int j] = decide (i < j) := by
              simp [risL]; rw [Bool.eq_iff_iff]; simp; omega
            have i0 : ixD d (.int 0) h = .ok (.int i) h := x_ix_row hr rfl
            have i1 : ixD d (.int 1) h = .ok (.int j) h := x_ix_row hr rfl
            simp [hx, hy] at hc hne
            simp [F__law_is_day, b__law_is_day, isDay, hr, h1, x_len hr, hc, hne, hn, i0, i1]
      | _ :: _ :: _ :: _, _, _, hz, hz', _, _ => simp at hz; omega
/-- what the law hands in as a day: nothing live, items that == can look at -/
def OkD (d : D) : Prop := (∀ n, d.und n = true) ∧ ∀ h xs, rowOf h d = some xs → ∀ x ∈ xs, (toP h 63 x).isSome = true
def OkR (d : D) : Prop := (∀ n, d.und n = true) ∧ (∀ h, rowOf h d = rowOf [] d) ∧ ∀ xs, rowOf [] d = some xs → (xs.length ≤ 1000 ∨ 4000 ≤ xs.length) ∧ ∀ x ∈ xs, OkD x
theorem F_law_is_ring_eq {many : Int} {d : D} {h : Hs} (hp : OkR d) : F__law_is_ring [.int many, d] h = .ok (.bl (isRing h many d)) h := by
  have h1 := F_is_row_eq (d := d) (h := h)
  cases hr : rowOf h d with
  | none =>
    simp [F_is_row, b_is_row, hr] at h1
    simp [F__law_is_ring, b__law_is_ring, isRing, hr, h1]
  | some xs =>
    simp [F_is_row, b_is_row, hr] at h1
    have hx : ∀ x ∈ xs, OkD x := ((hp.2.2 xs) ((hp.2.1 h).symm.trans hr)).2
    have hc : eComp false [2] (iRow (eVar 1)) (gVar 2) (tNotF (tV (eCall 2 F__law_is_day (aCons (eVar 0) (aCons (eVar 2) aNil))))) (eVar 2) [some (.int many), some d, none] h = .ok (.lst (xs.filter fun x => !isDay h many x)) h := by
      rw [comp_ty (em := id) (fun x => !isDay h many x) id (by rw [List.map_id]; exact Itr.row rfl hr) fun x hx' => ?_]
      · simp
      · simp [F_law_is_day_eq fun ys => (hx x hx').2 h ys]
    by_cases hz : (1 : Int) ≤ xs.length
    · by_cases hz2 : (xs.length : Int) ≤ 4000
      · have h0 : (0 : Int) < xs.length := by omega
        simp [F__law_is_ring, b__law_is_ring, isRing, hr, h1, x_len hr, hz, hz2, hc, filter_not_empty, h0]
        exact fun _ => by omega
      · simp [F__law_is_ring, b__law_is_ring, isRing, hr, h1, x_len hr, hz, hz2]
    · have h0 : ¬ (0 : Int) < xs.length := by omega
      have hn : xs = [] := List.eq_nil_of_length_eq_zero (by omega)
      simp [F__law_is_ring, b__law_is_ring, isRing, hr, h1, x_len hr, hz, h0, hn]
theorem OkD.tups {xs : List D} (hu : ∀ n, undL n xs = true) (hx : ∀ h, ∀ x ∈ xs, (toP h 63 x).isSome = true) : OkD (.tup xs) := ⟨fun n => by simp [hu], fun h ys e => by cases e; exact hx h⟩
theorem OkD.lsts {xs : List D} (hu : ∀ n, undL n xs = true) (hx : ∀ h, ∀ x ∈ xs, (toP h 63 x).isSome = true) : OkD (.lst xs) := ⟨fun n => by simp [hu], fun h ys e => by cases e; exact hx h⟩
theorem OkD.day {day : List Int} : OkD (iT day) := .tups (fun n => by simp) fun h x hx => by obtain ⟨i, _, rfl⟩ := List.mem_map.mp hx; simp
theorem okD_none {d : D} (hu : ∀ n, d.und n = true) (h : ∀ h, rowOf h d = none) : OkD d := ⟨hu, fun g xs e => by rw [h g] at e; cases e⟩
def oddL : List D := [.non, .bl true, .bl false, .str "3", .str "", .tup [], .lst [], .dic [] [], .tup [.int 1], .lst [.lst [.int 2]], .int (-1), .int (10 ^ 60), .int (0 - 10 ^ 60), .str "abc", .dic [.inl 1] [.int 2], .tup [.non]]
theorem toP_l2 {h : Hs} : (toP h 63 (.lst [.int 2])).isSome = true := by
  have : toP h 63 (.lst [.int 2]) = some (.list [.int 2]) := toP_lst (xs := [.int 2]) rfl (by simp [List.mapM_cons])
  rw [this]; rfl
theorem oddD : ∀ x ∈ oddL, OkD x := by
  intro x hx
  simp only [oddL, List.mem_cons, List.not_mem_nil, or_false] at hx
  rcases hx with rfl | rfl | rfl | rfl | rfl | rfl | rfl | rfl | rfl | rfl | rfl | rfl | rfl | rfl | rfl | rfl
  all_goals first
    | exact okD_none (fun n => rfl) (fun h => rfl)
    | (refine .tups (fun n => rfl) (fun h x hx => ?_); simp only [List.mem_cons, List.not_mem_nil, or_false] at hx <;> first | (subst hx; simp only [toP_int, toP_non, Option.isSome_some]; done) | exact hx.elim)
    | (refine .lsts (fun n => rfl) (fun h x hx => ?_); simp only [List.mem_cons, List.not_mem_nil, or_false] at hx <;> first | (subst hx; exact toP_l2) | exact hx.elim)
theorem F_odd_eq {i : Int} {h : Hs} : ∃ x ∈ oddL, F__law_odd [.int i] h = .ok x h := by
  obtain ⟨e, he, hx⟩ := ix_any (h := h) (d := .lst oddL) (xs := oddL) (i := i % 16) rfl (by omega) (by simp [oddL]; omega)
  refine ⟨e, he, ?_⟩
  simp [oddL] at hx
  simp [F__law_odd, b__law_odd, hx, exitT_same, (oddD e he).1]
theorem OkR.tups {xs : List D} (hl : xs.length ≤ 1000 ∨ 4000 ≤ xs.length) (hx : ∀ x ∈ xs, OkD x) : OkR (.tup xs) := ⟨fun n => by rw [und_tup]; exact undL_iff.mpr fun x h => (hx x h).1 n, fun h => rfl, fun ys e => by cases e; exact ⟨hl, hx⟩⟩
theorem OkR.lsts {xs : List D} (hl : xs.length ≤ 1000 ∨ 4000 ≤ xs.length) (hx : ∀ x ∈ xs, OkD x) : OkR (.lst xs) := ⟨fun n => by rw [und_lst]; exact undL_iff.mpr fun x h => (hx x h).1 n, fun h => rfl, fun ys e => by cases e; exact ⟨hl, hx⟩⟩

end WD
namespace WD
open PySem PySem.Spec PyProof.Rows L2
def putDy (r : List (List Int)) (i : Int) (S : Nat → Bool) (k : Nat) : List Int := if S k = true then sortI (r.getD k [] ++ [i]) else r.getD k []
def putR (r : List (List Int)) (i : Int) (S : Nat → Bool) : List (List Int) := (List.range r.length).map (putDy r i S)
def inS (r : List (List Int)) (L : List Nat) (k : Nat) : Bool := (L.map (· % r.length)).contains k
theorem putR_len {r : List (List Int)} {i : Int} {S : Nat → Bool} : (putR r i S).length = r.length := by simp [putR]
theorem putR_at {r : List (List Int)} {i : Int} {S : Nat → Bool} {k : Nat} (hk : k < r.length) : (putR r i S).getD k [] = putDy r i S k := by
  simp [putR, hk]
theorem sorted_day {many : Int} {d : List Int} (h : DayOk many d) : sortI d = d := by
  refine (sortI_uniq (List.Perm.refl _) ?_).symm
  have h1 := h.1
  have h2 := h.2
  match d, h1, h2 with
  | [], _, _ => exact List.Pairwise.nil
  | [a], _, _ => exact List.pairwise_singleton _ _
  | [a, b], h1, _ =>
    simp only [List.map_cons, List.map_nil, risL, Bool.and_eq_true, decide_eq_true_eq] at h1
    refine List.pairwise_cons.mpr ⟨fun x hx => ?_, List.pairwise_singleton _ _⟩
    have : x = b := by simpa using hx
    omega
  | _ :: _ :: _ :: _, _, h2 => simp at h2
theorem putO_und {r : List (List Int)} {i : Int} {S : Nat → Bool} {n : Nat} : (dT (putR r i S)).und n = true := by
  unfold dT
  rw [und_tup]
  exact undL_map fun x _ => und_iT
def putO (r : List (List Int)) (i : Int) : Option (List Nat) → D
  | none => .non
  | some L => dT (putR r i (inS r L))
theorem zip_range {r : List (List Int)} : r.zipIdx = (List.range r.length).map fun k => (r.getD k [], k) := by
  apply List.ext_getElem
  · simp
  · intro k h1 h2
    simp only [List.length_zipIdx] at h1
    simp [h1]
theorem F_put_eq {r : List (List Int)} {d : D} {hands i : Int} {w n : Nat} {h : Hs} (e : vq h n d = some (ringQ r)) (hn : n ≤ 40) (hr : RingOk 8 r) (hh : hands = 1 ∨ hands = 2) (hi : 0 ≤ i ∧ i ≤ 7) (hw : 1 ≤ w ∧ w ≤ 40) (ho : ∀ day ∈ r, i ∉ day) :
    F_put_in [d, .int hands, .int i, .int (w : Int)] h = .ok (putO r i (bestO r hands w (List.range (min w r.length)) none)) h := by
  have ar := F_asked_ring_eq (many := 8) e hn hr
  have hpos : 0 < r.length := hr.pos
  have hlen : r.length ≤ 4000 := hr.most
  have w1 : F_is_whole [.int hands, .int 1, .int 2] h = .ok (.bl true) h := by
    rw [F_is_whole_eq]
    rcases hh with rfl | rfl <;> rfl
  have w2 : F_is_whole [.int i, .int 0, .int 7] h = .ok (.bl true) h := by
    rw [F_is_whole_eq]
    simp [isW, hi.1, hi.2]
  have w3 : F_is_whole [.int (w : Int), .int 1, .int 40] h = .ok (.bl true) h := by
    rw [F_is_whole_eq]
    have a : (1 : Int) ≤ (w : Int) := by omega
    have b : (w : Int) ≤ 40 := by omega
    simp only [isW, a, b, decide_true, Bool.and_self]
  have fe := F_fewest_eq (r := r) (hands := hands) (w := w) (h := h) hpos hlen (by omega)
  have hc : eComp false [4] (iRow (eVar 0)) (gVar 4) (tV (eBin (inD false) (eVar 2) (eVar 4))) (eVar 4) [some (dT r), some (.int hands), some (.int i), some (.int (w : Int)), none, none, none, none, none] h = .ok (.lst []) h := by
    rw [comp_ty (em := iT) (xs := r) (h1 := h) (fun day => day.contains i) iT (Itr.tup rfl) fun day hday => ?_]
    · have : r.filter (fun day => day.contains i) = [] := by
        rw [List.filter_eq_nil_iff]
        intro day hday q
        exact ho day hday (List.contains_iff_mem.mp q)
      rw [this]; rfl
    · have i1 := in_ints (n := false) (i := i) (d := iT day) (ns := day) (h := h) rfl
      have i1 : inD false (.int i) (iT day) h = .ok (.bl (day.contains i)) h := i1
      generalize day.contains i = B at *
      generalize iT day = X at *
      generalize dT r = T at *
      exact ⟨_, rfl, by simp [-in_ints, wipeS, i1], fun _ => by simp [wipeS]⟩
  have eqn : eqD true (.lst []) (.lst []) h = .ok (.bl false) h := by rw [x_neNil]; rfl
  cases q : bestO r hands w (List.range (min w r.length)) none with
  | none =>
    rw [q] at fe
    have fe : F_fewest_places [dT r, .int hands, .int (w : Int)] h = .ok .non h := fe
    have hx : exitT h D.non h = .ok D.non h := exitT_same rfl
    show _ = R.ok D.non h
    generalize dT r = T at *
    generalize (w : Int) = W at *
    simp [F_put_in, b_put_in, ar, w1, w2, w3, hc, eqn, fe, isN_non, hx]
  | some L =>
    rw [q] at fe
    have fe : F_fewest_places [dT r, .int hands, .int (w : Int)] h = .ok (.lst (natL L)) h := fe
    have ln : lenD [dT r] h = .ok (.int r.length) h := len_dT
    have hc2 : eComp false [7] (iRow (eVar 5)) (gVar 7) tYesF (eBin modD (eVar 7) (eB lenD (aCons (eVar 0) aNil))) [some (dT r), some (.int hands), some (.int i), some (.int (w : Int)), none, some (.lst (natL L)), none, none, none] h = .ok (.lst (natL (L.map (· % r.length)))) h := by
      rw [comp_map (em := fun (p : Nat) => D.int (p : Int)) (xs := L) (h1 := h) (fun p => .int ((p % r.length : Nat) : Int)) (Itr.lst rfl) fun p hp => ?_]
      · unfold natL
        rw [List.map_map]; rfl
      · have m1 : modD (.int (p : Int)) (.int r.length) h = .ok (.int ((p % r.length : Nat) : Int)) h := by
          rw [x_mod, if_pos (by omega)]; rfl
        generalize ((p % r.length : Nat) : Int) = V at *
        generalize (r.length : Int) = RL at *
        generalize D.lst (natL L) = NL at *
        generalize dT r = T at *
        exact ⟨_, rfl, by simp [-x_mod, wipeS, ln, m1]⟩
    have hc3 : eComp false [8, 4] (iEnumerate (aCons (eVar 0) aNil)) (gUn [gVar 8, gVar 4]) tYesF (eB tupleD (aCons (eB (sortedD false) (aCons (eBin addD (eVar 4) (eBin mulD (eTup (aCons (eVar 2) aNil)) (eB intD (aCons (eBin (inD false) (eVar 8) (eVar 6)) aNil)))) aNil)) aNil)) [some (dT r), some (.int hands), some (.int i), some (.int (w : Int)), none, some (.lst (natL L)), some (.lst (natL (L.map (· % r.length)))), none, none] h = .ok (.lst ((putR r i (inS r L)).map iT)) h := by
      have it : Itr (iEnumerate (aCons (eVar 0) aNil)) [some (dT r), some (.int hands), some (.int i), some (.int (w : Int)), none, some (.lst (natL L)), some (.lst (natL (L.map (· % r.length)))), none, none] h h ((List.range r.length).map fun (k : Nat) => D.tup [.int (k : Int), iT (r.getD k [])]) := by
        have := Itr.enT (f := aCons (eVar 0) aNil) (s := [some (dT r), some (.int hands), some (.int i), some (.int (w : Int)), none, some (.lst (natL L)), some (.lst (natL (L.map (· % r.length)))), none, none]) (h := h) (h1 := h) (xs := r.map iT) rfl
        rw [enL_map, zip_range, List.map_map] at this
        exact this
      rw [comp_map (em := fun (k : Nat) => D.tup [.int (k : Int), iT (r.getD k [])]) (xs := List.range r.length) (h1 := h) (fun k => iT (putDy r i (inS r L) k)) it fun k hk => ?_]
      · unfold putR
        rw [List.map_map]; rfl
      · have hk := List.mem_range.mp hk
        have hday : DayOk 8 (r.getD k []) := hr.day _ (by rw [List.getD_eq_getElem?_getD, List.getElem?_eq_getElem hk]; exact List.getElem_mem hk)
        have hrow : rowOf h (.lst (natL (L.map (· % r.length)))) = some (((L.map (· % r.length)).map fun (p : Nat) => (p : Int)).map D.int) := by
          show some (natL _) = _
          rw [natL_ints]
        have i1 : inD false (.int (k : Int)) (.lst (natL (L.map (· % r.length)))) h = .ok (.bl (inS r L k)) h := by
          rw [in_ints hrow, has_nat]
          simp only [Bool.false_eq_true, if_false]
          rfl
        have i2 := int_blF (b := inS r L k) (h := h)
        have i3 : mulD (.tup [.int i]) (.int (if inS r L k = true then 1 else 0)) h = .ok (iT (if inS r L k = true then [i] else [])) h := by
          cases inS r L k with
          | true => exact mul_tup (xs := [.int i]) (k := 1) (by decide) (show 1 * 1 ≤ 16777216 by decide) (by decide)
          | false => exact mul_tup (xs := [.int i]) (k := 0) (by decide) (show 1 * 0 ≤ 16777216 by decide) (by decide)
        have hl2 := hday.2
        have i4 : addD (iT (r.getD k [])) (iT (if inS r L k = true then [i] else [])) h = .ok (iT (r.getD k [] ++ if inS r L k = true then [i] else [])) h := add_iT (by
          have : (if inS r L k = true then [i] else []).length ≤ 1 := by split <;> simp
          omega)
        have i5 : sortedD false [iT (r.getD k [] ++ if inS r L k = true then [i] else [])] h = .ok (iL (sortI (r.getD k [] ++ if inS r L k = true then [i] else []))) h := by rw [x_sorted_ints (d := iT _) rfl]; rfl
        have i6 : tupleD [iL (sortI (r.getD k [] ++ if inS r L k = true then [i] else []))] h = .ok (iT (putDy r i (inS r L) k)) h := by
          rw [tuple_iL]
          unfold putDy
          cases inS r L k with
          | true => rfl
          | false =>
            simp only [Bool.false_eq_true, if_false, List.append_nil]
            rw [sorted_day hday]
        generalize iT (putDy r i (inS r L) k) = X6 at *
        generalize iL (sortI (r.getD k [] ++ if inS r L k = true then [i] else [])) = X5 at *
        generalize iT (r.getD k [] ++ if inS r L k = true then [i] else []) = X4 at *
        generalize iT (if inS r L k = true then [i] else []) = X3 at *
        generalize (if inS r L k = true then (1 : Int) else 0) = X2 at *
        generalize inS r L k = B at *
        generalize D.lst (natL (L.map (· % r.length))) = NL2 at *
        generalize D.lst (natL L) = NL at *
        generalize iT (r.getD k []) = DY at *
        generalize dT r = T at *
        exact ⟨_, rfl, by simp [wipeS, i1, i2, i3, i4, i5, i6]⟩
    have tu : tupleD [.lst ((putR r i (inS r L)).map iT)] h = .ok (dT (putR r i (inS r L))) h := by rw [x_tuple (d := .lst _) rfl]; rfl
    have hx : exitT h (dT (putR r i (inS r L))) h = .ok (dT (putR r i (inS r L))) h := exitT_same putO_und
    show _ = R.ok (dT (putR r i (inS r L))) h
    generalize dT (putR r i (inS r L)) = PR at *
    generalize D.lst ((putR r i (inS r L)).map iT) = PL at *
    generalize D.lst (natL (L.map (· % r.length))) = NL2 at *
    have iN : ∀ b : Bool, isNonD b (.lst (natL L)) .non h = .ok (.bl b) h := fun b => isN_lst
    generalize D.lst (natL L) = NL at *
    generalize dT r = T at *
    generalize (w : Int) = W at *
    simp [F_put_in, b_put_in, ar, w1, w2, w3, hc, eqn, fe, iN, hc2, hc3, tu, hx]

end WD
namespace WD
open PySem PySem.Spec PyProof.Rows L2
theorem day_in {hands i : Int} {d : List Int} (hd : DayOk 8 d) (hl : (d.length : Int) < hands) (hh : hands = 1 ∨ hands = 2) (hi : 0 ≤ i ∧ i ≤ 7) (hn : i ∉ d) : DayOk 8 (sortI (d ++ [i])) ∧ i ∈ sortI (d ++ [i]) ∧ (sortI (d ++ [i])).length = d.length + 1 := by
  have hp := sortI_perm (d ++ [i])
  have hlen : (sortI (d ++ [i])).length = d.length + 1 := by rw [hp.length_eq]; simp
  refine ⟨⟨?_, by omega⟩, hp.mem_iff.mpr (by simp), hlen⟩
  match d, hd, hl, hn with
  | [], _, _, _ =>
    have e : sortI ([] ++ [i]) = [i] := (sortI_uniq (List.Perm.refl _) (List.pairwise_singleton _ _)).symm
    rw [e]
    simp [risL]; omega
  | [a], hd, _, hn =>
    have h1 := hd.1
    simp only [List.map_cons, List.map_nil, risL, Bool.and_eq_true, decide_eq_true_eq] at h1
    have hne : a ≠ i := fun z => hn (by simp [z])
    by_cases c : a < i
    · have hs : [a, i].Pairwise (· ≤ ·) := List.pairwise_cons.mpr ⟨fun x hx => by rcases List.mem_singleton.mp hx with rfl; omega, List.pairwise_singleton _ _⟩
      have e : sortI ([a] ++ [i]) = [a, i] := (sortI_uniq (List.Perm.refl _) hs).symm
      rw [e]
      simp [risL]; omega
    · have hs : [i, a].Pairwise (· ≤ ·) := List.pairwise_cons.mpr ⟨fun x hx => by rcases List.mem_singleton.mp hx with rfl; omega, List.pairwise_singleton _ _⟩
      have e : sortI ([a] ++ [i]) = [i, a] := (sortI_uniq (List.Perm.swap _ _ _) hs).symm
      rw [e]
      simp [risL]; omega
  | _ :: _ :: _, _, hl, _ => simp only [List.length_cons] at hl; omega
abbrev ip60 (f r : List (List Int)) (hands i : Int) (w : Nat) (k m a b : Option D) : Ss := [some (dT f), some (dT r), some (.int hands), some (.int i), some (.int (w : Int)), k, m, a, b]
theorem put_loop60 {f r : List (List Int)} {hands i : Int} {w : Nat} {k : Option D} {S : Nat → Bool} {h : Hs} (hS : ∀ p, p < r.length → S p = true → (((r.getD p []).length : Int) < hands ∧ f.getD p [] = sortI (r.getD p [] ++ [i]) ∧ f.getD p [] ≠ r.getD p [])) (hN : ∀ p, p < r.length → S p = false → f.getD p [] = r.getD p []) (hd : ∀ p, (r.getD p []).length ≤ 2) :
    ∀ (ps : List Nat) (m : Nat), (∀ p ∈ ps, p < r.length) → loopS (gUn [gVar 7, gVar 8]) k__law_is_put_2 (ps.map fun (p : Nat) => D.tup [iT (f.getD p []), iT (r.getD p [])]) (ip60 f r hands i w k (some (.int (m : Int))) none none) h = .nx (ip60 f r hands i w k (some (.int ((m + (ps.filter S).length : Nat) : Int))) none none) h
  | [], m, _ => x_loop_nil
  | p :: ps, m, hp => by
    have hpr := hp p List.mem_cons_self
    have ih := fun m' => put_loop60 (w := w) (k := k) (h := h) hS hN hd ps m' fun q hq => hp q (List.mem_cons_of_mem _ hq)
    rw [List.map_cons]
    have qd : ∀ a b : List Int, eqD true (iT a) (iT b) h = .ok (.bl (!decide (a = b))) h := fun a b => by
      have := eq_of iT (k := 1) (by omega) (n := true) (a := a) (b := b) (h := h)
      simpa using this
    cases hs : S p with
    | false =>
      have ef : (p :: ps).filter S = ps.filter S := List.filter_cons_of_neg (by simp [hs])
      have q1 := qd (f.getD p []) (r.getD p [])
      rw [decide_eq_true (hN p hpr hs)] at q1
      rw [ef]
      refine (loop_nx (s1 := ip60 f r hands i w k (some (.int (m : Int))) (some (iT (f.getD p []))) (some (iT (r.getD p [])))) rfl ?_).trans (ih m)
      have ty : (iT (f.getD p [])).isT = true := rfl
      unfold ip60
      generalize iT (f.getD p []) = FD at *
      generalize iT (r.getD p []) = RD at *
      simp [q1, ty]
    | true =>
      obtain ⟨h1, h2, h3⟩ := hS p hpr hs
      have ef : ((p :: ps).filter S).length = (ps.filter S).length + 1 := by rw [List.filter_cons_of_pos hs]; rfl
      have q1 := qd (f.getD p []) (r.getD p [])
      rw [decide_eq_false h3] at q1
      have q2 := qd (f.getD p []) (sortI (r.getD p [] ++ [i]))
      rw [decide_eq_true h2] at q2
      have ln : lenD [iT (r.getD p [])] h = .ok (.int (r.getD p []).length) h := len_iT
      have hle := hd p
      have ad : addD (iT (r.getD p [])) (.tup [.int i]) h = .ok (iT (r.getD p [] ++ [i])) h := add_iT (ys := [i]) (show (r.getD p []).length + 1 ≤ 16777216 by omega)
      have so : sortedD false [iT (r.getD p [] ++ [i])] h = .ok (iL (sortI (r.getD p [] ++ [i]))) h := by rw [x_sorted_ints (d := iT _) rfl]; rfl
      have tu : tupleD [iL (sortI (r.getD p [] ++ [i]))] h = .ok (iT (sortI (r.getD p [] ++ [i]))) h := tuple_iL
      have em : ((m + (ps.filter S).length + 1 : Nat) : Int) = ((m + 1 + (ps.filter S).length : Nat) : Int) := by omega
      rw [ef, show m + ((ps.filter S).length + 1) = m + (ps.filter S).length + 1 by omega, em]
      refine (loop_nx (s2 := ip60 f r hands i w k (some (.int ((m + 1 : Nat) : Int))) none none) (s1 := ip60 f r hands i w k (some (.int (m : Int))) (some (iT (f.getD p []))) (some (iT (r.getD p [])))) rfl ?_).trans (ih (m + 1))
      have ty : (iT (f.getD p [])).isT = true := rfl
      have e1 : ((m + 1 : Nat) : Int) = (m : Int) + 1 := by omega
      have h1' : ¬ hands ≤ ((r.getD p []).length : Int) := by omega
      rw [e1]
      clear ih ef em
      unfold ip60
      generalize iT (sortI (r.getD p [] ++ [i])) = X5 at *
      generalize iL (sortI (r.getD p [] ++ [i])) = X4 at *
      generalize iT (r.getD p [] ++ [i]) = X3 at *
      generalize ((r.getD p []).length : Int) = LL at *
      generalize iT (f.getD p []) = FD at *
      generalize iT (r.getD p []) = RD at *
      generalize (m : Int) = M at *
      simp [q1, q2, ty, ln, h1', ad, so, tu]
theorem law_is_put60 {r : List (List Int)} {hands i : Int} {w b : Nat} {L : List Nat} {h : Hs} (hr : RingOk 8 r) (hz : r.length ≤ 1000) (hh : hands = 1 ∨ hands = 2) (hi : 0 ≤ i ∧ i ≤ 7) (ho : ∀ day ∈ r, i ∉ day) (hb : b < r.length) (lp : Lop (frB r hands) w b r.length L) :
    F__law_is_put [dT (putR r i (inS r L)), dT r, .int hands, .int i, .int (w : Int), .int (L.length : Int)] h = .ok (.bl true) h := by
  have hpos := hr.pos
  have hday : ∀ p, p < r.length → DayOk 8 (r.getD p []) ∧ i ∉ r.getD p [] := fun p hp => by
    have hm : r.getD p [] ∈ r := by rw [List.getD_eq_getElem?_getD, List.getElem?_eq_getElem hp]; exact List.getElem_mem hp
    exact ⟨hr.day _ hm, ho _ hm⟩
  have hSfree : ∀ p, p < r.length → inS r L p = true → ((r.getD p []).length : Int) < hands := fun p hp hs => by
    have := List.contains_iff_mem.mp hs
    obtain ⟨x, hx, rfl⟩ := List.mem_map.mp this
    have hf := lp.free x hx
    exact of_decide_eq_true hf
  have hS : ∀ p, p < r.length → inS r L p = true → (((r.getD p []).length : Int) < hands ∧ (putR r i (inS r L)).getD p [] = sortI (r.getD p [] ++ [i]) ∧ (putR r i (inS r L)).getD p [] ≠ r.getD p []) := fun p hp hs => by
    have h1 := hSfree p hp hs
    have e : (putR r i (inS r L)).getD p [] = sortI (r.getD p [] ++ [i]) := by
      rw [putR_at hp]; unfold putDy; rw [if_pos hs]
    refine ⟨h1, e, fun z => ?_⟩
    have := (day_in (hday p hp).1 h1 hh hi (hday p hp).2).2.1
    rw [← e, z] at this
    exact (hday p hp).2 this
  have hN : ∀ p, p < r.length → inS r L p = false → (putR r i (inS r L)).getD p [] = r.getD p [] := fun p hp hs => by
    rw [putR_at hp]; unfold putDy; rw [if_neg (by rw [hs]; decide)]
  have hd2 : ∀ p, (r.getD p []).length ≤ 2 := fun p => by
    by_cases hp : p < r.length
    · exact (hday p hp).1.2
    · rw [List.getD_eq_getElem?_getD, List.getElem?_eq_none (by omega)]; simp
  have hok : ∀ p, p < r.length → DayOk 8 ((putR r i (inS r L)).getD p []) := fun p hp => by
    cases hs : inS r L p with
    | false => rw [hN p hp hs]; exact (hday p hp).1
    | true =>
      obtain ⟨h1, h2, _⟩ := hS p hp hs
      rw [h2]; exact (day_in (hday p hp).1 h1 hh hi (hday p hp).2).1
  have hfr : RingOk 8 (putR r i (inS r L)) := ⟨by rw [putR_len]; exact hpos, by rw [putR_len]; omega, fun d hd => by
    obtain ⟨p, hp, rfl⟩ := List.getElem_of_mem hd
    have hp2 : p < r.length := by rw [putR_len] at hp; exact hp
    have := hok p hp2
    rw [List.getD_eq_getElem?_getD, List.getElem?_eq_getElem hp] at this
    exact this⟩
  have hhas : ∀ p, hasAt (putR r i (inS r L)) i p = true ↔ p % r.length ∈ L.map (· % r.length) := fun p => by
    unfold hasAt
    rw [putR_len]
    have hm := Nat.mod_lt p hpos
    have ein : inS r L (p % r.length) = true ↔ p % r.length ∈ L.map (· % r.length) := List.contains_iff_mem
    rw [← ein]
    cases hs : inS r L (p % r.length) with
    | false =>
      rw [hN _ hm hs]
      constructor
      · intro q; exact absurd (List.contains_iff_mem.mp q) (hday _ hm).2
      · intro q; cases q
    | true =>
      obtain ⟨h1, h2, _⟩ := hS _ hm hs
      rw [h2]
      exact ⟨fun _ => rfl, fun _ => List.contains_iff_mem.mpr (day_in (hday _ hm).1 h1 hh hi (hday _ hm).2).2.1⟩
  obtain ⟨cv, cn⟩ := lop_cov lp hb putR_len hhas
  have hcount : ((List.range r.length).filter (inS r L)).length = L.length := by
    rw [← cn, placesN_eq, putR_len]
    congr 1
    refine List.filter_congr fun p hp => ?_
    have hp := List.mem_range.mp hp
    rw [Bool.eq_iff_iff, hhas p, Nat.mod_eq_of_lt hp]
    exact (List.contains_iff_mem).symm.symm
  have ring := F_law_is_ring_eq (many := 8) (d := dT (putR r i (inS r L))) (h := h) (OkR.tups (.inl (by rw [List.length_map, putR_len]; exact hz)) fun x hx => by
    obtain ⟨d, _, rfl⟩ := List.mem_map.mp hx
    exact OkD.day)
  rw [isRing_ok (n := 2) (r := putR r i (inS r L)) vq_dT hfr] at ring
  have lf : lenD [dT (putR r i (inS r L))] h = .ok (.int r.length) h := by rw [len_dT, putR_len]
  have lr : lenD [dT r] h = .ok (.int r.length) h := len_dT
  have lpp := put_loop60 (f := putR r i (inS r L)) (r := r) (hands := hands) (i := i) (w := w) (k := some (.int (L.length : Int))) (S := inS r L) (h := h) hS hN hd2 (List.range r.length) 0 fun p hp => List.mem_range.mp hp
  rw [hcount, Nat.zero_add] at lpp
  have zl : zpL ((putR r i (inS r L)).map iT) (r.map iT) = (List.range r.length).map fun (p : Nat) => D.tup [iT ((putR r i (inS r L)).getD p []), iT (r.getD p [])] := by
    rw [zpL_map]
    apply List.ext_getElem
    · simp [putR_len]
    · intro p h1 h2
      have hp : p < r.length := by simpa using h2
      have hp2 : p < (putR r i (inS r L)).length := by rw [putR_len]; exact hp
      simp [hp, hp2]
  have f2 : sFor (iZip (aCons (eVar 0) (aCons (eVar 1) aNil))) (gUn [gVar 7, gVar 8]) k__law_is_put_2 (ip60 (putR r i (inS r L)) r hands i w (some (.int (L.length : Int))) (some (.int 0)) none none) h = .nx (ip60 (putR r i (inS r L)) r hands i w (some (.int (L.length : Int))) (some (.int (L.length : Int))) none none) h := by
    refine Eq.trans (for_zpT (h1 := h) (xs := (putR r i (inS r L)).map iT) (ys := r.map iT) rfl) ?_
    rw [zl]
    exact lpp
  have gp := F_law_gaps_eq (r := putR r i (inS r L)) (i := i) (h := h) (by rw [putR_len]; exact hpos) (by rw [putR_len]; omega)
  have hLpos : 0 < L.length := List.length_pos_of_mem lp.bmem
  have hlen : 0 < (gapsOf (putR r i (inS r L)) i).length := by
    rw [gaps_are (by rw [putR_len]; exact hpos), List.length_map, List.length_map, cn]; exact hLpos
  have mx : maxD [iT (gapsOf (putR r i (inS r L)) i)] h = .ok (.int (maxL (gapsOf (putR r i (inS r L)) i))) h := max_row (d := iT _) rfl hlen
  have hle : maxL (gapsOf (putR r i (inS r L)) i) ≤ (w : Int) := ((gaps_cov (by rw [putR_len]; exact hpos)).mpr cv) _ (maxL_mem (List.length_pos_iff.mp hlen))
  have ty : (dT (putR r i (inS r L))).isT = true := rfl
  have qL : eqD false (.int (L.length : Int)) (.int (L.length : Int)) h = .ok (.bl true) h := by
    have := eq_of D.int (k := 0) (by omega) (n := false) (a := (L.length : Int)) (b := (L.length : Int)) (h := h)
    simpa using this
  have qR : eqD true (.int (r.length : Int)) (.int (r.length : Int)) h = .ok (.bl false) h := by
    have := eq_of D.int (k := 0) (by omega) (n := true) (a := (r.length : Int)) (b := (r.length : Int)) (h := h)
    simpa using this
  have hx : exitT h (.bl true) h = .ok (.bl true) h := exitT_same rfl
  clear lpp zl hcount cn cv hhas hfr hok hd2 hN hS hSfree hday
  unfold ip60 at f2
  generalize maxL (gapsOf (putR r i (inS r L)) i) = MX at *
  generalize iT (gapsOf (putR r i (inS r L)) i) = GP at *
  generalize dT (putR r i (inS r L)) = FT at *
  generalize (L.length : Int) = LL at *
  generalize (r.length : Int) = RL at *
  generalize dT r = T at *
  generalize (w : Int) = W at *
  simp [F__law_is_put, b__law_is_put, ring, ty, lf, lr, qR, f2, qL, gp, mx, hle, hx]

end WD
namespace WD
open PySem PySem.Spec PyProof.Rows L2
mutual
def tLL : D → D
  | .tup xs => .lst (tLLs xs)
  | .lst xs => .lst (tLLs xs)
  | d => d
def tLLs : List D → List D
  | [] => []
  | x :: xs => tLL x :: tLLs xs
end
theorem tLLs_map : ∀ xs : List D, tLLs xs = xs.map tLL
  | [] => rfl
  | x :: xs => by rw [tLLs, List.map_cons, tLLs_map xs]
/-- nested still rows of depth below n, flat things -/
def rowsC : Nat → D → Bool
  | 0, _ => false
  | n + 1, d => match d with
    | .non | .bl _ | .int _ | .str _ => true
    | .tup xs => xs.all (rowsC n)
    | .lst xs => xs.all (rowsC n)
    | _ => false
theorem rowsC_ints {n : Nat} : ∀ ns : List Int, (ns.map D.int).all (rowsC (n + 1)) = true := fun ns => by
  rw [List.all_map]; exact List.all_eq_true.mpr fun _ _ => rfl
theorem rowsC_dT {n : Nat} {r : List (List Int)} : rowsC (n + 3) (dT r) = true := by
  show (r.map iT).all (rowsC (n + 2)) = true
  rw [List.all_map]
  exact List.all_eq_true.mpr fun d _ => rowsC_ints d
theorem tLL_ints : ∀ ns : List Int, tLLs (ns.map D.int) = ns.map D.int
  | [] => rfl
  | n :: ns => by rw [List.map_cons, tLLs, tLL_ints ns]; rfl
theorem tLL_iT (ns : List Int) : tLL (iT ns) = iL ns := by
  show D.lst (tLLs (ns.map D.int)) = _
  rw [tLL_ints]; rfl
theorem tLL_iL (ns : List Int) : tLL (iL ns) = iL ns := by
  show D.lst (tLLs (ns.map D.int)) = _
  rw [tLL_ints]; rfl
def rLL (r : List (List Int)) : D := .lst (r.map iL)
theorem tLL_dT (r : List (List Int)) : tLL (dT r) = rLL r := by
  show D.lst (tLLs (r.map iT)) = _
  rw [tLLs_map, List.map_map]
  unfold rLL
  congr 1
  exact List.map_congr_left fun d _ => tLL_iT d
theorem tLL_rLL (r : List (List Int)) : tLL (rLL r) = rLL r := by
  show D.lst (tLLs (r.map iL)) = _
  rw [tLLs_map, List.map_map]
  unfold rLL
  congr 1
  exact List.map_congr_left fun d _ => tLL_iL d
theorem rowsC_rLL {n : Nat} {r : List (List Int)} : rowsC (n + 3) (rLL r) = true := by
  show (r.map iL).all (rowsC (n + 2)) = true
  rw [List.all_map]
  exact List.all_eq_true.mpr fun d _ => rowsC_ints d
theorem vq_rLL {h : Hs} {n : Nat} {r : List (List Int)} : vq h (n + 2) (rLL r) = some (ringQ r) := by
  have hm : ∀ s : List (List Int), (s.map iL).mapM (vq h (n + 1)) = some (s.map dayQ) := fun s => by
    induction s with
    | nil => rfl
    | cons d s ih =>
      rw [List.map_cons, List.mapM_cons, ih]
      have : vq h (n + 1) (iL d) = some (dayQ d) := by
        have e : ∀ ns : List Int, (ns.map D.int).mapM (vq h n) = some (ns.map Q.int) := fun ns => by
          induction ns with
          | nil => rfl
          | cons m ns jh =>
            rw [List.map_cons, List.mapM_cons, jh]
            cases n <;> rfl
        rw [vq_row (d := iL d) (xs := d.map D.int) rfl, e]; rfl
      rw [this]; rfl
  rw [vq_row (d := rLL r) (xs := r.map iL) rfl, hm]; rfl
theorem lists_tLL : ∀ (n : Nat) (d : D) (h : Hs), rowsC n d = true → F__law_lists n [d] h = .ok (tLL d) h
  | 0, d, h, e => by cases e
  | n + 1, d, h, e => by
    have hrow : ∀ (xs : List D) (s0 : D), rowOf h s0 = some xs → xs.all (rowsC n) = true → eComp false [1] (iRow (eVar 0)) (gVar 1) tYesF (eCall 1 (F__law_lists n) (aCons (eVar 1) aNil)) [some s0, none] h = .ok (.lst (tLLs xs)) h := fun xs s0 hr ha => by
      rw [comp_map (em := fun x : D => x) (xs := xs) (h1 := h) tLL (by rw [List.map_id']; exact Itr.row rfl hr) fun x hx => ?_]
      · rw [tLLs_map]; rfl
      · have ih := lists_tLL n x h (List.all_eq_true.mp ha x hx)
        exact ⟨_, rfl, by simp [ih]⟩
    cases d with
    | tup xs =>
      have hc := hrow xs (.tup xs) rfl e
      simp [F__law_lists, b__law_lists, hc, tLL]
    | lst xs =>
      have hc := hrow xs (.lst xs) rfl e
      simp [F__law_lists, b__law_lists, hc, tLL]
    | scr xs => cases e
    | loc m => cases e
    | dic ks b => cases e
    | non => simp [F__law_lists, b__law_lists, tLL]
    | bl b => simp [F__law_lists, b__law_lists, tLL]
    | int b => simp [F__law_lists, b__law_lists, tLL]
    | str b =>
      have hr : rowOf h (.str b) = none := rfl
      simp [F__law_lists, b__law_lists, tLL, hr]
/-- a live list of still things -/
theorem lists_loc {n p : Nat} {xs : List D} {h : Hs} (hl : locAt h p = some xs) (ha : xs.all (rowsC n) = true) : F__law_lists (n + 1) [.loc p] h = .ok (.lst (tLLs xs)) h := by
  have hc : eComp false [1] (iRow (eVar 0)) (gVar 1) tYesF (eCall 1 (F__law_lists n) (aCons (eVar 1) aNil)) [some (.loc p), none] h = .ok (.lst (tLLs xs)) h := by
    rw [comp_map (em := fun x : D => x) (xs := xs) (h1 := h) tLL (by rw [List.map_id']; exact Itr.row rfl (show rowOf h (.loc p) = some xs from hl)) fun x hx => ?_]
    · rw [tLLs_map]; rfl
    · have ih := lists_tLL n x h (List.all_eq_true.mp ha x hx)
      exact ⟨_, rfl, by simp [ih]⟩
  have hr : rowOf h (.loc p) = some xs := hl
  simp [F__law_lists, b__law_lists, hc, hl]
theorem handed_eqC {d : D} {x : Int} {h : Hs} (hd : rowsC 45 d = true) : F__law_handed [d, .int x] h = .ok (if x % 2 = 0 then d else tLL d) h := by
  have hl := lists_tLL 45 d h hd
  by_cases hx : x % 2 = 0
  · simp [F__law_handed, b__law_handed, hx]
  · have he : ((x % 2 == 0) : Bool) = false := by simpa using hx
    simp [F__law_handed, b__law_handed, hx, hl]

end WD
namespace WD
open PySem PySem.Spec PyProof.Rows L2
theorem told_ok60 {a b c d v : D} {h : Hs} (e : F_put_in [a, b, c, d] h = .ok v h) (hu : v.und h.length = true) : F__law_told [a, b, c, d] h = .ok v h := by
  have hk : k__law_told_0 [some a, some b, some c, some d, none] h = .rt v h := by
    show t__law_told_0_0 [some a, some b, some c, some d, none] h = .rt v h
    simp [e]
  have hx : exitT h v h = .ok v h := exitT_same hu
  simp [F__law_told, b__law_told, sTry, e, hx]
def flag3 (a b c : Bool) : D := .lst [.bl a, .bl b, .bl c]
theorem told_err60 {a b c d : D} {h : Hs} {nm : Str} (e : F_put_in [a, b, c, d] h = .err ⟨nm, none⟩ h) (hm : nm = "NoRing" ∨ nm = "NoDays" ∨ nm = "NoThing") : F__law_told [a, b, c, d] h = .ok (flag3 (subX nm "NoRing") (subX nm "NoDays") (subX nm "NoThing")) h := by
  have hk : k__law_told_0 [some a, some b, some c, some d, none] h = .er ⟨nm, none⟩ [some a, some b, some c, some d, none] h := by
    show t__law_told_0_0 [some a, some b, some c, some d, none] h = _
    simp [e]
  have hs : subX nm "DaysError" = true := by rcases hm with rfl | rfl | rfl <;> decide
  have hx : exitT h (flag3 (subX nm "NoRing") (subX nm "NoDays") (subX nm "NoThing")) h = .ok (flag3 (subX nm "NoRing") (subX nm "NoDays") (subX nm "NoThing")) h := exitT_same rfl
  unfold flag3 at hx ⊢
  simp [F__law_told, b__law_told, sTry, e, hm, hs, unset, hx]
theorem told_ring60 {a b c d : D} {h : Hs} (hr : isRing h 8 a = false) : F__law_told [a, b, c, d] h = .ok (flag3 true false false) h := by
  have e : F_put_in [a, b, c, d] h = .err ⟨"NoRing", none⟩ h := by
    have e1 := F_is_ring_eq (many := 8) (d := a) (h := h)
    rw [hr] at e1
    simp [F_put_in, b_put_in, F_asked_ring, b_asked_ring, e1]
  exact told_err60 e (.inl rfl)
theorem told_days60 {a b c d : D} {r : List (List Int)} {n : Nat} {h : Hs} (e : vq h n a = some (ringQ r)) (hn : n ≤ 40) (hr : RingOk 8 r) (hw : (isW 1 2 b && (isW 0 7 c && isW 1 40 d)) = false) : F__law_told [a, b, c, d] h = .ok (flag3 false true false) h := by
  have ar := F_asked_ring_eq (many := 8) e hn hr
  have e1 := F_is_whole_eq (d := b) (lo := 1) (hi := 2) (h := h)
  have e2 := F_is_whole_eq (d := c) (lo := 0) (hi := 7) (h := h)
  have e3 := F_is_whole_eq (d := d) (lo := 1) (hi := 40) (h := h)
  have e : F_put_in [a, b, c, d] h = .err ⟨"NoDays", none⟩ h := by
    generalize dT r = T at *
    cases h1 : isW 1 2 b with
    | false =>
      rw [h1] at e1
      simp [F_put_in, b_put_in, ar, e1]
    | true =>
      rw [h1] at e1
      cases h2 : isW 0 7 c with
      | false =>
        rw [h2] at e2
        simp [F_put_in, b_put_in, ar, e1, e2]
      | true =>
        rw [h2] at e2
        cases h3 : isW 1 40 d with
        | false =>
          rw [h3] at e3
          simp [F_put_in, b_put_in, ar, e1, e2, e3]
        | true => rw [h1, h2, h3] at hw; cases hw
  exact told_err60 e (.inr (.inl rfl))
theorem told_thing60 {r : List (List Int)} {hands i : Int} {w : Nat} {day : List Int} {h : Hs} (hr : RingOk 8 r) (hh : hands = 1 ∨ hands = 2) (hi : 0 ≤ i ∧ i ≤ 7) (hw : 1 ≤ w ∧ w ≤ 40) (hd : day ∈ r) (him : i ∈ day) : F__law_told [dT r, .int hands, .int i, .int (w : Int)] h = .ok (flag3 false false true) h := by
  have ar := F_asked_ring_eq (many := 8) (x := dT r) (r := r) (h := h) (n := 2) vq_dT (by omega) hr
  have w1 : F_is_whole [.int hands, .int 1, .int 2] h = .ok (.bl true) h := by
    rw [F_is_whole_eq]
    rcases hh with rfl | rfl <;> rfl
  have w2 : F_is_whole [.int i, .int 0, .int 7] h = .ok (.bl true) h := by
    rw [F_is_whole_eq]
    simp [isW, hi.1, hi.2]
  have w3 : F_is_whole [.int (w : Int), .int 1, .int 40] h = .ok (.bl true) h := by
    rw [F_is_whole_eq]
    have a : (1 : Int) ≤ (w : Int) := by omega
    have b : (w : Int) ≤ 40 := by omega
    simp only [isW, a, b, decide_true, Bool.and_self]
  have hc : eComp false [4] (iRow (eVar 0)) (gVar 4) (tV (eBin (inD false) (eVar 2) (eVar 4))) (eVar 4) [some (dT r), some (.int hands), some (.int i), some (.int (w : Int)), none, none, none, none, none] h = .ok (.lst ((r.filter fun day => day.contains i).map iT)) h := by
    rw [comp_ty (em := iT) (xs := r) (h1 := h) (fun day => day.contains i) iT (Itr.tup rfl) fun day hday => ?_]
    · rfl
    · have i1 := in_ints (n := false) (i := i) (d := iT day) (ns := day) (h := h) rfl
      have i1 : inD false (.int i) (iT day) h = .ok (.bl (day.contains i)) h := i1
      generalize day.contains i = B at *
      generalize iT day = X at *
      generalize dT r = T at *
      exact ⟨_, rfl, by simp [-in_ints, wipeS, i1], fun _ => by simp [wipeS]⟩
  have hm : day ∈ r.filter fun day => day.contains i := List.mem_filter.mpr ⟨hd, List.contains_iff_mem.mpr him⟩
  have eqn : eqD true (.lst ((r.filter fun day => day.contains i).map iT)) (.lst []) h = .ok (.bl true) h := by
    rw [x_neNil]
    cases q : r.filter (fun day => day.contains i) with
    | nil => rw [q] at hm; cases hm
    | cons a l => rfl
  have e : F_put_in [dT r, .int hands, .int i, .int (w : Int)] h = .err ⟨"NoThing", none⟩ h := by
    generalize D.lst ((r.filter fun day => day.contains i).map iT) = F at *
    generalize dT r = T at *
    generalize (w : Int) = W at *
    simp [F_put_in, b_put_in, ar, w1, w2, w3, hc, eqn]
  exact told_err60 e (.inr (.inr rfl))
theorem set_atF {G : Hs} {i p : Nat} {xs : List D} {y : D} (e : p = G.length) (hi : i < xs.length) : setD (.loc p) (.int (i : Nat)) y (G ++ [.lst xs]) = some (G ++ [.lst (xs.set i y)]) := by
  have hl : locAt (G ++ [.lst xs]) p = some xs := by rw [e]; exact locAt_end
  simp only [setD, hl, ixN_in (n := xs.length) (i := (i : Int)) (by omega) (by omega), Int.toNat_natCast]
  rw [e]; simp
theorem exit_two {A B X Y : O} {u : Hs} {v : D} (hB : B.und (u.length + 2) = true) (hY : Y.und (u.length + 2) = true) (hv : v.und (u.length + 2) = true) : exitT (A :: (u ++ [X])) v (B :: (u ++ [Y])) = .ok v (B :: (u ++ [Y])) := by
  have hl : (A :: (u ++ [X])).length = u.length + 2 := by simp
  have hl2 : (B :: (u ++ [Y])).length = u.length + 2 := by simp
  have tr : TruncOk (A :: (u ++ [X])).length (A :: (u ++ [X])) (B :: (u ++ [Y])) := fun i o hi e => by
    rw [hl] at hi ⊢
    cases i with
    | zero =>
      cases e; exact .inr hB
    | succ i =>
      rw [List.getElem?_cons_succ] at e ⊢
      by_cases c : i < u.length
      · rw [List.getElem?_append_left c] at e ⊢
        exact .inl e
      · have : i = u.length := by omega
        subst this
        simp at e
        subst e
        exact .inr hY
  unfold exitT frz1
  rw [if_pos tr, hl, if_pos hv]
  have : List.take (u.length + 2) (B :: (u ++ [Y])) = B :: (u ++ [Y]) := by
    rw [← hl2]; exact List.take_length
  rw [this]
def badR : List D := [.non, .tup [], .tup [.tup [.int 0, .int 8]], .lst [.lst [.int 1, .int 0]], .tup (List.replicate 4001 (.tup [])), .str "ab", .int 5, .tup [.tup [.int 0], .non]]
theorem badR_no {x : D} (hx : x ∈ badR) {h : Hs} : isRing h 8 x = false ∧ ∀ n, x.und n = true := by
  unfold badR at hx
  simp only [List.mem_cons, List.not_mem_nil, or_false] at hx
  rcases hx with rfl | rfl | rfl | rfl | rfl | rfl | rfl | rfl
  · exact ⟨rfl, fun _ => rfl⟩
  · exact ⟨rfl, fun _ => rfl⟩
  · exact ⟨rfl, fun _ => rfl⟩
  · exact ⟨rfl, fun _ => rfl⟩
  · refine ⟨?_, fun n => ?_⟩
    · have hr : rowOf h (.tup (List.replicate 4001 (.tup []))) = some (List.replicate 4001 (D.tup [])) := rfl
      unfold isRing
      rw [hr]
      have : ((List.replicate 4001 (D.tup [])).length : Int) = 4001 := by rw [List.length_replicate]; rfl
      simp only [this]
      simp
    · rw [und_tup, undL_iff]
      intro y hy
      rw [(List.mem_replicate.mp hy).2]; rfl
  · exact ⟨rfl, fun _ => rfl⟩
  · exact ⟨rfl, fun _ => rfl⟩
  · exact ⟨rfl, fun _ => rfl⟩

end WD
namespace WD
open PySem PySem.Spec PyProof.Rows L2
theorem odd_isW60 : ∀ o ∈ oddL, isW 1 2 o = false ∧ isW 0 7 o = false ∧ isW 1 40 o = false ∧ ∀ n, o.und n = true := by
  intro o ho
  simp only [oddL, List.mem_cons, List.not_mem_nil, or_false] at ho
  rcases ho with rfl | rfl | rfl | rfl | rfl | rfl | rfl | rfl | rfl | rfl | rfl | rfl | rfl | rfl | rfl | rfl
  all_goals exact ⟨by decide +kernel, by decide +kernel, by decide +kernel, fun _ => rfl⟩
theorem rep_oneF {α : Type} {x : α} : ∀ k : Nat, (List.replicate k [x]).flatten = List.replicate k x
  | 0 => rfl
  | k + 1 => by rw [List.replicate_succ, List.flatten_cons, rep_oneF k, List.replicate_succ]; rfl
abbrev wr60 (p : Nat) (a b : Option D) : Ss := [some (.loc 0), some (.loc p), a, b]
theorem law_wrong60 {dk : List Int} {x : Int} {u : Hs} {p : Nat} {a0 a1 a2 a3 : D} (hp : p = u.length + 1) (hu0 : ∀ n, a0.und n = true) (hu1 : ∀ n, a1.und n = true) (hu2 : ∀ n, a2.und n = true) (hu3 : ∀ n, a3.und n = true) :
    ∃ b0 b1 b2 b3 due : D, F__law_wrong [.loc 0, .loc p] (.lst ((dk ++ [x]).map D.int) :: (u ++ [.lst [a0, a1, a2, a3]])) = .ok due (.lst (dk.map D.int) :: (u ++ [.lst [b0, b1, b2, b3]])) ∧
      ((due = flag3 true false false ∧ b0 ∈ badR) ∨ (due = flag3 false true false ∧ b0 = a0 ∧ ((b1 = a1 ∧ b2 = a2 ∧ isW 1 40 b3 = false) ∨ (b1 = a1 ∧ isW 0 7 b2 = false) ∨ isW 1 2 b1 = false))) := by
  have pop := pop_head (ds := dk) (d := x) (t := u ++ [.lst [a0, a1, a2, a3]])
  have lt0 : lstOf (.lst ((dk ++ [x]).map D.int) :: (u ++ [.lst [a0, a1, a2, a3]])) (.loc 0) = some ((dk ++ [x]).map D.int) := rfl
  obtain ⟨H, hH⟩ : ∃ H : Hs, H = .lst ((dk ++ [x]).map D.int) :: (u ++ [.lst [a0, a1, a2, a3]]) := ⟨_, rfl⟩
  obtain ⟨B, hB⟩ : ∃ B : O, B = .lst (dk.map D.int) := ⟨_, rfl⟩
  have hBu : ∀ n, B.und n = true := fun n => by rw [hB]; exact und_O_ints
  have hp2 : p = (B :: u).length := by rw [hp]; rfl
  have st : ∀ (xs : List D) (k : Nat) (y : D), k < xs.length → setD (.loc p) (.int (k : Nat)) y (B :: (u ++ [.lst xs])) = some (B :: (u ++ [.lst (xs.set k y)])) := fun xs k y hk => by
    have := set_atF (G := B :: u) (xs := xs) (i := k) (y := y) hp2 hk
    exact this
  have ex : ∀ (ys : List D) (v : D), (∀ y ∈ ys, ∀ n, y.und n = true) → (∀ n, v.und n = true) → exitT H v (B :: (u ++ [.lst ys])) = .ok v (B :: (u ++ [.lst ys])) := fun ys v hy hv => by
    rw [hH]
    exact exit_two (hBu _) (undL_iff.mpr fun y h => hy y h _) (hv _)
  rw [← hB] at pop
  rw [← hH] at pop lt0 ⊢
  rw [← hB]
  obtain ⟨G, hG⟩ : ∃ G : Hs, G = B :: (u ++ [.lst [a0, a1, a2, a3]]) := ⟨_, rfl⟩
  rw [← hG] at pop
  have m4 : modD (.int x) (.int 4) G = .ok (.int (x % 4)) G := by rw [x_mod, if_pos (by decide)]
  have d4 : ∀ G : Hs, fdivD (.int x) (.int 4) G = .ok (.int (x / 4)) G := fun G => by simp
  have hw : x % 4 = 0 ∨ x % 4 = 1 ∨ x % 4 = 2 ∨ x % 4 = 3 := by omega
  have st4 := fun k y hk => st [a0, a1, a2, a3] k y hk
  rw [← hG] at st4
  obtain ⟨o, ho, eo⟩ := F_odd_eq (i := x / 64) (h := G)
  obtain ⟨o1, o2, o3, ou⟩ := odd_isW60 o ho
  have m6 : modD (.int (x / 4)) (.int 6) G = .ok (.int (x / 4 % 6)) G := by rw [x_mod, if_pos (by decide)]
  have d64 : fdivD (.int x) (.int 64) G = .ok (.int (x / 64)) G := by simp
  rcases hw with c | c | c | c
  · -- the ring
    rw [c] at m4
    obtain ⟨y0, hy0, ey⟩ := ix_any (h := G) (d := .lst badR) (xs := badR) (i := x / 4 % 8) rfl (by omega) (by simp [badR]; omega)
    have m8 : modD (.int (x / 4)) (.int 8) G = .ok (.int (x / 4 % 8)) G := by rw [x_mod, if_pos (by decide)]
    have mr : mulD (.tup [.tup []]) (.int 4001) G = .ok (.tup (List.replicate 4001 (.tup []))) G := by
      rw [mul_tup (xs := [.tup []]) (k := 4001) (by decide) (show 1 * 4001 ≤ 16777216 by decide) (by decide)]
      rw [show (4001 : Int).toNat = 4001 from rfl, rep_oneF]
    obtain ⟨_, yu⟩ := badR_no hy0 (h := G)
    obtain ⟨G1, hG1⟩ : ∃ G1 : Hs, G1 = B :: (u ++ [.lst [y0, a1, a2, a3]]) := ⟨_, rfl⟩
    have s0 := st4 0 y0 (by simp)
    have s0 : setD (.loc p) (.int 0) y0 G = some G1 := by rw [hG1]; exact s0
    obtain ⟨j, hj, ej⟩ : ∃ j : Nat, (1 ≤ j ∧ j ≤ 3) ∧ 1 + x / 32 % 3 = (j : Int) := ⟨(1 + x / 32 % 3).toNat, by omega, by omega⟩
    obtain ⟨aj, haj⟩ : ∃ aj : D, [y0, a1, a2, a3][j]? = some aj ∧ ∀ n, aj.und n = true := by
      have : j = 1 ∨ j = 2 ∨ j = 3 := by omega
      rcases this with rfl | rfl | rfl
      · exact ⟨a1, rfl, hu1⟩
      · exact ⟨a2, rfl, hu2⟩
      · exact ⟨a3, rfl, hu3⟩
    have hat1 : locAt G1 p = some [y0, a1, a2, a3] := by
      rw [hG1, hp2]
      exact locAt_end (g := B :: u)
    have ix1 : ixD (.loc p) (.int (j : Int)) G1 = .ok aj G1 := by
      refine x_ix_row (d := .loc p) hat1 ?_
      rw [atI_in (i := (j : Int)) (by omega) (by simp; omega)]
      have := haj.1
      rw [List.getElem?_eq_getElem (by simp; omega)] at this
      rw [← this]; rfl
    obtain ⟨z, hz, ez⟩ := ix_any (h := G1) (d := .lst [.int 0, aj]) (xs := [.int 0, aj]) (i := x / 96 % 2) rfl (by omega) (by simp; omega)
    have zu : ∀ n, z.und n = true := fun n => by
      simp only [List.mem_cons, List.not_mem_nil, or_false] at hz
      rcases hz with rfl | rfl
      · rfl
      · exact haj.2 n
    have sj : setD (.loc p) (.int (j : Int)) z G1 = some (B :: (u ++ [.lst ([y0, a1, a2, a3].set j z)])) := by
      rw [hG1]
      exact st [y0, a1, a2, a3] j z (by simp; omega)
    have m3 : modD (.int (x / 32)) (.int 3) G1 = .ok (.int (x / 32 % 3)) G1 := by rw [x_mod, if_pos (by decide)]
    have m2 : modD (.int (x / 96)) (.int 2) G1 = .ok (.int (x / 96 % 2)) G1 := by rw [x_mod, if_pos (by decide)]
    have hshape : ∃ b1 b2 b3 : D, [y0, a1, a2, a3].set j z = [y0, b1, b2, b3] ∧ ∀ y ∈ [y0, b1, b2, b3], ∀ n, y.und n = true := by
      have all : ∀ b1 b2 b3 : D, (∀ n, b1.und n = true) → (∀ n, b2.und n = true) → (∀ n, b3.und n = true) → ∀ y ∈ [y0, b1, b2, b3], ∀ n, y.und n = true := fun b1 b2 b3 g1 g2 g3 y hy n => by
        simp only [List.mem_cons, List.not_mem_nil, or_false] at hy
        rcases hy with rfl | rfl | rfl | rfl
        · exact yu n
        · exact g1 n
        · exact g2 n
        · exact g3 n
      have : j = 1 ∨ j = 2 ∨ j = 3 := by omega
      rcases this with rfl | rfl | rfl
      · exact ⟨z, a2, a3, rfl, all _ _ _ zu hu2 hu3⟩
      · exact ⟨a1, z, a3, rfl, all _ _ _ hu1 zu hu3⟩
      · exact ⟨a1, a2, z, rfl, all _ _ _ hu1 hu2 zu⟩
    obtain ⟨b1, b2, b3, eb, ub⟩ := hshape
    rw [eb] at sj
    refine ⟨y0, b1, b2, b3, flag3 true false false, ?_, .inl ⟨rfl, hy0⟩⟩
    have hx := ex [y0, b1, b2, b3] (flag3 true false false) ub (fun _ => rfl)
    have f2a0 : t__law_wrong_2a_0 (wr60 p (some (.int x)) (some (.int 0))) G = .nx (wr60 p (some (.int x)) (some (.int 0))) G1 := by
      have ey : ixD (.lst [.non, .tup [], .tup [.tup [.int 0, .int 8]], .lst [.lst [.int 1, .int 0]], .tup (List.replicate 4001 (.tup [])), .str "ab", .int 5, .tup [.tup [.int 0], .non]]) (.int (x / 4 % 8)) G = .ok y0 G := ey
      have d4 := d4 G
      unfold wr60
      generalize D.tup (List.replicate 4001 (.tup [])) = R4 at *
      simp [d4, m8, mr, ey, s0]
    have f2a1 : t__law_wrong_2a_1 (wr60 p (some (.int x)) (some (.int 0))) G1 = .nx (wr60 p (some (.int x)) (some (.int 0))) (B :: (u ++ [.lst [y0, b1, b2, b3]])) := by
      unfold wr60
      generalize B :: (u ++ [O.lst [y0, b1, b2, b3]]) = G2 at *
      generalize (j : Int) = J at *
      simp [m3, ej, ix1, m2, ez, sj]
    unfold flag3 at hx ⊢
    generalize B :: (u ++ [O.lst [y0, b1, b2, b3]]) = G2 at *
    unfold wr60 at *
    simp only [F__law_wrong, b__law_wrong, x_run, x_seq]
    simp [-t__law_wrong_2a_0, -t__law_wrong_2a_1, pop, lt0, m4, f2a0, f2a1, hx]
  · rw [c] at m4
    obtain ⟨z, hz, ez⟩ := ix_any (h := G) (d := .lst [.int 0, .int 3, .bl true, .non, .str "1", o]) (xs := [.int 0, .int 3, .bl true, .non, .str "1", o]) (i := x / 4 % 6) rfl (by omega) (by simp; omega)
    have hz2 : isW 1 2 z = false ∧ ∀ n, z.und n = true := by
      simp only [List.mem_cons, List.not_mem_nil, or_false] at hz
      rcases hz with rfl | rfl | rfl | rfl | rfl | rfl
      · exact ⟨rfl, fun _ => rfl⟩
      · exact ⟨rfl, fun _ => rfl⟩
      · exact ⟨rfl, fun _ => rfl⟩
      · exact ⟨rfl, fun _ => rfl⟩
      · exact ⟨rfl, fun _ => rfl⟩
      · exact ⟨o1, ou⟩
    refine ⟨a0, z, a2, a3, flag3 false true false, ?_, .inr ⟨rfl, rfl, .inr (.inr hz2.1)⟩⟩
    have s1 := st4 1 z (by simp)
    have s1 : setD (.loc p) (.int 1) z G = some (B :: (u ++ [.lst [a0, z, a2, a3]])) := s1
    have hx := ex [a0, z, a2, a3] (flag3 false true false) (fun y hy n => by
      simp only [List.mem_cons, List.not_mem_nil, or_false] at hy
      rcases hy with rfl | rfl | rfl | rfl
      · exact hu0 n
      · exact hz2.2 n
      · exact hu2 n
      · exact hu3 n) (fun _ => rfl)
    have d4 := d4 G
    unfold flag3 at hx ⊢
    clear st st4 ex hB hH hG hBu
    generalize B :: (u ++ [O.lst [a0, z, a2, a3]]) = G2 at *
    simp [F__law_wrong, b__law_wrong, pop, lt0, m4, d4, m6, d64, eo, ez, s1, hx]
  · rw [c] at m4
    obtain ⟨z, hz, ez⟩ := ix_any (h := G) (d := .lst [.int 8, .int (-1), .bl false, .non, .str "1", o]) (xs := [.int 8, .int (-1), .bl false, .non, .str "1", o]) (i := x / 4 % 6) rfl (by omega) (by simp; omega)
    have hz2 : isW 0 7 z = false ∧ ∀ n, z.und n = true := by
      simp only [List.mem_cons, List.not_mem_nil, or_false] at hz
      rcases hz with rfl | rfl | rfl | rfl | rfl | rfl
      · exact ⟨rfl, fun _ => rfl⟩
      · exact ⟨rfl, fun _ => rfl⟩
      · exact ⟨rfl, fun _ => rfl⟩
      · exact ⟨rfl, fun _ => rfl⟩
      · exact ⟨rfl, fun _ => rfl⟩
      · exact ⟨o2, ou⟩
    refine ⟨a0, a1, z, a3, flag3 false true false, ?_, .inr ⟨rfl, rfl, .inr (.inl ⟨rfl, hz2.1⟩)⟩⟩
    have s1 := st4 2 z (by simp)
    have s1 : setD (.loc p) (.int 2) z G = some (B :: (u ++ [.lst [a0, a1, z, a3]])) := s1
    have hx := ex [a0, a1, z, a3] (flag3 false true false) (fun y hy n => by
      simp only [List.mem_cons, List.not_mem_nil, or_false] at hy
      rcases hy with rfl | rfl | rfl | rfl
      · exact hu0 n
      · exact hu1 n
      · exact hz2.2 n
      · exact hu3 n) (fun _ => rfl)
    have d4 := d4 G
    unfold flag3 at hx ⊢
    clear st st4 ex hB hH hG hBu
    generalize B :: (u ++ [O.lst [a0, a1, z, a3]]) = G2 at *
    simp [F__law_wrong, b__law_wrong, pop, lt0, m4, d4, m6, d64, eo, ez, s1, hx]
  · rw [c] at m4
    obtain ⟨z, hz, ez⟩ := ix_any (h := G) (d := .lst [.int 0, .int 41, .bl true, .non, .str "1", o]) (xs := [.int 0, .int 41, .bl true, .non, .str "1", o]) (i := x / 4 % 6) rfl (by omega) (by simp; omega)
    have hz2 : isW 1 40 z = false ∧ ∀ n, z.und n = true := by
      simp only [List.mem_cons, List.not_mem_nil, or_false] at hz
      rcases hz with rfl | rfl | rfl | rfl | rfl | rfl
      · exact ⟨rfl, fun _ => rfl⟩
      · exact ⟨rfl, fun _ => rfl⟩
      · exact ⟨rfl, fun _ => rfl⟩
      · exact ⟨rfl, fun _ => rfl⟩
      · exact ⟨rfl, fun _ => rfl⟩
      · exact ⟨o3, ou⟩
    refine ⟨a0, a1, a2, z, flag3 false true false, ?_, .inr ⟨rfl, rfl, .inl ⟨rfl, rfl, hz2.1⟩⟩⟩
    have s1 := st4 3 z (by simp)
    have s1 : setD (.loc p) (.int 3) z G = some (B :: (u ++ [.lst [a0, a1, a2, z]])) := s1
    have hx := ex [a0, a1, a2, z] (flag3 false true false) (fun y hy n => by
      simp only [List.mem_cons, List.not_mem_nil, or_false] at hy
      rcases hy with rfl | rfl | rfl | rfl
      · exact hu0 n
      · exact hu1 n
      · exact hu2 n
      · exact hz2.2 n) (fun _ => rfl)
    have d4 := d4 G
    unfold flag3 at hx ⊢
    clear st st4 ex hB hH hG hBu
    generalize B :: (u ++ [O.lst [a0, a1, a2, z]]) = G2 at *
    simp [F__law_wrong, b__law_wrong, pop, lt0, m4, d4, m6, d64, eo, ez, s1, hx]

end WD
namespace WD
open PySem PySem.Spec PyProof.Rows L2
def othN (i : Int) : List Nat := (List.range 8).filter fun (k : Nat) => !decide ((k : Int) = i)
theorem othN_facts {i : Int} (hi : 0 ≤ i ∧ i ≤ 7) : (othN i).length = 7 ∧ (othN i).Pairwise (· < ·) ∧ ∀ k ∈ othN i, k < 8 ∧ (k : Int) ≠ i := by
  refine ⟨?_, List.Pairwise.filter _ List.pairwise_lt_range, fun k hk => ?_⟩
  · have : i = 0 ∨ i = 1 ∨ i = 2 ∨ i = 3 ∨ i = 4 ∨ i = 5 ∨ i = 6 ∨ i = 7 := by omega
    rcases this with rfl | rfl | rfl | rfl | rfl | rfl | rfl | rfl <;> rfl
  · obtain ⟨h1, h2⟩ := List.mem_filter.mp hk
    refine ⟨List.mem_range.mp h1, fun z => ?_⟩
    simp [z] at h2
def anewO (i first : Int) (d : Int) : Int := (((othN i).getD (first + d).toNat 0 : Nat) : Int)
theorem anewO_bd {i first d : Int} (hi : 0 ≤ i ∧ i ≤ 7) (hf : 0 ≤ first ∧ first ≤ 2) (hd : 0 ≤ d ∧ d ≤ 4) : 0 ≤ anewO i first d ∧ anewO i first d ≤ 7 ∧ anewO i first d ≠ i := by
  obtain ⟨h1, h2, h3⟩ := othN_facts hi
  have hl : (first + d).toNat < (othN i).length := by omega
  have hm : (othN i).getD (first + d).toNat 0 ∈ othN i := by
    rw [List.getD_eq_getElem?_getD, List.getElem?_eq_getElem hl]; exact List.getElem_mem hl
  have := h3 _ hm
  unfold anewO
  omega
theorem anewO_lt {i first a b : Int} (hi : 0 ≤ i ∧ i ≤ 7) (hf : 0 ≤ first ∧ first ≤ 2) (ha : 0 ≤ a) (hab : a < b) (hb : b ≤ 4) : anewO i first a < anewO i first b := by
  obtain ⟨h1, h2, h3⟩ := othN_facts hi
  have la : (first + a).toNat < (othN i).length := by omega
  have lb : (first + b).toNat < (othN i).length := by omega
  have := List.pairwise_iff_getElem.mp h2 (first + a).toNat (first + b).toNat la lb (by omega)
  unfold anewO
  rw [List.getD_eq_getElem?_getD, List.getElem?_eq_getElem la, List.getD_eq_getElem?_getD, List.getElem?_eq_getElem lb]
  simp only [Option.getD_some]
  omega
def anewD (i first : Int) (r : List (List Int)) : List (List Int) := r.map fun day => day.map (anewO i first)
theorem day_bd {m : Int} {day : List Int} (hd : DayOk m day) (hm : m ≤ 5) : ∀ d ∈ day, 0 ≤ d ∧ d ≤ 4 := by
  have h1 := hd.1
  have h2 := hd.2
  match day, h1, h2 with
  | [], _, _ => intro d h; cases h
  | [a], h1, _ =>
    simp only [List.map_cons, List.map_nil, risL, Bool.and_eq_true, decide_eq_true_eq] at h1
    intro d h
    rcases List.mem_singleton.mp h with rfl
    omega
  | [a, b], h1, _ =>
    simp only [List.map_cons, List.map_nil, risL, Bool.and_eq_true, decide_eq_true_eq] at h1
    intro d h
    simp only [List.mem_cons, List.not_mem_nil, or_false] at h
    rcases h with rfl | rfl <;> omega
  | _ :: _ :: _ :: _, _, h2 => simp at h2
theorem anewD_ok {m i first : Int} {r : List (List Int)} (hi : 0 ≤ i ∧ i ≤ 7) (hf : 0 ≤ first ∧ first ≤ 2) (hm : m ≤ 5) (hr : ∀ d ∈ r, DayOk m d) : (∀ d ∈ anewD i first r, DayOk 8 d) ∧ ∀ d ∈ anewD i first r, i ∉ d := by
  constructor
  · intro d hd
    obtain ⟨day, hday, rfl⟩ := List.mem_map.mp hd
    have ok := hr day hday
    have bd := day_bd ok hm
    have h1 := ok.1
    have h2 := ok.2
    match day, h1, h2, bd with
    | [], _, _, _ => exact ⟨rfl, by simp⟩
    | [a], _, _, bd =>
      have := anewO_bd hi hf (bd a (by simp))
      refine ⟨?_, by simp⟩
      simp [risL]; omega
    | [a, b], h1, _, bd =>
      have ba := bd a (by simp)
      have bb := bd b (by simp)
      have g1 := anewO_bd hi hf ba
      have g2 := anewO_bd hi hf bb
      simp only [List.map_cons, List.map_nil, risL, Bool.and_eq_true, decide_eq_true_eq] at h1
      have g3 := anewO_lt hi hf ba.1 (show a < b by omega) bb.2
      refine ⟨?_, by simp⟩
      simp [risL]; omega
    | _ :: _ :: _ :: _, _, h2, _ => simp at h2
  · intro d hd hin
    obtain ⟨day, hday, rfl⟩ := List.mem_map.mp hd
    obtain ⟨x, hx, e⟩ := List.mem_map.mp hin
    exact (anewO_bd hi hf (day_bd (hr day hday) hm x hx)).2.2 e
theorem anewD_len {i first : Int} {r : List (List Int)} : (anewD i first r).length = r.length := by simp [anewD]
theorem anewD_fr {i first hands : Int} {r : List (List Int)} : frB (anewD i first r) hands = frB r hands := by
  funext p
  unfold frB
  rw [anewD_len]
  have : ((anewD i first r).getD (p % r.length) []).length = (r.getD (p % r.length) []).length := by
    unfold anewD
    rw [List.getD_eq_getElem?_getD, List.getElem?_map, List.getD_eq_getElem?_getD]
    cases r[p % r.length]? <;> simp
  rw [this]
theorem anewD_som {i first hands : Int} {r : List (List Int)} {w k : Nat} : Som (anewD i first r) hands w k ↔ Som r hands w k := by
  unfold Som Away
  rw [anewD_fr, anewD_len]
abbrev sv60 (sc : D) (tn : Int) (x3 x4 x5 x6 x7 x8 x9 x11 x13 x14 x15 x16 x17 : Option D) : Ss := [some sc, some (.loc 0), some (.int tn), x3, x4, x5, x6, x7, x8, x9, none, x11, none, x13, x14, x15, x16, x17]
theorem eq_natN {o : Option Nat} {h : Hs} : eqD true (natN o) (natN o) h = .ok (.bl false) h := by
  cases o with
  | none => rfl
  | some v =>
    have := eq_of D.int (k := 0) (by omega) (n := true) (a := (v : Int)) (b := (v : Int)) (h := h)
    exact this.trans (by simp)
theorem eq_flag3 {a b c : Bool} {h : Hs} : eqD true (flag3 a b c) (flag3 a b c) h = .ok (.bl false) h := by
  have := eq_of (fun xs : List Bool => D.lst (xs.map D.bl)) (k := 1) (by omega) (n := true) (a := [a, b, c]) (b := [a, b, c]) (h := h)
  exact this.trans (by simp)
theorem toP_rLL {h : Hs} {n : Nat} {r : List (List Int)} : ∃ p, toP h (n + 2) (rLL r) = some p ∧ PyData.eqv p p = true := by
  obtain ⟨py, h1, h2⟩ := (inferInstance : EqS (fun xs : List (List Int) => D.lst (xs.map iL)) 2).ex
  exact ⟨py r, h1 h (n + 2) r (by omega), (h2 r r).mpr rfl⟩
theorem eq_asked {r : List (List Int)} {a b c : Int} {h : Hs} : eqD true (.lst [rLL r, .int a, .int b, .int c]) (.lst [rLL r, .int a, .int b, .int c]) h = .ok (.bl false) h := by
  obtain ⟨p, h1, h2⟩ := toP_rLL (h := h) (n := 61) (r := r)
  have e : toP h 64 (.lst [rLL r, .int a, .int b, .int c]) = some (.list [p, .int a, .int b, .int c]) := by
    refine toP_lst (xs := [rLL r, .int a, .int b, .int c]) rfl ?_
    simp only [List.mapM_cons, List.mapM_nil, h1, toP_int]
    rfl
  unfold eqD
  rw [e]
  simp only [PyData.eqv, PyData.eqvAll, h2]
  simp
theorem sizes60 {x tn : Int} (ht : tn = 0 ∨ tn = 1 ∨ tn = 2) : ∃ s : Nat, 1 ≤ s ∧ s ≤ 40 ∧ (tn < 2 → s ≤ 9) ∧ ∀ G : Hs, ixD (.lst [.int (1 + x / 8 % 9), .int (1 + x / 8 % 9), .int (1 + x / 8 % 40)]) (.int tn) G = .ok (.int (s : Int)) G := by
  have e9 : ((1 + x / 8 % 9).toNat : Int) = 1 + x / 8 % 9 := by omega
  have e40 : ((1 + x / 8 % 40).toNat : Int) = 1 + x / 8 % 40 := by omega
  rcases ht with rfl | rfl | rfl
  · exact ⟨(1 + x / 8 % 9).toNat, by omega, by omega, fun _ => by omega, fun G => by rw [e9]; rfl⟩
  · exact ⟨(1 + x / 8 % 9).toNat, by omega, by omega, fun _ => by omega, fun G => by rw [e9]; rfl⟩
  · exact ⟨(1 + x / 8 % 40).toNat, by omega, by omega, fun h => by omega, fun G => by rw [e40]; rfl⟩
theorem nums60 {tn : Int} (ht : tn = 0 ∨ tn = 1 ∨ tn = 2) : ∃ q : Int, 1 ≤ q ∧ q ≤ 40 ∧ ∀ G : Hs, ixD (.lst [.int 9, .int 6, .int 40]) (.int tn) G = .ok (.int q) G := by
  rcases ht with rfl | rfl | rfl
  · exact ⟨9, by omega, by omega, fun G => rfl⟩
  · exact ⟨6, by omega, by omega, fun G => rfl⟩
  · exact ⟨40, by omega, by omega, fun G => rfl⟩
theorem k60_turn {sc : D} {tn : Int} {dk : List Int} {r0 : Hs} (ht : tn = 0 ∨ tn = 1 ∨ tn = 2) (hdk : (if tn < 2 then 15 else 46) ≤ dk.length) : ∃ (dk' : List Int) (r' : Hs), dk.length ≤ dk'.length + (if tn < 2 then 15 else 46) ∧
    k_law_1 (sv60 sc tn none none none none none none none none none none none none none) (.lst (dk.map D.int) :: r0) = .nx [some sc, some (.loc 0), none, none, none, none, none, none, none, none, none, none, none, none, none, none, none, none] (.lst (dk'.map D.int) :: r') := by
  have hneed : ∀ s : Nat, s ≤ 40 → (tn < 2 → s ≤ 9) → s + 6 ≤ (if tn < 2 then 15 else 46) := fun s h1 h2 => by
    split
    · rename_i c; have := h2 c; omega
    · omega
  generalize (if tn < 2 then 15 else 46) = need at *
  -- the draw, the days
  obtain ⟨dk1, x, rfl⟩ := split_last (l := dk) (by have := hneed 1 (by omega) (by omega); omega)
  obtain ⟨s, s1, s40, s9, sx⟩ := sizes60 (x := x) ht
  have hns := hneed s s40 s9
  simp only [List.length_append, List.length_singleton] at hdk
  obtain ⟨m, hm1, hm5, hm⟩ : ∃ m : Int, 1 ≤ m ∧ m ≤ 5 ∧ 1 + x % 5 = m := ⟨1 + x % 5, by omega, by omega, rfl⟩
  obtain ⟨days, dk2, d1, d2, d3, d4⟩ := F_law_ring_eq (dk := dk1) (many := m) (r := r0) (size := s) (by omega) (by omega) (by omega) (by omega)
  have hpos : 0 < days.length := by omega
  obtain ⟨hands, hh, ehands⟩ : ∃ hands : Int, (hands = 1 ∨ hands = 2) ∧ 1 + x / 512 % 2 = hands := ⟨1 + x / 512 % 2, by omega, rfl⟩
  -- the number
  obtain ⟨dk3, y, rfl⟩ := split_last (l := dk2) (by omega)
  simp only [List.length_append, List.length_singleton] at d3
  obtain ⟨q, q1, q40, qx⟩ := nums60 ht
  obtain ⟨w, w1, w40, ew⟩ : ∃ w : Nat, 1 ≤ w ∧ w ≤ 40 ∧ 1 + y % q = (w : Int) := by
    have a := Int.emod_nonneg y (show q ≠ 0 by omega)
    have b := Int.emod_lt_of_pos y (show 0 < q by omega)
    exact ⟨(1 + y % q).toNat, by omega, by omega, by omega⟩
  -- the best
  obtain ⟨o, fo, mo⟩ := few_spec (r := days) (hands := hands) (w := w)
  have eN : intO (fewO days hands w (frees days hands) none) = natN o := by
    rw [fo]
    cases o <;> rfl
  have H3f := law_fewest60 (r := days) (hands := hands) (w := w) (h := O.lst (dk3.map D.int) :: r0) (by omega)
  rw [eN] at H3f
  -- i, the others, the first
  obtain ⟨dk4, yi, rfl⟩ := split_last (l := dk3) (by omega)
  simp only [List.length_append, List.length_singleton] at d3
  obtain ⟨i, hi, ei⟩ : ∃ i : Int, (0 ≤ i ∧ i ≤ 7) ∧ yi % 8 = i := ⟨yi % 8, by omega, rfl⟩
  obtain ⟨dk5, yf, rfl⟩ := split_last (l := dk4) (by omega)
  simp only [List.length_append, List.length_singleton] at d3
  obtain ⟨first, hf, ef⟩ : ∃ first : Int, (0 ≤ first ∧ first ≤ 2) ∧ yf % 3 = first := ⟨yf % 3, by omega, rfl⟩
  obtain ⟨dk6, yh, rfl⟩ := split_last (l := dk5) (by omega)
  simp only [List.length_append, List.length_singleton] at d3
  obtain ⟨dk7, yw, rfl⟩ := split_last (l := dk6) (by omega)
  simp only [List.length_append, List.length_singleton] at d3
  obtain ⟨nd, no⟩ := anewD_ok (m := m) (r := days) hi hf (by omega) d2
  obtain ⟨ring, hring⟩ : ∃ ring : List (List Int), ring = anewD i first days := ⟨_, rfl⟩
  have rl : ring.length = days.length := by rw [hring]; exact anewD_len
  have rok : RingOk 8 ring := ⟨by omega, by omega, by rw [hring]; exact nd⟩
  rw [← hring] at no
  -- what is handed in first
  obtain ⟨d0, hd0, vd0, td0, rd0, ud0⟩ : ∃ d0 : D, (∀ G : Hs, F__law_handed [dT ring, .int yh] G = .ok d0 G) ∧ (∀ G : Hs, vq G 2 d0 = some (ringQ ring)) ∧ tLL d0 = rLL ring ∧ rowsC 44 d0 = true ∧ ∀ n, d0.und n = true := by
    by_cases c : yh % 2 = 0
    · refine ⟨dT ring, fun G => ?_, fun G => vq_dT (n := 0), tLL_dT _, rowsC_dT (n := 41), fun n => ?_⟩
      · rw [handed_eqC (rowsC_dT (n := 42)), if_pos c]
      · unfold dT; rw [und_tup]; exact undL_map fun x _ => und_iT
    · refine ⟨rLL ring, fun G => ?_, fun G => vq_rLL (n := 0), tLL_rLL _, rowsC_rLL (n := 41), fun n => ?_⟩
      · rw [handed_eqC (rowsC_dT (n := 42)), if_neg c, tLL_dT]
      · unfold rLL; rw [und_lst]; exact undL_map fun x _ => und_iL
  obtain ⟨bs, lopS⟩ := best_spec (r := ring) (hands := hands) (w := w) (by omega)
  have mo2 : MinO (Som ring hands w) o := mo.congr fun k => by rw [hring]; exact anewD_som.symm
  have ebo := bs.uniq mo2
  -- the heaps
  obtain ⟨A, hA⟩ : ∃ A : O, A = .lst [d0, .int hands, .int i, .int (w : Int)] := ⟨_, rfl⟩
  obtain ⟨B6, hB6⟩ : ∃ B6 : O, B6 = .lst ((dk7 ++ [yw]).map D.int) := ⟨_, rfl⟩
  obtain ⟨H6, hH6⟩ : ∃ H6 : Hs, H6 = B6 :: r0 := ⟨_, rfl⟩
  obtain ⟨H7, hH7⟩ : ∃ H7 : Hs, H7 = H6 ++ [A] := ⟨_, rfl⟩
  have l6 : H6.length = r0.length + 1 := by rw [hH6]; simp
  have hat7 : locAt H7 H6.length = some [d0, .int hands, .int i, .int (w : Int)] := by rw [hH7, hA]; exact locAt_end
  have ll7 : F__law_lists 45 [.loc H6.length] H7 = .ok (.lst [rLL ring, .int hands, .int i, .int (w : Int)]) H7 := by
    have := lists_loc (n := 44) hat7 (by simp only [List.all_cons, List.all_nil, rd0]; rfl)
    rw [this]
    simp only [tLLs, td0]
    rfl
  have fp := F_put_eq (r := ring) (d := d0) (hands := hands) (i := i) (w := w) (n := 2) (h := H7) (vd0 H7) (by omega) rok hh hi ⟨w1, w40⟩ no
  have hpu : (putO ring i (bestO ring hands w (List.range (min w ring.length)) none)).und H7.length = true := by
    cases bestO ring hands w (List.range (min w ring.length)) none with
    | none => rfl
    | some L => exact putO_und
  have tl7 := told_ok60 fp hpu
  obtain ⟨found, hfound⟩ : ∃ found : D, found = putO ring i (bestO ring hands w (List.range (min w ring.length)) none) := ⟨_, rfl⟩
  rw [← hfound] at tl7
  have i70 : ixD (.loc H6.length) (.int 0) H7 = .ok d0 H7 := x_ix_row (d := .loc _) hat7 rfl
  have i71 : ixD (.loc H6.length) (.int 1) H7 = .ok (.int hands) H7 := x_ix_row (d := .loc _) hat7 rfl
  have i72 : ixD (.loc H6.length) (.int 2) H7 = .ok (.int i) H7 := x_ix_row (d := .loc _) hat7 rfl
  have i73 : ixD (.loc H6.length) (.int 3) H7 = .ok (.int (w : Int)) H7 := x_ix_row (d := .loc _) hat7 rfl
  have eqa := eq_asked (r := ring) (a := hands) (b := i) (c := (w : Int)) (h := H7)
  -- who is there
  obtain ⟨ths, hths⟩ : ∃ ths : List Int, ths = (ring.filter fun d => !decide (d = [])).map fun d => d.getD 0 0 := ⟨_, rfl⟩
  obtain ⟨t0, h0in, ht0⟩ : ∃ t0 : Int, (t0 = ths.getD 0 i) ∧ (ths ≠ [] → (0 ≤ t0 ∧ t0 ≤ 7) ∧ ∃ day ∈ ring, t0 ∈ day) := by
    refine ⟨_, rfl, fun hne => ?_⟩
    cases q : ths with
    | nil => exact absurd q hne
    | cons a l =>
      have : a ∈ ths := by rw [q]; simp
      rw [hths] at this
      obtain ⟨day, hday, ea⟩ := List.mem_map.mp this
      obtain ⟨h1, h2⟩ := List.mem_filter.mp hday
      have ok := rok.day day h1
      cases day with
      | nil => simp at h2
      | cons b l' =>
        have ea : b = a := ea
        subst ea
        have h3 := ok.1
        simp only [List.map_cons, risL, Bool.and_eq_true, decide_eq_true_eq] at h3
        exact ⟨⟨by simp; omega, by simp; omega⟩, b :: l', h1, by simp⟩
  obtain ⟨A2, hA2⟩ : ∃ A2 : O, A2 = .lst [dT ring, .int hands, .int t0, .int (w : Int)] := ⟨_, rfl⟩
  have uR : ∀ n, (dT ring).und n = true := fun n => by unfold dT; rw [und_tup]; exact undL_map fun x _ => und_iT
  obtain ⟨b0, b1, b2, b3, due, ew60, hdue⟩ := law_wrong60 (dk := dk7) (x := yw) (u := r0 ++ [A]) (p := H7.length) (a0 := dT ring) (a1 := .int hands) (a2 := .int t0) (a3 := .int (w : Int)) (by rw [hH7]; simp [l6]) uR (fun _ => rfl) (fun _ => rfl) (fun _ => rfl)
  obtain ⟨H9, hH9⟩ : ∃ H9 : Hs, H9 = .lst (dk7.map D.int) :: (r0 ++ [A] ++ [.lst [b0, b1, b2, b3]]) := ⟨_, rfl⟩
  have hH8 : O.lst ((dk7 ++ [yw]).map D.int) :: (r0 ++ [A] ++ [A2]) = H7 ++ [A2] := by rw [hH7, hH6, hB6]; simp
  rw [← hA2, hH8, ← hH9] at ew60
  have hat9 : locAt H9 H7.length = some [b0, b1, b2, b3] := by
    have : H9 = (.lst (dk7.map D.int) :: (r0 ++ [A])) ++ [.lst [b0, b1, b2, b3]] := by rw [hH9]; simp
    rw [this, show H7.length = (O.lst (dk7.map D.int) :: (r0 ++ [A])).length by rw [hH7]; simp [l6]]
    exact locAt_end
  have i90 : ixD (.loc H7.length) (.int 0) H9 = .ok b0 H9 := x_ix_row (d := .loc _) hat9 rfl
  have i91 : ixD (.loc H7.length) (.int 1) H9 = .ok b1 H9 := x_ix_row (d := .loc _) hat9 rfl
  have i92 : ixD (.loc H7.length) (.int 2) H9 = .ok b2 H9 := x_ix_row (d := .loc _) hat9 rfl
  have i93 : ixD (.loc H7.length) (.int 3) H9 = .ok b3 H9 := x_ix_row (d := .loc _) hat9 rfl
  have t9 : F__law_told [b0, b1, b2, b3] H9 = .ok due H9 ∧ eqD true due due H9 = .ok (.bl false) H9 := by
    rcases hdue with ⟨rfl, hb⟩ | ⟨rfl, rfl, hb⟩
    · exact ⟨told_ring60 (badR_no hb).1, eq_flag3⟩
    · refine ⟨told_days60 (r := ring) (n := 2) (vq_dT (n := 0)) (by omega) rok ?_, eq_flag3⟩
      rcases hb with ⟨_, _, h3⟩ | ⟨_, h2⟩ | h1
      · rw [h3]; simp
      · rw [h2]; simp
      · rw [h1]; rfl
  -- the walk
  refine ⟨dk7, r0 ++ [A] ++ [.lst [b0, b1, b2, b3]], by simp only [List.length_append, List.length_singleton]; omega, ?_⟩
  rw [← hH9]
  have f0 : t_law_1_0 (sv60 sc tn none none none none none none none none none none none none none) (.lst ((dk1 ++ [x]).map D.int) :: r0) = .nx (sv60 sc tn (some (.int x)) none none none none none none none none none none none none) (.lst (dk1.map D.int) :: r0) := by
    have pop := pop_head (ds := dk1) (d := x) (t := r0)
    have lt0 : lstOf (.lst ((dk1 ++ [x]).map D.int) :: r0) (.loc 0) = some ((dk1 ++ [x]).map D.int) := rfl
    have lt1 : locAt (.lst ((dk1 ++ [x]).map D.int) :: r0) 0 = some ((dk1 ++ [x]).map D.int) := rfl
    generalize O.lst ((dk1 ++ [x]).map D.int) :: r0 = G at *
    generalize O.lst (dk1.map D.int) :: r0 = G' at *
    unfold sv60
    simp [pop, lt0]
  have f1 : t_law_1_1 (sv60 sc tn (some (.int x)) none none none none none none none none none none none none) (.lst (dk1.map D.int) :: r0) = .nx (sv60 sc tn (some (.int x)) (some (dT days)) none none none none none none none none none none none) (.lst ((dk7 ++ [yw] ++ [yh] ++ [yf] ++ [yi] ++ [y]).map D.int) :: r0) := by
    have sx := sx (.lst (dk1.map D.int) :: r0)
    generalize O.lst ((dk7 ++ [yw] ++ [yh] ++ [yf] ++ [yi] ++ [y]).map D.int) :: r0 = G' at *
    generalize O.lst (dk1.map D.int) :: r0 = G at *
    generalize (s : Int) = SI at *
    generalize dT days = T at *
    unfold sv60
    simp [hm, sx, d4]
  have f2 : t_law_1_2 (sv60 sc tn (some (.int x)) (some (dT days)) none none none none none none none none none none none) (.lst ((dk7 ++ [yw] ++ [yh] ++ [yf] ++ [yi] ++ [y]).map D.int) :: r0) = .nx (sv60 sc tn (some (.int x)) (some (dT days)) (some (.int hands)) none none none none none none none none none none) (.lst ((dk7 ++ [yw] ++ [yh] ++ [yf] ++ [yi] ++ [y]).map D.int) :: r0) := by
    generalize O.lst ((dk7 ++ [yw] ++ [yh] ++ [yf] ++ [yi] ++ [y]).map D.int) :: r0 = G at *
    generalize dT days = T at *
    unfold sv60
    simp [ehands]
  have f3 : t_law_1_3 (sv60 sc tn (some (.int x)) (some (dT days)) (some (.int hands)) none none none none none none none none none none) (.lst ((dk7 ++ [yw] ++ [yh] ++ [yf] ++ [yi] ++ [y]).map D.int) :: r0) = .nx (sv60 sc tn (some (.int x)) (some (dT days)) (some (.int hands)) (some (.int (w : Int))) none none none none none none none none none) (.lst ((dk7 ++ [yw] ++ [yh] ++ [yf] ++ [yi]).map D.int) :: r0) := by
    have pop := pop_head (ds := dk7 ++ [yw] ++ [yh] ++ [yf] ++ [yi]) (d := y) (t := r0)
    have lt0 : lstOf (.lst ((dk7 ++ [yw] ++ [yh] ++ [yf] ++ [yi] ++ [y]).map D.int) :: r0) (.loc 0) = some ((dk7 ++ [yw] ++ [yh] ++ [yf] ++ [yi] ++ [y]).map D.int) := rfl
    have lt1 : locAt (.lst ((dk7 ++ [yw] ++ [yh] ++ [yf] ++ [yi] ++ [y]).map D.int) :: r0) 0 = some ((dk7 ++ [yw] ++ [yh] ++ [yf] ++ [yi] ++ [y]).map D.int) := rfl
    have qx := qx (.lst ((dk7 ++ [yw] ++ [yh] ++ [yf] ++ [yi]).map D.int) :: r0)
    have my : ∀ G : Hs, modD (.int y) (.int q) G = .ok (.int (y % q)) G := fun G => by rw [x_mod, if_pos (by omega)]
    have my := my (.lst ((dk7 ++ [yw] ++ [yh] ++ [yf] ++ [yi]).map D.int) :: r0)
    generalize (dk7 ++ [yw] ++ [yh] ++ [yf] ++ [yi] ++ [y]).map D.int = L1 at *
    generalize O.lst L1 :: r0 = G at *
    generalize O.lst ((dk7 ++ [yw] ++ [yh] ++ [yf] ++ [yi]).map D.int) :: r0 = G' at *
    generalize dT days = T at *
    generalize (w : Int) = W at *
    unfold sv60
    simp [-x_mod, pop, lt0, lt1, qx, my, ew]
  have f4 : t_law_1_4 (sv60 sc tn (some (.int x)) (some (dT days)) (some (.int hands)) (some (.int (w : Int))) none none none none none none none none none) (.lst ((dk7 ++ [yw] ++ [yh] ++ [yf] ++ [yi]).map D.int) :: r0) = .nx (sv60 sc tn (some (.int x)) (some (dT days)) (some (.int hands)) (some (.int (w : Int))) (some (natN o)) none none none none none none none none) (.lst ((dk7 ++ [yw] ++ [yh] ++ [yf] ++ [yi]).map D.int) :: r0) := by
    generalize O.lst ((dk7 ++ [yw] ++ [yh] ++ [yf] ++ [yi]).map D.int) :: r0 = G at *
    generalize dT days = T at *
    generalize (w : Int) = W at *
    generalize natN o = N at *
    unfold sv60
    simp [H3f]
  have f5 : t_law_1_5 (sv60 sc tn (some (.int x)) (some (dT days)) (some (.int hands)) (some (.int (w : Int))) (some (natN o)) none none none none none none none none) (.lst ((dk7 ++ [yw] ++ [yh] ++ [yf] ++ [yi]).map D.int) :: r0) = .nx (sv60 sc tn (some (.int x)) (some (dT days)) (some (.int hands)) (some (.int (w : Int))) (some (natN o)) none none none none none none none none) (.lst ((dk7 ++ [yw] ++ [yh] ++ [yf] ++ [yi]).map D.int) :: r0) := by
    by_cases c : tn < 2
    · obtain ⟨o', mo', e'⟩ := law_tried60 (r := days) (hands := hands) (w := w) (h := O.lst ((dk7 ++ [yw] ++ [yh] ++ [yf] ++ [yi]).map D.int) :: r0) hpos (by have := s9 c; omega)
      have eo : o' = o := mo'.uniq mo
      subst eo
      have en := eq_natN (o := o') (h := O.lst ((dk7 ++ [yw] ++ [yh] ++ [yf] ++ [yi]).map D.int) :: r0)
      generalize O.lst ((dk7 ++ [yw] ++ [yh] ++ [yf] ++ [yi]).map D.int) :: r0 = G at *
      generalize dT days = T at *
      generalize (w : Int) = W at *
      generalize natN o' = N at *
      unfold sv60
      simp [c, e', en]
    · generalize O.lst ((dk7 ++ [yw] ++ [yh] ++ [yf] ++ [yi]).map D.int) :: r0 = G at *
      generalize dT days = T at *
      generalize (w : Int) = W at *
      generalize natN o = N at *
      unfold sv60
      simp [c]
  have f6 : t_law_1_6 (sv60 sc tn (some (.int x)) (some (dT days)) (some (.int hands)) (some (.int (w : Int))) (some (natN o)) none none none none none none none none) (.lst ((dk7 ++ [yw] ++ [yh] ++ [yf] ++ [yi]).map D.int) :: r0) = .nx (sv60 sc tn (some (.int x)) (some (dT days)) (some (.int hands)) (some (.int (w : Int))) (some (natN o)) (some (.int i)) none none none none none none none) (.lst ((dk7 ++ [yw] ++ [yh] ++ [yf]).map D.int) :: r0) := by
    have pop := pop_head (ds := dk7 ++ [yw] ++ [yh] ++ [yf]) (d := yi) (t := r0)
    have lt0 : lstOf (.lst ((dk7 ++ [yw] ++ [yh] ++ [yf] ++ [yi]).map D.int) :: r0) (.loc 0) = some ((dk7 ++ [yw] ++ [yh] ++ [yf] ++ [yi]).map D.int) := rfl
    have lt1 : locAt (.lst ((dk7 ++ [yw] ++ [yh] ++ [yf] ++ [yi]).map D.int) :: r0) 0 = some ((dk7 ++ [yw] ++ [yh] ++ [yf] ++ [yi]).map D.int) := rfl
    generalize (dk7 ++ [yw] ++ [yh] ++ [yf] ++ [yi]).map D.int = L1 at *
    generalize O.lst L1 :: r0 = G at *
    generalize O.lst ((dk7 ++ [yw] ++ [yh] ++ [yf]).map D.int) :: r0 = G' at *
    generalize dT days = T at *
    generalize (w : Int) = W at *
    generalize natN o = N at *
    unfold sv60
    simp [pop, lt0, ei]
  have f7 : t_law_1_7 (sv60 sc tn (some (.int x)) (some (dT days)) (some (.int hands)) (some (.int (w : Int))) (some (natN o)) (some (.int i)) none none none none none none none) (.lst ((dk7 ++ [yw] ++ [yh] ++ [yf]).map D.int) :: r0) = .nx (sv60 sc tn (some (.int x)) (some (dT days)) (some (.int hands)) (some (.int (w : Int))) (some (natN o)) (some (.int i)) (some (.lst (natL (othN i)))) none none none none none none) (.lst ((dk7 ++ [yw] ++ [yh] ++ [yf]).map D.int) :: r0) := by
    generalize O.lst ((dk7 ++ [yw] ++ [yh] ++ [yf]).map D.int) :: r0 = G at *
    have hc : eComp false [10] (iRng1 (aCons (eC (.int 8)) aNil)) (gVar 10) (tV (eBin (eqD true) (eVar 10) (eVar 8))) (eVar 10) (sv60 sc tn (some (.int x)) (some (dT days)) (some (.int hands)) (some (.int (w : Int))) (some (natN o)) (some (.int i)) none none none none none none none) G = .ok (.lst (natL (othN i))) G := by
      rw [comp_ty (em := fun (k : Nat) => D.int k) (xs := List.range 8) (h1 := G) (fun (k : Nat) => !decide ((k : Int) = i)) (fun (k : Nat) => D.int k) (Itr.rngN (n := 8) rfl (by omega)) fun k hk => ?_]
      · rfl
      · have := eq_of D.int (k := 0) (by omega) (n := true) (a := (k : Int)) (b := i) (h := G)
        have q1 : eqD true (.int (k : Int)) (.int i) G = .ok (.bl (!decide ((k : Int) = i))) G := this.trans (by simp)
        unfold sv60
        generalize (!decide ((k : Int) = i)) = BB at *
        generalize (k : Int) = K at *
        exact ⟨_, rfl, by simp [wipeS, q1], fun _ => by simp [wipeS]⟩
    unfold sv60 at *
    generalize D.lst (natL (othN i)) = OT at *
    generalize dT days = T at *
    generalize (w : Int) = W at *
    generalize natN o = N at *
    simp [hc]
  have f8 : t_law_1_8 (sv60 sc tn (some (.int x)) (some (dT days)) (some (.int hands)) (some (.int (w : Int))) (some (natN o)) (some (.int i)) (some (.lst (natL (othN i)))) none none none none none none) (.lst ((dk7 ++ [yw] ++ [yh] ++ [yf]).map D.int) :: r0) = .nx (sv60 sc tn (some (.int x)) (some (dT days)) (some (.int hands)) (some (.int (w : Int))) (some (natN o)) (some (.int i)) (some (.lst (natL (othN i)))) (some (.int first)) none none none none none) (.lst ((dk7 ++ [yw] ++ [yh]).map D.int) :: r0) := by
    have pop := pop_head (ds := dk7 ++ [yw] ++ [yh]) (d := yf) (t := r0)
    have lt0 : lstOf (.lst ((dk7 ++ [yw] ++ [yh] ++ [yf]).map D.int) :: r0) (.loc 0) = some ((dk7 ++ [yw] ++ [yh] ++ [yf]).map D.int) := rfl
    have lt1 : locAt (.lst ((dk7 ++ [yw] ++ [yh] ++ [yf]).map D.int) :: r0) 0 = some ((dk7 ++ [yw] ++ [yh] ++ [yf]).map D.int) := rfl
    generalize (dk7 ++ [yw] ++ [yh] ++ [yf]).map D.int = L1 at *
    generalize O.lst L1 :: r0 = G at *
    generalize O.lst ((dk7 ++ [yw] ++ [yh]).map D.int) :: r0 = G' at *
    generalize D.lst (natL (othN i)) = OT at *
    generalize dT days = T at *
    generalize (w : Int) = W at *
    generalize natN o = N at *
    unfold sv60
    simp [pop, lt0, ef]
  have f9 : t_law_1_9 (sv60 sc tn (some (.int x)) (some (dT days)) (some (.int hands)) (some (.int (w : Int))) (some (natN o)) (some (.int i)) (some (.lst (natL (othN i)))) (some (.int first)) none none none none none) (.lst ((dk7 ++ [yw] ++ [yh]).map D.int) :: r0) = .nx (sv60 sc tn (some (.int x)) (some (dT ring)) (some (.int hands)) (some (.int (w : Int))) (some (natN o)) (some (.int i)) (some (.lst (natL (othN i)))) (some (.int first)) none none none none none) (.lst ((dk7 ++ [yw] ++ [yh]).map D.int) :: r0) := by
    generalize O.lst ((dk7 ++ [yw] ++ [yh]).map D.int) :: r0 = G at *
    have hc : eComp false [12] (iRow (eVar 4)) (gVar 12) tYesF (eB tupleD (aCons (eComp false [10] (iRow (eVar 12)) (gVar 10) tYesF (eBin ixD (eVar 9) (eBin addD (eVar 11) (eVar 10)))) aNil)) (sv60 sc tn (some (.int x)) (some (dT days)) (some (.int hands)) (some (.int (w : Int))) (some (natN o)) (some (.int i)) (some (.lst (natL (othN i)))) (some (.int first)) none none none none none) G = .ok (.lst (ring.map iT)) G := by
      rw [comp_map (em := iT) (xs := days) (h1 := G) (fun day => iT (day.map (anewO i first))) (Itr.tup rfl) fun day hday => ?_]
      · rw [hring]
        unfold anewD
        rw [List.map_map]; rfl
      · have bd := day_bd (d2 day hday) (by omega)
        obtain ⟨o1, _, _⟩ := othN_facts hi
        have hin : eComp false [10] (iRow (eVar 12)) (gVar 10) tYesF (eBin ixD (eVar 9) (eBin addD (eVar 11) (eVar 10))) [some sc, some (.loc 0), some (.int tn), some (.int x), some (dT days), some (.int hands), some (.int (w : Int)), some (natN o), some (.int i), some (.lst (natL (othN i))), none, some (.int first), some (iT day), none, none, none, none, none] G = .ok (iL (day.map (anewO i first))) G := by
          rw [comp_map (em := D.int) (xs := day) (h1 := G) (fun d => .int (anewO i first d)) (Itr.tup rfl) fun d hd => ?_]
          · unfold iL; rw [List.map_map]; rfl
          · have b := bd d hd
            have ix : ixD (.lst (natL (othN i))) (.int (first + d)) G = .ok (.int (anewO i first d)) G := by
              have := ix_ints (h := G) (d := .lst (natL (othN i))) (ns := (othN i).map fun (k : Nat) => (k : Int)) (i := first + d) (by show some (natL _) = _; rw [natL_ints]) (by omega) (by rw [List.length_map]; omega)
              rw [this]
              congr 2
              unfold anewO
              have hl : (first + d).toNat < (othN i).length := by omega
              rw [List.getD_eq_getElem?_getD, List.getElem?_map, List.getElem?_eq_getElem hl, List.getD_eq_getElem?_getD, List.getElem?_eq_getElem hl]
              rfl
            generalize D.lst (natL (othN i)) = OT at *
            generalize dT days = T at *
            generalize (w : Int) = W at *
            generalize natN o = N at *
            generalize iT day = DY at *
            exact ⟨_, rfl, by simp [wipeS, ix]⟩
        have tu : tupleD [iL (day.map (anewO i first))] G = .ok (iT (day.map (anewO i first))) G := tuple_iL
        unfold sv60
        generalize iT (day.map (anewO i first)) = X1 at *
        generalize iL (day.map (anewO i first)) = X2 at *
        generalize D.lst (natL (othN i)) = OT at *
        generalize dT days = T at *
        generalize (w : Int) = W at *
        generalize natN o = N at *
        generalize iT day = DY at *
        exact ⟨_, rfl, by simp [wipeS, hin, tu]⟩
    have tu : tupleD [.lst (ring.map iT)] G = .ok (dT ring) G := by rw [x_tuple (d := .lst _) rfl]; rfl
    unfold sv60 at *
    generalize D.lst (ring.map iT) = RT at *
    generalize dT ring = RD at *
    generalize D.lst (natL (othN i)) = OT at *
    generalize dT days = T at *
    generalize (w : Int) = W at *
    generalize natN o = N at *
    simp [hc, tu]
  have fA : t_law_1_10 (sv60 sc tn (some (.int x)) (some (dT ring)) (some (.int hands)) (some (.int (w : Int))) (some (natN o)) (some (.int i)) (some (.lst (natL (othN i)))) (some (.int first)) none none none none none) (.lst ((dk7 ++ [yw] ++ [yh]).map D.int) :: r0) = .nx (sv60 sc tn (some (.int x)) (some (dT ring)) (some (.int hands)) (some (.int (w : Int))) (some (natN o)) (some (.int i)) (some (.lst (natL (othN i)))) (some (.int first)) (some (.loc H6.length)) none none none none) H7 := by
    have pop := pop_head (ds := dk7 ++ [yw]) (d := yh) (t := r0)
    have lt0 : lstOf (.lst ((dk7 ++ [yw] ++ [yh]).map D.int) :: r0) (.loc 0) = some ((dk7 ++ [yw] ++ [yh]).map D.int) := rfl
    have lt1 : locAt (.lst ((dk7 ++ [yw] ++ [yh]).map D.int) :: r0) 0 = some ((dk7 ++ [yw] ++ [yh]).map D.int) := rfl
    rw [← hB6, ← hH6] at pop
    have hd0 := hd0 H6
    rw [hH7, hA]
    generalize (dk7 ++ [yw] ++ [yh]).map D.int = L1 at *
    generalize O.lst L1 :: r0 = G at *
    clear hH6 hB6 hH7 hA hH8
    unfold sv60 at *
    generalize dT ring = RD at *
    generalize D.lst (natL (othN i)) = OT at *
    generalize (w : Int) = W at *
    generalize natN o = N at *
    simp [pop, lt0, lt1, hd0]
  have fB : t_law_1_11 (sv60 sc tn (some (.int x)) (some (dT ring)) (some (.int hands)) (some (.int (w : Int))) (some (natN o)) (some (.int i)) (some (.lst (natL (othN i)))) (some (.int first)) (some (.loc H6.length)) none none none none) H7 = .nx (sv60 sc tn (some (.int x)) (some (dT ring)) (some (.int hands)) (some (.int (w : Int))) (some (natN o)) (some (.int i)) (some (.lst (natL (othN i)))) (some (.int first)) (some (.loc H6.length)) (some (.lst [rLL ring, .int hands, .int i, .int (w : Int)])) none none none) H7 := by
    unfold sv60
    clear hH7 hH8 hH9
    generalize D.lst [rLL ring, .int hands, .int i, .int (w : Int)] = KP at *
    generalize dT ring = RD at *
    generalize D.lst (natL (othN i)) = OT at *
    generalize (w : Int) = W at *
    generalize natN o = N at *
    simp [ll7]
  have fC : t_law_1_12 (sv60 sc tn (some (.int x)) (some (dT ring)) (some (.int hands)) (some (.int (w : Int))) (some (natN o)) (some (.int i)) (some (.lst (natL (othN i)))) (some (.int first)) (some (.loc H6.length)) (some (.lst [rLL ring, .int hands, .int i, .int (w : Int)])) none none none) H7 = .nx (sv60 sc tn (some (.int x)) (some (dT ring)) (some (.int hands)) (some (.int (w : Int))) (some (natN o)) (some (.int i)) (some (.lst (natL (othN i)))) (some (.int first)) (some (.loc H6.length)) (some (.lst [rLL ring, .int hands, .int i, .int (w : Int)])) (some found) none none) H7 := by
    unfold sv60
    clear hH7 hH8 hH9
    generalize D.lst [rLL ring, .int hands, .int i, .int (w : Int)] = KP at *
    generalize dT ring = RD at *
    generalize D.lst (natL (othN i)) = OT at *
    generalize (w : Int) = W at *
    generalize natN o = N at *
    simp [i70, i71, i72, i73, tl7]
  have fD : t_law_1_13 (sv60 sc tn (some (.int x)) (some (dT ring)) (some (.int hands)) (some (.int (w : Int))) (some (natN o)) (some (.int i)) (some (.lst (natL (othN i)))) (some (.int first)) (some (.loc H6.length)) (some (.lst [rLL ring, .int hands, .int i, .int (w : Int)])) (some found) none none) H7 = .nx (sv60 sc tn (some (.int x)) (some (dT ring)) (some (.int hands)) (some (.int (w : Int))) (some (natN o)) (some (.int i)) (some (.lst (natL (othN i)))) (some (.int first)) (some (.loc H6.length)) (some (.lst [rLL ring, .int hands, .int i, .int (w : Int)])) (some found) none none) H7 := by
    cases o with
    | none =>
      have eb : bestO ring hands w (List.range (min w ring.length)) none = none := by
        cases q : bestO ring hands w (List.range (min w ring.length)) none with
        | none => rfl
        | some L => rw [q] at ebo; cases ebo
      rw [eb] at hfound
      have hfound : found = .non := hfound
      subst hfound
      have e0 : natN none = .non := rfl
      rw [e0]
      unfold sv60
      clear hH7 hH8 hH9
      generalize D.lst [rLL ring, .int hands, .int i, .int (w : Int)] = KP at *
      generalize dT ring = RD at *
      generalize D.lst (natL (othN i)) = OT at *
      generalize (w : Int) = W at *
      simp [ll7, eqa, isN_non]
    | some k =>
      have e0 : natN (some k) = .int (k : Nat) := rfl
      rw [e0]
      unfold sv60
      clear hH7 hH8 hH9
      generalize D.lst [rLL ring, .int hands, .int i, .int (w : Int)] = KP at *
      generalize dT ring = RD at *
      generalize D.lst (natL (othN i)) = OT at *
      generalize (w : Int) = W at *
      simp [ll7, eqa, isN_int]
  have fE : t_law_1_14 (sv60 sc tn (some (.int x)) (some (dT ring)) (some (.int hands)) (some (.int (w : Int))) (some (natN o)) (some (.int i)) (some (.lst (natL (othN i)))) (some (.int first)) (some (.loc H6.length)) (some (.lst [rLL ring, .int hands, .int i, .int (w : Int)])) (some found) none none) H7 = .nx (sv60 sc tn (some (.int x)) (some (dT ring)) (some (.int hands)) (some (.int (w : Int))) (some (natN o)) (some (.int i)) (some (.lst (natL (othN i)))) (some (.int first)) (some (.loc H6.length)) (some (.lst [rLL ring, .int hands, .int i, .int (w : Int)])) (some found) none none) H7 := by
    cases o with
    | none =>
      have e0 : natN none = .non := rfl
      rw [e0]
      unfold sv60
      clear hH7 hH8 hH9
      generalize D.lst [rLL ring, .int hands, .int i, .int (w : Int)] = KP at *
      generalize dT ring = RD at *
      generalize D.lst (natL (othN i)) = OT at *
      generalize (w : Int) = W at *
      simp [isN_non]
    | some k =>
      obtain ⟨L, eL, ek⟩ : ∃ L, bestO ring hands w (List.range (min w ring.length)) none = some L ∧ L.length = k := by
        cases q : bestO ring hands w (List.range (min w ring.length)) none with
        | none => rw [q] at ebo; cases ebo
        | some L =>
          rw [q] at ebo
          injection ebo with ebo
          exact ⟨L, rfl, ebo⟩
      obtain ⟨b, hb, lp⟩ := lopS L eL
      have ip := law_is_put60 (r := ring) (hands := hands) (i := i) (w := w) (b := b) (L := L) (h := H7) rok (by omega) hh hi no hb lp
      rw [eL] at hfound
      have hfound : found = dT (putR ring i (inS ring L)) := hfound
      rw [← hfound, ek] at ip
      have e0 : natN (some k) = .int (k : Nat) := rfl
      rw [e0]
      unfold sv60
      clear hH7 hH8 hH9 hfound
      generalize D.lst [rLL ring, .int hands, .int i, .int (w : Int)] = KP at *
      generalize dT ring = RD at *
      generalize D.lst (natL (othN i)) = OT at *
      generalize (w : Int) = W at *
      simp [isN_int, ip]
  have fF : t_law_1_15 (sv60 sc tn (some (.int x)) (some (dT ring)) (some (.int hands)) (some (.int (w : Int))) (some (natN o)) (some (.int i)) (some (.lst (natL (othN i)))) (some (.int first)) (some (.loc H6.length)) (some (.lst [rLL ring, .int hands, .int i, .int (w : Int)])) (some found) none none) H7 = .nx (sv60 sc tn (some (.int x)) (some (dT ring)) (some (.int hands)) (some (.int (w : Int))) (some (natN o)) (some (.int i)) (some (.lst (natL (othN i)))) (some (.int first)) (some (.loc H6.length)) (some (.lst [rLL ring, .int hands, .int i, .int (w : Int)])) (some found) (some (iL ths)) none) H7 := by
    have hc : eComp false [12] (iRow (eVar 4)) (gVar 12) (tV (eBin (eqD true) (eVar 12) (eTup aNil))) (eBin ixD (eVar 12) (eC (.int 0))) (sv60 sc tn (some (.int x)) (some (dT ring)) (some (.int hands)) (some (.int (w : Int))) (some (natN o)) (some (.int i)) (some (.lst (natL (othN i)))) (some (.int first)) (some (.loc H6.length)) (some (.lst [rLL ring, .int hands, .int i, .int (w : Int)])) (some found) none none) H7 = .ok (iL ths) H7 := by
      rw [comp_ty (em := iT) (xs := ring) (h1 := H7) (fun d => !decide (d = [])) (fun d => .int (d.getD 0 0)) (Itr.tup rfl) fun d hd => ?_]
      · rw [hths]
        unfold iL; rw [List.map_map]; rfl
      · have q1 : eqD true (iT d) (.tup []) H7 = .ok (.bl (!decide (d = []))) H7 := by
          have := eq_of iT (k := 1) (by omega) (n := true) (a := d) (b := []) (h := H7)
          exact this.trans (by simp)
        refine ⟨_, rfl, ?_, fun hne => ?_⟩
        · unfold sv60
          generalize (!decide (d = [])) = BB at *
          generalize iT d = DD at *
          generalize dT ring = RD at *
          generalize D.lst [rLL ring, .int hands, .int i, .int (w : Int)] = KP at *
          generalize D.lst (natL (othN i)) = OT at *
          generalize (w : Int) = W at *
          generalize natN o = N at *
          simp [wipeS, q1]
        · have hpos : 0 < d.length := by
            cases d with
            | nil => simp at hne
            | cons a l => simp
          have ix := ix_ints (h := H7) (d := iT d) (ns := d) (i := 0) rfl (by omega) (by omega)
          have ix : ixD (iT d) (.int 0) H7 = .ok (.int (d.getD 0 0)) H7 := ix
          unfold sv60
          generalize d.getD 0 0 = V at *
          generalize iT d = DD at *
          generalize dT ring = RD at *
          generalize D.lst [rLL ring, .int hands, .int i, .int (w : Int)] = KP at *
          generalize D.lst (natL (othN i)) = OT at *
          generalize (w : Int) = W at *
          generalize natN o = N at *
          simp [wipeS, ix]
    unfold sv60 at *
    clear hH7 hH8 hH9
    generalize iL ths = TH at *
    generalize D.lst [rLL ring, .int hands, .int i, .int (w : Int)] = KP at *
    generalize dT ring = RD at *
    generalize D.lst (natL (othN i)) = OT at *
    generalize (w : Int) = W at *
    generalize natN o = N at *
    simp [hc]
  have fG : t_law_1_16 (sv60 sc tn (some (.int x)) (some (dT ring)) (some (.int hands)) (some (.int (w : Int))) (some (natN o)) (some (.int i)) (some (.lst (natL (othN i)))) (some (.int first)) (some (.loc H6.length)) (some (.lst [rLL ring, .int hands, .int i, .int (w : Int)])) (some found) (some (iL ths)) none) H7 = .nx (sv60 sc tn (some (.int x)) (some (dT ring)) (some (.int hands)) (some (.int (w : Int))) (some (natN o)) (some (.int i)) (some (.lst (natL (othN i)))) (some (.int first)) (some (.loc H6.length)) (some (.lst [rLL ring, .int hands, .int i, .int (w : Int)])) (some found) (some (iL ths)) none) H7 := by
    by_cases c : ths = []
    · have q1 : eqD true (iL ths) (.lst []) H7 = .ok (.bl false) H7 := by
        rw [c]
        show eqD true (.lst []) (.lst []) H7 = _
        rw [x_neNil]; rfl
      unfold sv60
      clear hH7 hH8 hH9
      generalize iL ths = TH at *
      generalize D.lst [rLL ring, .int hands, .int i, .int (w : Int)] = KP at *
      generalize dT ring = RD at *
      generalize D.lst (natL (othN i)) = OT at *
      generalize (w : Int) = W at *
      generalize natN o = N at *
      simp [q1]
    · obtain ⟨hb, day, hday, him⟩ := ht0 c
      have tt := told_thing60 (r := ring) (hands := hands) (i := t0) (w := w) (day := day) (h := H7) rok hh hb ⟨w1, w40⟩ hday him
      have q1 : eqD true (iL ths) (.lst []) H7 = .ok (.bl true) H7 := by
        show eqD true (.lst (ths.map D.int)) (.lst []) H7 = _
        rw [x_neNil]
        cases ths with
        | nil => exact absurd rfl c
        | cons a l => rfl
      have ix : ixD (iL ths) (.int 0) H7 = .ok (.int t0) H7 := by
        have := ix_ints (h := H7) (d := iL ths) (ns := ths) (i := 0) rfl (by omega) (by have := List.length_pos_iff.mpr c; omega)
        rw [this, h0in]
        cases ths with
        | nil => exact absurd rfl c
        | cons a l => rfl
      have q2 := eq_flag3 (a := false) (b := false) (c := true) (h := H7)
      unfold flag3 at tt q2
      unfold sv60
      clear hH7 hH8 hH9
      generalize iL ths = TH at *
      generalize D.lst [rLL ring, .int hands, .int i, .int (w : Int)] = KP at *
      generalize dT ring = RD at *
      generalize D.lst (natL (othN i)) = OT at *
      generalize (w : Int) = W at *
      generalize natN o = N at *
      simp [q1, ix, tt, q2]
  have fH : t_law_1_17 (sv60 sc tn (some (.int x)) (some (dT ring)) (some (.int hands)) (some (.int (w : Int))) (some (natN o)) (some (.int i)) (some (.lst (natL (othN i)))) (some (.int first)) (some (.loc H6.length)) (some (.lst [rLL ring, .int hands, .int i, .int (w : Int)])) (some found) (some (iL ths)) none) H7 = .nx (sv60 sc tn (some (.int x)) (some (dT ring)) (some (.int hands)) (some (.int (w : Int))) (some (natN o)) (some (.int i)) (some (.lst (natL (othN i)))) (some (.int first)) (some (.loc H7.length)) (some (.lst [rLL ring, .int hands, .int i, .int (w : Int)])) (some found) (some (iL ths)) none) (H7 ++ [A2]) := by
    have hl : ths.length ≤ 1000 := by
      rw [hths, List.length_map]
      have := List.length_filter_le (fun d : List Int => !decide (d = [])) ring
      omega
    have ad : addD (iL ths) (.lst [.int i]) H7 = .ok (iL (ths ++ [i])) H7 := by
      show addD (.lst (ths.map D.int)) (.lst [.int i]) H7 = _
      rw [add_lst (by simp; omega)]
      unfold iL
      rw [List.map_append]; rfl
    have ix : ixD (iL (ths ++ [i])) (.int 0) H7 = .ok (.int t0) H7 := by
      have := ix_ints (h := H7) (d := iL (ths ++ [i])) (ns := ths ++ [i]) (i := 0) rfl (by omega) (by simp)
      rw [this, h0in]
      cases ths <;> rfl
    rw [hA2]
    unfold sv60
    clear hH7 hH8 hH9 hA2
    generalize iL (ths ++ [i]) = TI at *
    generalize iL ths = TH at *
    generalize D.lst [rLL ring, .int hands, .int i, .int (w : Int)] = KP at *
    generalize dT ring = RD at *
    generalize D.lst (natL (othN i)) = OT at *
    generalize (w : Int) = W at *
    generalize natN o = N at *
    simp [-add_lst, ad, ix]
  have fI : t_law_1_18 (sv60 sc tn (some (.int x)) (some (dT ring)) (some (.int hands)) (some (.int (w : Int))) (some (natN o)) (some (.int i)) (some (.lst (natL (othN i)))) (some (.int first)) (some (.loc H7.length)) (some (.lst [rLL ring, .int hands, .int i, .int (w : Int)])) (some found) (some (iL ths)) none) (H7 ++ [A2]) = .nx (sv60 sc tn (some (.int x)) (some (dT ring)) (some (.int hands)) (some (.int (w : Int))) (some (natN o)) (some (.int i)) (some (.lst (natL (othN i)))) (some (.int first)) (some (.loc H7.length)) (some (.lst [rLL ring, .int hands, .int i, .int (w : Int)])) (some found) (some (iL ths)) (some due)) H9 := by
    unfold sv60
    clear hH8 hH9
    generalize H7 ++ [A2] = H8 at *
    generalize iL ths = TH at *
    generalize D.lst [rLL ring, .int hands, .int i, .int (w : Int)] = KP at *
    generalize dT ring = RD at *
    generalize D.lst (natL (othN i)) = OT at *
    generalize (w : Int) = W at *
    generalize natN o = N at *
    simp [ew60]
  have fJ : t_law_1_19 (sv60 sc tn (some (.int x)) (some (dT ring)) (some (.int hands)) (some (.int (w : Int))) (some (natN o)) (some (.int i)) (some (.lst (natL (othN i)))) (some (.int first)) (some (.loc H7.length)) (some (.lst [rLL ring, .int hands, .int i, .int (w : Int)])) (some found) (some (iL ths)) (some due)) H9 = .nx (sv60 sc tn (some (.int x)) (some (dT ring)) (some (.int hands)) (some (.int (w : Int))) (some (natN o)) (some (.int i)) (some (.lst (natL (othN i)))) (some (.int first)) (some (.loc H7.length)) (some (.lst [rLL ring, .int hands, .int i, .int (w : Int)])) (some found) (some (iL ths)) (some due)) H9 := by
    obtain ⟨t91, t92⟩ := t9
    unfold sv60
    clear hH8 hH9
    generalize iL ths = TH at *
    generalize D.lst [rLL ring, .int hands, .int i, .int (w : Int)] = KP at *
    generalize dT ring = RD at *
    generalize D.lst (natL (othN i)) = OT at *
    generalize (w : Int) = W at *
    generalize natN o = N at *
    simp [i90, i91, i92, i93, t91, t92]
  have hdkE : O.lst ((dk7 ++ [yw] ++ [yh] ++ [yf] ++ [yi] ++ [y]).map D.int) :: r0 = O.lst ((dk7 ++ [yw] ++ [yh] ++ [yf] ++ [yi] ++ [y]).map D.int) :: r0 := rfl
  rw [k_law_1_ap]
  clear hH6 hH7 hH8 hH9 hB6 hA hA2 hdue t9 mo mo2 ebo bs lopS
  generalize O.lst ((dk1 ++ [x]).map D.int) :: r0 = G0 at *
  generalize O.lst (dk1.map D.int) :: r0 = G1 at *
  generalize O.lst ((dk7 ++ [yw] ++ [yh] ++ [yf] ++ [yi] ++ [y]).map D.int) :: r0 = G2 at *
  generalize O.lst ((dk7 ++ [yw] ++ [yh] ++ [yf] ++ [yi]).map D.int) :: r0 = G3 at *
  generalize O.lst ((dk7 ++ [yw] ++ [yh] ++ [yf]).map D.int) :: r0 = G4 at *
  generalize O.lst ((dk7 ++ [yw] ++ [yh]).map D.int) :: r0 = G5 at *
  simp only [x_fa, x_seq, f0, f1, f2, f3, f4, f5, f6, f7, f8, f9, fA, fB, fC, fD, fE, fF, fG, fH, fI, fJ]
  rfl
theorem law_pure : ∀ ns : List Int, ns.length ≤ 63 → ∃ h, F_law [.scr (ns.map D.int)] [] = .ok (.bl true) h := by
  intro ns _
  obtain ⟨d0, l0, e1⟩ := F_deck (ns := ns) (n := 120) (by omega)
  obtain ⟨sc, hsc⟩ : ∃ sc : D, sc = .scr (ns.map D.int) := ⟨_, rfl⟩
  obtain ⟨d1, r1, l1, t1⟩ := k60_turn (sc := sc) (tn := 0) (dk := d0) (r0 := []) (.inl rfl) (by rw [if_pos (by decide)]; omega)
  rw [if_pos (by decide)] at l1
  obtain ⟨d2, r2, l2, t2⟩ := k60_turn (sc := sc) (tn := 1) (dk := d1) (r0 := r1) (.inr (.inl rfl)) (by rw [if_pos (by decide)]; omega)
  rw [if_pos (by decide)] at l2
  obtain ⟨d3, r3, l3, t3⟩ := k60_turn (sc := sc) (tn := 2) (dk := d2) (r0 := r2) (.inr (.inr rfl)) (by rw [if_neg (by decide)]; omega)
  have lp : loopS (gVar 2) k_law_1 ((rgI 0 3).map D.int) [some sc, some (.loc 0), none, none, none, none, none, none, none, none, none, none, none, none, none, none, none, none] [O.lst (d0.map D.int)] = .nx [some sc, some (.loc 0), none, none, none, none, none, none, none, none, none, none, none, none, none, none, none, none] (.lst (d3.map D.int) :: r3) := by
    have e3 : (rgI 0 3).map D.int = [.int 0, .int 1, .int 2] := rfl
    rw [e3]
    exact (loop_nx (s1 := sv60 sc 0 none none none none none none none none none none none none none) rfl t1).trans ((loop_nx (s1 := sv60 sc 1 none none none none none none none none none none none none none) rfl t2).trans ((loop_nx (s1 := sv60 sc 2 none none none none none none none none none none none none none) rfl t3).trans x_loop_nil))
  have hf : sFor (iRng1 (aCons (eC (.int 3)) aNil)) (gVar 2) k_law_1 [some sc, some (.loc 0), none, none, none, none, none, none, none, none, none, none, none, none, none, none, none, none] [O.lst (d0.map D.int)] = .nx [some sc, some (.loc 0), none, none, none, none, none, none, none, none, none, none, none, none, none, none, none, none] (.lst (d3.map D.int) :: r3) := (for_rng (n := 3) rfl (by omega) (by omega)).trans lp
  have hx : exitT [] (.bl true) (.lst (d3.map D.int) :: r3) = .ok (.bl true) [] := exitT_app (h := []) (t := .lst (d3.map D.int) :: r3) rfl
  have e1' : F__law_deck [sc, .int 120] [] = .ok (.loc 0) [O.lst (d0.map D.int)] := by rw [hsc]; exact e1
  refine ⟨[], ?_⟩
  rw [← hsc]
  clear lp e1 t1 t2 t3
  generalize O.lst (d3.map D.int) :: r3 = G3 at *
  generalize [O.lst (d0.map D.int)] = G1 at *
  simp [F_law, b_law, e1', hf, hx]

end WD
namespace WD
open PySem PySem.Spec PyProof.Rows L2
theorem law_sp {K : PySem.W.Frag} (pure : ∀ ns : List Int, ns.length ≤ 63 → ∃ h, F_law [.scr (ns.map D.int)] [] = .ok (.bl true) h) (H : Hp) (a : Addr) (ns : List Int) (hl : ns.length ≤ 63) (hO : Only H) (hS : SqL K H a (ns.map V.int)) : spL K F_law [.ref a] H (fun v _ => v = .bl true) fun _ _ _ => False := by
  obtain ⟨h, e⟩ := pure ns hl
  have key : ∀ g : Hp, Same g H → (∀ b o, g b = some o → SzO o) → SqL K g a (ns.map V.int) → spL K F_law [.ref a] H (fun v _ => v = .bl true) fun _ _ _ => False := fun g hg hz hs => by
    refine ⟨rfl, (g, fun _ => none), [], [.scr (ns.map D.int)], [], ⟨hg, hz, fun _ _ e => (nomatch e), fun _ _ e => (nomatch e), rfl, .nil, fun _ h => (nomatch h), fun n a o e => by simp at e⟩, ⟨.ref a, [], rfl, ⟨a, _, rfl, hs, .of_ints ns⟩, rfl⟩, ?_⟩
    rw [e]
    intro v H' G' ms' _ _ _ i
    exact i
  have one : ∀ u, H a = some u → SzO u → SqL K (fun b => if b = a then some u else none) a (ns.map V.int) → spL K F_law [.ref a] H (fun v _ => v = .bl true) fun _ _ _ => False := fun u hu hz hs => by
    refine key _ (fun b o e => ?_) (fun b o e => ?_) hs
    · split at e
      · rename_i hb; cases e; rw [hb]; exact hu
      · cases e
    · split at e
      · cases e; exact hz
      · cases e
  have len : (ns.map V.int).length ≤ sizeLine := by rw [List.length_map]; exact Nat.le_trans hl (by decide)
  rcases hS with (q | ⟨o, q⟩) | q
  · exact one _ q len (.inl (.inl (if_pos rfl)))
  · exact one _ q len (.inl (.inr ⟨o, if_pos rfl⟩))
  · exact key (fun _ => none) (fun _ _ e => (nomatch e)) (fun _ _ e => (nomatch e)) (.inr q)
end WD
open PySem PySem.W PyProof.Rows
set_option maxHeartbeats 0 in
theorem PySem.Challenge.cw_withindays_k60_put_in_holds : PySem.Challenge.rw_withindays_k60_put_in.Holds := by
  w_on; o_law
  refine HandSHeadRun.head_any (r := OpenLaw.row PySem.Challenge.rw_withindays_k60_put_in) (q := view (OpenLaw.row PySem.Challenge.rw_withindays_k60_put_in).prog [40]) (H := WD.hkH) (ob := WD.obH) (M := 60000) (loose := WD.looseH) (d := HandSHeadRun.topDef (OpenLaw.row PySem.Challenge.rw_withindays_k60_put_in).prog 40) (kwd := []) WD.obH_eq
    (by kernel_rfl) (fun s => by kernel_rfl) WD.runH (by kernel_rfl) (by kernel_rfl) (by kernel_rfl) (by rfl) (by first | assumption | decide +kernel) (by decide +kernel) ⟨rfl, rfl, rfl, rfl, rfl, by decide +kernel⟩ ?hw ?hc
  case hw => w_witness2
  case hc =>
    refine WD.walk_ofX (l := PySem.Challenge.rw_withindays_k60_put_in) (n := 63) (k := 51) (x := "_law_script") (CX := fun w => L2.CX (PySem.Challenge.rw_withindays_k60_put_in).prog w) rfl (by decide) (by kernel_rfl) ⟨rfl, by decide, by decide⟩ ?F (fun _ _ _ _ _ (h : L2.CX _ _ _ _ _ _ _ _) => by obtain ⟨_, _, _, _, _, _, _, _, _, _, _, _, z⟩ := h; exact z.elim)
    intro w mg fa h Y G hmg0
    obtain ⟨K, KX, c⟩ := Y
    have hmg : mg ("law" : PySem.Str) = some (.ref fa) := by
      have e : (HandSHeadRun.topDef (OpenLaw.row PySem.Challenge.rw_withindays_k60_put_in).prog 40).name = ("law" : PySem.Str) := by kernel_rfl
      rw [← e]
      exact hmg0
    obtain ⟨fd, hb, hF⟩ := WD.all_hd (l := PySem.Challenge.rw_withindays_k60_put_in) (w := w) KX G hmg c
    exact ⟨K, fd, WD.spL K WD.F_law, KX, hb, fun H a ns hl hO hS => WD.law_sp WD.law_pure H a ns hl hO hS, hF⟩
