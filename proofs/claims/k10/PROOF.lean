import PyProof.Rows.All
import Wide.All
import OpenK.AllK
import Wide.FinOn
import HandS.ForMost
import HandS.ForExc
import HandS.IsInst
import HandS.ExcIs
import HandS.ExcField
import HandS.Zip
import HandS.TupAny
import HandS.TupMul
import HandS.Iter
import HandS.Conv
import KE.KDictKeyed
import KE.KDictDisplayH
import KE.KDictWalk
import KE.KDictPairs
import HandS.Wide
import PyProof.NeKinds
import KE.KTupSum
import HandS.Dict
import KE.GoesEnum
import HandS.SortInts
import HandS.SortRule
import HandS.Deep
import HandS.SetFor
import HandS.Strs
import PyProof.ReprRoads
import HandS.TupLe
import HandS.HotCalls
import HandS.DeepEq
import HandS.ExcInit
import KE.KExcIs
import HandS.Text
import HandS.Walk
import KE.KDictCopyH
import HandS.RevTup
import HandS.TupLen
import KE.SortData
import KE.DataMinMax
import HandS.Flow
import HandS.TupSets
import HandS.NoneIn
import PyProof.EqKinds
import HandS.Rev
import KE.DataFind
import KE.KRevSl
import HandS.Head0
import HandS.Head1
import HandS.Head2
import HandS.HeadHook1
import HandS.HeadHook2
import PySem.Challenge.RW_withindays_k10_tasks_told
set_option Elab.async false
set_option linter.all false
set_option autoImplicit false
set_option maxRecDepth 1000000
set_option maxHeartbeats 0
namespace WD
open PySem PySem.Spec PyProof.Rows L2
abbrev veBm : List Value := [.type "ValueError", .type "Exception", .type "BaseException", .type "object"]
def valsX (g : Addr → Option Obj) (a : Addr) : List Addr := match g a with
  | some ⟨_, _, .dict es _, _⟩ => es.toList.flatMap fun e => He.refV e.val
  | _ => []
def codeX (g : Addr → Option Obj) (a : Addr) : List Addr := match g a with
  | some ⟨_, _, .func fd, _⟩ => He.refV fd.code
  | _ => []
def clsX (g : Addr → Option Obj) (a : Addr) : List Addr := match g a with
  | some ⟨_, d, .cls cd, _⟩ => cd.ns :: (match d with
    | some b => [b]
    | none => [])
  | _ => []
/-- the module's names, their code, the classes' own names and their code -/
def asX (g : Addr → Option Obj) : List Addr :=
  mainGlobals :: (valsX g mainGlobals ++ ((valsX g mainGlobals).flatMap (codeX g) ++ ((valsX g mainGlobals).flatMap (clsX g) ++ (((valsX g mainGlobals).flatMap (clsX g)).flatMap (valsX g) ++ (((valsX g mainGlobals).flatMap (clsX g)).flatMap (valsX g)).flatMap (codeX g)))))
abbrev FcX : Type := PySem.W.Frag → Bool
abbrev AlX : Type := Bool × List He.FnV
def obsX (fcs : List FcX) (fns : List He.FnD) (K : PySem.W.Frag) : AlX := ((fcs.all fun f => f K) && fns.all fun d => (He.Fa.code d.at_ d.qual).ok K, fns.map fun d => He.fnObs K d.at_)
def valX (fns : List He.FnD) : AlX := (true, fns.map He.FnD.val)
def SaysX (fcs : List FcX) (fns : List He.FnD) (K : PySem.W.Frag) : Prop := obsX fcs fns K = valX fns
def obsXG (fcs : List FcX) (fns : List He.FnD) (g : Addr → Option Obj) : AlX := obsX fcs fns (He.frG g (asX g))
def hookX (fcs : List FcX) (fns : List He.FnD) : PySem.W.Hook where
  α := AlX
  obs := fun s => obsXG fcs fns s.heap.get?
  val := fun _ => valX fns
  says := fun _ h => ∃ K : PySem.W.Frag, K.In h ∧ SaysX fcs fns K
  of := fun _ _ e => ⟨_, He.frG_in, e⟩
  keeps := fun _ _ _ ⟨K, hK, c⟩ k => ⟨K, PySem.W.Frag.In.keeps hK k, c⟩
theorem obsXG_eq {fcs : List FcX} {fns : List He.FnD} {g : Addr → Option Obj} {s : Shared} (h : ∀ a, g a = s.heap.get? a) : obsXG fcs fns g = (hookX fcs fns).obs s := by
  have e : g = s.heap.get? := funext h
  rw [e]; rfl
section
variable {fcs : List FcX} {fns : List He.FnD} {K : PySem.W.Frag}
theorem SaysX.fact (c : SaysX fcs fns K) (i : Nat) {f : FcX} (h : fcs[i]? = some f) : f K = true := by
  have c1 := (He.ba (show ((fcs.all fun f => f K) && fns.all fun d => (He.Fa.code d.at_ d.qual).ok K) = true from congrArg (fun z : AlX => z.1) c)).1
  exact List.all_eq_true.mp c1 f (List.mem_of_getElem? h)
theorem SaysX.def_ (c : SaysX fcs fns K) (i : Nat) {d : He.FnD} (h : fns[i]? = some d) :
    ∃ oc od osl kV doc pm an cdv ct, K.lookup (He.fAd K d.at_) = some ⟨oc, od, .func (PySem.W.fnOf d.name d.qual d.params d.body d.scope .none kV doc pm an cdv ct), osl⟩ ∧ PySem.W.codeIn K cdv d.qual = true := by
  have c2 := (He.ba (show ((fcs.all fun f => f K) && fns.all fun d => (He.Fa.code d.at_ d.qual).ok K) = true from congrArg (fun z : AlX => z.1) c)).2
  have e : fns.map (fun d => He.fnObs K d.at_) = fns.map He.FnD.val := congrArg (fun z : AlX => z.2) c
  have e2 : (fns.map fun d => He.fnObs K d.at_)[i]? = (fns.map He.FnD.val)[i]? := by rw [e]
  rw [List.getElem?_map, List.getElem?_map, h] at e2
  exact He.fn_ok (Option.some.inj e2) (List.all_eq_true.mp c2 d (List.mem_of_getElem? h))
end
/-- a whole number that a name of the module stands for -/
def intXB (K : PySem.W.Frag) (x : Str) (i : Int) : Bool := match PySem.W.nsIn K mainGlobals x with
  | some (some (.int j _)) => decide (j = i)
  | _ => false
theorem intX_ok {K : PySem.W.Frag} {x : Str} {i : Int} (c : intXB K x i = true) : ∃ t, PySem.W.nsIn K mainGlobals x = some (some (.int i t)) := by
  unfold intXB at c
  cases e : PySem.W.nsIn K mainGlobals x with
  | none => rw [e] at c; cases c
  | some o =>
    rw [e] at c
    cases o with
    | none => cases c
    | some v =>
      cases v with
      | int j t =>
        have ej : j = i := of_decide_eq_true c
        rw [ej]
        exact ⟨t, rfl⟩
      | _ => cases c
/-- an own error's class -/
def excXB (K : PySem.W.Frag) (C : Addr) : Bool := match K.lookup C with
  | some ⟨.type t, _, .cls ⟨_, _, .ref c :: bm, _, _, hd, _, _, _, _, del⟩, sl⟩ => decide (t = "type") && (decide (c = C) && (hd && (!del && (PySem.HandSPX.refsVE bm && (match sl.toList with
    | [_, _, _, _, some (.builtin b), _] => decide (b = "ValueError.__new__")
    | _ => false)))))
  | _ => false
theorem excX_ok {K : PySem.W.Frag} {C : Addr} (c : excXB K C = true) : ∃ (nm qn : Str) (N : Addr) (bs bm : List Value) (sn : List Str) (sb : List Value) (ab : Bool) (co : Option Bool) (dd : Option Addr) (k0 k1 k2 k3 k5 : Option Value),
    K.lookup C = some (excClassObj nm qn C N bs bm true sn sb ab co dd k0 k1 k2 k3 k5 "ValueError.__new__") ∧ PySem.HandSPX.refsVE bm = true := by
  unfold excXB at c
  cases e : K.lookup C with
  | none => rw [e] at c; cases c
  | some o =>
    rw [e] at c
    obtain ⟨oc, od, dt, osl⟩ := o
    cases oc with
    | type t =>
      cases dt with
      | cls cd =>
        obtain ⟨nm, bs, mro, N, qn, hd, sn, sb, ab, co, del⟩ := cd
        cases mro with
        | nil => cases c
        | cons m bm =>
          cases m with
          | ref c' =>
            obtain ⟨c1, c⟩ := He.ba c
            obtain ⟨c2, c⟩ := He.ba c
            obtain ⟨c3, c⟩ := He.ba c
            obtain ⟨c4, c⟩ := He.ba c
            obtain ⟨c5, c6⟩ := He.ba c
            have e1 : t = "type" := of_decide_eq_true c1
            have e2 : c' = C := of_decide_eq_true c2
            have e3 : hd = true := c3
            have e4 : del = false := by cases del <;> first | rfl | cases c4
            subst e1 e2 e3 e4
            obtain ⟨l⟩ := osl
            match l, c6 with
            | [k0, k1, k2, k3, some (.builtin b), k5], c6 =>
              have e5 : b = "ValueError.__new__" := of_decide_eq_true c6
              subst e5
              exact ⟨nm, qn, N, bs, bm, sn, sb, ab, co, od, k0, k1, k2, k3, k5, rfl, c5⟩
          | _ => cases c
      | _ => cases c
    | _ => cases c
def topS (i : Nat) : Stmt := PySem.Challenge.pw_withindays_k10_tasks_told.main.body.getD i (.Pass ⟨0, 0, 0, 0⟩)
abbrev s_is_whole : Stmt := topS 15
abbrev s_is_row : Stmt := topS 16
abbrev s_is_rising : Stmt := topS 17
abbrev s_told_rows : Stmt := topS 18
abbrev s_is_numbers : Stmt := topS 22
abbrev s_asked_numbers : Stmt := topS 23
abbrev s_is_off : Stmt := topS 28
abbrev s_is_pair : Stmt := topS 29
abbrev s_are_pairs : Stmt := topS 30
abbrev s_is_task : Stmt := topS 31
abbrev s_plain : Stmt := topS 32
abbrev s__law_cell : Stmt := topS 34
abbrev s__law_draws : Stmt := topS 35
abbrev s__law_next : Stmt := topS 36
abbrev s__law_of : Stmt := topS 37
abbrev s__law_some : Stmt := topS 38
abbrev s__law_tied : Stmt := topS 39
abbrev s__law_off : Stmt := topS 40
abbrev s__law_numbers : Stmt := topS 41
abbrev s__law_task : Stmt := topS 42
abbrev s__law_listed : Stmt := topS 43
abbrev s__law_spoil : Stmt := topS 44
abbrev s__law_other_kinds : Stmt := topS 45
abbrev s__law_is_whole : Stmt := topS 46
abbrev s__law_is_row : Stmt := topS 47
abbrev s__law_are_some : Stmt := topS 48
abbrev s__law_are_pairs : Stmt := topS 49
abbrev s__law_are_wholes : Stmt := topS 50
abbrev s__law_is_task : Stmt := topS 51
abbrev s__law_nested : Stmt := topS 53
abbrev s__law_odd : Stmt := topS 52
abbrev s__law_bent_row : Stmt := topS 54
abbrev s__law_bent : Stmt := topS 55
abbrev s__law_plain_refused : Stmt := topS 56
abbrev s__law_is_plain : Stmt := topS 57
abbrev s__law_looked_at : Stmt := topS 58
abbrev s_law : Stmt := topS 59
abbrev si_TooMany : Stmt := inClass (topS 13) 0
section
open PySem.W
def fcH0 (K : PySem.W.Frag) : Bool := decide ((PySem.W.nsIn K mainGlobals "is_whole" = some (some (.ref (He.fAd K ("is_whole", none))))) ∧ (PySem.W.keepIn K (.ref (He.fAd K ("is_whole", none))) = true) ∧ (PySem.W.nsIn K mainGlobals "is_row" = some (some (.ref (He.fAd K ("is_row", none))))) ∧ (PySem.W.keepIn K (.ref (He.fAd K ("is_row", none))) = true) ∧ (PySem.W.nsIn K mainGlobals "is_rising" = some (some (.ref (He.fAd K ("is_rising", none))))) ∧ (PySem.W.keepIn K (.ref (He.fAd K ("is_rising", none))) = true) ∧ (PySem.W.nsIn K mainGlobals "told_rows" = some (some (.ref (He.fAd K ("told_rows", none))))) ∧ (PySem.W.keepIn K (.ref (He.fAd K ("told_rows", none))) = true) ∧ (PySem.W.nsIn K mainGlobals "is_numbers" = some (some (.ref (He.fAd K ("is_numbers", none))))) ∧ (PySem.W.keepIn K (.ref (He.fAd K ("is_numbers", none))) = true) ∧ (PySem.W.nsIn K mainGlobals "asked_numbers" = some (some (.ref (He.fAd K ("asked_numbers", none))))) ∧ (PySem.W.keepIn K (.ref (He.fAd K ("asked_numbers", none))) = true))
theorem fcH0_ok {K : PySem.W.Frag} (h : fcH0 K = true) : (PySem.W.nsIn K mainGlobals "is_whole" = some (some (.ref (He.fAd K ("is_whole", none))))) ∧ (PySem.W.keepIn K (.ref (He.fAd K ("is_whole", none))) = true) ∧ (PySem.W.nsIn K mainGlobals "is_row" = some (some (.ref (He.fAd K ("is_row", none))))) ∧ (PySem.W.keepIn K (.ref (He.fAd K ("is_row", none))) = true) ∧ (PySem.W.nsIn K mainGlobals "is_rising" = some (some (.ref (He.fAd K ("is_rising", none))))) ∧ (PySem.W.keepIn K (.ref (He.fAd K ("is_rising", none))) = true) ∧ (PySem.W.nsIn K mainGlobals "told_rows" = some (some (.ref (He.fAd K ("told_rows", none))))) ∧ (PySem.W.keepIn K (.ref (He.fAd K ("told_rows", none))) = true) ∧ (PySem.W.nsIn K mainGlobals "is_numbers" = some (some (.ref (He.fAd K ("is_numbers", none))))) ∧ (PySem.W.keepIn K (.ref (He.fAd K ("is_numbers", none))) = true) ∧ (PySem.W.nsIn K mainGlobals "asked_numbers" = some (some (.ref (He.fAd K ("asked_numbers", none))))) ∧ (PySem.W.keepIn K (.ref (He.fAd K ("asked_numbers", none))) = true) := of_decide_eq_true h
def fcH1 (K : PySem.W.Frag) : Bool := decide ((PySem.W.nsIn K mainGlobals "is_off" = some (some (.ref (He.fAd K ("is_off", none))))) ∧ (PySem.W.keepIn K (.ref (He.fAd K ("is_off", none))) = true) ∧ (PySem.W.nsIn K mainGlobals "is_pair" = some (some (.ref (He.fAd K ("is_pair", none))))) ∧ (PySem.W.keepIn K (.ref (He.fAd K ("is_pair", none))) = true) ∧ (PySem.W.nsIn K mainGlobals "are_pairs" = some (some (.ref (He.fAd K ("are_pairs", none))))) ∧ (PySem.W.keepIn K (.ref (He.fAd K ("are_pairs", none))) = true) ∧ (PySem.W.nsIn K mainGlobals "is_task" = some (some (.ref (He.fAd K ("is_task", none))))) ∧ (PySem.W.keepIn K (.ref (He.fAd K ("is_task", none))) = true) ∧ (PySem.W.nsIn K mainGlobals "plain" = some (some (.ref (He.fAd K ("plain", none))))) ∧ (PySem.W.keepIn K (.ref (He.fAd K ("plain", none))) = true) ∧ (PySem.W.nsIn K mainGlobals "_law_cell" = some (some (.ref (He.fAd K ("_law_cell", none))))) ∧ (PySem.W.keepIn K (.ref (He.fAd K ("_law_cell", none))) = true))
theorem fcH1_ok {K : PySem.W.Frag} (h : fcH1 K = true) : (PySem.W.nsIn K mainGlobals "is_off" = some (some (.ref (He.fAd K ("is_off", none))))) ∧ (PySem.W.keepIn K (.ref (He.fAd K ("is_off", none))) = true) ∧ (PySem.W.nsIn K mainGlobals "is_pair" = some (some (.ref (He.fAd K ("is_pair", none))))) ∧ (PySem.W.keepIn K (.ref (He.fAd K ("is_pair", none))) = true) ∧ (PySem.W.nsIn K mainGlobals "are_pairs" = some (some (.ref (He.fAd K ("are_pairs", none))))) ∧ (PySem.W.keepIn K (.ref (He.fAd K ("are_pairs", none))) = true) ∧ (PySem.W.nsIn K mainGlobals "is_task" = some (some (.ref (He.fAd K ("is_task", none))))) ∧ (PySem.W.keepIn K (.ref (He.fAd K ("is_task", none))) = true) ∧ (PySem.W.nsIn K mainGlobals "plain" = some (some (.ref (He.fAd K ("plain", none))))) ∧ (PySem.W.keepIn K (.ref (He.fAd K ("plain", none))) = true) ∧ (PySem.W.nsIn K mainGlobals "_law_cell" = some (some (.ref (He.fAd K ("_law_cell", none))))) ∧ (PySem.W.keepIn K (.ref (He.fAd K ("_law_cell", none))) = true) := of_decide_eq_true h
def fcH2 (K : PySem.W.Frag) : Bool := decide ((PySem.W.nsIn K mainGlobals "_law_draws" = some (some (.ref (He.fAd K ("_law_draws", none))))) ∧ (PySem.W.keepIn K (.ref (He.fAd K ("_law_draws", none))) = true) ∧ (PySem.W.nsIn K mainGlobals "_law_next" = some (some (.ref (He.fAd K ("_law_next", none))))) ∧ (PySem.W.keepIn K (.ref (He.fAd K ("_law_next", none))) = true) ∧ (PySem.W.nsIn K mainGlobals "_law_of" = some (some (.ref (He.fAd K ("_law_of", none))))) ∧ (PySem.W.keepIn K (.ref (He.fAd K ("_law_of", none))) = true) ∧ (PySem.W.nsIn K mainGlobals "_law_some" = some (some (.ref (He.fAd K ("_law_some", none))))) ∧ (PySem.W.keepIn K (.ref (He.fAd K ("_law_some", none))) = true) ∧ (PySem.W.nsIn K mainGlobals "_law_tied" = some (some (.ref (He.fAd K ("_law_tied", none))))) ∧ (PySem.W.keepIn K (.ref (He.fAd K ("_law_tied", none))) = true) ∧ (PySem.W.nsIn K mainGlobals "_law_off" = some (some (.ref (He.fAd K ("_law_off", none))))) ∧ (PySem.W.keepIn K (.ref (He.fAd K ("_law_off", none))) = true))
theorem fcH2_ok {K : PySem.W.Frag} (h : fcH2 K = true) : (PySem.W.nsIn K mainGlobals "_law_draws" = some (some (.ref (He.fAd K ("_law_draws", none))))) ∧ (PySem.W.keepIn K (.ref (He.fAd K ("_law_draws", none))) = true) ∧ (PySem.W.nsIn K mainGlobals "_law_next" = some (some (.ref (He.fAd K ("_law_next", none))))) ∧ (PySem.W.keepIn K (.ref (He.fAd K ("_law_next", none))) = true) ∧ (PySem.W.nsIn K mainGlobals "_law_of" = some (some (.ref (He.fAd K ("_law_of", none))))) ∧ (PySem.W.keepIn K (.ref (He.fAd K ("_law_of", none))) = true) ∧ (PySem.W.nsIn K mainGlobals "_law_some" = some (some (.ref (He.fAd K ("_law_some", none))))) ∧ (PySem.W.keepIn K (.ref (He.fAd K ("_law_some", none))) = true) ∧ (PySem.W.nsIn K mainGlobals "_law_tied" = some (some (.ref (He.fAd K ("_law_tied", none))))) ∧ (PySem.W.keepIn K (.ref (He.fAd K ("_law_tied", none))) = true) ∧ (PySem.W.nsIn K mainGlobals "_law_off" = some (some (.ref (He.fAd K ("_law_off", none))))) ∧ (PySem.W.keepIn K (.ref (He.fAd K ("_law_off", none))) = true) := of_decide_eq_true h
def fcH3 (K : PySem.W.Frag) : Bool := decide ((PySem.W.nsIn K mainGlobals "_law_numbers" = some (some (.ref (He.fAd K ("_law_numbers", none))))) ∧ (PySem.W.keepIn K (.ref (He.fAd K ("_law_numbers", none))) = true) ∧ (PySem.W.nsIn K mainGlobals "_law_task" = some (some (.ref (He.fAd K ("_law_task", none))))) ∧ (PySem.W.keepIn K (.ref (He.fAd K ("_law_task", none))) = true) ∧ (PySem.W.nsIn K mainGlobals "_law_listed" = some (some (.ref (He.fAd K ("_law_listed", none))))) ∧ (PySem.W.keepIn K (.ref (He.fAd K ("_law_listed", none))) = true) ∧ (PySem.W.nsIn K mainGlobals "_law_spoil" = some (some (.ref (He.fAd K ("_law_spoil", none))))) ∧ (PySem.W.keepIn K (.ref (He.fAd K ("_law_spoil", none))) = true) ∧ (PySem.W.nsIn K mainGlobals "_law_other_kinds" = some (some (.ref (He.fAd K ("_law_other_kinds", none))))) ∧ (PySem.W.keepIn K (.ref (He.fAd K ("_law_other_kinds", none))) = true) ∧ (PySem.W.nsIn K mainGlobals "_law_is_whole" = some (some (.ref (He.fAd K ("_law_is_whole", none))))) ∧ (PySem.W.keepIn K (.ref (He.fAd K ("_law_is_whole", none))) = true))
theorem fcH3_ok {K : PySem.W.Frag} (h : fcH3 K = true) : (PySem.W.nsIn K mainGlobals "_law_numbers" = some (some (.ref (He.fAd K ("_law_numbers", none))))) ∧ (PySem.W.keepIn K (.ref (He.fAd K ("_law_numbers", none))) = true) ∧ (PySem.W.nsIn K mainGlobals "_law_task" = some (some (.ref (He.fAd K ("_law_task", none))))) ∧ (PySem.W.keepIn K (.ref (He.fAd K ("_law_task", none))) = true) ∧ (PySem.W.nsIn K mainGlobals "_law_listed" = some (some (.ref (He.fAd K ("_law_listed", none))))) ∧ (PySem.W.keepIn K (.ref (He.fAd K ("_law_listed", none))) = true) ∧ (PySem.W.nsIn K mainGlobals "_law_spoil" = some (some (.ref (He.fAd K ("_law_spoil", none))))) ∧ (PySem.W.keepIn K (.ref (He.fAd K ("_law_spoil", none))) = true) ∧ (PySem.W.nsIn K mainGlobals "_law_other_kinds" = some (some (.ref (He.fAd K ("_law_other_kinds", none))))) ∧ (PySem.W.keepIn K (.ref (He.fAd K ("_law_other_kinds", none))) = true) ∧ (PySem.W.nsIn K mainGlobals "_law_is_whole" = some (some (.ref (He.fAd K ("_law_is_whole", none))))) ∧ (PySem.W.keepIn K (.ref (He.fAd K ("_law_is_whole", none))) = true) := of_decide_eq_true h
def fcH4 (K : PySem.W.Frag) : Bool := decide ((PySem.W.nsIn K mainGlobals "_law_is_row" = some (some (.ref (He.fAd K ("_law_is_row", none))))) ∧ (PySem.W.keepIn K (.ref (He.fAd K ("_law_is_row", none))) = true) ∧ (PySem.W.nsIn K mainGlobals "_law_are_some" = some (some (.ref (He.fAd K ("_law_are_some", none))))) ∧ (PySem.W.keepIn K (.ref (He.fAd K ("_law_are_some", none))) = true) ∧ (PySem.W.nsIn K mainGlobals "_law_are_pairs" = some (some (.ref (He.fAd K ("_law_are_pairs", none))))) ∧ (PySem.W.keepIn K (.ref (He.fAd K ("_law_are_pairs", none))) = true) ∧ (PySem.W.nsIn K mainGlobals "_law_are_wholes" = some (some (.ref (He.fAd K ("_law_are_wholes", none))))) ∧ (PySem.W.keepIn K (.ref (He.fAd K ("_law_are_wholes", none))) = true) ∧ (PySem.W.nsIn K mainGlobals "_law_is_task" = some (some (.ref (He.fAd K ("_law_is_task", none))))) ∧ (PySem.W.keepIn K (.ref (He.fAd K ("_law_is_task", none))) = true) ∧ (PySem.W.nsIn K mainGlobals "_law_nested" = some (some (.ref (He.fAd K ("_law_nested", none))))) ∧ (PySem.W.keepIn K (.ref (He.fAd K ("_law_nested", none))) = true))
theorem fcH4_ok {K : PySem.W.Frag} (h : fcH4 K = true) : (PySem.W.nsIn K mainGlobals "_law_is_row" = some (some (.ref (He.fAd K ("_law_is_row", none))))) ∧ (PySem.W.keepIn K (.ref (He.fAd K ("_law_is_row", none))) = true) ∧ (PySem.W.nsIn K mainGlobals "_law_are_some" = some (some (.ref (He.fAd K ("_law_are_some", none))))) ∧ (PySem.W.keepIn K (.ref (He.fAd K ("_law_are_some", none))) = true) ∧ (PySem.W.nsIn K mainGlobals "_law_are_pairs" = some (some (.ref (He.fAd K ("_law_are_pairs", none))))) ∧ (PySem.W.keepIn K (.ref (He.fAd K ("_law_are_pairs", none))) = true) ∧ (PySem.W.nsIn K mainGlobals "_law_are_wholes" = some (some (.ref (He.fAd K ("_law_are_wholes", none))))) ∧ (PySem.W.keepIn K (.ref (He.fAd K ("_law_are_wholes", none))) = true) ∧ (PySem.W.nsIn K mainGlobals "_law_is_task" = some (some (.ref (He.fAd K ("_law_is_task", none))))) ∧ (PySem.W.keepIn K (.ref (He.fAd K ("_law_is_task", none))) = true) ∧ (PySem.W.nsIn K mainGlobals "_law_nested" = some (some (.ref (He.fAd K ("_law_nested", none))))) ∧ (PySem.W.keepIn K (.ref (He.fAd K ("_law_nested", none))) = true) := of_decide_eq_true h
def fcH5 (K : PySem.W.Frag) : Bool := decide ((PySem.W.nsIn K mainGlobals "_law_odd" = some (some (.ref (He.fAd K ("_law_odd", none))))) ∧ (PySem.W.keepIn K (.ref (He.fAd K ("_law_odd", none))) = true) ∧ (PySem.W.nsIn K mainGlobals "_law_bent_row" = some (some (.ref (He.fAd K ("_law_bent_row", none))))) ∧ (PySem.W.keepIn K (.ref (He.fAd K ("_law_bent_row", none))) = true) ∧ (PySem.W.nsIn K mainGlobals "_law_bent" = some (some (.ref (He.fAd K ("_law_bent", none))))) ∧ (PySem.W.keepIn K (.ref (He.fAd K ("_law_bent", none))) = true) ∧ (PySem.W.nsIn K mainGlobals "_law_plain_refused" = some (some (.ref (He.fAd K ("_law_plain_refused", none))))) ∧ (PySem.W.keepIn K (.ref (He.fAd K ("_law_plain_refused", none))) = true) ∧ (PySem.W.nsIn K mainGlobals "_law_is_plain" = some (some (.ref (He.fAd K ("_law_is_plain", none))))) ∧ (PySem.W.keepIn K (.ref (He.fAd K ("_law_is_plain", none))) = true) ∧ (PySem.W.nsIn K mainGlobals "_law_looked_at" = some (some (.ref (He.fAd K ("_law_looked_at", none))))) ∧ (PySem.W.keepIn K (.ref (He.fAd K ("_law_looked_at", none))) = true))
theorem fcH5_ok {K : PySem.W.Frag} (h : fcH5 K = true) : (PySem.W.nsIn K mainGlobals "_law_odd" = some (some (.ref (He.fAd K ("_law_odd", none))))) ∧ (PySem.W.keepIn K (.ref (He.fAd K ("_law_odd", none))) = true) ∧ (PySem.W.nsIn K mainGlobals "_law_bent_row" = some (some (.ref (He.fAd K ("_law_bent_row", none))))) ∧ (PySem.W.keepIn K (.ref (He.fAd K ("_law_bent_row", none))) = true) ∧ (PySem.W.nsIn K mainGlobals "_law_bent" = some (some (.ref (He.fAd K ("_law_bent", none))))) ∧ (PySem.W.keepIn K (.ref (He.fAd K ("_law_bent", none))) = true) ∧ (PySem.W.nsIn K mainGlobals "_law_plain_refused" = some (some (.ref (He.fAd K ("_law_plain_refused", none))))) ∧ (PySem.W.keepIn K (.ref (He.fAd K ("_law_plain_refused", none))) = true) ∧ (PySem.W.nsIn K mainGlobals "_law_is_plain" = some (some (.ref (He.fAd K ("_law_is_plain", none))))) ∧ (PySem.W.keepIn K (.ref (He.fAd K ("_law_is_plain", none))) = true) ∧ (PySem.W.nsIn K mainGlobals "_law_looked_at" = some (some (.ref (He.fAd K ("_law_looked_at", none))))) ∧ (PySem.W.keepIn K (.ref (He.fAd K ("_law_looked_at", none))) = true) := of_decide_eq_true h
def fcH6 (K : PySem.W.Frag) : Bool := decide ((PySem.W.nsIn K mainGlobals "law" = some (some (.ref (He.fAd K ("law", none))))) ∧ (PySem.W.keepIn K (.ref (He.fAd K ("law", none))) = true) ∧ (PySem.W.nsIn K mainGlobals "ValueError" = some none) ∧ (PySem.W.nsIn K mainGlobals "bool" = some none) ∧ (PySem.W.nsIn K mainGlobals "enumerate" = some none) ∧ (PySem.W.nsIn K mainGlobals "int" = some none) ∧ (PySem.W.nsIn K mainGlobals "isinstance" = some none) ∧ (PySem.W.nsIn K mainGlobals "len" = some none) ∧ (PySem.W.nsIn K mainGlobals "list" = some none) ∧ (PySem.W.nsIn K mainGlobals "max" = some none) ∧ (PySem.W.nsIn K mainGlobals "range" = some none) ∧ (PySem.W.nsIn K mainGlobals "repr" = some none))
theorem fcH6_ok {K : PySem.W.Frag} (h : fcH6 K = true) : (PySem.W.nsIn K mainGlobals "law" = some (some (.ref (He.fAd K ("law", none))))) ∧ (PySem.W.keepIn K (.ref (He.fAd K ("law", none))) = true) ∧ (PySem.W.nsIn K mainGlobals "ValueError" = some none) ∧ (PySem.W.nsIn K mainGlobals "bool" = some none) ∧ (PySem.W.nsIn K mainGlobals "enumerate" = some none) ∧ (PySem.W.nsIn K mainGlobals "int" = some none) ∧ (PySem.W.nsIn K mainGlobals "isinstance" = some none) ∧ (PySem.W.nsIn K mainGlobals "len" = some none) ∧ (PySem.W.nsIn K mainGlobals "list" = some none) ∧ (PySem.W.nsIn K mainGlobals "max" = some none) ∧ (PySem.W.nsIn K mainGlobals "range" = some none) ∧ (PySem.W.nsIn K mainGlobals "repr" = some none) := of_decide_eq_true h
def fcH7 (K : PySem.W.Frag) : Bool := decide ((PySem.W.nsIn K mainGlobals "reversed" = some none) ∧ (PySem.W.nsIn K mainGlobals "set" = some none) ∧ (PySem.W.nsIn K mainGlobals "sorted" = some none) ∧ (PySem.W.nsIn K mainGlobals "tuple" = some none) ∧ (PySem.W.nsIn K mainGlobals "DaysError" = some (some (.ref (He.ga K "DaysError")))) ∧ (PySem.W.excIn K (He.ga K "DaysError") veBm "ValueError.__new__" = true) ∧ (PySem.W.keepIn K (.ref (He.ga K "DaysError")) = true) ∧ (PySem.W.subIn K (.ref (He.ga K "DaysError")) (.type "BaseException") = some true) ∧ (PySem.W.typeIn K (.ref (He.ga K "DaysError")) = some (.type "type")) ∧ (PySem.W.nsIn K mainGlobals "NoNumbers" = some (some (.ref (He.ga K "NoNumbers")))) ∧ (PySem.W.excIn K (He.ga K "NoNumbers") veBm "ValueError.__new__" = true) ∧ (PySem.W.keepIn K (.ref (He.ga K "NoNumbers")) = true))
theorem fcH7_ok {K : PySem.W.Frag} (h : fcH7 K = true) : (PySem.W.nsIn K mainGlobals "reversed" = some none) ∧ (PySem.W.nsIn K mainGlobals "set" = some none) ∧ (PySem.W.nsIn K mainGlobals "sorted" = some none) ∧ (PySem.W.nsIn K mainGlobals "tuple" = some none) ∧ (PySem.W.nsIn K mainGlobals "DaysError" = some (some (.ref (He.ga K "DaysError")))) ∧ (PySem.W.excIn K (He.ga K "DaysError") veBm "ValueError.__new__" = true) ∧ (PySem.W.keepIn K (.ref (He.ga K "DaysError")) = true) ∧ (PySem.W.subIn K (.ref (He.ga K "DaysError")) (.type "BaseException") = some true) ∧ (PySem.W.typeIn K (.ref (He.ga K "DaysError")) = some (.type "type")) ∧ (PySem.W.nsIn K mainGlobals "NoNumbers" = some (some (.ref (He.ga K "NoNumbers")))) ∧ (PySem.W.excIn K (He.ga K "NoNumbers") veBm "ValueError.__new__" = true) ∧ (PySem.W.keepIn K (.ref (He.ga K "NoNumbers")) = true) := of_decide_eq_true h
def fcH8 (K : PySem.W.Frag) : Bool := decide ((PySem.W.subIn K (.ref (He.ga K "NoNumbers")) (.type "BaseException") = some true) ∧ (PySem.W.typeIn K (.ref (He.ga K "NoNumbers")) = some (.type "type")) ∧ (PySem.W.nsIn K mainGlobals "NoDays" = some (some (.ref (He.ga K "NoDays")))) ∧ (PySem.W.nsIn K mainGlobals "NoRing" = some (some (.ref (He.ga K "NoRing")))) ∧ (PySem.W.nsIn K mainGlobals "NoTask" = some (some (.ref (He.ga K "NoTask")))) ∧ (PySem.W.nsIn K mainGlobals "NoThing" = some (some (.ref (He.ga K "NoThing")))) ∧ (PySem.W.nsIn K mainGlobals "NoStand" = some (some (.ref (He.ga K "NoStand")))) ∧ (PySem.W.nsIn K mainGlobals "NoDay" = some (some (.ref (He.ga K "NoDay")))) ∧ (PySem.W.nsIn K mainGlobals "NoPaper" = some (some (.ref (He.ga K "NoPaper")))) ∧ (PySem.W.nsIn K mainGlobals "NoText" = some (some (.ref (He.ga K "NoText")))) ∧ (PySem.W.nsIn K mainGlobals "NotThere" = some (some (.ref (He.ga K "NotThere")))) ∧ (PySem.W.nsIn K mainGlobals "Broken" = some (some (.ref (He.ga K "Broken")))))
theorem fcH8_ok {K : PySem.W.Frag} (h : fcH8 K = true) : (PySem.W.subIn K (.ref (He.ga K "NoNumbers")) (.type "BaseException") = some true) ∧ (PySem.W.typeIn K (.ref (He.ga K "NoNumbers")) = some (.type "type")) ∧ (PySem.W.nsIn K mainGlobals "NoDays" = some (some (.ref (He.ga K "NoDays")))) ∧ (PySem.W.nsIn K mainGlobals "NoRing" = some (some (.ref (He.ga K "NoRing")))) ∧ (PySem.W.nsIn K mainGlobals "NoTask" = some (some (.ref (He.ga K "NoTask")))) ∧ (PySem.W.nsIn K mainGlobals "NoThing" = some (some (.ref (He.ga K "NoThing")))) ∧ (PySem.W.nsIn K mainGlobals "NoStand" = some (some (.ref (He.ga K "NoStand")))) ∧ (PySem.W.nsIn K mainGlobals "NoDay" = some (some (.ref (He.ga K "NoDay")))) ∧ (PySem.W.nsIn K mainGlobals "NoPaper" = some (some (.ref (He.ga K "NoPaper")))) ∧ (PySem.W.nsIn K mainGlobals "NoText" = some (some (.ref (He.ga K "NoText")))) ∧ (PySem.W.nsIn K mainGlobals "NotThere" = some (some (.ref (He.ga K "NotThere")))) ∧ (PySem.W.nsIn K mainGlobals "Broken" = some (some (.ref (He.ga K "Broken")))) := of_decide_eq_true h
def fcH9 (K : PySem.W.Frag) : Bool := decide ((PySem.W.nsIn K mainGlobals "TooMany" = some (some (.ref (He.ga K "TooMany")))) ∧ (PySem.W.findIn K (.ref (He.ga K "TooMany")) "__setattr__" = some (some (.builtin "object.__setattr__"))) ∧ (PySem.W.subIn K (.ref (He.ga K "TooMany")) (.type "BaseException") = some true) ∧ (PySem.W.typeIn K (.ref (He.ga K "TooMany")) = some (.type "type")) ∧ (PySem.W.keepIn K (.ref (He.ga K "TooMany")) = true) ∧ (PySem.W.findIn K (.ref (He.ga K "TooMany")) "most" = some none) ∧ (PySem.W.findIn K (.ref (He.ga K "TooMany")) "__init__" = some (some (.ref (He.ma K (He.ga K "TooMany") "__init__")))) ∧ (PySem.W.typeIn K (.ref (He.ma K (He.ga K "TooMany") "__init__")) = some (.type "function")) ∧ (PySem.W.keepIn K (.ref (He.ma K (He.ga K "TooMany") "__init__")) = true) ∧ (PySem.W.findIn K (.ref (He.ga K "NoNumbers")) "__getattribute__" = some (some (.builtin "BaseException.__getattribute__"))) ∧ (PySem.W.findIn K (.ref (He.ga K "NoNumbers")) "__getattr__" = some none) ∧ (PySem.W.subIn K (.ref (He.ga K "NoNumbers")) (.type "BaseException") = some true))
theorem fcH9_ok {K : PySem.W.Frag} (h : fcH9 K = true) : (PySem.W.nsIn K mainGlobals "TooMany" = some (some (.ref (He.ga K "TooMany")))) ∧ (PySem.W.findIn K (.ref (He.ga K "TooMany")) "__setattr__" = some (some (.builtin "object.__setattr__"))) ∧ (PySem.W.subIn K (.ref (He.ga K "TooMany")) (.type "BaseException") = some true) ∧ (PySem.W.typeIn K (.ref (He.ga K "TooMany")) = some (.type "type")) ∧ (PySem.W.keepIn K (.ref (He.ga K "TooMany")) = true) ∧ (PySem.W.findIn K (.ref (He.ga K "TooMany")) "most" = some none) ∧ (PySem.W.findIn K (.ref (He.ga K "TooMany")) "__init__" = some (some (.ref (He.ma K (He.ga K "TooMany") "__init__")))) ∧ (PySem.W.typeIn K (.ref (He.ma K (He.ga K "TooMany") "__init__")) = some (.type "function")) ∧ (PySem.W.keepIn K (.ref (He.ma K (He.ga K "TooMany") "__init__")) = true) ∧ (PySem.W.findIn K (.ref (He.ga K "NoNumbers")) "__getattribute__" = some (some (.builtin "BaseException.__getattribute__"))) ∧ (PySem.W.findIn K (.ref (He.ga K "NoNumbers")) "__getattr__" = some none) ∧ (PySem.W.subIn K (.ref (He.ga K "NoNumbers")) (.type "BaseException") = some true) := of_decide_eq_true h
def fcH10 (K : PySem.W.Frag) : Bool := decide ((PySem.W.hasDictIn K (He.ga K "NoNumbers") = true) ∧ (PySem.W.findIn K (.ref (He.ga K "NoNumbers")) "__class__" = some (some (.builtin "object.__class__"))) ∧ (PySem.W.specialIn K (.builtin "object.__class__") "__get__" = some (some (.builtin "getset_descriptor.__get__"))) ∧ (PySem.W.takesIn K (.builtin "object.__class__") = some true) ∧ (PySem.W.mroIn K (He.ga K "NoNumbers") (.type "object") = some true) ∧ (PySem.W.findIn K (.ref (He.ga K "TooMany")) "__getattribute__" = some (some (.builtin "BaseException.__getattribute__"))) ∧ (PySem.W.findIn K (.ref (He.ga K "TooMany")) "__getattr__" = some none) ∧ (PySem.W.subIn K (.ref (He.ga K "TooMany")) (.type "BaseException") = some true) ∧ (PySem.W.hasDictIn K (He.ga K "TooMany") = true) ∧ (PySem.W.findIn K (.ref (He.ga K "TooMany")) "__class__" = some (some (.builtin "object.__class__"))) ∧ (PySem.W.specialIn K (.builtin "object.__class__") "__get__" = some (some (.builtin "getset_descriptor.__get__"))) ∧ (PySem.W.takesIn K (.builtin "object.__class__") = some true))
theorem fcH10_ok {K : PySem.W.Frag} (h : fcH10 K = true) : (PySem.W.hasDictIn K (He.ga K "NoNumbers") = true) ∧ (PySem.W.findIn K (.ref (He.ga K "NoNumbers")) "__class__" = some (some (.builtin "object.__class__"))) ∧ (PySem.W.specialIn K (.builtin "object.__class__") "__get__" = some (some (.builtin "getset_descriptor.__get__"))) ∧ (PySem.W.takesIn K (.builtin "object.__class__") = some true) ∧ (PySem.W.mroIn K (He.ga K "NoNumbers") (.type "object") = some true) ∧ (PySem.W.findIn K (.ref (He.ga K "TooMany")) "__getattribute__" = some (some (.builtin "BaseException.__getattribute__"))) ∧ (PySem.W.findIn K (.ref (He.ga K "TooMany")) "__getattr__" = some none) ∧ (PySem.W.subIn K (.ref (He.ga K "TooMany")) (.type "BaseException") = some true) ∧ (PySem.W.hasDictIn K (He.ga K "TooMany") = true) ∧ (PySem.W.findIn K (.ref (He.ga K "TooMany")) "__class__" = some (some (.builtin "object.__class__"))) ∧ (PySem.W.specialIn K (.builtin "object.__class__") "__get__" = some (some (.builtin "getset_descriptor.__get__"))) ∧ (PySem.W.takesIn K (.builtin "object.__class__") = some true) := of_decide_eq_true h
def fcH11 (K : PySem.W.Frag) : Bool := decide ((PySem.W.mroIn K (He.ga K "TooMany") (.type "object") = some true) ∧ (PySem.W.exmOne K (.ref (He.ga K "NoNumbers")) (.ref (He.ga K "DaysError")) = some true) ∧ (PySem.W.exmOne K (.ref (He.ga K "TooMany")) (.ref (He.ga K "DaysError")) = some true) ∧ (PySem.W.kitOne K (.ref (He.ga K "NoNumbers")) (.ref (He.ga K "Broken")) = some false) ∧ (PySem.W.kitOne K (.ref (He.ga K "TooMany")) (.ref (He.ga K "Broken")) = some false) ∧ (PySem.W.kitOne K (.ref (He.ga K "NoNumbers")) (.ref (He.ga K "NoDay")) = some false) ∧ (PySem.W.kitOne K (.ref (He.ga K "TooMany")) (.ref (He.ga K "NoDay")) = some false) ∧ (PySem.W.kitOne K (.ref (He.ga K "NoNumbers")) (.ref (He.ga K "NoDays")) = some false) ∧ (PySem.W.kitOne K (.ref (He.ga K "TooMany")) (.ref (He.ga K "NoDays")) = some false) ∧ (PySem.W.kitOne K (.ref (He.ga K "NoNumbers")) (.ref (He.ga K "NoNumbers")) = some true) ∧ (PySem.W.kitOne K (.ref (He.ga K "TooMany")) (.ref (He.ga K "NoNumbers")) = some false) ∧ (PySem.W.kitOne K (.ref (He.ga K "NoNumbers")) (.ref (He.ga K "NoPaper")) = some false))
theorem fcH11_ok {K : PySem.W.Frag} (h : fcH11 K = true) : (PySem.W.mroIn K (He.ga K "TooMany") (.type "object") = some true) ∧ (PySem.W.exmOne K (.ref (He.ga K "NoNumbers")) (.ref (He.ga K "DaysError")) = some true) ∧ (PySem.W.exmOne K (.ref (He.ga K "TooMany")) (.ref (He.ga K "DaysError")) = some true) ∧ (PySem.W.kitOne K (.ref (He.ga K "NoNumbers")) (.ref (He.ga K "Broken")) = some false) ∧ (PySem.W.kitOne K (.ref (He.ga K "TooMany")) (.ref (He.ga K "Broken")) = some false) ∧ (PySem.W.kitOne K (.ref (He.ga K "NoNumbers")) (.ref (He.ga K "NoDay")) = some false) ∧ (PySem.W.kitOne K (.ref (He.ga K "TooMany")) (.ref (He.ga K "NoDay")) = some false) ∧ (PySem.W.kitOne K (.ref (He.ga K "NoNumbers")) (.ref (He.ga K "NoDays")) = some false) ∧ (PySem.W.kitOne K (.ref (He.ga K "TooMany")) (.ref (He.ga K "NoDays")) = some false) ∧ (PySem.W.kitOne K (.ref (He.ga K "NoNumbers")) (.ref (He.ga K "NoNumbers")) = some true) ∧ (PySem.W.kitOne K (.ref (He.ga K "TooMany")) (.ref (He.ga K "NoNumbers")) = some false) ∧ (PySem.W.kitOne K (.ref (He.ga K "NoNumbers")) (.ref (He.ga K "NoPaper")) = some false) := of_decide_eq_true h
def fcH12 (K : PySem.W.Frag) : Bool := decide ((PySem.W.kitOne K (.ref (He.ga K "TooMany")) (.ref (He.ga K "NoPaper")) = some false) ∧ (PySem.W.kitOne K (.ref (He.ga K "NoNumbers")) (.ref (He.ga K "NoRing")) = some false) ∧ (PySem.W.kitOne K (.ref (He.ga K "TooMany")) (.ref (He.ga K "NoRing")) = some false) ∧ (PySem.W.kitOne K (.ref (He.ga K "NoNumbers")) (.ref (He.ga K "NoStand")) = some false) ∧ (PySem.W.kitOne K (.ref (He.ga K "TooMany")) (.ref (He.ga K "NoStand")) = some false) ∧ (PySem.W.kitOne K (.ref (He.ga K "NoNumbers")) (.ref (He.ga K "NoTask")) = some false) ∧ (PySem.W.kitOne K (.ref (He.ga K "TooMany")) (.ref (He.ga K "NoTask")) = some false) ∧ (PySem.W.kitOne K (.ref (He.ga K "NoNumbers")) (.ref (He.ga K "NoText")) = some false) ∧ (PySem.W.kitOne K (.ref (He.ga K "TooMany")) (.ref (He.ga K "NoText")) = some false) ∧ (PySem.W.kitOne K (.ref (He.ga K "NoNumbers")) (.ref (He.ga K "NoThing")) = some false) ∧ (PySem.W.kitOne K (.ref (He.ga K "TooMany")) (.ref (He.ga K "NoThing")) = some false) ∧ (PySem.W.kitOne K (.ref (He.ga K "NoNumbers")) (.ref (He.ga K "NotThere")) = some false))
theorem fcH12_ok {K : PySem.W.Frag} (h : fcH12 K = true) : (PySem.W.kitOne K (.ref (He.ga K "TooMany")) (.ref (He.ga K "NoPaper")) = some false) ∧ (PySem.W.kitOne K (.ref (He.ga K "NoNumbers")) (.ref (He.ga K "NoRing")) = some false) ∧ (PySem.W.kitOne K (.ref (He.ga K "TooMany")) (.ref (He.ga K "NoRing")) = some false) ∧ (PySem.W.kitOne K (.ref (He.ga K "NoNumbers")) (.ref (He.ga K "NoStand")) = some false) ∧ (PySem.W.kitOne K (.ref (He.ga K "TooMany")) (.ref (He.ga K "NoStand")) = some false) ∧ (PySem.W.kitOne K (.ref (He.ga K "NoNumbers")) (.ref (He.ga K "NoTask")) = some false) ∧ (PySem.W.kitOne K (.ref (He.ga K "TooMany")) (.ref (He.ga K "NoTask")) = some false) ∧ (PySem.W.kitOne K (.ref (He.ga K "NoNumbers")) (.ref (He.ga K "NoText")) = some false) ∧ (PySem.W.kitOne K (.ref (He.ga K "TooMany")) (.ref (He.ga K "NoText")) = some false) ∧ (PySem.W.kitOne K (.ref (He.ga K "NoNumbers")) (.ref (He.ga K "NoThing")) = some false) ∧ (PySem.W.kitOne K (.ref (He.ga K "TooMany")) (.ref (He.ga K "NoThing")) = some false) ∧ (PySem.W.kitOne K (.ref (He.ga K "NoNumbers")) (.ref (He.ga K "NotThere")) = some false) := of_decide_eq_true h
def fcH13 (K : PySem.W.Frag) : Bool := decide ((PySem.W.kitOne K (.ref (He.ga K "TooMany")) (.ref (He.ga K "NotThere")) = some false) ∧ (PySem.W.kitOne K (.ref (He.ga K "NoNumbers")) (.ref (He.ga K "TooMany")) = some false) ∧ (PySem.W.kitOne K (.ref (He.ga K "TooMany")) (.ref (He.ga K "TooMany")) = some true) ∧ (PySem.W.kitOne K (.ref (He.ga K "NoNumbers")) (.type "ValueError") = some true) ∧ (PySem.W.kitOne K (.ref (He.ga K "TooMany")) (.type "ValueError") = some true))
theorem fcH13_ok {K : PySem.W.Frag} (h : fcH13 K = true) : (PySem.W.kitOne K (.ref (He.ga K "TooMany")) (.ref (He.ga K "NotThere")) = some false) ∧ (PySem.W.kitOne K (.ref (He.ga K "NoNumbers")) (.ref (He.ga K "TooMany")) = some false) ∧ (PySem.W.kitOne K (.ref (He.ga K "TooMany")) (.ref (He.ga K "TooMany")) = some true) ∧ (PySem.W.kitOne K (.ref (He.ga K "NoNumbers")) (.type "ValueError") = some true) ∧ (PySem.W.kitOne K (.ref (He.ga K "TooMany")) (.type "ValueError") = some true) := of_decide_eq_true h
def fcE0 : FcX := fun K => excXB K (He.ga K "TooMany")
def fcE1 : FcX := fun K => intXB K "GREATEST" 40
def fcE2 : FcX := fun K => intXB K "MOST_HANDS" 2
def fcE3 : FcX := fun K => intXB K "MOST_OFF" 7
def fcE4 : FcX := fun K => intXB K "MOST_THINGS" 8
def fcE5 : FcX := fun K => intXB K "PARTS" 5
def fcsH : List FcX := [fcH0, fcH1, fcH2, fcH3, fcH4, fcH5, fcH6, fcH7, fcH8, fcH9, fcH10, fcH11, fcH12, fcH13, fcE0, fcE1, fcE2, fcE3, fcE4, fcE5]
def fnH0 : He.FnD := ⟨("is_whole", none), "is_whole", "is_whole", defArgs s_is_whole, defBody s_is_whole, defScope s_is_whole⟩
def fnH1 : He.FnD := ⟨("is_row", none), "is_row", "is_row", defArgs s_is_row, defBody s_is_row, defScope s_is_row⟩
def fnH2 : He.FnD := ⟨("is_rising", none), "is_rising", "is_rising", defArgs s_is_rising, defBody s_is_rising, defScope s_is_rising⟩
def fnH3 : He.FnD := ⟨("told_rows", none), "told_rows", "told_rows", defArgs s_told_rows, defBody s_told_rows, defScope s_told_rows⟩
def fnH4 : He.FnD := ⟨("is_numbers", none), "is_numbers", "is_numbers", defArgs s_is_numbers, defBody s_is_numbers, defScope s_is_numbers⟩
def fnH5 : He.FnD := ⟨("asked_numbers", none), "asked_numbers", "asked_numbers", defArgs s_asked_numbers, defBody s_asked_numbers, defScope s_asked_numbers⟩
def fnH6 : He.FnD := ⟨("is_off", none), "is_off", "is_off", defArgs s_is_off, defBody s_is_off, defScope s_is_off⟩
def fnH7 : He.FnD := ⟨("is_pair", none), "is_pair", "is_pair", defArgs s_is_pair, defBody s_is_pair, defScope s_is_pair⟩
def fnH8 : He.FnD := ⟨("are_pairs", none), "are_pairs", "are_pairs", defArgs s_are_pairs, defBody s_are_pairs, defScope s_are_pairs⟩
def fnH9 : He.FnD := ⟨("is_task", none), "is_task", "is_task", defArgs s_is_task, defBody s_is_task, defScope s_is_task⟩
def fnH10 : He.FnD := ⟨("plain", none), "plain", "plain", defArgs s_plain, defBody s_plain, defScope s_plain⟩
def fnH11 : He.FnD := ⟨("_law_cell", none), "_law_cell", "_law_cell", defArgs s__law_cell, defBody s__law_cell, defScope s__law_cell⟩
def fnH12 : He.FnD := ⟨("_law_draws", none), "_law_draws", "_law_draws", defArgs s__law_draws, defBody s__law_draws, defScope s__law_draws⟩
def fnH13 : He.FnD := ⟨("_law_next", none), "_law_next", "_law_next", defArgs s__law_next, defBody s__law_next, defScope s__law_next⟩
def fnH14 : He.FnD := ⟨("_law_of", none), "_law_of", "_law_of", defArgs s__law_of, defBody s__law_of, defScope s__law_of⟩
def fnH15 : He.FnD := ⟨("_law_some", none), "_law_some", "_law_some", defArgs s__law_some, defBody s__law_some, defScope s__law_some⟩
def fnH16 : He.FnD := ⟨("_law_tied", none), "_law_tied", "_law_tied", defArgs s__law_tied, defBody s__law_tied, defScope s__law_tied⟩
def fnH17 : He.FnD := ⟨("_law_off", none), "_law_off", "_law_off", defArgs s__law_off, defBody s__law_off, defScope s__law_off⟩
def fnH18 : He.FnD := ⟨("_law_numbers", none), "_law_numbers", "_law_numbers", defArgs s__law_numbers, defBody s__law_numbers, defScope s__law_numbers⟩
def fnH19 : He.FnD := ⟨("_law_task", none), "_law_task", "_law_task", defArgs s__law_task, defBody s__law_task, defScope s__law_task⟩
def fnH20 : He.FnD := ⟨("_law_listed", none), "_law_listed", "_law_listed", defArgs s__law_listed, defBody s__law_listed, defScope s__law_listed⟩
def fnH21 : He.FnD := ⟨("_law_spoil", none), "_law_spoil", "_law_spoil", defArgs s__law_spoil, defBody s__law_spoil, defScope s__law_spoil⟩
def fnH22 : He.FnD := ⟨("_law_other_kinds", none), "_law_other_kinds", "_law_other_kinds", defArgs s__law_other_kinds, defBody s__law_other_kinds, defScope s__law_other_kinds⟩
def fnH23 : He.FnD := ⟨("_law_is_whole", none), "_law_is_whole", "_law_is_whole", defArgs s__law_is_whole, defBody s__law_is_whole, defScope s__law_is_whole⟩
def fnH24 : He.FnD := ⟨("_law_is_row", none), "_law_is_row", "_law_is_row", defArgs s__law_is_row, defBody s__law_is_row, defScope s__law_is_row⟩
def fnH25 : He.FnD := ⟨("_law_are_some", none), "_law_are_some", "_law_are_some", defArgs s__law_are_some, defBody s__law_are_some, defScope s__law_are_some⟩
def fnH26 : He.FnD := ⟨("_law_are_pairs", none), "_law_are_pairs", "_law_are_pairs", defArgs s__law_are_pairs, defBody s__law_are_pairs, defScope s__law_are_pairs⟩
def fnH27 : He.FnD := ⟨("_law_are_wholes", none), "_law_are_wholes", "_law_are_wholes", defArgs s__law_are_wholes, defBody s__law_are_wholes, defScope s__law_are_wholes⟩
def fnH28 : He.FnD := ⟨("_law_is_task", none), "_law_is_task", "_law_is_task", defArgs s__law_is_task, defBody s__law_is_task, defScope s__law_is_task⟩
def fnH29 : He.FnD := ⟨("_law_nested", none), "_law_nested", "_law_nested", defArgs s__law_nested, defBody s__law_nested, defScope s__law_nested⟩
def fnH30 : He.FnD := ⟨("_law_odd", none), "_law_odd", "_law_odd", defArgs s__law_odd, defBody s__law_odd, defScope s__law_odd⟩
def fnH31 : He.FnD := ⟨("_law_bent_row", none), "_law_bent_row", "_law_bent_row", defArgs s__law_bent_row, defBody s__law_bent_row, defScope s__law_bent_row⟩
def fnH32 : He.FnD := ⟨("_law_bent", none), "_law_bent", "_law_bent", defArgs s__law_bent, defBody s__law_bent, defScope s__law_bent⟩
def fnH33 : He.FnD := ⟨("_law_plain_refused", none), "_law_plain_refused", "_law_plain_refused", defArgs s__law_plain_refused, defBody s__law_plain_refused, defScope s__law_plain_refused⟩
def fnH34 : He.FnD := ⟨("_law_is_plain", none), "_law_is_plain", "_law_is_plain", defArgs s__law_is_plain, defBody s__law_is_plain, defScope s__law_is_plain⟩
def fnH35 : He.FnD := ⟨("_law_looked_at", none), "_law_looked_at", "_law_looked_at", defArgs s__law_looked_at, defBody s__law_looked_at, defScope s__law_looked_at⟩
def fnH36 : He.FnD := ⟨("law", none), "law", "law", defArgs s_law, defBody s_law, defScope s_law⟩
def fnH37 : He.FnD := ⟨("TooMany", some "__init__"), "__init__", "TooMany.__init__", defArgs si_TooMany, defBody si_TooMany, defScope si_TooMany⟩
def fnsH : List He.FnD := [fnH0, fnH1, fnH2, fnH3, fnH4, fnH5, fnH6, fnH7, fnH8, fnH9, fnH10, fnH11, fnH12, fnH13, fnH14, fnH15, fnH16, fnH17, fnH18, fnH19, fnH20, fnH21, fnH22, fnH23, fnH24, fnH25, fnH26, fnH27, fnH28, fnH29, fnH30, fnH31, fnH32, fnH33, fnH34, fnH35, fnH36, fnH37]
abbrev rowH : PySem.W.OpenRow := PySem.W.OpenLaw.row PySem.Challenge.rw_withindays_k10_tasks_told
abbrev hkH : PySem.W.Hook := hookX fcsH fnsH
def obH (s : PySem.W.SharedT) : AlX := obsXG fcsH fnsH (HandSHeadRun.getT s)
theorem obH_eq (s : PySem.W.SharedT) : obH s = hkH.obs s.abs := obsXG_eq (HandSHeadRun.getT_eq s)
def looseH : List Str := (["__name__", "DaysError", "NoNumbers", "NoDays", "NoRing", "NoTask", "NoThing", "NoStand", "NoDay", "NoPaper", "NoText", "NotThere", "Broken", "TooMany", "is_whole", "is_row", "is_rising", "told_rows", "MOST_THINGS", "GREATEST", "is_numbers", "asked_numbers", "MOST_OFF", "MOST_HANDS", "PARTS", "is_off", "is_pair", "are_pairs", "is_task", "plain"] : List Str) ++ (["_law_cell", "_law_draws", "_law_next", "_law_of", "_law_some", "_law_tied", "_law_off", "_law_numbers", "_law_task", "_law_listed", "_law_spoil", "_law_other_kinds", "_law_is_whole", "_law_is_row", "_law_are_some", "_law_are_pairs", "_law_are_wholes", "_law_is_task", "_law_odd", "_law_nested", "_law_bent_row", "_law_bent", "_law_plain_refused", "_law_is_plain", "_law_looked_at"] : List Str)
theorem runH (w : World) : HandSHeadRun.RunEq rowH (PySem.W.view rowH.prog [59]) hkH obH 60000 looseH w := by
  intro os
  kernel_rfl
end
end WD
namespace WD
open PySem PySem.Spec PyProof.Rows L2

inductive D where
  | non | bl (b : Bool) | int (i : Int) | str (x : Str)
  | tup (xs : List D) | lst (xs : List D) | scr (xs : List D) | dic (ks : List Key) (xs : List D) | loc (n : Nat)
/-- a changeable thing -/
inductive O where
  | lst (xs : List D)
  | ins (c : Str) (fs : List (Str × D))
  /-- a dict whose keys are tuples of ints and such tuples; fz: it is walked -/
  | dct (fz : Bool) (kvs : List (D × D))
  /-- a dict from numbers to numbers -/
  | dci (fz : Bool) (kvs : List (Int × Int))
abbrev Hs : Type := List O
/-- an error: its class's name, its one field -/
structure Xn where
  name : Str
  val : Option (Str × D) := none

/-- the still part of the heap, and what is kept aside -/
abbrev GG : Type := Hp × Hp
structure GLe (G G' : GG) : Prop where
  le : Same G.1 G'.1
  fr : G'.2 = G.2
theorem GLe.refl (G : GG) : GLe G G := ⟨Same.refl _, rfl⟩
theorem GLe.trans {G G1 G2 : GG} (a : GLe G G1) (b : GLe G1 G2) : GLe G G2 := ⟨a.le.trans b.le, b.fr.trans a.fr⟩
def gupd (G : GG) (p : Addr) (o : HO) : GG := (upd G.1 p o, G.2)
mutual
def Is (K : PySem.W.Frag) (G : GG) (ms : List Addr) : D → V → Prop
  | .non, v => v = .non
  | .bl b, v => v = .bl b
  | .int i, v => v = .int i
  | .str x, v => v = .str x
  | .tup xs, v => ∃ a vs, v = .ref a ∧ G.1 a = some (.tup vs) ∧ IsL K G ms xs vs
  | .lst xs, v => ∃ a vs, v = .ref a ∧ G.1 a = some (.lst vs) ∧ IsL K G ms xs vs
  | .scr xs, v => ∃ a vs, v = .ref a ∧ SqL K G.1 a vs ∧ IsL K G ms xs vs
  | .dic ks xs, v => ∃ a vs, v = .ref a ∧ G.1 a = some (.dK (ks.zip vs)) ∧ ks.length = vs.length ∧ IsL K G ms xs vs
  | .loc n, v => ∃ a, ms[n]? = some a ∧ v = .ref a
def IsL (K : PySem.W.Frag) (G : GG) (ms : List Addr) : List D → List V → Prop
  | [], vs => vs = []
  | x :: xs, vs => ∃ v r, vs = v :: r ∧ Is K G ms x v ∧ IsL K G ms xs r
end
section
variable {K : PySem.W.Frag} {G G' : GG} {H : Hp} {ms ms' : List Addr}
theorem Same.sqT {H H' : Hp} {a : Addr} {xs : List V} (e : Same H H') (h : SqT K H a xs) : SqT K H' a xs := by
  rcases h with (h | ⟨o, h⟩) | h
  · exact .inl (.inl (e _ _ h))
  · exact .inl (.inr ⟨o, e _ _ h⟩)
  · exact .inr h
theorem pre_get {n : Nat} {a : Addr} (p : ms <+: ms') (h : ms[n]? = some a) : ms'[n]? = some a := by
  obtain ⟨t, rfl⟩ := p
  have hl : n < ms.length := by
    rcases Nat.lt_or_ge n ms.length with q | q
    · exact q
    · rw [List.getElem?_eq_none q] at h; cases h
  rw [List.getElem?_append_left hl]; exact h
mutual
theorem Is.mono' (e : Same G.1 G'.1) (p : ms <+: ms') : ∀ (d : D) (v : V), Is K G ms d v → Is K G' ms' d v
  | .non, _, h => h
  | .bl _, _, h => h
  | .int _, _, h => h
  | .str _, _, h => h
  | .tup xs, v, h => by
    obtain ⟨a, vs, h1, h2, h3⟩ := h
    exact ⟨a, vs, h1, e _ _ h2, IsL.mono' e p xs vs h3⟩
  | .lst xs, v, h => by
    obtain ⟨a, vs, h1, h2, h3⟩ := h
    exact ⟨a, vs, h1, e _ _ h2, IsL.mono' e p xs vs h3⟩
  | .scr xs, v, h => by
    obtain ⟨a, vs, h1, h2, h3⟩ := h
    exact ⟨a, vs, h1, e.seq h2, IsL.mono' e p xs vs h3⟩
  | .dic ks xs, v, h => by
    obtain ⟨a, vs, h1, h2, hl, h3⟩ := h
    exact ⟨a, vs, h1, e _ _ h2, hl, IsL.mono' e p xs vs h3⟩
  | .loc n, v, h => by
    obtain ⟨a, h1, h2⟩ := h
    exact ⟨a, pre_get p h1, h2⟩
theorem IsL.mono' (e : Same G.1 G'.1) (p : ms <+: ms') : ∀ (xs : List D) (vs : List V), IsL K G ms xs vs → IsL K G' ms' xs vs
  | [], _, h => h
  | x :: xs, vs, h => by
    obtain ⟨v, r, h1, h2, h3⟩ := h
    exact ⟨v, r, h1, Is.mono' e p x v h2, IsL.mono' e p xs r h3⟩
end
theorem Is.mono (e : GLe G G') (p : ms <+: ms') (d : D) (v : V) (h : Is K G ms d v) : Is K G' ms' d v := Is.mono' e.le p d v h
theorem IsL.mono (e : GLe G G') (p : ms <+: ms') (xs : List D) (vs : List V) (h : IsL K G ms xs vs) : IsL K G' ms' xs vs := IsL.mono' e.le p xs vs h
theorem IsL.length : ∀ {xs : List D} {vs : List V}, IsL K G ms xs vs → xs.length = vs.length
  | [], _, h => by cases h; rfl
  | x :: xs, _, h => by
    obtain ⟨v, r, rfl, _, h3⟩ := h
    simp [IsL.length h3]
theorem IsL.get : ∀ {xs : List D} {vs : List V} {i : Nat} {d : D}, IsL K G ms xs vs → xs[i]? = some d → ∃ v, vs[i]? = some v ∧ Is K G ms d v
  | [], _, _, _, _, e => by simp at e
  | x :: xs, _, 0, d, h, e => by
    obtain ⟨v, r, rfl, h2, h3⟩ := h
    simp at e; subst e
    exact ⟨v, rfl, h2⟩
  | x :: xs, _, i + 1, d, h, e => by
    obtain ⟨v, r, rfl, h2, h3⟩ := h
    obtain ⟨w, q1, q2⟩ := IsL.get (i := i) h3 (by simpa using e)
    exact ⟨w, by simpa using q1, q2⟩
theorem IsL.append : ∀ {xs ys : List D} {vs ws : List V}, IsL K G ms xs vs → IsL K G ms ys ws → IsL K G ms (xs ++ ys) (vs ++ ws)
  | [], _, _, _, h, q => by cases h; exact q
  | x :: xs, _, _, _, h, q => by
    obtain ⟨v, r, rfl, h2, h3⟩ := h
    exact ⟨v, _, rfl, h2, IsL.append h3 q⟩
theorem IsL.take : ∀ {xs : List D} {vs : List V} (n : Nat), IsL K G ms xs vs → IsL K G ms (xs.take n) (vs.take n)
  | _, _, 0, _ => by simp [IsL]
  | [], _, n + 1, h => by cases h; simp [IsL]
  | x :: xs, _, n + 1, h => by
    obtain ⟨v, r, rfl, h2, h3⟩ := h
    exact ⟨v, _, rfl, h2, IsL.take n h3⟩
theorem IsL.drop : ∀ {xs : List D} {vs : List V} (n : Nat), IsL K G ms xs vs → IsL K G ms (xs.drop n) (vs.drop n)
  | _, _, 0, h => h
  | [], _, n + 1, h => by cases h; simp [IsL]
  | x :: xs, _, n + 1, h => by
    obtain ⟨v, r, rfl, h2, h3⟩ := h
    exact IsL.drop n h3
theorem IsL.one {d : D} {v : V} (h : Is K G ms d v) : IsL K G ms [d] [v] := ⟨v, [], rfl, h, rfl⟩
theorem IsL.rev : ∀ {xs : List D} {vs : List V}, IsL K G ms xs vs → IsL K G ms xs.reverse vs.reverse
  | [], _, h => by cases h; simp [IsL]
  | x :: xs, _, h => by
    obtain ⟨v, r, rfl, h2, h3⟩ := h
    rw [List.reverse_cons, List.reverse_cons]
    exact (IsL.rev h3).append (.one h2)
theorem IsL.set : ∀ {xs : List D} {vs : List V} {d : D} {v : V} (i : Nat), IsL K G ms xs vs → Is K G ms d v → IsL K G ms (xs.set i d) (vs.set i v)
  | [], _, _, _, _, h, _ => by cases h; simp [IsL]
  | x :: xs, _, d, v, 0, h, q => by
    obtain ⟨w, r, rfl, h2, h3⟩ := h
    exact ⟨v, r, rfl, q, h3⟩
  | x :: xs, _, d, v, i + 1, h, q => by
    obtain ⟨w, r, rfl, h2, h3⟩ := h
    exact ⟨w, _, rfl, h2, IsL.set i h3 q⟩
theorem IsL.dropLast {xs : List D} {vs : List V} (h : IsL K G ms xs vs) : IsL K G ms xs.dropLast vs.dropLast := by
  rw [List.dropLast_eq_take, List.dropLast_eq_take, h.length]
  exact h.take _
theorem IsL.rep {xs : List D} {vs : List V} (h : IsL K G ms xs vs) : ∀ k : Nat, IsL K G ms (List.replicate k xs).flatten (List.replicate k vs).flatten
  | 0 => by simp [IsL]
  | k + 1 => by
    rw [List.replicate_succ, List.replicate_succ, List.flatten_cons, List.flatten_cons]
    exact h.append (IsL.rep h k)
theorem IsL.ints : ∀ {ns : List Int} {vs : List V}, IsL K G ms (ns.map D.int) vs → vs = ns.map V.int
  | [], _, h => h
  | n :: ns, _, h => by
    obtain ⟨v, r, rfl, h2, h3⟩ := h
    rw [IsL.ints h3]; cases h2; rfl
theorem IsL.of_ints : ∀ (ns : List Int), IsL K G ms (ns.map D.int) (ns.map V.int)
  | [] => rfl
  | n :: ns => ⟨_, _, rfl, rfl, IsL.of_ints ns⟩
end

mutual
def nkOf : D → Option NestedKey
  | .int i => some (.num i)
  | .bl b => some (.num (if b = true then 1 else 0))
  | .tup xs => (nkOfs xs).map NestedKey.tup
  | _ => none
def nkOfs : List D → Option (List NestedKey)
  | [] => some []
  | x :: xs => (nkOf x).bind fun a => (nkOfs xs).map fun b => a :: b
end
mutual
theorem nk_hash (w w' : World) : ∀ (d : D) (k : NestedKey), nkOf d = some k → k.hash w = k.hash w'
  | .int i, k, e => by simp only [nkOf, Option.some.injEq] at e; subst e; rfl
  | .tup xs, k, e => by
    simp only [nkOf, Option.map_eq_some_iff] at e
    obtain ⟨ks, e, rfl⟩ := e
    simp only [NestedKey.hash, nks_hash w w' xs ks e]
  | .non, _, e => by simp [nkOf] at e
  | .bl _, k, e => by simp only [nkOf, Option.some.injEq] at e; subst e; rfl
  | .str _, _, e => by simp [nkOf] at e
  | .lst _, _, e => by simp [nkOf] at e
  | .scr _, _, e => by simp [nkOf] at e
  | .dic _ _, _, e => by simp [nkOf] at e
  | .loc _, _, e => by simp [nkOf] at e
theorem nks_hash (w w' : World) : ∀ (xs : List D) (ks : List NestedKey), nkOfs xs = some ks → NestedKey.hashes w ks = NestedKey.hashes w' ks
  | [], ks, e => by simp only [nkOfs, Option.some.injEq] at e; subst e; rfl
  | x :: xs, ks, e => by
    simp only [nkOfs, Option.bind_eq_some_iff, Option.map_eq_some_iff] at e
    obtain ⟨a, e1, b, e2, rfl⟩ := e
    simp only [NestedKey.hashes, nk_hash w w' x a e1, nks_hash w w' xs b e2]
end
/-- what is true of such a dict's one object -/
def ndO (a : Addr) (xs : List (NestedKey × Addr × V)) : HO := .ext fun h => ∃ (w : World) (ys : List (NestedKey × Addr × Value)), Paired (fun p q => p.1 = q.1 ∧ p.2.1 = q.2.1 ∧ RelV p.2.2 q.2.2) xs ys ∧
  ∃ o es ep, h.get? a = some o ∧ o.ExactDict ∧ o.data = .dict es ep ∧ es.toList = ys.map fun y => ⟨y.1.hash w, .ref y.2.1, y.2.2⟩
def IsKV (K : PySem.W.Frag) (G : GG) (ms : List Addr) : List (D × D) → List (NestedKey × Addr × V) → Prop
  | [], xs => xs = []
  | p :: r, xs => ∃ k a v s, xs = (k, a, v) :: s ∧ nkOf p.1 = some k ∧ k.depth ≤ 8 ∧ Is K G ms p.1 (.ref a) ∧ Is K G ms p.2 v ∧ IsKV K G ms r s
/-- attributes by name -/
def IsF (K : PySem.W.Frag) (G : GG) (ms : List Addr) : List (Str × D) → List (Str × V) → Prop
  | [], vs => vs = []
  | p :: r, vs => ∃ v s, vs = (p.1, v) :: s ∧ Is K G ms p.2 v ∧ IsF K G ms r s
def clsI : List String := ["int", "bool", "str", "list", "tuple", "dict"]
/-- what the layer asks of a class of the text -/
structure InsC (K : PySem.W.Frag) (C : Addr) : Prop where
  cls : Cls K C
  ha : PySem.W.findIn K (.ref C) "__class__" = some (some (.builtin "object.__class__"))
  hn : PySem.W.specialIn K (.builtin "object.__class__") "__get__" = some (some (.builtin "getset_descriptor.__get__"))
  htk : PySem.W.takesIn K (.builtin "object.__class__") = some true
  hm : PySem.W.mroIn K C (.type "object") = some true
  kit : ∀ n ∈ clsI, PySem.W.kitOne K (.ref C) (.type n) = some false
def ivK (kvs : List (Int × Int)) : List (Key × V) := kvs.map fun p => (.inl p.1, .int p.2)
def ObjIs (K : PySem.W.Frag) (G : GG) (ms : List Addr) (H : Hp) (a : Addr) : O → Prop
  | .lst xs => ∃ vs, H a = some (.lst vs) ∧ IsL K G ms xs vs ∧ xs.length ≤ sizeLine
  | .ins c fs => ∃ C dx vs, PySem.W.nsIn K mainGlobals c = some (some (.ref C)) ∧ InsC K C ∧ H a = some (.ins C dx vs) ∧ IsF K G ms fs vs ∧ fs.length ≤ 900
  | .dct fz kvs => ∃ xs, (if fz = true then ∃ od, H a = some (.frz od (ndO a xs)) else H a = some (ndO a xs)) ∧ (a == sysModules) = false ∧ IsKV K G ms kvs xs ∧ kvs.length ≤ sizeLine ∧ (xs.map (·.1)).Nodup
  | .dci fz kvs => if fz = true then ∃ od, H a = some (.frz od (.dK (ivK kvs))) else H a = some (.dK (ivK kvs))
def SzO : HO → Prop
  | .lst vs => vs.length ≤ sizeLine
  | .tup vs => vs.length ≤ sizeLine
  | .frz _ u => SzO u
  | _ => True
structure Hh (K : PySem.W.Frag) (G : GG) (ms : List Addr) (h : Hs) (H : Hp) : Prop where
  sub : Same G.1 H
  gsz : ∀ a o, G.1 a = some o → SzO o
  frm : Same G.2 H
  frd : ∀ a o, G.2 a = some o → G.1 a = none ∧ (a ∈ ms → ∃ od u, o = .frz od u)
  len : ms.length = h.length
  nd : ms.Nodup
  dis : ∀ a ∈ ms, G.1 a = none
  obj : ∀ (n : Nat) (a : Addr) (o : O), ms[n]? = some a → h[n]? = some o → ObjIs K G ms H a o
section
variable {K : PySem.W.Frag} {G G' : GG} {H H' : Hp} {ms ms' : List Addr} {h h' : Hs}
theorem Hh.at (x : Hh K G ms h H) {n : Nat} {xs : List D} (e : h[n]? = some (.lst xs)) : ∃ a vs, ms[n]? = some a ∧ H a = some (.lst vs) ∧ IsL K G ms xs vs := by
  have hl : n < h.length := by
    rcases Nat.lt_or_ge n h.length with q | q
    · exact q
    · rw [List.getElem?_eq_none q] at e; cases e
  have hm : n < ms.length := by rw [x.len]; exact hl
  obtain ⟨vs, h1, h2, _⟩ := x.obj n ms[n] _ (List.getElem?_eq_getElem hm) e
  exact ⟨ms[n], vs, List.getElem?_eq_getElem hm, h1, h2⟩
theorem Hh.atz (x : Hh K G ms h H) {n : Nat} {xs : List D} (e : h[n]? = some (.lst xs)) : xs.length ≤ sizeLine := by
  have hl : n < h.length := by
    rcases Nat.lt_or_ge n h.length with q | q
    · exact q
    · rw [List.getElem?_eq_none q] at e; cases e
  have hm : n < ms.length := by rw [x.len]; exact hl
  obtain ⟨vs, h1, h2, h3⟩ := x.obj n ms[n] _ (List.getElem?_eq_getElem hm) e
  exact h3
theorem Hh.some_at (x : Hh K G ms h H) {n : Nat} {a : Addr} (e : ms[n]? = some a) : ∃ o, H a = some o := by
  have hm : n < ms.length := by
    rcases Nat.lt_or_ge n ms.length with q | q
    · exact q
    · rw [List.getElem?_eq_none q] at e; cases e
  have hl : n < h.length := by rw [← x.len]; exact hm
  have q := x.obj n a h[n] e (List.getElem?_eq_getElem hl)
  cases ho : h[n] with
  | lst xs => rw [ho] at q; obtain ⟨vs, q1, _, _⟩ := q; exact ⟨_, q1⟩
  | ins c fs => rw [ho] at q; obtain ⟨C, dx, vs, _, _, q1, _⟩ := q; exact ⟨_, q1⟩
  | dct fz kvs =>
    rw [ho] at q
    obtain ⟨xs, q1, _⟩ := q
    cases fz with
    | true => obtain ⟨od, q1⟩ := q1; exact ⟨_, q1⟩
    | false => exact ⟨_, q1⟩
  | dci fz kvs =>
    rw [ho] at q
    cases fz with
    | true => obtain ⟨od, q1⟩ := q; exact ⟨_, q1⟩
    | false => exact ⟨_, q⟩
theorem IsKV.mono' (e : Same G.1 G'.1) (p : ms <+: ms') : ∀ (kvs : List (D × D)) (xs : List (NestedKey × Addr × V)), IsKV K G ms kvs xs → IsKV K G' ms' kvs xs
  | [], _, h => h
  | q :: r, xs, h => by
    obtain ⟨k, a, v, s, rfl, h1, h2, h3, h4, h5⟩ := h
    exact ⟨k, a, v, s, rfl, h1, h2, Is.mono' e p _ _ h3, Is.mono' e p _ _ h4, IsKV.mono' e p r s h5⟩
theorem IsKV.len : ∀ {kvs : List (D × D)} {xs : List (NestedKey × Addr × V)}, IsKV K G ms kvs xs → kvs.length = xs.length
  | [], _, h => by cases h; rfl
  | q :: r, xs, h => by
    obtain ⟨k, a, v, s, rfl, h1, h2, h3, h4, h5⟩ := h
    simp [IsKV.len h5]
theorem IsF.mono' (e : Same G.1 G'.1) (p : ms <+: ms') : ∀ (fs : List (Str × D)) (vs : List (Str × V)), IsF K G ms fs vs → IsF K G' ms' fs vs
  | [], _, h => h
  | q :: r, vs, h => by
    obtain ⟨v, s, rfl, h1, h2⟩ := h
    exact ⟨v, s, rfl, Is.mono' e p _ _ h1, IsF.mono' e p r s h2⟩
theorem Hh.ne (x : Hh K G ms h H) {a p : Addr} (ha : a ∈ ms) (hp : H p = none) : a ≠ p := by
  obtain ⟨n, hn⟩ := List.getElem?_of_mem ha
  obtain ⟨vs, q⟩ := x.some_at hn
  exact ne_of_none q hp
theorem ObjIs.mono' {o : O} {a : Addr} (e : Same G.1 G'.1) (p : ms <+: ms') (q : ObjIs K G ms H a o) (hh : H' a = H a) : ObjIs K G' ms' H' a o := by
  cases o with
  | lst xs =>
    obtain ⟨vs, h1, h2, h3⟩ := q
    exact ⟨vs, by rw [hh]; exact h1, IsL.mono' e p _ _ h2, h3⟩
  | ins c fs =>
    obtain ⟨C, dx, vs, h1, h2, h3, h4, h5⟩ := q
    exact ⟨C, dx, vs, h1, h2, by rw [hh]; exact h3, IsF.mono' e p _ _ h4, h5⟩
  | dct fz kvs =>
    obtain ⟨xs, h1, h2, h3, h4, h5⟩ := q
    exact ⟨xs, by rw [hh]; exact h1, h2, IsKV.mono' e p _ _ h3, h4, h5⟩
  | dci fz kvs =>
    simp only [ObjIs] at q ⊢
    rw [hh]; exact q
theorem ObjIs.mono {o : O} {a : Addr} (e : GLe G G') (p : ms <+: ms') (q : ObjIs K G ms H a o) (hh : H' a = H a) : ObjIs K G' ms' H' a o := q.mono' e.le p hh
theorem same_upd {H : Hp} {p : Addr} {o : HO} (h : H p = none) : Same H (upd H p o) := fun b x e => by
  rw [upd_ne (ne_of_none e h)]
  exact e
theorem Hh.gnone (x : Hh K G ms h H) {p : Addr} (hp : H p = none) : G.1 p = none := x.sub.free hp
theorem Hh.fnone (x : Hh K G ms h H) {p : Addr} (hp : H p = none) : G.2 p = none := x.frm.free hp
theorem gle_upd {p : Addr} {o : HO} (h : G.1 p = none) : GLe G (gupd G p o) := ⟨same_upd h, rfl⟩
theorem pre_refl (l : List Addr) : l <+: l := ⟨[], by simp⟩
theorem upd_some {H : Hp} {p a : Addr} {o u : HO} (hp : H p = none) (e : H a = some u) : upd H p o a = some u := by
  rw [upd_ne (ne_of_none e hp)]; exact e
/-- a new still object -/
theorem Hh.still (x : Hh K G ms h H) {p : Addr} {o : HO} (hp : H p = none) (hz : SzO o) : Hh K (gupd G p o) ms h (upd H p o) := by
  have eg : GLe G (gupd G p o) := gle_upd (x.gnone hp)
  refine ⟨fun a u e => ?_, fun a u e => ?_, fun a u e => upd_some hp (x.frm a u e), fun a u e => ⟨?_, (x.frd a u e).2⟩, x.len, x.nd, fun a ha => ?_, fun n a u e1 e2 => ?_⟩
  · by_cases hz : a = p
    · subst hz
      have e : upd G.1 a o a = some u := e
      rw [upd_same] at e ⊢; exact e
    · have e : upd G.1 p o a = some u := e
      rw [upd_ne hz] at e ⊢; exact x.sub a u e
  · by_cases hq : a = p
    · subst hq
      have e : upd G.1 a o a = some u := e
      rw [upd_same] at e; cases e; exact hz
    · have e : upd G.1 p o a = some u := e
      rw [upd_ne hq] at e; exact x.gsz a u e
  · show upd G.1 p o a = none
    rw [upd_ne (ne_of_none (x.frm a u e) hp)]; exact (x.frd a u e).1
  · show upd G.1 p o a = none
    rw [upd_ne (x.ne ha hp)]; exact x.dis a ha
  · exact (x.obj n a u e1 e2).mono eg (pre_refl _) (upd_ne (x.ne (List.mem_of_getElem? e1) hp))
/-- a new changeable thing -/
theorem Hh.allocO (x : Hh K G ms h H) {p : Addr} {ob : O} {ho : HO} (hp : H p = none) (hx : ObjIs K G (ms ++ [p]) (upd H p ho) p ob) : Hh K G (ms ++ [p]) (h ++ [ob]) (upd H p ho) := by
  have pp : ms <+: ms ++ [p] := ⟨[p], rfl⟩
  refine ⟨fun a u e => upd_some hp (x.sub a u e), x.gsz, fun a u e => upd_some hp (x.frm a u e), fun a u e => ⟨(x.frd a u e).1, fun hm => ?_⟩, by simp [x.len], ?_, fun a ha => ?_, fun n a u e1 e2 => ?_⟩
  · rcases List.mem_append.mp hm with q | q
    · exact (x.frd a u e).2 q
    · have : a = p := by simpa using q
      exact absurd this (ne_of_none (x.frm a u e) hp)
  · refine List.nodup_append.mpr ⟨x.nd, by simp, fun a ha b hb => ?_⟩
    have : b = p := by simpa using hb
    subst this
    exact x.ne ha hp
  · rcases List.mem_append.mp ha with q | q
    · exact x.dis a q
    · have : a = p := by simpa using q
      subst this; exact x.gnone hp
  · by_cases hn : n < ms.length
    · rw [List.getElem?_append_left hn] at e1
      rw [List.getElem?_append_left (by rw [← x.len]; exact hn)] at e2
      exact (x.obj n a u e1 e2).mono (GLe.refl _) pp (upd_ne (x.ne (List.mem_of_getElem? e1) hp))
    · have hn' : n = ms.length := by
        have hl : n < (ms ++ [p]).length := by
          rcases Nat.lt_or_ge n (ms ++ [p]).length with q | q
          · exact q
          · rw [List.getElem?_eq_none q] at e1; cases e1
        simp at hl; omega
      subst hn'
      simp at e1
      rw [x.len] at e2
      simp at e2
      subst e1 e2
      exact hx
/-- a new changeable list -/
theorem Hh.alloc (x : Hh K G ms h H) {p : Addr} {xs : List D} {vs : List V} (hp : H p = none) (hx : IsL K G ms xs vs) (hz : xs.length ≤ sizeLine) : Hh K G (ms ++ [p]) (h ++ [.lst xs]) (upd H p (.lst vs)) :=
  x.allocO hp ⟨vs, upd_same, IsL.mono (GLe.refl _) ⟨[p], rfl⟩ _ _ hx, hz⟩
/-- a thing changed -/
theorem Hh.writeO (x : Hh K G ms h H) {n : Nat} {a : Addr} {ob : O} {ho : HO} (e : ms[n]? = some a) (hnf : ∀ od u, H a ≠ some (.frz od u)) (hx : ObjIs K G ms (upd H a ho) a ob) : Hh K G ms (h.set n ob) (upd H a ho) := by
  have ha := List.mem_of_getElem? e
  have hg : G.1 a = none := x.dis a ha
  refine ⟨fun b u q => ?_, x.gsz, fun b u q => ?_, x.frd, by simp [x.len], x.nd, x.dis, fun m b u e1 e2 => ?_⟩
  · rw [upd_ne (fun z => by rw [z, hg] at q; cases q)]; exact x.sub b u q
  · rw [upd_ne (fun z => by
      obtain ⟨od, v, w⟩ := (x.frd b u q).2 (by rw [z]; exact ha)
      have k := x.frm b u q
      rw [z, w] at k
      exact hnf _ _ k)]; exact x.frm b u q
  · by_cases hm : m = n
    · subst hm
      rw [e] at e1; cases e1
      have hl : m < h.length := by
        rcases Nat.lt_or_ge m ms.length with q | q
        · rw [← x.len]; exact q
        · rw [List.getElem?_eq_none q] at e; cases e
      rw [List.getElem?_set_self hl] at e2
      cases e2
      exact hx
    · rw [List.getElem?_set_ne (Ne.symm hm)] at e2
      have hne : b ≠ a := fun z => hm (nd_ix x.nd e1 (by rw [z]; exact e))
      exact (x.obj m b u e1 e2).mono (GLe.refl _) (pre_refl _) (upd_ne hne)
/-- a list changed -/
theorem Hh.write (x : Hh K G ms h H) {n : Nat} {a : Addr} {xs : List D} {vs vs0 : List V} (e : ms[n]? = some a) (hw : H a = some (.lst vs0)) (hx : IsL K G ms xs vs) (hz : xs.length ≤ sizeLine) : Hh K G ms (h.set n (.lst xs)) (upd H a (.lst vs)) :=
  x.writeO e (fun od u z => by rw [hw] at z; cases z) ⟨vs, upd_same, hx, hz⟩
def fupd (G : GG) (p : Addr) (o : HO) : GG := (G.1, upd G.2 p o)
theorem Hh.frame (x : Hh K G ms h H) {p : Addr} {o : HO} (hp : H p = none) : Hh K (fupd G p o) ms h (upd H p o) := by
  refine ⟨fun a u e => upd_some hp (x.sub a u e), x.gsz, fun a u e => ?_, fun a u e => ?_, x.len, x.nd, x.dis, fun n a u e1 e2 => ?_⟩
  · by_cases hz : a = p
    · subst hz
      have e : upd G.2 a o a = some u := e
      rw [upd_same] at e ⊢; exact e
    · have e : upd G.2 p o a = some u := e
      rw [upd_ne hz] at e ⊢; exact x.frm a u e
  · by_cases hz : a = p
    · subst hz; exact ⟨x.gnone hp, fun hm => absurd rfl (x.ne hm hp)⟩
    · have e : upd G.2 p o a = some u := e
      rw [upd_ne hz] at e; exact x.frd a u e
  · exact ObjIs.mono' (G := G) (q := x.obj n a u e1 e2) (e := Same.refl G.1) (p := pre_refl _) (hh := upd_ne (x.ne (List.mem_of_getElem? e1) hp))
theorem Hh.reframe (x : Hh K G ms h H) {p : Addr} {o o' : HO} (hp : G.2 p = some o) (hnf : ∀ od u, o ≠ .frz od u) : Hh K (fupd G p o') ms h (upd H p o') := by
  obtain ⟨g0, m1⟩ := x.frd p o hp
  have m0 : p ∉ ms := fun z => by obtain ⟨od, u, w⟩ := m1 z; exact hnf _ _ w
  refine ⟨fun a u e => ?_, x.gsz, fun a u e => ?_, fun a u e => ?_, x.len, x.nd, x.dis, fun n a u e1 e2 => ?_⟩
  · rw [upd_ne (fun z => by have e : G.1 a = some u := e; rw [z, g0] at e; cases e)]; exact x.sub a u e
  · by_cases hz : a = p
    · subst hz
      have e : upd G.2 a o' a = some u := e
      rw [upd_same] at e ⊢; exact e
    · have e : upd G.2 p o' a = some u := e
      rw [upd_ne hz] at e ⊢; exact x.frm a u e
  · by_cases hz : a = p
    · subst hz; exact ⟨g0, fun hm => absurd hm m0⟩
    · have e : upd G.2 p o' a = some u := e
      rw [upd_ne hz] at e; exact x.frd a u e
  · exact ObjIs.mono' (G := G) (q := x.obj n a u e1 e2) (e := Same.refl G.1) (p := pre_refl _) (hh := upd_ne fun z => m0 (by rw [← z]; exact List.mem_of_getElem? e1))
/-- what was kept aside becomes still; the rest aside as F -/
theorem Hh.thaw (x : Hh K G ms h H) {p : Addr} {o : HO} {F : Hp} (hp : G.2 p = some o) (hF : ∀ a u, F a = some u → a ≠ p ∧ G.2 a = some u) (hz : SzO o) (hnf : ∀ od u, o ≠ .frz od u) : Hh K (upd G.1 p o, F) ms h H := by
  obtain ⟨g0, m1⟩ := x.frd p o hp
  have m0 : p ∉ ms := fun z => by obtain ⟨od, u, w⟩ := m1 z; exact hnf _ _ w
  refine ⟨fun a u e => ?_, fun a u e => ?_, fun a u e => x.frm a u (hF a u e).2, fun a u e => ⟨?_, (x.frd a u (hF a u e).2).2⟩, x.len, x.nd, fun a ha => ?_, fun n a u e1 e2 => ?_⟩
  · by_cases hz : a = p
    · subst hz
      have e : upd G.1 a o a = some u := e
      rw [upd_same] at e; cases e; exact x.frm a _ hp
    · have e : upd G.1 p o a = some u := e
      rw [upd_ne hz] at e; exact x.sub a u e
  · by_cases hq : a = p
    · subst hq
      have e : upd G.1 a o a = some u := e
      rw [upd_same] at e; cases e; exact hz
    · have e : upd G.1 p o a = some u := e
      rw [upd_ne hq] at e; exact x.gsz a u e
  · show upd G.1 p o a = none
    rw [upd_ne (hF a u e).1]; exact (x.frd a u (hF a u e).2).1
  · show upd G.1 p o a = none
    rw [upd_ne (fun z => m0 (by rw [← z]; exact ha))]; exact x.dis a ha
  · exact (x.obj n a u e1 e2).mono' (same_upd g0) (pre_refl _) rfl
/-- .. becomes changeable -/
theorem Hh.adopt (x : Hh K G ms h H) {p : Addr} {xs : List D} {vs : List V} {F : Hp} (hp : G.2 p = some (.lst vs)) (hF : ∀ a u, F a = some u → a ≠ p ∧ G.2 a = some u) (hx : IsL K G ms xs vs) (hz : xs.length ≤ sizeLine) : Hh K (G.1, F) (ms ++ [p]) (h ++ [.lst xs]) H := by
  obtain ⟨g0, m1⟩ := x.frd p _ hp
  have m0 : p ∉ ms := fun z => by obtain ⟨od, u, w⟩ := m1 z; cases w
  have pp : ms <+: ms ++ [p] := ⟨[p], rfl⟩
  refine ⟨x.sub, x.gsz, fun a u e => x.frm a u (hF a u e).2, fun a u e => ⟨(x.frd a u (hF a u e).2).1, fun hm => ?_⟩, by simp [x.len], ?_, fun a ha => ?_, fun n a u e1 e2 => ?_⟩
  · rcases List.mem_append.mp hm with q | q
    · exact (x.frd a u (hF a u e).2).2 q
    · exact absurd (by simpa using q) (hF a u e).1
  · refine List.nodup_append.mpr ⟨x.nd, by simp, fun a ha b hb => ?_⟩
    have : b = p := by simpa using hb
    subst this
    exact fun z => m0 (by rw [← z]; exact ha)
  · rcases List.mem_append.mp ha with q | q
    · exact x.dis a q
    · have : a = p := by simpa using q
      subst this; exact g0
  · by_cases hn : n < ms.length
    · rw [List.getElem?_append_left hn] at e1
      rw [List.getElem?_append_left (by rw [← x.len]; exact hn)] at e2
      exact ObjIs.mono' (G := G) (q := x.obj n a u e1 e2) (e := Same.refl G.1) (p := pp) (hh := rfl)
    · have hn' : n = ms.length := by
        have hl : n < (ms ++ [p]).length := by
          rcases Nat.lt_or_ge n (ms ++ [p]).length with q | q
          · exact q
          · rw [List.getElem?_eq_none q] at e1; cases e1
        simp at hl; omega
      subst hn'
      simp at e1
      rw [x.len] at e2
      simp at e2
      subst e1 e2
      exact ⟨vs, x.frm _ _ hp, IsL.mono' (G := G) (G' := (G.1, F)) (Same.refl G.1) pp _ _ hx, hz⟩
end
end WD
namespace WD
open PySem PySem.Spec PyProof.Rows L2

inductive R (α : Type) where
  | ok (a : α) (h : Hs)
  | err (x : Xn) (h : Hs)
  | bad
def R.bind {α β : Type} (r : R α) (k : α → Hs → R β) : R β := match r with
  | .ok a h => k a h
  | .err x h => .err x h
  | .bad => .bad
@[simp] theorem R.bind_ok {α β : Type} (a : α) (h : Hs) (k : α → Hs → R β) : (R.ok a h).bind k = k a h := rfl
@[simp] theorem R.bind_err {α β : Type} (x : Xn) (h : Hs) (k : α → Hs → R β) : (R.err x h).bind k = .err x h := rfl
@[simp] theorem R.bind_bad {α β : Type} (k : α → Hs → R β) : (R.bad : R α).bind k = .bad := rfl
abbrev Ss : Type := List (Option D)
abbrev FE : Type := Ss → Hs → R D
abbrev FA : Type := Ss → Hs → R (List D)
abbrev FT : Type := Ss → Hs → R Bool
inductive RS where
  | nx (s : Ss) (h : Hs)
  | rt (d : D) (h : Hs)
  | bk (s : Ss) (h : Hs)
  | ct (s : Ss) (h : Hs)
  | er (x : Xn) (s : Ss) (h : Hs)
  | bad
abbrev FS : Type := Ss → Hs → RS

def clsV (mg : Str → Option Value) (x : Xn) : Value := (mg x.name).getD .none
/-- the error's own dict -/
def XIs (K : PySem.W.Frag) (G : GG) (ms : List Addr) (H : Hp) (x : Xn) (d : Option Addr) : Prop :=
  match x.val with
  | none => d = none
  | some (f, e) => ∃ a v, d = some a ∧ G.1 a = some (.xd [(f, v)]) ∧ Is K G ms e v
/-- a pinned slot; an error's dict that stays -/
inductive Pn where
  | s (i : Nat) (v : V)
  | g (dd : Addr) (f : Str) (e : D)
def PnOk (K : PySem.W.Frag) (G : GG) (ms : List Addr) (σ : L2.St) : Pn → Prop
  | .s i v => σ[i]? = some (some v)
  | .g dd f e => ∃ v, G.1 dd = some (.xd [(f, v)]) ∧ Is K G ms e v
section
variable (X : Cx) (W : WX)
/-- what is wanted behind a step -/
def Post {α β : Type} (K : PySem.W.Frag) (mg : Str → Option Value) (E : XK) (G : GG) (ms : List Addr) (I : GG → List Addr → α → β → Prop) (r : R α) (Q : β → Hp → Prop) : Prop :=
  match r with
  | .ok a h' => ∀ b H' G' ms', GLe G G' → ms <+: ms' → Hh K G' ms' h' H' → I G' ms' a b → Q b H'
  | .err x h' => ∀ H' G' ms' d, GLe G G' → ms <+: ms' → Hh K G' ms' h' H' → XIs K G' ms' H' x d → E (clsV mg x) d H'
  | .bad => False
/-- the slots -/
structure Sl (K : PySem.W.Frag) (G : GG) (ms : List Addr) (pin : List Pn) (s : Ss) (σ : L2.St) : Prop where
  len : s.length = σ.length
  get : ∀ (i : Nat) (d : D), s[i]? = some (some d) → ∃ v, σ[i]? = some (some v) ∧ Is K G ms d v
  pin : ∀ p ∈ pin, PnOk K G ms σ p
def rdE (pin : List Pn) (f : FE) : TE := fun σ H Q => ∃ G ms s h, Hh X.K G ms h H ∧ Sl X.K G ms pin s σ ∧ Post X.K X.mg (fun c d H => W c d σ H) G ms (Is X.K) (f s h) Q
def rdA (pin : List Pn) (f : FA) : TA := fun σ H Q => ∃ G ms s h, Hh X.K G ms h H ∧ Sl X.K G ms pin s σ ∧ Post X.K X.mg (fun c d H => W c d σ H) G ms (IsL X.K) (f s h) Q
def rdT (pin : List Pn) (f : FT) : TT := fun σ H Q => ∃ G ms s h, Hh X.K G ms h H ∧ Sl X.K G ms pin s σ ∧ Post X.K X.mg (fun c d H => W c d σ H) G ms (fun _ _ (a b : Bool) => a = b) (f s h) Q
def PostS (K : PySem.W.Frag) (mg : Str → Option Value) (pin : List Pn) (σ : L2.St) (G : GG) (ms : List Addr) (r : RS) (D : Ends) : Prop :=
  match r with
  | .nx s' h' => ∀ σ' H' G' ms', GLe G G' → ms <+: ms' → Hh K G' ms' h' H' → Sl K G' ms' pin s' σ' → D.nx σ' H'
  | .rt d h' => ∀ v H' G' ms', GLe G G' → ms <+: ms' → Hh K G' ms' h' H' → Is K G' ms' d v → D.rt v H'
  | .bk s' h' => ∀ σ' H' G' ms', GLe G G' → ms <+: ms' → Hh K G' ms' h' H' → Sl K G' ms' pin s' σ' → D.bk σ' H'
  | .ct s' h' => ∀ σ' H' G' ms', GLe G G' → ms <+: ms' → Hh K G' ms' h' H' → Sl K G' ms' pin s' σ' → D.ct σ' H'
  | .er x s' h' => ∀ σ' H' G' ms' d, GLe G G' → ms <+: ms' → Hh K G' ms' h' H' → Sl K G' ms' pin s' σ' → XIs K G' ms' H' x d → W (clsV mg x) d σ' H'
  | .bad => False
def rdS (pin : List Pn) (f : FS) : TS := fun D σ H => ∃ G ms s h, Hh X.K G ms h H ∧ Sl X.K G ms pin s σ ∧ PostS W X.K X.mg pin σ G ms (f s h) D
end
/-- the judgements -/
abbrev VE (X : Cx) (W : WX) (pin : List Pn) (e : Expr) (f : FE) : Prop := PE X e (rdE X W pin f)
abbrev VT (X : Cx) (W : WX) (pin : List Pn) (e : Expr) (f : FT) : Prop := PT X e (rdT X W pin f)
abbrev VW (X : Cx) (W : WX) (pin : List Pn) (e : Expr) (f : FT) : Prop := PW X e (rdT X W pin f)
abbrev VA (X : Cx) (W : WX) (pin : List Pn) (es : List Expr) (f : FA) : Prop := PA X es (rdA X W pin f)
abbrev VS (X : Cx) (W : WX) (pin : List Pn) (st : Stmt) (f : FS) : Prop := PS X st (rdS X W pin f)
abbrev VSs (X : Cx) (W : WX) (pin : List Pn) (st : List Stmt) (f : FS) : Prop := PSs X st (rdS X W pin f)
/-- weaker readings -/
theorem pe_imp {X : Cx} {e : Expr} {t t' : TE} (h : PE X e t) (q : ∀ σ H Q, t' σ H Q → t σ H Q) : PE X e t' := ⟨fun pins s σ H Q I w => h.run pins s σ H Q I (q _ _ _ w)⟩
theorem pt_imp {X : Cx} {e : Expr} {t t' : TT} (h : PT X e t) (q : ∀ σ H Q, t' σ H Q → t σ H Q) : PT X e t' := ⟨fun pins s σ H Q I w => h.run pins s σ H Q I (q _ _ _ w)⟩
theorem pw_imp {X : Cx} {e : Expr} {t t' : TT} (h : PW X e t) (q : ∀ σ H Q, t' σ H Q → t σ H Q) : PW X e t' := ⟨fun wh pins s σ H Q I w => h.run wh pins s σ H Q I (q _ _ _ w)⟩
theorem pa_imp {X : Cx} {e : List Expr} {t t' : TA} (h : PA X e t) (q : ∀ σ H Q, t' σ H Q → t σ H Q) : PA X e t' := ⟨fun pos pins s σ H Q I w => h.run pos pins s σ H Q I (q _ _ _ w)⟩
theorem ps_imp {X : Cx} {e : Stmt} {t t' : TS} (h : PS X e t) (q : ∀ D σ H, t' D σ H → t D σ H) : PS X e t' := ⟨fun pins s σ H D I w => h.run pins s σ H D I (q _ _ _ w)⟩
theorem pss_imp {X : Cx} {e : List Stmt} {t t' : TS} (h : PSs X e t) (q : ∀ D σ H, t' D σ H → t D σ H) : PSs X e t' := ⟨fun pins s σ H D I w => h.run pins s σ H D I (q _ _ _ w)⟩

section
variable {X : Cx} {W : WX} {pin : List Pn} {K : PySem.W.Frag} {mg : Str → Option Value} {E : XK} {G G' : GG} {ms ms' : List Addr}
theorem PnOk.mono' {σ : L2.St} (e : Same G.1 G'.1) (p : ms <+: ms') : ∀ {z : Pn}, PnOk K G ms σ z → PnOk K G' ms' σ z
  | .s _ _, h => h
  | .g _ _ _, h => by obtain ⟨v, h1, h2⟩ := h; exact ⟨v, e _ _ h1, Is.mono' e p _ _ h2⟩
theorem Sl.mono {s : Ss} {σ : L2.St} (x : Sl K G ms pin s σ) (e : GLe G G') (p : ms <+: ms') : Sl K G' ms' pin s σ :=
  ⟨x.len, fun i d q => by obtain ⟨v, h1, h2⟩ := x.get i d q; exact ⟨v, h1, Is.mono e p d v h2⟩, fun z hz => (x.pin z hz).mono' e.le p⟩
theorem pre_trans {a b c : List Addr} (h : a <+: b) (q : b <+: c) : a <+: c := List.IsPrefix.trans h q
theorem Post.mono {α β : Type} {I : GG → List Addr → α → β → Prop} {r : R α} {Q : β → Hp → Prop} (x : Post K mg E G ms I r Q) (e : GLe G G') (p : ms <+: ms') : Post K mg E G' ms' I r Q := by
  cases r with
  | ok a h' => exact fun b H' G2 ms2 h1 h2 => x b H' G2 ms2 (e.trans h1) (pre_trans p h2)
  | err y h' => exact fun H' G2 ms2 d h1 h2 => x H' G2 ms2 d (e.trans h1) (pre_trans p h2)
  | bad => exact x
theorem Post.imp {α β : Type} {I : GG → List Addr → α → β → Prop} {r : R α} {Q Q' : β → Hp → Prop} (x : Post K mg E G ms I r Q) (f : ∀ b H, Q b H → Q' b H) : Post K mg E G ms I r Q' := by
  cases r with
  | ok a h' => exact fun b H' G2 ms2 h1 h2 h3 h4 => f _ _ (x b H' G2 ms2 h1 h2 h3 h4)
  | err y h' => exact x
  | bad => exact x
/-- one step, then another: the second starts where the first has come to -/
theorem Post.bind {α β γ δ : Type} {I : GG → List Addr → α → γ → Prop} {J : GG → List Addr → β → δ → Prop} {r : R α} {k : α → Hs → R β} {Q : δ → Hp → Prop} {Q' : γ → Hp → Prop}
    (x : Post K mg E G ms J (r.bind k) Q)
    (f : ∀ a h1 b H1 G1 ms1, GLe G G1 → ms <+: ms1 → Hh K G1 ms1 h1 H1 → I G1 ms1 a b → Post K mg E G1 ms1 J (k a h1) Q → Q' b H1) : Post K mg E G ms I r Q' := by
  cases r with
  | ok a h' => exact fun b H' G2 ms2 h1 h2 h3 h4 => f a h' b H' G2 ms2 h1 h2 h3 h4 (Post.mono (r := k a h') x h1 h2)
  | err y h' => exact x
  | bad => exact x
theorem Post.fin {α β : Type} {I : GG → List Addr → α → β → Prop} {a : α} {b : β} {h : Hs} {H : Hp} {Q : β → Hp → Prop} (x : Post K mg E G ms I (.ok a h) Q) (hh : Hh K G ms h H) (q : I G ms a b) : Q b H :=
  x b H G ms (GLe.refl _) (pre_refl _) hh q
theorem Post.fin2 {α β : Type} {I : GG → List Addr → α → β → Prop} {a : α} {b : β} {h : Hs} {H : Hp} {Q : β → Hp → Prop} (x : Post K mg E G ms I (.ok a h) Q) (e : GLe G G') (p : ms <+: ms') (hh : Hh K G' ms' h H) (q : I G' ms' a b) : Q b H :=
  x b H G' ms' e p hh q

def eVar (i : Nat) : FE := fun s h => match s[i]? with
  | some (some d) => .ok d h
  | _ => .bad
theorem ve_var (i : Nat) {x : Str} {pos : Pos} (hN : X.N[i]? = some x := by rfl) (hv : Vis X.env.scope x := by first | exact Or.inl rfl | exact Or.inr (Or.inl rfl) | exact Or.inr (Or.inr rfl)) (hd : (x == ("__debug__" : Str)) = false := by decide)
    (hcd : (x == ("__classdict__" : Str)) = false := by decide) : VE X W pin (.Name x pos) (eVar i) := by
  refine pe_imp (pe_var hN hv hd hcd) fun σ H Q ⟨G, ms, s, h, hh, sl, q⟩ => ?_
  unfold eVar at q
  split at q
  · rename_i d e
    obtain ⟨v, e1, e2⟩ := sl.get i d e
    exact ⟨v, e1, q.fin hh e2⟩
  · exact q.elim
def eC (d : D) : FE := fun _ h => .ok d h
theorem ve_int {i : Int} {j : Nat} {pos : Pos} : VE X W pin (.Constant (.int i) j pos) (eC (.int i)) := pe_imp pe_int fun σ H Q ⟨G, ms, s, h, hh, sl, q⟩ => Post.fin (b := V.int i) q hh rfl
theorem ve_bl {i : Bool} {j : Nat} {pos : Pos} : VE X W pin (.Constant (.bool i) j pos) (eC (.bl i)) := pe_imp pe_bl fun σ H Q ⟨G, ms, s, h, hh, sl, q⟩ => Post.fin (b := V.bl i) q hh rfl
theorem ve_str {i : Str} {j : Nat} {pos : Pos} : VE X W pin (.Constant (.str i) j pos) (eC (.str i)) := pe_imp pe_str fun σ H Q ⟨G, ms, s, h, hh, sl, q⟩ => Post.fin (b := V.str i) q hh rfl
theorem ve_non {j : Nat} {pos : Pos} : VE X W pin (.Constant .none j pos) (eC .non) := pe_imp pe_non fun σ H Q ⟨G, ms, s, h, hh, sl, q⟩ => Post.fin (b := V.non) q hh rfl
/-- a constant of the module, an int -/
theorem ve_globI {x : Str} {i : Int} {t : Tok} {pos : Pos} (hg : Gl X x) (hm : X.mg x = some (.int i t)) (hd : (x == ("__debug__" : Str)) = false := by decide) : VE X W pin (.Name x pos) (eC (.int i)) :=
  pe_imp (pe_glob (v := .int i) hg hm ⟨t, rfl⟩ hd) fun σ H Q ⟨G, ms, s, h, hh, sl, q⟩ => Post.fin (b := V.int i) q hh rfl

def aNil : FA := fun _ h => .ok [] h
def aCons (f : FE) (r : FA) : FA := fun s h => (f s h).bind fun d h1 => (r s h1).bind fun ds h2 => .ok (d :: ds) h2
theorem va_nil : VA X W pin [] aNil := pa_imp pa_nil fun σ H Q ⟨G, ms, s, h, hh, sl, q⟩ => Post.fin (b := ([] : List V)) q hh rfl
theorem va_cons {e : Expr} {es : List Expr} {f : FE} {r : FA} (h1 : VE X W pin e f) (h2 : VA X W pin es r) (hs : starEach (e :: es) X.env = (false, eval e X.env) :: starEach es X.env := by rfl) : VA X W pin (e :: es) (aCons f r) := by
  refine pa_imp (pa_cons h1 h2 hs) fun σ H Q ⟨G, ms, s, h, hh, sl, q⟩ => ?_
  refine ⟨G, ms, s, h, hh, sl, q.bind fun d h1 v H1 G1 ms1 e1 p1 hh1 i1 q1 => ?_⟩
  refine ⟨G1, ms1, s, h1, hh1, sl.mono e1 p1, q1.bind fun ds h2 vs H2 G2 ms2 e2 p2 hh2 i2 q2 => ?_⟩
  exact q2.fin hh2 ⟨v, vs, rfl, Is.mono e2 p2 _ _ i1, i2⟩

def rd2 (K : PySem.W.Frag) (g : D → D → Hs → R D) : R2 := fun x y H Q => ∃ G ms h a b, Hh K G ms h H ∧ Is K G ms a x ∧ Is K G ms b y ∧ Post K (fun _ => none) (fun _ _ _ => False) G ms (Is K) (g a b h) Q
def OpD (X : Cx) (f : Value → Value → Sem Value) (g : D → D → Hs → R D) : Prop := OpR X f (rd2 X.K g)
/-- an operation gives no error -/
def calm2 (g : D → D → Hs → R D) : D → D → Hs → R D := fun a b h => match g a b h with
  | .ok d h' => .ok d h'
  | _ => .bad
def eBin (g : D → D → Hs → R D) (fa fb : FE) : FE := fun s h => (fa s h).bind fun a h1 => (fb s h1).bind fun b h2 => calm2 g a b h2
theorem calm_post {g : D → D → Hs → R D} {a b : D} {h : Hs} {Q : VK} (q : Post K mg E G ms (Is K) (calm2 g a b h) Q) : Post K (fun _ => none) (fun _ _ _ => False) G ms (Is K) (g a b h) Q := by
  unfold calm2 at q
  cases e : g a b h with
  | ok d h' => rw [e] at q; exact q
  | err x h' => rw [e] at q; exact q.elim
  | bad => rw [e] at q; exact q.elim
theorem op_read {g : D → D → Hs → R D} {fa fb : FE} {σ : L2.St} {H : Hp} {Q : VK} (h : rdE X W pin (eBin g fa fb) σ H Q) : tOp (rd2 X.K g) (rdE X W pin fa) (rdE X W pin fb) σ H Q := by
  obtain ⟨G, ms, s, h, hh, sl, q⟩ := h
  refine ⟨G, ms, s, h, hh, sl, q.bind fun a h1 x H1 G1 ms1 e1 p1 hh1 i1 q1 => ?_⟩
  refine ⟨G1, ms1, s, h1, hh1, sl.mono e1 p1, q1.bind fun b h2 y H2 G2 ms2 e2 p2 hh2 i2 q2 => ?_⟩
  exact ⟨G2, ms2, h2, a, b, hh2, Is.mono e2 p2 _ _ i1, i2, calm_post q2⟩
theorem ve_bin {op : Operator} {g : D → D → Hs → R D} {a b : Expr} {fa fb : FE} {pos : Pos} (ho : OpD X (binaryOp op) g) (ha : VE X W pin a fa) (hb : VE X W pin b fb) : VE X W pin (.BinOp a op b pos) (eBin g fa fb) :=
  pe_imp (pe_op ho ha hb) fun _ _ _ h => op_read h
theorem ve_cmp {op : CmpOp} {g : D → D → Hs → R D} {a b : Expr} {fa fb : FE} {pos : Pos} (ho : OpD X (compareOp op) g) (ha : VE X W pin a fa) (hb : VE X W pin b fb) (hm : behindInMarks op b = false := by first | exact nomark _ | rfl) : VE X W pin (.Compare a [op] [b] pos) (eBin g fa fb) :=
  pe_imp (pe_cmpR ho ha hb hm) fun _ _ _ h => op_read h
/-- a truth -/
def truth (r : R D) : R Bool := r.bind fun d h => match d with
  | .bl b => .ok b h
  | _ => .bad
def tV (f : FE) : FT := fun s h => truth (f s h)
theorem test_read {f : FE} {σ : L2.St} {H : Hp} {Q : Bool → Hp → Prop} (h : rdT X W pin (tV f) σ H Q) : rdE X W pin f σ H fun x H' => ∃ k, x = .bl k ∧ Q k H' := by
  obtain ⟨G, ms, s, h, hh, sl, q⟩ := h
  refine ⟨G, ms, s, h, hh, sl, Post.bind q fun a h1 x H1 G1 ms1 e1 p1 hh1 i1 q1 => ?_⟩
  cases a with
  | bl b => cases i1; exact ⟨b, rfl, q1.fin hh1 rfl⟩
  | _ => exact q1.elim
theorem vt_val {e : Expr} {f : FE} (h : VE X W pin e f) (he : ∀ whole, isTrue e X.env whole = (do let v ← whole; standAt e.pos; holding [v] (truthy v)) := by intro _; rfl) : VT X W pin e (tV f) :=
  pt_imp (pt_val h he) fun _ _ _ h => test_read h
theorem vt_cmp {op : CmpOp} {g : D → D → Hs → R D} {a b : Expr} {fa fb : FE} {pos : Pos} (ho : OpD X (compareOp op) g) (ha : VE X W pin a fa) (hb : VE X W pin b fb) (hm : behindInMarks op b = false := by first | exact nomark _ | rfl) : VT X W pin (.Compare a [op] [b] pos) (tV (eBin g fa fb)) := by
  refine pt_imp (pt_cmpR ho ha hb hm) fun σ H Q h => ?_
  exact op_read (test_read h)
end
end WD
namespace WD
open PySem PySem.Spec PyProof.Rows L2
section
variable {X : Cx} {W : WX} {pin : List Pn} {K : PySem.W.Frag} {mg : Str → Option Value} {E : XK} {G G' : GG} {ms ms' : List Addr} {pos : Pos} {a b c : Expr} {rest : List Expr}
def tNotF (f : FT) : FT := fun s h => (f s h).bind fun b h1 => .ok (!b) h1
def tAndF (f g : FT) : FT := fun s h => (f s h).bind fun b h1 => if b = true then g s h1 else .ok false h1
def tOrF (f g : FT) : FT := fun s h => (f s h).bind fun b h1 => if b = true then .ok true h1 else g s h1
theorem vt_not {f : FT} (h : VT X W pin a f) : VT X W pin (.UnaryOp .Not a pos) (tNotF f) := by
  refine pt_imp (pt_not h) fun σ H Q ⟨G, ms, s, h, hh, sl, q⟩ => ?_
  exact ⟨G, ms, s, h, hh, sl, Post.bind q fun d h1 x H1 G1 ms1 e1 p1 hh1 i1 q1 => q1.fin hh1 (by rw [i1])⟩
theorem vw_and1 {f : FT} (h : VT X W pin a f) : VW X W pin (.BoolOp .And [a] pos) f := pw_and1 h
theorem vw_or1 {f : FT} (h : VT X W pin a f) : VW X W pin (.BoolOp .Or [a] pos) f := pw_or1 h
theorem vw_and {f g : FT} (ha : VT X W pin a f) (hb : VW X W pin (.BoolOp .And (b :: rest) pos) g) : VW X W pin (.BoolOp .And (a :: b :: rest) pos) (tAndF f g) := by
  refine pw_imp (pw_and ha hb) fun σ H Q ⟨G, ms, s, h, hh, sl, q⟩ => ?_
  refine ⟨G, ms, s, h, hh, sl, Post.bind q fun d h1 x H1 G1 ms1 e1 p1 hh1 i1 q1 => ?_⟩
  subst i1
  cases d with
  | true => exact ⟨G1, ms1, s, h1, hh1, sl.mono e1 p1, q1⟩
  | false => exact q1.fin hh1 rfl
theorem vw_or {f g : FT} (ha : VT X W pin a f) (hb : VW X W pin (.BoolOp .Or (b :: rest) pos) g) : VW X W pin (.BoolOp .Or (a :: b :: rest) pos) (tOrF f g) := by
  refine pw_imp (pw_or ha hb) fun σ H Q ⟨G, ms, s, h, hh, sl, q⟩ => ?_
  refine ⟨G, ms, s, h, hh, sl, Post.bind q fun d h1 x H1 G1 ms1 e1 p1 hh1 i1 q1 => ?_⟩
  subst i1
  cases d with
  | false => exact ⟨G1, ms1, s, h1, hh1, sl.mono e1 p1, q1⟩
  | true => exact q1.fin hh1 rfl
theorem vt_w {e : Expr} {f : FT} (h : VW X W pin e f) : VT X W pin e f := PW.pt h
/-- .. as values -/
def eAndF (fa fb : FE) : FE := fun s h => (truth (fa s h)).bind fun k h1 => if k = true then fb s h1 else .ok (.bl false) h1
def eOrF (fa fb : FE) : FE := fun s h => (truth (fa s h)).bind fun k h1 => if k = true then .ok (.bl true) h1 else fb s h1
def eNotF (fa : FE) : FE := fun s h => (truth (fa s h)).bind fun k h1 => .ok (.bl (!k)) h1
def eIfF (t : FT) (fa fb : FE) : FE := fun s h => (t s h).bind fun k h1 => if k = true then fa s h1 else fb s h1
theorem Post.truth {r : R D} {β : Type} {γ : Type} {J : GG → List Addr → γ → β → Prop} {k : Bool → Hs → R γ} {Q : β → Hp → Prop} {Q' : VK} (x : Post K mg E G ms J ((truth r).bind k) Q)
    (f : ∀ c h1 H1 G1 ms1, GLe G G1 → ms <+: ms1 → Hh K G1 ms1 h1 H1 → Post K mg E G1 ms1 J (k c h1) Q → Q' (.bl c) H1) : Post K mg E G ms (Is K) r Q' := by
  cases r with
  | ok d h1 =>
    cases d with
    | bl c =>
      intro v H1 G1 ms1 e1 p1 hh1 i1
      cases i1
      exact f c h1 H1 G1 ms1 e1 p1 hh1 (Post.mono (r := k c h1) x e1 p1)
    | _ => exact x.elim
  | err y h1 => exact x
  | bad => exact x
theorem ve_one {op : BoolOp} {f : FE} (h : VE X W pin a f) : VE X W pin (.BoolOp op [a] pos) f := pe_one h
theorem ve_and {fa fb : FE} (ha : VE X W pin a fa) (hb : VE X W pin (.BoolOp .And (b :: rest) pos) fb) : VE X W pin (.BoolOp .And (a :: b :: rest) pos) (eAndF fa fb) := by
  refine pe_imp (pe_and ha hb) fun σ H Q ⟨G, ms, s, h, hh, sl, q⟩ => ?_
  refine ⟨G, ms, s, h, hh, sl, Post.truth q fun c h1 H1 G1 ms1 e1 p1 hh1 q1 => ⟨c, rfl, ?_⟩⟩
  cases c with
  | true => exact ⟨G1, ms1, s, h1, hh1, sl.mono e1 p1, q1⟩
  | false => exact q1.fin hh1 rfl
theorem ve_or {fa fb : FE} (ha : VE X W pin a fa) (hb : VE X W pin (.BoolOp .Or (b :: rest) pos) fb) : VE X W pin (.BoolOp .Or (a :: b :: rest) pos) (eOrF fa fb) := by
  refine pe_imp (pe_or ha hb) fun σ H Q ⟨G, ms, s, h, hh, sl, q⟩ => ?_
  refine ⟨G, ms, s, h, hh, sl, Post.truth q fun c h1 H1 G1 ms1 e1 p1 hh1 q1 => ⟨c, rfl, ?_⟩⟩
  cases c with
  | false => exact ⟨G1, ms1, s, h1, hh1, sl.mono e1 p1, q1⟩
  | true => exact q1.fin hh1 rfl
theorem ve_not {fa : FE} (ha : VE X W pin a fa) : VE X W pin (.UnaryOp .Not a pos) (eNotF fa) := by
  refine pe_imp (pe_not ha) fun σ H Q ⟨G, ms, s, h, hh, sl, q⟩ => ?_
  exact ⟨G, ms, s, h, hh, sl, Post.truth q fun c h1 H1 G1 ms1 e1 p1 hh1 q1 => ⟨c, rfl, q1.fin hh1 rfl⟩⟩
/-- a < b < c -/
def eChain (g g' : D → D → Hs → R D) (fa fb fc : FE) : FE := fun s h => (fa s h).bind fun x h1 => (fb s h1).bind fun y h2 => (truth (calm2 g x y h2)).bind fun k h3 => if k = true then (fc s h3).bind fun z h4 => calm2 g' y z h4 else .ok (.bl false) h3
theorem chain_read {g g' : D → D → Hs → R D} {fa fb fc : FE} {σ : L2.St} {H : Hp} {Q : VK} (h : rdE X W pin (eChain g g' fa fb fc) σ H Q) : tChain (rd2 X.K g) (rd2 X.K g') (rdE X W pin fa) (rdE X W pin fb) (rdE X W pin fc) σ H Q := by
  obtain ⟨G, ms, s, h, hh, sl, q⟩ := h
  refine ⟨G, ms, s, h, hh, sl, Post.bind q fun x h1 xv H1 G1 ms1 e1 p1 hh1 i1 q1 => ?_⟩
  refine ⟨G1, ms1, s, h1, hh1, sl.mono e1 p1, Post.bind q1 fun y h2 yv H2 G2 ms2 e2 p2 hh2 i2 q2 => ?_⟩
  refine ⟨G2, ms2, h2, x, y, hh2, Is.mono e2 p2 _ _ i1, i2, calm_post (Post.truth q2 fun k h3 H3 G3 ms3 e3 p3 hh3 q3 => ⟨k, rfl, ?_⟩)⟩
  cases k with
  | false => exact q3.fin hh3 rfl
  | true =>
    refine ⟨G3, ms3, s, h3, hh3, ((sl.mono e1 p1).mono e2 p2).mono e3 p3, Post.bind q3 fun z h4 zv H4 G4 ms4 e4 p4 hh4 i4 q4 => ?_⟩
    exact ⟨G4, ms4, h4, y, z, hh4, Is.mono (e3.trans e4) (pre_trans p3 p4) _ _ i2, i4, calm_post q4⟩
theorem ve_chain {op op' : CmpOp} {g g' : D → D → Hs → R D} {fa fb fc : FE} (ho : OpD X (compareOp op) g) (ho' : OpD X (compareOp op') g') (ha : VE X W pin a fa) (hb : VE X W pin b fb) (hc : VE X W pin c fc)
    (hm : lastMarks [op, op'] [b, c] = false := by with_unfolding_all rfl) : VE X W pin (.Compare a [op, op'] [b, c] pos) (eChain g g' fa fb fc) :=
  pe_imp (pe_chain ho ho' ha hb hc hm) fun _ _ _ h => chain_read h
theorem vt_chain {op op' : CmpOp} {g g' : D → D → Hs → R D} {fa fb fc : FE} (ho : OpD X (compareOp op) g) (ho' : OpD X (compareOp op') g') (ha : VE X W pin a fa) (hb : VE X W pin b fb) (hc : VE X W pin c fc)
    (hm : lastMarks [op, op'] [b, c] = false := by with_unfolding_all rfl) : VT X W pin (.Compare a [op, op'] [b, c] pos) (tV (eChain g g' fa fb fc)) :=
  pt_imp (pt_chain ho ho' ha hb hc hm) fun _ _ _ h => chain_read (test_read h)

def RS.ofR (s : Ss) (r : R D) (k : D → Hs → RS) : RS := match r with
  | .ok d h => k d h
  | .err x h => .er x s h
  | .bad => .bad
@[simp] theorem RS.ofR_ok (s : Ss) (d : D) (h : Hs) (k : D → Hs → RS) : RS.ofR s (.ok d h) k = k d h := rfl
@[simp] theorem RS.ofR_err (s : Ss) (x : Xn) (h : Hs) (k : D → Hs → RS) : RS.ofR s (.err x h) k = .er x s h := rfl
@[simp] theorem RS.ofR_bad (s : Ss) (k : D → Hs → RS) : RS.ofR s .bad k = .bad := rfl
def sNext : FS := fun s h => .nx s h
def sSeq (f g : FS) : FS := fun s h => match f s h with
  | .nx s' h' => g s' h'
  | r => r
def sIf (t : FT) (f g : FS) : FS := fun s h => match t s h with
  | .ok k h1 => if k = true then f s h1 else g s h1
  | .err x h1 => .er x s h1
  | .bad => .bad
def sSet (i : Nat) (f : FE) : FS := fun s h => RS.ofR s (f s h) fun d h1 => .nx (s.set i (some d)) h1
def sRet (f : FE) : FS := fun s h => RS.ofR s (f s h) fun d h1 => .rt d h1
def sExpr (f : FE) : FS := fun s h => RS.ofR s (f s h) fun _ h1 => .nx s h1
def sBreak : FS := fun s h => .bk s h
def sCont : FS := fun s h => .ct s h
theorem PostS.mono {σ σ' : L2.St} {r : RS} {D : Ends} (x : PostS W K mg pin σ G ms r D) (e : GLe G G') (p : ms <+: ms') : PostS W K mg pin σ' G' ms' r D := by
  cases r with
  | nx s h => exact fun σ' H' G2 ms2 h1 h2 => x σ' H' G2 ms2 (e.trans h1) (pre_trans p h2)
  | rt d h => exact fun v H' G2 ms2 h1 h2 => x v H' G2 ms2 (e.trans h1) (pre_trans p h2)
  | bk s h => exact fun σ' H' G2 ms2 h1 h2 => x σ' H' G2 ms2 (e.trans h1) (pre_trans p h2)
  | ct s h => exact fun σ' H' G2 ms2 h1 h2 => x σ' H' G2 ms2 (e.trans h1) (pre_trans p h2)
  | er y s h => exact fun σ' H' G2 ms2 d h1 h2 => x σ' H' G2 ms2 d (e.trans h1) (pre_trans p h2)
  | bad => exact x
/-- an expression, then a statement's end -/
theorem PostS.ofR {σ : L2.St} {s : Ss} {r : R D} {k : D → Hs → RS} {D0 : Ends} {Q' : VK} (sl : Sl K G ms pin s σ) (x : PostS W K mg pin σ G ms (RS.ofR s r k) D0)
    (f : ∀ d h1 v H1 G1 ms1, GLe G G1 → ms <+: ms1 → Hh K G1 ms1 h1 H1 → Is K G1 ms1 d v → PostS W K mg pin σ G1 ms1 (k d h1) D0 → Q' v H1) : Post K mg (fun c d H => W c d σ H) G ms (Is K) r Q' := by
  cases r with
  | ok d h' => exact fun v H' G2 ms2 h1 h2 h3 h4 => f d h' v H' G2 ms2 h1 h2 h3 h4 (PostS.mono (r := k d h') x h1 h2)
  | err y h' => exact fun H' G2 ms2 d h1 h2 h3 h4 => x σ H' G2 ms2 d h1 h2 h3 (sl.mono h1 h2) h4
  | bad => exact x
theorem vss_nil : VSs X W pin [] sNext := pss_imp pss_nil fun D σ H ⟨G, ms, s, h, hh, sl, q⟩ => q σ H G ms (GLe.refl _) (pre_refl _) hh sl
theorem vss_one {st : Stmt} {f : FS} (h : VS X W pin st f) : VSs X W pin [st] f := pss_one h
theorem vss_cons {st : Stmt} {r : List Stmt} {f g : FS} (h1 : VS X W pin st f) (h2 : VSs X W pin r g) : VSs X W pin (st :: r) (sSeq f g) := by
  refine pss_imp (pss_cons h1 h2) fun D σ H ⟨G, ms, s, h, hh, sl, q⟩ => ⟨G, ms, s, h, hh, sl, ?_⟩
  unfold sSeq at q
  cases e : f s h with
  | nx s' h' =>
    rw [e] at q
    exact fun σ' H' G2 ms2 h1 h2 h3 h4 => ⟨G2, ms2, s', h', h3, h4, PostS.mono (r := g s' h') q h1 h2⟩
  | rt d h' => rw [e] at q; exact q
  | bk s' h' => rw [e] at q; exact q
  | ct s' h' => rw [e] at q; exact q
  | er y s' h' => rw [e] at q; exact q
  | bad => rw [e] at q; exact q
theorem vs_expr {e : Expr} {f : FE} (he : VE X W pin e f) (hs : swapsWith e none pos.line X.env = pure false := by rfl) : VS X W pin (.Expr e pos) (sExpr f) := by
  refine ps_imp (ps_expr he hs) fun D σ H ⟨G, ms, s, h, hh, sl, q⟩ => ⟨G, ms, s, h, hh, sl, PostS.ofR sl q fun d h1 v H1 G1 ms1 e1 p1 hh1 i1 q1 => ?_⟩
  exact q1 σ H1 G1 ms1 (GLe.refl _) (pre_refl _) hh1 (sl.mono e1 p1)
theorem vs_ret {e : Expr} {f : FE} (he : VE X W pin e f) : VS X W pin (.Return (some e) pos) (sRet f) := by
  refine ps_imp (ps_ret he) fun D σ H ⟨G, ms, s, h, hh, sl, q⟩ => ⟨G, ms, s, h, hh, sl, PostS.ofR sl q fun d h1 v H1 G1 ms1 e1 p1 hh1 i1 q1 => ?_⟩
  exact q1 v H1 G1 ms1 (GLe.refl _) (pre_refl _) hh1 i1
theorem vs_if {ya na : List Stmt} {t : FT} {f g : FS} (hc : VT X W pin c t) (ha : VSs X W pin ya f) (hb : VSs X W pin na g) : VS X W pin (.If c ya na pos) (sIf t f g) := by
  refine ps_imp (ps_if hc ha hb) fun D σ H ⟨G, ms, s, h, hh, sl, q⟩ => ⟨G, ms, s, h, hh, sl, ?_⟩
  unfold sIf at q
  cases e : t s h with
  | ok k h1 =>
    rw [e] at q
    intro b H1 G1 ms1 e1 p1 hh1 i1
    subst i1
    cases k with
    | true => exact ⟨G1, ms1, s, h1, hh1, sl.mono e1 p1, PostS.mono (r := f s h1) q e1 p1⟩
    | false => exact ⟨G1, ms1, s, h1, hh1, sl.mono e1 p1, PostS.mono (r := g s h1) q e1 p1⟩
  | err y h1 =>
    rw [e] at q
    exact fun H' G2 ms2 d h1 h2 h3 h4 => q σ H' G2 ms2 d h1 h2 h3 (sl.mono h1 h2) h4
  | bad => rw [e] at q; exact q
/-- free of the pinned slots -/
def Pn.not (i : Nat) : Pn → Prop
  | .s j _ => j ≠ i
  | .g _ _ _ => True
def NotPin (pin : List Pn) (i : Nat) : Prop := ∀ p ∈ pin, p.not i
theorem PnOk.set {σ : L2.St} {i : Nat} {o : Option V} : ∀ {z : Pn}, z.not i → PnOk K G ms σ z → PnOk K G ms (σ.set i o) z
  | .s j v, np, h => by
    show (σ.set i o)[j]? = some (some v)
    rw [List.getElem?_set_ne (Ne.symm np)]; exact h
  | .g _ _ _, _, h => h
theorem notPin_nil {i : Nat} : NotPin [] i := fun _ h => nomatch h
theorem Sl.set {s : Ss} {σ : L2.St} {i : Nat} {d : D} {v : V} (x : Sl K G ms pin s σ) (q : Is K G ms d v) (np : NotPin pin i) : Sl K G ms pin (s.set i (some d)) (σ.set i (some v)) := by
  refine ⟨by simp [x.len], fun j d' e => ?_, fun p hp => ?_⟩
  · by_cases hj : j = i
    · subst hj
      have hl : j < s.length := by
        rcases Nat.lt_or_ge j s.length with z | z
        · exact z
        · rw [List.getElem?_eq_none (by simpa using z)] at e; cases e
      rw [List.getElem?_set_self hl] at e
      cases e
      exact ⟨v, List.getElem?_set_self (by rw [← x.len]; exact hl), q⟩
    · rw [List.getElem?_set_ne (Ne.symm hj)] at e ⊢
      exact x.get j d' e
  · exact (x.pin p hp).set (np p hp)
theorem vs_set (i : Nat) {x : Str} {e : Expr} {f : FE} {pos' : Pos} (hN : X.N.Nodup) (he : VE X W pin e f) (hi : X.N[i]? = some x := by rfl) (hx : Loc X.env.scope x := by first | exact Or.inl rfl | exact Or.inr rfl) (np : NotPin pin i := by first | exact notPin_nil | decide)
    (hs : swapsWith e (some (.Name x pos')) pos.line X.env = pure false := by rfl) (hf : X.fn x = true ∨ X.env.scope.names.lookup x = some .local := by first | exact .inl rfl | exact .inr rfl | assumption) : VS X W pin (.Assign [.Name x pos'] e pos) (sSet i f) := by
  refine ps_imp (ps_set hN hi hx he hs hf) fun D σ H ⟨G, ms, s, h, hh, sl, q⟩ => ⟨G, ms, s, h, hh, sl, PostS.ofR sl q fun d h1 v H1 G1 ms1 e1 p1 hh1 i1 q1 => ?_⟩
  exact q1 _ H1 G1 ms1 (GLe.refl _) (pre_refl _) hh1 ((sl.mono e1 p1).set i1 np)
end
end WD
namespace L2
open PySem PySem.Spec PyProof.Rows
set_option maxHeartbeats 400000 in
theorem tuple_mulS (l : Addr) (items : Array Value) (n : Nat) (dd : Option Addr) (sl : Array (Option Value)) (x : Int) (u : Tok) (c0 : (decide (x < -(2 ^ 63)) || decide (x ≥ 2 ^ 63)) = false) (c1 : (items.isEmpty || x == 1) = true) :
    Meets (Builtin.«tuple.__mul__» ⟨[.ref l, .int x u], []⟩) (fun _ R s => s.heap.get? l = some { cls := .type "tuple", dict := dd, data := .seq items n, slots := sl } ∧
      R (.ok (.ret (Value.ref l))) s) :=
  .of_wp fun prog w A R s h => by
    obtain ⟨hp, g, d, tk, os⟩ := s
    obtain ⟨hl, h⟩ := h
    have f1 := AutoSeq1.idx_int
    wp_walk using wpAny_loadPart' hl
    repeat (first
      | (refine wpAny_ite_false (decide_eq_false (by rw [c0]; exact Bool.false_ne_true)) ?_; wp_walk using wpAny_loadPart' hl)
      | (refine wpAny_ite_true (decide_eq_true (by rw [c1])) ?_; wp_walk using wpAny_loadPart' hl))
    exact ⟨_, rfl, h⟩
set_option maxHeartbeats 400000 in
theorem tuple_mulZ (l : Addr) (items : Array Value) (n : Nat) (dd : Option Addr) (sl : Array (Option Value)) (x : Int) (u : Tok) (c0 : (decide (x < -(2 ^ 63)) || decide (x ≥ 2 ^ 63)) = false) (c1 : (items.isEmpty || x == 1) = false) (c2 : (decide (x ≤ 0) || items.isEmpty) = true) :
    Meets (Builtin.«tuple.__mul__» ⟨[.ref l, .int x u], []⟩) (fun _ R s => s.heap.get? l = some { cls := .type "tuple", dict := dd, data := .seq items n, slots := sl } ∧
      R (.ok (.ret (Value.ref s.heap.objs.size))) { s with heap := s.heap.push { cls := Value.type "tuple", data := Data.seq #[] }, toks := s.toks }) :=
  .of_wp fun prog w A R s h => by
    obtain ⟨hp, g, d, tk, os⟩ := s
    obtain ⟨hl, h⟩ := h
    have f1 := AutoSeq1.idx_int
    wp_walk using wpAny_loadPart' hl
    repeat (first
      | (refine wpAny_ite_false (decide_eq_false (by rw [c0]; exact Bool.false_ne_true)) ?_; wp_walk using wpAny_loadPart' hl)
      | (refine wpAny_ite_false (decide_eq_false (by rw [c1]; exact Bool.false_ne_true)) ?_; wp_walk using wpAny_loadPart' hl)
      | (refine wpAny_ite_true (decide_eq_true (by rw [c2])) ?_; wp_walk using wpAny_loadPart' hl))
    exact ⟨_, rfl, h⟩
def rRepT2 (K : PySem.W.Frag) : R2 := fun x y H Q => ∃ l k xs, x = .ref l ∧ y = .int k ∧ SqT K H l xs ∧ -(2 ^ 63) ≤ k ∧ k < 2 ^ 63 ∧ xs.length * k.toNat ≤ sizeLine ∧ ((xs = [] ∨ k = 1) → Q (.ref l) H) ∧ (xs ≠ [] → k ≠ 1 → ∀ p, H p = none → Q (.ref p) (upd H p (.tup (List.replicate k.toNat xs).flatten)))
section
variable {X : Cx}
theorem op_repT2 : OpR X (binaryOp .Mult) (rRepT2 X.K) := by
  intro pins s σ H x y v u Q I rx ry h
  obtain ⟨l, k, xs, rfl, rfl, hT, h1, h2, hz, qs, qn⟩ := h
  cases rx
  obtain ⟨t, rfl⟩ := ry
  obtain ⟨its, r, ⟨⟨cls, dd, data, sl⟩, ho, hc, n, hd⟩, hs⟩ := I.tuple hT
  simp only at hc hd
  subst hc hd
  have hle : its.length = xs.length := r.length.symm
  have hsz0 : its.toArray.size = xs.length := by rw [List.size_toArray, hle]
  have c0 : (decide (k < -(2 ^ 63)) || decide (k ≥ 2 ^ 63)) = false := by
    rw [decide_eq_false (by omega), decide_eq_false (by omega)] <;> rfl
  have isE : its.toArray.isEmpty = decide (xs = []) := by
    cases its with
    | nil => 
      have : xs = [] := List.eq_nil_of_length_eq_zero hle.symm
      subst this; rfl
    | cons a b =>
      have : xs ≠ [] := fun e => by subst e; cases hle
      rw [decide_eq_false this]; rfl
  by_cases hsame : xs = [] ∨ k = 1
  · have c1 : (its.toArray.isEmpty || k == 1) = true := by
      rw [isE]
      rcases hsame with e | e
      · rw [decide_eq_true e]; rfl
      · subst e; simp
    refine wpAny_binaryOp_repeat_ref (T := "tuple") (U := "int") (by decide) ⟨_, ho, rfl⟩ (fun s' => typeIs_int s' k t) noFill_tuple_mul F.fills_int_mul F.slot_int_rmul repeat_tuple F.slot_int_index.lookup
      (call_meets F.slot_int_rmul (typeIs_int s k t) F.entry_int_rmul (F.args_int_rmul_2 _ _) (int_rmul_tuple k t l its.toArray n dd sl)
        ⟨ho, rfl, ⟨_, ho, rfl⟩, call_meets F.slot_tuple_mul ⟨_, ho, rfl⟩ F.entry_tuple_mul (F.args_tuple_mul_2 _ _) (tuple_mulS l its.toArray n dd sl k t c0 c1) ⟨ho, ?_⟩⟩)
    exact ⟨.ref l, H, I, rfl, qs hsame⟩
  · have hne : xs ≠ [] := fun e => hsame (.inl e)
    have hk1 : k ≠ 1 := fun e => hsame (.inr e)
    have q := qn hne hk1
    have c1 : (its.toArray.isEmpty || k == 1) = false := by
      rw [isE, decide_eq_false hne, Bool.false_or]
      exact beq_eq_false_iff_ne.mpr hk1
    by_cases hk : k ≤ 0
    · have c2 : (decide (k ≤ 0) || its.toArray.isEmpty) = true := by
        rw [decide_eq_true hk]; rfl
      refine wpAny_binaryOp_repeat_ref (T := "tuple") (U := "int") (by decide) ⟨_, ho, rfl⟩ (fun s' => typeIs_int s' k t) noFill_tuple_mul F.fills_int_mul F.slot_int_rmul repeat_tuple F.slot_int_index.lookup
        (call_meets F.slot_int_rmul (typeIs_int s k t) F.entry_int_rmul (F.args_int_rmul_2 _ _) (int_rmul_tuple k t l its.toArray n dd sl)
          ⟨ho, rfl, ⟨_, ho, rfl⟩, call_meets F.slot_tuple_mul ⟨_, ho, rfl⟩ F.entry_tuple_mul (F.args_tuple_mul_2 _ _) (tuple_mulZ l its.toArray n dd sl k t c0 c1 c2) ⟨ho, ?_⟩⟩)
      have e0 : (List.replicate k.toNat xs).flatten = [] := by rw [Int.toNat_of_nonpos hk]; rfl
      rw [e0] at q
      refine ⟨.ref s.heap.objs.size, _, I.laid (t' := s.toks) (o := .tup []) (fun b ob q => Heap.get?_push_of_some _ q) (Nat.le_refl _) ?_, rfl, q _ (I.hok.fresh (Nat.le_refl _))⟩
      exact ⟨Nat.zero_le _, _, .nil, IsTup.new _ _⟩
    · have hn : its ≠ [] := fun e => by rw [e] at hle; exact hne (List.eq_nil_of_length_eq_zero hle.symm)
      have c2 : (decide (k ≤ 0) || its.toArray.isEmpty) = false := by
        rw [isE, decide_eq_false hne, Bool.or_false]
        exact decide_eq_false hk
      have hm : ((its.toArray.size : Nat) : Int) * k ≤ 16777216 := by
        rw [hsz0]
        have e1 : ((xs.length : Nat) : Int) * k = ((xs.length * k.toNat : Nat) : Int) := by
          rw [Int.natCast_mul, Int.toNat_of_nonneg (by omega)]
        rw [e1]
        have : xs.length * k.toNat ≤ 16777216 := hz
        omega
      have flen : (List.replicate k.toNat its).flatten.length ≤ sizeLine := by
        rw [PyProof.Rows.lm_len_rep_flat, hle, Nat.mul_comm]
        exact hz
      have c4 : Builtin.Tuple.tupleTooMany (((its.toArray.size : Nat) : Int) * k) = false := by
        unfold Builtin.Tuple.tupleTooMany
        rw [sizeLine_eq]
        exact decide_eq_false (by omega)
      refine wpAny_binaryOp_repeat_ref (T := "tuple") (U := "int") (by decide) ⟨_, ho, rfl⟩ (fun s' => typeIs_int s' k t) noFill_tuple_mul F.fills_int_mul F.slot_int_rmul repeat_tuple F.slot_int_index.lookup
        (call_meets F.slot_int_rmul (typeIs_int s k t) F.entry_int_rmul (F.args_int_rmul_2 _ _) (int_rmul_tuple k t l its.toArray n dd sl)
          ⟨ho, rfl, ⟨_, ho, rfl⟩, call_meets F.slot_tuple_mul ⟨_, ho, rfl⟩ F.entry_tuple_mul (F.args_tuple_mul_2 _ _) (tuple_mulW l its.toArray n dd sl k t c0 c1 c2 (by omega) c4 (by rw [size_rep, List.size_toArray]; exact flen)) ⟨ho, ?_⟩⟩)
      rw [size_rep]
      refine ⟨.ref s.heap.objs.size, _, I.laid (t' := s.toks) (o := .tup (List.replicate k.toNat xs).flatten) (fun b ob q => Heap.get?_push_of_some _ q) (Nat.le_refl _) ?_, rfl, q _ (I.hok.fresh (Nat.le_refl _))⟩
      exact ⟨by rw [PyProof.Rows.lm_len_rep_flat, Nat.mul_comm]; exact hz, _, r.rep k.toNat, IsTup.new _ _⟩
end
end L2
namespace WD
open PySem PySem.Spec PyProof.Rows L2
def O.items : O → Option (List D)
  | .lst xs => some xs
  | .ins _ _ => none
  | .dct _ _ => none
  | .dci _ _ => none
def locAt (h : Hs) (n : Nat) : Option (List D) := (h[n]?).bind O.items
theorem locAt_some {h : Hs} {n : Nat} {xs : List D} (e : locAt h n = some xs) : h[n]? = some (.lst xs) := by
  unfold locAt at e
  cases q : h[n]? with
  | none => rw [q] at e; cases e
  | some o =>
    rw [q] at e
    cases o with
    | lst ys => cases e; rfl
    | ins c fs => cases e
    | dct z kvs => cases e
    | dci z kvs => cases e
def lstX (h : Hs) : D → Option (List D)
  | .lst xs => some xs
  | .loc n => locAt h n
  | _ => none
def lstOf (h : Hs) : D → Option (List D)
  | .scr xs => some xs
  | d => lstX h d
def rowOf (h : Hs) : D → Option (List D)
  | .tup xs => some xs
  | d => lstOf h d
section
variable {X : Cx} {W : WX} {pin : List Pn} {K : PySem.W.Frag} {mg : Str → Option Value} {E : XK} {G G' : GG} {H : Hp} {ms ms' : List Addr} {h : Hs} {pos : Pos} {a b c : Expr} {rest : List Expr}
theorem Hh.listX (hh : Hh K G ms h H) {d : D} {v : V} {xs : List D} (i : Is K G ms d v) (e : lstX h d = some xs) : ∃ a vs, v = .ref a ∧ H a = some (.lst vs) ∧ IsL K G ms xs vs := by
  cases d with
  | lst ys =>
    cases e
    obtain ⟨a, vs, h1, h2, h3⟩ := i
    exact ⟨a, vs, h1, hh.sub _ _ h2, h3⟩
  | loc n =>
    obtain ⟨a, h1, h2⟩ := i
    obtain ⟨a', vs, q1, q2, q3⟩ := hh.at (locAt_some e)
    rw [h1] at q1; cases q1
    exact ⟨a, vs, h2, q2, q3⟩
  | _ => cases e
theorem Hh.list (hh : Hh K G ms h H) {d : D} {v : V} {xs : List D} (i : Is K G ms d v) (e : lstOf h d = some xs) : ∃ a vs, v = .ref a ∧ SqL K H a vs ∧ IsL K G ms xs vs := by
  cases d with
  | scr ys =>
    cases e
    obtain ⟨a, vs, h1, h2, h3⟩ := i
    exact ⟨a, vs, h1, hh.sub.seq h2, h3⟩
  | _ =>
    obtain ⟨a, vs, h1, h2, h3⟩ := hh.listX i e
    exact ⟨a, vs, h1, .of h2, h3⟩
theorem Hh.tuple (hh : Hh K G ms h H) {v : V} {xs : List D} (i : Is K G ms (.tup xs) v) : ∃ a vs, v = .ref a ∧ SqT K H a vs ∧ IsL K G ms xs vs := by
  obtain ⟨a, vs, h1, h2, h3⟩ := i
  exact ⟨a, vs, h1, .of (hh.sub _ _ h2), h3⟩
theorem Hh.row (hh : Hh K G ms h H) {d : D} {v : V} {xs : List D} (i : Is K G ms d v) (e : rowOf h d = some xs) : ∃ a vs, v = .ref a ∧ (SqL K H a vs ∨ SqT K H a vs) ∧ IsL K G ms xs vs := by
  cases d with
  | tup ys =>
    cases e
    obtain ⟨a, vs, h1, h2, h3⟩ := hh.tuple i
    exact ⟨a, vs, h1, .inr h2, h3⟩
  | _ =>
    obtain ⟨a, vs, h1, h2, h3⟩ := hh.list i e
    exact ⟨a, vs, h1, .inl h2, h3⟩
theorem Hh.rowz (hh : Hh K G ms h H) {d : D} {v : V} {xs : List D} (i : Is K G ms d v) (e : rowOf h d = some xs) : xs.length ≤ sizeLine := by
  cases d with
  | tup ys =>
    cases e
    obtain ⟨a, vs, h1, h2, h3⟩ := i
    rw [h3.length]; exact hh.gsz _ _ h2
  | lst ys =>
    cases e
    obtain ⟨a, vs, h1, h2, h3⟩ := i
    rw [h3.length]; exact hh.gsz _ _ h2
  | scr ys =>
    cases e
    obtain ⟨a, vs, h1, h2, h3⟩ := i
    rw [h3.length]
    rcases h2 with (h2 | ⟨o, h2⟩) | ⟨o, its, n, _, _, _, _, hz, hv⟩
    · exact hh.gsz _ _ h2
    · exact hh.gsz _ _ h2
    · rw [hv.length, Array.length_toList]; exact hz
  | loc n => exact hh.atz (locAt_some e)
  | _ => cases e
/-- a new still list, tuple: the end of a step -/
theorem Post.newT {xs : List D} {vs : List V} {Q : VK} {p : Addr} (q : Post K mg E G ms (Is K) (.ok (.tup xs) h) Q) (hh : Hh K G ms h H) (i : IsL K G ms xs vs) (hz : xs.length ≤ sizeLine) (hp : H p = none) : Q (.ref p) (upd H p (.tup vs)) := by
  have eg : GLe G (gupd G p (.tup vs)) := gle_upd (hh.gnone hp)
  exact q.fin2 eg (pre_refl _) (hh.still hp (show vs.length ≤ sizeLine by rw [← i.length]; exact hz)) ⟨p, vs, rfl, upd_same, IsL.mono eg (pre_refl _) _ _ i⟩
/-- a list that comes to be: still (false) or changeable (true) -/
def newL (m : Bool) (xs : List D) (h : Hs) : R D := if m = true then .ok (.loc h.length) (h ++ [.lst xs]) else .ok (.lst xs) h
theorem Post.newL {m : Bool} {xs : List D} {vs : List V} {Q : VK} {p : Addr} (q : Post K mg E G ms (Is K) (newL m xs h) Q) (hh : Hh K G ms h H) (i : IsL K G ms xs vs) (hz : xs.length ≤ sizeLine) (hp : H p = none) : Q (.ref p) (upd H p (.lst vs)) := by
  cases m with
  | false =>
    have eg : GLe G (gupd G p (.lst vs)) := gle_upd (hh.gnone hp)
    exact Post.fin2 (a := D.lst xs) q eg (pre_refl _) (hh.still hp (show vs.length ≤ sizeLine by rw [← i.length]; exact hz)) ⟨p, vs, rfl, upd_same, IsL.mono eg (pre_refl _) _ _ i⟩
  | true =>
    refine Post.fin2 (a := D.loc h.length) q (GLe.refl _) ⟨[p], rfl⟩ (hh.alloc hp i hz) ⟨p, ?_, rfl⟩
    rw [← hh.len]
    simp

def eTup (f : FA) : FE := fun s h => (f s h).bind fun ds h1 => if ds.length ≤ sizeLine then .ok (.tup ds) h1 else .bad
def eLst (m : Bool) (f : FA) : FE := fun s h => (f s h).bind fun ds h1 => if ds.length ≤ sizeLine then newL m ds h1 else .bad
theorem ve_tup {es : List Expr} {f : FA} {x1 : Nat} (h : VA X W pin es f) : VE X W pin (.Tuple es x1 pos) (eTup f) := by
  refine pe_imp (pe_tup h) fun σ H Q ⟨G, ms, s, h, hh, sl, q⟩ => ⟨G, ms, s, h, hh, sl, Post.bind q fun ds h1 vs H1 G1 ms1 e1 p1 hh1 i1 q1 => ?_⟩
  by_cases hz : ds.length ≤ sizeLine
  · rw [if_pos hz] at q1
    exact ⟨by rw [← i1.length]; exact hz, fun p hp => q1.newT hh1 i1 hz hp⟩
  · rw [if_neg hz] at q1; exact q1.elim
theorem ve_lst (m : Bool) {es : List Expr} {f : FA} (h : VA X W pin es f) : VE X W pin (.List es pos) (eLst m f) := by
  refine pe_imp (pe_lst h) fun σ H Q ⟨G, ms, s, h, hh, sl, q⟩ => ⟨G, ms, s, h, hh, sl, Post.bind q fun ds h1 vs H1 G1 ms1 e1 p1 hh1 i1 q1 => ?_⟩
  by_cases hz : ds.length ≤ sizeLine
  · rw [if_pos hz] at q1
    exact ⟨by rw [← i1.length]; exact hz, fun p hp => q1.newL hh1 i1 hz hp⟩
  · rw [if_neg hz] at q1; exact q1.elim

theorem len_rep {α : Type} (xs : List α) (k : Nat) : (List.replicate k xs).flatten.length = k * xs.length := by
  induction k with
  | zero => simp
  | succ k ih => rw [List.replicate_succ, List.flatten_cons, List.length_append, ih, Nat.succ_mul, Nat.add_comm]
def addD : D → D → Hs → R D
  | .int i, .int j, h => .ok (.int (i + j)) h
  | .str x, .str y, h => if x.length + y.length ≤ sizeLine then .ok (.str (x ++ y)) h else .bad
  | .tup xs, .tup ys, h => if xs.length + ys.length ≤ sizeLine then .ok (.tup (xs ++ ys)) h else .bad
  | x, y, h => match lstX h x, lstX h y with
    | some xs, some ys => if xs.length + ys.length ≤ sizeLine then .ok (.lst (xs ++ ys)) h else .bad
    | _, _ => .bad
theorem cat_ok {x y : V} {da db : D} {xs ys : List D} {Q : VK} (hh : Hh K G ms h H) (ia : Is K G ms da x) (ib : Is K G ms db y) (ea : lstX h da = some xs) (eb : lstX h db = some ys)
    (q : Post K mg E G ms (Is K) (if xs.length + ys.length ≤ sizeLine then .ok (.lst (xs ++ ys)) h else .bad) Q) : rCat x y H Q := by
  obtain ⟨l, vs, rfl, h2, h3⟩ := hh.listX ia ea
  obtain ⟨l', ws, rfl, k2, k3⟩ := hh.listX ib eb
  by_cases hz : xs.length + ys.length ≤ sizeLine
  · rw [if_pos hz] at q
    exact ⟨l, l', vs, ws, rfl, rfl, h2, k2, by rw [← h3.length, ← k3.length]; exact hz, fun p hp => Post.newL (m := false) q hh (h3.append k3) (by rw [List.length_append]; exact hz) hp⟩
  · rw [if_neg hz] at q; exact q.elim
theorem od_add : OpD X (binaryOp .Add) addD := by
  intro pins s σ H x y v u Q I rx ry ⟨G, ms, h, da, db, hh, ia, ib, q⟩
  unfold addD at q
  split at q
  · cases ia; cases ib
    exact op_add pins s σ H _ _ v u Q I rx ry ⟨_, _, rfl, rfl, q.fin hh rfl⟩
  · cases ia; cases ib
    split at q
    · rename_i hz
      exact op_add_str pins s σ H _ _ v u Q I rx ry ⟨_, _, rfl, rfl, hz, q.fin hh rfl⟩
    · exact q.elim
  · rename_i xs ys
    split at q
    · rename_i hz
      obtain ⟨l, vs, rfl, h2, h3⟩ := hh.tuple ia
      obtain ⟨l', ws, rfl, k2, k3⟩ := hh.tuple ib
      refine op_catA pins s σ H _ _ v u Q I rx ry ⟨l, l', vs, ws, rfl, rfl, h2, k2, by rw [← h3.length, ← k3.length]; exact hz, fun e0 => ?_, fun _ e0 => ?_, fun _ _ p hp => q.newT hh (h3.append k3) (by rw [List.length_append]; exact hz) hp⟩
      · subst e0
        have : xs = [] := by
          have hl := h3.length
          exact List.length_eq_zero_iff.mp (by simpa using hl)
        subst this
        exact q.fin hh ib
      · subst e0
        have : ys = [] := by
          have hl := k3.length
          exact List.length_eq_zero_iff.mp (by simpa using hl)
        subst this
        rw [List.append_nil] at q
        exact q.fin hh ia
    · exact q.elim
  · split at q
    · rename_i xs ys e1 e2
      exact op_cat pins s σ H _ _ v u Q I rx ry (cat_ok hh ia ib e1 e2 q)
    · exact q.elim
def subD : D → D → Hs → R D
  | .int i, .int j, h => .ok (.int (i - j)) h
  | _, _, _ => .bad
theorem od_sub : OpD X (binaryOp .Sub) subD := by
  intro pins s σ H x y v u Q I rx ry ⟨G, ms, h, da, db, hh, ia, ib, q⟩
  unfold subD at q
  split at q
  · cases ia; cases ib
    exact op_sub pins s σ H _ _ v u Q I rx ry ⟨_, _, rfl, rfl, q.fin hh rfl⟩
  · exact q.elim
def smallI (i : Int) : Prop := -(2 ^ 64) < i ∧ i < 2 ^ 64
def repOk (k : Int) (n : Nat) : Prop := -(2 ^ 63) ≤ k ∧ k < 2 ^ 63 ∧ n * k.toNat ≤ sizeLine
def divOk0 (j : Int) : Prop := 0 < j ∧ j.natAbs.log2 < 9000
def powOk (i j : Int) : Prop := 0 ≤ j ∧ j ≤ 1000000 ∧ i.natAbs < 2 ^ 64
open Classical in
noncomputable def mulD : D → D → Hs → R D
  | .int i, .int j, h => if smallI i ∨ smallI j then .ok (.int (i * j)) h else .bad
  | .lst xs, .int k, h => if repOk k xs.length then .ok (.lst (List.replicate k.toNat xs).flatten) h else .bad
  | .tup xs, .int k, h => if repOk k xs.length then .ok (.tup (List.replicate k.toNat xs).flatten) h else .bad
  | _, _, _ => .bad
theorem od_mul : OpD X (binaryOp .Mult) mulD := by
  intro pins s σ H x y v u Q I rx ry ⟨G, ms, h, da, db, hh, ia, ib, q⟩
  unfold mulD at q
  split at q
  · cases ia; cases ib
    split at q
    · rename_i hz
      exact op_mul pins s σ H _ _ v u Q I rx ry ⟨_, _, rfl, rfl, hz, q.fin hh rfl⟩
    · exact q.elim
  · rename_i xs k
    cases ib
    split at q
    · rename_i hz
      obtain ⟨l, vs, rfl, h2, h3⟩ := hh.listX ia rfl
      exact op_rep pins s σ H _ _ v u Q I rx ry ⟨l, k, vs, rfl, rfl, h2, hz.1, hz.2.1, by rw [← h3.length]; exact hz.2.2, fun p hp => Post.newL (m := false) q hh (h3.rep _) (by rw [len_rep]; rw [Nat.mul_comm]; exact hz.2.2) hp⟩
    · exact q.elim
  · rename_i xs k
    cases ib
    split at q
    · rename_i hz
      obtain ⟨l, vs, rfl, h2, h3⟩ := hh.tuple ia
      refine op_repT2 pins s σ H _ _ v u Q I rx ry ⟨l, k, vs, rfl, rfl, h2, hz.1, hz.2.1, by rw [← h3.length]; exact hz.2.2, fun e0 => ?_, fun _ _ p hp => q.newT hh (h3.rep _) (by rw [len_rep]; rw [Nat.mul_comm]; exact hz.2.2) hp⟩
      rcases e0 with e0 | e0
      · subst e0
        have : xs = [] := List.length_eq_zero_iff.mp (by simpa using h3.length)
        subst this
        have e1 : (List.replicate k.toNat ([] : List D)).flatten = [] := by simp
        rw [e1] at q
        exact q.fin hh ia
      · subst e0
        have e1 : (List.replicate (1 : Int).toNat xs).flatten = xs := by simp
        rw [e1] at q
        exact q.fin hh ia
    · exact q.elim
  · exact q.elim
open Classical in
noncomputable def fdivD : D → D → Hs → R D
  | .int i, .int j, h => if divOk0 j then .ok (.int (i / j)) h else .bad
  | _, _, _ => .bad
theorem od_fdiv : OpD X (binaryOp .FloorDiv) fdivD := by
  intro pins s σ H x y v u Q I rx ry ⟨G, ms, h, da, db, hh, ia, ib, q⟩
  unfold fdivD at q
  split at q
  · cases ia; cases ib
    split at q
    · rename_i hz
      exact op_fdivW pins s σ H _ _ v u Q I rx ry ⟨_, _, rfl, rfl, hz, q.fin hh rfl⟩
    · exact q.elim
  · exact q.elim
def modD : D → D → Hs → R D
  | .int i, .int j, h => if 0 < j then .ok (.int (i % j)) h else .bad
  | _, _, _ => .bad
theorem od_mod : OpD X (binaryOp .Mod) modD := by
  intro pins s σ H x y v u Q I rx ry ⟨G, ms, h, da, db, hh, ia, ib, q⟩
  unfold modD at q
  split at q
  · cases ia; cases ib
    split at q
    · rename_i hz
      exact op_mod pins s σ H _ _ v u Q I rx ry ⟨_, _, rfl, rfl, hz, q.fin hh rfl⟩
    · exact q.elim
  · exact q.elim
open Classical in
noncomputable def powD : D → D → Hs → R D
  | .int i, .int j, h => if powOk i j then .ok (.int (i ^ j.toNat)) h else .bad
  | _, _, _ => .bad
theorem od_pow : OpD X (binaryOp .Pow) powD := by
  intro pins s σ H x y v u Q I rx ry ⟨G, ms, h, da, db, hh, ia, ib, q⟩
  unfold powD at q
  split at q
  · cases ia; cases ib
    split at q
    · rename_i hz
      exact op_pow pins s σ H _ _ v u Q I rx ry ⟨_, _, rfl, rfl, hz, q.fin hh rfl⟩
    · exact q.elim
  · exact q.elim
/-- -a -/
def negD (fa : FE) : FE := fun s h => (fa s h).bind fun d h1 => match d with
  | .int i => .ok (.int (-i)) h1
  | _ => .bad
theorem ve_neg {fa : FE} (ha : VE X W pin a fa) : VE X W pin (.UnaryOp .USub a pos) (negD fa) := by
  refine pe_imp (pe_un un_neg ha) fun σ H Q ⟨G, ms, s, h, hh, sl, q⟩ => ⟨G, ms, s, h, hh, sl, Post.bind q fun d h1 v H1 G1 ms1 e1 p1 hh1 i1 q1 => ?_⟩
  cases d with
  | int i => cases i1; exact ⟨i, rfl, q1.fin hh1 rfl⟩
  | _ => exact q1.elim

def cmpI (p : Int → Int → Bool) : D → D → Hs → R D
  | .int i, .int j, h => .ok (.bl (p i j)) h
  | _, _, _ => .bad
theorem od_cmpI {op : CmpOp} {p : Int → Int → Bool} (r : OpR X (compareOp op) (rI0 fun i j => .bl (p i j))) : OpD X (compareOp op) (cmpI p) := by
  intro pins s σ H x y v u Q I rx ry ⟨G, ms, h, da, db, hh, ia, ib, q⟩
  unfold cmpI at q
  split at q
  · cases ia; cases ib
    exact r pins s σ H _ _ v u Q I rx ry ⟨_, _, rfl, rfl, q.fin hh rfl⟩
  · exact q.elim
abbrev ltD := cmpI fun i j => decide (i < j)
abbrev leD := cmpI fun i j => decide (i ≤ j)
abbrev gtD := cmpI fun i j => decide (j < i)
abbrev geD := cmpI fun i j => decide (j ≤ i)
theorem od_lt : OpD X (compareOp .Lt) ltD := od_cmpI op_lt
theorem od_le : OpD X (compareOp .LtE) leD := od_cmpI op_le
theorem od_gt : OpD X (compareOp .Gt) gtD := od_cmpI op_gt
theorem od_ge : OpD X (compareOp .GtE) geD := od_cmpI op_ge
end
end WD
namespace WD
open PySem PySem.Spec PyProof.Rows L2
def toP (h : Hs) : Nat → D → Option PyData
  | 0, d => match d with
    | .non => some .none
    | .bl b => some (.bool b)
    | .int i => some (.int i)
    | .str x => if PyData.strOk x = true then some (.str x) else none
    | _ => none
  | n + 1, d => match d with
    | .non => some .none
    | .bl b => some (.bool b)
    | .int i => some (.int i)
    | .str x => if PyData.strOk x = true then some (.str x) else none
    | .tup xs => (xs.mapM (toP h n)).map PyData.tuple
    | d => match lstOf h d with
      | some xs => (xs.mapM (toP h n)).map PyData.list
      | none => none
theorem mapM_cons_some {α β : Type} {f : α → Option β} {x : α} {xs : List α} {r : List β} (e : (x :: xs).mapM f = some r) : ∃ y ys, f x = some y ∧ xs.mapM f = some ys ∧ r = y :: ys := by
  rw [List.mapM_cons] at e
  cases h1 : f x with
  | none => rw [h1] at e; cases e
  | some y =>
    rw [h1] at e
    cases h2 : xs.mapM f with
    | none => rw [h2] at e; cases e
    | some ys =>
      rw [h2] at e
      cases e
      exact ⟨y, ys, rfl, rfl, rfl⟩
theorem mapM_all {α : Type} {f : α → Option PyData} (n : Nat) (hf : ∀ x p, f x = some p → p.canLay0 = true ∧ p.depth ≤ n) : ∀ {xs : List α} {ps : List PyData}, xs.mapM f = some ps → PyData.canLayAll0 ps = true ∧ PyData.depthAll ps ≤ n
  | [], ps, e => by
    have : ps = [] := by cases e; rfl
    subst this
    exact ⟨by simp [PyData.canLayAll0], by simp [PyData.depthAll]⟩
  | x :: xs, ps, e => by
    obtain ⟨y, ys, h1, h2, rfl⟩ := mapM_cons_some e
    obtain ⟨q1, q2⟩ := mapM_all n hf h2
    obtain ⟨r1, r2⟩ := hf x y h1
    exact ⟨by simp [PyData.canLayAll0, r1, q1], by simp only [PyData.depthAll]; omega⟩
theorem toP_ok (h : Hs) : ∀ (n : Nat) (d : D) (p : PyData), toP h n d = some p → p.canLay0 = true ∧ p.depth ≤ n
  | 0, d, p, e => by
    cases d <;> simp only [toP] at e
    case str =>
      split at e
      · rename_i hs
        cases e; exact ⟨by simp [PyData.canLay0, hs], by simp [PyData.depth]⟩
      · cases e
    all_goals first | (cases e; done) | (cases e; exact ⟨by simp [PyData.canLay0], by simp [PyData.depth]⟩)
  | n + 1, d, p, e => by
    have lists : ∀ d, (match lstOf h d with | some xs => (xs.mapM (toP h n)).map PyData.list | none => none) = some p → p.canLay0 = true ∧ p.depth ≤ n + 1 := fun d e => by
      split at e
      · rename_i xs _
        cases q : xs.mapM (toP h n) with
        | none => rw [q] at e; cases e
        | some ps =>
          rw [q] at e; cases e
          obtain ⟨q1, q2⟩ := mapM_all n (toP_ok h n) q
          exact ⟨by simp [PyData.canLay0, q1], by simp only [PyData.depth]; omega⟩
      · cases e
    cases d with
    | non => cases e; exact ⟨by simp [PyData.canLay0], by simp [PyData.depth]⟩
    | bl b => cases e; exact ⟨by simp [PyData.canLay0], by simp [PyData.depth]⟩
    | int i => cases e; exact ⟨by simp [PyData.canLay0], by simp [PyData.depth]⟩
    | str x =>
      simp only [toP] at e
      split at e
      · rename_i hs
        cases e; exact ⟨by simp [PyData.canLay0, hs], by simp [PyData.depth]⟩
      · cases e
    | tup xs =>
      simp only [toP] at e
      cases q : xs.mapM (toP h n) with
      | none => rw [q] at e; cases e
      | some ps =>
        rw [q] at e; cases e
        obtain ⟨q1, q2⟩ := mapM_all n (toP_ok h n) q
        exact ⟨by simp [PyData.canLay0, q1], by simp only [PyData.depth]; omega⟩
    | lst xs => exact lists (.lst xs) e
    | scr xs => exact lists (.scr xs) e
    | loc m => exact lists (.loc m) e
    | dic ks xs => exact lists (.dic ks xs) e
section
variable {X : Cx} {W : WX} {pin : List Pn} {K : PySem.W.Frag} {mg : Str → Option Value} {E : XK} {G G' : GG} {H : Hp} {ms ms' : List Addr} {h : Hs} {pos : Pos} {a b c : Expr} {rest : List Expr}
theorem dpAll_of {n : Nat} (hf : ∀ d v p, Is K G ms d v → toP h n d = some p → Dp K H v p) : ∀ {xs : List D} {vs : List V} {ps : List PyData}, IsL K G ms xs vs → xs.mapM (toP h n) = some ps → DpAll K H vs ps
  | [], _, ps, i, e => by
    cases i
    have : ps = [] := by cases e; rfl
    subst this
    exact .nil
  | x :: xs, _, ps, i, e => by
    obtain ⟨v, r, rfl, i1, i2⟩ := i
    obtain ⟨y, ys, h1, h2, rfl⟩ := mapM_cons_some e
    exact .cons (hf x v y i1 h1) (dpAll_of hf i2 h2)
theorem dp_of (hh : Hh K G ms h H) : ∀ (n : Nat) (d : D) (v : V) (p : PyData), Is K G ms d v → toP h n d = some p → Dp K H v p
  | 0, d, v, p, i, e => by
    cases d <;> simp only [toP] at e
    case non => cases e; cases i; exact .non
    case bl => cases e; cases i; exact .bl _
    case int => cases e; cases i; exact .int _
    case str =>
      split at e
      · cases e; cases i; exact .str _
      · cases e
    all_goals cases e
  | n + 1, d, v, p, i, e => by
    have lists : ∀ d, Is K G ms d v → (match lstOf h d with | some xs => (xs.mapM (toP h n)).map PyData.list | none => none) = some p → Dp K H v p := fun d i e => by
      split at e
      · rename_i xs hx
        cases q : xs.mapM (toP h n) with
        | none => rw [q] at e; cases e
        | some ps =>
          rw [q] at e; cases e
          obtain ⟨a, vs, rfl, h2, h3⟩ := hh.list i hx
          exact .lst h2 (dpAll_of (dp_of hh n) h3 q)
      · cases e
    cases d with
    | non => cases e; cases i; exact .non
    | bl b => cases e; cases i; exact .bl _
    | int j => cases e; cases i; exact .int _
    | str x =>
      simp only [toP] at e
      split at e
      · cases e; cases i; exact .str _
      · cases e
    | tup xs =>
      simp only [toP] at e
      cases q : xs.mapM (toP h n) with
      | none => rw [q] at e; cases e
      | some ps =>
        rw [q] at e; cases e
        obtain ⟨a, vs, rfl, h2, h3⟩ := hh.tuple i
        exact .tup h2 (dpAll_of (dp_of hh n) h3 q)
    | lst xs => exact lists (.lst xs) i e
    | scr xs => exact lists (.scr xs) i e
    | loc m => exact lists (.loc m) i e
    | dic ks xs => exact lists (.dic ks xs) i e
def eqD (n : Bool) : D → D → Hs → R D := fun x y h => match toP h 64 x, toP h 64 y with
  | some p, some q => .ok (.bl (if n = true then !PyData.eqv p q else PyData.eqv p q)) h
  | _, _ => match lstX h x, lstX h y with
    | some xs, some ys => if xs.length ≠ ys.length then .ok (.bl n) h else .bad
    | _, _ => .bad
theorem shaped_of {n : Nat} {d : D} {p : PyData} (e : toP h n d = some p) (hn : n ≤ 64) : SeqAt.shaped p = true := by
  obtain ⟨q1, q2⟩ := toP_ok h n d p e
  unfold SeqAt.shaped
  rw [q1, Bool.true_and]
  exact decide_eq_true (by omega)
theorem od_eq (hu : X.A.units + 64 < cLine) : OpD X (compareOp .Eq) (eqD false) := by
  intro pins s σ H x y v u Q I rx ry ⟨G, ms, h, da, db, hh, ia, ib, q⟩
  unfold eqD at q
  split at q
  · rename_i p r e1 e2
    exact op_eqD hu pins s σ H _ _ v u Q I rx ry ⟨p, r, dp_of hh _ _ _ _ ia e1, dp_of hh _ _ _ _ ib e2, shaped_of e1 (Nat.le_refl _), shaped_of e2 (Nat.le_refl _), q.fin hh rfl⟩
  · split at q
    · rename_i xs ys e1 e2
      split at q
      · rename_i hn
        obtain ⟨a, vs, rfl, a2, a3⟩ := hh.listX ia e1
        obtain ⟨b, ws, rfl, b2, b3⟩ := hh.listX ib e2
        cases (show v = Value.ref a from rx)
        cases (show u = Value.ref b from ry)
        obtain ⟨_, its, n1, p1, l1, g1⟩ := I.lstM a2
        obtain ⟨_, jts, n2, p2, l2, g2⟩ := I.lstM b2
        refine SeqAt.eq_list_lengthsAt (PySem.IsL.isList g1) (PySem.IsL.isList g2) ?_ (by omega) ⟨.bl false, H, I, rfl, q.fin hh rfl⟩
        have z1 := a3.length
        have z2 := b3.length
        have z3 := hn
        simp
        omega
      · exact q.elim
    · exact q.elim
theorem od_ne (hu : X.A.units + 64 < cLine) : OpD X (compareOp .NotEq) (eqD true) := by
  intro pins s σ H x y v u Q I rx ry ⟨G, ms, h, da, db, hh, ia, ib, q⟩
  unfold eqD at q
  split at q
  · rename_i p r e1 e2
    exact op_neD hu pins s σ H _ _ v u Q I rx ry ⟨p, r, dp_of hh _ _ _ _ ia e1, dp_of hh _ _ _ _ ib e2, shaped_of e1 (Nat.le_refl _), shaped_of e2 (Nat.le_refl _), q.fin hh rfl⟩
  · split at q
    · rename_i xs ys e1 e2
      split at q
      · rename_i hn
        obtain ⟨a, vs, rfl, a2, a3⟩ := hh.listX ia e1
        obtain ⟨b, ws, rfl, b2, b3⟩ := hh.listX ib e2
        cases (show v = Value.ref a from rx)
        cases (show u = Value.ref b from ry)
        obtain ⟨_, its, n1, p1, l1, g1⟩ := I.lstM a2
        obtain ⟨_, jts, n2, p2, l2, g2⟩ := I.lstM b2
        refine SeqAt.RcNeAt.lists_lengths (PySem.IsL.isList g1) (PySem.IsL.isList g2) ?_ (by omega) _ _ _ _ ⟨.bl true, H, I, rfl, q.fin hh rfl⟩
        have z1 := a3.length
        have z2 := b3.length
        have z3 := hn
        simp
        omega
      · exact q.elim
    · exact q.elim

def flatD : D → Bool
  | .non => true
  | .bl _ => true
  | .int _ => true
  | .str _ => true
  | _ => false
def eqF : D → D → Bool
  | .non, .non => true
  | .bl a, .bl b => a == b
  | .bl a, .int b => (if a then 1 else 0) == b
  | .int a, .bl b => a == (if b then 1 else 0)
  | .int a, .int b => a == b
  | .str a, .str b => a == b
  | _, _ => false
def inD (n : Bool) : D → D → Hs → R D := fun x y h => match rowOf h y with
  | some xs => if flatD x = true ∧ xs.all flatD = true then .ok (.bl (if n = true then !(xs.any fun y => eqF y x) else xs.any fun y => eqF y x)) h else .bad
  | none => .bad
def rdC (K : PySem.W.Frag) (g : List D → Hs → R D) : List V → Hp → VK → Prop := fun xs H Q => ∃ G ms h ds, Hh K G ms h H ∧ IsL K G ms ds xs ∧ Post K (fun _ => none) (fun _ _ _ => False) G ms (Is K) (g ds h) Q
def CallD (X : Cx) (f : Value) (g : List D → Hs → R D) : Prop := CallR X f (rdC X.K g)
def calm1 (r : R D) : R D := match r with
  | .ok d h' => .ok d h'
  | _ => .bad
theorem calm1_post {r : R D} {Q : VK} (q : Post K mg E G ms (Is K) (calm1 r) Q) : Post K (fun _ => none) (fun _ _ _ => False) G ms (Is K) r Q := by
  cases r with
  | ok d h' => exact q
  | err x h' => exact q.elim
  | bad => exact q.elim
def eB (g : List D → Hs → R D) (f : FA) : FE := fun s h => (f s h).bind fun ds h1 => calm1 (g ds h1)
theorem ve_callB {id : String} {x : Str} {e : Expr} {es : List Expr} {g : List D → Hs → R D} {f : FA} {p : Pos} (hc : CallD X (.builtin id) g) (hg : Gl X x) (hm : X.mg x = none) (hv : bootBuiltins x = some (.builtin id)) (ha : VA X W pin (e :: es) f) (hn : x ≠ "__name__" := by decide) (hdb : (x == ("__debug__" : Str)) = false := by decide)
    (he : starEach (e :: es) X.env = (false, eval e X.env) :: starEach es X.env := by rfl) (hpl : (backTo pos (starEach es X.env)).any (·.1) = false := by rfl) : VE X W pin (.Call (.Name x p) (e :: es) [] pos) (eB g f) := by
  refine pe_imp (pe_callB hc hg hm hv ha hn hdb he hpl) fun σ H Q ⟨G, ms, s, h, hh, sl, q⟩ => ⟨G, ms, s, h, hh, sl, Post.bind q fun ds h1 vs H1 G1 ms1 e1 p1 hh1 i1 q1 => ?_⟩
  exact ⟨G1, ms1, h1, ds, hh1, i1, calm1_post q1⟩
theorem ve_callTy {id : String} {x : Str} {e : Expr} {es : List Expr} {g : List D → Hs → R D} {f : FA} {p : Pos} (hc : CallD X (.type id) g) (hg : Gl X x) (hm : X.mg x = none) (hv : bootBuiltins x = some (.type id)) (ha : VA X W pin (e :: es) f) (hn : x ≠ "__name__" := by decide) (hdb : (x == ("__debug__" : Str)) = false := by decide)
    (he : starEach (e :: es) X.env = (false, eval e X.env) :: starEach es X.env := by rfl) (hpl : (backTo pos (starEach es X.env)).any (·.1) = false := by rfl) : VE X W pin (.Call (.Name x p) (e :: es) [] pos) (eB g f) := by
  refine pe_imp (pe_callTy hc hg hm hv ha hn hdb he hpl) fun σ H Q ⟨G, ms, s, h, hh, sl, q⟩ => ⟨G, ms, s, h, hh, sl, Post.bind q fun ds h1 vs H1 G1 ms1 e1 p1 hh1 i1 q1 => ?_⟩
  exact ⟨G1, ms1, h1, ds, hh1, i1, calm1_post q1⟩
theorem isL1 {ds : List D} {d : D} {vs : List V} (i : IsL K G ms [d] vs) : ∃ v, vs = [v] ∧ Is K G ms d v := by
  obtain ⟨v, r, rfl, i1, i2⟩ := i
  cases i2
  exact ⟨v, rfl, i1⟩
theorem isL2 {d e : D} {vs : List V} (i : IsL K G ms [d, e] vs) : ∃ v w, vs = [v, w] ∧ Is K G ms d v ∧ Is K G ms e w := by
  obtain ⟨v, r, rfl, i1, w, r2, rfl, i2, i3⟩ := i
  cases i3
  exact ⟨v, w, rfl, i1, i2⟩
def lenD : List D → Hs → R D
  | [.str x], h => if x.length ≤ sizeLine then .ok (.int x.length) h else .bad
  | [d], h => match rowOf h d with
    | some xs => .ok (.int xs.length) h
    | none => .bad
  | _, _ => .bad
theorem cd_len : CallD X (.builtin "len") lenD := by
  intro pins s σ H xs us Q I r ⟨G, ms, h, ds, hh, i, q⟩
  unfold lenD at q
  split at q
  · obtain ⟨v, rfl, i1⟩ := isL1 (ds := []) i
    cases i1
    split at q
    · rename_i hz
      exact call_len_str pins s σ H _ us Q I r ⟨_, rfl, hz, q.fin hh rfl⟩
    · exact q.elim
  · obtain ⟨v, rfl, i1⟩ := isL1 (ds := []) i
    split at q
    · rename_i ys e
      obtain ⟨p, vs, rfl, h2, h3⟩ := hh.row i1 e
      refine call_len_seq pins s σ H _ us Q I r ⟨p, vs, rfl, h2, ?_⟩
      rw [← h3.length]
      exact q.fin hh rfl
    · exact q.elim
  · exact q.elim
/-- isinstance -/
def tyO : Option O → String
  | some (.lst _) => "list"
  | some (.ins _ _) => "object"
  | some (.dct _ _) => "dict"
  | some (.dci _ _) => "dict"
  | none => "NoneType"
def tyD (h : Hs) : D → String
  | .non => "NoneType"
  | .bl _ => "bool"
  | .int _ => "int"
  | .str _ => "str"
  | .tup _ => "tuple"
  | .lst _ => "list"
  | .scr _ => "list"
  | .loc n => tyO h[n]?
  | .dic _ _ => "dict"
def tysD : List String := ["NoneType", "bool", "int", "str", "tuple", "list", "dict", "object"]
def clsD : List String := ["int", "bool", "str", "list", "tuple", "dict"]
def isSub (t n : String) : Bool := t == n || (t == "bool" && n == "int")
theorem kit_tab : ∀ t ∈ tysD, ∀ n ∈ clsD, kitB t n = some (isSub t n) := by decide +kernel
theorem tyD_mem {d : D} : tyD h d ∈ tysD := by
  cases d with
  | loc n =>
    show tyO h[n]? ∈ tysD
    cases h[n]? with
    | none => simp [tyO, tysD]
    | some o => cases o with
      | lst xs => simp [tyO, tysD]
      | ins c fs => simp [tyO, tysD]
      | dct z kvs => simp [tyO, tysD]
      | dci z kvs => simp [tyO, tysD]
  | _ => simp [tyD, tysD]
/-- a value's type, the layer's dicts too -/
inductive TyY (K : PySem.W.Frag) (H : Hp) : V → Value → Prop where
  | x {v : V} {t : Value} (h : TyX K H v t) : TyY K H v t
  | dct {a : Addr} {fz : Bool} {xs : List (NestedKey × Addr × V)} (e : if fz = true then ∃ od, H a = some (.frz od (ndO a xs)) else H a = some (ndO a xs)) : TyY K H (.ref a) (.type "dict")
  | dci {a : Addr} {od : Obj} {kvs : List (Key × V)} (e : H a = some (.frz od (.dK kvs))) : TyY K H (.ref a) (.type "dict")
theorem ndO_at {X : Cx} {pins : List (Addr × Obj)} {σ : L2.St} {H : Hp} {s : Shared} {a : Addr} {fz : Bool} {xs : List (NestedKey × Addr × V)} (I : Inv X pins σ H s) (e : if fz = true then ∃ od, H a = some (.frz od (ndO a xs)) else H a = some (ndO a xs)) :
    ∃ o, s.heap.get? a = some o ∧ o.ExactDict := by
  cases fz with
  | true =>
    obtain ⟨od, e⟩ := e
    obtain ⟨_, ⟨_, _, _, o, _, _, h1, h2, _⟩, _⟩ := (show ObjOk X.prog X.w H s.heap a (.frz od (ndO a xs)) from I.hok a _ e)
    exact ⟨o, h1, h2⟩
  | false =>
    obtain ⟨⟨_, _, _, o, _, _, h1, h2, _⟩, _⟩ := (show ObjOk X.prog X.w H s.heap a (ndO a xs) from I.hok a _ e)
    exact ⟨o, h1, h2⟩
theorem kit_ofY {X : Cx} {pins : List (Addr × Obj)} {σ : L2.St} {H : Hp} {s : Shared} {x : V} {u t : Value} (I : Inv X pins σ H s) (rx : RelV x u) (ty : TyY X.K H x t) : ∃ P : Heap → Prop, PySem.W.KitX X.K u t P ∧ P s.heap ∧ u ≠ .builtin "__main__.__loader__#opaque" := by
  cases ty with
  | x h => exact kit_of I rx h
  | @dct a fz xs e =>
    cases (show u = Value.ref a from rx)
    obtain ⟨o, h1, h2⟩ := ndO_at I e
    exact ⟨_, PySem.W.kitx_dict, ⟨o, h1, h2.1⟩, fun z => nomatch z⟩
  | @dci a od kvs e =>
    cases (show u = Value.ref a from rx)
    obtain ⟨_, _, _, vs, _, o, _, _, h1, h2, _⟩ := (show ObjOk X.prog X.w H s.heap a (.frz od (.dK kvs)) from I.hok a _ e)
    exact ⟨_, PySem.W.kitx_dict, ⟨o, h1, h2.1⟩, fun z => nomatch z⟩
def rIsiY (K : PySem.W.Frag) : List V → Hp → VK → Prop := fun xs H Q => ∃ (x c : V) (t u : Value) (b : Bool), xs = [x, c] ∧ ClsV c u ∧ TyY K H x t ∧ PySem.W.kitOne K t u = some b ∧ Q (.bl b) H
def rIsiTY (K : PySem.W.Frag) : List V → Hp → VK → Prop := fun xs H Q => ∃ (x : V) (tp : Addr) (cs : List V) (t : Value) (us : List Value) (b : Bool), xs = [x, .ref tp] ∧ H tp = some (.tup cs) ∧ Paired ClsV cs us ∧ TyY K H x t ∧ PySem.W.kitAny K t us = some b ∧ Q (.bl b) H
theorem call_isiY : CallR X (.builtin "isinstance") (rIsiY X.K) := by
  intro pins s σ H xs us Q I r h
  obtain ⟨x, c, t, u, b, rfl, k, ty, e, q⟩ := h
  obtain ⟨u1, u2, rfl, r1, r2⟩ := vals2 r
  have e2 := k.eq r2
  subst e2
  obtain ⟨P, Z, p, hx⟩ := kit_ofY I r1 ty
  exact PySem.W.kia_one Z I.kIn p e hx fun tk => ⟨.bl b, H, I.tok tk, rfl, q⟩
theorem call_isiTY : CallR X (.builtin "isinstance") (rIsiTY X.K) := by
  intro pins s σ H xs us Q I r h
  obtain ⟨x, tp, cs, t, ws, b, rfl, hT, k, ty, e, q⟩ := h
  obtain ⟨u1, u2, rfl, r1, r2⟩ := vals2 r
  cases (show u2 = Value.ref tp from r2)
  obtain ⟨P, Z, p, hx⟩ := kit_ofY I r1 ty
  obtain ⟨_, its, rv, o, h1, h2, n, h3⟩ := (show ObjOk X.prog X.w H s.heap tp (.tup cs) from I.hok tp _ hT)
  have e3 := ClsV.all k rv
  subst e3
  obtain ⟨oc, od, dt, sl⟩ := o
  simp only at h2 h3
  subst h2 h3
  exact PySem.W.kia_tup Z I.kIn p h1 e hx fun tk => ⟨.bl b, H, I.tok tk, rfl, q⟩
theorem tyX_of (hh : Hh K G ms h H) {d : D} {v : V} (i : Is K G ms d v) : ∃ tv : Value, TyY K H v tv ∧ ∀ n ∈ clsD, PySem.W.kitOne K tv (.type n) = some (isSub (tyD h d) n) := by
  have base : TyX K H v (.type (tyD h d)) → ∃ tv : Value, TyY K H v tv ∧ ∀ n ∈ clsD, PySem.W.kitOne K tv (.type n) = some (isSub (tyD h d) n) := fun q => ⟨_, .x q, fun n hn => kit_ty (kit_tab _ tyD_mem n hn)⟩
  cases d with
  | non => cases i; exact base (.base .non)
  | bl b => cases i; exact base (.base (.bl _))
  | int j => cases i; exact base (.base (.int _))
  | str x => cases i; exact base (.base (.str _))
  | tup xs =>
    obtain ⟨a, vs, rfl, h2, _⟩ := hh.tuple i
    refine base ?_
    rcases h2 with (h2 | ⟨o, h2⟩) | ⟨o, its, n, hk, hc, _⟩
    · exact .base (.tup h2)
    · exact .fTuple h2
    · exact .kTuple hk hc
  | lst xs =>
    obtain ⟨a, vs, rfl, h2, _⟩ := hh.listX i rfl
    exact base (.base (.lst h2))
  | scr xs =>
    obtain ⟨a, vs, rfl, h2, _⟩ := hh.list i rfl
    refine base ?_
    rcases h2 with (h2 | ⟨o, h2⟩) | ⟨o, its, n, hk, hc, _⟩
    · exact .base (.lst h2)
    · exact .base (.frz h2)
    · exact .kList hk hc
  | loc m =>
    obtain ⟨a, h1, rfl⟩ := i
    have hl : m < h.length := by rw [← hh.len]; exact (List.getElem?_eq_some_iff.mp h1).1
    have q := hh.obj m a h[m] h1 (List.getElem?_eq_getElem hl)
    have et : tyD h (.loc m) = tyO (some h[m]) := by show tyO h[m]? = _; rw [List.getElem?_eq_getElem hl]
    cases ho : h[m] with
    | lst xs =>
      rw [ho] at q et
      obtain ⟨vs, h2, _⟩ := q
      exact base (by rw [et]; exact .base (.lst h2))
    | ins c fs =>
      rw [ho] at q et
      obtain ⟨C, dx, vs, _, cl, h2, _⟩ := q
      refine ⟨.ref C, .x (.base (.ins h2 cl.cls cl.ha cl.hn cl.htk cl.hm)), fun n hn => ?_⟩
      rw [et, cl.kit n hn]
      have : ∀ n ∈ clsD, isSub "object" n = false := by decide
      exact congrArg some (this n hn).symm
    | dct fz kvs =>
      rw [ho] at q et
      obtain ⟨xs, h2, _⟩ := q
      refine ⟨_, .dct h2, fun n hn => ?_⟩
      rw [et]
      exact kit_ty (kit_tab "dict" (by simp [tysD]) n hn)
    | dci fz kvs =>
      rw [ho] at q et
      cases fz with
      | false => exact base (by rw [et]; exact .base (.dK q))
      | true =>
        obtain ⟨od, h2⟩ := q
        refine ⟨_, .dci h2, fun n hn => ?_⟩
        rw [et]
        exact kit_ty (kit_tab "dict" (by simp [tysD]) n hn)
  | dic ks xs =>
    obtain ⟨a, vs, rfl, h2, _⟩ := i
    exact base (.base (.dK (hh.sub _ _ h2)))
def eIsi (ns : List String) (f : FE) : FE := fun s h => (f s h).bind fun d h1 => .ok (.bl (ns.any fun n => isSub (tyD h1 d) n)) h1
theorem kitAny_of {tv : Value} {t : String} (ht : ∀ n ∈ clsD, PySem.W.kitOne K tv (.type n) = some (isSub t n)) : ∀ {ns : List String}, (∀ n ∈ ns, n ∈ clsD) → PySem.W.kitAny K tv (ns.map Value.type) = some (ns.any fun n => isSub t n)
  | [], _ => rfl
  | n :: ns, h => by
    have e := ht n (h n List.mem_cons_self)
    refine kitAny_cons e (fun hb => ?_) fun hb => ?_
    · rw [List.any_cons, hb, Bool.false_or]
      exact kitAny_of ht fun m hm => h m (List.mem_cons_of_mem _ hm)
    · rw [List.any_cons, hb, Bool.true_or]
theorem ve_isi {n : String} {x : Str} {e : Expr} {f : FE} {p p2 : Pos} (he : VE X W pin e f) (hg : Gl X "isinstance") (hm : X.mg "isinstance" = none) (hg2 : Gl X x) (hm2 : X.mg x = none) (hv2 : bootBuiltins x = some (.type n)) (hn : n ∈ clsD) (hnn : x ≠ "__name__" := by decide) (hd : (x == ("__debug__" : Str)) = false := by decide)
    (hs : starEach [e, .Name x p2] X.env = (false, eval e X.env) :: starEach [.Name x p2] X.env := by rfl) (hs2 : starEach [.Name x p2] X.env = (false, eval (.Name x p2) X.env) :: starEach [] X.env := by rfl)
    (hpl : (backTo pos (starEach [.Name x p2] X.env)).any (·.1) = false := by rfl) : VE X W pin (.Call (.Name "isinstance" p) [e, .Name x p2] [] pos) (eIsi [n] f) := by
  refine pe_imp (pe_callB call_isiY hg hm (by decide +kernel) (pa_cons he (pa_cons (pe_bltn (v := .ty n) hg2 hm2 hv2 rfl hnn hd) pa_nil hs2) hs) (by decide) (by decide) hs hpl) fun σ H Q ⟨G, ms, s, h, hh, sl, q⟩ => ⟨G, ms, s, h, hh, sl, Post.bind q fun d h1 v H1 G1 ms1 e1 p1 hh1 i1 q1 => ?_⟩
  obtain ⟨tv, ty, kt⟩ := tyX_of hh1 i1
  refine ⟨v, _, _, _, _, rfl, .ty n, ty, kt n hn, ?_⟩
  have := q1.fin (b := V.bl ([n].any fun n => isSub (tyD h1 d) n)) hh1 rfl
  simpa using this
theorem ve_isiT {n n' : String} {x x' : Str} {e : Expr} {f : FE} {p p2 p3 p4 : Pos} {kk : Nat} (he : VE X W pin e f) (hg : Gl X "isinstance") (hm : X.mg "isinstance" = none) (hg2 : Gl X x) (hm2 : X.mg x = none) (hv2 : bootBuiltins x = some (.type n)) (hg3 : Gl X x') (hm3 : X.mg x' = none) (hv3 : bootBuiltins x' = some (.type n')) (hn : n ∈ clsD) (hn' : n' ∈ clsD)
    (hnn : x ≠ "__name__" := by decide) (hd : (x == ("__debug__" : Str)) = false := by decide) (hnn' : x' ≠ "__name__" := by decide) (hd' : (x' == ("__debug__" : Str)) = false := by decide)
    (hs : starEach [e, .Tuple [.Name x p2, .Name x' p3] kk p4] X.env = (false, eval e X.env) :: starEach [.Tuple [.Name x p2, .Name x' p3] kk p4] X.env := by rfl) (hs2 : starEach [.Tuple [.Name x p2, .Name x' p3] kk p4] X.env = (false, eval (.Tuple [.Name x p2, .Name x' p3] kk p4) X.env) :: starEach [] X.env := by rfl)
    (hs3 : starEach [.Name x p2, .Name x' p3] X.env = (false, eval (.Name x p2) X.env) :: starEach [.Name x' p3] X.env := by rfl) (hs4 : starEach [.Name x' p3] X.env = (false, eval (.Name x' p3) X.env) :: starEach [] X.env := by rfl)
    (hpl : (backTo pos (starEach [.Tuple [.Name x p2, .Name x' p3] kk p4] X.env)).any (·.1) = false := by rfl) : VE X W pin (.Call (.Name "isinstance" p) [e, .Tuple [.Name x p2, .Name x' p3] kk p4] [] pos) (eIsi [n, n'] f) := by
  refine pe_imp (pe_callB call_isiTY hg hm (by decide +kernel) (pa_cons he (pa_cons (pe_tup (pa_cons (pe_bltn (v := .ty n) hg2 hm2 hv2 rfl hnn hd) (pa_cons (pe_bltn (v := .ty n') hg3 hm3 hv3 rfl hnn' hd') pa_nil hs4) hs3)) pa_nil hs2) hs) (by decide) (by decide) hs hpl) fun σ H Q ⟨G, ms, s, h, hh, sl, q⟩ => ⟨G, ms, s, h, hh, sl, Post.bind q fun d h1 v H1 G1 ms1 e1 p1 hh1 i1 q1 => ?_⟩
  refine ⟨(by decide : 2 ≤ sizeLine), fun pp hp => ?_⟩
  have hn2 : ∀ m ∈ [n, n'], m ∈ clsD := by
    intro m hm
    rcases List.mem_cons.mp hm with rfl | hm
    · exact hn
    · rcases List.mem_cons.mp hm with rfl | hm
      · exact hn'
      · exact nomatch hm
  have hh2 := hh1.still (o := .tup [.ty n, .ty n']) hp (by decide : 2 ≤ sizeLine)
  have eg : GLe G1 (gupd G1 pp (.tup [.ty n, .ty n'])) := gle_upd (hh1.gnone hp)
  obtain ⟨tv, ty, kt⟩ := tyX_of hh2 (Is.mono eg (pre_refl _) _ _ i1)
  refine ⟨v, pp, [.ty n, .ty n'], _, [.type n, .type n'], _, rfl, upd_same, .cons (.ty n) (.cons (.ty n') .nil), ty, kitAny_of kt hn2, ?_⟩
  exact q1.fin2 (b := V.bl ([n, n'].any fun n => isSub (tyD h1 d) n)) eg (pre_refl _) hh2 rfl
end
end WD
namespace WD
open PySem PySem.Spec PyProof.Rows L2
def intsOf : List D → Option (List Int)
  | [] => some []
  | .int i :: r => match intsOf r with
    | some ns => some (i :: ns)
    | none => none
  | _ => none
theorem intsOf_eq : ∀ {ds : List D} {ns : List Int}, intsOf ds = some ns → ds = ns.map D.int
  | [], ns, e => by cases e; rfl
  | d :: ds, ns, e => by
    cases d with
    | int i =>
      unfold intsOf at e
      split at e
      · rename_i ns' e'
        cases e
        rw [intsOf_eq e']; rfl
      · cases e
    | _ => simp [intsOf] at e
@[simp] theorem intsOf_map : ∀ (ns : List Int), intsOf (ns.map D.int) = some ns
  | [] => rfl
  | n :: ns => by simp [intsOf, intsOf_map ns]
def bolsOf : List D → Option (List Bool)
  | [] => some []
  | .bl i :: r => match bolsOf r with
    | some ns => some (i :: ns)
    | none => none
  | _ => none
@[simp] theorem bolsOf_map : ∀ (ns : List Bool), bolsOf (ns.map D.bl) = some ns
  | [] => rfl
  | n :: ns => by simp [bolsOf, bolsOf_map ns]
section
variable {X : Cx} {W : WX} {pin : List Pn} {K : PySem.W.Frag} {mg : Str → Option Value} {E : XK} {G G' : GG} {H : Hp} {ms ms' : List Addr} {h : Hs} {pos : Pos} {a b c : Expr} {rest : List Expr}
def sumD : List D → Hs → R D
  | [d], h => match rowOf h d with
    | some xs => match intsOf xs with
      | some ns => .ok (.int ns.sum) h
      | none => .bad
    | none => .bad
  | _, _ => .bad
def maxL : List Int → Int
  | [] => 0
  | n :: ns => ns.foldl (fun a b => if b > a then b else a) n
def minL : List Int → Int
  | [] => 0
  | n :: ns => ns.foldl (fun a b => if b < a then b else a) n
theorem foldl_max : ∀ (ns : List Int) (n : Int), n ≤ ns.foldl (fun a b => if b > a then b else a) n ∧ (∀ m ∈ ns, m ≤ ns.foldl (fun a b => if b > a then b else a) n) ∧ (ns.foldl (fun a b => if b > a then b else a) n = n ∨ ns.foldl (fun a b => if b > a then b else a) n ∈ ns)
  | [], n => ⟨Int.le_refl _, fun _ h => (nomatch h), .inl rfl⟩
  | m :: ns, n => by
    obtain ⟨h1, h2, h3⟩ := foldl_max ns (if m > n then m else n)
    rw [List.foldl_cons]
    refine ⟨?_, fun k hk => ?_, ?_⟩
    · refine Int.le_trans ?_ h1; split <;> omega
    · rcases List.mem_cons.mp hk with rfl | hk
      · refine Int.le_trans ?_ h1; split <;> omega
      · exact h2 k hk
    · rcases h3 with h3 | h3
      · rw [h3]
        split
        · exact .inr List.mem_cons_self
        · exact .inl rfl
      · exact .inr (List.mem_cons_of_mem _ h3)
theorem maxL_is {ns : List Int} {m : Int} (hm : m ∈ ns) (hl : ∀ y ∈ ns, y ≤ m) : m = maxL ns := by
  cases ns with
  | nil => cases hm
  | cons n ns =>
    obtain ⟨h1, h2, h3⟩ := foldl_max ns n
    have hu : maxL (n :: ns) ≤ m := by
      rcases h3 with h3 | h3
      · show ns.foldl _ n ≤ m; rw [h3]; exact hl n List.mem_cons_self
      · exact hl _ (List.mem_cons_of_mem _ h3)
    have hd : m ≤ maxL (n :: ns) := by
      rcases List.mem_cons.mp hm with rfl | hm
      · exact h1
      · exact h2 m hm
    omega
def maxD : List D → Hs → R D
  | [.int i, .int j], h => .ok (.int (if j > i then j else i)) h
  | [d], h => match rowOf h d with
    | some xs => match intsOf xs with
      | some ns => if 0 < ns.length then .ok (.int (maxL ns)) h else .bad
      | none => .bad
    | none => .bad
  | _, _ => .bad
def minD : List D → Hs → R D
  | [.int i, .int j], h => .ok (.int (if j < i then j else i)) h
  | [d], h => match rowOf h d with
    | some xs => match intsOf xs with
      | some ns => if 0 < ns.length then .ok (.int (minL ns)) h else .bad
      | none => .bad
    | none => .bad
  | _, _ => .bad
def rMaxT (K : PySem.W.Frag) (lt : Int → Int → Prop) : List V → Hp → VK → Prop := fun vs H Q => ∃ (a : Addr) (ns : List Int), vs = [V.ref a] ∧ SqT K H a (ns.map V.int) ∧ 0 < ns.length ∧ ∀ m, m ∈ ns → (∀ y, y ∈ ns → lt y m) → Q (.int m) H
theorem iter_tupI {prog : Program} {w : World} {A : Around} {E : Value → Shared → Prop} {s : Shared} {t : Addr} {its : Array Value} {Q : Value → Shared → Prop} (ht : s.heap.IsTuple t its)
    (h : ∀ s2 : Shared, s2 = { s with heap := s.heap.push { cls := .type "tuple_iterator", data := .fields #[.ref t, .int 0 0] } } → (s2.heap.IsTupleIter s.heap.objs.size t 0 ∧ s2.heap.IsTuple t its) → (∀ b ∈ [s.heap.objs.size, t], b < s2.heap.objs.size) → t ≠ s.heap.objs.size → Q (.ref s.heap.objs.size) s2) :
    wpAny (model prog w) A (pyIter (.ref t)) Q E s := by
  have hlt : t < s.heap.objs.size := by obtain ⟨_, e, _⟩ := ht; exact Heap.lt_size e
  refine wpAny_pyIter_tuple ht (h _ rfl ⟨⟨_, Heap.get?_push_size _ rfl, rfl, rfl⟩, ht.at fun o e => Heap.get?_push_of_some _ e⟩ (fun b hb => ?_) (Nat.ne_of_lt hlt))
  show b < (s.heap.push _).objs.size
  rw [Heap.size_push]
  rcases (show b = s.heap.objs.size ∨ b = t by simpa using hb) with rfl | rfl
  · exact Nat.lt_succ_self _
  · exact Nat.lt_succ_of_lt hlt
theorem cr_maxT (hc : X.calm = true) : CallR X (.builtin "max") (rMaxT X.K fun y m => y ≤ m) := by
  intro pins s σ H vs us Q I r h
  obtain ⟨a, ns, rfl, hs, hne, q⟩ := h
  obtain ⟨its, rv, hl, _⟩ := I.tuple hs
  rw [Vals.ref1 r]
  obtain ⟨xs, e⟩ := rv.ints.allInts.items
  have hn : numsOf (intItems xs).toList = ns := by rw [← e]; exact rv.ints.numsOf
  rw [nums_intItems] at hn
  subst hn
  rw [e] at hl
  have hsz : 0 < xs.size := by simpa using hne
  refine call_max_walk (iter_tupI hl fun s2 e2 st hfp hne2 => ?_)
  subst e2
  refine ⟨_, _, _, _, _, _, _, rfl, Walks.tuple (A := X.A.in1) (I.ok.hd hc) _ a hne2 (intItems xs), st, hfp, by simpa [intItems] using hsz, CmpOf.ints_gt (numAt xs) (fun _ _ => intItems_at), fun v h' tk hP hk => ?_⟩
  obtain ⟨t, rfl⟩ := intItems_at hP
  obtain ⟨h1, h2⟩ := argBest_gt (numAt xs) (xs.size - 1)
  have hz : (intItems xs).size = xs.size := by simp [intItems]
  rw [hz] at hP ⊢
  refine ⟨.int _, H, I.kept (t' := tk) fun b o e => hk b o (fun z => absurd (Heap.lt_size e) (by rw [List.mem_singleton.mp z]; exact Nat.lt_irrefl _)) (Heap.get?_push_of_some _ e), ⟨_, rfl⟩, q _ ?_ fun y hy => ?_⟩
  · rw [numAt_eq]; exact PySem.getD_mem (by rw [List.length_map, Array.length_toList]; omega)
  · obtain ⟨j, hj, rfl⟩ := mem_getD hy
    rw [List.length_map, Array.length_toList] at hj
    rw [← numAt_eq]; exact h2 j (by omega)
theorem cd_max (hc : X.calm = true) : CallD X (.builtin "max") maxD := by
  intro pins s σ H xs us Q I r ⟨G, ms, h, ds, hh, i, q⟩
  unfold maxD at q
  split at q
  · obtain ⟨v, w, rfl, i1, i2⟩ := isL2 i
    cases i1; cases i2
    exact call_max2 hc pins s σ H _ us Q I r ⟨_, _, rfl, q.fin hh rfl⟩
  · obtain ⟨v, rfl, i1⟩ := isL1 (ds := []) i
    split at q
    · rename_i ys e
      split at q
      · rename_i ns e2
        split at q
        · rename_i hl
          obtain ⟨p, vs, rfl, h2, h3⟩ := hh.row i1 e
          rw [intsOf_eq e2] at h3
          rw [h3.ints] at h2
          rcases h2 with h2 | h2
          · exact cr_max hc pins s σ H _ us Q I r ⟨p, ns, rfl, h2, hl, fun m h1 h2 => by rw [maxL_is h1 h2]; exact q.fin hh rfl⟩
          · exact cr_maxT hc pins s σ H _ us Q I r ⟨p, ns, rfl, h2, hl, fun m h1 h2 => by rw [maxL_is h1 h2]; exact q.fin hh rfl⟩
        · exact q.elim
      · exact q.elim
    · exact q.elim
  · exact q.elim
def intD : List D → Hs → R D
  | [.int i], h => .ok (.int i) h
  | [.bl k], h => .ok (.int (if k = true then 1 else 0)) h
  | _, _ => .bad
theorem cd_int : CallD X (.type "int") intD := by
  intro pins s σ H xs us Q I r ⟨G, ms, h, ds, hh, i, q⟩
  unfold intD at q
  split at q
  · obtain ⟨v, rfl, i1⟩ := isL1 (ds := []) i
    cases i1
    exact call_int1 pins s σ H _ us Q I r (.inl ⟨_, rfl, q.fin hh rfl⟩)
  · obtain ⟨v, rfl, i1⟩ := isL1 (ds := []) i
    cases i1
    exact call_int1 pins s σ H _ us Q I r (.inr ⟨_, rfl, q.fin hh rfl⟩)
  · exact q.elim
def listD (m : Bool) : List D → Hs → R D
  | [d], h => match rowOf h d with
    | some xs => newL m xs h
    | none => .bad
  | _, _ => .bad
theorem cd_list (m : Bool) : CallD X (.type "list") (listD m) := by
  intro pins s σ H xs us Q I r ⟨G, ms, h, ds, hh, i, q⟩
  unfold listD at q
  split at q
  · obtain ⟨v, rfl, i1⟩ := isL1 (ds := []) i
    split at q
    · rename_i ys e
      obtain ⟨p, vs, rfl, h2, h3⟩ := hh.row i1 e
      exact call_list_of pins s σ H _ us Q I r ⟨p, vs, rfl, h2, fun l hl => q.newL hh h3 (hh.rowz i1 e) hl⟩
    · exact q.elim
  · exact q.elim
def tupleD : List D → Hs → R D
  | [d], h => match rowOf h d with
    | some xs => .ok (.tup xs) h
    | none => .bad
  | _, _ => .bad
theorem cd_tuple : CallD X (.type "tuple") tupleD := by
  intro pins s σ H xs us Q I r ⟨G, ms, h, ds, hh, i, q⟩
  unfold tupleD at q
  split at q
  · rename_i d
    obtain ⟨v, rfl, i1⟩ := isL1 (ds := []) i
    split at q
    · rename_i ys e
      have lists : ∀ p vs, v = V.ref p → SqL X.K H p vs → IsL X.K G ms ys vs → wpAny (model X.prog X.w) X.A (call (.type "tuple") us) (EP X pins σ Q) X.xe s := fun p vs e1 h2 h3 => by
        subst e1
        exact call_tuple_of pins s σ H _ us Q I r ⟨p, vs, rfl, .inl ⟨h2, fun l hl => q.newT hh h3 (hh.rowz i1 e) hl⟩⟩
      cases d with
      | tup zs =>
        cases e
        obtain ⟨p, vs, rfl, h2, h3⟩ := hh.tuple i1
        exact call_tuple_of pins s σ H _ us Q I r ⟨p, vs, rfl, .inr ⟨h2, q.fin hh i1⟩⟩
      | _ =>
        obtain ⟨p, vs, e1, h2, h3⟩ := hh.list i1 e
        exact lists p vs e1 h2 h3
    · exact q.elim
  · exact q.elim
end
end WD
namespace WD
open PySem PySem.Spec PyProof.Rows L2
section
variable {X : Cx} {W : WX} {pin : List Pn} {K : PySem.W.Frag} {mg : Str → Option Value} {E : XK} {G G' : GG} {H : Hp} {ms ms' : List Addr} {h : Hs} {pos : Pos} {a b c : Expr} {rest : List Expr}
def rdM (K : PySem.W.Frag) (g : D → List D → Hs → R D) : V → List V → Hp → VK → Prop := fun x xs H Q => ∃ G ms h d ds, Hh K G ms h H ∧ Is K G ms d x ∧ IsL K G ms ds xs ∧ Post K (fun _ => none) (fun _ _ _ => False) G ms (Is K) (g d ds h) Q
def MtD (X : Cx) (id : String) (g : D → List D → Hs → R D) : Prop := MtR X id (rdM X.K g)
/-- o.m(..), o a list -/
def eML (g : D → List D → Hs → R D) (fo : FE) (fa : FA) : FE := fun s h => (fo s h).bind fun d h1 => match lstOf h1 d with
  | some _ => (fa s h1).bind fun ds h2 => calm1 (g d ds h2)
  | none => .bad
theorem ve_ml {o e : Expr} {es : List Expr} {name : Str} {apos cpos : Pos} {id : String} {g : D → List D → Hs → R D} {fo : FE} {fa : FA} (slot : Slot "list" name id) (hty : typeOf (.builtin id) = pure (.type "method_descriptor")) (hm : MtD X id g) (ho : VE X W pin o fo) (ha : VA X W pin (e :: es) fa)
    (hbase : attributeBase o name X.env (eval o X.env) = eval o X.env := by rfl)
    (hfew : ((backTo cpos (starEach (e :: es) X.env)).all (fun x => !x.1) && (backToKw cpos (keywordEach [] X.env)).all (fun x => x.1.isSome)
      && decide ((e :: es).length + ([] : List Keyword).length + (if ([] : List Keyword).isEmpty then 0 else 1) < 30)) = true := by rfl)
    (hline : (apos.endLine == cpos.line) = true := by rfl) (hs : starEach (e :: es) X.env = (false, eval e X.env) :: starEach es X.env := by rfl) (hplain : (backTo cpos (starEach es X.env)).any (·.1) = false := by rfl) :
    VE X W pin (.Call (.Attribute o name apos) (e :: es) [] cpos) (eML g fo fa) := by
  refine pe_imp (pe_bm PySem.F.plainAttrs_list slot hty hm ho ha hbase hfew hline hs hplain) fun σ H Q ⟨G, ms, s, h, hh, sl, q⟩ => ⟨G, ms, s, h, hh, sl, Post.bind q fun d h1 v H1 G1 ms1 e1 p1 hh1 i1 q1 => ?_⟩
  split at q1
  · rename_i xs hx
    obtain ⟨p, vs, rfl, h2, h3⟩ := hh1.list i1 hx
    refine ⟨.inl ⟨rfl, vs, h2⟩, G1, ms1, s, h1, hh1, sl.mono e1 p1, Post.bind q1 fun ds h2 ws H2 G2 ms2 e2 p2 hh2 i2 q2 => ?_⟩
    exact ⟨G2, ms2, h2, d, ds, hh2, Is.mono e2 p2 _ _ i1, i2, calm1_post q2⟩
  · exact q1.elim
theorem ve_ml0 {o : Expr} {name : Str} {apos cpos : Pos} {id : String} {g : D → List D → Hs → R D} {fo : FE} (slot : Slot "list" name id) (hty : typeOf (.builtin id) = pure (.type "method_descriptor")) (hm : MtD X id g) (ho : VE X W pin o fo)
    (hbase : attributeBase o name X.env (eval o X.env) = eval o X.env := by rfl) (hline : (apos.endLine == cpos.line) = true := by rfl) :
    VE X W pin (.Call (.Attribute o name apos) [] [] cpos) (eML g fo aNil) := by
  refine pe_imp (pe_bm0 PySem.F.plainAttrs_list slot hty hm ho hbase hline) fun σ H Q ⟨G, ms, s, h, hh, sl, q⟩ => ⟨G, ms, s, h, hh, sl, Post.bind q fun d h1 v H1 G1 ms1 e1 p1 hh1 i1 q1 => ?_⟩
  split at q1
  · rename_i xs hx
    obtain ⟨p, vs, rfl, h2, h3⟩ := hh1.list i1 hx
    exact ⟨.inl ⟨rfl, vs, h2⟩, G1, ms1, h1, d, [], hh1, i1, rfl, calm1_post q1⟩
  · exact q1.elim
/-- a list that may be changed is read, and changed -/
theorem Hh.locW (hh : Hh K G ms h H) {n : Nat} {v : V} {xs : List D} (i : Is K G ms (.loc n) v) (e : locAt h n = some xs) : ∃ a vs, v = .ref a ∧ ms[n]? = some a ∧ H a = some (.lst vs) ∧ IsL K G ms xs vs := by
  obtain ⟨a, h1, h2⟩ := i
  obtain ⟨a', vs, q1, q2, q3⟩ := hh.at (locAt_some e)
  rw [h1] at q1; cases q1
  exact ⟨a, vs, h2, h1, q2, q3⟩
theorem Post.wrote {n : Nat} {d : D} {v : V} {p : Addr} {xs : List D} {vs vs0 : List V} {Q : VK} (q : Post K mg E G ms (Is K) (.ok d (h.set n (.lst xs))) Q) (hh : Hh K G ms h H) (e : ms[n]? = some p) (hw : H p = some (.lst vs0)) (hx : IsL K G ms xs vs) (hz : xs.length ≤ sizeLine) (i : Is K G ms d v) : Q v (upd H p (.lst vs)) :=
  q.fin (hh.write e hw hx hz) i
def appendD : D → List D → Hs → R D
  | .loc n, [d], h => match locAt h n with
    | some xs => if xs.length < sizeLine then .ok .non (h.set n (.lst (xs ++ [d]))) else .bad
    | none => .bad
  | _, _, _ => .bad
theorem md_append : MtD X "list.append" appendD := by
  intro pins s σ H x xs v us Q I rx rs ⟨G, ms, h, d, ds, hh, i, il, q⟩
  unfold appendD at q
  split at q
  · obtain ⟨w, rfl, i1⟩ := isL1 (ds := []) il
    split at q
    · rename_i ys e
      split at q
      · rename_i hz
        obtain ⟨p, vs, rfl, h1, h2, h3⟩ := hh.locW i e
        exact mt_append pins s σ H _ _ v us Q I rx rs ⟨p, vs, w, rfl, rfl, h2, by rw [← h3.length]; exact hz, q.wrote hh h1 h2 (h3.append (.one i1)) (by rw [List.length_append]; exact hz) rfl⟩
      · exact q.elim
    · exact q.elim
  · exact q.elim
def popD : D → List D → Hs → R D
  | .loc n, [], h => match locAt h n with
    | some xs => match xs.getLast? with
      | some d => .ok d (h.set n (.lst xs.dropLast))
      | none => .bad
    | none => .bad
  | _, _, _ => .bad
theorem md_pop : MtD X "list.pop" popD := by
  intro pins s σ H x xs v us Q I rx rs ⟨G, ms, h, d, ds, hh, i, il, q⟩
  unfold popD at q
  split at q
  · cases il
    split at q
    · rename_i ys e
      split at q
      · rename_i d e2
        obtain ⟨p, vs, rfl, h1, h2, h3⟩ := hh.locW i e
        rw [List.getLast?_eq_getElem?] at e2
        obtain ⟨w, k1, k2⟩ := h3.get e2
        exact mt_pop pins s σ H _ _ v us Q I rx rs ⟨p, vs, w, rfl, rfl, h2, by rw [← h3.length]; exact k1, q.wrote hh h1 h2 h3.dropLast (by rw [List.length_dropLast]; exact Nat.le_trans (Nat.sub_le _ _) (hh.atz (locAt_some e))) k2⟩
      · exact q.elim
    · exact q.elim
  · exact q.elim
def reverseD : D → List D → Hs → R D
  | .loc n, [], h => match locAt h n with
    | some xs => .ok .non (h.set n (.lst xs.reverse))
    | none => .bad
  | _, _, _ => .bad
theorem md_reverse : MtD X "list.reverse" reverseD := by
  intro pins s σ H x xs v us Q I rx rs ⟨G, ms, h, d, ds, hh, i, il, q⟩
  unfold reverseD at q
  split at q
  · cases il
    split at q
    · rename_i ys e
      obtain ⟨p, vs, rfl, h1, h2, h3⟩ := hh.locW i e
      exact mt_reverse pins s σ H _ _ v us Q I rx rs ⟨p, vs, rfl, rfl, h2, q.wrote hh h1 h2 h3.rev (by rw [List.length_reverse]; exact hh.atz (locAt_some e)) rfl⟩
    · exact q.elim
  · exact q.elim
def ixD : D → D → Hs → R D
  | .str x, .int i, h => if x.length ≤ sizeLine then (match atI x.cps.toList i with
    | some c => .ok (.str ⟨#[c]⟩) h
    | none => .bad) else .bad
  | d, .int i, h => match rowOf h d with
    | some xs => match atI xs i with
      | some e => .ok e h
      | none => .bad
    | none => .bad
  | _, _, _ => .bad
theorem atI_is {xs : List D} {vs : List V} {i : Int} {d : D} (il : IsL K G ms xs vs) (e : atI xs i = some d) : ∃ v, atI vs i = some v ∧ Is K G ms d v := by
  unfold atI at e
  cases q : ixN xs.length i with
  | none => rw [q] at e; cases e
  | some j =>
    rw [q] at e
    obtain ⟨v, h1, h2⟩ := il.get (show xs[j]? = some d from e)
    refine ⟨v, ?_, h2⟩
    unfold atI
    rw [← il.length, q]
    exact h1
theorem id_ix : IxR X (rd2 X.K ixD) := by
  intro value slice pins s σ H x y v u Q I rx ry ⟨G, ms, h, da, db, hh, ia, ib, q⟩ hs
  unfold ixD at q
  split at q
  · cases ia; cases ib
    split at q
    · rename_i hz
      split at q
      · rename_i c e
        exact ix_seq value slice pins s σ H _ _ v u Q I rx ry (.inr (.inr ⟨_, _, _, rfl, rfl, hz, e, q.fin hh rfl⟩)) hs
      · exact q.elim
    · exact q.elim
  · cases ib
    split at q
    · rename_i xs e
      split at q
      · rename_i d e2
        obtain ⟨p, vs, rfl, h2, h3⟩ := hh.row ia e
        obtain ⟨w, k1, k2⟩ := atI_is h3 e2
        rcases h2 with h2 | h2
        · exact ix_seq value slice pins s σ H _ _ v u Q I rx ry (.inl ⟨p, vs, _, w, rfl, rfl, h2, k1, q.fin hh k2⟩) hs
        · exact ix_seq value slice pins s σ H _ _ v u Q I rx ry (.inr (.inl ⟨p, vs, _, w, rfl, rfl, h2, k1, q.fin hh k2⟩)) hs
      · exact q.elim
    · exact q.elim
  · exact q.elim
theorem ve_ix {fa fb : FE} (ha : VE X W pin a fa) (hb : VE X W pin b fb) (hs : PlainIx b := by exact fun _ _ => rfl) : VE X W pin (.Subscript a b pos) (eBin ixD fa fb) :=
  pe_imp (pe_ix id_ix ha hb hs) fun _ _ _ h => op_read h
def cutD (xs : List D) (lo hi : Option Int) : List D := (xs.drop (HT.sIx xs.length 0 lo)).take (HT.sIx xs.length xs.length hi - HT.sIx xs.length 0 lo)
theorem cut_is {xs : List D} {vs : List V} {lo hi : Option Int} (i : IsL K G ms xs vs) : IsL K G ms (cutD xs lo hi) (cutV vs lo hi) := by
  unfold cutD cutV
  rw [i.length]
  exact (i.drop _).take _
theorem cut_len (xs : List D) (lo hi : Option Int) : (cutD xs lo hi).length ≤ xs.length := by
  unfold cutD
  rw [List.length_take, List.length_drop]
  omega
theorem row_of_lst {d : D} {xs : List D} (e : lstOf h d = some xs) : rowOf h d = some xs := by
  cases d <;> first | exact e | cases e
def FO : Type := Ss → Hs → R (Option Int)
def oNone : FO := fun _ h => .ok none h
def oSome (f : FE) : FO := fun s h => (f s h).bind fun d h1 => match d with
  | .int i => .ok (some i) h1
  | _ => .bad
def rdO (X : Cx) (W : WX) (pin : List Pn) (f : FO) : TO := fun σ H Q => ∃ G ms s h, Hh X.K G ms h H ∧ Sl X.K G ms pin s σ ∧ Post X.K X.mg (fun c d H => W c d σ H) G ms (fun _ _ (a b : Option Int) => a = b) (f s h) Q
theorem po_imp {e : Option Expr} {t t' : TO} (h : PO X e t) (q : ∀ σ H Q, t' σ H Q → t σ H Q) : PO X e t' := ⟨fun pins s σ H Q I w => h.run pins s σ H Q I (q _ _ _ w)⟩
abbrev VO (X : Cx) (W : WX) (pin : List Pn) (e : Option Expr) (f : FO) : Prop := PO X e (rdO X W pin f)
theorem vo_none : VO X W pin none oNone := po_imp po_none fun σ H Q ⟨G, ms, s, h, hh, sl, q⟩ => Post.fin (b := (none : Option Int)) q hh rfl
theorem vo_some {e : Expr} {f : FE} (h : VE X W pin e f) : VO X W pin (some e) (oSome f) := by
  refine po_imp (po_some h) fun σ H Q ⟨G, ms, s, h, hh, sl, q⟩ => ⟨G, ms, s, h, hh, sl, Post.bind q fun d h1 v H1 G1 ms1 e1 p1 hh1 i1 q1 => ?_⟩
  cases d with
  | int i => cases i1; exact ⟨i, rfl, q1.fin hh1 rfl⟩
  | _ => exact q1.elim
def slD (m : Bool) (d : D) (lo hi : Option Int) (h : Hs) : R D := match d with
  | .tup xs => .ok (.tup (cutD xs lo hi)) h
  | d => match lstOf h d with
    | some xs => newL m (cutD xs lo hi) h
    | none => .bad
def eSl (m : Bool) (f : FE) (fl fh : FO) : FE := fun s h => (f s h).bind fun d h1 => (fl s h1).bind fun lo h2 => (fh s h2).bind fun hi h3 => slD m d lo hi h3
theorem whole_cut {xs : List D} {lo hi : Option Int} (h : HT.sIx xs.length 0 lo = 0 ∧ HT.sIx xs.length xs.length hi = xs.length) : cutD xs lo hi = xs := by
  unfold cutD
  rw [h.1, h.2, List.drop_zero, Nat.sub_zero, List.take_length]
theorem ve_slice (m : Bool) {e : Expr} {lo hi : Option Expr} {f : FE} {fl fh : FO} {p2 : Pos} (he : VE X W pin e f) (hl : VO X W pin lo fl) (hu : VO X W pin hi fh) : VE X W pin (.Subscript e (.Slice lo hi none p2) pos) (eSl m f fl fh) := by
  refine pe_imp (pe_slice (sl_list.or sl_tupA) he hl hu) fun σ H Q ⟨G, ms, s, h, hh, sl, q⟩ => ⟨G, ms, s, h, hh, sl, Post.bind q fun d h1 v H1 G1 ms1 e1 p1 hh1 i1 q1 => ?_⟩
  refine ⟨G1, ms1, s, h1, hh1, sl.mono e1 p1, Post.bind q1 fun l h2 l' H2 G2 ms2 e2 p2 hh2 i2 q2 => ?_⟩
  subst i2
  refine ⟨G2, ms2, s, h2, hh2, (sl.mono e1 p1).mono e2 p2, Post.bind q2 fun u h3 u' H3 G3 ms3 e3 p3 hh3 i3 q3 => ?_⟩
  subst i3
  have i4 := Is.mono (e2.trans e3) (pre_trans p2 p3) _ _ i1
  unfold slD at q3
  split at q3
  · rename_i xs
    obtain ⟨p, vs, rfl, k2, k3⟩ := hh3.tuple i4
    refine .inr ⟨p, vs, rfl, k2, fun hw => ?_, fun _ p hp => q3.newT hh3 (cut_is k3) (Nat.le_trans (cut_len _ _ _) (hh3.rowz i4 rfl)) hp⟩
    rw [← k3.length] at hw
    rw [whole_cut hw] at q3
    exact q3.fin hh3 i4
  · split at q3
    · rename_i xs hx
      obtain ⟨p, vs, rfl, k2, k3⟩ := hh3.list i4 hx
      exact .inl ⟨p, vs, rfl, k2, fun p hp => q3.newL hh3 (cut_is k3) (Nat.le_trans (cut_len _ _ _) (hh3.rowz i4 (row_of_lst hx))) hp⟩
    · exact q3.elim
def setD (o i v : D) (h : Hs) : Option Hs := match o, i with
  | .loc n, .int k => match locAt h n with
    | some xs => match ixN xs.length k with
      | some j => some (h.set n (.lst (xs.set j v)))
      | none => none
    | none => none
  | _, _ => none
def sItem (fo fi fe : FE) : FS := fun s h => RS.ofR s (fe s h) fun v h1 => RS.ofR s (fo s h1) fun o h2 => RS.ofR s (fi s h2) fun i h3 => match setD o i v h3 with
  | some h4 => .nx s h4
  | none => .bad
theorem vs_item {o i e : Expr} {fo fi fe : FE} {pos' : Pos} (he : VE X W pin e fe) (ho : VE X W pin o fo) (hi : VE X W pin i fi)
    (ha : ∀ v, assign (.Subscript o i pos') X.env v = (do
      let ov ← holding [v] (eval o X.env)
      let iv ← holding [v, ov] (eval i X.env)
      standAt pos'
      holding [v, ov, iv] (setItem ov iv v)
      release [v, ov, iv] []) := by intro _; rfl)
    (hs : swapsWithSole [.Subscript o i pos'] e pos.line X.env = pure false := by rfl) (hw : swappedStores [.Subscript o i pos'] e X.env = pure none := by rfl)
    (h1 : (assignEach [.Subscript o i pos'] X.env).map (·.2) = [assign (.Subscript o i pos') X.env] := by rfl) : VS X W pin (.Assign [.Subscript o i pos'] e pos) (sItem fo fi fe) := by
  refine ps_imp (ps_asg he (pg_sub ho hi set_list ha) hs hw h1) fun D σ H ⟨G, ms, s, h, hh, sl, q⟩ => ⟨G, ms, s, h, hh, sl, PostS.ofR sl q fun dv h1 v H1 G1 ms1 e1 p1 hh1 i1 q1 => ?_⟩
  refine ⟨G1, ms1, s, h1, hh1, sl.mono e1 p1, PostS.ofR (sl.mono e1 p1) q1 fun od h2 ov H2 G2 ms2 e2 p2 hh2 i2 q2 => ?_⟩
  refine ⟨G2, ms2, s, h2, hh2, (sl.mono e1 p1).mono e2 p2, PostS.ofR ((sl.mono e1 p1).mono e2 p2) q2 fun id h3 iv H3 G3 ms3 e3 p3 hh3 i3 q3 => ?_⟩
  split at q3
  · rename_i h4 es
    have i1' := Is.mono (e2.trans e3) (pre_trans p2 p3) _ _ i1
    have i2' := Is.mono e3 p3 _ _ i2
    unfold setD at es
    split at es
    · rename_i n k
      split at es
      · rename_i xs ex
        split at es
        · rename_i j ej
          cases es
          cases i3
          obtain ⟨p, vs, rfl, k1, k2, k3⟩ := hh3.locW i2' ex
          refine ⟨p, vs, k, j, rfl, rfl, k2, by rw [← k3.length]; exact ej, ?_⟩
          exact q3 σ _ G3 ms3 (GLe.refl _) (pre_refl _) (hh3.write k1 k2 (k3.set j i1') (by rw [List.length_set]; exact hh3.atz (locAt_some ex))) (((sl.mono e1 p1).mono e2 p2).mono e3 p3)
        · cases es
      · cases es
    · cases es
  · exact q3.elim
def ipAddD : D → D → Hs → R D
  | .int i, .int j, h => .ok (.int (i + j)) h
  | _, _, _ => .bad
def ipSubD : D → D → Hs → R D
  | .int i, .int j, h => .ok (.int (i - j)) h
  | _, _, _ => .bad
/-- x += e: ints -/
def sAug (i : Nat) (g : D → D → Hs → R D) (f : FE) : FS := fun s h => match s[i]? with
  | some (some x) => RS.ofR s (f s h) fun y h1 => RS.ofR s (calm2 g x y h1) fun z h2 => .nx (s.set i (some z)) h2
  | _ => .bad
end
end WD
namespace WD
open PySem PySem.Spec PyProof.Rows L2
abbrev Tg : Type := D → Ss → Hs → Option Ss
def gVar (i : Nat) : Tg := fun d s _ => some (s.set i (some d))
def unp : List Tg → List D → Ss → Hs → Option Ss
  | [], [], s, _ => some s
  | g :: gs, d :: ds, s, h => match g d s h with
    | some s' => unp gs ds s' h
    | none => none
  | _, _, _, _ => none
def gUn (gs : List Tg) : Tg := fun d s h => match rowOf h d with
  | some xs => unp gs xs s h
  | none => none
/-- σ' is σ but for the slots vs -/
structure But (vs : List Nat) (σ σ' : L2.St) : Prop where
  len : σ'.length = σ.length
  out : ∀ j, j ∉ vs → σ'[j]? = σ[j]?
theorem But.refl {vs : List Nat} {σ : L2.St} : But vs σ σ := ⟨rfl, fun _ _ => rfl⟩
theorem But.trans {vs : List Nat} {σ σ1 σ2 : L2.St} (a : But vs σ σ1) (b : But vs σ1 σ2) : But vs σ σ2 := ⟨b.len.trans a.len, fun j hj => (b.out j hj).trans (a.out j hj)⟩
section
variable (X : Cx) (pin : List Pn)
def rdG (vs : List Nat) (g : Tg) : TG := fun v σ H Q => ∃ G ms s h d, Hh X.K G ms h H ∧ Sl X.K G ms pin s σ ∧ Is X.K G ms d v ∧ match g d s h with
  | some s' => ∀ σ', But vs σ σ' → Sl X.K G ms pin s' σ' → Q σ' H
  | none => False
def rdGs (vs : List Nat) (gs : List Tg) : TGs := fun ws σ H Q => ∃ G ms s h ds, Hh X.K G ms h H ∧ Sl X.K G ms pin s σ ∧ IsL X.K G ms ds ws ∧ match unp gs ds s h with
  | some s' => ∀ σ', But vs σ σ' → Sl X.K G ms pin s' σ' → Q σ' H
  | none => False
end
abbrev VG (X : Cx) (pin : List Pn) (vs : List Nat) (e : Expr) (g : Tg) : Prop := PG X e (rdG X pin vs g)
abbrev VGs (X : Cx) (pin : List Pn) (vs : List Nat) (es : List Expr) (gs : List Tg) : Prop := PGs X es (rdGs X pin vs gs)
section
variable {X : Cx} {W : WX} {pin : List Pn} {K : PySem.W.Frag} {mg : Str → Option Value} {E : XK} {G G' : GG} {H : Hp} {ms ms' : List Addr} {h : Hs} {pos : Pos} {a b c : Expr} {rest : List Expr} {vs : List Nat}
theorem pg_imp {e : Expr} {t t' : TG} (h : PG X e t) (q : ∀ v σ H Q, t' v σ H Q → t v σ H Q) : PG X e t' := ⟨fun pins s σ H v u Q I r w => h.run pins s σ H v u Q I r (q _ _ _ _ w)⟩
theorem pgs_imp {e : List Expr} {t t' : TGs} (h : PGs X e t) (q : ∀ v σ H Q, t' v σ H Q → t v σ H Q) : PGs X e t' := ⟨fun pins s σ H v u Q I r w => h.run pins s σ H v u Q I r (q _ _ _ _ w)⟩
theorem vg_name (i : Nat) {x : Str} (hN : X.N.Nodup) (hi : X.N[i]? = some x := by rfl) (hx : Loc X.env.scope x := by first | exact Or.inl rfl | exact Or.inr rfl) (np : NotPin pin i := by first | exact notPin_nil | decide) (hv : i ∈ vs := by decide)
    (hf : X.fn x = true ∨ X.env.scope.names.lookup x = some .local := by first | exact .inl rfl | exact .inr rfl | assumption) : VG X pin vs (.Name x pos) (gVar i) := by
  refine pg_imp (pg_name hN hi hx hf) fun v σ H Q ⟨G, ms, s, h, d, hh, sl, i1, q⟩ => ?_
  refine q _ ⟨by simp, fun j hj => ?_⟩ (sl.set i1 np)
  rw [List.getElem?_set_ne]
  exact fun z => hj (z ▸ hv)
theorem vgs_nil : VGs X pin vs [] [] := by
  refine pgs_imp pgs_nil fun v σ H Q ⟨G, ms, s, h, d, hh, sl, i1, q⟩ => ?_
  cases d with
  | nil => cases i1; exact ⟨rfl, q σ .refl sl⟩
  | cons _ _ => exact q.elim
theorem vgs_cons {e : Expr} {es : List Expr} {g : Tg} {gs : List Tg} (h1 : VG X pin vs e g) (h2 : VGs X pin vs es gs)
    (hs : (assignEach (e :: es) X.env).map (·.2) = assign e X.env :: (assignEach es X.env).map (·.2) := by rfl) : VGs X pin vs (e :: es) (g :: gs) := by
  refine pgs_imp (pgs_cons h1 h2 hs) fun ws σ H Q ⟨G, ms, s, h, ds, hh, sl, i1, q⟩ => ?_
  cases ds with
  | nil => exact q.elim
  | cons d ds =>
    obtain ⟨v, r, rfl, i2, i3⟩ := i1
    refine ⟨v, r, rfl, G, ms, s, h, d, hh, sl, i2, ?_⟩
    unfold unp at q
    cases e1 : g d s h with
    | none => rw [e1] at q; exact q
    | some s' =>
      rw [e1] at q
      intro σ' b' sl'
      refine ⟨G, ms, s', h, ds, hh, sl', i3, ?_⟩
      dsimp only at q
      cases e2 : unp gs ds s' h with
      | none => rw [e2] at q; exact q
      | some s2 =>
        rw [e2] at q
        exact fun σ2 b2 sl2 => q σ2 (b'.trans b2) sl2
theorem PG.or {e : Expr} {t t' : TG} (h : PG X e t) (h' : PG X e t') : PG X e (fun v σ H Q => t v σ H Q ∨ t' v σ H Q) := ⟨fun pins s σ H v u Q I r w => by
  rcases w with w | w
  · exact h.run pins s σ H v u Q I r w
  · exact h'.run pins s σ H v u Q I r w⟩
theorem unp_len : ∀ {gs : List Tg} {ds : List D} {s s' : Ss} {h : Hs}, unp gs ds s h = some s' → ds.length = gs.length
  | [], [], _, _, _, _ => rfl
  | [], _ :: _, _, _, _, e => by cases e
  | _ :: _, [], _, _, _, e => by cases e
  | g :: gs, d :: ds, s, s', h, e => by
    unfold unp at e
    split at e
    · simp [unp_len e]
    · cases e
theorem vg_un {es : List Expr} {k : Nat} {gs : List Tg} (hc : X.calm = true) (h : VGs X pin vs es gs)
    (hn : (assignEach es X.env).length = gs.length := by rfl) (hst : (assignEach es X.env).findIdx? (·.1) = none := by rfl) : VG X pin vs (.Tuple es k pos) (gUn gs) := by
  refine pg_imp (PG.or (pg_lst hc h hn hst) (pg_tup hc h hn hst)) fun v σ H Q ⟨G, ms, s, h, d, hh, sl, i1, q⟩ => ?_
  unfold gUn at q
  cases er : rowOf h d with
  | none => rw [er] at q; exact q.elim
  | some xs =>
    rw [er] at q
    dsimp only at q
    obtain ⟨p, ws, rfl, h2, h3⟩ := hh.row i1 er
    have hl : ws.length = gs.length := by
      rw [← h3.length]
      cases e2 : unp gs xs s h with
      | none => rw [e2] at q; exact q.elim
      | some s' => exact unp_len e2
    rcases h2 with h2 | h2
    · exact .inl ⟨p, ws, rfl, h2, hl, G, ms, s, h, xs, hh, sl, h3, q⟩
    · exact .inr ⟨p, ws, rfl, h2, hl, G, ms, s, h, xs, hh, sl, h3, q⟩
/-- a, b = e -/
def sUn (g : Tg) (f : FE) : FS := fun s h => RS.ofR s (f s h) fun d h1 => match g d s h1 with
  | some s' => .nx s' h1
  | none => .bad
theorem vs_un {tg e : Expr} {f : FE} {g : Tg} (he : VE X W pin e f) (hg : VG X pin vs tg g) (hs : swapsWithSole [tg] e pos.line X.env = pure false := by rfl) (hw : swappedStores [tg] e X.env = pure none := by rfl)
    (h1 : (assignEach [tg] X.env).map (·.2) = [assign tg X.env] := by rfl) : VS X W pin (.Assign [tg] e pos) (sUn g f) := by
  refine ps_imp (ps_asg he hg hs hw h1) fun D σ H ⟨G, ms, s, h, hh, sl, q⟩ => ⟨G, ms, s, h, hh, sl, PostS.ofR sl q fun d h1 v H1 G1 ms1 e1 p1 hh1 i1 q1 => ?_⟩
  refine ⟨G1, ms1, s, h1, d, hh1, sl.mono e1 p1, i1, ?_⟩
  cases e2 : g d s h1 with
  | none => rw [e2] at q1; exact q1
  | some s' =>
    rw [e2] at q1
    exact fun σ' _ sl' => q1 σ' H1 G1 ms1 (GLe.refl _) (pre_refl _) hh1 sl'
/-- a, b = x, y -/
def sPar (i j : Nat) (f : FA) : FS := fun s h => match f s h with
  | .ok [x, y] h1 => .nx ((s.set i (some x)).set j (some y)) h1
  | .ok _ _ => .bad
  | .err x h1 => .er x s h1
  | .bad => .bad
inductive It0 where
  | seq (ds : List D)
  | rng (lo : Int) (n : Nat)
  | loc (n : Nat)
abbrev FI : Type := Ss → Hs → R It0
/-- J yields ds, wherever the still part has grown -/
def Yields (K : PySem.W.Frag) (J : It) (G0 : GG) (ms0 : List Addr) (ds : List D) : Prop := ∀ (i : Nat) (h : Hs) (G : GG) (ms : List Addr) (H : Hp), Hh K G ms h H → Same G0.1 G.1 → ms0 <+: ms →
  (∀ d, ds[i]? = some d → J.go i H ∧ ∀ x H', J.yld i H x H' → ∃ G', GLe G G' ∧ Hh K G' ms h H' ∧ Is K G' ms d x) ∧ (ds.length = i → J.stop i H)
def ItIs (K : PySem.W.Frag) (G : GG) (ms : List Addr) : It0 → It → Prop
  | .seq ds, J => Yields K J G ms ds ∧ ds.length ≤ sizeLine
  | .rng lo n, J => J = Itr lo n
  | .loc n, J => ∃ a, ms[n]? = some a ∧ J = Itl K a
def rdI (X : Cx) (W : WX) (pin : List Pn) (f : FI) : TI := fun σ H R => ∃ G ms s h, Hh X.K G ms h H ∧ Sl X.K G ms pin s σ ∧ Post X.K X.mg (fun c d H => W c d σ H) G ms (ItIs X.K) (f s h) R
abbrev VI (X : Cx) (W : WX) (pin : List Pn) (tg e : Expr) (f : FI) : Prop := PI X tg e (rdI X W pin f)
theorem pi_imp {tg e : Expr} {t t' : TI} (h : PI X tg e t) (q : ∀ σ H Q, t' σ H Q → t σ H Q) : PI X tg e t' := ⟨fun pins s σ H Q I w => h.run pins s σ H Q I (q _ _ _ w)⟩
/-- a list or a tuple -/
def iSeq (K : PySem.W.Frag) (tl : TE) : TI := fun σ H R => tl σ H fun x H1 => ∃ a, x = .ref a ∧ (((∃ xs, SqL K H1 a xs) ∧ R (Itl K a) H1) ∨ ((∃ xs, SqT K H1 a xs) ∧ R (Itt K a) H1))
theorem pi_seq {tg l : Expr} {tl : TE} (hl : PE X l tl) : PI X tg l (iSeq X.K tl) := by
  refine ⟨fun pins s σ H R I h => ?_⟩
  refine thn (hl.run pins s σ H _ I h) fun v s1 ⟨x, H1, I1, r1, q1⟩ => ?_
  obtain ⟨a, e, ⟨⟨xs, hq⟩, q⟩ | ⟨⟨xs, hq⟩, q⟩⟩ := q1
  · subst e
    cases r1
    obtain ⟨its, rv, p, hz⟩ := I1.list hq
    refine wpAny_pyIter_list p.isList ?_
    refine ⟨s1.heap.objs.size, [s1.heap.objs.size], _, _, H1, rfl, I1.kept (t' := s1.toks) fun b o e => Heap.get?_push_of_some _ e, turn_list a _, ⟨_, Heap.get?_push_size _ rfl, rfl, rfl⟩, fun b hb => ?_, q⟩
    have e : b = s1.heap.objs.size := by simpa using hb
    subst e
    exact I1.fpOk (Nat.le_refl _) (I1.hok.fresh (Nat.le_refl _))
  · subst e
    cases r1
    obtain ⟨its, rv, p, hz⟩ := I1.tuple hq
    refine wpAny_pyIter_tuple (show s1.heap.IsTuple a its.toArray from p) ?_
    refine ⟨s1.heap.objs.size, [s1.heap.objs.size], _, _, H1, rfl, I1.kept (t' := s1.toks) fun b o e => Heap.get?_push_of_some _ e, turn_tuple a _, ⟨_, Heap.get?_push_size _ rfl, rfl, rfl⟩, fun b hb => ?_, q⟩
    have e : b = s1.heap.objs.size := by simpa using hb
    subst e
    exact I1.fpOk (Nat.le_refl _) (I1.hok.fresh (Nat.le_refl _))
theorem yields_list {a : Addr} {ds : List D} {ws : List V} (q : SqL K G.1 a ws) (i : IsL K G ms ds ws) : Yields K (Itl K a) G ms ds := fun j h G' ms' H hh e p => by
  have q' : SqL K H a ws := hh.sub.seq (e.seq q)
  have i' := IsL.mono' e p _ _ i
  refine ⟨fun d hd => ?_, fun hl => ⟨ws, q', by rw [← i.length]; exact Nat.le_of_eq hl⟩⟩
  obtain ⟨v, h1, h2⟩ := i'.get hd
  refine ⟨⟨ws, v, q', h1⟩, fun x H' ⟨e1, e2⟩ => ?_⟩
  subst e1
  have := e2 ws q'
  rw [h1] at this
  cases this
  exact ⟨G', .refl _, hh, h2⟩
theorem yields_tup {a : Addr} {ds : List D} {ws : List V} (q : SqT K G.1 a ws) (i : IsL K G ms ds ws) : Yields K (Itt K a) G ms ds := fun j h G' ms' H hh e p => by
  have q' : SqT K H a ws := Same.sqT hh.sub (Same.sqT e q)
  have i' := IsL.mono' e p _ _ i
  refine ⟨fun d hd => ?_, fun hl => ⟨ws, q', by rw [← i.length]; exact Nat.le_of_eq hl⟩⟩
  obtain ⟨v, h1, h2⟩ := i'.get hd
  refine ⟨⟨ws, v, q', h1⟩, fun x H' ⟨e1, e2⟩ => ?_⟩
  subst e1
  have := e2 ws q'
  rw [h1] at this
  cases this
  exact ⟨G', .refl _, hh, h2⟩
def iRow (f : FE) : FI := fun s h => (f s h).bind fun d h1 => match d with
  | .tup xs => .ok (.seq xs) h1
  | .lst xs => .ok (.seq xs) h1
  | .scr xs => .ok (.seq xs) h1
  | .loc n => if (locAt h1 n).isSome = true then .ok (.loc n) h1 else .bad
  | _ => .bad
theorem vi_row {tg e : Expr} {f : FE} (he : VE X W pin e f) : VI X W pin tg e (iRow f) := by
  refine pi_imp (pi_seq he) fun σ H R ⟨G, ms, s, h, hh, sl, q⟩ => ⟨G, ms, s, h, hh, sl, Post.bind q fun d h1 v H1 G1 ms1 e1 p1 hh1 i1 q1 => ?_⟩
  cases d with
  | tup xs =>
    obtain ⟨a, ws, rfl, k1, k2⟩ := id i1
    exact ⟨a, rfl, .inr ⟨⟨ws, .of (hh1.sub _ _ k1)⟩, q1.fin hh1 ⟨yields_tup (.of k1) k2, hh1.rowz i1 rfl⟩⟩⟩
  | lst xs =>
    obtain ⟨a, ws, rfl, k1, k2⟩ := id i1
    exact ⟨a, rfl, .inl ⟨⟨ws, .of (hh1.sub _ _ k1)⟩, q1.fin hh1 ⟨yields_list (.of k1) k2, hh1.rowz i1 rfl⟩⟩⟩
  | scr xs =>
    obtain ⟨a, ws, rfl, k1, k2⟩ := id i1
    exact ⟨a, rfl, .inl ⟨⟨ws, hh1.sub.seq k1⟩, q1.fin hh1 ⟨yields_list k1 k2, hh1.rowz i1 rfl⟩⟩⟩
  | loc n =>
    dsimp only at q1
    split at q1
    · rename_i hls
      obtain ⟨a, k1, rfl⟩ := i1
      obtain ⟨ys, hys⟩ := Option.isSome_iff_exists.mp hls
      obtain ⟨a', ws, k0, k2, _⟩ := hh1.at (locAt_some hys)
      rw [k1] at k0; cases k0
      exact ⟨a, rfl, .inl ⟨⟨ws, .of k2⟩, q1.fin hh1 ⟨a, k1, rfl⟩⟩⟩
    · exact q1.elim
  | _ => exact q1.elim
/-- range -/
def rgL (lo : Int) (n : Nat) : List D := (List.range n).map fun (i : Nat) => D.int (lo + i)
theorem rgL_get {lo : Int} {n i : Nat} {d : D} (h : (rgL lo n)[i]? = some d) : i < n ∧ d = .int (lo + i) := by
  unfold rgL at h
  rw [List.getElem?_map] at h
  cases q : (List.range n)[i]? with
  | none => rw [q] at h; cases h
  | some j =>
    rw [q] at h
    have hi : i < n := by
      rcases Nat.lt_or_ge i n with z | z
      · exact z
      · rw [List.getElem?_eq_none (by simpa using z)] at q; cases q
    rw [List.getElem?_range hi] at q
    cases q
    exact ⟨hi, (Option.some.inj h).symm⟩
theorem yields_range {lo : Int} {n : Nat} : Yields K (Itr lo n) G ms (rgL lo n) := fun j h G' ms' H hh e p => by
  refine ⟨fun d hd => ?_, fun hl => ?_⟩
  · obtain ⟨hi, rfl⟩ := rgL_get hd
    exact ⟨hi, fun x H' ⟨e1, e2⟩ => by subst e1 e2; exact ⟨G', .refl _, hh, rfl⟩⟩
  · have : (rgL lo n).length = n := by unfold rgL; simp
    rw [this] at hl
    exact Nat.le_of_eq hl
def r62 (i : Int) : Prop := -(2 ^ 62) ≤ i ∧ i < 2 ^ 62
open Classical in
noncomputable def iRng1 (f : FA) : FI := fun s h => (f s h).bind fun ds h1 => match ds with
  | [.int j] => if r62 j then .ok (.rng 0 j.toNat) h1 else .bad
  | _ => .bad
open Classical in
noncomputable def iRng2 (f : FA) : FI := fun s h => (f s h).bind fun ds h1 => match ds with
  | [.int i, .int j] => if r62 i ∧ r62 j then .ok (.rng i (j - i).toNat) h1 else .bad
  | _ => .bad
theorem vi_range1 {tg e : Expr} {f : FA} {p : Pos} (hg : Gl X "range") (hm : X.mg "range" = none) (ha : VA X W pin [e] f) (hs : starEach [e] X.env = [(false, eval e X.env)] := by rfl) : VI X W pin tg (.Call (.Name "range" p) [e] [] pos) (iRng1 f) := by
  refine pi_imp (pi_range1 hg hm ha hs) fun σ H R ⟨G, ms, s, h, hh, sl, q⟩ => ⟨G, ms, s, h, hh, sl, Post.bind q fun ds h1 ws H1 G1 ms1 e1 p1 hh1 i1 q1 => ?_⟩
  split at q1
  · obtain ⟨v, rfl, j1⟩ := isL1 (ds := []) i1
    cases j1
    split at q1
    · rename_i hz
      exact ⟨_, rfl, hz.1, hz.2, q1.fin hh1 rfl⟩
    · exact q1.elim
  · exact q1.elim
theorem vi_range2 {tg e e' : Expr} {f : FA} {p : Pos} (hg : Gl X "range") (hm : X.mg "range" = none) (ha : VA X W pin [e, e'] f) (hs : starEach [e, e'] X.env = [(false, eval e X.env), (false, eval e' X.env)] := by rfl) (hs2 : starEach [e'] X.env = [(false, eval e' X.env)] := by rfl) :
    VI X W pin tg (.Call (.Name "range" p) [e, e'] [] pos) (iRng2 f) := by
  refine pi_imp (pi_range2 hg hm ha hs hs2) fun σ H R ⟨G, ms, s, h, hh, sl, q⟩ => ⟨G, ms, s, h, hh, sl, Post.bind q fun ds h1 ws H1 G1 ms1 e1 p1 hh1 i1 q1 => ?_⟩
  split at q1
  · obtain ⟨v, w, rfl, j1, j2⟩ := isL2 i1
    cases j1; cases j2
    split at q1
    · rename_i hz
      exact ⟨_, _, rfl, ⟨hz.1.1, hz.1.2, hz.2.1, hz.2.2⟩, q1.fin hh1 rfl⟩
    · exact q1.elim
  · exact q1.elim
end
end WD
namespace WD
open PySem PySem.Spec PyProof.Rows L2
/-- behind a turn -/
def afterT (r : RS) (k : Ss → Hs → RS) : RS := match r with
  | .nx s h => k s h
  | .ct s h => k s h
  | .bk s h => .nx s h
  | .rt d h => .rt d h
  | .er x s h => .er x s h
  | .bad => .bad
def loopS (g : Tg) (b : FS) : List D → FS
  | [], s, h => .nx s h
  | d :: ds, s, h => match g d s h with
    | some s' => afterT (b s' h) (loopS g b ds)
    | none => .bad
def loopL (g : Tg) (b : FS) (n : Nat) : Nat → Nat → FS
  | 0, _, _, _ => .bad
  | f + 1, i, s, h => match locAt h n with
    | some xs => match xs[i]? with
      | some d => (match g d s h with
        | some s' => afterT (b s' h) (loopL g b n f (i + 1))
        | none => .bad)
      | none => .nx s h
    | none => .bad
def sFor (fi : FI) (g : Tg) (b : FS) : FS := fun s h => match fi s h with
  | .ok (.seq ds) h1 => loopS g b ds s h1
  | .ok (.rng lo n) h1 => loopS g b (rgL lo n) s h1
  | .ok (.loc n) h1 => match locAt h1 n with
    | some xs => loopL g b n (xs.length + 1) 0 s h1
    | none => .bad
  | .err x h1 => .er x s h1
  | .bad => .bad
section
variable {X : Cx} {W : WX} {pin : List Pn} {K : PySem.W.Frag} {mg : Str → Option Value} {E : XK} {G G' : GG} {H : Hp} {ms ms' : List Addr} {h : Hs} {pos : Pos} {a b c : Expr} {rest : List Expr} {vs : List Nat}
theorem after_post {σ σ' : L2.St} {r : RS} {k : Ss → Hs → RS} {D0 : Ends} {N : L2.St → Hp → Prop} (q : PostS W K mg pin σ G ms (afterT r k) D0)
    (hN : ∀ s1 h1 σ1 H1 G1 ms1, GLe G G1 → ms <+: ms1 → Hh K G1 ms1 h1 H1 → Sl K G1 ms1 pin s1 σ1 → PostS W K mg pin σ1 G1 ms1 (k s1 h1) D0 → N σ1 H1) : PostS W K mg pin σ' G ms r { D0 with nx := N, ct := N, bk := D0.nx } := by
  cases r with
  | nx s1 h1 => exact fun σ1 H1 G1 ms1 e1 p1 hh1 sl1 => hN s1 h1 σ1 H1 G1 ms1 e1 p1 hh1 sl1 (PostS.mono (r := k s1 h1) q e1 p1)
  | ct s1 h1 => exact fun σ1 H1 G1 ms1 e1 p1 hh1 sl1 => hN s1 h1 σ1 H1 G1 ms1 e1 p1 hh1 sl1 (PostS.mono (r := k s1 h1) q e1 p1)
  | bk s1 h1 => exact q
  | rt d h1 => exact q
  | er x s1 h1 => exact q
  | bad => exact q
theorem vs_for {tg iter : Expr} {body : List Stmt} {fi : FI} {g : Tg} {f : FS} (hp : PassesOwn (model X.prog X.w) X.A X.env X.xe) (hc : X.calm = true) (hi : VI X W pin tg iter fi) (hg : VG X pin vs tg g) (hb : VSs X W pin body f)
    (hs : ∀ x, foldedSetIterable iter X.env x = pure x := by intro _; rfl) : VS X W pin (.For tg iter body [] pos) (sFor fi g f) := by
  refine ps_imp (ps_for hp hc hi hg hb hs) fun D σ H ⟨G, ms, s, h, hh, sl, q⟩ => ⟨G, ms, s, h, hh, sl, ?_⟩
  unfold sFor at q
  cases e : fi s h with
  | bad => rw [e] at q; exact q
  | err z h1 => rw [e] at q; exact fun H' G2 ms2 d h1 h2 h3 h4 => q σ H' G2 ms2 d h1 h2 h3 (sl.mono h1 h2) h4
  | ok it h1 =>
    rw [e] at q
    intro J H1 G1 ms1 e1 p1 hh1 ij
    have seqs : ∀ ds, Yields X.K J G1 ms1 ds → PostS W X.K X.mg pin σ G ms (loopS g f ds s h1) D →
        (∃ WW : Nat → Nat → L2.St → Hp → Prop, (∃ m, WW 0 m σ H1) ∧ ∀ i m σ H, WW i m σ H → (J.stop i H ∧ D.nx σ H) ∨ (J.go i H ∧ ∃ N : L2.St → Hp → Prop, (∀ σ' H', N σ' H' → ∃ m', m' < m ∧ WW (i + 1) m' σ' H') ∧
          ∀ x H', J.yld i H x H' → rdG X pin vs g x σ H' fun σ2 H2 => rdS X W pin f { D with nx := N, ct := N, bk := D.nx } σ2 H2)) := fun ds ij q => by
      refine ⟨fun i m σ' H' => ∃ G2 ms2 s2 h2, Hh X.K G2 ms2 h2 H' ∧ Sl X.K G2 ms2 pin s2 σ' ∧ GLe G1 G2 ∧ ms1 <+: ms2 ∧ (m = ds.length - i ∧ i ≤ ds.length) ∧ PostS W X.K X.mg pin σ' G2 ms2 (loopS g f (ds.drop i) s2 h2) D,
        ⟨ds.length, G1, ms1, s, h1, hh1, sl.mono e1 p1, .refl _, pre_refl _, ⟨by simp, Nat.zero_le _⟩, PostS.mono (r := loopS g f ds s h1) q e1 p1⟩, ?_⟩
      rintro i m σ2 H2 ⟨G2, ms2, s2, h2, hh2, sl2, e2, p2, ⟨rfl, hle⟩, q2⟩
      by_cases hi : i < ds.length
      · have hd : ds.drop i = ds[i] :: ds.drop (i + 1) := List.drop_eq_getElem_cons hi
        rw [hd] at q2
        obtain ⟨hgo, hy⟩ := (ij i h2 G2 ms2 H2 hh2 e2.le p2).1 ds[i] (List.getElem?_eq_getElem hi)
        refine .inr ⟨hgo, fun σ' H' => ∃ G3 ms3 s3 h3, Hh X.K G3 ms3 h3 H' ∧ Sl X.K G3 ms3 pin s3 σ' ∧ GLe G1 G3 ∧ ms1 <+: ms3 ∧ PostS W X.K X.mg pin σ' G3 ms3 (loopS g f (ds.drop (i + 1)) s3 h3) D, ?_, ?_⟩
        · rintro σ' H' ⟨G3, ms3, s3, h3, k1, k2, k3, k4, k5⟩
          exact ⟨ds.length - (i + 1), by omega, G3, ms3, s3, h3, k1, k2, k3, k4, ⟨rfl, hi⟩, k5⟩
        · intro x H' y
          obtain ⟨G3, e3, hh3, i3⟩ := hy x H' y
          refine ⟨G3, ms2, s2, h2, ds[i], hh3, sl2.mono e3 (pre_refl _), i3, ?_⟩
          unfold loopS at q2
          cases eg : g ds[i] s2 h2 with
          | none => rw [eg] at q2; exact q2
          | some s3 =>
            rw [eg] at q2
            intro σ3 _ sl3
            refine ⟨G3, ms2, s3, h2, hh3, sl3, after_post (PostS.mono (r := afterT (f s3 h2) (loopS g f (ds.drop (i + 1)))) (σ' := σ3) q2 e3 (pre_refl _)) ?_⟩
            exact fun s4 h4 σ4 H4 G4 ms4 e4 p4 hh4 sl4 q4 => ⟨G4, ms4, s4, h4, hh4, sl4, (e2.trans e3).trans e4, pre_trans p2 p4, q4⟩
      · rw [List.drop_eq_nil_of_le (by omega)] at q2
        exact .inl ⟨(ij i h2 G2 ms2 H2 hh2 e2.le p2).2 (by omega), q2 σ2 H2 G2 ms2 (.refl _) (pre_refl _) hh2 sl2⟩
    cases it with
    | seq ds => exact seqs ds ij.1 q
    | rng lo n =>
      cases ij
      exact seqs (rgL lo n) yields_range q
    | loc n =>
      obtain ⟨ad, ha, rfl⟩ := ij
      dsimp only at q
      cases el : locAt h1 n with
      | none => rw [el] at q; exact q.elim
      | some xs =>
        rw [el] at q
        dsimp only at q
        refine ⟨fun i m σ' H' => ∃ G2 ms2 s2 h2, Hh X.K G2 ms2 h2 H' ∧ Sl X.K G2 ms2 pin s2 σ' ∧ GLe G1 G2 ∧ ms1 <+: ms2 ∧ PostS W X.K X.mg pin σ' G2 ms2 (loopL g f n m i s2 h2) D,
          ⟨xs.length + 1, G1, ms1, s, h1, hh1, sl.mono e1 p1, .refl _, pre_refl _, PostS.mono (r := loopL g f n (xs.length + 1) 0 s h1) q e1 p1⟩, ?_⟩
        rintro i m σ2 H2 ⟨G2, ms2, s2, h2, hh2, sl2, e2, p2, q2⟩
        cases m with
        | zero => exact q2.elim
        | succ m =>
          unfold loopL at q2
          cases el2 : locAt h2 n with
          | none => rw [el2] at q2; exact q2.elim
          | some ys =>
            rw [el2] at q2
            dsimp only at q2
            obtain ⟨ad', ws, k1, k2, k3⟩ := hh2.at (locAt_some el2)
            rw [pre_get p2 ha] at k1
            cases k1
            have hq : SqL X.K H2 ad ws := .of k2
            cases ey : ys[i]? with
            | none =>
              rw [ey] at q2
              refine .inl ⟨⟨ws, hq, ?_⟩, q2 σ2 H2 G2 ms2 (.refl _) (pre_refl _) hh2 sl2⟩
              rw [← k3.length]
              exact List.getElem?_eq_none_iff.mp ey
            | some d =>
              rw [ey] at q2
              dsimp only at q2
              obtain ⟨v, j1, j2⟩ := k3.get ey
              refine .inr ⟨⟨ws, v, hq, j1⟩, fun σ' H' => ∃ G3 ms3 s3 h3, Hh X.K G3 ms3 h3 H' ∧ Sl X.K G3 ms3 pin s3 σ' ∧ GLe G1 G3 ∧ ms1 <+: ms3 ∧ PostS W X.K X.mg pin σ' G3 ms3 (loopL g f n m (i + 1) s3 h3) D, ?_, ?_⟩
              · rintro σ' H' ⟨G3, ms3, s3, h3, k1, k2, k3, k4, k5⟩
                exact ⟨m, by omega, G3, ms3, s3, h3, k1, k2, k3, k4, k5⟩
              · rintro x H' ⟨rfl, y⟩
                have := y ws hq
                rw [j1] at this
                cases this
                refine ⟨G2, ms2, s2, h2, d, hh2, sl2, j2, ?_⟩
                cases eg : g d s2 h2 with
                | none => rw [eg] at q2; exact q2
                | some s3 =>
                  rw [eg] at q2
                  dsimp only at q2
                  intro σ3 _ sl3
                  refine ⟨G2, ms2, s3, h2, hh2, sl3, after_post (σ' := σ3) q2 ?_⟩
                  exact fun s4 h4 σ4 H4 G4 ms4 e4 p4 hh4 sl4 q4 => ⟨G4, ms4, s4, h4, hh4, sl4, e2.trans e4, pre_trans p2 p4, q4⟩
end
def whileF (t : FT) (b : FS) : Nat → FS
  | 0, _, _ => .bad
  | n + 1, s, h => match t s h with
    | .ok k h1 => if k = true then afterT (b s h1) (whileF t b n) else .nx s h1
    | .err x h1 => .er x s h1
    | .bad => .bad
open Classical in
noncomputable def sWhile (t : FT) (b : FS) : FS := fun s h => if q : ∃ n, whileF t b n s h ≠ .bad then whileF t b (Classical.choose q) s h else .bad
section
variable {X : Cx} {W : WX} {pin : List Pn} {pos : Pos} {c : Expr}
end
end WD
namespace WD
open PySem PySem.Spec PyProof.Rows L2
def wipeS (s : Ss) : List Nat → Ss
  | [] => s
  | v :: vs => (wipeS s vs).set v none
theorem wipeS_length (s : Ss) : ∀ vs : List Nat, (wipeS s vs).length = s.length
  | [] => rfl
  | v :: vs => by unfold wipeS; rw [List.length_set, wipeS_length s vs]
theorem wipeS_some {s : Ss} {i : Nat} {x : D} : ∀ {vs : List Nat}, (wipeS s vs)[i]? = some (some x) → s[i]? = some (some x) ∧ i ∉ vs
  | [], h => ⟨h, by simp⟩
  | v :: vs, h => by
    unfold wipeS at h
    by_cases hi : v = i
    · subst hi
      by_cases hv : v < (wipeS s vs).length
      · rw [List.getElem?_set_self hv] at h; cases h
      · rw [List.getElem?_eq_none (by simpa using hv)] at h; cases h
    · rw [List.getElem?_set_ne hi] at h
      obtain ⟨h1, h2⟩ := wipeS_some h
      exact ⟨h1, by simp only [List.mem_cons, not_or]; exact ⟨fun e => hi e.symm, h2⟩⟩
theorem wipe_in {σ : L2.St} {i : Nat} : ∀ {vs : List Nat}, i ∈ vs → (wipe σ vs)[i]? = if i < σ.length then some none else none
  | [], h => (nomatch h)
  | v :: vs, h => by
    unfold wipe
    by_cases hi : v = i
    · subst hi
      by_cases hv : v < σ.length
      · rw [if_pos hv, List.getElem?_set_self (by rw [wipe_length]; exact hv)]
      · rw [if_neg hv, List.getElem?_eq_none (by rw [List.length_set, wipe_length]; omega)]
    · rw [List.getElem?_set_ne hi]
      exact wipe_in (by rcases List.mem_cons.mp h with e | e; exact absurd e.symm hi; exact e)
theorem wipe_but {σ σ2 : L2.St} {vs : List Nat} (b : But vs (wipe σ vs) σ2) : wipe σ2 vs = wipe σ vs := by
  have hl : σ2.length = σ.length := by rw [b.len, wipe_length]
  apply List.ext_getElem?
  intro j
  by_cases hj : j ∈ vs
  · rw [wipe_in hj, wipe_in hj, hl]
  · rw [wipe_out hj, b.out j hj]
def quiet {α : Type} (r : R α) : R α := match r with
  | .ok d h' => .ok d h'
  | _ => .bad
/-- one turn -/
def stepC (g : Tg) (tt : FT) (te : FE) (s : Ss) (d : D) (h : Hs) (no : Hs → R D) (yes : D → Hs → R D) : R D := match g d s h with
  | none => .bad
  | some s2 => (quiet (tt s2 h)).bind fun b h3 => if b = true then (quiet (te s2 h3)).bind fun y h4 => yes y h4 else no h3
def compA (g : Tg) (tt : FT) (te : FE) (s : Ss) (k : List D → Hs → R D) : List D → List D → Hs → R D
  | [], acc, h => k acc h
  | d :: ds, acc, h => stepC g tt te s d h (fun h3 => compA g tt te s k ds acc h3) fun y h4 => compA g tt te s k ds (acc ++ [y]) h4
def compL (g : Tg) (tt : FT) (te : FE) (s : Ss) (n : Nat) (k : List D → Hs → R D) : Nat → Nat → List D → Hs → R D
  | 0, _, _, _ => .bad
  | f + 1, i, acc, h => match locAt h n with
    | none => .bad
    | some xs => match xs[i]? with
      | none => k acc h
      | some d => stepC g tt te s d h (fun h3 => compL g tt te s n k f (i + 1) acc h3) fun y h4 => compL g tt te s n k f (i + 1) (acc ++ [y]) h4
def eComp (m : Bool) (vs : List Nat) (fi : FI) (g : Tg) (tt : FT) (te : FE) : FE := fun s h => (fi s h).bind fun it h1 => match it with
  | .seq ds => compA g tt te (wipeS s vs) (newL m) ds [] h1
  | .rng lo n => if n ≤ sizeLine then compA g tt te (wipeS s vs) (newL m) (rgL lo n) [] h1 else .bad
  | .loc n => match locAt h1 n with
    | some xs => compL g tt te (wipeS s vs) n (newL m) (xs.length + 1) 0 [] h1
    | none => .bad
def tYesF : FT := fun _ h => .ok true h
abbrev VTs (X : Cx) (W : WX) (pin : List Pn) (es : List Expr) (f : FT) : Prop := PTs X es (rdT X W pin f)
abbrev W0 : WX := fun _ _ _ _ => False
section
variable {X : Cx} {W : WX} {pin : List Pn} {K : PySem.W.Frag} {mg : Str → Option Value} {E : XK} {G G' : GG} {H : Hp} {ms ms' : List Addr} {h : Hs} {pos : Pos} {c : Expr} {vs : List Nat}
theorem vts_nil : VTs X W pin [] tYesF := ⟨fun pins s σ H Q I ⟨G, ms, s', h, hh, sl, q⟩ => pts_nil.run pins s σ H Q I (Post.fin (b := true) q hh rfl)⟩
theorem vts_one {f : FT} (h : VT X W pin c f) : VTs X W pin [c] f := pts_one h
theorem Sl.mono' {s : Ss} {σ : L2.St} (x : Sl K G ms pin s σ) (e : Same G.1 G'.1) (p : ms <+: ms') : Sl K G' ms' pin s σ :=
  ⟨x.len, fun i d q => by obtain ⟨v, h1, h2⟩ := x.get i d q; exact ⟨v, h1, Is.mono' e p d v h2⟩, fun z hz => (x.pin z hz).mono' e p⟩
theorem Sl.wipe {s : Ss} {σ : L2.St} (x : Sl K G ms pin s σ) : Sl K G ms [] (wipeS s vs) (L2.wipe σ vs) := by
  refine ⟨by rw [wipeS_length, wipe_length]; exact x.len, fun i d e => ?_, fun _ h => (nomatch h)⟩
  obtain ⟨h1, h2⟩ := wipeS_some e
  obtain ⟨v, k1, k2⟩ := x.get i d h1
  exact ⟨v, by rw [wipe_out h2]; exact k1, k2⟩
/-- a turn of a comprehension over the list at D -/
theorem comp_turn {Xb : Cx} (eK : Xb.K = X.K) {g : Tg} {tt : FT} {te : FE} {s : Ss} {σ : L2.St} {d : D} {x : V} {h2 : Hs} {G1 G3 : GG} {ms1 ms2 : List Addr} {H2 : Hp} {Dd : Addr} {acc : List D} {ws : List V} {Q : VK} {no : Hs → R D} {yes : D → Hs → R D} {Nx : Hp → Prop}
    (hh : Hh X.K G3 ms2 h2 H2) (sl : Sl X.K G3 ms2 [] (wipeS s vs) (L2.wipe σ vs)) (i : Is X.K G3 ms2 d x) (e1 : Same G1.1 G3.1) (p1 : ms1 <+: ms2) (ef : G3.2 = upd G1.2 Dd (.lst ws)) (ia : IsL X.K G3 ms2 acc ws) (hz : acc.length < sizeLine)
    (q : Post X.K mg E G1 ms1 (Is X.K) (stepC g tt te (wipeS s vs) d h2 no yes) Q)
    (hno : ∀ h5 G5 ms5 H5, Hh X.K G5 ms5 h5 H5 → Same G1.1 G5.1 → ms1 <+: ms5 → G5.2 = upd G1.2 Dd (.lst ws) → IsL X.K G5 ms5 acc ws → Post X.K mg E G1 ms1 (Is X.K) (no h5) Q → Nx H5)
    (hyes : ∀ y v h5 G5 ms5 H5, Hh X.K G5 ms5 h5 H5 → Same G1.1 G5.1 → ms1 <+: ms5 → G5.2 = upd G1.2 Dd (.lst (ws ++ [v])) → IsL X.K G5 ms5 (acc ++ [y]) (ws ++ [v]) → Post X.K mg E G1 ms1 (Is X.K) (yes y h5) Q → Nx H5) :
    rdG Xb [] vs g x (L2.wipe σ vs) H2 fun σ2 H2 => L2.wipe σ2 vs = L2.wipe σ vs ∧ rdT Xb W0 [] tt σ2 H2 fun b H3 =>
      if b = true then rdE Xb W0 [] te σ2 H3 fun y H4 => ∃ acc, H4 Dd = some (.lst acc) ∧ acc.length < sizeLine ∧ Nx (upd H4 Dd (.lst (acc ++ [y]))) else Nx H3 := by
  unfold stepC at q
  refine ⟨G3, ms2, wipeS s vs, h2, d, by rw [eK]; exact hh, by rw [eK]; exact sl, by rw [eK]; exact i, ?_⟩
  cases eg : g d (wipeS s vs) h2 with
  | none => rw [eg] at q; exact q.elim
  | some s2 =>
    rw [eg] at q
    dsimp only at q
    intro σ2 b2 sl2
    refine ⟨wipe_but b2, G3, ms2, s2, h2, by rw [eK]; exact hh, sl2, ?_⟩
    cases et : tt s2 h2 with
    | bad => rw [et] at q; exact q.elim
    | err z h3 => rw [et] at q; exact q.elim
    | ok b h3 =>
      rw [et] at q
      dsimp only [quiet, R.bind] at q
      intro b' H3 G4 ms4 e4 p4 hh4 eb
      subst eb
      rw [eK] at hh4 sl2
      cases b with
      | false => exact hno h3 G4 ms4 H3 hh4 (e1.trans e4.le) (pre_trans p1 p4) (e4.fr.trans ef) (IsL.mono e4 p4 _ _ ia) q
      | true =>
        rw [if_pos rfl] at q ⊢
        refine ⟨G4, ms4, s2, h3, by rw [eK]; exact hh4, by rw [eK]; exact sl2.mono e4 p4, ?_⟩
        cases ee : te s2 h3 with
        | bad => rw [ee] at q; exact q.elim
        | err z h4 => rw [ee] at q; exact q.elim
        | ok y h4 =>
          rw [ee] at q
          dsimp only [quiet, R.bind] at q
          intro v H4 G5 ms5 e5 p5 hh5 iy
          rw [eK] at hh5 iy
          have ef5 : G5.2 = upd G1.2 Dd (.lst ws) := (e5.fr.trans e4.fr).trans ef
          have hD : G5.2 Dd = some (.lst ws) := by rw [ef5, upd_same]
          refine ⟨ws, hh5.frm _ _ hD, by rw [← ia.length]; exact hz, ?_⟩
          have ia5 := IsL.mono (e4.trans e5) (pre_trans p4 p5) _ _ ia
          refine hyes y v h4 (fupd G5 Dd (.lst (ws ++ [v]))) ms5 _ (hh5.reframe hD (fun _ _ z => nomatch z)) ((e1.trans e4.le).trans e5.le) (pre_trans p1 (pre_trans p4 p5)) ?_ ?_ q
          · show upd G5.2 Dd _ = _
            rw [ef5, upd_upd]
          · exact IsL.mono' (G := G5) (G' := fupd G5 Dd (.lst (ws ++ [v]))) (Same.refl G5.1) (pre_refl _) _ _ (ia5.append (.one iy))
/-- the end of a comprehension -/
theorem comp_end {m : Bool} {G1 G2 : GG} {ms1 ms2 : List Addr} {h2 : Hs} {H2 : Hp} {Dd : Addr} {acc : List D} {ws : List V} {Q : VK}
    (hh : Hh K G2 ms2 h2 H2) (e1 : Same G1.1 G2.1) (p1 : ms1 <+: ms2) (ef : G2.2 = upd G1.2 Dd (.lst ws)) (hF : G1.2 Dd = none) (ia : IsL K G2 ms2 acc ws) (hz : acc.length ≤ sizeLine)
    (q : Post K mg E G1 ms1 (Is K) (newL m acc h2) Q) : Q (.ref Dd) H2 := by
  have hD : G2.2 Dd = some (.lst ws) := by rw [ef, upd_same]
  obtain ⟨g0, m0⟩ := hh.frd _ _ hD
  have hFF : ∀ a u, G1.2 a = some u → a ≠ Dd ∧ G2.2 a = some u := fun a u e => by
    have hne : a ≠ Dd := fun z => by rw [z, hF] at e; cases e
    exact ⟨hne, by rw [ef, upd_ne hne]; exact e⟩
  cases m with
  | false =>
    refine Post.fin2 (a := D.lst acc) (G' := (upd G2.1 Dd (.lst ws), G1.2)) q ⟨e1.trans (same_upd g0), rfl⟩ p1 (hh.thaw hD hFF (show ws.length ≤ sizeLine by rw [← ia.length]; exact hz) (fun _ _ z => nomatch z)) ?_
    exact ⟨Dd, ws, rfl, upd_same, IsL.mono' (G := G2) (same_upd g0) (pre_refl _) _ _ ia⟩
  | true =>
    refine Post.fin2 (a := D.loc h2.length) (G' := (G2.1, G1.2)) (ms' := ms2 ++ [Dd]) q ⟨e1, rfl⟩ (pre_trans p1 ⟨[Dd], rfl⟩) (hh.adopt hD hFF ia hz) ⟨Dd, ?_, rfl⟩
    rw [← hh.len]
    simp
theorem comp_read (m : Bool) {fi : FI} {g : Tg} {tt : FT} {te : FE} {σ : L2.St} {H : Hp} {Q : VK} (hq : rdE X W pin (eComp m vs fi g tt te) σ H Q) : tLc (rdI X W pin fi) (rdG X [] vs g) (rdT X W0 [] tt) (rdE X W0 [] te) vs σ H Q := by
  obtain ⟨G, ms, s, h, hh, sl, q⟩ := hq
  refine ⟨G, ms, s, h, hh, sl, Post.bind q fun it h1 J H1 G1 ms1 e1 p1 hh1 ij q1 => ?_⟩
  intro Dd hD
  have hF := hh1.fnone hD
  have hh2 : Hh X.K (fupd G1 Dd (.lst [])) ms1 h1 (upd H1 Dd (.lst [])) := hh1.frame hD
  have seqs : ∀ ds, Yields X.K J G1 ms1 ds → ds.length ≤ sizeLine → Post X.K X.mg (fun c d H => W c d σ H) G1 ms1 (Is X.K) (compA g tt te (wipeS s vs) (newL m) ds [] h1) Q →
      (∃ WW : Nat → Nat → Hp → Prop, (∃ m, WW 0 m (upd H1 Dd (.lst []))) ∧ ∀ i m H, WW i m H →
        (J.stop i H ∧ Q (.ref Dd) H) ∨ (J.go i H ∧ ∃ Nx : Hp → Prop, (∀ H', Nx H' → ∃ m', m' < m ∧ WW (i + 1) m' H') ∧ ∀ x H', J.yld i H x H' → rdG X [] vs g x (L2.wipe σ vs) H' fun σ2 H2 => L2.wipe σ2 vs = L2.wipe σ vs ∧ rdT X W0 [] tt σ2 H2 fun b H3 =>
          if b = true then rdE X W0 [] te σ2 H3 fun y H4 => ∃ acc, H4 Dd = some (.lst acc) ∧ acc.length < sizeLine ∧ Nx (upd H4 Dd (.lst (acc ++ [y]))) else Nx H3)) := fun ds ij hlen q => by
    refine ⟨fun i m' H' => ∃ G2 ms2 h2 acc ws, Hh X.K G2 ms2 h2 H' ∧ Same G1.1 G2.1 ∧ ms1 <+: ms2 ∧ G2.2 = upd G1.2 Dd (.lst ws) ∧ IsL X.K G2 ms2 acc ws ∧ acc.length ≤ i ∧ i ≤ ds.length ∧ m' = ds.length - i ∧
        Post X.K X.mg (fun c d H => W c d σ H) G1 ms1 (Is X.K) (compA g tt te (wipeS s vs) (newL m) (ds.drop i) acc h2) Q,
      ⟨ds.length, _, ms1, h1, [], [], hh2, Same.refl _, pre_refl _, rfl, rfl, Nat.le_refl _, Nat.zero_le _, by simp, q⟩, ?_⟩
    rintro i m' H' ⟨G2, ms2, h2, acc, ws, k1, k2, k3, k4, k5, k6, k7, rfl, k8⟩
    by_cases hi : i < ds.length
    · have hd : ds.drop i = ds[i] :: ds.drop (i + 1) := List.drop_eq_getElem_cons hi
      rw [hd] at k8
      obtain ⟨hgo, hy⟩ := (ij i h2 G2 ms2 H' k1 k2 k3).1 ds[i] (List.getElem?_eq_getElem hi)
      refine .inr ⟨hgo, fun H' => ∃ G2 ms2 h2 acc ws, Hh X.K G2 ms2 h2 H' ∧ Same G1.1 G2.1 ∧ ms1 <+: ms2 ∧ G2.2 = upd G1.2 Dd (.lst ws) ∧ IsL X.K G2 ms2 acc ws ∧ acc.length ≤ i + 1 ∧
        Post X.K X.mg (fun c d H => W c d σ H) G1 ms1 (Is X.K) (compA g tt te (wipeS s vs) (newL m) (ds.drop (i + 1)) acc h2) Q, ?_, ?_⟩
      · rintro H' ⟨G2, ms2, h2, acc, ws, k1, k2, k3, k4, k5, k6, k8⟩
        exact ⟨ds.length - (i + 1), by omega, G2, ms2, h2, acc, ws, k1, k2, k3, k4, k5, k6, hi, rfl, k8⟩
      · intro x H3 y
        obtain ⟨G3, e3, hh3, i3⟩ := hy x H3 y
        have hs3 : Sl X.K G3 ms2 [] (wipeS s vs) (L2.wipe σ vs) := (Sl.wipe (vs := vs) ((sl.mono e1 p1).mono' k2 k3)).mono e3 (pre_refl _)
        refine comp_turn rfl hh3 hs3 i3 (k2.trans e3.le) k3 (e3.fr.trans k4) (IsL.mono e3 (pre_refl _) _ _ k5) (by omega) k8 ?_ ?_
        · exact fun h5 G5 ms5 H5 a1 a2 a3 a4 a5 a6 => ⟨G5, ms5, h5, acc, ws, a1, a2, a3, a4, a5, by omega, a6⟩
        · exact fun y v h5 G5 ms5 H5 a1 a2 a3 a4 a5 a6 => ⟨G5, ms5, h5, acc ++ [y], ws ++ [v], a1, a2, a3, a4, a5, by rw [List.length_append]; simp; omega, a6⟩
    · rw [List.drop_eq_nil_of_le (by omega)] at k8
      refine .inl ⟨(ij i h2 G2 ms2 H' k1 k2 k3).2 (by omega), ?_⟩
      exact comp_end k1 k2 k3 k4 hF k5 (by omega) k8
  cases it with
  | seq ds => exact seqs ds ij.1 ij.2 q1
  | rng lo n =>
    cases ij
    dsimp only at q1
    split at q1
    · rename_i hz
      exact seqs (rgL lo n) yields_range (by unfold rgL; simpa using hz) q1
    · exact q1.elim
  | loc n =>
    obtain ⟨ad, ha, rfl⟩ := ij
    dsimp only at q1
    cases el : locAt h1 n with
    | none => rw [el] at q1; exact q1.elim
    | some xs =>
      rw [el] at q1
      dsimp only at q1
      refine ⟨fun i m' H' => ∃ G2 ms2 h2 acc ws, Hh X.K G2 ms2 h2 H' ∧ Same G1.1 G2.1 ∧ ms1 <+: ms2 ∧ G2.2 = upd G1.2 Dd (.lst ws) ∧ IsL X.K G2 ms2 acc ws ∧ (acc.length ≤ i ∧ acc.length ≤ sizeLine) ∧
          Post X.K X.mg (fun c d H => W c d σ H) G1 ms1 (Is X.K) (compL g tt te (wipeS s vs) n (newL m) m' i acc h2) Q,
        ⟨xs.length + 1, _, ms1, h1, [], [], hh2, Same.refl _, pre_refl _, rfl, rfl, ⟨Nat.le_refl _, Nat.zero_le _⟩, q1⟩, ?_⟩
      rintro i m' H' ⟨G2, ms2, h2, acc, ws, k1, k2, k3, k4, k5, k6, k8⟩
      cases m' with
      | zero => exact k8.elim
      | succ m' =>
        unfold compL at k8
        cases el2 : locAt h2 n with
        | none => rw [el2] at k8; exact k8.elim
        | some ys =>
          rw [el2] at k8
          dsimp only at k8
          obtain ⟨ad', zs, j1, j2, j3⟩ := k1.at (locAt_some el2)
          have hyz := k1.atz (locAt_some el2)
          rw [pre_get k3 ha] at j1
          cases j1
          have hq : SqL X.K H' ad zs := .of j2
          cases ey : ys[i]? with
          | none =>
            rw [ey] at k8
            dsimp only at k8
            refine .inl ⟨⟨zs, hq, ?_⟩, comp_end k1 k2 k3 k4 hF k5 k6.2 k8⟩
            rw [← j3.length]
            exact List.getElem?_eq_none_iff.mp ey
          | some d =>
            rw [ey] at k8
            dsimp only at k8
            have hiy : i < ys.length := (List.getElem?_eq_some_iff.mp ey).1
            obtain ⟨v, n1, n2⟩ := j3.get ey
            refine .inr ⟨⟨zs, v, hq, n1⟩, fun H' => ∃ G2 ms2 h2 acc ws, Hh X.K G2 ms2 h2 H' ∧ Same G1.1 G2.1 ∧ ms1 <+: ms2 ∧ G2.2 = upd G1.2 Dd (.lst ws) ∧ IsL X.K G2 ms2 acc ws ∧ (acc.length ≤ i + 1 ∧ acc.length ≤ sizeLine) ∧
              Post X.K X.mg (fun c d H => W c d σ H) G1 ms1 (Is X.K) (compL g tt te (wipeS s vs) n (newL m) m' (i + 1) acc h2) Q, fun H' hw => ⟨m', by omega, hw⟩, ?_⟩
            rintro x H3 ⟨rfl, y⟩
            have := y zs hq
            rw [n1] at this
            cases this
            have hs3 : Sl X.K G2 ms2 [] (wipeS s vs) (L2.wipe σ vs) := Sl.wipe (vs := vs) ((sl.mono e1 p1).mono' k2 k3)
            refine comp_turn rfl k1 hs3 n2 k2 k3 k4 k5 (Nat.lt_of_le_of_lt k6.1 (Nat.lt_of_lt_of_le hiy hyz)) k8 ?_ ?_
            · exact fun h5 G5 ms5 H5 a1 a2 a3 a4 a5 a6 => ⟨G5, ms5, h5, acc, ws, a1, a2, a3, a4, a5, ⟨by omega, k6.2⟩, a6⟩
            · exact fun y v h5 G5 ms5 H5 a1 a2 a3 a4 a5 a6 => ⟨G5, ms5, h5, acc ++ [y], ws ++ [v], a1, a2, a3, a4, a5, ⟨by rw [List.length_append]; simp; omega, by rw [List.length_append]; exact Nat.le_trans (Nat.add_le_add_right k6.1 1) (Nat.le_trans hiy hyz)⟩, a6⟩
theorem ve_comp (m : Bool) {elt tg iter : Expr} {ifs : List Expr} {scope : Scope} (own : List (Str × Nat)) {fi : FI} {g : Tg} {tt : FT} {te : FE} (hc : X.calm = true) (hN : X.N.Nodup) (hi : VI X W pin tg iter fi) (ok : BlkOk X.N X.env.scope scope own)
    (hg : ∀ (s : Shared) (H : Hp) (C : Addr) (cl : List (Str × Addr)) (fp : List Addr), VG (X.blk s H scope (compEnvC scope cl C X.env) fp) [] (own.map (·.2)) tg g) (ht : ∀ (s : Shared) (H : Hp) (C : Addr) (cl : List (Str × Addr)) (fp : List Addr), VTs (X.blk s H scope (compEnvC scope cl C X.env) fp) W0 [] ifs tt)
    (he : ∀ (s : Shared) (H : Hp) (C : Addr) (cl : List (Str × Addr)) (fp : List Addr), VE (X.blk s H scope (compEnvC scope cl C X.env) fp) W0 [] elt te) (hs : ∀ x, foldedSetIterable iter X.env x = pure x := by intro _; rfl) :
    VE X W pin (.ListComp elt [⟨tg, iter, ifs, 0⟩] scope pos) (eComp m (own.map (·.2)) fi g tt te) :=
  pe_imp (pe_lc (g := rdG X [] (own.map (fun (p : Str × Nat) => p.2)) g) (tt := rdT X W0 [] tt) (te := rdE X W0 [] te) hc hN hi ok hg ht he hs) fun σ H Q q => comp_read m q
theorem vs_setComp (m : Bool) (i : Nat) {y : Str} {py : Pos} {elt tg iter : Expr} {ifs : List Expr} {scope : Scope} {spos : Pos} (own : List (Str × Nat)) {fi : FI} {g : Tg} {tt : FT} {te : FE} (hc : X.calm = true) (hN : X.N.Nodup) (hi : VI X W pin tg iter fi) (ok : BlkOk X.N X.env.scope scope own)
    (hg : ∀ (s : Shared) (H : Hp) (C : Addr) (cl : List (Str × Addr)) (fp : List Addr), VG (X.blk s H scope (compEnvC scope cl C X.env) fp) [] (own.map (·.2)) tg g) (ht : ∀ (s : Shared) (H : Hp) (C : Addr) (cl : List (Str × Addr)) (fp : List Addr), VTs (X.blk s H scope (compEnvC scope cl C X.env) fp) W0 [] ifs tt)
    (he : ∀ (s : Shared) (H : Hp) (C : Addr) (cl : List (Str × Addr)) (fp : List Addr), VE (X.blk s H scope (compEnvC scope cl C X.env) fp) W0 [] elt te)
    (hy : X.N[i]? = some y := by rfl) (hyl : X.env.scope.names.lookup y = some .local := by rfl) (np : NotPin pin i := by first | exact notPin_nil | decide)
    (hsw : swapsWith (.ListComp elt [⟨tg, iter, ifs, 0⟩] scope pos) (some (.Name y py)) spos.line X.env = pure true := by exact sw_true rfl rfl rfl (by decide +kernel)) (hs : ∀ x, foldedSetIterable iter X.env x = pure x := by intro _; rfl) :
    VS X W pin (.Assign [.Name y py] (.ListComp elt [⟨tg, iter, ifs, 0⟩] scope pos) spos) (sSet i (eComp m (own.map (·.2)) fi g tt te)) := by
  refine ps_imp (ps_setLc (g := rdG X [] (own.map (fun (p : Str × Nat) => p.2)) g) (tt := rdT X W0 [] tt) (te := rdE X W0 [] te) hc hN hy hyl hsw hi ok hg ht he hs) fun D σ H ⟨G, ms, s, h, hh, sl, q⟩ => ?_
  refine comp_read m ⟨G, ms, s, h, hh, sl, PostS.ofR sl q fun d h1 v H1 G1 ms1 e1 p1 hh1 i1 q1 => ?_⟩
  exact q1 _ H1 G1 ms1 (GLe.refl _) (pre_refl _) hh1 ((sl.mono e1 p1).set i1 np)
end
end WD
namespace WD
open PySem PySem.Spec PyProof.Rows L2
mutual
def D.und (n : Nat) : D → Bool
  | .tup xs => undL n xs
  | .lst xs => undL n xs
  | .scr xs => undL n xs
  | .dic _ xs => undL n xs
  | .loc m => decide (m < n)
  | _ => true
def undL (n : Nat) : List D → Bool
  | [] => true
  | x :: xs => x.und n && undL n xs
end
def O.und (n : Nat) : O → Bool
  | .lst xs => undL n xs
  | .ins _ fs => undL n (fs.map Prod.snd)
  | .dct _ kvs => undL n (kvs.map Prod.fst) && undL n (kvs.map Prod.snd)
  | .dci _ _ => true
section
variable {K : PySem.W.Frag} {mg : Str → Option Value} {E : XK} {G G' : GG} {H : Hp} {ms ms' : List Addr} {h h' : Hs}
theorem get_cut {n : Nat} {a : Addr} (p : ms <+: ms') (h : ms'[n]? = some a) (hn : n < ms.length) : ms[n]? = some a := by
  obtain ⟨t, rfl⟩ := p
  rw [List.getElem?_append_left hn] at h; exact h
theorem lt_of_get {α : Type} {l : List α} {n : Nat} {a : α} (h : l[n]? = some a) : n < l.length := by
  rcases Nat.lt_or_ge n l.length with q | q
  · exact q
  · rw [List.getElem?_eq_none q] at h; cases h
mutual
theorem Is.cut (p : ms <+: ms') : ∀ (d : D) (v : V), Is K G ms' d v → d.und ms.length = true → Is K G ms d v
  | .non, _, h, _ => h
  | .bl _, _, h, _ => h
  | .int _, _, h, _ => h
  | .str _, _, h, _ => h
  | .tup xs, v, h, b => by
    obtain ⟨a, vs, h1, h2, h3⟩ := h
    exact ⟨a, vs, h1, h2, IsL.cut p xs vs h3 (by simpa [D.und] using b)⟩
  | .lst xs, v, h, b => by
    obtain ⟨a, vs, h1, h2, h3⟩ := h
    exact ⟨a, vs, h1, h2, IsL.cut p xs vs h3 (by simpa [D.und] using b)⟩
  | .scr xs, v, h, b => by
    obtain ⟨a, vs, h1, h2, h3⟩ := h
    exact ⟨a, vs, h1, h2, IsL.cut p xs vs h3 (by simpa [D.und] using b)⟩
  | .dic ks xs, v, h, b => by
    obtain ⟨a, vs, h1, h2, hl, h3⟩ := h
    exact ⟨a, vs, h1, h2, hl, IsL.cut p xs vs h3 (by simpa [D.und] using b)⟩
  | .loc n, v, h, b => by
    obtain ⟨a, h1, h2⟩ := h
    exact ⟨a, get_cut p h1 (by simpa [D.und] using b), h2⟩
theorem IsL.cut (p : ms <+: ms') : ∀ (xs : List D) (vs : List V), IsL K G ms' xs vs → undL ms.length xs = true → IsL K G ms xs vs
  | [], _, h, _ => h
  | x :: xs, vs, h, b => by
    obtain ⟨v, r, h1, h2, h3⟩ := h
    simp only [undL, Bool.and_eq_true] at b
    exact ⟨v, r, h1, Is.cut p x v h2 b.1, IsL.cut p xs r h3 b.2⟩
end
mutual
theorem Is.und : ∀ (d : D) (v : V), Is K G ms d v → d.und ms.length = true
  | .non, _, _ => rfl
  | .bl _, _, _ => rfl
  | .int _, _, _ => rfl
  | .str _, _, _ => rfl
  | .tup xs, v, h => by
    obtain ⟨a, vs, h1, h2, h3⟩ := h
    simpa [D.und] using IsL.und xs vs h3
  | .lst xs, v, h => by
    obtain ⟨a, vs, h1, h2, h3⟩ := h
    simpa [D.und] using IsL.und xs vs h3
  | .scr xs, v, h => by
    obtain ⟨a, vs, h1, h2, h3⟩ := h
    simpa [D.und] using IsL.und xs vs h3
  | .dic ks xs, v, h => by
    obtain ⟨a, vs, h1, h2, hl, h3⟩ := h
    simpa [D.und] using IsL.und xs vs h3
  | .loc n, v, h => by
    obtain ⟨a, h1, h2⟩ := h
    simpa [D.und] using lt_of_get h1
theorem IsL.und : ∀ (xs : List D) (vs : List V), IsL K G ms xs vs → undL ms.length xs = true
  | [], _, _ => rfl
  | x :: xs, vs, h => by
    obtain ⟨v, r, h1, h2, h3⟩ := h
    simp only [undL, Bool.and_eq_true]
    exact ⟨Is.und x v h2, IsL.und xs r h3⟩
end
theorem IsF.und : ∀ (fs : List (Str × D)) (vs : List (Str × V)), IsF K G ms fs vs → undL ms.length (fs.map Prod.snd) = true
  | [], _, _ => rfl
  | q :: r, vs, h => by
    obtain ⟨v, s, rfl, h1, h2⟩ := h
    rw [List.map_cons, undL, Is.und q.2 v h1, IsF.und r s h2]; rfl
theorem IsF.cut (p : ms <+: ms') : ∀ (fs : List (Str × D)) (vs : List (Str × V)), IsF K G ms' fs vs → undL ms.length (fs.map Prod.snd) = true → IsF K G ms fs vs
  | [], _, h, _ => h
  | q :: r, vs, h, b => by
    obtain ⟨v, s, rfl, h1, h2⟩ := h
    rw [List.map_cons, undL, Bool.and_eq_true] at b
    exact ⟨v, s, rfl, Is.cut p _ _ h1 b.1, IsF.cut p r s h2 b.2⟩
theorem IsKV.und : ∀ (kvs : List (D × D)) (xs : List (NestedKey × Addr × V)), IsKV K G ms kvs xs → (undL ms.length (kvs.map Prod.fst) && undL ms.length (kvs.map Prod.snd)) = true
  | [], _, _ => rfl
  | q :: r, xs, h => by
    obtain ⟨k, a, v, s, rfl, h1, h2, h3, h4, h5⟩ := h
    have i := IsKV.und r s h5
    rw [Bool.and_eq_true] at i
    rw [List.map_cons, List.map_cons, undL, undL, Is.und q.1 _ h3, Is.und q.2 _ h4, i.1, i.2]; rfl
theorem IsKV.cut (p : ms <+: ms') : ∀ (kvs : List (D × D)) (xs : List (NestedKey × Addr × V)), IsKV K G ms' kvs xs → undL ms.length (kvs.map Prod.fst) = true → undL ms.length (kvs.map Prod.snd) = true → IsKV K G ms kvs xs
  | [], _, h, _, _ => h
  | q :: r, xs, h, b, c => by
    obtain ⟨k, a, v, s, rfl, h1, h2, h3, h4, h5⟩ := h
    rw [List.map_cons, undL, Bool.and_eq_true] at b c
    exact ⟨k, a, v, s, rfl, h1, h2, Is.cut p _ _ h3 b.1, Is.cut p _ _ h4 c.1, IsKV.cut p r s h5 b.2 c.2⟩
theorem Hh.und (x : Hh K G ms h H) {i : Nat} {o : O} (e : h[i]? = some o) : o.und ms.length = true := by
  have hm : i < ms.length := by rw [x.len]; exact lt_of_get e
  have q := x.obj i ms[i] o (List.getElem?_eq_getElem hm) e
  cases o with
  | lst xs =>
    obtain ⟨vs, h1, h2, _⟩ := q
    exact IsL.und xs vs h2
  | ins c fs =>
    obtain ⟨C, dx, vs, _, _, _, h4, _⟩ := q
    exact IsF.und fs vs h4
  | dct fz kvs =>
    obtain ⟨xs, _, _, h3, _⟩ := q
    exact IsKV.und kvs xs h3
  | dci fz kvs => rfl
theorem ObjIs.cut (p : ms <+: ms') {a : Addr} {o : O} (q : ObjIs K G ms' H a o) (b : o.und ms.length = true) : ObjIs K G ms H a o := by
  cases o with
  | lst xs =>
    obtain ⟨vs, h1, h2, h3⟩ := q
    exact ⟨vs, h1, IsL.cut p _ _ h2 b, h3⟩
  | ins c fs =>
    obtain ⟨C, dx, vs, h1, h2, h3, h4, h5⟩ := q
    exact ⟨C, dx, vs, h1, h2, h3, IsF.cut p _ _ h4 b, h5⟩
  | dct fz kvs =>
    obtain ⟨xs, h1, h2, h3, h4, h5⟩ := q
    simp only [O.und, Bool.and_eq_true] at b
    exact ⟨xs, h1, h2, IsKV.cut p _ _ h3 b.1 b.2, h4, h5⟩
  | dci fz kvs => exact q
theorem Hh.trunc (x : Hh K G ms' h' H) (p : ms <+: ms') (hb : ∀ (i : Nat) (o : O), i < ms.length → h'[i]? = some o → o.und ms.length = true) : Hh K G ms (h'.take ms.length) H := by
  have hl : ms.length ≤ ms'.length := p.length_le
  have sub : ∀ a ∈ ms, a ∈ ms' := fun a ha => p.subset ha
  refine ⟨x.sub, x.gsz, x.frm, fun a o e => ⟨(x.frd a o e).1, fun hm => (x.frd a o e).2 (sub a hm)⟩, ?_, ?_, fun a ha => x.dis a (sub a ha), fun n a o e1 e2 => ?_⟩
  · rw [List.length_take, ← x.len]; omega
  · obtain ⟨t, rfl⟩ := p
    exact (List.nodup_append.mp x.nd).1
  · have hn := lt_of_get e1
    rw [List.getElem?_take_of_lt hn] at e2
    have q := x.obj n a o (pre_get p e1) e2
    have b := hb n o hn e2
    cases o with
    | lst xs =>
      obtain ⟨vs, h1, h2, h3⟩ := q
      exact ⟨vs, h1, IsL.cut p _ _ h2 b, h3⟩
    | ins c fs =>
      obtain ⟨C, dx, vs, h1, h2, h3, h4, h5⟩ := q
      exact ⟨C, dx, vs, h1, h2, h3, IsF.cut p _ _ h4 b, h5⟩
    | dct fz kvs =>
      obtain ⟨xs, h1, h2, h3, h4, h5⟩ := q
      simp only [O.und, Bool.and_eq_true] at b
      exact ⟨xs, h1, h2, IsKV.cut p _ _ h3 b.1 b.2, h4, h5⟩
    | dci fz kvs => exact q
theorem Hh.ice (x : Hh K G ms h H) {a : Addr} {o : HO} (e : H a = some o) (g1 : G.1 a = none) (g2 : G.2 a = none) (nm : a ∉ ms) (hz : SzO o) : Hh K (gupd G a o) ms h H := by
  refine ⟨fun b u q => ?_, fun b u q => ?_, x.frm, fun b u q => ⟨?_, (x.frd b u q).2⟩, x.len, x.nd, fun b hb => ?_, fun n b u e1 e2 => (x.obj n b u e1 e2).mono (gle_upd g1) (pre_refl _) rfl⟩
  · by_cases hq : b = a
    · subst hq
      have q : upd G.1 b o b = some u := q
      rw [upd_same] at q; cases q; exact e
    · have q : upd G.1 a o b = some u := q
      rw [upd_ne hq] at q; exact x.sub b u q
  · by_cases hq : b = a
    · subst hq
      have q : upd G.1 b o b = some u := q
      rw [upd_same] at q; cases q; exact hz
    · have q : upd G.1 a o b = some u := q
      rw [upd_ne hq] at q; exact x.gsz b u q
  · show upd G.1 a o b = none
    rw [upd_ne (fun z => by have q : G.2 b = some u := q; rw [z, g2] at q; cases q)]; exact (x.frd b u q).1
  · show upd G.1 a o b = none
    rw [upd_ne (fun z => nm (by rw [← z]; exact hb))]; exact x.dis b hb
end
inductive Md where
  | trunc | keep | move
def TruncOk (n : Nat) (h h' : Hs) : Prop := ∀ (i : Nat) (o : O), i < n → h'[i]? = some o → h[i]? = some o ∨ o.und n = true
def frz1 (n : Nat) (h' : Hs) (d : D) : Option D := if d.und n = true then some d else match d with
  | .loc m => match locAt h' m with
    | some xs => if undL n xs = true then some (.lst xs) else none
    | none => none
  | _ => none
open Classical in
noncomputable def exitT (h : Hs) (d : D) (h' : Hs) : R D := if TruncOk h.length h h' then (match frz1 h.length h' d with
  | some d' => .ok d' (h'.take h.length)
  | none => .bad) else .bad
def dctF (h : Hs) (n : Nat) : Option (List (D × D)) := match h[n]? with
  | some (.dct false kvs) => some kvs
  | _ => none
theorem dctF_some {h : Hs} {n : Nat} {kvs : List (D × D)} (e : dctF h n = some kvs) : h[n]? = some (.dct false kvs) := by
  unfold dctF at e
  split at e
  · rename_i q; cases e; exact q
  · cases e
open Classical in
noncomputable def exitM (h : Hs) (m : Nat) (h' : Hs) : R D := if TruncOk h.length h h' ∧ h.length ≤ m then (match locAt h' m with
  | some xs => if undL h.length xs = true then .ok (.loc h.length) (h'.take h.length ++ [.lst xs]) else .bad
  | none => (match dctF h' m with
    | some kvs => if (O.dct false kvs).und h.length = true then .ok (.loc h.length) (h'.take h.length ++ [.dct false kvs]) else .bad
    | none => .bad)) else .bad
noncomputable def exitF (md : Md) (h : Hs) (d : D) (h' : Hs) : R D := match md with
  | .keep => .ok d h'
  | .trunc => exitT h d h'
  | .move => match d with
    | .loc m => exitM h m h'
    | _ => exitT h d h'
open Classical in
noncomputable def exitX (h : Hs) (x : Xn) (h' : Hs) : R D := if TruncOk h.length h h' ∧ (∀ f d, x.val = some (f, d) → d.und h.length = true) then .err x (h'.take h.length) else .bad
noncomputable def runF (n N : Nat) (md : Md) (b : FS) : List D → Hs → R D := fun ds h => if ds.length = n then (match b (ds.map some ++ List.replicate (N - n) none) h with
  | .nx _ h' => exitF md h .non h'
  | .rt d h' => exitF md h d h'
  | .er x _ h' => exitX h x h'
  | _ => .bad) else .bad
/-- a def's promise: it does what g says -/
def spF (K : PySem.W.Frag) (mg : Str → Option Value) (n : Nat) (g : List D → Hs → R D) : Sp := fun vs H Q E => vs.length = n ∧ ∃ G ms ds h, Hh K G ms h H ∧ IsL K G ms ds vs ∧ Post K mg E G ms (Is K) (g ds h) Q
section
variable {K : PySem.W.Frag} {mg : Str → Option Value} {E : XK} {G G' : GG} {H H' : Hp} {ms ms' : List Addr} {h h' : Hs}
theorem trunc_ok (x : Hh K G ms h H) (x' : Hh K G' ms' h' H') (p : ms <+: ms') (t : TruncOk h.length h h') : Hh K G' ms (h'.take h.length) H' := by
  rw [← x.len] at t ⊢
  refine x'.trunc p fun i o hi e => ?_
  rcases t i o hi e with q | q
  · exact x.und q
  · exact q
theorem exitT_post {d : D} {v : V} {Q : VK} (x : Hh K G ms h H) (e : GLe G G') (p : ms <+: ms') (x' : Hh K G' ms' h' H') (i : Is K G' ms' d v) (q : Post K mg E G ms (Is K) (exitT h d h') Q) : Q v H' := by
  unfold exitT at q
  split at q
  · rename_i t
    have xt := trunc_ok x x' p t
    unfold frz1 at q
    split at q
    · rename_i d' ed
      split at ed
      · rename_i hb
        cases ed
        exact q.fin2 e (pre_refl _) xt (Is.cut p _ _ i (by rw [x.len]; exact hb))
      · split at ed
        · rename_i m hb
          split at ed
          · rename_i xs ex
            split at ed
            · rename_i hx
              cases ed
              obtain ⟨a, vs, e1, e2, e3, e4⟩ := x'.locW i ex
              subst e1
              have g1 := x'.dis a (List.mem_of_getElem? e2)
              have g2 : G'.2 a = none := by
                cases z : G'.2 a with
                | none => rfl
                | some u =>
                  obtain ⟨od, u', w⟩ := (x'.frd a u z).2 (List.mem_of_getElem? e2)
                  have k := x'.frm a u z
                  rw [w, e3] at k
                  cases k
              have nm : a ∉ ms := fun hm => by
                obtain ⟨j, hj⟩ := List.getElem?_of_mem hm
                have := nd_ix x'.nd (pre_get p hj) e2
                subst this
                exact hb (by simpa [D.und, x.len] using lt_of_get hj)
              refine q.fin2 (e.trans (gle_upd g1)) (pre_refl _) (xt.ice e3 g1 g2 nm (show vs.length ≤ sizeLine by rw [← e4.length]; exact x'.atz (locAt_some ex))) ⟨a, vs, rfl, upd_same, ?_⟩
              exact IsL.mono (gle_upd g1) (pre_refl _) _ _ (IsL.cut p _ _ e4 (by rw [x.len]; exact hx))
            · cases ed
          · cases ed
        · cases ed
    · exact q.elim
  · exact q.elim
theorem exitM_core {m : Nat} {a : Addr} {ob : O} (x : Hh K G ms h H) (p : ms <+: ms') (x' : Hh K G' ms' h' H') (e2 : ms'[m]? = some a) (eo : h'[m]? = some ob) (hu : ob.und h.length = true) (t : TruncOk h.length h h') (hm : h.length ≤ m) :
    Hh K G' (ms ++ [a]) (h'.take h.length ++ [ob]) H' := by
  have xt := trunc_ok x x' p t
  have q := x'.obj m a ob e2 eo
  have q' := q.cut p (by rw [x.len]; exact hu)
  have nm : a ∉ ms := fun hma => by
    obtain ⟨j, hj⟩ := List.getElem?_of_mem hma
    have := nd_ix x'.nd (pre_get p hj) e2
    subst this
    have := lt_of_get hj
    rw [x.len] at this
    omega
  have hl : (h'.take h.length).length = ms.length := xt.len.symm
  have pp : ms <+: ms ++ [a] := ⟨[a], rfl⟩
  refine ⟨xt.sub, xt.gsz, xt.frm, fun b u z => ⟨(xt.frd b u z).1, fun hm => ?_⟩, by simp [hl], ?_, fun b hb => ?_, fun n b u e1 e2' => ?_⟩
  · rcases List.mem_append.mp hm with w | w
    · exact (xt.frd b u z).2 w
    · have : b = a := by simpa using w
      subst this
      exact (x'.frd b u z).2 (List.mem_of_getElem? e2)
  · refine List.nodup_append.mpr ⟨xt.nd, by simp, fun b hb c hc => ?_⟩
    have : c = a := by simpa using hc
    subst this
    exact fun z => nm (by rw [← z]; exact hb)
  · rcases List.mem_append.mp hb with w | w
    · exact xt.dis b w
    · have : b = a := by simpa using w
      subst this
      exact x'.dis _ (List.mem_of_getElem? e2)
  · by_cases hn : n < ms.length
    · rw [List.getElem?_append_left hn] at e1
      rw [List.getElem?_append_left (by rw [hl]; exact hn)] at e2'
      exact (xt.obj n b u e1 e2').mono (GLe.refl _) pp rfl
    · have hn' : n = ms.length := by
        have := lt_of_get e1
        simp at this; omega
      subst hn'
      simp at e1
      rw [← hl] at e2'
      simp at e2'
      subst e1 e2'
      exact q'.mono (GLe.refl _) pp rfl
theorem exitM_post {m : Nat} {v : V} {Q : VK} (x : Hh K G ms h H) (e : GLe G G') (p : ms <+: ms') (x' : Hh K G' ms' h' H') (i : Is K G' ms' (.loc m) v) (q : Post K mg E G ms (Is K) (exitM h m h') Q) : Q v H' := by
  obtain ⟨a, e2, rfl⟩ := i
  have fin : ∀ ob : O, h'[m]? = some ob → ob.und h.length = true → TruncOk h.length h h' ∧ h.length ≤ m → Post K mg E G ms (Is K) (.ok (.loc h.length) (h'.take h.length ++ [ob])) Q → Q (.ref a) H' := fun ob eo hu t q =>
    q.fin2 (ms' := ms ++ [a]) e ⟨[a], rfl⟩ (exitM_core x p x' e2 eo hu t.1 t.2) ⟨a, by rw [← x.len]; simp, rfl⟩
  unfold exitM at q
  split at q
  · rename_i t
    split at q
    · rename_i xs ex
      split at q
      · rename_i hx
        exact fin (.lst xs) (locAt_some ex) hx t q
      · exact q.elim
    · split at q
      · rename_i kvs ek
        split at q
        · rename_i hx
          exact fin (.dct false kvs) (dctF_some ek) hx t q
        · exact q.elim
      · exact q.elim
  · exact q.elim
theorem exitF_post {md : Md} {d : D} {v : V} {Q : VK} (x : Hh K G ms h H) (e : GLe G G') (p : ms <+: ms') (x' : Hh K G' ms' h' H') (i : Is K G' ms' d v) (q : Post K mg E G ms (Is K) (exitF md h d h') Q) : Q v H' := by
  cases md with
  | keep => exact q.fin2 e p x' i
  | trunc => exact exitT_post x e p x' i q
  | move =>
    cases d with
    | loc m => exact exitM_post x e p x' i q
    | _ => exact exitT_post x e p x' i q
theorem exitX_post {y : Xn} {d : Option Addr} {Q : VK} (x : Hh K G ms h H) (e : GLe G G') (p : ms <+: ms') (x' : Hh K G' ms' h' H') (i : XIs K G' ms' H' y d) (q : Post K mg E G ms (Is K) (exitX h y h') Q) : E (clsV mg y) d H' := by
  unfold exitX at q
  split at q
  · rename_i t
    have xt := trunc_ok x x' p t.1
    refine q H' G' ms d e (pre_refl _) xt ?_
    unfold XIs at i ⊢
    cases ev : y.val with
    | none => rw [ev] at i; exact i
    | some fd =>
      obtain ⟨f, dd⟩ := fd
      rw [ev] at i
      obtain ⟨a, v, k1, k2, k3⟩ := i
      exact ⟨a, v, k1, k2, Is.cut p _ _ k3 (by rw [x.len]; exact t.2 f dd ev)⟩
  · exact q.elim
theorem map_start {N : List Str} {ds : List D} {vs : List V} (i : IsL K G ms ds vs) : Sl K G ms [] (ds.map some ++ List.replicate (N.length - ds.length) none) (start N vs) := by
  unfold L2.start
  have hl := i.length
  refine ⟨by simp [hl], fun j d e => ?_, fun _ h => (nomatch h)⟩
  by_cases hj : j < ds.length
  · rw [List.getElem?_append_left (by simpa using hj), List.getElem?_map] at e
    cases ed : ds[j]? with
    | none => rw [ed] at e; cases e
    | some d' =>
      rw [ed] at e
      cases e
      obtain ⟨v, k1, k2⟩ := i.get ed
      refine ⟨v, ?_, k2⟩
      rw [List.getElem?_append_left (by rw [List.length_map, ← hl]; exact hj), List.getElem?_map, k1]
      rfl
  · rw [List.getElem?_append_right (by simpa using hj)] at e
    have := List.mem_of_getElem? e
    have := List.eq_of_mem_replicate this
    cases this
end
section
variable {P : Program} {w : World} {K : PySem.W.Frag} {mg : Str → Option Value} {base : Heap}
/-- THE RULE for a def -/
theorem fn_ok (md : Md) {x qual : Str} {st : Stmt} {f : Addr} {fd : FuncData} {N ps : List Str} {k : Nat} {b : FS} (F : Fun K x qual st f fd) (S : FnScope N ps (defScope st))
    (hb : ∀ (cdv : Value) (A : Around) (outer : List Env) (s : Shared) (H : Hp) (E : XK), Room k (A.deeper (envOfC qual (defScope st) s.heap.objs.size f cdv)) → VSs (cxOf (L2.CX P w) P w K mg base N qual (defScope st) f cdv A outer s H E) (fun cls d _ H => E cls d H) [] (defBody st) b) :
    FnOk P w K mg base (L2.CX P w) (k + 1) f fd ps (spF K mg ps.length (runF ps.length N.length md b)) := by
  refine F.okX S (fun vs H Q E h => h.1) (fun cdv A outer s H vs Q E hr h => ?_)
  obtain ⟨hl, G, ms, ds, h, hh, i, q⟩ := h
  refine ⟨_, hb cdv A outer s H E hr, G, ms, _, h, hh, map_start (N := N) i, ?_⟩
  have hd : ds.length = ps.length := by rw [i.length]; exact hl
  unfold runF at q
  rw [if_pos hd] at q
  rw [hd]
  cases e : b (ds.map some ++ List.replicate (N.length - ps.length) none) h with
  | nx s' h' =>
    rw [e] at q
    exact fun σ' H' G' ms' e1 p1 hh1 sl1 => exitF_post (d := .non) hh e1 p1 hh1 rfl q
  | rt d h' =>
    rw [e] at q
    exact fun v H' G' ms' e1 p1 hh1 i1 => exitF_post hh e1 p1 hh1 i1 q
  | er y s' h' =>
    rw [e] at q
    exact fun σ' H' G' ms' d e1 p1 hh1 _ i1 => exitX_post hh e1 p1 hh1 i1 q
  | bk s' h' => rw [e] at q; exact q.elim
  | ct s' h' => rw [e] at q; exact q.elim
  | bad => rw [e] at q; exact q.elim
end
section
variable {X : Cx} {W : WX} {pin : List Pn} {pos p : Pos}
def eCall (n : Nat) (g : List D → Hs → R D) (f : FA) : FE := fun s h => (f s h).bind fun ds h1 => if ds.length = n then g ds h1 else .bad
end
/-- the law's own promise -/
def spL (K : PySem.W.Frag) (g : List D → Hs → R D) : Sp := fun vs H Q _ => spF K (fun _ => none) 1 g vs H Q fun _ _ _ => False
theorem spL_imp {K : PySem.W.Frag} {mg : Str → Option Value} {g : List D → Hs → R D} {vs : List V} {H : Hp} {Q : VK} {E : XK} (q : spL K g vs H Q E) : spF K mg 1 g vs H Q E := by
  obtain ⟨hl, G, ms, ds, h, hh, i, q⟩ := q
  refine ⟨hl, G, ms, ds, h, hh, i, ?_⟩
  cases e : g ds h with
  | ok d h' => rw [e] at q; exact q
  | err x h' => rw [e] at q; exact fun H' G' ms' d h1 h2 h3 h4 => (q H' G' ms' d h1 h2 h3 h4).elim
  | bad => rw [e] at q; exact q
end WD
namespace WD
open PySem PySem.Spec PyProof.Rows L2
def sRaise (name : Str) : FS := fun s h => .er ⟨name, none⟩ s h
/-- what is known of an own error's class -/
structure Xc (K : PySem.W.Frag) (mg : Str → Option Value) (x : Str) (C : Addr) : Prop where
  g : mg x = some (.ref C)
  q : PySem.W.excIn K C veBm "ValueError.__new__" = true
  k : PySem.W.keepIn K (.ref C) = true
  b : PySem.W.subIn K (.ref C) (.type "BaseException") = some true
  t : PySem.W.typeIn K (.ref C) = some (.type "type")
section
variable {X : Cx} {W : WX} {pin : List Pn} {pos : Pos}
theorem pmk_own0 {x : Str} {p : Pos} {C : Addr} (c : Xc X.K X.mg x C) (hg : Gl X x) (hdb : (x == ("__debug__" : Str)) = false := by decide) : PMk X (.Call (.Name x p) [] [] pos) (fun _ H Q => Q (.ref C) none H) := by
  intro pins s σ H Q I h
  refine wpAny_Call_Name_kw (ld_glob I hg c.g ?_ hdb)
  refine PySem.W.callWith_K0 I.kIn c.k ?_
  obtain ⟨bm, N, nm, qn, bs, hdct, sn, sub, ab, col, dd, k0, k1, k2, k3, k5, mN, hC, hN, hni, T⟩ := exc_obj I.kIn c.q
  refine wpAny_call_exc_subT PySem.F.excBase_ValueError T hC hN hni (fun h' e hm => ?_) (Nat.zero_le _)
  exact mk_of I hm (raises_own c.b c.t) h (I.hok.gone hm.new)
theorem vs_raise {x : Str} {p pos' : Pos} {C : Addr} (c : Xc X.K X.mg x C) (hg : Gl X x) (hc : X.calm = true) (tk : Takes X W) (hdb : (x == ("__debug__" : Str)) = false := by decide) : VS X W pin (.Raise (some (.Call (.Name x p) [] [] pos')) none pos) (sRaise x) := by
  refine ps_imp (ps_raise hc tk (pmk_own0 c hg hdb)) fun D σ H ⟨G, ms, s, h, hh, sl, q⟩ => ?_
  have e : clsV X.mg ⟨x, none⟩ = .ref C := by unfold clsV; rw [c.g]; rfl
  have := q σ H G ms none (GLe.refl _) (pre_refl _) hh sl rfl
  rw [e] at this
  exact this
end
/-- every error is a DaysError and a ValueError -/
def subX (y c : Str) : Bool := decide (y = c) || decide (c = "DaysError") || decide (c = "ValueError")
def unset (i : Nat) (r : RS) : RS := match r with
  | .nx s h => .nx (s.set i none) h
  | .bk s h => .bk (s.set i none) h
  | .ct s h => .ct (s.set i none) h
  | .rt d h => .rt d h
  | _ => .bad
section
variable {X : Cx} {W : WX} {pin : List Pn} {pos : Pos} {K : PySem.W.Frag} {G : GG} {ms : List Addr}
theorem Sl.setPin {s : Ss} {σ : L2.St} {i : Nat} {v : V} (x : Sl K G ms pin s σ) (np : NotPin pin i) (hi : i < σ.length) : Sl K G ms (.s i v :: pin) (s.set i none) (σ.set i (some v)) := by
  refine ⟨by simp [x.len], fun j d e => ?_, fun p hp => ?_⟩
  · by_cases hj : j = i
    · subst hj
      rw [List.getElem?_set_self (by rw [x.len]; exact hi)] at e
      cases e
    · rw [List.getElem?_set_ne (Ne.symm hj)] at e ⊢
      exact x.get j d e
  · rcases List.mem_cons.mp hp with rfl | hp
    · exact List.getElem?_set_self hi
    · exact (x.pin p hp).set (np p hp)
theorem Sl.unPin {s : Ss} {σ : L2.St} {i : Nat} {v : V} (x : Sl K G ms (.s i v :: pin) s σ) (np : NotPin pin i) : Sl K G ms pin (s.set i none) (σ.set i none) := by
  refine ⟨by simp [x.len], fun j d e => ?_, fun p hp => ?_⟩
  · by_cases hj : j = i
    · subst hj
      have hl := lt_of_get e
      simp at hl
      rw [List.getElem?_set_self hl] at e
      cases e
    · rw [List.getElem?_set_ne (Ne.symm hj)] at e ⊢
      exact x.get j d e
  · exact (x.pin p (List.mem_cons_of_mem _ hp)).set (np p hp)
/-- isinstance(n, c) of the caught error -/
theorem ve_isE {a Dc : Addr} {oe : Obj} {pn : List (Addr × Obj)} (i : Nat) {n x : Str} {cv : Value} {c : V} {b : Bool} {p p1 p2 : Pos} (C : ExcC X.K Dc) (hz : Zc (.ref Dc) none oe) (hf : ∃ vs, oe.data = .fields vs) (hk : PySem.W.kitOne X.K (.ref Dc) cv = some b) (hcv : ∀ u, RelV c u → u = cv)
    (hx : PE (X.suite a ((a, oe) :: pn)) (.Name x p2) (tC c)) (hp : Pn.s i (V.ref a) ∈ pin) (hgi : Gl X "isinstance") (hmi : X.mg "isinstance" = none) (hN : X.N[i]? = some n := by rfl) (hv : Vis X.env.scope n := by first | exact Or.inl rfl | exact Or.inr (Or.inl rfl) | exact Or.inr (Or.inr rfl))
    (hd : (n == ("__debug__" : Str)) = false := by decide) (hcd : (n == ("__classdict__" : Str)) = false := by decide)
    (hs1 : starEach [.Name n p1, .Name x p2] X.env = (false, eval (.Name n p1) X.env) :: starEach [.Name x p2] X.env := by rfl) (hs2 : starEach [.Name x p2] X.env = (false, eval (.Name x p2) X.env) :: starEach [] X.env := by rfl) (hpl : (backTo pos (starEach [.Name x p2] X.env)).any (·.1) = false := by rfl) :
    VE (X.suite a ((a, oe) :: pn)) W pin (.Call (.Name "isinstance" p) [.Name n p1, .Name x p2] [] pos) (eC (.bl b)) := by
  refine pe_imp (pe_callB (call_isE C hz hf) hgi hmi (by decide +kernel) (pa_cons (pe_var (X := X.suite a ((a, oe) :: pn)) (i := i) hN hv hd hcd) (pa_cons hx pa_nil hs2) hs1) (by decide) (by decide) hs1 hpl) fun σ H Q ⟨G, ms, s, h, hh, sl, q⟩ => ?_
  refine ⟨.ref a, sl.pin _ hp, ?_⟩
  exact ⟨c, cv, b, rfl, hcv, hk, Post.fin (b := V.bl b) q hh rfl⟩
end
end WD
namespace WD
open PySem PySem.Spec PyProof.Rows L2
section
variable {X : Cx} {W : WX} {pin : List Pn} {K : PySem.W.Frag} {mg : Str → Option Value} {E : XK} {G G' : GG} {H : Hp} {ms ms' : List Addr} {h : Hs} {pos : Pos}
theorem Post.newD {ks : List Key} {xs : List D} {vs : List V} {Q : VK} {p : Addr} (q : Post K mg E G ms (Is K) (.ok (.dic ks xs) h) Q) (hh : Hh K G ms h H) (i : IsL K G ms xs vs) (hl : ks.length = vs.length) (hp : H p = none) : Q (.ref p) (upd H p (.dK (ks.zip vs))) := by
  have eg : GLe G (gupd G p (.dK (ks.zip vs))) := gle_upd (hh.gnone hp)
  exact q.fin2 eg (pre_refl _) (hh.still hp trivial) ⟨p, vs, rfl, upd_same, hl, IsL.mono eg (pre_refl _) _ _ i⟩
theorem ve_dict0 : VE X W pin (.Dict [] [] pos) (eC (.dic [] [])) :=
  pe_imp pe_dnewK fun σ H Q ⟨G, ms, s, h, hh, sl, q⟩ p hp => Post.newD (vs := []) q hh rfl rfl hp
theorem upd_upd {H : Hp} {p : Addr} {o o' : HO} : upd (upd H p o) p o' = upd H p o' := by
  funext a
  by_cases hz : a = p
  · subst hz; rw [upd_same, upd_same]
  · rw [upd_ne hz, upd_ne hz, upd_ne hz]
theorem ve_dict1 {i j : Int} {a b : Nat} {p1 p2 : Pos} : VE X W pin (.Dict [some (.Constant (.int i) a p1)] [.Constant (.int j) b p2] pos) (eC (.dic [.inl i] [.int j])) :=
  pe_imp (pe_disp (pps_cons pe_int pe_int pps_nil) rfl rfl (by simp) (by simp)) fun σ H Q ⟨G, ms, s, h, hh, sl, q⟩ p hp => by
    refine ⟨upd_same, [(.inl i, .int j)], rfl, by simp, ?_⟩
    rw [upd_upd]
    exact Post.newD (vs := [.int j]) q hh ⟨_, _, rfl, rfl, rfl⟩ rfl hp
end
end WD
namespace WD
open PySem PySem.Spec PyProof.Rows L2
set_option maxHeartbeats 1000000 in
theorem enum_new1 {v : Value} {o : Obj} {Z : Heap → Prop} (B : Begins v o Z) :
    Meets (Builtin.«enumerate.__new__» ⟨[.type "enumerate", v], []⟩) (fun _ R s => Z s.heap ∧
      R (.ok (.ret (.ref (s.heap.push o).objs.size))) { s with heap := (s.heap.push o).push { cls := .type "enumerate", data := .fields #[.none, .bool false, .ref s.heap.objs.size, rawInt 0, .none, .none] } }) :=
  .of_wp fun prog w A R s h => by
    obtain ⟨hp, gs, dr, tk, os⟩ := s
    obtain ⟨h1, h⟩ := h
    have hsub := sub_enumerate
    have q1 : ∀ {A' : Around} {E : Value → Shared → Prop} {Q : Value → Shared → Prop}, Q (.ref hp.objs.size) ⟨hp.push o, gs, dr, tk, os⟩ → wpAny (model prog w) A' (pyIter v) Q E ⟨hp, gs, dr, tk, os⟩ :=
      fun q => B.iter prog w _ _ ⟨hp, gs, dr, tk, os⟩ _ h1 q
    wp_walk using q1
    refine wpAny_stack_any fun st => wpAny_pure ?_
    split
    · rename_i c _ _ _ _ _
      cases (c == Value.type "enumerate") <;> (wp_walk using q1; exact ⟨_, rfl, h⟩)
    · wp_walk using q1
      exact ⟨_, rfl, h⟩
theorem enum_call1 {prog : Program} {w : World} {A : Around} {E : Value → Shared → Prop} {s : Shared} {v : Value} {o : Obj} {Z : Heap → Prop} {Q : Value → Shared → Prop} (B : Begins v o Z) (h1 : Z s.heap)
    (h : ∀ h', IsEnum h' (s.heap.objs.size + 1) s.heap.objs.size 0 .none → h'.get? s.heap.objs.size = some o → (∀ b o, s.heap.get? b = some o → h'.get? b = some o) → Q (.ref (s.heap.objs.size + 1)) { s with heap := h' }) :
    wpAny (model prog w) A (call (.type "enumerate") [v]) Q E s := by
  refine callType_new F.called_enumerate (by decide) (F.typeCall_enumerate_1 _) (F.newCall_enumerate_1 _) (fun obj => F.args_object_init_2 obj _) F.entry_enumerate_new (enum_new1 B) ⟨h1, ?_⟩
  have hz : (s.heap.push o).objs.size = s.heap.objs.size + 1 := Heap.size_push ..
  show _ ∧ _
  rw [hz]
  have he : IsEnum ((s.heap.push o).push { cls := .type "enumerate", data := .fields #[.none, .bool false, .ref s.heap.objs.size, rawInt 0, .none, .none] }) (s.heap.objs.size + 1) s.heap.objs.size 0 .none := by
    have q := Heap.get?_push_size (s.heap.push o) (o := { cls := .type "enumerate", data := .fields #[.none, .bool false, .ref s.heap.objs.size, rawInt 0, .none, .none] }) rfl
    rw [hz] at q; exact q
  exact ⟨⟨_, he, rfl⟩, h _ he (Heap.get?_push_of_some _ (Heap.get?_push_size _ B.free)) fun b o x => Heap.get?_push_of_some _ (Heap.get?_push_of_some _ x)⟩
/-- the tuple at a, each item in a new pair -/
def IteT (K : PySem.W.Frag) (a : Addr) : It :=
  ⟨fun i H => ∃ (xs : List V) (x : V), SqT K H a xs ∧ xs[i]? = some x, fun i H v H' => ∃ T x, v = .ref T ∧ H T = none ∧ H' = upd H T (.tup [.int (i : Nat), x]) ∧ ∀ xs, SqT K H a xs → xs[i]? = some x, fun i H => ∃ xs : List V, SqT K H a xs ∧ xs.length = i⟩
theorem turn_enumT {P : Program} {w : World} {K : PySem.W.Frag} {elts : List Expr} {kk : Nat} {tpos : Pos} (a e it : Addr) :
    Turn P w K (.Tuple elts kk tpos) (IteT K a) [e, it] e (fun i h => (∃ old, IsEnum h e it ((i : Nat) : Int) old) ∧ h.IsTupleIter it a i ∧ e ≠ it ∧ a ≠ it ∧ a ≠ e) where
  mem := List.mem_cons_self
  obj := fun i h st b hb => by
    obtain ⟨⟨old, he⟩, ⟨o, ho, hc, hd⟩, _⟩ := st
    rcases (show b = e ∨ b = it by simpa using hb) with rfl | rfl
    · exact ⟨_, he, fun v q => nomatch q⟩
    · exact ⟨o, ho, fun v q => by rw [hd] at q; cases q⟩
  keep := fun i h h' st k => let ⟨⟨old, he⟩, hi, hne⟩ := st; ⟨⟨old, k e (by simp) _ he⟩, hi.at fun o q => k it (by simp) o q, hne⟩
  item := by
    intro X hP hw hK hc i pins s σ H E I hf st hg
    subst hP hw hK
    obtain ⟨⟨old, he⟩, hit, hne, hai, hae⟩ := st
    obtain ⟨xs, x, hq, hx⟩ := hg
    obtain ⟨its, rv, p, hz⟩ := I.tuple hq
    obtain ⟨u, hu, ru⟩ := rv.get hx
    have hel : e < s.heap.objs.size := Heap.lt_size he
    have hil : it < s.heap.objs.size := by obtain ⟨_, q, _⟩ := hit; exact Heap.lt_size q
    have hlt : i < its.toArray.size := by
      rcases Nat.lt_or_ge i its.length with z | z
      · simpa using z
      · rw [List.getElem?_eq_none z] at hu; cases hu
    refine wpAny_pyNext_enum_itemC (Draws.tuple (A := X.A.in1) (I.ok.hd hc) it a hai its.toArray) he ⟨hit, p⟩ hlt hne (by simp; exact ⟨hne, Ne.symm hae⟩) fun x' h' tk hPx ho st' hT hsz hk => ?_
    have hxu : x' = u := by
      have h2 : its[i]? = some x' := by simpa using hPx
      rw [hu] at h2
      exact (Option.some.inj h2).symm
    subst hxu
    refine ⟨_, rfl, wpAny_letOwnedTupleGo_enum (s := { s with heap := h', toks := tk + 1 }) ho fun h'' he' sb => ?_⟩
    have hT2 : h''.get? s.heap.objs.size = some { cls := .type "tuple", data := .seq #[.int i tk, x'] } := (sb.2 _ (Nat.ne_of_gt hel)).trans hT
    have new : ObjOk X.prog X.w (upd H s.heap.objs.size (.tup [.int (i : Nat), x])) h'' s.heap.objs.size (.tup [.int (i : Nat), x]) :=
      ⟨show 2 ≤ sizeLine by decide, [.int i tk, x'], .cons ⟨_, rfl⟩ (.cons ru .nil), ⟨_, hT2, rfl, _, rfl⟩⟩
    have I1 : Inv X pins σ (upd H s.heap.objs.size (.tup [.int (i : Nat), x])) { s with heap := h'', toks := tk + 1 } :=
      I.turnedNew (ch := [e, it]) (fun b ob hb q => (sb.2 b (fun z => hb (by simp [z]))).trans (hk b ob (fun z => hb (by simp [z])) (fun z => hb (by simp [z])) q)) hf (Nat.le_refl _) new
    refine ⟨.ref s.heap.objs.size, _, I1, rfl, ⟨_, x, rfl, I.hok.fresh (Nat.le_refl _), rfl, fun ys hy => by rw [I.tuple_inj hy hq]; exact hx⟩, ⟨⟨x', ?_⟩, st'.1.at fun o q => (sb.2 it (Ne.symm hne)).trans q, hne, hai, hae⟩, fun b hb => ?_⟩
    · rw [show ((i + 1 : Nat) : Int) = (i : Int) + 1 by omega]; exact he'
    · have hb' : b < s.heap.objs.size := by
        rcases (show b = e ∨ b = it by simpa using hb) with rfl | rfl
        · exact hel
        · exact hil
      rw [upd_ne (Nat.ne_of_lt hb')]
      exact (hf b hb).1
  done := by
    intro X hP hw hK hc i pins s σ H E I hf st hg
    subst hP hw hK
    obtain ⟨⟨old, he⟩, hit, hne, hai, hae⟩ := st
    obtain ⟨xs, hq, hx⟩ := hg
    obtain ⟨its, rv, p, hz⟩ := I.tuple hq
    obtain ⟨f0, f1, f2, f3, f4, f5⟩ := hf it (by simp)
    have hl : its.toArray.size = i := by have := rv.length; simp; omega
    exact wpAny_pyNext_enum_endD (Draws.tuple (A := X.A.in1) (I.ok.hd hc) it a hai its.toArray) he (by rw [hl]; exact ⟨hit, p⟩) fun h' eb => ⟨rfl, I.turned (t' := s.toks) (fun b o hb q => eb b o hb q) f0 f1 f3 f4 f5⟩
  self := fun A i s Q E st h => let ⟨⟨_, he⟩, _⟩ := st; wpAny_pyIter_enum he h
section
variable {X : Cx} {W : WX} {pin : List Pn} {K : PySem.W.Frag} {mg : Str → Option Value} {E : XK} {G G' : GG} {H : Hp} {ms ms' : List Addr} {h : Hs} {pos : Pos}
/-- enumerate of a list or a tuple -/
def iEnumA (K : PySem.W.Frag) (ta : TA) : TI := fun σ H R => ta σ H fun vs H1 => ∃ a, vs = [.ref a] ∧ (((∃ xs, SqL K H1 a xs) ∧ R (Ite K a) H1) ∨ ((∃ xs, SqT K H1 a xs) ∧ R (IteT K a) H1))
theorem pi_enumA {e : Expr} {ta : TA} {p tpos : Pos} {elts : List Expr} {kk : Nat} (hg : Gl X "enumerate") (hm : X.mg "enumerate" = none) (ha : PA X [e] ta) (hs : starEach [e] X.env = [(false, eval e X.env)] := by rfl) :
    PI X (.Tuple elts kk tpos) (.Call (.Name "enumerate" p) [e] [] pos) (iEnumA X.K ta) := by
  refine ⟨fun pins s σ H R I h => ?_⟩
  refine Call_ (ld_blt I hg hm boot_enumerate (PyProof.Rows.callWith_type1 (thn (ha.run pos pins s σ H _ I h) fun us s1 ⟨vs, H1, I1, r1, q1⟩ => ?_) hs rfl))
  obtain ⟨a, rfl, q1⟩ := q1
  cases r1 with
  | cons r rr =>
    cases rr
    cases r
    have fp : ∀ b ∈ [s1.heap.objs.size + 1, s1.heap.objs.size], FpOk X pins H1 b := fun b hb => by
      have hle : s1.heap.objs.size ≤ b := by
        rcases (show b = s1.heap.objs.size + 1 ∨ b = s1.heap.objs.size by simpa using hb) with rfl | rfl
        · exact Nat.le_add_right _ _
        · exact Nat.le_refl _
      exact I1.fpOk hle (I1.hok.fresh hle)
    rcases q1 with ⟨⟨xs, hq⟩, q⟩ | ⟨⟨xs, hq⟩, q⟩
    · obtain ⟨its, rv, p', hz⟩ := I1.list hq
      refine call_enumerate_list p'.isList fun h' he hit hsz hk => wpAny_pyIter_enum he ?_
      exact ⟨s1.heap.objs.size + 1, [s1.heap.objs.size + 1, s1.heap.objs.size], _, _, H1, rfl, I1.kept (t' := s1.toks) hk, turn_enum a (s1.heap.objs.size + 1) s1.heap.objs.size, ⟨⟨.none, he⟩, hit, Nat.succ_ne_self _⟩, fp, q⟩
    · obtain ⟨its, rv, p', hz⟩ := I1.tuple hq
      have hal : a < s1.heap.objs.size := by obtain ⟨_, q, _⟩ := p'; exact Heap.lt_size q
      refine enum_call1 (begins_tuple a its.toArray) p' fun h' he hit hk => wpAny_pyIter_enum he ?_
      exact ⟨s1.heap.objs.size + 1, [s1.heap.objs.size + 1, s1.heap.objs.size], _, _, H1, rfl, I1.kept (t' := s1.toks) hk, turn_enumT a (s1.heap.objs.size + 1) s1.heap.objs.size, ⟨⟨.none, he⟩, ⟨_, hit, rfl, rfl⟩, Nat.succ_ne_self _, Nat.ne_of_lt hal, Nat.ne_of_lt (Nat.lt_succ_of_lt hal)⟩, fp, q⟩
def enL : Nat → List D → List D
  | _, [] => []
  | i, d :: ds => .tup [.int (i : Nat), d] :: enL (i + 1) ds
theorem enL_length : ∀ (ds : List D) (i : Nat), (enL i ds).length = ds.length
  | [], _ => rfl
  | d :: ds, i => by simp [enL, enL_length ds]
theorem enL_get : ∀ (ds : List D) (k i : Nat), (enL k ds)[i]? = (ds[i]?).map fun d => .tup [.int ((k + i : Nat)), d]
  | [], k, i => by simp [enL]
  | d :: ds, k, 0 => by simp [enL]
  | d :: ds, k, i + 1 => by
    rw [enL, List.getElem?_cons_succ, List.getElem?_cons_succ, enL_get ds (k + 1) i]
    rw [show k + 1 + i = k + (i + 1) by omega]
theorem pair_new {a b : D} {x y : V} {p : Addr} (hh : Hh K G ms h H) (i1 : Is K G ms a x) (i2 : Is K G ms b y) (hp : H p = none) : ∃ G', GLe G G' ∧ Hh K G' ms h (upd H p (.tup [x, y])) ∧ Is K G' ms (.tup [a, b]) (.ref p) := by
  have eg : GLe G (gupd G p (.tup [x, y])) := gle_upd (hh.gnone hp)
  exact ⟨_, eg, hh.still hp (show 2 ≤ sizeLine by decide), p, [x, y], rfl, upd_same, x, [y], rfl, Is.mono eg (pre_refl _) _ _ i1, y, [], rfl, Is.mono eg (pre_refl _) _ _ i2, rfl⟩
theorem yields_enL {a : Addr} {ds : List D} {ws : List V} (q : SqL K G.1 a ws) (i : IsL K G ms ds ws) : Yields K (Ite K a) G ms (enL 0 ds) := fun j h G' ms' H hh e p => by
  have q' : SqL K H a ws := hh.sub.seq (e.seq q)
  have i' := IsL.mono' e p _ _ i
  refine ⟨fun d hd => ?_, fun hl => ⟨ws, q', by rw [← i.length]; rw [enL_length] at hl; exact Nat.le_of_eq hl⟩⟩
  rw [enL_get] at hd
  cases hx : ds[j]? with
  | none => rw [hx] at hd; cases hd
  | some b =>
    rw [hx] at hd
    cases hd
    obtain ⟨v, h1, h2⟩ := i'.get hx
    refine ⟨⟨ws, v, q', h1⟩, fun x H' ⟨T, x', e1, e2, e3, e4⟩ => ?_⟩
    subst e1 e3
    have := e4 ws q'
    rw [h1] at this
    cases this
    rw [Nat.zero_add]
    exact pair_new hh rfl h2 e2
theorem yields_enT {a : Addr} {ds : List D} {ws : List V} (q : SqT K G.1 a ws) (i : IsL K G ms ds ws) : Yields K (IteT K a) G ms (enL 0 ds) := fun j h G' ms' H hh e p => by
  have q' : SqT K H a ws := Same.sqT hh.sub (Same.sqT e q)
  have i' := IsL.mono' e p _ _ i
  refine ⟨fun d hd => ?_, fun hl => ⟨ws, q', by rw [← i.length]; rw [enL_length] at hl; exact hl⟩⟩
  rw [enL_get] at hd
  cases hx : ds[j]? with
  | none => rw [hx] at hd; cases hd
  | some b =>
    rw [hx] at hd
    cases hd
    obtain ⟨v, h1, h2⟩ := i'.get hx
    refine ⟨⟨ws, v, q', h1⟩, fun x H' ⟨T, x', e1, e2, e3, e4⟩ => ?_⟩
    subst e1 e3
    have := e4 ws q'
    rw [h1] at this
    cases this
    rw [Nat.zero_add]
    exact pair_new hh rfl h2 e2
def iEnumerate (f : FA) : FI := fun s h => (f s h).bind fun ds h1 => match ds with
  | [.tup xs] => .ok (.seq (enL 0 xs)) h1
  | [.lst xs] => .ok (.seq (enL 0 xs)) h1
  | _ => .bad
theorem vi_enumerate {e : Expr} {f : FA} {p tpos : Pos} {elts : List Expr} {kk : Nat} (hg : Gl X "enumerate") (hm : X.mg "enumerate" = none) (ha : VA X W pin [e] f) (hs : starEach [e] X.env = [(false, eval e X.env)] := by rfl) :
    VI X W pin (.Tuple elts kk tpos) (.Call (.Name "enumerate" p) [e] [] pos) (iEnumerate f) := by
  refine pi_imp (pi_enumA hg hm ha hs) fun σ H R ⟨G, ms, s, h, hh, sl, q⟩ => ⟨G, ms, s, h, hh, sl, Post.bind q fun ds h1 ws H1 G1 ms1 e1 p1 hh1 i1 q1 => ?_⟩
  split at q1
  · obtain ⟨v, rfl, j1⟩ := isL1 (ds := []) i1
    obtain ⟨a, us, rfl, k1, k2⟩ := id j1
    exact ⟨a, rfl, .inr ⟨⟨us, .of (hh1.sub _ _ k1)⟩, q1.fin hh1 ⟨yields_enT (.of k1) k2, by rw [enL_length]; exact hh1.rowz j1 rfl⟩⟩⟩
  · obtain ⟨v, rfl, j1⟩ := isL1 (ds := []) i1
    obtain ⟨a, us, rfl, k1, k2⟩ := id j1
    exact ⟨a, rfl, .inl ⟨⟨us, .of (hh1.sub _ _ k1)⟩, q1.fin hh1 ⟨yields_enL (.of k1) k2, by rw [enL_length]; exact hh1.rowz j1 rfl⟩⟩⟩
  · exact q1.elim
end
end WD
namespace WD
open PySem PySem.Spec PyProof.Rows L2
def fgS (vs : List Nat) (r : RS) : RS := match r with
  | .nx s h => .nx (wipeS s vs) h
  | .ct s h => .ct (wipeS s vs) h
  | .bk s h => .bk (wipeS s vs) h
  | r => r
/-- forgotten behind -/
def sFa (vs : List Nat) (f : FS) : FS := fun s h => fgS vs (f s h)
/-- forgotten ahead -/
def sFb (vs : List Nat) (f : FS) : FS := fun s h => f (wipeS s vs) h
section
variable {X : Cx} {W : WX} {pin : List Pn} {K : PySem.W.Frag} {mg : Str → Option Value} {G : GG} {ms : List Addr} {vs : List Nat}
theorem Sl.fgt {s : Ss} {σ : L2.St} (x : Sl K G ms pin s σ) : Sl K G ms pin (wipeS s vs) σ :=
  ⟨by rw [wipeS_length]; exact x.len, fun i d e => x.get i d (wipeS_some e).1, x.pin⟩
theorem vss_fa {st : List Stmt} {f : FS} (h : VSs X W pin st f) : VSs X W pin st (sFa vs f) := by
  refine pss_imp h fun D σ H ⟨G, ms, s, h, hh, sl, q⟩ => ⟨G, ms, s, h, hh, sl, ?_⟩
  unfold sFa fgS at q
  cases e : f s h with
  | nx s' h' => rw [e] at q; exact fun σ' H' G' ms' e1 p1 hh1 sl1 => q σ' H' G' ms' e1 p1 hh1 sl1.fgt
  | ct s' h' => rw [e] at q; exact fun σ' H' G' ms' e1 p1 hh1 sl1 => q σ' H' G' ms' e1 p1 hh1 sl1.fgt
  | bk s' h' => rw [e] at q; exact fun σ' H' G' ms' e1 p1 hh1 sl1 => q σ' H' G' ms' e1 p1 hh1 sl1.fgt
  | rt d h' => rw [e] at q; exact q
  | er x s' h' => rw [e] at q; exact q
  | bad => rw [e] at q; exact q
theorem vs_fa {st : Stmt} {f : FS} (h : VS X W pin st f) : VS X W pin st (sFa vs f) := by
  refine ps_imp h fun D σ H ⟨G, ms, s, h, hh, sl, q⟩ => ⟨G, ms, s, h, hh, sl, ?_⟩
  unfold sFa fgS at q
  cases e : f s h with
  | nx s' h' => rw [e] at q; exact fun σ' H' G' ms' e1 p1 hh1 sl1 => q σ' H' G' ms' e1 p1 hh1 sl1.fgt
  | ct s' h' => rw [e] at q; exact fun σ' H' G' ms' e1 p1 hh1 sl1 => q σ' H' G' ms' e1 p1 hh1 sl1.fgt
  | bk s' h' => rw [e] at q; exact fun σ' H' G' ms' e1 p1 hh1 sl1 => q σ' H' G' ms' e1 p1 hh1 sl1.fgt
  | rt d h' => rw [e] at q; exact q
  | er x s' h' => rw [e] at q; exact q
  | bad => rw [e] at q; exact q
theorem vs_fb {st : Stmt} {f : FS} (h : VS X W pin st f) : VS X W pin st (sFb vs f) := by
  refine ps_imp h fun D σ H ⟨G, ms, s, h, hh, sl, q⟩ => ⟨G, ms, wipeS s vs, h, hh, sl.fgt, q⟩
end
def rgC (lo c : Int) (n : Nat) : List D := (List.range n).map fun (i : Nat) => D.int (lo + (i : Nat) * c)
open Classical in
noncomputable def iRngC (f : FA) : FI := fun s h => (f s h).bind fun ds h1 => match ds with
  | [.int i, .int j, .int c] => if RgC i j c (Builtin.Range.rangeSize i j c).toNat ∧ (Builtin.Range.rangeSize i j c).toNat ≤ sizeLine then .ok (.seq (rgC i c (Builtin.Range.rangeSize i j c).toNat)) h1 else .bad
  | _ => .bad
section
variable {X : Cx} {W : WX} {pin : List Pn} {K : PySem.W.Frag} {G : GG} {ms : List Addr} {pos : Pos}
end
end WD
namespace SrtO
open PySem PySem.Spec PyProof.Rows Srt
section
variable {prog : Program} {w : World} {A : Around} {E : Value → Shared → Prop} {s : Shared}
theorem wd_collectT {t : Addr} {us : List Value} {Q : List Value → Shared → Prop} (ht : s.heap.IsTuple t us.toArray) (hz : us.length ≤ sizeLine)
    (q : Q us { s with heap := (s.heap.push (seqObj "list" #[] 0)).update s.heap.objs.size (Obj.mapSeq (· ++ us.toArray)) }) : wpAny (model prog w) A (collect (.ref t)) Q E s := by
  obtain ⟨ob, e1, e2, m, e3⟩ := id ht
  have e4 : (s.heap.push (seqObj "list" #[] 0)).get? t = some ob := Heap.get?_push_of_some _ e1
  unfold collect
  refine wpAny_bind (wpAny_runValue (codeAny_builtin entry_proto_collect' ?x0))
  case x0 =>
    show wpAny _ _ (do again (.builtin "list.__iadd__" ⟨[← newList [], .ref t], []⟩)) _ _ s
    refine wpAny_bind (wpAny_newList (wpAny_pure ⟨Code.quiet_builtin _ (by decide +kernel), codeAny_builtin entry_list_iadd' ?x1⟩))
    show wpAny _ _ (Builtin.List.listExtendWith (.ref s.heap.objs.size) (.ref t) (.ref s.heap.objs.size)) _ _ { s with heap := s.heap.push (seqObj "list" #[] 0) }
    unfold Builtin.List.listExtendWith
    refine wpAny_bind (wpAny_typeOf (T := "tuple") ⟨ob, e4, e2⟩ ?x2)
    have tt : (Value.type "tuple" == Value.type "tuple") = true := by rfl
    rw [if_pos (by rw [tt]; simp)]
    refine wpAny_bind (listItems_at e4 e3 (wpAny_bind (listItems_at (xs := #[]) (n := 0) (Heap.get?_push_size _ rfl) rfl ?x3)))
    rw [if_neg (by simp)]
    refine wpAny_bind (listUpdate_at (xs := #[]) (n := 0) (Heap.get?_push_size _ rfl) rfl (wpAny_pure ?x4) (Nat.zero_le _) (by show (#[] ++ us.toArray).size ≤ sizeLine + 1; simp only [Array.size_append, List.size_toArray, List.length_nil]; omega))
    show wpAny (model prog w) A (do
        let o ← load s.heap.objs.size
        match o.data with
        | .seq xs _ => pure xs.toList
        | _ => unsupported "internal:collect") Q E { s with heap := (s.heap.push (seqObj "list" #[] 0)).update s.heap.objs.size (Obj.mapSeq (· ++ us.toArray)) }
    refine wpAny_bind (wpAny_load (get?_update_seq (Heap.get?_push_size _ rfl) _) ?x5)
    show wpAny _ _ (pure ((#[] : Array Value) ++ us.toArray).toList) Q E _
    have e5 : ((#[] : Array Value) ++ us.toArray).toList = us := by simp
    rw [e5]; exact wpAny_pure q
theorem wd_sortedT {t : Addr} {us : List Value} {lt : Value → Value → Bool} {Q : Value → Shared → Prop} (O : Swo lt) (ht : s.heap.IsTuple t us.toArray) (hz : us.length ≤ sizeLine)
    (hS : 2 ≤ us.length → ∀ (h1 : Heap) (a : Addr), h1.get? a = some (seqObj "list" us.toArray 0) → (∀ b o, s.heap.get? b = some o → b ≠ a ∧ h1.get? b = some o) → SortableO prog w A.in1.in1 { s with heap := h1 } a us lt)
    (q : ∀ out : List Value, Srtd lt out → Stb lt out us → Q (.ref (s.heap.objs.size + 1)) { s with heap := sortedAll s.heap us out.toArray }) : wpAny (model prog w) A (call (.builtin "sorted") [.ref t]) Q E s := by
  refine Calls.call_function_entry kind_sorted plain_sorted entry_sorted (args_sorted1 _) ?x
  unfold Builtin.«sorted»
  refine wpAny_bind (m := checkCount "sorted" 1 1 _) (wpAny_pure (wpAny_bind (wd_collectT ht hz (wpAny_bind (wpAny_newList ?y hz)))))
  have z1 : ((s.heap.push (seqObj "list" #[] 0)).update s.heap.objs.size (Obj.mapSeq (· ++ us.toArray))).objs.size = s.heap.objs.size + 1 := by rw [Heap.size_update, size_push']
  have z2 : (((s.heap.push (seqObj "list" #[] 0)).update s.heap.objs.size (Obj.mapSeq (· ++ us.toArray))).push (seqObj "list" us.toArray 0)).get? (s.heap.objs.size + 1) = some (seqObj "list" us.toArray 0) := by
    rw [← z1]; exact Heap.get?_push_size _ rfl
  have z3 : ∀ b o, s.heap.get? b = some o → b ≠ s.heap.objs.size + 1 ∧ (((s.heap.push (seqObj "list" #[] 0)).update s.heap.objs.size (Obj.mapSeq (· ++ us.toArray))).push (seqObj "list" us.toArray 0)).get? b = some o := fun b o e => by
    have hb : b < s.heap.objs.size := Heap.lt_size e
    refine ⟨Nat.ne_of_lt (Nat.lt_succ_of_lt hb), Heap.get?_push_of_some _ ((Heap.get?_update_ne _ _ _ _ (Nat.ne_of_lt hb)).trans (Heap.get?_push_of_some _ e))⟩
  show wpAny _ _ _ _ _ { s with heap := ((s.heap.push (seqObj "list" #[] 0)).update s.heap.objs.size (Obj.mapSeq (· ++ us.toArray))).push (seqObj "list" us.toArray 0) }
  rw [z1]
  exact wpAny_bind (wpAny_holding (wpAny_call_entry slot_list_sort ⟨_, z2, rfl⟩ entry_list_sort (list_sort_ord O z2 hz (fun h2 => hS h2 _ _ z2 z3) fun out a b => ⟨_, rfl, wpAny_pure ⟨_, rfl, q out a b⟩⟩) (args_list_sort _)))
end
end SrtO
namespace WD
open PySem PySem.Spec PyProof.Rows L2
open Classical in
noncomputable def shlD : D → D → Hs → R D
  | .int i, .int j, h => if powOk i j then .ok (.int (i * 2 ^ j.toNat)) h else .bad
  | _, _, _ => .bad
def shrD : D → D → Hs → R D
  | .int i, .int j, h => if 0 ≤ j then .ok (.int (i / 2 ^ j.toNat)) h else .bad
  | _, _, _ => .bad
def absD : List D → Hs → R D
  | [.int i], h => .ok (.int (if i < 0 then -i else i)) h
  | _, _ => .bad
section
variable {X : Cx} {W : WX} {pin : List Pn} {K : PySem.W.Frag} {mg : Str → Option Value} {E : XK} {G G' : GG} {H : Hp} {ms ms' : List Addr} {h : Hs} {pos : Pos} {a b c : Expr} {rest : List Expr}
theorem od_shl : OpD X (binaryOp .LShift) shlD := by
  intro pins s σ H x y v u Q I rx ry ⟨G, ms, h, da, db, hh, ia, ib, q⟩
  unfold shlD at q
  split at q
  · cases ia; cases ib
    split at q
    · rename_i hz
      exact op_shl pins s σ H _ _ v u Q I rx ry ⟨_, _, rfl, rfl, hz, q.fin hh rfl⟩
    · exact q.elim
  · exact q.elim
end
section
variable {α : Type}
def insL (lt : α → α → Bool) (x : α) : List α → List α
  | [] => [x]
  | y :: ys => if lt y x = true then y :: insL lt x ys else x :: y :: ys
def sortL (lt : α → α → Bool) : List α → List α
  | [] => []
  | x :: xs => insL lt x (sortL lt xs)
theorem insL_perm {lt : α → α → Bool} {x : α} : ∀ ys : List α, (insL lt x ys).Perm (x :: ys)
  | [] => List.Perm.refl _
  | y :: ys => by
    unfold insL
    split
    · exact ((insL_perm ys).cons y).trans (List.Perm.swap x y ys)
    · exact List.Perm.refl _
theorem sortL_perm {lt : α → α → Bool} : ∀ xs : List α, (sortL lt xs).Perm xs
  | [] => List.Perm.refl _
  | x :: xs => (insL_perm _).trans ((sortL_perm xs).cons x)
theorem insL_srt {lt : α → α → Bool} {x : α} (as : ∀ a b, lt a b = true → lt b a = false) (tr : ∀ a b c, lt b a = false → lt c b = false → lt c a = false) : ∀ ys : List α, ys.Pairwise (fun a b => lt b a = false) → (insL lt x ys).Pairwise (fun a b => lt b a = false)
  | [], _ => List.pairwise_singleton _ _
  | y :: ys, h => by
    have h0 := List.pairwise_cons.mp h
    unfold insL
    split
    · rename_i hl
      refine List.pairwise_cons.mpr ⟨fun z hz => ?_, insL_srt as tr ys h0.2⟩
      rcases List.mem_cons.mp ((insL_perm ys).mem_iff.mp hz) with rfl | hz
      · exact as _ _ hl
      · exact h0.1 z hz
    · rename_i hl
      have hl : lt y x = false := by simpa using hl
      refine List.pairwise_cons.mpr ⟨fun z hz => ?_, h⟩
      rcases List.mem_cons.mp hz with rfl | hz
      · exact hl
      · exact tr _ _ _ hl (h0.1 z hz)
theorem sortL_srt {lt : α → α → Bool} (as : ∀ a b, lt a b = true → lt b a = false) (tr : ∀ a b c, lt b a = false → lt c b = false → lt c a = false) : ∀ xs : List α, (sortL lt xs).Pairwise (fun a b => lt b a = false)
  | [] => List.Pairwise.nil
  | x :: xs => insL_srt as tr _ (sortL_srt as tr xs)
theorem srt_uniq {r : α → α → Prop} (anti : ∀ a b, r a b → r b a → a = b) : ∀ xs ys : List α, xs.Pairwise r → ys.Pairwise r → xs.Perm ys → xs = ys
  | [], ys, _, _, p => (List.nil_perm.mp p).symm
  | x :: xs, ys, hx, hy, p => by
    cases ys with
    | nil => exact absurd p.length_eq (by simp)
    | cons y ys =>
      have hx' := List.pairwise_cons.mp hx
      have hy' := List.pairwise_cons.mp hy
      have e : x = y := by
        rcases List.mem_cons.mp (p.mem_iff.mp List.mem_cons_self) with e | e
        · exact e
        · rcases List.mem_cons.mp (p.mem_iff.mpr List.mem_cons_self) with e2 | e2
          · exact e2.symm
          · exact anti _ _ (hx'.1 y e2) (hy'.1 x e)
      subst e
      rw [srt_uniq anti xs ys hx'.2 hy'.2 (List.Perm.cons_inv p)]
end
def ltI (a b : Int) : Bool := decide (a < b)
def sortI (ns : List Int) : List Int := sortL ltI ns
theorem sortI_perm (ns : List Int) : (sortI ns).Perm ns := sortL_perm ns
theorem sortI_srt (ns : List Int) : (sortI ns).Pairwise (· ≤ ·) := by
  refine (sortL_srt (lt := ltI) (fun a b h => ?_) (fun a b c h1 h2 => ?_) ns).imp fun {a b} h => ?_
  · simp only [ltI, decide_eq_true_eq, decide_eq_false_iff_not] at h ⊢; omega
  · simp only [ltI, decide_eq_false_iff_not] at h1 h2 ⊢; omega
  · simp only [ltI, decide_eq_false_iff_not] at h; omega
theorem sortI_uniq {ms ns : List Int} (p : ms.Perm ns) (h : ms.Pairwise (· ≤ ·)) : ms = sortI ns :=
  srt_uniq (fun a b h1 h2 => by omega) _ _ h (sortI_srt ns) (p.trans (sortI_perm ns).symm)
abbrev ltPr := SrtO.lexB
def sortP (ps : List (Int × Int)) : List (Int × Int) := sortL ltPr ps
theorem ltPr_as (a b : Int × Int) (h : ltPr a b = true) : ltPr b a = false := by
  have := SrtO.lexB_iff.mp h
  exact SrtO.lexB_no.mpr (by omega)
theorem ltPr_tr (a b c : Int × Int) (h1 : ltPr b a = false) (h2 : ltPr c b = false) : ltPr c a = false := by
  have := SrtO.lexB_no.mp h1
  have := SrtO.lexB_no.mp h2
  exact SrtO.lexB_no.mpr (by omega)
theorem sortP_perm (ps : List (Int × Int)) : (sortP ps).Perm ps := sortL_perm ps
theorem sortP_srt (ps : List (Int × Int)) : (sortP ps).Pairwise (fun a b => ltPr b a = false) := sortL_srt ltPr_as ltPr_tr ps
theorem sortP_uniq {ms ns : List (Int × Int)} (p : ms.Perm ns) (h : ms.Pairwise (fun a b => ltPr b a = false)) : ms = sortP ns :=
  srt_uniq (fun a b h1 h2 => by
    have := SrtO.lexB_no.mp h1
    have := SrtO.lexB_no.mp h2
    exact Prod.ext (by omega) (by omega)) _ _ h (sortP_srt ns) (p.trans (sortP_perm ns).symm)
/-- a pair of ints -/
def prD (p : Int × Int) : D := .tup [.int p.1, .int p.2]
def prsOf : List D → Option (List (Int × Int))
  | [] => some []
  | .tup [.int i, .int j] :: r => match prsOf r with
    | some ns => some ((i, j) :: ns)
    | none => none
  | _ => none
theorem prsOf_eq : ∀ {ds : List D} {ps : List (Int × Int)}, prsOf ds = some ps → ds = ps.map prD
  | [], ps, e => by cases e; rfl
  | d :: ds, ps, e => by
    unfold prsOf at e
    split at e
    · rename_i heq; cases heq
    · rename_i i j r heq
      cases heq
      split at e
      · rename_i ns' e'
        cases e
        rw [prsOf_eq e']; rfl
      · cases e
    · cases e
@[simp] theorem prsOf_map : ∀ (ps : List (Int × Int)), prsOf (ps.map prD) = some ps
  | [] => rfl
  | p :: ps => by
    show prsOf (.tup [.int p.1, .int p.2] :: ps.map prD) = _
    unfold prsOf
    rw [prsOf_map ps]
/-- sorted of a row of ints, of a list of pairs of ints -/
def sortedD (m : Bool) : List D → Hs → R D
  | [d], h => match rowOf h d with
    | some xs => match intsOf xs with
      | some ns => newL m ((sortI ns).map D.int) h
      | none => match lstOf h d with
        | some _ => match prsOf xs with
          | some ps => newL m ((sortP ps).map prD) h
          | none => .bad
        | none => .bad
    | none => .bad
  | _, _ => .bad
section
variable {X : Cx} {W : WX} {pin : List Pn} {K : PySem.W.Frag} {mg : Str → Option Value} {E : XK} {G G' : GG} {H : Hp} {ms ms' : List Addr} {h : Hs} {pos : Pos} {a b c : Expr} {rest : List Expr}
/-- sorted(t), t a tuple of ints -/
def rSortedTI (K : PySem.W.Frag) : List V → Hp → VK → Prop := fun vs H Q => ∃ (a : Addr) (ns : List Int), vs = [V.ref a] ∧ SqT K H a (ns.map V.int) ∧ ∀ (ms : List Int) (p : Addr), ms.Perm ns → ms.Pairwise (· ≤ ·) → H p = none → Q (.ref p) (upd H p (.lst (ms.map V.int)))
theorem cr_sortedTI : CallR X (.builtin "sorted") (rSortedTI X.K) := by
  intro pins s σ H vs us Q I r ⟨a, ns, e0, hs, q⟩
  subst e0
  obtain ⟨its, rv, hl, hz⟩ := I.tuple hs
  rw [Vals.ref1 r]
  have hi := rv.ints
  have hz' : its.length ≤ sizeLine := by rw [← rv.length]; exact hz
  refine SrtO.wd_sortedT SrtO.swo_int hl hz' (fun h2 _ _ _ _ => SrtO.ints_sortable hi h2) fun out h1 h2 => ?_
  obtain ⟨k1, k2, k3⟩ := SrtO.ints_out hi h1 h2
  obtain ⟨ep, he⟩ := PyProof.Rows.sortedAll_at s.heap its out.toArray
  have hlen : ((out.map SrtO.iv).map V.int).length ≤ sizeLine := by rw [List.length_map, k2.length_eq]; simpa using hz
  refine ⟨.ref _, upd H (s.heap.objs.size + 1) (.lst ((out.map SrtO.iv).map V.int)), ?_, rfl, q _ _ k2 k3 (I.hok.fresh (Nat.le_succ _))⟩
  exact I.laid (t' := s.toks) (fun _ _ => PyProof.Rows.sortedAll_old) (Nat.le_succ _) ⟨hlen, out, ep, vals_of_ints k1, he⟩
open Classical in
noncomputable def pkV (H : Hp) (v : V) : Int × Int := if e : ∃ t i j, v = V.ref t ∧ H t = some (.tup [.int i, .int j]) then (e.choose_spec.choose, e.choose_spec.choose_spec.choose) else (0, 0)
theorem pkV_eq {t : Addr} {i j : Int} (e : H t = some (.tup [.int i, .int j])) : pkV H (V.ref t) = (i, j) := by
  unfold pkV
  have ex : ∃ t' i j, V.ref t = V.ref t' ∧ H t' = some (.tup [.int i, .int j]) := ⟨t, i, j, rfl, e⟩
  rw [dif_pos ex]
  obtain ⟨h1, h2⟩ := ex.choose_spec.choose_spec.choose_spec
  have h3 : t = ex.choose := by injection h1
  have e' : H ex.choose = some (.tup [.int i, .int j]) := by rw [← h3]; exact e
  have h2 := e'.symm.trans h2
  simp only [Option.some.injEq, HO.tup.injEq, List.cons.injEq, V.int.injEq, and_true] at h2
  exact Prod.ext h2.1.symm h2.2.symm
theorem IsL.prs (hh : Hh K G ms h H) : ∀ {ps : List (Int × Int)} {vs : List V}, IsL K G ms (ps.map prD) vs → vs.map (pkV H) = ps ∧ ∀ v ∈ vs, ∃ t, v = .ref t ∧ G.1 t = some (.tup [.int (pkV H v).1, .int (pkV H v).2])
  | [], _, i => by cases i; exact ⟨rfl, fun v hv => nomatch hv⟩
  | p :: ps, _, i => by
    obtain ⟨v, r, rfl, ⟨t, ws, rfl, e1, e2⟩, i3⟩ := i
    obtain ⟨w1, w2, rfl, j1, j2⟩ := isL2 e2
    cases j1; cases j2
    have ek := pkV_eq (hh.sub _ _ e1)
    obtain ⟨k1, k2⟩ := IsL.prs hh i3
    refine ⟨by rw [List.map_cons, ek, k1], fun v hv => ?_⟩
    rcases List.mem_cons.mp hv with rfl | hv
    · exact ⟨t, rfl, by rw [ek]; exact e1⟩
    · exact k2 v hv
theorem IsL.prs_of : ∀ {vs : List V}, (∀ v ∈ vs, ∃ t, v = .ref t ∧ G.1 t = some (.tup [.int (pkV H v).1, .int (pkV H v).2])) → IsL K G ms ((vs.map (pkV H)).map prD) vs
  | [], _ => rfl
  | v :: vs, hv => by
    obtain ⟨t, rfl, e⟩ := hv v List.mem_cons_self
    exact ⟨.ref t, vs, rfl, ⟨t, _, rfl, e, _, _, rfl, rfl, _, _, rfl, rfl, rfl⟩, IsL.prs_of fun u hu => hv u (List.mem_cons_of_mem _ hu)⟩
theorem cd_sorted (m : Bool) : CallD X (.builtin "sorted") (sortedD m) := by
  intro pins s σ H xs us Q I r ⟨G, ms, h, ds, hh, i, q⟩
  unfold sortedD at q
  split at q
  · obtain ⟨v, rfl, i1⟩ := isL1 (ds := []) i
    split at q
    · rename_i ys e
      split at q
      · rename_i ns e2
        obtain ⟨p, vs, rfl, h2, h3⟩ := hh.row i1 e
        have hlen : ∀ ms : List Int, ms.Perm ns → (ms.map D.int).length ≤ sizeLine := fun ms pm => by
          have := hh.rowz i1 e
          rw [intsOf_eq e2, List.length_map] at this
          rw [List.length_map, pm.length_eq]; exact this
        rw [intsOf_eq e2] at h3
        rw [h3.ints] at h2
        rcases h2 with h2 | h2
        · exact cr_sortedI pins s σ H _ us Q I r ⟨p, ns, rfl, h2, fun ks p' pm sr hp => by
            rw [← sortI_uniq pm sr] at q
            exact q.newL hh (.of_ints ks) (hlen ks pm) hp⟩
        · exact cr_sortedTI pins s σ H _ us Q I r ⟨p, ns, rfl, h2, fun ks p' pm sr hp => by
            rw [← sortI_uniq pm sr] at q
            exact q.newL hh (.of_ints ks) (hlen ks pm) hp⟩
      · split at q
        · rename_i zs e3
          split at q
          · rename_i ps e4
            obtain ⟨p, vs, rfl, h2, h3⟩ := hh.list i1 e3
            have ez : ys = zs := by
              have q1 := hh.row i1 e
              rename_i dd _ _ _ _ _
              cases dd <;> first | (cases e3; done) | exact Option.some.inj (e.symm.trans e3)
            subst ez
            have hlz := hh.rowz i1 e
            rw [prsOf_eq e4] at h3 hlz
            obtain ⟨k1, k2⟩ := h3.prs hh
            refine cr_sortedPO pins s σ H _ us Q I r ⟨p, vs, pkV H, rfl, h2, fun x hx => ?_, fun zs p' sr st hp => ?_⟩
            · obtain ⟨t, e5, e6⟩ := k2 x hx
              exact ⟨t, e5, hh.sub _ _ e6⟩
            · have pm := st.perm
              have em : zs.map (pkV H) = sortP ps := sortP_uniq (by rw [← k1]; exact pm.map _) (List.pairwise_map.mpr (List.Pairwise.imp (fun {a b} hab => hab) sr))
              have i5 : IsL X.K G ms ((zs.map (pkV H)).map prD) zs := IsL.prs_of fun v hv => k2 v (pm.mem_iff.mp hv)
              rw [em] at i5
              refine q.newL hh i5 ?_ hp
              rw [List.length_map, (sortP_perm ps).length_eq]
              simpa using hlz
          · exact q.elim
        · exact q.elim
    · exact q.elim
  · exact q.elim
end
end WD
namespace WD
open PySem PySem.Spec PyProof.Rows L2
/-- a class that is only asked for -/
structure Xg (K : PySem.W.Frag) (mg : Str → Option Value) (x : Str) (C : Addr) : Prop where
  g : mg x = some (.ref C)
section
variable {X : Cx} {W : WX} {pin : List Pn} {pos : Pos} {K : PySem.W.Frag} {G : GG} {ms : List Addr}
end
section
variable {X : Cx} {W : WX} {pin : List Pn} {K : PySem.W.Frag} {mg : Str → Option Value} {E : XK} {G G' : GG} {H : Hp} {ms ms' : List Addr} {h : Hs} {pos : Pos} {a b c : Expr} {rest : List Expr}
theorem units65 {k : Nat} {A : Around} (r : Room k A) : A.units + 65 < cLine := by have := r.un; omega
open Classical in
noncomputable def mulLv : D → D → Hs → R D
  | .lst xs, .int k, h => if repOk k xs.length then newL true (List.replicate k.toNat xs).flatten h else .bad
  | _, _, _ => .bad
end
end WD
namespace WD
open PySem PySem.Spec PyProof.Rows L2
def insU (x : Int) : List Int → List Int
  | [] => [x]
  | y :: ys => if y < x then y :: insU x ys else if y = x then y :: ys else x :: y :: ys
def sortU : List Int → List Int
  | [] => []
  | x :: xs => insU x (sortU xs)
theorem insU_mem {x k : Int} : ∀ ys : List Int, k ∈ insU x ys ↔ k = x ∨ k ∈ ys
  | [] => by simp [insU]
  | y :: ys => by
    unfold insU
    split
    · rw [List.mem_cons, insU_mem ys, List.mem_cons]
      constructor
      · rintro (h | h | h)
        · exact .inr (.inl h)
        · exact .inl h
        · exact .inr (.inr h)
      · rintro (h | h | h)
        · exact .inr (.inl h)
        · exact .inl h
        · exact .inr (.inr h)
    · split
      · rename_i e
        rw [List.mem_cons]
        constructor
        · exact fun h => .inr h
        · rintro (h | h)
          · exact .inl (by omega)
          · exact h
      · rw [List.mem_cons]
theorem sortU_mem {k : Int} : ∀ xs : List Int, k ∈ sortU xs ↔ k ∈ xs
  | [] => Iff.rfl
  | x :: xs => by rw [sortU, insU_mem, sortU_mem xs, List.mem_cons]
theorem insU_srt {x : Int} : ∀ ys : List Int, ys.Pairwise (· < ·) → (insU x ys).Pairwise (· < ·)
  | [], _ => List.pairwise_singleton _ _
  | y :: ys, h => by
    have h0 := List.pairwise_cons.mp h
    unfold insU
    split
    · rename_i hl
      refine List.pairwise_cons.mpr ⟨fun z hz => ?_, insU_srt ys h0.2⟩
      rcases (insU_mem ys).mp hz with rfl | hz
      · exact hl
      · exact h0.1 z hz
    · split
      · exact h
      · refine List.pairwise_cons.mpr ⟨fun z hz => ?_, h⟩
        rcases List.mem_cons.mp hz with rfl | hz
        · omega
        · have := h0.1 z hz
          omega
theorem sortU_srt : ∀ xs : List Int, (sortU xs).Pairwise (· < ·)
  | [] => List.Pairwise.nil
  | x :: xs => insU_srt _ (sortU_srt xs)
theorem srtU_uniq : ∀ xs ys : List Int, xs.Pairwise (· < ·) → ys.Pairwise (· < ·) → (∀ k, k ∈ xs ↔ k ∈ ys) → xs = ys
  | [], [], _, _, _ => rfl
  | [], y :: ys, _, _, h => absurd ((h y).mpr List.mem_cons_self) (by simp)
  | x :: xs, [], _, _, h => absurd ((h x).mp List.mem_cons_self) (by simp)
  | x :: xs, y :: ys, hx, hy, h => by
    have hx' := List.pairwise_cons.mp hx
    have hy' := List.pairwise_cons.mp hy
    have e : x = y := by
      rcases List.mem_cons.mp ((h x).mp List.mem_cons_self) with e | e
      · exact e
      · rcases List.mem_cons.mp ((h y).mpr List.mem_cons_self) with e2 | e2
        · exact e2.symm
        · have := hx'.1 y e2
          have := hy'.1 x e
          omega
    subst e
    rw [srtU_uniq xs ys hx'.2 hy'.2 fun k => ?_]
    constructor
    · intro hk
      rcases List.mem_cons.mp ((h k).mp (List.mem_cons_of_mem _ hk)) with e | e
      · have := hx'.1 k hk; omega
      · exact e
    · intro hk
      rcases List.mem_cons.mp ((h k).mpr (List.mem_cons_of_mem _ hk)) with e | e
      · have := hy'.1 k hk; omega
      · exact e
section
variable {X : Cx} {W : WX} {pin : List Pn} {pos : Pos}
end
section
variable {X : Cx} {W : WX} {pin : List Pn} {pos : Pos}
end
end WD
namespace WD
open PySem PySem.Spec PyProof.Rows L2
structure RoomG (k : Nat) (A : Around) : Prop extends Room k A where
  gu : A.guards = some []
theorem RoomG.mono {j k : Nat} {A : Around} (r : RoomG k A) (h : j ≤ k) : RoomG j A := ⟨r.toRoom.mono h, r.gu⟩
theorem RoomG.under {k : Nat} {A : Around} (r : RoomG (k + 1) A) (env : Env) : RoomG k (A.deeper env) := ⟨r.toRoom.deeper env, r.gu⟩
theorem RoomG.u65 {k : Nat} {A : Around} (r : RoomG k A) : A.units + 65 < cLine := units65 r.toRoom
structure FnG (P : Program) (w : World) (K : PySem.W.Frag) (mg : Str → Option Value) (base : Heap) (k : Nat) (f : Addr) (fd : FuncData) (ps : List Str) (sp : Sp) : Prop where
  count : ∀ xs H Q E, sp xs H Q E → xs.length = ps.length
  goes : ∀ A outer s H args us xs Q E, RoomG k A → Env0 P w K mg base A outer s H → BindsTo s fd args (ps.zip us) → Vals xs us → sp xs H Q E →
      codeAny (model P w) A (.call (.ref f) args) (CR (L2.CX P w) outer P w H s Q E) s
section
variable {P : Program} {w : World} {K : PySem.W.Frag} {mg : Str → Option Value} {base : Heap} {f : Addr} {fd : FuncData} {ps : List Str} {sp : Sp}
theorem FnG.mono {j k : Nat} (F : FnG P w K mg base j f fd ps sp) (hj : j ≤ k) : FnG P w K mg base k f fd ps sp :=
  ⟨F.count, fun A outer s H args us xs Q E r => F.goes A outer s H args us xs Q E (r.mono hj)⟩
theorem FnG.imp {k : Nat} {sp' : Sp} (F : FnG P w K mg base k f fd ps sp) (hi : ∀ xs H Q E, sp' xs H Q E → sp xs H Q E) : FnG P w K mg base k f fd ps sp' :=
  ⟨fun xs H Q E q => F.count xs H Q E (hi _ _ _ _ q), fun A outer s H args us xs Q E r e b v q => F.goes A outer s H args us xs Q E r e b v (hi _ _ _ _ q)⟩
theorem fnG_of {x qual : Str} {st : Stmt} {N : List Str} {k : Nat} (F : Fun K x qual st f fd) (S : FnScope N ps (defScope st)) (cnt : ∀ xs H Q E, sp xs H Q E → xs.length = ps.length)
    (bd : ∀ cdv A outer s H xs Q E, RoomG k (A.deeper (envOfC qual (defScope st) s.heap.objs.size f cdv)) → sp xs H Q E →
      ∃ t, PSs (cxOf (L2.CX P w) P w K mg base N qual (defScope st) f cdv A outer s H E) (defBody st) t ∧ t ⟨fun _ H' => Q .non H', Q, fun _ _ => False, fun _ _ => False⟩ (start N xs) H) : FnG P w K mg base (k + 1) f fd ps sp := by
  obtain ⟨oc, od, kV, doc, pm, an, cdv, ct, osl, rfl, lk, ccd⟩ := F.ex
  refine ⟨cnt, fun A outer s H args us xs Q E room env bnd vals q => ?_⟩
  have kin : K.In s.heap := env.mod.kin.keeps fun a ob z => (env.bs a ob z).1
  have nol : s.heap.NoLimit := env.mod.nolimit.keeps fun a ob z => (env.bs a ob z).1
  refine codeAny_call_function room.toRoom.depth (kin _ _ lk) rfl S.co S.gen rfl (PySem.W.codeRec_of kin ccd) (bnd _ _ _ _ (wpAny_newFunctionEnv_cells S.kind (fun z hz => ?_) fun ev hev st1 inC => ?_))
  · rcases S.par z.1 (List.of_mem_zip (show (z.1, z.2) ∈ _ from hz)).1 with t | t
    · exact Or.inl t
    · exact Or.inr ⟨t, PySem.W.cellsFrom_some _ _ _ (Or.inl t)⟩
  subst hev
  refine ⟨nol.keeps inC.toInCall.keep, codeAny_func ?_⟩
  obtain ⟨tt, rd, go⟩ := bd cdv A outer s H xs Q E (room.under _) q
  have iv := inv_start (CX := L2.CX P w) (N := N) (E := E) S room.toRoom.hd env (cnt _ _ _ _ q) vals inC
  refine wpAny_mono (rd.run [] st1 (start N xs) H _ iv go) (fun fl s2 ends => ?_) fun _ _ z => z
  match fl, ends with
  | .ret u, ⟨v, σ', H', J, rv, z⟩ => exact ⟨v, H', J.os, J.bare, J.base, J.hok, rv, z⟩
  | .next, ⟨σ', H', J, z⟩ => exact ⟨V.non, H', J.os, J.bare, J.base, J.hok, rfl, z⟩
  | .brk, ⟨_, _, _, z⟩ => exact z.elim
  | .cont, ⟨_, _, _, z⟩ => exact z.elim
theorem fn_okG (md : Md) {x qual : Str} {st : Stmt} {N : List Str} {k : Nat} {b : FS} (F : Fun K x qual st f fd) (S : FnScope N ps (defScope st))
    (hb : ∀ (cdv : Value) (A : Around) (outer : List Env) (s : Shared) (H : Hp) (E : XK), RoomG k (A.deeper (envOfC qual (defScope st) s.heap.objs.size f cdv)) → VSs (cxOf (L2.CX P w) P w K mg base N qual (defScope st) f cdv A outer s H E) (fun cls d _ H => E cls d H) [] (defBody st) b) :
    FnG P w K mg base (k + 1) f fd ps (spF K mg ps.length (runF ps.length N.length md b)) := by
  refine fnG_of F S (fun vs H Q E h => h.1) (fun cdv A outer s H vs Q E hr h => ?_)
  obtain ⟨hl, G, ms, ds, h, hh, i, q⟩ := h
  refine ⟨_, hb cdv A outer s H E hr, G, ms, _, h, hh, map_start (N := N) i, ?_⟩
  have hd : ds.length = ps.length := by rw [i.length]; exact hl
  unfold runF at q
  rw [if_pos hd] at q
  rw [hd]
  cases e : b (ds.map some ++ List.replicate (N.length - ps.length) none) h with
  | nx s' h' =>
    rw [e] at q
    exact fun σ' H' G' ms' e1 p1 hh1 sl1 => exitF_post (d := .non) hh e1 p1 hh1 rfl q
  | rt d h' =>
    rw [e] at q
    exact fun v H' G' ms' e1 p1 hh1 i1 => exitF_post hh e1 p1 hh1 i1 q
  | er y s' h' =>
    rw [e] at q
    exact fun σ' H' G' ms' d e1 p1 hh1 _ i1 => exitX_post hh e1 p1 hh1 i1 q
  | bk s' h' => rw [e] at q; exact q.elim
  | ct s' h' => rw [e] at q; exact q.elim
  | bad => rw [e] at q; exact q.elim
end
section
variable {X : Cx} {W : WX} {pin : List Pn} {pos p : Pos}
theorem pe_callG {k : Nat} {f : Addr} {fd : FuncData} {ps : List Str} {x : Str} {e : Expr} {es : List Expr} {sp : Sp} {t : TA} (F : FnG X.prog X.w X.K X.mg X.base k f fd ps sp) (hr : RoomG k X.A) (hg : Gl X x) (hm : X.mg x = some (.ref f)) (hk : PySem.W.keepIn X.K (.ref f) = true) (hb : Binds X.K fd ps []) (tk : Takes X W)
    (ha : PA X (e :: es) t) (hdb : (x == ("__debug__" : Str)) = false) (he : starEach (e :: es) X.env = (false, eval e X.env) :: starEach es X.env) (hpl : (backTo pos (starEach es X.env)).any (·.1) = false) :
    PE X (.Call (.Name x p) (e :: es) [] pos) (tCallS sp (WE W) t) := by
  refine ⟨fun pins s σ H Q I q => wpAny_Call_Name_kw (ld_glob I hg hm ?_ hdb)⟩
  refine PySem.W.callWith_K (h₀ := X.base) I.ok.mod.kin hk (thn (ha.run pos pins s σ H _ I q) fun us s1 z => ?_) he hpl
  obtain ⟨vs, H1, J, rr, qq⟩ := z
  refine ⟨J.kIn, ?_⟩
  have hn : us.length = ps.length := rr.length.symm.trans (F.count _ _ _ _ qq)
  have bb : BindsTo s1 fd ⟨us, []⟩ (ps.zip us) := by simpa using hb s1 us J.kIn (by simpa using hn)
  refine wpAny_call (codeAny_mono (F.goes X.A X.stack s1 H1 ⟨us, []⟩ us vs Q (WE W σ) hr J.env0 bb rr qq) fun r s2 hz => ?_)
  match r, hz with
  | .error er, hz => exact passAt tk σ pins H1 s1 er s2 J hz
  | .ok (.ret u), hz => exact J.after hz
theorem ve_callG {k n : Nat} {f : Addr} {fd : FuncData} {ps : List Str} {x : Str} {e : Expr} {es : List Expr} {g : List D → Hs → R D} {fa : FA} (F : FnG X.prog X.w X.K X.mg X.base k f fd ps (spF X.K X.mg n g)) (hr : RoomG k X.A) (hg : Gl X x) (hm : X.mg x = some (.ref f)) (hk : PySem.W.keepIn X.K (.ref f) = true) (hb : Binds X.K fd ps []) (tk : Takes X W)
    (ha : VA X W pin (e :: es) fa) (hdb : (x == ("__debug__" : Str)) = false := by decide) (he : starEach (e :: es) X.env = (false, eval e X.env) :: starEach es X.env := by rfl) (hpl : (backTo pos (starEach es X.env)).any (·.1) = false := by rfl) :
    VE X W pin (.Call (.Name x p) (e :: es) [] pos) (eCall n g fa) := by
  refine pe_imp (pe_callG F hr hg hm hk hb tk ha hdb he hpl) fun σ H Q ⟨G, ms, s, h, hh, sl, q⟩ => ⟨G, ms, s, h, hh, sl, Post.bind q fun ds h1 vs H1 G1 ms1 e1 p1 hh1 i1 q1 => ?_⟩
  by_cases hn : ds.length = n
  · rw [if_pos hn] at q1
    exact ⟨by rw [← i1.length]; exact hn, G1, ms1, ds, h1, hh1, i1, q1⟩
  · rw [if_neg hn] at q1; exact q1.elim
end
open Classical in
noncomputable def reprD : List D → Hs → R D
  | [d], h => match toP h 60 d with
    | some p => if p.showable = true ∧ p.shown.length ≤ sizeLine then .ok (.str p.shown) h else .bad
    | none => .bad
  | _, _ => .bad
section
variable {X : Cx}
end
theorem headG {P : Program} {w : World} {K : PySem.W.Frag} {mg mb : Str → Option Value} {k : Nat} {fa a : Addr} {fd : FuncData} {x : Str} {sp : Sp} {st : Shared} {items : List Value} {ns : List Int}
    (kin : K.In st.heap) (main : st.heap.Ns mainGlobals mg) (blt : st.heap.Ns builtinsNs mb) (bb : ∀ y : Str, y ≠ "__name__" → mb y = bootBuiltins y) (nol : st.heap.NoLimit) (gn : st.gens = #[])
    (scr : st.heap.get? a = some { cls := .type "list", data := .seq items.toArray }) (areI : IntsAre items ns) (len : ns.length ≤ sizeLine) (rm : RoomG k callerA)
    (F : ∀ base : Heap, K.In base → base.Ns mainGlobals mg → FnG P w K mg base k fa fd [x] sp) (bnd : ∀ (s : Shared) (u : Value), BindsTo s fd ⟨[u], []⟩ [(x, u)])
    (told : ∀ H : Hp, Only H → SqL K H a (ns.map V.int) → sp [.ref a] H (fun v _ => v = .bl true) fun _ _ _ => False) :
    codeAny (model P w) callerA (.call (.ref fa) ⟨[.ref a], []⟩) (fun r s' => r = .ok (.ret (.bool true)) ∧ OldK st.heap s'.heap ∧ s'.os = st.os ∧ AllBare s'.gens) st := by
  have vals := vals_ints areI
  have many := areI.length
  have go : ∀ H : Hp, Only H → SqL K H a (ns.map V.int) → HOk P w H st.heap → (∀ b, H b ≠ none → b = a ∧ K.lookup a = none) →
      codeAny (model P w) callerA (.call (.ref fa) ⟨[.ref a], []⟩) (fun r s' => r = .ok (.ret (.bool true)) ∧ OldK st.heap s'.heap ∧ s'.os = st.os ∧ AllBare s'.gens) st := by
    intro H onl sq ok at_
    have dictFree : ∀ {b : Addr} {m : Str → Option Value}, st.heap.Ns b m → (hidT st.heap H).Ns b m := by
      rintro b m ⟨o, es, ep, e, d, r⟩
      refine ⟨o, es, ep, hidT_get e ?_, d, r⟩
      refine Classical.byContradiction fun z => ?_
      obtain ⟨rfl, _⟩ := at_ b z
      rw [scr] at e
      cases e
      exact absurd d (fun q => by cases q)
    have kinB : K.In (hidT st.heap H) := fun b o e => hidT_get (kin b o e) (Classical.byContradiction fun z => by
      obtain ⟨rfl, n⟩ := at_ b z
      rw [n] at e
      cases e)
    have modB : Mod K mg (hidT st.heap H) := by
      refine ⟨kinB, dictFree main, ⟨mb, dictFree blt, bb⟩, ?_⟩
      obtain ⟨m, z1, z2⟩ := nol
      exact ⟨m, dictFree z1, z2⟩
    have env : Env0 P w K mg (hidT st.heap H) callerA [] st H :=
      ⟨rfl, modB, fun _ _ e => of_hidT e, Nat.le_of_eq (hidT_size st.heap H), trivial, fun _ z => (nomatch z), ok, .of_eq gn⟩
    refine codeAny_mono ((F _ kinB (dictFree main)).goes callerA [] st H ⟨[.ref a], []⟩ [.ref a] [.ref a] _ _ rm env (bnd st (.ref a)) (.cons rfl .nil) (told H onl sq)) fun r s' z => ?_
    match r, z with
    | .error e, z =>
      obtain ⟨_, _, _, _, _, _, _, _, _, _, _, _, no⟩ := (show L2.CX P w [] H st (fun _ _ _ => False) e s' from z)
      exact no.elim
    | .ok (.ret u), ⟨v, H', os, bare, un, ok', rel, (ev : v = .bl true)⟩ =>
      subst ev
      obtain rfl : u = Value.bool true := rel
      refine ⟨rfl, .of_keep fun b o e => ?_, os, bare⟩
      rcases onl b with n | ⟨ob, ys, y⟩
      · exact un.keep b o e n (fun q => (nomatch q)) (by simp)
      · have one := (ok b _ y).1
        rw [e] at one
        cases one
        exact (ok' b _ (un.frzs b _ _ y)).1
  cases own : K.lookup a with
  | some o =>
    have e := kin a o own
    rw [scr] at e
    cases e
    exact go (fun _ => none) (fun _ => .inl rfl) (.inr ⟨_, items.toArray, _, own, rfl, rfl, rfl, by rw [List.size_toArray, many]; exact len, by simpa using vals⟩) (fun _ _ q => (nomatch q)) fun _ q => absurd rfl q
  | none =>
    let fz : HO := .frz { cls := .type "list", data := .seq items.toArray } (.lst (ns.map V.int))
    have no : ∀ b u, (if b = a then some fz else none) = some u → b = a ∧ fz = u := fun b u q => by
      split at q
      · rename_i hb; cases q; exact ⟨hb, rfl⟩
      · cases q
    refine go (fun b => if b = a then some fz else none) (fun b => ?_) (.inl (.inr ⟨_, if_pos rfl⟩)) (fun b u q => ?_) fun b q => ⟨Classical.byContradiction fun z => q (if_neg z), own⟩
    · by_cases hb : b = a
      · exact .inr ⟨_, _, if_pos hb⟩
      · exact .inl (if_neg hb)
    · obtain ⟨rfl, rfl⟩ := no b u q
      exact ⟨scr, by rw [List.length_map]; exact len, items, _, vals, scr⟩
end WD
namespace WD
open PySem PySem.Spec PyProof.Rows L2
def lexGe (ns ms : List Int) : Bool := Ob.lexAt (fun j => ns.getD j 0 == ms.getD j 0) (fun j => decide (ms.getD j 0 ≤ ns.getD j 0)) (decide (ns.length ≥ ms.length)) 0 (min ns.length ms.length)
def geT : D → D → Hs → R D
  | .tup xs, .tup ys, h => match intsOf xs, intsOf ys with
    | some ns, some ms => .ok (.bl (lexGe ns ms)) h
    | _, _ => .bad
  | _, _, _ => .bad
section
variable {X : Cx} {W : WX} {pin : List Pn}
theorem ints_tup {pins : List (Addr × Obj)} {σ : L2.St} {H : Hp} {s : Shared} {a : Addr} {ns : List Int} (I : L2.Inv X pins σ H s) (ha : SqT X.K H a (ns.map V.int)) :
    ∃ its : Array Value, s.heap.IsTuple a its ∧ its.size = ns.length ∧ ∀ j (hj : j < its.size), ∃ t, its[j] = .int (ns.getD j 0) t := by
  obtain ⟨its, r, p, _⟩ := I.tuple ha
  have q : IntsAre its ns := Vals.ints r
  have n : its.toArray.size = ns.length := by rw [List.size_toArray]; exact q.length
  exact ⟨its.toArray, p, n, fun j hj => PyProof.Rows.IntsAre.int_at q _ _ (by simp only [List.size_toArray] at hj; simp [hj])⟩
theorem od_geT (hu : X.A.units + 65 < cLine) : OpD X (compareOp .GtE) geT := by
  intro pins s σ H x y v u Q I rx ry ⟨G, ms, h, da, db, hh, ia, ib, q⟩
  unfold geT at q
  split at q
  · rename_i xs ys _
    split at q
    · rename_i ns ks e1 e2
      rw [intsOf_eq e1] at ia
      rw [intsOf_eq e2] at ib
      obtain ⟨a, vs, rfl, a2, a3⟩ := ia
      obtain ⟨b, ws, rfl, b2, b3⟩ := ib
      rw [a3.ints] at a2
      rw [b3.ints] at b2
      cases rx
      cases ry
      obtain ⟨t1, p1, n1, g1⟩ := ints_tup I (ns := ns) (.inl (.inl (hh.sub _ _ a2)))
      obtain ⟨t2, p2, n2, g2⟩ := ints_tup I (ns := ks) (.inl (.inl (hh.sub _ _ b2)))
      have go := Ob.RcOp.tuples_ge (A := X.A) (s := s) p1 p2 (show X.A.units < cLine by omega) (e := fun j => ns.getD j 0 == ks.getD j 0) (r := fun j => decide (ks.getD j 0 ≤ ns.getD j 0))
        (fun j h1 h2 => by
          obtain ⟨w1, z1⟩ := g1 j h1
          obtain ⟨w2, z2⟩ := g2 j h2
          rw [z1, z2]; exact SeqAt.EqAt.int_int _ _ _ _)
        (fun j h1 h2 _ => by
          obtain ⟨w1, z1⟩ := g1 j h1
          obtain ⟨w2, z2⟩ := g2 j h2
          rw [z1, z2]; exact Ob.RcOp.ge_int _ _ _ _)
      rw [n1, n2] at go
      exact go X.prog X.w X.xe (EP X pins σ Q) ⟨.bl (lexGe ns ks), H, I, rfl, q.fin hh rfl⟩
    · exact q.elim
  · exact q.elim
end
theorem lexGe_two {a b c d : Int} : lexGe [a, b] [c, d] = decide (c < a ∨ (a = c ∧ d ≤ b)) := by
  unfold lexGe
  by_cases h1 : a = c
  · subst h1
    by_cases h2 : b = d
    · subst h2; simp [Ob.lexAt]
    · simp [Ob.lexAt, h2]
  · simp [Ob.lexAt, h1]
    omega
@[simp] theorem x_geP {p q : Int × Int} {h : Hs} : geT (prD p) (prD q) h = .ok (.bl (decide (q.1 < p.1 ∨ (p.1 = q.1 ∧ q.2 ≤ p.2)))) h := by
  show R.ok (D.bl (lexGe [p.1, p.2] [q.1, q.2])) h = _
  rw [lexGe_two]
end WD
namespace WD
open PySem PySem.Spec PyProof.Rows L2
theorem notPin_one {i j : Nat} {v : V} (h : j ≠ i) : NotPin [.s j v] i := fun p hp => by
  obtain rfl : p = .s j v := by simpa using hp
  exact h
theorem call_isP {Y : Cx} {a D : Addr} {oe : Obj} (hp : (a, oe) ∈ Y.pn) (C : ExcC Y.K D) (hz : Zc (.ref D) none oe) (hf : ∃ vs, oe.data = .fields vs) : CallR Y (.builtin "isinstance") (rIsE Y.K D a) := by
  intro pins s σ H xs us Q I r ⟨c, cv, b, e0, hcv, hk, q⟩
  subst e0
  obtain ⟨u1, u2, e1, r1, r2⟩ := vals2 r
  subst e1
  cases (show u1 = Value.ref a from r1)
  cases hcv _ r2
  have got := (I.pin (a, oe) (List.mem_append_left _ hp)).1
  obtain ⟨vs, hv⟩ := hf
  have at_ : PySem.W.InstAt s.heap a oe D none := by
    obtain ⟨oc, od, dt, sl⟩ := oe
    obtain ⟨z1, z2⟩ := hz
    simp only at z1 z2 hv
    subst z1 z2 hv
    exact ⟨got, rfl, rfl, trivial⟩
  exact PySem.W.kia_one (PySem.W.handS_kitx_exc C.hg C.hk C.hs C.hd C.ha C.hn C.ht C.hm) I.kIn at_ hk (fun z => nomatch z) fun tk => ⟨.bl b, H, I.kept (t' := tk) fun _ _ z => z, rfl, q⟩
section
variable {Y : Cx} {W : WX} {pin : List Pn} {pos : Pos}
theorem ve_isP {a Dc : Addr} {oe : Obj} (i : Nat) {n x : Str} {cv : Value} {c : V} {b : Bool} {p p1 p2 : Pos} (hpn : (a, oe) ∈ Y.pn) (C : ExcC Y.K Dc) (hz : Zc (.ref Dc) none oe) (hf : ∃ vs, oe.data = .fields vs) (hk : PySem.W.kitOne Y.K (.ref Dc) cv = some b) (hcv : ∀ u, RelV c u → u = cv)
    (hx : PE Y (.Name x p2) (tC c)) (hp : Pn.s i (V.ref a) ∈ pin) (hgi : Gl Y "isinstance") (hmi : Y.mg "isinstance" = none) (hN : Y.N[i]? = some n := by rfl) (hv : Vis Y.env.scope n := by first | exact Or.inl rfl | exact Or.inr (Or.inl rfl) | exact Or.inr (Or.inr rfl))
    (hd : (n == ("__debug__" : Str)) = false := by decide) (hcd : (n == ("__classdict__" : Str)) = false := by decide)
    (hs1 : starEach [.Name n p1, .Name x p2] Y.env = (false, eval (.Name n p1) Y.env) :: starEach [.Name x p2] Y.env := by rfl) (hs2 : starEach [.Name x p2] Y.env = (false, eval (.Name x p2) Y.env) :: starEach [] Y.env := by rfl) (hpl : (backTo pos (starEach [.Name x p2] Y.env)).any (·.1) = false := by rfl) :
    VE Y W pin (.Call (.Name "isinstance" p) [.Name n p1, .Name x p2] [] pos) (eC (.bl b)) := by
  refine pe_imp (pe_callB (call_isP hpn C hz hf) hgi hmi (by decide +kernel) (pa_cons (pe_var (X := Y) (i := i) hN hv hd hcd) (pa_cons hx pa_nil hs2) hs1) (by decide) (by decide) hs1 hpl) fun σ H Q ⟨G, ms, s, h, hh, sl, q⟩ => ?_
  exact ⟨.ref a, sl.pin _ hp, c, cv, b, rfl, hcv, hk, Post.fin (b := V.bl b) q hh rfl⟩
end
/-- what is asked of an error: one of the classes names, by its object -/
structure ErO (mg : Str → Option Value) (names : List Str) (y : Str) (o : Obj) : Prop where
  mem : y ∈ names
  cls : Zc (clsV mg ⟨y, none⟩) none o
  fld : ∃ vs, o.data = .fields vs
structure FnE (P : Program) (w : World) (K : PySem.W.Frag) (mg : Str → Option Value) (base : Heap) (k : Nat) (f : Addr) (fd : FuncData) (x : Str) (names : List Str) (g : Str → Hs → R D) : Prop where
  goes : ∀ A outer s H p y Q, L2H.RoomH k A → L2H.PinOk outer H s p → ErO mg names y p.2 → Env0 P w K mg base A outer s H → BindsTo s fd ⟨[.ref p.1], []⟩ [(x, .ref p.1)] →
    (∃ G ms h, Hh K G ms h H ∧ Post K mg (fun _ _ _ => False) G ms (Is K) (g y h) Q) → codeAny (model P w) A (.call (.ref f) ⟨[.ref p.1], []⟩) (CR (L2.CX P w) outer P w H s Q (fun _ _ _ => False)) s
noncomputable def runE (N : Nat) (md : Md) (b : FS) (h : Hs) : R D := match b (List.replicate N none) h with
  | .nx _ h' => exitF md h .non h'
  | .rt d h' => exitF md h d h'
  | _ => .bad
section
variable {P : Program} {w : World} {K : PySem.W.Frag} {mg : Str → Option Value} {base : Heap} {f : Addr} {fd : FuncData}
theorem FnE.mono {j k : Nat} {x : Str} {names : List Str} {g : Str → Hs → R D} (F : FnE P w K mg base j f fd x names g) (h : j ≤ k) : FnE P w K mg base k f fd x names g := ⟨fun A outer s H p y Q r => F.goes A outer s H p y Q (r.mono h)⟩
theorem fnE_ok (md : Md) {x0 qual x : Str} {st : Stmt} {N : List Str} {k : Nat} {names : List Str} {b : Str → FS} (F : Fun K x0 qual st f fd) (S : FnScope N [x] (defScope st))
    (hb : ∀ cdv A outer s H p y, L2H.RoomH k (A.deeper (envOfC qual (defScope st) s.heap.objs.size f cdv)) → ErO mg names y p.2 →
      VSs (L2H.cxH (L2.CX P w) P w K mg base N qual (defScope st) f cdv A outer s H (fun _ _ _ => False) p) W0 [.s 0 (.ref p.1)] (defBody st) (b y)) :
    FnE P w K mg base (k + 1) f fd x names (fun y h => runE N.length md (b y) h) := by
  obtain ⟨oc, od, kV, doc, pm, an, cdv, ct, osl, rfl, lk, ccd⟩ := F.ex
  refine ⟨fun A outer s H p y Q room pk er env bnd q => ?_⟩
  have kin : K.In s.heap := env.mod.kin.keeps fun a ob z => (env.bs a ob z).1
  have nol : s.heap.NoLimit := env.mod.nolimit.keeps fun a ob z => (env.bs a ob z).1
  refine codeAny_call_function room.depth (kin _ _ lk) rfl S.co S.gen rfl (PySem.W.codeRec_of kin ccd) (bnd _ _ _ _ (wpAny_newFunctionEnv_cells S.kind (fun z hz => ?_) fun ev hev st1 inC => ?_))
  · obtain rfl : z = (x, Value.ref p.1) := by simpa using hz
    rcases S.par x List.mem_cons_self with t | t
    · exact Or.inl t
    · exact Or.inr ⟨t, PySem.W.cellsFrom_some _ _ _ (Or.inl t)⟩
  subst hev
  refine ⟨nol.keeps inC.toInCall.keep, codeAny_func ?_⟩
  have rd := hb cdv A outer s H p y (room.deeper _) er
  have iv := L2H.inv_startH (CX := L2.CX P w) (N := N) (ps := [x]) (us := [.ref p.1]) (vs := [.ref p.1]) (E := fun _ _ _ => False) S pk env rfl (.cons rfl .nil) inC
  obtain ⟨G, ms, h, hh, q⟩ := q
  have hN : 0 < N.length := by
    have := congrArg List.length S.pre
    rw [List.length_take] at this
    simp at this
    omega
  have sl : Sl K G ms [Pn.s 0 (V.ref p.1)] (List.replicate N.length none) (L2.start N [V.ref p.1]) := by
    refine ⟨by simp [L2.start]; omega, fun i d e => ?_, fun z hz => ?_⟩
    · have := List.mem_of_getElem? e
      have := List.eq_of_mem_replicate this
      cases this
    · obtain rfl : z = Pn.s 0 (V.ref p.1) := by simpa using hz
      rfl
  let En : Ends := ⟨fun _ H' => Q .non H', Q, fun _ _ => False, fun _ _ => False⟩
  have go : rdS (L2H.cxH (L2.CX P w) P w K mg base N qual (defScope st) f cdv A outer s H (fun _ _ _ => False) p) W0 [.s 0 (.ref p.1)] (b y) En (L2.start N [V.ref p.1]) H := by
    refine ⟨G, ms, _, h, hh, sl, ?_⟩
    unfold runE at q
    cases e : b y (List.replicate N.length none) h with
    | nx s' h' =>
      rw [e] at q
      exact fun σ' H' G' ms' e1 p1 hh1 sl1 => exitF_post (d := .non) hh e1 p1 hh1 rfl q
    | rt d h' =>
      rw [e] at q
      exact fun v H' G' ms' e1 p1 hh1 i1 => exitF_post hh e1 p1 hh1 i1 q
    | er z s' h' => rw [e] at q; exact q.elim
    | bk s' h' => rw [e] at q; exact q.elim
    | ct s' h' => rw [e] at q; exact q.elim
    | bad => rw [e] at q; exact q.elim
  refine wpAny_mono (rd.run [] st1 (L2.start N [V.ref p.1]) H En iv go) (fun fl s2 ends => ?_) fun _ _ z => z
  match fl, ends with
  | .ret u, ⟨v, σ', H', J, rv, z⟩ => exact ⟨v, H', J.os, J.bare, J.base, J.hok, rv, z⟩
  | .next, ⟨σ', H', J, z⟩ => exact ⟨V.non, H', J.os, J.bare, J.base, J.hok, rfl, z⟩
  | .brk, ⟨_, _, _, z⟩ => exact z.elim
  | .cont, ⟨_, _, _, z⟩ => exact z.elim
end
def eErr (r : Hs → R D) : FE := fun _ h => r h
@[simp] theorem x_eErr {r : Hs → R D} {s : Ss} {h : Hs} : eErr r s h = r h := (rfl)
section
variable {X : Cx} {W : WX} {pin : List Pn} {pos : Pos}
/-- f(error), in the suite -/
theorem ve_callE {k : Nat} {f a : Addr} {oe : Obj} {pn : List (Addr × Obj)} {fd : FuncData} {x fx n y : Str} {names : List Str} {g : Str → Hs → R D} {p p1 : Pos} (i : Nat) (F : FnE X.prog X.w X.K X.mg X.base k f fd x names g) (hr : Room k X.A) (er : ErO X.mg names y oe) (hg : Gl X fx) (hm : X.mg fx = some (.ref f)) (hkp : PySem.W.keepIn X.K (.ref f) = true) (hb : Binds X.K fd [x] [])
    (hp : Pn.s i (V.ref a) ∈ pin) (hN : X.N[i]? = some n := by rfl) (hv : Vis X.env.scope n := by first | exact Or.inl rfl | exact Or.inr (Or.inl rfl) | exact Or.inr (Or.inr rfl))
    (hd : (n == ("__debug__" : Str)) = false := by decide) (hcd : (n == ("__classdict__" : Str)) = false := by decide) (hdb : (fx == ("__debug__" : Str)) = false := by decide)
    (hs1 : starEach [.Name n p1] X.env = (false, eval (.Name n p1) X.env) :: starEach [] X.env := by rfl) (hpl : (backTo pos (starEach [] X.env)).any (·.1) = false := by rfl) :
    VE (X.suite a ((a, oe) :: pn)) W0 pin (.Call (.Name fx p) [.Name n p1] [] pos) (eErr (g y)) := by
  refine ⟨fun pins s σ H Q I ⟨G, ms, s', h, hh, sl, q⟩ => wpAny_Call_Name_kw (ld_glob I hg hm ?_ hdb)⟩
  have ha : PA (X.suite a ((a, oe) :: pn)) [.Name n p1] (tCons _ tNil) := pa_cons (pe_var (X := X.suite a ((a, oe) :: pn)) (i := i) hN hv hd hcd) pa_nil hs1
  refine PySem.W.callWith_K (h₀ := X.base) I.ok.mod.kin hkp (thn (ha.run pos pins s σ H (fun vs H1 => vs = [V.ref a] ∧ H1 = H) I ⟨.ref a, sl.pin _ hp, rfl, rfl⟩) fun us s1 z => ?_) hs1 hpl
  obtain ⟨vs, H1, J, rr, rfl, rfl⟩ := z
  refine ⟨J.kIn, ?_⟩
  obtain ⟨u, rfl, ru⟩ := vals1 rr
  cases (show u = Value.ref a from ru)
  have bb : BindsTo s1 fd ⟨[.ref a], []⟩ [(x, .ref a)] := by simpa using hb s1 [.ref a] J.kIn rfl
  have pk := J.pin (a, oe) (List.mem_append_left _ List.mem_cons_self)
  have pin0 : L2H.PinOk X.stack H1 s1 (a, oe) := ⟨pk.1, pk.2.1, fun hm => (List.mem_cons.mp (J.stkSub a hm)).elim pk.2.2.1 pk.2.2.2.1, pk.2.2.2.2⟩
  refine wpAny_call (codeAny_mono (F.goes (X.suite a ((a, oe) :: pn)).A X.stack s1 H1 (a, oe) y Q ⟨hr.dp, hr.un⟩ pin0 er J.env0 bb ⟨G, ms, h, hh, q⟩) fun r s2 hz => ?_)
  match r, hz with
  | .error e, hz =>
    obtain ⟨_, _, _, _, _, _, _, _, _, _, _, _, no⟩ := (show L2.CX X.prog X.w X.stack H1 s1 (fun _ _ _ => False) e s2 from hz)
    exact no.elim
  | .ok (.ret u), hz => exact J.after hz
end
end WD
namespace WD
open PySem PySem.Spec PyProof.Rows L2
/-- the lists that are summed lie in the heap -/
def LsAt (h : Heap) (ls : List (Addr × List Value)) (bar : List Addr) : Prop := ∀ p ∈ ls, p.1 ∉ bar ∧ ∃ c, h.get? p.1 = some { cls := .type "list", dict := none, data := .seq p.2.toArray c, slots := #[] }
theorem LsAt.keep {h h' : Heap} {ls : List (Addr × List Value)} {bar : List Addr} (x : LsAt h ls bar) (k : ∀ b o, b ∉ bar → h.get? b = some o → h'.get? b = some o) : LsAt h' ls bar := fun p hp => by
  obtain ⟨h1, c, h2⟩ := x p hp
  exact ⟨h1, c, k _ _ h1 h2⟩
section
variable {prog : Program} {w : World} {A : Around} {R : Result → Shared → Prop} {E : Value → Shared → Prop}
end
section
variable {X : Cx} {W : WX} {pin : List Pn} {K : PySem.W.Frag} {mg : Str → Option Value} {E : XK} {G G' : GG} {H : Hp} {ms ms' : List Addr} {h : Hs}
end
end WD
namespace WD
open PySem PySem.Spec PyProof.Rows L2
abbrev sObj (w : World) : Obj := { cls := .type "set", dict := none, data := .set #[] 0 (.fresh 0 0 (!w.params.followText "set-order")) }
section
variable {P : Program} {w : World} {A : Around} {E : Value → Shared → Prop} {s : Shared}
theorem call_setLi {ll : Addr} {its : Array Value} (nz : List Int) {Q : Value → Shared → Prop} (hh : A.handled = none) (hL : s.heap.IsList ll its) (hI : IntsAre its.toList nz) (hB : nz.length + 1 < scanBound)
    (fin : ∀ (h' : Heap) (tk c : Nat), SetR w h' s.heap.objs.size (fun j => decide (j ∈ nz)) c → c ≤ nz.length → (∀ b o, s.heap.get? b = some o → h'.get? b = some o) → Q (.ref s.heap.objs.size) { s with heap := h', toks := tk }) :
    wpAny (model P w) A (call (.type "set") [.ref ll]) Q E s := by
  have hzz : its.size = nz.length := by have q := IntsAre.length hI; rw [Array.length_toList] at q; exact q
  obtain ⟨cc, ttl, gmro⟩ := F.called_set.mro
  have gmade := F.called_set.made
  have gsub := F.called_set.sub
  refine wpAny_call (codeAny_of_tree ?tree)
  show wpAny _ _ (callAny (.type "set") _) _ _ _
  refine wpAny_pure ⟨Code.quiet_builtin _ (by decide +kernel), codeAny_builtin F.entry_type_call ?body⟩
  rw [Around.under_plain (weight_type_call_type "set" [.ref ll] []) rfl]
  have g1 := F.called_set.notType
  have g2 := F.called_set.canCreate
  have gct := F.typeCall_set_1 (.ref ll)
  repeat (any_goals (first | assumption | wp_step))
  refine codeAny_mono (code_set_led1 (.ref ll) (E := E) (Q₁ := fun ob s₁ => ob = .ref s.heap.objs.size ∧ s₁ = { s with heap := s.heap.push (sObj w) }) ⟨rfl, rfl⟩) fun r s₁ hr => ?made
  cases r with
  | error e => exact hr
  | ok fl =>
    cases fl with
    | ret ob =>
      obtain ⟨rfl, rfl⟩ := hr
      have gS : (s.heap.push (sObj w)).get? s.heap.objs.size = some (sObj w) := Heap.get?_push_size _ rfl
      have gT : Shared.TypeIs { s with heap := s.heap.push (sObj w) } (.ref s.heap.objs.size) "set" := ⟨_, gS, rfl⟩
      have gli := F.called_set.init.lookup
      have gbi := F.called_set.init.bind (.ref s.heap.objs.size)
      repeat (any_goals (first | assumption | wp_step))
      refine codeAny_mono (codeAny_call_builtin (R := wants (fun r s₂ => r = .none ∧ ∃ h' tk c, s₂ = { s with heap := h', toks := tk } ∧ SetR w h' s.heap.objs.size (fun j => decide (j ∈ nz)) c ∧ c ≤ nz.length ∧ (∀ b o, s.heap.get? b = some o → h'.get? b = some o)) E) F.called_set.init.plain F.entry_set_init (check_set_init_1 gT ?init)) fun r₂ s₂ hr₂ => ?after
      case init =>
        obtain ⟨oL, gol, gcl, nL, gdl⟩ := hL
        obtain ⟨oc, od, odt, osl⟩ := oL
        simp only at gcl gdl
        subst gcl; subst gdl
        have gol' : (s.heap.push (sObj w)).get? ll = some { cls := .type "list", dict := od, data := .seq its nL, slots := osl } := Heap.get?_push_of_some _ gol
        have gs1 := F.sub_list_set
        have gs2 := F.sub_list_frozenset
        have gne : (Value.type "list" == Value.type "dict") = false := by decide
        have hL1 : (s.heap.push (sObj w)).IsList ll its := ⟨_, gol', rfl, nL, rfl⟩
        unfold Builtin.«set.__init__» noKeywords Builtin.Frozenset.updateFrom
        generalize gPI : pyIter = PI
        wp_walk
        subst gPI
        refine wpAny_pyIter_list hL1 (wpAny_bind (wpAny_runValue ?run))
        have glt : ll < s.heap.objs.size := Heap.lt_size gol
        have h3 : A.in1.in1.in1.handled = none := by simp [hh]
        have gnI : ll ≠ (s.heap.push (sObj w)).objs.size := by rw [Heap.size_push]; exact Nat.ne_of_lt (Nat.lt_succ_of_lt glt)
        have gSf : s.heap.objs.size ∉ [(s.heap.push (sObj w)).objs.size, ll] := by
          rw [Heap.size_push]
          simp only [List.mem_cons, List.mem_singleton, List.not_mem_nil, or_false, not_or]
          exact ⟨Nat.ne_of_lt (Nat.lt_succ_self _), Nat.ne_of_gt glt⟩
        have gval : ∀ (i : Nat) (v : Value), its[i]? = some v → ∃ k t, nz[i]? = some k ∧ v = .int k t := fun i v hv => by
          have hi : i < nz.length := by rw [← hzz]; exact (Array.getElem?_eq_some_iff.mp hv).1
          obtain ⟨t, e⟩ := PyProof.Rows.IntsAre.int_at hI i v (by rw [Array.getElem?_toList]; exact hv)
          refine ⟨nz[i], t, List.getElem?_eq_getElem hi, ?_⟩
          rw [e, List.getD_eq_getElem?_getD, List.getElem?_eq_getElem hi] <;> rfl
        refine set_update_ints ((Walks.list h3 _ ll gnI its).toS) s.heap.objs.size gSf nz hzz hB gval (its.size - 0) 0 _ (by omega) (Nat.zero_le _) ⟨⟨_, Heap.get?_push_size _ rfl, rfl, rfl⟩, (hL1.push _)⟩ ?g0 ?gR
        case g0 =>
          have gget : ((s.heap.push (sObj w)).push { cls := .type "list_iterator", data := .fields #[.ref ll, .int 0 0] }).get? s.heap.objs.size = some (sObj w) := Heap.get?_push_of_some _ gS
          exact ⟨0, Nat.le_refl 0, setR_new_at gget⟩
        case gR =>
          intro s' c' gm gc' gS'
          obtain ⟨h', g2, d', tk', os'⟩ := s'
          obtain rfl : g2 = s.gens := gm.gens
          obtain rfl : d' = s.drawn := gm.drawn
          obtain rfl : os' = s.os := gm.os
          show wpAny _ _ _ _ _ _
          refine wpAny_pure ?_
          show wpAny _ _ (ret Value.none) _ _ _
          rw [hzz] at gc'
          refine wpAny_pure ⟨rfl, h', tk', c', rfl, gS', gc', fun b o e => ?_⟩
          have b0 : b < s.heap.objs.size := Heap.lt_size e
          have b2 : b ≠ (s.heap.push (sObj w)).objs.size := by rw [Heap.size_push]; exact Nat.ne_of_lt (Nat.lt_succ_of_lt b0)
          exact gm.heap b o (by simp only [List.mem_cons, List.mem_singleton, List.not_mem_nil, or_false, not_or]; exact ⟨Nat.ne_of_lt b0, b2⟩) (Heap.get?_push_of_some _ (Heap.get?_push_of_some _ e))
      case after =>
        cases r₂ with
        | error e => exact hr₂
        | ok fl₂ =>
          cases fl₂ with
          | ret r =>
            obtain ⟨rfl, h', tk, c', rfl, gS', gc', gk'⟩ := hr₂
            repeat (any_goals (first | assumption | wp_step))
            exact fin _ _ _ gS' gc' gk'
          | _ => exact hr₂.elim
    | _ => exact hr.elim
end
section
variable {X : Cx} {W : WX} {pin : List Pn} {pos : Pos}
end
end WD
namespace SrtO
open PySem PySem.Spec PyProof.Rows Srt
def IsRow (h : Heap) (v : Value) (ns : List Int) : Prop := ∃ (a : Addr) (o : Obj) (us : Array Value) (n : Nat), v = .ref a ∧ h.get? a = some o ∧ o.cls = .type "tuple" ∧ o.data = .seq us n ∧ IntsAre us.toList ns
theorem IsRow.keeps {h h' : Heap} {v : Value} {ns : List Int} (x : IsRow h v ns) (k : ∀ b o, h.get? b = some o → o.cls = .type "tuple" → h'.get? b = some o) : IsRow h' v ns := by
  obtain ⟨a, o, us, n, h1, h2, h3, h4, h5⟩ := x
  exact ⟨a, o, us, n, h1, k _ _ h2 h3, h3, h4, h5⟩
section
variable {prog : Program} {w : World} {A : Around} {E : Value → Shared → Prop} {s : Shared}
end
end SrtO
namespace WD
open PySem PySem.Spec PyProof.Rows L2
section
variable {X : Cx} {K : PySem.W.Frag} {mg : Str → Option Value} {G : GG} {H : Hp} {ms : List Addr} {h : Hs}
open Classical in
noncomputable def dyV (H : Hp) (v : V) : List Int := if e : ∃ (t : Addr) (ns : List Int), v = V.ref t ∧ H t = some (.tup (ns.map V.int)) then e.choose_spec.choose else []
end
end WD
namespace WD
open PySem PySem.Spec PyProof.Rows L2
def isBlD (n : Bool) : D → D → Hs → R D
  | .bl a, .bl b, h => .ok (.bl (if n = true then !decide (a = b) else decide (a = b))) h
  | .int _, .bl _, h => .ok (.bl n) h
  | _, _, _ => .bad
section
variable {X : Cx}
theorem od_isB : OpD X (compareOp .Is) (isBlD false) := by
  intro pins s σ H x y v u Q I rx ry ⟨G, ms, h, da, db, hh, ia, ib, q⟩
  unfold isBlD at q
  split at q
  · rename_i a b
    cases ia; cases ib
    cases rx; cases ry
    show wpAny _ _ ((isSame (Value.bool a) (Value.bool b)) >>= fun z => pure (Value.bool z)) _ _ s
    refine wpAny_bind (wpAny_isSame_plain rfl (wpAny_pure (fin_bl I (q.fin hh rfl) ?_)))
    cases a <;> cases b <;> rfl
  · rename_i a b
    cases ia; cases ib
    obtain ⟨tk, rfl⟩ := rx
    cases ry
    show wpAny _ _ ((isSame _ _) >>= fun z => pure (Value.bool z)) _ _ s
    refine wpAny_bind (wpAny_isSame_plain rfl (wpAny_pure (fin_bl I (q.fin hh rfl) ?_)))
    rfl
  · exact q.elim
end
end WD
namespace WD
open PySem PySem.Spec PyProof.Rows L2
open PySem.Sem (wp)
section
variable {prog : Program} {w : World} {A : Around} {E : Value → Shared → Prop} {s : Shared}
end
section
variable {prog : Program} {w : World} {A : Around} {E : Value → Shared → Prop} {s : Shared}
end
section
variable {X : Cx} {W : WX} {pin : List Pn} {K : PySem.W.Frag} {G : GG} {ms : List Addr} {pos : Pos}
end
end WD
namespace WD
open PySem PySem.Spec PyProof.Rows L2
section
variable {X : Cx} {W : WX} {pin : List Pn} {pos : Pos}
end
end WD
namespace WD
open PySem PySem.Spec PyProof.Rows L2
section
open PySem.SeqAt AutoSeq1 MeetsSeq MeetsSeq2 MeetsSeq3 SeqRoads2
variable {prog : Program} {w : World}
end
/-- nested still lists, dicts of one key at most, flat things; of nesting below n -/
def sameOk : Nat → D → Bool
  | 0, _ => false
  | n + 1, d => match d with
    | .non | .bl _ | .int _ | .str _ => true
    | .lst xs => xs.all (sameOk n)
    | .dic ks xs => decide (ks.length ≤ 1) && xs.all (sameOk n)
    | _ => false
section
variable {K : PySem.W.Frag} {G : GG} {ms : List Addr} {H : Hp} {h : Hs}
end
open Classical in
noncomputable def neX : D → D → Hs → R D := fun x y h => match x with
  | .lst xs => if x = y ∧ xs.all (sameOk 40) = true then .ok (.bl false) h else eqD true x y h
  | _ => eqD true x y h
section
variable {X : Cx}
end
end WD
namespace WD
open PySem PySem.Spec PyProof.Rows L2
def spI (C : Addr) (f : Str) : Sp := fun xs H Q _ => ∃ (a : Addr) (v : V), xs = [.ref a, v] ∧ H a = some (exo a C none) ∧ ∀ dx, H dx = none → dx ≠ a → Q .non (upd (upd H dx (exd dx [(f, v)])) a (exo a C (some dx)))
structure Xf (P : Program) (w : World) (K : PySem.W.Frag) (mg : Str → Option Value) (base : Heap) (x f : Str) (C : Addr) : Prop where
  g : mg x = some (.ref C)
  T : OexC K C
  no : PySem.W.findIn K (.ref C) f = some none
  ex : ∃ fI fd, PySem.W.findIn K (.ref C) "__init__" = some (some (.ref fI)) ∧ PySem.W.typeIn K (.ref fI) = some (.type "function") ∧ Binds K fd ["self", f] [] ∧ FnOk P w K mg base (L2.CX P w) 1 fI fd ["self", f] (spI C f)
section
variable {P : Program} {w : World} {K : PySem.W.Frag} {mg : Str → Option Value} {base : Heap}
end
/-- raise x(e) -/
def sRaise1 (x f : Str) (fe : FE) : FS := fun s h => RS.ofR s (fe s h) fun d h1 => .er ⟨x, some (f, d)⟩ s h1
@[simp] theorem x_sRaise1 {x f : Str} {fe : FE} {s : Ss} {h : Hs} : sRaise1 x f fe s h = RS.ofR s (fe s h) fun d h1 => .er ⟨x, some (f, d)⟩ s h1 := (rfl)
section
variable {X : Cx} {W : WX} {pin : List Pn} {pos : Pos} {K : PySem.W.Frag} {G : GG} {ms : List Addr}
theorem notPin_two {i j : Nat} {v : V} {dd : Addr} {f : Str} {e : D} (h : j ≠ i) : NotPin [.s j v, .g dd f e] i := fun p hp => by
  rcases List.mem_cons.mp hp with rfl | hp
  · exact h
  · obtain rfl : p = .g dd f e := by simpa using hp
    trivial
def OkX (names : List Str) (flds : List (Str × Str)) (y : Xn) : Prop := match y.val with
  | none => y.name ∈ names
  | some (f, _) => (y.name, f) ∈ flds
open Classical in
noncomputable def sTryX (c : Str) (i : Nat) (names : List Str) (flds : List (Str × Str)) (fb : FS) (fs : Xn → FS) : FS := fun s h => match fb s h with
  | .er y s' h' => if OkX names flds y ∧ i < s'.length then (if subX y.name c = true then unset i (fs y (s'.set i none) h') else .er y s' h') else .bad
  | r => r
theorem vs_tryX (i : Nat) (names : List Str) (flds : List (Str × Str)) {x n : Str} {body suite : List Stmt} {b0 : Stmt} {np pos' : Pos} {fb : FS} {fs : Xn → FS} {C : Addr} (hs : X.stack = X.env :: X.outer) (hf : X.env.frame = some X.env.locals) (hN : X.N.Nodup) (hg : Gl X x) (hm : X.mg x = some (.ref C)) (tk : Takes X W)
    (hex : ∀ y : Xn, OkX names flds y → PySem.W.exmOne X.K (clsV X.mg y) (.ref C) = some (subX y.name x))
    (hb : ∀ (W : WX) (pn : List (Addr × Obj)) (xe : Value → Shared → Prop), Takes (X.tr pn xe) W → PassesOwn (model X.prog X.w) X.A X.env xe → VSs (X.tr pn xe) W pin body fb)
    (hsu : ∀ (a : Addr) (oe : Obj) (y : Str) (pn : List (Addr × Obj)), y ∈ names → Zc (clsV X.mg ⟨y, none⟩) none oe → (∃ vs, oe.data = .fields vs) → VSs (X.suite a ((a, oe) :: pn)) W0 (.s i (.ref a) :: pin) (b0 :: suite) (fs ⟨y, none⟩))
    (hsf : ∀ (a dd : Addr) (oe : Obj) (y f : Str) (d : D) (pn : List (Addr × Obj)), (y, f) ∈ flds → Zc (clsV X.mg ⟨y, none⟩) (some dd) oe → (∃ vs, oe.data = .fields vs) → VSs (X.suite a ((a, oe) :: pn)) W0 (.s i (.ref a) :: .g dd f d :: pin) (b0 :: suite) (fs ⟨y, some (f, d)⟩))
    (hi : X.N[i]? = some n := by rfl) (hln : X.env.kindOf n = some .local := by rfl) (npn : NotPin pin i := by first | exact notPin_nil | decide) (hdb : (x == ("__debug__" : Str)) = false := by decide) :
    VS X W pin (.Try body [.ExceptHandler (some (.Name x np)) (some n) (b0 :: suite) pos'] [] [] pos) (sTryX x i names flds fb fs) := by
  refine ⟨fun pins s σ H D I hq => ?_⟩
  have hlen := I.len
  have hil : i < σ.length := by rw [hlen]; exact lt_of_get hi
  refine (ps_try_as (tb := fun W => rdS X W pin fb) (ts := fun a cls d D σ H => (∃ y, y ∈ names ∧ cls = clsV X.mg ⟨y, none⟩ ∧ d = none ∧ rdS X W0 (.s i (.ref a) :: pin) (fs ⟨y, none⟩) D σ H) ∨
      ∃ y f e dd, (y, f) ∈ flds ∧ cls = clsV X.mg ⟨y, none⟩ ∧ d = some dd ∧ rdS X W0 (.s i (.ref a) :: .g dd f e :: pin) (fs ⟨y, some (f, e)⟩) D σ H) hs hf hN hi hln ⟨hg, hdb, .inl hm⟩ tk hb ?_).run pins s σ H D I ?_
  · intro a oe cls d pn hz hfl
    refine ⟨fun pins s σ H D I hq => ?_⟩
    rcases hq with ⟨y, hy, rfl, rfl, hq⟩ | ⟨y, f, e, dd, hy, rfl, rfl, hq⟩
    · exact (hsu a oe y pn hy hz hfl).run pins s σ H D I hq
    · exact (hsf a dd oe y f e pn hy hz hfl).run pins s σ H D I hq
  · obtain ⟨G, ms, s, h, hh, sl, q⟩ := hq
    refine ⟨G, ms, s, h, hh, sl, ?_⟩
    unfold sTryX at q
    cases e : fb s h with
    | nx s' h' => rw [e] at q; exact q
    | rt d h' => rw [e] at q; exact q
    | bk s' h' => rw [e] at q; exact q
    | ct s' h' => rw [e] at q; exact q
    | bad => rw [e] at q; exact q
    | er y s' h' =>
      rw [e] at q
      dsimp only at q
      split at q
      · rename_i hy
        intro σ' H' G' ms' d e1 p1 hh1 sl1 xi
        refine ⟨_, hex y hy.1, fun hbt a ha => ?_, fun hbf => ?_⟩
        · rw [if_pos hbt] at q
          have hl' : i < σ'.length := by
            rw [← sl1.len]; exact hy.2
          obtain ⟨yn, yv⟩ := y
          cases yv with
          | none =>
            have hd : d = none := xi
            subst hd
            refine .inl ⟨yn, hy.1, rfl, rfl, G', ms', s'.set i none, h', hh1, sl1.setPin npn hl', ?_⟩
            have q' := PostS.mono (σ' := σ'.set i (some (.ref a))) (r := unset i (fs ⟨yn, none⟩ (s'.set i none) h')) q e1 p1
            cases er : fs ⟨yn, none⟩ (s'.set i none) h' with
            | nx s2 h2 => rw [er] at q'; exact fun σ2 H2 G2 ms2 e2 p2 hh2 sl2 => q' _ H2 G2 ms2 e2 p2 hh2 (sl2.unPin npn)
            | bk s2 h2 => rw [er] at q'; exact fun σ2 H2 G2 ms2 e2 p2 hh2 sl2 => q' _ H2 G2 ms2 e2 p2 hh2 (sl2.unPin npn)
            | ct s2 h2 => rw [er] at q'; exact fun σ2 H2 G2 ms2 e2 p2 hh2 sl2 => q' _ H2 G2 ms2 e2 p2 hh2 (sl2.unPin npn)
            | rt d h2 => rw [er] at q'; exact q'
            | er z s2 h2 => rw [er] at q'; exact q'.elim
            | bad => rw [er] at q'; exact q'
          | some fe =>
            obtain ⟨f, fe⟩ := fe
            obtain ⟨dd, v, rfl, k1, k2⟩ := xi
            have sl2 : Sl X.K G' ms' (.s i (.ref a) :: .g dd f fe :: pin) (s'.set i none) (σ'.set i (some (.ref a))) := by
              have z := sl1.setPin (v := .ref a) npn hl'
              refine ⟨z.len, z.get, fun p hp => ?_⟩
              rcases List.mem_cons.mp hp with rfl | hp
              · exact z.pin _ List.mem_cons_self
              · rcases List.mem_cons.mp hp with rfl | hp
                · exact ⟨v, k1, k2⟩
                · exact z.pin _ (List.mem_cons_of_mem _ hp)
            have un : ∀ {G2 ms2 s2 σ2}, Sl X.K G2 ms2 (.s i (.ref a) :: .g dd f fe :: pin) s2 σ2 → Sl X.K G2 ms2 pin (s2.set i none) (σ2.set i none) := fun {G2 ms2 s2 σ2} z =>
              Sl.unPin (v := .ref a) ⟨z.len, z.get, fun p hp => by
                rcases List.mem_cons.mp hp with rfl | hp
                · exact z.pin _ List.mem_cons_self
                · exact z.pin _ (List.mem_cons_of_mem _ (List.mem_cons_of_mem _ hp))⟩ npn
            refine .inr ⟨yn, f, fe, dd, hy.1, rfl, rfl, G', ms', s'.set i none, h', hh1, sl2, ?_⟩
            have q' := PostS.mono (σ' := σ'.set i (some (.ref a))) (r := unset i (fs ⟨yn, some (f, fe)⟩ (s'.set i none) h')) q e1 p1
            cases er : fs ⟨yn, some (f, fe)⟩ (s'.set i none) h' with
            | nx s2 h2 => rw [er] at q'; exact fun σ2 H2 G2 ms2 e2 p2 hh2 sl2 => q' _ H2 G2 ms2 e2 p2 hh2 (un sl2)
            | bk s2 h2 => rw [er] at q'; exact fun σ2 H2 G2 ms2 e2 p2 hh2 sl2 => q' _ H2 G2 ms2 e2 p2 hh2 (un sl2)
            | ct s2 h2 => rw [er] at q'; exact fun σ2 H2 G2 ms2 e2 p2 hh2 sl2 => q' _ H2 G2 ms2 e2 p2 hh2 (un sl2)
            | rt d h2 => rw [er] at q'; exact q'
            | er z s2 h2 => rw [er] at q'; exact q'.elim
            | bad => rw [er] at q'; exact q'
        · rw [if_neg (by rw [hbf]; decide)] at q
          exact q σ' H' G' ms' d e1 p1 hh1 sl1 xi
      · exact q.elim
def rIsEX (K : PySem.W.Frag) (D a dd : Addr) : List V → Hp → VK → Prop := fun xs H Q => ∃ (c : V) (cv : Value) (b : Bool) (fs : List (Str × V)), xs = [.ref a, c] ∧ (∀ u, RelV c u → u = cv) ∧ PySem.W.kitOne K (.ref D) cv = some b ∧ H dd = some (.xd fs) ∧ Q (.bl b) H
theorem call_isEX {a D dd : Addr} {oe : Obj} {pn : List (Addr × Obj)} (C : ExcC X.K D) (hz : Zc (.ref D) (some dd) oe) (hf : ∃ vs, oe.data = .fields vs) : CallR (X.suite a ((a, oe) :: pn)) (.builtin "isinstance") (rIsEX X.K D a dd) := by
  intro pins s σ H xs us Q I r h
  obtain ⟨c, cv, b, fs, rfl, hcv, e, ed, q⟩ := h
  cases r with
  | cons rx rr =>
    cases rr with
    | cons rt rr =>
      cases rr
      cases rx
      have ec := hcv _ rt
      subst ec
      obtain ⟨hget, _⟩ := I.pin (a, oe) (List.mem_append.mpr (.inl List.mem_cons_self))
      obtain ⟨vs, hv⟩ := hf
      have hx : ObjOk X.prog X.w H s.heap dd (.xd fs) := I.hok dd _ ed
      obtain ⟨mA, hns, hr⟩ := hx
      obtain ⟨od, ho, hl⟩ := lookIn_ns hns
      have J : PySem.W.InstAt s.heap a oe D (some od) := ⟨hget, hz.1, by unfold PySem.W.notCls; rw [hv] <;> rfl, by rw [hz.2]; exact ho⟩
      obtain ⟨cd, hc, _⟩ := PySem.W.any_some C.hd
      exact PySem.W.kia_one (PySem.W.kitx_exc (by rw [hc]; rfl) C.hg C.hk C.hs C.ha C.hn C.ht C.hm) I.kIn J e (fun z => nomatch z) fun tk => ⟨.bl b, H, I.kept (t' := tk) fun _ _ z => z, rfl, q⟩
theorem ve_isEX {a Dc dd : Addr} {oe : Obj} {pn : List (Addr × Obj)} (i : Nat) {n x f : Str} {d : D} {cv : Value} {c : V} {b : Bool} {p p1 p2 : Pos} (C : ExcC X.K Dc) (hz : Zc (.ref Dc) (some dd) oe) (hf : ∃ vs, oe.data = .fields vs) (hk : PySem.W.kitOne X.K (.ref Dc) cv = some b) (hcv : ∀ u, RelV c u → u = cv)
    (hx : PE (X.suite a ((a, oe) :: pn)) (.Name x p2) (tC c)) (hp : Pn.s i (V.ref a) ∈ pin) (hq : Pn.g dd f d ∈ pin) (hgi : Gl X "isinstance") (hmi : X.mg "isinstance" = none) (hN : X.N[i]? = some n := by rfl) (hv : Vis X.env.scope n := by first | exact Or.inl rfl | exact Or.inr (Or.inl rfl) | exact Or.inr (Or.inr rfl))
    (hd : (n == ("__debug__" : Str)) = false := by decide) (hcd : (n == ("__classdict__" : Str)) = false := by decide)
    (hs1 : starEach [.Name n p1, .Name x p2] X.env = (false, eval (.Name n p1) X.env) :: starEach [.Name x p2] X.env := by rfl) (hs2 : starEach [.Name x p2] X.env = (false, eval (.Name x p2) X.env) :: starEach [] X.env := by rfl) (hpl : (backTo pos (starEach [.Name x p2] X.env)).any (·.1) = false := by rfl) :
    VE (X.suite a ((a, oe) :: pn)) W pin (.Call (.Name "isinstance" p) [.Name n p1, .Name x p2] [] pos) (eC (.bl b)) := by
  refine pe_imp (pe_callB (call_isEX C hz hf) hgi hmi (by decide +kernel) (pa_cons (pe_var (X := X.suite a ((a, oe) :: pn)) (i := i) hN hv hd hcd) (pa_cons hx pa_nil hs2) hs1) (by decide) (by decide) hs1 hpl) fun σ H Q ⟨G, ms, s, h, hh, sl, q⟩ => ?_
  refine ⟨.ref a, sl.pin _ hp, ?_⟩
  obtain ⟨v, k1, k2⟩ := sl.pin _ hq
  exact ⟨c, cv, b, _, rfl, hcv, hk, hh.sub _ _ k1, Post.fin (b := V.bl b) q hh rfl⟩
/-- the error's field; bad if it has none -/
def eFld (y : Xn) (f : Str) : FE := fun s h => match y.val with
  | some (g, d) => if g = f then .ok d h else .bad
  | none => .bad
@[simp] theorem x_eFld {n f : Str} {d : D} {s : Ss} {h : Hs} : eFld ⟨n, some (f, d)⟩ f s h = .ok d h := by unfold eFld; simp
end
end WD
namespace SrtO
open PySem PySem.Spec PyProof.Rows L2
variable {prog : Program} {w : World} {A : Around} {E : Value → Shared → Prop} {s : Shared}
end SrtO
namespace WD
open PySem PySem.Spec PyProof.Rows L2
def sortedTD (m : Bool) : List D → Hs → R D
  | [.tup xs], h => match prsOf xs with
    | some ps => newL m ((sortP ps).map prD) h
    | none => .bad
  | _, _ => .bad
@[simp] theorem x_sortedTD {m : Bool} {ps : List (Int × Int)} {h : Hs} : sortedTD m [.tup (ps.map prD)] h = newL m ((sortP ps).map prD) h := by
  show (match prsOf (ps.map prD) with | some ps => _ | none => _) = _
  rw [prsOf_map]
section
variable {X : Cx} {W : WX} {pin : List Pn} {pos : Pos} {K : PySem.W.Frag} {G : GG} {ms : List Addr}
end
def strOk (i : Int) : Prop := i.natAbs.log2 < 1920
def istr (i : Int) : Str := (toString i : String)
open Classical in
noncomputable def strD : List D → Hs → R D
  | [.int i], h => if strOk i then .ok (.str (istr i)) h else .bad
  | _, _ => .bad
def strsOf : List D → Option (List Str)
  | [] => some []
  | .str x :: r => match strsOf r with
    | some xs => some (x :: xs)
    | none => none
  | _ => none
@[simp] theorem strsOf_map : ∀ (xs : List Str), strsOf (xs.map D.str) = some xs
  | [] => rfl
  | x :: xs => by
    show strsOf (.str x :: xs.map D.str) = _
    unfold strsOf
    rw [strsOf_map xs]
def joinS (a : Str) (d : D) (h : Hs) : R D := match rowOf h d with
  | some xs => match strsOf xs with
    | some ys => if (ys.map (·.length)).sum + ys.length * a.length ≤ sizeLine then .ok (.str (Txt.join a ys)) h else .bad
    | none => .bad
  | none => .bad
/-- a.join(d) -/
def eJoin (fo fe : FE) : FE := fun s h => (fo s h).bind fun o h1 => match o with
  | .str a => (fe s h1).bind fun d h2 => joinS a d h2
  | _ => .bad
@[simp] theorem x_eJoin {fo fe : FE} {s : Ss} {h : Hs} : eJoin fo fe s h = (fo s h).bind fun o h1 => match o with
  | .str a => (fe s h1).bind fun d h2 => joinS a d h2
  | _ => .bad := (rfl)
section
variable {X : Cx} {W : WX} {pin : List Pn} {pos apos : Pos} {K : PySem.W.Frag} {G : GG} {ms : List Addr}
end
section
variable {Y : Cx} {W : WX} {pin : List Pn} {pos : Pos}
end
end WD
namespace WD
open PySem PySem.Spec PyProof.Rows L2
structure FnE2 (P : Program) (w : World) (K : PySem.W.Frag) (mg : Str → Option Value) (base : Heap) (k : Nat) (f : Addr) (fd : FuncData) (x x2 : Str) (names : List Str) (g : Str → D → Hs → R D) : Prop where
  goes : ∀ A outer s H p y d v u Q, L2H.RoomH k A → L2H.PinOk outer H s p → ErO mg names y p.2 → Env0 P w K mg base A outer s H → RelV v u → BindsTo s fd ⟨[.ref p.1, u], []⟩ [(x, .ref p.1), (x2, u)] →
    (∃ G ms h, Hh K G ms h H ∧ Is K G ms d v ∧ Post K mg (fun _ _ _ => False) G ms (Is K) (g y d h) Q) → codeAny (model P w) A (.call (.ref f) ⟨[.ref p.1, u], []⟩) (CR (L2.CX P w) outer P w H s Q (fun _ _ _ => False)) s
section
variable {P : Program} {w : World} {K : PySem.W.Frag} {mg : Str → Option Value} {base : Heap} {f : Addr} {fd : FuncData}
theorem FnE2.mono {j k : Nat} {x x2 : Str} {names : List Str} {g : Str → D → Hs → R D} (F : FnE2 P w K mg base j f fd x x2 names g) (h : j ≤ k) : FnE2 P w K mg base k f fd x x2 names g := ⟨fun A outer s H p y d v u Q r => F.goes A outer s H p y d v u Q (r.mono h)⟩
end
def eErr2 (r : D → Hs → R D) (j : Nat) : FE := fun s h => match s[j]? with
  | some (some d) => r d h
  | _ => .bad
@[simp] theorem x_eErr2 {r : D → Hs → R D} {j : Nat} {s : Ss} {h : Hs} : eErr2 r j s h = match s[j]? with
  | some (some d) => r d h
  | _ => .bad := (rfl)
section
variable {X : Cx} {W : WX} {pin : List Pn} {pos : Pos}
end
end WD
namespace WD
open PySem PySem.Spec PyProof.Rows L2
section
open HT
variable {prog : Program} {w : World} {A : Around} {E : Value → Shared → Prop} {s : Shared}
end
section
variable {X : Cx} {W : WX} {pin : List Pn} {pos p2 : Pos}
theorem vals_app {xs ys : List V} {us vs : List Value} (r : Vals xs us) (r' : Vals ys vs) : Vals (xs ++ ys) (us ++ vs) := by
  induction r with
  | nil => exact r'
  | cons h _ ih => exact .cons h ih
theorem vals_rev {xs : List V} {us : List Value} (r : Vals xs us) : Vals xs.reverse us.reverse := by
  induction r with
  | nil => exact .nil
  | cons h _ ih =>
    rw [List.reverse_cons, List.reverse_cons]
    exact vals_app ih (.cons h .nil)
theorem isL_app {K : PySem.W.Frag} {G : GG} {ms : List Addr} : ∀ {xs ys : List D} {us vs : List V}, IsL K G ms xs us → IsL K G ms ys vs → IsL K G ms (xs ++ ys) (us ++ vs)
  | [], ys, us, vs, h, h' => by cases (show us = [] from h); exact h'
  | x :: xs, ys, us, vs, h, h' => by
    obtain ⟨v, r, rfl, h1, h2⟩ := h
    exact ⟨v, r ++ vs, rfl, h1, isL_app h2 h'⟩
theorem isL_rev {K : PySem.W.Frag} {G : GG} {ms : List Addr} : ∀ {xs : List D} {us : List V}, IsL K G ms xs us → IsL K G ms xs.reverse us.reverse
  | [], us, h => by cases (show us = [] from h); exact rfl
  | x :: xs, us, h => by
    obtain ⟨v, r, rfl, h1, h2⟩ := h
    rw [List.reverse_cons, List.reverse_cons]
    exact isL_app (isL_rev h2) ⟨v, [], rfl, h1, rfl⟩
end
end WD
namespace WD
open PySem PySem.Spec PyProof.Rows L2
open PySem.Sem (wp)
section
variable {prog : Program} {w : World} {A : Around} {E : Value → Shared → Prop} {s : Shared}
end
section
variable {prog : Program} {w : World} {A : Around} {E : Value → Shared → Prop} {s : Shared}
end
section
variable {X : Cx} {W : WX} {pin : List Pn} {K : PySem.W.Frag} {G : GG} {ms : List Addr} {pos : Pos}
end
end WD
namespace WD
open PySem PySem.Spec PyProof.Rows L2
section
variable {X : Cx} {pins : List (Addr × Obj)} {σ : L2.St} {H : Hp} {s : Shared}
end
section
variable {X : Cx} {x n v : Str} {c : Value} {i j : Nat} {body : List Stmt} {np pos pos' p1 p2 p3 : Pos} {tb : WX → TS} {tk2 : Addr → Value → Option Addr → TS} {Wout : WX} {st2 : Stmt}
end
section
variable {X : Cx} {W : WX} {pin : List Pn} {pos : Pos}
end
end WD
namespace WD
open PySem PySem.Spec PyProof.Rows L2
section
variable {X : Cx} {W : WX} {pin : List Pn} {K : PySem.W.Frag} {mg : Str → Option Value} {E : XK} {G G' : GG} {H : Hp} {ms ms' : List Addr} {h : Hs} {pos : Pos} {vs : List Nat}
end
end WD
namespace WD
open PySem PySem.Spec PyProof.Rows L2
mutual
inductive Rx (h : Heap) : Value → PyData → Prop
  | none : Rx h .none .none
  | bool (b) : Rx h (.bool b) (.bool b)
  | int (i t) : Rx h (.int i t) (.int i)
  | str (x t) : Rx h (.str x t) (.str x)
  | list {a o vs n xs} : h.get? a = some o → o.cls = .type "list" → o.data = .seq vs n → Rxs h vs.toList xs → Rx h (.ref a) (.list xs)
  | tuple {a o vs n xs} : h.get? a = some o → o.cls = .type "tuple" → o.data = .seq vs n → Rxs h vs.toList xs → Rx h (.ref a) (.tuple xs)
  | dict {a o es n kvs} : h.get? a = some o → o.cls = .type "dict" → o.data = .dict es n → (a == sysModules) = false → Rxs h (es.toList.map (·.key)) (kvs.map (·.1)) →
      Rxs h (es.toList.map (·.val)) (kvs.map (·.2)) → Rx h (.ref a) (.dict kvs)
inductive Rxs (h : Heap) : List Value → List PyData → Prop
  | nil : Rxs h [] []
  | cons {v vs d ds} : Rx h v d → Rxs h vs ds → Rxs h (v :: vs) (d :: ds)
end
mutual
theorem Rx.reads {h : Heap} : ∀ {v : Value} {d : PyData}, Rx h v d → ∃ as, Reads h v d as
  | _, _, .none => ⟨_, .none⟩
  | _, _, .bool b => ⟨_, .bool b⟩
  | _, _, .int i t => ⟨_, .int i t⟩
  | _, _, .str x t => ⟨_, .str x t⟩
  | _, _, .list a b c r => let ⟨_, q⟩ := r.reads; ⟨_, .list a b c q⟩
  | _, _, .tuple a b c r => let ⟨_, q⟩ := r.reads; ⟨_, .tuple a b c q⟩
  | _, _, .dict a b c _ r1 r2 => let ⟨_, q1⟩ := r1.reads; let ⟨_, q2⟩ := r2.reads; ⟨_, .dict a b c q1 q2⟩
theorem Rxs.reads {h : Heap} : ∀ {v : List Value} {d : List PyData}, Rxs h v d → ∃ as, ReadsAll h v d as
  | _, _, .nil => ⟨_, .nil⟩
  | _, _, .cons r1 r2 => let ⟨_, q1⟩ := r1.reads; let ⟨_, q2⟩ := r2.reads; ⟨_, .cons q1 q2⟩
end
section
variable {prog : Program} {w : World} {h₀ : Heap}
/-- a thing is shown, the places under way being at most as deep as it is -/
def Shn (prog : Program) (w : World) (h₀ : Heap) (n : Nat) (v : Value) (t : Str) : Prop := ∃ bs, ReadAtMost h₀ n bs ∧ ReprK prog w bs h₀ n v t
def Shns (prog : Program) (w : World) (h₀ : Heap) (n : Nat) (vs : List Value) (ts : List Str) : Prop := ∃ bs, ReadAtMost h₀ n bs ∧ ReprAllK prog w bs h₀ n vs ts
theorem Shn.flat {v : Value} {t : Str} (n : Nat) (h : ReprIs prog w v t) : Shn prog w h₀ n v t := ⟨[], fun _ q => (nomatch q), .of_is h _ _ _⟩
theorem Shns.cons {n m : Nat} {v : Value} {vs : List Value} {t : Str} {ts : List Str} (a : Shn prog w h₀ n v t) (b : Shns prog w h₀ m vs ts) : Shns prog w h₀ (max n m) (v :: vs) (t :: ts) := by
  obtain ⟨b1, q1, k1⟩ := a
  obtain ⟨b2, q2, k2⟩ := b
  exact ⟨b1 ++ b2, (q1.mono (Nat.le_max_left _ _)).append (q2.mono (Nat.le_max_right _ _)),
    .cons ((k1.more fun _ z => List.mem_append_left _ z).level_le (Nat.le_max_left _ _)) (k2.more_le (fun _ z => List.mem_append_right _ z) (Nat.le_max_right _ _))⟩
theorem Shns.mono {n m : Nat} {vs : List Value} {ts : List Str} (a : Shns prog w h₀ n vs ts) (h : n ≤ m) : Shns prog w h₀ m vs ts := by
  obtain ⟨bs, q, k⟩ := a
  exact ⟨bs, q.mono h, k.more_le (fun _ z => z) h⟩
/-- the entries of a dict, its keys and its values shown -/
theorem Shns.two {n : Nat} {es : List DictEntry} {ks vs : List Str} (a : Shns prog w h₀ n (es.map (·.key)) ks) (b : Shns prog w h₀ n (es.map (·.val)) vs) :
    ∃ bs, ReadAtMost h₀ n bs ∧ ReprEntriesK prog w bs h₀ n es (List.zipWith (fun k v : Str => k ++ ": " ++ v) ks vs) := by
  obtain ⟨b1, q1, k1⟩ := a
  obtain ⟨b2, q2, k2⟩ := b
  exact ⟨b1 ++ b2, q1.append q2, .of_two es ks vs (k1.more_le (fun _ z => List.mem_append_left _ z) (Nat.le_refl _)) (k2.more_le (fun _ z => List.mem_append_right _ z) (Nat.le_refl _))⟩
theorem depth_kv (kvs : List (PyData × PyData)) : PyData.depthAll (kvs.map (·.1)) ≤ PyData.depthKv kvs ∧ PyData.depthAll (kvs.map (·.2)) ≤ PyData.depthKv kvs := ⟨PyData.depthAll_keys_le kvs, PyData.depthAll_vals_le kvs⟩
theorem short_kv {kvs : List (PyData × PyData)} (hz : (dictText (PyData.shownKv kvs)).length ≤ sizeLine) : (∀ t ∈ PyData.shownAll (kvs.map (·.1)), t.length ≤ sizeLine) ∧ ∀ t ∈ PyData.shownAll (kvs.map (·.2)), t.length ≤ sizeLine :=
  ⟨fun t ht => let ⟨_, hp, hl⟩ := PyData.shownKv_key_le kvs t ht; Nat.le_trans hl (Nat.le_trans (dictText_mem_le hp) hz), fun t ht => let ⟨_, hp, hl⟩ := PyData.shownKv_val_le kvs t ht; Nat.le_trans hl (Nat.le_trans (dictText_mem_le hp) hz)⟩
mutual
theorem Rx.shn : ∀ {v : Value} {d : PyData}, Rx h₀ v d → d.showable = true → d.shown.length ≤ sizeLine → Shn prog w h₀ d.depth v d.shown
  | _, _, .none, _, _ => by simp only [PyData.shown]; exact .flat _ ReprIs.none
  | _, _, .bool b, _, _ => by simp only [PyData.shown]; exact .flat _ (ReprIs.bool b)
  | _, _, .int i t, hs, _ => by simp only [PyData.shown]; exact .flat _ (ReprIs.int t (by simpa [PyData.showable] using hs))
  | _, _, .str x t, _, hz => by
    simp only [PyData.shown] at hz ⊢
    exact .flat _ (ReprIs.str x t hz)
  | _, _, .list (a := a) (vs := vs) (xs := xs) h1 h2 h3 h4, hs, hz => by
    obtain ⟨as, q⟩ := h4.reads
    simp only [PyData.shown] at hz
    obtain ⟨bs, hb, hk⟩ := Rxs.shn h4 (by simpa [PyData.showable] using hs) fun t ht => Nat.le_trans (listText_mem_le ht) hz
    have r : Reads h₀ (.ref a) (.list xs) _ := .list h1 h2 h3 q
    refine ⟨a :: bs, ReadAtMost.cons r (by simp only [PyData.depth]; omega) hb, ?_⟩
    simp only [PyData.depth, PyData.shown]
    obtain ⟨l⟩ := vs
    cases l with
    | nil =>
      have h4' : Rxs h₀ [] xs := h4
      cases h4'
      simp only [PyData.shownAll, listText_nil]
      exact .listEmpty h1 h2 h3
    | cons x l => exact .list h1 h2 h3 (not_mem_of_deeper r (by simp only [PyData.depth]; omega) hb) (by simpa using hk.length_eq) (fun i y e => hk.item i y (by simpa using e))
  | _, _, .tuple (a := a) (xs := xs) h1 h2 h3 h4, hs, hz => by
    obtain ⟨as, q⟩ := h4.reads
    simp only [PyData.shown] at hz
    obtain ⟨bs, hb, hk⟩ := Rxs.shn h4 (by simpa [PyData.showable] using hs) fun t ht => Nat.le_trans (tupleText_mem_le ht) hz
    have r : Reads h₀ (.ref a) (.tuple xs) _ := .tuple h1 h2 h3 q
    refine ⟨a :: bs, ReadAtMost.cons r (by simp only [PyData.depth]; omega) hb, ?_⟩
    simp only [PyData.depth, PyData.shown]
    exact .tuple h1 h2 h3 (not_mem_of_deeper r (by simp only [PyData.depth]; omega) hb) hk
  | _, _, .dict (a := a) (kvs := kvs) h1 h2 h3 hy h4 h5, hs, hz => by
    obtain ⟨as, q4⟩ := h4.reads
    obtain ⟨cs, q5⟩ := h5.reads
    simp only [PyData.shown] at hz
    obtain ⟨s1, s2⟩ := PyData.showableKv_split kvs (by simpa [PyData.showable] using hs)
    obtain ⟨z1, z2⟩ := short_kv hz
    obtain ⟨d1, d2⟩ := depth_kv kvs
    obtain ⟨bs, hb, hk⟩ := Shns.two (Shns.mono (Rxs.shn h4 s1 z1) d1) (Shns.mono (Rxs.shn h5 s2 z2) d2)
    have r : Reads h₀ (.ref a) (.dict kvs) _ := .dict h1 h2 h3 q4 q5
    refine ⟨a :: bs, ReadAtMost.cons r (by simp only [PyData.depth]; omega) hb, ?_⟩
    simp only [PyData.depth, PyData.shown, PyData.shownKv_eq]
    exact .dict h1 h2 h3 hy (not_mem_of_deeper r (by simp only [PyData.depth]; omega) hb) hk
theorem Rxs.shn : ∀ {vs : List Value} {ds : List PyData}, Rxs h₀ vs ds → PyData.showableAll ds = true → (∀ t ∈ PyData.shownAll ds, t.length ≤ sizeLine) → Shns prog w h₀ (PyData.depthAll ds) vs (PyData.shownAll ds)
  | _, _, .nil, _, _ => ⟨[], fun _ q => (nomatch q), by simp only [PyData.shownAll]; exact .nil⟩
  | _, _, .cons r rs, hs, hz => by
    simp only [PyData.showableAll, Bool.and_eq_true] at hs
    simp only [PyData.shownAll, List.mem_cons, forall_eq_or_imp] at hz
    simp only [PyData.depthAll, PyData.shownAll]
    exact Shns.cons (Rx.shn r hs.1 hz.1) (Rxs.shn rs hs.2 hz.2)
end

theorem Rx.call {A : Around} {E : Value → Shared → Prop} {s : Shared} {Q : Value → Shared → Prop} {v : Value} {d : PyData} (r : Rx h₀ v d) (hs : d.showable = true) (hz : d.shown.length ≤ sizeLine) (hg : A.guards = some []) (hu : A.units + (d.depth + 1) < cLine)
    (hk0 : ∀ b o, h₀.get? b = some o → s.heap.get? b = some o) (hQ : ∀ h' u tk, (∀ b o, s.heap.get? b = some o → h'.get? b = some o) → Q (.str d.shown u) { s with heap := h', toks := tk }) : wpAny (model prog w) A (call (.builtin "repr") [v]) Q E s := by
  cases r with
  | none => exact PySem.P.repr_of_none (by simpa only [PyData.shown] using hQ s.heap _ _ fun _ _ z => z)
  | bool b => exact PySem.P.repr_of_bool (by simpa only [PyData.shown] using hQ s.heap _ _ fun _ _ z => z)
  | int i t => exact PySem.P.repr_of_int (by simpa [PyData.showable] using hs) (by simpa only [PyData.shown] using hQ s.heap _ _ fun _ _ z => z)
  | str x t => exact PySem.P.repr_of_str (by simpa only [PyData.shown] using hQ s.heap _ _ fun _ _ z => z) (by simpa only [PyData.shown] using hz)
  | list h1 h2 h3 h4 =>
    rename_i a o vs n xs
    obtain ⟨as, q⟩ := h4.reads
    simp only [PyData.shown] at hz hQ
    simp only [PyData.depth] at hu
    obtain ⟨bs, hb, hk⟩ := Rxs.shn (prog := prog) (w := w) h4 (by simpa [PyData.showable] using hs) fun t ht => Nat.le_trans (listText_mem_le ht) hz
    have r : Reads h₀ (.ref a) (.list xs) _ := .list h1 h2 h3 q
    have hna := not_mem_of_deeper r (by simp only [PyData.depth]; omega) hb
    refine call_repr_slot (by omega) ⟨o, hk0 _ _ h1, h2⟩ F.slot_list_repr.toG ?_
    obtain ⟨l⟩ := vs
    cases l with
    | nil =>
      have h4' : Rxs h₀ [] xs := h4
      cases h4'
      simp only [PyData.shownAll, listText_nil] at hQ
      exact call_list_repr_empty ⟨o, hk0 _ _ h1, h2⟩ (hk0 _ _ h1) h3 ⟨_, _, rfl, hQ s.heap _ _ fun _ _ e => e⟩
    | cons x l =>
      exact call_list_reprK h1 h2 h3 hna (by simpa using hk.length_eq) (fun i y e => hk.item i y (by simpa using e)) hg (fun b _ => Clear.nil b) (by show A.units + 1 + _ < cLine; omega) hk0 (fun h' u tk z => ⟨_, _, rfl, hQ h' u tk z⟩) hz
  | tuple h1 h2 h3 h4 =>
    rename_i a o vs n xs
    obtain ⟨as, q⟩ := h4.reads
    simp only [PyData.shown] at hz hQ
    simp only [PyData.depth] at hu
    obtain ⟨bs, hb, hk⟩ := Rxs.shn (prog := prog) (w := w) h4 (by simpa [PyData.showable] using hs) fun t ht => Nat.le_trans (tupleText_mem_le ht) hz
    have r : Reads h₀ (.ref a) (.tuple xs) _ := .tuple h1 h2 h3 q
    have hna := not_mem_of_deeper r (by simp only [PyData.depth]; omega) hb
    exact call_repr_slot (by omega) ⟨o, hk0 _ _ h1, h2⟩ F.slot_tuple_repr
      (call_tuple_reprK h1 h2 h3 hna hk hg (fun b _ => Clear.nil b) (by show A.units + 1 + _ < cLine; omega) hk0 (fun h' u tk z => ⟨_, _, rfl, hQ h' u tk z⟩) hz)
  | dict h1 h2 h3 hy h4 h5 =>
    rename_i a o es n kvs
    obtain ⟨as, q4⟩ := h4.reads
    obtain ⟨cs, q5⟩ := h5.reads
    simp only [PyData.shown, PyData.shownKv_eq] at hQ
    simp only [PyData.shown] at hz
    simp only [PyData.depth] at hu
    obtain ⟨s1, s2⟩ := PyData.showableKv_split kvs (by simpa [PyData.showable] using hs)
    obtain ⟨z1, z2⟩ := short_kv hz
    obtain ⟨d1, d2⟩ := depth_kv kvs
    obtain ⟨bs, hb, hk⟩ := Shns.two (Shns.mono (Rxs.shn (prog := prog) (w := w) h4 s1 z1) d1) (Shns.mono (Rxs.shn h5 s2 z2) d2)
    have r : Reads h₀ (.ref a) (.dict kvs) _ := .dict h1 h2 h3 q4 q5
    have hna := not_mem_of_deeper r (by simp only [PyData.depth]; omega) hb
    exact call_repr_slot (by omega) ⟨o, hk0 _ _ h1, h2⟩ F.slot_dict_repr
      (call_dict_reprK h1 h2 h3 hy hna hk hg (fun b _ => Clear.nil b) (by show A.units + 1 + _ < cLine; omega) hk0 (fun h' u tk z => ⟨_, _, rfl, hQ h' u tk z⟩) (by rw [← PyData.shownKv_eq]; exact hz))
end
def keyP : Key → PyData
  | .inl i => .int i
  | .inr x => .str x
def keyOk : Key → Bool
  | .inl _ => true
  | .inr x => PyData.strOk x
def toR (h : Hs) : Nat → D → Option PyData
  | 0, d => toP h 0 d
  | n + 1, d => match d with
    | .tup xs => (xs.mapM (toR h n)).map PyData.tuple
    | .dic ks xs => if ks.all keyOk = true then (xs.mapM (toR h n)).map fun ps => .dict ((ks.map keyP).zip ps) else none
    | d => match lstOf h d with
      | some xs => (xs.mapM (toR h n)).map PyData.list
      | none => toP h 0 d
theorem mapM_some2 {α β γ : Type} {f : α → Option β} {g : α → Option γ} (k : β → γ) : ∀ {xs : List α} {ys : List β}, (∀ x ∈ xs, ∀ y, f x = some y → g x = some (k y)) → xs.mapM f = some ys → xs.mapM g = some (ys.map k)
  | [], ys, _, e => by
    simp only [List.mapM_nil] at e ⊢
    cases e; rfl
  | x :: xs, ys, h, e => by
    obtain ⟨y, zs, e1, e2, rfl⟩ := mapM_cons_some e
    rw [List.mapM_cons, h x List.mem_cons_self y e1, mapM_some2 k (fun z hz => h z (List.mem_cons_of_mem _ hz)) e2]
    rfl
theorem mapM_len0 {α β : Type} {f : α → Option β} : ∀ {xs : List α} {ys : List β}, xs.mapM f = some ys → xs.length = ys.length
  | [], ys, e => by
    simp only [List.mapM_nil] at e
    cases e; rfl
  | x :: xs, ys, e => by
    obtain ⟨y, zs, e1, e2, rfl⟩ := mapM_cons_some e
    simp [mapM_len0 e2]
theorem toR_of {h : Hs} : ∀ (n : Nat) (d : D) (p : PyData), toP h n d = some p → toR h n d = some p
  | 0, _, _, e => e
  | n + 1, d, p, e => by
    have ih := fun (xs : List D) (ps : List PyData) (q : xs.mapM (toP h n) = some ps) => mapM_some2 id (fun x _ y hy => toR_of n x y hy) q
    have lists : ∀ d, (match lstOf h d with | some xs => (xs.mapM (toP h n)).map PyData.list | none => none) = some p → (match lstOf h d with | some xs => (xs.mapM (toR h n)).map PyData.list | none => toP h 0 d) = some p := fun d e => by
      cases hl : lstOf h d with
      | none => rw [hl] at e; cases e
      | some xs =>
        rw [hl] at e
        dsimp only at e ⊢
        cases q : xs.mapM (toP h n) with
        | none => rw [q] at e; cases e
        | some ps =>
          rw [q] at e
          rw [ih xs ps q, List.map_id]; exact e
    cases d with
    | tup xs =>
      simp only [toP] at e
      simp only [toR]
      cases q : xs.mapM (toP h n) with
      | none => rw [q] at e; cases e
      | some ps =>
        rw [q] at e
        rw [ih xs ps q, List.map_id]; exact e
    | lst xs => exact lists (.lst xs) e
    | scr xs => exact lists (.scr xs) e
    | loc m => exact lists (.loc m) e
    | dic ks xs => cases e
    | non => exact e
    | bl b => exact e
    | int i => exact e
    | str x => exact e
open Classical in
noncomputable def reprR : List D → Hs → R D
  | [d], h => match toR h 60 d with
    | some p => if p.showable = true ∧ p.shown.length ≤ sizeLine ∧ p.depth ≤ 62 then .ok (.str p.shown) h else .bad
    | none => .bad
  | _, _ => .bad
section
variable {X : Cx} {pins : List (Addr × Obj)} {σ : L2.St} {H : Hp} {s : Shared} {G : GG} {ms : List Addr} {h : Hs}
theorem rx_keys {P : Program} {w : World} {h : Heap} : ∀ {es : List DictEntry} {kvs : List (Key × Value)}, Pairs (mixKind P w) es kvs → Rxs h (es.map (·.key)) ((kvs.map (·.1)).map keyP)
  | _, _, .nil => .nil
  | _, _, .cons (e := e) (kv := kv) k _ r => by
    have q : keyIs kv.1 e.key = true := k
    rcases keyIs_shape q with ⟨i, t, e1, e2⟩ | ⟨x, t, e1, e2⟩
    · rw [List.map_cons, List.map_cons, List.map_cons, e1, e2]
      exact .cons (.int i t) (rx_keys r)
    · rw [List.map_cons, List.map_cons, List.map_cons, e1, e2]
      exact .cons (.str x t) (rx_keys r)
theorem pairs_vals {P : Program} {w : World} : ∀ {es : List DictEntry} {kvs : List (Key × Value)}, Pairs (mixKind P w) es kvs → es.map (·.val) = kvs.map (·.2)
  | _, _, .nil => rfl
  | _, _, .cons _ v r => by rw [List.map_cons, List.map_cons, v, pairs_vals r]
theorem kv_split : ∀ {ks : List Key} {vs : List V} {ws : List (Key × Value)}, ks.length = vs.length → KV (ks.zip vs) ws → ws.map (·.1) = ks ∧ Vals vs (ws.map (·.2))
  | [], [], _, _, .nil => ⟨rfl, .nil⟩
  | [], _ :: _, _, h, _ => by cases h
  | _ :: _, [], _, h, _ => by cases h
  | k :: ks, v :: vs, _, h, .cons q r => by
    obtain ⟨a, b⟩ := kv_split (by simpa using h) r
    obtain ⟨q1, q2⟩ := q
    exact ⟨by rw [List.map_cons, a]; exact congrArg (· :: ks) q1.symm, .cons q2 b⟩
theorem rxs_of {hp : Heap} {f : D → Option PyData} (ih : ∀ (d : D) (v : V) (p : PyData) (u : Value), Is X.K G ms d v → f d = some p → RelV v u → Rx hp u p) : ∀ {xs : List D} {vs : List V} {ps : List PyData} {us : List Value}, IsL X.K G ms xs vs → xs.mapM f = some ps → Vals vs us → Rxs hp us ps
  | [], vs, ps, us, i, e, r => by
    cases i
    cases r
    simp only [List.mapM_nil] at e
    cases e
    exact .nil
  | x :: xs, vs, ps, us, i, e, r => by
    obtain ⟨v, vr, rfl, i1, i2⟩ := i
    obtain ⟨y, zs, e1, e2, rfl⟩ := mapM_cons_some e
    cases r with
    | cons r1 r2 => exact .cons (ih x v y _ i1 e1 r1) (rxs_of ih i2 e2 r2)
theorem rx_of (I : Inv X pins σ H s) (hh : Hh X.K G ms h H) : ∀ (n : Nat) (d : D) (v : V) (p : PyData) (u : Value), Is X.K G ms d v → toR h n d = some p → RelV v u → Rx s.heap u p := by
  have flat : ∀ (d : D) (v : V) (p : PyData) (u : Value), Is X.K G ms d v → toP h 0 d = some p → RelV v u → Rx s.heap u p := fun d v p u i e r => by
    cases d <;> simp only [toP] at e
    case non => cases e; cases i; cases r; exact .none
    case bl b => cases e; cases i; cases r; exact .bool b
    case int j => cases e; cases i; obtain ⟨t, rfl⟩ := r; exact .int j t
    case str x =>
      split at e
      · cases e; cases i; obtain ⟨t, rfl⟩ := r; exact .str x t
      · cases e
    all_goals cases e
  intro n
  induction n with
  | zero => exact flat
  | succ n ih =>
    intro d v p u i e r
    have lists : ∀ d, Is X.K G ms d v → (match lstOf h d with | some xs => (xs.mapM (toR h n)).map PyData.list | none => toP h 0 d) = some p → Rx s.heap u p := fun d i e => by
      cases hl : lstOf h d with
      | none => rw [hl] at e; exact flat d v p u i e r
      | some xs =>
        rw [hl] at e
        dsimp only at e
        cases q : xs.mapM (toR h n) with
        | none => rw [q] at e; cases e
        | some ps =>
          rw [q] at e; cases e
          obtain ⟨a, vs, rfl, h2, h3⟩ := hh.list i hl
          cases r
          obtain ⟨its, rv, ⟨o, m, ho, hc, _, hd⟩, _⟩ := I.list h2
          exact .list ho hc hd (rxs_of ih h3 q rv)
    cases d with
    | tup xs =>
      simp only [toR] at e
      cases q : xs.mapM (toR h n) with
      | none => rw [q] at e; cases e
      | some ps =>
        rw [q] at e; cases e
        obtain ⟨a, vs, rfl, h2, h3⟩ := hh.tuple i
        cases r
        obtain ⟨its, rv, ⟨o, ho, hc, m, hd⟩, _⟩ := I.tuple h2
        exact .tuple ho hc hd (rxs_of ih h3 q rv)
    | dic ks xs =>
      simp only [toR] at e
      split at e
      · cases q : xs.mapM (toR h n) with
        | none => rw [q] at e; cases e
        | some ps =>
          rw [q] at e; cases e
          obtain ⟨a, vs, rfl, h1, h2, h3⟩ := i
          cases r
          obtain ⟨_, hy, ws, kv, ⟨o, es, ep, e1, ed, e2, _, pr, _⟩⟩ := I.hok a _ (hh.sub _ _ h1)
          obtain ⟨k1, k2⟩ := kv_split h2 kv
          have hlen : ks.length = ps.length := by
            rw [h2, ← h3.length]
            exact mapM_len0 q
          have z1 : ((ks.map keyP).zip ps).map (·.1) = ks.map keyP := List.map_fst_zip (by simp; omega)
          have z2 : ((ks.map keyP).zip ps).map (·.2) = ps := List.map_snd_zip (by simp; omega)
          refine .dict e1 ed.1 e2 hy ?_ ?_
          · rw [z1, ← k1]; exact rx_keys pr
          · rw [z2, pairs_vals pr]; exact rxs_of ih h3 q k2
      · cases e
    | lst xs => exact lists (.lst xs) i e
    | scr xs => exact lists (.scr xs) i e
    | loc m => exact lists (.loc m) i e
    | non => exact flat _ v p u i e r
    | bl b => exact flat _ v p u i e r
    | int j => exact flat _ v p u i e r
    | str x => exact flat _ v p u i e r
theorem cd_reprR {k : Nat} (hr : RoomG k X.A) : CallD X (.builtin "repr") reprR := by
  intro pins s σ H xs us Q I r ⟨G, ms, h, ds, hh, i, q⟩
  unfold reprR at q
  split at q
  · rename_i d
    split at q
    · rename_i p e
      split at q
      · rename_i hz
        obtain ⟨v, rfl, i1⟩ := isL1 (ds := []) i
        obtain ⟨u, rfl, rv⟩ := vals1 r
        have un := hr.u65
        exact (rx_of I hh 60 d v p u i1 e rv).call hz.1 hz.2.1 hr.gu (by have := hz.2.2; omega) (fun _ _ z => z) fun h' t tk kp => ⟨.str p.shown, H, I.kept kp, ⟨t, rfl⟩, q.fin hh rfl⟩
      · exact q.elim
    · exact q.elim
  · exact q.elim
end
theorem x_reprR {d : D} {h : Hs} {p : PyData} (e : toR h 60 d = some p) (hs : p.showable = true) (hz : p.shown.length ≤ sizeLine) (hd : p.depth ≤ 62) : reprR [d] h = .ok (.str p.shown) h := by
  simp only [reprR, e]
  exact if_pos ⟨hs, hz, hd⟩
end WD
namespace WD
open PySem PySem.Spec PyProof.Rows L2
section
variable {X : Cx} {x1 x2 n : Str} {c1 c2 : Value} {i : Nat} {body su1 su2 : List Stmt} {b1 b2 : Stmt} {np1 np2 pos p1 p2 : Pos} {tb : WX → TS} {ts1 ts2 : Addr → Value → Option Addr → TS} {Wout : WX}
end
open Classical in
noncomputable def sTryX2 (c c' : Str) (i : Nat) (names : List Str) (flds : List (Str × Str)) (fb : FS) (fs fs' : Xn → FS) : FS := fun s h => match fb s h with
  | .er y s' h' => if OkX names flds y ∧ i < s'.length then (if subX y.name c = true then unset i (fs y (s'.set i none) h') else if subX y.name c' = true then unset i (fs' y (s'.set i none) h') else .er y s' h') else .bad
  | r => r
section
variable {X : Cx} {W : WX} {pin : List Pn} {pos : Pos} {K : PySem.W.Frag} {mg : Str → Option Value} {G : GG} {ms : List Addr}
end
section
variable {X : Cx} {W : WX} {pin : List Pn} {pos : Pos}
end
end WD
namespace WD
open PySem PySem.Spec PyProof.Rows L2
section
variable {K : PySem.W.Frag} {G G' : GG} {H H' : Hp} {ms ms' : List Addr} {h h' : Hs}
theorem IsF.lookup {f : Str} : ∀ {fs : List (Str × D)} {vs : List (Str × V)}, IsF K G ms fs vs → ∀ x, fs.lookup f = some x → ∃ v, vs.lookup f = some v ∧ Is K G ms x v
  | [], _, _, _, e => by cases e
  | (g, y) :: r, _, h, x, e => by
    obtain ⟨v, s, rfl, h1, h2⟩ := h
    simp only [List.lookup_cons] at e ⊢
    cases hb : f == g with
    | true => rw [hb] at e; cases e; exact ⟨v, rfl, h1⟩
    | false => rw [hb] at e; exact IsF.lookup h2 x e
theorem IsF.len : ∀ {fs : List (Str × D)} {vs : List (Str × V)}, IsF K G ms fs vs → fs.length = vs.length
  | [], _, h => by cases h; rfl
  | (g, y) :: r, _, h => by
    obtain ⟨v, s, rfl, h1, h2⟩ := h
    simp [IsF.len h2]
end
section
variable {X : Cx} {W : WX} {pin : List Pn} {pos : Pos}
end
end WD
namespace WD
open PySem PySem.Spec PyProof.Rows L2
section
variable {X : Cx} {W : WX} {pin : List Pn} {pos : Pos}
end
end WD
namespace WD
open PySem PySem.Spec PyProof.Rows L2
section
variable {Y : Cx} {W : WX} {pin : List Pn} {pos : Pos}
/-- the error's object and its fields' dict, as a state bears them -/
theorem err_at {a D dd : Addr} {oe : Obj} {pins : List (Addr × Obj)} {σ : L2.St} {H : Hp} {s : Shared} {fs : List (Str × V)} (hpn : (a, oe) ∈ Y.pn) (hz : Zc (.ref D) (some dd) oe) (hf : ∃ vs, oe.data = .fields vs) (I : Inv Y pins σ H s) (ed : H dd = some (.xd fs)) :
    ∃ (od : Obj) (m : Str → Option Value), PySem.W.InstAt s.heap a oe D (some od) ∧ (∀ n, RelO (fs.lookup n) (m n)) ∧ ∀ n, PySem.W.lookIn n od = some (m n) := by
  obtain ⟨vs, hv⟩ := hf
  obtain ⟨m, hns, hr⟩ := (show ObjOk Y.prog Y.w H s.heap dd (.xd fs) from I.hok dd _ ed)
  obtain ⟨od, ho, hl⟩ := lookIn_ns hns
  exact ⟨od, m, ⟨(I.pin (a, oe) (List.mem_append_left _ hpn)).1, hz.1, by unfold PySem.W.notCls; rw [hv] <;> rfl, by rw [hz.2]; exact ho⟩, fun n => by rw [← (show _ = fs.lookup n from rfl)]; exact hr n, hl⟩
theorem call_isPX {a D dd : Addr} {oe : Obj} (hpn : (a, oe) ∈ Y.pn) (C : ExcC Y.K D) (hz : Zc (.ref D) (some dd) oe) (hf : ∃ vs, oe.data = .fields vs) : CallR Y (.builtin "isinstance") (rIsEX Y.K D a dd) := by
  intro pins s σ H xs us Q I r ⟨c, cv, b, fs, e0, hcv, e, ed, q⟩
  subst e0
  obtain ⟨u1, u2, e1, r1, r2⟩ := vals2 r
  subst e1
  cases (show u1 = Value.ref a from r1)
  cases hcv _ r2
  obtain ⟨od, m, J, _, _⟩ := err_at hpn hz hf I ed
  obtain ⟨cd, hc, _⟩ := PySem.W.any_some C.hd
  exact PySem.W.kia_one (PySem.W.kitx_exc (by rw [hc]; rfl) C.hg C.hk C.hs C.ha C.hn C.ht C.hm) I.kIn J e (fun z => nomatch z) fun tk => ⟨.bl b, H, I.kept (t' := tk) fun _ _ z => z, rfl, q⟩
theorem ve_isPX {a Dc dd : Addr} {oe : Obj} (i : Nat) {n x f : Str} {d : D} {cv : Value} {c : V} {b : Bool} {p p1 p2 : Pos} (hpn : (a, oe) ∈ Y.pn) (C : ExcC Y.K Dc) (hz : Zc (.ref Dc) (some dd) oe) (hf : ∃ vs, oe.data = .fields vs) (hk : PySem.W.kitOne Y.K (.ref Dc) cv = some b) (hcv : ∀ u, RelV c u → u = cv)
    (hx : PE Y (.Name x p2) (tC c)) (hp : Pn.s i (V.ref a) ∈ pin) (hq : Pn.g dd f d ∈ pin) (hgi : Gl Y "isinstance") (hmi : Y.mg "isinstance" = none) (hN : Y.N[i]? = some n := by rfl) (hv : Vis Y.env.scope n := by first | exact Or.inl rfl | exact Or.inr (Or.inl rfl) | exact Or.inr (Or.inr rfl))
    (hd : (n == ("__debug__" : Str)) = false := by decide) (hcd : (n == ("__classdict__" : Str)) = false := by decide)
    (hs1 : starEach [.Name n p1, .Name x p2] Y.env = (false, eval (.Name n p1) Y.env) :: starEach [.Name x p2] Y.env := by rfl) (hs2 : starEach [.Name x p2] Y.env = (false, eval (.Name x p2) Y.env) :: starEach [] Y.env := by rfl) (hpl : (backTo pos (starEach [.Name x p2] Y.env)).any (·.1) = false := by rfl) :
    VE Y W pin (.Call (.Name "isinstance" p) [.Name n p1, .Name x p2] [] pos) (eC (.bl b)) := by
  refine pe_imp (pe_callB (call_isPX hpn C hz hf) hgi hmi (by decide +kernel) (pa_cons (pe_var (X := Y) (i := i) hN hv hd hcd) (pa_cons hx pa_nil hs2) hs1) (by decide) (by decide) hs1 hpl) fun σ H Q ⟨G, ms, s, h, hh, sl, q⟩ => ?_
  refine ⟨.ref a, sl.pin _ hp, ?_⟩
  obtain ⟨v, k1, k2⟩ := sl.pin _ hq
  exact ⟨c, cv, b, _, rfl, hcv, hk, hh.sub _ _ k1, Post.fin (b := V.bl b) q hh rfl⟩
end
structure FnEF (P : Program) (w : World) (K : PySem.W.Frag) (mg : Str → Option Value) (base : Heap) (k : Nat) (f : Addr) (fd : FuncData) (x : Str) (flds : List (Str × Str)) (g : Xn → Hs → R D) : Prop where
  goes : ∀ A outer s H p y ff dd d Q, L2H.RoomH k A → L2H.PinOk outer H s p → (y, ff) ∈ flds → Zc (clsV mg ⟨y, none⟩) (some dd) p.2 → (∃ vs, p.2.data = .fields vs) → Env0 P w K mg base A outer s H → BindsTo s fd ⟨[.ref p.1], []⟩ [(x, .ref p.1)] →
    (∃ G ms h v, Hh K G ms h H ∧ G.1 dd = some (.xd [(ff, v)]) ∧ Is K G ms d v ∧ Post K mg (fun _ _ _ => False) G ms (Is K) (g ⟨y, some (ff, d)⟩ h) Q) → codeAny (model P w) A (.call (.ref f) ⟨[.ref p.1], []⟩) (CR (L2.CX P w) outer P w H s Q (fun _ _ _ => False)) s
section
variable {P : Program} {w : World} {K : PySem.W.Frag} {mg : Str → Option Value} {base : Heap} {f : Addr} {fd : FuncData}
theorem FnEF.mono {j k : Nat} {x : Str} {flds : List (Str × Str)} {g : Xn → Hs → R D} (F : FnEF P w K mg base j f fd x flds g) (h : j ≤ k) : FnEF P w K mg base k f fd x flds g := ⟨fun A outer s H p y ff dd d Q r => F.goes A outer s H p y ff dd d Q (r.mono h)⟩
theorem fnEF_ok (md : Md) {x0 qual x : Str} {st : Stmt} {N : List Str} {k : Nat} {flds : List (Str × Str)} {b : Xn → FS} (F : Fun K x0 qual st f fd) (S : FnScope N [x] (defScope st))
    (hb : ∀ cdv A outer s H p y ff dd d, L2H.RoomH k (A.deeper (envOfC qual (defScope st) s.heap.objs.size f cdv)) → (y, ff) ∈ flds → Zc (clsV mg ⟨y, none⟩) (some dd) p.2 → (∃ vs, p.2.data = .fields vs) →
      VSs (L2H.cxH (L2.CX P w) P w K mg base N qual (defScope st) f cdv A outer s H (fun _ _ _ => False) p) W0 [.s 0 (.ref p.1), .g dd ff d] (defBody st) (b ⟨y, some (ff, d)⟩)) :
    FnEF P w K mg base (k + 1) f fd x flds (fun y h => runE N.length md (b y) h) := by
  obtain ⟨oc, od, kV, doc, pm, an, cdv, ct, osl, rfl, lk, ccd⟩ := F.ex
  refine ⟨fun A outer s H p y ff dd d Q room pk hy hz hf env bnd q => ?_⟩
  have kin : K.In s.heap := env.mod.kin.keeps fun a ob z => (env.bs a ob z).1
  have nol : s.heap.NoLimit := env.mod.nolimit.keeps fun a ob z => (env.bs a ob z).1
  refine codeAny_call_function room.depth (kin _ _ lk) rfl S.co S.gen rfl (PySem.W.codeRec_of kin ccd) (bnd _ _ _ _ (wpAny_newFunctionEnv_cells S.kind (fun z hz => ?_) fun ev hev st1 inC => ?_))
  · obtain rfl : z = (x, Value.ref p.1) := by simpa using hz
    rcases S.par x List.mem_cons_self with t | t
    · exact Or.inl t
    · exact Or.inr ⟨t, PySem.W.cellsFrom_some _ _ _ (Or.inl t)⟩
  subst hev
  refine ⟨nol.keeps inC.toInCall.keep, codeAny_func ?_⟩
  have rd := hb cdv A outer s H p y ff dd d (room.deeper _) hy hz hf
  have iv := L2H.inv_startH (CX := L2.CX P w) (N := N) (ps := [x]) (us := [.ref p.1]) (vs := [.ref p.1]) (E := fun _ _ _ => False) S pk env rfl (.cons rfl .nil) inC
  obtain ⟨G, ms, h, v, hh, g1, g2, q⟩ := q
  have hN : 0 < N.length := by
    have := congrArg List.length S.pre
    rw [List.length_take] at this
    simp at this
    omega
  have sl : Sl K G ms [Pn.s 0 (V.ref p.1), .g dd ff d] (List.replicate N.length none) (L2.start N [V.ref p.1]) := by
    refine ⟨by simp [L2.start]; omega, fun i d e => ?_, fun z hz => ?_⟩
    · have := List.mem_of_getElem? e
      have := List.eq_of_mem_replicate this
      cases this
    · rcases List.mem_cons.mp hz with rfl | hz
      · rfl
      · obtain rfl : z = Pn.g dd ff d := by simpa using hz
        exact ⟨v, g1, g2⟩
  let En : Ends := ⟨fun _ H' => Q .non H', Q, fun _ _ => False, fun _ _ => False⟩
  have go : rdS (L2H.cxH (L2.CX P w) P w K mg base N qual (defScope st) f cdv A outer s H (fun _ _ _ => False) p) W0 [.s 0 (.ref p.1), .g dd ff d] (b ⟨y, some (ff, d)⟩) En (L2.start N [V.ref p.1]) H := by
    refine ⟨G, ms, _, h, hh, sl, ?_⟩
    unfold runE at q
    cases e : b ⟨y, some (ff, d)⟩ (List.replicate N.length none) h with
    | nx s' h' =>
      rw [e] at q
      exact fun σ' H' G' ms' e1 p1 hh1 sl1 => exitF_post (d := .non) hh e1 p1 hh1 rfl q
    | rt d h' =>
      rw [e] at q
      exact fun v H' G' ms' e1 p1 hh1 i1 => exitF_post hh e1 p1 hh1 i1 q
    | er z s' h' => rw [e] at q; exact q.elim
    | bk s' h' => rw [e] at q; exact q.elim
    | ct s' h' => rw [e] at q; exact q.elim
    | bad => rw [e] at q; exact q.elim
  refine wpAny_mono (rd.run [] st1 (L2.start N [V.ref p.1]) H En iv go) (fun fl s2 ends => ?_) fun _ _ z => z
  match fl, ends with
  | .ret u, ⟨v, σ', H', J, rv, z⟩ => exact ⟨v, H', J.os, J.bare, J.base, J.hok, rv, z⟩
  | .next, ⟨σ', H', J, z⟩ => exact ⟨V.non, H', J.os, J.bare, J.base, J.hok, rfl, z⟩
  | .brk, ⟨_, _, _, z⟩ => exact z.elim
  | .cont, ⟨_, _, _, z⟩ => exact z.elim
end
section
variable {X : Cx} {W : WX} {pin : List Pn} {pos : Pos}
/-- f(error), in the suite; the error bears a field -/
theorem ve_callEF {k : Nat} {f a dd : Addr} {oe : Obj} {pn : List (Addr × Obj)} {fd : FuncData} {x fx n y ff : Str} {d : D} {flds : List (Str × Str)} {g : Xn → Hs → R D} {p p1 : Pos} (i : Nat) (F : FnEF X.prog X.w X.K X.mg X.base k f fd x flds g) (hr : Room k X.A) (hy : (y, ff) ∈ flds) (hz : Zc (clsV X.mg ⟨y, none⟩) (some dd) oe) (hf : ∃ vs, oe.data = .fields vs) (hg : Gl X fx) (hm : X.mg fx = some (.ref f)) (hkp : PySem.W.keepIn X.K (.ref f) = true) (hb : Binds X.K fd [x] [])
    (hp : Pn.s i (V.ref a) ∈ pin) (hq : Pn.g dd ff d ∈ pin) (hN : X.N[i]? = some n := by rfl) (hv : Vis X.env.scope n := by first | exact Or.inl rfl | exact Or.inr (Or.inl rfl) | exact Or.inr (Or.inr rfl))
    (hd : (n == ("__debug__" : Str)) = false := by decide) (hcd : (n == ("__classdict__" : Str)) = false := by decide) (hdb : (fx == ("__debug__" : Str)) = false := by decide)
    (hs1 : starEach [.Name n p1] X.env = (false, eval (.Name n p1) X.env) :: starEach [] X.env := by rfl) (hpl : (backTo pos (starEach [] X.env)).any (·.1) = false := by rfl) :
    VE (X.suite a ((a, oe) :: pn)) W0 pin (.Call (.Name fx p) [.Name n p1] [] pos) (eErr (g ⟨y, some (ff, d)⟩)) := by
  refine ⟨fun pins s σ H Q I ⟨G, ms, s', h, hh, sl, q⟩ => wpAny_Call_Name_kw (ld_glob I hg hm ?_ hdb)⟩
  have ha : PA (X.suite a ((a, oe) :: pn)) [.Name n p1] (tCons _ tNil) := pa_cons (pe_var (X := X.suite a ((a, oe) :: pn)) (i := i) hN hv hd hcd) pa_nil hs1
  refine PySem.W.callWith_K (h₀ := X.base) I.ok.mod.kin hkp (thn (ha.run pos pins s σ H (fun vs H1 => vs = [V.ref a] ∧ H1 = H) I ⟨.ref a, sl.pin _ hp, rfl, rfl⟩) fun us s1 z => ?_) hs1 hpl
  obtain ⟨vs, H1, J, rr, rfl, rfl⟩ := z
  refine ⟨J.kIn, ?_⟩
  obtain ⟨u, rfl, ru⟩ := vals1 rr
  cases (show u = Value.ref a from ru)
  have bb : BindsTo s1 fd ⟨[.ref a], []⟩ [(x, .ref a)] := by simpa using hb s1 [.ref a] J.kIn rfl
  have pk := J.pin (a, oe) (List.mem_append_left _ List.mem_cons_self)
  have pin0 : L2H.PinOk X.stack H1 s1 (a, oe) := ⟨pk.1, pk.2.1, fun hm => (List.mem_cons.mp (J.stkSub a hm)).elim pk.2.2.1 pk.2.2.2.1, pk.2.2.2.2⟩
  obtain ⟨v, g1, g2⟩ := sl.pin _ hq
  refine wpAny_call (codeAny_mono (F.goes (X.suite a ((a, oe) :: pn)).A X.stack s1 H1 (a, oe) y ff dd d Q ⟨hr.dp, hr.un⟩ pin0 hy hz hf J.env0 bb ⟨G, ms, h, v, hh, g1, g2, q⟩) fun r s2 hz => ?_)
  match r, hz with
  | .error e, hz =>
    obtain ⟨_, _, _, _, _, _, _, _, _, _, _, _, no⟩ := (show L2.CX X.prog X.w X.stack H1 s1 (fun _ _ _ => False) e s2 from hz)
    exact no.elim
  | .ok (.ret u), hz => exact J.after hz
end
end WD
namespace WD
open PySem PySem.Spec PyProof.Rows L2
section
variable {X : Cx} {W : WX} {pin : List Pn} {pos : Pos}
end
end WD
namespace WD
open PySem PySem.Spec PyProof.Rows L2
section
variable {P : Program} {w : World} {K : PySem.W.Frag} {G : GG} {ms : List Addr} {H : Hp} {hp : Heap}
mutual
theorem nest_of (ok : HOk P w H hp) (sm : Same G.1 H) : ∀ (d : D) (v : V) (u : Value) (k : NestedKey), Is K G ms d v → nkOf d = some k → RelV v u → NestedIs hp k u
  | .int i, v, u, k, i1, e, r => by
    simp only [nkOf, Option.some.injEq] at e
    subst e
    cases i1
    obtain ⟨t, rfl⟩ := r
    exact .int i t
  | .tup xs, v, u, k, i1, e, r => by
    simp only [nkOf, Option.map_eq_some_iff] at e
    obtain ⟨ks, e, rfl⟩ := e
    obtain ⟨a, vs, rfl, h2, h3⟩ := i1
    cases (show u = Value.ref a from r)
    obtain ⟨_, its, rv, o, k1, k2, n, k3⟩ := (show ObjOk P w H hp a (.tup vs) from ok a _ (sm _ _ h2))
    exact .tup k1 k2 k3 (by simpa using nests_of ok sm xs vs its ks h3 e rv)
  | .non, _, _, _, _, e, _ => by simp [nkOf] at e
  | .bl b, v, u, k, i1, e, r => by
    simp only [nkOf, Option.some.injEq] at e
    subst e
    cases i1
    obtain rfl := r
    exact .bool rfl
  | .str _, _, _, _, _, e, _ => by simp [nkOf] at e
  | .lst _, _, _, _, _, e, _ => by simp [nkOf] at e
  | .scr _, _, _, _, _, e, _ => by simp [nkOf] at e
  | .dic _ _, _, _, _, _, e, _ => by simp [nkOf] at e
  | .loc _, _, _, _, _, e, _ => by simp [nkOf] at e
theorem nests_of (ok : HOk P w H hp) (sm : Same G.1 H) : ∀ (xs : List D) (vs : List V) (us : List Value) (ks : List NestedKey), IsL K G ms xs vs → nkOfs xs = some ks → Vals vs us → NestedAll hp ks us
  | [], vs, us, ks, i, e, r => by
    simp only [nkOfs, Option.some.injEq] at e
    subst e
    cases i
    cases r
    exact .nil
  | x :: xs, vs, us, ks, i, e, r => by
    simp only [nkOfs, Option.bind_eq_some_iff, Option.map_eq_some_iff] at e
    obtain ⟨a, e1, b, e2, rfl⟩ := e
    obtain ⟨v, vs', rfl, i1, i2⟩ := i
    cases r with
    | cons r1 r2 => exact .cons (nest_of ok sm x v _ a i1 e1 r1) (nests_of ok sm xs vs' _ b i2 e2 r2)
end
theorem IsKV.mem : ∀ {kvs : List (D × D)} {xs : List (NestedKey × Addr × V)}, IsKV K G ms kvs xs → ∀ q ∈ xs, ∃ p ∈ kvs, nkOf p.1 = some q.1 ∧ q.1.depth ≤ 8 ∧ Is K G ms p.1 (.ref q.2.1)
  | [], _, h, q, hq => by cases h; cases hq
  | p :: r, xs, h, q, hq => by
    obtain ⟨k, a, v, s, rfl, h1, h2, h3, h4, h5⟩ := h
    rcases List.mem_cons.mp hq with rfl | hq
    · exact ⟨p, List.mem_cons_self, h1, h2, h3⟩
    · obtain ⟨p', m, z⟩ := IsKV.mem h5 q hq
      exact ⟨p', List.mem_cons_of_mem _ m, z⟩
def getN (kvs : List (D × D)) (nk : NestedKey) : Option D := (kvs.find? fun p => decide (nkOf p.1 = some nk)).map (·.2)
def putN (kvs : List (D × D)) (k v : D) (nk : NestedKey) : List (D × D) := if (getN kvs nk).isSome = true then kvs.map (fun p => if nkOf p.1 = some nk then (p.1, v) else p) else kvs ++ [(k, v)]
def dropN (kvs : List (D × D)) (nk : NestedKey) : List (D × D) := kvs.filter fun p => !decide (nkOf p.1 = some nk)
end
/-- a dict at a place, walked or not -/
def dctG (h : Hs) : D → Option (List (D × D))
  | .loc n => match h[n]? with
    | some (.dct _ kvs) => some kvs
    | _ => none
  | _ => none
def keyN (k : D) : Option NestedKey := match k with
  | .tup xs => (nkOf (.tup xs)).bind fun q => if q.depth ≤ 8 then some q else none
  | _ => none
section
variable {X : Cx} {W : WX} {pin : List Pn} {pins : List (Addr × Obj)} {σ : L2.St} {G : GG} {ms : List Addr} {h : Hs} {H : Hp} {s : Shared} {pos : Pos}
def eDGet (fd fk : FE) : FE := fun s h => (fd s h).bind fun d h1 => (fk s h1).bind fun k h2 => match dctG h2 d, keyN k with
  | some kvs, some nk => (match getN kvs nk with
    | some v => .ok v h2
    | none => .bad)
  | _, _ => .bad
def sDPut (fd fk fv : FE) : FS := fun s h => RS.ofR s (fv s h) fun v h1 => RS.ofR s (fd s h1) fun d h2 => RS.ofR s (fk s h2) fun k h3 => match d, keyN k with
  | .loc n, some nk => (match dctF h3 n with
    | some kvs => if kvs.length < sizeLine then .nx s (h3.set n (.dct false (putN kvs k v nk))) else .bad
    | none => .bad)
  | _, _ => .bad
def eDPop (fd fk : FE) : FE := fun s h => (fd s h).bind fun d h1 => match dctG h1 d with
  | some _ => (fk s h1).bind fun k h2 => (match d, keyN k with
    | .loc n, some nk => (match dctF h2 n with
      | some kvs => (match getN kvs nk with
        | some v => .ok v (h2.set n (.dct false (dropN kvs nk)))
        | none => .bad)
      | none => .bad)
    | _, _ => .bad)
  | none => .bad
end
end WD
namespace L2
open PySem PySem.Spec PyProof.Rows WD
section
variable {P : Program} {w : World} {K : PySem.W.Frag} {tg : Expr} {d : Addr} {o : Obj} {es : Array DictEntry} {ep : Nat}
end
end L2
namespace WD
open PySem PySem.Spec PyProof.Rows L2
open Classical in
/-- the dict is let go -/
noncomputable def letD (n : Nat) (kvs : List (D × D)) (h : Hs) : Option Hs := if h[n]? = some (.dct true kvs) then some (h.set n (.dct false kvs)) else none
noncomputable def afterD (n : Nat) (kvs : List (D × D)) (r : RS) (k : Ss → Hs → RS) : RS := match r with
  | .nx s h => k s h
  | .ct s h => k s h
  | .bk s h => (match letD n kvs h with
    | some h' => .nx s h'
    | none => .bad)
  | .rt d h => (match letD n kvs h with
    | some h' => .rt d h'
    | none => .bad)
  | .er x s h => .er x s h
  | .bad => .bad
open Classical in
noncomputable def loopD (g : Tg) (b : FS) (n : Nat) (kvs : List (D × D)) : List (D × D) → FS
  | [], s, h => (match letD n kvs h with
    | some h' => .nx s h'
    | none => .bad)
  | p :: r, s, h => if h[n]? = some (.dct true kvs) then (match g p.1 s h with
    | some s' => afterD n kvs (b s' h) (loopD g b n kvs r)
    | none => .bad) else .bad
section
variable {K : PySem.W.Frag} {G G' : GG} {H H' : Hp} {ms ms' : List Addr} {h h' : Hs}
/-- what was kept aside is no longer watched -/
theorem Hh.drop (hh : Hh K G' ms' h' H') {a : Addr} {o : HO} (F : Hp) (f : G'.2 = upd F a o) (hF : F a = none) : Hh K (G'.1, F) ms' h' H' := by
  have hn : ∀ b u, F b = some u → G'.2 b = some u := fun b u e => by
    have : b ≠ a := fun z => by rw [z, hF] at e; cases e
    rw [f, upd_ne this]; exact e
  exact ⟨hh.sub, hh.gsz, fun b u e => hh.frm b u (hn b u e), fun b u e => hh.frd b u (hn b u e), hh.len, hh.nd, hh.dis, fun m b u e1 e2 => ObjIs.mono' (G := G') (q := hh.obj m b u e1 e2) (e := Same.refl G'.1) (p := pre_refl _) (hh := rfl)⟩
end
section
variable {X : Cx} {W : WX} {pin : List Pn} {pos : Pos} {vs : List Nat}
open Classical in
noncomputable def compD (g : Tg) (tt : FT) (te : FE) (s : Ss) (n : Nat) (kvs : List (D × D)) (k : List D → Hs → R D) : List (D × D) → List D → Hs → R D
  | [], acc, h => (match letD n kvs h with
    | some h' => k acc h'
    | none => .bad)
  | p :: r, acc, h => if h[n]? = some (.dct true kvs) ∧ acc.length < sizeLine then stepC g tt te s p.1 h (fun h3 => compD g tt te s n kvs k r acc h3) fun y h4 => compD g tt te s n kvs k r (acc ++ [y]) h4 else .bad
end
end WD
namespace WD
open PySem PySem.Spec PyProof.Rows L2
section
variable {X : Cx} {W : WX} {pin : List Pn} {K : PySem.W.Frag} {mg : Str → Option Value} {E : XK} {G G' : GG} {H : Hp} {ms ms' : List Addr} {h : Hs} {pos : Pos} {vs : List Nat}
end
end WD
namespace RT
open PySem PySem.W PySem.Spec
section
variable {prog : Program} {w : World} {A : Around} {E : Value → Shared → Prop} {s : Shared}
end
end RT
namespace WD
open PySem PySem.Spec PyProof.Rows L2
section
variable {X : Cx} {W : WX} {pin : List Pn} {K : PySem.W.Frag} {G : GG} {H : Hp} {ms : List Addr} {h : Hs} {pos : Pos}
theorem IsKV.keys : ∀ {kvs : List (D × D)} {xs : List (NestedKey × Addr × V)}, IsKV K G ms kvs xs → IsL K G ms (kvs.map (·.1)) (xs.map fun q => V.ref q.2.1)
  | [], _, h => by cases h; rfl
  | q :: r, xs, h => by
    obtain ⟨k, a, v, s, rfl, h1, h2, h3, h4, h5⟩ := h
    exact ⟨.ref a, _, rfl, h3, IsKV.keys h5⟩
end
end WD
namespace WD
open PySem PySem.Spec PyProof.Rows L2
section
variable {X : Cx} {W : WX} {pin : List Pn} {G : GG} {H : Hp} {ms : List Addr} {h : Hs} {pos : Pos} {pins : List (Addr × Obj)} {σ : L2.St} {s : Shared}
abbrev PT (hp : Heap) (t : Addr) (r : NestedKey × Addr × Value) : Prop := PairAt hp t (.ref r.2.1) r.2.2
end
end WD
namespace WD
open PySem PySem.Spec PyProof.Rows L2
section
variable {X : Cx} {W : WX} {pin : List Pn} {pos : Pos}
end
end WD
namespace SrtN
open PySem PySem.W PySem.Spec PyProof.Rows PySem.Calls
section
variable {prog : Program} {w : World} {A : Around} {E : Value → Shared → Prop} {s : Shared}
end
end SrtN
namespace WD
open PySem PySem.Spec PyProof.Rows L2
def toI : Nat → D → Option PyData
  | 0, d => match d with
    | .int i => some (.int i)
    | _ => none
  | n + 1, d => match d with
    | .int i => some (.int i)
    | .tup xs => (xs.mapM (toI n)).map PyData.tuple
    | _ => none
mutual
def ofP : PyData → D
  | .int i => .int i
  | .tuple xs => .tup (ofPs xs)
  | _ => .non
def ofPs : List PyData → List D
  | [] => []
  | p :: ps => ofP p :: ofPs ps
end
/-- such can be sorted: tuples, none of them empty, that can be told apart -/
def SortOk (ps : List PyData) : Prop := (∀ p ∈ ps, ∃ x r, p = .tuple (x :: r)) ∧ PySem.W.AllAlike ps
section
variable {X : Cx} {W : WX} {K : PySem.W.Frag} {mg : Str → Option Value} {G : GG} {H : Hp} {ms : List Addr} {h : Hs} {s : Shared} {pins : List (Addr × Obj)} {σ : L2.St}
open Classical in
noncomputable def sortPs (m : Bool) (h : Hs) (xs : List D) : R D := match xs.mapM (toI 60) with
  | some ps => if SortOk ps then newL m ((ps.mergeSort (PySem.W.dataLe false id)).map ofP) h else .bad
  | none => .bad
end
end WD
namespace WD
open PySem PySem.Spec PyProof.Rows L2
section
variable {X : Cx} {W : WX} {pin : List Pn} {pos p2 : Pos} {K : PySem.W.Frag} {G : GG} {ms : List Addr}
end
end WD
namespace WD
open PySem PySem.Spec PyProof.Rows L2
def eOrV (fa fb : FE) : FE := fun s h => (fa s h).bind fun d h1 => match lstOf h1 d with
  | some xs => if xs.isEmpty = true then fb s h1 else .ok d h1
  | none => .bad
section
variable {X : Cx} {W : WX} {pin : List Pn} {pos : Pos} {a b : Expr} {rest : List Expr}
end
@[simp] theorem x_orV {fa fb : FE} {s : Ss} {h : Hs} : eOrV fa fb s h = (fa s h).bind fun d h1 => match lstOf h1 d with
  | some xs => if xs.isEmpty = true then fb s h1 else .ok d h1
  | none => .bad := (rfl)
end WD
namespace WD
open PySem PySem.Spec PyProof.Rows L2
section
variable {X : Cx} {W : WX} {pin : List Pn} {K : PySem.W.Frag} {G : GG} {H : Hp} {ms : List Addr} {h : Hs} {pos : Pos}
end
end WD
namespace WD
open PySem PySem.Spec PyProof.Rows L2
def sThru (fb : FS) : FS := fun s h => match fb s h with
  | .er _ _ _ => .bad
  | r => r
section
variable {X : Cx} {W W' : WX} {pin : List Pn} {pos : Pos}
end
@[simp] theorem x_thru {fb : FS} {s : Ss} {h : Hs} : sThru fb s h = match fb s h with
  | .er _ _ _ => .bad
  | r => r := (rfl)
end WD
namespace WD
open PySem PySem.Spec PyProof.Rows L2
section
variable {P : Program} {w : World} {A : Around} {E : Value → Shared → Prop} {s : Shared}
end
end WD
namespace WD
open PySem PySem.Spec PyProof.Rows L2
def dedP : List (Int × Int) → List (Int × Int)
  | [] => []
  | p :: ps => if p ∈ ps then dedP ps else p :: dedP ps
theorem dedP_mem {p : Int × Int} : ∀ ps : List (Int × Int), p ∈ dedP ps ↔ p ∈ ps
  | [] => by simp [dedP]
  | q :: ps => by
    unfold dedP
    split
    · rename_i h
      rw [dedP_mem ps, List.mem_cons]
      exact ⟨fun z => .inr z, fun z => by rcases z with rfl | z; exact h; exact z⟩
    · rw [List.mem_cons, List.mem_cons, dedP_mem ps]
theorem dedP_nd : ∀ ps : List (Int × Int), (dedP ps).Nodup
  | [] => by simp [dedP]
  | q :: ps => by
    unfold dedP
    split
    · exact dedP_nd ps
    · rename_i h
      exact List.nodup_cons.mpr ⟨fun z => h ((dedP_mem ps).mp z), dedP_nd ps⟩
section
variable {X : Cx} {W : WX} {pin : List Pn} {pos : Pos}
end
end WD
namespace WD
open PySem PySem.Spec PyProof.Rows L2
def adV : V → Addr
  | .ref t => t
  | _ => 0
section
variable {X : Cx} {W : WX} {pin : List Pn} {pos : Pos}
end
end WD
namespace WD
open PySem PySem.Spec PyProof.Rows L2
section
variable {prog : Program} {w : World} {A : Around} {E : Value → Shared → Prop} {s : Shared}
end
section
variable {X : Cx}
end
end WD
namespace WD
open PySem PySem.Spec PyProof.Rows L2 RT
section
variable {prog : Program} {w : World} {A : Around} {E : Value → Shared → Prop} {s : Shared}
theorem call_list_rev {it l : Addr} {items : Array Value} {Q : Value → Shared → Prop} (hh : A.handled = none) (hit : s.heap.IsRevIter it l ((items.size : Int) - 1)) (hl : s.heap.IsList l items) (hne : l ≠ it) (hn : items.size ≤ sizeLine)
    (hQ : ∀ (h' : Heap) (tk : Nat) (acc : Array Value) (c' : Nat), (∀ b o, b ≠ it → s.heap.get? b = some o → h'.get? b = some o) → h'.get? s.heap.objs.size = some { cls := .type "list", dict := none, data := .seq acc c', slots := #[] } →
      ItemsOf (fun i v => items[items.size - 1 - i]? = some v) acc items.size → Q (.ref s.heap.objs.size) { s with heap := h', toks := tk }) :
    wpAny (model prog w) A (call (.type "list") [.ref it]) Q E s := by
  have W := (Walks.listRev (prog := prog) (w := w) (A := A.in1.in1) hh it l hne items).toS
  obtain ⟨oi, hoi, _⟩ := id hit
  obtain ⟨ol, hol, _⟩ := id hl
  have hSi : s.heap.objs.size ≠ it := Nat.ne_of_gt (Heap.lt_size hoi)
  have hSl : s.heap.objs.size ≠ l := Nat.ne_of_gt (Heap.lt_size hol)
  have hSf : s.heap.objs.size ∉ [it, l] := by simp only [List.mem_cons, List.not_mem_nil, or_false, not_or]; exact ⟨hSi, hSl⟩
  refine callType_codes (Q₁ := fun obj s₁ => obj = .ref s.heap.objs.size ∧ s₁ = { s with heap := s.heap.push { cls := .type "list", data := .seq #[] } }) F.called_list (F.typeCall_list_1 _) F.entry_list_init
    (code_list_new _ ⟨rfl, rfl⟩) fun obj s₁ h₁ => ?_
  obtain ⟨rfl, rfl⟩ := h₁
  have hS : (s.heap.push { cls := .type "list", data := .seq #[] }).get? s.heap.objs.size = some { cls := .type "list", data := .seq #[] } := Heap.get?_push_size _ rfl
  refine ⟨⟨_, hS, rfl⟩, F.args_list_init_2 _ _, ?_⟩
  show wpAny _ A.in1.in1 (do let old ← Builtin.List.listItems (.ref s.heap.objs.size); Builtin.List.listUpdate (.ref s.heap.objs.size) (fun _ => #[]); letGo old.toList.reverse; Builtin.List.listExtendWith (.ref s.heap.objs.size) (.ref it) .none) _ _ _
  refine wpAny_bind ?_
  unfold Builtin.List.listItems
  refine wpAny_bind (wpAny_seqItems hS rfl (wpAny_pure ?_))
  show wpAny _ A.in1.in1 (updateSeq s.heap.objs.size (fun _ => #[]) >>= fun _ => letGo (#[] : Array Value).toList.reverse >>= fun _ => Builtin.List.listExtendWith (.ref s.heap.objs.size) (.ref it) .none) _ _ _
  refine wpAny_bind (wpAny_updateSeq hS rfl ?_)
  have hS₂ := Heap.get?_update_self (Obj.mapSeq (fun _ => (#[] : Array Value))) hS rfl
  have oth : ∀ b o, b ≠ s.heap.objs.size → s.heap.get? b = some o → ((s.heap.push { cls := .type "list", data := .seq #[] }).update s.heap.objs.size (Obj.mapSeq (fun _ => (#[] : Array Value)))).get? b = some o :=
    fun b o hb e => (Heap.get?_update_other _ _ (Ne.symm hb)).trans (Heap.get?_push_of_some _ e)
  refine wpAny_bind (wpAny_letGo ?_)
  generalize hH : (s.heap.push { cls := .type "list", data := .seq #[] }).update s.heap.objs.size (Obj.mapSeq (fun _ => (#[] : Array Value))) = H1 at *
  have hit1 : H1.IsRevIter it l ((items.size : Int) - 1) := hit.at fun o e => oth it o (Ne.symm hSi) e
  have hl1 : H1.IsList l items := by
    obtain ⟨o, ho, r⟩ := hl
    exact ⟨o, oth l o (Ne.symm hSl) ho, r⟩
  have hT : ({ s with heap := H1 } : Shared).TypeIs (.ref it) "list_reverseiterator" := Heap.IsRevIter.typeIs (s := { s with heap := H1 }) hit1
  have h1 : Builtin.List.listSameRef (.ref s.heap.objs.size) (.ref it) = false := by simp [Builtin.List.listSameRef, hSi]
  unfold Builtin.List.listExtendWith
  refine wpAny_bind (wpAny_typeOf hT ?_)
  rw [if_neg (by rw [h1]; decide)]
  refine wpAny_bind (wpAny_pyIter_revIter (s := { s with heap := H1 }) hit1 ?_)
  refine wpAny_bind (wpAny_holding ?_)
  unfold Builtin.List.listLengthHint
  refine wpAny_bind (wpAny_specialOf hT nolen_lri ?_)
  show wpAny _ A.in1.in1 (specialOf (Value.ref it) (Str.ofString "__length_hint__") >>= _) _ _ _
  refine wpAny_bind (wpAny_specialOf hT hint_lri ?_)
  generalize hid : ("list_reverseiterator.__length_hint__" : String) = id0
  wp_delta
  rw [show splitId id0 = some ("list_reverseiterator", "__length_hint__") from by subst hid; decide +kernel]
  subst hid
  refine wpAny_bind (wpAny_isInstance (b := true) hT (by rw [isSubtype_type]; kernel_rfl) ?_)
  refine wpAny_pure ?_
  rw [if_neg (by decide)]
  have e0 : ((items.size : Nat) : Int) - 1 - ((0 : Nat) : Int) = (items.size : Int) - 1 := by omega
  refine wpAny_pure ⟨plainId_quiet F.plain_extend_loop _, codeAny_extend_loopS W hn _ hSf _ items.size 0 _ _ _ rfl (Nat.zero_le _) ⟨Nat.zero_le _, by rw [e0]; exact hit1, hl1⟩ hS₂ (ItemsOf.nil _) fun s' acc' c' hm hS' hacc => ?_⟩
  rw [Moved.eq_with hm] at hS' ⊢
  refine ⟨rfl, hQ s'.heap s'.toks acc' c' (fun b o hb e => hm.heap b o (fun hmem => ?_) (oth b o (fun q => ?_) e)) hS' hacc⟩
  · rcases List.mem_cons.mp hmem with e' | hmem
    · exact absurd (Heap.lt_size e) (by rw [e']; exact Nat.lt_irrefl _)
    · exact hb (List.mem_singleton.mp hmem)
  · exact absurd (Heap.lt_size e) (by rw [q]; exact Nat.lt_irrefl _)
end
def tLstRev (K : PySem.W.Frag) (te : TE) : TE := fun σ H Q => te σ H fun v H1 => ∃ a xs, v = .ref a ∧ SqL K H1 a xs ∧ ∀ q, H1 q = none → Q (.ref q) (upd H1 q (.lst xs.reverse))
section
variable {X : Cx}
theorem pe_lstRev {e : Expr} {te : TE} {p p2 pos pos2 : Pos} (hc : X.calm = true) (hg : Gl X "list") (hm : X.mg "list" = none) (hg2 : Gl X "reversed") (hm2 : X.mg "reversed" = none) (he : PE X e te)
    (hs : starEach [e] X.env = (false, eval e X.env) :: starEach [] X.env := by rfl)
    (hs2 : starEach [.Call (.Name "reversed" p2) [e] [] pos2] X.env = (false, eval (.Call (.Name "reversed" p2) [e] [] pos2) X.env) :: starEach [] X.env := by rfl) :
    PE X (.Call (.Name "list" p) [.Call (.Name "reversed" p2) [e] [] pos2] [] pos) (tLstRev X.K te) := by
  refine ⟨fun pins s σ H Q I h => ?_⟩
  refine Call_ (ld_blt I hg hm boot_list (PyProof.Rows.callWith_type1 (args_cons (Call_ (ld_blt I hg2 hm2 PyProof.Rows.boot_reversed (PyProof.Rows.callWith_type1 (args_cons (thn (he.run pins s σ H _ I h) fun u s1 ⟨v, H1, I1, r1, q1⟩ => args_nil ?_) hs) hs rfl))) hs2) hs2 rfl))
  obtain ⟨a, xs, ev, hq, q⟩ := q1
  subst ev
  obtain rfl : u = Value.ref a := r1
  obtain ⟨its, rv, p', hz⟩ := I1.list hq
  refine call_reversed_list p'.isList (args_nil ?_)
  have k0 : ∀ b o, s1.heap.get? b = some o → (s1.heap.push (revObj a ((its.toArray.size : Int) - 1))).get? b = some o := fun b o e => Heap.get?_push_of_some _ e
  have I2 : Inv X pins σ H1 { s1 with heap := s1.heap.push (revObj a ((its.toArray.size : Int) - 1)) } := I1.kept (t' := s1.toks) k0
  have fp := I1.fpOk (H' := H1) (b := s1.heap.objs.size) (Nat.le_refl _) (I1.hok.fresh (Nat.le_refl _))
  have hl := p'.isList
  obtain ⟨ol, hol, _⟩ := id hl
  have hne : a ≠ s1.heap.objs.size := Nat.ne_of_lt (Heap.lt_size hol)
  have hn : its.toArray.size ≤ sizeLine := by rw [List.size_toArray, ← rv.length]; exact hz
  refine call_list_rev (s := { s1 with heap := s1.heap.push (revObj a ((its.toArray.size : Int) - 1)) }) (I1.ok.hd hc) ⟨_, Heap.get?_push_size _ rfl, rfl, rfl⟩ (hl.push _) hne hn fun h' tk acc c' hk hS hi => ?_
  have I3 := I2.turnedNew (h' := h') (t' := tk) (ch := [s1.heap.objs.size]) (T := (s1.heap.push (revObj a ((its.toArray.size : Int) - 1))).objs.size) (ob := .lst xs.reverse) (fun b o hb e => hk b o (fun z => hb (by simp [z])) e)
    (fun b hb => by rw [List.mem_singleton.mp hb]; exact fp) (Nat.le_refl _)
    (show ObjOk X.prog X.w _ _ _ (.lst xs.reverse) from ⟨by rw [List.length_reverse]; exact hz, acc.toList, c', RT.vals_rev rv hi, by rw [Array.toArray_toList]; exact hS⟩)
  exact ⟨.ref (s1.heap.push (revObj a ((its.toArray.size : Int) - 1))).objs.size, _, I3, rfl, q _ (I2.hok.fresh (Nat.le_refl _))⟩
end
/-- list(reversed(xs)) -/
theorem lst_row5 {h : Hs} {d : D} {xs : List D} (e : lstOf h d = some xs) : rowOf h d = some xs := by
  cases d <;> first | exact e | cases e
def eLstRev (m : Bool) (f : FE) : FE := fun s h => (f s h).bind fun d h1 => match lstOf h1 d with
  | some xs => newL m xs.reverse h1
  | none => .bad
section
variable {X : Cx} {W : WX} {pin : List Pn} {pos : Pos}
theorem ve_lstRev (m : Bool) {e : Expr} {f : FE} {p p2 pos2 : Pos} (hf : VE X W pin e f) (hc : X.calm = true) (hgl : Gl X "list") (hml : X.mg "list" = none) (hgr : Gl X "reversed") (hmr : X.mg "reversed" = none)
    (na : starEach [e] X.env = (false, eval e X.env) :: starEach [] X.env := by rfl)
    (nb : starEach [.Call (.Name "reversed" p2) [e] [] pos2] X.env = (false, eval (.Call (.Name "reversed" p2) [e] [] pos2) X.env) :: starEach [] X.env := by rfl) :
    VE X W pin (.Call (.Name "list" p) [.Call (.Name "reversed" p2) [e] [] pos2] [] pos) (eLstRev m f) := by
  refine pe_imp (pe_lstRev hc hgl hml hgr hmr hf na nb) fun σ H Q ⟨G, ms, s, h, hh, sl, q⟩ => ⟨G, ms, s, h, hh, sl, Post.bind q fun d h1 v H1 G1 ms1 e1 p1 hh1 i1 q1 => ?_⟩
  split at q1
  · rename_i xs e
    obtain ⟨a, vs, rfl, k1, k2⟩ := hh1.list i1 e
    exact ⟨a, vs, rfl, k1, fun q hq => q1.newL hh1 (isL_rev k2) (by rw [List.length_reverse]; exact hh1.rowz i1 (lst_row5 e)) hq⟩
  · exact q1.elim
end
theorem x_lstRev {m : Bool} {f : FE} {s : Ss} {h h1 : Hs} {d : D} {xs : List D} (e1 : f s h = .ok d h1) (e2 : lstOf h1 d = some xs) : eLstRev m f s h = newL m xs.reverse h1 := by
  unfold eLstRev
  rw [e1, R.bind_ok, e2]
end WD
namespace WD
open PySem PySem.Spec PyProof.Rows L2
section
variable {X : Cx} {W : WX} {pin : List Pn} {pos : Pos}
end
end WD
namespace WD
open PySem PySem.Spec PyProof.Rows L2
def countD : D → List D → Hs → R D
  | o, [y], h => match toP h 64 o, toP h 64 y with
    | some (.list ps), some p => if PyData.plainAll ps = true ∧ p.plain = true then .ok (.int ((ps.countP fun z => PyData.eqv z p : Nat) : Int)) h else .bad
    | _, _ => .bad
  | _, _, _ => .bad
section
variable {X : Cx}
theorem md_count (hu : X.A.units + 65 < cLine) : MtD X "list.count" countD := by
  intro pins s σ H x xs v us Q I rx rs ⟨G, ms, h, d, ds, hh, i, il, q⟩
  unfold countD at q
  split at q
  · obtain ⟨w, e0, i1⟩ := isL1 (ds := []) il
    subst e0
    split at q
    · rename_i ps p e1 e2
      split at q
      · rename_i hp
        have dl := dp_of hh _ _ _ _ i e1
        have dy := dp_of hh _ _ _ _ i1 e2
        have se := shaped_of e1 (Nat.le_refl _)
        have sd := shaped_of e2 (Nat.le_refl _)
        cases rs with
        | cons ry rt =>
          rename_i uy ut
          cases rt
          obtain ⟨bs, r1⟩ := Dp.reads I p w uy dy ry
          have hroom : X.A.units + 1 + min (PyData.depthAll ps) p.depth < cLine := room_in_shaped sd hu
          cases dl with
          | lst hs ha =>
            obtain ⟨its, rv, ⟨o, n, ho, hc, _, hdt⟩, hlen⟩ := I.list hs
            obtain ⟨as, h4⟩ := Dp.readsAll I ps _ its ha rv
            cases rx
            exact SeqAt.count_list_data (vs := its.toArray) ⟨o, ho, hc, n, hdt⟩ h4 r1 hp.1 hp.2 hroom ⟨.int _, H, I.tok _, ⟨_, rfl⟩, q.fin hh rfl⟩
      · exact q.elim
    · exact q.elim
  · exact q.elim
end
theorem toP_bls {h : Hs} {n : Nat} : ∀ bs : List Bool, (bs.map D.bl).mapM (toP h n) = some (bs.map PyData.bool)
  | [] => rfl
  | b :: bs => by
    have e : toP h n (.bl b) = some (.bool b) := by cases n <;> rfl
    rw [List.map_cons, List.mapM_cons, e, toP_bls bs]; rfl
theorem plain_bls : ∀ bs : List Bool, PyData.plainAll (bs.map PyData.bool) = true
  | [] => rfl
  | b :: bs => by
    show (true && _) = true
    rw [plain_bls bs]; rfl
theorem countP_bls : ∀ bs : List Bool, ((bs.map PyData.bool).countP fun z => PyData.eqv z (.bool true)) = bs.countP id
  | [] => rfl
  | b :: bs => by
    rw [List.map_cons, List.countP_cons, List.countP_cons, countP_bls bs]
    cases b <;> rfl
/-- how many of some truths are true -/
theorem x_countB {bs : List Bool} {h : Hs} : countD (.lst (bs.map D.bl)) [.bl true] h = .ok (.int ((bs.countP id : Nat) : Int)) h := by
  have e1 : toP h 64 (.lst (bs.map D.bl)) = some (.list (bs.map PyData.bool)) := by
    show ((bs.map D.bl).mapM (toP h 63)).map PyData.list = _
    rw [toP_bls]; rfl
  have e2 : toP h 64 (.bl true) = some (.bool true) := rfl
  unfold countD
  dsimp only
  rw [e1, e2]
  dsimp only
  rw [if_pos ⟨plain_bls bs, rfl⟩, countP_bls]
end WD
namespace WD
open PySem PySem.Spec PyProof.Rows L2
def pairsI : List D → Option (List (Int × Int))
  | [] => some []
  | p :: r => match p with
    | .tup [.int i, .int j] => (pairsI r).map ((i, j) :: ·)
    | _ => none
def kvI (p : Int × Int) : Key × V := (.inl p.1, .int p.2)
section
variable {X : Cx} {W : WX} {pin : List Pn} {G : GG} {H : Hp} {ms : List Addr} {h : Hs} {pos : Pos} {pins : List (Addr × Obj)} {σ : L2.St} {s : Shared}
theorem prs_of (hh : Hh X.K G ms h H) : ∀ (ps : List D) (vs : List V) (kvs : List (Int × Int)), IsL X.K G ms ps vs → pairsI ps = some kvs → ∃ ts : List Addr, vs = ts.map V.ref ∧ Paired (fun p (kv : Key × V) => SqT X.K H p [kV kv.1, kv.2]) ts (kvs.map kvI)
  | [], vs, kvs, i, e => by
    cases i; cases e
    exact ⟨[], rfl, .nil⟩
  | p :: r, vs, kvs, i, e => by
    unfold pairsI at e
    split at e
    · rename_i i1 j1
      cases er : pairsI r with
      | none => rw [er] at e; cases e
      | some ks =>
        rw [er] at e
        cases e
        obtain ⟨x, vs', rfl, q1, q2⟩ := i
        obtain ⟨t, zs, rfl, h2, h3⟩ := hh.tuple q1
        obtain ⟨kv, vv, rfl, ik1, iv1⟩ := isL2 h3
        cases ik1; cases iv1
        obtain ⟨ts, e1, e2⟩ := prs_of hh r vs' ks q2 er
        exact ⟨t :: ts, by rw [e1]; rfl, .cons h2 e2⟩
    · cases e
end
end WD
namespace WD
open PySem PySem.Spec PyProof.Rows L2
def eRevL (f fs : FE) : FE := fun s h => (f s h).bind fun d h1 => (fs s h1).bind fun k h2 => match d, k with
  | .lst xs, .int i => if i = -1 then .ok (.lst xs.reverse) h2 else .bad
  | _, _ => .bad
def tRevL (K : PySem.W.Frag) (te ts : TE) : TE := fun σ H Q => te σ H fun x H1 => ts σ H1 fun k H2 => k = .int (-1) ∧ ∃ a xs, x = .ref a ∧ SqL K H2 a xs ∧ ∀ p, H2 p = none → Q (.ref p) (upd H2 p (.lst xs.reverse))
section
variable {X : Cx} {W : WX} {pin : List Pn} {pos p2 : Pos}
theorem pe_revL {e st : Expr} {te ts : TE} (he : PE X e te) (hs : PE X st ts) : PE X (.Subscript e (.Slice none none (some st) p2) pos) (tRevL X.K te ts) := by
  refine ⟨fun pins s σ H Q I h => ?_⟩
  refine Subscript_ (thn (he.run pins s σ H _ I h) fun v s1 ⟨x, H1, I1, r1, q1⟩ => ?_)
  refine wpAny_Slice ?_
  rw [evalPart_none, evalPart_some]
  refine wpAny_pure (wpAny_pure (thn (hs.run pins s1 σ H1 _ I1 q1) fun vk s3 ⟨k, H3, I3, rk, q3⟩ => ?_))
  obtain ⟨rfl, a, xs, rfl, hx, q⟩ := q3
  obtain ⟨tk, rfl⟩ := rk
  cases r1
  have I4 : Inv X pins σ H3 { s3 with heap := s3.heap.push { cls := .type "slice", data := .fields #[.none, .none, .int (-1) tk] } } := I3.kept (t' := s3.toks) fun b ob q => Heap.get?_push_of_some _ q
  obtain ⟨its, r, ht, hz⟩ := I4.list hx
  have hlen : its.toArray.size = xs.length := by rw [List.size_toArray]; exact r.length.symm
  have hg := wpAny_getItem_list_slice (prog := X.prog) (w := X.w) (A := X.A) (E := X.xe) (Q := EP X pins σ Q) (sl := s3.heap.objs.size) (lo := none) (hi := none) (st := some (-1)) ht.isList (Heap.IsSliceOf.new s3.heap .none .none (.int (-1) tk)) .none .none (.int _ _) (by decide) (by
    rw [PySem.W.krv_pick]
    refine ⟨.ref (s3.heap.push { cls := .type "slice", data := .fields #[.none, .none, .int (-1) tk] }).objs.size, _, I4.laid (t' := s3.toks) (o := .lst xs.reverse) (fun b ob q => Heap.get?_push_of_some _ q) (Nat.le_refl _) ?_, rfl, q _ (I4.hok.fresh (Nat.le_refl _))⟩
    exact ⟨by rw [List.length_reverse]; exact hz, its.reverse, 0, vals_rev r, Heap.get?_push_size _ rfl⟩) (by rw [hlen]; exact hz)
  show wpAny (model X.prog X.w) X.A (subscriptTail e (.Slice none none (some st) p2) (.ref a) (.ref s3.heap.objs.size)) (EP X pins σ Q) X.xe { s3 with heap := s3.heap.push { cls := .type "slice", data := .fields #[.none, .none, .int (-1) tk] } }
  exact tail_any (ops := [.ref a, .ref s3.heap.objs.size]) ht.isList.typeIs slot_list_getitem.lookup hg (by with_unfolding_all rfl)
theorem ve_revL {e st : Expr} {f fs : FE} (he : VE X W pin e f) (hs : VE X W pin st fs) : VE X W pin (.Subscript e (.Slice none none (some st) p2) pos) (eRevL f fs) := by
  refine pe_imp (pe_revL he hs) fun σ H Q ⟨G, ms, s, h, hh, sl, q⟩ => ⟨G, ms, s, h, hh, sl, Post.bind q fun d h1 v H1 G1 ms1 e1 p1 hh1 i1 q1 => ?_⟩
  refine ⟨G1, ms1, s, h1, hh1, sl.mono e1 p1, Post.bind q1 fun k h2 kv H2 G2 ms2 e2 p2 hh2 i2 q2 => ?_⟩
  have i3 := Is.mono e2 p2 _ _ i1
  split at q2
  · rename_i xs i
    by_cases hi : i = -1
    · rw [if_pos hi] at q2
      subst hi
      obtain ⟨p, vs, rfl, k2, k3⟩ := hh2.list (xs := xs) i3 rfl
      exact ⟨i2, p, vs, rfl, k2, fun p hp => Post.newL (m := false) q2 hh2 (isL_rev k3) (by rw [List.length_reverse]; exact hh2.rowz (d := .lst xs) i3 rfl) hp⟩
    · rw [if_neg hi] at q2; exact q2.elim
  · exact q2.elim
theorem x_revL {f fs : FE} {s : Ss} {h h1 h2 : Hs} {xs : List D} (e1 : f s h = .ok (.lst xs) h1) (e2 : fs s h1 = .ok (.int (-1)) h2) : eRevL f fs s h = .ok (.lst xs.reverse) h2 := by
  unfold eRevL
  rw [e1, R.bind_ok, e2, R.bind_ok]
  exact if_pos rfl
end
end WD
namespace WD
open PySem PySem.Spec PyProof.Rows L2
theorem nd_sub_len {α : Type} [DecidableEq α] : ∀ {l m : List α}, l.Nodup → (∀ x ∈ l, x ∈ m) → l.length ≤ m.length
  | [], m, _, _ => Nat.zero_le _
  | a :: l, m, nd, h => by
    obtain ⟨n1, n2⟩ := List.nodup_cons.mp nd
    have hm := h a List.mem_cons_self
    have := nd_sub_len (l := l) (m := m.erase a) n2 fun x hx => by
      have hne : x ≠ a := fun z => n1 (z ▸ hx)
      exact (List.mem_erase_of_ne hne).mpr (h x (List.mem_cons_of_mem _ hx))
    rw [List.length_erase_of_mem hm] at this
    have hp := List.length_pos_of_mem hm
    simp only [List.length_cons]; omega
section
variable {P : Program} {w : World} {A : Around} {E : Value → Shared → Prop} {s : Shared}
theorem setR_few {h : Heap} {a : Addr} {ns : List Int} {c : Nat} (R : SetR w h a (fun j => decide (j ∈ ns)) c) : c ≤ (sortU ns).length := by
  obtain ⟨o, es, ep, t, ho, hex, hd, g, nd, hm, hb, hf, hn, hr, hl⟩ := R
  have := nd_sub_len (m := sortU ns) nd fun k hk => (sortU_mem ns).mpr (of_decide_eq_true ((hm k).mpr hk))
  rw [List.length_map, Array.length_toList, hn] at this
  exact this
theorem set_update_few {I : Addr} {fp wr : List Addr} {G : Array GenState → Array GenState → Prop} {n : Nat} {Pv : Nat → Value → Prop} {St : Nat → Shared → Prop} {R : Result → Shared → Prop}
    (W : WalksS P w A.in1 I fp wr G n Pv St) (S : Addr) (hSf : S ∉ fp) (ks : List (Addr × List Int)) (hn : n = ks.length) (hfew : ∀ L : List (Addr × List Int), (L.map (·.2)).Nodup → (∀ p ∈ L, p ∈ ks) → L.length + 1 < 64) (hval : ∀ i v, Pv i v → ∃ p, ks[i]? = some p ∧ v = .ref p.1)
    (h0 : Heap) (hk : ∀ p ∈ ks, IsT P w h0 p.2 p.1) (hS0 : h0.get? S = none) (hw0 : ∀ b ∈ wr, h0.get? b = none) (hu : A.in1.units < cLine) :
    ∀ (m i : Nat) (s : Shared), n - i = m → i ≤ n → St i s → (∀ b o, h0.get? b = some o → s.heap.get? b = some o) → (∃ L es ep t, SetTR P w s.heap S L es ep t ∧ Got ks i L) →
      (∀ s' L es ep t, Moved (S :: wr) G s s' → SetTR P w s'.heap S L es ep t → Got ks n L → (∀ b o, h0.get? b = some o → s'.heap.get? b = some o) → R (.ok (.ret .none)) s') →
      codeAny (model P w) A (.builtin "set.update.loop" ⟨[.ref S, .ref I], []⟩) R s := by
  have nSw : S ∉ wr := fun z => hSf (W.sub _ z)
  have sw : ∀ b ∈ wr, b ∈ S :: wr := fun b z => List.mem_cons_of_mem _ z
  have kM : ∀ {s s' : Shared}, Moved wr G s s' → (∀ b o, h0.get? b = some o → s.heap.get? b = some o) → ∀ b o, h0.get? b = some o → s'.heap.get? b = some o := fun mv kp b o e =>
    mv.heap b o (fun z => by rw [hw0 b z] at e; cases e) (kp b o e)
  have inK : ∀ {L : List (Addr × List Int)} {i : Nat}, Got ks i L → ∀ p ∈ L, p ∈ ks := fun g p hp => List.mem_of_mem_take (g.sub p hp)
  intro m
  induction m with
  | zero =>
    intro i s em hi st kp ⟨L, es, ep, t, rs, g⟩ fin
    obtain rfl : i = n := by omega
    refine codeAny_builtin F.entry_set_update_loop ?_
    rw [Around.under_plainId F.plain_set_update_loop _]
    show wpAny _ A.in1 (pyNext (.ref I) >>= _) _ _ s
    refine wpAny_bind (W.done s _ _ st fun s' mv => ?_)
    show wpAny _ A.in1 (ret Value.none) _ _ s'
    have kp' := kM mv kp
    exact wpAny_pure (fin s' L es ep t (mv.mono sw) (rs.keep (fun o e => mv.heap S o nSw e) fun p hp => isT_keep (hk p (inK g p hp)) kp') g kp')
  | succ m ih =>
    intro i s em hi st kp ⟨L, es, ep, t, rs, g⟩ fin
    have lt : i < n := by omega
    refine codeAny_builtin F.entry_set_update_loop ?_
    rw [Around.under_plainId F.plain_set_update_loop _]
    show wpAny _ A.in1 (pyNext (.ref I) >>= _) _ _ s
    refine wpAny_bind (W.item i s _ _ lt st fun v s' pv st' mv => ?_)
    obtain ⟨p, hp, rfl⟩ := hval i v pv
    have kp' := kM mv kp
    have rs' : SetTR P w s'.heap S L es ep t := rs.keep (fun o e => mv.heap S o nSw e) fun q hq => isT_keep (hk q (inK g q hq)) kp'
    have ix : IsT P w s'.heap p.2 p.1 := isT_keep (hk p (List.mem_of_getElem? hp)) kp'
    show wpAny _ A.in1 (holding [Value.ref p.1] (setAdd S (.ref p.1)) >>= _) _ _ s'
    refine wpAny_bind (wpAny_holding ?_)
    unfold setAdd
    refine wpAny_holding ?_
    refine wpAny_bind (wpAny_pyHash_tuple hu ix ?_)
    refine add_at (s := { s' with toks := s'.toks + (p.2.length + 1) }) rs' ix hu (hfew L rs.nd (inK g)) fun b h' L' es' ep' t' sb rs2 c1 c2 => ?_
    have g2 : Got ks (i + 1) L' := by
      by_cases c : p.2 ∈ L.map (·.2)
      · rw [c1 c]; exact g.same hp c
      · exact g.more hp (c2 c)
    have kp2 : ∀ b o, h0.get? b = some o → h'.get? b = some o := fun b o e => (sb.2 b (fun z => by rw [z, hS0] at e; cases e)).trans (kp' b o e)
    refine wpAny_pure ⟨plainId_quiet F.plain_set_update_loop _, ih (i + 1) _ (by omega) lt (W.frame _ s' _ _ st' (Nat.le_add_right _ _) fun b hb o e => ?_) kp2 ⟨L', es', ep', t', rs2, g2⟩ fun s3 L3 es3 ep3 t3 mv3 rs3 g3 kp3 => ?_⟩
    · rw [sb.2 b (fun z : b = S => hSf (by rw [← z]; exact hb))]; exact e
    · refine fin s3 L3 es3 ep3 t3 (Moved.trans W.gtrans ((mv.mono sw).then_heap (Nat.le_add_right _ _) fun b o hb e => ?_) mv3) rs3 g3 kp3
      rw [sb.2 b (fun z : b = S => hb (by rw [z]; exact List.mem_cons_self))]; exact e
theorem call_setTL {ll : Addr} {its : Array Value} (ks : List (Addr × List Int)) {Q : Value → Shared → Prop} (hh : A.handled = none) (hL : s.heap.IsList ll its) (hI : its.toList = ks.map fun p => Value.ref p.1) (hk : ∀ p ∈ ks, IsT P w s.heap p.2 p.1) (hfew : ∀ L : List (Addr × List Int), (L.map (·.2)).Nodup → (∀ p ∈ L, p ∈ ks) → L.length + 1 < 64) (hu : A.units + 3 < cLine)
    (fin : ∀ (h' : Heap) (tk : Nat) L es ep t, SetTR P w h' s.heap.objs.size L es ep t → Got ks ks.length L → (∀ b o, s.heap.get? b = some o → h'.get? b = some o) → Q (.ref s.heap.objs.size) { s with heap := h', toks := tk }) :
    wpAny (model P w) A (call (.type "set") [.ref ll]) Q E s := by
  have hzz : its.size = ks.length := by
    have q := congrArg List.length hI
    rw [Array.length_toList, List.length_map] at q
    exact q
  obtain ⟨cc, ttl, gmro⟩ := F.called_set.mro
  have gmade := F.called_set.made
  have gsub := F.called_set.sub
  refine wpAny_call (codeAny_of_tree ?tree)
  show wpAny _ _ (callAny (.type "set") _) _ _ _
  refine wpAny_pure ⟨Code.quiet_builtin _ (by decide +kernel), codeAny_builtin F.entry_type_call ?body⟩
  rw [Around.under_plain (weight_type_call_type "set" [.ref ll] []) rfl]
  have g1 := F.called_set.notType
  have g2 := F.called_set.canCreate
  have gct := F.typeCall_set_1 (.ref ll)
  repeat (any_goals (first | assumption | wp_step))
  refine codeAny_mono (code_set_led1 (.ref ll) (E := E) (Q₁ := fun ob s₁ => ob = .ref s.heap.objs.size ∧ s₁ = { s with heap := s.heap.push (sObj w) }) ⟨rfl, rfl⟩) fun r s₁ hr => ?made
  cases r with
  | error e => exact hr
  | ok fl =>
    cases fl with
    | ret ob =>
      obtain ⟨rfl, rfl⟩ := hr
      have gS : (s.heap.push (sObj w)).get? s.heap.objs.size = some (sObj w) := Heap.get?_push_size _ rfl
      have gT : Shared.TypeIs { s with heap := s.heap.push (sObj w) } (.ref s.heap.objs.size) "set" := ⟨_, gS, rfl⟩
      have gli := F.called_set.init.lookup
      have gbi := F.called_set.init.bind (.ref s.heap.objs.size)
      repeat (any_goals (first | assumption | wp_step))
      refine codeAny_mono (codeAny_call_builtin (R := wants (fun r s₂ => r = .none ∧ ∃ h' tk L es ep t, s₂ = { s with heap := h', toks := tk } ∧ SetTR P w h' s.heap.objs.size L es ep t ∧ Got ks ks.length L ∧ (∀ b o, s.heap.get? b = some o → h'.get? b = some o)) E) F.called_set.init.plain F.entry_set_init (check_set_init_1 gT ?init)) fun r₂ s₂ hr₂ => ?after
      case init =>
        obtain ⟨oL, gol, gcl, nL, gdl⟩ := hL
        obtain ⟨oc, od, odt, osl⟩ := oL
        simp only at gcl gdl
        subst gcl; subst gdl
        have gol' : (s.heap.push (sObj w)).get? ll = some { cls := .type "list", dict := od, data := .seq its nL, slots := osl } := Heap.get?_push_of_some _ gol
        have gs1 := F.sub_list_set
        have gs2 := F.sub_list_frozenset
        have gne : (Value.type "list" == Value.type "dict") = false := by decide
        have hL1 : (s.heap.push (sObj w)).IsList ll its := ⟨_, gol', rfl, nL, rfl⟩
        unfold Builtin.«set.__init__» noKeywords Builtin.Frozenset.updateFrom
        generalize gPI : pyIter = PI
        wp_walk
        subst gPI
        refine wpAny_pyIter_list hL1 (wpAny_bind (wpAny_runValue ?run))
        have glt : ll < s.heap.objs.size := Heap.lt_size gol
        have h3 : A.in1.in1.in1.handled = none := by simp [hh]
        have gnI : ll ≠ (s.heap.push (sObj w)).objs.size := by rw [Heap.size_push]; exact Nat.ne_of_lt (Nat.lt_succ_of_lt glt)
        have gSf : s.heap.objs.size ∉ [(s.heap.push (sObj w)).objs.size, ll] := by
          rw [Heap.size_push]
          simp only [List.mem_cons, List.mem_singleton, List.not_mem_nil, or_false, not_or]
          exact ⟨Nat.ne_of_lt (Nat.lt_succ_self _), Nat.ne_of_gt glt⟩
        have gval : ∀ (i : Nat) (v : Value), its[i]? = some v → ∃ p, ks[i]? = some p ∧ v = .ref p.1 := fun i v hv => by
          have hi : i < ks.length := by rw [← hzz]; exact (Array.getElem?_eq_some_iff.mp hv).1
          have e : its.toList[i]? = some (Value.ref (ks[i]).1) := by rw [hI]; simp [hi]
          refine ⟨ks[i], List.getElem?_eq_getElem hi, ?_⟩
          rw [Array.getElem?_toList, hv] at e
          injection e
        have non : ∀ b, s.heap.objs.size ≤ b → s.heap.get? b = none := fun b hb => Option.eq_none_iff_forall_ne_some.mpr fun o q => Nat.not_lt.mpr hb (Heap.lt_size q)
        refine set_update_few ((Walks.list h3 _ ll gnI its).toS) s.heap.objs.size gSf ks hzz hfew gval s.heap hk (non _ (Nat.le_refl _)) (fun b hb => non b (by
          rw [List.mem_singleton.mp hb, Heap.size_push]
          exact Nat.le_succ _)) hu (its.size - 0) 0 _ (by omega) (Nat.zero_le _) ⟨⟨_, Heap.get?_push_size _ rfl, rfl, rfl⟩, (hL1.push _)⟩ (fun b o e => Heap.get?_push_of_some _ (Heap.get?_push_of_some _ e)) ?g0 ?gR
        case g0 =>
          have gget : ((s.heap.push (sObj w)).push { cls := .type "list_iterator", data := .fields #[.ref ll, .int 0 0] }).get? s.heap.objs.size = some (sObj w) := Heap.get?_push_of_some _ gS
          exact ⟨[], #[], 0, _, setTR_fresh gget, Got.zero ks⟩
        case gR =>
          intro s' L es ep t gm gS' gg gk
          obtain ⟨h', g2, d', tk', os'⟩ := s'
          obtain rfl : g2 = s.gens := gm.gens
          obtain rfl : d' = s.drawn := gm.drawn
          obtain rfl : os' = s.os := gm.os
          show wpAny _ _ _ _ _ _
          refine wpAny_pure ?_
          show wpAny _ _ (ret Value.none) _ _ _
          rw [hzz] at gg
          exact wpAny_pure ⟨rfl, h', tk', L, es, ep, t, rfl, gS', gg, gk⟩
      case after =>
        cases r₂ with
        | error e => exact hr₂
        | ok fl₂ =>
          cases fl₂ with
          | ret r =>
            obtain ⟨rfl, h', tk, L, es, ep, t, rfl, gS', gg, gk⟩ := hr₂
            repeat (any_goals (first | assumption | wp_step))
            exact fin _ _ _ _ _ _ gS' gg gk
          | _ => exact hr₂.elim
    | _ => exact hr.elim
end
def sortSetW : List D → Hs → R D
  | [d], h => match rowOf h d with
    | some xs => match intsOf xs with
      | some ns => if ns.length < 4000 ∧ (sortU ns).length < 64 then .ok (.lst ((sortU ns).map D.int)) h else .bad
      | none => .bad
    | none => .bad
  | _, _ => .bad
def tSortSetW (K : PySem.W.Frag) (te : TE) : TE := fun σ H Q => te σ H fun x H1 => ∃ (l : Addr) (ns : List Int), x = .ref l ∧ (SqL K H1 l (ns.map V.int) ∨ SqT K H1 l (ns.map V.int)) ∧ (ns.length < 4000 ∧ (sortU ns).length < 64) ∧ ∀ p, H1 p = none → Q (.ref p) (upd H1 p (.lst ((sortU ns).map V.int)))
section
variable {X : Cx} {W : WX} {pin : List Pn} {pos : Pos}
theorem pe_sortSetW {e : Expr} {te : TE} {p1 p2 q1 : Pos} (he : PE X e te) (hg : Gl X "sorted") (hm : X.mg "sorted" = none) (hg' : Gl X "set") (hm' : X.mg "set" = none) (hc : X.calm = true := by rfl) (hs : starEach [e] X.env = (false, eval e X.env) :: starEach [] X.env := by rfl) :
    PE X (.Call (.Name "sorted" p1) [.Call (.Name "set" p2) [e] [] q1] [] pos) (tSortSetW X.K te) := by
  refine ⟨fun pins s σ H Q I hq => Call_ (ld_blt I hg hm (show bootBuiltins "sorted" = some (.builtin "sorted") by decide +kernel) (PyProof.Rows.callWith_builtin1 (PyProof.Rows.args_cons (Call_ (ld_blt I hg' hm' PyProof.Rows.boot_set (PyProof.Rows.callWith_type1 (PyProof.Rows.args_cons (thn (he.run pins s σ H _ I hq) fun v s1 z => PyProof.Rows.args_nil ?x) hs) hs rfl))) rfl) rfl rfl))⟩
  obtain ⟨x, H1, I1, r1, l, ns, e1, e2, e3, q1⟩ := z
  subst e1
  cases r1
  have go : ∀ (h' : Heap) (tk c : Nat), SetR X.w h' s1.heap.objs.size (fun j => decide (j ∈ ns)) c → c ≤ ns.length → (∀ b o, s1.heap.get? b = some o → h'.get? b = some o) → wpAny (model X.prog X.w) X.A (call (.builtin "sorted") [.ref s1.heap.objs.size]) (EP X pins σ Q) X.xe { s1 with heap := h', toks := tk } := fun h' tk c R hcn hk => by
    have I2 : Inv X pins σ H1 { s1 with heap := h', toks := tk } := I1.kept hk
    refine sorted_set (s := { s1 with heap := h', toks := tk }) R (I2.ok.hd hc) (Nat.lt_of_le_of_lt (setR_few R) e3.2) fun s' p out c ms k g o hp hg hi hs hm hl => ?_
    have em : ms = sortU ns := srtU_uniq _ _ hs (sortU_srt ns) fun j => by rw [hm j, decide_eq_true_eq, sortU_mem]
    subst em
    have hlen : ((sortU ns).map V.int).length ≤ sizeLine := by rw [List.length_map, hl, sizeLine_eq]; omega
    have hn : H1 p = none := I2.hok.fresh hp
    refine ⟨.ref p, upd H1 p (.lst ((sortU ns).map V.int)), ?_, rfl, q1 p hn⟩
    have J : Inv X pins σ (upd H1 p (.lst ((sortU ns).map V.int))) { ({ s1 with heap := h', toks := tk } : Shared) with heap := s'.heap, gens := s'.gens, drawn := s'.drawn, toks := s'.toks } := I2.call (ch := []) (Un.laid k hp hn) (I2.hok.laid k hp ⟨hlen, out.toList, c, vals_of_ints hi, hg⟩) (by rw [g]; exact I2.bare) (fun _ z => nomatch z)
    have e : s' = { ({ s1 with heap := h', toks := tk } : Shared) with heap := s'.heap, gens := s'.gens, drawn := s'.drawn, toks := s'.toks } := by
      cases s'; cases s1; cases o; rfl
    rw [e]; exact J
  rcases e2 with e2 | e2
  · obtain ⟨its, rv, pl, hz⟩ := I1.list e2
    exact call_setLi ns (I1.ok.hd hc) pl.isList (by simpa using rv.ints) (by unfold scanBound; omega) fun h' tk c R hcn hk => PyProof.Rows.args_nil (go h' tk c R hcn hk)
  · obtain ⟨its, rv, pt, hz⟩ := I1.tuple e2
    exact call_set_tupI ns (I1.ok.hd hc) (show s1.heap.IsTuple l its.toArray from pt) (by simpa using rv.ints) (by unfold scanBound; omega) fun h' tk c R hcn hk => PyProof.Rows.args_nil (go h' tk c R hcn hk)
theorem ve_sortSetW {e : Expr} {f : FE} {p1 p2 q1 : Pos} (he : VE X W pin e f) (hg : Gl X "sorted") (hm : X.mg "sorted" = none) (hg' : Gl X "set") (hm' : X.mg "set" = none) (hc : X.calm = true := by rfl) (hs : starEach [e] X.env = (false, eval e X.env) :: starEach [] X.env := by rfl) :
    VE X W pin (.Call (.Name "sorted" p1) [.Call (.Name "set" p2) [e] [] q1] [] pos) (eB sortSetW (aCons f aNil)) := by
  refine pe_imp (pe_sortSetW he hg hm hg' hm' hc hs) fun σ H Q ⟨G, ms, s, h, hh, sl, q⟩ => ⟨G, ms, s, h, hh, sl, ?_⟩
  have q' : Post X.K X.mg (fun c d H => W c d σ H) G ms (Is X.K) ((f s h).bind fun d h1 => calm1 (sortSetW [d] h1)) Q := by
    cases ef : f s h with
    | ok d h1 => simpa [eB, aCons, aNil, ef] using q
    | err x h1 => simpa [eB, aCons, aNil, ef] using q
    | bad => simpa [eB, aCons, aNil, ef] using q
  refine Post.bind q' fun d h1 v H1 G1 ms1 e1 p1 hh1 i1 q1 => ?_
  have q1 := calm1_post q1
  simp only [sortSetW] at q1
  cases er : rowOf h1 d with
  | none => rw [er] at q1; exact q1.elim
  | some ys =>
    rw [er] at q1
    cases ei : intsOf ys with
    | none => simp only [ei] at q1; exact q1.elim
    | some ns =>
      simp only [ei] at q1
      by_cases hz : ns.length < 4000 ∧ (sortU ns).length < 64
      · rw [if_pos hz] at q1
        obtain ⟨p, vs, rfl, h2, h3⟩ := hh1.row i1 er
        rw [intsOf_eq ei] at h3
        rw [h3.ints] at h2
        exact ⟨p, ns, rfl, h2, hz, fun p' hp => Post.newL (m := false) q1 hh1 (.of_ints (sortU ns)) (by rw [List.length_map]; exact Nat.le_trans (Nat.le_of_lt hz.2) (by decide)) hp⟩
      · rw [if_neg hz] at q1; exact q1.elim
end
def tSortSetPL (K : PySem.W.Frag) (te : TE) : TE := fun σ H Q => te σ H fun x H1 => ∃ (l : Addr) (ks : List (Addr × List Int)), x = .ref l ∧ SqL K H1 l (ks.map fun p => V.ref p.1) ∧ (∀ p ∈ ks, SqT K H1 p.1 (p.2.map V.int)) ∧ (∀ L : List (Addr × List Int), (L.map (·.2)).Nodup → (∀ p ∈ L, p ∈ ks) → L.length + 1 < 64) ∧ (∀ p ∈ ks, p.2.length = 2 ∧ TS.Bd 64 p.2) ∧
  ∀ (L' : List (Addr × List Int)) (p : Addr), (∀ q ∈ L', q ∈ ks) → (∀ q ∈ ks, q.2 ∈ L'.map (·.2)) → (L'.map (·.2)).Nodup → L'.length < 64 → L'.Pairwise (fun q r => TS.code 64 q.2 ≤ TS.code 64 r.2) → H1 p = none → Q (.ref p) (upd H1 p (.lst (L'.map fun q => V.ref q.1)))
section
variable {X : Cx} {W : WX} {pin : List Pn} {pos : Pos}
theorem pe_sortSetPL {e : Expr} {te : TE} {p1 p2 q1 : Pos} (he : PE X e te) (hg : Gl X "sorted") (hm : X.mg "sorted" = none) (hg' : Gl X "set") (hm' : X.mg "set" = none) (hu : X.A.units + 64 < cLine) (hc : X.calm = true := by rfl) (hs : starEach [e] X.env = (false, eval e X.env) :: starEach [] X.env := by rfl) :
    PE X (.Call (.Name "sorted" p1) [.Call (.Name "set" p2) [e] [] q1] [] pos) (tSortSetPL X.K te) := by
  refine ⟨fun pins s σ H Q I hq => Call_ (ld_blt I hg hm (show bootBuiltins "sorted" = some (.builtin "sorted") by decide +kernel) (PyProof.Rows.callWith_builtin1 (PyProof.Rows.args_cons (Call_ (ld_blt I hg' hm' PyProof.Rows.boot_set (PyProof.Rows.callWith_type1 (PyProof.Rows.args_cons (thn (he.run pins s σ H _ I hq) fun v s1 z => PyProof.Rows.args_nil ?x) hs) hs rfl))) rfl) rfl rfl))⟩
  obtain ⟨x, H1, I1, r1, l, ks, e1, e2, e3, e4, e5, q1⟩ := z
  subst e1
  cases r1
  obtain ⟨its, rv, pt, hz⟩ := I1.list e2
  refine call_setTL (P := X.prog) (w := X.w) ks (I1.ok.hd hc) pt.isList (by simpa using refs_of_vals rv) (fun p hp => I1.isT (e3 p hp)) e4 (by omega) fun h' tk L es ep t R g k => PyProof.Rows.args_nil ?y
  have I2 : Inv X pins σ H1 { s1 with heap := h', toks := tk } := I1.kept k
  have hsub : ∀ p ∈ L, p ∈ ks := fun p hp => List.mem_of_mem_take (g.sub p hp)
  refine sorted_setT (s := { s1 with heap := h', toks := tk }) R (I2.ok.hd hc) (d := 2) (B := 64) (by omega) (fun p hp => e5 p (hsub p hp)) fun s' p out c L' k2 g2 o hp hg hout pm pw => ?_
  have hfew : L'.length < 64 := by rw [pm.length_eq]; exact R.few
  have hlen : (L'.map fun q => V.ref q.1).length ≤ sizeLine := by rw [List.length_map, sizeLine_eq]; omega
  have hn : H1 p = none := I2.hok.fresh hp
  have hv : Vals (L'.map fun q => V.ref q.1) out.toList := by rw [hout]; exact vals_of_refs L'
  refine ⟨.ref p, upd H1 p (.lst (L'.map fun q => V.ref q.1)), ?_, rfl, q1 L' p (fun q hq => hsub q (pm.mem_iff.mp hq)) (fun q hq => ?_) ((pm.map (·.2)).nodup_iff.mpr R.nd) hfew pw hn⟩
  · have J : Inv X pins σ (upd H1 p (.lst (L'.map fun q => V.ref q.1))) { ({ s1 with heap := h', toks := tk } : Shared) with heap := s'.heap, gens := s'.gens, drawn := s'.drawn, toks := s'.toks } := I2.call (ch := []) (Un.laid k2 hp hn) (I2.hok.laid k2 hp ⟨hlen, out.toList, c, hv, hg⟩) (by rw [g2]; exact I2.bare) (fun _ z => nomatch z)
    have e : s' = { ({ s1 with heap := h', toks := tk } : Shared) with heap := s'.heap, gens := s'.gens, drawn := s'.drawn, toks := s'.toks } := by
      cases s'; cases s1; cases o; rfl
    rw [e]; exact J
  · have : q.2 ∈ L.map (·.2) := g.all q (by rw [List.take_length]; exact hq)
    exact (pm.map (·.2)).mem_iff.mpr this
end
def okPr2 (ps : List (Int × Int)) : Bool := decide ((dedP ps).length + 1 < 64) && ps.all fun p => decide (0 ≤ p.1 ∧ p.1 < 64 ∧ 0 ≤ p.2 ∧ p.2 < 64)
def sortSetPL : List D → Hs → R D
  | [.lst xs], h => match prsOf xs with
    | some ps => if okPr2 ps = true then newL false ((sortP (dedP ps)).map prD) h else .bad
    | none => .bad
  | _, _ => .bad
section
variable {X : Cx} {W : WX} {pin : List Pn} {pos : Pos}
theorem ve_sortSetPL {e : Expr} {f : FE} {p1 p2 q1 : Pos} (he : VE X W pin e f) (hg : Gl X "sorted") (hm : X.mg "sorted" = none) (hg' : Gl X "set") (hm' : X.mg "set" = none) (hu : X.A.units + 64 < cLine) (hc : X.calm = true := by rfl) (hs : starEach [e] X.env = (false, eval e X.env) :: starEach [] X.env := by rfl) :
    VE X W pin (.Call (.Name "sorted" p1) [.Call (.Name "set" p2) [e] [] q1] [] pos) (eB sortSetPL (aCons f aNil)) := by
  refine pe_imp (pe_sortSetPL he hg hm hg' hm' hu hc hs) fun σ H Q ⟨G, ms, s, h, hh, sl, q⟩ => ⟨G, ms, s, h, hh, sl, ?_⟩
  have q' : Post X.K X.mg (fun c d H => W c d σ H) G ms (Is X.K) ((f s h).bind fun d h1 => calm1 (sortSetPL [d] h1)) Q := by
    cases ef : f s h with
    | ok d h1 => simpa [eB, aCons, aNil, ef] using q
    | err x h1 => simpa [eB, aCons, aNil, ef] using q
    | bad => simpa [eB, aCons, aNil, ef] using q
  refine Post.bind q' fun d h1 v H1 G1 ms1 e1 p1 hh1 i1 q1 => ?_
  have q1 := calm1_post q1
  cases d with
  | lst xs =>
    simp only [sortSetPL] at q1
    cases ei : prsOf xs with
    | none => simp only [ei] at q1; exact q1.elim
    | some ps =>
      simp only [ei] at q1
      by_cases hz : okPr2 ps = true
      · rw [if_pos hz] at q1
        unfold okPr2 at hz
        simp only [Bool.and_eq_true, decide_eq_true_eq, List.all_eq_true] at hz
        obtain ⟨hz1, hz2⟩ := hz
        obtain ⟨p, vs, rfl, h2', h3⟩ := id i1
        have h2 : SqL X.K H1 p vs := .of (hh1.sub _ _ h2')
        rw [prsOf_eq ei] at h3
        obtain ⟨k1, k2⟩ := IsL.prs hh1 h3
        have hk : ∀ v ∈ vs, V.ref (adV v) = v := fun v hv => by
          obtain ⟨t, rfl, _⟩ := k2 v hv
          rfl
        have hvl : vs.length = ps.length := by rw [← k1, List.length_map]
        have hpk : ∀ v ∈ vs, pkV H1 v ∈ ps := fun v hv => by rw [← k1]; exact List.mem_map.mpr ⟨v, hv, rfl⟩
        refine ⟨p, vs.map fun v => (adV v, [(pkV H1 v).1, (pkV H1 v).2]), rfl, ?_, fun z hz' => ?_, fun L nd sub => ?_, fun z hz' => ?_, fun L' p' hsub hall hnd hfew hpw hn => ?_⟩
        · rw [List.map_map]
          have : vs.map ((fun p : Addr × List Int => V.ref p.1) ∘ fun v => (adV v, [(pkV H1 v).1, (pkV H1 v).2])) = vs := by
            conv => rhs; rw [← List.map_id vs]
            exact List.map_congr_left fun v hv => hk v hv
          rw [this]; exact h2
        · obtain ⟨v, hv, rfl⟩ := List.mem_map.mp hz'
          obtain ⟨t, rfl, e⟩ := k2 v hv
          exact .inl (Rd.of (hh1.sub _ _ e))
        · have q := nd_sub_len (m := (dedP ps).map fun x => [x.1, x.2]) nd fun k hk => by
            obtain ⟨q, hq, rfl⟩ := List.mem_map.mp hk
            obtain ⟨v, hv, rfl⟩ := List.mem_map.mp (sub q hq)
            exact List.mem_map.mpr ⟨pkV H1 v, (dedP_mem ps).mpr (hpk v hv), rfl⟩
          rw [List.length_map, List.length_map] at q
          omega
        · obtain ⟨v, hv, rfl⟩ := List.mem_map.mp hz'
          have := hz2 _ (hpk v hv)
          refine ⟨rfl, fun x hx => ?_⟩
          simp only [List.mem_cons, List.not_mem_nil, or_false] at hx
          rcases hx with rfl | rfl <;> omega
        · have hq : ∀ q ∈ L', V.ref q.1 ∈ vs ∧ q.2 = [(pkV H1 (V.ref q.1)).1, (pkV H1 (V.ref q.1)).2] := fun q hq => by
            obtain ⟨v, hv, rfl⟩ := List.mem_map.mp (hsub q hq)
            show V.ref (adV v) ∈ vs ∧ [(pkV H1 v).1, (pkV H1 v).2] = [(pkV H1 (V.ref (adV v))).1, (pkV H1 (V.ref (adV v))).2]
            rw [hk v hv]
            exact ⟨hv, rfl⟩
          have e2 : L'.map (·.2) = (L'.map fun q => pkV H1 (V.ref q.1)).map fun x => [x.1, x.2] := by
            rw [List.map_map]
            exact List.map_congr_left fun q hq' => (hq q hq').2
          have hnd2 : (L'.map fun q => pkV H1 (V.ref q.1)).Nodup := nodup_of_map (by rw [← e2]; exact hnd)
          have hso : (L'.map fun q => pkV H1 (V.ref q.1)) = sortP (dedP ps) := by
            refine sortP_uniq ((List.perm_ext_iff_of_nodup hnd2 (dedP_nd ps)).mpr fun x => ?_) ?_
            · rw [dedP_mem]
              constructor
              · intro hx
                obtain ⟨q, hq', rfl⟩ := List.mem_map.mp hx
                exact hpk _ (hq q hq').1
              · intro hx
                rw [← k1] at hx
                obtain ⟨v, hv, rfl⟩ := List.mem_map.mp hx
                have := hall _ (List.mem_map.mpr ⟨v, hv, rfl⟩)
                rw [e2] at this
                obtain ⟨y, hy, e⟩ := List.mem_map.mp this
                have : y = pkV H1 v := by
                  simp only [List.cons.injEq, and_true] at e
                  exact Prod.ext e.1 e.2
                rw [← this]; exact hy
            · rw [List.pairwise_map]
              refine hpw.imp_of_mem fun {a b} ha hb hab => ?_
              rw [(hq a ha).2, (hq b hb).2, code_pair, code_pair] at hab
              have b1 := hz2 _ (hpk _ (hq a ha).1)
              have b2 := hz2 _ (hpk _ (hq b hb).1)
              exact SrtO.lexB_no.mpr (by omega)
          have his : IsL X.K G1 ms1 ((sortP (dedP ps)).map prD) (L'.map fun q => V.ref q.1) := by
            have := IsL.prs_of (K := X.K) (G := G1) (ms := ms1) (H := H1) (vs := L'.map fun q => V.ref q.1) fun u hu' => by
              obtain ⟨q, hq', rfl⟩ := List.mem_map.mp hu'
              exact k2 _ (hq q hq').1
            have e3 : (L'.map fun q => V.ref q.1).map (pkV H1) = sortP (dedP ps) := by rw [List.map_map]; exact hso
            rw [e3] at this
            exact this
          exact Post.newL (m := false) q1 hh1 his (by
            rw [List.length_map, ← hso, List.length_map]
            exact Nat.le_trans (Nat.le_of_lt hfew) (by decide)) hn
      · rw [if_neg hz] at q1
        exact q1.elim
  | _ => exact q1.elim
end
theorem x_sortSetW {ns : List Int} {d : D} {h : Hs} (hr : rowOf h d = some (ns.map D.int)) (hz : ns.length < 4000) (hf : (sortU ns).length < 64) : sortSetW [d] h = .ok (.lst ((sortU ns).map D.int)) h := by
  simp only [sortSetW, hr, intsOf_map, if_pos (And.intro hz hf)]
theorem x_sortSetPL {ps : List (Int × Int)} {h : Hs} (hp : okPr2 ps = true) : sortSetPL [.lst (ps.map prD)] h = .ok (.lst ((sortP (dedP ps)).map prD)) h := by
  have e : prsOf (ps.map prD) = some ps := by
    induction ps with
    | nil => rfl
    | cons p ps ih =>
      have ih : ∀ qs : List (Int × Int), prsOf (qs.map prD) = some qs := fun qs => by
        induction qs with
        | nil => rfl
        | cons q qs jh => rw [List.map_cons, prD, prsOf, jh]
      exact ih (p :: ps)
  show (match prsOf (ps.map prD) with
    | some ps => if okPr2 ps = true then newL false ((sortP (dedP ps)).map prD) h else .bad
    | none => .bad) = _
  rw [e]
  dsimp only
  rw [if_pos hp]
  rfl
end WD
namespace WD
open PySem PySem.Spec PyProof.Rows L2
theorem truncOk_app (h t : Hs) : TruncOk h.length h (h ++ t) := fun i o hi e => .inl (by rw [List.getElem?_append_left hi] at e; exact e)
theorem truncOk_refl (h : Hs) : TruncOk h.length h h := fun i o hi e => .inl e
theorem exitT_same {d : D} {h : Hs} (hd : d.und h.length = true) : exitT h d h = .ok d h := by
  unfold exitT; rw [if_pos (truncOk_refl h)]; unfold frz1; rw [if_pos hd]; simp
@[simp] theorem exitT_bl {b : Bool} {h : Hs} : exitT h (.bl b) h = .ok (.bl b) h := exitT_same rfl
@[simp] theorem exitT_int {i : Int} {h : Hs} : exitT h (.int i) h = .ok (.int i) h := exitT_same rfl
@[simp] theorem exitT_str {i : Str} {h : Hs} : exitT h (.str i) h = .ok (.str i) h := exitT_same rfl
@[simp] theorem exitT_non {h : Hs} : exitT h .non h = .ok .non h := exitT_same rfl
@[simp] theorem exitX_same {x : Str} {h : Hs} : exitX h ⟨x, none⟩ h = .err ⟨x, none⟩ h := by
  unfold exitX; rw [if_pos ⟨truncOk_refl h, fun f d e => (nomatch e)⟩]; simp
mutual
theorem und_mono {n m : Nat} (hm : n ≤ m) : ∀ d : D, d.und n = true → d.und m = true
  | .non, _ => rfl
  | .bl _, _ => rfl
  | .int _, _ => rfl
  | .str _, _ => rfl
  | .tup xs, h => by simpa [D.und] using undL_mono hm xs (by simpa [D.und] using h)
  | .lst xs, h => by simpa [D.und] using undL_mono hm xs (by simpa [D.und] using h)
  | .scr xs, h => by simpa [D.und] using undL_mono hm xs (by simpa [D.und] using h)
  | .dic _ xs, h => by simpa [D.und] using undL_mono hm xs (by simpa [D.und] using h)
  | .loc k, h => by simp [D.und] at h ⊢; omega
theorem undL_mono {n m : Nat} (hm : n ≤ m) : ∀ xs : List D, undL n xs = true → undL m xs = true
  | [], _ => rfl
  | x :: xs, h => by
    simp only [undL, Bool.and_eq_true] at h ⊢
    exact ⟨und_mono hm x h.1, undL_mono hm xs h.2⟩
end
theorem undL_iff {n : Nat} : ∀ {xs : List D}, undL n xs = true ↔ ∀ x ∈ xs, x.und n = true
  | [] => by simp [undL]
  | x :: xs => by simp [undL, undL_iff (xs := xs)]
@[simp] theorem und_int {n : Nat} {i : Int} : (D.int i).und n = true := (rfl)
@[simp] theorem und_bl {n : Nat} {i : Bool} : (D.bl i).und n = true := (rfl)
@[simp] theorem und_str {n : Nat} {i : Str} : (D.str i).und n = true := (rfl)
@[simp] theorem und_non {n : Nat} : D.non.und n = true := (rfl)
@[simp] theorem und_tup {n : Nat} {xs : List D} : (D.tup xs).und n = undL n xs := by simp [D.und]
@[simp] theorem und_lst {n : Nat} {xs : List D} : (D.lst xs).und n = undL n xs := by simp [D.und]
@[simp] theorem und_loc {n k : Nat} : (D.loc k).und n = decide (k < n) := by simp [D.und]
@[simp] theorem undL_nil {n : Nat} : undL n [] = true := (rfl)
@[simp] theorem undL_cons {n : Nat} {x : D} {xs : List D} : undL n (x :: xs) = (x.und n && undL n xs) := (rfl)
@[simp] theorem undL_append {n : Nat} {xs ys : List D} : undL n (xs ++ ys) = (undL n xs && undL n ys) := by
  induction xs with
  | nil => simp
  | cons x xs ih => simp [ih, Bool.and_assoc]
@[simp] theorem undL_ints {n : Nat} (ns : List Int) : undL n (ns.map D.int) = true := undL_iff.mpr (by simp)
section
variable {s : Ss} {h : Hs} {d : D} {f g fa fb fc : FE} {t u : FT} {a b : FS}
@[simp] theorem x_c : eC d s h = .ok d h := (rfl)
@[simp] theorem x_var {i : Nat} : eVar i s h = match s[i]? with | some (some d) => .ok d h | _ => .bad := (rfl)
@[simp] theorem x_anil : aNil s h = .ok [] h := (rfl)
@[simp] theorem x_acons {r : FA} : aCons f r s h = (f s h).bind fun d h1 => (r s h1).bind fun ds h2 => .ok (d :: ds) h2 := (rfl)
@[simp] theorem x_bin {o : D → D → Hs → R D} : eBin o fa fb s h = (fa s h).bind fun a h1 => (fb s h1).bind fun b h2 => calm2 o a b h2 := (rfl)
@[simp] theorem x_calm2 {o : D → D → Hs → R D} {x y : D} : calm2 o x y h = calm1 (o x y h) := by
  unfold calm2 calm1; rfl
@[simp] theorem x_calm1_ok : calm1 (.ok d h) = .ok d h := (rfl)
@[simp] theorem x_calm1_bad : calm1 .bad = .bad := (rfl)
@[simp] theorem x_quiet_ok {α : Type} {x : α} : quiet (.ok x h) = .ok x h := (rfl)
@[simp] theorem x_b {o : List D → Hs → R D} {r : FA} : eB o r s h = (r s h).bind fun ds h1 => calm1 (o ds h1) := (rfl)
@[simp] theorem x_call {n : Nat} {o : List D → Hs → R D} {r : FA} : eCall n o r s h = (r s h).bind fun ds h1 => if ds.length = n then o ds h1 else .bad := (rfl)
@[simp] theorem x_ml {o : D → List D → Hs → R D} {r : FA} : eML o f r s h = (f s h).bind fun d h1 => match lstOf h1 d with
  | some _ => (r s h1).bind fun ds h2 => calm1 (o d ds h2)
  | none => .bad := (rfl)
@[simp] theorem x_tup {r : FA} : eTup r s h = (r s h).bind fun ds h1 => if ds.length ≤ sizeLine then .ok (.tup ds) h1 else .bad := (rfl)
@[simp] theorem x_lst {m : Bool} {r : FA} : eLst m r s h = (r s h).bind fun ds h1 => if ds.length ≤ sizeLine then newL m ds h1 else .bad := (rfl)
@[simp] theorem x_truth_bl {k : Bool} : truth (.ok (.bl k) h) = .ok k h := (rfl)
@[simp] theorem x_truth_bad : truth .bad = .bad := (rfl)
@[simp] theorem x_truth_err {x : Xn} : truth (.err x h) = .err x h := (rfl)
@[simp] theorem x_tv : tV f s h = truth (f s h) := (rfl)
@[simp] theorem x_tnot : tNotF t s h = (t s h).bind fun b h1 => .ok (!b) h1 := (rfl)
@[simp] theorem x_tand : tAndF t u s h = (t s h).bind fun b h1 => if b = true then u s h1 else .ok false h1 := (rfl)
@[simp] theorem x_tor : tOrF t u s h = (t s h).bind fun b h1 => if b = true then .ok true h1 else u s h1 := (rfl)
@[simp] theorem x_tyes : tYesF s h = .ok true h := (rfl)
@[simp] theorem x_and : eAndF fa fb s h = (truth (fa s h)).bind fun k h1 => if k = true then fb s h1 else .ok (.bl false) h1 := (rfl)
@[simp] theorem x_or : eOrF fa fb s h = (truth (fa s h)).bind fun k h1 => if k = true then .ok (.bl true) h1 else fb s h1 := (rfl)
@[simp] theorem x_not : eNotF fa s h = (truth (fa s h)).bind fun k h1 => .ok (.bl (!k)) h1 := (rfl)
@[simp] theorem x_if : eIfF t fa fb s h = (t s h).bind fun k h1 => if k = true then fa s h1 else fb s h1 := (rfl)
@[simp] theorem x_chain {o o' : D → D → Hs → R D} : eChain o o' fa fb fc s h = (fa s h).bind fun x h1 => (fb s h1).bind fun y h2 => (truth (calm2 o x y h2)).bind fun k h3 => if k = true then (fc s h3).bind fun z h4 => calm2 o' y z h4 else .ok (.bl false) h3 := (rfl)
@[simp] theorem x_neg : negD fa s h = (fa s h).bind fun d h1 => match d with
  | .int i => .ok (.int (-i)) h1
  | _ => .bad := (rfl)
@[simp] theorem x_onone : oNone s h = .ok none h := (rfl)
@[simp] theorem x_osome : oSome f s h = (f s h).bind fun d h1 => match d with
  | .int i => .ok (some i) h1
  | _ => .bad := (rfl)
@[simp] theorem x_sl {m : Bool} {p q : FO} : eSl m f p q s h = (f s h).bind fun d h1 => (p s h1).bind fun lo h2 => (q s h2).bind fun hi h3 => slD m d lo hi h3 := (rfl)
@[simp] theorem x_next : sNext s h = .nx s h := (rfl)
@[simp] theorem x_seq : sSeq a b s h = match a s h with
  | .nx s' h' => b s' h'
  | r => r := (rfl)
@[simp] theorem x_sif : sIf t a b s h = match t s h with
  | .ok k h1 => if k = true then a s h1 else b s h1
  | .err x h1 => .er x s h1
  | .bad => .bad := (rfl)
@[simp] theorem x_set {i : Nat} : sSet i f s h = RS.ofR s (f s h) fun d h1 => .nx (s.set i (some d)) h1 := (rfl)
@[simp] theorem x_ret : sRet f s h = RS.ofR s (f s h) fun d h1 => .rt d h1 := (rfl)
@[simp] theorem x_expr : sExpr f s h = RS.ofR s (f s h) fun _ h1 => .nx s h1 := (rfl)
@[simp] theorem x_raise {n : Str} : sRaise n s h = .er ⟨n, none⟩ s h := (rfl)
@[simp] theorem x_break : sBreak s h = .bk s h := (rfl)
@[simp] theorem x_cont : sCont s h = .ct s h := (rfl)
@[simp] theorem x_item {fo fi fe : FE} : sItem fo fi fe s h = RS.ofR s (fe s h) fun v h1 => RS.ofR s (fo s h1) fun o h2 => RS.ofR s (fi s h2) fun i h3 => match setD o i v h3 with
  | some h4 => .nx s h4
  | none => .bad := (rfl)
@[simp] theorem x_aug {i : Nat} {o : D → D → Hs → R D} : sAug i o f s h = match s[i]? with
  | some (some x) => RS.ofR s (f s h) fun y h1 => RS.ofR s (calm2 o x y h1) fun z h2 => .nx (s.set i (some z)) h2
  | _ => .bad := (rfl)
@[simp] theorem x_un {o : Tg} : sUn o f s h = RS.ofR s (f s h) fun d h1 => match o d s h1 with
  | some s' => .nx s' h1
  | none => .bad := (rfl)
@[simp] theorem x_par {i j : Nat} {r : FA} : sPar i j r s h = match r s h with
  | .ok [x, y] h1 => .nx ((s.set i (some x)).set j (some y)) h1
  | .ok _ _ => .bad
  | .err x h1 => .er x s h1
  | .bad => .bad := (rfl)
@[simp] theorem x_gvar {i : Nat} : gVar i d s h = some (s.set i (some d)) := (rfl)
@[simp] theorem x_after_nx {k : Ss → Hs → RS} : afterT (.nx s h) k = k s h := (rfl)
@[simp] theorem x_after_ct {k : Ss → Hs → RS} : afterT (.ct s h) k = k s h := (rfl)
@[simp] theorem x_after_bk {k : Ss → Hs → RS} : afterT (.bk s h) k = .nx s h := (rfl)
@[simp] theorem x_after_rt {k : Ss → Hs → RS} : afterT (.rt d h) k = .rt d h := (rfl)
@[simp] theorem x_after_er {k : Ss → Hs → RS} {x : Xn} : afterT (.er x s h) k = .er x s h := (rfl)
@[simp] theorem x_newF {xs : List D} : newL false xs h = .ok (.lst xs) h := (rfl)
@[simp] theorem x_newT {xs : List D} : newL true xs h = .ok (.loc h.length) (h ++ [.lst xs]) := (rfl)
@[simp] theorem x_add {i j : Int} : addD (.int i) (.int j) h = .ok (.int (i + j)) h := (rfl)
@[simp] theorem x_sub {i j : Int} : subD (.int i) (.int j) h = .ok (.int (i - j)) h := (rfl)
open Classical in
theorem x_mul {i j : Int} : mulD (.int i) (.int j) h = if smallI i ∨ smallI j then .ok (.int (i * j)) h else .bad := (rfl)
open Classical in
theorem x_fdiv {i j : Int} : fdivD (.int i) (.int j) h = if divOk0 j then .ok (.int (i / j)) h else .bad := (rfl)
theorem x_mod {i j : Int} : modD (.int i) (.int j) h = if 0 < j then .ok (.int (i % j)) h else .bad := (rfl)
open Classical in
theorem x_pow {i j : Int} : powD (.int i) (.int j) h = if powOk i j then .ok (.int (i ^ j.toNat)) h else .bad := (rfl)
@[simp] theorem x_cmp {p : Int → Int → Bool} {i j : Int} : cmpI p (.int i) (.int j) h = .ok (.bl (p i j)) h := (rfl)
@[simp] theorem x_ipadd {i j : Int} : ipAddD (.int i) (.int j) h = .ok (.int (i + j)) h := (rfl)
@[simp] theorem x_ipsub {i j : Int} : ipSubD (.int i) (.int j) h = .ok (.int (i - j)) h := (rfl)
@[simp] theorem x_row_tup {xs : List D} : rowOf h (.tup xs) = some xs := (rfl)
@[simp] theorem x_row_lst {xs : List D} : rowOf h (.lst xs) = some xs := (rfl)
@[simp] theorem x_row_scr {xs : List D} : rowOf h (.scr xs) = some xs := (rfl)
@[simp] theorem x_row_loc {n : Nat} : rowOf h (.loc n) = locAt h n := (rfl)
@[simp] theorem x_lo_lst {xs : List D} : lstOf h (.lst xs) = some xs := (rfl)
@[simp] theorem x_lo_loc {n : Nat} : lstOf h (.loc n) = locAt h n := (rfl)
@[simp] theorem x_lx_lst {xs : List D} : lstX h (.lst xs) = some xs := (rfl)
@[simp] theorem x_lx_loc {n : Nat} : lstX h (.loc n) = locAt h n := (rfl)
@[simp] theorem x_len_tup {xs : List D} : lenD [.tup xs] h = .ok (.int xs.length) h := (rfl)
@[simp] theorem x_len_lst {xs : List D} : lenD [.lst xs] h = .ok (.int xs.length) h := (rfl)
theorem x_len {xs : List D} (e : rowOf h d = some xs) : lenD [d] h = .ok (.int xs.length) h := by
  cases d <;> first | (simp [rowOf, lstOf, lstX] at e; done) | (simp only [lenD]; rw [e])
@[simp] theorem x_max2 {i j : Int} : maxD [.int i, .int j] h = .ok (.int (if j > i then j else i)) h := (rfl)
@[simp] theorem x_min2 {i j : Int} : minD [.int i, .int j] h = .ok (.int (if j < i then j else i)) h := (rfl)
@[simp] theorem x_intb {k : Bool} : intD [.bl k] h = .ok (.int (if k = true then 1 else 0)) h := (rfl)
@[simp] theorem x_inti {k : Int} : intD [.int k] h = .ok (.int k) h := (rfl)
theorem x_tuple {xs : List D} (e : rowOf h d = some xs) : tupleD [d] h = .ok (.tup xs) h := by simp only [tupleD]; rw [e]
@[simp] theorem x_tuple_lst {xs : List D} : tupleD [.lst xs] h = .ok (.tup xs) h := (rfl)
@[simp] theorem x_tuple_tup {xs : List D} : tupleD [.tup xs] h = .ok (.tup xs) h := (rfl)
theorem x_list {m : Bool} {xs : List D} (e : rowOf h d = some xs) : listD m [d] h = newL m xs h := by simp only [listD]; rw [e]
@[simp] theorem x_list_tup {m : Bool} {xs : List D} : listD m [.tup xs] h = newL m xs h := (rfl)
@[simp] theorem x_list_scr {m : Bool} {xs : List D} : listD m [.scr xs] h = newL m xs h := (rfl)
@[simp] theorem x_sum_lst {ns : List Int} : sumD [.lst (ns.map D.int)] h = .ok (.int ns.sum) h := by simp [sumD]
@[simp] theorem x_sum_tup {ns : List Int} : sumD [.tup (ns.map D.int)] h = .ok (.int ns.sum) h := by simp [sumD]
@[simp] theorem x_exit_keep {h' : Hs} : exitF .keep h d h' = .ok d h' := (rfl)
@[simp] theorem x_exit_trunc {h' : Hs} : exitF .trunc h d h' = exitT h d h' := (rfl)
end
/-- the items that a walk takes, where nothing changes -/
def itemsOf (h : Hs) : It0 → Option (List D)
  | .seq ds => some ds
  | .rng lo n => if n ≤ sizeLine then some (rgL lo n) else none
  | .loc n => locAt h n
/-- the walk over a row -/
theorem iRow_ok {f : FE} {s : Ss} {h h1 : Hs} {d : D} {xs : List D} (e : f s h = .ok d h1) (hr : rowOf h1 d = some xs) : ∃ it, iRow f s h = .ok it h1 ∧ itemsOf h1 it = some xs := by
  unfold iRow
  rw [e]
  cases d with
  | tup ys => cases hr; exact ⟨_, rfl, rfl⟩
  | lst ys => cases hr; exact ⟨_, rfl, rfl⟩
  | scr ys => cases hr; exact ⟨_, rfl, rfl⟩
  | loc n =>
    have hr : locAt h1 n = some xs := hr
    have hl : n < h1.length := by
      have := locAt_some hr
      exact lt_of_get this
    exact ⟨.loc n, by simp [hr], hr⟩
  | _ => cases hr
theorem loopL_eq {g : Tg} {b : FS} {n : Nat} {xs : List D} (Inv : Nat → Ss → Hs → Prop) (hinv : ∀ i s h, Inv i s h → locAt h n = some xs)
    (hstep : ∀ i d s s' h, Inv i s h → xs[i]? = some d → g d s h = some s' → (∀ s2 h2, b s' h = .nx s2 h2 ∨ b s' h = .ct s2 h2 → Inv (i + 1) s2 h2)) :
    ∀ (m i : Nat) (s : Ss) (h : Hs), xs.length - i < m → Inv i s h → loopL g b n m i s h = loopS g b (xs.drop i) s h
  | 0, _, _, _, hm, _ => absurd hm (by omega)
  | m + 1, i, s, h, hm, hv => by
    unfold loopL
    simp only [hinv i s h hv]
    by_cases hl : i < xs.length
    · rw [List.getElem?_eq_getElem hl, List.drop_eq_getElem_cons hl]
      dsimp only
      conv => rhs; unfold loopS
      cases eg : g xs[i] s h with
      | none => rfl
      | some s' =>
        dsimp only
        have st := hstep i xs[i] s s' h hv (List.getElem?_eq_getElem hl) eg
        cases eb : b s' h with
        | nx s2 h2 => exact loopL_eq Inv hinv hstep m (i + 1) s2 h2 (by omega) (st s2 h2 (.inl eb))
        | ct s2 h2 => exact loopL_eq Inv hinv hstep m (i + 1) s2 h2 (by omega) (st s2 h2 (.inr eb))
        | _ => rfl
    · rw [List.getElem?_eq_none (by omega), List.drop_eq_nil_of_le (by omega)]
      rfl
theorem sFor_rng {fi : FI} {g : Tg} {b : FS} {s : Ss} {h h1 : Hs} {lo : Int} {n : Nat} (e : fi s h = .ok (.rng lo n) h1) : sFor fi g b s h = loopS g b (rgL lo n) s h1 := by unfold sFor; rw [e]
theorem sFor_seq {fi : FI} {g : Tg} {b : FS} {s : Ss} {h h1 : Hs} {ds : List D} (e : fi s h = .ok (.seq ds) h1) : sFor fi g b s h = loopS g b ds s h1 := by unfold sFor; rw [e]
theorem sFor_loc {fi : FI} {g : Tg} {b : FS} {s : Ss} {h h1 : Hs} {n : Nat} {xs : List D} (e : fi s h = .ok (.loc n) h1) (el : locAt h1 n = some xs) : sFor fi g b s h = loopL g b n (xs.length + 1) 0 s h1 := by unfold sFor; rw [e]; simp only [el]
theorem iRng2_ok {f : FA} {s : Ss} {h h1 : Hs} {i j : Int} (e : f s h = .ok [.int i, .int j] h1) (hi : -1000000000 ≤ i ∧ i ≤ 1000000000) (hj : -1000000000 ≤ j ∧ j ≤ 1000000000) : iRng2 f s h = .ok (.rng i (j - i).toNat) h1 := by
  unfold iRng2
  rw [e, R.bind_ok]
  have h1 : r62 i := ⟨Int.le_trans (by decide) hi.1, Int.lt_of_le_of_lt hi.2 (by decide)⟩
  have h2 : r62 j := ⟨Int.le_trans (by decide) hj.1, Int.lt_of_le_of_lt hj.2 (by decide)⟩
  dsimp only
  rw [if_pos ⟨h1, h2⟩]
theorem rgL_ints (lo : Int) (n : Nat) : rgL lo n = ((List.range n).map fun (i : Nat) => lo + (i : Int)).map D.int := by
  unfold rgL; simp
theorem loop_nx {g : Tg} {b : FS} {d : D} {ds : List D} {s s1 s2 : Ss} {h h2 : Hs} (eg : g d s h = some s1) (e : b s1 h = .nx s2 h2) : loopS g b (d :: ds) s h = loopS g b ds s2 h2 := by
  conv => lhs; unfold loopS
  rw [eg]; dsimp only; rw [e]; rfl
theorem loop_rt {g : Tg} {b : FS} {d : D} {ds : List D} {s s1 : Ss} {h h2 : Hs} {v : D} (eg : g d s h = some s1) (e : b s1 h = .rt v h2) : loopS g b (d :: ds) s h = .rt v h2 := by
  conv => lhs; unfold loopS
  rw [eg]; dsimp only; rw [e]; rfl
end WD
namespace WD
open PySem PySem.Spec PyProof.Rows L2
@[simp] theorem toP_int {h : Hs} {n : Nat} {i : Int} : toP h n (.int i) = some (.int i) := by cases n <;> rfl
@[simp] theorem toP_bl {h : Hs} {n : Nat} {i : Bool} : toP h n (.bl i) = some (.bool i) := by cases n <;> rfl
@[simp] theorem toP_non {h : Hs} {n : Nat} : toP h n .non = some .none := by cases n <;> rfl
theorem mapM_some {α β : Type} {f : α → Option β} {g : α → β} : ∀ {xs : List α}, (∀ x ∈ xs, f x = some (g x)) → xs.mapM f = some (xs.map g)
  | [], _ => rfl
  | x :: xs, hx => by
    rw [List.mapM_cons, hx x List.mem_cons_self, mapM_some fun y hy => hx y (List.mem_cons_of_mem _ hy)]
    rfl
theorem toP_tup {h : Hs} {n : Nat} {xs : List D} {ps : List PyData} (e : xs.mapM (toP h n) = some ps) : toP h (n + 1) (.tup xs) = some (.tuple ps) := by
  simp only [toP, e]; rfl
theorem toP_lst {h : Hs} {n : Nat} {d : D} {xs : List D} {ps : List PyData} (hd : lstOf h d = some xs) (e : xs.mapM (toP h n) = some ps) : toP h (n + 1) d = some (.list ps) := by
  cases d <;> first | (simp [lstOf, lstX] at hd; done) | (simp only [toP]; rw [hd]; simp only [e]; rfl)
theorem mapM_ints {h : Hs} {n : Nat} (ns : List Int) : (ns.map D.int).mapM (toP h n) = some (ns.map PyData.int) := by
  rw [mapM_some (g := fun d => match d with | .int i => PyData.int i | _ => .none) (by simp)]
  simp
theorem eqv_ints : ∀ ns ms : List Int, PyData.eqvAll (ns.map PyData.int) (ms.map PyData.int) = decide (ns = ms)
  | [], [] => by simp [PyData.eqvAll]
  | [], _ :: _ => by simp [PyData.eqvAll]
  | _ :: _, [] => by simp [PyData.eqvAll]
  | n :: ns, m :: ms => by
    simp only [List.map_cons, PyData.eqvAll, PyData.eqv, eqv_ints ns ms, List.cons.injEq]
    by_cases h1 : n = m <;> by_cases h2 : ns = ms <;> simp [h1, h2]
@[simp] theorem x_eqI {n : Bool} {h : Hs} {i j : Int} : eqD n (.int i) (.int j) h = .ok (.bl (if n = true then !(i == j) else i == j)) h := by
  simp [eqD, PyData.eqv]
theorem x_eqL {n : Bool} {h : Hs} {d e : D} {ns ms : List Int} (hd : lstOf h d = some (ns.map D.int)) (he : lstOf h e = some (ms.map D.int)) : eqD n d e h = .ok (.bl (if n = true then !decide (ns = ms) else decide (ns = ms))) h := by
  unfold eqD
  rw [toP_lst hd (mapM_ints ns), toP_lst he (mapM_ints ms)]
  simp [PyData.eqv, eqv_ints]
@[simp] theorem locAt_cons0 {xs : List D} {t : Hs} : locAt (.lst xs :: t) 0 = some xs := (rfl)
theorem locAt_app {g : Hs} {n : Nat} {t : Hs} (hn : n < g.length) : locAt (g ++ t) n = locAt g n := by
  unfold locAt; rw [List.getElem?_append_left hn]
@[simp] theorem locAt_end {g : Hs} {xs : List D} {t : Hs} : locAt (g ++ (.lst xs :: t)) g.length = some xs := by
  unfold locAt; simp [O.items]
theorem locAt_lt {g : Hs} {n : Nat} {xs : List D} (e : locAt g n = some xs) : n < g.length := lt_of_get (locAt_some e)
@[simp] theorem set_end {α : Type} {g : List α} {o x : α} {t : List α} : (g ++ (o :: t)).set g.length x = g ++ (x :: t) := by
  rw [List.set_append_right _ _ (Nat.le_refl _)]; simp
theorem atI_in {α : Type} {xs : List α} {i : Int} (h0 : 0 ≤ i) (h1 : i < xs.length) : atI xs i = some (xs[i.toNat]'(by omega)) := by
  have hl : i.toNat < xs.length := by omega
  have := atI_nat (xs := xs) (j := i.toNat) (v := xs[i.toNat]) (List.getElem?_eq_getElem hl)
  rwa [Int.toNat_of_nonneg h0] at this
theorem ixN_in {n : Nat} {i : Int} (h0 : 0 ≤ i) (h1 : i < n) : ixN n i = some i.toNat := by
  unfold ixN; rw [if_pos h0, if_pos h1]
theorem x_ix_row {h : Hs} {d e : D} {xs : List D} {i : Int} (hr : rowOf h d = some xs) (he : atI xs i = some e) : ixD d (.int i) h = .ok e h := by
  cases d <;> first | (simp [rowOf, lstOf, lstX] at hr; done) | (simp only [ixD]; rw [hr]; simp only [he])
end WD
namespace WD
open PySem PySem.Spec PyProof.Rows L2
section
variable {s : Ss} {h : Hs} {d : D} {f : FE} {b : FS} {g : Tg}
@[simp] theorem x_isi {ns : List String} : eIsi ns f s h = (f s h).bind fun d h1 => .ok (.bl (ns.any fun n => isSub (tyD h1 d) n)) h1 := (rfl)
@[simp] theorem x_fa {vs : List Nat} : sFa vs b s h = fgS vs (b s h) := (rfl)
@[simp] theorem x_fb {vs : List Nat} : sFb vs b s h = b (wipeS s vs) h := (rfl)
@[simp] theorem x_fg_nx {vs : List Nat} : fgS vs (.nx s h) = .nx (wipeS s vs) h := (rfl)
@[simp] theorem x_fg_ct {vs : List Nat} : fgS vs (.ct s h) = .ct (wipeS s vs) h := (rfl)
@[simp] theorem x_fg_bk {vs : List Nat} : fgS vs (.bk s h) = .bk (wipeS s vs) h := (rfl)
@[simp] theorem x_fg_rt {vs : List Nat} : fgS vs (.rt d h) = .rt d h := (rfl)
@[simp] theorem x_fg_er {vs : List Nat} {x : Xn} : fgS vs (.er x s h) = .er x s h := (rfl)
@[simp] theorem x_fg_bad {vs : List Nat} : fgS vs .bad = .bad := (rfl)
@[simp] theorem x_after_bad {k : Ss → Hs → RS} : afterT .bad k = .bad := (rfl)
@[simp] theorem x_wipe_nil : wipeS s [] = s := (rfl)
@[simp] theorem x_wipe_cons {v : Nat} {vs : List Nat} : wipeS s (v :: vs) = (wipeS s vs).set v none := (rfl)
@[simp] theorem x_gun {gs : List Tg} : gUn gs d s h = match rowOf h d with
  | some xs => unp gs xs s h
  | none => none := (rfl)
@[simp] theorem x_unp_nil : unp [] [] s h = some s := (rfl)
@[simp] theorem x_unp_cons {gs : List Tg} {ds : List D} : unp (g :: gs) (d :: ds) s h = match g d s h with
  | some s' => unp gs ds s' h
  | none => none := (rfl)
@[simp] theorem x_run {n N : Nat} {md : Md} {ds : List D} : runF n N md b ds h = if ds.length = n then (match b (ds.map some ++ List.replicate (N - n) none) h with
  | .nx _ h' => exitF md h .non h'
  | .rt d h' => exitF md h d h'
  | .er x _ h' => exitX h x h'
  | _ => .bad) else .bad := (rfl)
theorem x_loop_nil : loopS g b [] s h = .nx s h := (rfl)
theorem x_loop_cons {ds : List D} : loopS g b (d :: ds) s h = match g d s h with
  | some s' => afterT (b s' h) (loopS g b ds)
  | none => .bad := (rfl)
end
@[simp] theorem size_val : sizeLine = 16777216 := (rfl)
theorem small_bd {i : Int} (h0 : -18446744073709551616 < i) (h1 : i < 18446744073709551616) : smallI i := ⟨by omega, by omega⟩
theorem divOk {j : Int} (h0 : 0 < j) (h1 : j < 18446744073709551616) : divOk0 j := by
  refine ⟨h0, ?_⟩
  have h2 : j.natAbs ≠ 0 := by omega
  have h3 : j.natAbs < 2 ^ 64 := by omega
  have := (Nat.log2_lt h2).mpr h3
  omega
@[simp] theorem x_fdv {i j : Int} {h : Hs} (h0 : 0 < j) (h1 : j < 18446744073709551616) : fdivD (.int i) (.int j) h = .ok (.int (i / j)) h := by
  rw [x_fdiv, if_pos (divOk h0 h1)]
@[simp] theorem x_pw {i j : Int} {h : Hs} (h0 : 0 ≤ j) (h1 : j ≤ 1000000) (h2 : -18446744073709551616 < i) (h3 : i < 18446744073709551616) : powD (.int i) (.int j) h = .ok (.int (i ^ j.toNat)) h := by
  rw [x_pow, if_pos ⟨h0, h1, by omega⟩]
@[simp] theorem x_md {i j : Int} {h : Hs} (h0 : 0 < j) : modD (.int i) (.int j) h = .ok (.int (i % j)) h := by
  rw [x_mod, if_pos h0]
@[simp] theorem x_mlL {i j : Int} {h : Hs} (h0 : -18446744073709551616 < i) (h1 : i < 18446744073709551616) : mulD (.int i) (.int j) h = .ok (.int (i * j)) h := by
  rw [x_mul, if_pos (.inl (small_bd h0 h1))]
@[simp] theorem x_mlR {i j : Int} {h : Hs} (h0 : -18446744073709551616 < j) (h1 : j < 18446744073709551616) : mulD (.int i) (.int j) h = .ok (.int (i * j)) h := by
  rw [x_mul, if_pos (.inr (small_bd h0 h1))]
def isW (lo hi : Int) : D → Bool
  | .int i => decide (lo ≤ i) && decide (i ≤ hi)
  | _ => false
@[simp] theorem isW_int {lo hi i : Int} : isW lo hi (.int i) = (decide (lo ≤ i) && decide (i ≤ hi)) := (rfl)
def D.isI : D → Bool
  | .int _ => true
  | .bl _ => true
  | _ => false
def D.isB : D → Bool
  | .bl _ => true
  | _ => false
def D.isT : D → Bool
  | .tup _ => true
  | _ => false
def D.isS : D → Bool
  | .str _ => true
  | _ => false
@[simp] theorem isSub_int {h : Hs} {d : D} : isSub (tyD h d) "int" = d.isI := by
  cases d with
  | loc n =>
    simp only [tyD]
    cases h[n]? with
    | none => simp [tyO, isSub, D.isI]
    | some o => cases o with
      | lst xs => simp [tyO, isSub, D.isI]
      | ins c fs => simp [tyO, isSub, D.isI]
      | dct z kvs => simp [tyO, isSub, D.isI]
      | dci z kvs => simp [tyO, isSub, D.isI]
  | _ => simp [tyD, isSub, D.isI]
@[simp] theorem isSub_bool {h : Hs} {d : D} : isSub (tyD h d) "bool" = d.isB := by
  cases d with
  | loc n =>
    simp only [tyD]
    cases h[n]? with
    | none => simp [tyO, isSub, D.isB]
    | some o => cases o with
      | lst xs => simp [tyO, isSub, D.isB]
      | ins c fs => simp [tyO, isSub, D.isB]
      | dct z kvs => simp [tyO, isSub, D.isB]
      | dci z kvs => simp [tyO, isSub, D.isB]
  | _ => simp [tyD, isSub, D.isB]
@[simp] theorem isSub_tuple {h : Hs} {d : D} : isSub (tyD h d) "tuple" = d.isT := by
  cases d with
  | loc n =>
    simp only [tyD]
    cases h[n]? with
    | none => simp [tyO, isSub, D.isT]
    | some o => cases o with
      | lst xs => simp [tyO, isSub, D.isT]
      | ins c fs => simp [tyO, isSub, D.isT]
      | dct z kvs => simp [tyO, isSub, D.isT]
      | dci z kvs => simp [tyO, isSub, D.isT]
  | _ => simp [tyD, isSub, D.isT]
@[simp] theorem isSub_str {h : Hs} {d : D} : isSub (tyD h d) "str" = d.isS := by
  cases d with
  | loc n =>
    simp only [tyD]
    cases h[n]? with
    | none => simp [tyO, isSub, D.isS]
    | some o => cases o with
      | lst xs => simp [tyO, isSub, D.isS]
      | ins c fs => simp [tyO, isSub, D.isS]
      | dct z kvs => simp [tyO, isSub, D.isS]
      | dci z kvs => simp [tyO, isSub, D.isS]
  | _ => simp [tyD, isSub, D.isS]
@[simp] theorem isSub_list {h : Hs} {d : D} : isSub (tyD h d) "list" = (lstOf h d).isSome := by
  cases d with
  | loc n =>
    simp only [tyD, lstOf, lstX, locAt]
    cases h[n]? with
    | none => simp [tyO, isSub]
    | some o => cases o with
      | lst xs => simp [tyO, isSub, O.items]
      | ins c fs => simp [tyO, isSub, O.items]
      | dct z kvs => simp [tyO, isSub, O.items]
      | dci z kvs => simp [tyO, isSub, O.items]
  | _ => simp [tyD, isSub, lstOf, lstX]
@[simp] theorem isRow_or {h : Hs} {d : D} : ((lstOf h d).isSome || d.isT) = (rowOf h d).isSome := by
  cases d with
  | tup xs => simp [rowOf, D.isT]
  | _ => simp [rowOf, D.isT]
@[simp] theorem isI_int {i : Int} : (D.int i).isI = true := (rfl)
@[simp] theorem isB_int {i : Int} : (D.int i).isB = false := (rfl)
@[simp] theorem isI_bl {i : Bool} : (D.bl i).isI = true := (rfl)
@[simp] theorem isB_bl {i : Bool} : (D.bl i).isB = true := (rfl)
@[simp] theorem isT_tup {i : List D} : (D.tup i).isT = true := (rfl)
@[simp] theorem isT_int {i : Int} : (D.int i).isT = false := (rfl)
@[simp] theorem isT_non : D.non.isT = false := (rfl)
@[simp] theorem isI_non : D.non.isI = false := (rfl)
@[simp] theorem isI_tup {i : List D} : (D.tup i).isI = false := (rfl)
@[simp] theorem isT_bl {i : Bool} : (D.bl i).isT = false := (rfl)
@[simp] theorem isT_loc {i : Nat} : (D.loc i).isT = false := (rfl)
@[simp] theorem x_row_int {h : Hs} {i : Int} : rowOf h (.int i) = none := (rfl)
@[simp] theorem x_row_non {h : Hs} : rowOf h .non = none := (rfl)
@[simp] theorem x_row_bl {h : Hs} {i : Bool} : rowOf h (.bl i) = none := (rfl)
@[simp] theorem x_lo_tup {h : Hs} {i : List D} : lstOf h (.tup i) = none := (rfl)
@[simp] theorem x_lo_int {h : Hs} {i : Int} : lstOf h (.int i) = none := (rfl)
def Itr (fi : FI) (s : Ss) (h h1 : Hs) (xs : List D) : Prop := ∃ it, fi s h = .ok it h1 ∧ itemsOf h1 it = some xs
theorem Itr.row {f : FE} {s : Ss} {h h1 : Hs} {d : D} {xs : List D} (e : f s h = .ok d h1) (hr : rowOf h1 d = some xs) : Itr (iRow f) s h h1 xs := iRow_ok e hr
theorem Itr.tup {f : FE} {s : Ss} {h h1 : Hs} {xs : List D} (e : f s h = .ok (.tup xs) h1) : Itr (iRow f) s h h1 xs := ⟨.seq xs, by unfold iRow; rw [e]; rfl, rfl⟩
theorem Itr.lst {f : FE} {s : Ss} {h h1 : Hs} {xs : List D} (e : f s h = .ok (.lst xs) h1) : Itr (iRow f) s h h1 xs := ⟨.seq xs, by unfold iRow; rw [e]; rfl, rfl⟩
theorem Itr.enT {f : FA} {s : Ss} {h h1 : Hs} {xs : List D} (e : f s h = .ok [.tup xs] h1) : Itr (iEnumerate f) s h h1 (enL 0 xs) := ⟨.seq _, by unfold iEnumerate; rw [e]; rfl, rfl⟩
def rgI (lo : Int) (n : Nat) : List Int := (List.range n).map fun (i : Nat) => lo + (i : Int)
theorem Itr.rng {f : FA} {s : Ss} {h h1 : Hs} {n : Int} (e : f s h = .ok [.int n] h1) (h1 : n ≤ 16777216) (h0 : -1000000000 ≤ n) : Itr (iRng1 f) s h ‹_› ((rgI 0 n.toNat).map D.int) := by
  refine ⟨.rng 0 n.toNat, ?_, ?_⟩
  · unfold iRng1
    rw [e, R.bind_ok]
    exact if_pos ⟨Int.le_trans (by decide) h0, Int.lt_of_le_of_lt h1 (by decide)⟩
  · show (if n.toNat ≤ sizeLine then some (rgL 0 n.toNat) else none) = _
    rw [if_pos (by rw [size_val]; omega), rgL_ints]; rfl
theorem Itr.rng2 {f : FA} {s : Ss} {h h1 : Hs} {m n : Int} (e : f s h = .ok [.int m, .int n] h1) (h2 : n ≤ 16000000) (h0 : -1000000000 ≤ n) (h3 : -500000 ≤ m) (h4 : m ≤ 1000000000) : Itr (iRng2 f) s h h1 ((rgI m (n - m).toNat).map D.int) := by
  refine ⟨.rng m (n - m).toNat, iRng2_ok e (by omega) (by omega), ?_⟩
  show (if (n - m).toNat ≤ sizeLine then some (rgL m (n - m).toNat) else none) = _
  rw [if_pos (by rw [size_val]; omega), rgL_ints]; rfl
theorem comp_ty {α : Type} {em : α → D} {m : Bool} {vs : List Nat} {fi : FI} {g : Tg} {tt : FT} {te : FE} {s : Ss} {h h1 : Hs} {xs : List α} (p : α → Bool) (F : α → D) (hi : Itr fi s h h1 (xs.map em))
    (hs : ∀ x ∈ xs, ∃ s2, g (em x) (wipeS s vs) h1 = some s2 ∧ tt s2 h1 = .ok (p x) h1 ∧ (p x = true → te s2 h1 = .ok (F x) h1)) : eComp m vs fi g tt te s h = newL m ((xs.filter p).map F) h1 := by
  obtain ⟨it, e1, e2⟩ := hi
  unfold eComp
  rw [e1, R.bind_ok]
  have main : ∀ (ys : List α) (acc : List D), (∀ y ∈ ys, y ∈ xs) → compA g tt te (wipeS s vs) (newL m) (ys.map em) acc h1 = newL m (acc ++ (ys.filter p).map F) h1 := by
    intro ys
    induction ys with
    | nil => intro acc _; simp [compA]
    | cons y ys ih =>
      intro acc hy
      obtain ⟨s2, k1, k2, k3⟩ := hs y (hy y List.mem_cons_self)
      have ih := fun acc => ih acc fun z hz => hy z (List.mem_cons_of_mem _ hz)
      rw [List.map_cons]
      unfold compA stepC
      simp only [k1, k2, x_quiet_ok, R.bind_ok]
      cases hp : p y with
      | true => simp [k3 hp, ih, hp]
      | false => simp [ih, hp]
  have loc : ∀ n, locAt h1 n = some (xs.map em) → ∀ (k i : Nat) (acc : List D), xs.length - i < k → acc.length ≤ i → i ≤ xs.length → compL g tt te (wipeS s vs) n (newL m) k i acc h1 = newL m (acc ++ ((xs.drop i).filter p).map F) h1 := by
    intro n e k
    induction k with
    | zero => intro i acc hm; omega
    | succ k ih =>
      intro i acc hm ha hi
      unfold compL
      rw [e]
      dsimp only
      by_cases hl : i < xs.length
      · have hl2 : (xs.map em)[i]? = some (em xs[i]) := by simp [List.getElem?_eq_getElem hl]
        rw [hl2, List.drop_eq_getElem_cons hl]
        obtain ⟨s2, k1, k2, k3⟩ := hs xs[i] (List.getElem_mem hl)
        dsimp only
        unfold stepC
        simp only [k1, k2, x_quiet_ok, R.bind_ok]
        cases hp : p xs[i] with
        | true =>
          simp only [if_true, k3 hp, x_quiet_ok, R.bind_ok]
          rw [ih (i + 1) _ (by omega) (by simp; omega) hl, List.filter_cons_of_pos hp, List.map_cons]
          simp only [List.append_assoc, List.singleton_append]
        | false =>
          simp only [Bool.false_eq_true, if_false]
          rw [ih (i + 1) _ (by omega) (by omega) hl, List.filter_cons_of_neg (by rw [hp]; decide)]
      · rw [List.getElem?_eq_none (by simp; omega), List.drop_eq_nil_of_le (by omega)]
        simp
  cases it with
  | seq ds =>
    simp only [itemsOf] at e2
    cases e2
    have := main xs [] fun _ h => h
    simpa using this
  | rng lo n =>
    simp only [itemsOf] at e2
    split at e2
    · rename_i hz
      have e3 : rgL lo n = xs.map em := by injection e2
      dsimp only
      rw [if_pos hz, e3]
      have := main xs [] fun _ h => h
      simpa using this
    · cases e2
  | loc n =>
    have el : locAt h1 n = some (xs.map em) := e2
    have := loc n el ((xs.map em).length + 1) 0 [] (by simp) (Nat.le_refl _) (Nat.zero_le _)
    dsimp only
    rw [el]
    simpa using this
@[simp] theorem filt_true {α : Type} (xs : List α) : xs.filter (fun _ => true) = xs := List.filter_eq_self.mpr (by simp)
theorem comp_map {α : Type} {em : α → D} {m : Bool} {vs : List Nat} {fi : FI} {g : Tg} {te : FE} {s : Ss} {h h1 : Hs} {xs : List α} (F : α → D) (hi : Itr fi s h h1 (xs.map em))
    (hs : ∀ x ∈ xs, ∃ s2, g (em x) (wipeS s vs) h1 = some s2 ∧ te s2 h1 = .ok (F x) h1) : eComp m vs fi g tYesF te s h = newL m (xs.map F) h1 := by
  rw [comp_ty (fun _ => true) F hi fun x hx => ?_, filt_true]
  obtain ⟨s2, k1, k2⟩ := hs x hx
  exact ⟨s2, k1, rfl, fun _ => k2⟩
theorem for_tup {f : FE} {g : Tg} {b : FS} {s : Ss} {h h1 : Hs} {xs : List D} (e : f s h = .ok (.tup xs) h1) : sFor (iRow f) g b s h = loopS g b xs s h1 := sFor_seq (by unfold iRow; rw [e]; rfl)
theorem for_lst {f : FE} {g : Tg} {b : FS} {s : Ss} {h h1 : Hs} {xs : List D} (e : f s h = .ok (.lst xs) h1) : sFor (iRow f) g b s h = loopS g b xs s h1 := sFor_seq (by unfold iRow; rw [e]; rfl)
theorem for_rng {f : FA} {g : Tg} {b : FS} {s : Ss} {h h1 : Hs} {n : Int} (e : f s h = .ok [.int n] h1) (h2 : n ≤ 1000000000) (h0 : -1000000000 ≤ n) : sFor (iRng1 f) g b s h = loopS g b ((rgI 0 n.toNat).map D.int) s h1 := by
  have : iRng1 f s h = .ok (.rng 0 n.toNat) h1 := by
    unfold iRng1
    rw [e, R.bind_ok]
    exact if_pos ⟨Int.le_trans (by decide) h0, Int.lt_of_le_of_lt h2 (by decide)⟩
  rw [sFor_rng this, rgL_ints]; rfl
theorem for_rngN {f : FA} {g : Tg} {b : FS} {s : Ss} {h h1 : Hs} {n : Nat} (e : f s h = .ok [.int n] h1) (h2 : n ≤ 1000000000) : sFor (iRng1 f) g b s h = loopS g b ((List.range n).map fun (k : Nat) => .int k) s h1 := by
  rw [for_rng e (by omega) (by omega)]
  simp [rgI, Function.comp_def]
def cutG {α : Type} (xs : List α) (lo hi : Option Int) : List α := (xs.drop (HT.sIx xs.length 0 lo)).take (HT.sIx xs.length xs.length hi - HT.sIx xs.length 0 lo)
theorem cutG_map {α β : Type} (f : α → β) (xs : List α) (lo hi : Option Int) : cutG (xs.map f) lo hi = (cutG xs lo hi).map f := by
  unfold cutG
  simp [List.map_take, List.map_drop]
theorem sIx_pos {n d : Nat} {v : Int} (h : 0 ≤ v) : HT.sIx n d (some v) = min v.toNat n := by
  unfold HT.sIx
  exact if_neg (by omega)
theorem cut_lo {α : Type} {xs : List α} {v : Int} (h : 0 ≤ v) : cutG xs (some v) none = xs.drop v.toNat := by
  unfold cutG
  rw [sIx_pos h, HT.sIx_none]
  by_cases hv : v.toNat ≤ xs.length
  · rw [Nat.min_eq_left hv, List.take_of_length_le (by simp)]
  · rw [List.drop_eq_nil_of_le (by omega), List.drop_eq_nil_of_le (by omega)]; simp
theorem cut_hi {α : Type} {xs : List α} {v : Int} (h : 0 ≤ v) : cutG xs none (some v) = xs.take v.toNat := by
  unfold cutG
  rw [sIx_pos h, HT.sIx_none, List.drop_zero, Nat.sub_zero]
  by_cases hv : v.toNat ≤ xs.length
  · rw [Nat.min_eq_left hv]
  · rw [Nat.min_eq_right (by omega), List.take_of_length_le (Nat.le_refl _), List.take_of_length_le (by omega)]
theorem cut_lohi {α : Type} {xs : List α} {u v : Int} (h : 0 ≤ u) (h2 : 0 ≤ v) : cutG xs (some u) (some v) = (xs.drop u.toNat).take (v.toNat - u.toNat) := by
  unfold cutG
  rw [sIx_pos h, sIx_pos h2]
  by_cases hu : u.toNat ≤ xs.length
  · rw [Nat.min_eq_left hu]
    by_cases hv : v.toNat ≤ xs.length
    · rw [Nat.min_eq_left hv]
    · rw [Nat.min_eq_right (by omega), List.take_of_length_le (by simp), List.take_of_length_le (by simp; omega)]
  · rw [List.drop_eq_nil_of_le (by omega), List.drop_eq_nil_of_le (by omega)]; simp
@[simp] theorem cut_lo0 {α : Type} {xs : List α} : cutG xs (some 0) none = xs := by simp [cut_lo]
@[simp] theorem cut_none {α : Type} {xs : List α} : cutG xs none none = xs := by simp [cutG, HT.sIx_none]
@[simp] theorem cut_lo1 {α : Type} {xs : List α} : cutG xs (some 1) none = xs.drop 1 := cut_lo (by decide)
@[simp] theorem cut_hi1 {α : Type} {xs : List α} : cutG xs none (some 1) = xs.take 1 := cut_hi (by decide)
@[simp] theorem sl_tup {m : Bool} {xs : List D} {lo hi : Option Int} {h : Hs} : slD m (.tup xs) lo hi h = .ok (.tup (cutG xs lo hi)) h := (rfl)
@[simp] theorem sl_lst {m : Bool} {xs : List D} {lo hi : Option Int} {h : Hs} : slD m (.lst xs) lo hi h = newL m (cutG xs lo hi) h := (rfl)
theorem sl_loc {m : Bool} {n : Nat} {xs : List D} {lo hi : Option Int} {h : Hs} (e : locAt h n = some xs) : slD m (.loc n) lo hi h = newL m (cutG xs lo hi) h := by
  show (match lstOf h (.loc n) with | some xs => newL m (cutD xs lo hi) h | none => .bad) = _
  rw [show lstOf h (.loc n) = some xs from e]; rfl
@[simp] theorem add_lst {xs ys : List D} {h : Hs} (hz : xs.length + ys.length ≤ 16777216) : addD (.lst xs) (.lst ys) h = .ok (.lst (xs ++ ys)) h := by
  simp [addD, lstX, hz]
@[simp] theorem add_tup {xs ys : List D} {h : Hs} (hz : xs.length + ys.length ≤ 16777216) : addD (.tup xs) (.tup ys) h = .ok (.tup (xs ++ ys)) h := by
  simp [addD, hz]
@[simp] theorem max_row {ns : List Int} {d : D} {h : Hs} (hr : rowOf h d = some (ns.map D.int)) (h0 : 0 < ns.length) : maxD [d] h = .ok (.int (maxL ns)) h := by
  cases d <;> first | (cases hr; done) | (simp only [maxD]; rw [hr]; simp [h0])
@[simp] theorem min_row {ns : List Int} {d : D} {h : Hs} (hr : rowOf h d = some (ns.map D.int)) (h0 : 0 < ns.length) : minD [d] h = .ok (.int (minL ns)) h := by
  cases d <;> first | (cases hr; done) | (simp only [minD]; rw [hr]; simp [h0])
end WD
namespace WD
open PySem PySem.Spec PyProof.Rows L2
theorem set_same {g : Hs} {r : Nat} {xs : List D} (h : locAt g r = some xs) : g.set r (.lst xs) = g := by
  have h1 := locAt_some h
  have hl := lt_of_get h1
  apply List.ext_getElem?
  intro j
  by_cases hj : r = j
  · subst hj; rw [List.getElem?_set_self hl, h1]
  · rw [List.getElem?_set_ne hj]
theorem app_at {h : Hs} {n : Nat} {xs : List D} {d : D} (e : locAt h n = some xs) (hz : xs.length < 16777216) : appendD (.loc n) [d] h = .ok .non (h.set n (.lst (xs ++ [d]))) := by
  have hz' : xs.length < sizeLine := by simpa using hz
  simp only [appendD, e, if_pos hz']
theorem app_last {g : Hs} {xs : List D} {d : D} (hz : xs.length < 16777216) : appendD (.loc g.length) [d] (g ++ [.lst xs]) = .ok .non (g ++ [.lst (xs ++ [d])]) := by
  rw [app_at locAt_end hz, set_end]
theorem split_last {α : Type} {l : List α} (h : 0 < l.length) : ∃ ds d, l = ds ++ [d] :=
  ⟨l.dropLast, l.getLast (by intro e; subst e; simp at h), (List.dropLast_concat_getLast _).symm⟩
theorem pop_head {ds : List Int} {d : Int} {t : Hs} : popD (.loc 0) [] (.lst ((ds ++ [d]).map D.int) :: t) = .ok (.int d) (.lst (ds.map D.int) :: t) := by
  simp [popD]
@[simp] theorem pop_head' {ds : List Int} {d : Int} {t : Hs} : popD (.loc 0) [] (.lst (ds.map D.int ++ [D.int d]) :: t) = .ok (.int d) (.lst (ds.map D.int) :: t) := by
  have := pop_head (ds := ds) (d := d) (t := t)
  rwa [List.map_append] at this
@[simp] theorem lstOf_head {xs : List D} {t : Hs} : lstOf (.lst xs :: t) (.loc 0) = some xs := (rfl)
@[simp] theorem und_O_ints {n : Nat} {ds : List Int} : (O.lst (ds.map D.int)).und n = true := by simp [O.und]
theorem undL_map {α : Type} {f : α → D} {n : Nat} {xs : List α} (h : ∀ x ∈ xs, (f x).und n = true) : undL n (xs.map f) = true := undL_iff.mpr (by
  intro d hd
  obtain ⟨x, hx, rfl⟩ := List.mem_map.mp hd
  exact h x hx)
theorem ix_mem {h : Hs} {d : D} {xs : List D} {i : Int} (hr : rowOf h d = some xs) (h0 : 0 ≤ i) (h1 : i < xs.length) : ixD d (.int i) h = .ok (xs[i.toNat]'(by omega)) h := x_ix_row hr (atI_in h0 h1)
theorem ix_ints {h : Hs} {d : D} {ns : List Int} {i : Int} (hr : rowOf h d = some (ns.map D.int)) (h0 : 0 ≤ i) (h1 : i < ns.length) : ixD d (.int i) h = .ok (.int (ns.getD i.toNat 0)) h := by
  rw [ix_mem hr h0 (by simpa using h1)]
  simp [List.getD, List.getElem?_eq_getElem (show i.toNat < ns.length by omega)]
@[simp] theorem at2a {g : Hs} {xs ys : List D} : locAt (g ++ [.lst xs, .lst ys]) g.length = some xs := locAt_end
@[simp] theorem at2b {g : Hs} {xs ys : List D} : locAt (g ++ [.lst xs, .lst ys]) (g.length + 1) = some ys := by
  have := locAt_end (g := g ++ [.lst xs]) (xs := ys) (t := [])
  simpa using this
@[simp] theorem set2a {g : Hs} {x y z : O} : (g ++ [x, y]).set g.length z = g ++ [z, y] := set_end
@[simp] theorem set2b {g : Hs} {x y z : O} : (g ++ [x, y]).set (g.length + 1) z = g ++ [x, z] := by
  have := set_end (g := g ++ [x]) (o := y) (x := z) (t := [])
  simpa using this
/-- told apart by == just where they are unlike -/
class EqE {α : Type} (f : α → D) : Prop where
  ex : ∃ (py : α → PyData) (n : Nat), n ≤ 50 ∧ (∀ h m a, n ≤ m → toP h m (f a) = some (py a)) ∧ ∀ a b, PyData.eqv (py a) (py b) = true ↔ a = b
instance : EqE D.int := ⟨PyData.int, 0, by omega, fun h m a _ => toP_int, fun a b => by simp [PyData.eqv]⟩
instance : EqE D.bl := ⟨PyData.bool, 0, by omega, fun h m a _ => toP_bl, fun a b => by cases a <;> cases b <;> simp [PyData.eqv]⟩
theorem eqvAll_iff {α : Type} {py : α → PyData} (hq : ∀ a b, PyData.eqv (py a) (py b) = true ↔ a = b) : ∀ xs ys : List α, PyData.eqvAll (xs.map py) (ys.map py) = true ↔ xs = ys
  | [], [] => by simp [PyData.eqvAll]
  | [], _ :: _ => by simp [PyData.eqvAll]
  | _ :: _, [] => by simp [PyData.eqvAll]
  | x :: xs, y :: ys => by simp [PyData.eqvAll, hq, eqvAll_iff hq xs ys]
class EqS {α : Type} (f : α → D) (k : Nat) : Prop where
  ex : ∃ (py : α → PyData), (∀ h m a, k ≤ m → toP h m (f a) = some (py a)) ∧ ∀ a b, PyData.eqv (py a) (py b) = true ↔ a = b
instance : EqS D.int 0 := ⟨PyData.int, fun h m a _ => toP_int, fun a b => by simp [PyData.eqv]⟩
instance : EqS D.bl 0 := ⟨PyData.bool, fun h m a _ => toP_bl, fun a b => by cases a <;> cases b <;> simp [PyData.eqv]⟩
theorem mapM_map {α : Type} {f : α → D} {py : α → PyData} {h : Hs} {m : Nat} (e : ∀ a, toP h m (f a) = some (py a)) : ∀ xs : List α, (xs.map f).mapM (toP h m) = some (xs.map py)
  | [] => rfl
  | x :: xs => by rw [List.map_cons, List.mapM_cons, e x, mapM_map e xs]; rfl
instance {α : Type} {f : α → D} {k : Nat} [E : EqS f k] : EqS (fun xs : List α => D.tup (xs.map f)) (k + 1) := by
  obtain ⟨py, h1, h2⟩ := E.ex
  refine ⟨fun xs => .tuple (xs.map py), fun h m xs hm => ?_, fun xs ys => by rw [PyData.eqv]; exact eqvAll_iff h2 xs ys⟩
  obtain ⟨m', rfl⟩ : ∃ m', m = m' + 1 := ⟨m - 1, by omega⟩
  exact toP_tup (mapM_map (fun a => h1 h m' a (by omega)) xs)
instance {α : Type} {f : α → D} {k : Nat} [E : EqS f k] : EqS (fun xs : List α => D.lst (xs.map f)) (k + 1) := by
  obtain ⟨py, h1, h2⟩ := E.ex
  refine ⟨fun xs => .list (xs.map py), fun h m xs hm => ?_, fun xs ys => by rw [PyData.eqv]; exact eqvAll_iff h2 xs ys⟩
  obtain ⟨m', rfl⟩ : ∃ m', m = m' + 1 := ⟨m - 1, by omega⟩
  exact toP_lst rfl (mapM_map (fun a => h1 h m' a (by omega)) xs)
theorem eq_of {α : Type} (f : α → D) {k : Nat} [E : EqS f k] (hk : k ≤ 64) {n : Bool} {a b : α} {h : Hs} [dd : Decidable (a = b)] : eqD n (f a) (f b) h = .ok (.bl (if n = true then !decide (a = b) else decide (a = b))) h := by
  obtain ⟨py, h1, h2⟩ := E.ex
  unfold eqD
  rw [h1 h 64 a hk, h1 h 64 b hk]
  have : PyData.eqv (py a) (py b) = decide (a = b) := by
    rw [Bool.eq_iff_iff, h2, decide_eq_true_iff]
  simp only [this]
/-- tuples of ints; of days -/
def iT (ns : List Int) : D := .tup (ns.map D.int)
def dT (r : List (List Int)) : D := .tup (r.map iT)
instance : EqS iT 1 := inferInstanceAs (EqS (fun xs : List Int => D.tup (xs.map D.int)) 1)
instance : EqS dT 2 := inferInstanceAs (EqS (fun xs : List (List Int) => D.tup (xs.map iT)) 2)
@[simp] theorem eq_iT {n : Bool} {a b : List Int} {h : Hs} : eqD n (iT a) (iT b) h = .ok (.bl (if n = true then !decide (a = b) else decide (a = b))) h := eq_of iT (k := 1) (by omega)
@[simp] theorem eq_dT {n : Bool} {a b : List (List Int)} {h : Hs} : eqD n (dT a) (dT b) h = .ok (.bl (if n = true then !decide (a = b) else decide (a = b))) h := eq_of dT (k := 2) (by omega)
@[simp] theorem eq_bl {n : Bool} {a b : Bool} {h : Hs} : eqD n (.bl a) (.bl b) h = .ok (.bl (if n = true then !decide (a = b) else decide (a = b))) h := eq_of D.bl (k := 0) (by omega)
@[simp] theorem row_iT {ns : List Int} {h : Hs} : rowOf h (iT ns) = some (ns.map D.int) := (rfl)
@[simp] theorem row_dT {r : List (List Int)} {h : Hs} : rowOf h (dT r) = some (r.map iT) := (rfl)
@[simp] theorem und_iT {ns : List Int} {n : Nat} : (iT ns).und n = true := by simp [iT]
@[simp] theorem und_dT {ns : List (List Int)} {n : Nat} : (dT ns).und n = true := by
  show (D.tup (ns.map iT)).und n = true
  rw [und_tup]
  exact undL_map fun _ _ => und_iT
@[simp] theorem len_iT {ns : List Int} {h : Hs} : lenD [iT ns] h = .ok (.int ns.length) h := by simp [iT]
@[simp] theorem len_dT {ns : List (List Int)} {h : Hs} : lenD [dT ns] h = .ok (.int ns.length) h := by simp [dT]
@[simp] theorem sl_iT {m : Bool} {xs : List Int} {lo hi : Option Int} {h : Hs} : slD m (iT xs) lo hi h = .ok (iT (cutG xs lo hi)) h := by
  simp [iT, cutG_map]
@[simp] theorem sl_dT {m : Bool} {xs : List (List Int)} {lo hi : Option Int} {h : Hs} : slD m (dT xs) lo hi h = .ok (dT (cutG xs lo hi)) h := by
  simp [dT, cutG_map]
@[simp] theorem add_iT {xs ys : List Int} {h : Hs} (hz : xs.length + ys.length ≤ 16777216) : addD (iT xs) (iT ys) h = .ok (iT (xs ++ ys)) h := by
  simp [iT, hz]
@[simp] theorem add_dT {xs ys : List (List Int)} {h : Hs} (hz : xs.length + ys.length ≤ 16777216) : addD (dT xs) (dT ys) h = .ok (dT (xs ++ ys)) h := by
  simp [dT, hz]
@[simp] theorem isT_iT {ns : List Int} : (iT ns).isT = true := (rfl)
@[simp] theorem isT_dT {ns : List (List Int)} : (dT ns).isT = true := (rfl)
@[simp] theorem lo_iT {ns : List Int} {h : Hs} : lstOf h (iT ns) = none := (rfl)
@[simp] theorem lo_dT {ns : List (List Int)} {h : Hs} : lstOf h (dT ns) = none := (rfl)
/-- still lists of ints; of days -/
def iL (ns : List Int) : D := .lst (ns.map D.int)
def dL (r : List (List Int)) : D := .lst (r.map iT)
@[simp] theorem row_iL {ns : List Int} {h : Hs} : rowOf h (iL ns) = some (ns.map D.int) := (rfl)
@[simp] theorem row_dL {r : List (List Int)} {h : Hs} : rowOf h (dL r) = some (r.map iT) := (rfl)
@[simp] theorem lo_iL {ns : List Int} {h : Hs} : lstOf h (iL ns) = some (ns.map D.int) := (rfl)
@[simp] theorem lo_dL {ns : List (List Int)} {h : Hs} : lstOf h (dL ns) = some (ns.map iT) := (rfl)
@[simp] theorem tuple_iL {ns : List Int} {h : Hs} : tupleD [iL ns] h = .ok (iT ns) h := (rfl)
@[simp] theorem tuple_dL {ns : List (List Int)} {h : Hs} : tupleD [dL ns] h = .ok (dT ns) h := (rfl)
@[simp] theorem tuple_iT {ns : List Int} {h : Hs} : tupleD [iT ns] h = .ok (iT ns) h := (rfl)
@[simp] theorem tuple_dT {ns : List (List Int)} {h : Hs} : tupleD [dT ns] h = .ok (dT ns) h := (rfl)
@[simp] theorem len_iL {ns : List Int} {h : Hs} : lenD [iL ns] h = .ok (.int ns.length) h := by simp [iL]
@[simp] theorem len_dL {ns : List (List Int)} {h : Hs} : lenD [dL ns] h = .ok (.int ns.length) h := by simp [dL]
@[simp] theorem sum_iL {ns : List Int} {h : Hs} : sumD [iL ns] h = .ok (.int ns.sum) h := by simp [iL]
@[simp] theorem und_iL {ns : List Int} {n : Nat} : (iL ns).und n = true := by simp [iL]
@[simp] theorem und_dL {ns : List (List Int)} {n : Nat} : (dL ns).und n = true := by
  show (D.lst (ns.map iT)).und n = true
  rw [und_lst]
  exact undL_map fun _ _ => und_iT
@[simp] theorem isT_iL {ns : List Int} : (iL ns).isT = false := (rfl)
@[simp] theorem isT_dL {ns : List (List Int)} : (dL ns).isT = false := (rfl)
@[simp] theorem sl_iL {xs : List Int} {lo hi : Option Int} {h : Hs} : slD false (iL xs) lo hi h = .ok (iL (cutG xs lo hi)) h := by
  simp [iL, cutG_map]
@[simp] theorem sl_dL {xs : List (List Int)} {lo hi : Option Int} {h : Hs} : slD false (dL xs) lo hi h = .ok (dL (cutG xs lo hi)) h := by
  simp [dL, cutG_map]
@[simp] theorem add_iL {xs ys : List Int} {h : Hs} (hz : xs.length + ys.length ≤ 16777216) : addD (iL xs) (iL ys) h = .ok (iL (xs ++ ys)) h := by
  simp [iL, hz]
@[simp] theorem add_dL {xs ys : List (List Int)} {h : Hs} (hz : xs.length + ys.length ≤ 16777216) : addD (dL xs) (dL ys) h = .ok (dL (xs ++ ys)) h := by
  simp [dL, hz]
instance : EqS iL 1 := inferInstanceAs (EqS (fun xs : List Int => D.lst (xs.map D.int)) 1)
instance : EqS dL 2 := inferInstanceAs (EqS (fun xs : List (List Int) => D.lst (xs.map iT)) 2)
@[simp] theorem eq_iL {n : Bool} {a b : List Int} {h : Hs} : eqD n (iL a) (iL b) h = .ok (.bl (if n = true then !decide (a = b) else decide (a = b))) h := eq_of iL (k := 1) (by omega)
@[simp] theorem eq_dL {n : Bool} {a b : List (List Int)} {h : Hs} : eqD n (dL a) (dL b) h = .ok (.bl (if n = true then !decide (a = b) else decide (a = b))) h := eq_of dL (k := 2) (by omega)
@[simp] theorem eq_iLn {n : Bool} {a : List Int} {h : Hs} : eqD n (iL a) (.lst []) h = .ok (.bl (if n = true then !decide (a = []) else decide (a = []))) h := eq_of iL (k := 1) (b := []) (by omega)
@[simp] theorem eq_dLn {n : Bool} {a : List (List Int)} {h : Hs} : eqD n (dL a) (.lst []) h = .ok (.bl (if n = true then !decide (a = []) else decide (a = []))) h := eq_of dL (k := 2) (b := []) (by omega)
theorem tup_ints {ns : List Int} : D.tup (ns.map D.int) = iT ns := rfl
/-- == with an empty list -/
theorem toP_cons {h : Hs} {n : Nat} {y : D} {ys : List D} {p : PyData} (e : toP h (n + 1) (.lst (y :: ys)) = some p) : ∃ q qs, p = .list (q :: qs) := by
  have e' : ((y :: ys).mapM (toP h n)).map PyData.list = some p := e
  cases em : (y :: ys).mapM (toP h n) with
  | none => rw [em] at e'; cases e'
  | some r =>
    rw [em] at e'
    obtain ⟨a, b, _, _, rfl⟩ := mapM_cons_some em
    cases e'
    exact ⟨a, b, rfl⟩
@[simp] theorem x_eqNil {h : Hs} {ys : List D} : eqD false (.lst ys) (.lst []) h = .ok (.bl ys.isEmpty) h := by
  unfold eqD
  have e0 : toP h 64 (.lst []) = some (.list []) := toP_lst (d := .lst []) (xs := []) rfl rfl
  cases ys with
  | nil => rw [e0]; rfl
  | cons y ys =>
    cases e : toP h 64 (.lst (y :: ys)) with
    | none =>
      rw [e0]
      simp only [x_lx_lst]
      rw [if_pos (by simp)]
      rfl
    | some p =>
      rw [e0]
      obtain ⟨q, qs, rfl⟩ := toP_cons e
      simp [PyData.eqv, PyData.eqvAll]
@[simp] theorem x_neNil {h : Hs} {ys : List D} : eqD true (.lst ys) (.lst []) h = .ok (.bl (!ys.isEmpty)) h := by
  unfold eqD
  have e0 : toP h 64 (.lst []) = some (.list []) := toP_lst (d := .lst []) (xs := []) rfl rfl
  cases ys with
  | nil => rw [e0]; rfl
  | cons y ys =>
    cases e : toP h 64 (.lst (y :: ys)) with
    | none =>
      rw [e0]
      simp only [x_lx_lst]
      rw [if_pos (by simp)]
      rfl
    | some p =>
      rw [e0]
      obtain ⟨q, qs, rfl⟩ := toP_cons e
      simp [PyData.eqv, PyData.eqvAll]
theorem any_intsD {i : Int} : ∀ ns : List Int, ((ns.map D.int).any fun y => eqF y (.int i)) = ns.contains i
  | [] => rfl
  | n :: ns => by
    rw [List.map_cons, List.any_cons, any_intsD ns]
    show ((n == i) || ns.contains i) = _
    rw [List.contains_cons, Bool.beq_comm (a := n)]
theorem flat_ints (ns : List Int) : (ns.map D.int).all flatD = true := by
  simp [flatD]
@[simp] theorem in_ints {n : Bool} {i : Int} {d : D} {ns : List Int} {h : Hs} (hr : rowOf h d = some (ns.map D.int)) : inD n (.int i) d h = .ok (.bl (if n = true then !ns.contains i else ns.contains i)) h := by
  unfold inD
  rw [hr]
  dsimp only
  rw [if_pos ⟨rfl, flat_ints ns⟩, any_intsD]
@[simp] theorem in_iT {n : Bool} {i : Int} {ns : List Int} {h : Hs} : inD n (.int i) (iT ns) h = .ok (.bl (if n = true then !ns.contains i else ns.contains i)) h := in_ints rfl
theorem loopL_still {g : Tg} {b : FS} {n : Nat} {xs : List D} {h : Hs} (P : Ss → Prop) (e : locAt h n = some xs)
    (hb : ∀ x ∈ xs, ∀ s, P s → ∃ s1, g x s h = some s1 ∧ ((∃ s2, b s1 h = .nx s2 h ∧ P s2) ∨ ∃ d h', b s1 h = .rt d h')) : ∀ (m i : Nat) (s : Ss), xs.length - i < m → P s → loopL g b n m i s h = loopS g b (xs.drop i) s h
  | 0, _, _, hm, _ => absurd hm (by omega)
  | m + 1, i, s, hm, hp => by
    unfold loopL
    rw [e]
    dsimp only
    by_cases hl : i < xs.length
    · rw [List.getElem?_eq_getElem hl, List.drop_eq_getElem_cons hl]
      obtain ⟨s1, h1, h2⟩ := hb xs[i] (List.getElem_mem hl) s hp
      dsimp only
      rw [h1]
      rcases h2 with ⟨s2, h2, h3⟩ | ⟨d, h', h2⟩
      · rw [loop_nx h1 h2]
        dsimp only
        rw [h2]
        exact loopL_still P e hb m (i + 1) s2 (by omega) h3
      · rw [loop_rt h1 h2]
        dsimp only
        rw [h2]
        rfl
    · rw [List.getElem?_eq_none (by omega), List.drop_eq_nil_of_le (by omega)]
      rfl
theorem sFor_row {f : FE} {g : Tg} {b : FS} {s : Ss} {h : Hs} {d : D} {xs : List D} (P : Ss → Prop) (ef : f s h = .ok d h) (hr : rowOf h d = some xs) (hp : P s)
    (hb : ∀ x ∈ xs, ∀ s, P s → ∃ s1, g x s h = some s1 ∧ ((∃ s2, b s1 h = .nx s2 h ∧ P s2) ∨ ∃ d h', b s1 h = .rt d h')) : sFor (iRow f) g b s h = loopS g b xs s h := by
  cases d with
  | tup ys => cases hr; exact sFor_seq (by unfold iRow; rw [ef]; rfl)
  | lst ys => cases hr; exact sFor_seq (by unfold iRow; rw [ef]; rfl)
  | scr ys => cases hr; exact sFor_seq (by unfold iRow; rw [ef]; rfl)
  | loc n =>
    have e : locAt h n = some xs := hr
    have ei : iRow f s h = .ok (.loc n) h := by
      unfold iRow
      rw [ef]
      exact if_pos (by rw [e]; rfl)
    rw [sFor_loc ei e, loopL_still P e hb _ 0 s (by omega) hp]
    rfl
  | _ => cases hr
inductive Q where
  | non | bl (b : Bool) | int (i : Int) | str (x : Str) | row (xs : List Q) | dic
def vq (h : Hs) : Nat → D → Option Q
  | _, .non => some .non
  | _, .bl b => some (.bl b)
  | _, .int i => some (.int i)
  | _, .str x => some (.str x)
  | _, .dic _ _ => some .dic
  | 0, _ => none
  | n + 1, d => (rowOf h d).bind fun xs => (xs.mapM (vq h n)).map Q.row
@[simp] theorem vq_int {h : Hs} {n : Nat} {i : Int} : vq h n (.int i) = some (.int i) := by cases n <;> rfl
@[simp] theorem vq_non {h : Hs} {n : Nat} : vq h n .non = some .non := by cases n <;> rfl
@[simp] theorem vq_bl {h : Hs} {n : Nat} {i : Bool} : vq h n (.bl i) = some (.bl i) := by cases n <;> rfl
@[simp] theorem vq_str {h : Hs} {n : Nat} {i : Str} : vq h n (.str i) = some (.str i) := by cases n <;> rfl
@[simp] theorem vq_dic {h : Hs} {n : Nat} {k : List Key} {i : List D} : vq h n (.dic k i) = some .dic := by cases n <;> rfl
theorem vq_row {h : Hs} {n : Nat} {d : D} {xs : List D} (hr : rowOf h d = some xs) : vq h (n + 1) d = (xs.mapM (vq h n)).map Q.row := by
  cases d <;> first | (cases hr; done) | (simp only [vq]; rw [hr]; rfl)
/-- what a view tells of a thing -/
theorem vq_inv {h : Hs} {n : Nat} {d : D} {q : Q} (e : vq h n d = some q) : (rowOf h d = none ∧ (match q with | .non => d = .non | .bl b => d = .bl b | .int i => d = .int i | .str x => d = .str x | .dic => ∃ k xs, d = .dic k xs | .row _ => False)) ∨
    ∃ m xs qs, n = m + 1 ∧ rowOf h d = some xs ∧ xs.mapM (vq h m) = some qs ∧ q = .row qs := by
  cases d with
  | non => rw [vq_non] at e; cases e; exact .inl ⟨rfl, rfl⟩
  | bl b => rw [vq_bl] at e; cases e; exact .inl ⟨rfl, rfl⟩
  | int i => rw [vq_int] at e; cases e; exact .inl ⟨rfl, rfl⟩
  | str x => rw [vq_str] at e; cases e; exact .inl ⟨rfl, rfl⟩
  | dic k xs => rw [vq_dic] at e; cases e; exact .inl ⟨rfl, k, xs, rfl⟩
  | _ =>
    cases n with
    | zero => cases e
    | succ m =>
      simp only [vq] at e
      cases hr : rowOf h _ with
      | none => rw [hr] at e; cases e
      | some xs =>
        rw [hr] at e
        simp only [Option.bind_some] at e
        cases em : xs.mapM (vq h m) with
        | none => rw [em] at e; cases e
        | some qs => rw [em] at e; cases e; exact .inr ⟨m, xs, qs, rfl, rfl, em, rfl⟩
mutual
def qD : Q → D
  | .non => .non
  | .bl b => .bl b
  | .int i => .int i
  | .str x => .str x
  | .row xs => .tup (qDL xs)
  | .dic => .non
def qDL : List Q → List D
  | [] => []
  | x :: xs => qD x :: qDL xs
end
mutual
def Q.nd : Q → Bool
  | .row xs => ndL xs
  | .dic => false
  | .str x => PyData.strOk x
  | _ => true
def ndL : List Q → Bool
  | [] => true
  | x :: xs => x.nd && ndL xs
end
mutual
theorem und_qD (n : Nat) : ∀ q : Q, (qD q).und n = true
  | .non => rfl
  | .bl _ => rfl
  | .int _ => rfl
  | .str _ => rfl
  | .dic => rfl
  | .row xs => by simp only [qD, und_tup]; exact und_qDL n xs
theorem und_qDL (n : Nat) : ∀ qs : List Q, undL n (qDL qs) = true
  | [] => rfl
  | x :: xs => by simp only [qDL, undL_cons, und_qD n x, und_qDL n xs, Bool.and_self]
end
theorem mapM_len {α β : Type} {f : α → Option β} : ∀ {xs : List α} {ys : List β}, xs.mapM f = some ys → xs.length = ys.length
  | [], ys, e => by cases e; rfl
  | x :: xs, ys, e => by
    obtain ⟨y, ys', h1, h2, rfl⟩ := mapM_cons_some e
    simp [mapM_len h2]
theorem mapM_mem {α β : Type} {f : α → Option β} : ∀ {xs : List α} {ys : List β}, xs.mapM f = some ys → ∀ x ∈ xs, ∃ y ∈ ys, f x = some y
  | [], ys, e, x, hx => nomatch hx
  | x :: xs, ys, e, z, hz => by
    obtain ⟨y, ys', h1, h2, rfl⟩ := mapM_cons_some e
    rcases List.mem_cons.mp hz with rfl | hz
    · exact ⟨y, List.mem_cons_self, h1⟩
    · obtain ⟨w, hw, e'⟩ := mapM_mem h2 z hz
      exact ⟨w, List.mem_cons_of_mem _ hw, e'⟩
def dayQ (d : List Int) : Q := .row (d.map Q.int)
def ringQ (r : List (List Int)) : Q := .row (r.map dayQ)
theorem mapM_ints_vq {h : Hs} {n : Nat} : ∀ {xs : List D} {ns : List Int}, xs.mapM (vq h n) = some (ns.map Q.int) → xs = ns.map D.int
  | [], [], _ => rfl
  | [], _ :: _, e => by cases e
  | x :: xs, ns, e => by
    obtain ⟨y, ys, h1, h2, h3⟩ := mapM_cons_some e
    cases ns with
    | nil => cases h3
    | cons n ns =>
      simp only [List.map_cons, List.cons.injEq] at h3
      obtain ⟨rfl, rfl⟩ := h3
      rw [mapM_ints_vq h2]
      rcases vq_inv h1 with ⟨_, h4⟩ | ⟨_, _, _, _, _, _, h4⟩
      · cases h4; rfl
      · cases h4
theorem dayQ_inv {h : Hs} {n : Nat} {x : D} {d : List Int} (e : vq h n x = some (dayQ d)) : ∃ m, n = m + 1 ∧ rowOf h x = some (d.map D.int) := by
  rcases vq_inv e with ⟨_, h4⟩ | ⟨m, xs, qs, h1, h2, h3, h4⟩
  · exact h4.elim
  · simp only [dayQ, Q.row.injEq] at h4
    subst h4
    exact ⟨m, h1, by rw [h2, mapM_ints_vq h3]⟩
@[simp] theorem vq_iT {h : Hs} {n : Nat} {d : List Int} : vq h (n + 1) (iT d) = some (dayQ d) := by
  rw [vq_row row_iT]
  have : ∀ d : List Int, (d.map D.int).mapM (vq h n) = some (d.map Q.int) := fun d => by
    induction d with
    | nil => rfl
    | cons a d ih => rw [List.map_cons, List.mapM_cons, vq_int, ih]; rfl
  rw [this]; rfl
@[simp] theorem vq_dT {h : Hs} {n : Nat} {r : List (List Int)} : vq h (n + 2) (dT r) = some (ringQ r) := by
  rw [vq_row row_dT]
  have : ∀ r : List (List Int), (r.map iT).mapM (vq h (n + 1)) = some (r.map dayQ) := fun r => by
    induction r with
    | nil => rfl
    | cons a d ih => rw [List.map_cons, List.mapM_cons, vq_iT, ih]; rfl
  rw [this]; rfl
theorem ndL_mem : ∀ {qs : List Q} {q : Q}, ndL qs = true → q ∈ qs → q.nd = true
  | [], _, _, hq => nomatch hq
  | x :: xs, q, h, hq => by
    simp only [ndL, Bool.and_eq_true] at h
    rcases List.mem_cons.mp hq with rfl | hq
    · exact h.1
    · exact ndL_mem h.2 hq
theorem mapM_qD {h : Hs} {n : Nat} : ∀ {xs : List D} {qs : List Q}, xs.mapM (vq h n) = some qs → xs.map (fun x => qD ((vq h n x).getD .non)) = qDL qs
  | [], qs, e => by cases e; rfl
  | x :: xs, qs, e => by
    obtain ⟨y, ys, h1, h2, rfl⟩ := mapM_cons_some e
    simp [qDL, h1, mapM_qD h2]
theorem comp_inv {m : Bool} {vs : List Nat} {fi : FI} {g : Tg} {tt : FT} {te : FE} {s : Ss} {h h1 : Hs} {xs : List D} (I : List D → List D → Hs → Prop) (hi : Itr fi s h h1 xs) (hl : ∀ n, fi s h ≠ .ok (.loc n) h1) (h0 : I [] xs h1)
    (hs : ∀ acc x rest h, I acc (x :: rest) h → ∃ s2, g x (wipeS s vs) h = some s2 ∧ ((tt s2 h = .ok false h ∧ I acc rest h) ∨ (tt s2 h = .ok true h ∧ ∃ y h', te s2 h = .ok y h' ∧ I (acc ++ [y]) rest h'))) :
    ∃ acc h', I acc [] h' ∧ eComp m vs fi g tt te s h = newL m acc h' := by
  obtain ⟨it, e1, e2⟩ := hi
  have main : ∀ (ys acc : List D) (h : Hs), I acc ys h → ∃ acc' h', I acc' [] h' ∧ compA g tt te (wipeS s vs) (newL m) ys acc h = newL m acc' h' := by
    intro ys
    induction ys with
    | nil => intro acc h hI; exact ⟨acc, h, hI, rfl⟩
    | cons y ys ih =>
      intro acc h hI
      obtain ⟨s2, k1, k2⟩ := hs acc y ys h hI
      rcases k2 with ⟨k2, k3⟩ | ⟨k2, z, h', k3, k4⟩
      · obtain ⟨acc', h', a1, a2⟩ := ih acc h k3
        refine ⟨acc', h', a1, ?_⟩
        rw [← a2]
        conv => lhs; unfold compA stepC
        simp only [k1, k2, x_quiet_ok, R.bind_ok, Bool.false_eq_true, if_false]
      · obtain ⟨acc', h'', a1, a2⟩ := ih (acc ++ [z]) h' k4
        refine ⟨acc', h'', a1, ?_⟩
        rw [← a2]
        conv => lhs; unfold compA stepC
        simp only [k1, k2, k3, x_quiet_ok, R.bind_ok, if_true]
  obtain ⟨acc', h', a1, a2⟩ := main xs [] h1 h0
  refine ⟨acc', h', a1, ?_⟩
  unfold eComp
  rw [e1, R.bind_ok]
  cases it with
  | seq ds => cases e2; exact a2
  | rng lo n =>
    simp only [itemsOf] at e2
    split at e2
    · rename_i hz
      have e3 : rgL lo n = xs := by injection e2
      dsimp only
      rw [if_pos hz, e3]
      exact a2
    · cases e2
  | loc n => exact absurd e1 (hl n)
theorem mul_lst {xs : List D} {k : Int} {h : Hs} (h0 : -1000000 ≤ k) (h1 : xs.length * k.toNat ≤ 16777216) (h2 : k ≤ 1000000000) : mulD (.lst xs) (.int k) h = .ok (.lst (List.replicate k.toNat xs).flatten) h := by
  have : repOk k xs.length := ⟨by omega, by omega, h1⟩
  unfold mulD
  exact if_pos this
structure LiveAt (h : Hs) (b : Nat) (r : List (List Int)) : Prop where
  day : ∀ j (hj : j < r.length), locAt h (b + j) = some ((r[j]).map D.int)
  all : locAt h (b + r.length) = some ((List.range r.length).map fun i => .loc (b + i))
theorem LiveAt.app {h t : Hs} {b : Nat} {r : List (List Int)} (x : LiveAt h b r) : LiveAt (h ++ t) b r :=
  ⟨fun j hj => by rw [locAt_app (locAt_lt (x.day j hj))]; exact x.day j hj, by rw [locAt_app (locAt_lt x.all)]; exact x.all⟩
theorem eq_lists {α : Type} (f : α → D) {k : Nat} [E : EqS f k] (hk : k ≤ 63) {n : Bool} {d e : D} {as bs : List α} {h : Hs} [dd : Decidable (as = bs)] (h1 : lstOf h d = some (as.map f)) (h2 : lstOf h e = some (bs.map f)) : eqD n d e h = .ok (.bl (if n = true then !decide (as = bs) else decide (as = bs))) h := by
  obtain ⟨py, k1, k2⟩ := E.ex
  unfold eqD
  rw [toP_lst (n := 63) h1 (mapM_map (fun a => k1 h 63 a hk) as), toP_lst (n := 63) h2 (mapM_map (fun a => k1 h 63 a hk) bs)]
  have : PyData.eqv (.list (as.map py)) (.list (bs.map py)) = decide (as = bs) := by
    rw [Bool.eq_iff_iff, PyData.eqv, decide_eq_true_iff]
    exact eqvAll_iff k2 as bs
  simp only [this]
mutual
def qL : Q → PyData
  | .non => .none
  | .bl b => .bool b
  | .int i => .int i
  | .str x => .str x
  | .row xs => .list (qLL xs)
  | .dic => .none
def qLL : List Q → List PyData
  | [] => []
  | x :: xs => qL x :: qLL xs
end
mutual
theorem eqv_qL : ∀ q : Q, PyData.eqv (qL q) (qL q) = true
  | .non => by simp [qL, PyData.eqv]
  | .bl b => by simp [qL, PyData.eqv]
  | .int i => by simp [qL, PyData.eqv]
  | .str x => by simp [qL, PyData.eqv]
  | .dic => by simp [qL, PyData.eqv]
  | .row xs => by rw [qL, PyData.eqv]; exact eqv_qLL xs
theorem eqv_qLL : ∀ qs : List Q, PyData.eqvAll (qLL qs) (qLL qs) = true
  | [] => by simp [qLL, PyData.eqvAll]
  | x :: xs => by rw [qLL, PyData.eqvAll, eqv_qL x, eqv_qLL xs]; rfl
end
/-- a copy as lists: it hangs on the places from b on alone -/
def LCopy (b : Nat) (H : Hs) (n : Nat) (d : D) (q : Q) : Prop := ∀ h' : Hs, (∀ k, b ≤ k → k < H.length → h'[k]? = H[k]?) → toP h' n d = some (qL q) ∧ vq h' n d = some q
theorem LCopy.app {b : Nat} {h t : Hs} {n : Nat} {d : D} {q : Q} (x : LCopy b h n d q) : LCopy b (h ++ t) n d q := fun h' e => x h' fun k h1 h2 => by
  rw [e k h1 (by rw [List.length_append]; omega), List.getElem?_append_left h2]
theorem LCopy.from {b b' : Nat} {h : Hs} {n : Nat} {d : D} {q : Q} (x : LCopy b h n d q) (hb : b' ≤ b) : LCopy b' h n d q := fun h' e => x h' fun k h1 h2 => e k (by omega) h2
theorem x_tupL {h : Hs} {n : Nat} {xs : List D} (e : locAt h n = some xs) : tupleD [.loc n] h = .ok (.tup xs) h := x_tuple (d := .loc n) e
@[simp] theorem list_iT {m : Bool} {ns : List Int} {h : Hs} : listD m [iT ns] h = newL m (ns.map D.int) h := (rfl)
@[simp] theorem list_dT {m : Bool} {ns : List (List Int)} {h : Hs} : listD m [dT ns] h = newL m (ns.map iT) h := (rfl)
theorem vq_tup2 {h : Hs} {n : Nat} {x y : D} {a b : Q} (hx : vq h n x = some a) (hy : vq h n y = some b) : vq h (n + 1) (.tup [x, y]) = some (.row [a, b]) := by
  rw [vq_row (xs := [x, y]) rfl, List.mapM_cons, hx, List.mapM_cons, hy]; rfl
@[simp] theorem vq_iL {h : Hs} {n : Nat} {d : List Int} : vq h (n + 1) (iL d) = some (dayQ d) := by
  have := vq_iT (h := h) (n := n) (d := d)
  rw [vq_row row_iT] at this
  rw [vq_row row_iL]; exact this
end WD
namespace WD
open PySem PySem.Spec PyProof.Rows L2
section
variable {h : Hs} {d : D}
open Classical in
theorem x_shl {i j : Int} : shlD (.int i) (.int j) h = if powOk i j then .ok (.int (i * 2 ^ j.toNat)) h else .bad := (rfl)
@[simp] theorem x_sl1 {i j : Int} (h0 : 0 ≤ j) (h1 : j ≤ 1000000) (h2 : -18446744073709551616 < i) (h3 : i < 18446744073709551616) : shlD (.int i) (.int j) h = .ok (.int (i * 2 ^ j.toNat)) h := by
  rw [x_shl, if_pos ⟨h0, h1, by omega⟩]
@[simp] theorem x_shr {i j : Int} (h0 : 0 ≤ j) : shrD (.int i) (.int j) h = .ok (.int (i / 2 ^ j.toNat)) h := if_pos h0
@[simp] theorem x_abs {i : Int} : absD [.int i] h = .ok (.int (if i < 0 then -i else i)) h := (rfl)
theorem x_sorted_ints {m : Bool} {ns : List Int} (hr : rowOf h d = some (ns.map D.int)) : sortedD m [d] h = newL m ((sortI ns).map D.int) h := by
  simp only [sortedD, hr, intsOf_map]
theorem x_sorted_prs {m : Bool} {p : Int × Int} {ps : List (Int × Int)} (hr : lstOf h d = some ((p :: ps).map prD)) : sortedD m [d] h = newL m ((sortP (p :: ps)).map prD) h := by
  have hr2 : rowOf h d = some ((p :: ps).map prD) := by
    cases d <;> first | (cases hr; done) | exact hr
  have hi : intsOf ((p :: ps).map prD) = none := rfl
  simp only [sortedD, hr, hr2, hi, prsOf_map]
theorem x_sorted_prs0 {m : Bool} {ps : List (Int × Int)} (hr : lstOf h d = some (ps.map prD)) : sortedD m [d] h = newL m ((sortP ps).map prD) h := by
  cases ps with
  | cons p ps => exact x_sorted_prs hr
  | nil =>
    have hr2 : rowOf h d = some (([] : List Int).map D.int) := by
      cases d <;> first | (cases hr; done) | exact hr
    rw [x_sorted_ints hr2]; rfl
end
end WD
namespace WD
open PySem PySem.Spec PyProof.Rows L2
theorem walk_ofXG {l : PySem.W.OpenLaw} {n k : Nat} {q : Program} {loose : List Str} {XP : (Str → Option Value) → Heap → Prop} {YP : World → Heap → Prop} {d : DefRec} {x : Str}
    (most : l.most = some n) (fits : n ≤ sizeLine) (nodef : d.params.defaults = []) (rm : RoomG k callerA)
    (F : ∀ (w : World) (mg : Str → Option Value) (fa : Addr) (h : Heap), YP w h → h.Ns mainGlobals mg → mg d.name = some (.ref fa) →
      ∃ (K : PySem.W.Frag) (fd : FuncData) (sp : Sp), K.In h ∧ (∀ (s : Shared) (u : Value), BindsTo s fd ⟨[u], []⟩ [(x, u)]) ∧
        (∀ (H : Hp) (a : Addr) (ns : List Int), ns.length ≤ n → Only H → SqL K H a (ns.map V.int) → sp [.ref a] H (fun v _ => v = .bl true) fun _ _ _ => False) ∧
        ∀ base : Heap, K.In base → base.Ns mainGlobals mg → FnG l.prog w K mg base k fa fd [x] sp) :
    PySem.W.WalkO q loose XP YP l.row.toRowW d [] (fun f vs => PySem.call f vs) :=
  Att.attach_call most nodef fun w s0 st mg mb fa o pm cd doc a items ns G Y _ _ _ hm scr areI le gn =>
    have ⟨_, _, _, kin, bnd, told, ok⟩ := F w mg fa _ Y G.T.g hm
    headG kin G.T.g G.T.b G.T.builtins G.T.nolimit gn scr areI (Nat.le_trans le fits) rm ok bnd fun H onl sq => told H a ns le onl sq
end WD
namespace WD
open PySem PySem.Spec PyProof.Rows L2
@[simp] noncomputable def t_is_whole_0 : FS := (sRet (eAndF (eIsi ["int"] (eVar 0)) (eAndF (eNotF (eIsi ["bool"] (eVar 0))) (eChain leD leD (eVar 1) (eVar 0) (eVar 2)))))
noncomputable def b_is_whole : FS :=
  t_is_whole_0
noncomputable def F_is_whole : List D → Hs → R D := runF 3 3 .trunc b_is_whole
@[simp] noncomputable def t_is_row_0 : FS := (sRet (eIsi ["list", "tuple"] (eVar 0)))
noncomputable def b_is_row : FS :=
  t_is_row_0
noncomputable def F_is_row : List D → Hs → R D := runF 1 1 .trunc b_is_row
@[simp] noncomputable def t_is_rising_0a_0 : FS := (sRet (eC (.bl false)))
@[simp] noncomputable def t_is_rising_0 : FS := (sIf (tNotF (tV (eCall 1 F_is_row (aCons (eVar 0) aNil)))) t_is_rising_0a_0 sNext)
@[simp] noncomputable def t_is_rising_1 : FS := (sSet 3 (eBin subD (eVar 1) (eC (.int 1))))
@[simp] noncomputable def t_is_rising_2_0a_0 : FS := (sRet (eC (.bl false)))
@[simp] noncomputable def t_is_rising_2_0 : FS := (sIf (tNotF (tV (eCall 3 F_is_whole (aCons (eVar 4) (aCons (eBin addD (eVar 3) (eC (.int 1))) (aCons (eVar 2) aNil)))))) t_is_rising_2_0a_0 sNext)
@[simp] noncomputable def t_is_rising_2_1 : FS := (sSet 3 (eVar 4))
noncomputable def k_is_rising_2 : FS := (sFa [4] (sSeq t_is_rising_2_0 t_is_rising_2_1))
@[simp] theorem k_is_rising_2_ap (s : Ss) (h : Hs) : k_is_rising_2 s h = (sFa [4] (sSeq t_is_rising_2_0 t_is_rising_2_1)) s h := (rfl)
@[simp] noncomputable def t_is_rising_2 : FS := (sFa [3, 4] (sFb [4] (sFor (iRow (eVar 0)) (gVar 4) k_is_rising_2)))
@[simp] noncomputable def t_is_rising_3 : FS := (sRet (eC (.bl true)))
noncomputable def b_is_rising : FS :=
  (sSeq t_is_rising_0 (sSeq t_is_rising_1 (sSeq t_is_rising_2 t_is_rising_3)))
noncomputable def F_is_rising : List D → Hs → R D := runF 3 5 .trunc b_is_rising
noncomputable def b_told_rows (self : List D → Hs → R D) : FS :=
  (sSeq (sIf (tV (eCall 1 F_is_row (aCons (eVar 0) aNil))) (sRet (eB tupleD (aCons (eComp false [1] (iRow (eVar 0)) (gVar 1) tYesF (eCall 1 self (aCons (eVar 1) aNil))) aNil))) sNext) (sRet (eVar 0)))
noncomputable def F_told_rows : Nat → List D → Hs → R D
  | 0 => fun _ _ => .bad
  | n + 1 => runF 1 2 .trunc (b_told_rows (F_told_rows n))
@[simp] noncomputable def t_is_numbers_0a_0 : FS := (sRet (eC (.bl false)))
@[simp] noncomputable def t_is_numbers_0 : FS := (sIf (tOrF (tNotF (tV (eCall 1 F_is_row (aCons (eVar 0) aNil)))) (tV (eBin gtD (eB lenD (aCons (eVar 0) aNil)) (eC (.int 8))))) t_is_numbers_0a_0 sNext)
@[simp] noncomputable def t_is_numbers_1 : FS := (sRet (eBin (eqD false) (eComp false [1] (iRow (eVar 0)) (gVar 1) (tNotF (tV (eCall 3 F_is_whole (aCons (eVar 1) (aCons (eC (.int 1)) (aCons (eC (.int 40)) aNil)))))) (eVar 1)) (eLst false aNil)))
noncomputable def b_is_numbers : FS :=
  (sSeq t_is_numbers_0 t_is_numbers_1)
noncomputable def F_is_numbers : List D → Hs → R D := runF 1 2 .trunc b_is_numbers
@[simp] noncomputable def t_asked_numbers_0a_0 : FS := (sRaise "NoNumbers")
@[simp] noncomputable def t_asked_numbers_0 : FS := (sIf (tNotF (tV (eCall 1 F_is_numbers (aCons (eVar 0) aNil)))) t_asked_numbers_0a_0 sNext)
@[simp] noncomputable def t_asked_numbers_1 : FS := (sRet (eB tupleD (aCons (eVar 0) aNil)))
noncomputable def b_asked_numbers : FS :=
  (sSeq t_asked_numbers_0 t_asked_numbers_1)
noncomputable def F_asked_numbers : List D → Hs → R D := runF 1 1 .trunc b_asked_numbers
@[simp] noncomputable def t_is_off_0a_0 : FS := (sRet (eC (.bl false)))
@[simp] noncomputable def t_is_off_0 : FS := (sIf (tOrF (tNotF (tV (eCall 1 F_is_row (aCons (eVar 0) aNil)))) (tOrF (tV (eBin ltD (eB lenD (aCons (eVar 0) aNil)) (eC (.int 1)))) (tV (eBin gtD (eB lenD (aCons (eVar 0) aNil)) (eC (.int 7)))))) t_is_off_0a_0 sNext)
@[simp] noncomputable def t_is_off_1 : FS := (sRet (eBin (eqD false) (eComp false [1] (iRow (eVar 0)) (gVar 1) (tNotF (tV (eCall 3 F_is_whole (aCons (eVar 1) (aCons (eC (.int 0)) (aCons (eC (.int 1)) aNil)))))) (eVar 1)) (eLst false aNil)))
noncomputable def b_is_off : FS :=
  (sSeq t_is_off_0 t_is_off_1)
noncomputable def F_is_off : List D → Hs → R D := runF 1 2 .trunc b_is_off
@[simp] noncomputable def t_is_pair_0 : FS := (sRet (eAndF (eCall 3 F_is_rising (aCons (eVar 0) (aCons (eC (.int 0)) (aCons (eBin subD (eVar 1) (eC (.int 1))) aNil)))) (eBin (eqD false) (eB lenD (aCons (eVar 0) aNil)) (eC (.int 2)))))
noncomputable def b_is_pair : FS :=
  t_is_pair_0
noncomputable def F_is_pair : List D → Hs → R D := runF 2 2 .trunc b_is_pair
@[simp] noncomputable def t_are_pairs_0a_0 : FS := (sRet (eC (.bl false)))
@[simp] noncomputable def t_are_pairs_0 : FS := (sIf (tOrF (tNotF (tV (eCall 1 F_is_row (aCons (eVar 0) aNil)))) (tV (eBin (eqD true) (eComp false [2] (iRow (eVar 0)) (gVar 2) (tNotF (tV (eCall 2 F_is_pair (aCons (eVar 2) (aCons (eVar 1) aNil))))) (eVar 2)) (eLst false aNil)))) t_are_pairs_0a_0 sNext)
@[simp] noncomputable def t_are_pairs_1 : FS := (sSet 3 (eCall 1 (F_told_rows 45) (aCons (eVar 0) aNil)))
@[simp] noncomputable def t_are_pairs_2 : FS := (sRet (eBin (eqD false) (eComp false [4] (iRng2 (aCons (eC (.int 1)) (aCons (eB lenD (aCons (eVar 3) aNil)) aNil))) (gVar 4) (tV (eBin geT (eBin ixD (eVar 3) (eBin subD (eVar 4) (eC (.int 1)))) (eBin ixD (eVar 3) (eVar 4)))) (eVar 4)) (eLst false aNil)))
noncomputable def b_are_pairs : FS :=
  (sSeq t_are_pairs_0 (sSeq t_are_pairs_1 t_are_pairs_2))
noncomputable def F_are_pairs : List D → Hs → R D := runF 2 5 .trunc b_are_pairs
@[simp] noncomputable def t_is_task_0a_0 : FS := (sRet (eC (.bl false)))
@[simp] noncomputable def t_is_task_0 : FS := (sIf (tOrF (tNotF (tV (eCall 1 F_is_row (aCons (eVar 0) aNil)))) (tV (eBin (eqD true) (eB lenD (aCons (eVar 0) aNil)) (eC (.int 5))))) t_is_task_0a_0 sNext)
@[simp] noncomputable def t_is_task_1 : FS := (sUn (gUn [(gVar 1), (gVar 2), (gVar 3), (gVar 4), (gVar 5)]) (eVar 0))
@[simp] noncomputable def t_is_task_2a_0 : FS := (sRet (eC (.bl false)))
@[simp] noncomputable def t_is_task_2 : FS := (sIf (tOrF (tNotF (tV (eCall 1 F_is_numbers (aCons (eVar 1) aNil)))) (tOrF (tNotF (tV (eCall 3 F_is_whole (aCons (eVar 2) (aCons (eC (.int 1)) (aCons (eC (.int 2)) aNil)))))) (tNotF (tV (eCall 1 F_is_off (aCons (eVar 3) aNil)))))) t_is_task_2a_0 sNext)
@[simp] noncomputable def t_is_task_3 : FS := (sRet (eAndF (eCall 3 F_is_rising (aCons (eVar 4) (aCons (eC (.int 0)) (aCons (eBin subD (eB lenD (aCons (eVar 1) aNil)) (eC (.int 1))) aNil)))) (eCall 2 F_are_pairs (aCons (eVar 5) (aCons (eB lenD (aCons (eVar 1) aNil)) aNil)))))
noncomputable def b_is_task : FS :=
  (sSeq t_is_task_0 (sSeq t_is_task_1 (sSeq t_is_task_2 t_is_task_3)))
noncomputable def F_is_task : List D → Hs → R D := runF 1 6 .trunc b_is_task
@[simp] noncomputable def t_plain_0 : FS := (sRet (eTup (aCons (eCall 1 F_asked_numbers (aCons (eVar 0) aNil)) (aCons (eC (.int 1)) (aCons (eTup (aCons (eC (.int 0)) aNil)) (aCons (eTup aNil) (aCons (eTup aNil) aNil)))))))
noncomputable def b_plain : FS :=
  t_plain_0
noncomputable def F_plain : List D → Hs → R D := runF 1 1 .trunc b_plain
@[simp] noncomputable def t__law_cell_0a_0 : FS := (sRet (eBin ixD (eVar 0) (eVar 1)))
@[simp] noncomputable def t__law_cell_0 : FS := (sIf (tV (eBin ltD (eVar 1) (eB lenD (aCons (eVar 0) aNil)))) t__law_cell_0a_0 sNext)
@[simp] noncomputable def t__law_cell_1 : FS := (sSet 2 (eBin addD (eC (.int 70853)) (eBin mulD (eBin mulD (eC (.int 1013)) (eVar 1)) (eVar 1))))
@[simp] noncomputable def t__law_cell_2a_0 : FS := (sSet 2 (eBin addD (eVar 2) (eBin mulD (eBin modD (eBin ixD (eVar 0) (eC (.int 0))) (eC (.int 100003))) (eBin addD (eBin mulD (eC (.int 2)) (eVar 1)) (eC (.int 3))))))
@[simp] noncomputable def t__law_cell_2 : FS := (sIf (tV (eBin gtD (eB lenD (aCons (eVar 0) aNil)) (eC (.int 0)))) t__law_cell_2a_0 sNext)
@[simp] noncomputable def t__law_cell_3 : FS := (sRet (eVar 2))
noncomputable def b__law_cell : FS :=
  (sSeq t__law_cell_0 (sSeq t__law_cell_1 (sSeq t__law_cell_2 t__law_cell_3)))
noncomputable def F__law_cell : List D → Hs → R D := runF 2 3 .trunc b__law_cell
@[simp] noncomputable def t__law_draws_0 : FS := (sSet 3 (eLst true aNil))
@[simp] noncomputable def t__law_draws_1 : FS := (sSet 4 (eB maxD (aCons (eC (.int 0)) (aCons (eCall 2 F__law_cell (aCons (eVar 0) (aCons (eVar 1) aNil))) aNil))))
@[simp] noncomputable def t__law_draws_2a_0_0 : FS := (sExpr (eML appendD (eVar 3) (aCons (eBin modD (eVar 4) (eC (.int 10000))) aNil)))
@[simp] noncomputable def t__law_draws_2a_0_1 : FS := (sSet 4 (eBin fdivD (eVar 4) (eC (.int 10000))))
noncomputable def k__law_draws_2a_0 : FS := (sFa [5] (sSeq t__law_draws_2a_0_0 t__law_draws_2a_0_1))
@[simp] theorem k__law_draws_2a_0_ap (s : Ss) (h : Hs) : k__law_draws_2a_0 s h = (sFa [5] (sSeq t__law_draws_2a_0_0 t__law_draws_2a_0_1)) s h := (rfl)
@[simp] noncomputable def t__law_draws_2a_0 : FS := (sFa [4, 5] (sFb [5] (sFor (iRng1 (aCons (eVar 2) aNil)) (gVar 5) k__law_draws_2a_0)))
@[simp] noncomputable def t__law_draws_2a_1 : FS := (sRet (eLstRev true (eVar 3)))
@[simp] noncomputable def t__law_draws_2 : FS := (sIf (tV (eBin geD (eVar 4) (eBin powD (eC (.int 10)) (eC (.int 18))))) (sSeq t__law_draws_2a_0 t__law_draws_2a_1) sNext)
@[simp] noncomputable def t__law_draws_3 : FS := (sSet 6 (eBin modD (eBin mulD (eBin modD (eVar 4) (eC (.int 2147483647))) (eC (.int 48271))) (eC (.int 2147483647))))
@[simp] noncomputable def t__law_draws_4_0 : FS := (sSet 6 (eBin modD (eBin addD (eBin addD (eBin addD (eBin mulD (eVar 6) (eC (.int 48271))) (eCall 2 F__law_cell (aCons (eVar 0) (aCons (eBin addD (eBin addD (eVar 1) (eC (.int 1))) (eBin modD (eVar 5) (eC (.int 30)))) aNil)))) (eBin mulD (eVar 5) (eVar 5))) (eC (.int 7))) (eC (.int 2147483629))))
@[simp] noncomputable def t__law_draws_4_1 : FS := (sExpr (eML appendD (eVar 3) (aCons (eBin fdivD (eBin modD (eBin addD (eBin mulD (eVar 6) (eC (.int 39373))) (eBin mulD (eC (.int 11)) (eVar 5))) (eC (.int 2147483647))) (eC (.int 16))) aNil)))
noncomputable def k__law_draws_4 : FS := (sFa [5] (sSeq t__law_draws_4_0 t__law_draws_4_1))
@[simp] theorem k__law_draws_4_ap (s : Ss) (h : Hs) : k__law_draws_4 s h = (sFa [5] (sSeq t__law_draws_4_0 t__law_draws_4_1)) s h := (rfl)
@[simp] noncomputable def t__law_draws_4 : FS := (sFa [5, 6] (sFb [5] (sFor (iRng1 (aCons (eVar 2) aNil)) (gVar 5) k__law_draws_4)))
@[simp] noncomputable def t__law_draws_5 : FS := (sRet (eVar 3))
noncomputable def b__law_draws : FS :=
  (sSeq t__law_draws_0 (sSeq t__law_draws_1 (sSeq t__law_draws_2 (sSeq t__law_draws_3 (sSeq t__law_draws_4 t__law_draws_5)))))
noncomputable def F__law_draws : List D → Hs → R D := runF 3 7 .move b__law_draws
@[simp] noncomputable def t__law_next_0a_0 : FS := (sRet (eML popD (eVar 0) aNil))
@[simp] noncomputable def t__law_next_0 : FS := (sIf (tV (eBin gtD (eB lenD (aCons (eVar 0) aNil)) (eC (.int 0)))) t__law_next_0a_0 sNext)
@[simp] noncomputable def t__law_next_1 : FS := (sRet (eC (.int 0)))
noncomputable def b__law_next : FS :=
  (sSeq t__law_next_0 t__law_next_1)
noncomputable def F__law_next : List D → Hs → R D := runF 1 1 .trunc b__law_next
@[simp] noncomputable def t__law_of_0 : FS := (sRet (eBin ixD (eVar 1) (eBin modD (eCall 1 F__law_next (aCons (eVar 0) aNil)) (eB lenD (aCons (eVar 1) aNil)))))
noncomputable def b__law_of : FS :=
  t__law_of_0
noncomputable def F__law_of : List D → Hs → R D := runF 2 2 .trunc b__law_of
@[simp] noncomputable def t__law_some_0 : FS := (sSet 3 (eCall 1 F__law_next (aCons (eVar 0) aNil)))
@[simp] noncomputable def t__law_some_1a_0 : FS := (sRet (eTup aNil))
@[simp] noncomputable def t__law_some_1 : FS := (sIf (tV (eBin gtD (eBin modD (eVar 3) (eC (.int 3))) (eC (.int 0)))) t__law_some_1a_0 sNext)
@[simp] noncomputable def t__law_some_2 : FS := (sRet (eB tupleD (aCons (eComp false [4] (iRng1 (aCons (eVar 1) aNil)) (gVar 4) (tV (eBin (eqD false) (eBin modD (eBin fdivD (eBin fdivD (eVar 3) (eC (.int 4))) (eBin shlD (eC (.int 1)) (eVar 4))) (eVar 2)) (eC (.int 0)))) (eVar 4)) aNil)))
noncomputable def b__law_some : FS :=
  (sSeq t__law_some_0 (sSeq t__law_some_1 t__law_some_2))
noncomputable def F__law_some : List D → Hs → R D := runF 3 5 .trunc b__law_some
@[simp] noncomputable def t__law_tied_0 : FS := (sSet 2 (eCall 1 F__law_next (aCons (eVar 0) aNil)))
@[simp] noncomputable def t__law_tied_1 : FS := (sSet 3 (eLst true aNil))
@[simp] noncomputable def t__law_tied_2_0_0a_0 : FS := (sExpr (eML appendD (eVar 3) (aCons (eTup (aCons (eVar 5) (aCons (eVar 4) aNil))) aNil)))
@[simp] noncomputable def t__law_tied_2_0_0 : FS := (sIf (tAndF (tV (eBin (eqD false) (eBin modD (eVar 2) (eC (.int 3))) (eC (.int 0)))) (tV (eBin (eqD false) (eBin modD (eBin fdivD (eBin fdivD (eVar 2) (eC (.int 3))) (eBin addD (eBin addD (eC (.int 1)) (eVar 5)) (eBin mulD (eC (.int 8)) (eVar 4)))) (eC (.int 4))) (eC (.int 0))))) t__law_tied_2_0_0a_0 sNext)
noncomputable def k__law_tied_2_0 : FS := (sFa [5] t__law_tied_2_0_0)
@[simp] theorem k__law_tied_2_0_ap (s : Ss) (h : Hs) : k__law_tied_2_0 s h = (sFa [5] t__law_tied_2_0_0) s h := (rfl)
@[simp] noncomputable def t__law_tied_2_0 : FS := (sFb [5] (sFor (iRng1 (aCons (eVar 4) aNil)) (gVar 5) k__law_tied_2_0))
noncomputable def k__law_tied_2 : FS := (sFa [4, 5] t__law_tied_2_0)
@[simp] theorem k__law_tied_2_ap (s : Ss) (h : Hs) : k__law_tied_2 s h = (sFa [4, 5] t__law_tied_2_0) s h := (rfl)
@[simp] noncomputable def t__law_tied_2 : FS := (sFb [4, 5] (sFor (iRng1 (aCons (eVar 1) aNil)) (gVar 4) k__law_tied_2))
@[simp] noncomputable def t__law_tied_3 : FS := (sRet (eB tupleD (aCons (eB (sortedD false) (aCons (eVar 3) aNil)) aNil)))
noncomputable def b__law_tied : FS :=
  (sSeq t__law_tied_0 (sSeq t__law_tied_1 (sSeq t__law_tied_2 t__law_tied_3)))
noncomputable def F__law_tied : List D → Hs → R D := runF 2 6 .trunc b__law_tied
@[simp] noncomputable def t__law_off_0 : FS := (sSet 2 (eCall 1 F__law_next (aCons (eVar 0) aNil)))
@[simp] noncomputable def t__law_off_1 : FS := (sSet 3 (eBin addD (eC (.int 1)) (eBin modD (eBin fdivD (eVar 2) (eC (.int 3))) (eC (.int 7)))))
@[simp] noncomputable def t__law_off_2a_0 : FS := (sRet (eTup (aCons (eC (.int 0)) aNil)))
@[simp] noncomputable def t__law_off_2 : FS := (sIf (tOrF (tV (eBin gtD (eBin modD (eVar 2) (eC (.int 3))) (eC (.int 0)))) (tV (eBin gtD (eVar 3) (eVar 1)))) t__law_off_2a_0 sNext)
@[simp] noncomputable def t__law_off_3 : FS := (sRet (eB tupleD (aCons (eComp false [4] (iRng1 (aCons (eVar 3) aNil)) (gVar 4) tYesF (eB intD (aCons (eBin (eqD false) (eBin modD (eBin fdivD (eBin fdivD (eVar 2) (eC (.int 32))) (eBin shlD (eC (.int 1)) (eVar 4))) (eC (.int 4))) (eC (.int 0))) aNil))) aNil)))
noncomputable def b__law_off : FS :=
  (sSeq t__law_off_0 (sSeq t__law_off_1 (sSeq t__law_off_2 t__law_off_3)))
noncomputable def F__law_off : List D → Hs → R D := runF 2 5 .trunc b__law_off
@[simp] noncomputable def t__law_numbers_0 : FS := (sSet 3 (eLst true aNil))
@[simp] noncomputable def t__law_numbers_1_0 : FS := (sSet 5 (eCall 1 F__law_next (aCons (eVar 0) aNil)))
@[simp] noncomputable def t__law_numbers_1_1 : FS := (sSet 6 (eLst false (aCons (eC (.int 2)) (aCons (eC (.int 3)) (aCons (eC (.int 4)) (aCons (eC (.int 6)) (aCons (eBin addD (eC (.int 1)) (eBin modD (eBin fdivD (eVar 5) (eC (.int 16))) (eC (.int 4)))) (aCons (eBin addD (eC (.int 2)) (eBin modD (eBin fdivD (eVar 5) (eC (.int 16))) (eC (.int 5)))) (aCons (eBin addD (eC (.int 3)) (eBin modD (eBin fdivD (eVar 5) (eC (.int 16))) (eC (.int 8)))) (aCons (eC (.int 5)) (aCons (eC (.int 8)) (aCons (eC (.int 12)) aNil))))))))))))
@[simp] noncomputable def t__law_numbers_1_2 : FS := (sSet 7 (eBin ixD (eBin addD (eVar 6) (eLst false (aCons (eC (.int 7)) (aCons (eC (.int 3)) (aCons (eC (.int 4)) (aCons (eC (.int 2)) (aCons (eC (.int 40)) (aCons (eBin addD (eC (.int 1)) (eBin modD (eBin fdivD (eVar 5) (eC (.int 16))) (eC (.int 40)))) aNil)))))))) (eBin modD (eVar 5) (eC (.int 16)))))
@[simp] noncomputable def t__law_numbers_1_3a_0 : FS := (sExpr (eML appendD (eVar 3) (aCons (eVar 7) aNil)))
@[simp] noncomputable def t__law_numbers_1_3a_1 : FS := (sSet 2 (eBin fdivD (eVar 2) (eVar 7)))
@[simp] noncomputable def t__law_numbers_1_3 : FS := (sIf (tV (eBin leD (eVar 7) (eVar 2))) (sSeq t__law_numbers_1_3a_0 t__law_numbers_1_3a_1) sNext)
noncomputable def k__law_numbers_1 : FS := (sFa [4, 5, 6, 7] (sSeq t__law_numbers_1_0 (sSeq t__law_numbers_1_1 (sSeq t__law_numbers_1_2 t__law_numbers_1_3))))
@[simp] theorem k__law_numbers_1_ap (s : Ss) (h : Hs) : k__law_numbers_1 s h = (sFa [4, 5, 6, 7] (sSeq t__law_numbers_1_0 (sSeq t__law_numbers_1_1 (sSeq t__law_numbers_1_2 t__law_numbers_1_3)))) s h := (rfl)
@[simp] noncomputable def t__law_numbers_1 : FS := (sFa [2, 4, 5, 6, 7] (sFb [4, 5, 6, 7] (sFor (iRng1 (aCons (eBin modD (eCall 1 F__law_next (aCons (eVar 0) aNil)) (eBin addD (eVar 1) (eC (.int 1)))) aNil)) (gVar 4) k__law_numbers_1)))
@[simp] noncomputable def t__law_numbers_2 : FS := (sRet (eB tupleD (aCons (eVar 3) aNil)))
noncomputable def b__law_numbers : FS :=
  (sSeq t__law_numbers_0 (sSeq t__law_numbers_1 t__law_numbers_2))
noncomputable def F__law_numbers : List D → Hs → R D := runF 3 8 .trunc b__law_numbers
@[simp] noncomputable def t__law_task_0 : FS := (sSet 3 (eCall 3 F__law_numbers (aCons (eVar 0) (aCons (eVar 1) (aCons (eVar 2) aNil)))))
@[simp] noncomputable def t__law_task_1_0 : FS := (sSet 2 (eBin fdivD (eVar 2) (eVar 4)))
noncomputable def k__law_task_1 : FS := (sFa [4] t__law_task_1_0)
@[simp] theorem k__law_task_1_ap (s : Ss) (h : Hs) : k__law_task_1 s h = (sFa [4] t__law_task_1_0) s h := (rfl)
@[simp] noncomputable def t__law_task_1 : FS := (sFb [4] (sFor (iRow (eVar 3)) (gVar 4) k__law_task_1))
@[simp] noncomputable def t__law_task_2 : FS := (sSet 5 (eBin addD (eC (.int 1)) (eB intD (aCons (eBin (eqD false) (eBin modD (eCall 1 F__law_next (aCons (eVar 0) aNil)) (eC (.int 3))) (eC (.int 0))) aNil))))
@[simp] noncomputable def t__law_task_3 : FS := (sSet 6 (eCall 2 F__law_off (aCons (eVar 0) (aCons (eVar 2) aNil))))
@[simp] noncomputable def t__law_task_4 : FS := (sRet (eTup (aCons (eVar 3) (aCons (eVar 5) (aCons (eVar 6) (aCons (eCall 3 F__law_some (aCons (eVar 0) (aCons (eB lenD (aCons (eVar 3) aNil)) (aCons (eC (.int 3)) aNil)))) (aCons (eCall 2 F__law_tied (aCons (eVar 0) (aCons (eB lenD (aCons (eVar 3) aNil)) aNil))) aNil)))))))
noncomputable def b__law_task : FS :=
  (sSeq t__law_task_0 (sSeq t__law_task_1 (sSeq t__law_task_2 (sSeq t__law_task_3 t__law_task_4))))
noncomputable def F__law_task : List D → Hs → R D := runF 3 7 .trunc b__law_task
noncomputable def b__law_listed (self : List D → Hs → R D) : FS :=
  (sSeq (sIf (tNotF (tV (eIsi ["tuple"] (eVar 0)))) (sRet (eVar 0)) sNext) (sSeq (sSet 2 (eComp true [3, 4] (iEnumerate (aCons (eVar 0) aNil)) (gUn [(gVar 3), (gVar 4)]) tYesF (eCall 2 self (aCons (eVar 4) (aCons (eBin addD (eBin fdivD (eVar 1) (eC (.int 3))) (eBin mulD (eVar 3) (eVar 3))) aNil))))) (sRet (eBin ixD (eLst false (aCons (eVar 2) (aCons (eB tupleD (aCons (eVar 2) aNil)) aNil))) (eBin modD (eVar 1) (eC (.int 2)))))))
noncomputable def F__law_listed : Nat → List D → Hs → R D
  | 0 => fun _ _ => .bad
  | n + 1 => runF 2 5 .keep (b__law_listed (F__law_listed n))
noncomputable def b__law_listed_s (self : List D → Hs → R D) : FS :=
  (sSeq (sIf (tNotF (tV (eIsi ["tuple"] (eVar 0)))) (sRet (eVar 0)) sNext) (sSeq (sSet 2 (eComp false [3, 4] (iEnumerate (aCons (eVar 0) aNil)) (gUn [(gVar 3), (gVar 4)]) tYesF (eCall 2 self (aCons (eVar 4) (aCons (eBin addD (eBin fdivD (eVar 1) (eC (.int 3))) (eBin mulD (eVar 3) (eVar 3))) aNil))))) (sRet (eBin ixD (eLst false (aCons (eVar 2) (aCons (eB tupleD (aCons (eVar 2) aNil)) aNil))) (eBin modD (eVar 1) (eC (.int 2)))))))
noncomputable def F__law_listed_s : Nat → List D → Hs → R D
  | 0 => fun _ _ => .bad
  | n + 1 => runF 2 5 .trunc (b__law_listed_s (F__law_listed_s n))
noncomputable def b__law_spoil (self : List D → Hs → R D) : FS :=
  (sIf (tV (eIsi ["list"] (eVar 0))) (sSeq (sFb [1] (sFor (iRow (eVar 0)) (gVar 1) (sFa [1] (sExpr (eCall 1 self (aCons (eVar 1) aNil)))))) (sSeq (sExpr (eML appendD (eVar 0) (aCons (eC (.int 99)) aNil))) (sExpr (eML reverseD (eVar 0) aNil)))) (sIf (tV (eIsi ["tuple"] (eVar 0))) (sFb [1] (sFor (iRow (eVar 0)) (gVar 1) (sFa [1] (sExpr (eCall 1 self (aCons (eVar 1) aNil)))))) sNext))
noncomputable def F__law_spoil : Nat → List D → Hs → R D
  | 0 => fun _ _ => .bad
  | n + 1 => runF 1 2 .keep (b__law_spoil (F__law_spoil n))
noncomputable def b__law_other_kinds (y : Xn) : FS :=
  (sSeq (sSet 1 (eLst false (aCons (eC (.bl (subX y.name "NoNumbers"))) (aCons (eC (.bl (subX y.name "NoDays"))) (aCons (eC (.bl (subX y.name "NoRing"))) aNil))))) (sSeq (sSet 1 (eBin addD (eVar 1) (eLst false (aCons (eC (.bl (subX y.name "NoTask"))) (aCons (eC (.bl (subX y.name "NoThing"))) (aCons (eC (.bl (subX y.name "NoStand"))) aNil)))))) (sSeq (sSet 1 (eBin addD (eVar 1) (eLst false (aCons (eC (.bl (subX y.name "NoDay"))) (aCons (eC (.bl (subX y.name "NoPaper"))) (aCons (eC (.bl (subX y.name "NoText"))) aNil)))))) (sRet (eBin addD (eVar 1) (eLst false (aCons (eC (.bl (subX y.name "NotThere"))) (aCons (eC (.bl (subX y.name "Broken"))) (aCons (eC (.bl (subX y.name "TooMany"))) aNil)))))))))
noncomputable def F__law_other_kinds : Xn → Hs → R D := fun y h => runE 2 .trunc (b__law_other_kinds y) h
@[simp] noncomputable def t__law_is_whole_0 : FS := (sRet (eAndF (eIsi ["int"] (eVar 0)) (eAndF (eNotF (eIsi ["bool"] (eVar 0))) (eChain leD leD (eVar 1) (eVar 0) (eVar 2)))))
noncomputable def b__law_is_whole : FS :=
  t__law_is_whole_0
noncomputable def F__law_is_whole : List D → Hs → R D := runF 3 3 .trunc b__law_is_whole
@[simp] noncomputable def t__law_is_row_0 : FS := (sRet (eOrF (eIsi ["list"] (eVar 0)) (eIsi ["tuple"] (eVar 0))))
noncomputable def b__law_is_row : FS :=
  t__law_is_row_0
noncomputable def F__law_is_row : List D → Hs → R D := runF 1 1 .trunc b__law_is_row
@[simp] noncomputable def t__law_are_some_0a_0 : FS := (sRet (eC (.bl false)))
@[simp] noncomputable def t__law_are_some_0 : FS := (sIf (tOrF (tNotF (tV (eCall 1 F__law_is_row (aCons (eVar 0) aNil)))) (tV (eBin (eqD true) (eComp false [2] (iRow (eVar 0)) (gVar 2) (tNotF (tV (eCall 3 F__law_is_whole (aCons (eVar 2) (aCons (eC (.int 0)) (aCons (eBin subD (eVar 1) (eC (.int 1))) aNil)))))) (eVar 2)) (eLst false aNil)))) t__law_are_some_0a_0 sNext)
@[simp] noncomputable def t__law_are_some_1 : FS := (sRet (eBin (eqD false) (eB (listD false) (aCons (eVar 0) aNil)) (eB sortSetW (aCons (eVar 0) aNil))))
noncomputable def b__law_are_some : FS :=
  (sSeq t__law_are_some_0 t__law_are_some_1)
noncomputable def F__law_are_some : List D → Hs → R D := runF 2 3 .trunc b__law_are_some
@[simp] noncomputable def t__law_are_pairs_0a_0 : FS := (sRet (eC (.bl false)))
@[simp] noncomputable def t__law_are_pairs_0 : FS := (sIf (tNotF (tV (eCall 1 F__law_is_row (aCons (eVar 0) aNil)))) t__law_are_pairs_0a_0 sNext)
@[simp] noncomputable def t__law_are_pairs_1_0a_0 : FS := (sRet (eC (.bl false)))
@[simp] noncomputable def t__law_are_pairs_1_0 : FS := (sIf (tOrF (tNotF (tV (eCall 2 F__law_are_some (aCons (eVar 2) (aCons (eVar 1) aNil))))) (tV (eBin (eqD true) (eB lenD (aCons (eVar 2) aNil)) (eC (.int 2))))) t__law_are_pairs_1_0a_0 sNext)
noncomputable def k__law_are_pairs_1 : FS := (sFa [2] t__law_are_pairs_1_0)
@[simp] theorem k__law_are_pairs_1_ap (s : Ss) (h : Hs) : k__law_are_pairs_1 s h = (sFa [2] t__law_are_pairs_1_0) s h := (rfl)
@[simp] noncomputable def t__law_are_pairs_1 : FS := (sFb [2] (sFor (iRow (eVar 0)) (gVar 2) k__law_are_pairs_1))
@[simp] noncomputable def t__law_are_pairs_2 : FS := (sSet 3 (eComp false [2] (iRow (eVar 0)) (gVar 2) tYesF (eTup (aCons (eBin ixD (eVar 2) (eC (.int 0))) (aCons (eBin ixD (eVar 2) (eC (.int 1))) aNil)))))
@[simp] noncomputable def t__law_are_pairs_3 : FS := (sRet (eBin (eqD false) (eVar 3) (eB sortSetPL (aCons (eVar 3) aNil))))
noncomputable def b__law_are_pairs : FS :=
  (sSeq t__law_are_pairs_0 (sSeq t__law_are_pairs_1 (sSeq t__law_are_pairs_2 t__law_are_pairs_3)))
noncomputable def F__law_are_pairs : List D → Hs → R D := runF 2 4 .trunc b__law_are_pairs
@[simp] noncomputable def t__law_are_wholes_0a_0 : FS := (sRet (eC (.bl false)))
@[simp] noncomputable def t__law_are_wholes_0 : FS := (sIf (tOrF (tNotF (tV (eCall 1 F__law_is_row (aCons (eVar 0) aNil)))) (tNotF (tV (eChain leD leD (eVar 3) (eB lenD (aCons (eVar 0) aNil)) (eVar 4))))) t__law_are_wholes_0a_0 sNext)
@[simp] noncomputable def t__law_are_wholes_1 : FS := (sRet (eBin (eqD false) (eComp false [5] (iRow (eVar 0)) (gVar 5) (tNotF (tV (eCall 3 F__law_is_whole (aCons (eVar 5) (aCons (eVar 1) (aCons (eVar 2) aNil)))))) (eVar 5)) (eLst false aNil)))
noncomputable def b__law_are_wholes : FS :=
  (sSeq t__law_are_wholes_0 t__law_are_wholes_1)
noncomputable def F__law_are_wholes : List D → Hs → R D := runF 5 6 .trunc b__law_are_wholes
@[simp] noncomputable def t__law_is_task_0a_0 : FS := (sRet (eC (.bl false)))
@[simp] noncomputable def t__law_is_task_0 : FS := (sIf (tOrF (tNotF (tV (eCall 1 F__law_is_row (aCons (eVar 0) aNil)))) (tV (eBin (eqD true) (eB lenD (aCons (eVar 0) aNil)) (eC (.int 5))))) t__law_is_task_0a_0 sNext)
@[simp] noncomputable def t__law_is_task_1a_0 : FS := (sRet (eC (.bl false)))
@[simp] noncomputable def t__law_is_task_1 : FS := (sIf (tOrF (tNotF (tV (eCall 5 F__law_are_wholes (aCons (eBin ixD (eVar 0) (eC (.int 0))) (aCons (eC (.int 1)) (aCons (eC (.int 40)) (aCons (eC (.int 0)) (aCons (eC (.int 8)) aNil)))))))) (tNotF (tV (eCall 3 F__law_is_whole (aCons (eBin ixD (eVar 0) (eC (.int 1))) (aCons (eC (.int 1)) (aCons (eC (.int 2)) aNil))))))) t__law_is_task_1a_0 sNext)
@[simp] noncomputable def t__law_is_task_2a_0 : FS := (sRet (eC (.bl false)))
@[simp] noncomputable def t__law_is_task_2 : FS := (sIf (tNotF (tV (eCall 5 F__law_are_wholes (aCons (eBin ixD (eVar 0) (eC (.int 2))) (aCons (eC (.int 0)) (aCons (eC (.int 1)) (aCons (eC (.int 1)) (aCons (eC (.int 7)) aNil)))))))) t__law_is_task_2a_0 sNext)
@[simp] noncomputable def t__law_is_task_3 : FS := (sRet (eAndF (eCall 2 F__law_are_some (aCons (eBin ixD (eVar 0) (eC (.int 3))) (aCons (eB lenD (aCons (eBin ixD (eVar 0) (eC (.int 0))) aNil)) aNil))) (eCall 2 F__law_are_pairs (aCons (eBin ixD (eVar 0) (eC (.int 4))) (aCons (eB lenD (aCons (eBin ixD (eVar 0) (eC (.int 0))) aNil)) aNil)))))
noncomputable def b__law_is_task : FS :=
  (sSeq t__law_is_task_0 (sSeq t__law_is_task_1 (sSeq t__law_is_task_2 t__law_is_task_3)))
noncomputable def F__law_is_task : List D → Hs → R D := runF 1 1 .trunc b__law_is_task
@[simp] noncomputable def t__law_nested_0 : FS := (sSet 1 (eTup aNil))
@[simp] noncomputable def t__law_nested_1_0 : FS := (sSet 1 (eBin ixD (eLst false (aCons (eTup (aCons (eVar 1) aNil)) (aCons (eLst false (aCons (eVar 1) aNil)) aNil))) (eBin modD (eVar 2) (eC (.int 2)))))
noncomputable def k__law_nested_1 : FS := (sFa [2] t__law_nested_1_0)
@[simp] theorem k__law_nested_1_ap (s : Ss) (h : Hs) : k__law_nested_1 s h = (sFa [2] t__law_nested_1_0) s h := (rfl)
@[simp] noncomputable def t__law_nested_1 : FS := (sFb [2] (sFor (iRng1 (aCons (eVar 0) aNil)) (gVar 2) k__law_nested_1))
@[simp] noncomputable def t__law_nested_2 : FS := (sRet (eVar 1))
noncomputable def b__law_nested : FS :=
  (sSeq t__law_nested_0 (sSeq t__law_nested_1 t__law_nested_2))
noncomputable def F__law_nested : List D → Hs → R D := runF 1 3 .trunc b__law_nested
@[simp] noncomputable def t__law_odd_0 : FS := (sSet 1 (eLst false (aCons (eC .non) (aCons (eC (.bl true)) (aCons (eC (.bl false)) (aCons (eC (.int 0)) (aCons (eC (.int 1)) (aCons (eC (.int 2)) (aCons (eC (.int 41)) (aCons (negD (eC (.int 1))) (aCons (eBin powD (eC (.int 10)) (eC (.int 60))) (aCons (eC (.str "")) (aCons (eC (.str "0")) (aCons (eC (.str "thing")) (aCons (eTup aNil) (aCons (eLst false aNil) (aCons (eC (.dic [] [])) (aCons (eC (.dic [.inl 0] [.int 1])) (aCons (eTup (aCons (eC (.int 0)) aNil)) (aCons (eLst false (aCons (eC (.int 0)) aNil)) (aCons (eTup (aCons (eTup aNil) aNil)) (aCons (eLst false (aCons (eLst false aNil) aNil)) aNil))))))))))))))))))))))
@[simp] noncomputable def t__law_odd_1 : FS := (sSet 1 (eBin addD (eVar 1) (eLst false (aCons (eTup (aCons (eC (.int 0)) (aCons (eC (.int 1)) aNil))) (aCons (eLst false (aCons (eC (.int 1)) (aCons (eC (.int 0)) aNil))) (aCons (eTup (aCons (eC (.int 1)) (aCons (eC (.int 1)) aNil))) (aCons (eTup (aCons (eC (.bl true)) aNil)) (aCons (eTup (aCons (eC .non) aNil)) (aCons (eTup (aCons (eC (.str "0")) aNil)) (aCons (eTup (aCons (eC (.int 0)) (aCons (eC (.int 1)) (aCons (eC (.int 2)) aNil)))) (aCons (eTup (aCons (eTup (aCons (eC (.int 0)) (aCons (eC (.int 1)) aNil))) aNil)) (aCons (eLst false (aCons (eLst false (aCons (eC (.int 0)) (aCons (eC (.int 1)) aNil))) aNil)) (aCons (eLst false (aCons (eTup (aCons (eC (.int 1)) (aCons (eC (.int 0)) aNil))) aNil)) (aCons (eTup (aCons (eC (.int 0)) (aCons (eC (.int 41)) aNil))) aNil))))))))))))))
@[simp] noncomputable def t__law_odd_2 : FS := (sRet (eCall 2 F__law_of (aCons (eVar 0) (aCons (eBin addD (eVar 1) (eLst false (aCons (eTup (aCons (negD (eC (.int 1))) aNil)) (aCons (eTup (aCons (eBin powD (eC (.int 10)) (eC (.int 60))) aNil)) (aCons (eTup (aCons (eLst false (aCons (eC (.int 0)) aNil)) aNil)) (aCons (eTup (aCons (eC (.bl false)) (aCons (eC (.bl true)) aNil))) (aCons (eTup (aCons (eTup (aCons (eC (.int 0)) (aCons (eC (.int 1)) aNil))) (aCons (eTup (aCons (eC (.int 0)) (aCons (eC (.int 1)) aNil))) aNil))) (aCons (eCall 1 F__law_nested (aCons (eC (.int 30)) aNil)) aNil)))))))) aNil))))
noncomputable def b__law_odd : FS :=
  (sSeq t__law_odd_0 (sSeq t__law_odd_1 t__law_odd_2))
noncomputable def F__law_odd : List D → Hs → R D := runF 1 2 .trunc b__law_odd
@[simp] noncomputable def t__law_bent_row_0 : FS := (sSet 1 (eB (listD false) (aCons (eVar 1) aNil)))
@[simp] noncomputable def t__law_bent_row_1 : FS := (sSet 2 (eBin modD (eCall 1 F__law_next (aCons (eVar 0) aNil)) (eBin addD (eB lenD (aCons (eVar 1) aNil)) (eC (.int 1)))))
@[simp] noncomputable def t__law_bent_row_2 : FS := (sSet 3 (eBin modD (eCall 1 F__law_next (aCons (eVar 0) aNil)) (eC (.int 6))))
@[simp] noncomputable def t__law_bent_row_3a_0 : FS := (sRet (eBin addD (eSl false (eVar 1) oNone (oSome (eVar 2))) (eSl false (eVar 1) (oSome (eBin addD (eVar 2) (eC (.int 1)))) oNone)))
@[simp] noncomputable def t__law_bent_row_3 : FS := (sIf (tV (eBin (eqD false) (eVar 3) (eC (.int 0)))) t__law_bent_row_3a_0 sNext)
@[simp] noncomputable def t__law_bent_row_4a_0 : FS := (sRet (eBin addD (eBin addD (eSl false (eVar 1) oNone (oSome (eVar 2))) (eLst false (aCons (eCall 1 F__law_odd (aCons (eVar 0) aNil)) aNil))) (eSl false (eVar 1) (oSome (eVar 2)) oNone)))
@[simp] noncomputable def t__law_bent_row_4 : FS := (sIf (tV (eBin (eqD false) (eVar 3) (eC (.int 1)))) t__law_bent_row_4a_0 sNext)
@[simp] noncomputable def t__law_bent_row_5a_0 : FS := (sRet (eBin addD (eBin addD (eSl false (eVar 1) oNone (oSome (eVar 2))) (eSl false (eVar 1) (oSome (eVar 2)) (oSome (eBin addD (eVar 2) (eC (.int 1)))))) (eSl false (eVar 1) (oSome (eVar 2)) oNone)))
@[simp] noncomputable def t__law_bent_row_5 : FS := (sIf (tV (eBin (eqD false) (eVar 3) (eC (.int 2)))) t__law_bent_row_5a_0 sNext)
@[simp] noncomputable def t__law_bent_row_6a_0 : FS := (sRet (eBin addD (eBin addD (eSl false (eVar 1) oNone (oSome (eVar 2))) (eRevL (eSl false (eVar 1) (oSome (eVar 2)) (oSome (eBin addD (eVar 2) (eC (.int 2))))) (negD (eC (.int 1))))) (eSl false (eVar 1) (oSome (eBin addD (eVar 2) (eC (.int 2)))) oNone)))
@[simp] noncomputable def t__law_bent_row_6 : FS := (sIf (tV (eBin (eqD false) (eVar 3) (eC (.int 3)))) t__law_bent_row_6a_0 sNext)
@[simp] noncomputable def t__law_bent_row_7 : FS := (sSet 4 (eLst false (aCons (eC (.int 0)) (aCons (eC (.int 1)) (aCons (eC (.int 2)) (aCons (eC (.int 7)) (aCons (eC (.int 8)) (aCons (eC (.int 40)) (aCons (eC (.int 41)) (aCons (negD (eC (.int 1))) (aCons (eB lenD (aCons (eVar 1) aNil)) (aCons (eC (.bl true)) aNil))))))))))))
@[simp] noncomputable def t__law_bent_row_8 : FS := (sSet 5 (eCall 2 F__law_of (aCons (eVar 0) (aCons (eBin addD (eVar 4) (eLst false (aCons (eTup (aCons (eC (.int 0)) (aCons (eC (.int 1)) aNil))) (aCons (eTup (aCons (eC (.int 1)) (aCons (eC (.int 0)) aNil))) (aCons (eLst false (aCons (eC (.int 0)) (aCons (eC (.int 2)) aNil))) (aCons (eTup (aCons (eC (.int 0)) (aCons (eC (.int 0)) aNil))) (aCons (eTup (aCons (eC (.int 1)) (aCons (eC (.int 2)) (aCons (eC (.int 3)) aNil)))) (aCons (eTup (aCons (eC (.int 6)) (aCons (eC (.int 7)) aNil))) aNil)))))))) aNil))))
@[simp] noncomputable def t__law_bent_row_9 : FS := (sRet (eBin ixD (eLst false (aCons (eBin addD (eBin addD (eSl false (eVar 1) oNone (oSome (eVar 2))) (eLst false (aCons (eVar 5) aNil))) (eSl false (eVar 1) (oSome (eBin addD (eVar 2) (eC (.int 1)))) oNone)) (aCons (eBin addD (eBin addD (eSl false (eVar 1) oNone (oSome (eVar 2))) (eLst false (aCons (eVar 5) aNil))) (eSl false (eVar 1) (oSome (eVar 2)) oNone)) aNil))) (eBin modD (eVar 3) (eC (.int 2)))))
noncomputable def b__law_bent_row : FS :=
  (sSeq t__law_bent_row_0 (sSeq t__law_bent_row_1 (sSeq t__law_bent_row_2 (sSeq t__law_bent_row_3 (sSeq t__law_bent_row_4 (sSeq t__law_bent_row_5 (sSeq t__law_bent_row_6 (sSeq t__law_bent_row_7 (sSeq t__law_bent_row_8 t__law_bent_row_9)))))))))
noncomputable def F__law_bent_row : List D → Hs → R D := runF 2 6 .trunc b__law_bent_row
@[simp] noncomputable def t__law_bent_0 : FS := (sSet 2 (eB (listD true) (aCons (eVar 1) aNil)))
@[simp] noncomputable def t__law_bent_1 : FS := (sSet 3 (eBin modD (eCall 1 F__law_next (aCons (eVar 0) aNil)) (eC (.int 9))))
@[simp] noncomputable def t__law_bent_2a_0 : FS := (sRet (eCall 1 F__law_odd (aCons (eVar 0) aNil)))
@[simp] noncomputable def t__law_bent_2 : FS := (sIf (tV (eBin (eqD false) (eVar 3) (eC (.int 0)))) t__law_bent_2a_0 sNext)
@[simp] noncomputable def t__law_bent_3a_0 : FS := (sRet (eBin ixD (eLst false (aCons (eSl false (eVar 2) oNone (oSome (eC (.int 4)))) (aCons (eBin addD (eVar 2) (eLst false (aCons (eTup aNil) aNil))) (aCons (eSl false (eVar 2) (oSome (eC (.int 1))) oNone) (aCons (eBin addD (eVar 2) (eSl false (eVar 2) oNone (oSome (eC (.int 1))))) aNil))))) (eBin modD (eCall 1 F__law_next (aCons (eVar 0) aNil)) (eC (.int 4)))))
@[simp] noncomputable def t__law_bent_3 : FS := (sIf (tV (eBin (eqD false) (eVar 3) (eC (.int 1)))) t__law_bent_3a_0 sNext)
@[simp] noncomputable def t__law_bent_4a_0 : FS := (sItem (eVar 2) (eC (.int 1)) (eCall 2 F__law_of (aCons (eVar 0) (aCons (eLst false (aCons (eC (.int 0)) (aCons (eC (.int 3)) (aCons (eC (.bl true)) (aCons (eC (.str "1")) (aCons (eC .non) (aCons (eC (.int 1)) (aCons (eC (.int 2)) (aCons (eTup (aCons (eC (.int 1)) aNil)) (aCons (negD (eC (.int 1))) (aCons (eBin powD (eC (.int 10)) (eC (.int 60))) aNil))))))))))) aNil))))
@[simp] noncomputable def t__law_bent_4a_1 : FS := (sRet (eVar 2))
@[simp] noncomputable def t__law_bent_4 : FS := (sIf (tV (eBin (eqD false) (eVar 3) (eC (.int 2)))) (sSeq t__law_bent_4a_0 t__law_bent_4a_1) sNext)
@[simp] noncomputable def t__law_bent_5 : FS := (sSet 4 (eCall 2 F__law_of (aCons (eVar 0) (aCons (eLst false (aCons (eC (.int 0)) (aCons (eC (.int 2)) (aCons (eC (.int 3)) (aCons (eC (.int 4)) aNil))))) aNil))))
@[simp] noncomputable def t__law_bent_6a_0 : FS := (sItem (eVar 2) (eVar 4) (eCall 1 F__law_odd (aCons (eVar 0) aNil)))
@[simp] noncomputable def t__law_bent_6b_0a_0 : FS := (sItem (eVar 2) (eVar 4) (eBin mulD (eB (listD false) (aCons (eBin ixD (eVar 2) (eVar 4)) aNil)) (eC (.int 2))))
@[simp] noncomputable def t__law_bent_6b_0b_0 : FS := (sItem (eVar 2) (eVar 4) (eCall 2 F__law_bent_row (aCons (eVar 0) (aCons (eBin ixD (eVar 2) (eVar 4)) aNil))))
@[simp] noncomputable def t__law_bent_6b_0 : FS := (sIf (tV (eBin (eqD false) (eVar 3) (eC (.int 4)))) t__law_bent_6b_0a_0 t__law_bent_6b_0b_0)
@[simp] noncomputable def t__law_bent_6 : FS := (sIf (tOrF (tV (eBin (eqD false) (eVar 3) (eC (.int 3)))) (tNotF (tV (eCall 1 F__law_is_row (aCons (eBin ixD (eVar 2) (eVar 4)) aNil))))) t__law_bent_6a_0 t__law_bent_6b_0)
@[simp] noncomputable def t__law_bent_7 : FS := (sRet (eB tupleD (aCons (eVar 2) aNil)))
noncomputable def b__law_bent : FS :=
  (sSeq t__law_bent_0 (sSeq t__law_bent_1 (sSeq t__law_bent_2 (sSeq t__law_bent_3 (sSeq t__law_bent_4 (sSeq t__law_bent_5 (sSeq t__law_bent_6 t__law_bent_7)))))))
noncomputable def F__law_bent : List D → Hs → R D := runF 2 5 .trunc b__law_bent
@[simp] noncomputable def t__law_plain_refused_0_0 : FS := (sExpr (eCall 1 F_plain (aCons (eVar 0) aNil)))
noncomputable def k__law_plain_refused_0 : FS := t__law_plain_refused_0_0
@[simp] theorem k__law_plain_refused_0_ap (s : Ss) (h : Hs) : k__law_plain_refused_0 s h = t__law_plain_refused_0_0 s h := (rfl)
@[simp] noncomputable def t__law_plain_refused_0 : FS := (sTryX "DaysError" 1 ["NoNumbers"] [("TooMany", "most")] k__law_plain_refused_0 (fun y => (sSeq (sSet 2 (eErr (F__law_other_kinds y))) (sRet (eAndF (eBin ixD (eVar 2) (eC (.int 0))) (eAndF (eBin (eqD false) (eML countD (eVar 2) (aCons (eC (.bl true)) aNil)) (eC (.int 1))) (eC (.bl (subX y.name "ValueError")))))))))
@[simp] noncomputable def t__law_plain_refused_1 : FS := (sRet (eC (.bl false)))
noncomputable def b__law_plain_refused : FS :=
  (sSeq t__law_plain_refused_0 t__law_plain_refused_1)
noncomputable def F__law_plain_refused : List D → Hs → R D := runF 1 3 .trunc b__law_plain_refused
@[simp] noncomputable def t__law_is_plain_0 : FS := (sSet 2 (eCall 2 (F__law_listed 45) (aCons (eVar 0) (aCons (eVar 1) aNil))))
@[simp] noncomputable def t__law_is_plain_1 : FS := (sSet 3 (eB reprR (aCons (eVar 2) aNil)))
@[simp] noncomputable def t__law_is_plain_2 : FS := (sSet 4 (eCall 1 F_plain (aCons (eVar 2) aNil)))
@[simp] noncomputable def t__law_is_plain_3a_0 : FS := (sRet (eC (.bl false)))
@[simp] noncomputable def t__law_is_plain_3 : FS := (sIf (tOrF (tV (eBin (eqD true) (eB reprR (aCons (eVar 4) aNil)) (eB reprR (aCons (eTup (aCons (eVar 0) (aCons (eC (.int 1)) (aCons (eTup (aCons (eC (.int 0)) aNil)) (aCons (eTup aNil) (aCons (eTup aNil) aNil)))))) aNil)))) (tV (eBin (eqD true) (eB reprR (aCons (eVar 2) aNil)) (eVar 3)))) t__law_is_plain_3a_0 sNext)
@[simp] noncomputable def t__law_is_plain_4 : FS := (sExpr (eCall 1 (F__law_spoil 45) (aCons (eVar 2) aNil)))
@[simp] noncomputable def t__law_is_plain_5 : FS := (sRet (eAndF (eBin (eqD false) (eB reprR (aCons (eVar 4) aNil)) (eB reprR (aCons (eTup (aCons (eVar 0) (aCons (eC (.int 1)) (aCons (eTup (aCons (eC (.int 0)) aNil)) (aCons (eTup aNil) (aCons (eTup aNil) aNil)))))) aNil))) (eBin (isBlD false) (eCall 1 F_is_task (aCons (eVar 4) aNil)) (eC (.bl true)))))
noncomputable def b__law_is_plain : FS :=
  (sSeq t__law_is_plain_0 (sSeq t__law_is_plain_1 (sSeq t__law_is_plain_2 (sSeq t__law_is_plain_3 (sSeq t__law_is_plain_4 t__law_is_plain_5)))))
noncomputable def F__law_is_plain : List D → Hs → R D := runF 2 5 .trunc b__law_is_plain
@[simp] noncomputable def t__law_looked_at_0 : FS := (sSet 1 (eB reprR (aCons (eVar 0) aNil)))
@[simp] noncomputable def t__law_looked_at_1 : FS := (sSet 2 (eCall 1 F__law_is_task (aCons (eVar 0) aNil)))
@[simp] noncomputable def t__law_looked_at_2_0a_0 : FS := (sRet (eC (.bl false)))
@[simp] noncomputable def t__law_looked_at_2_0 : FS := (sIf (tOrF (tV (eBin (eqD true) (eB reprR (aCons (eCall 1 F_is_task (aCons (eVar 0) aNil)) aNil)) (eB reprR (aCons (eVar 2) aNil)))) (tV (eBin (eqD true) (eB reprR (aCons (eVar 0) aNil)) (eVar 1)))) t__law_looked_at_2_0a_0 sNext)
noncomputable def k__law_looked_at_2 : FS := (sFa [3] t__law_looked_at_2_0)
@[simp] theorem k__law_looked_at_2_ap (s : Ss) (h : Hs) : k__law_looked_at_2 s h = (sFa [3] t__law_looked_at_2_0) s h := (rfl)
@[simp] noncomputable def t__law_looked_at_2 : FS := (sFb [3] (sFor (iRng1 (aCons (eC (.int 2)) aNil)) (gVar 3) k__law_looked_at_2))
@[simp] noncomputable def t__law_looked_at_3 : FS := (sRet (eC (.bl true)))
noncomputable def b__law_looked_at : FS :=
  (sSeq t__law_looked_at_0 (sSeq t__law_looked_at_1 (sSeq t__law_looked_at_2 t__law_looked_at_3)))
noncomputable def F__law_looked_at : List D → Hs → R D := runF 1 4 .trunc b__law_looked_at
@[simp] noncomputable def t_law_0 : FS := (sSet 1 (eCall 3 F__law_draws (aCons (eVar 0) (aCons (eC (.int 0)) (aCons (eC (.int 150)) aNil)))))
@[simp] noncomputable def t_law_1 : FS := (sSet 2 (eCall 3 F__law_task (aCons (eVar 1) (aCons (eC (.int 8)) (aCons (eBin powD (eC (.int 10)) (eC (.int 20))) aNil)))))
@[simp] noncomputable def t_law_2a_0 : FS := (sRet (eC (.bl false)))
@[simp] noncomputable def t_law_2 : FS := (sIf (tOrF (tNotF (tV (eCall 1 F__law_looked_at (aCons (eVar 2) aNil)))) (tOrF (tNotF (tV (eCall 1 F__law_is_task (aCons (eVar 2) aNil)))) (tNotF (tV (eCall 2 F__law_is_plain (aCons (eBin ixD (eVar 2) (eC (.int 0))) (aCons (eCall 1 F__law_next (aCons (eVar 1) aNil)) aNil))))))) t_law_2a_0 sNext)
@[simp] noncomputable def t_law_3_0 : FS := (sSet 4 (eCall 2 (F__law_listed_s 45) (aCons (eVar 2) (aCons (eCall 1 F__law_next (aCons (eVar 1) aNil)) aNil))))
@[simp] noncomputable def t_law_3_1_0a_0 : FS := (sSet 4 (eCall 2 F__law_bent (aCons (eVar 1) (aCons (eVar 4) aNil))))
@[simp] noncomputable def t_law_3_1_0 : FS := (sIf (tAndF (tV (eCall 1 F__law_is_row (aCons (eVar 4) aNil))) (tV (eBin (eqD false) (eB lenD (aCons (eVar 4) aNil)) (eC (.int 5))))) t_law_3_1_0a_0 sNext)
noncomputable def k_law_3_1 : FS := (sFa [5] t_law_3_1_0)
@[simp] theorem k_law_3_1_ap (s : Ss) (h : Hs) : k_law_3_1 s h = (sFa [5] t_law_3_1_0) s h := (rfl)
@[simp] noncomputable def t_law_3_1 : FS := (sFb [5] (sFor (iRng1 (aCons (eBin addD (eC (.int 1)) (eBin modD (eCall 1 F__law_next (aCons (eVar 1) aNil)) (eC (.int 3)))) aNil)) (gVar 5) k_law_3_1))
@[simp] noncomputable def t_law_3_2a_0 : FS := (sRet (eC (.bl false)))
@[simp] noncomputable def t_law_3_2 : FS := (sIf (tNotF (tV (eCall 1 F__law_looked_at (aCons (eVar 4) aNil)))) t_law_3_2a_0 sNext)
@[simp] noncomputable def t_law_3_3 : FS := (sSet 6 (eLst true (aCons (eVar 4) aNil)))
@[simp] noncomputable def t_law_3_4a_0 : FS := (sExpr (eML appendD (eVar 6) (aCons (eBin ixD (eVar 4) (eC (.int 0))) aNil)))
@[simp] noncomputable def t_law_3_4 : FS := (sIf (tAndF (tV (eCall 1 F__law_is_row (aCons (eVar 4) aNil))) (tV (eBin gtD (eB lenD (aCons (eVar 4) aNil)) (eC (.int 0))))) t_law_3_4a_0 sNext)
@[simp] noncomputable def t_law_3_5_0a_0a_0 : FS := (sRet (eC (.bl false)))
@[simp] noncomputable def t_law_3_5_0a_0 : FS := (sIf (tNotF (tV (eCall 2 F__law_is_plain (aCons (eB tupleD (aCons (eVar 7) aNil)) (aCons (eBin addD (eC (.int 1)) (eVar 3)) aNil))))) t_law_3_5_0a_0a_0 sNext)
@[simp] noncomputable def t_law_3_5_0b_0a_0 : FS := (sRet (eC (.bl false)))
@[simp] noncomputable def t_law_3_5_0b_0 : FS := (sIf (tNotF (tV (eCall 1 F__law_plain_refused (aCons (eVar 7) aNil)))) t_law_3_5_0b_0a_0 sNext)
@[simp] noncomputable def t_law_3_5_0 : FS := (sIf (tV (eCall 5 F__law_are_wholes (aCons (eVar 7) (aCons (eC (.int 1)) (aCons (eC (.int 40)) (aCons (eC (.int 0)) (aCons (eC (.int 8)) aNil))))))) t_law_3_5_0a_0 t_law_3_5_0b_0)
noncomputable def k_law_3_5 : FS := (sFa [7] t_law_3_5_0)
@[simp] theorem k_law_3_5_ap (s : Ss) (h : Hs) : k_law_3_5 s h = (sFa [7] t_law_3_5_0) s h := (rfl)
@[simp] noncomputable def t_law_3_5 : FS := (sFb [7] (sFor (iRow (eVar 6)) (gVar 7) k_law_3_5))
noncomputable def k_law_3 : FS := (sFa [3, 4, 5, 6, 7] (sSeq t_law_3_0 (sSeq t_law_3_1 (sSeq t_law_3_2 (sSeq t_law_3_3 (sSeq t_law_3_4 t_law_3_5))))))
@[simp] theorem k_law_3_ap (s : Ss) (h : Hs) : k_law_3 s h = (sFa [3, 4, 5, 6, 7] (sSeq t_law_3_0 (sSeq t_law_3_1 (sSeq t_law_3_2 (sSeq t_law_3_3 (sSeq t_law_3_4 t_law_3_5)))))) s h := (rfl)
@[simp] noncomputable def t_law_3 : FS := (sFb [3, 4, 5, 6, 7] (sFor (iRng1 (aCons (eC (.int 8)) aNil)) (gVar 3) k_law_3))
@[simp] noncomputable def t_law_4 : FS := (sRet (eC (.bl true)))
noncomputable def b_law : FS :=
  (sSeq t_law_0 (sSeq t_law_1 (sSeq t_law_2 (sSeq t_law_3 t_law_4))))
noncomputable def F_law : List D → Hs → R D := runF 1 8 .trunc b_law
end WD
namespace WD
open PySem PySem.Spec PyProof.Rows L2
theorem sc_is_whole : FnScope ["thing", "least", "most"] ["thing", "least", "most"] (defScope s_is_whole) := ⟨rfl, rfl, rfl, by decide +kernel, rfl, by decide +kernel, by decide +kernel⟩
theorem sc_is_row : FnScope ["thing"] ["thing"] (defScope s_is_row) := ⟨rfl, rfl, rfl, by decide +kernel, rfl, by decide +kernel, by decide +kernel⟩
theorem sc_is_rising : FnScope ["thing", "least", "most", "last", "one"] ["thing", "least", "most"] (defScope s_is_rising) := ⟨rfl, rfl, rfl, by decide +kernel, rfl, by decide +kernel, by decide +kernel⟩
theorem sc_told_rows : FnScope ["thing", "one"] ["thing"] (defScope s_told_rows) := ⟨rfl, rfl, rfl, by decide +kernel, rfl, by decide +kernel, by decide +kernel⟩
theorem sc_is_numbers : FnScope ["thing", "one"] ["thing"] (defScope s_is_numbers) := ⟨rfl, rfl, rfl, by decide +kernel, rfl, by decide +kernel, by decide +kernel⟩
theorem sc_asked_numbers : FnScope ["thing"] ["thing"] (defScope s_asked_numbers) := ⟨rfl, rfl, rfl, by decide +kernel, rfl, by decide +kernel, by decide +kernel⟩
theorem sc_is_off : FnScope ["thing", "one"] ["thing"] (defScope s_is_off) := ⟨rfl, rfl, rfl, by decide +kernel, rfl, by decide +kernel, by decide +kernel⟩
theorem sc_is_pair : FnScope ["thing", "many"] ["thing", "many"] (defScope s_is_pair) := ⟨rfl, rfl, rfl, by decide +kernel, rfl, by decide +kernel, by decide +kernel⟩
theorem sc_are_pairs : FnScope ["thing", "many", "one", "pairs", "k"] ["thing", "many"] (defScope s_are_pairs) := ⟨rfl, rfl, rfl, by decide +kernel, rfl, by decide +kernel, by decide +kernel⟩
theorem sc_is_task : FnScope ["thing", "numbers", "hands", "off", "long", "tied"] ["thing"] (defScope s_is_task) := ⟨rfl, rfl, rfl, by decide +kernel, rfl, by decide +kernel, by decide +kernel⟩
theorem sc_plain : FnScope ["numbers"] ["numbers"] (defScope s_plain) := ⟨rfl, rfl, rfl, by decide +kernel, rfl, by decide +kernel, by decide +kernel⟩
theorem sc__law_cell : FnScope ["_law_script", "_law_k", "_law_spare"] ["_law_script", "_law_k"] (defScope s__law_cell) := ⟨rfl, rfl, rfl, by decide +kernel, rfl, by decide +kernel, by decide +kernel⟩
theorem sc__law_draws : FnScope ["_law_script", "_law_at", "_law_many", "_law_found", "_law_left", "_law_k", "_law_draw"] ["_law_script", "_law_at", "_law_many"] (defScope s__law_draws) := ⟨rfl, rfl, rfl, by decide +kernel, rfl, by decide +kernel, by decide +kernel⟩
theorem sc__law_next : FnScope ["_law_draws_here"] ["_law_draws_here"] (defScope s__law_next) := ⟨rfl, rfl, rfl, by decide +kernel, rfl, by decide +kernel, by decide +kernel⟩
theorem sc__law_of : FnScope ["_law_draws_here", "_law_some_here"] ["_law_draws_here", "_law_some_here"] (defScope s__law_of) := ⟨rfl, rfl, rfl, by decide +kernel, rfl, by decide +kernel, by decide +kernel⟩
theorem sc__law_some : FnScope ["_law_draws_here", "_law_many", "_law_often", "_law_draw", "_law_i"] ["_law_draws_here", "_law_many", "_law_often"] (defScope s__law_some) := ⟨rfl, rfl, rfl, by decide +kernel, rfl, by decide +kernel, by decide +kernel⟩
theorem sc__law_tied : FnScope ["_law_draws_here", "_law_many", "_law_draw", "_law_found", "_law_j", "_law_i"] ["_law_draws_here", "_law_many"] (defScope s__law_tied) := ⟨rfl, rfl, rfl, by decide +kernel, rfl, by decide +kernel, by decide +kernel⟩
theorem sc__law_off : FnScope ["_law_draws_here", "_law_left", "_law_draw", "_law_size", "_law_k"] ["_law_draws_here", "_law_left"] (defScope s__law_off) := ⟨rfl, rfl, rfl, by decide +kernel, rfl, by decide +kernel, by decide +kernel⟩
theorem sc__law_numbers : FnScope ["_law_draws_here", "_law_most", "_law_left", "_law_numbers_here", "_law_k", "_law_draw", "_law_some_here", "_law_number"] ["_law_draws_here", "_law_most", "_law_left"] (defScope s__law_numbers) := ⟨rfl, rfl, rfl, by decide +kernel, rfl, by decide +kernel, by decide +kernel⟩
theorem sc__law_task : FnScope ["_law_draws_here", "_law_most", "_law_left", "_law_numbers_here", "_law_number", "_law_hands", "_law_off_here"] ["_law_draws_here", "_law_most", "_law_left"] (defScope s__law_task) := ⟨rfl, rfl, rfl, by decide +kernel, rfl, by decide +kernel, by decide +kernel⟩
theorem sc__law_listed : FnScope ["_law_thing", "_law_draw", "_law_parts", "_law_k", "_law_one"] ["_law_thing", "_law_draw"] (defScope s__law_listed) := ⟨rfl, rfl, rfl, by decide +kernel, rfl, by decide +kernel, by decide +kernel⟩
theorem sc__law_spoil : FnScope ["_law_thing", "_law_one"] ["_law_thing"] (defScope s__law_spoil) := ⟨rfl, rfl, rfl, by decide +kernel, rfl, by decide +kernel, by decide +kernel⟩
theorem sc__law_other_kinds : FnScope ["_law_error", "_law_kinds"] ["_law_error"] (defScope s__law_other_kinds) := ⟨rfl, rfl, rfl, by decide +kernel, rfl, by decide +kernel, by decide +kernel⟩
theorem sc__law_is_whole : FnScope ["_law_thing", "_law_low", "_law_high"] ["_law_thing", "_law_low", "_law_high"] (defScope s__law_is_whole) := ⟨rfl, rfl, rfl, by decide +kernel, rfl, by decide +kernel, by decide +kernel⟩
theorem sc__law_is_row : FnScope ["_law_thing"] ["_law_thing"] (defScope s__law_is_row) := ⟨rfl, rfl, rfl, by decide +kernel, rfl, by decide +kernel, by decide +kernel⟩
theorem sc__law_are_some : FnScope ["_law_thing", "_law_many", "_law_one"] ["_law_thing", "_law_many"] (defScope s__law_are_some) := ⟨rfl, rfl, rfl, by decide +kernel, rfl, by decide +kernel, by decide +kernel⟩
theorem sc__law_are_pairs : FnScope ["_law_thing", "_law_many", "_law_one", "_law_pairs"] ["_law_thing", "_law_many"] (defScope s__law_are_pairs) := ⟨rfl, rfl, rfl, by decide +kernel, rfl, by decide +kernel, by decide +kernel⟩
theorem sc__law_are_wholes : FnScope ["_law_thing", "_law_low", "_law_high", "_law_least", "_law_most", "_law_one"] ["_law_thing", "_law_low", "_law_high", "_law_least", "_law_most"] (defScope s__law_are_wholes) := ⟨rfl, rfl, rfl, by decide +kernel, rfl, by decide +kernel, by decide +kernel⟩
theorem sc__law_is_task : FnScope ["_law_thing"] ["_law_thing"] (defScope s__law_is_task) := ⟨rfl, rfl, rfl, by decide +kernel, rfl, by decide +kernel, by decide +kernel⟩
theorem sc__law_nested : FnScope ["_law_deep", "_law_found", "_law_k"] ["_law_deep"] (defScope s__law_nested) := ⟨rfl, rfl, rfl, by decide +kernel, rfl, by decide +kernel, by decide +kernel⟩
theorem sc__law_odd : FnScope ["_law_draws_here", "_law_some_here"] ["_law_draws_here"] (defScope s__law_odd) := ⟨rfl, rfl, rfl, by decide +kernel, rfl, by decide +kernel, by decide +kernel⟩
theorem sc__law_bent_row : FnScope ["_law_draws_here", "_law_row", "_law_at", "_law_way", "_law_some_here", "_law_number"] ["_law_draws_here", "_law_row"] (defScope s__law_bent_row) := ⟨rfl, rfl, rfl, by decide +kernel, rfl, by decide +kernel, by decide +kernel⟩
theorem sc__law_bent : FnScope ["_law_draws_here", "_law_task_here", "_law_parts", "_law_way", "_law_at"] ["_law_draws_here", "_law_task_here"] (defScope s__law_bent) := ⟨rfl, rfl, rfl, by decide +kernel, rfl, by decide +kernel, by decide +kernel⟩
theorem sc__law_plain_refused : FnScope ["_law_thing", "_law_error", "_law_kinds"] ["_law_thing"] (defScope s__law_plain_refused) := ⟨rfl, rfl, rfl, by decide +kernel, rfl, by decide +kernel, by decide +kernel⟩
theorem sc__law_is_plain : FnScope ["_law_numbers_here", "_law_draw", "_law_handed", "_law_held", "_law_found"] ["_law_numbers_here", "_law_draw"] (defScope s__law_is_plain) := ⟨rfl, rfl, rfl, by decide +kernel, rfl, by decide +kernel, by decide +kernel⟩
theorem sc__law_looked_at : FnScope ["_law_thing", "_law_held", "_law_due", "_law_turn"] ["_law_thing"] (defScope s__law_looked_at) := ⟨rfl, rfl, rfl, by decide +kernel, rfl, by decide +kernel, by decide +kernel⟩
theorem sc_law : FnScope ["_law_script", "_law_draws_here", "_law_task_here", "_law_turn", "_law_thing", "_law_k", "_law_some_here", "_law_part"] ["_law_script"] (defScope s_law) := ⟨rfl, rfl, rfl, by decide +kernel, rfl, by decide +kernel, by decide +kernel⟩
structure Adr where
  f_is_whole : Addr
  d_is_whole : FuncData
  f_is_row : Addr
  d_is_row : FuncData
  f_is_rising : Addr
  d_is_rising : FuncData
  f_told_rows : Addr
  d_told_rows : FuncData
  f_is_numbers : Addr
  d_is_numbers : FuncData
  f_asked_numbers : Addr
  d_asked_numbers : FuncData
  f_is_off : Addr
  d_is_off : FuncData
  f_is_pair : Addr
  d_is_pair : FuncData
  f_are_pairs : Addr
  d_are_pairs : FuncData
  f_is_task : Addr
  d_is_task : FuncData
  f_plain : Addr
  d_plain : FuncData
  f__law_cell : Addr
  d__law_cell : FuncData
  f__law_draws : Addr
  d__law_draws : FuncData
  f__law_next : Addr
  d__law_next : FuncData
  f__law_of : Addr
  d__law_of : FuncData
  f__law_some : Addr
  d__law_some : FuncData
  f__law_tied : Addr
  d__law_tied : FuncData
  f__law_off : Addr
  d__law_off : FuncData
  f__law_numbers : Addr
  d__law_numbers : FuncData
  f__law_task : Addr
  d__law_task : FuncData
  f__law_listed : Addr
  d__law_listed : FuncData
  f__law_spoil : Addr
  d__law_spoil : FuncData
  f__law_other_kinds : Addr
  d__law_other_kinds : FuncData
  f__law_is_whole : Addr
  d__law_is_whole : FuncData
  f__law_is_row : Addr
  d__law_is_row : FuncData
  f__law_are_some : Addr
  d__law_are_some : FuncData
  f__law_are_pairs : Addr
  d__law_are_pairs : FuncData
  f__law_are_wholes : Addr
  d__law_are_wholes : FuncData
  f__law_is_task : Addr
  d__law_is_task : FuncData
  f__law_nested : Addr
  d__law_nested : FuncData
  f__law_odd : Addr
  d__law_odd : FuncData
  f__law_bent_row : Addr
  d__law_bent_row : FuncData
  f__law_bent : Addr
  d__law_bent : FuncData
  f__law_plain_refused : Addr
  d__law_plain_refused : FuncData
  f__law_is_plain : Addr
  d__law_is_plain : FuncData
  f__law_looked_at : Addr
  d__law_looked_at : FuncData
  f_law : Addr
  d_law : FuncData
  c_DaysError : Addr
  c_NoNumbers : Addr
  c_NoDays : Addr
  c_NoRing : Addr
  c_NoTask : Addr
  c_NoThing : Addr
  c_NoStand : Addr
  c_NoDay : Addr
  c_NoPaper : Addr
  c_NoText : Addr
  c_NotThere : Addr
  c_Broken : Addr
  c_TooMany : Addr
  i_TooMany : Addr
  j_TooMany : FuncData
  t_GREATEST : Tok
  t_MOST_HANDS : Tok
  t_MOST_OFF : Tok
  t_MOST_THINGS : Tok
  t_PARTS : Tok
structure Txt (K : PySem.W.Frag) (mg : Str → Option Value) (A : Adr) : Prop where
  u_is_whole : Fun K "is_whole" "is_whole" s_is_whole A.f_is_whole A.d_is_whole
  g_is_whole : mg "is_whole" = some (.ref A.f_is_whole)
  b_is_whole : Binds K A.d_is_whole ["thing", "least", "most"] []
  u_is_row : Fun K "is_row" "is_row" s_is_row A.f_is_row A.d_is_row
  g_is_row : mg "is_row" = some (.ref A.f_is_row)
  b_is_row : Binds K A.d_is_row ["thing"] []
  u_is_rising : Fun K "is_rising" "is_rising" s_is_rising A.f_is_rising A.d_is_rising
  g_is_rising : mg "is_rising" = some (.ref A.f_is_rising)
  b_is_rising : Binds K A.d_is_rising ["thing", "least", "most"] []
  u_told_rows : Fun K "told_rows" "told_rows" s_told_rows A.f_told_rows A.d_told_rows
  g_told_rows : mg "told_rows" = some (.ref A.f_told_rows)
  b_told_rows : Binds K A.d_told_rows ["thing"] []
  u_is_numbers : Fun K "is_numbers" "is_numbers" s_is_numbers A.f_is_numbers A.d_is_numbers
  g_is_numbers : mg "is_numbers" = some (.ref A.f_is_numbers)
  b_is_numbers : Binds K A.d_is_numbers ["thing"] []
  u_asked_numbers : Fun K "asked_numbers" "asked_numbers" s_asked_numbers A.f_asked_numbers A.d_asked_numbers
  g_asked_numbers : mg "asked_numbers" = some (.ref A.f_asked_numbers)
  b_asked_numbers : Binds K A.d_asked_numbers ["thing"] []
  u_is_off : Fun K "is_off" "is_off" s_is_off A.f_is_off A.d_is_off
  g_is_off : mg "is_off" = some (.ref A.f_is_off)
  b_is_off : Binds K A.d_is_off ["thing"] []
  u_is_pair : Fun K "is_pair" "is_pair" s_is_pair A.f_is_pair A.d_is_pair
  g_is_pair : mg "is_pair" = some (.ref A.f_is_pair)
  b_is_pair : Binds K A.d_is_pair ["thing", "many"] []
  u_are_pairs : Fun K "are_pairs" "are_pairs" s_are_pairs A.f_are_pairs A.d_are_pairs
  g_are_pairs : mg "are_pairs" = some (.ref A.f_are_pairs)
  b_are_pairs : Binds K A.d_are_pairs ["thing", "many"] []
  u_is_task : Fun K "is_task" "is_task" s_is_task A.f_is_task A.d_is_task
  g_is_task : mg "is_task" = some (.ref A.f_is_task)
  b_is_task : Binds K A.d_is_task ["thing"] []
  u_plain : Fun K "plain" "plain" s_plain A.f_plain A.d_plain
  g_plain : mg "plain" = some (.ref A.f_plain)
  b_plain : Binds K A.d_plain ["numbers"] []
  u__law_cell : Fun K "_law_cell" "_law_cell" s__law_cell A.f__law_cell A.d__law_cell
  g__law_cell : mg "_law_cell" = some (.ref A.f__law_cell)
  b__law_cell : Binds K A.d__law_cell ["_law_script", "_law_k"] []
  u__law_draws : Fun K "_law_draws" "_law_draws" s__law_draws A.f__law_draws A.d__law_draws
  g__law_draws : mg "_law_draws" = some (.ref A.f__law_draws)
  b__law_draws : Binds K A.d__law_draws ["_law_script", "_law_at", "_law_many"] []
  u__law_next : Fun K "_law_next" "_law_next" s__law_next A.f__law_next A.d__law_next
  g__law_next : mg "_law_next" = some (.ref A.f__law_next)
  b__law_next : Binds K A.d__law_next ["_law_draws_here"] []
  u__law_of : Fun K "_law_of" "_law_of" s__law_of A.f__law_of A.d__law_of
  g__law_of : mg "_law_of" = some (.ref A.f__law_of)
  b__law_of : Binds K A.d__law_of ["_law_draws_here", "_law_some_here"] []
  u__law_some : Fun K "_law_some" "_law_some" s__law_some A.f__law_some A.d__law_some
  g__law_some : mg "_law_some" = some (.ref A.f__law_some)
  b__law_some : Binds K A.d__law_some ["_law_draws_here", "_law_many", "_law_often"] []
  u__law_tied : Fun K "_law_tied" "_law_tied" s__law_tied A.f__law_tied A.d__law_tied
  g__law_tied : mg "_law_tied" = some (.ref A.f__law_tied)
  b__law_tied : Binds K A.d__law_tied ["_law_draws_here", "_law_many"] []
  u__law_off : Fun K "_law_off" "_law_off" s__law_off A.f__law_off A.d__law_off
  g__law_off : mg "_law_off" = some (.ref A.f__law_off)
  b__law_off : Binds K A.d__law_off ["_law_draws_here", "_law_left"] []
  u__law_numbers : Fun K "_law_numbers" "_law_numbers" s__law_numbers A.f__law_numbers A.d__law_numbers
  g__law_numbers : mg "_law_numbers" = some (.ref A.f__law_numbers)
  b__law_numbers : Binds K A.d__law_numbers ["_law_draws_here", "_law_most", "_law_left"] []
  u__law_task : Fun K "_law_task" "_law_task" s__law_task A.f__law_task A.d__law_task
  g__law_task : mg "_law_task" = some (.ref A.f__law_task)
  b__law_task : Binds K A.d__law_task ["_law_draws_here", "_law_most", "_law_left"] []
  u__law_listed : Fun K "_law_listed" "_law_listed" s__law_listed A.f__law_listed A.d__law_listed
  g__law_listed : mg "_law_listed" = some (.ref A.f__law_listed)
  b__law_listed : Binds K A.d__law_listed ["_law_thing", "_law_draw"] []
  u__law_spoil : Fun K "_law_spoil" "_law_spoil" s__law_spoil A.f__law_spoil A.d__law_spoil
  g__law_spoil : mg "_law_spoil" = some (.ref A.f__law_spoil)
  b__law_spoil : Binds K A.d__law_spoil ["_law_thing"] []
  u__law_other_kinds : Fun K "_law_other_kinds" "_law_other_kinds" s__law_other_kinds A.f__law_other_kinds A.d__law_other_kinds
  g__law_other_kinds : mg "_law_other_kinds" = some (.ref A.f__law_other_kinds)
  b__law_other_kinds : Binds K A.d__law_other_kinds ["_law_error"] []
  u__law_is_whole : Fun K "_law_is_whole" "_law_is_whole" s__law_is_whole A.f__law_is_whole A.d__law_is_whole
  g__law_is_whole : mg "_law_is_whole" = some (.ref A.f__law_is_whole)
  b__law_is_whole : Binds K A.d__law_is_whole ["_law_thing", "_law_low", "_law_high"] []
  u__law_is_row : Fun K "_law_is_row" "_law_is_row" s__law_is_row A.f__law_is_row A.d__law_is_row
  g__law_is_row : mg "_law_is_row" = some (.ref A.f__law_is_row)
  b__law_is_row : Binds K A.d__law_is_row ["_law_thing"] []
  u__law_are_some : Fun K "_law_are_some" "_law_are_some" s__law_are_some A.f__law_are_some A.d__law_are_some
  g__law_are_some : mg "_law_are_some" = some (.ref A.f__law_are_some)
  b__law_are_some : Binds K A.d__law_are_some ["_law_thing", "_law_many"] []
  u__law_are_pairs : Fun K "_law_are_pairs" "_law_are_pairs" s__law_are_pairs A.f__law_are_pairs A.d__law_are_pairs
  g__law_are_pairs : mg "_law_are_pairs" = some (.ref A.f__law_are_pairs)
  b__law_are_pairs : Binds K A.d__law_are_pairs ["_law_thing", "_law_many"] []
  u__law_are_wholes : Fun K "_law_are_wholes" "_law_are_wholes" s__law_are_wholes A.f__law_are_wholes A.d__law_are_wholes
  g__law_are_wholes : mg "_law_are_wholes" = some (.ref A.f__law_are_wholes)
  b__law_are_wholes : Binds K A.d__law_are_wholes ["_law_thing", "_law_low", "_law_high", "_law_least", "_law_most"] []
  u__law_is_task : Fun K "_law_is_task" "_law_is_task" s__law_is_task A.f__law_is_task A.d__law_is_task
  g__law_is_task : mg "_law_is_task" = some (.ref A.f__law_is_task)
  b__law_is_task : Binds K A.d__law_is_task ["_law_thing"] []
  u__law_nested : Fun K "_law_nested" "_law_nested" s__law_nested A.f__law_nested A.d__law_nested
  g__law_nested : mg "_law_nested" = some (.ref A.f__law_nested)
  b__law_nested : Binds K A.d__law_nested ["_law_deep"] []
  u__law_odd : Fun K "_law_odd" "_law_odd" s__law_odd A.f__law_odd A.d__law_odd
  g__law_odd : mg "_law_odd" = some (.ref A.f__law_odd)
  b__law_odd : Binds K A.d__law_odd ["_law_draws_here"] []
  u__law_bent_row : Fun K "_law_bent_row" "_law_bent_row" s__law_bent_row A.f__law_bent_row A.d__law_bent_row
  g__law_bent_row : mg "_law_bent_row" = some (.ref A.f__law_bent_row)
  b__law_bent_row : Binds K A.d__law_bent_row ["_law_draws_here", "_law_row"] []
  u__law_bent : Fun K "_law_bent" "_law_bent" s__law_bent A.f__law_bent A.d__law_bent
  g__law_bent : mg "_law_bent" = some (.ref A.f__law_bent)
  b__law_bent : Binds K A.d__law_bent ["_law_draws_here", "_law_task_here"] []
  u__law_plain_refused : Fun K "_law_plain_refused" "_law_plain_refused" s__law_plain_refused A.f__law_plain_refused A.d__law_plain_refused
  g__law_plain_refused : mg "_law_plain_refused" = some (.ref A.f__law_plain_refused)
  b__law_plain_refused : Binds K A.d__law_plain_refused ["_law_thing"] []
  u__law_is_plain : Fun K "_law_is_plain" "_law_is_plain" s__law_is_plain A.f__law_is_plain A.d__law_is_plain
  g__law_is_plain : mg "_law_is_plain" = some (.ref A.f__law_is_plain)
  b__law_is_plain : Binds K A.d__law_is_plain ["_law_numbers_here", "_law_draw"] []
  u__law_looked_at : Fun K "_law_looked_at" "_law_looked_at" s__law_looked_at A.f__law_looked_at A.d__law_looked_at
  g__law_looked_at : mg "_law_looked_at" = some (.ref A.f__law_looked_at)
  b__law_looked_at : Binds K A.d__law_looked_at ["_law_thing"] []
  u_law : Fun K "law" "law" s_law A.f_law A.d_law
  g_law : mg "law" = some (.ref A.f_law)
  b_law : Binds K A.d_law ["_law_script"] []
  z_ValueError : mg "ValueError" = none
  z_bool : mg "bool" = none
  z_enumerate : mg "enumerate" = none
  z_int : mg "int" = none
  z_isinstance : mg "isinstance" = none
  z_len : mg "len" = none
  z_list : mg "list" = none
  z_max : mg "max" = none
  z_range : mg "range" = none
  z_repr : mg "repr" = none
  z_reversed : mg "reversed" = none
  z_set : mg "set" = none
  z_sorted : mg "sorted" = none
  z_tuple : mg "tuple" = none
  o_TooMany : OexC K A.c_TooMany
  n_TooMany : PySem.W.findIn K (.ref A.c_TooMany) "most" = some none
  i_TooMany : PySem.W.findIn K (.ref A.c_TooMany) "__init__" = some (some (.ref A.i_TooMany))
  t_TooMany : PySem.W.typeIn K (.ref A.i_TooMany) = some (.type "function")
  u_TooMany : Fun K "__init__" "TooMany.__init__" si_TooMany A.i_TooMany A.j_TooMany
  b_TooMany : Binds K A.j_TooMany ["self", "most"] []
  x_DaysError : Xc K mg "DaysError" A.c_DaysError
  x_NoNumbers : Xc K mg "NoNumbers" A.c_NoNumbers
  x_NoDays : Xg K mg "NoDays" A.c_NoDays
  x_NoRing : Xg K mg "NoRing" A.c_NoRing
  x_NoTask : Xg K mg "NoTask" A.c_NoTask
  x_NoThing : Xg K mg "NoThing" A.c_NoThing
  x_NoStand : Xg K mg "NoStand" A.c_NoStand
  x_NoDay : Xg K mg "NoDay" A.c_NoDay
  x_NoPaper : Xg K mg "NoPaper" A.c_NoPaper
  x_NoText : Xg K mg "NoText" A.c_NoText
  x_NotThere : Xg K mg "NotThere" A.c_NotThere
  x_Broken : Xg K mg "Broken" A.c_Broken
  x_TooMany : Xg K mg "TooMany" A.c_TooMany
  e_NoNumbers : ExcC K A.c_NoNumbers
  e_TooMany : ExcC K A.c_TooMany
  m_NoNumbers_DaysError : PySem.W.exmOne K (.ref A.c_NoNumbers) (.ref A.c_DaysError) = some (subX "NoNumbers" "DaysError")
  m_TooMany_DaysError : PySem.W.exmOne K (.ref A.c_TooMany) (.ref A.c_DaysError) = some (subX "TooMany" "DaysError")
  k_NoNumbers_Broken : PySem.W.kitOne K (.ref A.c_NoNumbers) (.ref A.c_Broken) = some (subX "NoNumbers" "Broken")
  k_TooMany_Broken : PySem.W.kitOne K (.ref A.c_TooMany) (.ref A.c_Broken) = some (subX "TooMany" "Broken")
  k_NoNumbers_NoDay : PySem.W.kitOne K (.ref A.c_NoNumbers) (.ref A.c_NoDay) = some (subX "NoNumbers" "NoDay")
  k_TooMany_NoDay : PySem.W.kitOne K (.ref A.c_TooMany) (.ref A.c_NoDay) = some (subX "TooMany" "NoDay")
  k_NoNumbers_NoDays : PySem.W.kitOne K (.ref A.c_NoNumbers) (.ref A.c_NoDays) = some (subX "NoNumbers" "NoDays")
  k_TooMany_NoDays : PySem.W.kitOne K (.ref A.c_TooMany) (.ref A.c_NoDays) = some (subX "TooMany" "NoDays")
  k_NoNumbers_NoNumbers : PySem.W.kitOne K (.ref A.c_NoNumbers) (.ref A.c_NoNumbers) = some (subX "NoNumbers" "NoNumbers")
  k_TooMany_NoNumbers : PySem.W.kitOne K (.ref A.c_TooMany) (.ref A.c_NoNumbers) = some (subX "TooMany" "NoNumbers")
  k_NoNumbers_NoPaper : PySem.W.kitOne K (.ref A.c_NoNumbers) (.ref A.c_NoPaper) = some (subX "NoNumbers" "NoPaper")
  k_TooMany_NoPaper : PySem.W.kitOne K (.ref A.c_TooMany) (.ref A.c_NoPaper) = some (subX "TooMany" "NoPaper")
  k_NoNumbers_NoRing : PySem.W.kitOne K (.ref A.c_NoNumbers) (.ref A.c_NoRing) = some (subX "NoNumbers" "NoRing")
  k_TooMany_NoRing : PySem.W.kitOne K (.ref A.c_TooMany) (.ref A.c_NoRing) = some (subX "TooMany" "NoRing")
  k_NoNumbers_NoStand : PySem.W.kitOne K (.ref A.c_NoNumbers) (.ref A.c_NoStand) = some (subX "NoNumbers" "NoStand")
  k_TooMany_NoStand : PySem.W.kitOne K (.ref A.c_TooMany) (.ref A.c_NoStand) = some (subX "TooMany" "NoStand")
  k_NoNumbers_NoTask : PySem.W.kitOne K (.ref A.c_NoNumbers) (.ref A.c_NoTask) = some (subX "NoNumbers" "NoTask")
  k_TooMany_NoTask : PySem.W.kitOne K (.ref A.c_TooMany) (.ref A.c_NoTask) = some (subX "TooMany" "NoTask")
  k_NoNumbers_NoText : PySem.W.kitOne K (.ref A.c_NoNumbers) (.ref A.c_NoText) = some (subX "NoNumbers" "NoText")
  k_TooMany_NoText : PySem.W.kitOne K (.ref A.c_TooMany) (.ref A.c_NoText) = some (subX "TooMany" "NoText")
  k_NoNumbers_NoThing : PySem.W.kitOne K (.ref A.c_NoNumbers) (.ref A.c_NoThing) = some (subX "NoNumbers" "NoThing")
  k_TooMany_NoThing : PySem.W.kitOne K (.ref A.c_TooMany) (.ref A.c_NoThing) = some (subX "TooMany" "NoThing")
  k_NoNumbers_NotThere : PySem.W.kitOne K (.ref A.c_NoNumbers) (.ref A.c_NotThere) = some (subX "NoNumbers" "NotThere")
  k_TooMany_NotThere : PySem.W.kitOne K (.ref A.c_TooMany) (.ref A.c_NotThere) = some (subX "TooMany" "NotThere")
  k_NoNumbers_TooMany : PySem.W.kitOne K (.ref A.c_NoNumbers) (.ref A.c_TooMany) = some (subX "NoNumbers" "TooMany")
  k_TooMany_TooMany : PySem.W.kitOne K (.ref A.c_TooMany) (.ref A.c_TooMany) = some (subX "TooMany" "TooMany")
  k_NoNumbers_ValueError : PySem.W.kitOne K (.ref A.c_NoNumbers) (.type "ValueError") = some (subX "NoNumbers" "ValueError")
  k_TooMany_ValueError : PySem.W.kitOne K (.ref A.c_TooMany) (.type "ValueError") = some (subX "TooMany" "ValueError")
  c_GREATEST : mg "GREATEST" = some (.int 40 A.t_GREATEST)
  c_MOST_HANDS : mg "MOST_HANDS" = some (.int 2 A.t_MOST_HANDS)
  c_MOST_OFF : mg "MOST_OFF" = some (.int 7 A.t_MOST_OFF)
  c_MOST_THINGS : mg "MOST_THINGS" = some (.int 8 A.t_MOST_THINGS)
  c_PARTS : mg "PARTS" = some (.int 5 A.t_PARTS)
section
variable {P : Program} {w : World} {K : PySem.W.Frag} {mg : Str → Option Value} {base : Heap} {A : Adr}
theorem cls_at (T : Txt K mg A) : ∀ y ∈ (["NoNumbers"] : List Str), (y = "NoNumbers" ∧ clsV mg ⟨y, none⟩ = .ref A.c_NoNumbers) := by
  intro y hy
  simp only [List.mem_cons, List.not_mem_nil, or_false] at hy
  rcases hy with rfl
  · exact ⟨rfl, by unfold clsV; rw [T.x_NoNumbers.g]; rfl⟩
theorem exc_at (T : Txt K mg A) : ∀ y ∈ (["NoNumbers"] : List Str), ∃ Dc, clsV mg ⟨y, none⟩ = .ref Dc ∧ ExcC K Dc := by
  intro y hy
  rcases cls_at T y hy with ⟨rfl, e⟩
  · exact ⟨A.c_NoNumbers, e, T.e_NoNumbers⟩
theorem exm_DaysError (T : Txt K mg A) : ∀ y ∈ (["NoNumbers"] : List Str), PySem.W.exmOne K (clsV mg ⟨y, none⟩) (.ref A.c_DaysError) = some (subX y "DaysError") := by
  intro y hy
  rcases cls_at T y hy with ⟨rfl, e⟩
  · rw [e]; exact T.m_NoNumbers_DaysError
theorem excF_at (T : Txt K mg A) : ∀ y ff, (y, ff) ∈ ([("TooMany", "most")] : List (Str × Str)) → ∃ Dc, clsV mg ⟨y, none⟩ = .ref Dc ∧ ExcC K Dc := by
  intro y ff hy
  simp only [List.mem_cons, List.not_mem_nil, or_false, Prod.mk.injEq] at hy
  rcases hy with ⟨rfl, rfl⟩
  · have e : clsV mg ⟨"TooMany", none⟩ = .ref A.c_TooMany := by unfold clsV; rw [T.x_TooMany.g]; rfl
    exact ⟨A.c_TooMany, e, T.e_TooMany⟩
theorem exmF_DaysError (T : Txt K mg A) : ∀ y ff, (y, ff) ∈ ([("TooMany", "most")] : List (Str × Str)) → PySem.W.exmOne K (clsV mg ⟨y, none⟩) (.ref A.c_DaysError) = some (subX y "DaysError") := by
  intro y ff hy
  simp only [List.mem_cons, List.not_mem_nil, or_false, Prod.mk.injEq] at hy
  rcases hy with ⟨rfl, rfl⟩
  · have e : clsV mg ⟨"TooMany", none⟩ = .ref A.c_TooMany := by unfold clsV; rw [T.x_TooMany.g]; rfl
    rw [e]; exact T.m_TooMany_DaysError
theorem exmX_DaysError (T : Txt K mg A) : ∀ y : Xn, OkX ["NoNumbers"] [("TooMany", "most")] y → PySem.W.exmOne K (clsV mg y) (.ref A.c_DaysError) = some (subX y.name "DaysError") := by
  intro y hy
  obtain ⟨n, v⟩ := y
  cases v with
  | none => exact exm_DaysError T n hy
  | some fd => exact exmF_DaysError T n fd.1 hy
theorem kitF_Broken (T : Txt K mg A) : ∀ y ff, (y, ff) ∈ ([("TooMany", "most")] : List (Str × Str)) → PySem.W.kitOne K (clsV mg ⟨y, none⟩) (.ref A.c_Broken) = some (subX y "Broken") := by
  intro y ff hy
  simp only [List.mem_cons, List.not_mem_nil, or_false, Prod.mk.injEq] at hy
  rcases hy with ⟨rfl, rfl⟩
  · have e : clsV mg ⟨"TooMany", none⟩ = .ref A.c_TooMany := by unfold clsV; rw [T.x_TooMany.g]; rfl
    rw [e]; exact T.k_TooMany_Broken
theorem kitF_NoDay (T : Txt K mg A) : ∀ y ff, (y, ff) ∈ ([("TooMany", "most")] : List (Str × Str)) → PySem.W.kitOne K (clsV mg ⟨y, none⟩) (.ref A.c_NoDay) = some (subX y "NoDay") := by
  intro y ff hy
  simp only [List.mem_cons, List.not_mem_nil, or_false, Prod.mk.injEq] at hy
  rcases hy with ⟨rfl, rfl⟩
  · have e : clsV mg ⟨"TooMany", none⟩ = .ref A.c_TooMany := by unfold clsV; rw [T.x_TooMany.g]; rfl
    rw [e]; exact T.k_TooMany_NoDay
theorem kitF_NoDays (T : Txt K mg A) : ∀ y ff, (y, ff) ∈ ([("TooMany", "most")] : List (Str × Str)) → PySem.W.kitOne K (clsV mg ⟨y, none⟩) (.ref A.c_NoDays) = some (subX y "NoDays") := by
  intro y ff hy
  simp only [List.mem_cons, List.not_mem_nil, or_false, Prod.mk.injEq] at hy
  rcases hy with ⟨rfl, rfl⟩
  · have e : clsV mg ⟨"TooMany", none⟩ = .ref A.c_TooMany := by unfold clsV; rw [T.x_TooMany.g]; rfl
    rw [e]; exact T.k_TooMany_NoDays
theorem kitF_NoNumbers (T : Txt K mg A) : ∀ y ff, (y, ff) ∈ ([("TooMany", "most")] : List (Str × Str)) → PySem.W.kitOne K (clsV mg ⟨y, none⟩) (.ref A.c_NoNumbers) = some (subX y "NoNumbers") := by
  intro y ff hy
  simp only [List.mem_cons, List.not_mem_nil, or_false, Prod.mk.injEq] at hy
  rcases hy with ⟨rfl, rfl⟩
  · have e : clsV mg ⟨"TooMany", none⟩ = .ref A.c_TooMany := by unfold clsV; rw [T.x_TooMany.g]; rfl
    rw [e]; exact T.k_TooMany_NoNumbers
theorem kitF_NoPaper (T : Txt K mg A) : ∀ y ff, (y, ff) ∈ ([("TooMany", "most")] : List (Str × Str)) → PySem.W.kitOne K (clsV mg ⟨y, none⟩) (.ref A.c_NoPaper) = some (subX y "NoPaper") := by
  intro y ff hy
  simp only [List.mem_cons, List.not_mem_nil, or_false, Prod.mk.injEq] at hy
  rcases hy with ⟨rfl, rfl⟩
  · have e : clsV mg ⟨"TooMany", none⟩ = .ref A.c_TooMany := by unfold clsV; rw [T.x_TooMany.g]; rfl
    rw [e]; exact T.k_TooMany_NoPaper
theorem kitF_NoRing (T : Txt K mg A) : ∀ y ff, (y, ff) ∈ ([("TooMany", "most")] : List (Str × Str)) → PySem.W.kitOne K (clsV mg ⟨y, none⟩) (.ref A.c_NoRing) = some (subX y "NoRing") := by
  intro y ff hy
  simp only [List.mem_cons, List.not_mem_nil, or_false, Prod.mk.injEq] at hy
  rcases hy with ⟨rfl, rfl⟩
  · have e : clsV mg ⟨"TooMany", none⟩ = .ref A.c_TooMany := by unfold clsV; rw [T.x_TooMany.g]; rfl
    rw [e]; exact T.k_TooMany_NoRing
theorem kitF_NoStand (T : Txt K mg A) : ∀ y ff, (y, ff) ∈ ([("TooMany", "most")] : List (Str × Str)) → PySem.W.kitOne K (clsV mg ⟨y, none⟩) (.ref A.c_NoStand) = some (subX y "NoStand") := by
  intro y ff hy
  simp only [List.mem_cons, List.not_mem_nil, or_false, Prod.mk.injEq] at hy
  rcases hy with ⟨rfl, rfl⟩
  · have e : clsV mg ⟨"TooMany", none⟩ = .ref A.c_TooMany := by unfold clsV; rw [T.x_TooMany.g]; rfl
    rw [e]; exact T.k_TooMany_NoStand
theorem kitF_NoTask (T : Txt K mg A) : ∀ y ff, (y, ff) ∈ ([("TooMany", "most")] : List (Str × Str)) → PySem.W.kitOne K (clsV mg ⟨y, none⟩) (.ref A.c_NoTask) = some (subX y "NoTask") := by
  intro y ff hy
  simp only [List.mem_cons, List.not_mem_nil, or_false, Prod.mk.injEq] at hy
  rcases hy with ⟨rfl, rfl⟩
  · have e : clsV mg ⟨"TooMany", none⟩ = .ref A.c_TooMany := by unfold clsV; rw [T.x_TooMany.g]; rfl
    rw [e]; exact T.k_TooMany_NoTask
theorem kitF_NoText (T : Txt K mg A) : ∀ y ff, (y, ff) ∈ ([("TooMany", "most")] : List (Str × Str)) → PySem.W.kitOne K (clsV mg ⟨y, none⟩) (.ref A.c_NoText) = some (subX y "NoText") := by
  intro y ff hy
  simp only [List.mem_cons, List.not_mem_nil, or_false, Prod.mk.injEq] at hy
  rcases hy with ⟨rfl, rfl⟩
  · have e : clsV mg ⟨"TooMany", none⟩ = .ref A.c_TooMany := by unfold clsV; rw [T.x_TooMany.g]; rfl
    rw [e]; exact T.k_TooMany_NoText
theorem kitF_NoThing (T : Txt K mg A) : ∀ y ff, (y, ff) ∈ ([("TooMany", "most")] : List (Str × Str)) → PySem.W.kitOne K (clsV mg ⟨y, none⟩) (.ref A.c_NoThing) = some (subX y "NoThing") := by
  intro y ff hy
  simp only [List.mem_cons, List.not_mem_nil, or_false, Prod.mk.injEq] at hy
  rcases hy with ⟨rfl, rfl⟩
  · have e : clsV mg ⟨"TooMany", none⟩ = .ref A.c_TooMany := by unfold clsV; rw [T.x_TooMany.g]; rfl
    rw [e]; exact T.k_TooMany_NoThing
theorem kitF_NotThere (T : Txt K mg A) : ∀ y ff, (y, ff) ∈ ([("TooMany", "most")] : List (Str × Str)) → PySem.W.kitOne K (clsV mg ⟨y, none⟩) (.ref A.c_NotThere) = some (subX y "NotThere") := by
  intro y ff hy
  simp only [List.mem_cons, List.not_mem_nil, or_false, Prod.mk.injEq] at hy
  rcases hy with ⟨rfl, rfl⟩
  · have e : clsV mg ⟨"TooMany", none⟩ = .ref A.c_TooMany := by unfold clsV; rw [T.x_TooMany.g]; rfl
    rw [e]; exact T.k_TooMany_NotThere
theorem kitF_TooMany (T : Txt K mg A) : ∀ y ff, (y, ff) ∈ ([("TooMany", "most")] : List (Str × Str)) → PySem.W.kitOne K (clsV mg ⟨y, none⟩) (.ref A.c_TooMany) = some (subX y "TooMany") := by
  intro y ff hy
  simp only [List.mem_cons, List.not_mem_nil, or_false, Prod.mk.injEq] at hy
  rcases hy with ⟨rfl, rfl⟩
  · have e : clsV mg ⟨"TooMany", none⟩ = .ref A.c_TooMany := by unfold clsV; rw [T.x_TooMany.g]; rfl
    rw [e]; exact T.k_TooMany_TooMany
theorem kitF_ValueError (T : Txt K mg A) : ∀ y ff, (y, ff) ∈ ([("TooMany", "most")] : List (Str × Str)) → PySem.W.kitOne K (clsV mg ⟨y, none⟩) (.type "ValueError") = some (subX y "ValueError") := by
  intro y ff hy
  simp only [List.mem_cons, List.not_mem_nil, or_false, Prod.mk.injEq] at hy
  rcases hy with ⟨rfl, rfl⟩
  · have e : clsV mg ⟨"TooMany", none⟩ = .ref A.c_TooMany := by unfold clsV; rw [T.x_TooMany.g]; rfl
    rw [e]; exact T.k_TooMany_ValueError
theorem fld_most (T : Txt K mg A) : ∀ y ff, (y, ff) ∈ ([("TooMany", "most")] : List (Str × Str)) → ff = "most" → ∀ Dc, clsV mg ⟨y, none⟩ = .ref Dc → PySem.W.findIn K (.ref Dc) "most" = some none := by
  intro y ff hy
  simp only [List.mem_cons, List.not_mem_nil, or_false, Prod.mk.injEq] at hy
  rcases hy with ⟨rfl, rfl⟩
  · have e : clsV mg ⟨"TooMany", none⟩ = .ref A.c_TooMany := by unfold clsV; rw [T.x_TooMany.g]; rfl
    intro _ Dc eD; rw [e] at eD; cases eD; exact T.n_TooMany
theorem kit_Broken (T : Txt K mg A) : ∀ y ∈ (["NoNumbers"] : List Str), PySem.W.kitOne K (clsV mg ⟨y, none⟩) (.ref A.c_Broken) = some (subX y "Broken") := by
  intro y hy
  rcases cls_at T y hy with ⟨rfl, e⟩
  · rw [e]; exact T.k_NoNumbers_Broken
theorem kit_NoDay (T : Txt K mg A) : ∀ y ∈ (["NoNumbers"] : List Str), PySem.W.kitOne K (clsV mg ⟨y, none⟩) (.ref A.c_NoDay) = some (subX y "NoDay") := by
  intro y hy
  rcases cls_at T y hy with ⟨rfl, e⟩
  · rw [e]; exact T.k_NoNumbers_NoDay
theorem kit_NoDays (T : Txt K mg A) : ∀ y ∈ (["NoNumbers"] : List Str), PySem.W.kitOne K (clsV mg ⟨y, none⟩) (.ref A.c_NoDays) = some (subX y "NoDays") := by
  intro y hy
  rcases cls_at T y hy with ⟨rfl, e⟩
  · rw [e]; exact T.k_NoNumbers_NoDays
theorem kit_NoNumbers (T : Txt K mg A) : ∀ y ∈ (["NoNumbers"] : List Str), PySem.W.kitOne K (clsV mg ⟨y, none⟩) (.ref A.c_NoNumbers) = some (subX y "NoNumbers") := by
  intro y hy
  rcases cls_at T y hy with ⟨rfl, e⟩
  · rw [e]; exact T.k_NoNumbers_NoNumbers
theorem kit_NoPaper (T : Txt K mg A) : ∀ y ∈ (["NoNumbers"] : List Str), PySem.W.kitOne K (clsV mg ⟨y, none⟩) (.ref A.c_NoPaper) = some (subX y "NoPaper") := by
  intro y hy
  rcases cls_at T y hy with ⟨rfl, e⟩
  · rw [e]; exact T.k_NoNumbers_NoPaper
theorem kit_NoRing (T : Txt K mg A) : ∀ y ∈ (["NoNumbers"] : List Str), PySem.W.kitOne K (clsV mg ⟨y, none⟩) (.ref A.c_NoRing) = some (subX y "NoRing") := by
  intro y hy
  rcases cls_at T y hy with ⟨rfl, e⟩
  · rw [e]; exact T.k_NoNumbers_NoRing
theorem kit_NoStand (T : Txt K mg A) : ∀ y ∈ (["NoNumbers"] : List Str), PySem.W.kitOne K (clsV mg ⟨y, none⟩) (.ref A.c_NoStand) = some (subX y "NoStand") := by
  intro y hy
  rcases cls_at T y hy with ⟨rfl, e⟩
  · rw [e]; exact T.k_NoNumbers_NoStand
theorem kit_NoTask (T : Txt K mg A) : ∀ y ∈ (["NoNumbers"] : List Str), PySem.W.kitOne K (clsV mg ⟨y, none⟩) (.ref A.c_NoTask) = some (subX y "NoTask") := by
  intro y hy
  rcases cls_at T y hy with ⟨rfl, e⟩
  · rw [e]; exact T.k_NoNumbers_NoTask
theorem kit_NoText (T : Txt K mg A) : ∀ y ∈ (["NoNumbers"] : List Str), PySem.W.kitOne K (clsV mg ⟨y, none⟩) (.ref A.c_NoText) = some (subX y "NoText") := by
  intro y hy
  rcases cls_at T y hy with ⟨rfl, e⟩
  · rw [e]; exact T.k_NoNumbers_NoText
theorem kit_NoThing (T : Txt K mg A) : ∀ y ∈ (["NoNumbers"] : List Str), PySem.W.kitOne K (clsV mg ⟨y, none⟩) (.ref A.c_NoThing) = some (subX y "NoThing") := by
  intro y hy
  rcases cls_at T y hy with ⟨rfl, e⟩
  · rw [e]; exact T.k_NoNumbers_NoThing
theorem kit_NotThere (T : Txt K mg A) : ∀ y ∈ (["NoNumbers"] : List Str), PySem.W.kitOne K (clsV mg ⟨y, none⟩) (.ref A.c_NotThere) = some (subX y "NotThere") := by
  intro y hy
  rcases cls_at T y hy with ⟨rfl, e⟩
  · rw [e]; exact T.k_NoNumbers_NotThere
theorem kit_TooMany (T : Txt K mg A) : ∀ y ∈ (["NoNumbers"] : List Str), PySem.W.kitOne K (clsV mg ⟨y, none⟩) (.ref A.c_TooMany) = some (subX y "TooMany") := by
  intro y hy
  rcases cls_at T y hy with ⟨rfl, e⟩
  · rw [e]; exact T.k_NoNumbers_TooMany
theorem kit_ValueError (T : Txt K mg A) : ∀ y ∈ (["NoNumbers"] : List Str), PySem.W.kitOne K (clsV mg ⟨y, none⟩) (.type "ValueError") = some (subX y "ValueError") := by
  intro y hy
  rcases cls_at T y hy with ⟨rfl, e⟩
  · rw [e]; exact T.k_NoNumbers_ValueError
theorem ok_is_whole (T : Txt K mg A) : FnG P w K mg base 1 A.f_is_whole A.d_is_whole ["thing", "least", "most"] (spF K mg 3 F_is_whole) := by
    refine fn_okG (k := 0) .trunc T.u_is_whole sc_is_whole fun cdv Ar outer s H E hr => ?_
    have tk := takes_of (X := cxOf (L2.CX P w) P w K mg base ["thing", "least", "most"] "is_whole" (defScope s_is_whole) A.f_is_whole cdv Ar outer s H E) rfl rfl rfl rfl
    have hp := passes_of (X := cxOf (L2.CX P w) P w K mg base ["thing", "least", "most"] "is_whole" (defScope s_is_whole) A.f_is_whole cdv Ar outer s H E) rfl
    exact (vss_one (vs_ret (ve_and (ve_isi (ve_var 0) (by rfl) T.z_isinstance (by rfl) T.z_int (by decide +kernel) (by decide)) (ve_and (ve_not (ve_isi (ve_var 0) (by rfl) T.z_isinstance (by rfl) T.z_bool (by decide +kernel) (by decide))) (ve_one (ve_chain od_le od_le (ve_var 1) (ve_var 0) (ve_var 2)))))))
theorem ok_is_row (T : Txt K mg A) : FnG P w K mg base 1 A.f_is_row A.d_is_row ["thing"] (spF K mg 1 F_is_row) := by
    refine fn_okG (k := 0) .trunc T.u_is_row sc_is_row fun cdv Ar outer s H E hr => ?_
    have tk := takes_of (X := cxOf (L2.CX P w) P w K mg base ["thing"] "is_row" (defScope s_is_row) A.f_is_row cdv Ar outer s H E) rfl rfl rfl rfl
    have hp := passes_of (X := cxOf (L2.CX P w) P w K mg base ["thing"] "is_row" (defScope s_is_row) A.f_is_row cdv Ar outer s H E) rfl
    exact (vss_one (vs_ret (ve_isiT (ve_var 0) (by rfl) T.z_isinstance (by rfl) T.z_list (by decide +kernel) (by rfl) T.z_tuple (by decide +kernel) (by decide) (by decide))))
theorem ok_is_rising (T : Txt K mg A) : FnG P w K mg base 2 A.f_is_rising A.d_is_rising ["thing", "least", "most"] (spF K mg 3 F_is_rising) := by
    refine fn_okG (k := 1) .trunc T.u_is_rising sc_is_rising fun cdv Ar outer s H E hr => ?_
    have tk := takes_of (X := cxOf (L2.CX P w) P w K mg base ["thing", "least", "most", "last", "one"] "is_rising" (defScope s_is_rising) A.f_is_rising cdv Ar outer s H E) rfl rfl rfl rfl
    have hp := passes_of (X := cxOf (L2.CX P w) P w K mg base ["thing", "least", "most", "last", "one"] "is_rising" (defScope s_is_rising) A.f_is_rising cdv Ar outer s H E) rfl
    exact (vss_cons (vs_if (vt_not (vt_val (ve_callG (ok_is_row T) (hr.mono (by first | decide | omega)) (by rfl) T.g_is_row T.u_is_row.kp T.b_is_row tk (va_cons (ve_var 0) va_nil)))) (vss_one (vs_ret ve_bl)) vss_nil)
      (vss_cons (vs_set 3 sc_is_rising.nd (ve_bin od_sub (ve_var 1) ve_int))
      (vss_cons (vs_fa (vs_fb (vs_for (vs := [4]) hp rfl (vi_row (ve_var 0)) (vg_name 4 sc_is_rising.nd) (vss_fa (vss_cons (vs_if (vt_not (vt_val (ve_callG (ok_is_whole T) (hr.mono (by first | decide | omega)) (by rfl) T.g_is_whole T.u_is_whole.kp T.b_is_whole tk (va_cons (ve_var 4) (va_cons (ve_bin od_add (ve_var 3) ve_int) (va_cons (ve_var 2) va_nil)))))) (vss_one (vs_ret ve_bl)) vss_nil)
      (vss_one (vs_set 3 sc_is_rising.nd (ve_var 4))))))))
      (vss_one (vs_ret ve_bl)))))
theorem ok_told_rows_n (T : Txt K mg A) : ∀ m : Nat, FnG P w K mg base (1 + m) A.f_told_rows A.d_told_rows ["thing"] (spF K mg 1 (F_told_rows m))
  | 0 => ⟨fun vs H Q E h => h.1, fun A outer s H args us vs Q E _ _ _ _ h => by obtain ⟨_, G, ms, ds, h, hh, i, q⟩ := h; exact q.elim⟩
  | m + 1 => by
    have hself := ok_told_rows_n T m
    refine fn_okG (k := 1 + m) .trunc T.u_told_rows sc_told_rows fun cdv Ar outer s H E hr => ?_
    have tk := takes_of (X := cxOf (L2.CX P w) P w K mg base ["thing", "one"] "told_rows" (defScope s_told_rows) A.f_told_rows cdv Ar outer s H E) rfl rfl rfl rfl
    have hp := passes_of (X := cxOf (L2.CX P w) P w K mg base ["thing", "one"] "told_rows" (defScope s_told_rows) A.f_told_rows cdv Ar outer s H E) rfl
    exact (vss_cons (vs_if (vt_val (ve_callG (ok_is_row T) (hr.mono (by first | decide | omega)) (by rfl) T.g_is_row T.u_is_row.kp T.b_is_row tk (va_cons (ve_var 0) va_nil))) (vss_one (vs_ret (ve_callTy cd_tuple (by rfl) T.z_tuple (by decide +kernel) (va_cons (ve_comp false [("one", 1)] rfl sc_told_rows.nd (vi_row (ve_var 0)) (blkOk_by (own := [("one", 1)]) (N := ["thing", "one"]) (sc := defScope s_told_rows) (by decide +kernel)) (fun _ _ _ _ _ => (vg_name 1 sc_told_rows.nd)) (fun _ _ _ _ _ => vts_nil) (fun _ _ _ _ _ => (ve_callG hself (hr.mono (by omega)) (by rfl) T.g_told_rows T.u_told_rows.kp T.b_told_rows takes0 (va_cons (ve_var 1) va_nil)))) va_nil)))) vss_nil)
      (vss_one (vs_ret (ve_var 0))))
theorem ok_told_rows (T : Txt K mg A) : FnG P w K mg base 47 A.f_told_rows A.d_told_rows ["thing"] (spF K mg 1 (F_told_rows 45)) := (ok_told_rows_n T 45).mono (by decide)
theorem ok_is_numbers (T : Txt K mg A) : FnG P w K mg base 2 A.f_is_numbers A.d_is_numbers ["thing"] (spF K mg 1 F_is_numbers) := by
    refine fn_okG (k := 1) .trunc T.u_is_numbers sc_is_numbers fun cdv Ar outer s H E hr => ?_
    have tk := takes_of (X := cxOf (L2.CX P w) P w K mg base ["thing", "one"] "is_numbers" (defScope s_is_numbers) A.f_is_numbers cdv Ar outer s H E) rfl rfl rfl rfl
    have hp := passes_of (X := cxOf (L2.CX P w) P w K mg base ["thing", "one"] "is_numbers" (defScope s_is_numbers) A.f_is_numbers cdv Ar outer s H E) rfl
    exact (vss_cons (vs_if (vt_w (vw_or (vt_not (vt_val (ve_callG (ok_is_row T) (hr.mono (by first | decide | omega)) (by rfl) T.g_is_row T.u_is_row.kp T.b_is_row tk (va_cons (ve_var 0) va_nil)))) (vw_or1 (vt_cmp od_gt (ve_callB cd_len (by rfl) T.z_len (by decide +kernel) (va_cons (ve_var 0) va_nil)) (ve_globI (by rfl) T.c_MOST_THINGS))))) (vss_one (vs_ret ve_bl)) vss_nil)
      (vss_one (vs_ret (ve_cmp (od_eq hr.units) (ve_comp false [("one", 1)] rfl sc_is_numbers.nd (vi_row (ve_var 0)) (blkOk_by (own := [("one", 1)]) (N := ["thing", "one"]) (sc := defScope s_is_numbers) (by decide +kernel)) (fun _ _ _ _ _ => (vg_name 1 sc_is_numbers.nd)) (fun _ _ _ _ _ => (vts_one (vt_not (vt_val (ve_callG (ok_is_whole T) (hr.mono (by first | decide | omega)) (by rfl) T.g_is_whole T.u_is_whole.kp T.b_is_whole takes0 (va_cons (ve_var 1) (va_cons ve_int (va_cons (ve_globI (by rfl) T.c_GREATEST) va_nil)))))))) (fun _ _ _ _ _ => (ve_var 1))) (ve_lst false va_nil)))))
theorem ok_asked_numbers (T : Txt K mg A) : FnG P w K mg base 3 A.f_asked_numbers A.d_asked_numbers ["thing"] (spF K mg 1 F_asked_numbers) := by
    refine fn_okG (k := 2) .trunc T.u_asked_numbers sc_asked_numbers fun cdv Ar outer s H E hr => ?_
    have tk := takes_of (X := cxOf (L2.CX P w) P w K mg base ["thing"] "asked_numbers" (defScope s_asked_numbers) A.f_asked_numbers cdv Ar outer s H E) rfl rfl rfl rfl
    have hp := passes_of (X := cxOf (L2.CX P w) P w K mg base ["thing"] "asked_numbers" (defScope s_asked_numbers) A.f_asked_numbers cdv Ar outer s H E) rfl
    exact (vss_cons (vs_if (vt_not (vt_val (ve_callG (ok_is_numbers T) (hr.mono (by first | decide | omega)) (by rfl) T.g_is_numbers T.u_is_numbers.kp T.b_is_numbers tk (va_cons (ve_var 0) va_nil)))) (vss_one (vs_raise T.x_NoNumbers (by rfl) rfl tk)) vss_nil)
      (vss_one (vs_ret (ve_callTy cd_tuple (by rfl) T.z_tuple (by decide +kernel) (va_cons (ve_var 0) va_nil)))))
theorem ok_is_off (T : Txt K mg A) : FnG P w K mg base 2 A.f_is_off A.d_is_off ["thing"] (spF K mg 1 F_is_off) := by
    refine fn_okG (k := 1) .trunc T.u_is_off sc_is_off fun cdv Ar outer s H E hr => ?_
    have tk := takes_of (X := cxOf (L2.CX P w) P w K mg base ["thing", "one"] "is_off" (defScope s_is_off) A.f_is_off cdv Ar outer s H E) rfl rfl rfl rfl
    have hp := passes_of (X := cxOf (L2.CX P w) P w K mg base ["thing", "one"] "is_off" (defScope s_is_off) A.f_is_off cdv Ar outer s H E) rfl
    exact (vss_cons (vs_if (vt_w (vw_or (vt_not (vt_val (ve_callG (ok_is_row T) (hr.mono (by first | decide | omega)) (by rfl) T.g_is_row T.u_is_row.kp T.b_is_row tk (va_cons (ve_var 0) va_nil)))) (vw_or (vt_cmp od_lt (ve_callB cd_len (by rfl) T.z_len (by decide +kernel) (va_cons (ve_var 0) va_nil)) ve_int) (vw_or1 (vt_cmp od_gt (ve_callB cd_len (by rfl) T.z_len (by decide +kernel) (va_cons (ve_var 0) va_nil)) (ve_globI (by rfl) T.c_MOST_OFF)))))) (vss_one (vs_ret ve_bl)) vss_nil)
      (vss_one (vs_ret (ve_cmp (od_eq hr.units) (ve_comp false [("one", 1)] rfl sc_is_off.nd (vi_row (ve_var 0)) (blkOk_by (own := [("one", 1)]) (N := ["thing", "one"]) (sc := defScope s_is_off) (by decide +kernel)) (fun _ _ _ _ _ => (vg_name 1 sc_is_off.nd)) (fun _ _ _ _ _ => (vts_one (vt_not (vt_val (ve_callG (ok_is_whole T) (hr.mono (by first | decide | omega)) (by rfl) T.g_is_whole T.u_is_whole.kp T.b_is_whole takes0 (va_cons (ve_var 1) (va_cons ve_int (va_cons ve_int va_nil)))))))) (fun _ _ _ _ _ => (ve_var 1))) (ve_lst false va_nil)))))
theorem ok_is_pair (T : Txt K mg A) : FnG P w K mg base 3 A.f_is_pair A.d_is_pair ["thing", "many"] (spF K mg 2 F_is_pair) := by
    refine fn_okG (k := 2) .trunc T.u_is_pair sc_is_pair fun cdv Ar outer s H E hr => ?_
    have tk := takes_of (X := cxOf (L2.CX P w) P w K mg base ["thing", "many"] "is_pair" (defScope s_is_pair) A.f_is_pair cdv Ar outer s H E) rfl rfl rfl rfl
    have hp := passes_of (X := cxOf (L2.CX P w) P w K mg base ["thing", "many"] "is_pair" (defScope s_is_pair) A.f_is_pair cdv Ar outer s H E) rfl
    exact (vss_one (vs_ret (ve_and (ve_callG (ok_is_rising T) (hr.mono (by first | decide | omega)) (by rfl) T.g_is_rising T.u_is_rising.kp T.b_is_rising tk (va_cons (ve_var 0) (va_cons ve_int (va_cons (ve_bin od_sub (ve_var 1) ve_int) va_nil)))) (ve_one (ve_cmp (od_eq hr.units) (ve_callB cd_len (by rfl) T.z_len (by decide +kernel) (va_cons (ve_var 0) va_nil)) ve_int)))))
theorem ok_are_pairs (T : Txt K mg A) : FnG P w K mg base 48 A.f_are_pairs A.d_are_pairs ["thing", "many"] (spF K mg 2 F_are_pairs) := by
    refine fn_okG (k := 47) .trunc T.u_are_pairs sc_are_pairs fun cdv Ar outer s H E hr => ?_
    have tk := takes_of (X := cxOf (L2.CX P w) P w K mg base ["thing", "many", "one", "pairs", "k"] "are_pairs" (defScope s_are_pairs) A.f_are_pairs cdv Ar outer s H E) rfl rfl rfl rfl
    have hp := passes_of (X := cxOf (L2.CX P w) P w K mg base ["thing", "many", "one", "pairs", "k"] "are_pairs" (defScope s_are_pairs) A.f_are_pairs cdv Ar outer s H E) rfl
    exact (vss_cons (vs_if (vt_w (vw_or (vt_not (vt_val (ve_callG (ok_is_row T) (hr.mono (by first | decide | omega)) (by rfl) T.g_is_row T.u_is_row.kp T.b_is_row tk (va_cons (ve_var 0) va_nil)))) (vw_or1 (vt_cmp (od_ne hr.units) (ve_comp false [("one", 2)] rfl sc_are_pairs.nd (vi_row (ve_var 0)) (blkOk_by (own := [("one", 2)]) (N := ["thing", "many", "one", "pairs", "k"]) (sc := defScope s_are_pairs) (by decide +kernel)) (fun _ _ _ _ _ => (vg_name 2 sc_are_pairs.nd)) (fun _ _ _ _ _ => (vts_one (vt_not (vt_val (ve_callG (ok_is_pair T) (hr.mono (by first | decide | omega)) (by rfl) T.g_is_pair T.u_is_pair.kp T.b_is_pair takes0 (va_cons (ve_var 2) (va_cons (ve_var 1) va_nil))))))) (fun _ _ _ _ _ => (ve_var 2))) (ve_lst false va_nil))))) (vss_one (vs_ret ve_bl)) vss_nil)
      (vss_cons (vs_set 3 sc_are_pairs.nd (ve_callG (ok_told_rows T) (hr.mono (by first | decide | omega)) (by rfl) T.g_told_rows T.u_told_rows.kp T.b_told_rows tk (va_cons (ve_var 0) va_nil)))
      (vss_one (vs_ret (ve_cmp (od_eq hr.units) (ve_comp false [("k", 4)] rfl sc_are_pairs.nd (vi_range2 (by rfl) T.z_range (va_cons ve_int (va_cons (ve_callB cd_len (by rfl) T.z_len (by decide +kernel) (va_cons (ve_var 3) va_nil)) va_nil))) (blkOk_by (own := [("k", 4)]) (N := ["thing", "many", "one", "pairs", "k"]) (sc := defScope s_are_pairs) (by decide +kernel)) (fun _ _ _ _ _ => (vg_name 4 sc_are_pairs.nd)) (fun _ _ _ _ _ => (vts_one (vt_cmp (od_geT (units65 hr.toRoom)) (ve_ix (ve_var 3) (ve_bin od_sub (ve_var 4) ve_int)) (ve_ix (ve_var 3) (ve_var 4))))) (fun _ _ _ _ _ => (ve_var 4))) (ve_lst false va_nil))))))
theorem ok_is_task (T : Txt K mg A) : FnG P w K mg base 49 A.f_is_task A.d_is_task ["thing"] (spF K mg 1 F_is_task) := by
    refine fn_okG (k := 48) .trunc T.u_is_task sc_is_task fun cdv Ar outer s H E hr => ?_
    have tk := takes_of (X := cxOf (L2.CX P w) P w K mg base ["thing", "numbers", "hands", "off", "long", "tied"] "is_task" (defScope s_is_task) A.f_is_task cdv Ar outer s H E) rfl rfl rfl rfl
    have hp := passes_of (X := cxOf (L2.CX P w) P w K mg base ["thing", "numbers", "hands", "off", "long", "tied"] "is_task" (defScope s_is_task) A.f_is_task cdv Ar outer s H E) rfl
    exact (vss_cons (vs_if (vt_w (vw_or (vt_not (vt_val (ve_callG (ok_is_row T) (hr.mono (by first | decide | omega)) (by rfl) T.g_is_row T.u_is_row.kp T.b_is_row tk (va_cons (ve_var 0) va_nil)))) (vw_or1 (vt_cmp (od_ne hr.units) (ve_callB cd_len (by rfl) T.z_len (by decide +kernel) (va_cons (ve_var 0) va_nil)) (ve_globI (by rfl) T.c_PARTS))))) (vss_one (vs_ret ve_bl)) vss_nil)
      (vss_cons (vs_un (vs := [1, 2, 3, 4, 5]) (ve_var 0) (vg_un rfl (vgs_cons (vg_name 1 sc_is_task.nd) (vgs_cons (vg_name 2 sc_is_task.nd) (vgs_cons (vg_name 3 sc_is_task.nd) (vgs_cons (vg_name 4 sc_is_task.nd) (vgs_cons (vg_name 5 sc_is_task.nd) vgs_nil)))))))
      (vss_cons (vs_if (vt_w (vw_or (vt_not (vt_val (ve_callG (ok_is_numbers T) (hr.mono (by first | decide | omega)) (by rfl) T.g_is_numbers T.u_is_numbers.kp T.b_is_numbers tk (va_cons (ve_var 1) va_nil)))) (vw_or (vt_not (vt_val (ve_callG (ok_is_whole T) (hr.mono (by first | decide | omega)) (by rfl) T.g_is_whole T.u_is_whole.kp T.b_is_whole tk (va_cons (ve_var 2) (va_cons ve_int (va_cons (ve_globI (by rfl) T.c_MOST_HANDS) va_nil)))))) (vw_or1 (vt_not (vt_val (ve_callG (ok_is_off T) (hr.mono (by first | decide | omega)) (by rfl) T.g_is_off T.u_is_off.kp T.b_is_off tk (va_cons (ve_var 3) va_nil)))))))) (vss_one (vs_ret ve_bl)) vss_nil)
      (vss_one (vs_ret (ve_and (ve_callG (ok_is_rising T) (hr.mono (by first | decide | omega)) (by rfl) T.g_is_rising T.u_is_rising.kp T.b_is_rising tk (va_cons (ve_var 4) (va_cons ve_int (va_cons (ve_bin od_sub (ve_callB cd_len (by rfl) T.z_len (by decide +kernel) (va_cons (ve_var 1) va_nil)) ve_int) va_nil)))) (ve_one (ve_callG (ok_are_pairs T) (hr.mono (by first | decide | omega)) (by rfl) T.g_are_pairs T.u_are_pairs.kp T.b_are_pairs tk (va_cons (ve_var 5) (va_cons (ve_callB cd_len (by rfl) T.z_len (by decide +kernel) (va_cons (ve_var 1) va_nil)) va_nil))))))))))
theorem ok_plain (T : Txt K mg A) : FnG P w K mg base 4 A.f_plain A.d_plain ["numbers"] (spF K mg 1 F_plain) := by
    refine fn_okG (k := 3) .trunc T.u_plain sc_plain fun cdv Ar outer s H E hr => ?_
    have tk := takes_of (X := cxOf (L2.CX P w) P w K mg base ["numbers"] "plain" (defScope s_plain) A.f_plain cdv Ar outer s H E) rfl rfl rfl rfl
    have hp := passes_of (X := cxOf (L2.CX P w) P w K mg base ["numbers"] "plain" (defScope s_plain) A.f_plain cdv Ar outer s H E) rfl
    exact (vss_one (vs_ret (ve_tup (va_cons (ve_callG (ok_asked_numbers T) (hr.mono (by first | decide | omega)) (by rfl) T.g_asked_numbers T.u_asked_numbers.kp T.b_asked_numbers tk (va_cons (ve_var 0) va_nil)) (va_cons ve_int (va_cons (ve_tup (va_cons ve_int va_nil)) (va_cons (ve_tup va_nil) (va_cons (ve_tup va_nil) va_nil))))))))
theorem ok__law_cell (T : Txt K mg A) : FnG P w K mg base 1 A.f__law_cell A.d__law_cell ["_law_script", "_law_k"] (spF K mg 2 F__law_cell) := by
    refine fn_okG (k := 0) .trunc T.u__law_cell sc__law_cell fun cdv Ar outer s H E hr => ?_
    have tk := takes_of (X := cxOf (L2.CX P w) P w K mg base ["_law_script", "_law_k", "_law_spare"] "_law_cell" (defScope s__law_cell) A.f__law_cell cdv Ar outer s H E) rfl rfl rfl rfl
    have hp := passes_of (X := cxOf (L2.CX P w) P w K mg base ["_law_script", "_law_k", "_law_spare"] "_law_cell" (defScope s__law_cell) A.f__law_cell cdv Ar outer s H E) rfl
    exact (vss_cons (vs_if (vt_cmp od_lt (ve_var 1) (ve_callB cd_len (by rfl) T.z_len (by decide +kernel) (va_cons (ve_var 0) va_nil))) (vss_one (vs_ret (ve_ix (ve_var 0) (ve_var 1)))) vss_nil)
      (vss_cons (vs_set 2 sc__law_cell.nd (ve_bin od_add ve_int (ve_bin od_mul (ve_bin od_mul ve_int (ve_var 1)) (ve_var 1))))
      (vss_cons (vs_if (vt_cmp od_gt (ve_callB cd_len (by rfl) T.z_len (by decide +kernel) (va_cons (ve_var 0) va_nil)) ve_int) (vss_one (vs_set 2 sc__law_cell.nd (ve_bin od_add (ve_var 2) (ve_bin od_mul (ve_bin od_mod (ve_ix (ve_var 0) ve_int) ve_int) (ve_bin od_add (ve_bin od_mul ve_int (ve_var 1)) ve_int))))) vss_nil)
      (vss_one (vs_ret (ve_var 2))))))
theorem ok__law_draws (T : Txt K mg A) : FnG P w K mg base 2 A.f__law_draws A.d__law_draws ["_law_script", "_law_at", "_law_many"] (spF K mg 3 F__law_draws) := by
    refine fn_okG (k := 1) .move T.u__law_draws sc__law_draws fun cdv Ar outer s H E hr => ?_
    have tk := takes_of (X := cxOf (L2.CX P w) P w K mg base ["_law_script", "_law_at", "_law_many", "_law_found", "_law_left", "_law_k", "_law_draw"] "_law_draws" (defScope s__law_draws) A.f__law_draws cdv Ar outer s H E) rfl rfl rfl rfl
    have hp := passes_of (X := cxOf (L2.CX P w) P w K mg base ["_law_script", "_law_at", "_law_many", "_law_found", "_law_left", "_law_k", "_law_draw"] "_law_draws" (defScope s__law_draws) A.f__law_draws cdv Ar outer s H E) rfl
    exact (vss_cons (vs_set 3 sc__law_draws.nd (ve_lst true va_nil))
      (vss_cons (vs_set 4 sc__law_draws.nd (ve_callB (cd_max rfl) (by rfl) T.z_max (by decide +kernel) (va_cons ve_int (va_cons (ve_callG (ok__law_cell T) (hr.mono (by first | decide | omega)) (by rfl) T.g__law_cell T.u__law_cell.kp T.b__law_cell tk (va_cons (ve_var 0) (va_cons (ve_var 1) va_nil))) va_nil))))
      (vss_cons (vs_if (vt_cmp od_ge (ve_var 4) (ve_bin od_pow ve_int ve_int)) (vss_cons (vs_fa (vs_fb (vs_for (vs := [5]) hp rfl (vi_range1 (by rfl) T.z_range (va_cons (ve_var 2) va_nil)) (vg_name 5 sc__law_draws.nd) (vss_fa (vss_cons (vs_expr (ve_ml PySem.F.slot_list_append PySem.F.type_list_append md_append (ve_var 3) (va_cons (ve_bin od_mod (ve_var 4) ve_int) va_nil)))
      (vss_one (vs_set 4 sc__law_draws.nd (ve_bin od_fdiv (ve_var 4) ve_int))))))))
      (vss_one (vs_ret (ve_lstRev true (ve_var 3) rfl (by rfl) T.z_list (by rfl) T.z_reversed)))) vss_nil)
      (vss_cons (vs_set 6 sc__law_draws.nd (ve_bin od_mod (ve_bin od_mul (ve_bin od_mod (ve_var 4) ve_int) ve_int) ve_int))
      (vss_cons (vs_fa (vs_fb (vs_for (vs := [5]) hp rfl (vi_range1 (by rfl) T.z_range (va_cons (ve_var 2) va_nil)) (vg_name 5 sc__law_draws.nd) (vss_fa (vss_cons (vs_set 6 sc__law_draws.nd (ve_bin od_mod (ve_bin od_add (ve_bin od_add (ve_bin od_add (ve_bin od_mul (ve_var 6) ve_int) (ve_callG (ok__law_cell T) (hr.mono (by first | decide | omega)) (by rfl) T.g__law_cell T.u__law_cell.kp T.b__law_cell tk (va_cons (ve_var 0) (va_cons (ve_bin od_add (ve_bin od_add (ve_var 1) ve_int) (ve_bin od_mod (ve_var 5) ve_int)) va_nil)))) (ve_bin od_mul (ve_var 5) (ve_var 5))) ve_int) ve_int))
      (vss_one (vs_expr (ve_ml PySem.F.slot_list_append PySem.F.type_list_append md_append (ve_var 3) (va_cons (ve_bin od_fdiv (ve_bin od_mod (ve_bin od_add (ve_bin od_mul (ve_var 6) ve_int) (ve_bin od_mul ve_int (ve_var 5))) ve_int) ve_int) va_nil)))))))))
      (vss_one (vs_ret (ve_var 3))))))))
theorem ok__law_next (T : Txt K mg A) : FnG P w K mg base 1 A.f__law_next A.d__law_next ["_law_draws_here"] (spF K mg 1 F__law_next) := by
    refine fn_okG (k := 0) .trunc T.u__law_next sc__law_next fun cdv Ar outer s H E hr => ?_
    have tk := takes_of (X := cxOf (L2.CX P w) P w K mg base ["_law_draws_here"] "_law_next" (defScope s__law_next) A.f__law_next cdv Ar outer s H E) rfl rfl rfl rfl
    have hp := passes_of (X := cxOf (L2.CX P w) P w K mg base ["_law_draws_here"] "_law_next" (defScope s__law_next) A.f__law_next cdv Ar outer s H E) rfl
    exact (vss_cons (vs_if (vt_cmp od_gt (ve_callB cd_len (by rfl) T.z_len (by decide +kernel) (va_cons (ve_var 0) va_nil)) ve_int) (vss_one (vs_ret (ve_ml0 PySem.F.slot_list_pop PySem.F.type_list_pop md_pop (ve_var 0)))) vss_nil)
      (vss_one (vs_ret ve_int)))
theorem ok__law_of (T : Txt K mg A) : FnG P w K mg base 2 A.f__law_of A.d__law_of ["_law_draws_here", "_law_some_here"] (spF K mg 2 F__law_of) := by
    refine fn_okG (k := 1) .trunc T.u__law_of sc__law_of fun cdv Ar outer s H E hr => ?_
    have tk := takes_of (X := cxOf (L2.CX P w) P w K mg base ["_law_draws_here", "_law_some_here"] "_law_of" (defScope s__law_of) A.f__law_of cdv Ar outer s H E) rfl rfl rfl rfl
    have hp := passes_of (X := cxOf (L2.CX P w) P w K mg base ["_law_draws_here", "_law_some_here"] "_law_of" (defScope s__law_of) A.f__law_of cdv Ar outer s H E) rfl
    exact (vss_one (vs_ret (ve_ix (ve_var 1) (ve_bin od_mod (ve_callG (ok__law_next T) (hr.mono (by first | decide | omega)) (by rfl) T.g__law_next T.u__law_next.kp T.b__law_next tk (va_cons (ve_var 0) va_nil)) (ve_callB cd_len (by rfl) T.z_len (by decide +kernel) (va_cons (ve_var 1) va_nil))))))
theorem ok__law_some (T : Txt K mg A) : FnG P w K mg base 2 A.f__law_some A.d__law_some ["_law_draws_here", "_law_many", "_law_often"] (spF K mg 3 F__law_some) := by
    refine fn_okG (k := 1) .trunc T.u__law_some sc__law_some fun cdv Ar outer s H E hr => ?_
    have tk := takes_of (X := cxOf (L2.CX P w) P w K mg base ["_law_draws_here", "_law_many", "_law_often", "_law_draw", "_law_i"] "_law_some" (defScope s__law_some) A.f__law_some cdv Ar outer s H E) rfl rfl rfl rfl
    have hp := passes_of (X := cxOf (L2.CX P w) P w K mg base ["_law_draws_here", "_law_many", "_law_often", "_law_draw", "_law_i"] "_law_some" (defScope s__law_some) A.f__law_some cdv Ar outer s H E) rfl
    exact (vss_cons (vs_set 3 sc__law_some.nd (ve_callG (ok__law_next T) (hr.mono (by first | decide | omega)) (by rfl) T.g__law_next T.u__law_next.kp T.b__law_next tk (va_cons (ve_var 0) va_nil)))
      (vss_cons (vs_if (vt_cmp od_gt (ve_bin od_mod (ve_var 3) ve_int) ve_int) (vss_one (vs_ret (ve_tup va_nil))) vss_nil)
      (vss_one (vs_ret (ve_callTy cd_tuple (by rfl) T.z_tuple (by decide +kernel) (va_cons (ve_comp false [("_law_i", 4)] rfl sc__law_some.nd (vi_range1 (by rfl) T.z_range (va_cons (ve_var 1) va_nil)) (blkOk_by (own := [("_law_i", 4)]) (N := ["_law_draws_here", "_law_many", "_law_often", "_law_draw", "_law_i"]) (sc := defScope s__law_some) (by decide +kernel)) (fun _ _ _ _ _ => (vg_name 4 sc__law_some.nd)) (fun _ _ _ _ _ => (vts_one (vt_cmp (od_eq hr.units) (ve_bin od_mod (ve_bin od_fdiv (ve_bin od_fdiv (ve_var 3) ve_int) (ve_bin od_shl ve_int (ve_var 4))) (ve_var 2)) ve_int))) (fun _ _ _ _ _ => (ve_var 4))) va_nil))))))
theorem ok__law_tied (T : Txt K mg A) : FnG P w K mg base 2 A.f__law_tied A.d__law_tied ["_law_draws_here", "_law_many"] (spF K mg 2 F__law_tied) := by
    refine fn_okG (k := 1) .trunc T.u__law_tied sc__law_tied fun cdv Ar outer s H E hr => ?_
    have tk := takes_of (X := cxOf (L2.CX P w) P w K mg base ["_law_draws_here", "_law_many", "_law_draw", "_law_found", "_law_j", "_law_i"] "_law_tied" (defScope s__law_tied) A.f__law_tied cdv Ar outer s H E) rfl rfl rfl rfl
    have hp := passes_of (X := cxOf (L2.CX P w) P w K mg base ["_law_draws_here", "_law_many", "_law_draw", "_law_found", "_law_j", "_law_i"] "_law_tied" (defScope s__law_tied) A.f__law_tied cdv Ar outer s H E) rfl
    exact (vss_cons (vs_set 2 sc__law_tied.nd (ve_callG (ok__law_next T) (hr.mono (by first | decide | omega)) (by rfl) T.g__law_next T.u__law_next.kp T.b__law_next tk (va_cons (ve_var 0) va_nil)))
      (vss_cons (vs_set 3 sc__law_tied.nd (ve_lst true va_nil))
      (vss_cons (vs_fb (vs_for (vs := [4]) hp rfl (vi_range1 (by rfl) T.z_range (va_cons (ve_var 1) va_nil)) (vg_name 4 sc__law_tied.nd) (vss_fa (vss_one (vs_fb (vs_for (vs := [5]) hp rfl (vi_range1 (by rfl) T.z_range (va_cons (ve_var 4) va_nil)) (vg_name 5 sc__law_tied.nd) (vss_fa (vss_one (vs_if (vt_w (vw_and (vt_cmp (od_eq hr.units) (ve_bin od_mod (ve_var 2) ve_int) ve_int) (vw_and1 (vt_cmp (od_eq hr.units) (ve_bin od_mod (ve_bin od_fdiv (ve_bin od_fdiv (ve_var 2) ve_int) (ve_bin od_add (ve_bin od_add ve_int (ve_var 5)) (ve_bin od_mul ve_int (ve_var 4)))) ve_int) ve_int)))) (vss_one (vs_expr (ve_ml PySem.F.slot_list_append PySem.F.type_list_append md_append (ve_var 3) (va_cons (ve_tup (va_cons (ve_var 5) (va_cons (ve_var 4) va_nil))) va_nil)))) vss_nil)))))))))
      (vss_one (vs_ret (ve_callTy cd_tuple (by rfl) T.z_tuple (by decide +kernel) (va_cons (ve_callB (cd_sorted false) (by rfl) T.z_sorted (by decide +kernel) (va_cons (ve_var 3) va_nil)) va_nil)))))))
theorem ok__law_off (T : Txt K mg A) : FnG P w K mg base 2 A.f__law_off A.d__law_off ["_law_draws_here", "_law_left"] (spF K mg 2 F__law_off) := by
    refine fn_okG (k := 1) .trunc T.u__law_off sc__law_off fun cdv Ar outer s H E hr => ?_
    have tk := takes_of (X := cxOf (L2.CX P w) P w K mg base ["_law_draws_here", "_law_left", "_law_draw", "_law_size", "_law_k"] "_law_off" (defScope s__law_off) A.f__law_off cdv Ar outer s H E) rfl rfl rfl rfl
    have hp := passes_of (X := cxOf (L2.CX P w) P w K mg base ["_law_draws_here", "_law_left", "_law_draw", "_law_size", "_law_k"] "_law_off" (defScope s__law_off) A.f__law_off cdv Ar outer s H E) rfl
    exact (vss_cons (vs_set 2 sc__law_off.nd (ve_callG (ok__law_next T) (hr.mono (by first | decide | omega)) (by rfl) T.g__law_next T.u__law_next.kp T.b__law_next tk (va_cons (ve_var 0) va_nil)))
      (vss_cons (vs_set 3 sc__law_off.nd (ve_bin od_add ve_int (ve_bin od_mod (ve_bin od_fdiv (ve_var 2) ve_int) ve_int)))
      (vss_cons (vs_if (vt_w (vw_or (vt_cmp od_gt (ve_bin od_mod (ve_var 2) ve_int) ve_int) (vw_or1 (vt_cmp od_gt (ve_var 3) (ve_var 1))))) (vss_one (vs_ret (ve_tup (va_cons ve_int va_nil)))) vss_nil)
      (vss_one (vs_ret (ve_callTy cd_tuple (by rfl) T.z_tuple (by decide +kernel) (va_cons (ve_comp false [("_law_k", 4)] rfl sc__law_off.nd (vi_range1 (by rfl) T.z_range (va_cons (ve_var 3) va_nil)) (blkOk_by (own := [("_law_k", 4)]) (N := ["_law_draws_here", "_law_left", "_law_draw", "_law_size", "_law_k"]) (sc := defScope s__law_off) (by decide +kernel)) (fun _ _ _ _ _ => (vg_name 4 sc__law_off.nd)) (fun _ _ _ _ _ => vts_nil) (fun _ _ _ _ _ => (ve_callTy cd_int (by rfl) T.z_int (by decide +kernel) (va_cons (ve_cmp (od_eq hr.units) (ve_bin od_mod (ve_bin od_fdiv (ve_bin od_fdiv (ve_var 2) ve_int) (ve_bin od_shl ve_int (ve_var 4))) ve_int) ve_int) va_nil)))) va_nil)))))))
theorem ok__law_numbers (T : Txt K mg A) : FnG P w K mg base 2 A.f__law_numbers A.d__law_numbers ["_law_draws_here", "_law_most", "_law_left"] (spF K mg 3 F__law_numbers) := by
    refine fn_okG (k := 1) .trunc T.u__law_numbers sc__law_numbers fun cdv Ar outer s H E hr => ?_
    have tk := takes_of (X := cxOf (L2.CX P w) P w K mg base ["_law_draws_here", "_law_most", "_law_left", "_law_numbers_here", "_law_k", "_law_draw", "_law_some_here", "_law_number"] "_law_numbers" (defScope s__law_numbers) A.f__law_numbers cdv Ar outer s H E) rfl rfl rfl rfl
    have hp := passes_of (X := cxOf (L2.CX P w) P w K mg base ["_law_draws_here", "_law_most", "_law_left", "_law_numbers_here", "_law_k", "_law_draw", "_law_some_here", "_law_number"] "_law_numbers" (defScope s__law_numbers) A.f__law_numbers cdv Ar outer s H E) rfl
    exact (vss_cons (vs_set 3 sc__law_numbers.nd (ve_lst true va_nil))
      (vss_cons (vs_fa (vs_fb (vs_for (vs := [4]) hp rfl (vi_range1 (by rfl) T.z_range (va_cons (ve_bin od_mod (ve_callG (ok__law_next T) (hr.mono (by first | decide | omega)) (by rfl) T.g__law_next T.u__law_next.kp T.b__law_next tk (va_cons (ve_var 0) va_nil)) (ve_bin od_add (ve_var 1) ve_int)) va_nil)) (vg_name 4 sc__law_numbers.nd) (vss_fa (vss_cons (vs_set 5 sc__law_numbers.nd (ve_callG (ok__law_next T) (hr.mono (by first | decide | omega)) (by rfl) T.g__law_next T.u__law_next.kp T.b__law_next tk (va_cons (ve_var 0) va_nil)))
      (vss_cons (vs_set 6 sc__law_numbers.nd (ve_lst false (va_cons ve_int (va_cons ve_int (va_cons ve_int (va_cons ve_int (va_cons (ve_bin od_add ve_int (ve_bin od_mod (ve_bin od_fdiv (ve_var 5) ve_int) ve_int)) (va_cons (ve_bin od_add ve_int (ve_bin od_mod (ve_bin od_fdiv (ve_var 5) ve_int) ve_int)) (va_cons (ve_bin od_add ve_int (ve_bin od_mod (ve_bin od_fdiv (ve_var 5) ve_int) ve_int)) (va_cons ve_int (va_cons ve_int (va_cons ve_int va_nil))))))))))))
      (vss_cons (vs_set 7 sc__law_numbers.nd (ve_ix (ve_bin od_add (ve_var 6) (ve_lst false (va_cons ve_int (va_cons ve_int (va_cons ve_int (va_cons ve_int (va_cons ve_int (va_cons (ve_bin od_add ve_int (ve_bin od_mod (ve_bin od_fdiv (ve_var 5) ve_int) ve_int)) va_nil)))))))) (ve_bin od_mod (ve_var 5) ve_int)))
      (vss_one (vs_if (vt_cmp od_le (ve_var 7) (ve_var 2)) (vss_cons (vs_expr (ve_ml PySem.F.slot_list_append PySem.F.type_list_append md_append (ve_var 3) (va_cons (ve_var 7) va_nil)))
      (vss_one (vs_set 2 sc__law_numbers.nd (ve_bin od_fdiv (ve_var 2) (ve_var 7))))) vss_nil)))))))))
      (vss_one (vs_ret (ve_callTy cd_tuple (by rfl) T.z_tuple (by decide +kernel) (va_cons (ve_var 3) va_nil))))))
theorem ok__law_task (T : Txt K mg A) : FnG P w K mg base 3 A.f__law_task A.d__law_task ["_law_draws_here", "_law_most", "_law_left"] (spF K mg 3 F__law_task) := by
    refine fn_okG (k := 2) .trunc T.u__law_task sc__law_task fun cdv Ar outer s H E hr => ?_
    have tk := takes_of (X := cxOf (L2.CX P w) P w K mg base ["_law_draws_here", "_law_most", "_law_left", "_law_numbers_here", "_law_number", "_law_hands", "_law_off_here"] "_law_task" (defScope s__law_task) A.f__law_task cdv Ar outer s H E) rfl rfl rfl rfl
    have hp := passes_of (X := cxOf (L2.CX P w) P w K mg base ["_law_draws_here", "_law_most", "_law_left", "_law_numbers_here", "_law_number", "_law_hands", "_law_off_here"] "_law_task" (defScope s__law_task) A.f__law_task cdv Ar outer s H E) rfl
    exact (vss_cons (vs_set 3 sc__law_task.nd (ve_callG (ok__law_numbers T) (hr.mono (by first | decide | omega)) (by rfl) T.g__law_numbers T.u__law_numbers.kp T.b__law_numbers tk (va_cons (ve_var 0) (va_cons (ve_var 1) (va_cons (ve_var 2) va_nil)))))
      (vss_cons (vs_fb (vs_for (vs := [4]) hp rfl (vi_row (ve_var 3)) (vg_name 4 sc__law_task.nd) (vss_fa (vss_one (vs_set 2 sc__law_task.nd (ve_bin od_fdiv (ve_var 2) (ve_var 4)))))))
      (vss_cons (vs_set 5 sc__law_task.nd (ve_bin od_add ve_int (ve_callTy cd_int (by rfl) T.z_int (by decide +kernel) (va_cons (ve_cmp (od_eq hr.units) (ve_bin od_mod (ve_callG (ok__law_next T) (hr.mono (by first | decide | omega)) (by rfl) T.g__law_next T.u__law_next.kp T.b__law_next tk (va_cons (ve_var 0) va_nil)) ve_int) ve_int) va_nil))))
      (vss_cons (vs_set 6 sc__law_task.nd (ve_callG (ok__law_off T) (hr.mono (by first | decide | omega)) (by rfl) T.g__law_off T.u__law_off.kp T.b__law_off tk (va_cons (ve_var 0) (va_cons (ve_var 2) va_nil))))
      (vss_one (vs_ret (ve_tup (va_cons (ve_var 3) (va_cons (ve_var 5) (va_cons (ve_var 6) (va_cons (ve_callG (ok__law_some T) (hr.mono (by first | decide | omega)) (by rfl) T.g__law_some T.u__law_some.kp T.b__law_some tk (va_cons (ve_var 0) (va_cons (ve_callB cd_len (by rfl) T.z_len (by decide +kernel) (va_cons (ve_var 3) va_nil)) (va_cons ve_int va_nil)))) (va_cons (ve_callG (ok__law_tied T) (hr.mono (by first | decide | omega)) (by rfl) T.g__law_tied T.u__law_tied.kp T.b__law_tied tk (va_cons (ve_var 0) (va_cons (ve_callB cd_len (by rfl) T.z_len (by decide +kernel) (va_cons (ve_var 3) va_nil)) va_nil))) va_nil))))))))))))
theorem ok__law_listed_n (T : Txt K mg A) : ∀ m : Nat, FnG P w K mg base (0 + m) A.f__law_listed A.d__law_listed ["_law_thing", "_law_draw"] (spF K mg 2 (F__law_listed m))
  | 0 => ⟨fun vs H Q E h => h.1, fun A outer s H args us vs Q E _ _ _ _ h => by obtain ⟨_, G, ms, ds, h, hh, i, q⟩ := h; exact q.elim⟩
  | m + 1 => by
    have hself := ok__law_listed_n T m
    refine fn_okG (k := 0 + m) .keep T.u__law_listed sc__law_listed fun cdv Ar outer s H E hr => ?_
    have tk := takes_of (X := cxOf (L2.CX P w) P w K mg base ["_law_thing", "_law_draw", "_law_parts", "_law_k", "_law_one"] "_law_listed" (defScope s__law_listed) A.f__law_listed cdv Ar outer s H E) rfl rfl rfl rfl
    have hp := passes_of (X := cxOf (L2.CX P w) P w K mg base ["_law_thing", "_law_draw", "_law_parts", "_law_k", "_law_one"] "_law_listed" (defScope s__law_listed) A.f__law_listed cdv Ar outer s H E) rfl
    exact (vss_cons (vs_if (vt_not (vt_val (ve_isi (ve_var 0) (by rfl) T.z_isinstance (by rfl) T.z_tuple (by decide +kernel) (by decide)))) (vss_one (vs_ret (ve_var 0))) vss_nil)
      (vss_cons (vs_setComp true 2 [("_law_k", 3), ("_law_one", 4)] rfl sc__law_listed.nd (vi_enumerate (by rfl) T.z_enumerate (va_cons (ve_var 0) va_nil)) (blkOk_by (own := [("_law_k", 3), ("_law_one", 4)]) (N := ["_law_thing", "_law_draw", "_law_parts", "_law_k", "_law_one"]) (sc := defScope s__law_listed) (by decide +kernel)) (fun _ _ _ _ _ => (vg_un rfl (vgs_cons (vg_name 3 sc__law_listed.nd) (vgs_cons (vg_name 4 sc__law_listed.nd) vgs_nil)))) (fun _ _ _ _ _ => vts_nil) (fun _ _ _ _ _ => (ve_callG hself (hr.mono (by omega)) (by rfl) T.g__law_listed T.u__law_listed.kp T.b__law_listed takes0 (va_cons (ve_var 4) (va_cons (ve_bin od_add (ve_bin od_fdiv (ve_var 1) ve_int) (ve_bin od_mul (ve_var 3) (ve_var 3))) va_nil)))))
      (vss_one (vs_ret (ve_ix (ve_lst false (va_cons (ve_var 2) (va_cons (ve_callTy cd_tuple (by rfl) T.z_tuple (by decide +kernel) (va_cons (ve_var 2) va_nil)) va_nil))) (ve_bin od_mod (ve_var 1) ve_int))))))
theorem ok__law_listed (T : Txt K mg A) : FnG P w K mg base 46 A.f__law_listed A.d__law_listed ["_law_thing", "_law_draw"] (spF K mg 2 (F__law_listed 45)) := (ok__law_listed_n T 45).mono (by decide)
theorem ok__law_listed_sn (T : Txt K mg A) : ∀ m : Nat, FnG P w K mg base (0 + m) A.f__law_listed A.d__law_listed ["_law_thing", "_law_draw"] (spF K mg 2 (F__law_listed_s m))
  | 0 => ⟨fun vs H Q E h => h.1, fun A outer s H args us vs Q E _ _ _ _ h => by obtain ⟨_, G, ms, ds, h, hh, i, q⟩ := h; exact q.elim⟩
  | m + 1 => by
    have hself := ok__law_listed_sn T m
    refine fn_okG (k := 0 + m) .trunc T.u__law_listed sc__law_listed fun cdv Ar outer s H E hr => ?_
    have tk := takes_of (X := cxOf (L2.CX P w) P w K mg base ["_law_thing", "_law_draw", "_law_parts", "_law_k", "_law_one"] "_law_listed" (defScope s__law_listed) A.f__law_listed cdv Ar outer s H E) rfl rfl rfl rfl
    have hp := passes_of (X := cxOf (L2.CX P w) P w K mg base ["_law_thing", "_law_draw", "_law_parts", "_law_k", "_law_one"] "_law_listed" (defScope s__law_listed) A.f__law_listed cdv Ar outer s H E) rfl
    exact (vss_cons (vs_if (vt_not (vt_val (ve_isi (ve_var 0) (by rfl) T.z_isinstance (by rfl) T.z_tuple (by decide +kernel) (by decide)))) (vss_one (vs_ret (ve_var 0))) vss_nil)
      (vss_cons (vs_setComp false 2 [("_law_k", 3), ("_law_one", 4)] rfl sc__law_listed.nd (vi_enumerate (by rfl) T.z_enumerate (va_cons (ve_var 0) va_nil)) (blkOk_by (own := [("_law_k", 3), ("_law_one", 4)]) (N := ["_law_thing", "_law_draw", "_law_parts", "_law_k", "_law_one"]) (sc := defScope s__law_listed) (by decide +kernel)) (fun _ _ _ _ _ => (vg_un rfl (vgs_cons (vg_name 3 sc__law_listed.nd) (vgs_cons (vg_name 4 sc__law_listed.nd) vgs_nil)))) (fun _ _ _ _ _ => vts_nil) (fun _ _ _ _ _ => (ve_callG hself (hr.mono (by omega)) (by rfl) T.g__law_listed T.u__law_listed.kp T.b__law_listed takes0 (va_cons (ve_var 4) (va_cons (ve_bin od_add (ve_bin od_fdiv (ve_var 1) ve_int) (ve_bin od_mul (ve_var 3) (ve_var 3))) va_nil)))))
      (vss_one (vs_ret (ve_ix (ve_lst false (va_cons (ve_var 2) (va_cons (ve_callTy cd_tuple (by rfl) T.z_tuple (by decide +kernel) (va_cons (ve_var 2) va_nil)) va_nil))) (ve_bin od_mod (ve_var 1) ve_int))))))
theorem ok__law_listed_s (T : Txt K mg A) : FnG P w K mg base 46 A.f__law_listed A.d__law_listed ["_law_thing", "_law_draw"] (spF K mg 2 (F__law_listed_s 45)) := (ok__law_listed_sn T 45).mono (by decide)
theorem ok__law_spoil_n (T : Txt K mg A) : ∀ m : Nat, FnG P w K mg base (0 + m) A.f__law_spoil A.d__law_spoil ["_law_thing"] (spF K mg 1 (F__law_spoil m))
  | 0 => ⟨fun vs H Q E h => h.1, fun A outer s H args us vs Q E _ _ _ _ h => by obtain ⟨_, G, ms, ds, h, hh, i, q⟩ := h; exact q.elim⟩
  | m + 1 => by
    have hself := ok__law_spoil_n T m
    refine fn_okG (k := 0 + m) .keep T.u__law_spoil sc__law_spoil fun cdv Ar outer s H E hr => ?_
    have tk := takes_of (X := cxOf (L2.CX P w) P w K mg base ["_law_thing", "_law_one"] "_law_spoil" (defScope s__law_spoil) A.f__law_spoil cdv Ar outer s H E) rfl rfl rfl rfl
    have hp := passes_of (X := cxOf (L2.CX P w) P w K mg base ["_law_thing", "_law_one"] "_law_spoil" (defScope s__law_spoil) A.f__law_spoil cdv Ar outer s H E) rfl
    exact (vss_one (vs_if (vt_val (ve_isi (ve_var 0) (by rfl) T.z_isinstance (by rfl) T.z_list (by decide +kernel) (by decide))) (vss_cons (vs_fb (vs_for (vs := [1]) hp rfl (vi_row (ve_var 0)) (vg_name 1 sc__law_spoil.nd) (vss_fa (vss_one (vs_expr (ve_callG hself (hr.mono (by omega)) (by rfl) T.g__law_spoil T.u__law_spoil.kp T.b__law_spoil tk (va_cons (ve_var 1) va_nil)))))))
      (vss_cons (vs_expr (ve_ml PySem.F.slot_list_append PySem.F.type_list_append md_append (ve_var 0) (va_cons ve_int va_nil)))
      (vss_one (vs_expr (ve_ml0 PySem.F.slot_list_reverse PySem.F.type_list_reverse md_reverse (ve_var 0)))))) (vss_one (vs_if (vt_val (ve_isi (ve_var 0) (by rfl) T.z_isinstance (by rfl) T.z_tuple (by decide +kernel) (by decide))) (vss_one (vs_fb (vs_for (vs := [1]) hp rfl (vi_row (ve_var 0)) (vg_name 1 sc__law_spoil.nd) (vss_fa (vss_one (vs_expr (ve_callG hself (hr.mono (by omega)) (by rfl) T.g__law_spoil T.u__law_spoil.kp T.b__law_spoil tk (va_cons (ve_var 1) va_nil)))))))) vss_nil))))
theorem ok__law_spoil (T : Txt K mg A) : FnG P w K mg base 46 A.f__law_spoil A.d__law_spoil ["_law_thing"] (spF K mg 1 (F__law_spoil 45)) := (ok__law_spoil_n T 45).mono (by decide)
theorem ok__law_other_kinds (T : Txt K mg A) : FnE P w K mg base 1 A.f__law_other_kinds A.d__law_other_kinds "_law_error" ["NoNumbers"] (fun y => F__law_other_kinds ⟨y, none⟩) := by
    refine fnE_ok (k := 0) (b := fun y => b__law_other_kinds ⟨y, none⟩) .trunc T.u__law_other_kinds sc__law_other_kinds fun cdv Ar outer s H p y hr er => ?_
    have hK_Broken : ∀ y ∈ (["NoNumbers"] : List Str), PySem.W.kitOne K (clsV mg ⟨y, none⟩) (.ref A.c_Broken) = some (subX y "Broken") := kit_Broken T
    have hK_NoDay : ∀ y ∈ (["NoNumbers"] : List Str), PySem.W.kitOne K (clsV mg ⟨y, none⟩) (.ref A.c_NoDay) = some (subX y "NoDay") := kit_NoDay T
    have hK_NoDays : ∀ y ∈ (["NoNumbers"] : List Str), PySem.W.kitOne K (clsV mg ⟨y, none⟩) (.ref A.c_NoDays) = some (subX y "NoDays") := kit_NoDays T
    have hK_NoNumbers : ∀ y ∈ (["NoNumbers"] : List Str), PySem.W.kitOne K (clsV mg ⟨y, none⟩) (.ref A.c_NoNumbers) = some (subX y "NoNumbers") := kit_NoNumbers T
    have hK_NoPaper : ∀ y ∈ (["NoNumbers"] : List Str), PySem.W.kitOne K (clsV mg ⟨y, none⟩) (.ref A.c_NoPaper) = some (subX y "NoPaper") := kit_NoPaper T
    have hK_NoRing : ∀ y ∈ (["NoNumbers"] : List Str), PySem.W.kitOne K (clsV mg ⟨y, none⟩) (.ref A.c_NoRing) = some (subX y "NoRing") := kit_NoRing T
    have hK_NoStand : ∀ y ∈ (["NoNumbers"] : List Str), PySem.W.kitOne K (clsV mg ⟨y, none⟩) (.ref A.c_NoStand) = some (subX y "NoStand") := kit_NoStand T
    have hK_NoTask : ∀ y ∈ (["NoNumbers"] : List Str), PySem.W.kitOne K (clsV mg ⟨y, none⟩) (.ref A.c_NoTask) = some (subX y "NoTask") := kit_NoTask T
    have hK_NoText : ∀ y ∈ (["NoNumbers"] : List Str), PySem.W.kitOne K (clsV mg ⟨y, none⟩) (.ref A.c_NoText) = some (subX y "NoText") := kit_NoText T
    have hK_NoThing : ∀ y ∈ (["NoNumbers"] : List Str), PySem.W.kitOne K (clsV mg ⟨y, none⟩) (.ref A.c_NoThing) = some (subX y "NoThing") := kit_NoThing T
    have hK_NotThere : ∀ y ∈ (["NoNumbers"] : List Str), PySem.W.kitOne K (clsV mg ⟨y, none⟩) (.ref A.c_NotThere) = some (subX y "NotThere") := kit_NotThere T
    have hK_TooMany : ∀ y ∈ (["NoNumbers"] : List Str), PySem.W.kitOne K (clsV mg ⟨y, none⟩) (.ref A.c_TooMany) = some (subX y "TooMany") := kit_TooMany T
    obtain ⟨hy, hz, hf⟩ := er
    obtain ⟨Dc, eD, hC⟩ := exc_at T y hy
    rw [eD] at hz
    exact (vss_cons (vs_set 1 sc__law_other_kinds.nd (ve_lst false (va_cons (ve_isP (c := .ref A.c_NoNumbers) (cv := .ref A.c_NoNumbers) 0 List.mem_cons_self hC hz hf (by rw [← eD]; exact hK_NoNumbers y hy) (fun _ z => z) (pe_glob (v := .ref A.c_NoNumbers) (by rfl) T.x_NoNumbers.g rfl) List.mem_cons_self (by rfl) T.z_isinstance) (va_cons (ve_isP (c := .ref A.c_NoDays) (cv := .ref A.c_NoDays) 0 List.mem_cons_self hC hz hf (by rw [← eD]; exact hK_NoDays y hy) (fun _ z => z) (pe_glob (v := .ref A.c_NoDays) (by rfl) T.x_NoDays.g rfl) List.mem_cons_self (by rfl) T.z_isinstance) (va_cons (ve_isP (c := .ref A.c_NoRing) (cv := .ref A.c_NoRing) 0 List.mem_cons_self hC hz hf (by rw [← eD]; exact hK_NoRing y hy) (fun _ z => z) (pe_glob (v := .ref A.c_NoRing) (by rfl) T.x_NoRing.g rfl) List.mem_cons_self (by rfl) T.z_isinstance) va_nil)))) (np := notPin_one (by decide)))
      (vss_cons (vs_set 1 sc__law_other_kinds.nd (ve_bin od_add (ve_var 1) (ve_lst false (va_cons (ve_isP (c := .ref A.c_NoTask) (cv := .ref A.c_NoTask) 0 List.mem_cons_self hC hz hf (by rw [← eD]; exact hK_NoTask y hy) (fun _ z => z) (pe_glob (v := .ref A.c_NoTask) (by rfl) T.x_NoTask.g rfl) List.mem_cons_self (by rfl) T.z_isinstance) (va_cons (ve_isP (c := .ref A.c_NoThing) (cv := .ref A.c_NoThing) 0 List.mem_cons_self hC hz hf (by rw [← eD]; exact hK_NoThing y hy) (fun _ z => z) (pe_glob (v := .ref A.c_NoThing) (by rfl) T.x_NoThing.g rfl) List.mem_cons_self (by rfl) T.z_isinstance) (va_cons (ve_isP (c := .ref A.c_NoStand) (cv := .ref A.c_NoStand) 0 List.mem_cons_self hC hz hf (by rw [← eD]; exact hK_NoStand y hy) (fun _ z => z) (pe_glob (v := .ref A.c_NoStand) (by rfl) T.x_NoStand.g rfl) List.mem_cons_self (by rfl) T.z_isinstance) va_nil))))) (np := notPin_one (by decide)))
      (vss_cons (vs_set 1 sc__law_other_kinds.nd (ve_bin od_add (ve_var 1) (ve_lst false (va_cons (ve_isP (c := .ref A.c_NoDay) (cv := .ref A.c_NoDay) 0 List.mem_cons_self hC hz hf (by rw [← eD]; exact hK_NoDay y hy) (fun _ z => z) (pe_glob (v := .ref A.c_NoDay) (by rfl) T.x_NoDay.g rfl) List.mem_cons_self (by rfl) T.z_isinstance) (va_cons (ve_isP (c := .ref A.c_NoPaper) (cv := .ref A.c_NoPaper) 0 List.mem_cons_self hC hz hf (by rw [← eD]; exact hK_NoPaper y hy) (fun _ z => z) (pe_glob (v := .ref A.c_NoPaper) (by rfl) T.x_NoPaper.g rfl) List.mem_cons_self (by rfl) T.z_isinstance) (va_cons (ve_isP (c := .ref A.c_NoText) (cv := .ref A.c_NoText) 0 List.mem_cons_self hC hz hf (by rw [← eD]; exact hK_NoText y hy) (fun _ z => z) (pe_glob (v := .ref A.c_NoText) (by rfl) T.x_NoText.g rfl) List.mem_cons_self (by rfl) T.z_isinstance) va_nil))))) (np := notPin_one (by decide)))
      (vss_one (vs_ret (ve_bin od_add (ve_var 1) (ve_lst false (va_cons (ve_isP (c := .ref A.c_NotThere) (cv := .ref A.c_NotThere) 0 List.mem_cons_self hC hz hf (by rw [← eD]; exact hK_NotThere y hy) (fun _ z => z) (pe_glob (v := .ref A.c_NotThere) (by rfl) T.x_NotThere.g rfl) List.mem_cons_self (by rfl) T.z_isinstance) (va_cons (ve_isP (c := .ref A.c_Broken) (cv := .ref A.c_Broken) 0 List.mem_cons_self hC hz hf (by rw [← eD]; exact hK_Broken y hy) (fun _ z => z) (pe_glob (v := .ref A.c_Broken) (by rfl) T.x_Broken.g rfl) List.mem_cons_self (by rfl) T.z_isinstance) (va_cons (ve_isP (c := .ref A.c_TooMany) (cv := .ref A.c_TooMany) 0 List.mem_cons_self hC hz hf (by rw [← eD]; exact hK_TooMany y hy) (fun _ z => z) (pe_glob (v := .ref A.c_TooMany) (by rfl) T.x_TooMany.g rfl) List.mem_cons_self (by rfl) T.z_isinstance) va_nil))))))))))
theorem okF__law_other_kinds (T : Txt K mg A) : FnEF P w K mg base 1 A.f__law_other_kinds A.d__law_other_kinds "_law_error" [("TooMany", "most")] F__law_other_kinds := by
    refine fnEF_ok (k := 0) (b := b__law_other_kinds) .trunc T.u__law_other_kinds sc__law_other_kinds fun cdv Ar outer s H p y ff dd d hr hy hz hf => ?_
    have hK_Broken : ∀ y (_ : (y, ff) ∈ ([("TooMany", "most")] : List (Str × Str))), PySem.W.kitOne K (clsV mg ⟨y, none⟩) (.ref A.c_Broken) = some (subX y "Broken") := fun y hy => kitF_Broken T y ff hy
    have hK_NoDay : ∀ y (_ : (y, ff) ∈ ([("TooMany", "most")] : List (Str × Str))), PySem.W.kitOne K (clsV mg ⟨y, none⟩) (.ref A.c_NoDay) = some (subX y "NoDay") := fun y hy => kitF_NoDay T y ff hy
    have hK_NoDays : ∀ y (_ : (y, ff) ∈ ([("TooMany", "most")] : List (Str × Str))), PySem.W.kitOne K (clsV mg ⟨y, none⟩) (.ref A.c_NoDays) = some (subX y "NoDays") := fun y hy => kitF_NoDays T y ff hy
    have hK_NoNumbers : ∀ y (_ : (y, ff) ∈ ([("TooMany", "most")] : List (Str × Str))), PySem.W.kitOne K (clsV mg ⟨y, none⟩) (.ref A.c_NoNumbers) = some (subX y "NoNumbers") := fun y hy => kitF_NoNumbers T y ff hy
    have hK_NoPaper : ∀ y (_ : (y, ff) ∈ ([("TooMany", "most")] : List (Str × Str))), PySem.W.kitOne K (clsV mg ⟨y, none⟩) (.ref A.c_NoPaper) = some (subX y "NoPaper") := fun y hy => kitF_NoPaper T y ff hy
    have hK_NoRing : ∀ y (_ : (y, ff) ∈ ([("TooMany", "most")] : List (Str × Str))), PySem.W.kitOne K (clsV mg ⟨y, none⟩) (.ref A.c_NoRing) = some (subX y "NoRing") := fun y hy => kitF_NoRing T y ff hy
    have hK_NoStand : ∀ y (_ : (y, ff) ∈ ([("TooMany", "most")] : List (Str × Str))), PySem.W.kitOne K (clsV mg ⟨y, none⟩) (.ref A.c_NoStand) = some (subX y "NoStand") := fun y hy => kitF_NoStand T y ff hy
    have hK_NoTask : ∀ y (_ : (y, ff) ∈ ([("TooMany", "most")] : List (Str × Str))), PySem.W.kitOne K (clsV mg ⟨y, none⟩) (.ref A.c_NoTask) = some (subX y "NoTask") := fun y hy => kitF_NoTask T y ff hy
    have hK_NoText : ∀ y (_ : (y, ff) ∈ ([("TooMany", "most")] : List (Str × Str))), PySem.W.kitOne K (clsV mg ⟨y, none⟩) (.ref A.c_NoText) = some (subX y "NoText") := fun y hy => kitF_NoText T y ff hy
    have hK_NoThing : ∀ y (_ : (y, ff) ∈ ([("TooMany", "most")] : List (Str × Str))), PySem.W.kitOne K (clsV mg ⟨y, none⟩) (.ref A.c_NoThing) = some (subX y "NoThing") := fun y hy => kitF_NoThing T y ff hy
    have hK_NotThere : ∀ y (_ : (y, ff) ∈ ([("TooMany", "most")] : List (Str × Str))), PySem.W.kitOne K (clsV mg ⟨y, none⟩) (.ref A.c_NotThere) = some (subX y "NotThere") := fun y hy => kitF_NotThere T y ff hy
    have hK_TooMany : ∀ y (_ : (y, ff) ∈ ([("TooMany", "most")] : List (Str × Str))), PySem.W.kitOne K (clsV mg ⟨y, none⟩) (.ref A.c_TooMany) = some (subX y "TooMany") := fun y hy => kitF_TooMany T y ff hy
    obtain ⟨Dc, eD, hC⟩ := excF_at T y ff hy
    rw [eD] at hz
    have hF_most : ff = "most" → PySem.W.findIn K (.ref Dc) "most" = some none := fun e => by exact fld_most T y ff hy e Dc eD
    exact (vss_cons (vs_set 1 sc__law_other_kinds.nd (ve_lst false (va_cons (ve_isPX (c := .ref A.c_NoNumbers) (cv := .ref A.c_NoNumbers) 0 List.mem_cons_self hC hz hf (by rw [← eD]; exact hK_NoNumbers y hy) (fun _ z => z) (pe_glob (v := .ref A.c_NoNumbers) (by rfl) T.x_NoNumbers.g rfl) List.mem_cons_self (List.mem_cons_of_mem _ List.mem_cons_self) (by rfl) T.z_isinstance) (va_cons (ve_isPX (c := .ref A.c_NoDays) (cv := .ref A.c_NoDays) 0 List.mem_cons_self hC hz hf (by rw [← eD]; exact hK_NoDays y hy) (fun _ z => z) (pe_glob (v := .ref A.c_NoDays) (by rfl) T.x_NoDays.g rfl) List.mem_cons_self (List.mem_cons_of_mem _ List.mem_cons_self) (by rfl) T.z_isinstance) (va_cons (ve_isPX (c := .ref A.c_NoRing) (cv := .ref A.c_NoRing) 0 List.mem_cons_self hC hz hf (by rw [← eD]; exact hK_NoRing y hy) (fun _ z => z) (pe_glob (v := .ref A.c_NoRing) (by rfl) T.x_NoRing.g rfl) List.mem_cons_self (List.mem_cons_of_mem _ List.mem_cons_self) (by rfl) T.z_isinstance) va_nil)))) (np := notPin_two (by decide)))
      (vss_cons (vs_set 1 sc__law_other_kinds.nd (ve_bin od_add (ve_var 1) (ve_lst false (va_cons (ve_isPX (c := .ref A.c_NoTask) (cv := .ref A.c_NoTask) 0 List.mem_cons_self hC hz hf (by rw [← eD]; exact hK_NoTask y hy) (fun _ z => z) (pe_glob (v := .ref A.c_NoTask) (by rfl) T.x_NoTask.g rfl) List.mem_cons_self (List.mem_cons_of_mem _ List.mem_cons_self) (by rfl) T.z_isinstance) (va_cons (ve_isPX (c := .ref A.c_NoThing) (cv := .ref A.c_NoThing) 0 List.mem_cons_self hC hz hf (by rw [← eD]; exact hK_NoThing y hy) (fun _ z => z) (pe_glob (v := .ref A.c_NoThing) (by rfl) T.x_NoThing.g rfl) List.mem_cons_self (List.mem_cons_of_mem _ List.mem_cons_self) (by rfl) T.z_isinstance) (va_cons (ve_isPX (c := .ref A.c_NoStand) (cv := .ref A.c_NoStand) 0 List.mem_cons_self hC hz hf (by rw [← eD]; exact hK_NoStand y hy) (fun _ z => z) (pe_glob (v := .ref A.c_NoStand) (by rfl) T.x_NoStand.g rfl) List.mem_cons_self (List.mem_cons_of_mem _ List.mem_cons_self) (by rfl) T.z_isinstance) va_nil))))) (np := notPin_two (by decide)))
      (vss_cons (vs_set 1 sc__law_other_kinds.nd (ve_bin od_add (ve_var 1) (ve_lst false (va_cons (ve_isPX (c := .ref A.c_NoDay) (cv := .ref A.c_NoDay) 0 List.mem_cons_self hC hz hf (by rw [← eD]; exact hK_NoDay y hy) (fun _ z => z) (pe_glob (v := .ref A.c_NoDay) (by rfl) T.x_NoDay.g rfl) List.mem_cons_self (List.mem_cons_of_mem _ List.mem_cons_self) (by rfl) T.z_isinstance) (va_cons (ve_isPX (c := .ref A.c_NoPaper) (cv := .ref A.c_NoPaper) 0 List.mem_cons_self hC hz hf (by rw [← eD]; exact hK_NoPaper y hy) (fun _ z => z) (pe_glob (v := .ref A.c_NoPaper) (by rfl) T.x_NoPaper.g rfl) List.mem_cons_self (List.mem_cons_of_mem _ List.mem_cons_self) (by rfl) T.z_isinstance) (va_cons (ve_isPX (c := .ref A.c_NoText) (cv := .ref A.c_NoText) 0 List.mem_cons_self hC hz hf (by rw [← eD]; exact hK_NoText y hy) (fun _ z => z) (pe_glob (v := .ref A.c_NoText) (by rfl) T.x_NoText.g rfl) List.mem_cons_self (List.mem_cons_of_mem _ List.mem_cons_self) (by rfl) T.z_isinstance) va_nil))))) (np := notPin_two (by decide)))
      (vss_one (vs_ret (ve_bin od_add (ve_var 1) (ve_lst false (va_cons (ve_isPX (c := .ref A.c_NotThere) (cv := .ref A.c_NotThere) 0 List.mem_cons_self hC hz hf (by rw [← eD]; exact hK_NotThere y hy) (fun _ z => z) (pe_glob (v := .ref A.c_NotThere) (by rfl) T.x_NotThere.g rfl) List.mem_cons_self (List.mem_cons_of_mem _ List.mem_cons_self) (by rfl) T.z_isinstance) (va_cons (ve_isPX (c := .ref A.c_Broken) (cv := .ref A.c_Broken) 0 List.mem_cons_self hC hz hf (by rw [← eD]; exact hK_Broken y hy) (fun _ z => z) (pe_glob (v := .ref A.c_Broken) (by rfl) T.x_Broken.g rfl) List.mem_cons_self (List.mem_cons_of_mem _ List.mem_cons_self) (by rfl) T.z_isinstance) (va_cons (ve_isPX (c := .ref A.c_TooMany) (cv := .ref A.c_TooMany) 0 List.mem_cons_self hC hz hf (by rw [← eD]; exact hK_TooMany y hy) (fun _ z => z) (pe_glob (v := .ref A.c_TooMany) (by rfl) T.x_TooMany.g rfl) List.mem_cons_self (List.mem_cons_of_mem _ List.mem_cons_self) (by rfl) T.z_isinstance) va_nil))))))))))
theorem ok__law_is_whole (T : Txt K mg A) : FnG P w K mg base 1 A.f__law_is_whole A.d__law_is_whole ["_law_thing", "_law_low", "_law_high"] (spF K mg 3 F__law_is_whole) := by
    refine fn_okG (k := 0) .trunc T.u__law_is_whole sc__law_is_whole fun cdv Ar outer s H E hr => ?_
    have tk := takes_of (X := cxOf (L2.CX P w) P w K mg base ["_law_thing", "_law_low", "_law_high"] "_law_is_whole" (defScope s__law_is_whole) A.f__law_is_whole cdv Ar outer s H E) rfl rfl rfl rfl
    have hp := passes_of (X := cxOf (L2.CX P w) P w K mg base ["_law_thing", "_law_low", "_law_high"] "_law_is_whole" (defScope s__law_is_whole) A.f__law_is_whole cdv Ar outer s H E) rfl
    exact (vss_one (vs_ret (ve_and (ve_isi (ve_var 0) (by rfl) T.z_isinstance (by rfl) T.z_int (by decide +kernel) (by decide)) (ve_and (ve_not (ve_isi (ve_var 0) (by rfl) T.z_isinstance (by rfl) T.z_bool (by decide +kernel) (by decide))) (ve_one (ve_chain od_le od_le (ve_var 1) (ve_var 0) (ve_var 2)))))))
theorem ok__law_is_row (T : Txt K mg A) : FnG P w K mg base 1 A.f__law_is_row A.d__law_is_row ["_law_thing"] (spF K mg 1 F__law_is_row) := by
    refine fn_okG (k := 0) .trunc T.u__law_is_row sc__law_is_row fun cdv Ar outer s H E hr => ?_
    have tk := takes_of (X := cxOf (L2.CX P w) P w K mg base ["_law_thing"] "_law_is_row" (defScope s__law_is_row) A.f__law_is_row cdv Ar outer s H E) rfl rfl rfl rfl
    have hp := passes_of (X := cxOf (L2.CX P w) P w K mg base ["_law_thing"] "_law_is_row" (defScope s__law_is_row) A.f__law_is_row cdv Ar outer s H E) rfl
    exact (vss_one (vs_ret (ve_or (ve_isi (ve_var 0) (by rfl) T.z_isinstance (by rfl) T.z_list (by decide +kernel) (by decide)) (ve_one (ve_isi (ve_var 0) (by rfl) T.z_isinstance (by rfl) T.z_tuple (by decide +kernel) (by decide))))))
theorem ok__law_are_some (T : Txt K mg A) : FnG P w K mg base 2 A.f__law_are_some A.d__law_are_some ["_law_thing", "_law_many"] (spF K mg 2 F__law_are_some) := by
    refine fn_okG (k := 1) .trunc T.u__law_are_some sc__law_are_some fun cdv Ar outer s H E hr => ?_
    have tk := takes_of (X := cxOf (L2.CX P w) P w K mg base ["_law_thing", "_law_many", "_law_one"] "_law_are_some" (defScope s__law_are_some) A.f__law_are_some cdv Ar outer s H E) rfl rfl rfl rfl
    have hp := passes_of (X := cxOf (L2.CX P w) P w K mg base ["_law_thing", "_law_many", "_law_one"] "_law_are_some" (defScope s__law_are_some) A.f__law_are_some cdv Ar outer s H E) rfl
    exact (vss_cons (vs_if (vt_w (vw_or (vt_not (vt_val (ve_callG (ok__law_is_row T) (hr.mono (by first | decide | omega)) (by rfl) T.g__law_is_row T.u__law_is_row.kp T.b__law_is_row tk (va_cons (ve_var 0) va_nil)))) (vw_or1 (vt_cmp (od_ne hr.units) (ve_comp false [("_law_one", 2)] rfl sc__law_are_some.nd (vi_row (ve_var 0)) (blkOk_by (own := [("_law_one", 2)]) (N := ["_law_thing", "_law_many", "_law_one"]) (sc := defScope s__law_are_some) (by decide +kernel)) (fun _ _ _ _ _ => (vg_name 2 sc__law_are_some.nd)) (fun _ _ _ _ _ => (vts_one (vt_not (vt_val (ve_callG (ok__law_is_whole T) (hr.mono (by first | decide | omega)) (by rfl) T.g__law_is_whole T.u__law_is_whole.kp T.b__law_is_whole takes0 (va_cons (ve_var 2) (va_cons ve_int (va_cons (ve_bin od_sub (ve_var 1) ve_int) va_nil)))))))) (fun _ _ _ _ _ => (ve_var 2))) (ve_lst false va_nil))))) (vss_one (vs_ret ve_bl)) vss_nil)
      (vss_one (vs_ret (ve_cmp (od_eq hr.units) (ve_callTy (cd_list false) (by rfl) T.z_list (by decide +kernel) (va_cons (ve_var 0) va_nil)) (ve_sortSetW (ve_var 0) (by rfl) T.z_sorted (by rfl) T.z_set)))))
theorem ok__law_are_pairs (T : Txt K mg A) : FnG P w K mg base 3 A.f__law_are_pairs A.d__law_are_pairs ["_law_thing", "_law_many"] (spF K mg 2 F__law_are_pairs) := by
    refine fn_okG (k := 2) .trunc T.u__law_are_pairs sc__law_are_pairs fun cdv Ar outer s H E hr => ?_
    have tk := takes_of (X := cxOf (L2.CX P w) P w K mg base ["_law_thing", "_law_many", "_law_one", "_law_pairs"] "_law_are_pairs" (defScope s__law_are_pairs) A.f__law_are_pairs cdv Ar outer s H E) rfl rfl rfl rfl
    have hp := passes_of (X := cxOf (L2.CX P w) P w K mg base ["_law_thing", "_law_many", "_law_one", "_law_pairs"] "_law_are_pairs" (defScope s__law_are_pairs) A.f__law_are_pairs cdv Ar outer s H E) rfl
    exact (vss_cons (vs_if (vt_not (vt_val (ve_callG (ok__law_is_row T) (hr.mono (by first | decide | omega)) (by rfl) T.g__law_is_row T.u__law_is_row.kp T.b__law_is_row tk (va_cons (ve_var 0) va_nil)))) (vss_one (vs_ret ve_bl)) vss_nil)
      (vss_cons (vs_fb (vs_for (vs := [2]) hp rfl (vi_row (ve_var 0)) (vg_name 2 sc__law_are_pairs.nd) (vss_fa (vss_one (vs_if (vt_w (vw_or (vt_not (vt_val (ve_callG (ok__law_are_some T) (hr.mono (by first | decide | omega)) (by rfl) T.g__law_are_some T.u__law_are_some.kp T.b__law_are_some tk (va_cons (ve_var 2) (va_cons (ve_var 1) va_nil))))) (vw_or1 (vt_cmp (od_ne hr.units) (ve_callB cd_len (by rfl) T.z_len (by decide +kernel) (va_cons (ve_var 2) va_nil)) ve_int)))) (vss_one (vs_ret ve_bl)) vss_nil)))))
      (vss_cons (vs_setComp false 3 [("_law_one", 2)] rfl sc__law_are_pairs.nd (vi_row (ve_var 0)) (blkOk_by (own := [("_law_one", 2)]) (N := ["_law_thing", "_law_many", "_law_one", "_law_pairs"]) (sc := defScope s__law_are_pairs) (by decide +kernel)) (fun _ _ _ _ _ => (vg_name 2 sc__law_are_pairs.nd)) (fun _ _ _ _ _ => vts_nil) (fun _ _ _ _ _ => (ve_tup (va_cons (ve_ix (ve_var 2) ve_int) (va_cons (ve_ix (ve_var 2) ve_int) va_nil)))))
      (vss_one (vs_ret (ve_cmp (od_eq hr.units) (ve_var 3) (ve_sortSetPL (ve_var 3) (by rfl) T.z_sorted (by rfl) T.z_set (Nat.lt_of_succ_lt (units65 hr.toRoom)))))))))
theorem ok__law_are_wholes (T : Txt K mg A) : FnG P w K mg base 2 A.f__law_are_wholes A.d__law_are_wholes ["_law_thing", "_law_low", "_law_high", "_law_least", "_law_most"] (spF K mg 5 F__law_are_wholes) := by
    refine fn_okG (k := 1) .trunc T.u__law_are_wholes sc__law_are_wholes fun cdv Ar outer s H E hr => ?_
    have tk := takes_of (X := cxOf (L2.CX P w) P w K mg base ["_law_thing", "_law_low", "_law_high", "_law_least", "_law_most", "_law_one"] "_law_are_wholes" (defScope s__law_are_wholes) A.f__law_are_wholes cdv Ar outer s H E) rfl rfl rfl rfl
    have hp := passes_of (X := cxOf (L2.CX P w) P w K mg base ["_law_thing", "_law_low", "_law_high", "_law_least", "_law_most", "_law_one"] "_law_are_wholes" (defScope s__law_are_wholes) A.f__law_are_wholes cdv Ar outer s H E) rfl
    exact (vss_cons (vs_if (vt_w (vw_or (vt_not (vt_val (ve_callG (ok__law_is_row T) (hr.mono (by first | decide | omega)) (by rfl) T.g__law_is_row T.u__law_is_row.kp T.b__law_is_row tk (va_cons (ve_var 0) va_nil)))) (vw_or1 (vt_not (vt_chain od_le od_le (ve_var 3) (ve_callB cd_len (by rfl) T.z_len (by decide +kernel) (va_cons (ve_var 0) va_nil)) (ve_var 4)))))) (vss_one (vs_ret ve_bl)) vss_nil)
      (vss_one (vs_ret (ve_cmp (od_eq hr.units) (ve_comp false [("_law_one", 5)] rfl sc__law_are_wholes.nd (vi_row (ve_var 0)) (blkOk_by (own := [("_law_one", 5)]) (N := ["_law_thing", "_law_low", "_law_high", "_law_least", "_law_most", "_law_one"]) (sc := defScope s__law_are_wholes) (by decide +kernel)) (fun _ _ _ _ _ => (vg_name 5 sc__law_are_wholes.nd)) (fun _ _ _ _ _ => (vts_one (vt_not (vt_val (ve_callG (ok__law_is_whole T) (hr.mono (by first | decide | omega)) (by rfl) T.g__law_is_whole T.u__law_is_whole.kp T.b__law_is_whole takes0 (va_cons (ve_var 5) (va_cons (ve_var 1) (va_cons (ve_var 2) va_nil)))))))) (fun _ _ _ _ _ => (ve_var 5))) (ve_lst false va_nil)))))
theorem ok__law_is_task (T : Txt K mg A) : FnG P w K mg base 4 A.f__law_is_task A.d__law_is_task ["_law_thing"] (spF K mg 1 F__law_is_task) := by
    refine fn_okG (k := 3) .trunc T.u__law_is_task sc__law_is_task fun cdv Ar outer s H E hr => ?_
    have tk := takes_of (X := cxOf (L2.CX P w) P w K mg base ["_law_thing"] "_law_is_task" (defScope s__law_is_task) A.f__law_is_task cdv Ar outer s H E) rfl rfl rfl rfl
    have hp := passes_of (X := cxOf (L2.CX P w) P w K mg base ["_law_thing"] "_law_is_task" (defScope s__law_is_task) A.f__law_is_task cdv Ar outer s H E) rfl
    exact (vss_cons (vs_if (vt_w (vw_or (vt_not (vt_val (ve_callG (ok__law_is_row T) (hr.mono (by first | decide | omega)) (by rfl) T.g__law_is_row T.u__law_is_row.kp T.b__law_is_row tk (va_cons (ve_var 0) va_nil)))) (vw_or1 (vt_cmp (od_ne hr.units) (ve_callB cd_len (by rfl) T.z_len (by decide +kernel) (va_cons (ve_var 0) va_nil)) ve_int)))) (vss_one (vs_ret ve_bl)) vss_nil)
      (vss_cons (vs_if (vt_w (vw_or (vt_not (vt_val (ve_callG (ok__law_are_wholes T) (hr.mono (by first | decide | omega)) (by rfl) T.g__law_are_wholes T.u__law_are_wholes.kp T.b__law_are_wholes tk (va_cons (ve_ix (ve_var 0) ve_int) (va_cons ve_int (va_cons ve_int (va_cons ve_int (va_cons ve_int va_nil)))))))) (vw_or1 (vt_not (vt_val (ve_callG (ok__law_is_whole T) (hr.mono (by first | decide | omega)) (by rfl) T.g__law_is_whole T.u__law_is_whole.kp T.b__law_is_whole tk (va_cons (ve_ix (ve_var 0) ve_int) (va_cons ve_int (va_cons ve_int va_nil))))))))) (vss_one (vs_ret ve_bl)) vss_nil)
      (vss_cons (vs_if (vt_not (vt_val (ve_callG (ok__law_are_wholes T) (hr.mono (by first | decide | omega)) (by rfl) T.g__law_are_wholes T.u__law_are_wholes.kp T.b__law_are_wholes tk (va_cons (ve_ix (ve_var 0) ve_int) (va_cons ve_int (va_cons ve_int (va_cons ve_int (va_cons ve_int va_nil)))))))) (vss_one (vs_ret ve_bl)) vss_nil)
      (vss_one (vs_ret (ve_and (ve_callG (ok__law_are_some T) (hr.mono (by first | decide | omega)) (by rfl) T.g__law_are_some T.u__law_are_some.kp T.b__law_are_some tk (va_cons (ve_ix (ve_var 0) ve_int) (va_cons (ve_callB cd_len (by rfl) T.z_len (by decide +kernel) (va_cons (ve_ix (ve_var 0) ve_int) va_nil)) va_nil))) (ve_one (ve_callG (ok__law_are_pairs T) (hr.mono (by first | decide | omega)) (by rfl) T.g__law_are_pairs T.u__law_are_pairs.kp T.b__law_are_pairs tk (va_cons (ve_ix (ve_var 0) ve_int) (va_cons (ve_callB cd_len (by rfl) T.z_len (by decide +kernel) (va_cons (ve_ix (ve_var 0) ve_int) va_nil)) va_nil))))))))))
theorem ok__law_nested (T : Txt K mg A) : FnG P w K mg base 1 A.f__law_nested A.d__law_nested ["_law_deep"] (spF K mg 1 F__law_nested) := by
    refine fn_okG (k := 0) .trunc T.u__law_nested sc__law_nested fun cdv Ar outer s H E hr => ?_
    have tk := takes_of (X := cxOf (L2.CX P w) P w K mg base ["_law_deep", "_law_found", "_law_k"] "_law_nested" (defScope s__law_nested) A.f__law_nested cdv Ar outer s H E) rfl rfl rfl rfl
    have hp := passes_of (X := cxOf (L2.CX P w) P w K mg base ["_law_deep", "_law_found", "_law_k"] "_law_nested" (defScope s__law_nested) A.f__law_nested cdv Ar outer s H E) rfl
    exact (vss_cons (vs_set 1 sc__law_nested.nd (ve_tup va_nil))
      (vss_cons (vs_fb (vs_for (vs := [2]) hp rfl (vi_range1 (by rfl) T.z_range (va_cons (ve_var 0) va_nil)) (vg_name 2 sc__law_nested.nd) (vss_fa (vss_one (vs_set 1 sc__law_nested.nd (ve_ix (ve_lst false (va_cons (ve_tup (va_cons (ve_var 1) va_nil)) (va_cons (ve_lst false (va_cons (ve_var 1) va_nil)) va_nil))) (ve_bin od_mod (ve_var 2) ve_int)))))))
      (vss_one (vs_ret (ve_var 1)))))
theorem ok__law_odd (T : Txt K mg A) : FnG P w K mg base 3 A.f__law_odd A.d__law_odd ["_law_draws_here"] (spF K mg 1 F__law_odd) := by
    refine fn_okG (k := 2) .trunc T.u__law_odd sc__law_odd fun cdv Ar outer s H E hr => ?_
    have tk := takes_of (X := cxOf (L2.CX P w) P w K mg base ["_law_draws_here", "_law_some_here"] "_law_odd" (defScope s__law_odd) A.f__law_odd cdv Ar outer s H E) rfl rfl rfl rfl
    have hp := passes_of (X := cxOf (L2.CX P w) P w K mg base ["_law_draws_here", "_law_some_here"] "_law_odd" (defScope s__law_odd) A.f__law_odd cdv Ar outer s H E) rfl
    exact (vss_cons (vs_set 1 sc__law_odd.nd (ve_lst false (va_cons ve_non (va_cons ve_bl (va_cons ve_bl (va_cons ve_int (va_cons ve_int (va_cons ve_int (va_cons ve_int (va_cons (ve_neg ve_int) (va_cons (ve_bin od_pow ve_int ve_int) (va_cons ve_str (va_cons ve_str (va_cons ve_str (va_cons (ve_tup va_nil) (va_cons (ve_lst false va_nil) (va_cons ve_dict0 (va_cons ve_dict1 (va_cons (ve_tup (va_cons ve_int va_nil)) (va_cons (ve_lst false (va_cons ve_int va_nil)) (va_cons (ve_tup (va_cons (ve_tup va_nil) va_nil)) (va_cons (ve_lst false (va_cons (ve_lst false va_nil) va_nil)) va_nil))))))))))))))))))))))
      (vss_cons (vs_set 1 sc__law_odd.nd (ve_bin od_add (ve_var 1) (ve_lst false (va_cons (ve_tup (va_cons ve_int (va_cons ve_int va_nil))) (va_cons (ve_lst false (va_cons ve_int (va_cons ve_int va_nil))) (va_cons (ve_tup (va_cons ve_int (va_cons ve_int va_nil))) (va_cons (ve_tup (va_cons ve_bl va_nil)) (va_cons (ve_tup (va_cons ve_non va_nil)) (va_cons (ve_tup (va_cons ve_str va_nil)) (va_cons (ve_tup (va_cons ve_int (va_cons ve_int (va_cons ve_int va_nil)))) (va_cons (ve_tup (va_cons (ve_tup (va_cons ve_int (va_cons ve_int va_nil))) va_nil)) (va_cons (ve_lst false (va_cons (ve_lst false (va_cons ve_int (va_cons ve_int va_nil))) va_nil)) (va_cons (ve_lst false (va_cons (ve_tup (va_cons ve_int (va_cons ve_int va_nil))) va_nil)) (va_cons (ve_tup (va_cons ve_int (va_cons ve_int va_nil))) va_nil))))))))))))))
      (vss_one (vs_ret (ve_callG (ok__law_of T) (hr.mono (by first | decide | omega)) (by rfl) T.g__law_of T.u__law_of.kp T.b__law_of tk (va_cons (ve_var 0) (va_cons (ve_bin od_add (ve_var 1) (ve_lst false (va_cons (ve_tup (va_cons (ve_neg ve_int) va_nil)) (va_cons (ve_tup (va_cons (ve_bin od_pow ve_int ve_int) va_nil)) (va_cons (ve_tup (va_cons (ve_lst false (va_cons ve_int va_nil)) va_nil)) (va_cons (ve_tup (va_cons ve_bl (va_cons ve_bl va_nil))) (va_cons (ve_tup (va_cons (ve_tup (va_cons ve_int (va_cons ve_int va_nil))) (va_cons (ve_tup (va_cons ve_int (va_cons ve_int va_nil))) va_nil))) (va_cons (ve_callG (ok__law_nested T) (hr.mono (by first | decide | omega)) (by rfl) T.g__law_nested T.u__law_nested.kp T.b__law_nested tk (va_cons ve_int va_nil)) va_nil)))))))) va_nil)))))))
theorem ok__law_bent_row (T : Txt K mg A) : FnG P w K mg base 4 A.f__law_bent_row A.d__law_bent_row ["_law_draws_here", "_law_row"] (spF K mg 2 F__law_bent_row) := by
    refine fn_okG (k := 3) .trunc T.u__law_bent_row sc__law_bent_row fun cdv Ar outer s H E hr => ?_
    have tk := takes_of (X := cxOf (L2.CX P w) P w K mg base ["_law_draws_here", "_law_row", "_law_at", "_law_way", "_law_some_here", "_law_number"] "_law_bent_row" (defScope s__law_bent_row) A.f__law_bent_row cdv Ar outer s H E) rfl rfl rfl rfl
    have hp := passes_of (X := cxOf (L2.CX P w) P w K mg base ["_law_draws_here", "_law_row", "_law_at", "_law_way", "_law_some_here", "_law_number"] "_law_bent_row" (defScope s__law_bent_row) A.f__law_bent_row cdv Ar outer s H E) rfl
    exact (vss_cons (vs_set 1 sc__law_bent_row.nd (ve_callTy (cd_list false) (by rfl) T.z_list (by decide +kernel) (va_cons (ve_var 1) va_nil)))
      (vss_cons (vs_set 2 sc__law_bent_row.nd (ve_bin od_mod (ve_callG (ok__law_next T) (hr.mono (by first | decide | omega)) (by rfl) T.g__law_next T.u__law_next.kp T.b__law_next tk (va_cons (ve_var 0) va_nil)) (ve_bin od_add (ve_callB cd_len (by rfl) T.z_len (by decide +kernel) (va_cons (ve_var 1) va_nil)) ve_int)))
      (vss_cons (vs_set 3 sc__law_bent_row.nd (ve_bin od_mod (ve_callG (ok__law_next T) (hr.mono (by first | decide | omega)) (by rfl) T.g__law_next T.u__law_next.kp T.b__law_next tk (va_cons (ve_var 0) va_nil)) ve_int))
      (vss_cons (vs_if (vt_cmp (od_eq hr.units) (ve_var 3) ve_int) (vss_one (vs_ret (ve_bin od_add (ve_slice false (ve_var 1) vo_none (vo_some (ve_var 2))) (ve_slice false (ve_var 1) (vo_some (ve_bin od_add (ve_var 2) ve_int)) vo_none)))) vss_nil)
      (vss_cons (vs_if (vt_cmp (od_eq hr.units) (ve_var 3) ve_int) (vss_one (vs_ret (ve_bin od_add (ve_bin od_add (ve_slice false (ve_var 1) vo_none (vo_some (ve_var 2))) (ve_lst false (va_cons (ve_callG (ok__law_odd T) (hr.mono (by first | decide | omega)) (by rfl) T.g__law_odd T.u__law_odd.kp T.b__law_odd tk (va_cons (ve_var 0) va_nil)) va_nil))) (ve_slice false (ve_var 1) (vo_some (ve_var 2)) vo_none)))) vss_nil)
      (vss_cons (vs_if (vt_cmp (od_eq hr.units) (ve_var 3) ve_int) (vss_one (vs_ret (ve_bin od_add (ve_bin od_add (ve_slice false (ve_var 1) vo_none (vo_some (ve_var 2))) (ve_slice false (ve_var 1) (vo_some (ve_var 2)) (vo_some (ve_bin od_add (ve_var 2) ve_int)))) (ve_slice false (ve_var 1) (vo_some (ve_var 2)) vo_none)))) vss_nil)
      (vss_cons (vs_if (vt_cmp (od_eq hr.units) (ve_var 3) ve_int) (vss_one (vs_ret (ve_bin od_add (ve_bin od_add (ve_slice false (ve_var 1) vo_none (vo_some (ve_var 2))) (ve_revL (ve_slice false (ve_var 1) (vo_some (ve_var 2)) (vo_some (ve_bin od_add (ve_var 2) ve_int))) (ve_neg ve_int))) (ve_slice false (ve_var 1) (vo_some (ve_bin od_add (ve_var 2) ve_int)) vo_none)))) vss_nil)
      (vss_cons (vs_set 4 sc__law_bent_row.nd (ve_lst false (va_cons ve_int (va_cons ve_int (va_cons ve_int (va_cons ve_int (va_cons ve_int (va_cons ve_int (va_cons ve_int (va_cons (ve_neg ve_int) (va_cons (ve_callB cd_len (by rfl) T.z_len (by decide +kernel) (va_cons (ve_var 1) va_nil)) (va_cons ve_bl va_nil))))))))))))
      (vss_cons (vs_set 5 sc__law_bent_row.nd (ve_callG (ok__law_of T) (hr.mono (by first | decide | omega)) (by rfl) T.g__law_of T.u__law_of.kp T.b__law_of tk (va_cons (ve_var 0) (va_cons (ve_bin od_add (ve_var 4) (ve_lst false (va_cons (ve_tup (va_cons ve_int (va_cons ve_int va_nil))) (va_cons (ve_tup (va_cons ve_int (va_cons ve_int va_nil))) (va_cons (ve_lst false (va_cons ve_int (va_cons ve_int va_nil))) (va_cons (ve_tup (va_cons ve_int (va_cons ve_int va_nil))) (va_cons (ve_tup (va_cons ve_int (va_cons ve_int (va_cons ve_int va_nil)))) (va_cons (ve_tup (va_cons ve_int (va_cons ve_int va_nil))) va_nil)))))))) va_nil))))
      (vss_one (vs_ret (ve_ix (ve_lst false (va_cons (ve_bin od_add (ve_bin od_add (ve_slice false (ve_var 1) vo_none (vo_some (ve_var 2))) (ve_lst false (va_cons (ve_var 5) va_nil))) (ve_slice false (ve_var 1) (vo_some (ve_bin od_add (ve_var 2) ve_int)) vo_none)) (va_cons (ve_bin od_add (ve_bin od_add (ve_slice false (ve_var 1) vo_none (vo_some (ve_var 2))) (ve_lst false (va_cons (ve_var 5) va_nil))) (ve_slice false (ve_var 1) (vo_some (ve_var 2)) vo_none)) va_nil))) (ve_bin od_mod (ve_var 3) ve_int)))))))))))))
theorem ok__law_bent (T : Txt K mg A) : FnG P w K mg base 5 A.f__law_bent A.d__law_bent ["_law_draws_here", "_law_task_here"] (spF K mg 2 F__law_bent) := by
    refine fn_okG (k := 4) .trunc T.u__law_bent sc__law_bent fun cdv Ar outer s H E hr => ?_
    have tk := takes_of (X := cxOf (L2.CX P w) P w K mg base ["_law_draws_here", "_law_task_here", "_law_parts", "_law_way", "_law_at"] "_law_bent" (defScope s__law_bent) A.f__law_bent cdv Ar outer s H E) rfl rfl rfl rfl
    have hp := passes_of (X := cxOf (L2.CX P w) P w K mg base ["_law_draws_here", "_law_task_here", "_law_parts", "_law_way", "_law_at"] "_law_bent" (defScope s__law_bent) A.f__law_bent cdv Ar outer s H E) rfl
    exact (vss_cons (vs_set 2 sc__law_bent.nd (ve_callTy (cd_list true) (by rfl) T.z_list (by decide +kernel) (va_cons (ve_var 1) va_nil)))
      (vss_cons (vs_set 3 sc__law_bent.nd (ve_bin od_mod (ve_callG (ok__law_next T) (hr.mono (by first | decide | omega)) (by rfl) T.g__law_next T.u__law_next.kp T.b__law_next tk (va_cons (ve_var 0) va_nil)) ve_int))
      (vss_cons (vs_if (vt_cmp (od_eq hr.units) (ve_var 3) ve_int) (vss_one (vs_ret (ve_callG (ok__law_odd T) (hr.mono (by first | decide | omega)) (by rfl) T.g__law_odd T.u__law_odd.kp T.b__law_odd tk (va_cons (ve_var 0) va_nil)))) vss_nil)
      (vss_cons (vs_if (vt_cmp (od_eq hr.units) (ve_var 3) ve_int) (vss_one (vs_ret (ve_ix (ve_lst false (va_cons (ve_slice false (ve_var 2) vo_none (vo_some ve_int)) (va_cons (ve_bin od_add (ve_var 2) (ve_lst false (va_cons (ve_tup va_nil) va_nil))) (va_cons (ve_slice false (ve_var 2) (vo_some ve_int) vo_none) (va_cons (ve_bin od_add (ve_var 2) (ve_slice false (ve_var 2) vo_none (vo_some ve_int))) va_nil))))) (ve_bin od_mod (ve_callG (ok__law_next T) (hr.mono (by first | decide | omega)) (by rfl) T.g__law_next T.u__law_next.kp T.b__law_next tk (va_cons (ve_var 0) va_nil)) ve_int)))) vss_nil)
      (vss_cons (vs_if (vt_cmp (od_eq hr.units) (ve_var 3) ve_int) (vss_cons (vs_item (ve_callG (ok__law_of T) (hr.mono (by first | decide | omega)) (by rfl) T.g__law_of T.u__law_of.kp T.b__law_of tk (va_cons (ve_var 0) (va_cons (ve_lst false (va_cons ve_int (va_cons ve_int (va_cons ve_bl (va_cons ve_str (va_cons ve_non (va_cons ve_int (va_cons ve_int (va_cons (ve_tup (va_cons ve_int va_nil)) (va_cons (ve_neg ve_int) (va_cons (ve_bin od_pow ve_int ve_int) va_nil))))))))))) va_nil))) (ve_var 2) ve_int)
      (vss_one (vs_ret (ve_var 2)))) vss_nil)
      (vss_cons (vs_set 4 sc__law_bent.nd (ve_callG (ok__law_of T) (hr.mono (by first | decide | omega)) (by rfl) T.g__law_of T.u__law_of.kp T.b__law_of tk (va_cons (ve_var 0) (va_cons (ve_lst false (va_cons ve_int (va_cons ve_int (va_cons ve_int (va_cons ve_int va_nil))))) va_nil))))
      (vss_cons (vs_if (vt_w (vw_or (vt_cmp (od_eq hr.units) (ve_var 3) ve_int) (vw_or1 (vt_not (vt_val (ve_callG (ok__law_is_row T) (hr.mono (by first | decide | omega)) (by rfl) T.g__law_is_row T.u__law_is_row.kp T.b__law_is_row tk (va_cons (ve_ix (ve_var 2) (ve_var 4)) va_nil))))))) (vss_one (vs_item (ve_callG (ok__law_odd T) (hr.mono (by first | decide | omega)) (by rfl) T.g__law_odd T.u__law_odd.kp T.b__law_odd tk (va_cons (ve_var 0) va_nil)) (ve_var 2) (ve_var 4))) (vss_one (vs_if (vt_cmp (od_eq hr.units) (ve_var 3) ve_int) (vss_one (vs_item (ve_bin od_mul (ve_callTy (cd_list false) (by rfl) T.z_list (by decide +kernel) (va_cons (ve_ix (ve_var 2) (ve_var 4)) va_nil)) ve_int) (ve_var 2) (ve_var 4))) (vss_one (vs_item (ve_callG (ok__law_bent_row T) (hr.mono (by first | decide | omega)) (by rfl) T.g__law_bent_row T.u__law_bent_row.kp T.b__law_bent_row tk (va_cons (ve_var 0) (va_cons (ve_ix (ve_var 2) (ve_var 4)) va_nil))) (ve_var 2) (ve_var 4))))))
      (vss_one (vs_ret (ve_callTy cd_tuple (by rfl) T.z_tuple (by decide +kernel) (va_cons (ve_var 2) va_nil)))))))))))
theorem ok__law_plain_refused (T : Txt K mg A) : FnG P w K mg base 5 A.f__law_plain_refused A.d__law_plain_refused ["_law_thing"] (spF K mg 1 F__law_plain_refused) := by
    refine fn_okG (k := 4) .trunc T.u__law_plain_refused sc__law_plain_refused fun cdv Ar outer s H E hr => ?_
    have tk := takes_of (X := cxOf (L2.CX P w) P w K mg base ["_law_thing", "_law_error", "_law_kinds"] "_law_plain_refused" (defScope s__law_plain_refused) A.f__law_plain_refused cdv Ar outer s H E) rfl rfl rfl rfl
    have hp := passes_of (X := cxOf (L2.CX P w) P w K mg base ["_law_thing", "_law_error", "_law_kinds"] "_law_plain_refused" (defScope s__law_plain_refused) A.f__law_plain_refused cdv Ar outer s H E) rfl
    exact (vss_cons (vs_tryX 1 ["NoNumbers"] [("TooMany", "most")] rfl rfl sc__law_plain_refused.nd (by rfl) T.x_DaysError.g tk (exmX_DaysError T) (fun W' pn xe tk' hp' => (vss_one (vs_expr (ve_callG (ok_plain T) (hr.mono (by first | decide | omega)) (by rfl) T.g_plain T.u_plain.kp T.b_plain tk' (va_cons (ve_var 0) va_nil)))))
      (fun a oe y pn hy hz hf => by
        have hK_ValueError : ∀ y ∈ (["NoNumbers"] : List Str), PySem.W.kitOne K (clsV mg ⟨y, none⟩) (.type "ValueError") = some (subX y "ValueError") := kit_ValueError T
        obtain ⟨Dc, eD, hC⟩ := exc_at T y hy
        replace hz : Zc (clsV mg ⟨y, none⟩) none oe := hz
        have hz0 := hz
        rw [eD] at hz
        have hKr := eD
        exact (vss_cons (vs_set 2 sc__law_plain_refused.nd (ve_callE 1 (ok__law_other_kinds T) (hr.toRoom.mono (by first | decide | omega)) ⟨hy, hz0, hf⟩ (by rfl) T.g__law_other_kinds T.u__law_other_kinds.kp T.b__law_other_kinds List.mem_cons_self) (np := notPin_one (by decide)))
      (vss_one (vs_ret (ve_and (ve_ix (ve_var 2) ve_int) (ve_and (ve_cmp (od_eq hr.units) (ve_ml PySem.F.slot_list_count PySem.F.type_list_count (md_count (units65 hr.toRoom :)) (ve_var 2) (va_cons ve_bl va_nil)) ve_int) (ve_one (ve_isE (c := .ty "ValueError") (cv := .type "ValueError") 1 hC hz hf (by rw [← eD]; exact hK_ValueError y hy) (fun _ z => z) (pe_bltn (v := .ty "ValueError") (by rfl) T.z_ValueError (by decide +kernel) rfl) List.mem_cons_self (by rfl) T.z_isinstance))))))))
      (fun a dd oe y ff d pn hy hz hf => by
        have hK_ValueError : ∀ y (_ : (y, ff) ∈ ([("TooMany", "most")] : List (Str × Str))), PySem.W.kitOne K (clsV mg ⟨y, none⟩) (.type "ValueError") = some (subX y "ValueError") := fun y hy => kitF_ValueError T y ff hy
        obtain ⟨Dc, eD, hC⟩ := excF_at T y ff hy
        replace hz : Zc (clsV mg ⟨y, none⟩) (some dd) oe := hz
        have hz0 := hz
        rw [eD] at hz
        have hF_most : ff = "most" → PySem.W.findIn K (.ref Dc) "most" = some none := fun e => by exact fld_most T y ff hy e Dc eD
        exact (vss_cons (vs_set 2 sc__law_plain_refused.nd (ve_callEF 1 (okF__law_other_kinds T) (hr.toRoom.mono (by first | decide | omega)) hy hz0 hf (by rfl) T.g__law_other_kinds T.u__law_other_kinds.kp T.b__law_other_kinds List.mem_cons_self (List.mem_cons_of_mem _ List.mem_cons_self)) (np := notPin_two (by decide)))
      (vss_one (vs_ret (ve_and (ve_ix (ve_var 2) ve_int) (ve_and (ve_cmp (od_eq hr.units) (ve_ml PySem.F.slot_list_count PySem.F.type_list_count (md_count (units65 hr.toRoom :)) (ve_var 2) (va_cons ve_bl va_nil)) ve_int) (ve_one (ve_isEX (c := .ty "ValueError") (cv := .type "ValueError") 1 hC hz hf (by rw [← eD]; exact hK_ValueError y hy) (fun _ z => z) (pe_bltn (v := .ty "ValueError") (by rfl) T.z_ValueError (by decide +kernel) rfl) List.mem_cons_self (List.mem_cons_of_mem _ List.mem_cons_self) (by rfl) T.z_isinstance)))))))))
      (vss_one (vs_ret ve_bl)))
theorem ok__law_is_plain (T : Txt K mg A) : FnG P w K mg base 50 A.f__law_is_plain A.d__law_is_plain ["_law_numbers_here", "_law_draw"] (spF K mg 2 F__law_is_plain) := by
    refine fn_okG (k := 49) .trunc T.u__law_is_plain sc__law_is_plain fun cdv Ar outer s H E hr => ?_
    have tk := takes_of (X := cxOf (L2.CX P w) P w K mg base ["_law_numbers_here", "_law_draw", "_law_handed", "_law_held", "_law_found"] "_law_is_plain" (defScope s__law_is_plain) A.f__law_is_plain cdv Ar outer s H E) rfl rfl rfl rfl
    have hp := passes_of (X := cxOf (L2.CX P w) P w K mg base ["_law_numbers_here", "_law_draw", "_law_handed", "_law_held", "_law_found"] "_law_is_plain" (defScope s__law_is_plain) A.f__law_is_plain cdv Ar outer s H E) rfl
    exact (vss_cons (vs_set 2 sc__law_is_plain.nd (ve_callG (ok__law_listed T) (hr.mono (by first | decide | omega)) (by rfl) T.g__law_listed T.u__law_listed.kp T.b__law_listed tk (va_cons (ve_var 0) (va_cons (ve_var 1) va_nil))))
      (vss_cons (vs_set 3 sc__law_is_plain.nd (ve_callB (cd_reprR hr) (by rfl) T.z_repr (by decide +kernel) (va_cons (ve_var 2) va_nil)))
      (vss_cons (vs_set 4 sc__law_is_plain.nd (ve_callG (ok_plain T) (hr.mono (by first | decide | omega)) (by rfl) T.g_plain T.u_plain.kp T.b_plain tk (va_cons (ve_var 2) va_nil)))
      (vss_cons (vs_if (vt_w (vw_or (vt_cmp (od_ne hr.units) (ve_callB (cd_reprR hr) (by rfl) T.z_repr (by decide +kernel) (va_cons (ve_var 4) va_nil)) (ve_callB (cd_reprR hr) (by rfl) T.z_repr (by decide +kernel) (va_cons (ve_tup (va_cons (ve_var 0) (va_cons ve_int (va_cons (ve_tup (va_cons ve_int va_nil)) (va_cons (ve_tup va_nil) (va_cons (ve_tup va_nil) va_nil)))))) va_nil))) (vw_or1 (vt_cmp (od_ne hr.units) (ve_callB (cd_reprR hr) (by rfl) T.z_repr (by decide +kernel) (va_cons (ve_var 2) va_nil)) (ve_var 3))))) (vss_one (vs_ret ve_bl)) vss_nil)
      (vss_cons (vs_expr (ve_callG (ok__law_spoil T) (hr.mono (by first | decide | omega)) (by rfl) T.g__law_spoil T.u__law_spoil.kp T.b__law_spoil tk (va_cons (ve_var 2) va_nil)))
      (vss_one (vs_ret (ve_and (ve_cmp (od_eq hr.units) (ve_callB (cd_reprR hr) (by rfl) T.z_repr (by decide +kernel) (va_cons (ve_var 4) va_nil)) (ve_callB (cd_reprR hr) (by rfl) T.z_repr (by decide +kernel) (va_cons (ve_tup (va_cons (ve_var 0) (va_cons ve_int (va_cons (ve_tup (va_cons ve_int va_nil)) (va_cons (ve_tup va_nil) (va_cons (ve_tup va_nil) va_nil)))))) va_nil))) (ve_one (ve_cmp od_isB (ve_callG (ok_is_task T) (hr.mono (by first | decide | omega)) (by rfl) T.g_is_task T.u_is_task.kp T.b_is_task tk (va_cons (ve_var 4) va_nil)) ve_bl))))))))))
theorem ok__law_looked_at (T : Txt K mg A) : FnG P w K mg base 50 A.f__law_looked_at A.d__law_looked_at ["_law_thing"] (spF K mg 1 F__law_looked_at) := by
    refine fn_okG (k := 49) .trunc T.u__law_looked_at sc__law_looked_at fun cdv Ar outer s H E hr => ?_
    have tk := takes_of (X := cxOf (L2.CX P w) P w K mg base ["_law_thing", "_law_held", "_law_due", "_law_turn"] "_law_looked_at" (defScope s__law_looked_at) A.f__law_looked_at cdv Ar outer s H E) rfl rfl rfl rfl
    have hp := passes_of (X := cxOf (L2.CX P w) P w K mg base ["_law_thing", "_law_held", "_law_due", "_law_turn"] "_law_looked_at" (defScope s__law_looked_at) A.f__law_looked_at cdv Ar outer s H E) rfl
    exact (vss_cons (vs_set 1 sc__law_looked_at.nd (ve_callB (cd_reprR hr) (by rfl) T.z_repr (by decide +kernel) (va_cons (ve_var 0) va_nil)))
      (vss_cons (vs_set 2 sc__law_looked_at.nd (ve_callG (ok__law_is_task T) (hr.mono (by first | decide | omega)) (by rfl) T.g__law_is_task T.u__law_is_task.kp T.b__law_is_task tk (va_cons (ve_var 0) va_nil)))
      (vss_cons (vs_fb (vs_for (vs := [3]) hp rfl (vi_range1 (by rfl) T.z_range (va_cons ve_int va_nil)) (vg_name 3 sc__law_looked_at.nd) (vss_fa (vss_one (vs_if (vt_w (vw_or (vt_cmp (od_ne hr.units) (ve_callB (cd_reprR hr) (by rfl) T.z_repr (by decide +kernel) (va_cons (ve_callG (ok_is_task T) (hr.mono (by first | decide | omega)) (by rfl) T.g_is_task T.u_is_task.kp T.b_is_task tk (va_cons (ve_var 0) va_nil)) va_nil)) (ve_callB (cd_reprR hr) (by rfl) T.z_repr (by decide +kernel) (va_cons (ve_var 2) va_nil))) (vw_or1 (vt_cmp (od_ne hr.units) (ve_callB (cd_reprR hr) (by rfl) T.z_repr (by decide +kernel) (va_cons (ve_var 0) va_nil)) (ve_var 1))))) (vss_one (vs_ret ve_bl)) vss_nil)))))
      (vss_one (vs_ret ve_bl)))))
theorem ok_law (T : Txt K mg A) : FnG P w K mg base 51 A.f_law A.d_law ["_law_script"] (spF K mg 1 F_law) := by
    refine fn_okG (k := 50) .trunc T.u_law sc_law fun cdv Ar outer s H E hr => ?_
    have tk := takes_of (X := cxOf (L2.CX P w) P w K mg base ["_law_script", "_law_draws_here", "_law_task_here", "_law_turn", "_law_thing", "_law_k", "_law_some_here", "_law_part"] "law" (defScope s_law) A.f_law cdv Ar outer s H E) rfl rfl rfl rfl
    have hp := passes_of (X := cxOf (L2.CX P w) P w K mg base ["_law_script", "_law_draws_here", "_law_task_here", "_law_turn", "_law_thing", "_law_k", "_law_some_here", "_law_part"] "law" (defScope s_law) A.f_law cdv Ar outer s H E) rfl
    exact (vss_cons (vs_set 1 sc_law.nd (ve_callG (ok__law_draws T) (hr.mono (by first | decide | omega)) (by rfl) T.g__law_draws T.u__law_draws.kp T.b__law_draws tk (va_cons (ve_var 0) (va_cons ve_int (va_cons ve_int va_nil)))))
      (vss_cons (vs_set 2 sc_law.nd (ve_callG (ok__law_task T) (hr.mono (by first | decide | omega)) (by rfl) T.g__law_task T.u__law_task.kp T.b__law_task tk (va_cons (ve_var 1) (va_cons ve_int (va_cons (ve_bin od_pow ve_int ve_int) va_nil)))))
      (vss_cons (vs_if (vt_w (vw_or (vt_not (vt_val (ve_callG (ok__law_looked_at T) (hr.mono (by first | decide | omega)) (by rfl) T.g__law_looked_at T.u__law_looked_at.kp T.b__law_looked_at tk (va_cons (ve_var 2) va_nil)))) (vw_or (vt_not (vt_val (ve_callG (ok__law_is_task T) (hr.mono (by first | decide | omega)) (by rfl) T.g__law_is_task T.u__law_is_task.kp T.b__law_is_task tk (va_cons (ve_var 2) va_nil)))) (vw_or1 (vt_not (vt_val (ve_callG (ok__law_is_plain T) (hr.mono (by first | decide | omega)) (by rfl) T.g__law_is_plain T.u__law_is_plain.kp T.b__law_is_plain tk (va_cons (ve_ix (ve_var 2) ve_int) (va_cons (ve_callG (ok__law_next T) (hr.mono (by first | decide | omega)) (by rfl) T.g__law_next T.u__law_next.kp T.b__law_next tk (va_cons (ve_var 1) va_nil)) va_nil))))))))) (vss_one (vs_ret ve_bl)) vss_nil)
      (vss_cons (vs_fb (vs_for (vs := [3]) hp rfl (vi_range1 (by rfl) T.z_range (va_cons ve_int va_nil)) (vg_name 3 sc_law.nd) (vss_fa (vss_cons (vs_set 4 sc_law.nd (ve_callG (ok__law_listed_s T) (hr.mono (by first | decide | omega)) (by rfl) T.g__law_listed T.u__law_listed.kp T.b__law_listed tk (va_cons (ve_var 2) (va_cons (ve_callG (ok__law_next T) (hr.mono (by first | decide | omega)) (by rfl) T.g__law_next T.u__law_next.kp T.b__law_next tk (va_cons (ve_var 1) va_nil)) va_nil))))
      (vss_cons (vs_fb (vs_for (vs := [5]) hp rfl (vi_range1 (by rfl) T.z_range (va_cons (ve_bin od_add ve_int (ve_bin od_mod (ve_callG (ok__law_next T) (hr.mono (by first | decide | omega)) (by rfl) T.g__law_next T.u__law_next.kp T.b__law_next tk (va_cons (ve_var 1) va_nil)) ve_int)) va_nil)) (vg_name 5 sc_law.nd) (vss_fa (vss_one (vs_if (vt_w (vw_and (vt_val (ve_callG (ok__law_is_row T) (hr.mono (by first | decide | omega)) (by rfl) T.g__law_is_row T.u__law_is_row.kp T.b__law_is_row tk (va_cons (ve_var 4) va_nil))) (vw_and1 (vt_cmp (od_eq hr.units) (ve_callB cd_len (by rfl) T.z_len (by decide +kernel) (va_cons (ve_var 4) va_nil)) ve_int)))) (vss_one (vs_set 4 sc_law.nd (ve_callG (ok__law_bent T) (hr.mono (by first | decide | omega)) (by rfl) T.g__law_bent T.u__law_bent.kp T.b__law_bent tk (va_cons (ve_var 1) (va_cons (ve_var 4) va_nil))))) vss_nil)))))
      (vss_cons (vs_if (vt_not (vt_val (ve_callG (ok__law_looked_at T) (hr.mono (by first | decide | omega)) (by rfl) T.g__law_looked_at T.u__law_looked_at.kp T.b__law_looked_at tk (va_cons (ve_var 4) va_nil)))) (vss_one (vs_ret ve_bl)) vss_nil)
      (vss_cons (vs_set 6 sc_law.nd (ve_lst true (va_cons (ve_var 4) va_nil)))
      (vss_cons (vs_if (vt_w (vw_and (vt_val (ve_callG (ok__law_is_row T) (hr.mono (by first | decide | omega)) (by rfl) T.g__law_is_row T.u__law_is_row.kp T.b__law_is_row tk (va_cons (ve_var 4) va_nil))) (vw_and1 (vt_cmp od_gt (ve_callB cd_len (by rfl) T.z_len (by decide +kernel) (va_cons (ve_var 4) va_nil)) ve_int)))) (vss_one (vs_expr (ve_ml PySem.F.slot_list_append PySem.F.type_list_append md_append (ve_var 6) (va_cons (ve_ix (ve_var 4) ve_int) va_nil)))) vss_nil)
      (vss_one (vs_fb (vs_for (vs := [7]) hp rfl (vi_row (ve_var 6)) (vg_name 7 sc_law.nd) (vss_fa (vss_one (vs_if (vt_val (ve_callG (ok__law_are_wholes T) (hr.mono (by first | decide | omega)) (by rfl) T.g__law_are_wholes T.u__law_are_wholes.kp T.b__law_are_wholes tk (va_cons (ve_var 7) (va_cons ve_int (va_cons ve_int (va_cons ve_int (va_cons ve_int va_nil))))))) (vss_one (vs_if (vt_not (vt_val (ve_callG (ok__law_is_plain T) (hr.mono (by first | decide | omega)) (by rfl) T.g__law_is_plain T.u__law_is_plain.kp T.b__law_is_plain tk (va_cons (ve_callTy cd_tuple (by rfl) T.z_tuple (by decide +kernel) (va_cons (ve_var 7) va_nil)) (va_cons (ve_bin od_add ve_int (ve_var 3)) va_nil))))) (vss_one (vs_ret ve_bl)) vss_nil)) (vss_one (vs_if (vt_not (vt_val (ve_callG (ok__law_plain_refused T) (hr.mono (by first | decide | omega)) (by rfl) T.g__law_plain_refused T.u__law_plain_refused.kp T.b__law_plain_refused tk (va_cons (ve_var 7) va_nil)))) (vss_one (vs_ret ve_bl)) vss_nil))))))))))))))))
      (vss_one (vs_ret ve_bl))))))
end
theorem all_mk {l : PySem.W.OpenLaw} {w : World} {K : PySem.W.Frag} {h : Heap} {mg : Str → Option Value} {fa : Addr} (X : K.In h) (G : h.Ns mainGlobals mg) (hfa : mg "law" = some (.ref fa))
    {f0 : Addr} {od0 an0 : Option Addr} {sl0 : Array (Option Value)} {oc0 kV0 dc0 pm0 cd0 ct0 : Value}
    {f1 : Addr} {od1 an1 : Option Addr} {sl1 : Array (Option Value)} {oc1 kV1 dc1 pm1 cd1 ct1 : Value}
    {f2 : Addr} {od2 an2 : Option Addr} {sl2 : Array (Option Value)} {oc2 kV2 dc2 pm2 cd2 ct2 : Value}
    {f3 : Addr} {od3 an3 : Option Addr} {sl3 : Array (Option Value)} {oc3 kV3 dc3 pm3 cd3 ct3 : Value}
    {f4 : Addr} {od4 an4 : Option Addr} {sl4 : Array (Option Value)} {oc4 kV4 dc4 pm4 cd4 ct4 : Value}
    {f5 : Addr} {od5 an5 : Option Addr} {sl5 : Array (Option Value)} {oc5 kV5 dc5 pm5 cd5 ct5 : Value}
    {f6 : Addr} {od6 an6 : Option Addr} {sl6 : Array (Option Value)} {oc6 kV6 dc6 pm6 cd6 ct6 : Value}
    {f7 : Addr} {od7 an7 : Option Addr} {sl7 : Array (Option Value)} {oc7 kV7 dc7 pm7 cd7 ct7 : Value}
    {f8 : Addr} {od8 an8 : Option Addr} {sl8 : Array (Option Value)} {oc8 kV8 dc8 pm8 cd8 ct8 : Value}
    {f9 : Addr} {od9 an9 : Option Addr} {sl9 : Array (Option Value)} {oc9 kV9 dc9 pm9 cd9 ct9 : Value}
    {f10 : Addr} {od10 an10 : Option Addr} {sl10 : Array (Option Value)} {oc10 kV10 dc10 pm10 cd10 ct10 : Value}
    {f11 : Addr} {od11 an11 : Option Addr} {sl11 : Array (Option Value)} {oc11 kV11 dc11 pm11 cd11 ct11 : Value}
    {f12 : Addr} {od12 an12 : Option Addr} {sl12 : Array (Option Value)} {oc12 kV12 dc12 pm12 cd12 ct12 : Value}
    {f13 : Addr} {od13 an13 : Option Addr} {sl13 : Array (Option Value)} {oc13 kV13 dc13 pm13 cd13 ct13 : Value}
    {f14 : Addr} {od14 an14 : Option Addr} {sl14 : Array (Option Value)} {oc14 kV14 dc14 pm14 cd14 ct14 : Value}
    {f15 : Addr} {od15 an15 : Option Addr} {sl15 : Array (Option Value)} {oc15 kV15 dc15 pm15 cd15 ct15 : Value}
    {f16 : Addr} {od16 an16 : Option Addr} {sl16 : Array (Option Value)} {oc16 kV16 dc16 pm16 cd16 ct16 : Value}
    {f17 : Addr} {od17 an17 : Option Addr} {sl17 : Array (Option Value)} {oc17 kV17 dc17 pm17 cd17 ct17 : Value}
    {f18 : Addr} {od18 an18 : Option Addr} {sl18 : Array (Option Value)} {oc18 kV18 dc18 pm18 cd18 ct18 : Value}
    {f19 : Addr} {od19 an19 : Option Addr} {sl19 : Array (Option Value)} {oc19 kV19 dc19 pm19 cd19 ct19 : Value}
    {f20 : Addr} {od20 an20 : Option Addr} {sl20 : Array (Option Value)} {oc20 kV20 dc20 pm20 cd20 ct20 : Value}
    {f21 : Addr} {od21 an21 : Option Addr} {sl21 : Array (Option Value)} {oc21 kV21 dc21 pm21 cd21 ct21 : Value}
    {f22 : Addr} {od22 an22 : Option Addr} {sl22 : Array (Option Value)} {oc22 kV22 dc22 pm22 cd22 ct22 : Value}
    {f23 : Addr} {od23 an23 : Option Addr} {sl23 : Array (Option Value)} {oc23 kV23 dc23 pm23 cd23 ct23 : Value}
    {f24 : Addr} {od24 an24 : Option Addr} {sl24 : Array (Option Value)} {oc24 kV24 dc24 pm24 cd24 ct24 : Value}
    {f25 : Addr} {od25 an25 : Option Addr} {sl25 : Array (Option Value)} {oc25 kV25 dc25 pm25 cd25 ct25 : Value}
    {f26 : Addr} {od26 an26 : Option Addr} {sl26 : Array (Option Value)} {oc26 kV26 dc26 pm26 cd26 ct26 : Value}
    {f27 : Addr} {od27 an27 : Option Addr} {sl27 : Array (Option Value)} {oc27 kV27 dc27 pm27 cd27 ct27 : Value}
    {f28 : Addr} {od28 an28 : Option Addr} {sl28 : Array (Option Value)} {oc28 kV28 dc28 pm28 cd28 ct28 : Value}
    {f29 : Addr} {od29 an29 : Option Addr} {sl29 : Array (Option Value)} {oc29 kV29 dc29 pm29 cd29 ct29 : Value}
    {f30 : Addr} {od30 an30 : Option Addr} {sl30 : Array (Option Value)} {oc30 kV30 dc30 pm30 cd30 ct30 : Value}
    {f31 : Addr} {od31 an31 : Option Addr} {sl31 : Array (Option Value)} {oc31 kV31 dc31 pm31 cd31 ct31 : Value}
    {f32 : Addr} {od32 an32 : Option Addr} {sl32 : Array (Option Value)} {oc32 kV32 dc32 pm32 cd32 ct32 : Value}
    {f33 : Addr} {od33 an33 : Option Addr} {sl33 : Array (Option Value)} {oc33 kV33 dc33 pm33 cd33 ct33 : Value}
    {f34 : Addr} {od34 an34 : Option Addr} {sl34 : Array (Option Value)} {oc34 kV34 dc34 pm34 cd34 ct34 : Value}
    {f35 : Addr} {od35 an35 : Option Addr} {sl35 : Array (Option Value)} {oc35 kV35 dc35 pm35 cd35 ct35 : Value}
    {f36 : Addr} {od36 an36 : Option Addr} {sl36 : Array (Option Value)} {oc36 kV36 dc36 pm36 cd36 ct36 : Value}
    {C_DaysError : Addr}
    {C_NoNumbers : Addr}
    {C_NoDays : Addr}
    {C_NoRing : Addr}
    {C_NoTask : Addr}
    {C_NoThing : Addr}
    {C_NoStand : Addr}
    {C_NoDay : Addr}
    {C_NoPaper : Addr}
    {C_NoText : Addr}
    {C_NotThere : Addr}
    {C_Broken : Addr}
    {C_TooMany : Addr}
    {I_TooMany : Addr} {oX_TooMany nX_TooMany : Option Addr} {sX_TooMany : Array (Option Value)} {oY_TooMany kX_TooMany dX_TooMany pX_TooMany cX_TooMany tX_TooMany : Value} {nm_TooMany qn_TooMany : Str} {N_TooMany : Addr} {bs_TooMany bm_TooMany : List Value} {sn_TooMany : List Str} {sb_TooMany : List Value} {ab_TooMany : Bool} {co_TooMany : Option Bool} {dd_TooMany : Option Addr} {k0_TooMany k1_TooMany k2_TooMany k3_TooMany k5_TooMany : Option Value}
    {t_GREATEST : Tok}
    {t_MOST_HANDS : Tok}
    {t_MOST_OFF : Tok}
    {t_MOST_THINGS : Tok}
    {t_PARTS : Tok}
    (a0 : PySem.W.nsIn K mainGlobals "is_whole" = some (some (.ref f0)))
    (l0 : K.lookup f0 = some ⟨oc0, od0, .func (PySem.W.fnOf "is_whole" "is_whole" (defArgs s_is_whole) (defBody s_is_whole) (defScope s_is_whole) .none kV0 dc0 pm0 an0 cd0 ct0), sl0⟩)
    (c0 : PySem.W.codeIn K cd0 "is_whole" = true)
    (k0 : PySem.W.keepIn K (.ref f0) = true)
    (a1 : PySem.W.nsIn K mainGlobals "is_row" = some (some (.ref f1)))
    (l1 : K.lookup f1 = some ⟨oc1, od1, .func (PySem.W.fnOf "is_row" "is_row" (defArgs s_is_row) (defBody s_is_row) (defScope s_is_row) .none kV1 dc1 pm1 an1 cd1 ct1), sl1⟩)
    (c1 : PySem.W.codeIn K cd1 "is_row" = true)
    (k1 : PySem.W.keepIn K (.ref f1) = true)
    (a2 : PySem.W.nsIn K mainGlobals "is_rising" = some (some (.ref f2)))
    (l2 : K.lookup f2 = some ⟨oc2, od2, .func (PySem.W.fnOf "is_rising" "is_rising" (defArgs s_is_rising) (defBody s_is_rising) (defScope s_is_rising) .none kV2 dc2 pm2 an2 cd2 ct2), sl2⟩)
    (c2 : PySem.W.codeIn K cd2 "is_rising" = true)
    (k2 : PySem.W.keepIn K (.ref f2) = true)
    (a3 : PySem.W.nsIn K mainGlobals "told_rows" = some (some (.ref f3)))
    (l3 : K.lookup f3 = some ⟨oc3, od3, .func (PySem.W.fnOf "told_rows" "told_rows" (defArgs s_told_rows) (defBody s_told_rows) (defScope s_told_rows) .none kV3 dc3 pm3 an3 cd3 ct3), sl3⟩)
    (c3 : PySem.W.codeIn K cd3 "told_rows" = true)
    (k3 : PySem.W.keepIn K (.ref f3) = true)
    (a4 : PySem.W.nsIn K mainGlobals "is_numbers" = some (some (.ref f4)))
    (l4 : K.lookup f4 = some ⟨oc4, od4, .func (PySem.W.fnOf "is_numbers" "is_numbers" (defArgs s_is_numbers) (defBody s_is_numbers) (defScope s_is_numbers) .none kV4 dc4 pm4 an4 cd4 ct4), sl4⟩)
    (c4 : PySem.W.codeIn K cd4 "is_numbers" = true)
    (k4 : PySem.W.keepIn K (.ref f4) = true)
    (a5 : PySem.W.nsIn K mainGlobals "asked_numbers" = some (some (.ref f5)))
    (l5 : K.lookup f5 = some ⟨oc5, od5, .func (PySem.W.fnOf "asked_numbers" "asked_numbers" (defArgs s_asked_numbers) (defBody s_asked_numbers) (defScope s_asked_numbers) .none kV5 dc5 pm5 an5 cd5 ct5), sl5⟩)
    (c5 : PySem.W.codeIn K cd5 "asked_numbers" = true)
    (k5 : PySem.W.keepIn K (.ref f5) = true)
    (a6 : PySem.W.nsIn K mainGlobals "is_off" = some (some (.ref f6)))
    (l6 : K.lookup f6 = some ⟨oc6, od6, .func (PySem.W.fnOf "is_off" "is_off" (defArgs s_is_off) (defBody s_is_off) (defScope s_is_off) .none kV6 dc6 pm6 an6 cd6 ct6), sl6⟩)
    (c6 : PySem.W.codeIn K cd6 "is_off" = true)
    (k6 : PySem.W.keepIn K (.ref f6) = true)
    (a7 : PySem.W.nsIn K mainGlobals "is_pair" = some (some (.ref f7)))
    (l7 : K.lookup f7 = some ⟨oc7, od7, .func (PySem.W.fnOf "is_pair" "is_pair" (defArgs s_is_pair) (defBody s_is_pair) (defScope s_is_pair) .none kV7 dc7 pm7 an7 cd7 ct7), sl7⟩)
    (c7 : PySem.W.codeIn K cd7 "is_pair" = true)
    (k7 : PySem.W.keepIn K (.ref f7) = true)
    (a8 : PySem.W.nsIn K mainGlobals "are_pairs" = some (some (.ref f8)))
    (l8 : K.lookup f8 = some ⟨oc8, od8, .func (PySem.W.fnOf "are_pairs" "are_pairs" (defArgs s_are_pairs) (defBody s_are_pairs) (defScope s_are_pairs) .none kV8 dc8 pm8 an8 cd8 ct8), sl8⟩)
    (c8 : PySem.W.codeIn K cd8 "are_pairs" = true)
    (k8 : PySem.W.keepIn K (.ref f8) = true)
    (a9 : PySem.W.nsIn K mainGlobals "is_task" = some (some (.ref f9)))
    (l9 : K.lookup f9 = some ⟨oc9, od9, .func (PySem.W.fnOf "is_task" "is_task" (defArgs s_is_task) (defBody s_is_task) (defScope s_is_task) .none kV9 dc9 pm9 an9 cd9 ct9), sl9⟩)
    (c9 : PySem.W.codeIn K cd9 "is_task" = true)
    (k9 : PySem.W.keepIn K (.ref f9) = true)
    (a10 : PySem.W.nsIn K mainGlobals "plain" = some (some (.ref f10)))
    (l10 : K.lookup f10 = some ⟨oc10, od10, .func (PySem.W.fnOf "plain" "plain" (defArgs s_plain) (defBody s_plain) (defScope s_plain) .none kV10 dc10 pm10 an10 cd10 ct10), sl10⟩)
    (c10 : PySem.W.codeIn K cd10 "plain" = true)
    (k10 : PySem.W.keepIn K (.ref f10) = true)
    (a11 : PySem.W.nsIn K mainGlobals "_law_cell" = some (some (.ref f11)))
    (l11 : K.lookup f11 = some ⟨oc11, od11, .func (PySem.W.fnOf "_law_cell" "_law_cell" (defArgs s__law_cell) (defBody s__law_cell) (defScope s__law_cell) .none kV11 dc11 pm11 an11 cd11 ct11), sl11⟩)
    (c11 : PySem.W.codeIn K cd11 "_law_cell" = true)
    (k11 : PySem.W.keepIn K (.ref f11) = true)
    (a12 : PySem.W.nsIn K mainGlobals "_law_draws" = some (some (.ref f12)))
    (l12 : K.lookup f12 = some ⟨oc12, od12, .func (PySem.W.fnOf "_law_draws" "_law_draws" (defArgs s__law_draws) (defBody s__law_draws) (defScope s__law_draws) .none kV12 dc12 pm12 an12 cd12 ct12), sl12⟩)
    (c12 : PySem.W.codeIn K cd12 "_law_draws" = true)
    (k12 : PySem.W.keepIn K (.ref f12) = true)
    (a13 : PySem.W.nsIn K mainGlobals "_law_next" = some (some (.ref f13)))
    (l13 : K.lookup f13 = some ⟨oc13, od13, .func (PySem.W.fnOf "_law_next" "_law_next" (defArgs s__law_next) (defBody s__law_next) (defScope s__law_next) .none kV13 dc13 pm13 an13 cd13 ct13), sl13⟩)
    (c13 : PySem.W.codeIn K cd13 "_law_next" = true)
    (k13 : PySem.W.keepIn K (.ref f13) = true)
    (a14 : PySem.W.nsIn K mainGlobals "_law_of" = some (some (.ref f14)))
    (l14 : K.lookup f14 = some ⟨oc14, od14, .func (PySem.W.fnOf "_law_of" "_law_of" (defArgs s__law_of) (defBody s__law_of) (defScope s__law_of) .none kV14 dc14 pm14 an14 cd14 ct14), sl14⟩)
    (c14 : PySem.W.codeIn K cd14 "_law_of" = true)
    (k14 : PySem.W.keepIn K (.ref f14) = true)
    (a15 : PySem.W.nsIn K mainGlobals "_law_some" = some (some (.ref f15)))
    (l15 : K.lookup f15 = some ⟨oc15, od15, .func (PySem.W.fnOf "_law_some" "_law_some" (defArgs s__law_some) (defBody s__law_some) (defScope s__law_some) .none kV15 dc15 pm15 an15 cd15 ct15), sl15⟩)
    (c15 : PySem.W.codeIn K cd15 "_law_some" = true)
    (k15 : PySem.W.keepIn K (.ref f15) = true)
    (a16 : PySem.W.nsIn K mainGlobals "_law_tied" = some (some (.ref f16)))
    (l16 : K.lookup f16 = some ⟨oc16, od16, .func (PySem.W.fnOf "_law_tied" "_law_tied" (defArgs s__law_tied) (defBody s__law_tied) (defScope s__law_tied) .none kV16 dc16 pm16 an16 cd16 ct16), sl16⟩)
    (c16 : PySem.W.codeIn K cd16 "_law_tied" = true)
    (k16 : PySem.W.keepIn K (.ref f16) = true)
    (a17 : PySem.W.nsIn K mainGlobals "_law_off" = some (some (.ref f17)))
    (l17 : K.lookup f17 = some ⟨oc17, od17, .func (PySem.W.fnOf "_law_off" "_law_off" (defArgs s__law_off) (defBody s__law_off) (defScope s__law_off) .none kV17 dc17 pm17 an17 cd17 ct17), sl17⟩)
    (c17 : PySem.W.codeIn K cd17 "_law_off" = true)
    (k17 : PySem.W.keepIn K (.ref f17) = true)
    (a18 : PySem.W.nsIn K mainGlobals "_law_numbers" = some (some (.ref f18)))
    (l18 : K.lookup f18 = some ⟨oc18, od18, .func (PySem.W.fnOf "_law_numbers" "_law_numbers" (defArgs s__law_numbers) (defBody s__law_numbers) (defScope s__law_numbers) .none kV18 dc18 pm18 an18 cd18 ct18), sl18⟩)
    (c18 : PySem.W.codeIn K cd18 "_law_numbers" = true)
    (k18 : PySem.W.keepIn K (.ref f18) = true)
    (a19 : PySem.W.nsIn K mainGlobals "_law_task" = some (some (.ref f19)))
    (l19 : K.lookup f19 = some ⟨oc19, od19, .func (PySem.W.fnOf "_law_task" "_law_task" (defArgs s__law_task) (defBody s__law_task) (defScope s__law_task) .none kV19 dc19 pm19 an19 cd19 ct19), sl19⟩)
    (c19 : PySem.W.codeIn K cd19 "_law_task" = true)
    (k19 : PySem.W.keepIn K (.ref f19) = true)
    (a20 : PySem.W.nsIn K mainGlobals "_law_listed" = some (some (.ref f20)))
    (l20 : K.lookup f20 = some ⟨oc20, od20, .func (PySem.W.fnOf "_law_listed" "_law_listed" (defArgs s__law_listed) (defBody s__law_listed) (defScope s__law_listed) .none kV20 dc20 pm20 an20 cd20 ct20), sl20⟩)
    (c20 : PySem.W.codeIn K cd20 "_law_listed" = true)
    (k20 : PySem.W.keepIn K (.ref f20) = true)
    (a21 : PySem.W.nsIn K mainGlobals "_law_spoil" = some (some (.ref f21)))
    (l21 : K.lookup f21 = some ⟨oc21, od21, .func (PySem.W.fnOf "_law_spoil" "_law_spoil" (defArgs s__law_spoil) (defBody s__law_spoil) (defScope s__law_spoil) .none kV21 dc21 pm21 an21 cd21 ct21), sl21⟩)
    (c21 : PySem.W.codeIn K cd21 "_law_spoil" = true)
    (k21 : PySem.W.keepIn K (.ref f21) = true)
    (a22 : PySem.W.nsIn K mainGlobals "_law_other_kinds" = some (some (.ref f22)))
    (l22 : K.lookup f22 = some ⟨oc22, od22, .func (PySem.W.fnOf "_law_other_kinds" "_law_other_kinds" (defArgs s__law_other_kinds) (defBody s__law_other_kinds) (defScope s__law_other_kinds) .none kV22 dc22 pm22 an22 cd22 ct22), sl22⟩)
    (c22 : PySem.W.codeIn K cd22 "_law_other_kinds" = true)
    (k22 : PySem.W.keepIn K (.ref f22) = true)
    (a23 : PySem.W.nsIn K mainGlobals "_law_is_whole" = some (some (.ref f23)))
    (l23 : K.lookup f23 = some ⟨oc23, od23, .func (PySem.W.fnOf "_law_is_whole" "_law_is_whole" (defArgs s__law_is_whole) (defBody s__law_is_whole) (defScope s__law_is_whole) .none kV23 dc23 pm23 an23 cd23 ct23), sl23⟩)
    (c23 : PySem.W.codeIn K cd23 "_law_is_whole" = true)
    (k23 : PySem.W.keepIn K (.ref f23) = true)
    (a24 : PySem.W.nsIn K mainGlobals "_law_is_row" = some (some (.ref f24)))
    (l24 : K.lookup f24 = some ⟨oc24, od24, .func (PySem.W.fnOf "_law_is_row" "_law_is_row" (defArgs s__law_is_row) (defBody s__law_is_row) (defScope s__law_is_row) .none kV24 dc24 pm24 an24 cd24 ct24), sl24⟩)
    (c24 : PySem.W.codeIn K cd24 "_law_is_row" = true)
    (k24 : PySem.W.keepIn K (.ref f24) = true)
    (a25 : PySem.W.nsIn K mainGlobals "_law_are_some" = some (some (.ref f25)))
    (l25 : K.lookup f25 = some ⟨oc25, od25, .func (PySem.W.fnOf "_law_are_some" "_law_are_some" (defArgs s__law_are_some) (defBody s__law_are_some) (defScope s__law_are_some) .none kV25 dc25 pm25 an25 cd25 ct25), sl25⟩)
    (c25 : PySem.W.codeIn K cd25 "_law_are_some" = true)
    (k25 : PySem.W.keepIn K (.ref f25) = true)
    (a26 : PySem.W.nsIn K mainGlobals "_law_are_pairs" = some (some (.ref f26)))
    (l26 : K.lookup f26 = some ⟨oc26, od26, .func (PySem.W.fnOf "_law_are_pairs" "_law_are_pairs" (defArgs s__law_are_pairs) (defBody s__law_are_pairs) (defScope s__law_are_pairs) .none kV26 dc26 pm26 an26 cd26 ct26), sl26⟩)
    (c26 : PySem.W.codeIn K cd26 "_law_are_pairs" = true)
    (k26 : PySem.W.keepIn K (.ref f26) = true)
    (a27 : PySem.W.nsIn K mainGlobals "_law_are_wholes" = some (some (.ref f27)))
    (l27 : K.lookup f27 = some ⟨oc27, od27, .func (PySem.W.fnOf "_law_are_wholes" "_law_are_wholes" (defArgs s__law_are_wholes) (defBody s__law_are_wholes) (defScope s__law_are_wholes) .none kV27 dc27 pm27 an27 cd27 ct27), sl27⟩)
    (c27 : PySem.W.codeIn K cd27 "_law_are_wholes" = true)
    (k27 : PySem.W.keepIn K (.ref f27) = true)
    (a28 : PySem.W.nsIn K mainGlobals "_law_is_task" = some (some (.ref f28)))
    (l28 : K.lookup f28 = some ⟨oc28, od28, .func (PySem.W.fnOf "_law_is_task" "_law_is_task" (defArgs s__law_is_task) (defBody s__law_is_task) (defScope s__law_is_task) .none kV28 dc28 pm28 an28 cd28 ct28), sl28⟩)
    (c28 : PySem.W.codeIn K cd28 "_law_is_task" = true)
    (k28 : PySem.W.keepIn K (.ref f28) = true)
    (a29 : PySem.W.nsIn K mainGlobals "_law_nested" = some (some (.ref f29)))
    (l29 : K.lookup f29 = some ⟨oc29, od29, .func (PySem.W.fnOf "_law_nested" "_law_nested" (defArgs s__law_nested) (defBody s__law_nested) (defScope s__law_nested) .none kV29 dc29 pm29 an29 cd29 ct29), sl29⟩)
    (c29 : PySem.W.codeIn K cd29 "_law_nested" = true)
    (k29 : PySem.W.keepIn K (.ref f29) = true)
    (a30 : PySem.W.nsIn K mainGlobals "_law_odd" = some (some (.ref f30)))
    (l30 : K.lookup f30 = some ⟨oc30, od30, .func (PySem.W.fnOf "_law_odd" "_law_odd" (defArgs s__law_odd) (defBody s__law_odd) (defScope s__law_odd) .none kV30 dc30 pm30 an30 cd30 ct30), sl30⟩)
    (c30 : PySem.W.codeIn K cd30 "_law_odd" = true)
    (k30 : PySem.W.keepIn K (.ref f30) = true)
    (a31 : PySem.W.nsIn K mainGlobals "_law_bent_row" = some (some (.ref f31)))
    (l31 : K.lookup f31 = some ⟨oc31, od31, .func (PySem.W.fnOf "_law_bent_row" "_law_bent_row" (defArgs s__law_bent_row) (defBody s__law_bent_row) (defScope s__law_bent_row) .none kV31 dc31 pm31 an31 cd31 ct31), sl31⟩)
    (c31 : PySem.W.codeIn K cd31 "_law_bent_row" = true)
    (k31 : PySem.W.keepIn K (.ref f31) = true)
    (a32 : PySem.W.nsIn K mainGlobals "_law_bent" = some (some (.ref f32)))
    (l32 : K.lookup f32 = some ⟨oc32, od32, .func (PySem.W.fnOf "_law_bent" "_law_bent" (defArgs s__law_bent) (defBody s__law_bent) (defScope s__law_bent) .none kV32 dc32 pm32 an32 cd32 ct32), sl32⟩)
    (c32 : PySem.W.codeIn K cd32 "_law_bent" = true)
    (k32 : PySem.W.keepIn K (.ref f32) = true)
    (a33 : PySem.W.nsIn K mainGlobals "_law_plain_refused" = some (some (.ref f33)))
    (l33 : K.lookup f33 = some ⟨oc33, od33, .func (PySem.W.fnOf "_law_plain_refused" "_law_plain_refused" (defArgs s__law_plain_refused) (defBody s__law_plain_refused) (defScope s__law_plain_refused) .none kV33 dc33 pm33 an33 cd33 ct33), sl33⟩)
    (c33 : PySem.W.codeIn K cd33 "_law_plain_refused" = true)
    (k33 : PySem.W.keepIn K (.ref f33) = true)
    (a34 : PySem.W.nsIn K mainGlobals "_law_is_plain" = some (some (.ref f34)))
    (l34 : K.lookup f34 = some ⟨oc34, od34, .func (PySem.W.fnOf "_law_is_plain" "_law_is_plain" (defArgs s__law_is_plain) (defBody s__law_is_plain) (defScope s__law_is_plain) .none kV34 dc34 pm34 an34 cd34 ct34), sl34⟩)
    (c34 : PySem.W.codeIn K cd34 "_law_is_plain" = true)
    (k34 : PySem.W.keepIn K (.ref f34) = true)
    (a35 : PySem.W.nsIn K mainGlobals "_law_looked_at" = some (some (.ref f35)))
    (l35 : K.lookup f35 = some ⟨oc35, od35, .func (PySem.W.fnOf "_law_looked_at" "_law_looked_at" (defArgs s__law_looked_at) (defBody s__law_looked_at) (defScope s__law_looked_at) .none kV35 dc35 pm35 an35 cd35 ct35), sl35⟩)
    (c35 : PySem.W.codeIn K cd35 "_law_looked_at" = true)
    (k35 : PySem.W.keepIn K (.ref f35) = true)
    (a36 : PySem.W.nsIn K mainGlobals "law" = some (some (.ref f36)))
    (l36 : K.lookup f36 = some ⟨oc36, od36, .func (PySem.W.fnOf "law" "law" (defArgs s_law) (defBody s_law) (defScope s_law) .none kV36 dc36 pm36 an36 cd36 ct36), sl36⟩)
    (c36 : PySem.W.codeIn K cd36 "law" = true)
    (k36 : PySem.W.keepIn K (.ref f36) = true)
    (z_ValueError : PySem.W.nsIn K mainGlobals "ValueError" = some none)
    (z_bool : PySem.W.nsIn K mainGlobals "bool" = some none)
    (z_enumerate : PySem.W.nsIn K mainGlobals "enumerate" = some none)
    (z_int : PySem.W.nsIn K mainGlobals "int" = some none)
    (z_isinstance : PySem.W.nsIn K mainGlobals "isinstance" = some none)
    (z_len : PySem.W.nsIn K mainGlobals "len" = some none)
    (z_list : PySem.W.nsIn K mainGlobals "list" = some none)
    (z_max : PySem.W.nsIn K mainGlobals "max" = some none)
    (z_range : PySem.W.nsIn K mainGlobals "range" = some none)
    (z_repr : PySem.W.nsIn K mainGlobals "repr" = some none)
    (z_reversed : PySem.W.nsIn K mainGlobals "reversed" = some none)
    (z_set : PySem.W.nsIn K mainGlobals "set" = some none)
    (z_sorted : PySem.W.nsIn K mainGlobals "sorted" = some none)
    (z_tuple : PySem.W.nsIn K mainGlobals "tuple" = some none)
    (xa_DaysError : PySem.W.nsIn K mainGlobals "DaysError" = some (some (.ref C_DaysError)))
    (xq_DaysError : PySem.W.excIn K C_DaysError veBm "ValueError.__new__" = true)
    (xk_DaysError : PySem.W.keepIn K (.ref C_DaysError) = true)
    (xb_DaysError : PySem.W.subIn K (.ref C_DaysError) (.type "BaseException") = some true)
    (xt_DaysError : PySem.W.typeIn K (.ref C_DaysError) = some (.type "type"))
    (xa_NoNumbers : PySem.W.nsIn K mainGlobals "NoNumbers" = some (some (.ref C_NoNumbers)))
    (xq_NoNumbers : PySem.W.excIn K C_NoNumbers veBm "ValueError.__new__" = true)
    (xk_NoNumbers : PySem.W.keepIn K (.ref C_NoNumbers) = true)
    (xb_NoNumbers : PySem.W.subIn K (.ref C_NoNumbers) (.type "BaseException") = some true)
    (xt_NoNumbers : PySem.W.typeIn K (.ref C_NoNumbers) = some (.type "type"))
    (xa_NoDays : PySem.W.nsIn K mainGlobals "NoDays" = some (some (.ref C_NoDays)))
    (xa_NoRing : PySem.W.nsIn K mainGlobals "NoRing" = some (some (.ref C_NoRing)))
    (xa_NoTask : PySem.W.nsIn K mainGlobals "NoTask" = some (some (.ref C_NoTask)))
    (xa_NoThing : PySem.W.nsIn K mainGlobals "NoThing" = some (some (.ref C_NoThing)))
    (xa_NoStand : PySem.W.nsIn K mainGlobals "NoStand" = some (some (.ref C_NoStand)))
    (xa_NoDay : PySem.W.nsIn K mainGlobals "NoDay" = some (some (.ref C_NoDay)))
    (xa_NoPaper : PySem.W.nsIn K mainGlobals "NoPaper" = some (some (.ref C_NoPaper)))
    (xa_NoText : PySem.W.nsIn K mainGlobals "NoText" = some (some (.ref C_NoText)))
    (xa_NotThere : PySem.W.nsIn K mainGlobals "NotThere" = some (some (.ref C_NotThere)))
    (xa_Broken : PySem.W.nsIn K mainGlobals "Broken" = some (some (.ref C_Broken)))
    (xa_TooMany : PySem.W.nsIn K mainGlobals "TooMany" = some (some (.ref C_TooMany)))
    (xl_TooMany : K.lookup C_TooMany = some (excClassObj nm_TooMany qn_TooMany C_TooMany N_TooMany bs_TooMany bm_TooMany true sn_TooMany sb_TooMany ab_TooMany co_TooMany dd_TooMany k0_TooMany k1_TooMany k2_TooMany k3_TooMany k5_TooMany "ValueError.__new__"))
    (xr_TooMany : PySem.HandSPX.refsVE bm_TooMany = true)
    (xs_TooMany : PySem.W.findIn K (.ref C_TooMany) "__setattr__" = some (some (.builtin "object.__setattr__")))
    (xb_TooMany : PySem.W.subIn K (.ref C_TooMany) (.type "BaseException") = some true)
    (xt_TooMany : PySem.W.typeIn K (.ref C_TooMany) = some (.type "type"))
    (xk_TooMany : PySem.W.keepIn K (.ref C_TooMany) = true)
    (xn_TooMany : PySem.W.findIn K (.ref C_TooMany) "most" = some none)
    (xi_TooMany : PySem.W.findIn K (.ref C_TooMany) "__init__" = some (some (.ref I_TooMany)))
    (xu_TooMany : PySem.W.typeIn K (.ref I_TooMany) = some (.type "function"))
    (xv_TooMany : K.lookup I_TooMany = some ⟨oY_TooMany, oX_TooMany, .func (PySem.W.fnOf "__init__" "TooMany.__init__" (defArgs si_TooMany) (defBody si_TooMany) (defScope si_TooMany) .none kX_TooMany dX_TooMany pX_TooMany nX_TooMany cX_TooMany tX_TooMany), sX_TooMany⟩)
    (xw_TooMany : PySem.W.codeIn K cX_TooMany "TooMany.__init__" = true)
    (xz_TooMany : PySem.W.keepIn K (.ref I_TooMany) = true)
    (ehg_NoNumbers : PySem.W.findIn K (.ref C_NoNumbers) "__getattribute__" = some (some (.builtin "BaseException.__getattribute__")))
    (ehk_NoNumbers : PySem.W.findIn K (.ref C_NoNumbers) "__getattr__" = some none)
    (ehs_NoNumbers : PySem.W.subIn K (.ref C_NoNumbers) (.type "BaseException") = some true)
    (ehd_NoNumbers : PySem.W.hasDictIn K C_NoNumbers = true)
    (eha_NoNumbers : PySem.W.findIn K (.ref C_NoNumbers) "__class__" = some (some (.builtin "object.__class__")))
    (ehn_NoNumbers : PySem.W.specialIn K (.builtin "object.__class__") "__get__" = some (some (.builtin "getset_descriptor.__get__")))
    (eht_NoNumbers : PySem.W.takesIn K (.builtin "object.__class__") = some true)
    (ehm_NoNumbers : PySem.W.mroIn K C_NoNumbers (.type "object") = some true)
    (ehg_TooMany : PySem.W.findIn K (.ref C_TooMany) "__getattribute__" = some (some (.builtin "BaseException.__getattribute__")))
    (ehk_TooMany : PySem.W.findIn K (.ref C_TooMany) "__getattr__" = some none)
    (ehs_TooMany : PySem.W.subIn K (.ref C_TooMany) (.type "BaseException") = some true)
    (ehd_TooMany : PySem.W.hasDictIn K C_TooMany = true)
    (eha_TooMany : PySem.W.findIn K (.ref C_TooMany) "__class__" = some (some (.builtin "object.__class__")))
    (ehn_TooMany : PySem.W.specialIn K (.builtin "object.__class__") "__get__" = some (some (.builtin "getset_descriptor.__get__")))
    (eht_TooMany : PySem.W.takesIn K (.builtin "object.__class__") = some true)
    (ehm_TooMany : PySem.W.mroIn K C_TooMany (.type "object") = some true)
    (m_NoNumbers_DaysError : PySem.W.exmOne K (.ref C_NoNumbers) (.ref C_DaysError) = some true)
    (m_TooMany_DaysError : PySem.W.exmOne K (.ref C_TooMany) (.ref C_DaysError) = some true)
    (k_NoNumbers_Broken : PySem.W.kitOne K (.ref C_NoNumbers) (.ref C_Broken) = some false)
    (k_TooMany_Broken : PySem.W.kitOne K (.ref C_TooMany) (.ref C_Broken) = some false)
    (k_NoNumbers_NoDay : PySem.W.kitOne K (.ref C_NoNumbers) (.ref C_NoDay) = some false)
    (k_TooMany_NoDay : PySem.W.kitOne K (.ref C_TooMany) (.ref C_NoDay) = some false)
    (k_NoNumbers_NoDays : PySem.W.kitOne K (.ref C_NoNumbers) (.ref C_NoDays) = some false)
    (k_TooMany_NoDays : PySem.W.kitOne K (.ref C_TooMany) (.ref C_NoDays) = some false)
    (k_NoNumbers_NoNumbers : PySem.W.kitOne K (.ref C_NoNumbers) (.ref C_NoNumbers) = some true)
    (k_TooMany_NoNumbers : PySem.W.kitOne K (.ref C_TooMany) (.ref C_NoNumbers) = some false)
    (k_NoNumbers_NoPaper : PySem.W.kitOne K (.ref C_NoNumbers) (.ref C_NoPaper) = some false)
    (k_TooMany_NoPaper : PySem.W.kitOne K (.ref C_TooMany) (.ref C_NoPaper) = some false)
    (k_NoNumbers_NoRing : PySem.W.kitOne K (.ref C_NoNumbers) (.ref C_NoRing) = some false)
    (k_TooMany_NoRing : PySem.W.kitOne K (.ref C_TooMany) (.ref C_NoRing) = some false)
    (k_NoNumbers_NoStand : PySem.W.kitOne K (.ref C_NoNumbers) (.ref C_NoStand) = some false)
    (k_TooMany_NoStand : PySem.W.kitOne K (.ref C_TooMany) (.ref C_NoStand) = some false)
    (k_NoNumbers_NoTask : PySem.W.kitOne K (.ref C_NoNumbers) (.ref C_NoTask) = some false)
    (k_TooMany_NoTask : PySem.W.kitOne K (.ref C_TooMany) (.ref C_NoTask) = some false)
    (k_NoNumbers_NoText : PySem.W.kitOne K (.ref C_NoNumbers) (.ref C_NoText) = some false)
    (k_TooMany_NoText : PySem.W.kitOne K (.ref C_TooMany) (.ref C_NoText) = some false)
    (k_NoNumbers_NoThing : PySem.W.kitOne K (.ref C_NoNumbers) (.ref C_NoThing) = some false)
    (k_TooMany_NoThing : PySem.W.kitOne K (.ref C_TooMany) (.ref C_NoThing) = some false)
    (k_NoNumbers_NotThere : PySem.W.kitOne K (.ref C_NoNumbers) (.ref C_NotThere) = some false)
    (k_TooMany_NotThere : PySem.W.kitOne K (.ref C_TooMany) (.ref C_NotThere) = some false)
    (k_NoNumbers_TooMany : PySem.W.kitOne K (.ref C_NoNumbers) (.ref C_TooMany) = some false)
    (k_TooMany_TooMany : PySem.W.kitOne K (.ref C_TooMany) (.ref C_TooMany) = some true)
    (k_NoNumbers_ValueError : PySem.W.kitOne K (.ref C_NoNumbers) (.type "ValueError") = some true)
    (k_TooMany_ValueError : PySem.W.kitOne K (.ref C_TooMany) (.type "ValueError") = some true)
    (cc_GREATEST : PySem.W.nsIn K mainGlobals "GREATEST" = some (some (.int 40 t_GREATEST)))
    (cc_MOST_HANDS : PySem.W.nsIn K mainGlobals "MOST_HANDS" = some (some (.int 2 t_MOST_HANDS)))
    (cc_MOST_OFF : PySem.W.nsIn K mainGlobals "MOST_OFF" = some (some (.int 7 t_MOST_OFF)))
    (cc_MOST_THINGS : PySem.W.nsIn K mainGlobals "MOST_THINGS" = some (some (.int 8 t_MOST_THINGS)))
    (cc_PARTS : PySem.W.nsIn K mainGlobals "PARTS" = some (some (.int 5 t_PARTS))) :
    ∃ fd : FuncData, (∀ (s : Shared) (v : Value), BindsTo s fd ⟨[v], []⟩ [("_law_script", v)]) ∧ ∀ base : Heap, K.In base → base.Ns mainGlobals mg → FnG l.prog w K mg base 51 fa fd ["_law_script"] (spL K F_law) := by
  have e := hfa.symm.trans (PySem.W.mg_of X G a36)
  cases e
  have T : Txt K mg ⟨f0, _, f1, _, f2, _, f3, _, f4, _, f5, _, f6, _, f7, _, f8, _, f9, _, f10, _, f11, _, f12, _, f13, _, f14, _, f15, _, f16, _, f17, _, f18, _, f19, _, f20, _, f21, _, f22, _, f23, _, f24, _, f25, _, f26, _, f27, _, f28, _, f29, _, f30, _, f31, _, f32, _, f33, _, f34, _, f35, _, fa, _, C_DaysError, C_NoNumbers, C_NoDays, C_NoRing, C_NoTask, C_NoThing, C_NoStand, C_NoDay, C_NoPaper, C_NoText, C_NotThere, C_Broken, C_TooMany, I_TooMany, _, t_GREATEST, t_MOST_HANDS, t_MOST_OFF, t_MOST_THINGS, t_PARTS⟩ :=
    ⟨fun_mk (st := s_is_whole) l0 c0 k0, PySem.W.mg_of X G a0, (fun_mk (st := s_is_whole) l0 c0 k0).binds (ps := ["thing", "least", "most"]) fun _ _ _ _ _ _ us hl => match us, hl with | [_, _, _], _ => rfl,
    fun_mk (st := s_is_row) l1 c1 k1, PySem.W.mg_of X G a1, (fun_mk (st := s_is_row) l1 c1 k1).binds (ps := ["thing"]) fun _ _ _ _ _ _ us hl => match us, hl with | [_], _ => rfl,
    fun_mk (st := s_is_rising) l2 c2 k2, PySem.W.mg_of X G a2, (fun_mk (st := s_is_rising) l2 c2 k2).binds (ps := ["thing", "least", "most"]) fun _ _ _ _ _ _ us hl => match us, hl with | [_, _, _], _ => rfl,
    fun_mk (st := s_told_rows) l3 c3 k3, PySem.W.mg_of X G a3, (fun_mk (st := s_told_rows) l3 c3 k3).binds (ps := ["thing"]) fun _ _ _ _ _ _ us hl => match us, hl with | [_], _ => rfl,
    fun_mk (st := s_is_numbers) l4 c4 k4, PySem.W.mg_of X G a4, (fun_mk (st := s_is_numbers) l4 c4 k4).binds (ps := ["thing"]) fun _ _ _ _ _ _ us hl => match us, hl with | [_], _ => rfl,
    fun_mk (st := s_asked_numbers) l5 c5 k5, PySem.W.mg_of X G a5, (fun_mk (st := s_asked_numbers) l5 c5 k5).binds (ps := ["thing"]) fun _ _ _ _ _ _ us hl => match us, hl with | [_], _ => rfl,
    fun_mk (st := s_is_off) l6 c6 k6, PySem.W.mg_of X G a6, (fun_mk (st := s_is_off) l6 c6 k6).binds (ps := ["thing"]) fun _ _ _ _ _ _ us hl => match us, hl with | [_], _ => rfl,
    fun_mk (st := s_is_pair) l7 c7 k7, PySem.W.mg_of X G a7, (fun_mk (st := s_is_pair) l7 c7 k7).binds (ps := ["thing", "many"]) fun _ _ _ _ _ _ us hl => match us, hl with | [_, _], _ => rfl,
    fun_mk (st := s_are_pairs) l8 c8 k8, PySem.W.mg_of X G a8, (fun_mk (st := s_are_pairs) l8 c8 k8).binds (ps := ["thing", "many"]) fun _ _ _ _ _ _ us hl => match us, hl with | [_, _], _ => rfl,
    fun_mk (st := s_is_task) l9 c9 k9, PySem.W.mg_of X G a9, (fun_mk (st := s_is_task) l9 c9 k9).binds (ps := ["thing"]) fun _ _ _ _ _ _ us hl => match us, hl with | [_], _ => rfl,
    fun_mk (st := s_plain) l10 c10 k10, PySem.W.mg_of X G a10, (fun_mk (st := s_plain) l10 c10 k10).binds (ps := ["numbers"]) fun _ _ _ _ _ _ us hl => match us, hl with | [_], _ => rfl,
    fun_mk (st := s__law_cell) l11 c11 k11, PySem.W.mg_of X G a11, (fun_mk (st := s__law_cell) l11 c11 k11).binds (ps := ["_law_script", "_law_k"]) fun _ _ _ _ _ _ us hl => match us, hl with | [_, _], _ => rfl,
    fun_mk (st := s__law_draws) l12 c12 k12, PySem.W.mg_of X G a12, (fun_mk (st := s__law_draws) l12 c12 k12).binds (ps := ["_law_script", "_law_at", "_law_many"]) fun _ _ _ _ _ _ us hl => match us, hl with | [_, _, _], _ => rfl,
    fun_mk (st := s__law_next) l13 c13 k13, PySem.W.mg_of X G a13, (fun_mk (st := s__law_next) l13 c13 k13).binds (ps := ["_law_draws_here"]) fun _ _ _ _ _ _ us hl => match us, hl with | [_], _ => rfl,
    fun_mk (st := s__law_of) l14 c14 k14, PySem.W.mg_of X G a14, (fun_mk (st := s__law_of) l14 c14 k14).binds (ps := ["_law_draws_here", "_law_some_here"]) fun _ _ _ _ _ _ us hl => match us, hl with | [_, _], _ => rfl,
    fun_mk (st := s__law_some) l15 c15 k15, PySem.W.mg_of X G a15, (fun_mk (st := s__law_some) l15 c15 k15).binds (ps := ["_law_draws_here", "_law_many", "_law_often"]) fun _ _ _ _ _ _ us hl => match us, hl with | [_, _, _], _ => rfl,
    fun_mk (st := s__law_tied) l16 c16 k16, PySem.W.mg_of X G a16, (fun_mk (st := s__law_tied) l16 c16 k16).binds (ps := ["_law_draws_here", "_law_many"]) fun _ _ _ _ _ _ us hl => match us, hl with | [_, _], _ => rfl,
    fun_mk (st := s__law_off) l17 c17 k17, PySem.W.mg_of X G a17, (fun_mk (st := s__law_off) l17 c17 k17).binds (ps := ["_law_draws_here", "_law_left"]) fun _ _ _ _ _ _ us hl => match us, hl with | [_, _], _ => rfl,
    fun_mk (st := s__law_numbers) l18 c18 k18, PySem.W.mg_of X G a18, (fun_mk (st := s__law_numbers) l18 c18 k18).binds (ps := ["_law_draws_here", "_law_most", "_law_left"]) fun _ _ _ _ _ _ us hl => match us, hl with | [_, _, _], _ => rfl,
    fun_mk (st := s__law_task) l19 c19 k19, PySem.W.mg_of X G a19, (fun_mk (st := s__law_task) l19 c19 k19).binds (ps := ["_law_draws_here", "_law_most", "_law_left"]) fun _ _ _ _ _ _ us hl => match us, hl with | [_, _, _], _ => rfl,
    fun_mk (st := s__law_listed) l20 c20 k20, PySem.W.mg_of X G a20, (fun_mk (st := s__law_listed) l20 c20 k20).binds (ps := ["_law_thing", "_law_draw"]) fun _ _ _ _ _ _ us hl => match us, hl with | [_, _], _ => rfl,
    fun_mk (st := s__law_spoil) l21 c21 k21, PySem.W.mg_of X G a21, (fun_mk (st := s__law_spoil) l21 c21 k21).binds (ps := ["_law_thing"]) fun _ _ _ _ _ _ us hl => match us, hl with | [_], _ => rfl,
    fun_mk (st := s__law_other_kinds) l22 c22 k22, PySem.W.mg_of X G a22, (fun_mk (st := s__law_other_kinds) l22 c22 k22).binds (ps := ["_law_error"]) fun _ _ _ _ _ _ us hl => match us, hl with | [_], _ => rfl,
    fun_mk (st := s__law_is_whole) l23 c23 k23, PySem.W.mg_of X G a23, (fun_mk (st := s__law_is_whole) l23 c23 k23).binds (ps := ["_law_thing", "_law_low", "_law_high"]) fun _ _ _ _ _ _ us hl => match us, hl with | [_, _, _], _ => rfl,
    fun_mk (st := s__law_is_row) l24 c24 k24, PySem.W.mg_of X G a24, (fun_mk (st := s__law_is_row) l24 c24 k24).binds (ps := ["_law_thing"]) fun _ _ _ _ _ _ us hl => match us, hl with | [_], _ => rfl,
    fun_mk (st := s__law_are_some) l25 c25 k25, PySem.W.mg_of X G a25, (fun_mk (st := s__law_are_some) l25 c25 k25).binds (ps := ["_law_thing", "_law_many"]) fun _ _ _ _ _ _ us hl => match us, hl with | [_, _], _ => rfl,
    fun_mk (st := s__law_are_pairs) l26 c26 k26, PySem.W.mg_of X G a26, (fun_mk (st := s__law_are_pairs) l26 c26 k26).binds (ps := ["_law_thing", "_law_many"]) fun _ _ _ _ _ _ us hl => match us, hl with | [_, _], _ => rfl,
    fun_mk (st := s__law_are_wholes) l27 c27 k27, PySem.W.mg_of X G a27, (fun_mk (st := s__law_are_wholes) l27 c27 k27).binds (ps := ["_law_thing", "_law_low", "_law_high", "_law_least", "_law_most"]) fun _ _ _ _ _ _ us hl => match us, hl with | [_, _, _, _, _], _ => rfl,
    fun_mk (st := s__law_is_task) l28 c28 k28, PySem.W.mg_of X G a28, (fun_mk (st := s__law_is_task) l28 c28 k28).binds (ps := ["_law_thing"]) fun _ _ _ _ _ _ us hl => match us, hl with | [_], _ => rfl,
    fun_mk (st := s__law_nested) l29 c29 k29, PySem.W.mg_of X G a29, (fun_mk (st := s__law_nested) l29 c29 k29).binds (ps := ["_law_deep"]) fun _ _ _ _ _ _ us hl => match us, hl with | [_], _ => rfl,
    fun_mk (st := s__law_odd) l30 c30 k30, PySem.W.mg_of X G a30, (fun_mk (st := s__law_odd) l30 c30 k30).binds (ps := ["_law_draws_here"]) fun _ _ _ _ _ _ us hl => match us, hl with | [_], _ => rfl,
    fun_mk (st := s__law_bent_row) l31 c31 k31, PySem.W.mg_of X G a31, (fun_mk (st := s__law_bent_row) l31 c31 k31).binds (ps := ["_law_draws_here", "_law_row"]) fun _ _ _ _ _ _ us hl => match us, hl with | [_, _], _ => rfl,
    fun_mk (st := s__law_bent) l32 c32 k32, PySem.W.mg_of X G a32, (fun_mk (st := s__law_bent) l32 c32 k32).binds (ps := ["_law_draws_here", "_law_task_here"]) fun _ _ _ _ _ _ us hl => match us, hl with | [_, _], _ => rfl,
    fun_mk (st := s__law_plain_refused) l33 c33 k33, PySem.W.mg_of X G a33, (fun_mk (st := s__law_plain_refused) l33 c33 k33).binds (ps := ["_law_thing"]) fun _ _ _ _ _ _ us hl => match us, hl with | [_], _ => rfl,
    fun_mk (st := s__law_is_plain) l34 c34 k34, PySem.W.mg_of X G a34, (fun_mk (st := s__law_is_plain) l34 c34 k34).binds (ps := ["_law_numbers_here", "_law_draw"]) fun _ _ _ _ _ _ us hl => match us, hl with | [_, _], _ => rfl,
    fun_mk (st := s__law_looked_at) l35 c35 k35, PySem.W.mg_of X G a35, (fun_mk (st := s__law_looked_at) l35 c35 k35).binds (ps := ["_law_thing"]) fun _ _ _ _ _ _ us hl => match us, hl with | [_], _ => rfl,
    fun_mk (st := s_law) l36 c36 k36, PySem.W.mg_of X G a36, (fun_mk (st := s_law) l36 c36 k36).binds (ps := ["_law_script"]) fun _ _ _ _ _ _ us hl => match us, hl with | [_], _ => rfl,
    PySem.W.mg_none_of X G z_ValueError,
    PySem.W.mg_none_of X G z_bool,
    PySem.W.mg_none_of X G z_enumerate,
    PySem.W.mg_none_of X G z_int,
    PySem.W.mg_none_of X G z_isinstance,
    PySem.W.mg_none_of X G z_len,
    PySem.W.mg_none_of X G z_list,
    PySem.W.mg_none_of X G z_max,
    PySem.W.mg_none_of X G z_range,
    PySem.W.mg_none_of X G z_repr,
    PySem.W.mg_none_of X G z_reversed,
    PySem.W.mg_none_of X G z_set,
    PySem.W.mg_none_of X G z_sorted,
    PySem.W.mg_none_of X G z_tuple,
    ⟨⟨nm_TooMany, qn_TooMany, N_TooMany, bs_TooMany, bm_TooMany, sn_TooMany, sb_TooMany, ab_TooMany, co_TooMany, dd_TooMany, k0_TooMany, k1_TooMany, k2_TooMany, k3_TooMany, k5_TooMany, xl_TooMany, xr_TooMany⟩, xs_TooMany, xb_TooMany, xt_TooMany, xk_TooMany⟩, xn_TooMany, xi_TooMany, xu_TooMany, fun_mk (st := si_TooMany) xv_TooMany xw_TooMany xz_TooMany, (fun_mk (st := si_TooMany) xv_TooMany xw_TooMany xz_TooMany).binds (ps := ["self", "most"]) fun _ _ _ _ _ _ us hl => match us, hl with | [_, _], _ => rfl,
    ⟨PySem.W.mg_of X G xa_DaysError, xq_DaysError, xk_DaysError, xb_DaysError, xt_DaysError⟩,
    ⟨PySem.W.mg_of X G xa_NoNumbers, xq_NoNumbers, xk_NoNumbers, xb_NoNumbers, xt_NoNumbers⟩,
    ⟨PySem.W.mg_of X G xa_NoDays⟩,
    ⟨PySem.W.mg_of X G xa_NoRing⟩,
    ⟨PySem.W.mg_of X G xa_NoTask⟩,
    ⟨PySem.W.mg_of X G xa_NoThing⟩,
    ⟨PySem.W.mg_of X G xa_NoStand⟩,
    ⟨PySem.W.mg_of X G xa_NoDay⟩,
    ⟨PySem.W.mg_of X G xa_NoPaper⟩,
    ⟨PySem.W.mg_of X G xa_NoText⟩,
    ⟨PySem.W.mg_of X G xa_NotThere⟩,
    ⟨PySem.W.mg_of X G xa_Broken⟩,
    ⟨PySem.W.mg_of X G xa_TooMany⟩,
    ⟨ehg_NoNumbers, ehk_NoNumbers, ehs_NoNumbers, ehd_NoNumbers, eha_NoNumbers, ehn_NoNumbers, eht_NoNumbers, ehm_NoNumbers⟩,
    ⟨ehg_TooMany, ehk_TooMany, ehs_TooMany, ehd_TooMany, eha_TooMany, ehn_TooMany, eht_TooMany, ehm_TooMany⟩,
    m_NoNumbers_DaysError.trans (by decide),
    m_TooMany_DaysError.trans (by decide),
    k_NoNumbers_Broken.trans (by decide),
    k_TooMany_Broken.trans (by decide),
    k_NoNumbers_NoDay.trans (by decide),
    k_TooMany_NoDay.trans (by decide),
    k_NoNumbers_NoDays.trans (by decide),
    k_TooMany_NoDays.trans (by decide),
    k_NoNumbers_NoNumbers.trans (by decide),
    k_TooMany_NoNumbers.trans (by decide),
    k_NoNumbers_NoPaper.trans (by decide),
    k_TooMany_NoPaper.trans (by decide),
    k_NoNumbers_NoRing.trans (by decide),
    k_TooMany_NoRing.trans (by decide),
    k_NoNumbers_NoStand.trans (by decide),
    k_TooMany_NoStand.trans (by decide),
    k_NoNumbers_NoTask.trans (by decide),
    k_TooMany_NoTask.trans (by decide),
    k_NoNumbers_NoText.trans (by decide),
    k_TooMany_NoText.trans (by decide),
    k_NoNumbers_NoThing.trans (by decide),
    k_TooMany_NoThing.trans (by decide),
    k_NoNumbers_NotThere.trans (by decide),
    k_TooMany_NotThere.trans (by decide),
    k_NoNumbers_TooMany.trans (by decide),
    k_TooMany_TooMany.trans (by decide),
    k_NoNumbers_ValueError.trans (by decide),
    k_TooMany_ValueError.trans (by decide),
    PySem.W.mg_of X G cc_GREATEST,
    PySem.W.mg_of X G cc_MOST_HANDS,
    PySem.W.mg_of X G cc_MOST_OFF,
    PySem.W.mg_of X G cc_MOST_THINGS,
    PySem.W.mg_of X G cc_PARTS⟩
  exact ⟨_, fun s v => .of_eq rfl, fun base _ _ => (ok_law T).imp fun vs H Q E q => spL_imp q⟩
end WD
namespace WD
open PySem PySem.Spec PyProof.Rows L2
open PySem.W
theorem all_hd {l : PySem.W.OpenLaw} {w : World} {K : PySem.W.Frag} {h : Heap} {mg : Str → Option Value} {fa : Addr} (X : K.In h) (G : h.Ns mainGlobals mg) (hfa : mg "law" = some (.ref fa)) (c : SaysX fcsH fnsH K) :
    ∃ fd : FuncData, (∀ (s : Shared) (v : Value), BindsTo s fd ⟨[v], []⟩ [("_law_script", v)]) ∧ ∀ base : Heap, K.In base → base.Ns mainGlobals mg → FnG l.prog w K mg base 51 fa fd ["_law_script"] (spL K F_law) := by
  obtain ⟨a0, k0, a1, k1, a2, k2, a3, k3, a4, k4, a5, k5⟩ := fcH0_ok (c.fact 0 (f := fcH0) rfl)
  obtain ⟨a6, k6, a7, k7, a8, k8, a9, k9, a10, k10, a11, k11⟩ := fcH1_ok (c.fact 1 (f := fcH1) rfl)
  obtain ⟨a12, k12, a13, k13, a14, k14, a15, k15, a16, k16, a17, k17⟩ := fcH2_ok (c.fact 2 (f := fcH2) rfl)
  obtain ⟨a18, k18, a19, k19, a20, k20, a21, k21, a22, k22, a23, k23⟩ := fcH3_ok (c.fact 3 (f := fcH3) rfl)
  obtain ⟨a24, k24, a25, k25, a26, k26, a27, k27, a28, k28, a29, k29⟩ := fcH4_ok (c.fact 4 (f := fcH4) rfl)
  obtain ⟨a30, k30, a31, k31, a32, k32, a33, k33, a34, k34, a35, k35⟩ := fcH5_ok (c.fact 5 (f := fcH5) rfl)
  obtain ⟨a36, k36, z_ValueError, z_bool, z_enumerate, z_int, z_isinstance, z_len, z_list, z_max, z_range, z_repr⟩ := fcH6_ok (c.fact 6 (f := fcH6) rfl)
  obtain ⟨z_reversed, z_set, z_sorted, z_tuple, xa_DaysError, xq_DaysError, xk_DaysError, xb_DaysError, xt_DaysError, xa_NoNumbers, xq_NoNumbers, xk_NoNumbers⟩ := fcH7_ok (c.fact 7 (f := fcH7) rfl)
  obtain ⟨xb_NoNumbers, xt_NoNumbers, xa_NoDays, xa_NoRing, xa_NoTask, xa_NoThing, xa_NoStand, xa_NoDay, xa_NoPaper, xa_NoText, xa_NotThere, xa_Broken⟩ := fcH8_ok (c.fact 8 (f := fcH8) rfl)
  obtain ⟨xa_TooMany, xs_TooMany, xb_TooMany, xt_TooMany, xk_TooMany, xn_TooMany, xi_TooMany, xu_TooMany, xz_TooMany, ehg_NoNumbers, ehk_NoNumbers, ehs_NoNumbers⟩ := fcH9_ok (c.fact 9 (f := fcH9) rfl)
  obtain ⟨ehd_NoNumbers, eha_NoNumbers, ehn_NoNumbers, eht_NoNumbers, ehm_NoNumbers, ehg_TooMany, ehk_TooMany, ehs_TooMany, ehd_TooMany, eha_TooMany, ehn_TooMany, eht_TooMany⟩ := fcH10_ok (c.fact 10 (f := fcH10) rfl)
  obtain ⟨ehm_TooMany, m_NoNumbers_DaysError, m_TooMany_DaysError, k_NoNumbers_Broken, k_TooMany_Broken, k_NoNumbers_NoDay, k_TooMany_NoDay, k_NoNumbers_NoDays, k_TooMany_NoDays, k_NoNumbers_NoNumbers, k_TooMany_NoNumbers, k_NoNumbers_NoPaper⟩ := fcH11_ok (c.fact 11 (f := fcH11) rfl)
  obtain ⟨k_TooMany_NoPaper, k_NoNumbers_NoRing, k_TooMany_NoRing, k_NoNumbers_NoStand, k_TooMany_NoStand, k_NoNumbers_NoTask, k_TooMany_NoTask, k_NoNumbers_NoText, k_TooMany_NoText, k_NoNumbers_NoThing, k_TooMany_NoThing, k_NoNumbers_NotThere⟩ := fcH12_ok (c.fact 12 (f := fcH12) rfl)
  obtain ⟨k_TooMany_NotThere, k_NoNumbers_TooMany, k_TooMany_TooMany, k_NoNumbers_ValueError, k_TooMany_ValueError⟩ := fcH13_ok (c.fact 13 (f := fcH13) rfl)
  obtain ⟨_, _, _, _, _, _, _, _, _, _, _, _, _, _, _, xl_TooMany, xr_TooMany⟩ := excX_ok (c.fact 14 (f := fcE0) rfl)
  obtain ⟨_, cc_GREATEST⟩ := intX_ok (c.fact 15 (f := fcE1) rfl)
  obtain ⟨_, cc_MOST_HANDS⟩ := intX_ok (c.fact 16 (f := fcE2) rfl)
  obtain ⟨_, cc_MOST_OFF⟩ := intX_ok (c.fact 17 (f := fcE3) rfl)
  obtain ⟨_, cc_MOST_THINGS⟩ := intX_ok (c.fact 18 (f := fcE4) rfl)
  obtain ⟨_, cc_PARTS⟩ := intX_ok (c.fact 19 (f := fcE5) rfl)
  obtain ⟨oc0, od0, sl0, kV0, dc0, pm0, an0, cd0, ct0, l0, c0⟩ := c.def_ 0 (d := fnH0) rfl
  obtain ⟨oc1, od1, sl1, kV1, dc1, pm1, an1, cd1, ct1, l1, c1⟩ := c.def_ 1 (d := fnH1) rfl
  obtain ⟨oc2, od2, sl2, kV2, dc2, pm2, an2, cd2, ct2, l2, c2⟩ := c.def_ 2 (d := fnH2) rfl
  obtain ⟨oc3, od3, sl3, kV3, dc3, pm3, an3, cd3, ct3, l3, c3⟩ := c.def_ 3 (d := fnH3) rfl
  obtain ⟨oc4, od4, sl4, kV4, dc4, pm4, an4, cd4, ct4, l4, c4⟩ := c.def_ 4 (d := fnH4) rfl
  obtain ⟨oc5, od5, sl5, kV5, dc5, pm5, an5, cd5, ct5, l5, c5⟩ := c.def_ 5 (d := fnH5) rfl
  obtain ⟨oc6, od6, sl6, kV6, dc6, pm6, an6, cd6, ct6, l6, c6⟩ := c.def_ 6 (d := fnH6) rfl
  obtain ⟨oc7, od7, sl7, kV7, dc7, pm7, an7, cd7, ct7, l7, c7⟩ := c.def_ 7 (d := fnH7) rfl
  obtain ⟨oc8, od8, sl8, kV8, dc8, pm8, an8, cd8, ct8, l8, c8⟩ := c.def_ 8 (d := fnH8) rfl
  obtain ⟨oc9, od9, sl9, kV9, dc9, pm9, an9, cd9, ct9, l9, c9⟩ := c.def_ 9 (d := fnH9) rfl
  obtain ⟨oc10, od10, sl10, kV10, dc10, pm10, an10, cd10, ct10, l10, c10⟩ := c.def_ 10 (d := fnH10) rfl
  obtain ⟨oc11, od11, sl11, kV11, dc11, pm11, an11, cd11, ct11, l11, c11⟩ := c.def_ 11 (d := fnH11) rfl
  obtain ⟨oc12, od12, sl12, kV12, dc12, pm12, an12, cd12, ct12, l12, c12⟩ := c.def_ 12 (d := fnH12) rfl
  obtain ⟨oc13, od13, sl13, kV13, dc13, pm13, an13, cd13, ct13, l13, c13⟩ := c.def_ 13 (d := fnH13) rfl
  obtain ⟨oc14, od14, sl14, kV14, dc14, pm14, an14, cd14, ct14, l14, c14⟩ := c.def_ 14 (d := fnH14) rfl
  obtain ⟨oc15, od15, sl15, kV15, dc15, pm15, an15, cd15, ct15, l15, c15⟩ := c.def_ 15 (d := fnH15) rfl
  obtain ⟨oc16, od16, sl16, kV16, dc16, pm16, an16, cd16, ct16, l16, c16⟩ := c.def_ 16 (d := fnH16) rfl
  obtain ⟨oc17, od17, sl17, kV17, dc17, pm17, an17, cd17, ct17, l17, c17⟩ := c.def_ 17 (d := fnH17) rfl
  obtain ⟨oc18, od18, sl18, kV18, dc18, pm18, an18, cd18, ct18, l18, c18⟩ := c.def_ 18 (d := fnH18) rfl
  obtain ⟨oc19, od19, sl19, kV19, dc19, pm19, an19, cd19, ct19, l19, c19⟩ := c.def_ 19 (d := fnH19) rfl
  obtain ⟨oc20, od20, sl20, kV20, dc20, pm20, an20, cd20, ct20, l20, c20⟩ := c.def_ 20 (d := fnH20) rfl
  obtain ⟨oc21, od21, sl21, kV21, dc21, pm21, an21, cd21, ct21, l21, c21⟩ := c.def_ 21 (d := fnH21) rfl
  obtain ⟨oc22, od22, sl22, kV22, dc22, pm22, an22, cd22, ct22, l22, c22⟩ := c.def_ 22 (d := fnH22) rfl
  obtain ⟨oc23, od23, sl23, kV23, dc23, pm23, an23, cd23, ct23, l23, c23⟩ := c.def_ 23 (d := fnH23) rfl
  obtain ⟨oc24, od24, sl24, kV24, dc24, pm24, an24, cd24, ct24, l24, c24⟩ := c.def_ 24 (d := fnH24) rfl
  obtain ⟨oc25, od25, sl25, kV25, dc25, pm25, an25, cd25, ct25, l25, c25⟩ := c.def_ 25 (d := fnH25) rfl
  obtain ⟨oc26, od26, sl26, kV26, dc26, pm26, an26, cd26, ct26, l26, c26⟩ := c.def_ 26 (d := fnH26) rfl
  obtain ⟨oc27, od27, sl27, kV27, dc27, pm27, an27, cd27, ct27, l27, c27⟩ := c.def_ 27 (d := fnH27) rfl
  obtain ⟨oc28, od28, sl28, kV28, dc28, pm28, an28, cd28, ct28, l28, c28⟩ := c.def_ 28 (d := fnH28) rfl
  obtain ⟨oc29, od29, sl29, kV29, dc29, pm29, an29, cd29, ct29, l29, c29⟩ := c.def_ 29 (d := fnH29) rfl
  obtain ⟨oc30, od30, sl30, kV30, dc30, pm30, an30, cd30, ct30, l30, c30⟩ := c.def_ 30 (d := fnH30) rfl
  obtain ⟨oc31, od31, sl31, kV31, dc31, pm31, an31, cd31, ct31, l31, c31⟩ := c.def_ 31 (d := fnH31) rfl
  obtain ⟨oc32, od32, sl32, kV32, dc32, pm32, an32, cd32, ct32, l32, c32⟩ := c.def_ 32 (d := fnH32) rfl
  obtain ⟨oc33, od33, sl33, kV33, dc33, pm33, an33, cd33, ct33, l33, c33⟩ := c.def_ 33 (d := fnH33) rfl
  obtain ⟨oc34, od34, sl34, kV34, dc34, pm34, an34, cd34, ct34, l34, c34⟩ := c.def_ 34 (d := fnH34) rfl
  obtain ⟨oc35, od35, sl35, kV35, dc35, pm35, an35, cd35, ct35, l35, c35⟩ := c.def_ 35 (d := fnH35) rfl
  obtain ⟨oc36, od36, sl36, kV36, dc36, pm36, an36, cd36, ct36, l36, c36⟩ := c.def_ 36 (d := fnH36) rfl
  obtain ⟨_, _, _, _, _, _, _, _, _, xv_TooMany, xw_TooMany⟩ := c.def_ 37 (d := fnH37) rfl
  exact all_mk X G hfa a0 l0 c0 k0 a1 l1 c1 k1 a2 l2 c2 k2 a3 l3 c3 k3 a4 l4 c4 k4 a5 l5 c5 k5 a6 l6 c6 k6 a7 l7 c7 k7 a8 l8 c8 k8 a9 l9 c9 k9 a10 l10 c10 k10 a11 l11 c11 k11 a12 l12 c12 k12 a13 l13 c13 k13 a14 l14 c14 k14 a15 l15 c15 k15 a16 l16 c16 k16 a17 l17 c17 k17 a18 l18 c18 k18 a19 l19 c19 k19 a20 l20 c20 k20 a21 l21 c21 k21 a22 l22 c22 k22 a23 l23 c23 k23 a24 l24 c24 k24 a25 l25 c25 k25 a26 l26 c26 k26 a27 l27 c27 k27 a28 l28 c28 k28 a29 l29 c29 k29 a30 l30 c30 k30 a31 l31 c31 k31 a32 l32 c32 k32 a33 l33 c33 k33 a34 l34 c34 k34 a35 l35 c35 k35 a36 l36 c36 k36 z_ValueError z_bool z_enumerate z_int z_isinstance z_len z_list z_max z_range z_repr z_reversed z_set z_sorted z_tuple xa_DaysError xq_DaysError xk_DaysError xb_DaysError xt_DaysError xa_NoNumbers xq_NoNumbers xk_NoNumbers xb_NoNumbers xt_NoNumbers xa_NoDays xa_NoRing xa_NoTask xa_NoThing xa_NoStand xa_NoDay xa_NoPaper xa_NoText xa_NotThere xa_Broken xa_TooMany xl_TooMany xr_TooMany xs_TooMany xb_TooMany xt_TooMany xk_TooMany xn_TooMany xi_TooMany xu_TooMany xv_TooMany xw_TooMany xz_TooMany ehg_NoNumbers ehk_NoNumbers ehs_NoNumbers ehd_NoNumbers eha_NoNumbers ehn_NoNumbers eht_NoNumbers ehm_NoNumbers ehg_TooMany ehk_TooMany ehs_TooMany ehd_TooMany eha_TooMany ehn_TooMany eht_TooMany ehm_TooMany m_NoNumbers_DaysError m_TooMany_DaysError k_NoNumbers_Broken k_TooMany_Broken k_NoNumbers_NoDay k_TooMany_NoDay k_NoNumbers_NoDays k_TooMany_NoDays k_NoNumbers_NoNumbers k_TooMany_NoNumbers k_NoNumbers_NoPaper k_TooMany_NoPaper k_NoNumbers_NoRing k_TooMany_NoRing k_NoNumbers_NoStand k_TooMany_NoStand k_NoNumbers_NoTask k_TooMany_NoTask k_NoNumbers_NoText k_TooMany_NoText k_NoNumbers_NoThing k_TooMany_NoThing k_NoNumbers_NotThere k_TooMany_NotThere k_NoNumbers_TooMany k_TooMany_TooMany k_NoNumbers_ValueError k_TooMany_ValueError cc_GREATEST cc_MOST_HANDS cc_MOST_OFF cc_MOST_THINGS cc_PARTS
end WD
namespace WD
open PySem PySem.Spec PyProof.Rows L2
theorem F_is_whole_eq {d : D} {lo hi : Int} {h : Hs} : F_is_whole [d, .int lo, .int hi] h = .ok (.bl (isW lo hi d)) h := by
  cases d with
  | int i => by_cases h1 : lo ≤ i <;> by_cases h2 : i ≤ hi <;> simp [F_is_whole, b_is_whole, h1, h2]
  | bl b => simp [F_is_whole, b_is_whole, isW]
  | _ => simp [F_is_whole, b_is_whole, D.isI, isW]
theorem F_is_row_eq {d : D} {h : Hs} : F_is_row [d] h = .ok (.bl (rowOf h d).isSome) h := by
  simp [F_is_row, b_is_row]
def risL : Int → Int → List D → Bool
  | _, _, [] => true
  | lo, hi, .int n :: ns => decide (lo ≤ n) && decide (n ≤ hi) && risL (n + 1) hi ns
  | _, _, _ => false
def isRis (h : Hs) (lo hi : Int) (d : D) : Bool := match rowOf h d with
  | some xs => risL lo hi xs
  | none => false
theorem ris_loop {hi : Int} {a b : D} {h : Hs} : ∀ (xs : List D) (l : Int), fgS [3, 4] (loopS (gVar 4) k_is_rising_2 xs [some a, some b, some (.int hi), some (.int l), none] h) = if risL (l + 1) hi xs = true then .nx [some a, some b, some (.int hi), none, none] h else .rt (.bl false) h := by
  intro xs
  induction xs with
  | nil => intro l; simp [x_loop_nil, risL]
  | cons x xs ih =>
    intro l
    rw [x_loop_cons]
    cases x with
    | int n =>
      by_cases h1 : l + 1 ≤ n
      · by_cases h2 : n ≤ hi
        · simpa [F_is_whole_eq, h1, h2, risL] using ih n
        · simp [F_is_whole_eq, h1, h2, risL]
      · simp [F_is_whole_eq, h1, risL]
    | _ => simp [F_is_whole_eq, isW, risL]
theorem F_is_rising_eq {d : D} {lo hi : Int} {h : Hs} : F_is_rising [d, .int lo, .int hi] h = .ok (.bl (isRis h lo hi d)) h := by
  cases hr : rowOf h d with
  | none => simp [F_is_rising, b_is_rising, F_is_row_eq, hr, isRis]
  | some xs =>
    have hf : sFor (iRow (eVar 0)) (gVar 4) k_is_rising_2 [some d, some (.int lo), some (.int hi), some (.int (lo - 1)), none] h = loopS (gVar 4) k_is_rising_2 xs [some d, some (.int lo), some (.int hi), some (.int (lo - 1)), none] h := by
      refine sFor_row (fun s => ∃ l, s = [some d, some (.int lo), some (.int hi), some (.int l), none]) rfl hr ⟨_, rfl⟩ fun x hx s ⟨l, hs⟩ => ?_
      subst hs
      refine ⟨_, rfl, ?_⟩
      cases x with
      | int n => by_cases h1 : l + 1 ≤ n <;> by_cases h2 : n ≤ hi <;> simp [F_is_whole_eq, h1, h2]
      | _ => simp [F_is_whole_eq, isW]
    have hl := ris_loop (hi := hi) (a := d) (b := .int lo) (h := h) xs (lo - 1)
    rw [show lo - 1 + 1 = lo by omega] at hl
    cases hb : risL lo hi xs <;> simp [F_is_rising, b_is_rising, F_is_row_eq, hr, isRis, hf, hl, hb]
/-- told as tuples -/
theorem F_told_eq : ∀ (n : Nat) (d : D) (q : Q) (h : Hs) (fuel : Nat), n < fuel → vq h n d = some q → q.nd = true → F_told_rows fuel [d] h = .ok (qD q) h := by
  intro n
  induction n with
  | zero =>
    intro d q h fuel hf e hq
    obtain ⟨fuel, rfl⟩ : ∃ f, fuel = f + 1 := ⟨fuel - 1, by omega⟩
    rcases vq_inv e with ⟨h1, h2⟩ | ⟨_, _, _, h1, _⟩
    · cases q with
      | row _ => exact h2.elim
      | dic => cases hq
      | _ => cases h2; simp [F_told_rows, b_told_rows, F_is_row_eq, h1, qD, exitT_same]
    · omega
  | succ n ih =>
    intro d q h fuel hf e hq
    obtain ⟨fuel, rfl⟩ : ∃ f, fuel = f + 1 := ⟨fuel - 1, by omega⟩
    rcases vq_inv e with ⟨h1, h2⟩ | ⟨m, xs, qs, h1, h2, h3, rfl⟩
    · cases q with
      | row _ => exact h2.elim
      | dic => cases hq
      | _ => cases h2; simp [F_told_rows, b_told_rows, F_is_row_eq, h1, qD, exitT_same]
    · obtain rfl : n = m := by omega
      have hq' : ndL qs = true := hq
      have hc : eComp false [1] (iRow (eVar 0)) (gVar 1) tYesF (eCall 1 (F_told_rows fuel) (aCons (eVar 1) aNil)) [some d, none] h = .ok (.lst (qDL qs)) h := by
        rw [comp_map (em := id) (fun x => qD ((vq h n x).getD .non)) (by rw [List.map_id]; exact Itr.row rfl h2) fun x hx => ?_]
        · simp only [x_newF, R.ok.injEq, D.lst.injEq, and_true]
          exact mapM_qD h3
        · obtain ⟨y, hy, ey⟩ := mapM_mem h3 x hx
          have := ih x y h fuel (by omega) ey (ndL_mem hq' hy)
          simp [this, ey]
      simp [F_told_rows, b_told_rows, F_is_row_eq, h2, hc, qD, exitT_same, und_qDL]

end WD
namespace WD
open PySem PySem.Spec PyProof.Rows L2
theorem filter_not_empty {α : Type} (p : α → Bool) (xs : List α) : (xs.filter fun x => !p x).isEmpty = xs.all p := by
  rw [Bool.eq_iff_iff]; simp
/-- good rings -/
def DayOk (many : Int) (d : List Int) : Prop := risL 0 (many - 1) (d.map D.int) = true ∧ d.length ≤ 2
structure RingOk (many : Int) (r : List (List Int)) : Prop where
  pos : 0 < r.length
  most : r.length ≤ 4000
  day : ∀ d ∈ r, DayOk many d
theorem risL_mono {hi hi' : Int} (hh : hi ≤ hi') : ∀ (xs : List D) (lo : Int), risL lo hi xs = true → risL lo hi' xs = true
  | [], _, _ => rfl
  | .int n :: xs, lo, h => by
    simp only [risL, Bool.and_eq_true, decide_eq_true_eq] at h ⊢
    exact ⟨⟨h.1.1, by omega⟩, risL_mono hh xs _ h.2⟩
  | .non :: _, _, h => by cases h
  | .bl _ :: _, _, h => by cases h
  | .str _ :: _, _, h => by cases h
  | .tup _ :: _, _, h => by cases h
  | .lst _ :: _, _, h => by cases h
  | .scr _ :: _, _, h => by cases h
  | .dic _ _ :: _, _, h => by cases h
  | .loc _ :: _, _, h => by cases h
theorem DayOk.mono {m m' : Int} {d : List Int} (h : DayOk m d) (hm : m ≤ m') : DayOk m' d := ⟨risL_mono (by omega) _ _ h.1, h.2⟩
end WD
namespace WD
open PySem PySem.Spec PyProof.Rows L2
def isNums (h : Hs) (d : D) : Bool := match rowOf h d with
  | some xs => decide ((xs.length : Int) ≤ 8) && xs.all (isW 1 40)
  | none => false
theorem F_is_numbers_eq {d : D} {h : Hs} : F_is_numbers [d] h = .ok (.bl (isNums h d)) h := by
  cases hr : rowOf h d with
  | none => simp [F_is_numbers, b_is_numbers, F_is_row_eq, isNums, hr]
  | some xs =>
    have hc : eComp false [1] (iRow (eVar 0)) (gVar 1) (tNotF (tV (eCall 3 F_is_whole (aCons (eVar 1) (aCons (eC (.int 1)) (aCons (eC (.int 40)) aNil)))))) (eVar 1) [some d, none] h = .ok (.lst (xs.filter fun x => !isW 1 40 x)) h := by
      rw [comp_ty (em := id) (fun x => !isW 1 40 x) id (by rw [List.map_id]; exact Itr.row rfl hr) fun x hx => ?_]
      · simp
      · simp [F_is_whole_eq]
    by_cases hz : (8 : Int) < xs.length
    · have hz' : ¬ (xs.length : Int) ≤ 8 := by omega
      simp [F_is_numbers, b_is_numbers, F_is_row_eq, isNums, hr, x_len hr, hz, hz']
    · have hz' : (xs.length : Int) ≤ 8 := by omega
      simp [F_is_numbers, b_is_numbers, F_is_row_eq, isNums, hr, x_len hr, hz, hz', hc, filter_not_empty]
/-- good numbers -/
def NumOk (ns : List Int) : Prop := ns.length ≤ 8 ∧ ∀ n ∈ ns, 1 ≤ n ∧ n ≤ 40
theorem isNums_ok {h : Hs} {d : D} {ns : List Int} (hr : rowOf h d = some (ns.map D.int)) (hn : NumOk ns) : isNums h d = true := by
  have := hn.1
  simp only [isNums, hr, Bool.and_eq_true, decide_eq_true_eq, List.all_eq_true, List.length_map]
  refine ⟨by omega, fun x hx => ?_⟩
  obtain ⟨n, h1, rfl⟩ := List.mem_map.mp hx
  have := hn.2 n h1
  simp; omega
theorem F_asked_numbers_eq {h : Hs} {d : D} {ns : List Int} (hr : rowOf h d = some (ns.map D.int)) (hn : NumOk ns) : F_asked_numbers [d] h = .ok (iT ns) h := by
  simp [F_asked_numbers, b_asked_numbers, F_is_numbers_eq, isNums_ok hr hn, x_tuple hr, tup_ints, exitT_same]
end WD
namespace WD
open PySem PySem.Spec PyProof.Rows L2
theorem rgI_bd {lo : Int} {n : Nat} {k : Int} (h : k ∈ rgI lo n) : lo ≤ k ∧ k < lo + n := by
  unfold rgI at h
  simp only [List.mem_map, List.mem_range] at h
  obtain ⟨i, hi, rfl⟩ := h
  omega
@[simp] theorem rgI_len {lo : Int} {n : Nat} : (rgI lo n).length = n := by simp [rgI]
theorem rgI_range' {m : Nat} : rgI 1 m = (List.range' 1 m).map fun (k : Nat) => (k : Int) := by
  unfold rgI
  rw [List.range'_eq_map_range, List.map_map]
  refine List.map_congr_left fun i _ => ?_
  simp
theorem rg_srt : ∀ (n : Nat) (lo : Int), (rgI lo n).Pairwise (· < ·) := fun n lo => by
  unfold rgI
  rw [List.pairwise_map]
  exact List.pairwise_lt_range.imp fun {a b} h => by omega
end WD
namespace WD
open PySem PySem.Spec PyProof.Rows L2

end WD
namespace WD
open PySem PySem.Spec PyProof.Rows L2
end WD
namespace WD
open PySem PySem.Spec PyProof.Rows L2
def adjB {α : Type} (r : α → α → Bool) : List α → Bool
  | a :: b :: l => r a b && adjB r (b :: l)
  | _ => true
theorem adjB_all {α : Type} {r : α → α → Bool} {z : α} : ∀ l : List α, adjB r l = (List.range' 1 (l.length - 1)).all fun k => r (l.getD (k - 1) z) (l.getD k z)
  | [] => rfl
  | [a] => rfl
  | a :: b :: l => by
    have ih := adjB_all (r := r) (z := z) (b :: l)
    rw [adjB, ih]
    simp only [List.length_cons, Nat.add_sub_cancel]
    rw [List.range'_succ, List.all_cons]
    congr 1
    rw [Bool.eq_iff_iff]
    simp only [List.all_eq_true, List.mem_range'_1]
    constructor
    · intro h k hk
      have := h (k - 1) (by omega)
      obtain ⟨k, rfl⟩ : ∃ j, k = j + 2 := ⟨k - 2, by omega⟩
      simpa using this
    · intro h k hk
      have := h (k + 1) (by omega)
      obtain ⟨k, rfl⟩ : ∃ j, k = j + 1 := ⟨k - 1, by omega⟩
      simpa using this
def ltP (p q : Int × Int) : Bool := decide (p.1 < q.1 ∨ (p.1 = q.1 ∧ p.2 < q.2))
def isOff (h : Hs) (d : D) : Bool := match rowOf h d with
  | some xs => decide ((1 : Int) ≤ xs.length) && decide ((xs.length : Int) ≤ 7) && xs.all (isW 0 1)
  | none => false
theorem F_is_off_eq {d : D} {h : Hs} : F_is_off [d] h = .ok (.bl (isOff h d)) h := by
  cases hr : rowOf h d with
  | none => simp [F_is_off, b_is_off, F_is_row_eq, isOff, hr]
  | some xs =>
    have hc : eComp false [1] (iRow (eVar 0)) (gVar 1) (tNotF (tV (eCall 3 F_is_whole (aCons (eVar 1) (aCons (eC (.int 0)) (aCons (eC (.int 1)) aNil)))))) (eVar 1) [some d, none] h = .ok (.lst (xs.filter fun x => !isW 0 1 x)) h := by
      rw [comp_ty (em := id) (fun x => !isW 0 1 x) id (by rw [List.map_id]; exact Itr.row rfl hr) fun x hx => ?_]
      · simp
      · simp [F_is_whole_eq]
    by_cases hz : (xs.length : Int) < 1
    · have hz' : ¬ (1 : Int) ≤ xs.length := by omega
      simp only [F_is_off, b_is_off, t_is_off_0]
      simp [F_is_row_eq, isOff, hr, x_len hr, hz, hz']
    · have hz' : (1 : Int) ≤ xs.length := by omega
      by_cases hy : (7 : Int) < xs.length
      · have hy' : ¬ (xs.length : Int) ≤ 7 := by omega
        simp only [F_is_off, b_is_off, t_is_off_0]
        simp [F_is_row_eq, isOff, hr, x_len hr, hz, hz', hy, hy']
      · have hy' : (xs.length : Int) ≤ 7 := by omega
        simp only [F_is_off, b_is_off, t_is_off_0]
        simp [F_is_row_eq, isOff, hr, x_len hr, hz, hz', hy, hy', hc, filter_not_empty]
def isPair (h : Hs) (many : Int) (d : D) : Bool := match rowOf h d with
  | some xs => risL 0 (many - 1) xs && decide ((xs.length : Int) = 2)
  | none => false
theorem F_is_pair_eq {many : Int} {d : D} {h : Hs} : F_is_pair [d, .int many] h = .ok (.bl (isPair h many d)) h := by
  cases hr : rowOf h d with
  | none => simp [F_is_pair, b_is_pair, F_is_rising_eq, isRis, isPair, hr]
  | some xs =>
    have e : ((xs.length : Int) == 2) = decide ((xs.length : Int) = 2) := by rw [Bool.eq_iff_iff]; simp
    cases hb : risL 0 (many - 1) xs <;> simp [F_is_pair, b_is_pair, F_is_rising_eq, isRis, isPair, hr, hb, x_len hr, e]
def prQ (p : Int × Int) : Q := .row [.int p.1, .int p.2]
theorem isPair_inv {h : Hs} {many : Int} {d : D} (e : isPair h many d = true) : ∃ p : Int × Int, rowOf h d = some [.int p.1, .int p.2] ∧ 0 ≤ p.1 ∧ p.1 < p.2 ∧ p.2 < many := by
  unfold isPair at e
  cases hr : rowOf h d with
  | none => rw [hr] at e; cases e
  | some xs =>
    rw [hr] at e
    simp only [Bool.and_eq_true, decide_eq_true_eq] at e
    obtain ⟨e1, e2⟩ := e
    match xs, e1, e2 with
    | [.int a, .int b], e1, _ =>
      simp [risL] at e1
      exact ⟨(a, b), rfl, by omega, by show a < b; omega, by show b < many; omega⟩
    | [.int a, .non], e1, _ => simp [risL] at e1
    | [.int a, .bl _], e1, _ => simp [risL] at e1
    | [.int a, .str _], e1, _ => simp [risL] at e1
    | [.int a, .tup _], e1, _ => simp [risL] at e1
    | [.int a, .lst _], e1, _ => simp [risL] at e1
    | [.int a, .scr _], e1, _ => simp [risL] at e1
    | [.int a, .dic _ _], e1, _ => simp [risL] at e1
    | [.int a, .loc _], e1, _ => simp [risL] at e1
    | [.non, _], e1, _ => simp [risL] at e1
    | [.bl _, _], e1, _ => simp [risL] at e1
    | [.str _, _], e1, _ => simp [risL] at e1
    | [.tup _, _], e1, _ => simp [risL] at e1
    | [.lst _, _], e1, _ => simp [risL] at e1
    | [.scr _, _], e1, _ => simp [risL] at e1
    | [.dic _ _, _], e1, _ => simp [risL] at e1
    | [.loc _, _], e1, _ => simp [risL] at e1
    | [], _, e2 => simp at e2
    | [_], _, e2 => simp at e2
    | _ :: _ :: _ :: _, _, e2 => simp at e2; omega
def pairOf (h : Hs) (d : D) : Int × Int := match rowOf h d with
  | some [.int a, .int b] => (a, b)
  | _ => (0, 0)
def arePairs (h : Hs) (many : Int) (d : D) : Bool := match rowOf h d with
  | some xs => xs.all (isPair h many) && adjB ltP (xs.map (pairOf h))
  | none => false
theorem vq_pairs {h : Hs} {many : Int} : ∀ xs : List D, xs.all (isPair h many) = true → xs.mapM (vq h 1) = some ((xs.map (pairOf h)).map prQ)
  | [], _ => rfl
  | x :: xs, e => by
    simp only [List.all_cons, Bool.and_eq_true] at e
    obtain ⟨p, hp, _⟩ := isPair_inv e.1
    have h1 : vq h 1 x = some (prQ p) := by rw [vq_row hp]; rfl
    have h2 : pairOf h x = p := by simp [pairOf, hp]
    rw [List.mapM_cons, h1, vq_pairs xs e.2]
    simp [h2]
theorem qDL_prs : ∀ ps : List (Int × Int), qDL (ps.map prQ) = ps.map prD
  | [] => rfl
  | p :: ps => by simp only [List.map_cons, qDL, qDL_prs ps]; rfl
theorem ndL_prs : ∀ ps : List (Int × Int), ndL (ps.map prQ) = true
  | [] => rfl
  | p :: ps => by simp [ndL, ndL_prs ps, prQ, Q.nd]
theorem ix_prs {ps : List (Int × Int)} {i : Int} {h : Hs} (h0 : 0 ≤ i) (h1 : i < ps.length) : ixD (.tup (ps.map prD)) (.int i) h = .ok (prD (ps.getD i.toNat (0, 0))) h := by
  rw [ix_mem (xs := ps.map prD) rfl h0 (by simpa using h1)]
  simp [List.getD, List.getElem?_eq_getElem (show i.toNat < ps.length by omega)]
theorem F_are_pairs_eq {many : Int} {d : D} {h : Hs} (hz : ∀ xs, rowOf h d = some xs → xs.length ≤ 100000 ∧ xs.all (isPair h many) = true) : F_are_pairs [d, .int many] h = .ok (.bl (arePairs h many d)) h := by
  cases hr : rowOf h d with
  | none => simp [F_are_pairs, b_are_pairs, F_is_row_eq, arePairs, hr]
  | some xs =>
    obtain ⟨hl, ha⟩ := hz xs hr
    have hc : eComp false [2] (iRow (eVar 0)) (gVar 2) (tNotF (tV (eCall 2 F_is_pair (aCons (eVar 2) (aCons (eVar 1) aNil))))) (eVar 2) [some d, some (.int many), none, none, none] h = .ok (.lst (xs.filter fun x => !isPair h many x)) h := by
      rw [comp_ty (em := id) (fun x => !isPair h many x) id (by rw [List.map_id]; exact Itr.row rfl hr) fun x hx => ?_]
      · simp
      · simp [F_is_pair_eq]
    have hfe := filter_not_empty (isPair h many) xs
    rw [ha] at hfe
    have hfe : xs.filter (fun x => !isPair h many x) = [] := List.isEmpty_iff.mp hfe
    rw [hfe] at hc
    have hne : eqD true (.lst []) (.lst []) h = .ok (.bl false) h := by rw [show D.lst [] = iL [] from rfl, eq_iL]; rfl
    have hv := vq_pairs xs ha
    have ht := F_told_eq 2 d (.row ((xs.map (pairOf h)).map prQ)) h 45 (by omega) (by rw [vq_row hr, hv]; rfl) (by rw [Q.nd]; exact ndL_prs _)
    have hq : qD (.row ((xs.map (pairOf h)).map prQ)) = .tup ((xs.map (pairOf h)).map prD) := by rw [qD, qDL_prs]
    rw [hq] at ht
    have hpl : (xs.map (pairOf h)).length = xs.length := List.length_map _
    have har : arePairs h many d = adjB ltP (xs.map (pairOf h)) := by simp [arePairs, hr, ha]
    rw [har]
    generalize xs.map (pairOf h) = ps at *
    have hi : Itr (iRng2 (aCons (eC (.int 1)) (aCons (eB lenD (aCons (eVar 3) aNil)) aNil))) [some d, some (.int many), none, some (.tup (ps.map prD)), none] h h ((List.range' 1 (ps.length - 1)).map fun (k : Nat) => .int (k : Int)) := by
      have := Itr.rng2 (f := aCons (eC (.int 1)) (aCons (eB lenD (aCons (eVar 3) aNil)) aNil)) (s := [some d, some (.int many), none, some (.tup (ps.map prD)), none]) (h := h) (h1 := h) (m := 1) (n := ps.length) (by simp) (by omega) (by omega) (by omega) (by omega)
      rw [show ((ps.length : Int) - 1).toNat = ps.length - 1 by omega, rgI_range', List.map_map] at this
      exact this
    have hc2 : eComp false [4] (iRng2 (aCons (eC (.int 1)) (aCons (eB lenD (aCons (eVar 3) aNil)) aNil))) (gVar 4) (tV (eBin geT (eBin ixD (eVar 3) (eBin subD (eVar 4) (eC (.int 1)))) (eBin ixD (eVar 3) (eVar 4)))) (eVar 4) [some d, some (.int many), none, some (.tup (ps.map prD)), none] h = .ok (iL (((List.range' 1 (ps.length - 1)).filter fun k => !ltP (ps.getD (k - 1) (0, 0)) (ps.getD k (0, 0))).map fun (k : Nat) => (k : Int))) h := by
      rw [comp_ty (fun k => !ltP (ps.getD (k - 1) (0, 0)) (ps.getD k (0, 0))) (fun (k : Nat) => .int (k : Int)) hi fun k hk => ?_]
      · simp [iL, Function.comp_def]
      · rw [List.mem_range'_1] at hk
        have i1 := ix_prs (h := h) (ps := ps) (i := (k : Int)) (by omega) (by omega)
        have i2 := ix_prs (h := h) (ps := ps) (i := (k : Int) - 1) (by omega) (by omega)
        have e2 : ((k : Int) - 1).toNat = k - 1 := by omega
        have e1 : (k : Int).toNat = k := by omega
        rw [e1] at i1; rw [e2] at i2
        generalize ps.getD (k - 1) (0, 0) = b at *
        generalize ps.getD k (0, 0) = a at *
        refine ⟨_, rfl, ?_, fun _ => by simp⟩
        have : decide (a.1 < b.1 ∨ (b.1 = a.1 ∧ a.2 ≤ b.2)) = !ltP b a := by
          rw [Bool.eq_iff_iff]; simp [ltP]; omega
        simp [i1, i2, this]
    have hall := adjB_all (r := ltP) (z := (0, 0)) ps
    rw [← filter_not_empty] at hall
    have hz2 : ∀ ks : List Nat, eqD false (iL (ks.map fun (k : Nat) => (k : Int))) (.lst []) h = .ok (.bl ks.isEmpty) h := fun ks => by
      rw [show D.lst [] = iL [] from rfl, eq_iL]
      cases ks <;> simp
    simp only [F_are_pairs, b_are_pairs, t_are_pairs_0]
    simp [F_is_row_eq, hr, hc, hne, ht, hc2, hz2, hall]
def isTask (h : Hs) (d : D) : Bool := match rowOf h d with
  | some [n, w, o, l, p] => isNums h n && isW 1 2 w && isOff h o && isRis h 0 ((((rowOf h n).getD []).length : Int) - 1) l && arePairs h (((rowOf h n).getD []).length : Int) p
  | _ => false
structure Tk where
  ns : List Int
  hands : Int
  off : List Int
  lg : List Int
  tied : List (Int × Int)
def Tk.Q (t : Tk) : Q := .row [dayQ t.ns, .int t.hands, dayQ t.off, dayQ t.lg, .row (t.tied.map prQ)]
def Tk.D (t : Tk) : D := .tup [iT t.ns, .int t.hands, iT t.off, iT t.lg, .tup (t.tied.map prD)]
structure Tk.Ok (t : Tk) : Prop where
  num : NumOk t.ns
  hnd : t.hands = 1 ∨ t.hands = 2
  off1 : 1 ≤ t.off.length
  off7 : t.off.length ≤ 7
  offs : ∀ x ∈ t.off, x = 0 ∨ x = 1
  lng : risL 0 ((t.ns.length : Int) - 1) (t.lg.map D.int) = true
  prs : ∀ p ∈ t.tied, 0 ≤ p.1 ∧ p.1 < p.2 ∧ p.2 < t.ns.length
  inc : adjB ltP t.tied = true
  few : t.tied.length ≤ 1000
theorem qDL_ints : ∀ ns : List Int, qDL (ns.map .int) = ns.map D.int
  | [] => rfl
  | n :: ns => by simp only [List.map_cons, qDL, qDL_ints ns]; rfl
theorem qD_day' (ns : List Int) : qD (dayQ ns) = iT ns := by simp only [dayQ, qD, qDL_ints]; rfl
theorem qD_tk (t : Tk) : qD t.Q = t.D := by
  simp only [Tk.Q, Tk.D, qD, qDL, qD_day', qDL_prs]
theorem mapM_prs {h : Hs} {n : Nat} : ∀ {xs : List D} {ps : List (Int × Int)}, xs.mapM (vq h n) = some (ps.map prQ) → xs.map (pairOf h) = ps ∧ ∀ x ∈ xs, ∃ p ∈ ps, rowOf h x = some [.int p.1, .int p.2]
  | [], ps, e => by
    cases ps with
    | nil => exact ⟨rfl, by simp⟩
    | cons p ps => cases e
  | x :: xs, ps, e => by
    obtain ⟨y, ys, h1, h2, h3⟩ := mapM_cons_some e
    cases ps with
    | nil => cases h3
    | cons p ps =>
      simp only [List.map_cons, List.cons.injEq] at h3
      obtain ⟨rfl, rfl⟩ := h3
      obtain ⟨i1, i2⟩ := mapM_prs h2
      have hx : rowOf h x = some [.int p.1, .int p.2] := by
        rcases vq_inv h1 with ⟨_, q⟩ | ⟨m, ys, qs, _, hr, hm, hq⟩
        · exact q.elim
        · simp only [prQ, Q.row.injEq] at hq
          subst hq
          have := mapM_ints_vq (ns := [p.1, p.2]) hm
          rw [hr, this]; rfl
      refine ⟨by simp [pairOf, hx, ← i1], fun z hz => ?_⟩
      rcases List.mem_cons.mp hz with rfl | hz
      · exact ⟨p, List.mem_cons_self, hx⟩
      · obtain ⟨p', hp, e'⟩ := i2 z hz
        exact ⟨p', List.mem_cons_of_mem _ hp, e'⟩
theorem mapM_view {α β : Type} {f : α → Option β} {xs : List α} {q : β} {qs : List β} (e : xs.mapM f = some (q :: qs)) : ∃ y ys, f y = some q ∧ ys.mapM f = some qs ∧ xs = y :: ys := by
  cases xs with
  | nil => cases e
  | cons x xs =>
    obtain ⟨y, ys, h1, h2, h3⟩ := mapM_cons_some e
    simp only [List.cons.injEq] at h3
    obtain ⟨rfl, rfl⟩ := h3
    exact ⟨x, xs, h1, h2, rfl⟩
theorem tk_inv {h : Hs} {n : Nat} {d : D} {t : Tk} (e : vq h n d = some t.Q) : ∃ a o l p xs, rowOf h d = some [a, .int t.hands, o, l, p] ∧ rowOf h a = some (t.ns.map D.int) ∧ rowOf h o = some (t.off.map D.int) ∧ rowOf h l = some (t.lg.map D.int) ∧
    rowOf h p = some xs ∧ xs.map (pairOf h) = t.tied ∧ ∀ x ∈ xs, ∃ p ∈ t.tied, rowOf h x = some [.int p.1, .int p.2] := by
  rcases vq_inv e with ⟨_, q⟩ | ⟨m, xs, qs, _, hr, hm, hq⟩
  · exact q.elim
  · simp only [Tk.Q, Q.row.injEq] at hq
    subst hq
    obtain ⟨y1, ys1, a1, m1, e1⟩ := mapM_view hm
    obtain ⟨y2, ys2, a2, m2, e2⟩ := mapM_view m1
    obtain ⟨y3, ys3, a3, m3, e3⟩ := mapM_view m2
    obtain ⟨y4, ys4, a4, m4, e4⟩ := mapM_view m3
    obtain ⟨y5, ys5, a5, m5, e5⟩ := mapM_view m4
    have e6 := mapM_len m5
    have e6 : ys5 = [] := List.length_eq_zero_iff.mp e6
    subst e6 e5 e4 e3 e2 e1
    obtain ⟨_, _, r1⟩ := dayQ_inv a1
    obtain ⟨_, _, r3⟩ := dayQ_inv a3
    obtain ⟨_, _, r4⟩ := dayQ_inv a4
    have r2 : y2 = .int t.hands := by
      rcases vq_inv a2 with ⟨_, q⟩ | ⟨_, _, _, _, _, _, q⟩
      · exact q
      · cases q
    subst r2
    rcases vq_inv a5 with ⟨_, q⟩ | ⟨k, xs, qs, _, hr5, hm5, hq5⟩
    · exact q.elim
    · simp only [Q.row.injEq] at hq5
      subst hq5
      obtain ⟨i1, i2⟩ := mapM_prs hm5
      exact ⟨y1, y3, y4, y5, xs, hr, r1, r3, r4, hr5, i1, i2⟩
theorem isTask_ok {h : Hs} {n : Nat} {d : D} {t : Tk} (e : vq h n d = some t.Q) (ht : t.Ok) : isTask h d = true := by
  obtain ⟨a, o, l, p, xs, hr, r1, r3, r4, r5, i1, i2⟩ := tk_inv e
  have h1 := isNums_ok r1 ht.num
  have h2 : isW 1 2 (.int t.hands) = true := by
    have := ht.hnd
    simp; omega
  have h3 : isOff h o = true := by
    have q1 := ht.off1
    have q2 := ht.off7
    simp only [isOff, r3, Bool.and_eq_true, decide_eq_true_eq, List.all_eq_true, List.length_map]
    refine ⟨⟨by omega, by omega⟩, fun x hx => ?_⟩
    obtain ⟨z, hz, rfl⟩ := List.mem_map.mp hx
    rcases ht.offs z hz with rfl | rfl <;> rfl
  have h4 : isRis h 0 ((t.ns.length : Int) - 1) l = true := by simp only [isRis, r4]; exact ht.lng
  have h5 : arePairs h (t.ns.length : Int) p = true := by
    simp only [arePairs, r5, i1, ht.inc, Bool.and_true, List.all_eq_true]
    intro x hx
    obtain ⟨q, hq, rq⟩ := i2 x hx
    have := ht.prs q hq
    simp [isPair, rq, risL]
    omega
  simp [isTask, hr, r1, h1, h2, h3, h4, h5]
end WD
namespace WD
open PySem PySem.Spec PyProof.Rows L2
/-- a deck at place n, all else as in h -/
def hd (n : Nat) (dk : List Int) (h : Hs) : Hs := h.set n (.lst (dk.map D.int))
@[simp] theorem hd_len {n : Nat} {dk : List Int} {h : Hs} : (hd n dk h).length = h.length := by simp [hd]
@[simp] theorem hd_hd {n : Nat} {dk dk' : List Int} {h : Hs} : hd n dk' (hd n dk h) = hd n dk' h := by simp [hd]
theorem hd_at {n : Nat} {dk : List Int} {h t : Hs} (hn : n < h.length) : locAt (hd n dk h ++ t) n = some (dk.map D.int) := by
  unfold locAt hd
  rw [List.getElem?_append_left (by simpa using hn), List.getElem?_set_self hn]; rfl
theorem hd_at0 {n : Nat} {dk : List Int} {h : Hs} (hn : n < h.length) : locAt (hd n dk h) n = some (dk.map D.int) := by
  have := hd_at (dk := dk) (t := []) hn
  simpa using this
theorem hd_set {n : Nat} {dk dk' : List Int} {h t : Hs} (hn : n < h.length) : (hd n dk h ++ t).set n (.lst (dk'.map D.int)) = hd n dk' h ++ t := by
  unfold hd
  rw [List.set_append_left _ _ (by simpa using hn), List.set_set]
theorem hd_other {n m : Nat} {dk : List Int} {h : Hs} (hm : m ≠ n) : locAt (hd n dk h) m = locAt h m := by
  unfold locAt hd
  rw [List.getElem?_set_ne (Ne.symm hm)]
theorem hd_self {n : Nat} {dk : List Int} {h : Hs} (e : locAt h n = some (dk.map D.int)) : hd n dk h = h := set_same e
theorem hd_trunc {n : Nat} {dk : List Int} {h t : Hs} : TruncOk h.length h (hd n dk h ++ t) := fun i o hi e => by
  rw [List.getElem?_append_left (by simpa using hi)] at e
  unfold hd at e
  by_cases hin : n = i
  · subst hin
    rw [List.getElem?_set_self hi] at e
    cases e
    exact .inr und_O_ints
  · rw [List.getElem?_set_ne hin] at e
    exact .inl e
theorem exitT_hd {n : Nat} {dk : List Int} {h t : Hs} {d : D} (hd' : d.und h.length = true) : exitT h d (hd n dk h ++ t) = .ok d (hd n dk h) := by
  unfold exitT
  rw [if_pos hd_trunc]
  unfold frz1
  rw [if_pos hd']
  dsimp only
  rw [List.take_append_of_le_length (by simp), List.take_of_length_le (by simp)]
theorem exitT_hd0 {n : Nat} {dk : List Int} {h : Hs} {d : D} (hu : d.und h.length = true) : exitT h d (hd n dk h) = .ok d (hd n dk h) := by
  have := exitT_hd (n := n) (dk := dk) (t := []) hu
  simpa using this
/-- the cell's worth -/
theorem F_cell_eq {ns : List Int} {k : Nat} {h : Hs} (hk : k ≤ 1000000) : ∃ v : Int, F__law_cell [.scr (ns.map D.int), .int k] h = .ok (.int v) h := by
  have b1 : -18446744073709551616 < (k : Int) := by omega
  have b2 : (k : Int) < 18446744073709551616 := by omega
  have hl : lenD [.scr (ns.map D.int)] h = .ok (.int ns.length) h := by rw [x_len (d := .scr (ns.map D.int)) rfl]; simp
  by_cases hlt : k < ns.length
  · have hix := ix_ints (h := h) (d := .scr (ns.map D.int)) (ns := ns) (i := (k : Int)) rfl (by omega) (by omega)
    generalize ns.getD (k : Int).toNat 0 = v at hix
    exact ⟨v, by simp [F__law_cell, b__law_cell, hl, hlt, hix]⟩
  · cases ns with
    | nil =>
      simp at hl
      have hk0 : ¬ (k : Int) < 0 := by omega
      exact ⟨70853 + 1013 * k * k, by simp [hk0, F__law_cell, b__law_cell, hl, hlt, b1, b2]⟩
    | cons a ns =>
      have hix := ix_ints (h := h) (d := .scr ((a :: ns).map D.int)) (ns := a :: ns) (i := 0) rfl (by omega) (by simp)
      have hm : -18446744073709551616 < a % 100003 ∧ a % 100003 < 18446744073709551616 := by omega
      refine ⟨70853 + 1013 * k * k + a % 100003 * (2 * k + 3), ?_⟩
      simp at hix hl hlt
      have hlt2 : ¬ (k : Int) < (ns.length : Int) + 1 := by omega
      simp [F__law_cell, b__law_cell, hl, hlt2, b1, b2, hix, hm]
theorem F_next_eq {n : Nat} {dk : List Int} {h t : Hs} (hn : n < h.length) : ∃ (x : Int) (dk' : List Int), F__law_next [.loc n] (hd n dk h ++ t) = .ok (.int x) (hd n dk' h ++ t) := by
  have hl := x_len (d := .loc n) (hd_at (dk := dk) (t := t) hn)
  have hll : (hd n dk h ++ t).length = h.length + t.length := by simp
  cases hdk : dk.length with
  | zero =>
    obtain rfl : dk = [] := List.eq_nil_of_length_eq_zero hdk
    refine ⟨0, [], ?_⟩
    simp at hl
    simp [F__law_next, b__law_next, hl, exitT_same]
  | succ m =>
    obtain ⟨dk1, d, rfl⟩ := split_last (l := dk) (by omega)
    have hp : popD (.loc n) [] (hd n (dk1 ++ [d]) h ++ t) = .ok (.int d) (hd n dk1 h ++ t) := by
      simp only [popD, hd_at (dk := dk1 ++ [d]) (t := t) hn]
      simp [hd_set hn]
    have hlo : lstOf (hd n (dk1 ++ [d]) h ++ t) (.loc n) = some ((dk1 ++ [d]).map D.int) := hd_at hn
    have hb : hd n dk1 h ++ t = hd n dk1 (hd n (dk1 ++ [d]) h ++ t) := by
      have := hd_set (dk := dk1 ++ [d]) (dk' := dk1) (t := t) hn
      rw [← this]; rfl
    refine ⟨d, dk1, ?_⟩
    have hex : exitT (hd n (dk1 ++ [d]) h ++ t) (.int d) (hd n dk1 h ++ t) = .ok (.int d) (hd n dk1 h ++ t) := by
      rw [hb]; exact exitT_hd0 rfl
    generalize hd n (dk1 ++ [d]) h ++ t = H1 at *
    generalize hd n dk1 h ++ t = H2 at *
    have hpos : (0 : Int) < ((dk1 ++ [d]).map D.int).length := by simp
    simp only [F__law_next, b__law_next, x_run]
    simp at hl hlo
    simp [hl, hlo, hp, hex]
theorem drawsA_loop {s0 s1 s2 : D} {g : Hs} : ∀ (ks : List Int) (dk : List Int) (left : Int), dk.length + ks.length ≤ 100000 → ∃ (dk' : List Int) (left' : Int), dk'.length = dk.length + ks.length ∧
    loopS (gVar 5) k__law_draws_2a_0 (ks.map D.int) [some s0, some s1, some s2, some (.loc g.length), some (.int left), none, none] (g ++ [.lst (dk.map D.int)]) = .nx [some s0, some s1, some s2, some (.loc g.length), some (.int left'), none, none] (g ++ [.lst (dk'.map D.int)])
  | [], dk, left, _ => ⟨dk, left, by simp, rfl⟩
  | k :: ks, dk, left, hz => by
    simp only [List.length_cons] at hz
    obtain ⟨dk', left', h1, h2⟩ := drawsA_loop (s0 := s0) (s1 := s1) (s2 := s2) (g := g) ks (dk ++ [left % 10000]) (left / 10000) (by simp; omega)
    have ha := app_last (g := g) (xs := dk.map D.int) (d := .int (left % 10000)) (by simp; omega)
    refine ⟨dk', left', by simp at h1 ⊢; omega, ?_⟩
    refine (loop_nx (s1 := [some s0, some s1, some s2, some (.loc g.length), some (.int left), some (.int k), none]) rfl ?_).trans h2
    simp [ha]
theorem drawsB_loop {ns : List Int} {at_ : Nat} {s2 left : D} {g : Hs} (hat : at_ ≤ 10000) : ∀ (ks : List Int) (dk : List Int) (draw : Int), (∀ k ∈ ks, 0 ≤ k ∧ k ≤ 100000) → dk.length + ks.length ≤ 100000 → ∃ (dk' : List Int) (draw' : Int), dk'.length = dk.length + ks.length ∧
    loopS (gVar 5) k__law_draws_4 (ks.map D.int) [some (.scr (ns.map D.int)), some (.int at_), some s2, some (.loc g.length), some left, none, some (.int draw)] (g ++ [.lst (dk.map D.int)]) = .nx [some (.scr (ns.map D.int)), some (.int at_), some s2, some (.loc g.length), some left, none, some (.int draw')] (g ++ [.lst (dk'.map D.int)])
  | [], dk, draw, _, _ => ⟨dk, draw, by simp, rfl⟩
  | k :: ks, dk, draw, hk, hz => by
    simp only [List.length_cons] at hz
    obtain ⟨k0, k1⟩ := hk k List.mem_cons_self
    obtain ⟨v, hv⟩ := F_cell_eq (ns := ns) (k := at_ + 1 + (k % 30).toNat) (h := g ++ [.lst (dk.map D.int)]) (by omega)
    have hc : ((at_ + 1 + (k % 30).toNat : Nat) : Int) = (at_ : Int) + 1 + k % 30 := by omega
    rw [hc] at hv
    have hd1 : ∀ c : Int, -18446744073709551616 < c % 2147483629 ∧ c % 2147483629 < 18446744073709551616 := fun c => by omega
    have b1 : -18446744073709551616 < k := by omega
    have b2 : k < 18446744073709551616 := by omega
    obtain ⟨dk', draw', h1, h2⟩ := drawsB_loop (ns := ns) (s2 := s2) (left := left) (g := g) hat ks (dk ++ [(((draw * 48271 + v + k * k + 7) % 2147483629) * 39373 + 11 * k) % 2147483647 / 16]) ((draw * 48271 + v + k * k + 7) % 2147483629) (fun j hj => hk j (List.mem_cons_of_mem _ hj)) (by simp; omega)
    have ha := app_last (g := g) (xs := dk.map D.int) (d := .int ((((draw * 48271 + v + k * k + 7) % 2147483629) * 39373 + 11 * k) % 2147483647 / 16)) (by simp; omega)
    refine ⟨dk', draw', by simp at h1 ⊢; omega, ?_⟩
    refine (loop_nx (s1 := [some (.scr (ns.map D.int)), some (.int at_), some s2, some (.loc g.length), some left, some (.int k), some (.int draw)]) rfl ?_).trans h2
    simp [hv, hd1, b1, b2, ha]
theorem exitM_end {g : Hs} {xs : List D} (hx : undL g.length xs = true) : exitM g g.length (g ++ [.lst xs]) = .ok (.loc g.length) (g ++ [.lst xs]) := by
  unfold exitM
  rw [if_pos ⟨fun i o hi e => .inl (by rw [List.getElem?_append_left hi] at e; exact e), Nat.le_refl _⟩, locAt_end]
  simp [hx]
theorem F_next_0 {n : Nat} {dk : List Int} {h : Hs} (hn : n < h.length) : ∃ (x : Int) (dk' : List Int), F__law_next [.loc n] (hd n dk h) = .ok (.int x) (hd n dk' h) := by
  obtain ⟨x, dk', e⟩ := F_next_eq (dk := dk) (t := []) hn
  exact ⟨x, dk', by simpa using e⟩

end WD
namespace WD
open PySem PySem.Spec PyProof.Rows L2
theorem exitM_two {h : Hs} {o : O} {ys : List D} (hu : undL h.length ys = true) : exitM h (h.length + 1) (h ++ [o, .lst ys]) = .ok (.loc h.length) (h ++ [.lst ys]) := by
  have h1 : TruncOk h.length h (h ++ [o, .lst ys]) := truncOk_app _ _
  have h2 : locAt (h ++ [o, .lst ys]) (h.length + 1) = some ys := by
    unfold locAt
    rw [List.getElem?_append_right (by omega), show h.length + 1 - h.length = 1 from by omega]
    rfl
  unfold exitM
  rw [if_pos ⟨h1, by omega⟩, h2]
  simp [hu]
theorem F_draws_eq {ns : List Int} {at_ many : Nat} {g : Hs} (hat : at_ ≤ 10000) (hm : many ≤ 10000) : ∃ dk : List Int, dk.length = many ∧ F__law_draws [.scr (ns.map D.int), .int at_, .int many] g = .ok (.loc g.length) (g ++ [.lst (dk.map D.int)]) := by
  obtain ⟨v, hv⟩ := F_cell_eq (ns := ns) (k := at_) (h := g ++ [.lst []]) (by omega)
  have fin : ∀ dk : List Int, dk.length = many → (b__law_draws [some (.scr (ns.map D.int)), some (.int at_), some (.int many), none, none, none, none] g = .rt (.loc g.length) (g ++ [.lst (dk.map D.int)]) ∨ ∃ o, b__law_draws [some (.scr (ns.map D.int)), some (.int at_), some (.int many), none, none, none, none] g = .rt (.loc (g.length + 1)) (g ++ [o, .lst (dk.map D.int)])) → ∃ dk : List Int, dk.length = many ∧ F__law_draws [.scr (ns.map D.int), .int at_, .int many] g = .ok (.loc g.length) (g ++ [.lst (dk.map D.int)]) := fun dk hl hb => by
    refine ⟨dk, hl, ?_⟩
    simp only [F__law_draws, x_run, List.length_cons, List.length_nil]
    rcases hb with hb | ⟨o, hb⟩
    · simp only [Nat.zero_add, Nat.reduceAdd, if_true, List.map_cons, List.map_nil, Nat.reduceSub, List.replicate, List.cons_append, List.nil_append, hb]
      exact exitM_end (by simp)
    · simp only [Nat.zero_add, Nat.reduceAdd, if_true, List.map_cons, List.map_nil, Nat.reduceSub, List.replicate, List.cons_append, List.nil_append, hb]
      exact exitM_two (by simp)
  generalize hw : (if v > 0 then v else 0) = w
  by_cases hbig : 1000000000000000000 ≤ w
  · obtain ⟨dk, left, h1, h2⟩ := drawsA_loop (s0 := .scr (ns.map D.int)) (s1 := .int at_) (s2 := .int many) (g := g) (rgI 0 many) [] w (by simp; omega)
    have hf : sFor (iRng1 (aCons (eVar 2) aNil)) (gVar 5) k__law_draws_2a_0 [some (.scr (ns.map D.int)), some (.int at_), some (.int many), some (.loc g.length), some (.int w), none, none] (g ++ [.lst []]) = _ := (for_rng (n := many) rfl (by omega) (by omega)).trans h2
    have hlo : lstOf (g ++ [.lst (dk.map D.int)]) (.loc g.length) = some (dk.map D.int) := locAt_end
    have hrev : ∀ s : Ss, s[3]? = some (some (.loc g.length)) → eLstRev true (eVar 3) s (g ++ [.lst (dk.map D.int)]) = .ok (.loc (g.length + 1)) (g ++ [.lst (dk.map D.int), .lst ((dk.reverse).map D.int)]) := fun s hs => by
      rw [x_lstRev (d := .loc g.length) (h1 := g ++ [.lst (dk.map D.int)]) (by simp [hs]) hlo]
      simp [newL]
    refine fin dk.reverse (by simpa using h1) (.inr ⟨.lst (dk.map D.int), ?_⟩)
    simp [b__law_draws, hv, hw, hbig, hf, hrev]
  · obtain ⟨dk, draw, h1, h2⟩ := drawsB_loop (ns := ns) (s2 := .int many) (left := .int w) (g := g) hat (rgI 0 many) [] (w % 2147483647 * 48271 % 2147483647) (fun k hk => by have := rgI_bd hk; omega) (by simp; omega)
    have hf : sFor (iRng1 (aCons (eVar 2) aNil)) (gVar 5) k__law_draws_4 [some (.scr (ns.map D.int)), some (.int at_), some (.int many), some (.loc g.length), some (.int w), none, some (.int (w % 2147483647 * 48271 % 2147483647))] (g ++ [.lst []]) = _ := (for_rng (n := many) rfl (by omega) (by omega)).trans h2
    have hm : -18446744073709551616 < w % 2147483647 ∧ w % 2147483647 < 18446744073709551616 := by omega
    refine fin dk (by simpa using h1) (.inl ?_)
    simp [b__law_draws, hv, hw, hbig, hf, hm]

end WD
namespace WD
open PySem PySem.Spec PyProof.Rows L2
theorem shl_one {k : Nat} {h : Hs} (hk : k ≤ 100) : shlD (.int 1) (.int k) h = .ok (.int (2 ^ k : Nat)) h := by
  have e := x_sl1 (h := h) (i := 1) (j := k) (by omega) (by omega) (by omega) (by omega)
  simpa using e
theorem two_pow_bd {k : Nat} (hk : k ≤ 8) : 0 < ((2 ^ k : Nat) : Int) ∧ ((2 ^ k : Nat) : Int) ≤ 256 := by
  have h1 : 2 ^ k ≤ 2 ^ 8 := Nat.pow_le_pow_right (by omega) hk
  have h2 : 0 < 2 ^ k := Nat.pow_pos (by omega)
  omega
theorem ris_filter {hi : Int} (p : Int → Bool) : ∀ (n : Nat) (lo : Int), (n : Int) ≤ hi + 1 - lo → risL lo hi (((rgI lo n).filter p).map D.int) = true := by
  have key : ∀ (l : List Int) (lo : Int), l.Pairwise (· < ·) → (∀ x ∈ l, lo ≤ x ∧ x ≤ hi) → risL lo hi (l.map D.int) = true := by
    intro l
    induction l with
    | nil => intro lo _ _; rfl
    | cons a l ih =>
      intro lo hp hb
      obtain ⟨h1, h2⟩ := List.pairwise_cons.mp hp
      have h3 := hb a List.mem_cons_self
      simp only [List.map_cons, risL, Bool.and_eq_true, isW_int, decide_eq_true_eq]
      refine ⟨by simpa using h3, ih (a + 1) h2 fun x hx => ?_⟩
      have h4 := h1 x hx
      have h5 := hb x (List.mem_cons_of_mem _ hx)
      exact ⟨by omega, h5.2⟩
  intro n lo hn
  refine key _ lo ((rg_srt _ _).sublist List.filter_sublist) fun x hx => ?_
  have := rgI_bd (List.mem_filter.mp hx).1
  omega
/-- the heap H1 with other draws at n -/
structure Dw (n : Nat) (H1 H2 : Hs) : Prop where
  ex : ∃ dk' : List Int, H2 = hd n dk' H1
theorem Dw.exit {n : Nat} {H1 H2 : Hs} (w : Dw n H1 H2) {d : D} (hd' : d.und H1.length = true) : exitT H1 d H2 = .ok d H2 := by
  obtain ⟨dk, rfl⟩ := w.ex
  exact exitT_hd0 hd'
theorem Dw.exitA {n : Nat} {H1 H2 t : Hs} (w : Dw n H1 H2) {d : D} (hd' : d.und H1.length = true) : exitT H1 d (H2 ++ t) = .ok d H2 := by
  obtain ⟨dk, rfl⟩ := w.ex
  exact exitT_hd hd'
theorem Dw.len {n : Nat} {H1 H2 : Hs} (w : Dw n H1 H2) : H2.length = H1.length := by
  obtain ⟨dk, rfl⟩ := w.ex
  simp
theorem Dw.trans {n : Nat} {H1 H2 H3 : Hs} (w : Dw n H1 H2) (v : Dw n H2 H3) : Dw n H1 H3 := by
  obtain ⟨dk, rfl⟩ := w.ex
  obtain ⟨dk', rfl⟩ := v.ex
  exact ⟨dk', by simp⟩
theorem Dw.of {n : Nat} {dk dk' : List Int} {h t : Hs} (hn : n < h.length) : Dw n (hd n dk h ++ t) (hd n dk' h ++ t) := ⟨dk', by
  have := hd_set (dk := dk) (dk' := dk') (t := t) hn
  rw [← this]; rfl⟩
/-- draws lie at n -/
structure Dk (n : Nat) (H : Hs) : Prop where
  ex : ∃ dk : List Int, locAt H n = some (dk.map D.int)
theorem Dk.app {n : Nat} {H t : Hs} (k : Dk n H) : Dk n (H ++ t) := by
  obtain ⟨dk, e⟩ := k.ex
  exact ⟨dk, by rw [locAt_app (locAt_lt e)]; exact e⟩
theorem Dk.next {n : Nat} {H : Hs} (k : Dk n H) : ∃ (x : Int) (H2 : Hs), Dw n H H2 ∧ Dk n H2 ∧ F__law_next [.loc n] H = .ok (.int x) H2 := by
  obtain ⟨dk, e⟩ := k.ex
  have hn := locAt_lt e
  obtain ⟨x, dk', q⟩ := F_next_0 (dk := dk) (h := H) hn
  rw [hd_self e] at q
  exact ⟨x, hd n dk' H, ⟨dk', rfl⟩, ⟨dk', hd_at0 hn⟩, q⟩
theorem Dk.cut {n : Nat} {H t : Hs} (k : Dk n (H ++ t)) (hn : n < H.length) : Dk n H := by
  obtain ⟨dk, e⟩ := k.ex
  rw [locAt_app hn] at e
  exact ⟨dk, e⟩
theorem Dw.cut {n : Nat} {H t H2 : Hs} (w : Dw n (H ++ t) H2) (hn : n < H.length) : ∃ H3, H2 = H3 ++ t ∧ Dw n H H3 := by
  obtain ⟨dk, rfl⟩ := w.ex
  exact ⟨hd n dk H, by simp [hd, List.set_append_left _ _ hn], ⟨dk, rfl⟩⟩
theorem law_off_eq {n : Nat} {H1 : Hs} {left : Int} (k : Dk n H1) (hl : 1 ≤ left) : ∃ (off : List Int) (H2 : Hs), Dw n H1 H2 ∧ Dk n H2 ∧ 1 ≤ off.length ∧ off.length ≤ 7 ∧ (off.length : Int) ≤ left ∧ (∀ x ∈ off, x = 0 ∨ x = 1) ∧ F__law_off [.loc n, .int left] H1 = .ok (iT off) H2 := by
  obtain ⟨x, H2, w, k2, e⟩ := k.next
  have hex : ∀ ns : List Int, exitT H1 (iT ns) H2 = .ok (iT ns) H2 := fun ns => w.exit und_iT
  generalize hsz : 1 + x / 3 % 7 = sz
  have hb : 1 ≤ sz ∧ sz ≤ 7 := by omega
  have one : (0 < x % 3 ∨ left < sz) → ∃ (off : List Int) (H2 : Hs), Dw n H1 H2 ∧ Dk n H2 ∧ 1 ≤ off.length ∧ off.length ≤ 7 ∧ (off.length : Int) ≤ left ∧ (∀ x ∈ off, x = 0 ∨ x = 1) ∧ F__law_off [.loc n, .int left] H1 = .ok (iT off) H2 := fun hor => by
    refine ⟨[0], H2, w, k2, by simp, by simp, by simpa using hl, by simp, ?_⟩
    have := hex [0]
    by_cases hx : 0 < x % 3
    · simp [F__law_off, b__law_off, e, hsz, hx]
      exact this
    · have hy : left < sz := hor.resolve_left hx
      simp [F__law_off, b__law_off, e, hsz, hx, hy]
      exact this
  by_cases hx : 0 < x % 3
  · exact one (.inl hx)
  · by_cases hy : left < sz
    · exact one (.inr hy)
    · let off := (rgI 0 sz.toNat).map fun i => if x / 32 / (2 ^ i.toNat : Nat) % 4 = 0 then (1 : Int) else 0
      have hlen : off.length = sz.toNat := by simp [off]
      refine ⟨off, H2, w, k2, by omega, by omega, by omega, fun z hz => ?_, ?_⟩
      · obtain ⟨i, _, rfl⟩ := List.mem_map.mp hz
        split <;> simp
      · have hi : Itr (iRng1 (aCons (eVar 3) aNil)) [some (.loc n), some (.int left), some (.int x), some (.int sz), none] H2 H2 ((rgI 0 sz.toNat).map D.int) :=
          Itr.rng (f := aCons (eVar 3) aNil) (s := [some (.loc n), some (.int left), some (.int x), some (.int sz), none]) (h := H2) (h1 := H2) (n := sz) rfl (by omega) (by omega)
        have hc : eComp false [4] (iRng1 (aCons (eVar 3) aNil)) (gVar 4) tYesF (eB intD (aCons (eBin (eqD false) (eBin modD (eBin fdivD (eBin fdivD (eVar 2) (eC (.int 32))) (eBin shlD (eC (.int 1)) (eVar 4))) (eC (.int 4))) (eC (.int 0))) aNil)) [some (.loc n), some (.int left), some (.int x), some (.int sz), none] H2 = .ok (iL off) H2 := by
          rw [comp_map (em := D.int) (fun i => .int (if x / 32 / (2 ^ i.toNat : Nat) % 4 = 0 then (1 : Int) else 0)) hi fun i hi' => ?_]
          · simp [iL, off, Function.comp_def]
          · have hb := rgI_bd hi'
            obtain ⟨k, rfl⟩ : ∃ k : Nat, i = k := ⟨i.toNat, by omega⟩
            have hs := shl_one (k := k) (h := H2) (by omega)
            obtain ⟨p1, p2⟩ := two_pow_bd (k := k) (by omega)
            rw [show (k : Int).toNat = k by omega]
            generalize ((2 ^ k : Nat) : Int) = W at *
            have p3 : W < 18446744073709551616 := by omega
            refine ⟨_, rfl, ?_⟩
            simp [hs, p1, p3]
        have htp : tupleD [iL off] H2 = .ok (iT off) H2 := by rw [x_tuple (d := iL _) rfl]; rfl
        have hx2 := hex off
        generalize off = lg at *
        simp [F__law_off, b__law_off, e, hsz, hx, hy, hc, htp, hx2]
theorem rgI_succ {lo : Int} {n : Nat} : rgI lo (n + 1) = lo :: rgI (lo + 1) n := by
  unfold rgI
  rw [List.range_succ_eq_map, List.map_cons, List.map_map]
  congr 1
  · simp
  · refine List.map_congr_left fun i _ => ?_
    simp only [Function.comp]
    omega
/-- pairs, by the second and then by the first -/
def colP (p q : Int × Int) : Prop := p.2 < q.2 ∨ (p.2 = q.2 ∧ p.1 < q.1)
theorem tied_in {n : Nat} {x j : Int} {many : D} {g : Hs} (hj : 0 ≤ j ∧ j ≤ 8) : ∀ (m : Nat) (i : Int) (acc : List (Int × Int)), 0 ≤ i → i + m ≤ j → acc.length + m ≤ 100000 → acc.Pairwise colP → (∀ p ∈ acc, (0 ≤ p.1 ∧ p.1 < p.2) ∧ (p.2 < j ∨ (p.2 = j ∧ p.1 < i))) → ∃ acc' : List (Int × Int), acc'.length ≤ acc.length + m ∧ acc'.Pairwise colP ∧ (∀ p ∈ acc', (0 ≤ p.1 ∧ p.1 < p.2) ∧ (p.2 < j ∨ (p.2 = j ∧ p.1 < i + m))) ∧
    loopS (gVar 5) k__law_tied_2_0 ((rgI i m).map D.int) [some (.loc n), some many, some (.int x), some (.loc g.length), some (.int j), none] (g ++ [.lst (acc.map prD)]) = .nx [some (.loc n), some many, some (.int x), some (.loc g.length), some (.int j), none] (g ++ [.lst (acc'.map prD)])
  | 0, i, acc, _, _, _, hp, hb => ⟨acc, by simp, hp, fun p hp => by have := hb p hp; simpa using this, rfl⟩
  | m + 1, i, acc, h0, hi, hz, hp, hb => by
    rw [rgI_succ, List.map_cons]
    have b1 : 0 < 1 + i + 8 * j := by omega
    have b2 : 1 + i + 8 * j < 18446744073709551616 := by omega
    have hfd : ∀ H : Hs, fdivD (.int (x / 3)) (.int (1 + i + 8 * j)) H = .ok (.int (x / 3 / (1 + i + 8 * j))) H := fun H => by
      generalize 1 + i + 8 * j = W at *
      simp [b1, b2]
    by_cases hc : x % 3 = 0 ∧ x / 3 / (1 + i + 8 * j) % 4 = 0
    · obtain ⟨acc', q1, q2, q3, q4⟩ := tied_in (n := n) (x := x) (many := many) (g := g) hj m (i + 1) (acc ++ [(i, j)]) (by omega) (by omega) (by simp; omega) (by
        rw [List.pairwise_append]
        refine ⟨hp, List.pairwise_singleton _ _, fun p hpp q hq => ?_⟩
        obtain rfl : q = (i, j) := by simpa using hq
        have := (hb p hpp).2
        unfold colP
        simp only
        omega) (fun p hpp => by
        rcases List.mem_append.mp hpp with hpp | hpp
        · have := hb p hpp; omega
        · obtain rfl : p = (i, j) := by simpa using hpp
          exact ⟨⟨h0, by show i < j; omega⟩, .inr ⟨rfl, by show i < i + 1; omega⟩⟩)
      refine ⟨acc', by simp at q1; omega, q2, fun p hpp => by have := q3 p hpp; omega, ?_⟩
      refine (loop_nx (s1 := [some (.loc n), some many, some (.int x), some (.loc g.length), some (.int j), some (.int i)]) rfl ?_).trans q4
      have ha := app_last (g := g) (xs := acc.map prD) (d := .tup [.int i, .int j]) (by simp; omega)
      have e : acc.map prD ++ [.tup [.int i, .int j]] = (acc ++ [(i, j)]).map prD := by simp [prD]
      rw [e] at ha
      generalize (acc ++ [(i, j)]).map prD = ys at *
      simp [hfd, hc.1, hc.2, ha]
    · obtain ⟨acc', q1, q2, q3, q4⟩ := tied_in (n := n) (x := x) (many := many) (g := g) hj m (i + 1) acc (by omega) (by omega) (by omega) hp (fun p hpp => by have := hb p hpp; omega)
      refine ⟨acc', by omega, q2, fun p hpp => by have := q3 p hpp; omega, ?_⟩
      refine (loop_nx (s1 := [some (.loc n), some many, some (.int x), some (.loc g.length), some (.int j), some (.int i)]) rfl ?_).trans q4
      by_cases h1 : x % 3 = 0
      · have h2 : ¬ x / 3 / (1 + i + 8 * j) % 4 = 0 := fun q => hc ⟨h1, q⟩
        simp [hfd, h1, h2]
      · simp [h1]
theorem tied_out {n : Nat} {x : Int} {many : D} {g : Hs} : ∀ (m : Nat) (j : Int) (acc : List (Int × Int)), 0 ≤ j → j + m ≤ 8 → acc.length ≤ 10 * j.toNat → acc.Pairwise colP → (∀ p ∈ acc, (0 ≤ p.1 ∧ p.1 < p.2) ∧ p.2 < j) → ∃ acc' : List (Int × Int), acc'.length ≤ 80 ∧ acc'.Pairwise colP ∧ (∀ p ∈ acc', (0 ≤ p.1 ∧ p.1 < p.2) ∧ p.2 < j + m) ∧
    loopS (gVar 4) k__law_tied_2 ((rgI j m).map D.int) [some (.loc n), some many, some (.int x), some (.loc g.length), none, none] (g ++ [.lst (acc.map prD)]) = .nx [some (.loc n), some many, some (.int x), some (.loc g.length), none, none] (g ++ [.lst (acc'.map prD)])
  | 0, j, acc, _, _, hz, hp, hb => ⟨acc, by omega, hp, fun p hp => by have := hb p hp; simpa using this, rfl⟩
  | m + 1, j, acc, h0, hj, hz, hp, hb => by
    rw [rgI_succ, List.map_cons]
    obtain ⟨acc1, a1, a2, a3, a4⟩ := tied_in (n := n) (x := x) (many := many) (g := g) (j := j) (by omega) j.toNat 0 acc (by omega) (by omega) (by omega) hp (fun p hpp => by have := hb p hpp; omega)
    obtain ⟨acc', q1, q2, q3, q4⟩ := tied_out (n := n) (x := x) (many := many) (g := g) m (j + 1) acc1 (by omega) (by omega) (by omega) a2 (fun p hpp => by have := a3 p hpp; omega)
    refine ⟨acc', q1, q2, fun p hpp => by have := q3 p hpp; omega, ?_⟩
    refine (loop_nx (s1 := [some (.loc n), some many, some (.int x), some (.loc g.length), some (.int j), none]) rfl ?_).trans q4
    have hf := (for_rng (f := aCons (eVar 4) aNil) (g := gVar 5) (b := k__law_tied_2_0) (s := [some (.loc n), some many, some (.int x), some (.loc g.length), some (.int j), none]) (h := g ++ [.lst (acc.map prD)]) (h1 := g ++ [.lst (acc.map prD)]) (n := j) rfl (by omega) (by omega)).trans a4
    simp [hf]
theorem adj_of_pw {α : Type} {r : α → α → Bool} : ∀ l : List α, l.Pairwise (fun a b => r a b = true) → adjB r l = true
  | [], _ => rfl
  | [_], _ => rfl
  | a :: b :: l, h => by
    obtain ⟨h1, h2⟩ := List.pairwise_cons.mp h
    rw [adjB, h1 b List.mem_cons_self, adj_of_pw _ h2]; rfl
theorem sortP_inc {ps : List (Int × Int)} (h : ps.Pairwise colP) : adjB ltP (sortP ps) = true := by
  refine adj_of_pw _ ?_
  have hnd : (sortP ps).Nodup := (sortP_perm ps).nodup_iff.mpr (h.imp fun {a b} hab e => by subst e; unfold colP at hab; omega)
  refine ((sortP_srt ps).and hnd).imp fun {a b} hab => ?_
  obtain ⟨h1, h2⟩ := hab
  have h3 : ¬ (b.1 < a.1 ∨ (b.1 = a.1 ∧ b.2 < a.2)) := fun q => by
    have : ltPr b a = true := SrtO.lexB_iff.mpr q
    rw [h1] at this; cases this
  have h4 : ¬ (a.1 = b.1 ∧ a.2 = b.2) := fun q => h2 (Prod.ext q.1 q.2)
  simp only [ltP, decide_eq_true_eq]
  omega
theorem law_tied_eq {n : Nat} {H1 : Hs} {many : Nat} (k : Dk n H1) (hm : many ≤ 8) : ∃ (ps : List (Int × Int)) (H2 : Hs), Dw n H1 H2 ∧ Dk n H2 ∧ (∀ p ∈ ps, 0 ≤ p.1 ∧ p.1 < p.2 ∧ p.2 < many) ∧ adjB ltP ps = true ∧ ps.length ≤ 1000 ∧ F__law_tied [.loc n, .int many] H1 = .ok (.tup (ps.map prD)) H2 := by
  obtain ⟨x, H2, w, k2, e⟩ := k.next
  obtain ⟨acc, q1, q2, q3, q4⟩ := tied_out (n := n) (x := x) (many := .int many) (g := H2) many 0 [] (by omega) (by omega) (by simp) (by simp) (by simp)
  rw [List.map_nil, show rgI 0 many = rgI 0 (many : Int).toNat by rw [Int.toNat_natCast]] at q4
  have hf := (for_rng (f := aCons (eVar 1) aNil) (g := gVar 4) (b := k__law_tied_2) (s := [some (.loc n), some (.int many), some (.int x), some (.loc H2.length), none, none]) (h := H2 ++ [.lst []]) (h1 := H2 ++ [.lst []]) (n := (many : Int)) rfl (by omega) (by omega)).trans q4
  refine ⟨sortP acc, H2, w, k2, fun p hp => ?_, sortP_inc q2, by rw [(sortP_perm acc).length_eq]; omega, ?_⟩
  · have := q3 p ((sortP_perm acc).mem_iff.mp hp)
    omega
  · have hs : sortedD false [.loc H2.length] (H2 ++ [.lst (acc.map prD)]) = .ok (.lst ((sortP acc).map prD)) (H2 ++ [.lst (acc.map prD)]) := by
      rw [x_sorted_prs0 (d := .loc H2.length) (ps := acc) (show locAt _ _ = _ from locAt_end)]; rfl
    have hu : (D.tup ((sortP acc).map prD)).und H1.length = true := by
      have := und_qD H1.length (.row ((sortP acc).map prQ))
      rw [qD, qDL_prs] at this; exact this
    have hx := w.exitA (t := [.lst (acc.map prD)]) hu
    have htp : tupleD [.lst ((sortP acc).map prD)] (H2 ++ [.lst (acc.map prD)]) = .ok (.tup ((sortP acc).map prD)) (H2 ++ [.lst (acc.map prD)]) := by rw [x_tuple (d := .lst _) rfl]
    generalize (sortP acc).map prD = zs at *
    simp [F__law_tied, b__law_tied, e, hf, hs, htp, hx]

end WD
namespace WD
open PySem PySem.Spec PyProof.Rows L2
def prodI : List Int → Int
  | [] => 1
  | n :: ns => n * prodI ns
def busyI (many hands : Int) : Int := if hands = 1 then 1 + many else 1 + many + many * (many - 1) / 2
def Tk.room (t : Tk) : Int := t.off.length * busyI t.lg.length t.hands * prodI t.ns

end WD
namespace WD
open PySem PySem.Spec PyProof.Rows L2
def oft (days : Int) (lg : List Int) (i n : Int) : Int := if lg.contains i = true ∧ 0 < days / n then 2 * (days / n) - 1 else days / n
def needI (days : Int) (lg : List Int) : Int → List Int → Int
  | _, [] => 0
  | i, n :: ns => oft days lg i n + needI days lg (i + 1) ns
def wA (off : List Int) (k : Nat) : Int := 1 - off.getD (k % off.length) 0
def sA (off : List Int) (a : Nat) : Nat → Int
  | 0 => 0
  | n + 1 => sA off a n + wA off (a + n)
end WD
namespace WD
open PySem PySem.Spec PyProof.Rows L2
theorem ris_len {hi : Int} : ∀ (xs : List D) (lo : Int), risL lo hi xs = true → (xs.length : Int) ≤ max 0 (hi + 1 - lo)
  | [], lo, _ => by simp; omega
  | .int i :: xs, lo, e => by
    simp only [risL, Bool.and_eq_true, isW_int, decide_eq_true_eq] at e
    have := ris_len xs (i + 1) e.2
    simp only [List.length_cons]
    omega
  | .non :: xs, lo, e => by simp [risL] at e
  | .bl _ :: xs, lo, e => by simp [risL] at e
  | .str _ :: xs, lo, e => by simp [risL] at e
  | .tup _ :: xs, lo, e => by simp [risL] at e
  | .lst _ :: xs, lo, e => by simp [risL] at e
  | .scr _ :: xs, lo, e => by simp [risL] at e
  | .dic _ _ :: xs, lo, e => by simp [risL] at e
  | .loc _ :: xs, lo, e => by simp [risL] at e
theorem Tk.Ok.lg8 {t : Tk} (ht : t.Ok) : t.lg.length ≤ 8 := by
  have h1 := ris_len _ _ ht.lng
  have h2 := ht.num.1
  rw [List.length_map] at h1
  omega
def Tk.over (t : Tk) (d ph : Nat) : Bool := decide (t.hands * sA t.off ph d < needI d t.lg 0 t.ns)
end WD
namespace WD
open PySem PySem.Spec PyProof.Rows L2
theorem ris_ints : ∀ {xs : List D} {lo hi : Int}, risL lo hi xs = true → ∃ ns : List Int, xs = ns.map D.int
  | [], _, _, _ => ⟨[], rfl⟩
  | .int n :: xs, lo, hi, e => by
    simp only [risL, Bool.and_eq_true] at e
    obtain ⟨ns, h⟩ := ris_ints e.2
    exact ⟨n :: ns, by rw [h]; rfl⟩
  | .non :: _, _, _, e => by simp [risL] at e
  | .bl _ :: _, _, _, e => by simp [risL] at e
  | .str _ :: _, _, _, e => by simp [risL] at e
  | .tup _ :: _, _, _, e => by simp [risL] at e
  | .lst _ :: _, _, _, e => by simp [risL] at e
  | .scr _ :: _, _, _, e => by simp [risL] at e
  | .dic _ _ :: _, _, _, e => by simp [risL] at e
  | .loc _ :: _, _, _, e => by simp [risL] at e
def endsA : List Int → List (Int × Int) → List Int
  | acc, [] => acc
  | acc, p :: ps => endsA (acc ++ [p.1, p.2].filter fun i => !acc.contains i) ps
def Tk.ends (t : Tk) : List Int := endsA [] t.tied
theorem ix_tk' (t : Tk) (h : Hs) : ixD t.D (.int 0) h = .ok (iT t.ns) h ∧ ixD t.D (.int 1) h = .ok (.int t.hands) h ∧ ixD t.D (.int 2) h = .ok (iT t.off) h ∧ ixD t.D (.int 3) h = .ok (iT t.lg) h ∧ ixD t.D (.int 4) h = .ok (.tup (t.tied.map prD)) h :=
  ⟨x_ix_row (d := t.D) rfl rfl, x_ix_row (d := t.D) rfl rfl, x_ix_row (d := t.D) rfl rfl, x_ix_row (d := t.D) rfl rfl, x_ix_row (d := t.D) rfl rfl⟩
def someL (xs : List D) : List Int := xs.filterMap fun d => match d with
  | .int i => some i
  | _ => none
@[simp] theorem someL_ints (ns : List Int) : someL (ns.map D.int) = ns := by
  induction ns with
  | nil => rfl
  | cons n ns ih => simp only [someL, List.map_cons, List.filterMap_cons] at ih ⊢; rw [ih]
def isSome (h : Hs) (things : List Int) (most : Int) (d : D) : Bool := match rowOf h d with
  | some xs => risL 0 7 xs && decide ((xs.length : Int) ≤ most) && (someL xs).all fun i => things.contains i
  | none => false
structure Sd where
  ph : Int
  ws : List Int
  busy : List Int
  last : List Int
deriving DecidableEq
def Sd.Q (s : Sd) : Q := .row [.int s.ph, dayQ s.ws, dayQ s.busy, dayQ s.last]
def Sd.D (s : Sd) : D := .tup [.int s.ph, iT s.ws, iT s.busy, iT s.last]
structure Sd.Ok (t : Tk) (s : Sd) : Prop where
  ph0 : 0 ≤ s.ph
  ph1 : s.ph < t.off.length
  wl : s.ws.length = t.ns.length
  wb : ∀ i, i < t.ns.length → 1 ≤ s.ws.getD i 0 ∧ s.ws.getD i 0 ≤ t.ns.getD i 0
  bris : risL 0 7 (s.busy.map D.int) = true
  bl : (s.busy.length : Int) ≤ t.hands
  bin : ∀ i ∈ s.busy, i ∈ t.lg
  lris : risL 0 7 (s.last.map D.int) = true
  ll : (s.last.length : Int) ≤ t.hands
  lin : ∀ i ∈ s.last, i ∈ t.ends
  sum : (s.busy.length : Int) + (s.last.filter fun i => !s.busy.contains i).length ≤ t.hands
  bt : ∀ i ∈ s.busy, i ∈ t.ends → i ∈ s.last
def Sd.le (a b : Sd) : Bool := decide (a.ph = b.ph) && decide (a.busy = b.busy) && ((List.range a.ws.length).all fun i => decide (a.ws.getD i 0 ≤ b.ws.getD i 0)) && b.last.all fun i => a.last.contains i
end WD
namespace WD
open PySem PySem.Spec PyProof.Rows L2
def rkN (i j : Nat) : Nat := i * (15 - i) / 2 + (j - i - 1)
theorem rkN_ltF : ∀ i j : Fin 8, ∀ i' j' : Fin 8, (i.val < j.val ∧ i'.val < j'.val ∧ (i.val < i'.val ∨ (i.val = i'.val ∧ j.val < j'.val))) → rkN i.val j.val < rkN i'.val j'.val := by decide +kernel
theorem rkN_lt (i : Nat) (h1 : i < 8) (j : Nat) (h2 : j < 8) (i' : Nat) (h3 : i' < 8) (j' : Nat) (h4 : j' < 8) (a : i < j) (b : i' < j') (c : i < i' ∨ (i = i' ∧ j < j')) : rkN i j < rkN i' j' := rkN_ltF ⟨i, h1⟩ ⟨j, h2⟩ ⟨i', h3⟩ ⟨j', h4⟩ ⟨a, b, c⟩
theorem rkN_le : ∀ i, i < 8 → ∀ j, j < 8 → i < j → rkN i j ≤ 27 := by decide +kernel
theorem tied_len : ∀ (ps : List (Int × Int)) (p : Int × Int), (∀ q ∈ p :: ps, 0 ≤ q.1 ∧ q.1 < q.2 ∧ q.2 < 8) → adjB ltP (p :: ps) = true → (p :: ps).length + rkN p.1.toNat p.2.toNat ≤ 28
  | [], p, hb, _ => by
    have := hb p List.mem_cons_self
    have := rkN_le p.1.toNat (by omega) p.2.toNat (by omega) (by omega)
    simp only [List.length_cons, List.length_nil]; omega
  | q :: ps, p, hb, ha => by
    rw [adjB, Bool.and_eq_true] at ha
    have ih := tied_len ps q (fun z hz => hb z (List.mem_cons_of_mem _ hz)) ha.2
    have h1 := hb p List.mem_cons_self
    have h2 := hb q (List.mem_cons_of_mem _ List.mem_cons_self)
    have h3 := ha.1
    simp only [ltP, decide_eq_true_eq] at h3
    have := rkN_lt p.1.toNat (by omega) p.2.toNat (by omega) q.1.toNat (by omega) q.2.toNat (by omega) (by omega) (by omega) (by omega)
    simp only [List.length_cons] at ih ⊢
    omega
theorem Tk.Ok.tied28 {t : Tk} (ht : t.Ok) : t.tied.length ≤ 28 := by
  cases hp : t.tied with
  | nil => simp
  | cons p ps =>
    have := tied_len ps p (fun q hq => by
      have h1 := ht.prs q (by rw [hp]; exact hq)
      have h2 := ht.num.1
      omega) (by rw [← hp]; exact ht.inc)
    omega
theorem ris_pw : ∀ {l : List Int} {lo hi : Int}, risL lo hi (l.map D.int) = true → l.Pairwise (· < ·) ∧ ∀ x ∈ l, lo ≤ x ∧ x ≤ hi
  | [], _, _, _ => ⟨List.Pairwise.nil, by simp⟩
  | a :: l, lo, hi, e => by
    simp only [List.map_cons, risL, Bool.and_eq_true, decide_eq_true_eq] at e
    obtain ⟨h1, h2⟩ := ris_pw e.2
    refine ⟨List.pairwise_cons.mpr ⟨fun x hx => by have := (h2 x hx).1; omega, h1⟩, fun x hx => ?_⟩
    rcases List.mem_cons.mp hx with rfl | hx
    · exact e.1
    · have := h2 x hx; omega
theorem ris_of : ∀ {l : List Int} {lo hi : Int}, l.Pairwise (· < ·) → (∀ x ∈ l, lo ≤ x ∧ x ≤ hi) → risL lo hi (l.map D.int) = true
  | [], _, _, _, _ => rfl
  | a :: l, lo, hi, hp, hb => by
    obtain ⟨h1, h2⟩ := List.pairwise_cons.mp hp
    have h3 := hb a List.mem_cons_self
    simp only [List.map_cons, risL, Bool.and_eq_true, decide_eq_true_eq]
    refine ⟨h3, ris_of h2 fun x hx => ?_⟩
    have h4 := h1 x hx
    have h5 := hb x (List.mem_cons_of_mem _ hx)
    omega
theorem len_sub : ∀ {l m : List Int}, l.Nodup → (∀ x ∈ l, x ∈ m) → l.length ≤ m.length
  | [], m, _, _ => Nat.zero_le _
  | a :: l, m, hn, hs => by
    obtain ⟨h1, h2⟩ := List.nodup_cons.mp hn
    have ha := hs a List.mem_cons_self
    have ih := len_sub (l := l) (m := m.erase a) h2 fun x hx => (List.mem_erase_of_ne (fun e : x = a => h1 (e ▸ hx))).mpr (hs x (List.mem_cons_of_mem _ hx))
    rw [List.length_erase_of_mem ha] at ih
    have := List.length_pos_of_mem ha
    simp only [List.length_cons]; omega
theorem pw_nodup {l : List Int} (h : l.Pairwise (· < ·)) : l.Nodup := h.imp fun {a b} hab e => by omega
end WD
namespace WD
open PySem PySem.Spec PyProof.Rows L2
theorem vq_prs {h : Hs} {n : Nat} : ∀ ps : List (Int × Int), (ps.map prD).mapM (vq h (n + 1)) = some (ps.map prQ)
  | [] => rfl
  | p :: ps => by
    have h1 : vq h (n + 1) (prD p) = some (prQ p) := by unfold prD; rw [vq_tup2 vq_int vq_int]; rfl
    rw [List.map_cons, List.mapM_cons, h1, vq_prs ps]; rfl
def prL (p : Int × Int) : D := .lst [.int p.1, .int p.2]
theorem vq_tk (t : Tk) (h : Hs) : vq h 3 t.D = some t.Q := by
  have hp : vq h 2 (.tup (t.tied.map prD)) = some (.row (t.tied.map prQ)) := by rw [vq_row (xs := t.tied.map prD) rfl, vq_prs]; rfl
  unfold Tk.D
  rw [vq_row (xs := [iT t.ns, .int t.hands, iT t.off, iT t.lg, .tup (t.tied.map prD)]) rfl]
  simp only [List.mapM_cons, List.mapM_nil, vq_iT, vq_int, hp]
  rfl
def Tk.L (t : Tk) : WD.D := .lst [iL t.ns, .int t.hands, iL t.off, iL t.lg, .lst (t.tied.map prL)]
end WD
namespace WD
open PySem PySem.Spec PyProof.Rows L2
theorem ok_string (s : String) : PyData.strOk (Str.ofString s) = true := by
  rw [Str.ofString_eq_toList]
  unfold PyData.strOk
  simp only [List.all_toArray, List.all_eq_true, List.mem_map, decide_eq_true_eq]
  rintro n ⟨c, _, rfl⟩
  have h := c.valid
  simp only [UInt32.isValidChar, Nat.isValidChar] at h
  show c.val.toNat < _
  omega
theorem sok_app {a b : Str} (ha : PyData.strOk a = true) (hb : PyData.strOk b = true) : PyData.strOk (a ++ b) = true := by
  have : (a ++ b).cps = a.cps ++ b.cps := rfl
  unfold PyData.strOk at *
  rw [this, Array.all_append, ha, hb]
  rfl
theorem sok_from : ∀ (ts : List Str) (k : Nat) (acc : Str), PyData.strOk acc = true → (∀ t ∈ ts, PyData.strOk t = true) → PyData.strOk (textFrom k acc ts) = true
  | [], _, _, h, _ => h
  | t :: ts, k, acc, h, ht => by
    show PyData.strOk (textFrom (k + 1) _ ts) = true
    exact sok_from ts (k + 1) _ (sok_app (sok_app h (ok_string _)) (ht t List.mem_cons_self)) fun x hx => ht x (List.mem_cons_of_mem _ hx)
theorem sok_join (sep : Str) (hs : PyData.strOk sep = true) : ∀ ts : List Str, (∀ t ∈ ts, PyData.strOk t = true) → PyData.strOk (Str.join sep ts) = true
  | [], _ => (by simp [Str.join, Str.empty, PyData.strOk] : PyData.strOk (Str.join sep []) = true)
  | [x], h => h x List.mem_cons_self
  | x :: y :: r, h => by
    show PyData.strOk (x ++ sep ++ Str.join sep (y :: r)) = true
    exact sok_app (sok_app (h x List.mem_cons_self) hs) (sok_join sep hs (y :: r) fun t ht => h t (List.mem_cons_of_mem _ ht))
mutual
/-- small: ints of at most eight signs -/
def smlD : D → Bool
  | .non => true
  | .bl _ => true
  | .int i => decide (0 ≤ i) && decide (i ≤ 1000000)
  | .tup xs => smlDs xs
  | .lst xs => smlDs xs
  | _ => false
def smlDs : List D → Bool
  | [] => true
  | x :: xs => smlD x && smlDs xs
end
mutual
def depD : D → Nat
  | .tup xs => depDs xs + 1
  | .lst xs => depDs xs + 1
  | _ => 0
def depDs : List D → Nat
  | [] => 0
  | x :: xs => max (depD x) (depDs xs)
end
mutual
def blkD : D → Nat
  | .tup xs => blkDs xs
  | .lst xs => blkDs xs
  | _ => 0
def blkDs : List D → Nat
  | [] => 0
  | x :: xs => blkD x + 1 + blkDs xs
end
theorem shown_int {i : Int} (h : 0 ≤ i ∧ i ≤ 1000000) : (PyData.shown (.int i)).length ≤ 9 ∧ PyData.showable (.int i) = true ∧ PyData.strOk (PyData.shown (.int i)) = true := by
  have hn : i.natAbs < 2 ^ 20 := by omega
  refine ⟨?_, ?_, ok_string _⟩
  · have e := int_text_length_le10 (a := i) (k := 8) (by decide) (by omega)
    show (Str.ofString (toString i)).length ≤ 9
    rw [PySem.ofString_length]; omega
  · simp only [PyData.showable, decide_eq_true_eq]
    by_cases h0 : i.natAbs = 0
    · rw [h0]; decide
    · rw [Nat.log2_lt h0]
      exact Nat.lt_of_lt_of_le hn (Nat.pow_le_pow_right (by omega) (by omega))
mutual
theorem small_toP : ∀ (d : D) (n : Nat), smlD d = true → depD d ≤ n → ∃ p : PyData, (∀ h : Hs, toP h n d = some p) ∧ p.bulk = blkD d ∧ p.showable = true ∧ p.leavesShort 9 = true ∧ PyData.strOk p.shown = true
  | .non, n, _, _ => ⟨.none, fun h => toP_non, rfl, rfl, rfl, ok_string _⟩
  | .bl b, n, _, _ => ⟨.bool b, fun h => toP_bl, rfl, rfl, rfl, by cases b <;> exact ok_string _⟩
  | .int i, n, hs, _ => by
    simp only [smlD, Bool.and_eq_true, decide_eq_true_eq] at hs
    obtain ⟨h1, h2, h3⟩ := shown_int hs
    exact ⟨.int i, fun h => toP_int, rfl, h2, by simp only [PyData.leavesShort, decide_eq_true_eq]; exact h1, h3⟩
  | .tup xs, n, hs, hd => by
    simp only [smlD] at hs
    simp only [depD] at hd
    obtain ⟨n, rfl⟩ : ∃ m, n = m + 1 := ⟨n - 1, by omega⟩
    obtain ⟨ps, h1, h2, h3, h4, h5⟩ := small_toPs xs n hs (by omega)
    refine ⟨.tuple ps, fun h => toP_tup (h1 h), by simp only [PyData.bulk, blkD, h2], by simpa [PyData.showable] using h3, by simpa [PyData.leavesShort] using h4, ?_⟩
    show PyData.strOk (("(" : Str) ++ Str.join ", " (PyData.shownAll ps) ++ (if (PyData.shownAll ps).length == 1 then ",)" else ")" : String)) = true
    exact sok_app (sok_app (ok_string _) (sok_join _ (ok_string _) _ h5)) (ok_string _)
  | .lst xs, n, hs, hd => by
    simp only [smlD] at hs
    simp only [depD] at hd
    obtain ⟨n, rfl⟩ : ∃ m, n = m + 1 := ⟨n - 1, by omega⟩
    obtain ⟨ps, h1, h2, h3, h4, h5⟩ := small_toPs xs n hs (by omega)
    refine ⟨.list ps, fun h => toP_lst rfl (h1 h), by simp only [PyData.bulk, blkD, h2], by simpa [PyData.showable] using h3, by simpa [PyData.leavesShort] using h4, ?_⟩
    show PyData.strOk (textFrom 0 "[" (PyData.shownAll ps) ++ "]") = true
    exact sok_app (sok_from _ _ _ (ok_string _) h5) (ok_string _)
  | .str _, _, hs, _ => by simp [smlD] at hs
  | .scr _, _, hs, _ => by simp [smlD] at hs
  | .dic _ _, _, hs, _ => by simp [smlD] at hs
  | .loc _, _, hs, _ => by simp [smlD] at hs
theorem small_toPs : ∀ (xs : List D) (n : Nat), smlDs xs = true → depDs xs ≤ n → ∃ ps : List PyData, (∀ h : Hs, xs.mapM (toP h n) = some ps) ∧ PyData.bulkAll ps = blkDs xs ∧ PyData.showableAll ps = true ∧ PyData.leavesShortAll 9 ps = true ∧ ∀ t ∈ PyData.shownAll ps, PyData.strOk t = true
  | [], n, _, _ => ⟨[], fun _ => rfl, rfl, rfl, rfl, by simp [PyData.shownAll]⟩
  | x :: xs, n, hs, hd => by
    simp only [smlDs, Bool.and_eq_true] at hs
    simp only [depDs] at hd
    obtain ⟨p, a1, a2, a3, a4, a5⟩ := small_toP x n hs.1 (by omega)
    obtain ⟨ps, b1, b2, b3, b4, b5⟩ := small_toPs xs n hs.2 (by omega)
    refine ⟨p :: ps, fun h => by rw [List.mapM_cons, a1 h, b1 h]; rfl, by simp only [PyData.bulkAll, blkDs, a2, b2], by simp [PyData.showableAll, a3, b3], by simp [PyData.leavesShortAll, a4, b4], fun t ht => ?_⟩
    simp only [PyData.shownAll, List.mem_cons] at ht
    rcases ht with rfl | ht
    · exact a5
    · exact b5 t ht
end
theorem eq_strx {n : Bool} {x : Str} {h : Hs} (hx : PyData.strOk x = true) : eqD n (.str x) (.str x) h = .ok (.bl (!n)) h := by
  unfold eqD
  have e : toP h 64 (.str x) = some (.str x) := by show (if PyData.strOk x = true then _ else _) = _; rw [if_pos hx]
  simp only [e]
  cases n <;> simp [PyData.eqv]
theorem small_ints : ∀ {ns : List Int}, (∀ n ∈ ns, 0 ≤ n ∧ n ≤ 1000000) → smlDs (ns.map D.int) = true
  | [], _ => rfl
  | n :: ns, h => by
    have := h n List.mem_cons_self
    simp [smlDs, smlD, this, small_ints fun m hm => h m (List.mem_cons_of_mem _ hm)]
theorem dep_ints : ∀ ns : List Int, depDs (ns.map D.int) = 0
  | [] => rfl
  | n :: ns => by simp [depDs, depD, dep_ints ns]
theorem blk_ints : ∀ ns : List Int, blkDs (ns.map D.int) = ns.length
  | [] => rfl
  | n :: ns => by simp [blkDs, blkD, blk_ints ns]; omega
theorem Sms.iT {ns : List Int} (h : ∀ n ∈ ns, 0 ≤ n ∧ n ≤ 1000000) : smlD (WD.iT ns) = true ∧ depD (WD.iT ns) = 1 ∧ blkD (WD.iT ns) = ns.length := by
  refine ⟨small_ints h, ?_, blk_ints ns⟩
  show depDs _ + 1 = 1
  rw [dep_ints]
theorem Sms.iL {ns : List Int} (h : ∀ n ∈ ns, 0 ≤ n ∧ n ≤ 1000000) : smlD (WD.iL ns) = true ∧ depD (WD.iL ns) = 1 ∧ blkD (WD.iL ns) = ns.length := by
  refine ⟨small_ints h, ?_, blk_ints ns⟩
  show depDs _ + 1 = 1
  rw [dep_ints]

end WD
namespace WD
open PySem PySem.Spec PyProof.Rows L2
mutual
def tL : D → D
  | .tup xs => .lst (tLs xs)
  | d => d
def tLs : List D → List D
  | [] => []
  | x :: xs => tL x :: tLs xs
end
mutual
def depT : D → Nat
  | .tup xs => depTs xs + 1
  | _ => 0
def depTs : List D → Nat
  | [] => 0
  | x :: xs => max (depT x) (depTs xs)
end
theorem tLs_ints : ∀ ns : List Int, tLs (ns.map D.int) = ns.map D.int
  | [] => rfl
  | n :: ns => by simp [tLs, tL, tLs_ints ns]
theorem depTs_ints : ∀ ns : List Int, depTs (ns.map D.int) = 0
  | [] => rfl
  | n :: ns => by simp [depTs, depT, depTs_ints ns]
@[simp] theorem tL_iT (ns : List Int) : tL (iT ns) = iL ns := by
  show D.lst (tLs (ns.map D.int)) = _
  rw [tLs_ints]; rfl
@[simp] theorem tL_int (n : Int) : tL (.int n) = .int n := rfl
@[simp] theorem depT_iT (ns : List Int) : depT (iT ns) = 1 := by
  show depTs (ns.map D.int) + 1 = 1
  rw [depTs_ints]
def Sd.L (s : Sd) : WD.D := .lst [.int s.ph, iL s.ws, iL s.busy, iL s.last]
theorem und_tk (t : Tk) (n : Nat) : (t.D).und n = true := by rw [← qD_tk]; exact und_qD _ _
theorem Sd.Ok.num {t : Tk} {s : Sd} (ht : t.Ok) (hs : s.Ok t) : (0 ≤ s.ph ∧ s.ph ≤ 100) ∧ (∀ n ∈ s.ws, 0 ≤ n ∧ n ≤ 1000000) ∧ s.ws.length ≤ 8 ∧ (∀ n ∈ s.busy, 0 ≤ n ∧ n ≤ 1000000) ∧ s.busy.length ≤ 2 ∧ (∀ n ∈ s.last, 0 ≤ n ∧ n ≤ 1000000) ∧ s.last.length ≤ 2 := by
  have h1 := ht.num
  have h7 := ht.off7
  have hh := ht.hnd
  have hb := (ris_pw hs.bris).2
  have hl := (ris_pw hs.lris).2
  refine ⟨⟨hs.ph0, by have := hs.ph1; omega⟩, fun n hn => ?_, by rw [hs.wl]; exact h1.1, fun n hn => by have := hb n hn; omega, by have := hs.bl; omega, fun n hn => by have := hl n hn; omega, by have := hs.ll; omega⟩
  obtain ⟨i, hi, rfl⟩ := List.mem_iff_getElem.mp hn
  have hw := hs.wl
  have h2 := hs.wb i (by omega)
  have e1 : s.ws.getD i 0 = s.ws[i] := by simp [List.getD, List.getElem?_eq_getElem hi]
  have hi2 : i < t.ns.length := by omega
  have e2 : t.ns.getD i 0 = t.ns[i] := by simp [List.getD, List.getElem?_eq_getElem hi2]
  have h3 := h1.2 t.ns[i] (List.getElem_mem hi2)
  rw [e1, e2] at h2
  omega
theorem small_prD : ∀ ps : List (Int × Int), (∀ p ∈ ps, 0 ≤ p.1 ∧ p.1 < p.2 ∧ p.2 < 8) → smlDs (ps.map prD) = true ∧ depDs (ps.map prD) ≤ 1 ∧ blkDs (ps.map prD) = 3 * ps.length
  | [], _ => ⟨rfl, by simp [depDs], rfl⟩
  | p :: ps, h => by
    obtain ⟨h1, h2, h3⟩ := small_prD ps fun q hq => h q (List.mem_cons_of_mem _ hq)
    have h4 := h p List.mem_cons_self
    have a1 : p.1 ≤ 1000000 := by omega
    have a2 : 0 ≤ p.2 := by omega
    have a3 : p.2 ≤ 1000000 := by omega
    have e : prD p = .tup [.int p.1, .int p.2] := rfl
    rw [List.map_cons, e]
    generalize ps.map prD = zs at *
    exact ⟨by simp [smlDs, smlD, h1, h4.1, a1, a2, a3], by simp only [depDs, depD]; omega, by simp only [blkDs, blkD, h3, List.length_cons]; omega⟩
theorem small_prL : ∀ ps : List (Int × Int), (∀ p ∈ ps, 0 ≤ p.1 ∧ p.1 < p.2 ∧ p.2 < 8) → smlDs (ps.map prL) = true ∧ depDs (ps.map prL) ≤ 1 ∧ blkDs (ps.map prL) = 3 * ps.length
  | [], _ => ⟨rfl, by simp [depDs], rfl⟩
  | p :: ps, h => by
    obtain ⟨h1, h2, h3⟩ := small_prL ps fun q hq => h q (List.mem_cons_of_mem _ hq)
    have h4 := h p List.mem_cons_self
    have a1 : p.1 ≤ 1000000 := by omega
    have a2 : 0 ≤ p.2 := by omega
    have a3 : p.2 ≤ 1000000 := by omega
    have e : prL p = .lst [.int p.1, .int p.2] := rfl
    rw [List.map_cons, e]
    generalize ps.map prL = zs at *
    exact ⟨by simp [smlDs, smlD, h1, h4.1, a1, a2, a3], by simp only [depDs, depD]; omega, by simp only [blkDs, blkD, h3, List.length_cons]; omega⟩
theorem sm_tk {t : Tk} (ht : t.Ok) : (smlD t.D = true ∧ depD t.D ≤ 3 ∧ blkD t.D ≤ 200) ∧ (smlD t.L = true ∧ depD t.L ≤ 3 ∧ blkD t.L ≤ 200) := by
  have h8 := ht.num.1
  have hh := ht.hnd
  have n' : ∀ n ∈ t.ns, 0 ≤ n ∧ n ≤ 1000000 := fun n hn => by have := ht.num.2 n hn; omega
  have o' : ∀ n ∈ t.off, 0 ≤ n ∧ n ≤ 1000000 := fun n hn => by have := ht.offs n hn; omega
  have l' : ∀ n ∈ t.lg, 0 ≤ n ∧ n ≤ 1000000 := fun n hn => by have := (ris_pw ht.lng).2 n hn; omega
  have ll : t.lg.length ≤ 8 := by
    have := len_sub (l := t.lg) (m := (List.range t.ns.length).map fun (k : Nat) => (k : Int)) (pw_nodup (ris_pw ht.lng).1) fun x hx => by
      have := (ris_pw ht.lng).2 x hx
      exact List.mem_map.mpr ⟨x.toNat, List.mem_range.mpr (by omega), by omega⟩
    simp at this; omega
  have pp : ∀ p ∈ t.tied, 0 ≤ p.1 ∧ p.1 < p.2 ∧ p.2 < 8 := fun p hp => by have := ht.prs p hp; omega
  have h28 := ht.tied28
  have h7 := ht.off7
  obtain ⟨n1, n2, n3⟩ := Sms.iT n'
  obtain ⟨o1, o2, o3⟩ := Sms.iT o'
  obtain ⟨l1, l2, l3⟩ := Sms.iT l'
  obtain ⟨m1, m2, m3⟩ := Sms.iL n'
  obtain ⟨q1, q2, q3⟩ := Sms.iL o'
  obtain ⟨r1, r2, r3⟩ := Sms.iL l'
  obtain ⟨p1, p2, p3⟩ := small_prD t.tied pp
  obtain ⟨s1, s2, s3⟩ := small_prL t.tied pp
  have a1 : 0 ≤ t.hands := by omega
  have a2 : t.hands ≤ 1000000 := by omega
  refine ⟨⟨?_, ?_, ?_⟩, ?_, ?_, ?_⟩
  · simp [Tk.D, smlD, smlDs, n1, o1, l1, p1, a1, a2]
  · simp only [Tk.D, depD, depDs, n2, o2, l2]; omega
  · simp only [Tk.D, blkD, blkDs, n3, o3, l3, p3]; omega
  · simp [Tk.L, smlD, smlDs, m1, q1, r1, s1, a1, a2]
  · simp only [Tk.L, depD, depDs, m2, q2, r2]; omega
  · simp only [Tk.L, blkD, blkDs, m3, q3, r3, s3]; omega
theorem Dw.other {n m : Nat} {H1 H2 : Hs} (w : Dw n H1 H2) (hm : m ≠ n) : locAt H2 m = locAt H1 m := by
  obtain ⟨dk, rfl⟩ := w.ex
  exact hd_other hm
theorem Dk.lt {n : Nat} {H : Hs} (k : Dk n H) : n < H.length := by obtain ⟨dk, q⟩ := k.ex; exact locAt_lt q

end WD
namespace WD
open PySem PySem.Spec PyProof.Rows L2
/-- the heap changes, something stays true of it -/
theorem loop_inv {α : Type} {em : α → D} {g : Tg} {b : FS} {s : Ss} (I : Hs → Prop) : ∀ (xs : List α) (h : Hs), I h → (∀ x ∈ xs, ∀ h, I h → ∃ s1 h2, g (em x) s h = some s1 ∧ b s1 h = .nx s h2 ∧ I h2) → ∃ h2, I h2 ∧ loopS g b (xs.map em) s h = .nx s h2
  | [], h, hi, _ => ⟨h, hi, rfl⟩
  | x :: xs, h, hi, hb => by
    obtain ⟨s1, h2, e1, e2, i2⟩ := hb x List.mem_cons_self h hi
    obtain ⟨h3, i3, e3⟩ := loop_inv I xs h2 i2 fun y hy => hb y (List.mem_cons_of_mem _ hy)
    exact ⟨h3, i3, by rw [List.map_cons]; exact (loop_nx e1 e2).trans e3⟩
/-- side by side -/
def relL {α β : Type} (R : β → α → Prop) : List β → List α → Prop
  | [], [] => True
  | x :: xs, y :: ys => R x y ∧ relL R xs ys
  | _, _ => False
theorem relL.snoc {α β : Type} {R : β → α → Prop} : ∀ {xs : List β} {ys : List α} {x : β} {y : α}, relL R xs ys → R x y → relL R (xs ++ [x]) (ys ++ [y])
  | [], [], _, _, _, h => ⟨h, trivial⟩
  | [], _ :: _, _, _, h, _ => h.elim
  | _ :: _, [], _, _, h, _ => h.elim
  | _ :: _, _ :: _, _, _, h, q => ⟨h.1, relL.snoc h.2 q⟩
theorem relL.len {α β : Type} {R : β → α → Prop} : ∀ {xs : List β} {ys : List α}, relL R xs ys → xs.length = ys.length
  | [], [], _ => rfl
  | [], _ :: _, h => h.elim
  | _ :: _, [], h => h.elim
  | _ :: _, _ :: _, h => by simp [relL.len h.2]
theorem relL.at {α β : Type} {R : β → α → Prop} {b : β} {a : α} : ∀ {xs : List β} {ys : List α}, relL R xs ys → ∀ i, i < xs.length → R (xs.getD i b) (ys.getD i a)
  | [], [], _, i, hi => by simp at hi
  | [], _ :: _, h, _, _ => h.elim
  | _ :: _, [], h, _, _ => h.elim
  | _ :: _, _ :: _, h, 0, _ => h.1
  | _ :: xs, _ :: ys, h, i + 1, hi => by simpa using relL.at (b := b) (a := a) h.2 i (by simpa using hi)
end WD
namespace WD
open PySem PySem.Spec PyProof.Rows L2
end WD
namespace WD
open PySem PySem.Spec PyProof.Rows L2
theorem F_are_pairs_all {many : Int} {d : D} {h : Hs} (hz : ∀ xs, rowOf h d = some xs → xs.length ≤ 100000) : F_are_pairs [d, .int many] h = .ok (.bl (arePairs h many d)) h := by
  cases hr : rowOf h d with
  | none => simp [F_are_pairs, b_are_pairs, F_is_row_eq, arePairs, hr]
  | some xs =>
    cases ha : xs.all (isPair h many) with
    | true =>
      have := F_are_pairs_eq (many := many) (d := d) (h := h) fun ys hy => by
        rw [hr] at hy; cases hy
        exact ⟨hz _ hr, ha⟩
      exact this
    | false =>
      have hc : eComp false [2] (iRow (eVar 0)) (gVar 2) (tNotF (tV (eCall 2 F_is_pair (aCons (eVar 2) (aCons (eVar 1) aNil))))) (eVar 2) [some d, some (.int many), none, none, none] h = .ok (.lst (xs.filter fun x => !isPair h many x)) h := by
        rw [comp_ty (em := id) (fun x => !isPair h many x) id (by rw [List.map_id]; exact Itr.row rfl hr) fun x hx => ?_]
        · simp
        · simp [F_is_pair_eq]
      have hfe := filter_not_empty (isPair h many) xs
      rw [ha] at hfe
      have har : arePairs h many d = false := by simp only [arePairs, hr, ha, Bool.false_and]
      rw [har]
      generalize xs.filter (fun x => !isPair h many x) = ys at *
      simp only [F_are_pairs, b_are_pairs, t_are_pairs_0]
      simp [F_is_row_eq, hr, hc, hfe]
theorem F_is_task_all {d : D} {h : Hs} (hz : ∀ n w o l p xs, rowOf h d = some [n, w, o, l, p] → rowOf h p = some xs → xs.length ≤ 100000) : F_is_task [d] h = .ok (.bl (isTask h d)) h := by
  cases hr : rowOf h d with
  | none => simp [F_is_task, b_is_task, F_is_row_eq, isTask, hr]
  | some xs =>
    by_cases h5 : (xs.length : Int) = 5
    · match xs, h5 with
      | [n, w, o, l, p], _ =>
        have hap := F_are_pairs_all (many := (((rowOf h n).getD []).length : Int)) (d := p) (h := h) fun xs hx => hz n w o l p xs hr hx
        cases hn : isNums h n with
        | false => simp [F_is_task, b_is_task, F_is_row_eq, isTask, hr, x_len hr, F_is_numbers_eq, hn]
        | true =>
          have hrn : ∃ ys, rowOf h n = some ys := by
            unfold isNums at hn
            cases q : rowOf h n with
            | none => rw [q] at hn; cases hn
            | some ys => exact ⟨ys, rfl⟩
          obtain ⟨ys, hy⟩ := hrn
          rw [hy, Option.getD_some] at hap
          cases hw : isW 1 2 w with
          | false => simp [F_is_task, b_is_task, F_is_row_eq, isTask, hr, x_len hr, F_is_numbers_eq, hn, F_is_whole_eq, hw]
          | true =>
            cases ho : isOff h o with
            | false => simp [F_is_task, b_is_task, F_is_row_eq, isTask, hr, x_len hr, F_is_numbers_eq, hn, F_is_whole_eq, hw, F_is_off_eq, ho]
            | true =>
              cases hl : isRis h 0 ((ys.length : Int) - 1) l <;> simp [F_is_task, b_is_task, F_is_row_eq, isTask, hr, x_len hr, F_is_numbers_eq, hn, F_is_whole_eq, hw, F_is_off_eq, ho, hy, x_len hy, F_is_rising_eq, hl, hap]
    · have : ∀ (n w o l p : D), xs ≠ [n, w, o, l, p] := fun n w o l p e => h5 (by rw [e]; rfl)
      have hf : isTask h d = false := by
        unfold isTask
        rw [hr]
        split
        · rename_i e; exact absurd (Option.some.inj e) (this _ _ _ _ _)
        · rfl
      simp [F_is_task, b_is_task, F_is_row_eq, hf, hr, x_len hr, h5]
theorem isTask5 {h : Hs} {n w o l p : D} : isTask h (.tup [n, w, o, l, p]) = (isNums h n && isW 1 2 w && isOff h o && isRis h 0 ((((rowOf h n).getD []).length : Int) - 1) l && arePairs h (((rowOf h n).getD []).length : Int) p) := rfl
end WD
namespace WD
open PySem PySem.Spec PyProof.Rows L2
def lineS (ws : List Str) : Str := Txt.join " " ws ++ "\n"
def linesS (ls : List (List Str)) : Str := Txt.join "" (ls.map lineS)
def rowS (row : List Int) (sign : Str) : Str := if row.length = 0 then "-" else Txt.join sign (row.map istr)
def thingL (lg : List Int) (i : Nat) (n : Int) : List Str := [("thing" : Str), istr n] ++ (if lg.contains (i : Int) = true then [("long" : Str)] else [])
def handsL (x : Int) : List Str := ["hands", istr x]
def offL (off : List Int) : List Str := ["off", rowS off ""]
def things (lg : List Int) (k : Nat) (ns : List Int) : List (List Str) := (ns.zipIdx k).map fun x => thingL lg x.2 x.1
def tiedL (p : Int × Int) : List Str := ["tied", istr p.1, istr p.2]
def Tk.lines (t : Tk) : List (List Str) := things t.lg 0 t.ns ++ [handsL t.hands, offL t.off] ++ t.tied.map tiedL
def Tk.text (t : Tk) : Str := linesS t.lines
end WD
namespace WD
open PySem PySem.Spec PyProof.Rows L2
end WD
namespace WD
open PySem PySem.Spec PyProof.Rows L2
end WD
namespace WD
open PySem PySem.Spec PyProof.Rows L2
end WD
namespace WD
open PySem PySem.Spec PyProof.Rows L2
inductive An where
  | on (lead ring : List (List Int))
  | cnt (d p : Int)
  | walk (ss : List Sd)
def dLL (r : List (List Int)) : D := .lst (r.map iL)
def An.Q : An → WD.Q
  | .on l r => .row [.str "on", ringQ l, ringQ r]
  | .cnt d p => .row [.str "count", .int d, .int p]
  | .walk ss => .row [.str "walk", .row (ss.map Sd.Q)]
def An.D : An → WD.D
  | .on l r => .tup [.str "on", dT l, dT r]
  | .cnt d p => .tup [.str "count", .int d, .int p]
  | .walk ss => .tup [.str "walk", .tup (ss.map Sd.D)]
def An.L : An → WD.D
  | .on l r => .lst [.str "on", dLL l, dLL r]
  | .cnt d p => .lst [.str "count", .int d, .int p]
  | .walk ss => .lst [.str "walk", .lst (ss.map Sd.L)]
def An.Ok (t : Tk) : An → Prop
  | .on l r => l.length ≤ 4000 ∧ (∀ d ∈ l, DayOk t.ns.length d) ∧ RingOk t.ns.length r
  | .cnt d p => 1 ≤ d ∧ d ≤ 1000000 ∧ 0 ≤ p ∧ p < t.off.length
  | .walk ss => 1 ≤ ss.length ∧ ss.length ≤ 4000 ∧ ∀ s ∈ ss, s.Ok t
def dayW (sign : Str) (d : List Int) : Str := rowS d sign
def Sd.line (s : Sd) : List Str := ["stand", istr s.ph, rowS s.ws ",", rowS s.busy ",", rowS s.last ","]
def An.lines : An → List (List Str)
  | .on l r => [["on"], "lead" :: l.map (dayW "+"), "ring" :: r.map (dayW "+")]
  | .cnt d p => [["count", istr d, istr p]]
  | .walk ss => ["walk"] :: ss.map Sd.line
def An.text (a : An) : Str := linesS a.lines
/-- a row that is written: few small numbers -/
def RowOk (d : List Int) : Prop := d.length ≤ 8 ∧ ∀ x ∈ d, x.natAbs < 10 ^ 7
theorem DayOk.row {t : Tk} {d : List Int} (ht : t.Ok) (hd : DayOk t.ns.length d) : RowOk d := by
  have h8 := ht.num.1
  have h2 := hd.2
  have hb := (ris_pw hd.1).2
  exact ⟨by omega, fun x hx => by have := hb x hx; omega⟩
theorem Sd.Ok.rows {t : Tk} {s : Sd} (ht : t.Ok) (hs : s.Ok t) : s.ph.natAbs < 10 ^ 7 ∧ RowOk s.ws ∧ RowOk s.busy ∧ RowOk s.last := by
  obtain ⟨h1, h2, h3, h4, h5, h6, h7⟩ := hs.num ht
  exact ⟨by omega, ⟨h3, fun x hx => by have := h2 x hx; omega⟩, ⟨by omega, fun x hx => by have := h4 x hx; omega⟩, ⟨by omega, fun x hx => by have := h6 x hx; omega⟩⟩
/-- what a written answer keeps -/
def An.W : An → Prop
  | .on l r => l.length ≤ 4000 ∧ r.length ≤ 4000 ∧ (∀ d ∈ l, RowOk d) ∧ ∀ d ∈ r, RowOk d
  | .cnt d p => d.natAbs < 10 ^ 7 ∧ p.natAbs < 10 ^ 7
  | .walk ss => ss.length ≤ 4000 ∧ ∀ s ∈ ss, s.ph.natAbs < 10 ^ 7 ∧ RowOk s.ws ∧ RowOk s.busy ∧ RowOk s.last
theorem An.Ok.w {t : Tk} {a : An} (ht : t.Ok) (ok : a.Ok t) : a.W := by
  cases a with
  | on l r => exact ⟨ok.1, ok.2.2.most, fun d hd => DayOk.row ht (ok.2.1 d hd), fun d hd => DayOk.row ht (ok.2.2.day d hd)⟩
  | cnt d p =>
    have h7 := ht.off7
    obtain ⟨h1, h2, h3, h4⟩ := ok
    exact ⟨by omega, by omega⟩
  | walk ss => exact ⟨ok.2.1, fun s hs => Sd.Ok.rows ht (ok.2.2 s hs)⟩
end WD
namespace WD
open PySem PySem.Spec PyProof.Rows L2
/-- a task's things, told as a tuple or as lists -/
structure TkRow (h : Hs) (t : Tk) (td : D) : Prop where
  ex : ∃ N O L T : D, rowOf h td = some [N, .int t.hands, O, L, T] ∧ rowOf h N = some (t.ns.map D.int) ∧ rowOf h O = some (t.off.map D.int) ∧ rowOf h L = some (t.lg.map D.int) ∧
    ∃ f : Int × Int → D, rowOf h T = some (t.tied.map f) ∧ ∀ p, rowOf h (f p) = some [.int p.1, .int p.2]
end WD
namespace WD
open PySem PySem.Spec PyProof.Rows L2
def bigN : Nat := 10 ^ 70
def keyX : Key → Bool
  | .inl i => decide (i.natAbs < bigN)
  | .inr _ => false
mutual
def okR : D → Bool
  | .non => true
  | .bl _ => true
  | .int i => decide (i.natAbs < bigN)
  | .str x => PyData.strOk x && PyData.strOk (PyData.shown (.str x)) && decide (x.cps.size ≤ 100) && x.cps.toList.all fun c => decide (c < 16 ^ 8)
  | .tup xs => okRs xs
  | .lst xs => okRs xs
  | .dic ks xs => ks.all keyX && decide (ks.length = xs.length) && okRs xs
  | _ => false
def okRs : List D → Bool
  | [] => true
  | x :: xs => okR x && okRs xs
end
mutual
def dpR : D → Nat
  | .tup xs => dpRs xs + 1
  | .lst xs => dpRs xs + 1
  | .dic _ xs => dpRs xs + 1
  | _ => 0
def dpRs : List D → Nat
  | [] => 0
  | x :: xs => max (dpR x) (dpRs xs)
end
mutual
def bkR : D → Nat
  | .str x => x.cps.size
  | .tup xs => bkRs xs
  | .lst xs => bkRs xs
  | .dic _ xs => bkRs xs + xs.length
  | _ => 0
def bkRs : List D → Nat
  | [] => 0
  | x :: xs => bkR x + 1 + bkRs xs
end
theorem shown_big {i : Int} (h : i.natAbs < bigN) : (PyData.shown (.int i)).length ≤ 72 ∧ PyData.showable (.int i) = true ∧ PyData.strOk (PyData.shown (.int i)) = true := by
  refine ⟨?_, ?_, ok_string _⟩
  · have e := int_text_length_le10 (a := i) (k := 70) (by decide) h
    show (Str.ofString (toString i)).length ≤ 72
    rw [PySem.ofString_length]; omega
  · simp only [PyData.showable, decide_eq_true_eq]
    by_cases h0 : i.natAbs = 0
    · rw [h0]; decide
    · rw [Nat.log2_lt h0]
      exact Nat.lt_of_lt_of_le h (Nat.le_of_lt (by decide +kernel))
theorem toR_lst {h : Hs} {n : Nat} {xs : List D} {ps : List PyData} (e : xs.mapM (toR h n) = some ps) : toR h (n + 1) (.lst xs) = some (.list ps) := by
  show (xs.mapM (toR h n)).map PyData.list = _
  rw [e]; rfl
theorem toR_tup {h : Hs} {n : Nat} {xs : List D} {ps : List PyData} (e : xs.mapM (toR h n) = some ps) : toR h (n + 1) (.tup xs) = some (.tuple ps) := by
  show (xs.mapM (toR h n)).map PyData.tuple = _
  rw [e]; rfl
theorem toR_dic {h : Hs} {n : Nat} {ks : List Key} {xs : List D} {ps : List PyData} (hk : ks.all keyOk = true) (e : xs.mapM (toR h n) = some ps) : toR h (n + 1) (.dic ks xs) = some (.dict ((ks.map keyP).zip ps)) := by
  show (if ks.all keyOk = true then (xs.mapM (toR h n)).map fun ps => PyData.dict ((ks.map keyP).zip ps) else none) = _
  rw [if_pos hk, e]; rfl
theorem keys_ok : ∀ {ks : List Key}, ks.all keyX = true → ks.all keyOk = true
  | [], _ => rfl
  | .inl i :: ks, h => by
    simp only [List.all_cons, Bool.and_eq_true] at h ⊢
    exact ⟨rfl, keys_ok h.2⟩
  | .inr x :: ks, h => by simp [keyX] at h
/-- entries of a dict whose keys are whole numbers -/
theorem kv_facts : ∀ {ks : List Key} {ps : List PyData} {k : Nat}, ks.all keyX = true → ks.length = ps.length → PyData.showableAll ps = true → PyData.leavesShortAll 72 ps = true → PyData.depthAll ps ≤ k → (∀ t ∈ PyData.shownAll ps, PyData.strOk t = true) →
    PyData.bulkKv ((ks.map keyP).zip ps) = PyData.bulkAll ps + ps.length ∧ PyData.showableKv ((ks.map keyP).zip ps) = true ∧ PyData.leavesShortKv 72 ((ks.map keyP).zip ps) = true ∧ PyData.depthKv ((ks.map keyP).zip ps) ≤ k ∧ ∀ t ∈ PyData.shownKv ((ks.map keyP).zip ps), PyData.strOk t = true
  | [], [], _, _, _, _, _, _, _ => ⟨rfl, rfl, rfl, Nat.zero_le _, by simp [PyData.shownKv]⟩
  | [], _ :: _, _, _, h, _, _, _, _ => by cases h
  | _ :: _, [], _, _, h, _, _, _, _ => by cases h
  | .inr x :: ks, _ :: _, _, h, _, _, _, _, _ => by simp [keyX] at h
  | .inl i :: ks, p :: ps, k, hk, hl, hs, hv, hd, ht => by
    simp only [List.all_cons, Bool.and_eq_true, keyX, decide_eq_true_eq] at hk
    simp only [PyData.showableAll, PyData.leavesShortAll, PyData.depthAll, Bool.and_eq_true] at hs hv hd
    simp only [PyData.shownAll, List.mem_cons, forall_eq_or_imp] at ht
    obtain ⟨a1, a2, a3, a4, a5⟩ := kv_facts (k := k) hk.2 (by simpa using hl) hs.2 hv.2 (by omega) ht.2
    obtain ⟨b1, b2, b3⟩ := shown_big hk.1
    simp only [List.map_cons, List.zip_cons_cons, keyP]
    refine ⟨by simp only [PyData.bulkKv, PyData.bulkAll, PyData.bulk, a1, List.length_cons]; omega, by simp [PyData.showableKv, b2, hs.1, a2], by simp [PyData.leavesShortKv, PyData.leavesShort, b1, hv.1, a3], ?_, fun t h => ?_⟩
    · simp only [PyData.depthKv, PyData.depth]; omega
    · simp only [PyData.shownKv, List.mem_cons] at h
      rcases h with rfl | h
      · exact sok_app (sok_app b3 (ok_string _)) ht.1
      · exact a5 t h
mutual
theorem okR_toR : ∀ (d : D) (n : Nat), okR d = true → dpR d ≤ n → ∃ p : PyData, (∀ h : Hs, toR h n d = some p) ∧ p.bulk = bkR d ∧ p.showable = true ∧ p.leavesShort 72 = true ∧ p.depth ≤ dpR d ∧ PyData.strOk p.shown = true
  | .non, n, _, _ => ⟨.none, fun h => toR_of n _ _ toP_non, rfl, rfl, rfl, Nat.zero_le _, ok_string _⟩
  | .bl b, n, _, _ => ⟨.bool b, fun h => toR_of n _ _ toP_bl, rfl, rfl, rfl, Nat.zero_le _, by cases b <;> exact ok_string _⟩
  | .int i, n, hs, _ => by
    simp only [okR, decide_eq_true_eq] at hs
    obtain ⟨h1, h2, h3⟩ := shown_big hs
    exact ⟨.int i, fun h => toR_of n _ _ toP_int, rfl, h2, by simp only [PyData.leavesShort, decide_eq_true_eq]; exact h1, Nat.zero_le _, h3⟩
  | .str x, n, hs, _ => by
    simp only [okR, Bool.and_eq_true, decide_eq_true_eq] at hs
    obtain ⟨⟨⟨h1, h2⟩, h3⟩, h4⟩ := hs
    exact ⟨.str x, fun h => toR_of n _ _ (by cases n <;> simp [toP, h1]), rfl, rfl, by simpa [PyData.leavesShort] using h4, Nat.zero_le _, h2⟩
  | .tup xs, n, hs, hd => by
    simp only [okR] at hs
    simp only [dpR] at hd
    obtain ⟨n, rfl⟩ : ∃ m, n = m + 1 := ⟨n - 1, by omega⟩
    obtain ⟨ps, h1, h2, h3, h4, h6, h5⟩ := okRs_toR xs n hs (by omega)
    refine ⟨.tuple ps, fun h => toR_tup (h1 h).1, by simp only [PyData.bulk, bkR, h2], by simpa [PyData.showable] using h3, by simpa [PyData.leavesShort] using h4, by simp only [PyData.depth, dpR]; omega, ?_⟩
    show PyData.strOk (("(" : Str) ++ Str.join ", " (PyData.shownAll ps) ++ (if (PyData.shownAll ps).length == 1 then ",)" else ")" : String)) = true
    exact sok_app (sok_app (ok_string _) (sok_join _ (ok_string _) _ h5)) (ok_string _)
  | .lst xs, n, hs, hd => by
    simp only [okR] at hs
    simp only [dpR] at hd
    obtain ⟨n, rfl⟩ : ∃ m, n = m + 1 := ⟨n - 1, by omega⟩
    obtain ⟨ps, h1, h2, h3, h4, h6, h5⟩ := okRs_toR xs n hs (by omega)
    refine ⟨.list ps, fun h => toR_lst (h1 h).1, by simp only [PyData.bulk, bkR, h2], by simpa [PyData.showable] using h3, by simpa [PyData.leavesShort] using h4, by simp only [PyData.depth, dpR]; omega, ?_⟩
    show PyData.strOk (textFrom 0 "[" (PyData.shownAll ps) ++ "]") = true
    exact sok_app (sok_from _ _ _ (ok_string _) h5) (ok_string _)
  | .dic ks xs, n, hs, hd => by
    simp only [okR, Bool.and_eq_true, decide_eq_true_eq] at hs
    simp only [dpR] at hd
    obtain ⟨n, rfl⟩ : ∃ m, n = m + 1 := ⟨n - 1, by omega⟩
    obtain ⟨ps, h1, h2, h3, h4, h6, h5⟩ := okRs_toR xs n hs.2 (by omega)
    have hlen : xs.length = ps.length := (h1 []).2
    obtain ⟨a1, a2, a3, a4, a5⟩ := kv_facts (ks := ks) (ps := ps) (k := dpRs xs) hs.1.1 (by rw [hs.1.2, hlen]) h3 h4 h6 h5
    refine ⟨.dict ((ks.map keyP).zip ps), fun h => toR_dic (keys_ok hs.1.1) (h1 h).1, by simp only [PyData.bulk, bkR, a1, h2, hlen], by simpa [PyData.showable] using a2, by simpa [PyData.leavesShort] using a3, by simp only [PyData.depth, dpR]; omega, ?_⟩
    show PyData.strOk (("{" : Str) ++ Str.join ", " (PyData.shownKv ((ks.map keyP).zip ps)) ++ "}") = true
    exact sok_app (sok_app (ok_string _) (sok_join _ (ok_string _) _ a5)) (ok_string _)
  | .scr _, _, hs, _ => by simp [okR] at hs
  | .loc _, _, hs, _ => by simp [okR] at hs
theorem okRs_toR : ∀ (xs : List D) (n : Nat), okRs xs = true → dpRs xs ≤ n → ∃ ps : List PyData, (∀ h : Hs, xs.mapM (toR h n) = some ps ∧ xs.length = ps.length) ∧ PyData.bulkAll ps = bkRs xs ∧ PyData.showableAll ps = true ∧ PyData.leavesShortAll 72 ps = true ∧ PyData.depthAll ps ≤ dpRs xs ∧ ∀ t ∈ PyData.shownAll ps, PyData.strOk t = true
  | [], n, _, _ => ⟨[], fun _ => ⟨rfl, rfl⟩, rfl, rfl, rfl, Nat.zero_le _, by simp [PyData.shownAll]⟩
  | x :: xs, n, hs, hd => by
    simp only [okRs, Bool.and_eq_true] at hs
    simp only [dpRs] at hd
    obtain ⟨p, a1, a2, a3, a4, a6, a5⟩ := okR_toR x n hs.1 (by omega)
    obtain ⟨ps, b1, b2, b3, b4, b6, b5⟩ := okRs_toR xs n hs.2 (by omega)
    refine ⟨p :: ps, fun h => ⟨by rw [List.mapM_cons, a1 h, (b1 h).1]; rfl, by simp [(b1 h).2]⟩, by simp only [PyData.bulkAll, bkRs, a2, b2], by simp [PyData.showableAll, a3, b3], by simp [PyData.leavesShortAll, a4, b4], by simp only [PyData.depthAll, dpRs]; omega, fun t ht => ?_⟩
    simp only [PyData.shownAll, List.mem_cons] at ht
    rcases ht with rfl | ht
    · exact a5
    · exact b5 t ht
end
/-- a thing that can be shown: no more than M parts, no deeper than k -/
structure Sm (M k : Nat) (d : D) : Prop where
  ok : okR d = true
  bk : bkR d ≤ M
  dp : dpR d ≤ k
theorem Sm.repr {M k : Nat} {d : D} (s : Sm M k d) (hM : M ≤ 200000) (hk : k ≤ 60) : ∃ x : Str, PyData.strOk x = true ∧ ∀ h : Hs, reprR [d] h = .ok (.str x) h := by
  obtain ⟨p, h1, h2, h3, h4, h6, h5⟩ := okR_toR d 60 s.ok (by have := s.dp; omega)
  refine ⟨p.shown, h5, fun h => x_reprR (h1 h) h3 ?_ (by have := s.dp; omega)⟩
  have hl := PyData.shown_le_bulk 72 (by omega) p h4
  have := s.bk
  rw [sizeLine_eq]
  rw [h2] at hl
  omega
theorem Sm.mono {M k N l : Nat} {d : D} (s : Sm M k d) (h1 : M ≤ N) (h2 : k ≤ l) : Sm N l d := ⟨s.ok, Nat.le_trans s.bk h1, Nat.le_trans s.dp h2⟩
theorem sms {M k : Nat} : ∀ {xs : List D}, (∀ x ∈ xs, Sm M k x) → okRs xs = true ∧ bkRs xs ≤ xs.length * (M + 1) ∧ dpRs xs ≤ k
  | [], _ => ⟨rfl, Nat.zero_le _, Nat.zero_le _⟩
  | x :: xs, h => by
    obtain ⟨a, b, c⟩ := sms fun y hy => h y (List.mem_cons_of_mem _ hy)
    have hx := h x List.mem_cons_self
    have := hx.bk
    have := hx.dp
    refine ⟨by simp [okRs, hx.ok, a], ?_, by simp only [dpRs]; omega⟩
    simp only [bkRs, List.length_cons, Nat.add_mul, Nat.one_mul]; omega
theorem Sm.tup {M k : Nat} {xs : List D} (m : Nat) (h : ∀ x ∈ xs, Sm M k x) (hm : xs.length ≤ m) : Sm (m * (M + 1)) (k + 1) (.tup xs) := by
  obtain ⟨a, b, c⟩ := sms h
  have := Nat.mul_le_mul_right (M + 1) hm
  exact ⟨a, by simp only [bkR]; omega, by simp only [dpR]; omega⟩
theorem Sm.lst {M k : Nat} {xs : List D} (m : Nat) (h : ∀ x ∈ xs, Sm M k x) (hm : xs.length ≤ m) : Sm (m * (M + 1)) (k + 1) (.lst xs) := by
  obtain ⟨a, b, c⟩ := sms h
  have := Nat.mul_le_mul_right (M + 1) hm
  exact ⟨a, by simp only [bkR]; omega, by simp only [dpR]; omega⟩
theorem Sm.int {i : Int} (h : i.natAbs < bigN) : Sm 0 0 (.int i) := ⟨by simp [okR, h], Nat.le_refl _, Nat.le_refl _⟩
theorem small_big {i : Int} (h : -1000000 ≤ i ∧ i ≤ 1000000) : i.natAbs < bigN := Nat.lt_of_le_of_lt (show i.natAbs ≤ 1000000 by omega) (by decide +kernel)
theorem Sm.iT {ns : List Int} (m : Nat) (h : ∀ n ∈ ns, 0 ≤ n ∧ n ≤ 1000000) (hm : ns.length ≤ m) : Sm (m * 1) 1 (WD.iT ns) := Sm.tup (M := 0) (k := 0) m (fun x hx => by
  obtain ⟨n, hn, rfl⟩ := List.mem_map.mp hx
  have := h n hn
  exact Sm.int (small_big (by omega))) (by simpa using hm)
mutual
theorem okR_tL : ∀ d : D, okR (tL d) = okR d ∧ bkR (tL d) = bkR d ∧ dpR (tL d) = dpR d
  | .tup xs => by
    obtain ⟨a, b, c⟩ := okRs_tL xs
    exact ⟨by simp only [tL, okR, a], by simp only [tL, bkR, b], by simp only [tL, dpR, c]⟩
  | .non => ⟨rfl, rfl, rfl⟩
  | .bl _ => ⟨rfl, rfl, rfl⟩
  | .int _ => ⟨rfl, rfl, rfl⟩
  | .str _ => ⟨rfl, rfl, rfl⟩
  | .lst _ => ⟨rfl, rfl, rfl⟩
  | .scr _ => ⟨rfl, rfl, rfl⟩
  | .dic _ _ => ⟨rfl, rfl, rfl⟩
  | .loc _ => ⟨rfl, rfl, rfl⟩
theorem okRs_tL : ∀ xs : List D, okRs (tLs xs) = okRs xs ∧ bkRs (tLs xs) = bkRs xs ∧ dpRs (tLs xs) = dpRs xs
  | [] => ⟨rfl, rfl, rfl⟩
  | x :: xs => by
    obtain ⟨a, b, c⟩ := okR_tL x
    obtain ⟨a', b', c'⟩ := okRs_tL xs
    exact ⟨by simp only [tLs, okRs, a, a'], by simp only [tLs, bkRs, b, b'], by simp only [tLs, dpRs, c, c']⟩
end
theorem Sm.tL {M k : Nat} {d : D} (s : Sm M k d) : Sm M k (WD.tL d) := by
  obtain ⟨a, b, c⟩ := okR_tL d
  exact ⟨by rw [a]; exact s.ok, by rw [b]; exact s.bk, by rw [c]; exact s.dp⟩
theorem Sm.sd {t : Tk} {s : Sd} (ht : t.Ok) (hs : s.Ok t) : Sm 100 2 s.D := by
  obtain ⟨q1, q2, q3, q4, q5, q6, q7⟩ := hs.num ht
  refine (Sm.tup (M := 8) (k := 1) 4 (fun x hx => ?_) (by simp)).mono (by omega) (by omega)
  simp only [List.mem_cons, List.not_mem_nil, or_false] at hx
  rcases hx with rfl | rfl | rfl | rfl
  · exact (Sm.int (small_big (by omega))).mono (by omega) (by omega)
  · exact (Sm.iT 8 q2 q3).mono (by omega) (by omega)
  · exact (Sm.iT 8 q4 (by omega)).mono (by omega) (by omega)
  · exact (Sm.iT 8 q6 (by omega)).mono (by omega) (by omega)
theorem Sm.row {M k : Nat} {d : D} {h : Hs} {xs : List D} (s : Sm M k d) (hr : rowOf h d = some xs) : xs.length ≤ M ∧ ∀ y ∈ xs, Sm M k y := by
  have main : ∀ ys : List D, okRs ys = true → ys.length ≤ bkRs ys ∧ ∀ y ∈ ys, okR y = true ∧ bkR y ≤ bkRs ys ∧ dpR y ≤ dpRs ys := fun ys => by
    induction ys with
    | nil => exact fun _ => ⟨Nat.zero_le _, by simp⟩
    | cons y ys ih =>
      intro ho
      simp only [okRs, Bool.and_eq_true] at ho
      obtain ⟨a, b⟩ := ih ho.2
      refine ⟨by simp only [bkRs, List.length_cons]; omega, fun z hz => ?_⟩
      rcases List.mem_cons.mp hz with rfl | hz
      · exact ⟨ho.1, by simp only [bkRs]; omega, by simp only [dpRs]; omega⟩
      · obtain ⟨b1, b2, b3⟩ := b z hz
        exact ⟨b1, by simp only [bkRs]; omega, by simp only [dpRs]; omega⟩
  have s1 := s.ok
  have s2 := s.bk
  have s3 := s.dp
  cases d with
  | tup ys =>
    cases hr
    simp only [okR, bkR, dpR] at s1 s2 s3
    obtain ⟨a, b⟩ := main xs s1
    exact ⟨by omega, fun y hy => ⟨(b y hy).1, by have := (b y hy).2.1; omega, by have := (b y hy).2.2; omega⟩⟩
  | lst ys =>
    cases hr
    simp only [okR, bkR, dpR] at s1 s2 s3
    obtain ⟨a, b⟩ := main xs s1
    exact ⟨by omega, fun y hy => ⟨(b y hy).1, by have := (b y hy).2.1; omega, by have := (b y hy).2.2; omega⟩⟩
  | scr ys => simp [okR] at s1
  | loc n => simp [okR] at s1
  | _ => cases hr
mutual
theorem okR_und : ∀ (d : D) (n : Nat), okR d = true → d.und n = true
  | .non, _, _ => rfl
  | .bl _, _, _ => rfl
  | .int _, _, _ => rfl
  | .str _, _, _ => rfl
  | .tup xs, n, h => by
    simp only [okR] at h
    rw [D.und]; exact okRs_und xs n h
  | .lst xs, n, h => by
    simp only [okR] at h
    rw [D.und]; exact okRs_und xs n h
  | .dic ks xs, n, h => by
    simp only [okR, Bool.and_eq_true] at h
    rw [D.und]; exact okRs_und xs n h.2
  | .scr _, _, h => by simp [okR] at h
  | .loc _, _, h => by simp [okR] at h
theorem okRs_und : ∀ (xs : List D) (n : Nat), okRs xs = true → undL n xs = true
  | [], _, _ => rfl
  | x :: xs, n, h => by
    simp only [okRs, Bool.and_eq_true] at h
    rw [undL, okR_und x n h.1, okRs_und xs n h.2]; rfl
end
theorem Sm.und {M k : Nat} {d : D} (s : Sm M k d) (n : Nat) : d.und n = true := okR_und d n s.ok
mutual
theorem depT_dpR : ∀ d : D, depT d ≤ dpR d
  | .tup xs => by
    have := depTs_dpRs xs
    simp only [depT, dpR]; omega
  | .non => Nat.le_refl _
  | .bl _ => Nat.le_refl _
  | .int _ => Nat.le_refl _
  | .str _ => Nat.le_refl _
  | .lst _ => Nat.zero_le _
  | .scr _ => Nat.zero_le _
  | .dic _ _ => Nat.zero_le _
  | .loc _ => Nat.le_refl _
theorem depTs_dpRs : ∀ xs : List D, depTs xs ≤ dpRs xs
  | [] => Nat.le_refl _
  | x :: xs => by
    have h1 := depT_dpR x
    have h2 := depTs_dpRs xs
    simp only [depTs, dpRs]; omega
end
end WD
namespace WD
open PySem PySem.Spec PyProof.Rows L2
end WD
namespace WD
open PySem PySem.Spec PyProof.Rows L2
end WD
namespace WD
open PySem PySem.Spec PyProof.Rows L2
end WD
namespace WD
open PySem PySem.Spec PyProof.Rows L2
end WD
namespace WD
open PySem PySem.Spec PyProof.Rows L2
/-- a day of a task's things -/
structure TDay (t : Tk) (day : List Int) : Prop where
  srt : day.Pairwise (· < ·)
  bd : ∀ i ∈ day, 0 ≤ i ∧ i < t.ns.length
end WD
namespace WD
open PySem PySem.Spec PyProof.Rows L2
end WD
namespace WD
open PySem PySem.Spec PyProof.Rows L2
end WD
namespace WD
open PySem PySem.Spec PyProof.Rows L2
end WD
namespace WD
open PySem PySem.Spec PyProof.Rows L2
def rowK (ns : List Int) : NestedKey := .tup (ns.map NestedKey.num)
def sdK (s : Sd) : NestedKey := .tup [.num s.ph, rowK s.ws, rowK s.busy, rowK s.last]
theorem nkOfs_ints : ∀ ns : List Int, nkOfs (ns.map D.int) = some (ns.map NestedKey.num)
  | [] => rfl
  | n :: ns => by rw [List.map_cons, nkOfs, nkOfs_ints ns]; rfl
theorem nk_row (ns : List Int) : nkOf (iT ns) = some (rowK ns) := by
  show (nkOfs (ns.map D.int)).map NestedKey.tup = _
  rw [nkOfs_ints]; rfl
theorem nk_sd (s : Sd) : nkOf s.D = some (sdK s) := by
  show (nkOfs [.int s.ph, iT s.ws, iT s.busy, iT s.last]).map NestedKey.tup = _
  simp only [nkOfs, nk_row]
  rfl
theorem depAll_ints : ∀ ns : List Int, NestedKey.depthAll (ns.map NestedKey.num) ≤ 1
  | [] => by simp [NestedKey.depthAll]
  | n :: ns => by
    have := depAll_ints ns
    simp only [List.map_cons, NestedKey.depthAll, NestedKey.depth]
    omega
theorem dep_row (ns : List Int) : (rowK ns).depth ≤ 2 := by
  have := depAll_ints ns
  simp only [rowK, NestedKey.depth]
  omega
theorem dep_sd (s : Sd) : (sdK s).depth ≤ 8 := by
  have h1 := dep_row s.ws
  have h2 := dep_row s.busy
  have h3 := dep_row s.last
  simp only [sdK, NestedKey.depth, NestedKey.depthAll]
  omega
@[simp] theorem keyN_sd (s : Sd) : keyN s.D = some (sdK s) := by
  show (nkOf s.D).bind (fun q => if q.depth ≤ 8 then some q else none) = _
  rw [nk_sd]
  show (if (sdK s).depth ≤ 8 then some (sdK s) else none) = _
  rw [if_pos (dep_sd s)]
@[simp] theorem x_dget {fd fk : FE} {s : Ss} {h : Hs} : eDGet fd fk s h = (fd s h).bind fun d h1 => (fk s h1).bind fun k h2 => match dctG h2 d, keyN k with
  | some kvs, some nk => (match getN kvs nk with
    | some v => .ok v h2
    | none => .bad)
  | _, _ => .bad := (rfl)
@[simp] theorem x_dput {fd fk fv : FE} {s : Ss} {h : Hs} : sDPut fd fk fv s h = RS.ofR s (fv s h) fun v h1 => RS.ofR s (fd s h1) fun d h2 => RS.ofR s (fk s h2) fun k h3 => match d, keyN k with
  | .loc n, some nk => (match dctF h3 n with
    | some kvs => if kvs.length < sizeLine then .nx s (h3.set n (.dct false (putN kvs k v nk))) else .bad
    | none => .bad)
  | _, _ => .bad := (rfl)
@[simp] theorem x_dpop {fd fk : FE} {s : Ss} {h : Hs} : eDPop fd fk s h = (fd s h).bind fun d h1 => match dctG h1 d with
  | some _ => (fk s h1).bind fun k h2 => (match d, keyN k with
    | .loc n, some nk => (match dctF h2 n with
      | some kvs => (match getN kvs nk with
        | some v => .ok v (h2.set n (.dct false (dropN kvs nk)))
        | none => .bad)
      | none => .bad)
    | _, _ => .bad)
  | none => .bad := (rfl)
end WD
namespace WD
open PySem PySem.Spec PyProof.Rows L2
def bump (so l : List Int) : List Int := l.zipIdx.map fun p => p.1 + (if so.contains (p.2 : Int) = true then 1 else 0)
def Tk.up (t : Tk) (so : List Int) : Tk := ⟨bump so t.ns, t.hands, t.off, t.lg, t.tied⟩
def Sd.up (s : Sd) (so : List Int) : Sd := ⟨s.ph, bump so s.ws, s.busy, s.last⟩
theorem int_bl {b : Bool} {h : Hs} : intD [.bl b] h = .ok (.int (if b = true then 1 else 0)) h := by cases b <;> rfl
/-- rising things of a task -/
structure So (many : Nat) (so : List Int) : Prop where
  pw : so.Pairwise (· < ·)
  bd : ∀ i ∈ so, 0 ≤ i ∧ i < many
theorem So.ris {many : Nat} {so : List Int} {d : D} {h : Hs} (x : So many so) (hd : rowOf h d = some (so.map D.int)) : isRis h 0 ((many : Int) - 1) d = true := by
  unfold isRis
  rw [hd]
  exact ris_of x.pw fun i hi => by have := x.bd i hi; omega
end WD
namespace WD
open PySem PySem.Spec PyProof.Rows L2
theorem So.sub {many : Nat} {a b : List Int} (x : So many a) (h : b.Sublist a) : So many b := ⟨x.pw.sublist h, fun i hi => x.bd i (h.mem hi)⟩
theorem so_len {many : Nat} {so : List Int} (x : So many so) : so.length ≤ many := by
  have := len_sub (pw_nodup x.pw) (m := (List.range many).map fun (i : Nat) => (i : Int)) fun i hi => by
    have := x.bd i hi
    exact List.mem_map.mpr ⟨i.toNat, List.mem_range.mpr (by omega), by omega⟩
  simpa using this
theorem so_len8 {many : Nat} {so : List Int} (x : So many so) (hm : many ≤ 8) : so.length ≤ 8 := Nat.le_trans (so_len x) hm
end WD
namespace WD
open PySem PySem.Spec PyProof.Rows L2
def stay (many : Nat) (g : List Int) : List Int := ((List.range many).map fun (i : Nat) => (i : Int)).filter fun i => !g.contains i
def rn (g : List Int) (i : Int) : Int := i - ((g.filter fun o => decide (o < i)).length : Int)
def anewL (g row : List Int) : List Int := (row.filter fun i => !g.contains i).map (rn g)
end WD
namespace WD
open PySem PySem.Spec PyProof.Rows L2
def Tk.go (t : Tk) (g : List Int) : Tk := ⟨(stay t.ns.length g).map fun i => t.ns.getD i.toNat 0, t.hands, t.off, anewL g t.lg, (t.tied.filter fun p => !g.contains p.1 && !g.contains p.2).map fun p => (rn g p.1, rn g p.2)⟩
def Sd.go (s : Sd) (t : Tk) (g : List Int) : Sd := ⟨s.ph, (stay t.ns.length g).map fun i => s.ws.getD i.toNat 0, anewL g s.busy, (anewL g s.last).filter fun i => (t.go g).ends.contains i⟩
theorem So.of_ris {many : Nat} {ns : List Int} (h : risL 0 ((many : Int) - 1) (ns.map D.int) = true) : So many ns := by
  have := ris_pw h
  exact ⟨this.1, fun i hi => by have := this.2 i hi; omega⟩
end WD
namespace WD
open PySem PySem.Spec PyProof.Rows L2
theorem ltP_tr {a b c : Int × Int} (h1 : ltP a b = true) (h2 : ltP b c = true) : ltP a c = true := by
  simp only [ltP, decide_eq_true_eq] at *; omega
theorem pw_of_adj : ∀ {l : List (Int × Int)}, adjB ltP l = true → l.Pairwise (fun a b => ltP a b = true)
  | [], _ => List.Pairwise.nil
  | [a], _ => List.pairwise_singleton _ _
  | a :: b :: l, h => by
    rw [adjB, Bool.and_eq_true] at h
    have ih := pw_of_adj h.2
    refine List.pairwise_cons.mpr ⟨fun c hc => ?_, ih⟩
    rcases List.mem_cons.mp hc with rfl | hc
    · exact h.1
    · exact ltP_tr h.1 ((List.pairwise_cons.mp ih).1 c hc)
end WD
namespace WD
open PySem PySem.Spec PyProof.Rows L2
theorem sortP_incN {ps : List (Int × Int)} (h : ps.Nodup) : adjB ltP (sortP ps) = true := by
  refine adj_of_pw _ ?_
  have hnd : (sortP ps).Nodup := (sortP_perm ps).nodup_iff.mpr h
  refine ((sortP_srt ps).and hnd).imp fun {a b} hab => ?_
  obtain ⟨h1, h2⟩ := hab
  have h3 : ¬ (b.1 < a.1 ∨ (b.1 = a.1 ∧ b.2 < a.2)) := fun q => by
    have : ltPr b a = true := SrtO.lexB_iff.mpr q
    rw [h1] at this; cases this
  have h4 : ¬ (a.1 = b.1 ∧ a.2 = b.2) := fun q => h2 (Prod.ext q.1 q.2)
  simp only [ltP, decide_eq_true_eq]
  omega

end WD
namespace WD
open PySem PySem.Spec PyProof.Rows L2
theorem law_of_eq {n : Nat} {H : Hs} {d : D} {xs : List D} (hk : Dk n H) (hr : ∀ H2, Dw n H H2 → rowOf H2 d = some xs) (hne : xs ≠ []) (hz : xs.length ≤ 100000) (hu : ∀ x ∈ xs, x.und H.length = true) : ∃ x ∈ xs, ∃ H2, Dw n H H2 ∧ Dk n H2 ∧ F__law_of [.loc n, d] H = .ok x H2 := by
  obtain ⟨v, H2, w, k2, e⟩ := hk.next
  have hl := x_len (h := H2) (hr H2 w)
  have hp : 0 < xs.length := List.length_pos_iff.mpr hne
  have hi0 : 0 ≤ v % (xs.length : Int) := Int.emod_nonneg _ (by omega)
  have hi1 : v % (xs.length : Int) < xs.length := Int.emod_lt_of_pos _ (by omega)
  have hm : modD (.int v) (.int xs.length) H2 = .ok (.int (v % (xs.length : Int))) H2 := by
    have h0 : 0 < (xs.length : Int) := by omega
    generalize (xs.length : Int) = L at *
    simp [h0]
  have hx := ix_mem (h := H2) (d := d) (hr H2 w) hi0 hi1
  have hmem : xs[(v % (xs.length : Int)).toNat]'(by omega) ∈ xs := List.getElem_mem _
  generalize xs[(v % (xs.length : Int)).toNat]'(by omega) = x at *
  refine ⟨x, hmem, H2, w, k2, ?_⟩
  have hex := w.exit (hu x hmem)
  generalize v % (xs.length : Int) = i at *
  generalize (xs.length : Int) = L at *
  simp [F__law_of, b__law_of, e, hl, hm, hx, hex]

end WD
namespace WD
open PySem PySem.Spec PyProof.Rows L2
theorem vq_day {h : Hs} {n : Nat} {d : D} {r : List Int} (e : rowOf h d = some (r.map D.int)) : vq h (n + 1) d = some (dayQ r) := by
  rw [vq_row e]
  have : ∀ r : List Int, (r.map D.int).mapM (vq h n) = some (r.map Q.int) := by
    intro r
    induction r with
    | nil => rfl
    | cons x r ih =>
      have hx : vq h n (.int x) = some (.int x) := by cases n <;> rfl
      rw [List.map_cons, List.mapM_cons, hx, ih]; rfl
  rw [this r]
  rfl
/-- side by side -/
def relD {α : Type} (R : D → α → Prop) : List D → List α → Prop
  | [], [] => True
  | x :: xs, y :: ys => R x y ∧ relD R xs ys
  | _, _ => False
theorem relD.len {α : Type} {R : D → α → Prop} : ∀ {xs : List D} {ys : List α}, relD R xs ys → xs.length = ys.length
  | [], [], _ => rfl
  | [], _ :: _, h => h.elim
  | _ :: _, [], h => h.elim
  | _ :: _, _ :: _, h => by simp [relD.len h.2]
theorem relD.app {α : Type} {R : D → α → Prop} : ∀ {xs xs' : List D} {ys ys' : List α}, relD R xs ys → relD R xs' ys' → relD R (xs ++ xs') (ys ++ ys')
  | [], _, [], _, _, q => q
  | [], _, _ :: _, _, h, _ => h.elim
  | _ :: _, _, [], _, h, _ => h.elim
  | _ :: _, _, _ :: _, _, h, q => ⟨h.1, relD.app h.2 q⟩
theorem relD.mapM {α : Type} {R : D → α → Prop} {f : D → Option Q} {g : α → Q} (hf : ∀ x y, R x y → f x = some (g y)) : ∀ {xs : List D} {ys : List α}, relD R xs ys → xs.mapM f = some (ys.map g)
  | [], [], _ => rfl
  | [], _ :: _, h => h.elim
  | _ :: _, [], h => h.elim
  | x :: xs, y :: ys, h => by rw [List.mapM_cons, hf x y h.1, relD.mapM hf h.2]; rfl
/-- a row of these numbers -/
def DayR (h : Hs) (y : D) (d : List Int) : Prop := rowOf h y = some (d.map D.int)
def StR (h : Hs) (y : D) (s : Sd) : Prop := ∃ w b l, rowOf h y = some [.int s.ph, w, b, l] ∧ rowOf h w = some (s.ws.map D.int) ∧ rowOf h b = some (s.busy.map D.int) ∧ rowOf h l = some (s.last.map D.int)
theorem StR.vq {h : Hs} {y : D} {s : Sd} (r : StR h y s) : vq h 2 y = some s.Q := by
  obtain ⟨w, b, l, hr, w1, b1, l1⟩ := r
  rw [vq_row hr]
  have v1 := vq_day (n := 0) w1
  have v2 := vq_day (n := 0) b1
  have v3 := vq_day (n := 0) l1
  simp only [List.mapM_cons, List.mapM_nil, v1, v2, v3]
  rfl
/-- how an answer lies there -/
def An.At (h : Hs) (x : WD.D) : An → Prop
  | .on l r => ∃ a b as bs, rowOf h x = some [.str (Str.ofString "on"), a, b] ∧ rowOf h a = some as ∧ rowOf h b = some bs ∧ relD (DayR h) as l ∧ relD (DayR h) bs r
  | .cnt c p => rowOf h x = some [.str (Str.ofString "count"), .int c, .int p]
  | .walk ss => ∃ a as, rowOf h x = some [.str (Str.ofString "walk"), a] ∧ rowOf h a = some as ∧ relD (StR h) as ss
theorem An.At.vq {h : Hs} {x : WD.D} {a : An} (e : a.At h x) : WD.vq h 4 x = some a.Q := by
  cases a with
  | on l r =>
    obtain ⟨a, b, as, bs, hr, ra, rb, d1, d2⟩ := e
    have m1 := d1.mapM (f := WD.vq h 2) (g := dayQ) fun x y q => vq_day (n := 1) q
    have m2 := d2.mapM (f := WD.vq h 2) (g := dayQ) fun x y q => vq_day (n := 1) q
    have va : WD.vq h 3 a = some (ringQ l) := by rw [vq_row ra, m1]; rfl
    have vb : WD.vq h 3 b = some (ringQ r) := by rw [vq_row rb, m2]; rfl
    rw [vq_row hr]
    simp only [List.mapM_cons, List.mapM_nil, va, vb]
    rfl
  | cnt c p =>
    have e : rowOf h x = some [.str (Str.ofString "count"), .int c, .int p] := e
    rw [vq_row e]; rfl
  | walk ss =>
    obtain ⟨a, as, hr, ra, d1⟩ := e
    have m1 := d1.mapM (f := WD.vq h 2) (g := Sd.Q) fun x y q => q.vq
    have va : WD.vq h 3 a = some (.row (ss.map Sd.Q)) := by rw [vq_row ra, m1]; rfl
    rw [vq_row hr]
    simp only [List.mapM_cons, List.mapM_nil, va]
    rfl
end WD
namespace WD
open PySem PySem.Spec PyProof.Rows L2
theorem for_liveI {f : FE} {g : Tg} {b : FS} {s : Ss} {h h1 : Hs} {n : Nat} {xs : List D} (e : f s h = .ok (.loc n) h1) (el : locAt h1 n = some xs) (Inv : Nat → Ss → Hs → Prop) (hinv : ∀ i s h, Inv i s h → locAt h n = some xs) (h0 : Inv 0 s h1)
    (hstep : ∀ (i : Nat) d, xs[i]? = some d → ∀ s s' h, Inv i s h → g d s h = some s' → ∀ s2 h2, b s' h = .nx s2 h2 ∨ b s' h = .ct s2 h2 → Inv (i + 1) s2 h2) : sFor (iRow f) g b s h = loopS g b xs s h1 := by
  have ei : iRow f s h = .ok (.loc n) h1 := by
    unfold iRow
    rw [e]
    exact if_pos (by rw [el]; rfl)
  rw [sFor_loc ei el, loopL_eq Inv hinv (fun i d s s' h hi hx hg s2 h2 => hstep i d hx s s' h hi hg s2 h2) _ 0 s h1 (by omega) h0]
  rfl

end WD
namespace WD
open PySem PySem.Spec PyProof.Rows L2
mutual
/-- a thing whose lists lie at places from lo up to b, each at its own; dS is the same with still lists -/
def Lk (G : Hs) (lo b : Nat) (d : D) : D → Prop
  | .tup ys => ∃ xs, d = .tup xs ∧ Lks G lo b xs ys
  | .lst ys => ∃ p xs, d = .loc p ∧ lo ≤ p ∧ p < b ∧ G[p]? = some (.lst xs) ∧ xs.length ≤ 100000 ∧ Lks G lo p xs ys
  | .non => d = .non ∧ lo ≤ b
  | .bl v => d = .bl v ∧ lo ≤ b
  | .int i => d = .int i ∧ lo ≤ b
  | .str x => d = .str x ∧ lo ≤ b
  | _ => False
def Lks (G : Hs) (lo b : Nat) (xs : List D) : List D → Prop
  | [] => xs = [] ∧ lo ≤ b
  | y :: ys => ∃ x r m, xs = x :: r ∧ Lk G lo m x y ∧ Lks G m b r ys
end
mutual
theorem Lk.le {G : Hs} : ∀ (dS : D) (lo b : Nat) (d : D), Lk G lo b d dS → lo ≤ b
  | .tup ys, lo, b, d, h => by
    simp only [Lk] at h
    obtain ⟨xs, _, h⟩ := h
    exact Lks.le ys lo b xs h
  | .lst ys, lo, b, d, h => by
    simp only [Lk] at h
    obtain ⟨p, xs, _, h1, h2, _⟩ := h
    omega
  | .non, lo, b, d, h => by simp only [Lk] at h; exact h.2
  | .bl _, lo, b, d, h => by simp only [Lk] at h; exact h.2
  | .int _, lo, b, d, h => by simp only [Lk] at h; exact h.2
  | .str _, lo, b, d, h => by simp only [Lk] at h; exact h.2
  | .scr _, lo, b, d, h => by simp only [Lk] at h
  | .dic _ _, lo, b, d, h => by simp only [Lk] at h
  | .loc _, lo, b, d, h => by simp only [Lk] at h
theorem Lks.le {G : Hs} : ∀ (ys : List D) (lo b : Nat) (xs : List D), Lks G lo b xs ys → lo ≤ b
  | [], lo, b, xs, h => by simp only [Lks] at h; exact h.2
  | y :: ys, lo, b, xs, h => by
    simp only [Lks] at h
    obtain ⟨x, r, m, _, h1, h2⟩ := h
    exact Nat.le_trans (Lk.le y lo m x h1) (Lks.le ys m b r h2)
end
mutual
theorem Lk.frame {G G' : Hs} : ∀ (dS : D) (lo b b' : Nat) (d : D), b ≤ b' → (∀ i, lo ≤ i → i < b → G'[i]? = G[i]?) → Lk G lo b d dS → Lk G' lo b' d dS
  | .tup ys, lo, b, b', d, hb, hg, h => by
    simp only [Lk] at h ⊢
    obtain ⟨xs, e, h⟩ := h
    exact ⟨xs, e, Lks.frame ys lo b b' xs hb hg h⟩
  | .lst ys, lo, b, b', d, hb, hg, h => by
    simp only [Lk] at h ⊢
    obtain ⟨p, xs, e, h1, h2, h3, h4, h5⟩ := h
    exact ⟨p, xs, e, h1, by omega, by rw [hg p h1 h2]; exact h3, h4, Lks.frame ys lo p p xs (Nat.le_refl _) (fun i a1 a2 => hg i a1 (by omega)) h5⟩
  | .non, lo, b, b', d, hb, hg, h => by simp only [Lk] at h ⊢; exact ⟨h.1, by omega⟩
  | .bl _, lo, b, b', d, hb, hg, h => by simp only [Lk] at h ⊢; exact ⟨h.1, by omega⟩
  | .int _, lo, b, b', d, hb, hg, h => by simp only [Lk] at h ⊢; exact ⟨h.1, by omega⟩
  | .str _, lo, b, b', d, hb, hg, h => by simp only [Lk] at h ⊢; exact ⟨h.1, by omega⟩
  | .scr _, lo, b, b', d, hb, hg, h => by simp only [Lk] at h
  | .dic _ _, lo, b, b', d, hb, hg, h => by simp only [Lk] at h
  | .loc _, lo, b, b', d, hb, hg, h => by simp only [Lk] at h
theorem Lks.frame {G G' : Hs} : ∀ (ys : List D) (lo b b' : Nat) (xs : List D), b ≤ b' → (∀ i, lo ≤ i → i < b → G'[i]? = G[i]?) → Lks G lo b xs ys → Lks G' lo b' xs ys
  | [], lo, b, b', xs, hb, hg, h => by simp only [Lks] at h ⊢; exact ⟨h.1, by omega⟩
  | y :: ys, lo, b, b', xs, hb, hg, h => by
    simp only [Lks] at h ⊢
    obtain ⟨x, r, m, e, h1, h2⟩ := h
    have l1 := Lk.le y lo m x h1
    have l2 := Lks.le ys m b r h2
    exact ⟨x, r, m, e, Lk.frame y lo m m x (Nat.le_refl _) (fun i a1 a2 => hg i a1 (by omega)) h1, Lks.frame ys m b b' r hb (fun i a1 a2 => hg i (by omega) a2) h2⟩
end
mutual
theorem Lk.down {G : Hs} : ∀ (dS : D) (lo m b : Nat) (d : D), lo ≤ m → Lk G m b d dS → Lk G lo b d dS
  | .tup ys, lo, m, b, d, hl, h => by
    simp only [Lk] at h ⊢
    obtain ⟨xs, e, h⟩ := h
    exact ⟨xs, e, Lks.down ys lo m b xs hl h⟩
  | .lst ys, lo, m, b, d, hl, h => by
    simp only [Lk] at h ⊢
    obtain ⟨p, xs, e, h1, h2, h3, h4, h5⟩ := h
    exact ⟨p, xs, e, by omega, h2, h3, h4, Lks.down ys lo m p xs hl h5⟩
  | .non, lo, m, b, d, hl, h => by simp only [Lk] at h ⊢; exact ⟨h.1, by omega⟩
  | .bl _, lo, m, b, d, hl, h => by simp only [Lk] at h ⊢; exact ⟨h.1, by omega⟩
  | .int _, lo, m, b, d, hl, h => by simp only [Lk] at h ⊢; exact ⟨h.1, by omega⟩
  | .str _, lo, m, b, d, hl, h => by simp only [Lk] at h ⊢; exact ⟨h.1, by omega⟩
  | .scr _, lo, m, b, d, hl, h => by simp only [Lk] at h
  | .dic _ _, lo, m, b, d, hl, h => by simp only [Lk] at h
  | .loc _, lo, m, b, d, hl, h => by simp only [Lk] at h
theorem Lks.down {G : Hs} : ∀ (ys : List D) (lo m b : Nat) (xs : List D), lo ≤ m → Lks G m b xs ys → Lks G lo b xs ys
  | [], lo, m, b, xs, hl, h => by simp only [Lks] at h ⊢; exact ⟨h.1, by omega⟩
  | y :: ys, lo, m, b, xs, hl, h => by
    simp only [Lks] at h ⊢
    obtain ⟨x, r, k, e, h1, h2⟩ := h
    exact ⟨x, r, k, e, Lk.down y lo m k x hl h1, h2⟩
end
theorem Lks.snoc {G : Hs} {x y : D} : ∀ {ys : List D} {lo m b : Nat} {xs : List D}, Lks G lo m xs ys → Lk G m b x y → Lks G lo b (xs ++ [x]) (ys ++ [y])
  | [], lo, m, b, xs, h, k => by
    simp only [Lks] at h
    obtain ⟨rfl, hl⟩ := h
    have hb := Lk.le _ _ _ _ k
    have k2 : Lk G lo b x y := Lk.down y lo m b x hl k
    simp only [List.nil_append, Lks]
    exact ⟨x, [], b, rfl, k2, rfl, Nat.le_refl _⟩
  | z :: ys, lo, m, b, xs, h, k => by
    simp only [Lks] at h
    obtain ⟨w, r, m', rfl, h1, h2⟩ := h
    have := Lks.snoc h2 k
    simp only [List.cons_append, Lks]
    exact ⟨w, r ++ [x], m', rfl, h1, this⟩
mutual
theorem Lk.vq {G : Hs} : ∀ (dS : D) (lo b : Nat) (d : D) (n : Nat), Lk G lo b d dS → WD.vq G n d = WD.vq G n dS
  | .tup ys, lo, b, d, n, h => by
    simp only [Lk] at h
    obtain ⟨xs, rfl, h⟩ := h
    cases n with
    | zero => rfl
    | succ n => rw [vq_row (d := .tup xs) (xs := xs) rfl, vq_row (d := .tup ys) (xs := ys) rfl, Lks.vq ys lo b xs n h]
  | .lst ys, lo, b, d, n, h => by
    simp only [Lk] at h
    obtain ⟨p, xs, rfl, h1, h2, h3, h4, h5⟩ := h
    cases n with
    | zero => rfl
    | succ n =>
      have hr : rowOf G (.loc p) = some xs := by
        show locAt G p = _
        unfold locAt; rw [h3]; rfl
      rw [vq_row (d := .loc p) hr, vq_row (d := .lst ys) (xs := ys) rfl, Lks.vq ys lo p xs n h5]
  | .non, lo, b, d, n, h => by simp only [Lk] at h; rw [h.1]
  | .bl _, lo, b, d, n, h => by simp only [Lk] at h; rw [h.1]
  | .int _, lo, b, d, n, h => by simp only [Lk] at h; rw [h.1]
  | .str _, lo, b, d, n, h => by simp only [Lk] at h; rw [h.1]
  | .scr _, lo, b, d, n, h => by simp only [Lk] at h
  | .dic _ _, lo, b, d, n, h => by simp only [Lk] at h
  | .loc _, lo, b, d, n, h => by simp only [Lk] at h
theorem Lks.vq {G : Hs} : ∀ (ys : List D) (lo b : Nat) (xs : List D) (n : Nat), Lks G lo b xs ys → xs.mapM (WD.vq G n) = ys.mapM (WD.vq G n)
  | [], lo, b, xs, n, h => by simp only [Lks] at h; rw [h.1]
  | y :: ys, lo, b, xs, n, h => by
    simp only [Lks] at h
    obtain ⟨x, r, m, rfl, h1, h2⟩ := h
    rw [List.mapM_cons, List.mapM_cons, Lk.vq y lo m x n h1, Lks.vq ys m b r n h2]
end
mutual
theorem Lk.toP {G : Hs} : ∀ (dS : D) (lo b : Nat) (d : D) (n : Nat), Lk G lo b d dS → WD.toP G n d = WD.toP G n dS
  | .tup ys, lo, b, d, n, h => by
    simp only [Lk] at h
    obtain ⟨xs, rfl, h⟩ := h
    cases n with
    | zero => rfl
    | succ n =>
      show (xs.mapM (WD.toP G n)).map PyData.tuple = (ys.mapM (WD.toP G n)).map PyData.tuple
      rw [Lks.toP ys lo b xs n h]
  | .lst ys, lo, b, d, n, h => by
    simp only [Lk] at h
    obtain ⟨p, xs, rfl, h1, h2, h3, h4, h5⟩ := h
    cases n with
    | zero => rfl
    | succ n =>
      have hr : lstOf G (.loc p) = some xs := by
        show locAt G p = _
        unfold locAt; rw [h3]; rfl
      have e1 : WD.toP G (n + 1) (.loc p) = (xs.mapM (WD.toP G n)).map PyData.list := by
        show (match lstOf G (.loc p) with
          | some xs => (xs.mapM (WD.toP G n)).map PyData.list
          | none => none) = _
        rw [hr]
      have e2 : WD.toP G (n + 1) (.lst ys) = (ys.mapM (WD.toP G n)).map PyData.list := rfl
      rw [e1, e2, Lks.toP ys lo p xs n h5]
  | .non, lo, b, d, n, h => by simp only [Lk] at h; rw [h.1]
  | .bl _, lo, b, d, n, h => by simp only [Lk] at h; rw [h.1]
  | .int _, lo, b, d, n, h => by simp only [Lk] at h; rw [h.1]
  | .str _, lo, b, d, n, h => by simp only [Lk] at h; rw [h.1]
  | .scr _, lo, b, d, n, h => by simp only [Lk] at h
  | .dic _ _, lo, b, d, n, h => by simp only [Lk] at h
  | .loc _, lo, b, d, n, h => by simp only [Lk] at h
theorem Lks.toP {G : Hs} : ∀ (ys : List D) (lo b : Nat) (xs : List D) (n : Nat), Lks G lo b xs ys → xs.mapM (WD.toP G n) = ys.mapM (WD.toP G n)
  | [], lo, b, xs, n, h => by simp only [Lks] at h; rw [h.1]
  | y :: ys, lo, b, xs, n, h => by
    simp only [Lks] at h
    obtain ⟨x, r, m, rfl, h1, h2⟩ := h
    rw [List.mapM_cons, List.mapM_cons, Lk.toP y lo m x n h1, Lks.toP ys m b r n h2]
end
inductive Ch (g : Tg) (b : FS) (s : Ss) (J : Hs → Prop) : List D → Hs → Hs → Prop
  | nil {G : Hs} : Ch g b s J [] G G
  | cons {x : D} {xs : List D} {G G1 G2 : Hs} {s1 : Ss} (hg : g x s G = some s1) (hb : b s1 G = .nx s G1) (hj : J G1) (r : Ch g b s J xs G1 G2) : Ch g b s J (x :: xs) G G2
theorem Ch.run {g : Tg} {b : FS} {s : Ss} {J : Hs → Prop} {xs : List D} {G G' : Hs} (c : Ch g b s J xs G G') : loopS g b xs s G = .nx s G' := by
  induction c with
  | nil => rfl
  | cons hg hb hj r ih => exact (loop_nx hg hb).trans ih
theorem Ch.live {g : Tg} {b : FS} {s : Ss} {J : Hs → Prop} {n : Nat} {xs : List D} (hJ : ∀ G, J G → locAt G n = some xs) {rest : List D} {G G' : Hs} (c : Ch g b s J rest G G') : ∀ (i f : Nat), xs.drop i = rest → J G → rest.length < f → loopL g b n f i s G = .nx s G' := by
  induction c with
  | nil =>
    intro i f e hj hf
    obtain ⟨f, rfl⟩ : ∃ m, f = m + 1 := ⟨f - 1, by simp at hf; omega⟩
    have hl : xs.length ≤ i := List.drop_eq_nil_iff.mp e
    unfold loopL
    simp only [hJ _ hj, List.getElem?_eq_none hl]
  | @cons x xs' G G1 G2 s1 hg hb hj' r ih =>
    intro i f e hj hf
    obtain ⟨f, rfl⟩ : ∃ m, f = m + 1 := ⟨f - 1, by simp at hf; omega⟩
    have hi : xs[i]? = some x := by
      have := congrArg (fun l => l[0]?) e
      simpa using this
    have hd : xs.drop (i + 1) = xs' := by
      have := congrArg (List.drop 1) e
      rw [List.drop_drop] at this
      simpa [Nat.add_comm] using this
    unfold loopL
    simp only [hJ _ hj, hi, hg, hb]
    exact ih (i + 1) f hd hj' (by simp at hf; omega)
mutual
theorem Lk.spoil : ∀ (dS : D) (lo b : Nat) (d : D) (fuel : Nat) (G : Hs), Lk G lo b d dS → depD dS < fuel → ∃ G', F__law_spoil fuel [d] G = .ok .non G' ∧ G'.length = G.length ∧ ∀ i, (i < lo ∨ b ≤ i) → G'[i]? = G[i]?
  | .tup ys, lo, b, d, fuel, G, h, hf => by
    simp only [Lk] at h
    obtain ⟨xs, rfl, h⟩ := h
    obtain ⟨fuel, rfl⟩ : ∃ m, fuel = m + 1 := ⟨fuel - 1, by omega⟩
    obtain ⟨G', c, h1, h2⟩ := Lks.spoil ys lo b xs fuel G (.tup xs) (fun _ => True) h (by simp only [depD] at hf; omega) (fun _ _ _ _ _ => trivial) trivial
    have hlp : sFor (iRow (eVar 0)) (gVar 1) (sFa [1] (sExpr (eCall 1 (F__law_spoil fuel) (aCons (eVar 1) aNil)))) [some (.tup xs), none] G = .nx [some (.tup xs), none] G' := (for_tup (h1 := G) (xs := xs) rfl).trans c.run
    refine ⟨G', ?_, h1, h2⟩
    simp [F__law_spoil, b__law_spoil, hlp]
  | .lst ys, lo, b, d, fuel, G, h, hf => by
    simp only [Lk] at h
    obtain ⟨p, xs, rfl, k1, k2, k3, k4, h⟩ := h
    obtain ⟨fuel, rfl⟩ : ∃ m, fuel = m + 1 := ⟨fuel - 1, by omega⟩
    have hat : locAt G p = some xs := by unfold locAt; rw [k3]; rfl
    obtain ⟨G1, c, h1, h2⟩ := Lks.spoil ys lo p xs fuel G (.loc p) (fun G => G[p]? = some (.lst xs)) h (by simp only [depD] at hf; omega) (fun A B _ e j => by rw [e p (.inr (Nat.le_refl _))]; exact j) k3
    have hJ : ∀ A : Hs, A[p]? = some (.lst xs) → locAt A p = some xs := fun A e => by unfold locAt; rw [e]; rfl
    have ei : iRow (eVar 0) [some (.loc p), none] G = .ok (.loc p) G := by
      unfold iRow
      show (R.ok (D.loc p) G).bind _ = _
      exact if_pos (by rw [hat]; rfl)
    have hlp : sFor (iRow (eVar 0)) (gVar 1) (sFa [1] (sExpr (eCall 1 (F__law_spoil fuel) (aCons (eVar 1) aNil)))) [some (.loc p), none] G = .nx [some (.loc p), none] G1 := (sFor_loc ei hat).trans (c.live hJ 0 _ rfl k3 (Nat.lt_succ_self _))
    have g1 : G1[p]? = some (.lst xs) := by rw [h2 p (.inr (Nat.le_refl _))]; exact k3
    have hlo : lstOf G1 (.loc p) = some xs := hJ G1 g1
    have hpl : p < G1.length := (List.getElem?_eq_some_iff.mp g1).1
    have hap := app_at (d := .int 99) (hJ G1 g1) (by omega)
    obtain ⟨G2, e2⟩ : ∃ G2, G2 = G1.set p (.lst (xs ++ [D.int 99])) := ⟨_, rfl⟩
    have g2 : G2[p]? = some (.lst (xs ++ [D.int 99])) := by rw [e2, List.getElem?_set_self hpl]
    have hlo2 : lstOf G2 (.loc p) = some (xs ++ [D.int 99]) := by
      show locAt G2 p = _
      unfold locAt; rw [g2]; rfl
    have hrv : reverseD (.loc p) [] G2 = .ok .non (G2.set p (.lst (xs ++ [D.int 99]).reverse)) := by
      show (match locAt G2 p with
        | some xs => R.ok D.non (G2.set p (.lst xs.reverse))
        | none => R.bad) = _
      have : locAt G2 p = some (xs ++ [D.int 99]) := hlo2
      rw [this]
    rw [← e2] at hap
    have hty : tyD G (.loc p) = "list" := by
      show tyO G[p]? = _
      rw [k3]; rfl
    refine ⟨G2.set p (.lst (xs ++ [D.int 99]).reverse), ?_, by rw [List.length_set, e2, List.length_set]; exact h1, fun i hi => ?_⟩
    · clear c
      generalize (xs ++ [D.int 99]).reverse = RV at *
      generalize xs ++ [D.int 99] = XA at *
      simp [F__law_spoil, b__law_spoil, hat, hlp, hlo, hap, hlo2, hrv]
    · have hne : p ≠ i := by omega
      rw [List.getElem?_set_ne hne, e2, List.getElem?_set_ne hne]
      exact h2 i (by omega)
  | .non, lo, b, d, fuel, G, h, hf => by
    simp only [Lk] at h
    obtain ⟨fuel, rfl⟩ : ∃ m, fuel = m + 1 := ⟨fuel - 1, by omega⟩
    refine ⟨G, ?_, rfl, fun _ _ => rfl⟩
    rw [h.1]
    have e1 : ∀ v, v = D.non → lstOf G v = none := fun v e => by rw [e]; rfl
    have e1 := e1 _ rfl
    simp [F__law_spoil, b__law_spoil, e1, D.isT]
  | .bl w, lo, b, d, fuel, G, h, hf => by
    simp only [Lk] at h
    obtain ⟨fuel, rfl⟩ : ∃ m, fuel = m + 1 := ⟨fuel - 1, by omega⟩
    refine ⟨G, ?_, rfl, fun _ _ => rfl⟩
    rw [h.1]
    have e1 : ∀ v, v = D.bl w → lstOf G v = none := fun v e => by rw [e]; rfl
    have e1 := e1 _ rfl
    simp [F__law_spoil, b__law_spoil, e1, D.isT]
  | .int w, lo, b, d, fuel, G, h, hf => by
    simp only [Lk] at h
    obtain ⟨fuel, rfl⟩ : ∃ m, fuel = m + 1 := ⟨fuel - 1, by omega⟩
    refine ⟨G, ?_, rfl, fun _ _ => rfl⟩
    rw [h.1]
    have e1 : ∀ v, v = D.int w → lstOf G v = none := fun v e => by rw [e]; rfl
    have e1 := e1 _ rfl
    simp [F__law_spoil, b__law_spoil, e1, D.isT]
  | .str w, lo, b, d, fuel, G, h, hf => by
    simp only [Lk] at h
    obtain ⟨fuel, rfl⟩ : ∃ m, fuel = m + 1 := ⟨fuel - 1, by omega⟩
    refine ⟨G, ?_, rfl, fun _ _ => rfl⟩
    rw [h.1]
    have e1 : ∀ v, v = D.str w → lstOf G v = none := fun v e => by rw [e]; rfl
    have e1 := e1 _ rfl
    simp [F__law_spoil, b__law_spoil, e1, D.isT]
  | .scr _, lo, b, d, fuel, G, h, hf => by simp only [Lk] at h
  | .dic _ _, lo, b, d, fuel, G, h, hf => by simp only [Lk] at h
  | .loc _, lo, b, d, fuel, G, h, hf => by simp only [Lk] at h
theorem Lks.spoil : ∀ (ys : List D) (lo b : Nat) (xs : List D) (fuel : Nat) (G : Hs) (A : D) (J : Hs → Prop), Lks G lo b xs ys → depDs ys < fuel → (∀ G G' : Hs, G'.length = G.length → (∀ i, (i < lo ∨ b ≤ i) → G'[i]? = G[i]?) → J G → J G') → J G →
    ∃ G', Ch (gVar 1) (sFa [1] (sExpr (eCall 1 (F__law_spoil fuel) (aCons (eVar 1) aNil)))) [some A, none] J xs G G' ∧ G'.length = G.length ∧ ∀ i, (i < lo ∨ b ≤ i) → G'[i]? = G[i]?
  | [], lo, b, xs, fuel, G, A, J, h, hf, hJ, j => by
    simp only [Lks] at h
    rw [h.1]
    exact ⟨G, .nil, rfl, fun _ _ => rfl⟩
  | y :: ys, lo, b, xs, fuel, G, A, J, h, hf, hJ, j => by
    simp only [Lks] at h
    obtain ⟨x, r, m, rfl, h1, h2⟩ := h
    simp only [depDs] at hf
    have l1 := Lk.le y lo m x h1
    have l2 := Lks.le ys m b r h2
    obtain ⟨G1, e1, n1, o1⟩ := Lk.spoil y lo m x fuel G h1 (by omega)
    have j1 : J G1 := hJ G G1 n1 (fun i hi => o1 i (by omega)) j
    obtain ⟨G2, c, n2, o2⟩ := Lks.spoil ys m b r fuel G1 A J (Lks.frame ys m b b r (Nat.le_refl _) (fun i a1 a2 => o1 i (.inr a1)) h2) (by omega) (fun P Q e1 e2 k => hJ P Q e1 (fun i hi => e2 i (by omega)) k) j1
    refine ⟨G2, .cons (s1 := [some A, some x]) rfl ?_ j1 c, by omega, fun i hi => by rw [o2 i (by omega), o1 i (by omega)]⟩
    simp [e1]
end
mutual
def okT : D → Bool
  | .tup xs => okTs xs
  | .non => true
  | .bl _ => true
  | .int _ => true
  | .str _ => true
  | _ => false
def okTs : List D → Bool
  | [] => true
  | x :: xs => okT x && okTs xs
end
theorem okTs_mem {x : D} : ∀ {xs : List D}, okTs xs = true → x ∈ xs → okT x = true
  | y :: xs, h, hx => by
    simp only [okTs, Bool.and_eq_true] at h
    rcases List.mem_cons.mp hx with rfl | hx
    · exact h.1
    · exact okTs_mem h.2 hx
theorem depDs_mem {x : D} : ∀ {xs : List D}, x ∈ xs → depD x ≤ depDs xs
  | y :: xs, hx => by
    simp only [depDs]
    rcases List.mem_cons.mp hx with rfl | hx
    · omega
    · have := depDs_mem hx; omega
theorem blkDs_mem {x : D} : ∀ {xs : List D}, x ∈ xs → blkD x + 1 ≤ blkDs xs
  | y :: xs, hx => by
    simp only [blkDs]
    rcases List.mem_cons.mp hx with rfl | hx
    · omega
    · have := blkDs_mem hx; omega
theorem blkDs_len : ∀ {xs : List D}, xs.length ≤ blkDs xs
  | [] => by simp
  | x :: xs => by
    have := blkDs_len (xs := xs)
    simp only [blkDs, List.length_cons]; omega
/-- the same but for lists in the place of tuples -/
structure Sim (d dS : D) : Prop where
  vw : ∀ (n : Nat) (h : Hs), WD.vq h n dS = WD.vq h n d
  sm : smlD dS = smlD d
  dp : depD dS = depD d
  bk : blkD dS = blkD d
theorem sim_rows : ∀ {xs ys : List D}, relL Sim xs ys → (∀ (n : Nat) (h : Hs), ys.mapM (WD.vq h n) = xs.mapM (WD.vq h n)) ∧ smlDs ys = smlDs xs ∧ depDs ys = depDs xs ∧ blkDs ys = blkDs xs
  | [], [], _ => ⟨fun _ _ => rfl, rfl, rfl, rfl⟩
  | [], _ :: _, h => h.elim
  | _ :: _, [], h => h.elim
  | x :: xs, y :: ys, h => by
    obtain ⟨h1, h2⟩ := h
    obtain ⟨a1, a2, a3, a4⟩ := sim_rows h2
    refine ⟨fun n h => ?_, ?_, ?_, ?_⟩
    · rw [List.mapM_cons, List.mapM_cons, h1.vw, a1]
    · simp only [smlDs, h1.sm, a2]
    · simp only [depDs, h1.dp, a3]
    · simp only [blkDs, h1.bk, a4]
theorem listed_gen : ∀ (n : Nat) (d : D) (dr : Int) (h : Hs), okT d = true → depD d < n → blkD d ≤ 100000 → ∃ d' dS t, F__law_listed n [d, .int dr] h = .ok d' (h ++ t) ∧ Lk (h ++ t) h.length (h ++ t).length d' dS ∧ Sim d dS
  | 0, d, dr, h, _, hd, _ => by omega
  | n + 1, d, dr, h, ho, hd, hz => by
    have leaf : (∀ (lo b : Nat) (G : Hs), lo ≤ b → Lk G lo b d d) → d.isT = false → ∃ d' dS t, F__law_listed (n + 1) [d, .int dr] h = .ok d' (h ++ t) ∧ Lk (h ++ t) h.length (h ++ t).length d' dS ∧ Sim d dS := fun q hty => by
      refine ⟨d, d, [], ?_, q _ _ _ (by simp), ⟨fun _ _ => rfl, rfl, rfl, rfl⟩⟩
      simp [F__law_listed, b__law_listed, hty]
    cases d with
    | non => exact leaf (fun lo b G hl => by simp only [Lk]; exact ⟨trivial, hl⟩) rfl
    | bl v => exact leaf (fun lo b G hl => by simp only [Lk]; exact ⟨trivial, hl⟩) rfl
    | int v => exact leaf (fun lo b G hl => by simp only [Lk]; exact ⟨trivial, hl⟩) rfl
    | str v => exact leaf (fun lo b G hl => by simp only [Lk]; exact ⟨trivial, hl⟩) rfl
    | lst _ => simp [okT] at ho
    | scr _ => simp [okT] at ho
    | dic _ _ => simp [okT] at ho
    | loc _ => simp [okT] at ho
    | tup xs =>
      simp only [okT] at ho
      simp only [depD] at hd
      simp only [blkD] at hz
      obtain ⟨acc, G, ⟨u, i, ys, done, rfl, e1, e2, e3, e4⟩, e⟩ := comp_inv (m := true) (vs := [3, 4]) (fi := iEnumerate (aCons (eVar 0) aNil)) (g := gUn [(gVar 3), (gVar 4)]) (tt := tYesF) (te := eCall 2 (F__law_listed n) (aCons (eVar 4) (aCons (eBin addD (eBin fdivD (eVar 1) (eC (.int 3))) (eBin mulD (eVar 3) (eVar 3))) aNil)))
        (s := [some (.tup xs), some (.int dr), none, none, none]) (h := h) (h1 := h) (xs := enL 0 xs)
        (fun acc rest G => ∃ (u : Hs) (i : Nat) (ys done : List D), G = h ++ u ∧ rest = enL i (xs.drop i) ∧ Lks G h.length G.length acc ys ∧ relL Sim done ys ∧ done = xs.take i) (Itr.enT rfl) (fun k z => by cases z) ⟨[], 0, [], [], by simp, by simp, by simp [Lks], trivial, by simp⟩ (fun acc x rest G ⟨u, i, ys, done, eG, e1, e2, e3, e4⟩ => by
          have hil : i < xs.length := by
            apply Classical.byContradiction
            intro q
            rw [List.drop_eq_nil_of_le (by omega)] at e1
            cases e1
          rw [List.drop_eq_getElem_cons hil] at e1
          have e1 : x :: rest = .tup [.int (i : Int), xs[i]] :: enL (i + 1) (xs.drop (i + 1)) := e1
          injection e1 with ex er
          subst ex er eG
          have hm : xs[i] ∈ xs := List.getElem_mem hil
          obtain ⟨d', dS, t, f1, f2, f3⟩ := listed_gen n xs[i] (dr / 3 + (i : Int) * i) (h ++ u) (okTs_mem ho hm) (by have := depDs_mem hm; omega) (by have := blkDs_mem hm; omega)
          refine ⟨_, rfl, .inr ⟨rfl, d', h ++ u ++ t, ?_, u ++ t, i + 1, ys ++ [dS], done ++ [xs[i]], by rw [List.append_assoc], rfl, ?_, relL.snoc e3 f3, by rw [e4, List.take_succ_eq_append_getElem hil]⟩⟩
          · have hi5 : (i : Int) ≤ 100000 := by have := blkDs_len (xs := xs); omega
            have hi0 : (0 : Int) ≤ i := by omega
            have hmu : mulD (.int (i : Int)) (.int (i : Int)) (h ++ u) = .ok (.int ((i : Int) * i)) (h ++ u) := x_mlL (by omega) (by omega)
            generalize xs[i] = X at *
            generalize (i : Int) = I at *
            simp [hmu, f1]
          · refine Lks.snoc (m := (h ++ u).length) (Lks.frame ys _ _ _ acc (Nat.le_refl _) (fun j a1 a2 => List.getElem?_append_left a2) e2) f2)
      have hdone : done = xs := by
        rw [e4]
        refine List.take_of_length_le ?_
        apply Classical.byContradiction
        intro q
        rw [List.drop_eq_getElem_cons (by omega)] at e1
        cases e1
      subst hdone
      obtain ⟨s1, s2, s3, s4⟩ := sim_rows e3
      have hlen : acc.length = done.length := by
        have a := relL.len e3
        have b : ∀ (ys : List D) (lo b : Nat) (xs : List D), Lks (h ++ u) lo b xs ys → xs.length = ys.length := fun ys => by
          induction ys with
          | nil => intro lo b xs q; simp only [Lks] at q; rw [q.1]
          | cons y ys ih =>
            intro lo b xs q
            simp only [Lks] at q
            obtain ⟨x, r, m, rfl, _, q2⟩ := q
            simp [ih _ _ _ q2]
        rw [b ys _ _ _ e2, a]
      have hal : acc.length ≤ 100000 := by
        have := blkDs_len (xs := done)
        omega
      have hG : newL true acc (h ++ u) = .ok (.loc (h ++ u).length) (h ++ u ++ [O.lst acc]) := rfl
      rw [hG] at e
      have hat : locAt (h ++ u ++ [O.lst acc]) (h ++ u).length = some acc := locAt_end
      have htu : tupleD [.loc (h ++ u).length] (h ++ u ++ [O.lst acc]) = .ok (.tup acc) (h ++ u ++ [O.lst acc]) := x_tuple (d := .loc (h ++ u).length) (xs := acc) hat
      have hmo : modD (.int dr) (.int 2) (h ++ u ++ [O.lst acc]) = .ok (.int (dr % 2)) (h ++ u ++ [O.lst acc]) := by rw [x_mod, if_pos (by decide)]
      have hfr : Lks (h ++ (u ++ [O.lst acc])) h.length (h ++ u).length acc ys := Lks.frame ys _ _ _ acc (Nat.le_refl _) (fun j a1 a2 => by rw [← List.append_assoc]; exact List.getElem?_append_left a2) e2
      have hl1 : (h ++ (u ++ [O.lst acc])).length = (h ++ u).length + 1 := by simp; omega
      by_cases c : dr % 2 = 0
      · refine ⟨.loc (h ++ u).length, .lst ys, u ++ [O.lst acc], ?_, ?_, ⟨fun m g => ?_, by simp only [smlD, s2], by simp only [depD, s3], by simp only [blkD, s4]⟩⟩
        · have hix : ixD (.lst [.loc (h ++ u).length, .tup acc]) (.int (dr % 2)) (h ++ u ++ [O.lst acc]) = .ok (.loc (h ++ u).length) (h ++ u ++ [O.lst acc]) := by rw [c]; rfl
          rw [← List.append_assoc]
          generalize (h ++ u ++ [O.lst acc]) = G at *
          generalize (h ++ u).length = p at *
          simp [F__law_listed, b__law_listed, e, htu, hix]
        · simp only [Lk]
          exact ⟨_, acc, rfl, by simp, by rw [hl1]; omega, by rw [← List.append_assoc, List.getElem?_append_right (Nat.le_refl _)]; simp, hal, hfr⟩
        · cases m with
          | zero => rfl
          | succ m => rw [vq_row (d := .lst ys) (xs := ys) rfl, vq_row (d := .tup done) (xs := done) rfl, s1]
      · have c : dr % 2 = 1 := by omega
        refine ⟨.tup acc, .tup ys, u ++ [O.lst acc], ?_, ?_, ⟨fun m g => ?_, by simp only [smlD, s2], by simp only [depD, s3], by simp only [blkD, s4]⟩⟩
        · have hix : ixD (.lst [.loc (h ++ u).length, .tup acc]) (.int (dr % 2)) (h ++ u ++ [O.lst acc]) = .ok (.tup acc) (h ++ u ++ [O.lst acc]) := by rw [c]; rfl
          rw [← List.append_assoc]
          generalize (h ++ u ++ [O.lst acc]) = G at *
          generalize (h ++ u).length = p at *
          simp [F__law_listed, b__law_listed, e, htu, hix]
        · simp only [Lk]
          exact ⟨acc, rfl, Lks.frame ys _ _ _ acc (by rw [hl1]; omega) (fun j a1 a2 => rfl) hfr⟩
        · cases m with
          | zero => rfl
          | succ m => rw [vq_row (d := .tup ys) (xs := ys) rfl, vq_row (d := .tup done) (xs := done) rfl, s1]

end WD
namespace WD
open PySem PySem.Spec PyProof.Rows L2
def kindsL (nm : Str) : List Bool := [subX nm "NoNumbers", subX nm "NoDays", subX nm "NoRing", subX nm "NoTask", subX nm "NoThing", subX nm "NoStand", subX nm "NoDay", subX nm "NoPaper", subX nm "NoText", subX nm "NotThere", subX nm "Broken", subX nm "TooMany"]
theorem other_kinds_eq {y : Xn} {h : Hs} : F__law_other_kinds y h = .ok (.lst ((kindsL y.name).map D.bl)) h := by
  have a1 : ∀ xs ys : List D, xs.length + ys.length ≤ 16777216 → addD (.lst xs) (.lst ys) h = .ok (.lst (xs ++ ys)) h := fun xs ys hz => add_lst hz
  have hx : exitT h (.lst ((kindsL y.name).map D.bl)) h = .ok (.lst ((kindsL y.name).map D.bl)) h := exitT_same (by
    show undL _ ((kindsL y.name).map D.bl) = true
    rw [undL_iff]
    intro x hx
    obtain ⟨b, _, rfl⟩ := List.mem_map.mp hx
    rfl)
  have e : (kindsL y.name).map D.bl = [D.bl (subX y.name "NoNumbers"), .bl (subX y.name "NoDays"), .bl (subX y.name "NoRing")] ++ [.bl (subX y.name "NoTask"), .bl (subX y.name "NoThing"), .bl (subX y.name "NoStand")] ++ [.bl (subX y.name "NoDay"), .bl (subX y.name "NoPaper"), .bl (subX y.name "NoText")] ++ [.bl (subX y.name "NotThere"), .bl (subX y.name "Broken"), .bl (subX y.name "TooMany")] := rfl
  rw [e] at hx ⊢
  simp only [List.cons_append, List.nil_append] at hx ⊢
  simp [F__law_other_kinds, b__law_other_kinds, runE, hx]
theorem kinds_numbers : kindsL "NoNumbers" = [true, false, false, false, false, false, false, false, false, false, false, false] := by decide
/-- odd things -/
def nestD : Nat → D
  | 0 => .tup []
  | k + 1 => if k % 2 = 0 then .tup [nestD k] else .lst [nestD k]
theorem nest_und {n : Nat} : ∀ k, (nestD k).und n = true
  | 0 => rfl
  | k + 1 => by
    have ih := nest_und (n := n) k
    unfold nestD
    split
    · show undL n [nestD k] = true
      rw [undL_iff]; intro x hx
      rw [List.mem_singleton.mp hx]; exact ih
    · show undL n [nestD k] = true
      rw [undL_iff]; intro x hx
      rw [List.mem_singleton.mp hx]; exact ih
theorem nest_loop {N : D} {h : Hs} : ∀ (m i : Nat), loopS (gVar 2) k__law_nested_1 ((List.range' i m).map fun (k : Nat) => D.int k) [some N, some (nestD i), none] h = .nx [some N, some (nestD (i + m)), none] h
  | 0, i => rfl
  | m + 1, i => by
    have ih := nest_loop (N := N) (h := h) m (i + 1)
    rw [show i + 1 + m = i + (m + 1) by omega] at ih
    rw [List.range'_succ, List.map_cons]
    refine (loop_nx (s1 := [some N, some (nestD i), some (.int i)]) rfl ?_).trans ih
    have hmo : modD (.int (i : Int)) (.int 2) h = .ok (.int ((i : Int) % 2)) h := by rw [x_mod, if_pos (by decide)]
    have hix : ixD (.lst [.tup [nestD i], .lst [nestD i]]) (.int ((i : Int) % 2)) h = .ok (nestD (i + 1)) h := by
      have e : nestD (i + 1) = if i % 2 = 0 then .tup [nestD i] else .lst [nestD i] := rfl
      rw [e]
      have c : i % 2 = 0 ∨ i % 2 = 1 := by omega
      rcases c with c | c
      · have : (i : Int) % 2 = 0 := by omega
        rw [if_pos c, this]; rfl
      · have : (i : Int) % 2 = 1 := by omega
        have cn : ¬ i % 2 = 0 := by omega
        rw [if_neg cn, this]; rfl
    generalize nestD (i + 1) = X at *
    generalize nestD i = Y at *
    generalize (i : Int) = I at *
    simp [hix]
theorem law_nested_eq {h : Hs} : F__law_nested [.int 30] h = .ok (nestD 30) h := by
  have hl := nest_loop (N := .int 30) (h := h) 30 0
  have hf : sFor (iRng1 (aCons (eVar 0) aNil)) (gVar 2) k__law_nested_1 [some (.int 30), some (.tup []), none] h = .nx [some (.int 30), some (nestD 30), none] h := by
    refine (for_rngN (n := 30) (h1 := h) rfl (by omega)).trans ?_
    rw [List.range_eq_range']; exact hl
  have hx : exitT h (nestD 30) h = .ok (nestD 30) h := exitT_same (nest_und 30)
  generalize nestD 30 = X at *
  simp [F__law_nested, b__law_nested, hf, hx]
def oddA : List D := [.non, .bl true, .bl false, .int 0, .int 1, .int 2, .int 41, .int (-1), .int (10 ^ 60), .str "", .str "0", .str "thing", .tup [], .lst [], .dic [] [], .dic [.inl 0] [.int 1], .tup [.int 0], .lst [.int 0], .tup [.tup []], .lst [.lst []]]
def oddB : List D := [.tup [.int 0, .int 1], .lst [.int 1, .int 0], .tup [.int 1, .int 1], .tup [.bl true], .tup [.non], .tup [.str "0"], .tup [.int 0, .int 1, .int 2], .tup [.tup [.int 0, .int 1]], .lst [.lst [.int 0, .int 1]], .lst [.tup [.int 1, .int 0]], .tup [.int 0, .int 41]]
def oddC : List D := [.tup [.int (-1)], .tup [.int (10 ^ 60)], .tup [.lst [.int 0]], .tup [.bl false, .bl true], .tup [.tup [.int 0, .int 1], .tup [.int 0, .int 1]], nestD 30]
def oddL : List D := oddA ++ oddB ++ oddC
theorem odd_und {x : D} {n : Nat} (hx : x ∈ oddL) : x.und n = true := by
  simp only [oddL, oddA, oddB, oddC, List.mem_append, List.mem_cons, List.not_mem_nil, or_false] at hx
  rcases hx with (hx | hx) | hx
  · rcases hx with rfl | rfl | rfl | rfl | rfl | rfl | rfl | rfl | rfl | rfl | rfl | rfl | rfl | rfl | rfl | rfl | rfl | rfl | rfl | rfl <;> rfl
  · rcases hx with rfl | rfl | rfl | rfl | rfl | rfl | rfl | rfl | rfl | rfl | rfl <;> rfl
  · rcases hx with rfl | rfl | rfl | rfl | rfl | rfl <;> first | rfl | exact nest_und 30
theorem law_is_row_eq {x : D} {h : Hs} : F__law_is_row [x] h = .ok (.bl (rowOf h x).isSome) h := by
  have e : (rowOf h x).isSome = ((lstOf h x).isSome || x.isT) := by
    cases x <;> simp [rowOf, D.isT, lstOf]
  have hx : ∀ b : Bool, exitT h (.bl b) h = .ok (.bl b) h := fun b => exitT_same rfl
  rw [e]
  cases h1 : (lstOf h x).isSome <;> cases h2 : x.isT <;> simp [F__law_is_row, b__law_is_row, hx, h1, h2]
end WD
namespace WD
open PySem PySem.Spec PyProof.Rows L2
theorem law_odd_eq {n : Nat} {H : Hs} (K : Dk n H) : ∃ x ∈ oddL, ∃ H2, Dw n H H2 ∧ Dk n H2 ∧ F__law_odd [.loc n] H = .ok x H2 := by
  obtain ⟨x, hx, H2, w2, k2, e⟩ := law_of_eq (d := .lst oddL) (xs := oddL) K (fun _ _ => rfl) (by simp [oddL, oddA]) (by decide) (fun x hx => odd_und hx)
  refine ⟨x, hx, H2, w2, k2, ?_⟩
  have hp : powD (.int 10) (.int 60) H = .ok (.int (10 ^ 60)) H := by simp
  have hn := law_nested_eq (h := H)
  have a1 : addD (.lst oddA) (.lst oddB) H = .ok (.lst (oddA ++ oddB)) H := add_lst (by decide)
  have a2 : addD (.lst (oddA ++ oddB)) (.lst oddC) H = .ok (.lst oddL) H := add_lst (by decide)
  have hxx : exitT H x H2 = .ok x H2 := w2.exit (odd_und hx)
  have s0 : t__law_odd_0 [some (.loc n), none] H = .nx [some (.loc n), some (.lst oddA)] H := by
    unfold oddA
    generalize (10 : Int) ^ 60 = P at *
    simp [-x_pw, hp]
  have s1 : t__law_odd_1 [some (.loc n), some (.lst oddA)] H = .nx [some (.loc n), some (.lst (oddA ++ oddB))] H := by
    have a1' : addD (.lst oddA) (.lst [.tup [.int 0, .int 1], .lst [.int 1, .int 0], .tup [.int 1, .int 1], .tup [.bl true], .tup [.non], .tup [.str "0"], .tup [.int 0, .int 1, .int 2], .tup [.tup [.int 0, .int 1]], .lst [.lst [.int 0, .int 1]], .lst [.tup [.int 1, .int 0]], .tup [.int 0, .int 41]]) H = .ok (.lst (oddA ++ oddB)) H := a1
    generalize D.lst (oddA ++ oddB) = L2 at *
    generalize D.lst oddA = L1 at *
    simp [-add_lst, a1']
  have s2 : t__law_odd_2 [some (.loc n), some (.lst (oddA ++ oddB))] H = .rt x H2 := by
    have a2' : addD (.lst (oddA ++ oddB)) (.lst [.tup [.int (-1)], .tup [.int (10 ^ 60)], .tup [.lst [.int 0]], .tup [.bl false, .bl true], .tup [.tup [.int 0, .int 1], .tup [.int 0, .int 1]], nestD 30]) H = .ok (.lst oddL) H := a2
    generalize D.lst (oddA ++ oddB) = L2 at *
    generalize D.lst oddL = L1 at *
    generalize nestD 30 = N30 at *
    generalize (10 : Int) ^ 60 = P at *
    simp [-x_pw, -add_lst, hp, hn, a2', e]
  simp only [F__law_odd, b__law_odd, x_run, x_seq]
  simp [-t__law_odd_0, -t__law_odd_1, -t__law_odd_2, s0, s1, s2, hxx]

end WD
namespace WD
open PySem PySem.Spec PyProof.Rows L2
theorem law_some13 {n : Nat} {H1 : Hs} {many : Nat} (k : Dk n H1) (hm : many ≤ 8) : ∃ (lg : List Int) (H2 : Hs), Dw n H1 H2 ∧ Dk n H2 ∧ lg.length ≤ many ∧ risL 0 ((many : Int) - 1) (lg.map D.int) = true ∧ F__law_some [.loc n, .int many, .int 3] H1 = .ok (iT lg) H2 := by
  obtain ⟨x, H2, w, k2, e⟩ := k.next
  have hex : ∀ ns : List Int, exitT H1 (iT ns) H2 = .ok (iT ns) H2 := fun ns => w.exit und_iT
  by_cases hx : 0 < x % 3
  · refine ⟨[], H2, w, k2, by simp, rfl, ?_⟩
    have := hex []
    simp [F__law_some, b__law_some, e, hx]
    exact this
  · refine ⟨(rgI 0 many).filter fun i => decide (x / 4 / (2 ^ i.toNat : Nat) % 3 = 0), H2, w, k2, ?_, ris_filter _ _ _ (by omega), ?_⟩
    · exact Nat.le_trans (List.length_filter_le _ _) (by simp)
    · have hi : Itr (iRng1 (aCons (eVar 1) aNil)) [some (.loc n), some (.int many), some (.int 3), some (.int x), none] H2 H2 ((rgI 0 many).map D.int) := by
        have := Itr.rng (f := aCons (eVar 1) aNil) (s := [some (.loc n), some (.int many), some (.int 3), some (.int x), none]) (h := H2) (h1 := H2) (n := many) rfl (by omega) (by omega)
        simpa using this
      have hc : eComp false [4] (iRng1 (aCons (eVar 1) aNil)) (gVar 4) (tV (eBin (eqD false) (eBin modD (eBin fdivD (eBin fdivD (eVar 3) (eC (.int 4))) (eBin shlD (eC (.int 1)) (eVar 4))) (eVar 2)) (eC (.int 0)))) (eVar 4) [some (.loc n), some (.int many), some (.int 3), some (.int x), none] H2 = .ok (iL ((rgI 0 many).filter fun i => decide (x / 4 / (2 ^ i.toNat : Nat) % 3 = 0))) H2 := by
        rw [comp_ty (fun i => decide (x / 4 / (2 ^ i.toNat : Nat) % 3 = 0)) D.int hi fun i hi' => ?_]
        · simp [iL]
        · have hb := rgI_bd hi'
          obtain ⟨k, rfl⟩ : ∃ k : Nat, i = k := ⟨i.toNat, by omega⟩
          have hs := shl_one (k := k) (h := H2) (by omega)
          obtain ⟨p1, p2⟩ := two_pow_bd (k := k) (by omega)
          rw [show (k : Int).toNat = k by omega]
          generalize ((2 ^ k : Nat) : Int) = W at *
          have p3 : W < 18446744073709551616 := by omega
          refine ⟨_, rfl, ?_, fun _ => by simp⟩
          have he : ((x / 4 / W % 3 == 0) : Bool) = decide (x / 4 / W % 3 = 0) := by rw [Bool.eq_iff_iff]; simp
          simp [hs, p1, p3, he]
      have htp : tupleD [iL ((rgI 0 many).filter fun i => decide (x / 4 / (2 ^ i.toNat : Nat) % 3 = 0))] H2 = .ok (iT ((rgI 0 many).filter fun i => decide (x / 4 / (2 ^ i.toNat : Nat) % 3 = 0))) H2 := by rw [x_tuple (d := iL _) rfl]; rfl
      have hx2 := hex ((rgI 0 many).filter fun i => decide (x / 4 / (2 ^ i.toNat : Nat) % 3 = 0))
      generalize (rgI 0 many).filter (fun i => decide (x / 4 / (2 ^ i.toNat : Nat) % 3 = 0)) = lg at *
      simp [F__law_some, b__law_some, e, hx, hc, htp, hx2]
def num13 (x : Int) : List Int := [2, 3, 4, 6, 1 + x / 16 % 4, 2 + x / 16 % 5, 3 + x / 16 % 8, 5, 8, 12, 7, 3, 4, 2, 40, 1 + x / 16 % 40]
theorem num13_bd (x : Int) : ∀ n ∈ num13 x, 1 ≤ n ∧ n ≤ 40 := by
  intro n hn
  simp only [num13, List.mem_cons, List.not_mem_nil, or_false] at hn
  omega
theorem num_turn13 {n : Nat} {H : Hs} {m0 left k : Int} {nums : List Int} (hk : Dk n H) (hb : ∀ m ∈ nums, 1 ≤ m ∧ m ≤ 40) (hz : nums.length ≤ 1000) (hl : 1 ≤ left) : ∃ (nums' : List Int) (left' : Int) (H2 : Hs), Dw n H H2 ∧ Dk n H2 ∧ nums'.length ≤ nums.length + 1 ∧ (∀ m ∈ nums', 1 ≤ m ∧ m ≤ 40) ∧ 1 ≤ left' ∧ (∀ l0 : Int, nums.foldl (fun l m => l / m) l0 = left → nums'.foldl (fun l m => l / m) l0 = left') ∧
    k__law_numbers_1 [some (.loc n), some (.int m0), some (.int left), some (.loc H.length), some (.int k), none, none, none] (H ++ [.lst (nums.map D.int)]) = .nx [some (.loc n), some (.int m0), some (.int left'), some (.loc H.length), none, none, none, none] (H2 ++ [.lst (nums'.map D.int)]) := by
  obtain ⟨x, H2', w, k2, e⟩ := (hk.app (t := [.lst (nums.map D.int)])).next
  have hn : n < H.length := by obtain ⟨dk, q⟩ := hk.ex; exact locAt_lt q
  obtain ⟨H2, rfl, w2⟩ := w.cut hn
  have hlen := w2.len
  have k3 := k2.cut (by omega)
  have hix := ix_ints (h := H2 ++ [.lst (nums.map D.int)]) (d := .lst ((num13 x).map D.int)) (ns := num13 x) (i := x % 16) rfl (by omega) (by simp [num13]; omega)
  have hf : (num13 x).getD (x % 16).toNat 0 ∈ num13 x := by
    have hl : (x % 16).toNat < (num13 x).length := by simp [num13]; omega
    simp only [List.getD, List.getElem?_eq_getElem hl, Option.getD_some]
    exact List.getElem_mem hl
  generalize hnum : (num13 x).getD (x % 16).toNat 0 = num at *
  have hnb := num13_bd x num hf
  simp [num13] at hix
  by_cases hle : num ≤ left
  · refine ⟨nums ++ [num], left / num, H2, w2, k3, by simp, fun m hm => ?_, ?_, fun l0 q => ?_, ?_⟩
    · rcases List.mem_append.mp hm with hm | hm
      · exact hb m hm
      · obtain rfl : m = num := by simpa using hm
        exact hnb
    · exact (Int.le_ediv_iff_mul_le (by omega)).mpr (by omega)
    · rw [List.foldl_append, q]; rfl
    · have ha := app_last (g := H2) (xs := nums.map D.int) (d := .int num) (by simp; omega)
      rw [hlen] at ha
      have h0 : 0 < num := by omega
      have h1 : num < 18446744073709551616 := by omega
      have hat : locAt (H2 ++ [.lst (nums.map D.int)]) H.length = some (nums.map D.int) := by rw [← hlen]; exact locAt_end
      simp [e, hix, hle, hat, ha, h0, h1]
  · refine ⟨nums, left, H2, w2, k3, by omega, hb, hl, fun _ q => q, ?_⟩
    simp [e, hix, hle]
theorem num_loop13 {n : Nat} {m0 : Int} : ∀ (m : Nat) (i : Int) (H : Hs) (left : Int) (nums : List Int), Dk n H → (∀ m ∈ nums, 1 ≤ m ∧ m ≤ 40) → nums.length + m ≤ 1000 → 1 ≤ left → ∃ (nums' : List Int) (left' : Int) (H2 : Hs), Dw n H H2 ∧ Dk n H2 ∧ nums'.length ≤ nums.length + m ∧ (∀ m ∈ nums', 1 ≤ m ∧ m ≤ 40) ∧ 1 ≤ left' ∧ (∀ l0 : Int, nums.foldl (fun l m => l / m) l0 = left → nums'.foldl (fun l m => l / m) l0 = left') ∧
    loopS (gVar 4) k__law_numbers_1 ((rgI i m).map D.int) [some (.loc n), some (.int m0), some (.int left), some (.loc H.length), none, none, none, none] (H ++ [.lst (nums.map D.int)]) = .nx [some (.loc n), some (.int m0), some (.int left'), some (.loc H.length), none, none, none, none] (H2 ++ [.lst (nums'.map D.int)])
  | 0, i, H, left, nums, hk, hb, hz, hl => ⟨nums, left, H, ⟨by obtain ⟨dk, e⟩ := hk.ex; exact ⟨dk, (hd_self e).symm⟩⟩, hk, by omega, hb, hl, fun _ q => q, rfl⟩
  | m + 1, i, H, left, nums, hk, hb, hz, hl => by
    obtain ⟨nums1, left1, H1, w1, k1, a1, a2, a3, a4, a5⟩ := num_turn13 (m0 := m0) (k := i) hk hb (by omega) hl
    obtain ⟨nums2, left2, H2, w2, k2, b1, b2, b3, b4, b5⟩ := num_loop13 (n := n) (m0 := m0) m (i + 1) H1 left1 nums1 k1 a2 (by omega) a3
    rw [w1.len] at b5
    refine ⟨nums2, left2, H2, w1.trans w2, k2, by omega, b2, b3, fun l0 q => b4 l0 (a4 l0 q), ?_⟩
    rw [rgI_succ, List.map_cons]
    exact (loop_nx (s1 := [some (.loc n), some (.int m0), some (.int left), some (.loc H.length), some (.int i), none, none, none]) rfl a5).trans b5
theorem law_numbers13 {n : Nat} {H : Hs} {left : Int} (hk : Dk n H) (hl : 1 ≤ left) : ∃ (ns : List Int) (H2 : Hs), Dw n H H2 ∧ Dk n H2 ∧ NumOk ns ∧ 1 ≤ ns.foldl (fun l m => l / m) left ∧ F__law_numbers [.loc n, .int 8, .int left] H = .ok (iT ns) H2 := by
  have hn : n < H.length := by obtain ⟨dk, q⟩ := hk.ex; exact locAt_lt q
  obtain ⟨x0, H0', w0, k0, e0⟩ := (hk.app (t := [.lst []])).next
  obtain ⟨H0, rfl, v0⟩ := w0.cut hn
  have k0 := k0.cut (by have := v0.len; omega)
  obtain ⟨nums, left', H1, w1, k1, a1, a2, a3, a4, a5⟩ := num_loop13 (n := n) (m0 := 8) (x0 % 9).toNat 0 H0 left [] k0 (by simp) (by simp; omega) hl
  have m9 : modD (.int x0) (.int 9) (H0 ++ [.lst []]) = .ok (.int (x0 % 9)) (H0 ++ [.lst []]) := by rw [x_mod, if_pos (by decide)]
  have hfor : sFor (iRng1 (aCons (eBin modD (eCall 1 F__law_next (aCons (eVar 0) aNil)) (eBin addD (eVar 1) (eC (.int 1)))) aNil)) (gVar 4) k__law_numbers_1 [some (.loc n), some (.int 8), some (.int left), some (.loc H.length), none, none, none, none] (H ++ [.lst []]) = .nx [some (.loc n), some (.int 8), some (.int left'), some (.loc H.length), none, none, none, none] (H1 ++ [.lst (nums.map D.int)]) := by
    rw [v0.len] at a5
    refine (for_rng (n := x0 % 9) ?_ (by omega) (by omega)).trans a5
    simp [-x_mod, e0, m9]
  have l1 := w1.len
  have l0 := v0.len
  have w := v0.trans w1
  have hat : locAt (H1 ++ [.lst (nums.map D.int)]) H.length = some (nums.map D.int) := by
    have : H.length = H1.length := by omega
    rw [this]; exact locAt_end
  have htp : tupleD [.loc H.length] (H1 ++ [.lst (nums.map D.int)]) = .ok (iT nums) (H1 ++ [.lst (nums.map D.int)]) := x_tupL hat
  have hx : exitT H (iT nums) (H1 ++ [.lst (nums.map D.int)]) = .ok (iT nums) H1 := w.exitA und_iT
  refine ⟨nums, H1, w, k1, ⟨by simp at a1; omega, a2⟩, by rw [a4 left rfl]; exact a3, ?_⟩
  generalize iT nums = NT at *
  clear a5
  simp [F__law_numbers, b__law_numbers, hfor, htp, hx]
theorem div_loop13 {a b c : D} {h : Hs} : ∀ (ns : List Int) (l : Int), (∀ n ∈ ns, 1 ≤ n ∧ n ≤ 40) → loopS (gVar 4) k__law_task_1 (ns.map D.int) [some a, some b, some (.int l), some c, none, none, none] h = .nx [some a, some b, some (.int (ns.foldl (fun l m => l / m) l)), some c, none, none, none] h
  | [], l, _ => x_loop_nil
  | n :: ns, l, hn => by
    have h1 := hn n List.mem_cons_self
    have ih := div_loop13 (a := a) (b := b) (c := c) (h := h) ns (l / n) fun m hm => hn m (List.mem_cons_of_mem _ hm)
    refine (loop_nx (s1 := [some a, some b, some (.int l), some c, some (.int n), none, none]) rfl ?_).trans ih
    have b1 : 0 < n := by omega
    have b2 : n < 18446744073709551616 := by omega
    simp [b1, b2]
theorem law_task13 {n : Nat} {H : Hs} (hk : Dk n H) : ∃ (t : Tk) (H2 : Hs), Dw n H H2 ∧ Dk n H2 ∧ t.Ok ∧ F__law_task [.loc n, .int 8, .int (10 ^ 20)] H = .ok t.D H2 := by
  obtain ⟨ns, H1, w1, k1, hns, hl, e1⟩ := law_numbers13 (left := 10 ^ 20) hk (by decide)
  obtain ⟨x, H2, w2, k2, e2⟩ := k1.next
  obtain ⟨off, H3, w3, k3, o1, o2, _, o4, e3⟩ := law_off_eq k2 hl
  obtain ⟨lg, H4, w4, k4, _, g2, e4⟩ := law_some13 (many := ns.length) k3 hns.1
  obtain ⟨ps, H5, w5, k5, p1, p2, p3, e5⟩ := law_tied_eq (many := ns.length) k4 hns.1
  have m2 : modD (.int x) (.int 3) H2 = .ok (.int (x % 3)) H2 := by rw [x_mod, if_pos (by decide)]
  have q2 : eqD false (.int (x % 3)) (.int 0) H2 = .ok (.bl (decide (x % 3 = 0))) H2 := by
    rw [x_eqI, if_neg (by decide)]
    congr 2
  have b2 := int_bl (b := decide (x % 3 = 0)) (h := H2)
  have hh : 1 + (if decide (x % 3 = 0) = true then (1 : Int) else 0) = 1 ∨ 1 + (if decide (x % 3 = 0) = true then (1 : Int) else 0) = 2 := by split <;> omega
  generalize hhd : (if decide (x % 3 = 0) = true then (1 : Int) else 0) = hd0 at *
  have w := w1.trans (w2.trans (w3.trans (w4.trans w5)))
  obtain ⟨t, ht⟩ : ∃ t : Tk, t = ⟨ns, 1 + hd0, off, lg, ps⟩ := ⟨_, rfl⟩
  have ok : t.Ok := by
    rw [ht]
    exact ⟨hns, hh, o1, o2, o4, g2, p1, p2, p3⟩
  refine ⟨t, H5, w, k5, ok, ?_⟩
  have hx : exitT H t.D H5 = .ok t.D H5 := w.exit (und_tk _ _)
  have hD : t.D = .tup [iT ns, .int (1 + hd0), iT off, iT lg, .tup (ps.map prD)] := by rw [ht]; rfl
  rw [hD] at hx ⊢
  have hf : sFor (iRow (eVar 3)) (gVar 4) k__law_task_1 [some (.loc n), some (.int 8), some (.int (10 ^ 20)), some (iT ns), none, none, none] H1 = .nx [some (.loc n), some (.int 8), some (.int (ns.foldl (fun l m => l / m) (10 ^ 20))), some (iT ns), none, none, none] H1 := (for_tup (h1 := H1) (xs := ns.map D.int) rfl).trans (div_loop13 ns (10 ^ 20) hns.2)
  have ln : ∀ G : Hs, lenD [iT ns] G = .ok (.int ns.length) G := fun G => len_iT
  have l3 := ln H3
  have l4 := ln H4
  clear hD ht ok hhd ln
  generalize (10 : Int) ^ 20 = BB at *
  generalize ns.foldl (fun l m => l / m) BB = LL at *
  generalize D.tup (ps.map prD) = X4 at *
  generalize iT ns = X1 at *
  generalize iT off = X2 at *
  generalize iT lg = X3 at *
  generalize (ns.length : Int) = L at *
  generalize decide (x % 3 = 0) = B at *
  simp [F__law_task, b__law_task, -x_mod, -x_eqI, e1, hf, e2, m2, q2, b2, e3, l3, e4, l4, e5, hx]

end WD
namespace WD
open PySem PySem.Spec PyProof.Rows L2
theorem law_whole13 {d : D} {lo hi : Int} {h : Hs} : F__law_is_whole [d, .int lo, .int hi] h = .ok (.bl (isW lo hi d)) h := by
  cases d with
  | int i => by_cases h1 : lo ≤ i <;> by_cases h2 : i ≤ hi <;> simp [F__law_is_whole, b__law_is_whole, h1, h2]
  | bl b => simp [F__law_is_whole, b__law_is_whole, isW]
  | _ => simp [F__law_is_whole, b__law_is_whole, D.isI, isW]
theorem isW_ints {lo hi : Int} : ∀ xs : List D, (∀ x ∈ xs, isW lo hi x = true) → ∃ ns : List Int, xs = ns.map D.int ∧ ∀ n ∈ ns, lo ≤ n ∧ n ≤ hi
  | [], _ => ⟨[], rfl, by simp⟩
  | x :: xs, hx => by
    obtain ⟨ns, rfl, h2⟩ := isW_ints xs fun y hy => hx y (List.mem_cons_of_mem _ hy)
    have h1 := hx x List.mem_cons_self
    cases x with
    | int i =>
      rw [isW_int, Bool.and_eq_true, decide_eq_true_eq, decide_eq_true_eq] at h1
      exact ⟨i :: ns, rfl, fun n hn => by
        rcases List.mem_cons.mp hn with rfl | hn
        · exact h1
        · exact h2 n hn⟩
    | _ => cases h1
theorem exitT_pre {h G : Hs} {d : D} (hl : h.length ≤ G.length) (hg : ∀ i, i < h.length → G[i]? = h[i]?) (hu : d.und h.length = true) : exitT h d G = .ok d h := by
  have htk : List.take h.length G = h := by
    apply List.ext_getElem?
    intro i
    by_cases hi : i < h.length
    · have h1 : (List.take h.length G)[i]? = G[i]? := List.getElem?_take_of_lt hi
      rw [h1]
      exact hg i hi
    · rw [List.getElem?_eq_none (by rw [List.length_take]; omega), List.getElem?_eq_none (by omega)]
  have htr : TruncOk h.length h G := fun i o hi e => .inl (by rw [← hg i hi]; exact e)
  unfold exitT frz1
  rw [if_pos htr, if_pos hu, htk]

end WD
namespace WD
open PySem PySem.Spec PyProof.Rows L2
theorem law_are_some10 {x : D} {many : Nat} {h : Hs} (hm8 : many ≤ 8) (hz : ∀ xs, rowOf h x = some xs → xs.length < 4000) : F__law_are_some [x, .int many] h = .ok (.bl (isRis h 0 ((many : Int) - 1) x)) h := by
  have w0 := law_is_row_eq (x := x) (h := h)
  have hx : ∀ b : Bool, exitT h (.bl b) h = .ok (.bl b) h := fun b => exitT_same rfl
  cases hr : rowOf h x with
  | none =>
    have hf : isRis h 0 ((many : Int) - 1) x = false := by unfold isRis; rw [hr]
    rw [hf]
    rw [hr] at w0
    have hx := hx false
    simp [F__law_are_some, b__law_are_some, w0, hx]
  | some xs =>
    rw [hr] at w0
    have hl := hz xs hr
    have hm : (xs.map fun d => d) = xs := List.map_id' xs
    have hc : eComp false [2] (iRow (eVar 0)) (gVar 2) (tNotF (tV (eCall 3 F__law_is_whole (aCons (eVar 2) (aCons (eC (.int 0)) (aCons (eBin subD (eVar 1) (eC (.int 1))) aNil)))))) (eVar 2) [some x, some (.int many), none] h = .ok (.lst (xs.filter fun y => !isW 0 ((many : Int) - 1) y)) h := by
      rw [comp_ty (em := fun d => d) (xs := xs) (h1 := h) (fun y => !isW 0 ((many : Int) - 1) y) (fun d => d) (Itr.row rfl (by rw [hm]; exact hr)) fun y hy => ⟨_, rfl, ?_, fun _ => rfl⟩]
      · rw [List.map_id']; rfl
      · have e := law_whole13 (d := y) (lo := 0) (hi := (many : Int) - 1) (h := h)
        generalize isW 0 ((many : Int) - 1) y = b at *
        simp [e]
    by_cases ha : ∀ y ∈ xs, isW 0 ((many : Int) - 1) y = true
    · obtain ⟨ns, rfl, hb⟩ := isW_ints xs ha
      have hnil : ((ns.map D.int).filter fun y => !isW 0 ((many : Int) - 1) y) = [] := by
        rw [List.filter_eq_nil_iff]
        intro y hy
        rw [ha y hy]; decide
      rw [hnil] at hc
      have hne : eqD true (.lst []) (.lst []) h = .ok (.bl false) h := by rw [x_neNil]; rfl
      have h1 : listD false [x] h = .ok (.lst (ns.map D.int)) h := by rw [x_list hr]; rfl
      have hfw : (sortU ns).length < 64 := by
        have := nd_sub_len (m := (List.range many).map fun (i : Nat) => (i : Int)) (l := sortU ns) ((sortU_srt ns).imp fun q => by omega) fun k hk => by
          have := hb k ((sortU_mem ns).mp hk)
          exact List.mem_map.mpr ⟨k.toNat, List.mem_range.mpr (by omega), by omega⟩
        rw [List.length_map, List.length_range] at this
        omega
      have h2 := x_sortSetW (d := x) (ns := ns) (h := h) hr (by simpa using hl) hfw
      have h3 := x_eqL (n := false) (h := h) (d := .lst (ns.map D.int)) (e := .lst ((sortU ns).map D.int)) (ns := ns) (ms := sortU ns) rfl rfl
      have key : isRis h 0 ((many : Int) - 1) x = decide (ns = sortU ns) := by
        by_cases c : ns = sortU ns
        · rw [decide_eq_true c]
          have hso : So many ns := ⟨by rw [c]; exact sortU_srt ns, fun i hi => by have := hb i hi; omega⟩
          exact hso.ris hr
        · rw [decide_eq_false c]
          rw [← Bool.not_eq_true]
          intro z
          apply c
          unfold isRis at z
          rw [hr] at z
          exact srtU_uniq _ _ (So.of_ris z).pw (sortU_srt ns) fun k => (sortU_mem ns).symm
      rw [key]
      have hx := hx (decide (ns = sortU ns))
      have h3 : eqD false (.lst (ns.map D.int)) (.lst ((sortU ns).map D.int)) h = .ok (.bl (decide (ns = sortU ns))) h := h3
      clear hm ha hl
      generalize decide (ns = sortU ns) = v at *
      generalize D.lst (ns.map D.int) = L1 at *
      generalize D.lst ((sortU ns).map D.int) = L2 at *
      simp [F__law_are_some, b__law_are_some, w0, hc, hne, h1, h2, h3, hx]
    · have hf : isRis h 0 ((many : Int) - 1) x = false := by
        rw [← Bool.not_eq_true]
        intro z
        apply ha
        unfold isRis at z
        rw [hr] at z
        obtain ⟨ns, rfl⟩ := ris_ints z
        have hso := So.of_ris z
        intro y hy
        obtain ⟨i, hi, rfl⟩ := List.mem_map.mp hy
        have := hso.bd i hi
        rw [isW_int, Bool.and_eq_true, decide_eq_true_eq, decide_eq_true_eq]; omega
      rw [hf]
      obtain ⟨y, ys, hy⟩ : ∃ y ys, (xs.filter fun y => !isW 0 ((many : Int) - 1) y) = y :: ys := by
        cases q : (xs.filter fun y => !isW 0 ((many : Int) - 1) y) with
        | nil =>
          exfalso
          apply ha
          intro y hy
          have := List.filter_eq_nil_iff.mp q y hy
          simpa using this
        | cons z zs => exact ⟨_, _, rfl⟩
      rw [hy] at hc
      have hne : eqD true (.lst (y :: ys)) (.lst []) h = .ok (.bl true) h := by rw [x_neNil]; rfl
      have hx := hx false
      clear hy ha
      generalize D.lst (y :: ys) = Y at *
      simp [F__law_are_some, b__law_are_some, w0, hc, hne, hx]

end WD
namespace WD
open PySem PySem.Spec PyProof.Rows L2
instance : EqS prD 1 := by
  obtain ⟨py, k1, k2⟩ := (inferInstance : EqS iT 1).ex
  refine ⟨⟨fun p => py [p.1, p.2], fun h m a hm => k1 h m [a.1, a.2] hm, fun a b => ?_⟩⟩
  rw [k2]
  constructor
  · intro e
    simp only [List.cons.injEq, and_true] at e
    exact Prod.ext e.1 e.2
  · rintro rfl; rfl
theorem ltP_srt10 {ps : List (Int × Int)} (h : ps.Pairwise fun a b => ltP a b = true) : ps = sortP (dedP ps) := by
  have hnd : ps.Nodup := h.imp fun {a b} q e => by
    subst e
    simp only [ltP, decide_eq_true_eq] at q
    omega
  have hd : dedP ps = ps := by
    clear h
    induction ps with
    | nil => rfl
    | cons p ps ih =>
      obtain ⟨h1, h2⟩ := List.nodup_cons.mp hnd
      unfold dedP
      rw [if_neg h1, ih h2]
  rw [hd]
  refine sortP_uniq (List.Perm.refl _) (h.imp fun {a b} q => SrtO.lexB_no.mpr ?_)
  simp only [ltP, decide_eq_true_eq] at q
  omega
theorem adj_srt10 {ps : List (Int × Int)} : adjB ltP ps = decide (ps = sortP (dedP ps)) := by
  rw [Bool.eq_iff_iff, decide_eq_true_eq]
  constructor
  · exact fun h => ltP_srt10 (pw_of_adj h)
  · intro h
    rw [h]
    exact sortP_incN (dedP_nd ps)
def areW10 (h : Hs) (lo hi least most : Int) (d : D) : Bool := match rowOf h d with
  | some xs => decide (least ≤ (xs.length : Int)) && decide ((xs.length : Int) ≤ most) && xs.all (isW lo hi)
  | none => false
theorem areW_nums10 {h : Hs} {d : D} : areW10 h 1 40 0 8 d = isNums h d := by
  unfold areW10 isNums
  cases rowOf h d with
  | none => rfl
  | some xs => simp
theorem areW_off10 {h : Hs} {d : D} : areW10 h 0 1 1 7 d = isOff h d := by
  unfold areW10 isOff
  cases rowOf h d with
  | none => rfl
  | some xs => rfl
theorem are_wholes10 {d : D} {lo hi least most : Int} {h : Hs} : F__law_are_wholes [d, .int lo, .int hi, .int least, .int most] h = .ok (.bl (areW10 h lo hi least most d)) h := by
  have w0 := law_is_row_eq (x := d) (h := h)
  cases hr : rowOf h d with
  | none =>
    rw [hr] at w0
    have : areW10 h lo hi least most d = false := by unfold areW10; rw [hr]
    rw [this]
    have hx : exitT h (.bl false) h = .ok (.bl false) h := exitT_same rfl
    simp [F__law_are_wholes, b__law_are_wholes, w0, hx]
  | some xs =>
    rw [hr] at w0
    have e : areW10 h lo hi least most d = (decide (least ≤ (xs.length : Int)) && decide ((xs.length : Int) ≤ most) && xs.all (isW lo hi)) := by unfold areW10; rw [hr]
    rw [e]
    have hm : (xs.map fun d => d) = xs := List.map_id' xs
    have hc : eComp false [5] (iRow (eVar 0)) (gVar 5) (tNotF (tV (eCall 3 F__law_is_whole (aCons (eVar 5) (aCons (eVar 1) (aCons (eVar 2) aNil)))))) (eVar 5) [some d, some (.int lo), some (.int hi), some (.int least), some (.int most), none] h = .ok (.lst (xs.filter fun y => !isW lo hi y)) h := by
      rw [comp_ty (em := fun d => d) (xs := xs) (h1 := h) (fun y => !isW lo hi y) (fun d => d) (Itr.row rfl (by rw [hm]; exact hr)) fun y hy => ⟨_, rfl, ?_, fun _ => rfl⟩]
      · rw [List.map_id']; rfl
      · have e := law_whole13 (d := y) (lo := lo) (hi := hi) (h := h)
        generalize isW lo hi y = b at *
        simp [e]
    have hfe := filter_not_empty (isW lo hi) xs
    have ln := x_len hr
    have hx : ∀ b : Bool, exitT h (.bl b) h = .ok (.bl b) h := fun b => exitT_same rfl
    have hx0 := hx false
    by_cases c1 : least ≤ (xs.length : Int)
    · by_cases c2 : (xs.length : Int) ≤ most
      · have heq : eqD false (.lst (xs.filter fun y => !isW lo hi y)) (.lst []) h = .ok (.bl (xs.all (isW lo hi))) h := by
          cases ha : xs.all (isW lo hi) with
          | true =>
            have : (xs.filter fun y => !isW lo hi y) = [] := by
              rw [List.filter_eq_nil_iff]
              intro y hy
              rw [List.all_eq_true.mp ha y hy]; decide
            rw [this]; rfl
          | false =>
            rw [ha] at hfe
            cases hq : (xs.filter fun y => !isW lo hi y) with
            | nil => rw [hq] at hfe; cases hfe
            | cons a l => rw [x_eqNil]; rfl
        have hx1 := hx (xs.all (isW lo hi))
        rw [decide_eq_true c1, decide_eq_true c2]
        generalize xs.all (isW lo hi) = b at *
        generalize D.lst (xs.filter fun y => !isW lo hi y) = L at *
        generalize (xs.length : Int) = N at *
        simp [F__law_are_wholes, b__law_are_wholes, w0, ln, c1, c2, hc, heq, hx1]
      · rw [decide_eq_true c1, decide_eq_false c2]
        generalize (xs.length : Int) = N at *
        simp [F__law_are_wholes, b__law_are_wholes, w0, ln, c1, c2, hx0]
    · rw [decide_eq_false c1]
      generalize (xs.length : Int) = N at *
      simp [F__law_are_wholes, b__law_are_wholes, w0, ln, c1, hx0]
theorem for_ok10 {x : D} {g : Tg} {b : FS} {s : Ss} {h : Hs} {xs : List D} {r : RS} (hok : okR x = true) (hr : rowOf h x = some xs) (l : loopS g b xs (some x :: s) h = r) : sFor (iRow (eVar 0)) g b (some x :: s) h = r := by
  cases x with
  | tup ys => cases hr; exact (for_tup (h1 := h) rfl).trans l
  | lst ys => cases hr; exact (for_lst (h1 := h) rfl).trans l
  | scr ys => cases hok
  | loc n => cases hok
  | _ => cases hr
theorem pairOf_row10 {h : Hs} {d : D} {p : Int × Int} (hp : rowOf h d = some [.int p.1, .int p.2]) : pairOf h d = p := by
  unfold pairOf; rw [hp]
theorem pairs_loop10 {x : D} {many : Nat} {h : Hs} (hm8 : many ≤ 8) : ∀ xs : List D, (∀ y ∈ xs, ∀ zs, rowOf h y = some zs → zs.length < 4000) → loopS (gVar 2) k__law_are_pairs_1 xs [some x, some (.int many), none, none] h = if xs.all (isPair h many) = true then .nx [some x, some (.int many), none, none] h else .rt (.bl false) h
  | [], _ => x_loop_nil
  | y :: xs, hz => by
    have ih := pairs_loop10 (x := x) (h := h) hm8 xs fun z hz' => hz z (List.mem_cons_of_mem _ hz')
    have e1 := law_are_some10 (x := y) (many := many) (h := h) hm8 (hz y List.mem_cons_self)
    have hp : isPair h many y = (isRis h 0 ((many : Int) - 1) y && match rowOf h y with
      | some zs => decide ((zs.length : Int) = 2)
      | none => false) := by
      unfold isPair isRis
      cases rowOf h y with
      | none => rfl
      | some zs => rfl
    have bd : k__law_are_pairs_1 [some x, some (.int many), some y, none] h = if isPair h many y = true then .nx [some x, some (.int many), none, none] h else .rt (.bl false) h := by
      cases c : isRis h 0 ((many : Int) - 1) y with
      | false =>
        rw [c] at e1 hp
        rw [hp]
        generalize (many : Int) = M at *
        simp [e1]
      | true =>
        rw [c] at e1 hp
        cases hr : rowOf h y with
        | none => unfold isRis at c; rw [hr] at c; cases c
        | some zs =>
          rw [hr] at hp
          have hp : isPair h many y = decide ((zs.length : Int) = 2) := by rw [hp]; rfl
          have ln := x_len hr
          rw [hp]
          generalize (many : Int) = M at *
          generalize (zs.length : Int) = Z at *
          clear ih hz
          by_cases c2 : Z = 2
          · simp [e1, ln, c2]
          · simp [e1, ln, c2]
    rw [List.all_cons]
    cases c : isPair h many y with
    | true =>
      rw [c, if_pos rfl] at bd
      rw [Bool.true_and]
      exact (loop_nx (s1 := [some x, some (.int many), some y, none]) rfl bd).trans ih
    | false =>
      rw [c] at bd
      have bd : k__law_are_pairs_1 [some x, some (.int many), some y, none] h = .rt (.bl false) h := bd
      rw [Bool.false_and]
      rw [x_loop_cons]
      simp [-k__law_are_pairs_1_ap, bd]
theorem are_pairs10 {x : D} {many : Nat} {h : Hs} (hm8 : many ≤ 8) (hok : okR x = true) (hz0 : ∀ xs, rowOf h x = some xs → xs.length < 4000) (hz : ∀ xs, rowOf h x = some xs → ∀ y ∈ xs, ∀ zs, rowOf h y = some zs → zs.length < 4000) : F__law_are_pairs [x, .int many] h = .ok (.bl (arePairs h many x)) h := by
  have w0 := law_is_row_eq (x := x) (h := h)
  have hx : ∀ b : Bool, exitT h (.bl b) h = .ok (.bl b) h := fun b => exitT_same rfl
  have hx0 := hx false
  cases hr : rowOf h x with
  | none =>
    rw [hr] at w0
    have : arePairs h many x = false := by unfold arePairs; rw [hr]
    rw [this]
    simp [F__law_are_pairs, b__law_are_pairs, w0, hx0]
  | some xs =>
    rw [hr] at w0
    have lp := pairs_loop10 (x := x) (many := many) (h := h) hm8 xs (hz xs hr)
    have f1 : sFor (iRow (eVar 0)) (gVar 2) k__law_are_pairs_1 [some x, some (.int many), none, none] h = if xs.all (isPair h many) = true then .nx [some x, some (.int many), none, none] h else .rt (.bl false) h := for_ok10 hok hr lp
    have ea : arePairs h many x = (xs.all (isPair h many) && adjB ltP (xs.map (pairOf h))) := by unfold arePairs; rw [hr]
    rw [ea]
    by_cases c : xs.all (isPair h many) = true
    · rw [if_pos c] at f1
      have hinv : ∀ y ∈ xs, ∃ p : Int × Int, rowOf h y = some [.int p.1, .int p.2] ∧ pairOf h y = p ∧ 0 ≤ p.1 ∧ p.1 < p.2 ∧ p.2 < many := fun y hy => by
        obtain ⟨p, hp, q⟩ := isPair_inv (List.all_eq_true.mp c y hy)
        exact ⟨p, hp, pairOf_row10 hp, q⟩
      have hm : (xs.map fun d => d) = xs := List.map_id' xs
      have hc : eComp false [2] (iRow (eVar 0)) (gVar 2) tYesF (eTup (aCons (eBin ixD (eVar 2) (eC (.int 0))) (aCons (eBin ixD (eVar 2) (eC (.int 1))) aNil))) [some x, some (.int many), none, none] h = .ok (.lst ((xs.map (pairOf h)).map prD)) h := by
        rw [comp_map (em := fun d => d) (xs := xs) (h1 := h) (fun y => prD (pairOf h y)) (Itr.row rfl (by rw [hm]; exact hr)) fun y hy => ?_]
        · rw [List.map_map]; rfl
        · obtain ⟨p, p1, p2, _⟩ := hinv y hy
          have a0 : ixD y (.int 0) h = .ok (.int p.1) h := x_ix_row p1 rfl
          have a1 : ixD y (.int 1) h = .ok (.int p.2) h := x_ix_row p1 rfl
          have ep : prD (pairOf h y) = .tup [.int p.1, .int p.2] := by rw [p2]; rfl
          rw [ep]
          exact ⟨_, rfl, by simp [wipeS, a0, a1]⟩
      have hpr : ∀ p ∈ xs.map (pairOf h), 0 ≤ p.1 ∧ p.1 < p.2 ∧ p.2 < (many : Int) := fun p hp => by
        obtain ⟨y, hy, rfl⟩ := List.mem_map.mp hp
        obtain ⟨p, p1, p2, p3⟩ := hinv y hy
        rw [p2]; exact p3
      have ok2 : okPr2 (xs.map (pairOf h)) = true := by
        unfold okPr2
        rw [Bool.and_eq_true, decide_eq_true_eq, List.all_eq_true]
        refine ⟨?_, fun p hp => ?_⟩
        · have := nd_sub_len (l := dedP (xs.map (pairOf h))) (m := (List.range 8).flatMap fun (j : Nat) => (List.range j).map fun (i : Nat) => ((i : Int), (j : Int))) (dedP_nd _) fun p hp => by
            have := hpr p ((dedP_mem _).mp hp)
            rw [List.mem_flatMap]
            refine ⟨p.2.toNat, List.mem_range.mpr (by omega), List.mem_map.mpr ⟨p.1.toNat, List.mem_range.mpr (by omega), ?_⟩⟩
            refine Prod.ext ?_ ?_
            · show ((p.1.toNat : Nat) : Int) = p.1
              omega
            · show ((p.2.toNat : Nat) : Int) = p.2
              omega
          have h28 : ((List.range 8).flatMap fun (j : Nat) => (List.range j).map fun (i : Nat) => ((i : Int), (j : Int))).length = 28 := by decide
          omega
        · have := hpr p hp
          exact decide_eq_true (by omega)
      have srt := x_sortSetPL (h := h) ok2
      have eqp : eqD false (.lst ((xs.map (pairOf h)).map prD)) (.lst ((sortP (dedP (xs.map (pairOf h)))).map prD)) h = .ok (.bl (decide (xs.map (pairOf h) = sortP (dedP (xs.map (pairOf h)))))) h := by
        have := eq_lists (n := false) prD (k := 1) (by omega) (d := .lst ((xs.map (pairOf h)).map prD)) (e := .lst ((sortP (dedP (xs.map (pairOf h)))).map prD)) (h := h) rfl rfl
        exact this
      rw [c, adj_srt10, Bool.true_and]
      have hxx := hx (decide (xs.map (pairOf h) = sortP (dedP (xs.map (pairOf h)))))
      generalize decide (xs.map (pairOf h) = sortP (dedP (xs.map (pairOf h)))) = v at *
      generalize D.lst ((sortP (dedP (xs.map (pairOf h)))).map prD) = L2 at *
      generalize D.lst ((xs.map (pairOf h)).map prD) = L1 at *
      generalize (many : Int) = M at *
      simp [F__law_are_pairs, b__law_are_pairs, w0, f1, hc, srt, eqp, hxx]
    · rw [if_neg c] at f1
      have c : xs.all (isPair h many) = false := by simpa using c
      rw [c, Bool.false_and]
      generalize (many : Int) = M at *
      simp [F__law_are_pairs, b__law_are_pairs, w0, f1, hx0]

end WD
namespace WD
open PySem PySem.Spec PyProof.Rows L2
theorem Sm.len10 {M k : Nat} {d : D} {h : Hs} (s : Sm M k d) : ∀ xs, rowOf h d = some xs → xs.length ≤ M := fun xs hr => (s.row hr).1
theorem Sm.part10 {M k : Nat} {d : D} {h : Hs} (s : Sm M k d) : ∀ xs, rowOf h d = some xs → ∀ y ∈ xs, Sm M k y := fun xs hr => (s.row hr).2
theorem law_is_task10 {d : D} {M k : Nat} {h : Hs} (s : Sm M k d) (hM : M ≤ 3999) : F__law_is_task [d] h = .ok (.bl (isTask h d)) h := by
  have w0 := law_is_row_eq (x := d) (h := h)
  have hx : ∀ b : Bool, exitT h (.bl b) h = .ok (.bl b) h := fun b => exitT_same rfl
  have hx0 := hx false
  cases hr : rowOf h d with
  | none =>
    rw [hr] at w0
    have : isTask h d = false := by unfold isTask; rw [hr]
    rw [this]
    simp [F__law_is_task, b__law_is_task, w0, hx0]
  | some xs =>
    rw [hr] at w0
    have ln := x_len hr
    have ps := s.part10 (h := h) xs hr
    by_cases h5 : (xs.length : Int) = 5
    · match xs, h5 with
      | [n, w, o, l, p], _ =>
        have a0 : ixD d (.int 0) h = .ok n h := x_ix_row hr rfl
        have a1 : ixD d (.int 1) h = .ok w h := x_ix_row hr rfl
        have a2 : ixD d (.int 2) h = .ok o h := x_ix_row hr rfl
        have a3 : ixD d (.int 3) h = .ok l h := x_ix_row hr rfl
        have a4 : ixD d (.int 4) h = .ok p h := x_ix_row hr rfl
        have ln : lenD [d] h = .ok (.int 5) h := ln
        have e0 := are_wholes10 (d := n) (lo := 1) (hi := 40) (least := 0) (most := 8) (h := h)
        rw [areW_nums10] at e0
        have e1 := law_whole13 (d := w) (lo := 1) (hi := 2) (h := h)
        have e2 := are_wholes10 (d := o) (lo := 0) (hi := 1) (least := 1) (most := 7) (h := h)
        rw [areW_off10] at e2
        have et : isTask h d = (isNums h n && isW 1 2 w && isOff h o && isRis h 0 ((((rowOf h n).getD []).length : Int) - 1) l && arePairs h (((rowOf h n).getD []).length : Int) p) := by unfold isTask; rw [hr]
        rw [et]
        cases hn : isNums h n with
        | false =>
          rw [hn] at e0
          clear et
          simp [F__law_is_task, b__law_is_task, w0, ln, a0, e0, hx0]
        | true =>
          rw [hn] at e0
          have hrn : ∃ ys, rowOf h n = some ys ∧ ys.length ≤ 8 := by
            unfold isNums at hn
            cases q : rowOf h n with
            | none => rw [q] at hn; cases hn
            | some ys =>
              rw [q] at hn
              simp only [Bool.and_eq_true, decide_eq_true_eq] at hn
              exact ⟨ys, rfl, by omega⟩
          obtain ⟨ys, hy, hy8⟩ := hrn
          have lny : lenD [n] h = .ok (.int ys.length) h := x_len hy
          rw [hy, Option.getD_some]
          cases hw : isW 1 2 w with
          | false =>
            rw [hw] at e1
            clear et
            simp [F__law_is_task, b__law_is_task, w0, ln, a0, e0, a1, e1, hx0]
          | true =>
            rw [hw] at e1
            cases ho : isOff h o with
            | false =>
              rw [ho] at e2
              clear et
              simp [F__law_is_task, b__law_is_task, w0, ln, a0, e0, a1, e1, a2, e2, hx0]
            | true =>
              rw [ho] at e2
              have sl := ps l (by simp)
              have sp := ps p (by simp)
              have e3 := law_are_some10 (x := l) (many := ys.length) (h := h) hy8 (fun zs hz => by have := sl.len10 zs hz; omega)
              have e4 := are_pairs10 (x := p) (many := ys.length) (h := h) hy8 sp.ok (fun zs hz => by have := sp.len10 zs hz; omega) (fun zs hz y hy' us hu => by have := (sp.part10 zs hz y hy').len10 us hu; omega)
              clear et
              cases hl : isRis h 0 ((ys.length : Int) - 1) l with
              | false =>
                rw [hl] at e3
                generalize (ys.length : Int) = L at *
                simp [F__law_is_task, b__law_is_task, w0, ln, a0, e0, a1, e1, a2, e2, a3, lny, e3, hx0]
              | true =>
                rw [hl] at e3
                have hxx := hx (arePairs h (ys.length : Int) p)
                generalize arePairs h (ys.length : Int) p = v at *
                generalize (ys.length : Int) = L at *
                simp [F__law_is_task, b__law_is_task, w0, ln, a0, e0, a1, e1, a2, e2, a3, lny, e3, a4, e4, hxx]
    · have : ∀ (n w o l p : D), xs ≠ [n, w, o, l, p] := fun n w o l p e => h5 (by rw [e]; rfl)
      have hf : isTask h d = false := by
        unfold isTask
        rw [hr]
        split
        · rename_i e; exact absurd (Option.some.inj e) (this _ _ _ _ _)
        · rfl
      rw [hf]
      generalize (xs.length : Int) = L at *
      simp [F__law_is_task, b__law_is_task, w0, ln, h5, hx0]
theorem is_task10 {d : D} {M k : Nat} {h : Hs} (s : Sm M k d) (hM : M ≤ 3999) : F_is_task [d] h = .ok (.bl (isTask h d)) h :=
  F_is_task_all fun n w o l p xs e1 e2 => by
    have := (s.part10 _ e1 p (by simp)).len10 _ e2
    omega
theorem reprR_bl10 (b : Bool) : ∃ x : Str, PyData.strOk x = true ∧ ∀ h : Hs, reprR [.bl b] h = .ok (.str x) h := Sm.repr (M := 0) (k := 0) ⟨rfl, Nat.le_refl _, Nat.le_refl _⟩ (by omega) (by omega)
theorem looked_at10 {d : D} {M k : Nat} {h : Hs} (s : Sm M k d) (hM : M ≤ 3999) (hk : k ≤ 60) : F__law_looked_at [d] h = .ok (.bl true) h := by
  obtain ⟨x, x1, x2⟩ := s.repr (by omega) hk
  obtain ⟨y, y1, y2⟩ := reprR_bl10 (isTask h d)
  have e1 := law_is_task10 (h := h) s hM
  have e2 := is_task10 (h := h) s hM
  have rx := x2 h
  have ry := y2 h
  have qx := eq_strx (n := true) (x := x) (h := h) x1
  have qy := eq_strx (n := true) (x := y) (h := h) y1
  have hx : exitT h (.bl true) h = .ok (.bl true) h := exitT_same rfl
  obtain ⟨v, hv⟩ : ∃ v : D, v = .bl (isTask h d) := ⟨_, rfl⟩
  rw [← hv] at e1 e2 ry
  have lp : ∀ rs : List Int, loopS (gVar 3) k__law_looked_at_2 (rs.map D.int) [some d, some (.str x), some v, none] h = .nx [some d, some (.str x), some v, none] h := fun rs => by
    induction rs with
    | nil => exact x_loop_nil
    | cons i rs ih =>
      rw [List.map_cons]
      refine (loop_nx (s1 := [some d, some (.str x), some v, some (.int i)]) rfl ?_).trans ih
      simp [e2, ry, qy, rx, qx]
  have f2 : sFor (iRng1 (aCons (eC (.int 2)) aNil)) (gVar 3) k__law_looked_at_2 [some d, some (.str x), some v, none] h = .nx [some d, some (.str x), some v, none] h := (for_rng (n := 2) rfl (by omega) (by omega)).trans (lp _)
  simp [F__law_looked_at, b__law_looked_at, rx, e1, f2, hx]
theorem plain_refused10 {d : D} {h : Hs} (hn : isNums h d = false) : F__law_plain_refused [d] h = .ok (.bl true) h := by
  have q : F_plain [d] h = .err ⟨"NoNumbers", none⟩ h := by
    have e := F_is_numbers_eq (d := d) (h := h)
    rw [hn] at e
    simp [F_plain, b_plain, F_asked_numbers, b_asked_numbers, e]
  have q0 : k__law_plain_refused_0 [some d, none, none] h = .er ⟨"NoNumbers", none⟩ [some d, none, none] h := by simp [q]
  have s0 : subX "NoNumbers" "DaysError" = true := by decide
  have s1 : subX "NoNumbers" "ValueError" = true := by decide
  have ho : OkX ["NoNumbers"] [("TooMany", "most")] ⟨"NoNumbers", none⟩ := by simp [OkX]
  have ck : F__law_other_kinds ⟨"NoNumbers", none⟩ h = .ok (.lst ((kindsL "NoNumbers").map D.bl)) h := other_kinds_eq
  have c1 := x_countB (bs := kindsL "NoNumbers") (h := h)
  have hk : (kindsL "NoNumbers").countP id = 1 := by rw [kinds_numbers]; rfl
  rw [hk] at c1
  have c1 : countD (.lst ((kindsL "NoNumbers").map D.bl)) [.bl true] h = .ok (.int 1) h := c1
  have c2 : ixD (.lst ((kindsL "NoNumbers").map D.bl)) (.int 0) h = .ok (.bl true) h := x_ix_row (xs := (kindsL "NoNumbers").map D.bl) rfl (by rw [kinds_numbers]; rfl)
  have hx : exitT h (.bl true) h = .ok (.bl true) h := exitT_same rfl
  have hl : lstOf h (.lst ((kindsL "NoNumbers").map D.bl)) = some ((kindsL "NoNumbers").map D.bl) := rfl
  clear hk
  generalize D.lst ((kindsL "NoNumbers").map D.bl) = KD at *
  simp [-k__law_plain_refused_0_ap, F__law_plain_refused, b__law_plain_refused, sTryX, q0, ho, s0, s1, ck, c1, c2, hl, unset, hx]
def tkP10 (ns : List Int) : Tk := ⟨ns, 1, [0], [], []⟩
theorem repr_LkR10 {G : Hs} {lo b : Nat} {d dS : D} (l : Lk G lo b d dS) (n1 : smlD dS = true) (n2 : depD dS ≤ 60) (n3 : blkD dS ≤ 1000000) : ∃ x : Str, PyData.strOk x = true ∧ reprR [d] G = .ok (.str x) G := by
  obtain ⟨p, h1, h2, h3, h4, h5⟩ := small_toP dS 60 n1 n2
  have hl : p.shown.length ≤ sizeLine := PyData.shown_fits_bulk (B := 9) (by omega) (by omega) h4 (by rw [h2]; exact Nat.le_trans n3 (by decide))
  have e : toP G 60 d = some p := by rw [Lk.toP dS lo b d 60 l]; exact h1 G
  have hd : p.depth ≤ 62 := by
    have := (toP_ok G 60 d p e).2
    omega
  exact ⟨p.shown, h5, x_reprR (toR_of 60 d p e) h3 hl hd⟩

end WD
namespace WD
open PySem PySem.Spec PyProof.Rows L2
structure Like (d d' : D) : Prop where
  ok : okR d' = okR d
  bk : bkR d' = bkR d
  dp : dpR d' = dpR d
theorem like_rows : ∀ {xs ys : List D}, relL Like xs ys → okRs ys = okRs xs ∧ bkRs ys = bkRs xs ∧ dpRs ys = dpRs xs
  | [], [], _ => ⟨rfl, rfl, rfl⟩
  | [], _ :: _, h => h.elim
  | _ :: _, [], h => h.elim
  | x :: xs, y :: ys, h => by
    obtain ⟨h1, h2⟩ := h
    obtain ⟨a1, a2, a3⟩ := like_rows h2
    exact ⟨by simp only [okRs, h1.ok, a1], by simp only [bkRs, h1.bk, a2], by simp only [dpRs, h1.dp, a3]⟩
theorem listed_s10 : ∀ (n : Nat) (d : D) (dr : Int) (h : Hs), okT d = true → okR d = true → depD d < n → blkD d ≤ 100000 → ∃ d', F__law_listed_s n [d, .int dr] h = .ok d' h ∧ Like d d'
  | 0, d, dr, h, _, _, hd, _ => by omega
  | n + 1, d, dr, h, ho, hk, hd, hz => by
    have leaf : d.und h.length = true → d.isT = false → ∃ d', F__law_listed_s (n + 1) [d, .int dr] h = .ok d' h ∧ Like d d' := fun hu hty => by
      refine ⟨d, ?_, ⟨rfl, rfl, rfl⟩⟩
      have hx : exitT h d h = .ok d h := exitT_same hu
      simp [F__law_listed_s, b__law_listed_s, hty, hx]
    cases d with
    | non => exact leaf rfl rfl
    | bl v => exact leaf rfl rfl
    | int v => exact leaf rfl rfl
    | str v => exact leaf rfl rfl
    | lst _ => simp [okT] at ho
    | scr _ => simp [okT] at ho
    | dic _ _ => simp [okT] at ho
    | loc _ => simp [okT] at ho
    | tup xs =>
      simp only [okT] at ho
      simp only [okR] at hk
      simp only [depD] at hd
      simp only [blkD] at hz
      have okm : ∀ x ∈ xs, okR x = true := by
        have : ∀ ys : List D, okRs ys = true → ∀ x ∈ ys, okR x = true := fun ys => by
          induction ys with
          | nil => intro _ x hx; cases hx
          | cons y ys ih =>
            intro q x hx
            simp only [okRs, Bool.and_eq_true] at q
            rcases List.mem_cons.mp hx with rfl | hx
            · exact q.1
            · exact ih q.2 x hx
        exact this xs hk
      obtain ⟨acc, G, ⟨i, done, eG, e1, e3, e4⟩, e⟩ := comp_inv (m := false) (vs := [3, 4]) (fi := iEnumerate (aCons (eVar 0) aNil)) (g := gUn [(gVar 3), (gVar 4)]) (tt := tYesF) (te := eCall 2 (F__law_listed_s n) (aCons (eVar 4) (aCons (eBin addD (eBin fdivD (eVar 1) (eC (.int 3))) (eBin mulD (eVar 3) (eVar 3))) aNil)))
        (s := [some (.tup xs), some (.int dr), none, none, none]) (h := h) (h1 := h) (xs := enL 0 xs)
        (fun acc rest G => ∃ (i : Nat) (done : List D), G = h ∧ rest = enL i (xs.drop i) ∧ relL Like done acc ∧ done = xs.take i) (Itr.enT rfl) (fun k z => by cases z) ⟨0, [], rfl, by simp, trivial, by simp⟩ (fun acc x rest G ⟨i, done, eG, e1, e3, e4⟩ => by
          have hil : i < xs.length := by
            apply Classical.byContradiction
            intro q
            rw [List.drop_eq_nil_of_le (by omega)] at e1
            cases e1
          rw [List.drop_eq_getElem_cons hil] at e1
          have e1 : x :: rest = .tup [.int (i : Int), xs[i]] :: enL (i + 1) (xs.drop (i + 1)) := e1
          injection e1 with ex er
          subst ex er eG
          have hm : xs[i] ∈ xs := List.getElem_mem hil
          obtain ⟨d', f1, f3⟩ := listed_s10 n xs[i] (dr / 3 + (i : Int) * i) G (okTs_mem ho hm) (okm _ hm) (by have := depDs_mem hm; omega) (by have := blkDs_mem hm; omega)
          refine ⟨_, rfl, .inr ⟨rfl, d', G, ?_, i + 1, done ++ [xs[i]], rfl, rfl, relL.snoc e3 f3, by rw [e4, List.take_succ_eq_append_getElem hil]⟩⟩
          have hi5 : (i : Int) ≤ 100000 := by have := blkDs_len (xs := xs); omega
          have hi0 : (0 : Int) ≤ i := by omega
          have hmu : mulD (.int (i : Int)) (.int (i : Int)) G = .ok (.int ((i : Int) * i)) G := x_mlL (by omega) (by omega)
          generalize xs[i] = X at *
          generalize (i : Int) = I at *
          simp [hmu, f1])
      have hdone : done = xs := by
        rw [e4]
        refine List.take_of_length_le ?_
        apply Classical.byContradiction
        intro q
        rw [List.drop_eq_getElem_cons (by omega)] at e1
        cases e1
      subst hdone eG
      obtain ⟨s2, s3, s4⟩ := like_rows e3
      rw [hk] at s2
      have hG : newL false acc G = .ok (.lst acc) G := rfl
      rw [hG] at e
      have htu : tupleD [.lst acc] G = .ok (.tup acc) G := x_tuple (d := .lst acc) (xs := acc) rfl
      have hmo : modD (.int dr) (.int 2) G = .ok (.int (dr % 2)) G := by rw [x_mod, if_pos (by decide)]
      have hu1 : (D.lst acc).und G.length = true := okR_und (.lst acc) _ s2
      have hu2 : (D.tup acc).und G.length = true := okR_und (.tup acc) _ s2
      by_cases c : dr % 2 = 0
      · refine ⟨.lst acc, ?_, ⟨by show okRs acc = okRs done; rw [s2, hk], s3, by show dpRs acc + 1 = dpRs done + 1; rw [s4]⟩⟩
        have hix : ixD (.lst [.lst acc, .tup acc]) (.int (dr % 2)) G = .ok (.lst acc) G := by rw [c]; rfl
        have hx : exitT G (.lst acc) G = .ok (.lst acc) G := exitT_same hu1
        clear e3 hu1 hu2
        simp [F__law_listed_s, b__law_listed_s, e, htu, hix, hx]
      · have c : dr % 2 = 1 := by omega
        refine ⟨.tup acc, ?_, ⟨by show okRs acc = okRs done; rw [s2, hk], s3, by show dpRs acc + 1 = dpRs done + 1; rw [s4]⟩⟩
        have hix : ixD (.lst [.lst acc, .tup acc]) (.int (dr % 2)) G = .ok (.tup acc) G := by rw [c]; rfl
        have hx : exitT G (.tup acc) G = .ok (.tup acc) G := exitT_same hu2
        clear e3 hu1 hu2
        simp [F__law_listed_s, b__law_listed_s, e, htu, hix, hx]
theorem okT_iT10 (l : List Int) : okT (iT l) = true := by
  show okTs (l.map D.int) = true
  induction l with
  | nil => rfl
  | cons x l ih => simp [okTs, okT, ih]
theorem F_plain10 {d : D} {ns : List Int} {h : Hs} (hr : rowOf h d = some (ns.map D.int)) (hn : NumOk ns) : F_plain [d] h = .ok (tkP10 ns).D h := by
  have e := F_asked_numbers_eq hr hn
  have hx : exitT h (tkP10 ns).D h = .ok (tkP10 ns).D h := exitT_same (und_tk _ _)
  have hD : (tkP10 ns).D = .tup [iT ns, .int 1, .tup [.int 0], .tup [], .tup []] := rfl
  rw [hD] at hx ⊢
  generalize iT ns = NS at *
  simp [F_plain, b_plain, e, hx]
theorem sm_tkP10 {ns : List Int} (hn : NumOk ns) : Sm 30 2 (tkP10 ns).D := by
  have h1 : Sm (8 * 1) 1 (iT ns) := Sm.iT 8 (fun n hm => by have := hn.2 n hm; omega) hn.1
  have a1 := h1.ok
  have a2 := h1.bk
  have a3 := h1.dp
  have hD : (tkP10 ns).D = .tup [iT ns, .int 1, .tup [.int 0], .tup [], .tup []] := rfl
  rw [hD]
  refine ⟨?_, ?_, ?_⟩
  · simp only [okR, okRs, a1]; decide +kernel
  · simp only [bkR, bkRs]; omega
  · simp only [dpR, dpRs]; omega
theorem isTask_P10 {ns : List Int} (hn : NumOk ns) {h : Hs} : isTask h (tkP10 ns).D = true := by
  have hr : rowOf h (iT ns) = some (ns.map D.int) := rfl
  have hD : (tkP10 ns).D = .tup [iT ns, .int 1, .tup [.int 0], .tup [], .tup []] := rfl
  rw [hD, isTask5, isNums_ok hr hn]
  rfl
theorem is_plain10 {ns : List Int} {dr : Int} {h : Hs} (hn : NumOk ns) : F__law_is_plain [iT ns, .int dr] h = .ok (.bl true) h := by
  obtain ⟨i1, i2, i3⟩ := Sms.iT (ns := ns) fun n hm => by have := hn.2 n hm; omega
  have h8 := hn.1
  obtain ⟨d', dS, u, e1, l1, sm1⟩ := listed_gen 45 (iT ns) dr h (okT_iT10 ns) (by omega) (by omega)
  obtain ⟨G1, hG1⟩ : ∃ G1 : Hs, G1 = h ++ u := ⟨_, rfl⟩
  rw [← hG1] at e1 l1
  obtain ⟨x, x1, rx⟩ := repr_LkR10 l1 (by rw [sm1.sm]; exact i1) (by rw [sm1.dp]; omega) (by rw [sm1.bk]; omega)
  have v1 : vq G1 1 d' = some (dayQ ns) := by rw [Lk.vq dS _ _ d' 1 l1, sm1.vw]; exact vq_iT (n := 0)
  have rc : rowOf G1 d' = some (ns.map D.int) := by
    obtain ⟨m, _, hr⟩ := dayQ_inv v1
    exact hr
  have pl := F_plain10 rc hn
  have sp := sm_tkP10 hn
  obtain ⟨y, y1, y2⟩ := sp.repr (by omega) (by omega)
  obtain ⟨G', e4, k1, k2⟩ := Lk.spoil dS h.length G1.length d' 45 G1 l1 (by rw [sm1.dp]; omega)
  have r1 := y2 G1
  have r2 := y2 G'
  have qx := eq_strx (n := true) (x := x) (h := G1) x1
  have qy := eq_strx (n := true) (x := y) (h := G1) y1
  have qy2 := eq_strx (n := false) (x := y) (h := G') y1
  have it := is_task10 (h := G') sp (by omega)
  rw [isTask_P10 hn] at it
  have hxx : exitT h (.bl true) G' = .ok (.bl true) h := exitT_pre (by rw [k1, hG1]; simp) (fun i hi => by rw [k2 i (.inl hi), hG1, List.getElem?_append_left hi]) rfl
  have ib : isBlD false (.bl true) (.bl true) G' = .ok (.bl true) G' := rfl
  have hD : (tkP10 ns).D = .tup [iT ns, .int 1, .tup [.int 0], .tup [], .tup []] := rfl
  rw [hD] at pl r1 r2 it
  clear l1 sm1 v1 rc sp y2 k2 hG1 hD
  generalize iT ns = NS at *
  simp [F__law_is_plain, b__law_is_plain, e1, rx, pl, r1, qx, qy, e4, r2, qy2, it, ib, hxx]

end WD
namespace WD
open PySem PySem.Spec PyProof.Rows L2
structure Lq (M k : Nat) (xs : List D) : Prop where
  ok : okRs xs = true
  bk : bkRs xs ≤ M
  dp : dpRs xs ≤ k
theorem okRs_app : ∀ {xs ys : List D}, okRs (xs ++ ys) = (okRs xs && okRs ys) ∧ bkRs (xs ++ ys) = bkRs xs + bkRs ys ∧ dpRs (xs ++ ys) = max (dpRs xs) (dpRs ys)
  | [], ys => ⟨by simp [okRs], by simp [bkRs], by simp [dpRs]⟩
  | x :: xs, ys => by
    obtain ⟨a, b, c⟩ := okRs_app (xs := xs) (ys := ys)
    refine ⟨?_, ?_, ?_⟩
    · simp only [List.cons_append, okRs, a, Bool.and_assoc]
    · simp only [List.cons_append, bkRs, b]; omega
    · simp only [List.cons_append, dpRs, c]; omega
theorem Lq.app {M N k : Nat} {xs ys : List D} (a : Lq M k xs) (b : Lq N k ys) : Lq (M + N) k (xs ++ ys) := by
  obtain ⟨e1, e2, e3⟩ := okRs_app (xs := xs) (ys := ys)
  have a1 := a.ok
  have a2 := a.bk
  have a3 := a.dp
  have b1 := b.ok
  have b2 := b.bk
  have b3 := b.dp
  exact ⟨by rw [e1, a1, b1]; rfl, by omega, by omega⟩
theorem Lq.mono {M N k : Nat} {xs : List D} (a : Lq M k xs) (h : M ≤ N) : Lq N k xs := ⟨a.ok, Nat.le_trans a.bk h, a.dp⟩
theorem Lq.sub {M k : Nat} {xs ys : List D} (h : xs.Sublist ys) (q : Lq M k ys) : Lq M k xs := by
  induction h generalizing M with
  | slnil => exact q
  | cons a _ ih =>
    have h1 := q.ok
    have h2 := q.bk
    have h3 := q.dp
    simp only [okRs, bkRs, dpRs, Bool.and_eq_true] at h1 h2 h3
    exact ih ⟨h1.2, by omega, by omega⟩
  | cons_cons a _ ih =>
    have h1 := q.ok
    have h2 := q.bk
    have h3 := q.dp
    simp only [okRs, bkRs, dpRs, Bool.and_eq_true] at h1 h2 h3
    have i := ih (M := M - (bkR a + 1)) ⟨h1.2, by omega, by omega⟩
    have i1 := i.ok
    have i2 := i.bk
    have i3 := i.dp
    refine ⟨by simp only [okRs, h1.1, i1]; rfl, by simp only [bkRs]; omega, by simp only [dpRs]; omega⟩
theorem Lq.cut {M k : Nat} {xs : List D} {lo hi : Option Int} (q : Lq M k xs) : Lq M k (cutG xs lo hi) := by
  refine Lq.sub ?_ q
  unfold cutG
  exact (List.take_sublist _ _).trans (List.drop_sublist _ _)
theorem Lq.rev {M k : Nat} : ∀ {xs : List D}, Lq M k xs → Lq M k xs.reverse
  | [], q => q
  | x :: xs, q => by
    have h1 := q.ok
    have h2 := q.bk
    have h3 := q.dp
    simp only [okRs, bkRs, dpRs, Bool.and_eq_true] at h1 h2 h3
    have i := Lq.rev (M := M - (bkR x + 1)) (k := k) (xs := xs) ⟨h1.2, by omega, by omega⟩
    rw [List.reverse_cons]
    have one : Lq (bkR x + 1) k [x] := ⟨by simp only [okRs, h1.1]; rfl, by simp only [bkRs]; omega, by simp only [dpRs]; omega⟩
    exact (i.app one).mono (by omega)
theorem Lq.one {N k : Nat} {x : D} (s : Sm N k x) : Lq (N + 1) k [x] := by
  have h1 := s.ok
  have h2 := s.bk
  have h3 := s.dp
  exact ⟨by simp only [okRs, h1]; rfl, by simp only [bkRs]; omega, by simp only [dpRs]; omega⟩
theorem Lq.nil {k : Nat} : Lq 0 k [] := ⟨rfl, Nat.le_refl _, Nat.zero_le _⟩
theorem Lq.lst {M k : Nat} {xs : List D} (q : Lq M k xs) : Sm M (k + 1) (.lst xs) := ⟨q.ok, q.bk, Nat.succ_le_succ q.dp⟩
theorem Lq.tup {M k : Nat} {xs : List D} (q : Lq M k xs) : Sm M (k + 1) (.tup xs) := ⟨q.ok, q.bk, Nat.succ_le_succ q.dp⟩
theorem Sm.lq {M k : Nat} {d : D} {h : Hs} {xs : List D} (s : Sm M (k + 1) d) (hr : rowOf h d = some xs) : Lq M k xs := by
  have h1 := s.ok
  have h2 := s.bk
  have h3 := s.dp
  cases d with
  | tup ys => cases hr; exact ⟨h1, h2, Nat.le_of_succ_le_succ h3⟩
  | lst ys => cases hr; exact ⟨h1, h2, Nat.le_of_succ_le_succ h3⟩
  | scr ys => simp [okR] at h1
  | loc n => simp [okR] at h1
  | _ => cases hr
theorem Lq.mem {M k : Nat} {x : D} : ∀ {xs : List D}, Lq M k xs → x ∈ xs → Sm M k x
  | y :: xs, q, h => by
    have h1 := q.ok
    have h2 := q.bk
    have h3 := q.dp
    simp only [okRs, bkRs, dpRs, Bool.and_eq_true] at h1 h2 h3
    rcases List.mem_cons.mp h with rfl | h
    · exact ⟨h1.1, by omega, by omega⟩
    · exact Lq.mem (xs := xs) ⟨h1.2, by omega, by omega⟩ h
theorem Lq.len {M k : Nat} {xs : List D} (q : Lq M k xs) : xs.length ≤ M := by
  have h2 := q.bk
  have : ∀ ys : List D, ys.length ≤ bkRs ys := fun ys => by
    induction ys with
    | nil => exact Nat.zero_le _
    | cons y ys ih => simp only [List.length_cons, bkRs]; omega
  exact Nat.le_trans (this xs) h2
theorem sm_row10 {d : D} {M k : Nat} (s : Sm M k d) {h G : Hs} : rowOf h d = rowOf G d := by
  have h1 := s.ok
  cases d with
  | loc n => simp [okR] at h1
  | _ => rfl
theorem odd_sm10 : ∀ x ∈ oddL, Sm 60 31 x := by
  have : ∀ x ∈ oddL, okR x = true ∧ bkR x ≤ 60 ∧ dpR x ≤ 31 := by decide +kernel
  exact fun x hx => ⟨(this x hx).1, (this x hx).2.1, (this x hx).2.2⟩
def numL10 (l : Int) : List D := [.int 0, .int 1, .int 2, .int 7, .int 8, .int 40, .int 41, .int (-1), .int l, .bl true] ++ [.tup [.int 0, .int 1], .tup [.int 1, .int 0], .lst [.int 0, .int 2], .tup [.int 0, .int 0], .tup [.int 1, .int 2, .int 3], .tup [.int 6, .int 7]]
theorem num_sm10 {l : Nat} (hl : l ≤ 4000) : ∀ x ∈ numL10 l, Sm 60 31 x := by
  intro x hx
  unfold numL10 at hx
  simp only [List.mem_append, List.mem_cons, List.not_mem_nil, or_false] at hx
  have hb : okR (.int l) = true := decide_eq_true (small_big (show -1000000 ≤ (l : Int) ∧ (l : Int) ≤ 1000000 by omega))
  have c : ∀ y : D, okR y = true ∧ bkR y ≤ 60 ∧ dpR y ≤ 31 → Sm 60 31 y := fun y q => ⟨q.1, q.2.1, q.2.2⟩
  rcases hx with (rfl | rfl | rfl | rfl | rfl | rfl | rfl | rfl | rfl | rfl) | rfl | rfl | rfl | rfl | rfl | rfl
  all_goals first
    | exact ⟨hb, Nat.zero_le _, Nat.zero_le _⟩
    | exact c _ (by decide +kernel)
theorem Lq.halves {M k : Nat} {xs : List D} (q : Lq M k xs) (j : Nat) : ∃ A B : Nat, A + B ≤ M ∧ Lq A k (xs.take j) ∧ Lq B k (xs.drop j) := by
  have e := (okRs_app (xs := xs.take j) (ys := xs.drop j)).2.1
  rw [List.take_append_drop] at e
  have h := q.bk
  have a := Lq.sub (List.take_sublist j xs) q
  have b := Lq.sub (List.drop_sublist j xs) q
  exact ⟨bkRs (xs.take j), bkRs (xs.drop j), by omega, ⟨a.ok, Nat.le_refl _, a.dp⟩, ⟨b.ok, Nat.le_refl _, b.dp⟩⟩
theorem bent_q10 {M k : Nat} {xs : List D} (q : Lq M k xs) {a : Int} (ha : 0 ≤ a) : Lq (M + M) k (cutG xs none (some a) ++ cutG xs (some a) (some (a + 1)) ++ cutG xs (some a) none) := by
  rw [cut_hi ha, cut_lo ha, cut_lohi ha (by omega)]
  obtain ⟨A, B, hab, qa, qb⟩ := q.halves a.toNat
  exact ((qa.app (Lq.sub (List.take_sublist _ _) qb)).app qb).mono (by omega)
theorem bent_r10 {M k : Nat} {xs : List D} (q : Lq M k xs) {a : Int} (ha : 0 ≤ a) : Lq (M + M) k (cutG xs none (some a) ++ (cutG xs (some a) (some (a + 2))).reverse ++ cutG xs (some (a + 2)) none) := by
  rw [cut_hi ha, cut_lo (show 0 ≤ a + 2 by omega), cut_lohi ha (by omega)]
  obtain ⟨A, B, hab, qa, qb⟩ := q.halves a.toNat
  have e : xs.drop (a + 2).toNat = (xs.drop a.toNat).drop 2 := by
    rw [List.drop_drop]
    congr 1
    omega
  rw [e]
  exact ((qa.app (Lq.rev (Lq.sub (List.take_sublist _ _) qb))).app (Lq.sub (List.drop_sublist _ _) qb)).mono (by omega)
theorem bent_row10 {n : Nat} {H : Hs} (K : Dk n H) {d : D} {xs : List D} {M : Nat} (hr : ∀ G, rowOf G d = some xs) (q : Lq M 31 xs) (hM : M ≤ 3000) : ∃ (ys : List D) (H2 : Hs), Dw n H H2 ∧ Dk n H2 ∧ Lq (2 * M + 100) 31 ys ∧ F__law_bent_row [.loc n, d] H = .ok (.lst ys) H2 := by
  have hlen := q.len
  have ls : listD false [d] H = .ok (.lst xs) H := by rw [x_list (hr H)]; rfl
  obtain ⟨v, H1, w1, k1, e1⟩ := K.next
  have ln : ∀ G : Hs, lenD [.lst xs] G = .ok (.int xs.length) G := fun G => x_len (d := .lst xs) rfl
  have m1 : modD (.int v) (.int ((xs.length : Int) + 1)) H1 = .ok (.int (v % ((xs.length : Int) + 1))) H1 := by rw [x_mod, if_pos (by omega)]
  have ha : 0 ≤ v % ((xs.length : Int) + 1) := Int.emod_nonneg _ (by omega)
  generalize v % ((xs.length : Int) + 1) = a at m1 ha
  obtain ⟨v2, H2, w2, k2, e2⟩ := k1.next
  have m2 : modD (.int v2) (.int 6) H2 = .ok (.int (v2 % 6)) H2 := by rw [x_mod, if_pos (by decide)]
  have sl : ∀ (lo hi : Option Int) (G : Hs), slD false (.lst xs) lo hi G = .ok (.lst (cutG xs lo hi)) G := fun lo hi G => by rw [sl_lst]; rfl
  have cq : ∀ lo hi : Option Int, Lq M 31 (cutG xs lo hi) := fun lo hi => q.cut
  have cl : ∀ lo hi : Option Int, (cutG xs lo hi).length ≤ 3000 := fun lo hi => Nat.le_trans (cq lo hi).len hM
  have w12 := w1.trans w2
  have hcase : v2 % 6 = 0 ∨ v2 % 6 = 1 ∨ v2 % 6 = 2 ∨ v2 % 6 = 3 ∨ v2 % 6 = 4 ∨ v2 % 6 = 5 := by omega
  have fin : ∀ (ys : List D) (G : Hs), Dw n H G → Dk n G → Lq (2 * M + 100) 31 ys → (exitT H (.lst ys) G = .ok (.lst ys) G → F__law_bent_row [.loc n, d] H = .ok (.lst ys) G) → ∃ (ys : List D) (H2 : Hs), Dw n H H2 ∧ Dk n H2 ∧ Lq (2 * M + 100) 31 ys ∧ F__law_bent_row [.loc n, d] H = .ok (.lst ys) H2 := fun ys G w k l e =>
    ⟨ys, G, w, k, l, e (w.exit (okR_und (.lst ys) _ l.ok))⟩
  have lnH := ln H1
  rcases hcase with c | c | c | c | c | c
  · rw [c] at m2
    have p1 := sl none (some a) H2
    have p2 := sl (some (a + 1)) none H2
    have l1 := cl none (some a)
    have l2 := cl (some (a + 1)) none
    have q1 := cq none (some a)
    have q2 := cq (some (a + 1)) none
    clear cl cq sl
    generalize cutG xs none (some a) = C1 at *
    generalize cutG xs (some (a + 1)) none = C2 at *
    have a1 : addD (.lst C1) (.lst C2) H2 = .ok (.lst (C1 ++ C2)) H2 := add_lst (by omega)
    refine fin (C1 ++ C2) H2 w12 k2 ((q1.app q2).mono (by omega)) fun hx => ?_
    clear fin q1 q2 l1 l2 hr ln q hlen
    generalize C1 ++ C2 = R at *
    generalize D.lst xs = LX at *
    generalize (xs.length : Int) = L at *
    simp [-add_lst, -sl_lst, F__law_bent_row, b__law_bent_row, ls, e1, lnH, m1, e2, m2, p1, p2, a1, hx]
  · rw [c] at m2
    obtain ⟨z, hz, H3, w3, k3, e3⟩ := law_odd_eq k2
    have zs := odd_sm10 z hz
    have p1 := sl none (some a) H2
    have p2 := sl (some a) none H3
    have l1 := cl none (some a)
    have l2 := cl (some a) none
    have q1 := cq none (some a)
    have q2 := cq (some a) none
    clear cl cq sl
    generalize cutG xs none (some a) = C1 at *
    generalize cutG xs (some a) none = C2 at *
    have a1 : addD (.lst C1) (.lst [z]) H3 = .ok (.lst (C1 ++ [z])) H3 := add_lst (by simp; omega)
    have a2 : addD (.lst (C1 ++ [z])) (.lst C2) H3 = .ok (.lst (C1 ++ [z] ++ C2)) H3 := add_lst (by simp; omega)
    refine fin (C1 ++ [z] ++ C2) H3 (w12.trans w3) k3 (((q1.app (Lq.one zs)).app q2).mono (by omega)) fun hx => ?_
    clear fin q1 q2 l1 l2 hr ln q hlen zs hz
    generalize C1 ++ [z] ++ C2 = R at *
    generalize C1 ++ [z] = R1 at *
    generalize D.lst xs = LX at *
    generalize (xs.length : Int) = L at *
    simp [-add_lst, -sl_lst, F__law_bent_row, b__law_bent_row, ls, e1, lnH, m1, e2, m2, p1, p2, e3, a1, a2, hx]
  · rw [c] at m2
    have p1 := sl none (some a) H2
    have p2 := sl (some a) (some (a + 1)) H2
    have p3 := sl (some a) none H2
    have l1 := cl none (some a)
    have l2 := cl (some a) (some (a + 1))
    have l3 := cl (some a) none
    have q12 : Lq (M + M) 31 (cutG xs none (some a) ++ cutG xs (some a) (some (a + 1)) ++ cutG xs (some a) none) := bent_q10 q ha
    clear cl cq sl
    generalize cutG xs none (some a) = C1 at *
    generalize cutG xs (some a) (some (a + 1)) = C2 at *
    generalize cutG xs (some a) none = C3 at *
    have a1 : addD (.lst C1) (.lst C2) H2 = .ok (.lst (C1 ++ C2)) H2 := add_lst (by omega)
    have a2 : addD (.lst (C1 ++ C2)) (.lst C3) H2 = .ok (.lst (C1 ++ C2 ++ C3)) H2 := add_lst (by simp; omega)
    refine fin (C1 ++ C2 ++ C3) H2 w12 k2 (q12.mono (by omega)) fun hx => ?_
    clear fin q12 l1 l2 l3 hr ln q hlen
    generalize C1 ++ C2 ++ C3 = R at *
    generalize C1 ++ C2 = R1 at *
    generalize D.lst xs = LX at *
    generalize (xs.length : Int) = L at *
    simp [-add_lst, -sl_lst, F__law_bent_row, b__law_bent_row, ls, e1, lnH, m1, e2, m2, p1, p2, p3, a1, a2, hx]
  · rw [c] at m2
    have p1 := sl none (some a) H2
    have p2 := sl (some a) (some (a + 2)) H2
    have p3 := sl (some (a + 2)) none H2
    have l1 := cl none (some a)
    have l2 := cl (some a) (some (a + 2))
    have l3 := cl (some (a + 2)) none
    have q12 : Lq (M + M) 31 (cutG xs none (some a) ++ (cutG xs (some a) (some (a + 2))).reverse ++ cutG xs (some (a + 2)) none) := bent_r10 q ha
    clear cl cq sl
    generalize cutG xs none (some a) = C1 at *
    generalize cutG xs (some a) (some (a + 2)) = C2 at *
    generalize cutG xs (some (a + 2)) none = C3 at *
    have rv : ∀ x4 x5 : Option D, eRevL (eSl false (eVar 1) (oSome (eVar 2)) (oSome (eBin addD (eVar 2) (eC (.int 2))))) (negD (eC (.int 1))) [some (.loc n), some (.lst xs), some (.int a), some (.int 3), x4, x5] H2 = .ok (.lst C2.reverse) H2 := fun x4 x5 => x_revL (h1 := H2) (xs := C2) (by simp [-sl_lst, p2]) rfl
    have a1 : addD (.lst C1) (.lst C2.reverse) H2 = .ok (.lst (C1 ++ C2.reverse)) H2 := add_lst (by simp; omega)
    have a2 : addD (.lst (C1 ++ C2.reverse)) (.lst C3) H2 = .ok (.lst (C1 ++ C2.reverse ++ C3)) H2 := add_lst (by simp; omega)
    refine fin (C1 ++ C2.reverse ++ C3) H2 w12 k2 (q12.mono (by omega)) fun hx => ?_
    have rv := rv none none
    clear fin q12 l1 l2 l3 hr ln q hlen
    generalize C1 ++ C2.reverse ++ C3 = R at *
    generalize C1 ++ C2.reverse = R1 at *
    generalize C2.reverse = C2r at *
    generalize D.lst xs = LX at *
    generalize (xs.length : Int) = L at *
    simp [-add_lst, -sl_lst, F__law_bent_row, b__law_bent_row, ls, e1, lnH, m1, e2, m2, p1, p3, rv, a1, a2, hx]
  all_goals
    obtain ⟨z, hz, H3, w3, k3, e3⟩ := law_of_eq (d := .lst (numL10 xs.length)) (xs := numL10 xs.length) k2 (fun _ _ => rfl) (by simp [numL10]) (by simp [numL10]) (fun x hx => (num_sm10 (show xs.length ≤ 4000 by omega) x hx).und _)
    have zs := num_sm10 (show xs.length ≤ 4000 by omega) z hz
    have a0 : addD (.lst [.int 0, .int 1, .int 2, .int 7, .int 8, .int 40, .int 41, .int (-1), .int xs.length, .bl true]) (.lst [.tup [.int 0, .int 1], .tup [.int 1, .int 0], .lst [.int 0, .int 2], .tup [.int 0, .int 0], .tup [.int 1, .int 2, .int 3], .tup [.int 6, .int 7]]) H2 = .ok (.lst (numL10 xs.length)) H2 := add_lst (by simp)
    have ln2 := ln H2
    have p1 := sl none (some a) H3
    have p2 := sl (some (a + 1)) none H3
    have p3 := sl (some a) none H3
    have l1 := cl none (some a)
    have l2 := cl (some (a + 1)) none
    have l3 := cl (some a) none
    have q1 := cq none (some a)
    have q2 := cq (some (a + 1)) none
    have q3 := cq (some a) none
    clear cl cq sl
    generalize cutG xs none (some a) = C1 at *
    generalize cutG xs (some (a + 1)) none = C2 at *
    generalize cutG xs (some a) none = C3 at *
    have a1 : addD (.lst C1) (.lst [z]) H3 = .ok (.lst (C1 ++ [z])) H3 := add_lst (by simp; omega)
    have a2 : addD (.lst (C1 ++ [z])) (.lst C2) H3 = .ok (.lst (C1 ++ [z] ++ C2)) H3 := add_lst (by simp; omega)
    have a3 : addD (.lst (C1 ++ [z])) (.lst C3) H3 = .ok (.lst (C1 ++ [z] ++ C3)) H3 := add_lst (by simp; omega)
    rw [c] at m2
  · have ix : ∀ X Y : D, ixD (.lst [X, Y]) (.int 0) H3 = .ok X H3 := fun X Y => rfl
    refine fin (C1 ++ [z] ++ C2) H3 (w12.trans w3) k3 (((q1.app (Lq.one zs)).app q2).mono (by omega)) fun hx => ?_
    clear fin q1 q2 q3 l1 l2 l3 hr ln q hlen zs hz
    generalize C1 ++ [z] ++ C2 = R at *
    generalize C1 ++ [z] ++ C3 = R2 at *
    generalize C1 ++ [z] = R1 at *
    generalize D.lst (numL10 xs.length) = NL at *
    generalize D.lst xs = LX at *
    generalize (xs.length : Int) = L at *
    simp [-add_lst, -sl_lst, F__law_bent_row, b__law_bent_row, ls, e1, lnH, m1, e2, m2, ln2, a0, p1, p2, p3, e3, a1, a2, a3, ix, hx]
  · have ix : ∀ X Y : D, ixD (.lst [X, Y]) (.int 1) H3 = .ok Y H3 := fun X Y => rfl
    refine fin (C1 ++ [z] ++ C3) H3 (w12.trans w3) k3 (((q1.app (Lq.one zs)).app q3).mono (by omega)) fun hx => ?_
    clear fin q1 q2 q3 l1 l2 l3 hr ln q hlen zs hz
    generalize C1 ++ [z] ++ C2 = R at *
    generalize C1 ++ [z] ++ C3 = R2 at *
    generalize C1 ++ [z] = R1 at *
    generalize D.lst (numL10 xs.length) = NL at *
    generalize D.lst xs = LX at *
    generalize (xs.length : Int) = L at *
    simp [-add_lst, -sl_lst, F__law_bent_row, b__law_bent_row, ls, e1, lnH, m1, e2, m2, ln2, a0, p1, p2, p3, e3, a1, a2, a3, ix, hx]

end WD
namespace WD
open PySem PySem.Spec PyProof.Rows L2
theorem exit_loc10 {n : Nat} {H G : Hs} {ys : List D} (w : Dw n H G) (hu : undL H.length ys = true) : exitT H (.loc H.length) (G ++ [.lst ys]) = .ok (.lst ys) G := by
  have e := w.exitA (t := [.lst ys]) (d := .non) rfl
  unfold exitT at e ⊢
  split at e
  · rename_i tr
    rw [if_pos tr]
    have e : R.ok D.non ((G ++ [O.lst ys]).take H.length) = R.ok D.non G := e
    injection e with _ e2
    rw [e2]
    unfold frz1
    rw [if_neg (by simp [D.und])]
    have hl : locAt (G ++ [.lst ys]) H.length = some ys := by rw [show H.length = G.length from w.len.symm]; exact locAt_end
    simp only [hl, hu, if_true]
  · cases e
theorem Lq.set {M N k i : Nat} {y : D} : ∀ {xs : List D}, Lq M k xs → Sm N k y → Lq (M + N) k (xs.set i y)
  | [], q, _ => q.mono (by omega)
  | x :: xs, q, s => by
    have h1 := q.ok
    have h2 := q.bk
    have h3 := q.dp
    simp only [okRs, bkRs, dpRs, Bool.and_eq_true] at h1 h2 h3
    have s1 := s.ok
    have s2 := s.bk
    have s3 := s.dp
    cases i with
    | zero => exact ⟨by simp only [List.set, okRs, s1, h1.2]; rfl, by simp only [List.set, bkRs]; omega, by simp only [List.set, dpRs]; omega⟩
    | succ i =>
      have ih := Lq.set (i := i) (y := y) (M := M - (bkR x + 1)) (N := N) (k := k) (xs := xs) ⟨h1.2, by omega, by omega⟩ s
      have i1 := ih.ok
      have i2 := ih.bk
      have i3 := ih.dp
      exact ⟨by simp only [List.set, okRs, h1.1, i1]; rfl, by simp only [List.set, bkRs]; omega, by simp only [List.set, dpRs]; omega⟩
/-- the part's own weight goes -/
theorem Lq.swap {M N k i : Nat} {y : D} : ∀ {xs : List D} (hi : i < xs.length), Lq M k xs → Sm (2 * bkR xs[i] + N) k y → Lq (2 * M + N) k (xs.set i y)
  | [], hi, _, _ => absurd hi (Nat.not_lt_zero _)
  | x :: xs, hi, q, s => by
    have h1 := q.ok
    have h2 := q.bk
    have h3 := q.dp
    simp only [okRs, bkRs, dpRs, Bool.and_eq_true] at h1 h2 h3
    have s1 := s.ok
    have s2 := s.bk
    have s3 := s.dp
    cases i with
    | zero =>
      simp only [List.getElem_cons_zero] at s2
      exact ⟨by simp only [List.set, okRs, s1, h1.2]; rfl, by simp only [List.set, bkRs]; omega, by simp only [List.set, dpRs]; omega⟩
    | succ i =>
      simp only [List.getElem_cons_succ] at s
      have ih := Lq.swap (i := i) (y := y) (M := M - (bkR x + 1)) (N := N) (k := k) (xs := xs) (by simp only [List.length_cons] at hi; omega) ⟨h1.2, by omega, by omega⟩ s
      have i1 := ih.ok
      have i2 := ih.bk
      have i3 := ih.dp
      exact ⟨by simp only [List.set, okRs, h1.1, i1]; rfl, by simp only [List.set, bkRs]; omega, by simp only [List.set, dpRs]; omega⟩
def wayL10 : List D := [.int 0, .int 3, .bl true, .str "1", .non, .int 1, .int 2, .tup [.int 1], .int (-1), .int (10 ^ 60)]
theorem way_sm10 : ∀ x ∈ wayL10, Sm 60 32 x := by
  have : ∀ x ∈ wayL10, okR x = true ∧ bkR x ≤ 60 ∧ dpR x ≤ 32 := by decide +kernel
  exact fun x hx => ⟨(this x hx).1, (this x hx).2.1, (this x hx).2.2⟩
theorem set_at10 {G : Hs} {i p : Nat} {xs : List D} {y : D} (e : p = G.length) (hi : i < xs.length) : setD (.loc p) (.int (i : Nat)) y (G ++ [.lst xs]) = some (G ++ [.lst (xs.set i y)]) := by
  have hl : locAt (G ++ [.lst xs]) p = some xs := by rw [e]; exact locAt_end
  simp only [setD, hl, ixN_in (n := xs.length) (i := (i : Int)) (by omega) (by omega), Int.toNat_natCast]
  rw [e]; simp
theorem cutG_len10 {α : Type} {xs : List α} {lo hi : Option Int} : (cutG xs lo hi).length ≤ xs.length := by
  unfold cutG
  rw [List.length_take, List.length_drop]; omega
theorem add_at10 {G : Hs} {p : Nat} {xs ys : List D} (hat : locAt G p = some xs) (hz : xs.length + ys.length ≤ 16777216) : addD (.loc p) (.lst ys) G = .ok (.lst (xs ++ ys)) G := by
  have e : lstX G (.loc p) = some xs := hat
  show (match lstX G (.loc p), lstX G (.lst ys) with
    | some xs, some ys => if xs.length + ys.length ≤ sizeLine then R.ok (D.lst (xs ++ ys)) G else .bad
    | _, _ => .bad) = _
  rw [e]
  show (if xs.length + ys.length ≤ sizeLine then R.ok (D.lst (xs ++ ys)) G else .bad) = _
  rw [if_pos (by rw [sizeLine_eq]; omega)]
theorem bent10 {n : Nat} {H : Hs} (K : Dk n H) {d : D} {xs : List D} {M : Nat} (s : Sm M 33 d) (hr0 : rowOf H d = some xs) (h5 : xs.length = 5) (hM : M ≤ 3000) : ∃ (d' : D) (H2 : Hs), Dw n H H2 ∧ Dk n H2 ∧ Sm (2 * M + 200) 33 d' ∧ F__law_bent [.loc n, d] H = .ok d' H2 := by
  have hr : ∀ G, rowOf G d = some xs := fun G => by rw [sm_row10 s (G := H)]; exact hr0
  have q : Lq M 32 xs := s.lq hr0
  have hn : n < H.length := K.lt
  obtain ⟨P, hP⟩ : ∃ P : O, P = .lst xs := ⟨_, rfl⟩
  have ls : listD true [d] H = .ok (.loc H.length) (H ++ [P]) := by rw [x_list (hr H), hP]; rfl
  have cutw := fun {G : Hs} (w : Dw n (H ++ [P]) G) => w.cut hn
  obtain ⟨v, G1', w1, k1, e1⟩ := (K.app (t := [P])).next
  obtain ⟨G1, rfl, u1⟩ := cutw w1
  have len1 : G1.length = H.length := u1.len
  have m1 : modD (.int v) (.int 9) (G1 ++ [P]) = .ok (.int (v % 9)) (G1 ++ [P]) := by rw [x_mod, if_pos (by decide)]
  have fin : ∀ (d' : D) (G : Hs), Dw n H G → Dk n G → Sm (2 * M + 200) 33 d' → F__law_bent [.loc n, d] H = .ok d' G → ∃ (d' : D) (H2 : Hs), Dw n H H2 ∧ Dk n H2 ∧ Sm (2 * M + 200) 33 d' ∧ F__law_bent [.loc n, d] H = .ok d' H2 := fun d' G w k l e => ⟨d', G, w, k, l, e⟩
  have s0 : t__law_bent_0 [some (.loc n), some d, none, none, none] H = .nx [some (.loc n), some d, some (.loc H.length), none, none] (H ++ [P]) := by simp [ls]
  have s1 : t__law_bent_1 [some (.loc n), some d, some (.loc H.length), none, none] (H ++ [P]) = .nx [some (.loc n), some d, some (.loc H.length), some (.int (v % 9)), none] (G1 ++ [P]) := by
    generalize H ++ [P] = H0 at *
    generalize G1 ++ [P] = G0 at *
    simp [e1, m1]
  have w9 : 0 ≤ v % 9 ∧ v % 9 < 9 := ⟨Int.emod_nonneg _ (by decide), Int.emod_lt_of_pos _ (by decide)⟩
  generalize v % 9 = way at *
  have e0 : ∀ (c : Int) (G : Hs), eqD false (.int way) (.int c) G = .ok (.bl (decide (way = c))) G := fun c G => by
    have := eq_of D.int (k := 0) (by omega) (n := false) (a := way) (b := c) (h := G)
    simpa using this
  by_cases c0 : way = 0
  · obtain ⟨z, hz, G2', w2, k2, e2⟩ := law_odd_eq k1
    obtain ⟨G2, rfl, u2⟩ := cutw (w1.trans w2)
    have zs := odd_sm10 z hz
    have hx : exitT H z (G2 ++ [P]) = .ok z G2 := u2.exitA (odd_und hz)
    refine fin z G2 u2 (k2.cut (by have := u2.len; omega)) (zs.mono (by omega) (by omega)) ?_
    have e0 := e0 0 (G1 ++ [P])
    rw [decide_eq_true c0] at e0
    clear cutw fin
    generalize G1 ++ [P] = G1p at *
    generalize G2 ++ [P] = G2p at *
    generalize H ++ [P] = Hp at *
    simp only [F__law_bent, b__law_bent, x_run, x_seq]
    simp [-t__law_bent_0, -t__law_bent_1, s0, s1, e0, e2, hx]
  have s2 : t__law_bent_2 [some (.loc n), some d, some (.loc H.length), some (.int way), none] (G1 ++ [P]) = .nx [some (.loc n), some d, some (.loc H.length), some (.int way), none] (G1 ++ [P]) := by
    have e0 := e0 0 (G1 ++ [P])
    rw [decide_eq_false c0] at e0
    generalize G1 ++ [P] = G1p at *
    simp [e0]
  by_cases c1 : way = 1
  · obtain ⟨v2, G2', w2, k2, e2⟩ := k1.next
    obtain ⟨G2, rfl, u2⟩ := cutw (w1.trans w2)
    have m2 : modD (.int v2) (.int 4) (G2 ++ [P]) = .ok (.int (v2 % 4)) (G2 ++ [P]) := by rw [x_mod, if_pos (by decide)]
    have hat : locAt (G1 ++ [P]) H.length = some xs := by rw [hP, ← len1]; exact locAt_end
    have p1 : slD false (.loc H.length) none (some 4) (G1 ++ [P]) = .ok (.lst (cutG xs none (some 4))) (G1 ++ [P]) := by rw [sl_loc hat]; rfl
    have p2 : slD false (.loc H.length) (some 1) none (G1 ++ [P]) = .ok (.lst (cutG xs (some 1) none)) (G1 ++ [P]) := by rw [sl_loc hat]; rfl
    have p3 : slD false (.loc H.length) none (some 1) (G1 ++ [P]) = .ok (.lst (cutG xs none (some 1))) (G1 ++ [P]) := by rw [sl_loc hat]; rfl
    have l3 : (cutG xs none (some 1)).length ≤ 5 := by rw [← h5]; exact cutG_len10
    have a1 : addD (.loc H.length) (.lst [.tup []]) (G1 ++ [P]) = .ok (.lst (xs ++ [.tup []])) (G1 ++ [P]) := add_at10 hat (by simp; omega)
    have a2 : addD (.loc H.length) (.lst (cutG xs none (some 1))) (G1 ++ [P]) = .ok (.lst (xs ++ cutG xs none (some 1))) (G1 ++ [P]) := add_at10 hat (by omega)
    have q1 : Lq (2 * M + 200) 32 (cutG xs none (some 4)) := q.cut.mono (by omega)
    have q2 : Lq (2 * M + 200) 32 (xs ++ [.tup []]) := (q.app (Lq.one (x := .tup []) (N := 0) ⟨rfl, Nat.le_refl _, by decide⟩)).mono (by omega)
    have q3 : Lq (2 * M + 200) 32 (cutG xs (some 1) none) := q.cut.mono (by omega)
    have q4 : Lq (2 * M + 200) 32 (xs ++ cutG xs none (some 1)) := (q.app q.cut).mono (by omega)
    generalize cutG xs none (some 4) = C1 at *
    generalize xs ++ cutG xs none (some 1) = C4 at *
    generalize cutG xs none (some 1) = C0 at *
    generalize xs ++ [.tup []] = C2 at *
    generalize cutG xs (some 1) none = C3 at *
    have pick : ∀ (ys : List D), Lq (2 * M + 200) 32 ys → ixD (.lst [.lst C1, .lst C2, .lst C3, .lst C4]) (.int (v2 % 4)) (G2 ++ [P]) = .ok (.lst ys) (G2 ++ [P]) → ∃ (d' : D) (H2 : Hs), Dw n H H2 ∧ Dk n H2 ∧ Sm (2 * M + 200) 33 d' ∧ F__law_bent [.loc n, d] H = .ok d' H2 := fun ys ql ix => by
      have hx : exitT H (.lst ys) (G2 ++ [P]) = .ok (.lst ys) G2 := u2.exitA (okR_und (.lst ys) _ ql.ok)
      refine fin (.lst ys) G2 u2 (k2.cut (by have := u2.len; omega)) ql.lst ?_
      have e0 := e0 1 (G1 ++ [P])
      rw [decide_eq_true c1] at e0
      clear cutw fin hat q1 q2 q3 q4
      generalize G1 ++ [P] = G1p at *
      generalize G2 ++ [P] = G2p at *
      generalize H ++ [P] = Hp at *
      simp only [F__law_bent, b__law_bent, x_run, x_seq]
      simp [-t__law_bent_0, -t__law_bent_1, -t__law_bent_2, -add_lst, s0, s1, s2, e0, p1, p2, p3, a1, a2, e2, m2, ix, hx]
    have h4 : v2 % 4 = 0 ∨ v2 % 4 = 1 ∨ v2 % 4 = 2 ∨ v2 % 4 = 3 := by omega
    rcases h4 with c | c | c | c
    · exact pick C1 q1 (by rw [c]; rfl)
    · exact pick C2 q2 (by rw [c]; rfl)
    · exact pick C3 q3 (by rw [c]; rfl)
    · exact pick C4 q4 (by rw [c]; rfl)
  have s3 : t__law_bent_3 [some (.loc n), some d, some (.loc H.length), some (.int way), none] (G1 ++ [P]) = .nx [some (.loc n), some d, some (.loc H.length), some (.int way), none] (G1 ++ [P]) := by
    have e0 := e0 1 (G1 ++ [P])
    rw [decide_eq_false c1] at e0
    generalize G1 ++ [P] = G1p at *
    simp [e0]
  by_cases c2 : way = 2
  · obtain ⟨z, hz, G2', w2, k2, e2⟩ := law_of_eq (d := .lst wayL10) (xs := wayL10) k1 (fun _ _ => rfl) (by simp [wayL10]) (by decide) (fun x hx => (way_sm10 x hx).und _)
    obtain ⟨G2, rfl, u2⟩ := cutw (w1.trans w2)
    have zs := way_sm10 z hz
    have len2 : G2.length = H.length := u2.len
    have st := set_at10 (G := G2) (i := 1) (p := H.length) (xs := xs) (y := z) len2.symm (by omega)
    rw [← hP] at st
    have ql : Lq (M + 60) 32 (xs.set 1 z) := q.set zs
    have hx := exit_loc10 (ys := xs.set 1 z) u2 (okR_und (.lst _) _ ql.ok)
    refine fin (.lst (xs.set 1 z)) G2 u2 (k2.cut (by omega)) ((ql.mono (by omega)).lst) ?_
    have e0 := e0 2 (G1 ++ [P])
    rw [decide_eq_true c2] at e0
    have hp : powD (.int 10) (.int 60) (G1 ++ [P]) = .ok (.int (10 ^ 60)) (G1 ++ [P]) := by simp
    have e2 : F__law_of [.loc n, .lst [.int 0, .int 3, .bl true, .str "1", .non, .int 1, .int 2, .tup [.int 1], .int (-1), .int (10 ^ 60)]] (G1 ++ [P]) = .ok z (G2 ++ [P]) := e2
    have st : setD (.loc H.length) (.int 1) z (G2 ++ [P]) = some (G2 ++ [.lst (xs.set 1 z)]) := st
    clear cutw fin
    generalize G2 ++ [O.lst (xs.set 1 z)] = G3p at *
    generalize G1 ++ [P] = G1p at *
    generalize G2 ++ [P] = G2p at *
    generalize H ++ [P] = Hp at *
    generalize (10 : Int) ^ 60 = P60 at *
    simp only [F__law_bent, b__law_bent, x_run, x_seq]
    simp [-t__law_bent_0, -t__law_bent_1, -t__law_bent_2, -t__law_bent_3, -x_pw, s0, s1, s2, s3, e0, hp, e2, st, hx]
  have s4 : t__law_bent_4 [some (.loc n), some d, some (.loc H.length), some (.int way), none] (G1 ++ [P]) = .nx [some (.loc n), some d, some (.loc H.length), some (.int way), none] (G1 ++ [P]) := by
    have e0 := e0 2 (G1 ++ [P])
    rw [decide_eq_false c2] at e0
    generalize G1 ++ [P] = G1p at *
    simp [e0]
  obtain ⟨i, hi, G2, u2, k2, w2, e2⟩ : ∃ i : Nat, i < 5 ∧ ∃ G2, Dw n H G2 ∧ Dk n (G2 ++ [P]) ∧ Dw n (H ++ [P]) (G2 ++ [P]) ∧ F__law_of [.loc n, .lst [.int 0, .int 2, .int 3, .int 4]] (G1 ++ [P]) = .ok (.int (i : Int)) (G2 ++ [P]) := by
    obtain ⟨z, hz, G2', w2, k2, e2⟩ := law_of_eq (d := .lst [.int 0, .int 2, .int 3, .int 4]) (xs := [.int 0, .int 2, .int 3, .int 4]) k1 (fun _ _ => rfl) (by simp) (by simp) (fun x hx => by
      simp only [List.mem_cons, List.not_mem_nil, or_false] at hx
      rcases hx with rfl | rfl | rfl | rfl <;> rfl)
    obtain ⟨G2, rfl, u2⟩ := cutw (w1.trans w2)
    simp only [List.mem_cons, List.not_mem_nil, or_false] at hz
    rcases hz with rfl | rfl | rfl | rfl
    · exact ⟨0, by omega, G2, u2, k2, w1.trans w2, e2⟩
    · exact ⟨2, by omega, G2, u2, k2, w1.trans w2, e2⟩
    · exact ⟨3, by omega, G2, u2, k2, w1.trans w2, e2⟩
    · exact ⟨4, by omega, G2, u2, k2, w1.trans w2, e2⟩
  have hil : i < xs.length := by omega
  have len2 : G2.length = H.length := u2.len
  have s5 : t__law_bent_5 [some (.loc n), some d, some (.loc H.length), some (.int way), none] (G1 ++ [P]) = .nx [some (.loc n), some d, some (.loc H.length), some (.int way), some (.int i)] (G2 ++ [P]) := by
    generalize G1 ++ [P] = G1p at *
    generalize G2 ++ [P] = G2p at *
    generalize (i : Int) = I at *
    simp [e2]
  have hat : locAt (G2 ++ [P]) H.length = some xs := by rw [hP, ← len2]; exact locAt_end
  have ix : ixD (.loc H.length) (.int (i : Int)) (G2 ++ [P]) = .ok xs[i] (G2 ++ [P]) := by
    refine x_ix_row (d := .loc _) hat ?_
    rw [atI_in (i := (i : Int)) (by omega) (by omega)]
    rfl
  have sx : Sm M 32 xs[i] := q.mem (List.getElem_mem hil)
  have ir := law_is_row_eq (x := xs[i]) (h := G2 ++ [P])
  -- how it ends
  have tail : ∀ (y : D) (G : Hs), Dw n H G → Dk n (G ++ [P]) → Lq (2 * M + 200) 32 (xs.set i y) → t__law_bent_6 [some (.loc n), some d, some (.loc H.length), some (.int way), some (.int i)] (G2 ++ [P]) = .nx [some (.loc n), some d, some (.loc H.length), some (.int way), some (.int i)] (G ++ [.lst (xs.set i y)]) → ∃ (d' : D) (H2 : Hs), Dw n H H2 ∧ Dk n H2 ∧ Sm (2 * M + 200) 33 d' ∧ F__law_bent [.loc n, d] H = .ok d' H2 := fun y G u k ql s6 => by
    have lenG : G.length = H.length := u.len
    have hat : locAt (G ++ [.lst (xs.set i y)]) H.length = some (xs.set i y) := by rw [← lenG]; exact locAt_end
    have tu : tupleD [.loc H.length] (G ++ [.lst (xs.set i y)]) = .ok (.tup (xs.set i y)) (G ++ [.lst (xs.set i y)]) := x_tuple (d := .loc _) hat
    have hx : exitT H (.tup (xs.set i y)) (G ++ [.lst (xs.set i y)]) = .ok (.tup (xs.set i y)) G := u.exitA (okR_und (.tup _) _ ql.ok)
    refine fin (.tup (xs.set i y)) G u (k.cut (by omega)) ql.tup ?_
    clear cutw fin hat
    generalize D.tup (xs.set i y) = T at *
    generalize G ++ [O.lst (xs.set i y)] = G3p at *
    generalize G1 ++ [P] = G1p at *
    generalize G2 ++ [P] = G2p at *
    generalize H ++ [P] = Hp at *
    generalize (i : Int) = I at *
    simp only [F__law_bent, b__law_bent, x_run, x_seq]
    simp [-t__law_bent_0, -t__law_bent_1, -t__law_bent_2, -t__law_bent_3, -t__law_bent_4, -t__law_bent_5, -t__law_bent_6, s0, s1, s2, s3, s4, s5, s6, tu, hx]
  have hodd : (way = 3 ∨ rowOf (G2 ++ [P]) xs[i] = none) → ∃ (d' : D) (H2 : Hs), Dw n H H2 ∧ Dk n H2 ∧ Sm (2 * M + 200) 33 d' ∧ F__law_bent [.loc n, d] H = .ok d' H2 := fun hc => by
    obtain ⟨z, hz, G3', w3, k3, e3⟩ := law_odd_eq k2
    obtain ⟨G3, rfl, u3⟩ := cutw (w2.trans w3)
    have zs := (odd_sm10 z hz).mono (Nat.le_refl 60) (show 31 ≤ 32 by omega)
    have st := set_at10 (G := G3) (i := i) (p := H.length) (xs := xs) (y := z) u3.len.symm hil
    rw [← hP] at st
    refine tail z G3 u3 k3 ((q.set zs).mono (by omega)) ?_
    have e0 := e0 3 (G2 ++ [P])
    clear cutw fin tail hat
    generalize G3 ++ [O.lst (xs.set i z)] = G4p at *
    generalize G2 ++ [P] = G2p at *
    generalize G3 ++ [P] = G3p at *
    generalize (i : Int) = I at *
    generalize xs[i] = XI at *
    by_cases c3 : way = 3
    · rw [decide_eq_true c3] at e0
      simp [e0, e3, st]
    · rw [decide_eq_false c3] at e0
      have hc := hc.resolve_left c3
      rw [hc] at ir
      simp [e0, ix, ir, e3, st]
  by_cases c3 : way = 3
  · exact hodd (.inl c3)
  cases hrx : rowOf (G2 ++ [P]) xs[i] with
  | none => exact hodd (.inr hrx)
  | some zs =>
    rw [hrx] at ir
    have qx : Lq (bkR xs[i]) 31 zs := Sm.lq (k := 31) ⟨sx.ok, Nat.le_refl _, sx.dp⟩ hrx
    have bx : bkR xs[i] ≤ M := sx.bk
    have e3 := e0 3 (G2 ++ [P])
    rw [decide_eq_false c3] at e3
    have e4 := e0 4 (G2 ++ [P])
    by_cases c4 : way = 4
    · rw [decide_eq_true c4] at e4
      have lz : listD false [xs[i]] (G2 ++ [P]) = .ok (.lst zs) (G2 ++ [P]) := by rw [x_list hrx]; rfl
      have mu : mulD (.lst zs) (.int 2) (G2 ++ [P]) = .ok (.lst (zs ++ zs)) (G2 ++ [P]) := by
        have hl := qx.len
        rw [mul_lst (by decide) (by show zs.length * 2 ≤ 16777216; omega) (by decide)]
        simp [List.replicate]
      have q2 : Lq (bkR xs[i] + bkR xs[i]) 31 (zs ++ zs) := qx.app qx
      have st := set_at10 (G := G2) (i := i) (p := H.length) (xs := xs) (y := .lst (zs ++ zs)) len2.symm hil
      rw [← hP] at st
      refine tail (.lst (zs ++ zs)) G2 u2 k2 (Lq.swap hil q ((q2.mono (show bkR xs[i] + bkR xs[i] ≤ 2 * bkR xs[i] + 200 by omega)).lst)) ?_
      clear cutw fin tail hat hodd
      generalize G2 ++ [O.lst (xs.set i (.lst (zs ++ zs)))] = G4p at *
      generalize G2 ++ [P] = G2p at *
      generalize D.lst (zs ++ zs) = Z2 at *
      generalize D.lst zs = Z1 at *
      generalize (i : Int) = I at *
      generalize xs[i] = XI at *
      simp [e3, ix, ir, e4, lz, mu, st]
    · rw [decide_eq_false c4] at e4
      have hrz : ∀ G, rowOf G xs[i] = some zs := fun G => by rw [sm_row10 sx (G := G2 ++ [P])]; exact hrx
      obtain ⟨ys, G3', w3, k3, ql, e5⟩ := bent_row10 k2 (d := xs[i]) (xs := zs) (M := bkR xs[i]) hrz qx (by omega)
      obtain ⟨G3, rfl, u3⟩ := cutw (w2.trans w3)
      have st := set_at10 (G := G3) (i := i) (p := H.length) (xs := xs) (y := .lst ys) u3.len.symm hil
      rw [← hP] at st
      refine tail (.lst ys) G3 u3 k3 (Lq.swap hil q ((ql.mono (show 2 * bkR xs[i] + 100 ≤ 2 * bkR xs[i] + 200 by omega)).lst)) ?_
      clear cutw fin tail hat hodd
      generalize G3 ++ [O.lst (xs.set i (.lst ys))] = G4p at *
      generalize G2 ++ [P] = G2p at *
      generalize G3 ++ [P] = G3p at *
      generalize D.lst ys = Z2 at *
      generalize (i : Int) = I at *
      generalize xs[i] = XI at *
      simp [e3, ix, ir, e4, e5, st]

end WD
namespace WD
open PySem PySem.Spec PyProof.Rows L2
theorem tied28_10 {t : Tk} (ht : t.Ok) : t.tied.length ≤ 28 := by
  have hnd : t.tied.Nodup := (pw_of_adj ht.inc).imp fun {a b} q e => by
    subst e
    simp only [ltP, decide_eq_true_eq] at q
    omega
  have h8 := ht.num.1
  have := nd_sub_len (l := t.tied) (m := (List.range 8).flatMap fun (j : Nat) => (List.range j).map fun (i : Nat) => ((i : Int), (j : Int))) hnd fun p hp => by
    have := ht.prs p hp
    rw [List.mem_flatMap]
    refine ⟨p.2.toNat, List.mem_range.mpr (by omega), List.mem_map.mpr ⟨p.1.toNat, List.mem_range.mpr (by omega), ?_⟩⟩
    refine Prod.ext ?_ ?_
    · show ((p.1.toNat : Nat) : Int) = p.1
      omega
    · show ((p.2.toNat : Nat) : Int) = p.2
      omega
  have h28 : ((List.range 8).flatMap fun (j : Nat) => (List.range j).map fun (i : Nat) => ((i : Int), (j : Int))).length = 28 := by decide
  omega
theorem sm_tk10 {t : Tk} (ht : t.Ok) : Sm 120 33 t.D := by
  have h8 := ht.num.1
  have hlg := So.of_ris ht.lng
  have h28 := tied28_10 ht
  have lg8 : t.lg.length ≤ 8 := so_len8 hlg h8
  have a : Sm (8 * 1) 1 (iT t.ns) := Sm.iT 8 (fun n hn => by have := ht.num.2 n hn; omega) h8
  have b : Sm 0 0 (.int t.hands) := Sm.int (small_big (by rcases ht.hnd with h | h <;> omega))
  have c : Sm (7 * 1) 1 (iT t.off) := Sm.iT 7 (fun n hn => by rcases ht.offs n hn with h | h <;> omega) ht.off7
  have d : Sm (8 * 1) 1 (iT t.lg) := Sm.iT 8 (fun n hn => by have := hlg.bd n hn; omega) lg8
  have e : Sm (28 * (2 + 1)) (1 + 1) (.tup (t.tied.map prD)) := Sm.tup (M := 2) (k := 1) 28 (fun x hx => by
    obtain ⟨p, hp, rfl⟩ := List.mem_map.mp hx
    have := ht.prs p hp
    exact (Sm.iT (ns := [p.1, p.2]) 2 (fun n hn => by
      simp only [List.mem_cons, List.not_mem_nil, or_false] at hn
      rcases hn with rfl | rfl <;> omega) (by simp)).mono (by omega) (by omega)) (by simpa using h28)
  have q : Lq (120) 2 [iT t.ns, .int t.hands, iT t.off, iT t.lg, .tup (t.tied.map prD)] := by
    have a' := a.mono (Nat.le_refl _) (show 1 ≤ 2 by omega)
    have b' := b.mono (Nat.le_refl _) (show 0 ≤ 2 by omega)
    have c' := c.mono (Nat.le_refl _) (show 1 ≤ 2 by omega)
    have d' := d.mono (Nat.le_refl _) (show 1 ≤ 2 by omega)
    exact ((Lq.one a').app ((Lq.one b').app ((Lq.one c').app ((Lq.one d').app (Lq.one e))))).mono (by omega)
  exact q.tup.mono (Nat.le_refl _) (by omega)
theorem isNums_inv10 {h : Hs} {d : D} (hn : isNums h d = true) : ∃ ns : List Int, rowOf h d = some (ns.map D.int) ∧ NumOk ns := by
  unfold isNums at hn
  cases hr : rowOf h d with
  | none => rw [hr] at hn; cases hn
  | some xs =>
    rw [hr] at hn
    simp only [Bool.and_eq_true, decide_eq_true_eq] at hn
    obtain ⟨ns, rfl, hb⟩ := isW_ints xs (List.all_eq_true.mp hn.2)
    refine ⟨ns, rfl, ?_, hb⟩
    have := hn.1
    rw [List.length_map] at this
    omega
theorem okT_tk10 (t : Tk) : okT t.D = true := by
  have hin : ∀ l : List Int, okTs (l.map D.int) = true := fun l => by
    induction l with
    | nil => rfl
    | cons x l ih => simp [okTs, okT, ih]
  have hpr : ∀ l : List (Int × Int), okTs (l.map prD) = true := fun l => by
    induction l with
    | nil => rfl
    | cons x l ih => simp [okTs, okT, prD, ih]
  show (okTs (t.ns.map D.int) && (true && (okTs (t.off.map D.int) && (okTs (t.lg.map D.int) && (okTs (t.tied.map prD) && true))))) = true
  rw [hin, hin, hin, hpr]; rfl
abbrev sv10 (sc : D) (n : Nat) (t : Tk) (tn a b c e : Option D) : Ss := [some sc, some (.loc n), some t.D, tn, a, b, c, e]
theorem part10 {sc x d : D} {n p : Nat} {t : Tk} {tn : Int} {G : Hs} : k_law_3_5 (sv10 sc n t (some (.int tn)) (some d) none (some (.loc p)) (some x)) G = .nx (sv10 sc n t (some (.int tn)) (some d) none (some (.loc p)) none) G := by
  have e := are_wholes10 (d := x) (lo := 1) (hi := 40) (least := 0) (most := 8) (h := G)
  rw [areW_nums10] at e
  cases hn : isNums G x with
  | false =>
    rw [hn] at e
    have r := plain_refused10 hn
    unfold sv10
    generalize t.D = A at *
    simp [e, r]
  | true =>
    rw [hn] at e
    obtain ⟨ns, hr, hok⟩ := isNums_inv10 hn
    have tu : tupleD [x] G = .ok (iT ns) G := by rw [x_tuple hr]; rfl
    have r := is_plain10 (dr := 1 + tn) (h := G) hok
    unfold sv10
    generalize iT ns = NS at *
    generalize t.D = A at *
    simp [e, tu, r]
theorem parts10 {sc d : D} {n : Nat} {t : Tk} {tn : Int} {G : Hs} {ps : List D} : sFor (iRow (eVar 6)) (gVar 7) k_law_3_5 (sv10 sc n t (some (.int tn)) (some d) none (some (.loc G.length)) none) (G ++ [.lst ps]) = .nx (sv10 sc n t (some (.int tn)) (some d) none (some (.loc G.length)) none) (G ++ [.lst ps]) := by
  have hat : locAt (G ++ [.lst ps]) G.length = some ps := locAt_end
  rw [for_liveI (n := G.length) (xs := ps) (h1 := G ++ [.lst ps]) rfl hat (fun i s h => s = sv10 sc n t (some (.int tn)) (some d) none (some (.loc G.length)) none ∧ h = G ++ [.lst ps]) (fun i s h q => by rw [q.2]; exact hat) ⟨rfl, rfl⟩ fun i x hx s s' h q hg s2 h2 hb => ?_]
  · have : ∀ qs : List D, loopS (gVar 7) k_law_3_5 qs (sv10 sc n t (some (.int tn)) (some d) none (some (.loc G.length)) none) (G ++ [.lst ps]) = .nx (sv10 sc n t (some (.int tn)) (some d) none (some (.loc G.length)) none) (G ++ [.lst ps]) := fun qs => by
      induction qs with
      | nil => exact x_loop_nil
      | cons x qs ih => exact (loop_nx (s1 := sv10 sc n t (some (.int tn)) (some d) none (some (.loc G.length)) (some x)) rfl part10).trans ih
    exact this ps
  · obtain ⟨rfl, rfl⟩ := q
    have hg : some (sv10 sc n t (some (.int tn)) (some d) none (some (.loc G.length)) (some x)) = some s' := hg
    cases hg
    rw [part10] at hb
    rcases hb with hb | hb
    · injection hb with h1 h2
      exact ⟨h1.symm, h2.symm⟩
    · cases hb
theorem bent_loop10 {sc : D} {n : Nat} {t : Tk} {tn : Int} : ∀ (rs : List Int) (d : D) (M : Nat) (H : Hs), Dk n H → Sm M 33 d → (M + 200) * 2 ^ rs.length ≤ 3000 →
    ∃ (d' : D) (H2 : Hs), Dk n H2 ∧ Sm 3000 33 d' ∧ loopS (gVar 5) k_law_3_1 (rs.map D.int) (sv10 sc n t (some (.int tn)) (some d) none none none) H = .nx (sv10 sc n t (some (.int tn)) (some d') none none none) H2
  | [], d, M, H, K, s, hM => ⟨d, H, K, s.mono (by simp at hM; omega) (Nat.le_refl _), x_loop_nil⟩
  | r :: rs, d, M, H, K, s, hM => by
    have hp : 0 < 2 ^ rs.length := Nat.pow_pos (by omega)
    have hM1 : (M + 200) * 2 * 2 ^ rs.length ≤ 3000 := by
      rw [List.length_cons, Nat.pow_succ] at hM
      rw [Nat.mul_assoc, Nat.mul_comm 2]; exact hM
    have hM2 : (M + 200) * 2 ≤ 3000 := Nat.le_trans (Nat.le_mul_of_pos_right _ hp) hM1
    have ir := law_is_row_eq (x := d) (h := H)
    have same : (∃ H2, Dk n H2 ∧ ∃ d2, Sm (2 * M + 200) 33 d2 ∧ k_law_3_1 (sv10 sc n t (some (.int tn)) (some d) (some (.int r)) none none) H = .nx (sv10 sc n t (some (.int tn)) (some d2) none none none) H2) := by
      cases hr : rowOf H d with
      | none =>
        rw [hr] at ir
        refine ⟨H, K, d, s.mono (by omega) (Nat.le_refl _), ?_⟩
        unfold sv10
        generalize t.D = A at *
        simp [ir]
      | some xs =>
        rw [hr] at ir
        have ln : lenD [d] H = .ok (.int xs.length) H := x_len hr
        by_cases h5 : xs.length = 5
        · obtain ⟨d', H2, w, k2, s2, e⟩ := bent10 K s hr h5 (by omega)
          refine ⟨H2, k2, d', s2, ?_⟩
          rw [h5] at ln
          unfold sv10
          generalize t.D = A at *
          simp [ir, ln, e]
        · refine ⟨H, K, d, s.mono (by omega) (Nat.le_refl _), ?_⟩
          have h5 : ¬ (xs.length : Int) = 5 := by omega
          unfold sv10
          generalize (xs.length : Int) = L at *
          generalize t.D = A at *
          simp [ir, ln, h5]
    obtain ⟨H2, k2, d2, s2, e⟩ := same
    obtain ⟨d', H3, k3, s3, e3⟩ := bent_loop10 (sc := sc) (t := t) (tn := tn) rs d2 (2 * M + 200) H2 k2 s2 (by rw [show 2 * M + 200 + 200 = (M + 200) * 2 by omega]; exact hM1)
    exact ⟨d', H3, k3, s3, (loop_nx (s1 := sv10 sc n t (some (.int tn)) (some d) (some (.int r)) none none) rfl e).trans e3⟩
theorem k10_turn {sc : D} {n : Nat} {t : Tk} {tn : Int} {H : Hs} (ht : t.Ok) (K : Dk n H) : ∃ H2, Dk n H2 ∧ k_law_3 (sv10 sc n t (some (.int tn)) none none none none) H = .nx (sv10 sc n t none none none none none) H2 := by
  obtain ⟨⟨q1, q2, q3⟩, _⟩ := sm_tk ht
  obtain ⟨v, H1, w1, k1, e1⟩ := K.next
  have st := sm_tk10 ht
  obtain ⟨d1, e2, lk⟩ := listed_s10 45 t.D v H1 (okT_tk10 t) st.ok (by omega) (by omega)
  have s1 : Sm 120 33 d1 := ⟨by rw [lk.ok]; exact st.ok, by rw [lk.bk]; exact st.bk, by rw [lk.dp]; exact st.dp⟩
  obtain ⟨v2, H2, w2, k2, e3⟩ := k1.next
  have m3 : modD (.int v2) (.int 3) H2 = .ok (.int (v2 % 3)) H2 := by rw [x_mod, if_pos (by decide)]
  obtain ⟨r, hr3, hr⟩ : ∃ r : Nat, r ≤ 3 ∧ 1 + v2 % 3 = (r : Int) := ⟨(1 + v2 % 3).toNat, by omega, by omega⟩
  obtain ⟨d, H3, k3, s3, f1⟩ := bent_loop10 (sc := sc) (t := t) (tn := tn) (rgI 0 r) d1 120 H2 k2 s1 (by
    rw [rgI_len]
    have : 2 ^ r ≤ 2 ^ 3 := Nat.pow_le_pow_right (by omega) hr3
    omega)
  have f2 : sFor (iRng1 (aCons (eBin addD (eC (.int 1)) (eBin modD (eCall 1 F__law_next (aCons (eVar 1) aNil)) (eC (.int 3)))) aNil)) (gVar 5) k_law_3_1 (sv10 sc n t (some (.int tn)) (some d1) none none none) H1 = .nx (sv10 sc n t (some (.int tn)) (some d) none none none) H3 := by
    refine (for_rng (n := r) (h1 := H2) ?_ (by omega) (by omega)).trans f1
    unfold sv10
    generalize t.D = A at *
    simp [e3, m3, hr]
  have lk2 := looked_at10 (h := H3) s3 (by omega) (by omega)
  have ir := law_is_row_eq (x := d) (h := H3 ++ [.lst [d]])
  have hl : (H3 ++ [O.lst [d]]).length = H3.length + 1 := by simp
  have fin : ∀ ps : List D, t_law_3_4 (sv10 sc n t (some (.int tn)) (some d) none (some (.loc H3.length)) none) (H3 ++ [.lst [d]]) = .nx (sv10 sc n t (some (.int tn)) (some d) none (some (.loc H3.length)) none) (H3 ++ [.lst ps]) → ∃ H2, Dk n H2 ∧ k_law_3 (sv10 sc n t (some (.int tn)) none none none none) H = .nx (sv10 sc n t none none none none none) H2 := fun ps f4 => by
    have f5 := parts10 (sc := sc) (d := d) (n := n) (t := t) (tn := tn) (G := H3) (ps := ps)
    refine ⟨H3 ++ [.lst ps], k3.app, ?_⟩
    have f3 : t_law_3_3 (sv10 sc n t (some (.int tn)) (some d) none none none) H3 = .nx (sv10 sc n t (some (.int tn)) (some d) none (some (.loc H3.length)) none) (H3 ++ [.lst [d]]) := by
      unfold sv10
      generalize t.D = A at *
      simp
    clear ir lk q1 q2 q3 st s1 f1 hl
    unfold sv10 at *
    generalize H3 ++ [O.lst [d]] = H4 at *
    generalize H3 ++ [O.lst ps] = H5 at *
    generalize t.D = A at *
    rw [k_law_3_ap]
    simp [-t_law_3_3, -t_law_3_4, e1, e2, f2, lk2, f3, f4, f5]
  cases hr0 : rowOf (H3 ++ [O.lst [d]]) d with
  | none =>
    rw [hr0] at ir
    refine fin [d] ?_
    generalize H3 ++ [O.lst [d]] = H4 at *
    unfold sv10
    generalize t.D = A at *
    simp [ir]
  | some xs =>
    rw [hr0] at ir
    have ln : lenD [d] (H3 ++ [.lst [d]]) = .ok (.int xs.length) (H3 ++ [.lst [d]]) := x_len hr0
    cases xs with
    | nil =>
      refine fin [d] ?_
      have ln : lenD [d] (H3 ++ [.lst [d]]) = .ok (.int 0) (H3 ++ [.lst [d]]) := ln
      clear fin
      generalize H3 ++ [O.lst [d]] = H4 at *
      unfold sv10
      generalize t.D = A at *
      simp [ir, ln]
    | cons y ys =>
      refine fin [d, y] ?_
      have ix : ixD d (.int 0) (H3 ++ [.lst [d]]) = .ok y (H3 ++ [.lst [d]]) := x_ix_row hr0 (by rw [atI_in (i := 0) (by decide) (by rw [List.length_cons]; omega)]; rfl)
      have ap : appendD (.loc H3.length) [y] (H3 ++ [.lst [d]]) = .ok .non (H3 ++ [.lst [d, y]]) := app_last (g := H3) (xs := [d]) (d := y) (by simp)
      have lat : locAt (H3 ++ [.lst [d]]) H3.length = some [d] := locAt_end
      have hp : (0 : Int) < ((y :: ys).length : Int) := by simp only [List.length_cons]; omega
      clear fin
      generalize ((y :: ys).length : Int) = L at *
      generalize H3 ++ [O.lst [d]] = H4 at *
      generalize H3 ++ [O.lst [d, y]] = H5 at *
      unfold sv10
      generalize t.D = A at *
      simp [ir, ln, hp, ix, ap, lat]
theorem law_pure : ∀ ns : List Int, ns.length ≤ 63 → ∃ h, F_law [.scr (ns.map D.int)] [] = .ok (.bl true) h := by
  intro ns _
  obtain ⟨d1, l1, e1⟩ := F_draws_eq (ns := ns) (at_ := 0) (many := 150) (g := []) (by omega) (by omega)
  have k0 : Dk 0 [O.lst (d1.map D.int)] := ⟨d1, rfl⟩
  obtain ⟨sc, hsc⟩ : ∃ sc : D, sc = .scr (ns.map D.int) := ⟨_, rfl⟩
  obtain ⟨t, H2, w2, k2, ht, e2⟩ := law_task13 k0
  have st := sm_tk10 ht
  have e3 := looked_at10 (h := H2) st (by omega) (by omega)
  have e4 := law_is_task10 (h := H2) st (by omega)
  have e5 : isTask H2 t.D = true := isTask_ok (vq_tk t H2) ht
  rw [e5] at e4
  obtain ⟨v, H3, w3, k3, e6⟩ := k2.next
  have e7 := is_plain10 (dr := v) (h := H3) ht.num
  have i0 := (ix_tk' t H2).1
  obtain ⟨H5, _, e8⟩ := loop_inv (em := D.int) (g := gVar 3) (b := k_law_3) (s := sv10 sc 0 t none none none none none) (Dk 0) (rgI 0 8) H3 k3 (fun x hx G KG => by
    obtain ⟨G2, a1, a2⟩ := k10_turn (sc := sc) (tn := x) ht KG
    exact ⟨_, G2, rfl, a2, a1⟩)
  have hf : sFor (iRng1 (aCons (eC (.int 8)) aNil)) (gVar 3) k_law_3 (sv10 sc 0 t none none none none none) H3 = .nx (sv10 sc 0 t none none none none none) H5 := (for_rng (n := 8) rfl (by omega) (by omega)).trans e8
  have hx : exitT [] (.bl true) H5 = .ok (.bl true) [] := exitT_pre (by simp) (fun i hi => absurd hi (by simp)) rfl
  have e1' : F__law_draws [sc, .int 0, .int 150] [] = .ok (.loc 0) [O.lst (d1.map D.int)] := by rw [hsc]; exact e1
  have hp : powD (.int 10) (.int 20) [O.lst (d1.map D.int)] = .ok (.int (10 ^ 20)) [O.lst (d1.map D.int)] := by simp
  refine ⟨[], ?_⟩
  rw [← hsc]
  clear e8 e1 e5
  unfold sv10 at hf
  generalize [O.lst (d1.map D.int)] = G1 at *
  generalize (10 : Int) ^ 20 = P at *
  generalize iT t.ns = NS at *
  generalize t.D = A at *
  simp [-x_pw, F_law, b_law, e1', hp, e2, e3, e4, i0, e6, e7, hf, hx]

end WD
namespace WD
open PySem PySem.Spec PyProof.Rows L2
theorem law_sp {K : PySem.W.Frag} (pure : ∀ ns : List Int, ns.length ≤ 63 → ∃ h, F_law [.scr (ns.map D.int)] [] = .ok (.bl true) h) (H : Hp) (a : Addr) (ns : List Int) (hl : ns.length ≤ 63) (hO : Only H) (hS : SqL K H a (ns.map V.int)) : spL K F_law [.ref a] H (fun v _ => v = .bl true) fun _ _ _ => False := by
  obtain ⟨h, e⟩ := pure ns hl
  have key : ∀ g : Hp, Same g H → (∀ b o, g b = some o → SzO o) → SqL K g a (ns.map V.int) → spL K F_law [.ref a] H (fun v _ => v = .bl true) fun _ _ _ => False := fun g hg hz hs => by
    refine ⟨rfl, (g, fun _ => none), [], [.scr (ns.map D.int)], [], ⟨hg, hz, fun _ _ e => (nomatch e), fun _ _ e => (nomatch e), rfl, .nil, fun _ h => (nomatch h), fun n a o e => by simp at e⟩, ⟨.ref a, [], rfl, ⟨a, _, rfl, hs, .of_ints ns⟩, rfl⟩, ?_⟩
    rw [e]
    intro v H' G' ms' _ _ _ i
    exact i
  have one : ∀ u, H a = some u → SzO u → SqL K (fun b => if b = a then some u else none) a (ns.map V.int) → spL K F_law [.ref a] H (fun v _ => v = .bl true) fun _ _ _ => False := fun u hu hz hs => by
    refine key _ (fun b o e => ?_) (fun b o e => ?_) hs
    · split at e
      · rename_i hb; cases e; rw [hb]; exact hu
      · cases e
    · split at e
      · cases e; exact hz
      · cases e
  have len : (ns.map V.int).length ≤ sizeLine := by rw [List.length_map]; exact Nat.le_trans hl (by decide)
  rcases hS with (q | ⟨o, q⟩) | q
  · exact one _ q len (.inl (.inl (if_pos rfl)))
  · exact one _ q len (.inl (.inr ⟨o, if_pos rfl⟩))
  · exact key (fun _ => none) (fun _ _ e => (nomatch e)) (fun _ _ e => (nomatch e)) (.inr q)
end WD
open PySem PySem.W PyProof.Rows
set_option maxHeartbeats 0 in
theorem PySem.Challenge.cw_withindays_k10_tasks_told_holds : PySem.Challenge.rw_withindays_k10_tasks_told.Holds := by
  w_on; o_law
  refine HandSHeadRun.head_any (r := OpenLaw.row PySem.Challenge.rw_withindays_k10_tasks_told) (q := view (OpenLaw.row PySem.Challenge.rw_withindays_k10_tasks_told).prog [59]) (H := WD.hkH) (ob := WD.obH) (M := 60000) (loose := WD.looseH) (d := HandSHeadRun.topDef (OpenLaw.row PySem.Challenge.rw_withindays_k10_tasks_told).prog 59) (kwd := []) WD.obH_eq
    (by kernel_rfl) (fun s => by kernel_rfl) WD.runH (by kernel_rfl) (by kernel_rfl) (by kernel_rfl) (by rfl) (by first | assumption | decide +kernel) (by decide +kernel) ⟨rfl, rfl, rfl, rfl, rfl, by decide +kernel⟩ ?hw ?hc
  case hw => w_witness2
  case hc =>
    refine WD.walk_ofXG (l := PySem.Challenge.rw_withindays_k10_tasks_told) (n := 63) (k := 51) (x := "_law_script") rfl (by decide) (by kernel_rfl) ⟨⟨rfl, by decide, by decide⟩, rfl⟩ ?F
    intro w mg fa h Y G hmg0
    obtain ⟨K, KX, c⟩ := Y
    have hmg : mg ("law" : PySem.Str) = some (.ref fa) := by
      have e : (HandSHeadRun.topDef (OpenLaw.row PySem.Challenge.rw_withindays_k10_tasks_told).prog 59).name = ("law" : PySem.Str) := by kernel_rfl
      rw [← e]
      exact hmg0
    obtain ⟨fd, hb, hF⟩ := WD.all_hd (l := PySem.Challenge.rw_withindays_k10_tasks_told) (w := w) KX G hmg c
    exact ⟨K, fd, WD.spL K WD.F_law, KX, hb, fun H a ns hl hO hS => WD.law_sp WD.law_pure H a ns hl hO hS, hF⟩
