import PyProof.Rows.All
import Wide.All
import OpenK.AllK
import Wide.FinOn
import HandS.ForMost
import HandS.IsInst
import HandS.Exc
import HandS.Style
import HandS.Wide
import HandS.StrMore
import HandS.SetFor
import PyProof.LongRange
import HandS.Codes
import KE.SortData
import HandS.ClsMeth
import PyProof.Rows.StrRev
import PyProof.StrOps2
import HandS.Defaults
import HandS.More
import HandS.ExcOwn
import HandS.WordsExc
import HandS.TryOnly
import HandS.ExcIs
import HandS.Deep
import HandS.Text
import PyProof.EqKinds
import PyProof.P3In
import HandS.Dict
import PyProof.DictMoreH
import HandS.SetKeys
import KE.KDictWalk
import HandS.Iter
import HandS.Strs
import PyProof.Rows.SetFrom
import HandS.Head0
import HandS.Head1
import HandS.Head2
import HandS.HeadEnd
import HandS.HeadHook1
import HandS.HeadHook2
import HandS.List
import HandS.OwnEq
import HandS.SortKw
import KE.SortKeyHeap
import HandS.TupLe
import KE.KItemsList
import HandS.ListItems
import HandS.DictEq
import HandS.DeepEq
import PySem.Challenge.RW_coverroll_k89_too_wide
set_option Elab.async false
set_option linter.all false
set_option maxRecDepth 100000
set_option maxHeartbeats 4000000
namespace M
open PySem L2
theorem funD_raw {K : PySem.W.Frag} {x qual : Str} {params : Arguments} {body : List Stmt} {scope : Scope} {f : Addr} {fd : FuncData} (F : FunD K x qual params body scope [] [] f fd) :
    ∃ (oc : Value) (od : Option Addr) (kV doc pm : Value) (an : Option Addr) (cdv ct : Value) (osl : Array (Option Value)), K.lookup f = some ⟨oc, od, .func (PySem.W.fnOf x qual params body scope .none kV doc pm an cdv ct), osl⟩ ∧ PySem.W.codeIn K cdv qual = true ∧ PySem.W.keepIn K (.ref f) = true := by
  obtain ⟨oc, od, dV, kV, doc, pm, an, cdv, ct, osl, rfl, lk, cd, dv, kv⟩ := F.ex
  rcases dv with ⟨_, rfl⟩ | ⟨h, _⟩
  · exact ⟨oc, od, kV, doc, pm, an, cdv, ct, osl, lk, cd, F.kp⟩
  · exact absurd rfl h
/-- the objects that an object names, as far as facts of classes and defs go -/
def refsM (o : Obj) : List Addr := match o.data with
  | .dict es _ => es.toList.flatMap fun e => He.refV e.val
  | .func fd => He.refV fd.code ++ He.refV fd.defaults
  | .cls cd => [cd.ns]
  | _ => []
def nextM (g : Addr → Option Obj) (as : List Addr) : List Addr := as.flatMap fun a => match g a with
  | some o => refsM o
  | none => []
def fromM (g : Addr → Option Obj) : Nat → List Addr → List Addr
  | 0, as => as
  | n + 1, as => as ++ fromM g n (nextM g as)
def asM (g : Addr → Option Obj) (n : Nat) : List Addr := fromM g n [mainGlobals] ++ [cStatics]
abbrev AlH : Type := Bool × List He.FnW
def obsH (ex : PySem.W.Frag → Bool) (fn : List He.DefD) (K : PySem.W.Frag) : AlH := (ex K && fn.all fun d => d.ok K, fn.map fun d => He.fnW K d.at_)
def valH (fn : List He.DefD) : AlH := (true, fn.map He.DefD.val)
def SaysH (ex : PySem.W.Frag → Bool) (fn : List He.DefD) (K : PySem.W.Frag) : Prop := obsH ex fn K = valH fn
def obsHG (n : Nat) (ex : PySem.W.Frag → Bool) (fn : List He.DefD) (g : Addr → Option Obj) : AlH := obsH ex fn (He.frG g (asM g n))
def hookH (n : Nat) (ex : PySem.W.Frag → Bool) (fn : List He.DefD) : PySem.W.Hook where
  α := AlH
  obs := fun s => obsHG n ex fn s.heap.get?
  val := fun _ => valH fn
  says := fun _ h => ∃ K : PySem.W.Frag, K.In h ∧ SaysH ex fn K
  of := fun _ _ e => ⟨_, He.frG_in, e⟩
  keeps := fun _ _ _ ⟨K, hK, c⟩ k => ⟨K, PySem.W.Frag.In.keeps hK k, c⟩
theorem obsHG_eq {n : Nat} {ex : PySem.W.Frag → Bool} {fn : List He.DefD} {g : Addr → Option Obj} {s : Shared} (h : ∀ a, g a = s.heap.get? a) : obsHG n ex fn g = (hookH n ex fn).obs s := by
  have e : g = s.heap.get? := funext h
  rw [e] <;> rfl
section
variable {ex : PySem.W.Frag → Bool} {fn : List He.DefD} {K : PySem.W.Frag}
theorem SaysH.facts (c : SaysH ex fn K) : ex K = true := (He.ba (show (ex K && fn.all fun d => d.ok K) = true from congrArg (fun z : AlH => z.1) c)).1
theorem SaysH.def_ (c : SaysH ex fn K) (i : Nat) {d : He.DefD} (h : fn[i]? = some d) : ∃ fd, FunD K d.name d.qual d.params d.body d.scope (d.dvs K) (d.kws K) (He.fAd K d.at_) fd := by
  have c2 := (He.ba (show (ex K && fn.all fun d => d.ok K) = true from congrArg (fun z : AlH => z.1) c)).2
  have e : fn.map (fun d => He.fnW K d.at_) = fn.map He.DefD.val := congrArg (fun z : AlH => z.2) c
  have e2 : (fn.map fun d => He.fnW K d.at_)[i]? = (fn.map He.DefD.val)[i]? := by rw [e]
  rw [List.getElem?_map, List.getElem?_map, h] at e2
  exact He.DefD.funD (Option.some.inj e2) (List.all_eq_true.mp c2 d (List.mem_of_getElem? h))
end
def dO (a b : Option (Option Value)) : Bool := decide (a = b)
def dV (a b : Option Value) : Bool := decide (a = b)
def dB (a b : Option Bool) : Bool := decide (a = b)
theorem dO_ok {a b : Option (Option Value)} (h : dO a b = true) : a = b := of_decide_eq_true h
theorem dV_ok {a b : Option Value} (h : dV a b = true) : a = b := of_decide_eq_true h
theorem dB_ok {a b : Option Bool} (h : dB a b = true) : a = b := of_decide_eq_true h
def intB (K : PySem.W.Frag) (x : Str) (i : Int) : Bool := match PySem.W.nsIn K mainGlobals x with
  | some (some (.int j _)) => decide (j = i)
  | _ => false
theorem intB_ok {K : PySem.W.Frag} {x : Str} {i : Int} (h : intB K x i = true) : ∃ t, PySem.W.nsIn K mainGlobals x = some (some (.int i t)) := by
  unfold intB at h
  split at h
  · rename_i j t e
    rw [of_decide_eq_true h] at e
    exact ⟨t, e⟩
  · cases h
def strB (K : PySem.W.Frag) (x z : Str) : Bool := match PySem.W.nsIn K mainGlobals x with
  | some (some (.str y _)) => decide (y = z)
  | _ => false
theorem strB_ok {K : PySem.W.Frag} {x z : Str} (h : strB K x z = true) : ∃ t, PySem.W.nsIn K mainGlobals x = some (some (.str z t)) := by
  unfold strB at h
  split at h
  · rename_i j t e
    rw [of_decide_eq_true h] at e
    exact ⟨t, e⟩
  · cases h
end M
namespace K89
open PySem L2 M
def top (i : Nat) : Stmt := PySem.Challenge.pw_coverroll_k89_too_wide.main.body.getD i (.Pass ⟨0, 0, 0, 0⟩)
abbrev s_marks_of : Stmt := top 13
abbrev s_another : Stmt := top 14
abbrev s_parted : Stmt := top 15
abbrev s_cells_of : Stmt := top 16
abbrev s_stretches_of : Stmt := top 17
abbrev s_loss_in : Stmt := top 18
abbrev s_Counts___init__ : Stmt := inClass (top 20) 0
abbrev s_is_whole : Stmt := top 22
abbrev s_is_name : Stmt := top 26
abbrev s_is_amount : Stmt := top 27
abbrev s_cut_within : Stmt := top 29
abbrev s_lowest_of : Stmt := top 30
abbrev s_cut_out : Stmt := top 31
abbrev s_numbers_of : Stmt := top 34
abbrev s_paid_by : Stmt := top 35
abbrev s_unpaid_by : Stmt := top 36
abbrev s_strips_of : Stmt := top 37
abbrev s_claim_of : Stmt := top 39
abbrev s_claims_of : Stmt := top 40
abbrev s_row_of : Stmt := top 41
abbrev s_paper_of : Stmt := top 42
abbrev s_Book___init__ : Stmt := inClass (top 45) 0
abbrev s_Condition_holds : Stmt := inClass (top 47) 0
abbrev s_Condition_marks : Stmt := inClass (top 47) 2
abbrev s_CauseIs___init__ : Stmt := inClass (top 48) 0
abbrev s_CauseIs_holds : Stmt := inClass (top 48) 1
abbrev s_CauseIs_marks : Stmt := inClass (top 48) 3
abbrev s_ThingIs___init__ : Stmt := inClass (top 49) 0
abbrev s_ThingIs_holds : Stmt := inClass (top 49) 1
abbrev s_ThingIs_marks : Stmt := inClass (top 49) 3
abbrev s_DaysIn___init__ : Stmt := inClass (top 50) 0
abbrev s_DaysIn_holds : Stmt := inClass (top 50) 1
abbrev s_DaysIn_marks : Stmt := inClass (top 50) 3
abbrev s_Over___init__ : Stmt := inClass (top 51) 0
abbrev s_Over_holds : Stmt := inClass (top 51) 1
abbrev s_Over_marks : Stmt := inClass (top 51) 3
abbrev s_joined_marks : Stmt := top 52
abbrev s_Some___init__ : Stmt := inClass (top 53) 0
abbrev s_Some_holds : Stmt := inClass (top 53) 1
abbrev s_Some_marks : Stmt := inClass (top 53) 3
abbrev s_total_of : Stmt := top 57
abbrev s_due_by : Stmt := top 58
abbrev s_next_place : Stmt := top 59
abbrev s_turns : Stmt := top 60
abbrev s_Deal___init__ : Stmt := inClass (top 61) 0
abbrev s_need_houses : Stmt := top 65
abbrev s_left_out : Stmt := top 66
abbrev s_Cover___init__ : Stmt := inClass (top 67) 0
abbrev s_Cover_asks : Stmt := inClass (top 67) 1
abbrev s_Cover_spans : Stmt := inClass (top 67) 2
abbrev s_Cover_window : Stmt := inClass (top 67) 3
abbrev s_Cover_parts : Stmt := inClass (top 67) 4
abbrev s_Cover_rest : Stmt := inClass (top 67) 5
abbrev s__law_cell : Stmt := top 69
abbrev s__law_some : Stmt := top 70
abbrev s__law_book : Stmt := top 71
abbrev s__law_refused : Stmt := top 72
abbrev s_law : Stmt := top 73
def hd_gx0 (K : PySem.W.Frag) : Bool := dO (PySem.W.nsIn K mainGlobals "CauseIs") (some (some (.ref (He.ga K "CauseIs")))) && (PySem.W.plainGet K (He.ga K "CauseIs") Str.empty && (PySem.W.hasDictIn K (He.ga K "CauseIs") && (PySem.W.plainOver K (He.ga K "CauseIs") && (dO (PySem.W.findIn K (.ref (He.ga K "CauseIs")) "__setattr__") (some (some (.builtin "object.__setattr__"))) && (PySem.W.makesIn K (He.ga K "CauseIs") && (PySem.W.keepIn K (.ref (He.ga K "CauseIs")) && (dO (PySem.W.findIn K (.ref (He.ga K "CauseIs")) "name") (some none) && (dO (PySem.W.nsIn K mainGlobals "ThingIs") (some (some (.ref (He.ga K "ThingIs")))) && (PySem.W.plainGet K (He.ga K "ThingIs") Str.empty && (PySem.W.hasDictIn K (He.ga K "ThingIs") && (PySem.W.plainOver K (He.ga K "ThingIs") && (dO (PySem.W.findIn K (.ref (He.ga K "ThingIs")) "__setattr__") (some (some (.builtin "object.__setattr__"))) && (PySem.W.makesIn K (He.ga K "ThingIs") && (PySem.W.keepIn K (.ref (He.ga K "ThingIs")) && (dO (PySem.W.findIn K (.ref (He.ga K "ThingIs")) "name") (some none) && (true))))))))))))))))
def hd_gx1 (K : PySem.W.Frag) : Bool := dO (PySem.W.nsIn K mainGlobals "DaysIn") (some (some (.ref (He.ga K "DaysIn")))) && (PySem.W.plainGet K (He.ga K "DaysIn") Str.empty && (PySem.W.hasDictIn K (He.ga K "DaysIn") && (PySem.W.plainOver K (He.ga K "DaysIn") && (dO (PySem.W.findIn K (.ref (He.ga K "DaysIn")) "__setattr__") (some (some (.builtin "object.__setattr__"))) && (PySem.W.makesIn K (He.ga K "DaysIn") && (PySem.W.keepIn K (.ref (He.ga K "DaysIn")) && (dO (PySem.W.findIn K (.ref (He.ga K "DaysIn")) "first") (some none) && (dO (PySem.W.findIn K (.ref (He.ga K "DaysIn")) "last") (some none) && (dO (PySem.W.nsIn K mainGlobals "Over") (some (some (.ref (He.ga K "Over")))) && (PySem.W.plainGet K (He.ga K "Over") Str.empty && (PySem.W.hasDictIn K (He.ga K "Over") && (PySem.W.plainOver K (He.ga K "Over") && (dO (PySem.W.findIn K (.ref (He.ga K "Over")) "__setattr__") (some (some (.builtin "object.__setattr__"))) && (PySem.W.makesIn K (He.ga K "Over") && (PySem.W.keepIn K (.ref (He.ga K "Over")) && (true))))))))))))))))
def hd_gx2 (K : PySem.W.Frag) : Bool := dO (PySem.W.findIn K (.ref (He.ga K "Over")) "cents") (some none) && (dO (PySem.W.nsIn K mainGlobals "Some") (some (some (.ref (He.ga K "Some")))) && (PySem.W.plainGet K (He.ga K "Some") Str.empty && (PySem.W.hasDictIn K (He.ga K "Some") && (PySem.W.plainOver K (He.ga K "Some") && (dO (PySem.W.findIn K (.ref (He.ga K "Some")) "__setattr__") (some (some (.builtin "object.__setattr__"))) && (PySem.W.makesIn K (He.ga K "Some") && (PySem.W.keepIn K (.ref (He.ga K "Some")) && (dO (PySem.W.findIn K (.ref (He.ga K "Some")) "several") (some none) && (dO (PySem.W.nsIn K mainGlobals "Condition") (some (some (.ref (He.ga K "Condition")))) && (PySem.W.plainGet K (He.ga K "Condition") Str.empty && (PySem.W.hasDictIn K (He.ga K "Condition") && (PySem.W.plainOver K (He.ga K "Condition") && (dO (PySem.W.findIn K (.ref (He.ga K "Condition")) "__setattr__") (some (some (.builtin "object.__setattr__"))) && (PySem.W.makesIn K (He.ga K "Condition") && (PySem.W.keepIn K (.ref (He.ga K "Condition")) && (true))))))))))))))))
def hd_gx3 (K : PySem.W.Frag) : Bool := dO (PySem.W.nsIn K mainGlobals "Deal") (some (some (.ref (He.ga K "Deal")))) && (PySem.W.plainGet K (He.ga K "Deal") Str.empty && (PySem.W.hasDictIn K (He.ga K "Deal") && (PySem.W.plainOver K (He.ga K "Deal") && (dO (PySem.W.findIn K (.ref (He.ga K "Deal")) "__setattr__") (some (some (.builtin "object.__setattr__"))) && (PySem.W.makesIn K (He.ga K "Deal") && (PySem.W.keepIn K (.ref (He.ga K "Deal")) && (dO (PySem.W.findIn K (.ref (He.ga K "Deal")) "wheel") (some none) && (dO (PySem.W.findIn K (.ref (He.ga K "Deal")) "weights") (some none) && (dO (PySem.W.nsIn K mainGlobals "Cover") (some (some (.ref (He.ga K "Cover")))) && (PySem.W.plainGet K (He.ga K "Cover") Str.empty && (PySem.W.hasDictIn K (He.ga K "Cover") && (PySem.W.plainOver K (He.ga K "Cover") && (dO (PySem.W.findIn K (.ref (He.ga K "Cover")) "__setattr__") (some (some (.builtin "object.__setattr__"))) && (PySem.W.makesIn K (He.ga K "Cover") && (PySem.W.keepIn K (.ref (He.ga K "Cover")) && (true))))))))))))))))
def hd_gx4 (K : PySem.W.Frag) : Bool := dO (PySem.W.findIn K (.ref (He.ga K "Cover")) "name") (some none) && (dO (PySem.W.findIn K (.ref (He.ga K "Cover")) "condition") (some none) && (dO (PySem.W.findIn K (.ref (He.ga K "Cover")) "clauses") (some none) && (dO (PySem.W.findIn K (.ref (He.ga K "Cover")) "houses") (some none) && (dO (PySem.W.findIn K (.ref (He.ga K "Cover")) "deal") (some none) && (dO (PySem.W.findIn K (.ref (He.ga K "Cover")) "waits") (some none) && (dO (PySem.W.nsIn K mainGlobals "Book") (some (some (.ref (He.ga K "Book")))) && (PySem.W.plainGet K (He.ga K "Book") Str.empty && (PySem.W.hasDictIn K (He.ga K "Book") && (PySem.W.plainOver K (He.ga K "Book") && (dO (PySem.W.findIn K (.ref (He.ga K "Book")) "__setattr__") (some (some (.builtin "object.__setattr__"))) && (PySem.W.makesIn K (He.ga K "Book") && (PySem.W.keepIn K (.ref (He.ga K "Book")) && (dO (PySem.W.findIn K (.ref (He.ga K "Book")) "covers") (some none) && (dO (PySem.W.findIn K (.ref (He.ga K "Book")) "asking") (some none) && (dO (PySem.W.nsIn K mainGlobals "Counts") (some (some (.ref (He.ga K "Counts")))) && (true))))))))))))))))
def hd_gx5 (K : PySem.W.Frag) : Bool := PySem.W.plainGet K (He.ga K "Counts") Str.empty && (PySem.W.hasDictIn K (He.ga K "Counts") && (PySem.W.plainOver K (He.ga K "Counts") && (dO (PySem.W.findIn K (.ref (He.ga K "Counts")) "__setattr__") (some (some (.builtin "object.__setattr__"))) && (PySem.W.makesIn K (He.ga K "Counts") && (PySem.W.keepIn K (.ref (He.ga K "Counts")) && (dO (PySem.W.findIn K (.ref (He.ga K "Counts")) "held") (some none) && (dO (PySem.W.nsIn K mainGlobals "CoverError") (some (some (.ref (He.ga K "CoverError")))) && (dO (PySem.W.nsIn K mainGlobals "NoBook") (some (some (.ref (He.ga K "NoBook")))) && (dO (PySem.W.nsIn K mainGlobals "NotTold") (some (some (.ref (He.ga K "NotTold")))) && (dO (PySem.W.nsIn K mainGlobals "TooWide") (some (some (.ref (He.ga K "TooWide")))) && (dO (PySem.W.nsIn K mainGlobals "NoEntry") (some (some (.ref (He.ga K "NoEntry")))) && (PySem.W.excIn K (He.ga K "TooWide") [.type "ValueError", .type "Exception", .type "BaseException", .type "object"] "ValueError.__new__" && (PySem.W.keepIn K (.ref (He.ga K "TooWide")) && (dB (PySem.W.subIn K (.ref (He.ga K "TooWide")) (.type "BaseException")) (some true) && (dV (PySem.W.typeIn K (.ref (He.ga K "TooWide"))) (some (.type "type")) && (true))))))))))))))))
def hd_gx6 (K : PySem.W.Frag) : Bool := PySem.W.excIn K (He.ga K "NoEntry") [.type "ValueError", .type "Exception", .type "BaseException", .type "object"] "ValueError.__new__" && (PySem.W.keepIn K (.ref (He.ga K "NoEntry")) && (dB (PySem.W.subIn K (.ref (He.ga K "NoEntry")) (.type "BaseException")) (some true) && (dV (PySem.W.typeIn K (.ref (He.ga K "NoEntry"))) (some (.type "type")) && (dO (PySem.W.findIn K (.ref (He.ga K "NoEntry")) "__getattribute__") (some (some (.builtin "BaseException.__getattribute__"))) && (dO (PySem.W.findIn K (.ref (He.ga K "NoEntry")) "__getattr__") (some none) && (PySem.W.hasDictIn K (He.ga K "NoEntry") && (dO (PySem.W.findIn K (.ref (He.ga K "NoEntry")) "__class__") (some (some (.builtin "object.__class__"))) && (dB (PySem.W.mroIn K (He.ga K "NoEntry") (.type "object")) (some true) && (dO (PySem.W.findIn K (.ref (He.ga K "TooWide")) "__getattribute__") (some (some (.builtin "BaseException.__getattribute__"))) && (dO (PySem.W.findIn K (.ref (He.ga K "TooWide")) "__getattr__") (some none) && (PySem.W.hasDictIn K (He.ga K "TooWide") && (dO (PySem.W.findIn K (.ref (He.ga K "TooWide")) "__class__") (some (some (.builtin "object.__class__"))) && (dB (PySem.W.mroIn K (He.ga K "TooWide") (.type "object")) (some true) && (dO (PySem.W.specialIn K (.builtin "object.__class__") "__get__") (some (some (.builtin "getset_descriptor.__get__"))) && (dB (PySem.W.takesIn K (.builtin "object.__class__")) (some true) && (true))))))))))))))))
def hd_gx7 (K : PySem.W.Frag) : Bool := dB (PySem.W.subIn K (.ref (He.ga K "CoverError")) (.type "BaseException")) (some true) && (PySem.W.hasDictIn K (He.ga K "CoverError") && (dV (PySem.W.typeIn K (.ref (He.ga K "CoverError"))) (some (.type "type")) && (dB (PySem.W.subIn K (.ref (He.ga K "NoEntry")) (.ref (He.ga K "CoverError"))) (some true) && (dB (PySem.W.subIn K (.ref (He.ga K "TooWide")) (.ref (He.ga K "CoverError"))) (some true) && (dO (PySem.W.findIn K (.ref (He.ga K "Condition")) "__init__") (some (some (.builtin "object.__init__"))) && (dO (PySem.W.nsIn K mainGlobals "_law_cell") (some (some (.ref (He.fAd K ("_law_cell", none))))) && (dO (PySem.W.findIn K (.ref (He.ga K "CauseIs")) "__init__") (some (some (.ref (He.fAd K ("CauseIs", some "__init__"))))) && (PySem.W.isFn K (.ref (He.fAd K ("CauseIs", some "__init__"))) && (dO (PySem.W.findIn K (.ref (He.ga K "ThingIs")) "__init__") (some (some (.ref (He.fAd K ("ThingIs", some "__init__"))))) && (PySem.W.isFn K (.ref (He.fAd K ("ThingIs", some "__init__"))) && (dO (PySem.W.findIn K (.ref (He.ga K "DaysIn")) "__init__") (some (some (.ref (He.fAd K ("DaysIn", some "__init__"))))) && (PySem.W.isFn K (.ref (He.fAd K ("DaysIn", some "__init__"))) && (dO (PySem.W.findIn K (.ref (He.ga K "Over")) "__init__") (some (some (.ref (He.fAd K ("Over", some "__init__"))))) && (PySem.W.isFn K (.ref (He.fAd K ("Over", some "__init__"))) && (dO (PySem.W.findIn K (.ref (He.ga K "Some")) "__init__") (some (some (.ref (He.fAd K ("Some", some "__init__"))))) && (true))))))))))))))))
def hd_gx8 (K : PySem.W.Frag) : Bool := PySem.W.isFn K (.ref (He.fAd K ("Some", some "__init__"))) && (dO (PySem.W.nsIn K mainGlobals "_law_some") (some (some (.ref (He.fAd K ("_law_some", none))))) && (dO (PySem.W.nsIn K mainGlobals "is_name") (some (some (.ref (He.fAd K ("is_name", none))))) && (dO (PySem.W.nsIn K mainGlobals "need_houses") (some (some (.ref (He.fAd K ("need_houses", none))))) && (dO (PySem.W.nsIn K mainGlobals "is_whole") (some (some (.ref (He.fAd K ("is_whole", none))))) && (dO (PySem.W.nsIn K mainGlobals "total_of") (some (some (.ref (He.fAd K ("total_of", none))))) && (dO (PySem.W.nsIn K mainGlobals "due_by") (some (some (.ref (He.fAd K ("due_by", none))))) && (dO (PySem.W.nsIn K mainGlobals "next_place") (some (some (.ref (He.fAd K ("next_place", none))))) && (dO (PySem.W.nsIn K mainGlobals "turns") (some (some (.ref (He.fAd K ("turns", none))))) && (dO (PySem.W.findIn K (.ref (He.ga K "Deal")) "__init__") (some (some (.ref (He.fAd K ("Deal", some "__init__"))))) && (PySem.W.isFn K (.ref (He.fAd K ("Deal", some "__init__"))) && (dO (PySem.W.findIn K (.ref (He.ga K "Cover")) "__init__") (some (some (.ref (He.fAd K ("Cover", some "__init__"))))) && (PySem.W.isFn K (.ref (He.fAd K ("Cover", some "__init__"))) && (dO (PySem.W.findIn K (.ref (He.ga K "Book")) "__init__") (some (some (.ref (He.fAd K ("Book", some "__init__"))))) && (PySem.W.isFn K (.ref (He.fAd K ("Book", some "__init__"))) && (dO (PySem.W.nsIn K mainGlobals "_law_book") (some (some (.ref (He.fAd K ("_law_book", none))))) && (true))))))))))))))))
def hd_gx9 (K : PySem.W.Frag) : Bool := dO (PySem.W.findIn K (.ref (He.ga K "Condition")) "marks") (some (some (.ref (He.fAd K ("Condition", some "marks"))))) && (PySem.W.isFn K (.ref (He.fAd K ("Condition", some "marks"))) && (dO (PySem.W.findIn K (.ref (He.ga K "CauseIs")) "marks") (some (some (.ref (He.fAd K ("CauseIs", some "marks"))))) && (PySem.W.isFn K (.ref (He.fAd K ("CauseIs", some "marks"))) && (dO (PySem.W.findIn K (.ref (He.ga K "ThingIs")) "marks") (some (some (.ref (He.fAd K ("ThingIs", some "marks"))))) && (PySem.W.isFn K (.ref (He.fAd K ("ThingIs", some "marks"))) && (dO (PySem.W.findIn K (.ref (He.ga K "DaysIn")) "marks") (some (some (.ref (He.fAd K ("DaysIn", some "marks"))))) && (PySem.W.isFn K (.ref (He.fAd K ("DaysIn", some "marks"))) && (dO (PySem.W.findIn K (.ref (He.ga K "Over")) "marks") (some (some (.ref (He.fAd K ("Over", some "marks"))))) && (PySem.W.isFn K (.ref (He.fAd K ("Over", some "marks"))) && (dO (PySem.W.nsIn K mainGlobals "joined_marks") (some (some (.ref (He.fAd K ("joined_marks", none))))) && (dO (PySem.W.findIn K (.ref (He.ga K "Some")) "marks") (some (some (.ref (He.fAd K ("Some", some "marks"))))) && (PySem.W.isFn K (.ref (He.fAd K ("Some", some "marks"))) && (dO (PySem.W.nsIn K mainGlobals "marks_of") (some (some (.ref (He.fAd K ("marks_of", none))))) && (dO (PySem.W.nsIn K mainGlobals "parted") (some (some (.ref (He.fAd K ("parted", none))))) && (dO (PySem.W.nsIn K mainGlobals "cells_of") (some (some (.ref (He.fAd K ("cells_of", none))))) && (true))))))))))))))))
def hd_gx10 (K : PySem.W.Frag) : Bool := dO (PySem.W.nsIn K mainGlobals "is_whole") (some (some (.ref (He.fAd K ("is_whole", none))))) && (dO (PySem.W.nsIn K mainGlobals "is_amount") (some (some (.ref (He.fAd K ("is_amount", none))))) && (dO (PySem.W.nsIn K mainGlobals "stretches_of") (some (some (.ref (He.fAd K ("stretches_of", none))))) && (dO (PySem.W.nsIn K mainGlobals "another") (some (some (.ref (He.fAd K ("another", none))))) && (dO (PySem.W.nsIn K mainGlobals "loss_in") (some (some (.ref (He.fAd K ("loss_in", none))))) && (dO (PySem.W.findIn K (.ref (He.ga K "Counts")) "__init__") (some (some (.ref (He.fAd K ("Counts", some "__init__"))))) && (PySem.W.isFn K (.ref (He.fAd K ("Counts", some "__init__"))) && (dO (PySem.W.findIn K (.ref (He.ga K "Condition")) "holds") (some (some (.ref (He.fAd K ("Condition", some "holds"))))) && (PySem.W.isFn K (.ref (He.fAd K ("Condition", some "holds"))) && (dO (PySem.W.findIn K (.ref (He.ga K "CauseIs")) "holds") (some (some (.ref (He.fAd K ("CauseIs", some "holds"))))) && (PySem.W.isFn K (.ref (He.fAd K ("CauseIs", some "holds"))) && (dO (PySem.W.findIn K (.ref (He.ga K "ThingIs")) "holds") (some (some (.ref (He.fAd K ("ThingIs", some "holds"))))) && (PySem.W.isFn K (.ref (He.fAd K ("ThingIs", some "holds"))) && (dO (PySem.W.findIn K (.ref (He.ga K "DaysIn")) "holds") (some (some (.ref (He.fAd K ("DaysIn", some "holds"))))) && (PySem.W.isFn K (.ref (He.fAd K ("DaysIn", some "holds"))) && (dO (PySem.W.findIn K (.ref (He.ga K "Over")) "holds") (some (some (.ref (He.fAd K ("Over", some "holds"))))) && (true))))))))))))))))
def hd_gx11 (K : PySem.W.Frag) : Bool := PySem.W.isFn K (.ref (He.fAd K ("Over", some "holds"))) && (dO (PySem.W.findIn K (.ref (He.ga K "Some")) "holds") (some (some (.ref (He.fAd K ("Some", some "holds"))))) && (PySem.W.isFn K (.ref (He.fAd K ("Some", some "holds"))) && (dO (PySem.W.findIn K (.ref (He.ga K "Cover")) "asks") (some (some (.ref (He.fAd K ("Cover", some "asks"))))) && (PySem.W.isFn K (.ref (He.fAd K ("Cover", some "asks"))) && (dO (PySem.W.nsIn K mainGlobals "numbers_of") (some (some (.ref (He.fAd K ("numbers_of", none))))) && (dO (PySem.W.findIn K (.ref (He.ga K "Cover")) "spans") (some (some (.ref (He.fAd K ("Cover", some "spans"))))) && (PySem.W.isFn K (.ref (He.fAd K ("Cover", some "spans"))) && (dO (PySem.W.findIn K (.ref (He.ga K "Cover")) "window") (some (some (.ref (He.fAd K ("Cover", some "window"))))) && (PySem.W.isFn K (.ref (He.fAd K ("Cover", some "window"))) && (dO (PySem.W.nsIn K mainGlobals "cut_within") (some (some (.ref (He.fAd K ("cut_within", none))))) && (dO (PySem.W.findIn K (.ref (He.ga K "Cover")) "rest") (some (some (.ref (He.fAd K ("Cover", some "rest"))))) && (PySem.W.isFn K (.ref (He.fAd K ("Cover", some "rest"))) && (dO (PySem.W.nsIn K mainGlobals "lowest_of") (some (some (.ref (He.fAd K ("lowest_of", none))))) && (dO (PySem.W.nsIn K mainGlobals "paid_by") (some (some (.ref (He.fAd K ("paid_by", none))))) && (dO (PySem.W.nsIn K mainGlobals "cut_out") (some (some (.ref (He.fAd K ("cut_out", none))))) && (true))))))))))))))))
def hd_gx12 (K : PySem.W.Frag) : Bool := dO (PySem.W.nsIn K mainGlobals "left_out") (some (some (.ref (He.fAd K ("left_out", none))))) && (dO (PySem.W.findIn K (.ref (He.ga K "Cover")) "parts") (some (some (.ref (He.fAd K ("Cover", some "parts"))))) && (PySem.W.isFn K (.ref (He.fAd K ("Cover", some "parts"))) && (dO (PySem.W.nsIn K mainGlobals "unpaid_by") (some (some (.ref (He.fAd K ("unpaid_by", none))))) && (dO (PySem.W.nsIn K mainGlobals "strips_of") (some (some (.ref (He.fAd K ("strips_of", none))))) && (dO (PySem.W.nsIn K mainGlobals "claim_of") (some (some (.ref (He.fAd K ("claim_of", none))))) && (dO (PySem.W.nsIn K mainGlobals "claims_of") (some (some (.ref (He.fAd K ("claims_of", none))))) && (dO (PySem.W.nsIn K mainGlobals "row_of") (some (some (.ref (He.fAd K ("row_of", none))))) && (dO (PySem.W.nsIn K mainGlobals "paper_of") (some (some (.ref (He.fAd K ("paper_of", none))))) && (dO (PySem.W.nsIn K mainGlobals "_law_refused") (some (some (.ref (He.fAd K ("_law_refused", none))))) && (dO (PySem.W.nsIn K mainGlobals "law") (some (some (.ref (He.fAd K ("law", none))))) && (dB (PySem.W.mroIn K (He.ga K "NoEntry") (.ref (He.ga K "NoBook"))) (some false) && (dB (PySem.W.mroIn K (He.ga K "NoEntry") (.ref (He.ga K "NoEntry"))) (some true) && (dB (PySem.W.mroIn K (He.ga K "TooWide") (.ref (He.ga K "NoBook"))) (some false) && (dB (PySem.W.mroIn K (He.ga K "TooWide") (.ref (He.ga K "TooWide"))) (some true) && (dB (PySem.W.mroIn K (He.ga K "NoEntry") (.ref (He.ga K "NotTold"))) (some false) && (true))))))))))))))))
def hd_gx13 (K : PySem.W.Frag) : Bool := dB (PySem.W.mroIn K (He.ga K "TooWide") (.ref (He.ga K "NotTold"))) (some false) && (dB (PySem.W.mroIn K (He.ga K "NoEntry") (.ref (He.ga K "TooWide"))) (some false) && (dB (PySem.W.mroIn K (He.ga K "TooWide") (.ref (He.ga K "TooWide"))) (some true) && (dB (PySem.W.mroIn K (He.ga K "NoEntry") (.ref (He.ga K "NoEntry"))) (some true) && (dB (PySem.W.mroIn K (He.ga K "TooWide") (.ref (He.ga K "NoEntry"))) (some false) && (dB (PySem.W.mroIn K (He.ga K "NoEntry") (.type "ValueError")) (some true) && (dB (PySem.W.mroIn K (He.ga K "TooWide") (.type "ValueError")) (some true) && (PySem.W.isClsIn K (He.ga K "NoBook") && (dV (PySem.W.typeIn K (.ref (He.ga K "NoBook"))) (some (.type "type")) && (PySem.W.isClsIn K (He.ga K "NoEntry") && (dV (PySem.W.typeIn K (.ref (He.ga K "NoEntry"))) (some (.type "type")) && (PySem.W.isClsIn K (He.ga K "NotTold") && (dV (PySem.W.typeIn K (.ref (He.ga K "NotTold"))) (some (.type "type")) && (PySem.W.isClsIn K (He.ga K "TooWide") && (dV (PySem.W.typeIn K (.ref (He.ga K "TooWide"))) (some (.type "type")) && (dO (PySem.W.nsIn K mainGlobals "len") (some none) && (true))))))))))))))))
def hd_gx14 (K : PySem.W.Frag) : Bool := dO (PySem.W.nsIn K mainGlobals "list") (some none) && (dO (PySem.W.nsIn K mainGlobals "isinstance") (some none) && (dO (PySem.W.nsIn K mainGlobals "str") (some none) && (dO (PySem.W.nsIn K mainGlobals "bool") (some none) && (dO (PySem.W.nsIn K mainGlobals "int") (some none) && (dO (PySem.W.nsIn K mainGlobals "sum") (some none) && (dO (PySem.W.nsIn K mainGlobals "range") (some none) && (dO (PySem.W.nsIn K mainGlobals "set") (some none) && (dO (PySem.W.nsIn K mainGlobals "sorted") (some none) && (dO (PySem.W.nsIn K mainGlobals "enumerate") (some none) && (dO (PySem.W.nsIn K mainGlobals "max") (some none) && (dO (PySem.W.nsIn K mainGlobals "min") (some none) && (dO (PySem.W.nsIn K mainGlobals "zip") (some none) && (dO (PySem.W.nsIn K mainGlobals "ValueError") (some none) && (strB K "LETTERS_losses" "abcdefghijklmnopqrstuvwxyz" && (intB K "MOST_PLACES" 8 && (true))))))))))))))))
def hd_gx15 (K : PySem.W.Frag) : Bool := intB K "MOST_TURNS" 100 && (intB K "MOST_CLAUSES" 8 && (intB K "MOST_COVERS" 8 && (intB K "LAST_DAY" 1000000 && (intB K "MOST_ROWS" 120 && (intB K "MOST_CENTS" 999999999999 && (strB K "LETTERS_cells" "abcdefghijklmnopqrstuvwxyz" && (intB K "PAID_covers" (-1) && (intB K "PAID_settling" (-1) && (true)))))))))
def hd_ex0 (K : PySem.W.Frag) : Bool := hd_gx0 K && (hd_gx1 K && (hd_gx2 K && (hd_gx3 K && (hd_gx4 K && (hd_gx5 K && (hd_gx6 K && (hd_gx7 K && (hd_gx8 K && (hd_gx9 K && (hd_gx10 K && (hd_gx11 K && (hd_gx12 K && (hd_gx13 K && (hd_gx14 K && (hd_gx15 K && (true))))))))))))))))
def hd_dd0 : He.DefD := ⟨("_law_cell", none), "_law_cell", "_law_cell", defArgs s__law_cell, defBody s__law_cell, defScope s__law_cell, [], []⟩
def hd_dd1 : He.DefD := ⟨("CauseIs", some "__init__"), "__init__", "CauseIs.__init__", defArgs s_CauseIs___init__, defBody s_CauseIs___init__, defScope s_CauseIs___init__, [], []⟩
def hd_dd2 : He.DefD := ⟨("ThingIs", some "__init__"), "__init__", "ThingIs.__init__", defArgs s_ThingIs___init__, defBody s_ThingIs___init__, defScope s_ThingIs___init__, [], []⟩
def hd_dd3 : He.DefD := ⟨("DaysIn", some "__init__"), "__init__", "DaysIn.__init__", defArgs s_DaysIn___init__, defBody s_DaysIn___init__, defScope s_DaysIn___init__, [], []⟩
def hd_dd4 : He.DefD := ⟨("Over", some "__init__"), "__init__", "Over.__init__", defArgs s_Over___init__, defBody s_Over___init__, defScope s_Over___init__, [], []⟩
def hd_dd5 : He.DefD := ⟨("Some", some "__init__"), "__init__", "Some.__init__", defArgs s_Some___init__, defBody s_Some___init__, defScope s_Some___init__, [], []⟩
def hd_dd6 : He.DefD := ⟨("_law_some", none), "_law_some", "_law_some", defArgs s__law_some, defBody s__law_some, defScope s__law_some, [], []⟩
def hd_dd7 : He.DefD := ⟨("is_name", none), "is_name", "is_name", defArgs s_is_name, defBody s_is_name, defScope s_is_name, [], []⟩
def hd_dd8 : He.DefD := ⟨("need_houses", none), "need_houses", "need_houses", defArgs s_need_houses, defBody s_need_houses, defScope s_need_houses, [], []⟩
def hd_dd9 : He.DefD := ⟨("is_whole", none), "is_whole", "is_whole", defArgs s_is_whole, defBody s_is_whole, defScope s_is_whole, [], []⟩
def hd_dd10 : He.DefD := ⟨("total_of", none), "total_of", "total_of", defArgs s_total_of, defBody s_total_of, defScope s_total_of, [], []⟩
def hd_dd11 : He.DefD := ⟨("due_by", none), "due_by", "due_by", defArgs s_due_by, defBody s_due_by, defScope s_due_by, [], []⟩
def hd_dd12 : He.DefD := ⟨("next_place", none), "next_place", "next_place", defArgs s_next_place, defBody s_next_place, defScope s_next_place, [], []⟩
def hd_dd13 : He.DefD := ⟨("turns", none), "turns", "turns", defArgs s_turns, defBody s_turns, defScope s_turns, [], []⟩
def hd_dd14 : He.DefD := ⟨("Deal", some "__init__"), "__init__", "Deal.__init__", defArgs s_Deal___init__, defBody s_Deal___init__, defScope s_Deal___init__, [], []⟩
def hd_dd15 : He.DefD := ⟨("Cover", some "__init__"), "__init__", "Cover.__init__", defArgs s_Cover___init__, defBody s_Cover___init__, defScope s_Cover___init__, [.non, .non, .bl false], []⟩
def hd_dd16 : He.DefD := ⟨("Book", some "__init__"), "__init__", "Book.__init__", defArgs s_Book___init__, defBody s_Book___init__, defScope s_Book___init__, [], []⟩
def hd_dd17 : He.DefD := ⟨("_law_book", none), "_law_book", "_law_book", defArgs s__law_book, defBody s__law_book, defScope s__law_book, [], []⟩
def hd_dd18 : He.DefD := ⟨("Condition", some "marks"), "marks", "Condition.marks", defArgs s_Condition_marks, defBody s_Condition_marks, defScope s_Condition_marks, [], []⟩
def hd_dd19 : He.DefD := ⟨("CauseIs", some "marks"), "marks", "CauseIs.marks", defArgs s_CauseIs_marks, defBody s_CauseIs_marks, defScope s_CauseIs_marks, [], []⟩
def hd_dd20 : He.DefD := ⟨("ThingIs", some "marks"), "marks", "ThingIs.marks", defArgs s_ThingIs_marks, defBody s_ThingIs_marks, defScope s_ThingIs_marks, [], []⟩
def hd_dd21 : He.DefD := ⟨("DaysIn", some "marks"), "marks", "DaysIn.marks", defArgs s_DaysIn_marks, defBody s_DaysIn_marks, defScope s_DaysIn_marks, [], []⟩
def hd_dd22 : He.DefD := ⟨("Over", some "marks"), "marks", "Over.marks", defArgs s_Over_marks, defBody s_Over_marks, defScope s_Over_marks, [], []⟩
def hd_dd23 : He.DefD := ⟨("joined_marks", none), "joined_marks", "joined_marks", defArgs s_joined_marks, defBody s_joined_marks, defScope s_joined_marks, [], []⟩
def hd_dd24 : He.DefD := ⟨("Some", some "marks"), "marks", "Some.marks", defArgs s_Some_marks, defBody s_Some_marks, defScope s_Some_marks, [], []⟩
def hd_dd25 : He.DefD := ⟨("marks_of", none), "marks_of", "marks_of", defArgs s_marks_of, defBody s_marks_of, defScope s_marks_of, [], []⟩
def hd_dd26 : He.DefD := ⟨("parted", none), "parted", "parted", defArgs s_parted, defBody s_parted, defScope s_parted, [], []⟩
def hd_dd27 : He.DefD := ⟨("cells_of", none), "cells_of", "cells_of", defArgs s_cells_of, defBody s_cells_of, defScope s_cells_of, [], []⟩
def hd_dd28 : He.DefD := ⟨("is_whole", none), "is_whole", "is_whole", defArgs s_is_whole, defBody s_is_whole, defScope s_is_whole, [], []⟩
def hd_dd29 : He.DefD := ⟨("is_amount", none), "is_amount", "is_amount", defArgs s_is_amount, defBody s_is_amount, defScope s_is_amount, [], []⟩
def hd_dd30 : He.DefD := ⟨("stretches_of", none), "stretches_of", "stretches_of", defArgs s_stretches_of, defBody s_stretches_of, defScope s_stretches_of, [], []⟩
def hd_dd31 : He.DefD := ⟨("another", none), "another", "another", defArgs s_another, defBody s_another, defScope s_another, [], []⟩
def hd_dd32 : He.DefD := ⟨("loss_in", none), "loss_in", "loss_in", defArgs s_loss_in, defBody s_loss_in, defScope s_loss_in, [], []⟩
def hd_dd33 : He.DefD := ⟨("Counts", some "__init__"), "__init__", "Counts.__init__", defArgs s_Counts___init__, defBody s_Counts___init__, defScope s_Counts___init__, [], []⟩
def hd_dd34 : He.DefD := ⟨("Condition", some "holds"), "holds", "Condition.holds", defArgs s_Condition_holds, defBody s_Condition_holds, defScope s_Condition_holds, [], []⟩
def hd_dd35 : He.DefD := ⟨("CauseIs", some "holds"), "holds", "CauseIs.holds", defArgs s_CauseIs_holds, defBody s_CauseIs_holds, defScope s_CauseIs_holds, [], []⟩
def hd_dd36 : He.DefD := ⟨("ThingIs", some "holds"), "holds", "ThingIs.holds", defArgs s_ThingIs_holds, defBody s_ThingIs_holds, defScope s_ThingIs_holds, [], []⟩
def hd_dd37 : He.DefD := ⟨("DaysIn", some "holds"), "holds", "DaysIn.holds", defArgs s_DaysIn_holds, defBody s_DaysIn_holds, defScope s_DaysIn_holds, [], []⟩
def hd_dd38 : He.DefD := ⟨("Over", some "holds"), "holds", "Over.holds", defArgs s_Over_holds, defBody s_Over_holds, defScope s_Over_holds, [], []⟩
def hd_dd39 : He.DefD := ⟨("Some", some "holds"), "holds", "Some.holds", defArgs s_Some_holds, defBody s_Some_holds, defScope s_Some_holds, [], []⟩
def hd_dd40 : He.DefD := ⟨("Cover", some "asks"), "asks", "Cover.asks", defArgs s_Cover_asks, defBody s_Cover_asks, defScope s_Cover_asks, [], []⟩
def hd_dd41 : He.DefD := ⟨("numbers_of", none), "numbers_of", "numbers_of", defArgs s_numbers_of, defBody s_numbers_of, defScope s_numbers_of, [], []⟩
def hd_dd42 : He.DefD := ⟨("Cover", some "spans"), "spans", "Cover.spans", defArgs s_Cover_spans, defBody s_Cover_spans, defScope s_Cover_spans, [], []⟩
def hd_dd43 : He.DefD := ⟨("Cover", some "window"), "window", "Cover.window", defArgs s_Cover_window, defBody s_Cover_window, defScope s_Cover_window, [], []⟩
def hd_dd44 : He.DefD := ⟨("cut_within", none), "cut_within", "cut_within", defArgs s_cut_within, defBody s_cut_within, defScope s_cut_within, [], []⟩
def hd_dd45 : He.DefD := ⟨("Cover", some "rest"), "rest", "Cover.rest", defArgs s_Cover_rest, defBody s_Cover_rest, defScope s_Cover_rest, [], []⟩
def hd_dd46 : He.DefD := ⟨("lowest_of", none), "lowest_of", "lowest_of", defArgs s_lowest_of, defBody s_lowest_of, defScope s_lowest_of, [], []⟩
def hd_dd47 : He.DefD := ⟨("paid_by", none), "paid_by", "paid_by", defArgs s_paid_by, defBody s_paid_by, defScope s_paid_by, [], []⟩
def hd_dd48 : He.DefD := ⟨("cut_out", none), "cut_out", "cut_out", defArgs s_cut_out, defBody s_cut_out, defScope s_cut_out, [], []⟩
def hd_dd49 : He.DefD := ⟨("left_out", none), "left_out", "left_out", defArgs s_left_out, defBody s_left_out, defScope s_left_out, [], []⟩
def hd_dd50 : He.DefD := ⟨("Cover", some "parts"), "parts", "Cover.parts", defArgs s_Cover_parts, defBody s_Cover_parts, defScope s_Cover_parts, [], []⟩
def hd_dd51 : He.DefD := ⟨("unpaid_by", none), "unpaid_by", "unpaid_by", defArgs s_unpaid_by, defBody s_unpaid_by, defScope s_unpaid_by, [], []⟩
def hd_dd52 : He.DefD := ⟨("strips_of", none), "strips_of", "strips_of", defArgs s_strips_of, defBody s_strips_of, defScope s_strips_of, [], []⟩
def hd_dd53 : He.DefD := ⟨("claim_of", none), "claim_of", "claim_of", defArgs s_claim_of, defBody s_claim_of, defScope s_claim_of, [], []⟩
def hd_dd54 : He.DefD := ⟨("claims_of", none), "claims_of", "claims_of", defArgs s_claims_of, defBody s_claims_of, defScope s_claims_of, [], []⟩
def hd_dd55 : He.DefD := ⟨("row_of", none), "row_of", "row_of", defArgs s_row_of, defBody s_row_of, defScope s_row_of, [], []⟩
def hd_dd56 : He.DefD := ⟨("paper_of", none), "paper_of", "paper_of", defArgs s_paper_of, defBody s_paper_of, defScope s_paper_of, [], []⟩
def hd_dd57 : He.DefD := ⟨("_law_refused", none), "_law_refused", "_law_refused", defArgs s__law_refused, defBody s__law_refused, defScope s__law_refused, [], []⟩
def hd_dd58 : He.DefD := ⟨("law", none), "law", "law", defArgs s_law, defBody s_law, defScope s_law, [], []⟩
def hd_fn0 : List He.DefD := [hd_dd0, hd_dd1, hd_dd2, hd_dd3, hd_dd4, hd_dd5, hd_dd6, hd_dd7, hd_dd8, hd_dd9, hd_dd10, hd_dd11, hd_dd12, hd_dd13, hd_dd14, hd_dd15, hd_dd16, hd_dd17, hd_dd18, hd_dd19, hd_dd20, hd_dd21, hd_dd22, hd_dd23, hd_dd24, hd_dd25, hd_dd26, hd_dd27, hd_dd28, hd_dd29]
def hd_fn1 : List He.DefD := [hd_dd30, hd_dd31, hd_dd32, hd_dd33, hd_dd34, hd_dd35, hd_dd36, hd_dd37, hd_dd38, hd_dd39, hd_dd40, hd_dd41, hd_dd42, hd_dd43, hd_dd44, hd_dd45, hd_dd46, hd_dd47, hd_dd48, hd_dd49, hd_dd50, hd_dd51, hd_dd52, hd_dd53, hd_dd54, hd_dd55, hd_dd56, hd_dd57, hd_dd58]
def hd_fns : List He.DefD := hd_fn0 ++ (hd_fn1)
def hd_nm0 : List PySem.Str := [("_wall" : PySem.Str), ("__name__" : PySem.Str), ("CoverError" : PySem.Str), ("NoShares" : PySem.Str), ("NoEntry" : PySem.Str), ("NoCover" : PySem.Str), ("NoBook" : PySem.Str), ("NotTold" : PySem.Str), ("TooWide" : PySem.Str), ("LETTERS_cells" : PySem.Str), ("LAST_DAY" : PySem.Str), ("MOST_ROWS" : PySem.Str), ("marks_of" : PySem.Str), ("another" : PySem.Str), ("parted" : PySem.Str), ("cells_of" : PySem.Str), ("stretches_of" : PySem.Str), ("loss_in" : PySem.Str), ("Counts" : PySem.Str), ("is_whole" : PySem.Str), ("LETTERS_losses" : PySem.Str), ("MOST_CENTS" : PySem.Str), ("is_name" : PySem.Str), ("is_amount" : PySem.Str), ("cut_within" : PySem.Str), ("lowest_of" : PySem.Str), ("cut_out" : PySem.Str), ("PAID_settling" : PySem.Str), ("numbers_of" : PySem.Str), ("paid_by" : PySem.Str)]
def hd_nm1 : List PySem.Str := [("unpaid_by" : PySem.Str), ("strips_of" : PySem.Str), ("claim_of" : PySem.Str), ("claims_of" : PySem.Str), ("row_of" : PySem.Str), ("paper_of" : PySem.Str), ("MOST_COVERS" : PySem.Str), ("Book" : PySem.Str), ("Condition" : PySem.Str), ("CauseIs" : PySem.Str), ("ThingIs" : PySem.Str), ("DaysIn" : PySem.Str), ("Over" : PySem.Str), ("joined_marks" : PySem.Str), ("Some" : PySem.Str), ("MOST_PLACES" : PySem.Str), ("MOST_TURNS" : PySem.Str), ("total_of" : PySem.Str), ("due_by" : PySem.Str), ("next_place" : PySem.Str), ("turns" : PySem.Str), ("Deal" : PySem.Str), ("MOST_CLAUSES" : PySem.Str), ("PAID_covers" : PySem.Str), ("need_houses" : PySem.Str), ("left_out" : PySem.Str), ("Cover" : PySem.Str), ("_law_cell" : PySem.Str), ("_law_some" : PySem.Str), ("_law_book" : PySem.Str)]
def hd_nm2 : List PySem.Str := [("_law_refused" : PySem.Str)]
def hd_nms : List PySem.Str := hd_nm0 ++ (hd_nm1 ++ (hd_nm2))
abbrev hd_RR : PySem.W.OpenRow := PySem.W.OpenLaw.row PySem.Challenge.rw_coverroll_k89_too_wide
abbrev hd_hk : PySem.W.Hook := hookH 4 hd_ex0 hd_fns
def hd_ob (s : PySem.W.SharedT) : AlH := obsHG 4 hd_ex0 hd_fns (HandSHeadRun.getT s)
theorem hd_ob_eq (s : PySem.W.SharedT) : hd_ob s = hd_hk.obs s.abs := obsHG_eq (HandSHeadRun.getT_eq s)
set_option maxHeartbeats 0 in
theorem hd_run (w : World) : HandSHeadRun.RunEq hd_RR (PySem.W.view hd_RR.prog [73]) hd_hk hd_ob 14000 hd_nms w := by
  intro os
  kernel_rfl

end K89
namespace M
open PySem L2

/-- data that no one changes any more -/
inductive D where
  | non | bl (b : Bool) | int (i : Int) | str (x : Str) | ty (n : String) | opq (a : Addr)
  | tup (ds : List D) | lst (ds : List D) | ins (C : Addr) (ns : List Str) (ds : List D)
  | dct (ks : List Key) (ds : List D) | dctT (ks : List (List Key)) (ds : List D)
/-- an error: its class, its attribute -/
structure Er where
  C : Addr
  fld : Option (Str × D) := none
/-- things of the def's own, that may be changed; rs: nothing comes back, an error is raised; vw: a list that stays as it is while the def runs -/
inductive O where
  | fz (d : D) | vw (ds : List D) | lst (os : List O) | tup (os : List O) | ins (C : Addr) (ns : List Str) (os : List O)
  | dct (ks : List Key) (os : List O) | dctT (ks : List (List Key)) (os : List O)
  | at (a : Addr) (C : Addr) (ns : List Str) (os : List O)
  | vwa (a : Addr) (ds : List D)
  | loc (a : Addr) (o : O)
  | pt (a : Addr)
  | rs (e : Er)
  | lk (o : O)

def Ex (H H' : Hp) : Prop := ∀ a o, H a = some o → H' a = some o
theorem Ex.refl (H : Hp) : Ex H H := fun _ _ h => h
theorem Ex.trans {H H1 H2 : Hp} (a : Ex H H1) (b : Ex H1 H2) : Ex H H2 := fun x o h => b x o (a x o h)
theorem Ex.new {H : Hp} {p : Addr} {o : HO} (h : H p = none) : Ex H (upd H p o) := fun a u e => by
  rw [upd_ne (ne_of_none e h)]
  exact e
theorem Ex.free {H H' : Hp} {p : Addr} (e : Ex H H') (h : H' p = none) : H p = none := by
  cases h1 : H p with
  | none => rfl
  | some o =>
    rw [e p o h1] at h
    cases h
theorem Ex.mut {H H' : Hp} {p : Addr} {o : HO} (e : Ex H H') (h : H p = none) : Ex H (upd H' p o) := fun a u ha => by
  rw [upd_ne (ne_of_none ha h)]
  exact e a u ha
theorem ex_rd {H H' : Hp} {a : Addr} {u : HO} (e : Ex H H') (h : Rd H a u) : Rd H' a u := by
  rcases h with h | ⟨o, h⟩
  · exact .inl (e a _ h)
  · exact .inr ⟨o, e a _ h⟩
theorem ex_l {K : PySem.W.Frag} {H H' : Hp} {a : Addr} {xs : List V} (e : Ex H H') (h : SqL K H a xs) : SqL K H' a xs := by
  rcases h with h | h
  · exact .inl (ex_rd e h)
  · exact .inr h
theorem ex_t {K : PySem.W.Frag} {H H' : Hp} {a : Addr} {xs : List V} (e : Ex H H') (h : SqT K H a xs) : SqT K H' a xs := by
  rcases h with h | h
  · exact .inl (ex_rd e h)
  · exact .inr h

mutual
inductive Rep (K : PySem.W.Frag) (Z : Hp) : V → D → Prop where
  | non : Rep K Z .non .non
  | bl (b : Bool) : Rep K Z (.bl b) (.bl b)
  | int (i : Int) : Rep K Z (.int i) (.int i)
  | str (x : Str) : Rep K Z (.str x) (.str x)
  | ty (n : String) : Rep K Z (.ty n) (.ty n)
  | opq (a : Addr) : Rep K Z (.ref a) (.opq a)
  | tup {a : Addr} {vs : List V} {ds : List D} : SqT K Z a vs → RepL K Z vs ds → Rep K Z (.ref a) (.tup ds)
  | lst {a : Addr} {vs : List V} {ds : List D} : SqL K Z a vs → RepL K Z vs ds → Rep K Z (.ref a) (.lst ds)
  | ins {a C dx : Addr} {ns : List Str} {vs : List V} {ds : List D} : Z a = some (.ins C dx (ns.zip vs)) → RepL K Z vs ds → Rep K Z (.ref a) (.ins C ns ds)
  | dct {a : Addr} {ks : List Key} {vs : List V} {ds : List D} : Z a = some (.dK (ks.zip vs)) → RepL K Z vs ds → Rep K Z (.ref a) (.dct ks ds)
  | dctT {a : Addr} {ks : List (List Key)} {vs : List V} {ds : List D} : Z a = some (.dT (ks.zip vs)) → RepL K Z vs ds → Rep K Z (.ref a) (.dctT ks ds)
inductive RepL (K : PySem.W.Frag) (Z : Hp) : List V → List D → Prop where
  | nil : RepL K Z [] []
  | cons {v : V} {vs : List V} {d : D} {ds : List D} : Rep K Z v d → RepL K Z vs ds → RepL K Z (v :: vs) (d :: ds)
end
mutual
/-- a thing that is looked at: its cells lie in F -/
inductive RepK (K : PySem.W.Frag) (Z F : Hp) : V → O → Prop where
  | fz {v : V} {d : D} : Rep K Z v d → RepK K Z F v (.fz d)
  | vw {a : Addr} {vs : List V} {ds : List D} : SqL K F a vs → RepL K Z vs ds → RepK K Z F (.ref a) (.vw ds)
  | vwa {a : Addr} {vs : List V} {ds : List D} : SqL K F a vs → RepL K Z vs ds → RepK K Z F (.ref a) (.vwa a ds)
  | lst {a : Addr} {vs : List V} {os : List O} : F a = some (.lst vs) → RepKL K Z F vs os → RepK K Z F (.ref a) (.lst os)
  | tup {a : Addr} {vs : List V} {os : List O} : F a = some (.tup vs) → RepKL K Z F vs os → RepK K Z F (.ref a) (.tup os)
  | ins {a C dx : Addr} {ns : List Str} {vs : List V} {os : List O} : F a = some (.ins C dx (ns.zip vs)) → RepKL K Z F vs os → RepK K Z F (.ref a) (.ins C ns os)
  | at {a C dx : Addr} {ns : List Str} {vs : List V} {os : List O} : F a = some (.ins C dx (ns.zip vs)) → RepKL K Z F vs os → RepK K Z F (.ref a) (.at a C ns os)
  | dct {a : Addr} {ks : List Key} {vs : List V} {os : List O} : F a = some (.dK (ks.zip vs)) → RepKL K Z F vs os → RepK K Z F (.ref a) (.dct ks os)
  | dctT {a : Addr} {ks : List (List Key)} {vs : List V} {os : List O} : F a = some (.dT (ks.zip vs)) → RepKL K Z F vs os → RepK K Z F (.ref a) (.dctT ks os)
  | loc {a : Addr} {o : O} : RepK K Z F (.ref a) o → RepK K Z F (.ref a) (.loc a o)
  | pt {a : Addr} : RepK K Z F (.ref a) (.pt a)
  | lk {v : V} {o : O} : RepK K Z F v o → RepK K Z F v (.lk o)
inductive RepKL (K : PySem.W.Frag) (Z F : Hp) : List V → List O → Prop where
  | nil : RepKL K Z F [] []
  | cons {v : V} {vs : List V} {o : O} {os : List O} : RepK K Z F v o → RepKL K Z F vs os → RepKL K Z F (v :: vs) (o :: os)
end
mutual
inductive RepO (K : PySem.W.Frag) (Z F H : Hp) : V → O → List Addr → Prop where
  | fz {v : V} {d : D} : Rep K Z v d → RepO K Z F H v (.fz d) []
  | vw {a : Addr} {vs : List V} {ds : List D} : SqL K F a vs → RepL K Z vs ds → RepO K Z F H (.ref a) (.vw ds) []
  | vwa {a : Addr} {vs : List V} {ds : List D} : SqL K F a vs → RepL K Z vs ds → RepO K Z F H (.ref a) (.vwa a ds) []
  | lst {a : Addr} {vs : List V} {os : List O} {A : List Addr} : H a = some (.lst vs) → RepOL K Z F H vs os A → RepO K Z F H (.ref a) (.lst os) (a :: A)
  | tup {a : Addr} {vs : List V} {os : List O} {A : List Addr} : H a = some (.tup vs) → RepOL K Z F H vs os A → RepO K Z F H (.ref a) (.tup os) (a :: A)
  | ins {a C dx : Addr} {ns : List Str} {vs : List V} {os : List O} {A : List Addr} : H a = some (.ins C dx (ns.zip vs)) → RepOL K Z F H vs os A → RepO K Z F H (.ref a) (.ins C ns os) (a :: A)
  | at {a C dx : Addr} {ns : List Str} {vs : List V} {os : List O} {A : List Addr} : H a = some (.ins C dx (ns.zip vs)) → RepOL K Z F H vs os A → RepO K Z F H (.ref a) (.at a C ns os) (a :: A)
  | dct {a : Addr} {ks : List Key} {vs : List V} {os : List O} {A : List Addr} : H a = some (.dK (ks.zip vs)) → RepOL K Z F H vs os A → RepO K Z F H (.ref a) (.dct ks os) (a :: A)
  | dctT {a : Addr} {ks : List (List Key)} {vs : List V} {os : List O} {A : List Addr} : H a = some (.dT (ks.zip vs)) → RepOL K Z F H vs os A → RepO K Z F H (.ref a) (.dctT ks os) (a :: A)
  | loc {a : Addr} {o : O} {A : List Addr} : RepO K Z F H (.ref a) o A → RepO K Z F H (.ref a) (.loc a o) A
  | pt {a : Addr} : RepO K Z F H (.ref a) (.pt a) []
  | lk {v : V} {o : O} : RepK K Z F v o → RepO K Z F H v (.lk o) []
inductive RepOL (K : PySem.W.Frag) (Z F H : Hp) : List V → List O → List Addr → Prop where
  | nil : RepOL K Z F H [] [] []
  | cons {v : V} {vs : List V} {o : O} {os : List O} {A B : List Addr} : RepO K Z F H v o A → RepOL K Z F H vs os B → RepOL K Z F H (v :: vs) (o :: os) (A ++ B)
end

section
variable {K : PySem.W.Frag} {Z Z' F F' H H' : Hp}
mutual
theorem Rep.mono (e : Ex Z Z') : ∀ {v : V} {d : D}, Rep K Z v d → Rep K Z' v d
  | _, _, .non => .non
  | _, _, .bl b => .bl b
  | _, _, .int i => .int i
  | _, _, .str x => .str x
  | _, _, .ty n => .ty n
  | _, _, .opq a => .opq a
  | _, _, .tup h r => .tup (ex_t e h) (RepL.mono e r)
  | _, _, .lst h r => .lst (ex_l e h) (RepL.mono e r)
  | _, _, .ins h r => .ins (e _ _ h) (RepL.mono e r)
  | _, _, .dct h r => .dct (e _ _ h) (RepL.mono e r)
  | _, _, .dctT h r => .dctT (e _ _ h) (RepL.mono e r)
theorem RepL.mono (e : Ex Z Z') : ∀ {vs : List V} {ds : List D}, RepL K Z vs ds → RepL K Z' vs ds
  | _, _, .nil => .nil
  | _, _, .cons h r => .cons (Rep.mono e h) (RepL.mono e r)
end
mutual
theorem RepK.mono (e : Ex Z Z') (f : Ex F F') : ∀ {v : V} {o : O}, RepK K Z F v o → RepK K Z' F' v o
  | _, _, .fz h => .fz (h.mono e)
  | _, _, .vw h r => .vw (ex_l f h) (r.mono e)
  | _, _, .vwa h r => .vwa (ex_l f h) (r.mono e)
  | _, _, .lst h r => .lst (f _ _ h) (RepKL.mono e f r)
  | _, _, .tup h r => .tup (f _ _ h) (RepKL.mono e f r)
  | _, _, .ins h r => .ins (f _ _ h) (RepKL.mono e f r)
  | _, _, .at h r => .at (f _ _ h) (RepKL.mono e f r)
  | _, _, .dct h r => .dct (f _ _ h) (RepKL.mono e f r)
  | _, _, .dctT h r => .dctT (f _ _ h) (RepKL.mono e f r)
  | _, .loc _ o, .loc h => .loc (RepK.mono (o := o) e f h)
  | _, _, .pt => .pt
  | _, .lk o, .lk h => .lk (RepK.mono (o := o) e f h)
theorem RepKL.mono (e : Ex Z Z') (f : Ex F F') : ∀ {vs : List V} {os : List O}, RepKL K Z F vs os → RepKL K Z' F' vs os
  | _, _, .nil => .nil
  | _, _, .cons h r => .cons (RepK.mono e f h) (RepKL.mono e f r)
end
mutual
theorem RepO.mono (e : Ex Z Z') (f : Ex F F') : ∀ {v : V} {o : O} {A : List Addr}, RepO K Z F H v o A → (∀ a ∈ A, ∀ u, H a = some u → H' a = some u) → RepO K Z' F' H' v o A
  | _, _, _, .fz h, _ => .fz (h.mono e)
  | _, _, _, .vw h r, _ => .vw (ex_l f h) (r.mono e)
  | _, _, _, .vwa h r, _ => .vwa (ex_l f h) (r.mono e)
  | _, _, _, .lk h, _ => .lk (h.mono e f)
  | _, _, _, .lst h r, k => .lst (k _ List.mem_cons_self _ h) (RepOL.mono e f r fun a m => k a (List.mem_cons_of_mem _ m))
  | _, _, _, .tup h r, k => .tup (k _ List.mem_cons_self _ h) (RepOL.mono e f r fun a m => k a (List.mem_cons_of_mem _ m))
  | _, _, _, .ins h r, k => .ins (k _ List.mem_cons_self _ h) (RepOL.mono e f r fun a m => k a (List.mem_cons_of_mem _ m))
  | _, _, _, .loc h, k => .loc (RepO.mono e f h k)
  | _, _, _, .pt, _ => .pt
  | _, _, _, .at h r, k => .at (k _ List.mem_cons_self _ h) (RepOL.mono e f r fun a m => k a (List.mem_cons_of_mem _ m))
  | _, _, _, .dct h r, k => .dct (k _ List.mem_cons_self _ h) (RepOL.mono e f r fun a m => k a (List.mem_cons_of_mem _ m))
  | _, _, _, .dctT h r, k => .dctT (k _ List.mem_cons_self _ h) (RepOL.mono e f r fun a m => k a (List.mem_cons_of_mem _ m))
theorem RepOL.mono (e : Ex Z Z') (f : Ex F F') : ∀ {vs : List V} {os : List O} {A : List Addr}, RepOL K Z F H vs os A → (∀ a ∈ A, ∀ u, H a = some u → H' a = some u) → RepOL K Z' F' H' vs os A
  | _, _, _, .nil, _ => .nil
  | _, _, _, .cons h r, k => .cons (RepO.mono e f h fun a m => k a (List.mem_append_left _ m)) (RepOL.mono e f r fun a m => k a (List.mem_append_right _ m))
end
mutual
theorem RepO.there : ∀ {v : V} {o : O} {A : List Addr}, RepO K Z F H v o A → ∀ a ∈ A, ∃ u, H a = some u
  | _, _, _, .fz _, _, m => nomatch m
  | _, _, _, .vw _ _, _, m => nomatch m
  | _, _, _, .vwa _ _, _, m => nomatch m
  | _, _, _, .lk _, _, m => nomatch m
  | _, _, _, .lst h r, a, m => (List.mem_cons.mp m).elim (fun e => ⟨_, e ▸ h⟩) fun m => RepOL.there r a m
  | _, _, _, .tup h r, a, m => (List.mem_cons.mp m).elim (fun e => ⟨_, e ▸ h⟩) fun m => RepOL.there r a m
  | _, _, _, .ins h r, a, m => (List.mem_cons.mp m).elim (fun e => ⟨_, e ▸ h⟩) fun m => RepOL.there r a m
  | _, _, _, .loc h, a, m => RepO.there h a m
  | _, _, _, .pt, _, m => nomatch m
  | _, _, _, .at h r, a, m => (List.mem_cons.mp m).elim (fun e => ⟨_, e ▸ h⟩) fun m => RepOL.there r a m
  | _, _, _, .dct h r, a, m => (List.mem_cons.mp m).elim (fun e => ⟨_, e ▸ h⟩) fun m => RepOL.there r a m
  | _, _, _, .dctT h r, a, m => (List.mem_cons.mp m).elim (fun e => ⟨_, e ▸ h⟩) fun m => RepOL.there r a m
theorem RepOL.there : ∀ {vs : List V} {os : List O} {A : List Addr}, RepOL K Z F H vs os A → ∀ a ∈ A, ∃ u, H a = some u
  | _, _, _, .nil, _, m => nomatch m
  | _, _, _, .cons h r, a, m => (List.mem_append.mp m).elim (fun m => RepO.there h a m) fun m => RepOL.there r a m
end
theorem RepO.ex {v : V} {o : O} {A : List Addr} (e : Ex Z Z') (g : Ex H H') (r : RepO K Z F H v o A) : RepO K Z' F H' v o A := r.mono e (Ex.refl _) fun a _ u h => g a u h
theorem RepO.frame {v : V} {o : O} {A : List Addr} (r : RepO K Z F H v o A) (k : ∀ a ∈ A, H' a = H a) : RepO K Z F H' v o A := r.mono (Ex.refl _) (Ex.refl _) fun a m u h => (k a m).trans h
mutual
theorem RepO.toK (f : Ex F H) : ∀ {v : V} {o : O} {A : List Addr}, RepO K Z F H v o A → RepK K Z H v o
  | _, _, _, .fz h => .fz h
  | _, _, _, .vw h r => .vw (ex_l f h) r
  | _, _, _, .vwa h r => .vwa (ex_l f h) r
  | _, _, _, .lk h => .lk (h.mono (Ex.refl _) f)
  | _, _, _, .lst h r => .lst h (RepOL.toK f r)
  | _, _, _, .tup h r => .tup h (RepOL.toK f r)
  | _, _, _, .ins h r => .ins h (RepOL.toK f r)
  | _, .loc _ o, _, .loc h => .loc (RepO.toK (o := o) f h)
  | _, _, _, .pt => .pt
  | _, _, _, .at h r => .at h (RepOL.toK f r)
  | _, _, _, .dct h r => .dct h (RepOL.toK f r)
  | _, _, _, .dctT h r => .dctT h (RepOL.toK f r)
theorem RepOL.toK (f : Ex F H) : ∀ {vs : List V} {os : List O} {A : List Addr}, RepOL K Z F H vs os A → RepKL K Z H vs os
  | _, _, _, .nil => .nil
  | _, _, _, .cons h r => .cons (RepO.toK f h) (RepOL.toK f r)
end
mutual
theorem RepK.toO (f : Ex F H) : ∀ {v : V} {o : O}, RepK K Z F v o → ∃ A, RepO K Z F H v o A
  | _, _, .fz h => ⟨_, .fz h⟩
  | _, _, .vw h r => ⟨_, .vw h r⟩
  | _, _, .vwa h r => ⟨_, .vwa h r⟩
  | _, _, .lst h r => let ⟨_, q⟩ := RepKL.toO f r; ⟨_, .lst (f _ _ h) q⟩
  | _, _, .tup h r => let ⟨_, q⟩ := RepKL.toO f r; ⟨_, .tup (f _ _ h) q⟩
  | _, _, .ins h r => let ⟨_, q⟩ := RepKL.toO f r; ⟨_, .ins (f _ _ h) q⟩
  | _, _, .at h r => let ⟨_, q⟩ := RepKL.toO f r; ⟨_, .at (f _ _ h) q⟩
  | _, _, .dct h r => let ⟨_, q⟩ := RepKL.toO f r; ⟨_, .dct (f _ _ h) q⟩
  | _, _, .dctT h r => let ⟨_, q⟩ := RepKL.toO f r; ⟨_, .dctT (f _ _ h) q⟩
  | _, .loc _ o, .loc h => let ⟨_, q⟩ := RepK.toO (o := o) f h; ⟨_, .loc q⟩
  | _, _, .pt => ⟨_, .pt⟩
  | _, .lk o, .lk h => ⟨_, .lk h⟩
theorem RepKL.toO (f : Ex F H) : ∀ {vs : List V} {os : List O}, RepKL K Z F vs os → ∃ A, RepOL K Z F H vs os A
  | _, _, .nil => ⟨_, .nil⟩
  | _, _, .cons h r => let ⟨_, p⟩ := RepK.toO f h; let ⟨_, q⟩ := RepKL.toO f r; ⟨_, .cons p q⟩
end
theorem RepKL.length : ∀ {vs : List V} {os : List O}, RepKL K Z F vs os → vs.length = os.length
  | _, _, .nil => rfl
  | _, _, .cons _ r => congrArg (· + 1) r.length
theorem RepKL.get : ∀ {vs : List V} {os : List O} {i : Nat} {o : O}, RepKL K Z F vs os → os[i]? = some o → ∃ v, vs[i]? = some v ∧ RepK K Z F v o
  | _, _, _, _, .nil, e => by simp at e
  | _, _, 0, _, .cons h _, e => by
    simp at e
    subst e
    exact ⟨_, rfl, h⟩
  | _, _, i + 1, o, .cons _ r, e => by
    obtain ⟨v, h1, h2⟩ := RepKL.get (i := i) (o := o) r (by simpa using e)
    exact ⟨v, by simpa using h1, h2⟩
theorem RepKL.fzs : ∀ {ds : List D} {vs : List V}, RepKL K Z F vs (ds.map .fz) → RepL K Z vs ds
  | [], _, .nil => .nil
  | _ :: _, _, .cons (.fz h) r => .cons h r.fzs
theorem RepL.length : ∀ {vs : List V} {ds : List D}, RepL K Z vs ds → vs.length = ds.length
  | _, _, .nil => rfl
  | _, _, .cons _ r => congrArg (· + 1) r.length
theorem RepL.get : ∀ {vs : List V} {ds : List D} {i : Nat} {d : D}, RepL K Z vs ds → ds[i]? = some d → ∃ v, vs[i]? = some v ∧ Rep K Z v d
  | _, _, _, _, .nil, e => by simp at e
  | _, _, 0, _, .cons h _, e => by
    simp at e
    subst e
    exact ⟨_, rfl, h⟩
  | _, _, i + 1, d, .cons _ r, e => by
    obtain ⟨v, h1, h2⟩ := RepL.get (i := i) (d := d) r (by simpa using e)
    exact ⟨v, by simpa using h1, h2⟩
theorem RepL.append : ∀ {vs ws : List V} {ds es : List D}, RepL K Z vs ds → RepL K Z ws es → RepL K Z (vs ++ ws) (ds ++ es)
  | _, _, _, _, .nil, s => s
  | _, _, _, _, .cons h r, s => .cons h (r.append s)
theorem RepL.set {v : V} {d : D} (h : Rep K Z v d) : ∀ {vs : List V} {ds : List D} (i : Nat), RepL K Z vs ds → RepL K Z (vs.set i v) (ds.set i d)
  | _, _, _, .nil => .nil
  | _, _, 0, .cons _ r => .cons h r
  | _, _, i + 1, .cons g r => .cons g (RepL.set h i r)
theorem RepL.take : ∀ {vs : List V} {ds : List D} (n : Nat), RepL K Z vs ds → RepL K Z (vs.take n) (ds.take n)
  | _, _, 0, _ => .nil
  | _, _, _ + 1, .nil => .nil
  | _, _, n + 1, .cons h r => .cons h (RepL.take n r)
theorem RepL.drop : ∀ {vs : List V} {ds : List D} (n : Nat), RepL K Z vs ds → RepL K Z (vs.drop n) (ds.drop n)
  | _, _, 0, r => r
  | _, _, _ + 1, .nil => .nil
  | _, _, n + 1, .cons _ r => RepL.drop n r
/-- a list of frozen things -/
theorem RepOL.fzs : ∀ {ds : List D} {vs : List V} {A : List Addr}, RepOL K Z F H vs (ds.map .fz) A → A = [] ∧ RepL K Z vs ds
  | [], _, _, .nil => ⟨rfl, .nil⟩
  | _ :: _, _, _, .cons (.fz h) r => by
    obtain ⟨e, q⟩ := RepOL.fzs r
    exact ⟨by rw [e]; rfl, .cons h q⟩
theorem RepL.own : ∀ {vs : List V} {ds : List D}, RepL K Z vs ds → RepOL K Z F H vs (ds.map .fz) []
  | _, _, .nil => .nil
  | _, _, .cons h r => .cons (A := []) (B := []) (.fz h) r.own
theorem RepL.ints : ∀ {ns : List Int} {vs : List V}, RepL K Z vs (ns.map .int) → vs = ns.map V.int
  | [], _, .nil => rfl
  | _ :: _, _, .cons (.int _) r => by rw [r.ints]; rfl
theorem RepL.ofInts : ∀ {ns : List Int}, RepL K Z (ns.map V.int) (ns.map .int)
  | [] => .nil
  | n :: r => .cons (.int n) (RepL.ofInts (ns := r))
end

mutual
def O.frz : O → D
  | .fz d => d
  | .vw ds => .lst ds
  | .vwa _ ds => .lst ds
  | .lk o => o.frz
  | .lst os => .lst (O.frzL os)
  | .tup os => .tup (O.frzL os)
  | .ins C ns os => .ins C ns (O.frzL os)
  | .at _ C ns os => .ins C ns (O.frzL os)
  | .loc _ o => o.frz
  | .pt a => .opq a
  | .rs _ => .non
  | .dct ks os => .dct ks (O.frzL os)
  | .dctT ks os => .dctT ks (O.frzL os)
def O.frzL : List O → List D
  | [] => []
  | o :: r => o.frz :: O.frzL r
end
mutual
def O.nv : O → Bool
  | .fz _ => true
  | .vw _ => false
  | .vwa _ _ => false
  | .lk _ => false
  | .lst os => O.nvL os
  | .tup os => O.nvL os
  | .ins _ _ os => O.nvL os
  | .at _ _ _ os => O.nvL os
  | .loc _ o => o.nv
  | .pt _ => true
  | .rs _ => false
  | .dct _ os => O.nvL os
  | .dctT _ os => O.nvL os
def O.nvL : List O → Bool
  | [] => true
  | o :: r => o.nv && O.nvL r
end
theorem O.frzL_fz : ∀ ds : List D, O.frzL (ds.map .fz) = ds
  | [] => rfl
  | d :: r => by
    show O.frz (.fz d) :: O.frzL (r.map .fz) = d :: r
    rw [O.frzL_fz r]
    rfl
theorem O.nvL_fz : ∀ ds : List D, O.nvL (ds.map .fz) = true
  | [] => rfl
  | d :: r => by
    show (O.nv (.fz d) && O.nvL (r.map .fz)) = true
    rw [O.nvL_fz r]
    rfl
section
variable {K : PySem.W.Frag} {Z Z' F H : Hp}
mutual
theorem RepO.frz (e : Ex Z Z') : ∀ {v : V} {o : O} {A : List Addr}, RepO K Z F H v o A → (∀ a ∈ A, Z' a = H a) → o.nv = true → Rep K Z' v o.frz
  | _, _, _, .fz h, _, _ => h.mono e
  | _, _, _, .vw _ _, _, n => nomatch n
  | _, _, _, .vwa _ _, _, n => nomatch n
  | _, _, _, .lk _, _, n => nomatch n
  | _, _, _, .lst h r, k, n => .lst (SqL.of ((k _ List.mem_cons_self).trans h)) (RepOL.frz e r (fun a m => k a (List.mem_cons_of_mem _ m)) n)
  | _, _, _, .tup h r, k, n => .tup (SqT.of ((k _ List.mem_cons_self).trans h)) (RepOL.frz e r (fun a m => k a (List.mem_cons_of_mem _ m)) n)
  | _, _, _, .ins h r, k, n => .ins ((k _ List.mem_cons_self).trans h) (RepOL.frz e r (fun a m => k a (List.mem_cons_of_mem _ m)) n)
  | _, .loc _ o, _, .loc h, k, n => by
    have h : RepO K Z F H _ o _ := h
    exact (show Rep K Z' _ o.frz from RepO.frz (o := o) e h k n)
  | _, _, _, .pt, _, _ => .opq _
  | _, _, _, .at h r, k, n => .ins ((k _ List.mem_cons_self).trans h) (RepOL.frz e r (fun a m => k a (List.mem_cons_of_mem _ m)) n)
  | _, _, _, .dct h r, k, n => .dct ((k _ List.mem_cons_self).trans h) (RepOL.frz e r (fun a m => k a (List.mem_cons_of_mem _ m)) n)
  | _, _, _, .dctT h r, k, n => .dctT ((k _ List.mem_cons_self).trans h) (RepOL.frz e r (fun a m => k a (List.mem_cons_of_mem _ m)) n)
theorem RepOL.frz (e : Ex Z Z') : ∀ {vs : List V} {os : List O} {A : List Addr}, RepOL K Z F H vs os A → (∀ a ∈ A, Z' a = H a) → O.nvL os = true → RepL K Z' vs (O.frzL os)
  | _, _, _, .nil, _, _ => .nil
  | _, _, _, .cons h r, k, n => .cons (RepO.frz e h (fun a m => k a (List.mem_append_left _ m)) (Bool.and_eq_true_iff.mp n).1) (RepOL.frz e r (fun a m => k a (List.mem_append_right _ m)) (Bool.and_eq_true_iff.mp n).2)
end
end
/-- Z and the cells at A -/
def frzAt (Z H : Hp) (A : List Addr) : Hp := fun a => if a ∈ A then H a else Z a
theorem frzAt_in {Z H : Hp} {A : List Addr} {a : Addr} (h : a ∈ A) : frzAt Z H A a = H a := if_pos h
theorem frzAt_out {Z H : Hp} {A : List Addr} {a : Addr} (h : a ∉ A) : frzAt Z H A a = Z a := if_neg h
theorem ex_frzAt {Z H : Hp} {A : List Addr} (e : Ex Z H) : Ex Z (frzAt Z H A) := fun a u h => by
  by_cases m : a ∈ A
  · rw [frzAt_in m]
    exact e a u h
  · rw [frzAt_out m]
    exact h
theorem frzAt_ex {Z H : Hp} {A : List Addr} (e : Ex Z H) : Ex (frzAt Z H A) H := fun a u h => by
  by_cases m : a ∈ A
  · rw [frzAt_in m] at h
    exact h
  · rw [frzAt_out m] at h
    exact e a u h

/-- the heap grows: frozen part Z, all H -/
structure Gr (Z H Z' H' : Hp) : Prop where
  zz : Ex Z Z'
  hh : Ex H H'
  zh : Ex Z' H'
  nw : ∀ a o, H a = some o → Z' a = Z a
theorem Gr.trans {Z H Z1 H1 Z2 H2 : Hp} (a : Gr Z H Z1 H1) (b : Gr Z1 H1 Z2 H2) : Gr Z H Z2 H2 :=
  ⟨a.zz.trans b.zz, a.hh.trans b.hh, b.zh, fun x o h => (b.nw x o (a.hh x o h)).trans (a.nw x o h)⟩
theorem Gr.refl {Z H : Hp} (h : Ex Z H) : Gr Z H Z H := ⟨Ex.refl _, Ex.refl _, h, fun _ _ _ => rfl⟩
/-- a new object that is not frozen -/
theorem Gr.new {Z H : Hp} {p : Addr} {o : HO} (h : Ex Z H) (hp : H p = none) : Gr Z H Z (upd H p o) := ⟨Ex.refl _, Ex.new hp, h.trans (Ex.new hp), fun _ _ _ => rfl⟩
/-- .. frozen at once -/
theorem Gr.newz {Z H : Hp} {p : Addr} {o : HO} (h : Ex Z H) (hp : H p = none) : Gr Z H (upd Z p o) (upd H p o) :=
  ⟨Ex.new (h.free hp), Ex.new hp, fun a u e => by
    by_cases ha : a = p
    · subst ha
      rw [upd_same] at e ⊢
      exact e
    · rw [upd_ne ha] at e ⊢
      exact h a u e, fun a u e => upd_ne (ne_of_none e hp)⟩

abbrev Slots := List (Option O)
inductive StL (K : PySem.W.Frag) (Z F H : Hp) : Slots → L2.St → List Addr → Prop where
  | nil : StL K Z F H [] [] []
  | no {s : Option V} {ρ : Slots} {σ : L2.St} {A : List Addr} : StL K Z F H ρ σ A → StL K Z F H (none :: ρ) (s :: σ) A
  | so {v : V} {o : O} {ρ : Slots} {σ : L2.St} {A B : List Addr} : RepO K Z F H v o A → StL K Z F H ρ σ B → StL K Z F H (some o :: ρ) (some v :: σ) (A ++ B)
structure StR (K : PySem.W.Frag) (ρ : Slots) (Z0 F Z : Hp) (σ : L2.St) (H : Hp) : Prop where
  gr : Gr Z0 F Z H
  st : ∃ A, StL K Z F H ρ σ A ∧ A.Nodup ∧ ∀ a ∈ A, Z a = none ∧ F a = none
section
variable {K : PySem.W.Frag} {Z0 Z Z' F H H' : Hp} {ρ : Slots} {σ : L2.St}
theorem StL.mono (e : Ex Z Z') : ∀ {ρ : Slots} {σ : L2.St} {A : List Addr}, StL K Z F H ρ σ A → (∀ a ∈ A, ∀ u, H a = some u → H' a = some u) → StL K Z' F H' ρ σ A
  | _, _, _, .nil, _ => .nil
  | _, _, _, .no h, k => .no (h.mono e k)
  | _, _, _, .so r h, k => .so (r.mono e (Ex.refl _) fun a m => k a (List.mem_append_left _ m)) (h.mono e fun a m => k a (List.mem_append_right _ m))
theorem StL.there : ∀ {ρ : Slots} {σ : L2.St} {A : List Addr}, StL K Z F H ρ σ A → ∀ a ∈ A, ∃ u, H a = some u
  | _, _, _, .nil, _, m => nomatch m
  | _, _, _, .no h, a, m => h.there a m
  | _, _, _, .so r h, a, m => (List.mem_append.mp m).elim (fun m => r.there a m) fun m => h.there a m
theorem StL.length : ∀ {ρ : Slots} {σ : L2.St} {A : List Addr}, StL K Z F H ρ σ A → σ.length = ρ.length
  | _, _, _, .nil => rfl
  | _, _, _, .no h => congrArg (· + 1) h.length
  | _, _, _, .so _ h => congrArg (· + 1) h.length
theorem StL.get : ∀ {ρ : Slots} {σ : L2.St} {A : List Addr} {i : Nat} {o : O}, StL K Z F H ρ σ A → ρ[i]? = some (some o) → ∃ v B, σ[i]? = some (some v) ∧ RepO K Z F H v o B ∧ ∀ a ∈ B, a ∈ A
  | _, _, _, _, _, .nil, e => by simp at e
  | _, _, _, 0, _, .no h, e => by simp at e
  | _, _, _, i + 1, _, .no h, e => by
    obtain ⟨v, B, h1, h2, h3⟩ := h.get (i := i) (by simpa using e)
    exact ⟨v, B, by simpa using h1, h2, h3⟩
  | _, _, _, 0, _, .so r h, e => by
    simp at e
    subst e
    exact ⟨_, _, rfl, r, fun a m => List.mem_append_left _ m⟩
  | _, _, _, i + 1, _, .so r h, e => by
    obtain ⟨v, B, h1, h2, h3⟩ := h.get (i := i) (by simpa using e)
    exact ⟨v, B, by simpa using h1, h2, fun a m => List.mem_append_right _ (h3 a m)⟩
/-- a slot is stored anew -/
theorem StL.put {v : V} {o : O} {B : List Addr} (r : RepO K Z F H v o B) : ∀ {ρ : Slots} {σ : L2.St} {A : List Addr} {i : Nat}, StL K Z F H ρ σ A → i < ρ.length → A.Nodup → B.Nodup → (∀ a ∈ B, a ∉ A) →
    ∃ A', StL K Z F H (ρ.set i (some o)) (σ.set i (some v)) A' ∧ A'.Nodup ∧ ∀ a ∈ A', a ∈ A ∨ a ∈ B
  | _, _, _, _, .nil, hi, _, _, _ => by simp at hi
  | _, _, _, 0, .no h, _, nA, nB, d => ⟨_, .so r h, by
      refine List.nodup_append.mpr ⟨nB, nA, fun a ha b hb e => ?_⟩
      subst e
      exact d a ha hb, fun a m => (List.mem_append.mp m).symm⟩
  | _, _, _, i + 1, .no h, hi, nA, nB, d => by
    obtain ⟨A', h1, h2, h3⟩ := StL.put r (i := i) h (by simpa using hi) nA nB d
    exact ⟨A', .no h1, h2, h3⟩
  | _, _, _, 0, .so (A := A1) (B := A2) _ h, _, nA, nB, d => ⟨_, .so r h, by
      refine List.nodup_append.mpr ⟨nB, (List.nodup_append.mp nA).2.1, fun a ha b hb e => ?_⟩
      subst e
      exact d a ha (List.mem_append_right _ hb), fun a m => (List.mem_append.mp m).elim .inr fun m => .inl (List.mem_append_right _ m)⟩
  | _, _, _, i + 1, .so (A := A1) (B := A2) q h, hi, nA, nB, d => by
    obtain ⟨n1, n2, n3⟩ := List.nodup_append.mp nA
    obtain ⟨A', h1, h2, h3⟩ := StL.put r (i := i) h (by simpa using hi) n2 nB fun a ha hb => d a ha (List.mem_append_right _ hb)
    refine ⟨_, .so q h1, List.nodup_append.mpr ⟨n1, h2, fun a ha b hb e => ?_⟩, fun a m => ?_⟩
    · subst e
      rcases h3 a hb with z | z
      · exact n3 a ha a z rfl
      · exact d a z (List.mem_append_left _ ha)
    · rcases List.mem_append.mp m with m | m
      · exact .inl (List.mem_append_left _ m)
      · exact (h3 a m).imp (List.mem_append_right _) id
/-- a slot's own thing is changed in place -/
theorem StL.at : ∀ {ρ : Slots} {σ : L2.St} {A : List Addr} {i : Nat} {o : O}, StL K Z F H ρ σ A → ρ[i]? = some (some o) → A.Nodup →
    ∃ v B, σ[i]? = some (some v) ∧ RepO K Z F H v o B ∧ B.Nodup ∧ (∀ a ∈ B, a ∈ A) ∧ ∀ {Z' H' : Hp} {v' : V} {o' : O} {B' : List Addr}, Ex Z Z' → (∀ a ∈ A, a ∉ B → ∀ u, H a = some u → H' a = some u) → RepO K Z' F H' v' o' B' → B'.Nodup → (∀ a ∈ B', a ∈ A → a ∈ B) →
      ∃ A', StL K Z' F H' (ρ.set i (some o')) (σ.set i (some v')) A' ∧ A'.Nodup ∧ ∀ a ∈ A', (a ∈ A ∧ a ∉ B) ∨ a ∈ B'
  | _, _, _, _, _, .nil, e, _ => by simp at e
  | _, _, _, 0, _, .no h, e, _ => by simp at e
  | _, _, _, i + 1, _, .no h, e, nA => by
    obtain ⟨v, B, h1, h2, h3, h4, h5⟩ := StL.at (i := i) h (by simpa using e) nA
    refine ⟨v, B, by simpa using h1, h2, h3, h4, fun ez k r n d => ?_⟩
    obtain ⟨A', q1, q2, q3⟩ := h5 ez k r n d
    exact ⟨A', .no q1, q2, q3⟩
  | _, _, _, 0, _, .so (A := A1) (B := A2) q h, e, nA => by
    simp at e
    subst e
    obtain ⟨n1, n2, n3⟩ := List.nodup_append.mp nA
    refine ⟨_, A1, rfl, q, n1, fun a m => List.mem_append_left _ m, fun ez k r n d => ?_⟩
    refine ⟨_, .so r (h.mono ez fun a m => k a (List.mem_append_right _ m) fun z => n3 a z a m rfl), List.nodup_append.mpr ⟨n, n2, fun a ha b hb e => ?_⟩, fun a m => ?_⟩
    · subst e
      exact n3 a (d a ha (List.mem_append_right _ hb)) a hb rfl
    · rcases List.mem_append.mp m with m | m
      · exact .inr m
      · exact .inl ⟨List.mem_append_right _ m, fun z => n3 a z a m rfl⟩
  | _, _, _, i + 1, _, .so (A := A1) (B := A2) q h, e, nA => by
    obtain ⟨n1, n2, n3⟩ := List.nodup_append.mp nA
    obtain ⟨v, B, h1, h2, h3, h4, h5⟩ := StL.at (i := i) h (by simpa using e) n2
    refine ⟨v, B, by simpa using h1, h2, h3, fun a m => List.mem_append_right _ (h4 a m), fun ez k r n d => ?_⟩
    obtain ⟨A', q1, q2, q3⟩ := h5 ez (fun a m nb => k a (List.mem_append_right _ m) nb) r n fun a m z => d a m (List.mem_append_right _ z)
    refine ⟨_, .so (q.mono ez (Ex.refl _) fun a m => k a (List.mem_append_left _ m) fun z => n3 a m a (h4 a z) rfl) q1, List.nodup_append.mpr ⟨n1, q2, fun a ha b hb e => ?_⟩, fun a m => ?_⟩
    · subst e
      rcases q3 a hb with z | z
      · exact n3 a ha a z.1 rfl
      · exact n3 a ha a (h4 a (d a z (List.mem_append_left _ ha))) rfl
    · rcases List.mem_append.mp m with m | m
      · exact .inl ⟨List.mem_append_left _ m, fun z => n3 a m a (h4 a z) rfl⟩
      · exact (q3 a m).imp (fun z => ⟨List.mem_append_right _ z.1, z.2⟩) id

theorem StR.ex (s : StR K ρ Z0 F Z σ H) : Ex Z H := s.gr.zh
theorem StR.grow (s : StR K ρ Z0 F Z σ H) (g : Gr Z H Z' H') : StR K ρ Z0 F Z' σ H' := by
  obtain ⟨A, h1, h2, h3⟩ := s.st
  refine ⟨s.gr.trans g, A, h1.mono g.zz fun a _ u e => g.hh a u e, h2, fun a m => ⟨?_, (h3 a m).2⟩⟩
  obtain ⟨u, e⟩ := h1.there a m
  rw [g.nw a u e]
  exact (h3 a m).1
theorem StR.len (s : StR K ρ Z0 F Z σ H) : σ.length = ρ.length := let ⟨_, h, _⟩ := s.st; h.length
/-- what is new: not there ahead, not frozen -/
def New (H Z' : Hp) (A : List Addr) : Prop := A.Nodup ∧ ∀ a ∈ A, H a = none ∧ Z' a = none
theorem New.nil {H Z' : Hp} : New H Z' [] := ⟨List.nodup_nil, fun _ m => nomatch m⟩
theorem StR.put {v : V} {o : O} {B : List Addr} {i : Nat} (s : StR K ρ Z0 F Z σ H) (g : Gr Z H Z' H') (r : RepO K Z' F H' v o B) (n : New H Z' B) (hi : i < ρ.length) : StR K (ρ.set i (some o)) Z0 F Z' (σ.set i (some v)) H' := by
  have s' := s.grow g
  obtain ⟨A, h1, h2, h3⟩ := s.st
  have m1 : StL K Z' F H' ρ σ A := h1.mono g.zz fun a _ u e => g.hh a u e
  obtain ⟨A', q1, q2, q3⟩ := StL.put r m1 hi h2 n.1 fun a ha hb => by
    obtain ⟨u, e⟩ := h1.there a hb
    rw [(n.2 a ha).1] at e
    cases e
  refine ⟨s'.gr, A', q1, q2, fun a m => ?_⟩
  rcases q3 a m with z | z
  · obtain ⟨u, e⟩ := h1.there a z
    exact ⟨(g.nw a u e).trans (h3 a z).1, (h3 a z).2⟩
  · exact ⟨(n.2 a z).2, s.gr.hh.free (n.2 a z).1⟩
/-- a slot's own thing is frozen -/
theorem StR.freeze {i : Nat} {o : O} (s : StR K ρ Z0 F Z σ H) (hi : ρ[i]? = some (some o)) (hn : o.nv = true) : ∃ Z', Gr Z0 F Z' H ∧ Ex Z Z' ∧ StR K (ρ.set i (some (.fz o.frz))) Z0 F Z' σ H := by
  obtain ⟨A, h1, h2, h3⟩ := s.st
  obtain ⟨v, B, q1, q2, q3, q4, q5⟩ := h1.at hi h2
  have hr : Rep K (frzAt Z H B) v o.frz := q2.frz (ex_frzAt s.ex) (fun a m => frzAt_in m) hn
  have g : Gr Z0 F (frzAt Z H B) H := ⟨s.gr.zz.trans (ex_frzAt s.ex), s.gr.hh, frzAt_ex s.ex, fun a u e => by
    have nb : a ∉ B := fun m => by
      rw [(h3 a (q4 a m)).2] at e
      cases e
    rw [frzAt_out nb]
    exact s.gr.nw a u e⟩
  obtain ⟨A', r1, r2, r3⟩ := q5 (Z' := frzAt Z H B) (H' := H) (v' := v) (o' := .fz o.frz) (B' := []) (ex_frzAt s.ex) (fun _ _ _ _ e => e) (.fz hr) List.nodup_nil fun _ m => nomatch m
  have eσ : σ.set i (some v) = σ := by
    apply List.ext_getElem?
    intro j
    by_cases hj : i = j
    · subst hj
      rw [List.getElem?_set_self (List.getElem?_eq_some_iff.mp q1).1, q1]
    · rw [List.getElem?_set_ne hj]
  rw [eσ] at r1
  refine ⟨frzAt Z H B, g, ex_frzAt s.ex, g, A', r1, r2, fun a m => ?_⟩
  rcases r3 a m with z | z
  · rw [frzAt_out z.2]
    exact h3 a z.1
  · exact nomatch z
theorem set_same {σ : L2.St} {i : Nat} {v : V} (q : σ[i]? = some (some v)) : σ.set i (some v) = σ := by
  apply List.ext_getElem?
  intro j
  by_cases hj : i = j
  · subst hj
    rw [List.getElem?_set_self (List.getElem?_eq_some_iff.mp q).1, q]
  · rw [List.getElem?_set_ne hj]
/-- a slot's own thing changes -/
theorem StR.upd {i : Nat} {o : O} (s : StR K ρ Z0 F Z σ H) (hi : ρ[i]? = some (some o)) : ∃ v A, σ[i]? = some (some v) ∧ RepO K Z F H v o A ∧ A.Nodup ∧ (∀ a ∈ A, Z a = none ∧ F a = none) ∧
    ∀ {Z' H' : Hp} {o' : O} {A' : List Addr}, Ex Z Z' → (∀ a u, H a = some u → Z' a = Z a) → Ex Z' H' → (∀ a, a ∉ A → ∀ u, H a = some u → H' a = some u) → RepO K Z' F H' v o' A' → A'.Nodup → (∀ a ∈ A', a ∈ A ∨ (H a = none ∧ Z' a = none)) →
      StR K (ρ.set i (some o')) Z0 F Z' σ H' := by
  obtain ⟨A, h1, h2, h3⟩ := s.st
  obtain ⟨v, B, q1, q2, q3, q4, q5⟩ := h1.at hi h2
  refine ⟨v, B, q1, q2, q3, fun a m => h3 a (q4 a m), fun {Z' H' o' A'} ez nz zh k r n d => ?_⟩
  obtain ⟨A2, r1, r2, r3⟩ := q5 (v' := v) ez (fun a _ nb u e => k a nb u e) r n fun a m ma => by
    rcases d a m with z | z
    · exact z
    · obtain ⟨u, e⟩ := h1.there a ma
      rw [z.1] at e
      cases e
  rw [set_same q1] at r1
  have hF : ∀ a u, F a = some u → a ∉ B := fun a u e m => by
    rw [(h3 a (q4 a m)).2] at e
    cases e
  refine ⟨⟨s.gr.zz.trans ez, fun a u e => k a (hF a u e) u (s.gr.hh a u e), zh, fun a u e => (nz a u (s.gr.hh a u e)).trans (s.gr.nw a u e)⟩, A2, r1, r2, fun a m => ?_⟩
  have old : ∀ a ∈ A, Z' a = none ∧ F a = none := fun a m => by
    obtain ⟨u, e⟩ := h1.there a m
    exact ⟨(nz a u e).trans (h3 a m).1, (h3 a m).2⟩
  rcases r3 a m with z | z
  · exact old a z.1
  · rcases d a z with y | y
    · exact old a (q4 a y)
    · exact ⟨y.2, s.gr.hh.free y.1⟩
/-- slots are forgotten -/
inductive Le : Slots → Slots → Prop where
  | nil : Le [] []
  | no {x : Option O} {ρ τ : Slots} : Le ρ τ → Le (x :: ρ) (none :: τ)
  | eq {x : Option O} {ρ τ : Slots} : Le ρ τ → Le (x :: ρ) (x :: τ)
theorem Le.refl : ∀ ρ : Slots, Le ρ ρ
  | [] => .nil
  | _ :: r => .eq (Le.refl r)
theorem StL.le : ∀ {ρ τ : Slots} {σ : L2.St} {A : List Addr}, Le ρ τ → StL K Z F H ρ σ A → A.Nodup → ∃ A', StL K Z F H τ σ A' ∧ A'.Nodup ∧ ∀ a ∈ A', a ∈ A
  | _, _, _, _, .nil, .nil, n => ⟨_, .nil, n, fun _ m => m⟩
  | _, _, _, _, .no l, .no h, n => by
    obtain ⟨A', q1, q2, q3⟩ := StL.le l h n
    exact ⟨A', .no q1, q2, q3⟩
  | _, _, _, _, .no l, .so _ h, n => by
    obtain ⟨A', q1, q2, q3⟩ := StL.le l h (List.nodup_append.mp n).2.1
    exact ⟨A', .no q1, q2, fun a m => List.mem_append_right _ (q3 a m)⟩
  | _, _, _, _, .eq l, .no h, n => by
    obtain ⟨A', q1, q2, q3⟩ := StL.le l h n
    exact ⟨A', .no q1, q2, q3⟩
  | _, _, _, _, .eq l, .so r h, n => by
    obtain ⟨n1, n2, n3⟩ := List.nodup_append.mp n
    obtain ⟨A', q1, q2, q3⟩ := StL.le l h n2
    refine ⟨_, .so r q1, List.nodup_append.mpr ⟨n1, q2, fun a ha b hb => n3 a ha b (q3 b hb)⟩, fun a m => ?_⟩
    rcases List.mem_append.mp m with m | m
    · exact List.mem_append_left _ m
    · exact List.mem_append_right _ (q3 a m)
theorem StR.le {τ : Slots} (s : StR K ρ Z0 F Z σ H) (l : Le ρ τ) : StR K τ Z0 F Z σ H := by
  obtain ⟨A, h1, h2, h3⟩ := s.st
  obtain ⟨A', q1, q2, q3⟩ := h1.le l h2
  exact ⟨s.gr, A', q1, q2, fun a m => h3 a (q3 a m)⟩
end
end M
namespace M
open PySem L2

def wE (X : Cx) (e : Expr) : TE := fun σ H Q => ∀ (pins : List (Addr × Obj)) (s : Shared), Inv X pins σ H s → wpAny (model X.prog X.w) X.A (eval e X.env) (EP X pins σ Q) X.xe s
def wT (X : Cx) (e : Expr) : TT := fun σ H Q => ∀ (pins : List (Addr × Obj)) (s : Shared), Inv X pins σ H s → wpAny (model X.prog X.w) X.A (isTrue e X.env (eval e X.env)) (TP X pins σ Q) X.xe s
def wA (X : Cx) (es : List Expr) : TA := fun σ H Q => ∀ (pos : Pos) (pins : List (Addr × Obj)) (s : Shared), Inv X pins σ H s → wpAny (model X.prog X.w) X.A (spliced (backTo pos (starEach es X.env))) (AP X pins σ Q) X.xe s
def wS1 (X : Cx) (st : Stmt) : TS := fun D σ H => ∀ (pins : List (Addr × Obj)) (s : Shared), Inv X pins σ H s → wpAny (model X.prog X.w) X.A (exec st X.env) (SP X pins D) X.xe s
def wS (X : Cx) (st : List Stmt) : TS := fun D σ H => ∀ (pins : List (Addr × Obj)) (s : Shared), Inv X pins σ H s → wpAny (model X.prog X.w) X.A (execs st X.env) (SP X pins D) X.xe s
section
variable {X : Cx} {e : Expr} {es : List Expr} {st : Stmt} {sts : List Stmt}
theorem pe_w : PE X e (wE X e) := ⟨fun pins s _ _ _ I h => h pins s I⟩
theorem pt_w : PT X e (wT X e) := ⟨fun pins s _ _ _ I h => h pins s I⟩
theorem pa_w : PA X es (wA X es) := ⟨fun pos pins s _ _ _ I h => h pos pins s I⟩
theorem ps_w : PS X st (wS1 X st) := ⟨fun pins s _ _ _ I h => h pins s I⟩
theorem pss_w : PSs X sts (wS X sts) := ⟨fun pins s _ _ _ I h => h pins s I⟩
theorem PE_w {t : TE} (p : PE X e t) {σ : L2.St} {H : Hp} {Q : VK} (h : t σ H Q) : wE X e σ H Q := fun pins s I => p.run pins s σ H Q I h
theorem PT_w {t : TT} (p : PT X e t) {σ : L2.St} {H : Hp} {Q : Bool → Hp → Prop} (h : t σ H Q) : wT X e σ H Q := fun pins s I => p.run pins s σ H Q I h
theorem PA_w {t : TA} (p : PA X es t) {σ : L2.St} {H : Hp} {Q : List V → Hp → Prop} (h : t σ H Q) : wA X es σ H Q := fun pos pins s I => p.run pos pins s σ H Q I h
theorem PS_w {t : TS} (p : PS X st t) {σ : L2.St} {H : Hp} {D : Ends} (h : t D σ H) : wS1 X st D σ H := fun pins s I => p.run pins s σ H D I h
theorem PSs_w {t : TS} (p : PSs X sts t) {σ : L2.St} {H : Hp} {D : Ends} (h : t D σ H) : wS X sts D σ H := fun pins s I => p.run pins s σ H D I h
end

/-- a new thing (or a frozen one) -/
structure ME (X : Cx) (ρ : Slots) (e : Expr) (o : O) : Prop where
  run : ∀ (Z0 F Z : Hp) (σ : L2.St) (H : Hp), StR X.K ρ Z0 F Z σ H → ∀ Q : VK,
  (∀ v Z' H' A, Gr Z H Z' H' → RepO X.K Z' F H' v o A → New H Z' A → Q v H') → wE X e σ H Q
/-- a thing that is looked at -/
structure MV (X : Cx) (ρ : Slots) (e : Expr) (o : O) : Prop where
  run : ∀ (Z0 F Z : Hp) (σ : L2.St) (H : Hp), StR X.K ρ Z0 F Z σ H → ∀ Q : VK,
  (∀ v Z' H' A, Gr Z H Z' H' → RepO X.K Z' F H' v o A → Q v H') → wE X e σ H Q
/-- a list that is looked at -/
structure ML (X : Cx) (ρ : Slots) (e : Expr) (ds : List D) : Prop where
  run : ∀ (Z0 F Z : Hp) (σ : L2.St) (H : Hp), StR X.K ρ Z0 F Z σ H → ∀ Q : VK,
  (∀ a vs Z' H', Gr Z H Z' H' → SqL X.K H' a vs → RepL X.K Z' vs ds → Q (.ref a) H') → wE X e σ H Q
/-- a tuple that is looked at -/
structure MU (X : Cx) (ρ : Slots) (e : Expr) (ds : List D) : Prop where
  run : ∀ (Z0 F Z : Hp) (σ : L2.St) (H : Hp), StR X.K ρ Z0 F Z σ H → ∀ Q : VK,
  (∀ a vs Z' H', Gr Z H Z' H' → SqT X.K H' a vs → RepL X.K Z' vs ds → Q (.ref a) H') → wE X e σ H Q
structure MT (X : Cx) (ρ : Slots) (e : Expr) (b : Bool) : Prop where
  run : ∀ (Z0 F Z : Hp) (σ : L2.St) (H : Hp), StR X.K ρ Z0 F Z σ H → ∀ Q : Bool → Hp → Prop,
  (∀ Z' H', Gr Z H Z' H' → Q b H') → wT X e σ H Q
/-- arguments: frozen things, lists that are looked at -/
structure MA (X : Cx) (ρ : Slots) (es : List Expr) (os : List O) : Prop where
  run : ∀ (Z0 F Z : Hp) (σ : L2.St) (H : Hp), StR X.K ρ Z0 F Z σ H → ∀ Q : List V → Hp → Prop,
  (∀ vs Z' H', Gr Z H Z' H' → RepOL X.K Z' H' H' vs os [] → Q vs H') → wA X es σ H Q
/-- what is handed back: own slots may go with it -/
structure MR (X : Cx) (ρ : Slots) (e : Expr) (o : O) : Prop where
  run : ∀ (Z0 F Z : Hp) (σ : L2.St) (H : Hp), StR X.K ρ Z0 F Z σ H → ∀ Q : VK,
  (∀ v Z' H' A, Gr Z H Z' H' → RepO X.K Z' F H' v o A → A.Nodup → (∀ a ∈ A, Z' a = none ∧ F a = none) → Q v H') → wE X e σ H Q

structure Go where
  nx : Slots → Prop := fun _ => False
  rt : O → Prop := fun _ => False
  bk : Slots → Prop := fun _ => False
  ct : Slots → Prop := fun _ => False
  rs : O → Slots → Prop := fun _ _ => False
/-- the error e is taken -/
def Thrown (K : PySem.W.Frag) (W : WX) (e : Er) (Z : Hp) (σ : L2.St) (H : Hp) : Prop := match e.fld with
  | none => W (.ref e.C) none σ H
  | some (f, d) => ∀ (a : Addr) (v : V), H a = none → Rep K Z v d → W (.ref e.C) (some a) σ (upd H a (.xd [(f, v)]))
/-- the errors r are taken -/
def GX (X : Cx) (Z0 F : Hp) (r : O → Prop) : Prop := ∃ W : WX, Takes X W ∧ ∀ (e : Er) (ρ : Slots) (Z : Hp) (σ : L2.St) (H : Hp), r (.rs e) → StR X.K ρ Z0 F Z σ H → Thrown X.K W e Z σ H
theorem GX.never {X : Cx} {Z0 F : Hp} {r : O → Prop} (n : ∀ e, ¬ r (.rs e)) : GX X Z0 F r := ⟨fun _ _ _ _ => False, fun _ _ ⟨_, _, _, _, _, _, _, _, _, _, _, _, _, _, _, _, w⟩ => w.elim, fun e _ _ _ _ k _ => (n e k).elim⟩
theorem GX.imp {X : Cx} {Z0 F : Hp} {r r' : O → Prop} (g : GX X Z0 F r) (h : ∀ o, r' o → r o) : GX X Z0 F r' := by
  obtain ⟨W, t, k⟩ := g
  exact ⟨W, t, fun e ρ Z σ H q s => k e ρ Z σ H (h _ q) s⟩
structure GD (X : Cx) (Z0 F : Hp) (G : Go) (D : Ends) : Prop where
  nx : ∀ ρ Z σ H, G.nx ρ → StR X.K ρ Z0 F Z σ H → D.nx σ H
  bk : ∀ ρ Z σ H, G.bk ρ → StR X.K ρ Z0 F Z σ H → D.bk σ H
  ct : ∀ ρ Z σ H, G.ct ρ → StR X.K ρ Z0 F Z σ H → D.ct σ H
  rt : ∀ o v Z H A, G.rt o → Gr Z0 F Z H → RepO X.K Z F H v o A → New F Z A → D.rt v H
  rs : ∀ o ρ v Z σ H, G.rs o ρ → StR X.K (ρ ++ [some o]) Z0 F Z (σ ++ [some v]) H → D.rt v H
  ex : GX X Z0 F G.rt
structure MS1 (X : Cx) (ρ : Slots) (st : Stmt) (G : Go) : Prop where
  run : ∀ (Z0 F Z : Hp) (σ : L2.St) (H : Hp) (D : Ends), StR X.K ρ Z0 F Z σ H → GD X Z0 F G D → wS1 X st D σ H
structure MS (X : Cx) (ρ : Slots) (sts : List Stmt) (G : Go) : Prop where
  run : ∀ (Z0 F Z : Hp) (σ : L2.St) (H : Hp) (D : Ends), StR X.K ρ Z0 F Z σ H → GD X Z0 F G D → wS X sts D σ H
/-- then the rest -/
def Go.th (G : Go) (X : Cx) (sts : List Stmt) : Go := { G with nx := fun ρ => MS X ρ sts G }

section
variable {X : Cx} {ρ : Slots} {e : Expr} {es : List Expr} {st : Stmt} {sts : List Stmt} {G : Go} {o : O} {d : D} {ds : List D} {pos : Pos}
theorem ms_nil (h : G.nx ρ) : MS X ρ [] G := .mk fun Z0 F Z σ H D s g => PSs_w pss_nil (g.nx ρ Z σ H h s)
theorem ms_cons (h : MS1 X ρ st (G.th X sts)) : MS X ρ (st :: sts) G := .mk fun Z0 F Z σ H D s g =>
  PSs_w (pss_cons ps_w pss_w) (h.run Z0 F Z σ H _ s ⟨fun ρ' Z' σ' H' m s' => m.run Z0 F Z' σ' H' D s' g, g.bk, g.ct, g.rt, g.rs, g.ex⟩)
theorem ms_one (h : MS1 X ρ st G) : MS X ρ [st] G := .mk fun Z0 F Z σ H D s g => PSs_w (pss_one ps_w) (h.run Z0 F Z σ H _ s g)

theorem ME.v (h : ME X ρ e o) : MV X ρ e o := .mk fun Z0 F Z σ H s Q q => h.run Z0 F Z σ H s Q fun v Z' H' A g r _ => q v Z' H' A g r
theorem MV.em (h : MV X ρ e (.fz d)) : ME X ρ e (.fz d) := .mk fun Z0 F Z σ H s Q q => h.run Z0 F Z σ H s Q fun v Z' H' A g r => by
  cases r with
  | fz r => exact q v Z' H' [] g (.fz r) .nil
theorem ME.r (h : ME X ρ e o) : MR X ρ e o := .mk fun Z0 F Z σ H s Q q => h.run Z0 F Z σ H s Q fun v Z' H' A g r n => q v Z' H' A g r n.1 fun a m => ⟨(n.2 a m).2, s.gr.hh.free (n.2 a m).1⟩
/-- the lists that can be looked at -/
inductive IsLst : O → List D → Prop where
  | fz (ds : List D) : IsLst (.fz (.lst ds)) ds
  | vw (ds : List D) : IsLst (.vw ds) ds
  | vwa (a : Addr) (ds : List D) : IsLst (.vwa a ds) ds
  | own (ds : List D) : IsLst (.lst (ds.map .fz)) ds
inductive IsTp : O → List D → Prop where
  | fz (ds : List D) : IsTp (.fz (.tup ds)) ds
  | own (ds : List D) : IsTp (.tup (ds.map .fz)) ds
theorem MV.l (h : MV X ρ e o) (i : IsLst o ds) : ML X ρ e ds := .mk fun Z0 F Z σ H s Q q => h.run Z0 F Z σ H s Q fun v Z' H' A g r => by
  cases i with
  | fz ds =>
    cases r with
    | fz r =>
      cases r with
      | lst a b => exact q _ _ Z' H' g (ex_l g.zh a) b
  | vw ds =>
    cases r with
    | vw a b => exact q _ _ Z' H' g (ex_l (s.gr.hh.trans g.hh) a) b
  | vwa a ds =>
    cases r with
    | vwa a b => exact q _ _ Z' H' g (ex_l (s.gr.hh.trans g.hh) a) b
  | own ds =>
    cases r with
    | lst a b => exact q _ _ Z' H' g (.of a) (RepOL.fzs b).2
theorem MV.u (h : MV X ρ e o) (i : IsTp o ds) : MU X ρ e ds := .mk fun Z0 F Z σ H s Q q => h.run Z0 F Z σ H s Q fun v Z' H' A g r => by
  cases i with
  | fz ds =>
    cases r with
    | fz r =>
      cases r with
      | tup a b => exact q _ _ Z' H' g (ex_t g.zh a) b
  | own ds =>
    cases r with
    | tup a b => exact q _ _ Z' H' g (.of a) (RepOL.fzs b).2





/-- a new thing is frozen at once -/
theorem ME.frz (h : ME X ρ e o) (n : o.nv = true) : ME X ρ e (.fz o.frz) := .mk fun Z0 F Z σ H s Q q => h.run Z0 F Z σ H s Q fun v Z' H' A g r w => by
  refine q v (frzAt Z' H' A) H' [] ⟨g.zz.trans (ex_frzAt g.zh), g.hh, frzAt_ex g.zh, fun a u e => ?_⟩ (.fz (r.frz (ex_frzAt g.zh) (fun a m => frzAt_in m) n)) .nil
  have na : a ∉ A := fun m => by
    rw [(w.2 a m).1] at e
    cases e
  rw [frzAt_out na]
  exact g.nw a u e
theorem ME.frzl (h : ME X ρ e (.lst (ds.map .fz))) : ME X ρ e (.fz (.lst ds)) := by
  have q := h.frz (O.nvL_fz ds)
  rw [show (O.lst (ds.map .fz)).frz = .lst ds from congrArg D.lst (O.frzL_fz ds)] at q
  exact q
theorem ME.l (h : ME X ρ e (.lst (ds.map .fz))) : ML X ρ e ds := MV.l h.v (.own ds)

theorem mv_var {i : Nat} {x : Str} (p : PE X (.Name x pos) (tVar i)) (h : ρ[i]? = some (some o)) : MV X ρ (.Name x pos) o := .mk fun Z0 F Z σ H s Q q => by
  obtain ⟨A, h1, h2, h3⟩ := s.st
  obtain ⟨v, B, e, r, _⟩ := h1.get h
  exact PE_w p ⟨v, e, q v Z H B (Gr.refl s.ex) r⟩
theorem me_var {i : Nat} {x : Str} (p : PE X (.Name x pos) (tVar i)) (h : ρ[i]? = some (some (.fz d))) : ME X ρ (.Name x pos) (.fz d) := MV.em (mv_var p h)
theorem mr_var {i : Nat} {x : Str} (p : PE X (.Name x pos) (tVar i)) (h : ρ[i]? = some (some o)) : MR X ρ (.Name x pos) o := .mk fun Z0 F Z σ H s Q q => by
  obtain ⟨A, h1, h2, h3⟩ := s.st
  obtain ⟨v, B, e, r, n, m, _⟩ := h1.at h h2
  exact PE_w p ⟨v, e, q v Z H B (Gr.refl s.ex) r n fun a z => h3 a (m a z)⟩
/-- a value that is what it is -/
inductive Sc : D → V → Prop where
  | non : Sc .non .non
  | bl (b : Bool) : Sc (.bl b) (.bl b)
  | int (i : Int) : Sc (.int i) (.int i)
  | str (x : Str) : Sc (.str x) (.str x)
  | ty (n : String) : Sc (.ty n) (.ty n)
  | opq (a : Addr) : Sc (.opq a) (.ref a)
theorem Sc.rep {K : PySem.W.Frag} {Z : Hp} {v : V} (h : Sc d v) : Rep K Z v d := by
  cases h <;> constructor
theorem Sc.eq {K : PySem.W.Frag} {Z : Hp} {v w : V} (h : Sc d v) (r : Rep K Z w d) : w = v := by
  cases h <;> cases r <;> rfl
theorem me_c {v : V} (p : PE X e (tC v)) (h : Sc d v) : ME X ρ e (.fz d) := .mk fun Z0 F Z σ H s Q q => PE_w p (q v Z H [] (Gr.refl s.ex) (.fz h.rep) .nil)
theorem me_int {i : Int} {j : Nat} : ME X ρ (.Constant (.int i) j pos) (.fz (.int i)) := me_c pe_int (.int i)
theorem me_bl {b : Bool} {j : Nat} : ME X ρ (.Constant (.bool b) j pos) (.fz (.bl b)) := me_c pe_bl (.bl b)
theorem me_non {j : Nat} : ME X ρ (.Constant .none j pos) (.fz .non) := me_c pe_non .non
theorem me_str {x : Str} {j : Nat} : ME X ρ (.Constant (.str x) j pos) (.fz (.str x)) := me_c pe_str (.str x)

variable {a b : Expr} {d1 d2 d3 : D} {x y z : V}
theorem me_r2 {r : R2} {t : TE} (p : PE X e (tOp r (wE X a) (wE X b))) (ha : ME X ρ a (.fz d1)) (hb : ME X ρ b (.fz d2)) (s1 : Sc d1 x) (s2 : Sc d2 y) (s3 : Sc d3 z) (h : ∀ H (Q : VK), Q z H → r x y H Q) : ME X ρ e (.fz d3) := .mk fun Z0 F Z σ H s Q q => by
  refine PE_w p (ha.run Z0 F Z σ H s _ fun v Z1 H1 A1 g1 r1 n1 => ?_)
  refine hb.run Z0 F Z1 σ H1 (s.grow g1) _ fun w Z2 H2 A2 g2 r2 n2 => ?_
  cases r1 with
  | fz r1 =>
    cases r2 with
    | fz r2 =>
      rw [s1.eq r1, s2.eq r2]
      exact h H2 Q (q z Z2 H2 [] (g1.trans g2) (.fz s3.rep) .nil)
theorem me_op {op : Operator} {r : R2} (ho : OpR X (binaryOp op) r) (ha : ME X ρ a (.fz d1)) (hb : ME X ρ b (.fz d2)) (s1 : Sc d1 x) (s2 : Sc d2 y) (s3 : Sc d3 z) (h : ∀ H (Q : VK), Q z H → r x y H Q) : ME X ρ (.BinOp a op b pos) (.fz d3) :=
  me_r2 (t := tOp r (wE X a) (wE X b)) (pe_op ho pe_w pe_w) ha hb s1 s2 s3 h
variable {i j : Int}
theorem me_add (ha : ME X ρ a (.fz (.int i))) (hb : ME X ρ b (.fz (.int j))) : ME X ρ (.BinOp a .Add b pos) (.fz (.int (i + j))) := me_op op_add ha hb (.int i) (.int j) (.int _) fun _ _ q => ⟨i, j, rfl, rfl, q⟩
theorem me_sub (ha : ME X ρ a (.fz (.int i))) (hb : ME X ρ b (.fz (.int j))) : ME X ρ (.BinOp a .Sub b pos) (.fz (.int (i - j))) := me_op op_sub ha hb (.int i) (.int j) (.int _) fun _ _ q => ⟨i, j, rfl, rfl, q⟩
theorem me_mul (ha : ME X ρ a (.fz (.int i))) (hb : ME X ρ b (.fz (.int j))) (c : CMul i j := by first | exact Or.inr (by decide) | exact Or.inl (by decide)) : ME X ρ (.BinOp a .Mult b pos) (.fz (.int (i * j))) := me_op op_mul ha hb (.int i) (.int j) (.int _) fun _ _ q => ⟨i, j, rfl, rfl, c, q⟩
theorem me_fdiv (ha : ME X ρ a (.fz (.int i))) (hb : ME X ρ b (.fz (.int j))) (c : CDiv i j := by exact ⟨by decide, by decide⟩) : ME X ρ (.BinOp a .FloorDiv b pos) (.fz (.int (i / j))) := me_op op_fdiv ha hb (.int i) (.int j) (.int _) fun _ _ q => ⟨i, j, rfl, rfl, c, q⟩
theorem me_mod (ha : ME X ρ a (.fz (.int i))) (hb : ME X ρ b (.fz (.int j))) (c : 0 < j := by decide) : ME X ρ (.BinOp a .Mod b pos) (.fz (.int (i % j))) := me_op op_mod ha hb (.int i) (.int j) (.int _) fun _ _ q => ⟨i, j, rfl, rfl, c, q⟩
theorem me_pow (ha : ME X ρ a (.fz (.int i))) (hb : ME X ρ b (.fz (.int j))) (c : CPow i j := by exact ⟨by decide, by decide, by decide⟩) : ME X ρ (.BinOp a .Pow b pos) (.fz (.int (i ^ j.toNat))) := me_op op_pow ha hb (.int i) (.int j) (.int _) fun _ _ q => ⟨i, j, rfl, rfl, c, q⟩
variable {p q : Str}
theorem me_cat (ha : ME X ρ a (.fz (.str p))) (hb : ME X ρ b (.fz (.str q))) (c : p.length + q.length ≤ sizeLine) : ME X ρ (.BinOp a .Add b pos) (.fz (.str (p ++ q))) := me_op op_add_str ha hb (.str p) (.str q) (.str _) fun _ _ k => ⟨p, q, rfl, rfl, c, k⟩
theorem me_neg (ha : ME X ρ a (.fz (.int i))) : ME X ρ (.UnaryOp .USub a pos) (.fz (.int (-i))) := .mk fun Z0 F Z σ H s Q q => by
  refine PE_w (pe_un un_neg pe_w) (ha.run Z0 F Z σ H s _ fun v Z1 H1 A1 g1 r1 n1 => ?_)
  cases r1 with
  | fz r1 =>
    cases r1
    exact ⟨i, rfl, q _ Z1 H1 [] g1 (.fz (.int _)) .nil⟩

theorem me_cmp {op : CmpOp} {r : R2} {k : Bool} (ho : OpR X (compareOp op) r) (ha : ME X ρ a (.fz d1)) (hb : ME X ρ b (.fz d2)) (s1 : Sc d1 x) (s2 : Sc d2 y) (h : ∀ H (Q : VK), Q (.bl k) H → r x y H Q) (hm : behindInMarks op b = false) : ME X ρ (.Compare a [op] [b] pos) (.fz (.bl k)) :=
  me_r2 (t := tOp r (wE X a) (wE X b)) (pe_cmpR ho pe_w pe_w hm) ha hb s1 s2 (.bl k) h
theorem mt_cmp {op : CmpOp} {r : R2} {k : Bool} (ho : OpR X (compareOp op) r) (ha : ME X ρ a (.fz d1)) (hb : ME X ρ b (.fz d2)) (s1 : Sc d1 x) (s2 : Sc d2 y) (h : ∀ H (Q : VK), Q (.bl k) H → r x y H Q) (hm : behindInMarks op b = false) : MT X ρ (.Compare a [op] [b] pos) k := .mk fun Z0 F Z σ H s Q q => by
  refine PT_w (pt_cmpR ho pe_w pe_w hm) (ha.run Z0 F Z σ H s _ fun v Z1 H1 A1 g1 r1 n1 => ?_)
  refine hb.run Z0 F Z1 σ H1 (s.grow g1) _ fun w Z2 H2 A2 g2 r2 n2 => ?_
  cases r1 with
  | fz r1 =>
    cases r2 with
    | fz r2 =>
      rw [s1.eq r1, s2.eq r2]
      exact h H2 _ ⟨k, rfl, q Z2 H2 (g1.trans g2)⟩
theorem mt_lt (ha : ME X ρ a (.fz (.int i))) (hb : ME X ρ b (.fz (.int j))) : MT X ρ (.Compare a [.Lt] [b] pos) (decide (i < j)) := mt_cmp op_lt ha hb (.int i) (.int j) (fun _ _ k => ⟨i, j, rfl, rfl, k⟩) (nomark _)
theorem mt_le (ha : ME X ρ a (.fz (.int i))) (hb : ME X ρ b (.fz (.int j))) : MT X ρ (.Compare a [.LtE] [b] pos) (decide (i ≤ j)) := mt_cmp op_le ha hb (.int i) (.int j) (fun _ _ k => ⟨i, j, rfl, rfl, k⟩) (nomark _)
theorem me_gt (ha : ME X ρ a (.fz (.int i))) (hb : ME X ρ b (.fz (.int j))) : ME X ρ (.Compare a [.Gt] [b] pos) (.fz (.bl (decide (j < i)))) := me_cmp op_gt ha hb (.int i) (.int j) (fun _ _ k => ⟨i, j, rfl, rfl, k⟩) (nomark _)
theorem mt_gt (ha : ME X ρ a (.fz (.int i))) (hb : ME X ρ b (.fz (.int j))) : MT X ρ (.Compare a [.Gt] [b] pos) (decide (j < i)) := mt_cmp op_gt ha hb (.int i) (.int j) (fun _ _ k => ⟨i, j, rfl, rfl, k⟩) (nomark _)
theorem mt_ge (ha : ME X ρ a (.fz (.int i))) (hb : ME X ρ b (.fz (.int j))) : MT X ρ (.Compare a [.GtE] [b] pos) (decide (j ≤ i)) := mt_cmp op_ge ha hb (.int i) (.int j) (fun _ _ k => ⟨i, j, rfl, rfl, k⟩) (nomark _)
theorem me_eqI (ha : ME X ρ a (.fz (.int i))) (hb : ME X ρ b (.fz (.int j))) : ME X ρ (.Compare a [.Eq] [b] pos) (.fz (.bl (i == j))) := me_cmp op_eq ha hb (.int i) (.int j) (fun _ _ k => ⟨rfl, by rw [dec_int]; exact k⟩) (nomark _)
theorem me_eqS (ha : ME X ρ a (.fz (.str p))) (hb : ME X ρ b (.fz (.str q))) : ME X ρ (.Compare a [.Eq] [b] pos) (.fz (.bl (p == q))) := me_cmp op_eq ha hb (.str p) (.str q) (fun _ _ k => ⟨rfl, by rw [dec_str]; exact k⟩) (nomark _)
theorem mt_eqI (ha : ME X ρ a (.fz (.int i))) (hb : ME X ρ b (.fz (.int j))) : MT X ρ (.Compare a [.Eq] [b] pos) (i == j) := mt_cmp op_eq ha hb (.int i) (.int j) (fun _ _ k => ⟨rfl, by rw [dec_int]; exact k⟩) (nomark _)
theorem mt_neI (ha : ME X ρ a (.fz (.int i))) (hb : ME X ρ b (.fz (.int j))) : MT X ρ (.Compare a [.NotEq] [b] pos) (!(i == j)) := mt_cmp op_ne ha hb (.int i) (.int j) (fun _ _ k => ⟨rfl, by rw [dec_int]; exact k⟩) (nomark _)
theorem mt_eqS (ha : ME X ρ a (.fz (.str p))) (hb : ME X ρ b (.fz (.str q))) : MT X ρ (.Compare a [.Eq] [b] pos) (p == q) := mt_cmp op_eq ha hb (.str p) (.str q) (fun _ _ k => ⟨rfl, by rw [dec_str]; exact k⟩) (nomark _)
def D.isNon : D → Bool
  | .non => true
  | _ => false
def O.isNon : O → Bool
  | .fz d => d.isNon
  | .lk o => o.isNon
  | _ => false
theorem Rep.isNon {K : PySem.W.Frag} {Z : Hp} {v : V} (r : Rep K Z v d) : decide (v = .non) = d.isNon := by
  cases r <;> rfl
theorem RepK.isNon {K : PySem.W.Frag} {Z F : Hp} : ∀ {v : V} {o : O}, RepK K Z F v o → decide (v = .non) = o.isNon
  | _, _, .fz r => r.isNon
  | _, .lk o, .lk r => RepK.isNon (o := o) r
  | _, _, .vw _ _ => rfl
  | _, _, .vwa _ _ => rfl
  | _, _, .lst _ _ => rfl
  | _, _, .tup _ _ => rfl
  | _, _, .ins _ _ => rfl
  | _, _, .at _ _ => rfl
  | _, _, .dct _ _ => rfl
  | _, _, .dctT _ _ => rfl
  | _, _, .loc _ => rfl
  | _, _, .pt => rfl
theorem RepO.isNon {K : PySem.W.Frag} {Z F H : Hp} {v : V} {A : List Addr} (r : RepO K Z F H v o A) : decide (v = .non) = o.isNon := by
  cases r with
  | fz r => exact r.isNon
  | lk r => exact r.isNon
  | _ => rfl
theorem mt_isN {k2 : Nat} {p2 : Pos} (ha : MV X ρ a o) : MT X ρ (.Compare a [.Is] [.Constant .none k2 p2] pos) o.isNon := .mk fun Z0 F Z σ H s Q q => by
  refine PT_w (pt_cmpR op_isN pe_w pe_non (nomark _)) (ha.run Z0 F Z σ H s _ fun v Z1 H1 A1 g1 r1 => ?_)
  exact ⟨rfl, o.isNon, by rw [r1.isNon], q Z1 H1 g1⟩
theorem mt_notN {k2 : Nat} {p2 : Pos} (ha : MV X ρ a o) : MT X ρ (.Compare a [.IsNot] [.Constant .none k2 p2] pos) (!o.isNon) := .mk fun Z0 F Z σ H s Q q => by
  refine PT_w (pt_cmpR op_notN pe_w pe_non (nomark _)) (ha.run Z0 F Z σ H s _ fun v Z1 H1 A1 g1 r1 => ?_)
  exact ⟨rfl, !o.isNon, by rw [r1.isNon], q Z1 H1 g1⟩
/-- a value that is a bool, as a test -/
theorem mt_val {k : Bool} (ha : ME X ρ e (.fz (.bl k))) (he : ∀ whole, isTrue e X.env whole = (do let v ← whole; standAt e.pos; holding [v] (truthy v)) := by intro _; rfl) : MT X ρ e k := .mk fun Z0 F Z σ H s Q q => by
  refine PT_w (pt_val pe_w he) (ha.run Z0 F Z σ H s _ fun v Z1 H1 A1 g1 r1 n1 => ?_)
  cases r1 with
  | fz r1 =>
    cases r1
    exact ⟨k, rfl, q Z1 H1 g1⟩

def wW (X : Cx) (e : Expr) : TT := fun σ H Q => ∀ (whole : Sem Value) (pins : List (Addr × Obj)) (s : Shared), Inv X pins σ H s → wpAny (model X.prog X.w) X.A (isTrue e X.env whole) (TP X pins σ Q) X.xe s
theorem pw_w : PW X e (wW X e) := ⟨fun whole pins s _ _ _ I h => h whole pins s I⟩
theorem PW_w {t : TT} (p : PW X e t) {σ : L2.St} {H : Hp} {Q : Bool → Hp → Prop} (h : t σ H Q) : wW X e σ H Q := fun whole pins s I => p.run whole pins s σ H Q I h
structure MW (X : Cx) (ρ : Slots) (e : Expr) (b : Bool) : Prop where
  run : ∀ (Z0 F Z : Hp) (σ : L2.St) (H : Hp), StR X.K ρ Z0 F Z σ H → ∀ Q : Bool → Hp → Prop,
  (∀ Z' H', Gr Z H Z' H' → Q b H') → wW X e σ H Q
variable {k l : Bool} {rest : List Expr}
theorem MW.t (h : MW X ρ e k) : MT X ρ e k := .mk fun Z0 F Z σ H s Q q => PT_w (PW.pt pw_w) (h.run Z0 F Z σ H s Q q)
theorem mw_and1 (h : MT X ρ a k) : MW X ρ (.BoolOp .And [a] pos) k := .mk fun Z0 F Z σ H s Q q => PW_w (pw_and1 pt_w) (h.run Z0 F Z σ H s Q q)
theorem mw_or1 (h : MT X ρ a k) : MW X ρ (.BoolOp .Or [a] pos) k := .mk fun Z0 F Z σ H s Q q => PW_w (pw_or1 pt_w) (h.run Z0 F Z σ H s Q q)
theorem mw_and (h : MT X ρ a k) (h2 : k = true → MW X ρ (.BoolOp .And (b :: rest) pos) l) : MW X ρ (.BoolOp .And (a :: b :: rest) pos) (k && l) := .mk fun Z0 F Z σ H s Q q =>
  PW_w (pw_and pt_w pw_w) (h.run Z0 F Z σ H s _ fun Z1 H1 g1 => by
    cases k with
    | true => exact (h2 rfl).run Z0 F Z1 σ H1 (s.grow g1) Q fun Z2 H2 g2 => q Z2 H2 (g1.trans g2)
    | false => exact q Z1 H1 g1)
theorem mw_or (h : MT X ρ a k) (h2 : k = false → MW X ρ (.BoolOp .Or (b :: rest) pos) l) : MW X ρ (.BoolOp .Or (a :: b :: rest) pos) (k || l) := .mk fun Z0 F Z σ H s Q q =>
  PW_w (pw_or pt_w pw_w) (h.run Z0 F Z σ H s _ fun Z1 H1 g1 => by
    cases k with
    | true => exact q Z1 H1 g1
    | false => exact (h2 rfl).run Z0 F Z1 σ H1 (s.grow g1) Q fun Z2 H2 g2 => q Z2 H2 (g1.trans g2))
theorem mt_not (h : MT X ρ a k) : MT X ρ (.UnaryOp .Not a pos) (!k) := .mk fun Z0 F Z σ H s Q q => PT_w (pt_not pt_w) (h.run Z0 F Z σ H s _ fun Z1 H1 g1 => q Z1 H1 g1)
theorem me_one {op : BoolOp} (h : ME X ρ a o) : ME X ρ (.BoolOp op [a] pos) o := .mk fun Z0 F Z σ H s Q q => PE_w (pe_one pe_w) (h.run Z0 F Z σ H s Q q)
theorem me_and (h : ME X ρ a (.fz (.bl k))) (h2 : k = true → ME X ρ (.BoolOp .And (b :: rest) pos) (.fz (.bl l))) : ME X ρ (.BoolOp .And (a :: b :: rest) pos) (.fz (.bl (k && l))) := .mk fun Z0 F Z σ H s Q q =>
  PE_w (pe_and pe_w pe_w) (h.run Z0 F Z σ H s _ fun v Z1 H1 A1 g1 r1 n1 => by
    cases r1 with
    | fz r1 =>
      cases r1
      refine ⟨k, rfl, ?_⟩
      cases k with
      | true =>
        refine (h2 rfl).run Z0 F Z1 σ H1 (s.grow g1) Q fun w Z2 H2 A2 g2 r2 n2 => ?_
        cases r2 with
        | fz r2 => exact q w Z2 H2 [] (g1.trans g2) (.fz r2) .nil
      | false => exact q _ Z1 H1 [] g1 (.fz (.bl false)) .nil)
theorem me_not (h : ME X ρ a (.fz (.bl k))) : ME X ρ (.UnaryOp .Not a pos) (.fz (.bl (!k))) := .mk fun Z0 F Z σ H s Q q =>
  PE_w (pe_not pe_w) (h.run Z0 F Z σ H s _ fun v Z1 H1 A1 g1 r1 n1 => by
    cases r1 with
    | fz r1 =>
      cases r1
      exact ⟨k, rfl, q _ Z1 H1 [] g1 (.fz (.bl _)) .nil⟩)
/-- not starred -/
abbrev NS (X : Cx) (e : Expr) : Prop := ∀ es, starEach (e :: es) X.env = (false, eval e X.env) :: starEach es X.env
/-- frozen things -/
structure MF (X : Cx) (ρ : Slots) (es : List Expr) (ds : List D) : Prop where
  run : ∀ (Z0 F Z : Hp) (σ : L2.St) (H : Hp), StR X.K ρ Z0 F Z σ H → ∀ Q : List V → Hp → Prop,
  (∀ vs Z' H', Gr Z H Z' H' → RepL X.K Z' vs ds → Q vs H') → wA X es σ H Q
theorem mf_nil : MF X ρ [] [] := .mk fun Z0 F Z σ H s Q q => PA_w pa_nil (q [] Z H (Gr.refl s.ex) .nil)
theorem mf_cons (h : ME X ρ e (.fz d)) (h2 : MF X ρ es ds) (hs : starEach (e :: es) X.env = (false, eval e X.env) :: starEach es X.env := by rfl) : MF X ρ (e :: es) (d :: ds) := .mk fun Z0 F Z σ H s Q q =>
  PA_w (pa_cons pe_w pa_w hs) (h.run Z0 F Z σ H s _ fun v Z1 H1 A1 g1 r1 n1 => by
    cases r1 with
    | fz r1 => exact h2.run Z0 F Z1 σ H1 (s.grow g1) _ fun vs Z2 H2 g2 r2 => q _ Z2 H2 (g1.trans g2) (.cons (r1.mono g2.zz) r2))
theorem ma_nil : MA X ρ [] [] := .mk fun Z0 F Z σ H s Q q => PA_w pa_nil (q [] Z H (Gr.refl s.ex) .nil)
theorem ma_fz {os : List O} (h : ME X ρ e (.fz d)) (h2 : MA X ρ es os) (hs : starEach (e :: es) X.env = (false, eval e X.env) :: starEach es X.env := by rfl) : MA X ρ (e :: es) (.fz d :: os) := .mk fun Z0 F Z σ H s Q q =>
  PA_w (pa_cons pe_w pa_w hs) (h.run Z0 F Z σ H s _ fun v Z1 H1 A1 g1 r1 n1 => by
    cases r1 with
    | fz r1 => exact h2.run Z0 F Z1 σ H1 (s.grow g1) _ fun vs Z2 H2 g2 r2 => q _ Z2 H2 (g1.trans g2) (.cons (A := []) (B := []) (.fz (r1.mono g2.zz)) r2))
theorem ma_vw {os : List O} (h : ML X ρ e ds) (h2 : MA X ρ es os) (hs : starEach (e :: es) X.env = (false, eval e X.env) :: starEach es X.env := by rfl) : MA X ρ (e :: es) (.vw ds :: os) := .mk fun Z0 F Z σ H s Q q =>
  PA_w (pa_cons pe_w pa_w hs) (h.run Z0 F Z σ H s _ fun a vs Z1 H1 g1 l1 r1 =>
    h2.run Z0 F Z1 σ H1 (s.grow g1) _ fun ws Z2 H2 g2 r2 => q _ Z2 H2 (g1.trans g2) (.cons (A := []) (B := []) (.vw (ex_l g2.hh l1) (r1.mono g2.zz)) r2))
theorem new_one {H Z : Hp} {p : Addr} (h : H p = none) (h2 : Z p = none) : New H Z [p] := ⟨List.nodup_cons.mpr ⟨(fun m => nomatch m), List.nodup_nil⟩, fun a m => by
  cases List.mem_singleton.mp m
  exact ⟨h, h2⟩⟩
theorem me_tup {n : Nat} (h : MF X ρ es ds) (hl : ds.length ≤ 1000 := by first | decide | (simp; done)) : ME X ρ (.Tuple es n pos) (.fz (.tup ds)) := .mk fun Z0 F Z σ H s Q q =>
  PE_w (pe_tup pa_w) (h.run Z0 F Z σ H s _ fun vs Z1 H1 g1 r1 => ⟨(by rw [r1.length]; exact Nat.le_of_lt (small1000 hl)), fun p hp => by
    exact q _ (upd Z1 p (.tup vs)) _ [] (g1.trans (Gr.newz g1.zh hp)) (.fz (.tup (.of upd_same) (r1.mono (Ex.new (g1.zh.free hp))))) .nil⟩)
theorem me_lst (h : MF X ρ es ds) (hl : ds.length ≤ 1000 := by first | decide | (simp; done)) : ME X ρ (.List es pos) (.lst (ds.map .fz)) := .mk fun Z0 F Z σ H s Q q =>
  PE_w (pe_lst pa_w) (h.run Z0 F Z σ H s _ fun vs Z1 H1 g1 r1 => ⟨(by rw [r1.length]; exact Nat.le_of_lt (small1000 hl)), fun p hp => by
    refine q _ Z1 _ [p] (g1.trans (Gr.new g1.zh hp)) (.lst upd_same r1.own) (new_one (g1.hh.free hp) (g1.zh.free hp))⟩)

theorem RepL.atI {K : PySem.W.Frag} {Z : Hp} {vs : List V} {ds : List D} {i : Int} {d : D} (r : RepL K Z vs ds) (h : L2.atI ds i = some d) : ∃ v, L2.atI vs i = some v ∧ Rep K Z v d := by
  unfold L2.atI at h ⊢
  rw [r.length]
  cases e : ixN ds.length i with
  | none =>
    rw [e] at h
    cases h
  | some n =>
    rw [e] at h
    exact r.get h
theorem me_ixL (ha : ML X ρ a ds) (hb : ME X ρ b (.fz (.int i))) (h : L2.atI ds i = some d) (hp : PlainIx b := by exact fun _ _ => rfl) : ME X ρ (.Subscript a b pos) (.fz d) := .mk fun Z0 F Z σ H s Q q =>
  PE_w (pe_ix ix_list pe_w pe_w hp) (ha.run Z0 F Z σ H s _ fun l vs Z1 H1 g1 l1 r1 => hb.run Z0 F Z1 σ H1 (s.grow g1) _ fun w Z2 H2 A2 g2 r2 n2 => by
    cases r2 with
    | fz r2 =>
      cases r2
      obtain ⟨v, e, rv⟩ := (r1.mono g2.zz).atI h
      exact ⟨l, vs, i, v, rfl, rfl, ex_l g2.hh l1, e, q v Z2 H2 [] (g1.trans g2) (.fz rv) .nil⟩)
theorem me_ixT (ha : MU X ρ a ds) (hb : ME X ρ b (.fz (.int i))) (h : L2.atI ds i = some d) (hp : PlainIx b := by exact fun _ _ => rfl) : ME X ρ (.Subscript a b pos) (.fz d) := .mk fun Z0 F Z σ H s Q q =>
  PE_w (pe_ix ix_tup pe_w pe_w hp) (ha.run Z0 F Z σ H s _ fun l vs Z1 H1 g1 l1 r1 => hb.run Z0 F Z1 σ H1 (s.grow g1) _ fun w Z2 H2 A2 g2 r2 n2 => by
    cases r2 with
    | fz r2 =>
      cases r2
      obtain ⟨v, e, rv⟩ := (r1.mono g2.zz).atI h
      exact ⟨l, vs, i, v, rfl, rfl, ex_t g2.hh l1, e, q v Z2 H2 [] (g1.trans g2) (.fz rv) .nil⟩)
theorem me_ixS {c : Nat} (ha : ME X ρ a (.fz (.str p))) (hb : ME X ρ b (.fz (.int i))) (hl : p.length ≤ sizeLine) (h : L2.atI p.cps.toList i = some c) (hp : PlainIx b := by exact fun _ _ => rfl) : ME X ρ (.Subscript a b pos) (.fz (.str ⟨#[c]⟩)) :=
  me_r2 (t := tOp rIxS (wE X a) (wE X b)) (pe_ix ix_str pe_w pe_w hp) ha hb (.str p) (.int i) (.str _) fun _ _ k => ⟨p, i, c, rfl, rfl, hl, h, k⟩
theorem RepOL.get {K : PySem.W.Frag} {Z F H : Hp} : ∀ {vs : List V} {os : List O} {A : List Addr} {i : Nat} {o : O}, RepOL K Z F H vs os A → os[i]? = some o → ∃ v B, vs[i]? = some v ∧ RepO K Z F H v o B
  | _, _, _, _, _, .nil, e => by simp at e
  | _, _, _, 0, _, .cons h _, e => by
    simp at e
    subst e
    exact ⟨_, _, rfl, h⟩
  | _, _, _, i + 1, _, .cons _ r, e => by
    obtain ⟨v, B, h1, h2⟩ := RepOL.get (i := i) r (by simpa using e)
    exact ⟨v, B, by simpa using h1, h2⟩
theorem RepOL.length {K : PySem.W.Frag} {Z F H : Hp} : ∀ {vs : List V} {os : List O} {A : List Addr}, RepOL K Z F H vs os A → vs.length = os.length
  | _, _, _, .nil => rfl
  | _, _, _, .cons _ r => congrArg (· + 1) r.length
theorem RepOL.atI {K : PySem.W.Frag} {Z F H : Hp} {vs : List V} {os : List O} {A : List Addr} {i : Int} {o : O} (r : RepOL K Z F H vs os A) (h : L2.atI os i = some o) : ∃ v B, L2.atI vs i = some v ∧ RepO K Z F H v o B := by
  unfold L2.atI at h ⊢
  rw [r.length]
  cases e : ixN os.length i with
  | none =>
    rw [e] at h
    cases h
  | some n =>
    rw [e] at h
    exact r.get h
variable {nm T id : Str} {p0 p1 p2 : Pos}
theorem me_len (hg : Gl X "len") (hm : X.mg "len" = none) (ha : ML X ρ a ds) (n1 : NS X a := by exact fun _ => rfl) : ME X ρ (.Call (.Name "len" p0) [a] [] pos) (.fz (.int (ds.length : Int))) := .mk fun Z0 F Z σ H s Q q =>
  PE_w (pe_callB call_len_seq hg hm boot_len (pa_cons pe_w pa_nil (n1 _)) (he := n1 _)) (ha.run Z0 F Z σ H s _ fun l vs Z1 H1 g1 l1 r1 => ⟨l, vs, rfl, .inl l1, by rw [r1.length]; exact q _ Z1 H1 [] g1 (.fz (.int _)) .nil⟩)
theorem me_lenS (hg : Gl X "len") (hm : X.mg "len" = none) (ha : ME X ρ a (.fz (.str p))) (hl : p.length ≤ sizeLine) (n1 : NS X a := by exact fun _ => rfl) : ME X ρ (.Call (.Name "len" p0) [a] [] pos) (.fz (.int (p.length : Int))) := .mk fun Z0 F Z σ H s Q q =>
  PE_w (pe_callB call_len_str hg hm boot_len (pa_cons pe_w pa_nil (n1 _)) (he := n1 _)) (ha.run Z0 F Z σ H s _ fun v Z1 H1 A g1 r1 n1 => by
    cases r1 with
    | fz r1 =>
      cases r1
      exact ⟨p, rfl, hl, q _ Z1 H1 [] g1 (.fz (.int _)) .nil⟩)
theorem me_list (hg : Gl X "list") (hm : X.mg "list" = none) (ha : ML X ρ a ds) (n1 : NS X a := by exact fun _ => rfl) : ME X ρ (.Call (.Name "list" p0) [a] [] pos) (.lst (ds.map .fz)) := .mk fun Z0 F Z σ H s Q q =>
  PE_w (pe_callTy call_list_of hg hm (by decide +kernel) (pa_cons pe_w pa_nil (n1 _)) (he := n1 _)) (ha.run Z0 F Z σ H s _ fun l vs Z1 H1 g1 l1 r1 => ⟨l, vs, rfl, .inl l1, fun p hp =>
    q _ Z1 _ [p] (g1.trans (Gr.new g1.zh hp)) (.lst upd_same r1.own) (new_one (g1.hh.free hp) (g1.zh.free hp))⟩)
theorem me_sum {ns : List Int} (hc : X.calm = true) (hg : Gl X "sum") (hm : X.mg "sum" = none) (ha : ML X ρ a (ns.map .int)) (n1 : NS X a := by exact fun _ => rfl) : ME X ρ (.Call (.Name "sum" p0) [a] [] pos) (.fz (.int ns.sum)) := .mk fun Z0 F Z σ H s Q q =>
  PE_w (pe_callB (cr_sum hc) hg hm (by decide +kernel) (pa_cons pe_w pa_nil (n1 _)) (he := n1 _)) (ha.run Z0 F Z σ H s _ fun l vs Z1 H1 g1 l1 r1 => by
    have e := r1.ints
    subst e
    exact ⟨l, ns, rfl, l1, q _ Z1 H1 [] g1 (.fz (.int _)) .nil⟩)
theorem me_min (hc : X.calm = true) (hg : Gl X "min") (hm : X.mg "min" = none) (ha : ME X ρ a (.fz (.int i))) (hb : ME X ρ b (.fz (.int j))) (n1 : NS X a := by exact fun _ => rfl) (n2 : NS X b := by exact fun _ => rfl) : ME X ρ (.Call (.Name "min" p0) [a, b] [] pos) (.fz (.int (min i j))) := .mk fun Z0 F Z σ H s Q q =>
  PE_w (pe_callB (call_min2 hc) hg hm (by decide +kernel) (pa_cons pe_w (pa_cons pe_w pa_nil (n2 _)) (n1 _)) (he := n1 _) (hpl := by rw [n2 []]; rfl)) (ha.run Z0 F Z σ H s _ fun v Z1 H1 A1 g1 r1 n1 => hb.run Z0 F Z1 σ H1 (s.grow g1) _ fun w Z2 H2 A2 g2 r2 n2 => by
    cases r1 with
    | fz r1 =>
      cases r2 with
      | fz r2 =>
        cases r1
        cases r2
        refine ⟨i, j, rfl, ?_⟩
        have e : (if j < i then j else i) = min i j := by omega
        rw [e]
        exact q _ Z2 H2 [] (g1.trans g2) (.fz (.int _)) .nil)
theorem me_max (hc : X.calm = true) (hg : Gl X "max") (hm : X.mg "max" = none) (ha : ME X ρ a (.fz (.int i))) (hb : ME X ρ b (.fz (.int j))) (n1 : NS X a := by exact fun _ => rfl) (n2 : NS X b := by exact fun _ => rfl) : ME X ρ (.Call (.Name "max" p0) [a, b] [] pos) (.fz (.int (max i j))) := .mk fun Z0 F Z σ H s Q q =>
  PE_w (pe_callB (call_max2 hc) hg hm (by decide +kernel) (pa_cons pe_w (pa_cons pe_w pa_nil (n2 _)) (n1 _)) (he := n1 _) (hpl := by rw [n2 []]; rfl)) (ha.run Z0 F Z σ H s _ fun v Z1 H1 A1 g1 r1 n1 => hb.run Z0 F Z1 σ H1 (s.grow g1) _ fun w Z2 H2 A2 g2 r2 n2 => by
    cases r1 with
    | fz r1 =>
      cases r2 with
      | fz r2 =>
        cases r1
        cases r2
        refine ⟨i, j, rfl, ?_⟩
        have e : (if j > i then j else i) = max i j := by omega
        rw [e]
        exact q _ Z2 H2 [] (g1.trans g2) (.fz (.int _)) .nil)
inductive MO (X : Cx) (ρ : Slots) : Option Expr → Option Int → Prop where
  | none : MO X ρ none none
  | some {e : Expr} {i : Int} (h : ME X ρ e (.fz (.int i))) : MO X ρ (some e) (some i)
theorem MO.run {eo : Option Expr} {io : Option Int} (h : MO X ρ eo io) : ∃ t, PO X eo t ∧ ∀ (Z0 F Z : Hp) (σ : L2.St) (H : Hp), StR X.K ρ Z0 F Z σ H → ∀ Q : Option Int → Hp → Prop, (∀ Z' H', Gr Z H Z' H' → Q io H') → t σ H Q := by
  cases h with
  | none => exact ⟨_, po_none, fun Z0 F Z σ H s Q q => q Z H (Gr.refl s.ex)⟩
  | @some e i h => exact ⟨_, po_some pe_w, fun Z0 F Z σ H s Q q => h.run Z0 F Z σ H s _ fun v Z1 H1 A1 g1 r1 n1 => by
      cases r1 with
      | fz r1 =>
        cases r1
        exact ⟨i, rfl, q Z1 H1 g1⟩⟩
def cutG {α : Type} (xs : List α) (lo hi : Option Int) : List α := (xs.drop (HT.sIx xs.length 0 lo)).take (HT.sIx xs.length xs.length hi - HT.sIx xs.length 0 lo)
theorem RepL.cut {K : PySem.W.Frag} {Z : Hp} {vs : List V} {ds : List D} (r : RepL K Z vs ds) (lo hi : Option Int) : RepL K Z (cutV vs lo hi) (cutG ds lo hi) := by
  unfold cutV cutG
  rw [r.length]
  exact (r.drop _).take _
theorem me_slL {lo hi : Option Expr} {li hj : Option Int} (ha : ML X ρ a ds) (hl : MO X ρ lo li) (hh : MO X ρ hi hj) : ME X ρ (.Subscript a (.Slice lo hi none p2) pos) (.lst ((cutG ds li hj).map .fz)) := .mk fun Z0 F Z σ H s Q q => by
  obtain ⟨tl, pl, kl⟩ := hl.run
  obtain ⟨th, ph, kh⟩ := hh.run
  refine PE_w (pe_slice sl_list pe_w pl ph) (ha.run Z0 F Z σ H s _ fun l vs Z1 H1 g1 l1 r1 => kl Z0 F Z1 σ H1 (s.grow g1) _ fun Z2 H2 g2 => kh Z0 F Z2 σ H2 (s.grow (g1.trans g2)) _ fun Z3 H3 g3 => ?_)
  refine ⟨l, vs, rfl, ex_l (g2.hh.trans g3.hh) l1, fun p hp => ?_⟩
  have g := g1.trans (g2.trans g3)
  exact q _ Z3 _ [p] (g.trans (Gr.new g.zh hp)) (.lst upd_same ((r1.mono (g2.zz.trans g3.zz)).cut li hj).own) (new_one (g.hh.free hp) (g.zh.free hp))

def D.tyN : D → Option String
  | .non => some "NoneType"
  | .bl _ => some "bool"
  | .int _ => some "int"
  | .str _ => some "str"
  | .tup _ => some "tuple"
  | .lst _ => some "list"
  | .dct _ _ => some "dict"
  | .dctT _ _ => some "dict"
  | _ => none
def O.tyN : O → Option String
  | .fz d => d.tyN
  | .vw _ => some "list"
  | .vwa _ _ => some "list"
  | .lk o => o.tyN
  | .lst _ => some "list"
  | .tup _ => some "tuple"
  | .dct _ _ => some "dict"
  | .dctT _ _ => some "dict"
  | .ins _ _ _ => none
  | .at _ _ _ _ => none
  | .loc _ o => o.tyN
  | .pt _ => none
  | .rs _ => none
theorem sql_ty {K : PySem.W.Frag} {H : Hp} {l : Addr} {vs : List V} (h : SqL K H l vs) : TyX K H (.ref l) (.type "list") := by
  rcases h with (h | ⟨o, h⟩) | ⟨o, its, n, h, c, _⟩
  · exact .base (.lst h)
  · exact .base (.frz h)
  · exact .kList h c
theorem sqt_ty {K : PySem.W.Frag} {H : Hp} {l : Addr} {vs : List V} (h : SqT K H l vs) : TyX K H (.ref l) (.type "tuple") := by
  rcases h with (h | ⟨o, h⟩) | ⟨o, its, n, h, c, _⟩
  · exact .base (.tup h)
  · exact .fTuple h
  · exact .kTuple h c
theorem Rep.ty' {K : PySem.W.Frag} {Z H : Hp} {v : V} {d : D} {t : String} (e : Ex Z H) (r : Rep K Z v d) (h : d.tyN = some t) : TyX K H v (.type t) := by
  cases r with
  | non => cases h; exact .base .non
  | bl b => cases h; exact .base (.bl b)
  | int i => cases h; exact .base (.int i)
  | str x => cases h; exact .base (.str x)
  | ty n => cases h
  | opq a => cases h
  | tup a b => cases h; exact sqt_ty (ex_t e a)
  | lst a b => cases h; exact sql_ty (ex_l e a)
  | ins a b => cases h
  | dct a b => cases h; exact .base (.dK (e _ _ a))
  | dctT a b => cases h; exact .base (.dT (e _ _ a))
theorem RepK.ty' {K : PySem.W.Frag} {Z F H : Hp} {t : String} (e : Ex Z H) (f : Ex F H) : ∀ {v : V} {o : O}, RepK K Z F v o → o.tyN = some t → TyX K H v (.type t)
  | _, _, .fz r, h => r.ty' e h
  | _, _, .vw a b, h => by cases h; exact sql_ty (ex_l f a)
  | _, _, .vwa a b, h => by cases h; exact sql_ty (ex_l f a)
  | _, .lk o, .lk r, h => RepK.ty' (o := o) e f r h
  | _, _, .lst a b, h => by cases h; exact .base (.lst (f _ _ a))
  | _, _, .tup a b, h => by cases h; exact .base (.tup (f _ _ a))
  | _, _, .ins a b, h => by cases h
  | _, _, .at a b, h => by cases h
  | _, _, .dct a b, h => by cases h; exact .base (.dK (f _ _ a))
  | _, _, .dctT a b, h => by cases h; exact .base (.dT (f _ _ a))
  | _, .loc _ o, .loc r, h => RepK.ty' (o := o) e f r h
  | _, _, .pt, h => by cases h
theorem RepO.ty' {K : PySem.W.Frag} {Z F H : Hp} {t : String} (e : Ex Z H) (f : Ex F H) : ∀ {v : V} {o : O} {A : List Addr}, RepO K Z F H v o A → o.tyN = some t → TyX K H v (.type t)
  | _, _, _, .fz r, h => r.ty' e h
  | _, _, _, .vw a b, h => by cases h; exact sql_ty (ex_l f a)
  | _, _, _, .vwa a b, h => by cases h; exact sql_ty (ex_l f a)
  | _, .lk o, _, .lk r, h => RepK.ty' (o := o) e f r h
  | _, _, _, .lst a b, h => by cases h; exact .base (.lst a)
  | _, _, _, .tup a b, h => by cases h; exact .base (.tup a)
  | _, _, _, .ins a b, h => by cases h
  | _, _, _, .at a b, h => by cases h
  | _, _, _, .dct a b, h => by cases h; exact .base (.dK a)
  | _, _, _, .dctT a b, h => by cases h; exact .base (.dT a)
  | _, _, _, .loc r, h => RepO.ty' e f r h
  | _, _, _, .pt, h => by cases h
theorem me_isi {T t : String} {TS : Str} {k : Bool} (hg : Gl X "isinstance") (hm : X.mg "isinstance" = none) (hT : PE X (.Name TS p1) (tC (.ty T))) (ha : MV X ρ a o) (ht : o.tyN = some t) (hk : kitB t T = some k) (n1 : NS X a := by exact fun _ => rfl) :
    ME X ρ (.Call (.Name "isinstance" p0) [a, .Name TS p1] [] pos) (.fz (.bl k)) := .mk fun Z0 F Z σ H s Q q =>
  PE_w (pe_callB call_isi hg hm (by decide +kernel) (pa_cons pe_w (pa_cons hT pa_nil) (n1 _)) (he := n1 _)) (ha.run Z0 F Z σ H s _ fun v Z1 H1 A1 g1 r1 =>
    ⟨v, .ty T, .type t, .type T, k, rfl, .ty T, r1.ty' g1.zh (s.gr.hh.trans g1.hh) ht, kit_ty hk, q _ Z1 H1 [] g1 (.fz (.bl k)) .nil⟩)
end
end M
namespace M
open PySem L2

theorem RepOL.snoc {K : PySem.W.Frag} {Z F H : Hp} {w : V} {o : O} {B : List Addr} (h : RepO K Z F H w o B) : ∀ {vs : List V} {os : List O} {A : List Addr}, RepOL K Z F H vs os A → RepOL K Z F H (vs ++ [w]) (os ++ [o]) (A ++ B)
  | _, _, _, .nil => by
    have q := RepOL.cons h (RepOL.nil (K := K) (Z := Z) (F := F) (H := H))
    rw [List.append_nil] at q
    exact q
  | _, _, _, .cons g r => by
    rw [List.append_assoc]
    exact .cons g (r.snoc h)
section
variable {X : Cx} {ρ : Slots} {e : Expr} {es : List Expr} {st : Stmt} {sts : List Stmt} {G : Go} {o : O} {d : D} {ds : List D} {pos : Pos} {i : Nat}

theorem m_set (p : PS X st (tAsg (wE X e) (gName i))) (h : ME X ρ e o) (k : G.nx (ρ.set i (some o))) (hi : i < ρ.length := by exact Nat.le_of_ble_eq_true rfl) : MS1 X ρ st G := .mk fun Z0 F Z σ H D s g =>
  PS_w p (h.run Z0 F Z σ H s _ fun v Z1 H1 A g1 r n => g.nx _ Z1 _ H1 k (s.put g1 r n hi))
theorem m_expr (p : PS X st (tDrop (wE X e))) (h : ME X ρ e o) (k : G.nx ρ) : MS1 X ρ st G := .mk fun Z0 F Z σ H D s g =>
  PS_w p (h.run Z0 F Z σ H s _ fun v Z1 H1 A g1 r n => g.nx _ Z1 _ H1 k (s.grow g1))
theorem m_ret (p : PS X st (tRet (wE X e))) (h : MR X ρ e o) (k : G.rt o) : MS1 X ρ st G := .mk fun Z0 F Z σ H D s g =>
  PS_w p (h.run Z0 F Z σ H s _ fun v Z1 H1 A g1 r n d => g.rt o v Z1 H1 A k (s.gr.trans g1) r ⟨n, fun a m => ⟨(d a m).2, (d a m).1⟩⟩)
theorem m_if {c : Expr} {a b : List Stmt} {t : Bool} (hc : MT X ρ c t) (h1 : t = true → MS X ρ a G) (h2 : t = false → MS X ρ b G) : MS1 X ρ (.If c a b pos) G := .mk fun Z0 F Z σ H D s g =>
  PS_w (ps_if pt_w pss_w pss_w) (hc.run Z0 F Z σ H s _ fun Z1 H1 g1 => by
    cases t with
    | true => exact (h1 rfl).run Z0 F Z1 σ H1 D (s.grow g1) g
    | false => exact (h2 rfl).run Z0 F Z1 σ H1 D (s.grow g1) g)
theorem m_break (k : G.bk ρ) : MS1 X ρ (.Break pos) G := .mk fun Z0 F Z σ H D s g => PS_w ps_break (g.bk _ Z _ H k s)
theorem m_continue (k : G.ct ρ) : MS1 X ρ (.Continue pos) G := .mk fun Z0 F Z σ H D s g => PS_w ps_continue (g.ct _ Z _ H k s)
/-- a slot's thing is frozen from here on -/
theorem ms_frz (hi : ρ[i]? = some (some o)) (hn : o.nv = true) (h : MS X (ρ.set i (some (.fz o.frz))) sts G) : MS X ρ sts G := .mk fun Z0 F Z σ H D s g => by
  obtain ⟨Z', _, _, s'⟩ := s.freeze hi hn
  exact h.run Z0 F Z' σ H D s' g
theorem ms_frzl (hi : ρ[i]? = some (some (.lst (ds.map .fz)))) (h : MS X (ρ.set i (some (.fz (.lst ds)))) sts G) : MS X ρ sts G := by
  refine ms_frz hi (O.nvL_fz ds) ?_
  rw [show (O.lst (ds.map .fz)).frz = .lst ds from congrArg D.lst (O.frzL_fz ds)]
  exact h
theorem ms_le {τ : Slots} (l : Le ρ τ) (h : MS X τ sts G) : MS X ρ sts G := .mk fun Z0 F Z σ H D s g => h.run Z0 F Z σ H D (s.le l) g
theorem Go.le {τ : Slots} (h : MS X τ sts G) : ∀ ρ, Le ρ τ → MS X ρ sts G := fun _ l => ms_le l h
/-- another end -/
theorem ms_imp {G' : Go} (h : MS X ρ sts G) (n : ∀ ρ, G.nx ρ → G'.nx ρ) (r : ∀ o, G.rt o → G'.rt o) (b : ∀ ρ, G.bk ρ → G'.bk ρ) (c : ∀ ρ, G.ct ρ → G'.ct ρ) (rs : ∀ o ρ, G.rs o ρ → G'.rs o ρ := by exact fun _ _ h => h) : MS X ρ sts G' := .mk fun Z0 F Z σ H D s g =>
  h.run Z0 F Z σ H D s ⟨fun ρ Z σ H k => g.nx ρ Z σ H (n ρ k), fun ρ Z σ H k => g.bk ρ Z σ H (b ρ k), fun ρ Z σ H k => g.ct ρ Z σ H (c ρ k), fun o v Z H A k => g.rt o v Z H A (r o k), fun o ρ v Z σ H k => g.rs o ρ v Z σ H (rs o ρ k), g.ex.imp r⟩
/-- x.append(e), x a slot with an own list -/
theorem m_append {x : Str} {p1 p2 p3 p4 : Pos} {os : List O} {o : O} (p : PE X (.Name x p1) (tVar i)) (hi : ρ[i]? = some (some (.lst os))) (he : ME X ρ e o) (hl : os.length < sizeLine) (k : G.nx (ρ.set i (some (.lst (os ++ [o])))))
    (q : ∀ t, PE X (.Call (.Attribute (.Name x p1) "append" p2) [e] [] p3) t → PS X (.Expr (.Call (.Attribute (.Name x p1) "append" p2) [e] [] p3) p4) (tDrop t) := by exact fun _ h => ps_expr h)
    (pm : PE X (.Call (.Attribute (.Name x p1) "append" p2) [e] [] p3) (tBM X.K "list" rAppend (tVar i) (tCons (wE X e) tNil)) := by exact pe_bm PySem.F.plainAttrs_list PySem.F.slot_list_append PySem.F.type_list_append mt_append (pv _) (pa_cons pe_w pa_nil)) : MS1 X ρ (.Expr (.Call (.Attribute (.Name x p1) "append" p2) [e] [] p3) p4) G := .mk fun Z0 F Z σ H D s g => by
  obtain ⟨v, A, e1, r1, nA, dA, k1⟩ := s.upd hi
  cases r1 with
  | @lst a vs _ A h0 r1 =>
    refine PS_w (q _ pm) ⟨_, e1, .inl ⟨rfl, _, SqL.of h0⟩, ?_⟩
    refine he.run Z0 F Z σ H s _ fun w Z1 H1 B g1 r2 n2 => ?_
    refine ⟨a, vs, w, rfl, rfl, g1.hh _ _ h0, by rw [r1.length]; exact hl, ?_⟩
    have za : Z1 a = none := by
      rw [g1.nw a _ h0]
      exact (dA a List.mem_cons_self).1
    obtain ⟨na, nA'⟩ := List.nodup_cons.mp nA
    have nB : ∀ b ∈ B, b ≠ a ∧ b ∉ A := fun b m => by
      refine ⟨fun q => ?_, fun q => ?_⟩
      · have z := (n2.2 b m).1
        rw [q, h0] at z
        cases z
      · obtain ⟨u, hu⟩ := r1.there b q
        rw [(n2.2 b m).1] at hu
        cases hu
    have r1' : RepOL X.K Z1 F (upd H1 a (.lst (vs ++ [w]))) vs os A := r1.mono g1.zz (Ex.refl _) fun b m u hu => by
      have ne : b ≠ a := fun q => na (by rw [← q]; exact m)
      rw [upd_ne ne]
      exact g1.hh b u hu
    have r2' : RepO X.K Z1 F (upd H1 a (.lst (vs ++ [w]))) w o B := r2.mono (Ex.refl _) (Ex.refl _) fun b m u hu => by
      rw [upd_ne (nB b m).1]
      exact hu
    refine g.nx _ Z1 σ _ k (k1 g1.zz g1.nw (g1.zh.mut za) (fun b nb u hu => ?_) (.lst upd_same (r1'.snoc r2')) ?_ fun b m => ?_)
    · have ne : b ≠ a := fun q => nb (by rw [q]; exact List.mem_cons_self)
      rw [upd_ne ne]
      exact g1.hh b u hu
    · refine List.nodup_cons.mpr ⟨fun m => ?_, List.nodup_append.mpr ⟨nA', n2.1, fun b hb c hc q => (nB c hc).2 (by rw [← q]; exact hb)⟩⟩
      rcases List.mem_append.mp m with m | m
      · exact na m
      · exact (nB a m).1 rfl
    · rcases List.mem_cons.mp m with m | m
      · exact .inl (by rw [m]; exact List.mem_cons_self)
      · rcases List.mem_append.mp m with m | m
        · exact .inl (List.mem_cons_of_mem _ m)
        · exact .inr (n2.2 b m)
end
end M
namespace M
open PySem L2 PySem.Spec PyProof.Rows

section
variable {K : PySem.W.Frag} {Z0 Z Z' F H H' : Hp} {ρ : Slots} {σ : L2.St} {G : Go} {D : Ends}
/-- from a later beginning -/
theorem StR.rebase {H1 : Hp} (s : StR K ρ Z0 F Z σ H) : StR K ρ Z F Z σ H := ⟨⟨Ex.refl _, s.gr.hh, s.gr.zh, fun _ _ _ => rfl⟩, s.st⟩
theorem Gr.base {Z1 H1 : Hp} (g0 : Gr Z0 F Z1 H1) (g : Gr Z1 F Z H) : Gr Z0 F Z H := ⟨g0.zz.trans g.zz, g.hh, g.zh, fun a u e => (g.nw a u e).trans (g0.nw a u e)⟩
theorem StR.unbase {Z1 H1 : Hp} (g0 : Gr Z0 F Z1 H1) (s : StR K ρ Z1 F Z σ H) : StR K ρ Z0 F Z σ H := ⟨g0.base s.gr, s.st⟩
theorem GX.rebase {X : Cx} {Z1 H1 : Hp} {r : O → Prop} (g0 : Gr Z0 F Z1 H1) (g : GX X Z0 F r) : GX X Z1 F r := by
  obtain ⟨W, t, k⟩ := g
  exact ⟨W, t, fun e ρ Z σ H q s => k e ρ Z σ H q (s.unbase g0)⟩
theorem GD.rebase {X : Cx} {Z1 H1 : Hp} (g0 : Gr Z0 F Z1 H1) (g : GD X Z0 F G D) : GD X Z1 F G D :=
  ⟨fun ρ Z σ H k s => g.nx ρ Z σ H k (s.unbase g0), fun ρ Z σ H k s => g.bk ρ Z σ H k (s.unbase g0), fun ρ Z σ H k s => g.ct ρ Z σ H k (s.unbase g0), fun o v Z H A k r => g.rt o v Z H A k (g0.base r), fun o ρ v Z σ H k s => g.rs o ρ v Z σ H k (s.unbase g0), g.ex.rebase g0⟩
end

/-- a list that stands still -/
structure MK (X : Cx) (ρ : Slots) (e : Expr) (ds : List D) : Prop where
  run : ∀ (Z0 F Z : Hp) (σ : L2.St) (H : Hp), StR X.K ρ Z0 F Z σ H → ∀ Q : VK,
  (∀ a vs Z' H', Gr Z H Z' H' → (SqL X.K Z' a vs ∨ SqL X.K F a vs) → RepL X.K Z' vs ds → Q (.ref a) H') → wE X e σ H Q
/-- what is walked: n items, from the heap Zs (frozen) and F on -/
structure Wk (K : PySem.W.Frag) (Zs F : Hp) (J : It) (ds : List D) : Prop where
  go : ∀ (i : Nat) (d : D) (Z H : Hp), ds[i]? = some d → Ex Zs Z → Ex F H → Ex Z H → J.go i H ∧ ∀ x H', J.yld i H x H' → ∃ Z', Gr Z H Z' H' ∧ Rep K Z' x d
  stop : ∀ (Z H : Hp), Ex Zs Z → Ex F H → Ex Z H → J.stop ds.length H
structure MI (X : Cx) (ρ : Slots) (wi : TI) (ds : List D) : Prop where
  run : ∀ (Z0 F Z : Hp) (σ : L2.St) (H : Hp), StR X.K ρ Z0 F Z σ H → ∀ R : It → Hp → Prop,
  (∀ J Z' H', Gr Z H Z' H' → Wk X.K Z' F J ds → R J H') → wi σ H R
/-- a target: d is stored; the slots at ws change alone -/
structure MTg (g : TG) (K : PySem.W.Frag) (ρ : Slots) (d : D) (ρ' : Slots) (ws : List Nat) : Prop where
  run : ∀ (Z0 F Z : Hp) (σ : L2.St) (H : Hp) (v : V), StR K ρ Z0 F Z σ H → Rep K Z v d → ∀ Q : L2.St → Hp → Prop,
  (∀ σ', StR K ρ' Z0 F Z σ' H → (∀ vs : List Nat, (∀ w ∈ ws, w ∈ vs) → wipe σ' vs = wipe σ vs) → Q σ' H) → g v σ H Q
structure MTgs (g : TGs) (K : PySem.W.Frag) (ρ : Slots) (ds : List D) (ρ' : Slots) (ws : List Nat) : Prop where
  run : ∀ (Z0 F Z : Hp) (σ : L2.St) (H : Hp) (vs : List V), StR K ρ Z0 F Z σ H → RepL K Z vs ds → ∀ Q : L2.St → Hp → Prop,
  (∀ σ', StR K ρ' Z0 F Z σ' H → (∀ vs : List Nat, (∀ w ∈ ws, w ∈ vs) → wipe σ' vs = wipe σ vs) → Q σ' H) → g vs σ H Q
theorem wipe_get (σ : L2.St) : ∀ (vs : List Nat) (j : Nat), (wipe σ vs)[j]? = if j ∈ vs then (if j < σ.length then some none else none) else σ[j]?
  | [], j => by simp [wipe]
  | v :: vs, j => by
    unfold wipe
    rw [List.getElem?_set, wipe_length, wipe_get σ vs j]
    by_cases h : v = j
    · subst h
      by_cases hl : v < σ.length
      · simp [hl]
      · simp [hl]
    · have h2 : ¬ j = v := fun q => h q.symm
      simp [h, h2]
theorem wipe_set {σ : L2.St} {vs : List Nat} {i : Nat} {x : Option V} (h : i ∈ vs) : wipe (σ.set i x) vs = wipe σ vs := by
  apply List.ext_getElem?
  intro j
  rw [wipe_get, wipe_get, List.length_set]
  by_cases hj : j ∈ vs
  · rw [if_pos hj, if_pos hj]
  · rw [if_neg hj, if_neg hj]
    exact List.getElem?_set_ne (fun q => hj (by rw [← q]; exact h))
theorem wipe_wipe {σ : L2.St} {vs : List Nat} : wipe (wipe σ vs) vs = wipe σ vs := by
  apply List.ext_getElem?
  intro j
  rw [wipe_get, wipe_length, wipe_get]
  by_cases hj : j ∈ vs
  · rw [if_pos hj, if_pos hj]
  · rw [if_neg hj, if_neg hj]
section
variable {K : PySem.W.Frag} {ρ ρ' ρ2 : Slots} {d : D} {ds : List D} {i : Nat} {ws ws2 : List Nat}
theorem mg_name (hi : i < ρ.length := by exact Nat.le_of_ble_eq_true rfl) : MTg (gName i) K ρ d (ρ.set i (some (.fz d))) [i] := .mk fun Z0 F Z σ H v s r Q q =>
  q _ (s.put (Gr.refl s.ex) (.fz r) .nil hi) fun vs h => wipe_set (h i List.mem_cons_self)
theorem mgs_nil : MTgs gNil K ρ [] ρ [] := .mk fun Z0 F Z σ H vs s r Q q => by
  cases r
  exact ⟨rfl, q σ s fun _ _ => rfl⟩
theorem mgs_cons {t : TG} {u : TGs} (h1 : MTg t K ρ d ρ' ws) (h2 : MTgs u K ρ' ds ρ2 ws2) : MTgs (gCons t u) K ρ (d :: ds) ρ2 (ws ++ ws2) := .mk fun Z0 F Z σ H vs s r Q q => by
  cases r with
  | cons a b =>
    exact ⟨_, _, rfl, h1.run Z0 F Z σ H _ s a _ fun σ1 s1 w1 => h2.run Z0 F Z σ1 H _ s1 b _ fun σ2 s2 w2 => q σ2 s2 fun vs h =>
      (w2 vs fun w m => h w (List.mem_append_right _ m)).trans (w1 vs fun w m => h w (List.mem_append_left _ m))⟩
theorem mg_tup {n : Nat} {u : TGs} (h : MTgs u K ρ ds ρ' ws) (hn : ds.length = n) : MTg (gTup K n u) K ρ (.tup ds) ρ' ws := .mk fun Z0 F Z σ H v s r Q q => by
  cases r with
  | tup a b => exact ⟨_, _, rfl, ex_t s.ex a, by rw [b.length, hn], h.run Z0 F Z σ H _ s b Q q⟩
end

section
variable {X : Cx} {ρ : Slots} {e : Expr} {es : List Expr} {st : Stmt} {sts : List Stmt} {G : Go} {o : O} {d : D} {ds : List D} {pos : Pos} {i : Nat}
theorem ME.k (h : ME X ρ e (.fz (.lst ds))) : MK X ρ e ds := .mk fun Z0 F Z σ H s Q q => h.run Z0 F Z σ H s Q fun v Z' H' A g r n => by
  cases r with
  | fz r =>
    cases r with
    | lst a b => exact q _ _ Z' H' g (.inl a) b
theorem MV.k (h : MV X ρ e (.vw ds)) : MK X ρ e ds := .mk fun Z0 F Z σ H s Q q => h.run Z0 F Z σ H s Q fun v Z' H' A g r => by
  cases r with
  | vw a b => exact q _ _ Z' H' g (.inr a) b
theorem MV.ka {a : Addr} (h : MV X ρ e (.vwa a ds)) : MK X ρ e ds := .mk fun Z0 F Z σ H s Q q => h.run Z0 F Z σ H s Q fun v Z' H' A g r => by
  cases r with
  | vwa a b => exact q _ _ Z' H' g (.inr a) b
theorem MK.l (h : MK X ρ e ds) : ML X ρ e ds := .mk fun Z0 F Z σ H s Q q => h.run Z0 F Z σ H s Q fun a vs Z' H' g l r => q a vs Z' H' g (l.elim (ex_l g.zh) (ex_l (s.gr.hh.trans g.hh))) r
theorem mi_list (h : MK X ρ e ds) : MI X ρ (iList X.K (wE X e)) ds := .mk fun Z0 F Z σ H s R q => h.run Z0 F Z σ H s _ fun a vs Z' H' g l r => by
  have lv : ∀ {Z2 H2 : Hp}, Ex Z' Z2 → Ex F H2 → Ex Z2 H2 → SqL X.K H2 a vs := fun e f z => l.elim (fun l => ex_l (e.trans z) l) fun l => ex_l f l
  refine ⟨a, rfl, ⟨vs, lv (Ex.refl _) (s.gr.hh.trans g.hh) g.zh⟩, q _ Z' H' g ⟨fun j d Z2 H2 hd ez ef zh => ?_, fun Z2 H2 ez ef zh => ⟨vs, lv ez ef zh, Nat.le_of_eq r.length⟩⟩⟩
  obtain ⟨x, hx, rx⟩ := r.get hd
  refine ⟨⟨vs, x, lv ez ef zh, hx⟩, fun y H3 hy => ?_⟩
  obtain ⟨e3, hy⟩ := hy
  subst e3
  have e4 := hy vs (lv ez ef zh)
  rw [hx] at e4
  cases e4
  exact ⟨Z2, Gr.refl zh, rx.mono ez⟩
/-- one argument, a list that stands still -/
theorem mk_arg (h : MK X ρ e ds) (n1 : NS X e) {Z0 F Z : Hp} {σ : L2.St} {H : Hp} (s : StR X.K ρ Z0 F Z σ H) {Q : List V → Hp → Prop}
    (q : ∀ a vs Z' H', Gr Z H Z' H' → (SqL X.K Z' a vs ∨ SqL X.K F a vs) → RepL X.K Z' vs ds → Q [.ref a] H') : wA X [e] σ H Q :=
  PA_w (pa_cons pe_w pa_nil (n1 _)) (h.run Z0 F Z σ H s _ fun a vs Z' H' g l r => q a vs Z' H' g l r)
/-- enumerate -/
def enm (ds : List D) : List D := ds.zipIdx.map fun p => .tup [.int (p.2 : Nat), p.1]
theorem mi_enum (h : MK X ρ e ds) (n1 : NS X e := by exact fun _ => rfl) : MI X ρ (iEnum X.K (wA X [e])) (enm ds) := .mk fun Z0 F Z σ H s R q => mk_arg h n1 s fun a vs Z' H' g l r => by
  have lv : ∀ {Z2 H2 : Hp}, Ex Z' Z2 → Ex F H2 → Ex Z2 H2 → SqL X.K H2 a vs := fun e f z => l.elim (fun l => ex_l (e.trans z) l) fun l => ex_l f l
  refine ⟨a, vs, rfl, lv (Ex.refl _) (s.gr.hh.trans g.hh) g.zh, q _ Z' H' g ⟨fun j d Z2 H2 hd ez ef zh => ?_, fun Z2 H2 ez ef zh => ?_⟩⟩
  · unfold enm at hd
    rw [List.getElem?_map, List.getElem?_zipIdx] at hd
    cases e : ds[j]? with
    | none =>
      rw [e] at hd
      cases hd
    | some d1 =>
      rw [e] at hd
      have hd2 : D.tup [.int ((0 + j : Nat)), d1] = d := Option.some.inj hd
      subst hd2
      obtain ⟨x, hx, rx⟩ := r.get e
      refine ⟨⟨vs, x, lv ez ef zh, hx⟩, fun y H3 hy => ?_⟩
      obtain ⟨T, x2, ey, hT, e3, hy⟩ := hy
      subst e3 ey
      have e4 := hy vs (lv ez ef zh)
      rw [hx] at e4
      cases e4
      refine ⟨_, Gr.newz zh hT, .tup (.of upd_same) (.cons ?_ (.cons ((rx.mono ez).mono (Ex.new (zh.free hT))) .nil))⟩
      rw [Nat.zero_add]
      exact .int _
  · refine ⟨vs, lv ez ef zh, ?_⟩
    unfold enm
    rw [List.length_map, List.length_zipIdx, r.length]
    exact Nat.le_refl _
/-- a text, sign by sign -/
def sgn (x : Str) : List D := x.cps.toList.map fun c => .str ⟨#[c]⟩
theorem mi_str {x : Str} (h : ME X ρ e (.fz (.str x))) : MI X ρ (iStr (wE X e)) (sgn x) := .mk fun Z0 F Z σ H s R q => h.run Z0 F Z σ H s _ fun v Z' H' A g r n => by
  cases r with
  | fz r =>
    cases r
    refine ⟨x, rfl, q _ Z' H' g ⟨fun j d Z2 H2 hd ez ef zh => ?_, fun Z2 H2 ez ef zh => ?_⟩⟩
    · unfold sgn at hd
      rw [List.getElem?_map] at hd
      cases e : x.cps.toList[j]? with
      | none =>
        rw [e] at hd
        cases hd
      | some c =>
        rw [e] at hd
        have hd2 : D.str ⟨#[c]⟩ = d := Option.some.inj hd
        subst hd2
        have e' : x.cps[j]? = some c := by simpa using e
        refine ⟨(Array.getElem?_eq_some_iff.mp e').1, fun y H3 hy => ?_⟩
        obtain ⟨e3, c2, h1, h2⟩ := hy
        subst e3 h2
        rw [e'] at h1
        cases h1
        exact ⟨Z2, Gr.refl zh, .str _⟩
    · show x.cps.size ≤ (sgn x).length
      unfold sgn
      simp
def rng (lo : Int) (n : Nat) : List D := (List.range n).map fun k => .int (lo + (k : Nat))
theorem rng_len (lo : Int) (n : Nat) : (rng lo n).length = n := by simp [rng]
theorem rng_get {lo : Int} {n i : Nat} {d : D} (h : (rng lo n)[i]? = some d) : i < n ∧ d = .int (lo + (i : Nat)) := by
  unfold rng at h
  rw [List.getElem?_map] at h
  by_cases hi : i < n
  · rw [List.getElem?_range hi] at h
    exact ⟨hi, (Option.some.inj h).symm⟩
  · rw [List.getElem?_eq_none (by simpa using hi)] at h
    cases h
theorem wk_rng {K : PySem.W.Frag} {Zs F : Hp} (lo : Int) (n : Nat) : Wk K Zs F (Itr lo n) (rng lo n) := ⟨fun i d Z H h _ _ zh => by
    obtain ⟨hi, e⟩ := rng_get h
    subst e
    refine ⟨hi, fun x H' hy => ?_⟩
    obtain ⟨e, ex⟩ := hy
    subst e ex
    exact ⟨Z, Gr.refl zh, .int _⟩, fun Z H _ _ _ => Nat.le_of_eq (rng_len lo n).symm⟩
theorem mi_range1 {j : Int} (h : MF X ρ es [.int j]) (h1 : -(2 ^ 62) ≤ j) (h2 : j < 2 ^ 62) : MI X ρ (iRng1 (wA X es)) (rng 0 j.toNat) := .mk fun Z0 F Z σ H s R q => h.run Z0 F Z σ H s _ fun vs Z' H' g r => by
  cases r with
  | cons a r =>
    cases a
    cases r
    exact ⟨j, rfl, h1, h2, q _ Z' H' g (wk_rng 0 _)⟩
/-- for: I i holds ahead of turn i -/
theorem m_for {wi : TI} {g : TG} {body : List Stmt} (p : PS X st (tFor wi g (wS X body))) (h : MI X ρ wi ds) (I : Nat → Slots → Prop) (h0 : I 0 ρ)
    (hs : ∀ (j : Nat) (d : D) (τ : Slots), ds[j]? = some d → I j τ → ∃ τ' ws, MTg g X.K τ d τ' ws ∧ MS X τ' body { nx := I (j + 1), ct := I (j + 1), bk := G.nx, rt := G.rt, rs := G.rs })
    (hd : ∀ τ, I ds.length τ → G.nx τ) : MS1 X ρ st G := .mk fun Z0 F Z σ H D s gd => by
  refine PS_w p (h.run Z0 F Z σ H s _ fun J Z1 H1 g1 wk => ?_)
  have s1 := s.grow g1
  have g0 : Gr Z0 F Z1 H1 := s1.gr
  refine ⟨fun j m σ H => m = ds.length - j ∧ j ≤ ds.length ∧ ∃ τ Z2, I j τ ∧ StR X.K τ Z1 F Z2 σ H, ⟨ds.length, by simp, Nat.zero_le _, ρ, Z1, h0, ⟨⟨Ex.refl _, g0.hh, g0.zh, fun _ _ _ => rfl⟩, s1.st⟩⟩, ?_⟩
  rintro j m σ2 H2 ⟨rfl, hj, τ, Z2, hI, s2⟩
  by_cases hlt : j < ds.length
  · obtain ⟨d, ed⟩ : ∃ d, ds[j]? = some d := ⟨ds[j], by simp [hlt]⟩
    obtain ⟨w1, w2⟩ := wk.go j d Z2 H2 ed s2.gr.zz s2.gr.hh s2.gr.zh
    refine .inr ⟨w1, fun σ' H' => ∃ τ Z2, I (j + 1) τ ∧ StR X.K τ Z1 F Z2 σ' H', fun σ' H' q => ⟨ds.length - (j + 1), by omega, rfl, hlt, q⟩, fun x H3 hy => ?_⟩
    obtain ⟨Z3, g3, r3⟩ := w2 x H3 hy
    have s3 := s2.grow g3
    obtain ⟨τ', ws, t1, t2⟩ := hs j d τ ed hI
    refine t1.run Z1 F Z3 σ2 H3 x s3 r3 _ fun σ4 s4 _ => ?_
    exact t2.run Z1 F Z3 σ4 H3 _ s4 ⟨fun τ Z σ H k s => ⟨τ, Z, k, s⟩, fun τ Z σ H k s => gd.nx τ Z σ H k (s.unbase g0), fun τ Z σ H k s => ⟨τ, Z, k, s⟩, fun o v Z H A k gr r n => gd.rt o v Z H A k (g0.base gr) r n, fun o ρ v Z σ H k s => gd.rs o ρ v Z σ H k (s.unbase g0), gd.ex.rebase g0⟩
  · have e : j = ds.length := by omega
    subst e
    exact .inl ⟨wk.stop Z2 H2 s2.gr.zz s2.gr.hh s2.gr.zh, gd.nx τ Z2 σ2 H2 (hd τ hI) (s2.unbase g0)⟩
/-- a, b = e, e a frozen tuple -/
theorem m_tgt {g : TG} {ρ' : Slots} {ws : List Nat} (p : PS X st (tAsg (wE X e) g)) (h : ME X ρ e (.fz d)) (t : MTg g X.K ρ d ρ' ws) (k : G.nx ρ') : MS1 X ρ st G := .mk fun Z0 F Z σ H D s gd =>
  PS_w p (h.run Z0 F Z σ H s _ fun v Z1 H1 A g1 r n => by
    cases r with
    | fz r => exact t.run Z0 F Z1 σ H1 v (s.grow g1) r _ fun σ2 s2 _ => gd.nx ρ' Z1 σ2 H1 k s2)
/-- the promise of a def: the arguments (frozen things, lists that stay as they are), what is handed back -/
def SpM {α : Type} (K : PySem.W.Frag) (ar : α → List O) (pre : α → Prop) (res : α → O) : Sp := fun vs H Q _ => ∃ (x : α) (Z : Hp), Ex Z H ∧ RepOL K Z H H vs (ar x) [] ∧ pre x ∧
  ∀ v Z' H' A, Gr Z H Z' H' → RepO K Z' (fun _ => none) H' v (res x) A → New H Z' A → Q v H'
theorem me_call {α : Type} {ar : α → List O} {pre : α → Prop} {res : α → O} {E : XK} (p : PE X e (tCall (SpM X.K ar pre res) [] E (wA X es))) (x : α) (ha : MA X ρ es (ar x)) (hp : pre x) : ME X ρ e (res x) := .mk fun Z0 F Z σ H s Q q =>
  PE_w p (ha.run Z0 F Z σ H s _ fun vs Z1 H1 g1 r1 => ⟨x, Z1, g1.zh, by rw [List.append_nil]; exact r1, hp, fun v Z2 H2 A g2 r2 n2 =>
    q v Z2 H2 A (g1.trans g2) (r2.mono (Ex.refl _) (fun _ _ z => by cases z) fun _ _ _ z => z) ⟨n2.1, fun a m => ⟨g1.hh.free (n2.2 a m).1, (n2.2 a m).2⟩⟩⟩)
mutual
theorem RepO.unF {K : PySem.W.Frag} {Z F F' H : Hp} : ∀ {v : V} {o : O} {A : List Addr}, RepO K Z F H v o A → o.nv = true → RepO K Z F' H v o A
  | _, _, _, .fz h, _ => .fz h
  | _, _, _, .vw _ _, n => nomatch n
  | _, _, _, .vwa _ _, n => nomatch n
  | _, _, _, .lk _, n => nomatch n
  | _, _, _, .lst h r, n => .lst h (RepOL.unF r n)
  | _, _, _, .tup h r, n => .tup h (RepOL.unF r n)
  | _, _, _, .ins h r, n => .ins h (RepOL.unF r n)
  | _, _, _, .at h r, n => .at h (RepOL.unF r n)
  | _, _, _, .loc h, n => .loc (RepO.unF h n)
  | _, _, _, .pt, _ => .pt
  | _, _, _, .dct h r, n => .dct h (RepOL.unF r n)
  | _, _, _, .dctT h r, n => .dctT h (RepOL.unF r n)
theorem RepOL.unF {K : PySem.W.Frag} {Z F F' H : Hp} : ∀ {vs : List V} {os : List O} {A : List Addr}, RepOL K Z F H vs os A → O.nvL os = true → RepOL K Z F' H vs os A
  | _, _, _, .nil, _ => .nil
  | _, _, _, .cons h r, n => .cons (RepO.unF h (Bool.and_eq_true_iff.mp n).1) (RepOL.unF r (Bool.and_eq_true_iff.mp n).2)
end
theorem stL_args {K : PySem.W.Frag} {Z F H : Hp} : ∀ {vs : List V} {os : List O} {A : List Addr}, RepOL K Z F H vs os A → StL K Z F H (os.map some) (vs.map some) A
  | _, _, _, .nil => .nil
  | _, _, _, .cons h r => .so h (stL_args r)
theorem stL_more {K : PySem.W.Frag} {Z F H : Hp} (n : Nat) : ∀ {ρ : Slots} {σ : L2.St} {A : List Addr}, StL K Z F H ρ σ A → StL K Z F H (ρ ++ List.replicate n none) (σ ++ List.replicate n none) A
  | _, _, _, .nil => by
    rw [List.nil_append, List.nil_append]
    induction n with
    | zero => exact .nil
    | succ n ih => exact .no ih
  | _, _, _, .no h => .no (stL_more n h)
  | _, _, _, .so r h => .so r (stL_more n h)
/-- a def's body keeps its promise -/
theorem fn_m {α : Type} {P : Program} {w : World} {K : PySem.W.Frag} {mg : Str → Option Value} {base : Heap} {x qual : Str} {st : Stmt} {f : Addr} {fd : FuncData} {N ps : List Str} {k : Nat} {ar : α → List O} {pre : α → Prop} {res : α → O}
    (F : Fun K x qual st f fd) (S : FnScope N ps (defScope st)) (hl : ∀ x, (ar x).length = ps.length) (hn : ∀ x, pre x → (res x).nv = true)
    (hb : ∀ (cdv : Value) (A : Around) (outer : List Env) (s : Shared) (H : Hp) (E : XK), Room k (A.deeper (envOfC qual (defScope st) s.heap.objs.size f cdv)) → ∀ x, pre x →
      MS (cxOf CX0 P w K mg base N qual (defScope st) f cdv A outer s H E).nox ((ar x).map some ++ List.replicate (N.length - ps.length) none) (defBody st) { nx := fun _ => res x = .fz .non, rt := fun o => o = res x }) :
    FnOk P w K mg base CX0 (k + 1) f fd ps (SpM K ar pre res) := by
  refine F.ok S (fun vs H Q E h => ?_) (fun cdv A outer s H vs Q E hr h => ?_)
  · obtain ⟨x, Z, _, r, _⟩ := h
    rw [r.length, hl]
  · obtain ⟨x, Z, ez, r, hp, q⟩ := h
    refine ⟨_, pss_w, (hb cdv A outer s H E hr x hp).run Z H Z _ H _ ⟨Gr.refl ez, [], ?_, List.nodup_nil, fun _ m => nomatch m⟩ ⟨fun ρ Z' σ H' e s' => ?_, fun _ _ _ _ z => z.elim, fun _ _ _ _ z => z.elim, fun o v Z' H' A e g r n => ?_, fun _ _ _ _ _ _ z => z.elim, GX.never fun e z => by
      have n := hn x hp
      rw [← show O.rs e = res x from z] at n
      cases n⟩⟩
    · have e : L2.start N vs = vs.map some ++ List.replicate (N.length - ps.length) none := by
        unfold L2.start
        rw [r.length, hl]
      rw [e]
      exact stL_more _ (stL_args r)
    · refine q _ Z' H' [] s'.gr ?_ .nil
      rw [e]
      exact .fz .non
    · subst e
      exact q _ Z' H' A g (r.unF (hn x hp)) n
end
end M
namespace M
open PySem L2 PySem.Spec PyProof.Rows

mutual
def D.py : D → PyData
  | .bl b => .bool b
  | .int i => .int i
  | .str x => .str x
  | .tup ds => .tuple (D.pyL ds)
  | .lst ds => .list (D.pyL ds)
  | _ => .none
def D.pyL : List D → List PyData
  | [] => []
  | d :: r => d.py :: D.pyL r
end
mutual
def D.pl : D → Bool
  | .non => true
  | .bl _ => true
  | .int _ => true
  | .str _ => true
  | .tup ds => D.plL ds
  | .lst ds => D.plL ds
  | _ => false
def D.plL : List D → Bool
  | [] => true
  | d :: r => d.pl && D.plL r
end
section
variable {K : PySem.W.Frag} {Z F H : Hp}
mutual
theorem Rep.dp (e : Ex Z H) : ∀ {v : V} {d : D}, Rep K Z v d → d.pl = true → Dp K H v d.py
  | _, _, .non, _ => .non
  | _, _, .bl b, _ => .bl b
  | _, _, .int i, _ => .int i
  | _, _, .str x, _ => .str x
  | _, _, .ty _, h => nomatch h
  | _, _, .opq _, h => nomatch h
  | _, _, .tup a r, h => .tup (ex_t e a) (RepL.dp e r h)
  | _, _, .lst a r, h => .lst (ex_l e a) (RepL.dp e r h)
  | _, _, .ins _ _, h => nomatch h
  | _, _, .dct _ _, h => nomatch h
  | _, _, .dctT _ _, h => nomatch h
theorem RepL.dp (e : Ex Z H) : ∀ {vs : List V} {ds : List D}, RepL K Z vs ds → D.plL ds = true → DpAll K H vs (D.pyL ds)
  | _, _, .nil, _ => .nil
  | _, _, .cons a r, h => .cons (Rep.dp e a (Bool.and_eq_true_iff.mp h).1) (RepL.dp e r (Bool.and_eq_true_iff.mp h).2)
end
mutual
theorem RepK.dp (e : Ex Z H) (f : Ex F H) : ∀ {v : V} {o : O}, RepK K Z F v o → o.frz.pl = true → Dp K H v o.frz.py
  | _, _, .fz r, h => r.dp e h
  | _, _, .vw a r, h => .lst (ex_l f a) (r.dp e h)
  | _, _, .vwa a r, h => .lst (ex_l f a) (r.dp e h)
  | _, .lk o, .lk r, h => RepK.dp (o := o) e f r h
  | _, _, .lst a r, h => .lst (.of (f _ _ a)) (RepKL.dp e f r h)
  | _, _, .tup a r, h => .tup (.of (f _ _ a)) (RepKL.dp e f r h)
  | _, .loc _ o, .loc r, h => RepK.dp (o := o) e f r h
  | _, _, .pt, h => nomatch h
  | _, _, .ins _ _, h => nomatch h
  | _, _, .at _ _, h => nomatch h
  | _, _, .dct _ _, h => nomatch h
  | _, _, .dctT _ _, h => nomatch h
theorem RepKL.dp (e : Ex Z H) (f : Ex F H) : ∀ {vs : List V} {os : List O}, RepKL K Z F vs os → D.plL (O.frzL os) = true → DpAll K H vs (D.pyL (O.frzL os))
  | _, _, .nil, _ => .nil
  | _, _, .cons a r, h => .cons (RepK.dp e f a (Bool.and_eq_true_iff.mp h).1) (RepKL.dp e f r (Bool.and_eq_true_iff.mp h).2)
end
mutual
theorem RepO.dp (e : Ex Z H) (f : Ex F H) : ∀ {v : V} {o : O} {A : List Addr}, RepO K Z F H v o A → o.frz.pl = true → Dp K H v o.frz.py
  | _, _, _, .fz r, h => r.dp e h
  | _, _, _, .vw a r, h => .lst (ex_l f a) (r.dp e h)
  | _, _, _, .vwa a r, h => .lst (ex_l f a) (r.dp e h)
  | _, .lk o, _, .lk r, h => RepK.dp (o := o) e f r h
  | _, _, _, .lst a r, h => .lst (.of a) (RepOL.dp e f r h)
  | _, _, _, .tup a r, h => .tup (.of a) (RepOL.dp e f r h)
  | _, .loc _ o, _, .loc r, h => RepO.dp (o := o) e f r h
  | _, _, _, .pt, h => nomatch h
  | _, _, _, .ins _ _, h => nomatch h
  | _, _, _, .dct _ _, h => nomatch h
  | _, _, _, .dctT _ _, h => nomatch h
theorem RepOL.dp (e : Ex Z H) (f : Ex F H) : ∀ {vs : List V} {os : List O} {A : List Addr}, RepOL K Z F H vs os A → D.plL (O.frzL os) = true → DpAll K H vs (D.pyL (O.frzL os))
  | _, _, _, .nil, _ => .nil
  | _, _, _, .cons a r, h => .cons (RepO.dp e f a (Bool.and_eq_true_iff.mp h).1) (RepOL.dp e f r (Bool.and_eq_true_iff.mp h).2)
end
end
/-- data that can be compared -/
def D.ok (d : D) : Prop := d.pl = true ∧ SeqAt.shaped d.py = true
def D.eqv (d e : D) : Bool := PyData.eqv d.py e.py
section
variable {X : Cx} {ρ : Slots} {e a b elt : Expr} {es : List Expr} {st : Stmt} {sts : List Stmt} {G : Go} {o o1 o2 : O} {d : D} {ds : List D} {pos : Pos} {i : Nat}
theorem mt_rD {r : R2} {k : Bool} (p : PT X e (tTest (tOp r (wE X a) (wE X b)))) (ha : MV X ρ a o1) (hb : MV X ρ b o2) (h1 : o1.frz.pl = true) (h2 : o2.frz.pl = true)
    (h : ∀ x y H (Q : VK), Dp X.K H x o1.frz.py → Dp X.K H y o2.frz.py → Q (.bl k) H → r x y H Q) : MT X ρ e k := .mk fun Z0 F Z σ H s Q q => by
  refine PT_w p (ha.run Z0 F Z σ H s _ fun v Z1 H1 A1 g1 r1 => ?_)
  refine hb.run Z0 F Z1 σ H1 (s.grow g1) _ fun w Z2 H2 A2 g2 r2 => ?_
  have g := g1.trans g2
  exact h v w H2 _ ((r1.ex g2.zz g2.hh).dp g2.zh (s.gr.hh.trans g.hh) h1) (r2.dp g2.zh (s.gr.hh.trans g.hh) h2) ⟨k, rfl, q Z2 H2 g⟩
theorem mt_eqD (hu : X.A.units + 64 < cLine) (ha : MV X ρ a o1) (hb : MV X ρ b o2) (h1 : o1.frz.ok) (h2 : o2.frz.ok) : MT X ρ (.Compare a [.Eq] [b] pos) (o1.frz.eqv o2.frz) :=
  mt_rD (pt_cmpR (op_eqD hu) pe_w pe_w (nomark _)) ha hb h1.1 h2.1 fun x y H Q p1 p2 q => ⟨_, _, p1, p2, h1.2, h2.2, q⟩
theorem mt_neD (hu : X.A.units + 64 < cLine) (ha : MV X ρ a o1) (hb : MV X ρ b o2) (h1 : o1.frz.ok) (h2 : o2.frz.ok) : MT X ρ (.Compare a [.NotEq] [b] pos) (!o1.frz.eqv o2.frz) :=
  mt_rD (pt_cmpR (op_neD hu) pe_w pe_w (nomark _)) ha hb h1.1 h2.1 fun x y H Q p1 p2 q => ⟨_, _, p1, p2, h1.2, h2.2, q⟩

/-- what is walked while nothing that stands changes -/
structure MIc (X : Cx) (ρ : Slots) (wi : TI) (ds : List D) : Prop where
  run : ∀ (Z0 F Z : Hp) (σ : L2.St) (H : Hp), StR X.K ρ Z0 F Z σ H → ∀ R : It → Hp → Prop,
  (∀ J Z' H', Gr Z H Z' H' → Wk X.K Z' H' J ds → R J H') → wi σ H R
theorem MI.c {wi : TI} (h : MI X ρ wi ds) : MIc X ρ wi ds := .mk fun Z0 F Z σ H s R q => h.run Z0 F Z σ H s R fun J Z' H' g wk =>
  q J Z' H' g ⟨fun i d Z2 H2 hd e f z => wk.go i d Z2 H2 hd e ((s.gr.hh.trans g.hh).trans f) z, fun Z2 H2 e f z => wk.stop Z2 H2 e ((s.gr.hh.trans g.hh).trans f) z⟩
theorem mic_list (h : ML X ρ e ds) : MIc X ρ (iList X.K (wE X e)) ds := .mk fun Z0 F Z σ H s R q => h.run Z0 F Z σ H s _ fun a vs Z' H' g l r => by
  refine ⟨a, rfl, ⟨vs, l⟩, q _ Z' H' g ⟨fun j d Z2 H2 hd ez ef zh => ?_, fun Z2 H2 ez ef zh => ⟨vs, ex_l ef l, Nat.le_of_eq r.length⟩⟩⟩
  obtain ⟨x, hx, rx⟩ := r.get hd
  refine ⟨⟨vs, x, ex_l ef l, hx⟩, fun y H3 hy => ?_⟩
  obtain ⟨e3, hy⟩ := hy
  subst e3
  have e4 := hy vs (ex_l ef l)
  rw [hx] at e4
  cases e4
  exact ⟨Z2, Gr.refl zh, rx.mono ez⟩
def wipeS (ρ : Slots) : List Nat → Slots
  | [] => ρ
  | v :: vs => (wipeS ρ vs).set v none
theorem StL.none {K : PySem.W.Frag} {Z F H : Hp} (x : Option V) : ∀ {ρ : Slots} {σ : L2.St} {A : List Addr} (i : Nat), StL K Z F H ρ σ A → A.Nodup → ∃ A', StL K Z F H (ρ.set i Option.none) (σ.set i x) A' ∧ A'.Nodup ∧ ∀ a ∈ A', a ∈ A
  | _, _, _, _, .nil, n => ⟨_, .nil, n, fun _ m => m⟩
  | _, _, _, 0, .no h, n => ⟨_, .no h, n, fun _ m => m⟩
  | _, _, _, i + 1, .no h, n => by
    obtain ⟨A', q1, q2, q3⟩ := StL.none x i h n
    exact ⟨A', .no q1, q2, q3⟩
  | _, _, _, 0, .so _ h, n => ⟨_, .no h, (List.nodup_append.mp n).2.1, fun _ m => List.mem_append_right _ m⟩
  | _, _, _, i + 1, .so r h, n => by
    obtain ⟨n1, n2, n3⟩ := List.nodup_append.mp n
    obtain ⟨A', q1, q2, q3⟩ := StL.none x i h n2
    refine ⟨_, .so r q1, List.nodup_append.mpr ⟨n1, q2, fun a ha b hb => n3 a ha b (q3 b hb)⟩, fun a m => ?_⟩
    rcases List.mem_append.mp m with m | m
    · exact List.mem_append_left _ m
    · exact List.mem_append_right _ (q3 a m)
theorem StR.wipe {K : PySem.W.Frag} {Z0 F Z H : Hp} {σ : L2.St} (s : StR K ρ Z0 F Z σ H) : ∀ vs : List Nat, StR K (wipeS ρ vs) Z0 F Z (L2.wipe σ vs) H
  | [] => s
  | v :: vs => by
    obtain ⟨g, A, h1, h2, h3⟩ := StR.wipe s vs
    obtain ⟨A', q1, q2, q3⟩ := h1.none none v h2
    exact ⟨g, A', q1, q2, fun a m => h3 a (q3 a m)⟩
/-- the list that a comprehension makes -/
theorem lc_run {α : Type} {xs : List α} {enc : α → D} {wi : TI} {g : TG} {tt : TT} {te : TE} {vs : List Nat} (h : MIc X ρ wi (xs.map enc)) (pb : α → Bool) (f : α → D) (hz : xs.length < sizeLine)
    (hs : ∀ d ∈ xs, ∃ τ ws, MTg g X.K (wipeS ρ vs) (enc d) τ ws ∧ (∀ w ∈ ws, w ∈ vs) ∧
      (∀ (Z0 F Z : Hp) (σ : L2.St) (H : Hp), StR X.K τ Z0 F Z σ H → ∀ Q : Bool → Hp → Prop, (∀ Z' H', Gr Z H Z' H' → Q (pb d) H') → tt σ H Q) ∧
      (pb d = true → ∀ (Z0 F Z : Hp) (σ : L2.St) (H : Hp), StR X.K τ Z0 F Z σ H → ∀ Q : VK, (∀ v Z' H', Gr Z H Z' H' → Rep X.K Z' v (f d) → Q v H') → te σ H Q))
    {Z0 F Z : Hp} {σ : L2.St} {H : Hp} (s : StR X.K ρ Z0 F Z σ H) {Q : VK} (q : ∀ v Z' H' A, Gr Z H Z' H' → RepO X.K Z' F H' v (.lst (((xs.filter pb).map f).map .fz)) A → New H Z' A → Q v H') : tLc wi g tt te vs σ H Q := by
  refine h.run Z0 F Z σ H s _ fun J Z1 H1 g1 wk => ?_
  intro L hL
  have s1 := (s.grow g1).wipe vs
  refine ⟨fun j m H2 => m = xs.length - j ∧ j ≤ xs.length ∧ ∃ Z2 acc, Gr Z1 H1 Z2 H2 ∧ H2 L = some (.lst acc) ∧ Z2 L = none ∧ RepL X.K Z2 acc (((xs.take j).filter pb).map f),
    ⟨xs.length, by simp, Nat.zero_le _, Z1, [], Gr.new g1.zh hL, upd_same, g1.zh.free hL, .nil⟩, ?_⟩
  rintro j m H2 ⟨rfl, hj, Z2, acc, g2, hacc, zL, racc⟩
  by_cases hlt : j < xs.length
  · have ed : (xs.map enc)[j]? = some (enc xs[j]) := by simp [hlt]
    obtain ⟨w1, w2⟩ := wk.go j _ Z2 H2 ed g2.zz g2.hh g2.zh
    refine .inr ⟨w1, fun H3 => j + 1 ≤ xs.length ∧ ∃ Z2 acc, Gr Z1 H1 Z2 H3 ∧ H3 L = some (.lst acc) ∧ Z2 L = none ∧ RepL X.K Z2 acc (((xs.take (j + 1)).filter pb).map f), fun H3 q => ⟨xs.length - (j + 1), by omega, rfl, q⟩, fun x H3 hy => ?_⟩
    obtain ⟨Z3, g3, r3⟩ := w2 x H3 hy
    obtain ⟨τ, ws, t1, t2, t3, t4⟩ := hs _ (List.getElem_mem hlt)
    have g13 := g2.trans g3
    have etake : xs.take (j + 1) = xs.take j ++ [xs[j]] := (List.take_append_getElem hlt).symm
    refine t1.run Z0 F Z3 _ H3 x (s1.grow g13) r3 _ fun σ4 s4 w4 => ⟨by rw [w4 vs t2, wipe_wipe], ?_⟩
    refine t3 Z0 F Z3 σ4 H3 s4 _ fun Z5 H5 g5 => ?_
    have hL5 : H5 L = some (.lst acc) := g5.hh _ _ (g3.hh _ _ hacc)
    have zL5 : Z5 L = none := by rw [g5.nw L _ (g3.hh _ _ hacc), g3.nw L _ hacc, zL]
    have r5 := racc.mono (g3.zz.trans g5.zz)
    cases hp : pb xs[j] with
    | true =>
      rw [if_pos rfl]
      refine t4 hp Z0 F Z5 σ4 H5 (s4.grow g5) _ fun y Z6 H6 g6 r6 => ?_
      have hL6 := g6.hh _ _ hL5
      have zL6 : Z6 L = none := by rw [g6.nw L _ hL5, zL5]
      have hlen : acc.length < sizeLine := by
        rw [racc.length, List.length_map]
        exact Nat.lt_of_le_of_lt (Nat.le_trans (List.length_filter_le _ _) (by rw [List.length_take]; exact Nat.min_le_right _ _)) hz
      refine ⟨acc, hL6, hlen, hlt, Z6, acc ++ [y], ?_, upd_same, zL6, ?_⟩
      · have g16 := g13.trans (g5.trans g6)
        exact ⟨g16.zz, g16.hh.mut hL, g16.zh.mut zL6, g16.nw⟩
      · rw [etake, List.filter_append, List.map_append]
        have e1 : [xs[j]].filter pb = [xs[j]] := by simp [hp]
        rw [e1]
        exact (r5.mono g6.zz).append (.cons r6 .nil)
    | false =>
      rw [if_neg Bool.false_ne_true]
      refine ⟨hlt, Z5, acc, g13.trans g5, hL5, zL5, ?_⟩
      rw [etake, List.filter_append, List.map_append]
      have e1 : [xs[j]].filter pb = [] := by simp [hp]
      rw [e1, List.map_nil, List.append_nil]
      exact r5
  · have e : j = xs.length := by omega
    subst e
    have st := wk.stop Z2 H2 g2.zz g2.hh g2.zh
    rw [List.length_map] at st
    refine .inl ⟨st, q _ Z2 H2 [L] (g1.trans g2) (.lst hacc ?_) (new_one (g1.hh.free hL) zL)⟩
    rw [List.take_length] at racc
    exact racc.own
/-- [elt for target in source] -/
theorem me_lc {α : Type} {xs : List α} {enc : α → D} {wi : TI} {g : TG} {scope : Scope} {vs : List Nat} (p : ∀ te : TE, (∀ (s : Shared) (H : Hp) (C : Addr) (cl : List (Str × Addr)) (fp : List Addr), PE (X.blk s H scope (compEnvC scope cl C X.env) fp) elt te) → PE X e (tLc wi g tYes te vs))
    (h : MIc X ρ wi (xs.map enc)) (f : α → D) (hz : xs.length < sizeLine)
    (hs : ∀ d ∈ xs, ∃ τ ws, MTg g X.K (wipeS ρ vs) (enc d) τ ws ∧ (∀ w ∈ ws, w ∈ vs) ∧ ∀ (s : Shared) (H : Hp) (C : Addr) (cl : List (Str × Addr)) (fp : List Addr), ME (X.blk s H scope (compEnvC scope cl C X.env) fp) τ elt (.fz (f d))) :
    ME X ρ e (.lst ((xs.map f).map .fz)) := .mk fun Z0 F Z σ H s Q q => by
  refine PE_w (p (fun σ H Q => ∀ (s : Shared) (H' : Hp) (C : Addr) (cl : List (Str × Addr)) (fp : List Addr), wE (X.blk s H' scope (compEnvC scope cl C X.env) fp) elt σ H Q) fun s H' C cl fp => ⟨fun pins s' σ H Q I k => k s H' C cl fp pins s' I⟩) ?_
  refine lc_run h (fun _ => true) f hz (fun d m => ?_) s fun v Z' H' A g r n => q v Z' H' A g ?_ n
  · obtain ⟨τ, ws, t1, t2, t3⟩ := hs d m
    refine ⟨τ, ws, t1, t2, fun Z0 F Z σ H s Q q => q Z H (Gr.refl s.ex), fun _ Z0 F Z σ H s Q q s' H' C cl fp => (t3 s' H' C cl fp).run Z0 F Z σ H s Q fun v Z' H' A g r n => ?_⟩
    cases r with
    | fz r => exact q v Z' H' g r
  · rw [List.filter_eq_self.mpr fun _ _ => rfl] at r
    exact r
/-- [elt for target in source if test] -/
theorem me_lcIf {α : Type} {xs : List α} {enc : α → D} {wi : TI} {g : TG} {scope : Scope} {vs : List Nat} {c : Expr} (p : ∀ (tt : TT) (te : TE), (∀ (s : Shared) (H : Hp) (C : Addr) (cl : List (Str × Addr)) (fp : List Addr), PT (X.blk s H scope (compEnvC scope cl C X.env) fp) c tt) →
      (∀ (s : Shared) (H : Hp) (C : Addr) (cl : List (Str × Addr)) (fp : List Addr), PE (X.blk s H scope (compEnvC scope cl C X.env) fp) elt te) → PE X e (tLc wi g tt te vs))
    (h : MIc X ρ wi (xs.map enc)) (pb : α → Bool) (f : α → D) (hz : xs.length < sizeLine)
    (hs : ∀ d ∈ xs, ∃ τ ws, MTg g X.K (wipeS ρ vs) (enc d) τ ws ∧ (∀ w ∈ ws, w ∈ vs) ∧ ∀ (s : Shared) (H : Hp) (C : Addr) (cl : List (Str × Addr)) (fp : List Addr), MT (X.blk s H scope (compEnvC scope cl C X.env) fp) τ c (pb d) ∧ (pb d = true → ME (X.blk s H scope (compEnvC scope cl C X.env) fp) τ elt (.fz (f d)))) :
    ME X ρ e (.lst (((xs.filter pb).map f).map .fz)) := .mk fun Z0 F Z σ H s Q q => by
  refine PE_w (p (fun σ H Q => ∀ (s : Shared) (H' : Hp) (C : Addr) (cl : List (Str × Addr)) (fp : List Addr), wT (X.blk s H' scope (compEnvC scope cl C X.env) fp) c σ H Q) (fun σ H Q => ∀ (s : Shared) (H' : Hp) (C : Addr) (cl : List (Str × Addr)) (fp : List Addr), wE (X.blk s H' scope (compEnvC scope cl C X.env) fp) elt σ H Q)
    (fun s H' C cl fp => ⟨fun pins s' σ H Q I k => k s H' C cl fp pins s' I⟩) fun s H' C cl fp => ⟨fun pins s' σ H Q I k => k s H' C cl fp pins s' I⟩) ?_
  refine lc_run h pb f hz (fun d m => ?_) s q
  obtain ⟨τ, ws, t1, t2, t3⟩ := hs d m
  refine ⟨τ, ws, t1, t2, fun Z0 F Z σ H s Q q s' H' C cl fp => (t3 s' H' C cl fp).1.run Z0 F Z σ H s Q q, fun hp Z0 F Z σ H s Q q s' H' C cl fp => ((t3 s' H' C cl fp).2 hp).run Z0 F Z σ H s Q fun v Z' H' A g r n => ?_⟩
  cases r with
  | fz r => exact q v Z' H' g r

/-- (.., x, ..): a tuple of frozen things and one own slot's thing -/
structure MRs (X : Cx) (ρ : Slots) (es : List Expr) (os : List O) : Prop where
  run : ∀ (Z0 F Z : Hp) (σ : L2.St) (H : Hp), StR X.K ρ Z0 F Z σ H → ∀ Q : List V → Hp → Prop,
  (∀ vs Z' H' A, Gr Z H Z' H' → RepOL X.K Z' F H' vs os A → A.Nodup → (∀ a ∈ A, Z' a = none ∧ F a = none) → Q vs H') → wA X es σ H Q
theorem MF.rs (h : MF X ρ es ds) : MRs X ρ es (ds.map .fz) := .mk fun Z0 F Z σ H s Q q => h.run Z0 F Z σ H s Q fun vs Z' H' g r => q vs Z' H' [] g r.own List.nodup_nil fun _ m => nomatch m
end
end M
namespace M
open PySem L2 PySem.Spec PyProof.Rows
section
variable {X : Cx} {ρ : Slots} {e a b elt : Expr} {es : List Expr} {st : Stmt} {sts : List Stmt} {G : Go} {o o1 o2 : O} {d : D} {ds : List D} {pos p0 p1 : Pos} {i : Nat} {x nm : Str}
theorem ml_var (p : PE X (.Name x pos) (tVar i)) (h : ρ[i]? = some (some o)) (hl : IsLst o ds := by first | exact .vw _ | exact .fz _ | exact .own _ | exact .vwa _ _) : ML X ρ (.Name x pos) ds := MV.l (mv_var p h) hl
theorem mk_var (p : PE X (.Name x pos) (tVar i)) (h : ρ[i]? = some (some o)) (hl : o = .vw ds ∨ o = .fz (.lst ds) ∨ ∃ a, o = .vwa a ds := by first | exact .inl rfl | exact .inr (.inl rfl) | exact .inr (.inr ⟨_, rfl⟩)) : MK X ρ (.Name x pos) ds := by
  rcases hl with rfl | rfl | ⟨a, rfl⟩
  · exact MV.k (mv_var p h)
  · exact ME.k (me_var p h)
  · exact MV.ka (mv_var p h)
theorem le_auto {ρ τ : Slots} (l : Le ρ τ := by repeat (first | exact Le.nil | refine Le.no ?_ | refine Le.eq ?_)) : Le ρ τ := l
/-- for: R j holds ahead of turn j -/
theorem m_forR {wi : TI} {g : TG} {body : List Stmt} (p : PS X st (tFor wi g (wS X body))) (h : MI X ρ wi ds) (R : Nat → Slots) (h0 : Le ρ (R 0))
    (hs : ∀ (j : Nat) (d : D), ds[j]? = some d → ∃ τ' ws, MTg g X.K (R j) d τ' ws ∧ MS X τ' body { nx := fun τ => Le τ (R (j + 1)), ct := fun τ => Le τ (R (j + 1)), bk := G.nx, rt := G.rt, rs := G.rs })
    (hd : ∀ τ, Le τ (R ds.length) → G.nx τ) : MS1 X ρ st G := by
  refine m_for p h (fun j τ => Le τ (R j)) h0 (fun j d τ hj l => ?_) hd
  obtain ⟨τ', ws, t1, t2⟩ := hs j d hj
  exact ⟨τ', ws, .mk fun Z0 F Z σ H v s r Q q => t1.run Z0 F Z σ H v (s.le l) r Q q, t2⟩
/-- .. by a state: S j x holds ahead of turn j -/
theorem m_forS {α : Type} {wi : TI} {g : TG} {body : List Stmt} (p : PS X st (tFor wi g (wS X body))) (h : MI X ρ wi ds) (R : α → Slots) (S : Nat → α → Prop) (h0 : ∃ x, S 0 x ∧ Le ρ (R x))
    (hs : ∀ (j : Nat) (d : D) (x : α), ds[j]? = some d → S j x → ∃ τ' ws, MTg g X.K (R x) d τ' ws ∧ MS X τ' body { nx := fun τ => ∃ y, S (j + 1) y ∧ Le τ (R y), ct := fun τ => ∃ y, S (j + 1) y ∧ Le τ (R y), bk := G.nx, rt := G.rt, rs := G.rs })
    (hd : ∀ τ x, S ds.length x → Le τ (R x) → G.nx τ) : MS1 X ρ st G := by
  refine m_for p h (fun j τ => ∃ x, S j x ∧ Le τ (R x)) h0 (fun j d τ hj l => ?_) fun τ ⟨x, h1, h2⟩ => hd τ x h1 h2
  obtain ⟨x, l1, l2⟩ := l
  obtain ⟨τ', ws, t1, t2⟩ := hs j d x hj l1
  exact ⟨τ', ws, .mk fun Z0 F Z σ H v s r Q q => t1.run Z0 F Z σ H v (s.le l2) r Q q, t2⟩
/-- an own def, as it is called by its name -/
structure Fn1 (P : Program) (w : World) (K : PySem.W.Frag) (mg : Str → Option Value) (base : Heap) (name : Str) (k : Nat) (ps : List Str) (sp : Sp) : Prop where
  ex : ∃ (f : Addr) (fd : FuncData), mg name = some (.ref f) ∧ PySem.W.keepIn K (.ref f) = true ∧ Binds K fd ps [] ∧ FnOk P w K mg base CX0 k f fd ps sp
theorem me_fn {α : Type} {ar : α → List O} {pre : α → Prop} {res : α → O} {k : Nat} {ps : List Str} (c : Fn1 X.prog X.w X.K X.mg X.base nm k ps (SpM X.K ar pre res)) (x : α) (ha : MA X ρ (e :: es) (ar x)) (hp : pre x) (hr : Room k X.A) {o : O} (hres : res x = o := by first | (dsimp only; done) | (dsimp only; rfl) | rfl) (hg : Gl X nm := by rfl)
    (hdb : (nm == ("__debug__" : Str)) = false := by decide) (he : starEach (e :: es) X.env = (false, eval e X.env) :: starEach es X.env := by rfl) (hpl : (backTo pos (starEach es X.env)).any (·.1) = false := by rfl) : ME X ρ (.Call (.Name nm p0) (e :: es) [] pos) o := by
  subst hres
  obtain ⟨f, fd, hm, hk, hb, F⟩ := c.ex
  exact me_call (pe_call F hr hg hm hk hb .nil pass0 pa_w hdb he hpl) x ha hp
end
end M
namespace M
open PySem L2 PySem.Spec PyProof.Rows
inductive Smp : Nat → D → Prop where
  | non {n : Nat} : Smp n .non
  | bl {n : Nat} (b : Bool) : Smp n (.bl b)
  | int {n : Nat} (i : Int) : Smp n (.int i)
  | str {n : Nat} {x : Str} (h : (PyData.str x).canLay0 = true) : Smp n (.str x)
  | tup {n : Nat} {ds : List D} (h : ∀ d ∈ ds, Smp n d) : Smp (n + 1) (.tup ds)
  | lst {n : Nat} {ds : List D} (h : ∀ d ∈ ds, Smp n d) : Smp (n + 1) (.lst ds)
theorem D.plL_all : ∀ {ds : List D}, (∀ d ∈ ds, d.pl = true) → D.plL ds = true
  | [], _ => rfl
  | d :: r, h => by
    show (d.pl && D.plL r) = true
    rw [h d List.mem_cons_self, D.plL_all fun e m => h e (List.mem_cons_of_mem _ m)]
    rfl
theorem canL_all : ∀ {ds : List D}, (∀ d ∈ ds, d.py.canLay0 = true) → PyData.canLayAll0 (D.pyL ds) = true
  | [], _ => rfl
  | d :: r, h => by
    show (d.py.canLay0 && PyData.canLayAll0 (D.pyL r)) = true
    rw [h d List.mem_cons_self, canL_all fun e m => h e (List.mem_cons_of_mem _ m)]
    rfl
theorem depL_all {n : Nat} : ∀ {ds : List D}, (∀ d ∈ ds, d.py.depth ≤ n) → PyData.depthAll (D.pyL ds) ≤ n
  | [], _ => Nat.zero_le _
  | d :: r, h => Nat.max_le.mpr ⟨h d List.mem_cons_self, depL_all fun e m => h e (List.mem_cons_of_mem _ m)⟩
theorem Smp.all {n : Nat} {d : D} (h : Smp n d) : d.pl = true ∧ d.py.canLay0 = true ∧ d.py.depth ≤ n := by
  induction h with
  | non => exact ⟨rfl, rfl, Nat.zero_le _⟩
  | bl b => exact ⟨rfl, rfl, Nat.zero_le _⟩
  | int i => exact ⟨rfl, rfl, Nat.zero_le _⟩
  | str h => exact ⟨rfl, h, Nat.zero_le _⟩
  | tup h ih => exact ⟨D.plL_all fun d m => (ih d m).1, canL_all fun d m => (ih d m).2.1, Nat.succ_le_succ (depL_all fun d m => (ih d m).2.2)⟩
  | lst h ih => exact ⟨D.plL_all fun d m => (ih d m).1, canL_all fun d m => (ih d m).2.1, Nat.succ_le_succ (depL_all fun d m => (ih d m).2.2)⟩
theorem Smp.ok {n : Nat} {d : D} (h : Smp n d) (hn : n ≤ 64 := by decide) : d.ok := by
  obtain ⟨h1, h2, h3⟩ := h.all
  refine ⟨h1, ?_⟩
  unfold SeqAt.shaped
  rw [h2, decide_eq_true (Nat.le_trans h3 hn)]
  rfl
theorem Smp.up {n m : Nat} {d : D} (h : Smp n d) (l : n ≤ m) : Smp m d := by
  induction h generalizing m with
  | non => exact .non
  | bl b => exact .bl b
  | int i => exact .int i
  | str h => exact .str h
  | tup h ih =>
    cases m with
    | zero => exact absurd l (by omega)
    | succ m => exact .tup fun d k => ih d k (by omega)
  | lst h ih =>
    cases m with
    | zero => exact absurd l (by omega)
    | succ m => exact .lst fun d k => ih d k (by omega)
theorem eqvL_refl : ∀ {ds : List D}, (∀ d ∈ ds, d.eqv d = true) → PyData.eqvAll (D.pyL ds) (D.pyL ds) = true
  | [], _ => rfl
  | d :: r, h => by
    show (PyData.eqv d.py d.py && PyData.eqvAll (D.pyL r) (D.pyL r)) = true
    rw [show PyData.eqv d.py d.py = true from h d List.mem_cons_self, eqvL_refl fun e m => h e (List.mem_cons_of_mem _ m)]
    rfl
theorem Smp.eqv {n : Nat} {d : D} (h : Smp n d) : d.eqv d = true := by
  induction h with
  | non => rfl
  | bl b => exact beq_self_eq_true b
  | int i => exact beq_self_eq_true i
  | str h => exact beq_self_eq_true _
  | tup h ih => exact eqvL_refl ih
  | lst h ih => exact eqvL_refl ih
theorem smps_map {α : Type} {n : Nat} {f : α → D} {xs : List α} (h : ∀ x ∈ xs, Smp n (f x)) : ∀ d ∈ xs.map f, Smp n d := fun d m => by
  obtain ⟨x, hx, rfl⟩ := List.mem_map.mp m
  exact h x hx
section
variable {X : Cx} {ρ : Slots} {e a b elt : Expr} {es : List Expr} {st : Stmt} {sts : List Stmt} {G : Go} {o o1 o2 : O} {d : D} {ds : List D} {pos p0 p1 : Pos} {i : Nat} {x nm : Str}
end
section
variable {K : PySem.W.Frag} {Z0 Z Z' F H H' : Hp} {ρ : Slots} {σ : L2.St}
end
section
variable {X : Cx} {ρ : Slots} {e a b elt : Expr} {es : List Expr} {st : Stmt} {sts : List Stmt} {G : Go} {o o1 o2 : O} {d : D} {ds : List D} {pos p0 p1 : Pos} {i : Nat} {x nm : Str}
theorem mi_rangeN {n : Nat} (h : MF X ρ es [.int (n : Int)]) (hn : n < 2 ^ 62) : MI X ρ (iRng1 (wA X es)) (rng 0 n) := by
  have q := mi_range1 h (by omega) (by omega)
  rw [Int.toNat_natCast] at q
  exact q
theorem ME.is {o' : O} (h : ME X ρ e o) (q : o = o') : ME X ρ e o' := q ▸ h
/-- for over typed items -/
theorem m_forT {α : Type} {xs : List α} {enc : α → D} {wi : TI} {g : TG} {body : List Stmt} (p : PS X st (tFor wi g (wS X body))) (h : MI X ρ wi (xs.map enc)) (R : Nat → Slots) (h0 : Le ρ (R 0))
    (hs : ∀ (j : Nat) (x : α), xs[j]? = some x → ∃ τ' ws, MTg g X.K (R j) (enc x) τ' ws ∧ MS X τ' body { nx := fun τ => Le τ (R (j + 1)), ct := fun τ => Le τ (R (j + 1)), bk := G.nx, rt := G.rt, rs := G.rs })
    (hd : ∀ τ, Le τ (R xs.length) → G.nx τ) : MS1 X ρ st G := by
  refine m_forR p h R h0 (fun j d hj => ?_) fun τ l => hd τ (by rw [List.length_map] at l; exact l)
  rw [List.getElem?_map] at hj
  obtain ⟨x, hx, rfl⟩ := Option.map_eq_some_iff.mp hj
  exact hs j x hx
theorem m_forTS {α β : Type} {xs : List α} {enc : α → D} {wi : TI} {g : TG} {body : List Stmt} (p : PS X st (tFor wi g (wS X body))) (h : MI X ρ wi (xs.map enc)) (R : β → Slots) (S : Nat → β → Prop) (h0 : ∃ y, S 0 y ∧ Le ρ (R y))
    (hs : ∀ (j : Nat) (x : α) (y : β), xs[j]? = some x → S j y → ∃ τ' ws, MTg g X.K (R y) (enc x) τ' ws ∧ MS X τ' body { nx := fun τ => ∃ y, S (j + 1) y ∧ Le τ (R y), ct := fun τ => ∃ y, S (j + 1) y ∧ Le τ (R y), bk := G.nx, rt := G.rt, rs := G.rs })
    (hd : ∀ τ y, S xs.length y → Le τ (R y) → G.nx τ) : MS1 X ρ st G := by
  refine m_forS p h R S h0 (fun j d y hj => ?_) fun τ y h1 l => hd τ y (by rw [List.length_map] at h1; exact h1) l
  rw [List.getElem?_map] at hj
  obtain ⟨x, hx, rfl⟩ := Option.map_eq_some_iff.mp hj
  exact hs j x y hx
/-- for over a range -/
theorem m_forN {lo : Int} {n : Nat} {wi : TI} {g : TG} {body : List Stmt} (p : PS X st (tFor wi g (wS X body))) (h : MI X ρ wi (rng lo n)) (R : Nat → Slots) (h0 : Le ρ (R 0))
    (hs : ∀ (j : Nat), j < n → ∃ τ' ws, MTg g X.K (R j) (.int (lo + (j : Nat))) τ' ws ∧ MS X τ' body { nx := fun τ => Le τ (R (j + 1)), ct := fun τ => Le τ (R (j + 1)), bk := G.nx, rt := G.rt, rs := G.rs })
    (hd : ∀ τ, Le τ (R n) → G.nx τ) : MS1 X ρ st G := by
  refine m_forR p h R h0 (fun j d hj => ?_) fun τ l => hd τ (by rw [rng_len] at l; exact l)
  obtain ⟨h1, rfl⟩ := rng_get hj
  exact hs j h1
end
/-- a law's promise -/
def spLaw (K : PySem.W.Frag) : Sp := SpM K (fun ns : List Int => [.vw (ns.map .int)]) (fun ns => ns.length ≤ 63) (fun _ => .fz (.bl true))
theorem spLaw_of {K : PySem.W.Frag} {H : Hp} {a : Addr} {ns : List Int} {E : XK} (hS : SqL K H a (ns.map V.int)) (hl : ns.length ≤ 63) : spLaw K [.ref a] H (fun v _ => v = .bl true) E := by
  refine ⟨ns, fun _ => none, fun _ _ z => (by cases z), RepOL.cons (A := []) (B := []) (RepO.vw hS RepL.ofInts) RepOL.nil, hl, fun v Z' H' A g r n => ?_⟩
  cases r with
  | fz r =>
    cases r
    rfl
end M
namespace M
open PySem L2 PySem.Spec PyProof.Rows
theorem RepOL.set {K : PySem.W.Frag} {Z F H : Hp} {w : V} {d : D} (h : Rep K Z w d) : ∀ {vs : List V} {ds : List D} {A : List Addr} (j : Nat), RepOL K Z F H vs (ds.map .fz) A → RepOL K Z F H (vs.set j w) ((ds.set j d).map .fz) A
  | _, [], _, _, .nil => .nil
  | _, _ :: _, _, 0, .cons (.fz _) r => .cons (A := []) (.fz h) r
  | _, _ :: _, _, j + 1, .cons (.fz g) r => .cons (A := []) (.fz g) (RepOL.set h j r)
section
variable {X : Cx} {ρ : Slots} {e a b c elt : Expr} {es rest : List Expr} {st : Stmt} {sts : List Stmt} {G : Go} {o o1 o2 : O} {d : D} {ds : List D} {pos p0 p1 p2 p3 p4 p5 p6 : Pos} {i : Nat} {x nm : Str} {m n k : Int} {p q : Str}
/-- x[e1] = e2, x a slot with an own list of frozen things -/
theorem m_setItem {j : Nat} (pn : PE X (.Name x p1) (tVar i)) (hi : ρ[i]? = some (some (.lst (ds.map .fz)))) (h1 : ME X ρ a (.fz (.int k))) (h2 : ME X ρ b (.fz d)) (hj : ixN ds.length k = some j) (kk : G.nx (ρ.set i (some (.lst ((ds.set j d).map .fz)))))
    (pm : PS X (.Assign [.Subscript (.Name x p1) a p2] b p3) (tAsg (wE X b) (gSub (tVar i) (wE X a) rSetL)) := by exact ps_asg pe_w (pg_sub (pv _) pe_w set_list)) : MS1 X ρ (.Assign [.Subscript (.Name x p1) a p2] b p3) G := .mk fun Z0 F Z σ H D s g => by
  obtain ⟨v, A, e1, r1, nA, dA, k1⟩ := s.upd hi
  cases r1 with
  | @lst l vs _ A h0 r1 =>
    refine PS_w pm (h2.run Z0 F Z σ H s _ fun w Z1 H1 B g1 r2 n2 => ?_)
    refine ⟨_, e1, h1.run Z0 F Z1 σ H1 (s.grow g1) _ fun y Z2 H2 B2 g2 r3 n3 => ?_⟩
    cases r3 with
    | fz r3 =>
      cases r3
      cases r2 with
      | fz r2 =>
        have g12 := g1.trans g2
        have hl : ixN vs.length k = some j := by rw [r1.length, List.length_map]; exact hj
        refine ⟨l, vs, k, j, rfl, rfl, g12.hh _ _ h0, hl, ?_⟩
        have zl : Z2 l = none := by
          rw [g12.nw l _ h0]
          exact (dA l List.mem_cons_self).1
        obtain ⟨na, nA'⟩ := List.nodup_cons.mp nA
        have r1' : RepOL X.K Z2 F (upd H2 l (.lst (vs.set j w))) vs (ds.map .fz) A := r1.mono g12.zz (Ex.refl _) fun b m u hu => by
          have ne : b ≠ l := fun q => na (by rw [← q]; exact m)
          rw [upd_ne ne]
          exact g12.hh b u hu
        refine g.nx _ Z2 σ _ kk ?_
        refine k1 g12.zz g12.nw (g12.zh.mut zl) (fun b nb u hu => ?_) (.lst upd_same (r1'.set (r2.mono g2.zz) j)) nA fun b m => .inl m
        have ne : b ≠ l := fun q => nb (by rw [q]; exact List.mem_cons_self)
        rw [upd_ne ne]
        exact g12.hh b u hu

theorem RepL.rep {K : PySem.W.Frag} {Z : Hp} {vs : List V} {ds : List D} (r : RepL K Z vs ds) : ∀ k : Nat, RepL K Z (List.replicate k vs).flatten (List.replicate k ds).flatten
  | 0 => .nil
  | k + 1 => by
    rw [List.replicate_succ, List.replicate_succ, List.flatten_cons, List.flatten_cons]
    exact r.append (r.rep k)
/-- xs + ys, lists of its own -/
theorem me_catL {es1 : List D} (ha : MV X ρ a (.lst (ds.map .fz))) (hb : MV X ρ b (.lst (es1.map .fz))) (hl : ds.length + es1.length ≤ sizeLine) : ME X ρ (.BinOp a .Add b pos) (.lst ((ds ++ es1).map .fz)) := .mk fun Z0 F Z σ H s Q q =>
  PE_w (pe_op op_cat pe_w pe_w) (ha.run Z0 F Z σ H s _ fun v Z1 H1 A1 g1 r1 => hb.run Z0 F Z1 σ H1 (s.grow g1) _ fun w Z2 H2 A2 g2 r2 => by
    cases r2 with
    | @lst l2 us _ A2 h2 r2 =>
      cases r1 with
      | @lst l vs _ A h0 r1 =>
        have g := g1.trans g2
        obtain ⟨_, r1⟩ := r1.fzs
        obtain ⟨_, r2⟩ := r2.fzs
        refine ⟨l, l2, vs, us, rfl, rfl, g2.hh _ _ h0, h2, by rw [r1.length, r2.length]; exact hl, fun p hp => ?_⟩
        exact q _ Z2 _ [p] (g.trans (Gr.new g.zh hp)) (.lst upd_same ((r1.mono g2.zz).append r2).own) (new_one (g.hh.free hp) (g.zh.free hp)))
/-- a op b op' c, whole numbers -/
theorem mt_chain {op op' : CmpOp} {f f' : Int → Int → Bool} (ho : OpR X (compareOp op) (rI0 fun i j => .bl (f i j))) (ho' : OpR X (compareOp op') (rI0 fun i j => .bl (f' i j))) (ha : ME X ρ a (.fz (.int m))) (hb : ME X ρ b (.fz (.int n))) (hc : ME X ρ c (.fz (.int k)))
    (hm : lastMarks [op, op'] [b, c] = false := by with_unfolding_all rfl) : MT X ρ (.Compare a [op, op'] [b, c] pos) (f m n && f' n k) := .mk fun Z0 F Z σ H s Q q =>
  PT_w (pt_chain ho ho' pe_w pe_w pe_w hm) (ha.run Z0 F Z σ H s _ fun v Z1 H1 A1 g1 r1 n1 => hb.run Z0 F Z1 σ H1 (s.grow g1) _ fun w Z2 H2 A2 g2 r2 n2 => by
    cases r1 with
    | fz r1 =>
      cases r1
      cases r2 with
      | fz r2 =>
        cases r2
        refine ⟨m, n, rfl, rfl, f m n, rfl, ?_⟩
        cases hf : f m n with
        | false =>
          rw [if_neg Bool.false_ne_true]
          have q' := q Z2 H2 (g1.trans g2)
          rw [hf] at q'
          exact ⟨false, rfl, q'⟩
        | true =>
          rw [if_pos rfl]
          refine hc.run Z0 F Z2 σ H2 (s.grow (g1.trans g2)) _ fun y Z3 H3 A3 g3 r3 n3 => ?_
          cases r3 with
          | fz r3 =>
            cases r3
            have q' := q Z3 H3 ((g1.trans g2).trans g3)
            rw [hf] at q'
            exact ⟨n, k, rfl, rfl, f' n k, rfl, q'⟩)
theorem me_chain {op op' : CmpOp} {f f' : Int → Int → Bool} (ho : OpR X (compareOp op) (rI0 fun i j => .bl (f i j))) (ho' : OpR X (compareOp op') (rI0 fun i j => .bl (f' i j))) (ha : ME X ρ a (.fz (.int m))) (hb : ME X ρ b (.fz (.int n))) (hc : ME X ρ c (.fz (.int k)))
    (hm : lastMarks [op, op'] [b, c] = false := by with_unfolding_all rfl) : ME X ρ (.Compare a [op, op'] [b, c] pos) (.fz (.bl (f m n && f' n k))) := .mk fun Z0 F Z σ H s Q q =>
  PE_w (pe_chain ho ho' pe_w pe_w pe_w hm) (ha.run Z0 F Z σ H s _ fun v Z1 H1 A1 g1 r1 n1 => hb.run Z0 F Z1 σ H1 (s.grow g1) _ fun w Z2 H2 A2 g2 r2 n2 => by
    cases r1 with
    | fz r1 =>
      cases r1
      cases r2 with
      | fz r2 =>
        cases r2
        refine ⟨m, n, rfl, rfl, f m n, rfl, ?_⟩
        cases hf : f m n with
        | false =>
          rw [if_neg Bool.false_ne_true]
          have q' := q (.bl (f m n && f' n k)) Z2 H2 [] (g1.trans g2) (.fz (.bl _)) .nil
          rw [hf] at q'
          exact q'
        | true =>
          rw [if_pos rfl]
          refine hc.run Z0 F Z2 σ H2 (s.grow (g1.trans g2)) _ fun y Z3 H3 A3 g3 r3 n3 => ?_
          cases r3 with
          | fz r3 =>
            cases r3
            have q' := q (.bl (f m n && f' n k)) Z3 H3 [] ((g1.trans g2).trans g3) (.fz (.bl _)) .nil
            rw [hf] at q'
            exact ⟨n, k, rfl, rfl, q'⟩)
theorem mt_niS {ch : Nat} (ha : ME X ρ a (.fz (.str ⟨#[ch]⟩))) (hb : ME X ρ b (.fz (.str q))) (hm : behindInMarks .NotIn b = false := by rfl) : MT X ρ (.Compare a [.NotIn] [b] pos) (!decide (ch ∈ q.cps.toList)) := mt_cmp op_notIn_sign ha hb (.str _) (.str _) (fun _ _ k => ⟨ch, q, rfl, rfl, k⟩) hm
/-- x = [elt for target in source], on one line -/
theorem m_setLc {α : Type} {xs : List α} {enc : α → D} {wi : TI} {g : TG} {scope : Scope} {vs : List Nat} (p : ∀ te : TE, (∀ (s : Shared) (H : Hp) (C : Addr) (cl : List (Str × Addr)) (fp : List Addr), PE (X.blk s H scope (compEnvC scope cl C X.env) fp) elt te) → PS X st (tAsg (tLc wi g tYes te vs) (gName i)))
    (h : MIc X ρ wi (xs.map enc)) (f : α → D) (hz : xs.length < sizeLine)
    (hs : ∀ d ∈ xs, ∃ τ ws, MTg g X.K (wipeS ρ vs) (enc d) τ ws ∧ (∀ w ∈ ws, w ∈ vs) ∧ ∀ (s : Shared) (H : Hp) (C : Addr) (cl : List (Str × Addr)) (fp : List Addr), ME (X.blk s H scope (compEnvC scope cl C X.env) fp) τ elt (.fz (f d)))
    (k : G.nx (ρ.set i (some (.lst ((xs.map f).map .fz))))) (hi : i < ρ.length := by exact Nat.le_of_ble_eq_true rfl) : MS1 X ρ st G := .mk fun Z0 F Z σ H D s gd => by
  refine PS_w (p (fun σ H Q => ∀ (s : Shared) (H' : Hp) (C : Addr) (cl : List (Str × Addr)) (fp : List Addr), wE (X.blk s H' scope (compEnvC scope cl C X.env) fp) elt σ H Q) fun s H' C cl fp => ⟨fun pins s' σ H Q I k => k s H' C cl fp pins s' I⟩) ?_
  refine lc_run h (fun _ => true) f hz (fun d m => ?_) s fun v Z' H' A g' r n => ?_
  · obtain ⟨τ, ws, t1, t2, t3⟩ := hs d m
    refine ⟨τ, ws, t1, t2, fun Z0 F Z σ H s Q q => q Z H (Gr.refl s.ex), fun _ Z0 F Z σ H s Q q s' H' C cl fp => (t3 s' H' C cl fp).run Z0 F Z σ H s Q fun v Z' H' A g r n => ?_⟩
    cases r with
    | fz r => exact q v Z' H' g r
  · rw [List.filter_eq_self.mpr fun _ _ => rfl] at r
    exact gd.nx _ Z' _ H' k (s.put g' r n hi)
theorem me_gI {t : Tok} (hm : X.mg nm = some (.int m t)) (hg : Gl X nm := by rfl) (hd : (nm == ("__debug__" : Str)) = false := by decide) : ME X ρ (.Name nm pos) (.fz (.int m)) := me_c (pe_glob (v := .int m) hg hm ⟨t, rfl⟩ hd) (.int m)
theorem me_gS {t : Tok} (hm : X.mg nm = some (.str p t)) (hg : Gl X nm := by rfl) (hd : (nm == ("__debug__" : Str)) = false := by decide) : ME X ρ (.Name nm pos) (.fz (.str p)) := me_c (pe_glob (v := .str p) hg hm ⟨t, rfl⟩ hd) (.str p)
end
end M
namespace M
open PySem L2 PySem.Spec PyProof.Rows
theorem Le.trans : ∀ {ρ τ υ : Slots}, Le ρ τ → Le τ υ → Le ρ υ
  | _, _, _, .nil, h => h
  | _, _, _, .no l, .no r => .no (l.trans r)
  | _, _, _, .no l, .eq r => .no (l.trans r)
  | _, _, _, .eq l, .no r => .no (l.trans r)
  | _, _, _, .eq l, .eq r => .eq (l.trans r)
/-- what the text tells of a class: its attributes' names are no names of the class -/
structure OC (K : PySem.W.Frag) (C : Addr) (ns : List Str) : Prop where
  cl : Cls K C
  na : ∀ f ∈ ns, NoAttr K C f
def nmAt : List Str → Str → Option Nat
  | [], _ => none
  | n :: r, f => if f = n then some 0 else (nmAt r f).map (· + 1)
theorem nmAt_mem : ∀ {ns : List Str} {f : Str} {j : Nat}, nmAt ns f = some j → f ∈ ns
  | n :: r, f, j, h => by
    unfold nmAt at h
    by_cases e : f = n
    · subst e
      exact List.mem_cons_self
    · rw [if_neg e] at h
      cases h1 : nmAt r f with
      | none =>
        rw [h1] at h
        cases h
      | some i => exact List.mem_cons_of_mem _ (nmAt_mem h1)
theorem look_zip : ∀ {ns : List Str} {f : Str} {j : Nat} {vs : List V} {v : V}, nmAt ns f = some j → vs[j]? = some v → (ns.zip vs).lookup f = some v
  | n :: r, f, j, vs, v, h, hv => by
    unfold nmAt at h
    cases vs with
    | nil => simp at hv
    | cons u us =>
      by_cases e : f = n
      · rw [if_pos e] at h
        cases h
        simp at hv
        subst hv
        show List.lookup f ((n, u) :: r.zip us) = _
        simp only [List.lookup, beq_iff_eq.mpr e]
      · rw [if_neg e] at h
        cases h1 : nmAt r f with
        | none =>
          rw [h1] at h
          cases h
        | some i =>
          rw [h1] at h
          cases h
          show List.lookup f ((n, u) :: r.zip us) = _
          simp only [List.lookup, beq_eq_false_iff_ne.mpr e]
          exact look_zip h1 (by simpa using hv)
theorem look_none : ∀ {ns : List Str} {f : Str} {vs : List V}, nmAt ns f = none → (ns.zip vs).lookup f = none
  | [], f, vs, _ => by simp
  | n :: r, f, [], _ => by simp
  | n :: r, f, u :: us, h => by
    unfold nmAt at h
    by_cases e : f = n
    · rw [if_pos e] at h
      cases h
    · rw [if_neg e] at h
      show List.lookup f ((n, u) :: r.zip us) = none
      simp only [List.lookup, beq_eq_false_iff_ne.mpr e]
      refine look_none ?_
      cases h1 : nmAt r f with
      | none => rfl
      | some i =>
        rw [h1] at h
        cases h
/-- a name is put: it stands there, or comes behind -/
def nsPut : List Str → Str → List Str
  | [], f => [f]
  | n :: r, f => if n = f then n :: r else n :: nsPut r f
def xsPut {α : Type} : List Str → Str → List α → α → List α
  | n :: r, f, u :: us, v => if n = f then v :: us else u :: xsPut r f us v
  | _, _, _, v => [v]
theorem put_zip : ∀ {ns : List Str} {f : Str} {vs : List V} {v : V}, vs.length = ns.length → putF f v (ns.zip vs) = (nsPut ns f).zip (xsPut ns f vs v)
  | [], f, [], v, _ => rfl
  | n :: r, f, u :: us, v, h => by
    show putF f v ((n, u) :: r.zip us) = _
    unfold putF nsPut xsPut
    by_cases e : n = f
    · rw [if_pos e, if_pos e, if_pos e]
      rfl
    · rw [if_neg e, if_neg e, if_neg e, put_zip (by simpa using h)]
      rfl
section
variable {K : PySem.W.Frag} {Z Z' F F' H H' : Hp}
theorem RepOL.put {w : V} {o : O} {B : List Addr} (r : RepO K Z F H w o B) (nB : B.Nodup) : ∀ {ns : List Str} {f : Str} {vs : List V} {os : List O} {A : List Addr}, vs.length = ns.length → RepOL K Z F H vs os A → A.Nodup → (∀ a ∈ A, a ∉ B) →
    ∃ A', RepOL K Z F H (xsPut ns f vs w) (xsPut ns f os o) A' ∧ A'.Nodup ∧ ∀ a ∈ A', a ∈ A ∨ a ∈ B
  | [], f, [], [], _, _, .nil, _, _ => ⟨B ++ [], .cons r .nil, by rw [List.append_nil]; exact nB, fun a m => .inr (by rw [List.append_nil] at m; exact m)⟩
  | n :: ns, f, v :: vs, o1 :: os, _, hl, .cons (A := A1) (B := A2) h1 h2, nA, d => by
    obtain ⟨n1, n2, n3⟩ := List.nodup_append.mp nA
    unfold xsPut
    by_cases e : n = f
    · rw [if_pos e, if_pos e]
      refine ⟨B ++ A2, .cons r h2, List.nodup_append.mpr ⟨nB, n2, fun a ha b hb e => ?_⟩, fun a m => ?_⟩
      · subst e
        exact d a (List.mem_append_right _ hb) ha
      · rcases List.mem_append.mp m with m | m
        · exact .inr m
        · exact .inl (List.mem_append_right _ m)
    · rw [if_neg e, if_neg e]
      obtain ⟨A', q1, q2, q3⟩ := RepOL.put r nB (ns := ns) (f := f) (vs := vs) (os := os) (by simpa using hl) h2 n2 fun a m => d a (List.mem_append_right _ m)
      refine ⟨A1 ++ A', .cons h1 q1, List.nodup_append.mpr ⟨n1, q2, fun a ha b hb e => ?_⟩, fun a m => ?_⟩
      · subst e
        rcases q3 a hb with z | z
        · exact n3 a ha a z rfl
        · exact d a (List.mem_append_left _ ha) z
      · rcases List.mem_append.mp m with m | m
        · exact .inl (List.mem_append_left _ m)
        · exact (q3 a m).imp (List.mem_append_right _) id
theorem RepO.unAt {v : V} {a C : Addr} {ns : List Str} {os : List O} {A : List Addr} (r : RepO K Z F H v (.at a C ns os) A) : RepO K Z F H v (.ins C ns os) A := by
  cases r with
  | «at» h q => exact .ins h q
end
section
variable {X : Cx} {ρ : Slots} {e a b c elt : Expr} {es rest : List Expr} {st : Stmt} {sts : List Stmt} {G : Go} {o o1 o2 : O} {d : D} {ds : List D} {os : List O} {pos p0 p1 p2 p3 p4 p5 p6 : Pos} {i : Nat} {x nm f : Str} {m n k : Int} {p q : Str} {C : Addr} {ns : List Str}
/-- e.f of a frozen instance -/
theorem me_fld {j : Nat} (h : MV X ρ e (.fz (.ins C ns ds))) (cc : OC X.K C ns) (hd : ds[j]? = some d := by rfl) (hj : nmAt ns f = some j := by decide +kernel) (hb : attributeBase e f X.env (eval e X.env) = eval e X.env := by rfl) : ME X ρ (.Attribute e f pos) (.fz d) := .mk fun Z0 F Z σ H s Q q =>
  PE_w (pe_fld pe_w hb) (h.run Z0 F Z σ H s _ fun v Z1 H1 A g1 r1 => by
    cases r1 with
    | fz r1 =>
      cases r1 with
      | @ins a C dx ns vs ds hz rl =>
        obtain ⟨v, hv, rv⟩ := rl.get hd
        exact ⟨a, C, dx, _, v, rfl, g1.zh _ _ hz, cc.cl, cc.na f (nmAt_mem hj), look_zip hj hv, q v Z1 H1 [] g1 (.fz rv) .nil⟩)
/-- e.f of an own instance -/
theorem mv_fld {j : Nat} (h : MV X ρ e (.ins C ns os)) (cc : OC X.K C ns) (hd : os[j]? = some o := by rfl) (hj : nmAt ns f = some j := by decide +kernel) (hb : attributeBase e f X.env (eval e X.env) = eval e X.env := by rfl) : MV X ρ (.Attribute e f pos) o := .mk fun Z0 F Z σ H s Q q =>
  PE_w (pe_fld pe_w hb) (h.run Z0 F Z σ H s _ fun v Z1 H1 A g1 r1 => by
    cases r1 with
    | @ins a C dx ns vs os A hz rl =>
      obtain ⟨v, B, hv, rv⟩ := rl.get hd
      exact ⟨a, C, dx, _, v, rfl, hz, cc.cl, cc.na f (nmAt_mem hj), look_zip hj hv, q v Z1 H1 B g1 rv⟩)
theorem MV.unAt {l : Addr} (h : MV X ρ e (.at l C ns os)) : MV X ρ e (.ins C ns os) := .mk fun Z0 F Z σ H s Q q => h.run Z0 F Z σ H s Q fun v Z1 H1 A g r => q v Z1 H1 A g r.unAt
theorem ME.unAt {l : Addr} (h : ME X ρ e (.at l C ns os)) : ME X ρ e (.ins C ns os) := .mk fun Z0 F Z σ H s Q q => h.run Z0 F Z σ H s Q fun v Z1 H1 A g r => q v Z1 H1 A g r.unAt
theorem mv_fldA {l : Addr} {j : Nat} (h : MV X ρ e (.at l C ns os)) (cc : OC X.K C ns) (hd : os[j]? = some o := by rfl) (hj : nmAt ns f = some j := by decide +kernel) (hb : attributeBase e f X.env (eval e X.env) = eval e X.env := by rfl) : MV X ρ (.Attribute e f pos) o := mv_fld h.unAt cc hd hj hb
/-- x.f = e, x a slot with an own instance at a known place; all: every attribute's name that the class has -/
theorem m_setFld {l : Addr} {all : List Str} (pn : PE X (.Name x p1) (tVar i)) (hi : ρ[i]? = some (some (.at l C ns os))) (hl : os.length = ns.length := by rfl) (h1000 : ns.length < 1000 := by decide) (cc : OC X.K C all) (hm : f ∈ all := by decide +kernel) (he : ME X ρ e o)
    (kk : G.nx (ρ.set i (some (.at l C (nsPut ns f) (xsPut ns f os o)))))
    (hs : swapsWith e (some (.Attribute (.Name x p1) f p2)) p3.line X.env = pure false := by rfl) : MS1 X ρ (.Assign [.Attribute (.Name x p1) f p2] e p3) G := .mk fun Z0 F Z σ H D s g => by
  obtain ⟨v, A, e1, r1, nA, dA, k1⟩ := s.upd hi
  cases r1 with
  | @«at» l C dx ns vs os A h0 r1 =>
    have hlv : vs.length = ns.length := by rw [r1.length]; exact hl
    refine PS_w (ps_fld pn pe_w hs) (he.run Z0 F Z σ H s _ fun w Z1 H1 B g1 r2 n2 => ?_)
    refine ⟨_, e1, l, C, dx, _, rfl, g1.hh _ _ h0, cc.cl, cc.na f hm, by rw [List.length_zip, hlv]; omega, ?_⟩
    rw [put_zip hlv]
    obtain ⟨na, nA'⟩ := List.nodup_cons.mp nA
    have zl : Z1 l = none := by
      rw [g1.nw l _ h0]
      exact (dA l List.mem_cons_self).1
    have there : ∀ b ∈ l :: A, ∃ u, H b = some u := (RepO.at (Z := Z) (F := F) (H := H) h0 r1).there
    have nb : ∀ b ∈ B, b ≠ l := fun b m q => by
      have := (n2.2 b m).1
      rw [q, h0] at this
      cases this
    have r1' : RepOL X.K Z1 F (upd H1 l (.ins C dx ((nsPut ns f).zip (xsPut ns f vs w)))) vs os A := r1.mono g1.zz (Ex.refl _) fun b m u hu => by
      have ne : b ≠ l := fun q => na (by rw [← q]; exact m)
      rw [upd_ne ne]
      exact g1.hh b u hu
    have r2' : RepO X.K Z1 F (upd H1 l (.ins C dx ((nsPut ns f).zip (xsPut ns f vs w)))) w o B := r2.frame fun b m => upd_ne (nb b m)
    obtain ⟨A', q1, q2, q3⟩ := RepOL.put r2' n2.1 hlv r1' nA' fun b m mb => by
      obtain ⟨u, hu⟩ := there b (List.mem_cons_of_mem _ m)
      rw [(n2.2 b mb).1] at hu
      cases hu
    refine g.nx _ Z1 σ _ kk ?_
    refine k1 g1.zz g1.nw (g1.zh.mut zl) (fun b nb u hu => ?_) (.at upd_same q1) (List.nodup_cons.mpr ⟨fun m => ?_, q2⟩) fun b m => ?_
    · have ne : b ≠ l := fun q => nb (by rw [q]; exact List.mem_cons_self)
      rw [upd_ne ne]
      exact g1.hh b u hu
    · rcases q3 _ m with z | z
      · exact na z
      · exact nb _ z rfl
    · rcases List.mem_cons.mp m with z | z
      · exact .inl (by rw [z]; exact List.mem_cons_self)
      · rcases q3 _ z with z | z
        · exact .inl (List.mem_cons_of_mem _ z)
        · exact .inr (n2.2 b z)
/-- the promise of an __init__: of a new instance it makes one with the attributes ns -/
def SpI {α : Type} (K : PySem.W.Frag) (C : Addr) (ns : List Str) (ar : α → List O) (pre : α → Prop) (res : α → List O) : Sp := fun vs H Q _ => ∃ (x : α) (Z F : Hp) (l dx : Addr) (vs' : List V), vs = .ref l :: vs' ∧ Ex Z F ∧ Ex F H ∧ F l = none ∧ H l = some (.ins C dx []) ∧ RepOL K Z F F vs' (ar x) [] ∧ pre x ∧
  ∀ Z' H' A, Gr Z F Z' H' → RepO K Z' (fun _ => none) H' (.ref l) (.at l C ns (res x)) A → New F Z' A → Q .non H'
structure Mk1 (P : Program) (w : World) (K : PySem.W.Frag) (mg : Str → Option Value) (base : Heap) (name : Str) (C : Addr) (k : Nat) (ps : List Str) (sp : Sp) : Prop where
  ex : ∃ (f : Addr) (fd : FuncData), mg name = some (.ref C) ∧ Mk K C f ∧ Binds K fd ps [] ∧ FnOk P w K mg base CX0 k f fd ps sp
theorem me_make {α : Type} {ar : α → List O} {pre : α → Prop} {res : α → List O} {k : Nat} {ps : List Str} (c : Mk1 X.prog X.w X.K X.mg X.base nm C k ps (SpI X.K C ns ar pre res)) (x : α) (ha : MA X ρ (e :: es) (ar x)) (hp : pre x) (hr : Room (k + 1) X.A) {os : List O} (hres : res x = os := by first | (dsimp only; done) | (dsimp only; rfl) | rfl) (hg : Gl X nm := by rfl)
    (hdb : (nm == ("__debug__" : Str)) = false := by decide) (he : starEach (e :: es) X.env = (false, eval e X.env) :: starEach es X.env := by rfl) (hpl : (backTo pos (starEach es X.env)).any (·.1) = false := by rfl) : ME X ρ (.Call (.Name nm p0) (e :: es) [] pos) (.ins C ns os) := by
  subst hres
  obtain ⟨f, fd, hm, M, hb, F⟩ := c.ex
  exact .mk fun Z0 F0 Z σ H s Q q => PE_w (pe_make M F hr hg hm hb .nil pass0 pa_w hdb he hpl) (ha.run Z0 F0 Z σ H s _ fun vs Z1 H1 g1 r1 l dx nl ndx ne =>
    ⟨x, Z1, H1, l, dx, vs, by rw [List.append_nil], g1.zh, (Ex.new ndx).trans (Ex.new (by rw [upd_ne ne.symm]; exact nl)), nl, upd_same, r1, hp, fun Z2 H2 A g2 r2 n2 =>
      ⟨rfl, q (.ref l) Z2 H2 A (g1.trans g2) (r2.unAt.mono (Ex.refl _) (fun _ _ z => by cases z) fun _ _ _ z => z) ⟨n2.1, fun a m => ⟨g1.hh.free (n2.2 a m).1, (n2.2 a m).2⟩⟩⟩⟩)
/-- an __init__'s body keeps its promise -/
theorem fn_mI {α : Type} {P : Program} {w : World} {K : PySem.W.Frag} {mg : Str → Option Value} {base : Heap} {x qual : Str} {st : Stmt} {f : Addr} {fd : FuncData} {N ps : List Str} {k : Nat} {ar : α → List O} {pre : α → Prop} {res : α → List O} {C : Addr} {ns : List Str}
    (F : Fun K x qual st f fd) (S : FnScope N ps (defScope st)) (hl : ∀ x, (ar x).length + 1 = ps.length) (hn : ∀ x, pre x → O.nvL (res x) = true)
    (hb : ∀ (cdv : Value) (A : Around) (outer : List Env) (s : Shared) (H : Hp) (E : XK), Room k (A.deeper (envOfC qual (defScope st) s.heap.objs.size f cdv)) → ∀ (l : Addr) x, pre x →
      MS (cxOf CX0 P w K mg base N qual (defScope st) f cdv A outer s H E).nox (some (.at l C [] []) :: (ar x).map some ++ List.replicate (N.length - ps.length) none) (defBody st) { nx := fun ρ => ρ[0]? = some (some (.at l C ns (res x))) }) :
    FnOk P w K mg base CX0 (k + 1) f fd ps (SpI K C ns ar pre res) := by
  refine F.ok S (fun vs H Q E h => ?_) (fun cdv A outer s H vs Q E hr h => ?_)
  · obtain ⟨x, Z, F, l, dx, vs', rfl, _, _, _, _, r, _⟩ := h
    rw [List.length_cons, r.length, hl]
  · obtain ⟨x, Z, F0, l, dx, vs', rfl, ez, ef, nl, hi, r, hp, q⟩ := h
    have zl : Z l = none := ez.free nl
    have st0 : StL K Z F0 H (some (.at l C [] []) :: (ar x).map some) (some (.ref l) :: vs'.map some) ([l] ++ []) := .so (.at (dx := dx) hi .nil) (stL_args (r.mono (Ex.refl _) (Ex.refl _) fun _ m => nomatch m))
    refine ⟨_, pss_w, (hb cdv A outer s H E hr l x hp).run Z F0 Z _ H _ ⟨⟨Ex.refl _, ef, ez.trans ef, fun _ _ _ => rfl⟩, [l] ++ [], ?_, by simp, fun a m => ?_⟩ ⟨fun ρ Z' σ H' e s' => ?_, fun _ _ _ _ z => z.elim, fun _ _ _ _ z => z.elim, fun _ _ _ _ _ z => z.elim, fun _ _ _ _ _ _ z => z.elim, GX.never fun _ z => z⟩⟩
    · have e : L2.start N (.ref l :: vs') = (some (.ref l) :: vs'.map some) ++ List.replicate (N.length - ps.length) none := by
        unfold L2.start
        rw [List.length_cons, r.length, hl]
        rfl
      rw [e]
      exact stL_more _ st0
    · have : a = l := by simpa using m
      subst this
      exact ⟨zl, nl⟩
    · obtain ⟨A1, t1, t2, t3⟩ := s'.st
      obtain ⟨v, B, u1, u2, u3, u4, _⟩ := t1.at e t2
      cases u2 with
      | «at» h0 rl => exact q Z' H' _ s'.gr ((RepO.at h0 rl).unF (show O.nvL (res x) = true from hn x hp)) ⟨u3, fun a m => ⟨(t3 a (u4 a m)).2, (t3 a (u4 a m)).1⟩⟩
structure Mt1 (P : Program) (w : World) (K : PySem.W.Frag) (mg : Str → Option Value) (base : Heap) (C : Addr) (m : Str) (k : Nat) (ps : List Str) (sp : Sp) : Prop where
  ex : ∃ (f : Addr) (fd : FuncData), Meth K C m f ∧ Binds K fd ps [] ∧ FnOk P w K mg base CX0 k f fd ps sp
theorem me_mt {α : Type} {ar : α → List O} {pre : α → Prop} {res : α → O} {k : Nat} {ps : List Str} {ro : List O} {pl : Sem Bool} (c : Mt1 X.prog X.w X.K X.mg X.base C nm k ps (SpM X.K ar pre res)) (cc : OC X.K C ns) (x : α) (ho : MV X ρ a (.fz (.ins C ns ds))) (ha : MA X ρ (e :: es) ro) (hx : ar x = .fz (.ins C ns ds) :: ro) (hp : pre x) (hr : Room k X.A) {o : O} (hres : res x = o := by first | (dsimp only; done) | (dsimp only; rfl) | rfl)
    (hnm : nmAt ns nm = none := by decide +kernel) (he : starEach (e :: es) X.env = (false, eval e X.env) :: starEach es X.env := by rfl) (hpl : (backTo pos (starEach es X.env)).any (·.1) = false := by rfl)
    (ht : eval (.Call (.Attribute a nm p1) (e :: es) [] pos) X.env = (do
      let ov ← eval a X.env
      standAt p1.atName
      let (f, first) ← holding [ov] (getMethod ov nm pl)
      callWith pos f first (backTo pos (starEach (e :: es) X.env)) (backToKw pos (keywordEach [] X.env))) := by rfl) : ME X ρ (.Call (.Attribute a nm p1) (e :: es) [] pos) o := by
  subst hres
  obtain ⟨f, fd, hm, hb, F⟩ := c.ex
  exact .mk fun Z0 F0 Z σ H s Q q => PE_w (pe_meth (pl := pl) pe_w cc.cl hm F hr hb .nil pass0 pa_w he hpl ht) (ho.run Z0 F0 Z σ H s _ fun v Z1 H1 A1 g1 r1 => by
    cases r1 with
    | fz r1 =>
      have r1' := r1
      cases r1' with
      | @ins l C dx ns vs0 ds hz rl =>
        refine ⟨l, dx, _, rfl, g1.zh _ _ hz, look_none hnm, ha.run Z0 F0 Z1 σ H1 (s.grow g1) _ fun vs Z2 H2 g2 r2 => ?_⟩
        refine ⟨x, Z2, g2.zh, by rw [List.append_nil, hx]; exact .cons (A := []) (.fz (r1.mono g2.zz)) r2, hp, fun v Z3 H3 A g3 r3 n3 => ?_⟩
        exact q v Z3 H3 A ((g1.trans g2).trans g3) (r3.mono (Ex.refl _) (fun _ _ z => by cases z) fun _ _ _ z => z) ⟨n3.1, fun a m => ⟨(g1.trans g2).hh.free (n3.2 a m).1, (n3.2 a m).2⟩⟩)
theorem me_mt0 {α : Type} {ar : α → List O} {pre : α → Prop} {res : α → O} {k : Nat} {ps : List Str} {pl : Sem Bool} (c : Mt1 X.prog X.w X.K X.mg X.base C nm k ps (SpM X.K ar pre res)) (cc : OC X.K C ns) (x : α) (ho : MV X ρ a (.fz (.ins C ns ds))) (hx : ar x = [.fz (.ins C ns ds)]) (hp : pre x) (hr : Room k X.A) {o : O} (hres : res x = o := by first | (dsimp only; done) | (dsimp only; rfl) | rfl)
    (hnm : nmAt ns nm = none := by decide +kernel)
    (ht : eval (.Call (.Attribute a nm p1) [] [] pos) X.env = (do
      let ov ← eval a X.env
      standAt p1.atName
      let (f, first) ← holding [ov] (getMethod ov nm pl)
      callWith pos f first (backTo pos (starEach [] X.env)) (backToKw pos (keywordEach [] X.env))) := by rfl) : ME X ρ (.Call (.Attribute a nm p1) [] [] pos) o := by
  subst hres
  obtain ⟨f, fd, hm, hb, F⟩ := c.ex
  exact .mk fun Z0 F0 Z σ H s Q q => PE_w (pe_meth0 (pl := pl) pe_w cc.cl hm F hr hb .nil pass0 ht) (ho.run Z0 F0 Z σ H s _ fun v Z1 H1 A1 g1 r1 => by
    cases r1 with
    | fz r1 =>
      have r1' := r1
      cases r1' with
      | @ins l C dx ns vs0 ds hz rl =>
        refine ⟨l, dx, _, rfl, g1.zh _ _ hz, look_none hnm, ?_⟩
        refine ⟨x, Z1, g1.zh, by rw [List.append_nil, hx]; exact .cons (A := []) (.fz r1) .nil, hp, fun v Z3 H3 A g3 r3 n3 => ?_⟩
        exact q v Z3 H3 A (g1.trans g3) (r3.mono (Ex.refl _) (fun _ _ z => by cases z) fun _ _ _ z => z) ⟨n3.1, fun a m => ⟨g1.hh.free (n3.2 a m).1, (n3.2 a m).2⟩⟩)
end
end M
namespace M
open PySem L2 PySem.Spec PyProof.Rows
section
variable {X : Cx} {ρ : Slots} {e a b c elt : Expr} {es rest : List Expr} {st : Stmt} {sts : List Stmt} {G : Go} {o o1 o2 : O} {d : D} {ds : List D} {os : List O} {pos p0 p1 p2 p3 p4 p5 p6 : Pos} {i : Nat} {x nm f : Str} {m n k : Int} {p q : Str} {C : Addr} {ns : List Int}
end
end M
namespace M
open PySem L2 PySem.Spec PyProof.Rows
section
variable {X : Cx} {tg : Expr}
end
section
variable {X : Cx} {ρ : Slots} {es : List Expr} {k j : Int}
end
end M
namespace M
open PySem L2 PySem.Spec PyProof.Rows
section
variable {X : Cx} {ρ : Slots} {a b : Expr} {pos : Pos} {k l : Bool}
end
end M
namespace M
open PySem L2 PySem.Spec PyProof.Rows
section
variable {β : Type} {K : PySem.W.Frag} {Z : Hp} {enc : β → D}
def StandFor (K : PySem.W.Frag) (Z : Hp) (enc : β → D) (u : Value) (b : β) : Prop := ∃ x, RelV x u ∧ Rep K Z x (enc b) ∧ (enc b).pl = true
theorem each_of : ∀ {xs : List V} {us : List Value} {bs : List β}, Vals xs us → RepL K Z xs (bs.map enc) → (∀ b ∈ bs, (enc b).pl = true) → PySem.W.EachIs (StandFor K Z enc) us bs
  | [], _, [], .nil, .nil, _ => .nil
  | _ :: _, _, _ :: _, .cons r1 r2, .cons h1 h2, hp => .cons ⟨_, r1, h1, hp _ List.mem_cons_self⟩ (each_of r2 h2 fun b m => hp b (List.mem_cons_of_mem _ m))
theorem each_back : ∀ {us : List Value} {bs : List β}, PySem.W.EachIs (StandFor K Z enc) us bs → ∃ xs, Vals xs us ∧ RepL K Z xs (bs.map enc)
  | _, _, .nil => ⟨[], .nil, .nil⟩
  | _, _, .cons ⟨x, r, h, _⟩ t => by
    obtain ⟨xs, q1, q2⟩ := each_back t
    exact ⟨x :: xs, .cons r q1, .cons h q2⟩
def rSortD (K : PySem.W.Frag) (enc : β → D) (bs : List β) : List V → Hp → VK → Prop := fun vs H Q => ∃ (Z : Hp) (l : Addr) (xs : List V), vs = [.ref l] ∧ SqL K H l xs ∧ RepL K Z xs (bs.map enc) ∧ Ex Z H ∧
  ∀ ys p, RepL K Z ys ((bs.mergeSort (PySem.W.dataLe false fun b => (enc b).py)).map enc) → H p = none → Q (.ref p) (upd H p (.lst ys))
theorem cr_sortD {X : Cx} {bs : List β} (hu : X.A.units + 64 < cLine) (hp : ∀ b ∈ bs, (enc b).pl = true) (hal : PySem.W.AllAlike (bs.map fun b => (enc b).py)) (hk : PySem.W.Sortable (bs.map fun b => (enc b).py)) (hd : ∀ b ∈ bs, (enc b).py.depth ≤ 60) : CallR X (.builtin "sorted") (rSortD X.K enc bs) := by
  intro pins s σ H vs us Q I r h
  obtain ⟨Z, l, xs, rfl, hs, rl, ez, q⟩ := h
  obtain ⟨its, rv, hl, hz⟩ := I.list hs
  obtain ⟨u, rfl, ru⟩ := vals1 r
  obtain rfl : u = Value.ref l := ru
  have hlen : its.length = bs.length := by rw [← rv.length, rl.length, List.length_map]
  have e := each_of rv rl hp
  have er : PySem.W.EachIs (fun v b => ∃ as, Reads s.heap v ((enc b).py) as) its bs := e.mono fun u b ⟨x, rx, rr, hpl⟩ => Dp.reads I _ x u (rr.dp ez hpl) rx
  refine PySem.W.sorted_data (enc := fun b => (enc b).py) hl.isList e er hal hk (by rw [← hlen, ← rv.length]; exact hz) (fun b m => by have := hd b m; omega) fun out ho hR => ?_
  obtain ⟨ys, v1, v2⟩ := each_back hR
  have hfree : H (s.heap.objs.size + 1) = none := I.hok.fresh (Nat.le_succ _)
  obtain ⟨n, hn⟩ := sortedAll_at s.heap its out.toArray
  refine ⟨.ref (s.heap.objs.size + 1), upd H (s.heap.objs.size + 1) (.lst ys), I.laid (t' := s.toks) (fun b o e => sortedAll_old e) (Nat.le_succ _) ⟨?_, out, n, v1, hn⟩, rfl, q ys _ v2 hfree⟩
  rw [v1.length, ho, ← hlen, ← rv.length]
  exact hz
end
section
variable {X : Cx} {ρ : Slots} {a : Expr} {pos p0 p1 p2 p3 p4 : Pos} {β : Type} {enc : β → D} {bs : List β}
theorem me_sorted (hu : X.A.units + 64 < cLine) (hg : Gl X "sorted") (hm : X.mg "sorted" = none) (ha : ML X ρ a (bs.map enc)) (hp : ∀ b ∈ bs, (enc b).pl = true) (hal : PySem.W.AllAlike (bs.map fun b => (enc b).py)) (hk : PySem.W.Sortable (bs.map fun b => (enc b).py)) (hd : ∀ b ∈ bs, (enc b).py.depth ≤ 60) (n1 : NS X a := by exact fun _ => rfl) :
    ME X ρ (.Call (.Name "sorted" p0) [a] [] pos) (.lst (((bs.mergeSort (PySem.W.dataLe false fun b => (enc b).py)).map enc).map .fz)) := .mk fun Z0 F Z σ H s Q q =>
  PE_w (pe_callB (cr_sortD hu hp hal hk hd) hg hm (by decide +kernel) (pa_cons pe_w pa_nil (n1 _)) (he := n1 _)) (ha.run Z0 F Z σ H s _ fun l vs Z1 H1 g1 l1 r1 =>
    ⟨Z1, l, vs, rfl, l1, r1, g1.zh, fun ys p ry hp => q _ Z1 _ [p] (g1.trans (Gr.new g1.zh hp)) (.lst upd_same ry.own) (new_one (g1.hh.free hp) (g1.zh.free hp))⟩)
end
section
variable {X : Cx} {ρ : Slots} {a b e : Expr} {G : Go} {pos p0 p1 p2 p3 p4 : Pos} {k l : Bool} {i : Nat} {x : Str} {d : D} {ds : List D}
end
end M
namespace M
open PySem L2 PySem.Spec PyProof.Rows
section
variable {X : Cx} {ρ : Slots} {a : Expr} {pos p0 p1 : Pos} {C E : Addr} {ns : List Str} {ds : List D} {os : List O} {nm : Str} {k : Bool} {o : O}
end
section
variable {K : PySem.W.Frag} {Z0 Z Z' F F' H H' : Hp} {ρ : Slots} {σ : L2.St}
theorem StL.push {v : V} {o : O} {B : List Addr} (r : RepO K Z F H v o B) : ∀ {ρ : Slots} {σ : L2.St} {A : List Addr}, StL K Z F H ρ σ A → StL K Z F H (ρ ++ [some o]) (σ ++ [some v]) (A ++ B)
  | _, _, _, .nil => by
    have := StL.so r (.nil (K := K) (Z := Z) (F := F) (H := H))
    rw [List.append_nil] at this
    exact this
  | _, _, _, .no h => .no (h.push r)
  | _, _, _, .so q h => by
    rw [List.append_assoc]
    exact .so q (h.push r)
theorem StR.push {v : V} {o : O} {B : List Addr} (s : StR K ρ Z0 F Z σ H) (g : Gr Z H Z' H') (r : RepO K Z' F H' v o B) (n : New H Z' B) : StR K (ρ ++ [some o]) Z0 F Z' (σ ++ [some v]) H' := by
  have s' := s.grow g
  obtain ⟨A, h1, h2, h3⟩ := s.st
  have m1 : StL K Z' F H' ρ σ A := h1.mono g.zz fun a _ u e => g.hh a u e
  refine ⟨s'.gr, A ++ B, m1.push r, List.nodup_append.mpr ⟨h2, n.1, fun a ha b hb e => ?_⟩, fun a m => ?_⟩
  · subst e
    obtain ⟨u, e⟩ := h1.there a ha
    rw [(n.2 a hb).1] at e
    cases e
  · rcases List.mem_append.mp m with z | z
    · obtain ⟨u, e⟩ := h1.there a z
      exact ⟨(g.nw a u e).trans (h3 a z).1, (h3 a z).2⟩
    · exact ⟨(n.2 a z).2, s.gr.hh.free (n.2 a z).1⟩
theorem StL.last' : ∀ {τ : Slots} {υ : L2.St} {A : List Addr}, StL K Z F H τ υ A → A.Nodup → ∀ {ρ : Slots} {o : O} {σ : L2.St} {v : V}, τ = ρ ++ [some o] → υ = σ ++ [some v] → ∃ B C, StL K Z F H ρ σ B ∧ RepO K Z F H v o C ∧ (B ++ C).Nodup ∧ (∀ a ∈ B ++ C, a ∈ A)
  | _, _, _, .nil, _, ρ, o, σ, v, e1, e2 => by simp at e1
  | _, _, _, .no h, n, ρ, o, σ, v, e1, e2 => by
    cases ρ with
    | nil => simp at e1
    | cons x ρ =>
      cases σ with
      | nil =>
        have l := h.length
        simp at e1 e2
        rw [e1.2, e2.2] at l
        simp at l
      | cons y σ =>
        simp at e1 e2
        obtain ⟨e1a, e1b⟩ := e1
        obtain ⟨e2a, e2b⟩ := e2
        obtain ⟨B, C, q1, q2, q3, q4⟩ := h.last' n e1b e2b
        subst e1a
        exact ⟨B, C, .no q1, q2, q3, q4⟩
  | _, _, _, .so (A := A1) (B := A2) r h, n, ρ, o, σ, v, e1, e2 => by
    obtain ⟨n1, n2, n3⟩ := List.nodup_append.mp n
    cases ρ with
    | nil =>
      cases σ with
      | nil =>
        simp at e1 e2
        obtain ⟨e1a, e1b⟩ := e1
        obtain ⟨e2a, e2b⟩ := e2
        subst e1a e1b e2a e2b
        cases h
        exact ⟨[], A1, .nil, r, by simpa using n, fun a m => by simpa using m⟩
      | cons y σ =>
        have l := h.length
        simp at e1 e2
        rw [e1.2, e2.2] at l
        simp at l
    | cons x ρ =>
      cases σ with
      | nil =>
        have l := h.length
        simp at e1 e2
        rw [e1.2, e2.2] at l
        simp at l
      | cons y σ =>
        simp at e1 e2
        obtain ⟨e1a, e1b⟩ := e1
        obtain ⟨e2a, e2b⟩ := e2
        obtain ⟨B, C, q1, q2, q3, q4⟩ := h.last' n2 e1b e2b
        subst e1a e2a
        refine ⟨A1 ++ B, C, .so r q1, q2, ?_, fun a m => ?_⟩
        · rw [List.append_assoc]
          exact List.nodup_append.mpr ⟨n1, q3, fun a ha b hb => n3 a ha b (q4 b hb)⟩
        · rw [List.append_assoc] at m
          rcases List.mem_append.mp m with m | m
          · exact List.mem_append_left _ m
          · exact List.mem_append_right _ (q4 a m)
theorem StL.last {ρ : Slots} {o : O} {σ : L2.St} {v : V} {A : List Addr} (h : StL K Z F H (ρ ++ [some o]) (σ ++ [some v]) A) (n : A.Nodup) : ∃ B C, StL K Z F H ρ σ B ∧ RepO K Z F H v o C ∧ (B ++ C).Nodup ∧ (∀ a ∈ B ++ C, a ∈ A) := h.last' n rfl rfl
theorem StR.pop {v : V} {o : O} (s : StR K (ρ ++ [some o]) Z0 F Z (σ ++ [some v]) H) : StR K ρ Z0 F Z σ H := by
  obtain ⟨A, h1, h2, h3⟩ := s.st
  obtain ⟨B, C, q1, q2, q3, q4⟩ := h1.last h2
  exact ⟨s.gr, B, q1, (List.nodup_append.mp q3).1, fun a m => h3 a (q4 a (List.mem_append_left _ m))⟩
/-- what is behind comes to a slot -/
theorem StR.take {v : V} {o : O} {i : Nat} (s : StR K (ρ ++ [some o]) Z0 F Z (σ ++ [some v]) H) (hi : i < ρ.length) : StR K (ρ.set i (some o)) Z0 F Z (σ.set i (some v)) H := by
  obtain ⟨A, h1, h2, h3⟩ := s.st
  obtain ⟨B, C, q1, q2, q3, q4⟩ := h1.last h2
  obtain ⟨n1, n2, n3⟩ := List.nodup_append.mp q3
  obtain ⟨A', r1, r2, r3⟩ := StL.put q2 q1 hi n1 n2 fun a ha hb => n3 a hb a ha rfl
  refine ⟨s.gr, A', r1, r2, fun a m => h3 a (q4 a ?_)⟩
  rcases r3 a m with z | z
  · exact List.mem_append_left _ z
  · exact List.mem_append_right _ z
end
structure MX (X : Cx) (ρ : Slots) (e : Expr) (o : O) (ρ' : Slots) : Prop where
  run : ∀ (Z0 F Z : Hp) (σ : L2.St) (H : Hp), StR X.K ρ Z0 F Z σ H → ∀ Q : VK, (∀ v Z' H', StR X.K (ρ' ++ [some o]) Z0 F Z' (σ ++ [some v]) H' → Q v H') → wE X e σ H Q
section
variable {X : Cx} {ρ ρ' : Slots} {e : Expr} {st : Stmt} {G : Go} {o : O} {i : Nat}
theorem ME.x (h : ME X ρ e o) : MX X ρ e o ρ := .mk fun Z0 F Z σ H s Q q => h.run Z0 F Z σ H s Q fun v Z' H' A g r n => q v Z' H' (s.push g r n)
end
end M
namespace M
open PySem L2 PySem.Spec PyProof.Rows
def SpX {α : Type} (K : PySem.W.Frag) (ar : α → List O) (pre : α → Prop) (s0 s1 : Addr → α → O) (res : α → O) : Sp := fun vs H Q _ => ∃ (x : α) (Z F : Hp) (l : Addr) (vs' : List V) (A : List Addr), vs = .ref l :: vs' ∧ Ex Z F ∧ Ex F H ∧ A.Nodup ∧ (∀ a ∈ A, F a = none) ∧ RepO K Z F H (.ref l) (s0 l x) A ∧ RepOL K Z F F vs' (ar x) [] ∧ pre x ∧
  ∀ v Z' H' B, Gr Z F Z' H' → RepOL K Z' (fun _ => none) H' [.ref l, v] [s1 l x, res x] B → B.Nodup → (∀ a ∈ B, F a = none ∧ Z' a = none) → Q v H'
/-- such a def's body keeps its promise -/
theorem fn_mX {α : Type} {P : Program} {w : World} {K : PySem.W.Frag} {mg : Str → Option Value} {base : Heap} {x qual : Str} {st : Stmt} {f : Addr} {fd : FuncData} {N ps : List Str} {k : Nat} {ar : α → List O} {pre : α → Prop} {s0 s1 : Addr → α → O} {res : α → O}
    (F : Fun K x qual st f fd) (S : FnScope N ps (defScope st)) (hl : ∀ x, (ar x).length + 1 = ps.length) (hn1 : ∀ l x, pre x → (s1 l x).nv = true) (hn2 : ∀ x, pre x → (res x).nv = true) (hat : ∀ l x, ∃ C ns os, s1 l x = .at l C ns os)
    (hb : ∀ (cdv : Value) (A : Around) (outer : List Env) (s : Shared) (H : Hp) (E : XK), Room k (A.deeper (envOfC qual (defScope st) s.heap.objs.size f cdv)) → ∀ (l : Addr) x, pre x →
      MS (cxOf CX0 P w K mg base N qual (defScope st) f cdv A outer s H E).nox (some (s0 l x) :: (ar x).map some ++ List.replicate (N.length - ps.length) none) (defBody st) { nx := fun ρ => res x = .fz .non ∧ ρ[0]? = some (some (s1 l x)), rs := fun o ρ => o = res x ∧ ρ[0]? = some (some (s1 l x)) }) :
    FnOk P w K mg base CX0 (k + 1) f fd ps (SpX K ar pre s0 s1 res) := by
  refine F.ok S (fun vs H Q E h => ?_) (fun cdv A outer s H vs Q E hr h => ?_)
  · obtain ⟨x, Z, F, l, vs', A, rfl, _, _, _, _, _, r, _⟩ := h
    rw [List.length_cons, r.length, hl]
  · obtain ⟨x, Z, F0, l, vs', A0, rfl, ez, ef, nA, fA, rs, r, hp, q⟩ := h
    obtain ⟨C, ns, os, hs1⟩ := hat l x
    have st0 : StL K Z F0 H (some (s0 l x) :: (ar x).map some) (some (.ref l) :: vs'.map some) (A0 ++ []) := .so rs (stL_args (r.mono (Ex.refl _) (Ex.refl _) fun _ m => nomatch m))
    refine ⟨_, pss_w, (hb cdv A outer s H E hr l x hp).run Z F0 Z _ H _ ⟨⟨Ex.refl _, ef, ez.trans ef, fun _ _ _ => rfl⟩, A0 ++ [], ?_, by rw [List.append_nil]; exact nA, fun a m => ?_⟩ ⟨fun ρ Z' σ H' e s' => ?_, fun _ _ _ _ z => z.elim, fun _ _ _ _ z => z.elim, fun _ _ _ _ _ z => z.elim, fun o ρ v Z' σ H' e s' => ?_, GX.never fun _ z => z⟩⟩
    · have e : L2.start N (.ref l :: vs') = (some (.ref l) :: vs'.map some) ++ List.replicate (N.length - ps.length) none := by
        unfold L2.start
        rw [List.length_cons, r.length, hl]
        rfl
      rw [e]
      exact stL_more _ st0
    · rw [List.append_nil] at m
      exact ⟨ez.free (fA a m), fA a m⟩
    · obtain ⟨en, e⟩ := e
      obtain ⟨A1, t1, t2, t3⟩ := s'.st
      obtain ⟨v, B, u1, u2, u3, u4, _⟩ := t1.at e t2
      have hn := hn1 l x hp
      rw [hs1] at u2 hn
      cases u2 with
      | @«at» _ _ dx _ vs1 _ B1 h0 rl =>
        refine q .non Z' H' ((l :: B1) ++ ([] ++ [])) s'.gr (.cons ?_ (.cons (A := []) ?_ .nil)) (by simpa using u3) fun a m => ?_
        · rw [hs1]
          exact (RepO.at h0 rl).unF hn
        · rw [en]
          exact .fz .non
        · have m : a ∈ l :: B1 := by simpa using m
          exact ⟨(t3 a (u4 a m)).2, (t3 a (u4 a m)).1⟩
    · obtain ⟨en, e⟩ := e
      subst en
      obtain ⟨A1, t1, t2, t3⟩ := s'.st
      obtain ⟨B, Cc, w1, w2, w3, w4⟩ := t1.last t2
      obtain ⟨n1, n2, n3⟩ := List.nodup_append.mp w3
      obtain ⟨v0, B0, u1, u2, u3, u4, _⟩ := w1.at e n1
      have hn := hn1 l x hp
      rw [hs1] at u2 hn
      cases u2 with
      | @«at» _ _ dx _ vs1 _ B1 h0 rl =>
        refine q v Z' H' ((l :: B1) ++ (Cc ++ [])) s'.gr (.cons ?_ (.cons (w2.unF (hn2 x hp)) .nil)) ?_ fun a m => ?_
        · rw [hs1]
          exact (RepO.at h0 rl).unF hn
        · rw [List.append_nil]
          exact List.nodup_append.mpr ⟨u3, n2, fun a ha b hb => n3 a (u4 a ha) b hb⟩
        · rw [List.append_nil] at m
          have m2 : a ∈ B ++ Cc := by
            rcases List.mem_append.mp m with z | z
            · exact List.mem_append_left _ (u4 a z)
            · exact List.mem_append_right _ z
          exact ⟨(t3 a (w4 a m2)).2, (t3 a (w4 a m2)).1⟩
/-- an __init__ that is such a def makes a new instance -/
theorem SpX.init {α : Type} {P : Program} {w : World} {K : PySem.W.Frag} {mg : Str → Option Value} {base : Heap} {CX : CXT} {k : Nat} {f : Addr} {fd : FuncData} {ps : List Str} {ar : α → List O} {pre : α → Prop} {s0 s1 : Addr → α → O} {β : Type} {arb : β → List O} {preb : β → Prop} {resb : β → List O} {C : Addr} {ns : List Str} (g : β → α)
    (h : FnOk P w K mg base CX k f fd ps (SpX K ar pre s0 s1 fun _ => .fz .non)) (har : ∀ y, ar (g y) = arb y) (hp : ∀ y, preb y → pre (g y)) (h0 : ∀ l y, s0 l (g y) = .at l C [] []) (h1 : ∀ l y, s1 l (g y) = .at l C ns (resb y)) :
    FnOk P w K mg base CX k f fd ps (SpI K C ns arb preb resb) := h.imp fun vs H Q E hh => by
  obtain ⟨y, Z, F, l, dx, vs', rfl, ez, ef, nl, hi, r, hpr, q⟩ := hh
  have fl : ∀ a ∈ [l], F a = none := fun a m => by
    have e : a = l := by simpa using m
    rw [e]
    exact nl
  refine ⟨g y, Z, F, l, vs', [l], rfl, ez, ef, by simp, fl, ?_, by rw [har]; exact r, hp y hpr, fun v Z' H' B gg rr nB dB => ?_⟩
  · rw [h0]
    exact .at (dx := dx) hi .nil
  · cases rr with
    | @cons _ _ _ _ A1 B1 ra rb =>
      cases rb with
      | @cons _ _ _ _ A2 B2 rb rc =>
        cases rc
        cases rb with
        | fz rb =>
          cases rb
          rw [h1] at ra
          rw [List.append_nil, List.append_nil] at nB dB
          exact q Z' H' _ gg ra ⟨nB, dB⟩
section
variable {X : Cx} {ρ : Slots} {e a b : Expr} {es : List Expr} {pos p0 p1 p2 : Pos} {i : Nat} {xx nm : Str} {C : Addr} {ns ns' all : List Str} {os os' : List O} {ds : List D} {o o' : O}
structure Cf1 (P : Program) (w : World) (K : PySem.W.Frag) (mg : Str → Option Value) (base : Heap) (nmC m : Str) (k : Nat) (ps : List Str) (sp : Sp) : Prop where
  ex : ∃ (C : Addr) (mc : Value) (f : Addr) (fd : FuncData), mg nmC = some (.ref C) ∧ ClX.CRead K C mc ∧ ClX.CVal K C mc m (.ref f) (.ref f) ∧ PySem.W.keepIn K (.ref f) = true ∧ Binds K fd ps [] ∧ FnOk P w K mg base CX0 k f fd ps sp
end
end M
namespace M
open PySem L2 PySem.Spec PyProof.Rows
def D.flat : D → Bool
  | .non => true
  | .bl _ => true
  | .int _ => true
  | .str _ => true
  | _ => false
def D.v : D → V
  | .bl b => .bl b
  | .int i => .int i
  | .str x => .str x
  | _ => .non
theorem Rep.flat {K : PySem.W.Frag} {Z : Hp} {v : V} {d : D} (r : Rep K Z v d) (h : d.flat = true) : v = d.v := by
  cases r with
  | non => rfl
  | bl b => rfl
  | int i => rfl
  | str x => rfl
  | _ => cases h
theorem RepL.flat {K : PySem.W.Frag} {Z : Hp} : ∀ {vs : List V} {ds : List D}, RepL K Z vs ds → ds.all D.flat = true → vs = ds.map D.v
  | _, _, .nil, _ => rfl
  | _, _, .cons a r, h => by
    rw [List.all_cons, Bool.and_eq_true] at h
    rw [List.map_cons, a.flat h.1, r.flat h.2]
theorem D.flat_v : ∀ {d : D}, d.flat = true → flatV d.v = true
  | .non, _ => rfl
  | .bl _, _ => rfl
  | .int _, _ => rfl
  | .str _, _ => rfl
theorem D.flat_vs : ∀ {ds : List D}, ds.all D.flat = true → (ds.map D.v).all flatV = true
  | [], _ => rfl
  | d :: r, h => by
    rw [List.all_cons, Bool.and_eq_true] at h
    rw [List.map_cons, List.all_cons, D.flat_v h.1, D.flat_vs h.2]
    rfl
/-- d stands among ds -/
def D.among (d : D) (ds : List D) : Bool := inV d.v (ds.map D.v)
section
variable {X : Cx} {ρ : Slots} {a b : Expr} {pos : Pos} {d : D} {ds : List D}
theorem inL_core {neg : Bool} {op : CmpOp} (ho : OpR X (compareOp op) (rIn X.K neg)) (ha : ME X ρ a (.fz d)) (hb : ML X ρ b ds) (hf : d.flat = true) (hfs : ds.all D.flat = true) {Z0 F Z : Hp} {σ : L2.St} {H : Hp} (s : StR X.K ρ Z0 F Z σ H) {Q : VK} (q : ∀ Z' H', Gr Z H Z' H' → Q (.bl (if neg then !(d.among ds) else d.among ds)) H') : tOp (rIn X.K neg) (wE X a) (wE X b) σ H Q :=
  ha.run Z0 F Z σ H s _ fun v Z1 H1 A1 g1 r1 n1 => by
    cases r1 with
    | fz r1 =>
      have e1 := r1.flat hf
      subst e1
      refine hb.run Z0 F Z1 σ H1 (s.grow g1) _ fun l vs Z2 H2 g2 l2 r2 => ?_
      have e2 := r2.flat hfs
      subst e2
      exact ⟨l, _, rfl, .inl l2, D.flat_v hf, D.flat_vs hfs, q Z2 H2 (g1.trans g2)⟩
theorem mt_inL (ha : ME X ρ a (.fz d)) (hb : ML X ρ b ds) (hf : d.flat = true := by rfl) (hfs : ds.all D.flat = true := by rfl) (hm : behindInMarks .In b = false := by rfl) : MT X ρ (.Compare a [.In] [b] pos) (d.among ds) := .mk fun Z0 F Z σ H s Q q =>
  PT_w (pt_cmpR op_in_seq pe_w pe_w hm) (inL_core op_in_seq ha hb hf hfs s fun Z' H' g => ⟨_, rfl, q Z' H' g⟩)
theorem mt_niL (ha : ME X ρ a (.fz d)) (hb : ML X ρ b ds) (hf : d.flat = true := by rfl) (hfs : ds.all D.flat = true := by rfl) (hm : behindInMarks .NotIn b = false := by rfl) : MT X ρ (.Compare a [.NotIn] [b] pos) (!(d.among ds)) := .mk fun Z0 F Z σ H s Q q =>
  PT_w (pt_cmpR op_notIn_seq pe_w pe_w hm) (inL_core op_notIn_seq ha hb hf hfs s fun Z' H' g => ⟨_, rfl, q Z' H' g⟩)
end
end M
namespace M
open PySem L2 PySem.Spec PyProof.Rows
section
variable {X : Cx} {ρ : Slots} {a b c d : Expr} {ta tb tc td : TE} {pos : Pos} {m n k l : Int}
end
theorem kit_true {K : PySem.W.Frag} {C E : Addr} (h1 : PySem.W.isClsIn K E = true) (h2 : PySem.W.typeIn K (.ref E) = some (.type "type")) (h3 : PySem.W.mroIn K C (.ref E) = some true) : PySem.W.kitOne K (.ref C) (.ref E) = some true := by
  unfold PySem.W.kitOne
  split
  · rfl
  · show PySem.W.kitCls K (.ref C) (.ref E) = some true
    have e : PySem.W.kitCls K (.ref C) (.ref E) = if ((PySem.W.clsIn K E).isSome && PySem.W.typeIn K (.ref E) == some (.type "type")) = true then PySem.W.mroIn K C (.ref E) else none := rfl
    rw [e, if_pos, h3]
    rw [h2]
    show ((PySem.W.clsIn K E).isSome && _) = true
    rw [show (PySem.W.clsIn K E).isSome = true from h1]
    decide
end M
namespace M
open PySem L2 PySem.Spec PyProof.Rows
section
variable {X : Cx} {ρ : Slots} {a b c e : Expr} {es : List Expr} {pos p0 p1 : Pos} {p q : Str} {k : Bool} {ys : List Str}
theorem RepL.strs {K : PySem.W.Frag} {Z : Hp} : ∀ {ys : List Str} {vs : List V}, RepL K Z vs (ys.map .str) → vs = ys.map V.str
  | [], _, .nil => rfl
  | _ :: _, _, .cons (.str _) r => by rw [RepL.strs r]; rfl
/-- int(k) of a truth -/
theorem me_intB (hg : Gl X "int") (hm : X.mg "int" = none) (ha : ME X ρ a (.fz (.bl k))) (n1 : NS X a := by exact fun _ => rfl) : ME X ρ (.Call (.Name "int" p0) [a] [] pos) (.fz (.int (if k then 1 else 0))) := .mk fun Z0 F Z σ H s Q q =>
  PE_w (pe_callTy call_int1 hg hm (by decide +kernel) (pa_cons pe_w pa_nil (n1 _)) (he := n1 _)) (ha.run Z0 F Z σ H s _ fun v Z1 H1 A1 g1 r1 n1 => by
    cases r1 with
    | fz r1 =>
      cases r1
      exact .inr ⟨k, rfl, q _ Z1 H1 [] g1 (.fz (.int _)) .nil⟩)
end
end M
namespace M
open PySem L2 PySem.Spec PyProof.Rows
noncomputable def gd {α : Type} (p : Prop) (k : Option α) : Option α := @ite _ p (Classical.propDecidable p) k none
def bd {α β : Type} (o : Option α) (k : α → Option β) : Option β := o.bind k
def lt {α β : Type} (a : α) (k : α → Option β) : Option β := k a
section
variable {α β γ : Type}
theorem gd_some {p : Prop} {k : Option α} {r : α} (h : gd p k = some r) : p ∧ k = some r := by
  unfold gd at h
  by_cases hp : p
  · rw [if_pos hp] at h
    exact ⟨hp, h⟩
  · rw [if_neg hp] at h
    cases h
theorem gd_pos {p : Prop} {k : Option α} (h : p) : gd p k = k := if_pos h
theorem bd_some {o : Option α} {k : α → Option β} {r : β} (h : bd o k = some r) : ∃ a, o = some a ∧ k a = some r := Option.bind_eq_some_iff.mp h
theorem bd_of {o : Option α} {k : α → Option β} {a : α} (h : o = some a) : bd o k = k a := by rw [h]; rfl
theorem lt_some {a : α} {k : α → Option β} {r : β} (h : lt a k = some r) : ∃ x, x = a ∧ k x = some r := ⟨a, rfl, h⟩
theorem cond_t {c : Bool} {a b : α} {r : α} (h : cond c a b = r) (hc : c = true) : a = r := by rw [hc] at h; exact h
theorem cond_f {c : Bool} {a b : α} {r : α} (h : cond c a b = r) (hc : c = false) : b = r := by rw [hc] at h; exact h
theorem and_c {k c : Bool} {b : Option Bool} (h : cond k b (some false) = some c) : (k && c) = c := by
  cases k with
  | true => rfl
  | false => cases h; rfl
theorem or_c {k c : Bool} {b : Option Bool} (h : cond k (some true) b = some c) : (k || c) = c := by
  cases k with
  | true => cases h; rfl
  | false => rfl
end
/-- how a block ends: on, out of the loop, to its next turn, out of the def -/
inductive Ou (V W R : Type) where
  | nx (v : V) | bk (w : W) | ct (w : W) | rt (r : R)
def ouR {V W R : Type} : Ou V W R → (V → Option R) → Option R
  | .nx v, k => k v
  | .rt r, _ => some r
  | _, _ => none
/-- behind a loop -/
def ouL {V V' W R : Type} : Ou V V R → (V → Option (Ou V' W R)) → Option (Ou V' W R)
  | .nx v, k => k v
  | .rt r, _ => some (.rt r)
  | _, _ => none
def lp {α V : Type} (f : α → V → Option V) : List α → V → Option V
  | [], v => some v
  | x :: xs, v => bd (f x v) fun v' => lp f xs v'
def lpO {α V R : Type} (f : α → V → Option (Ou V V R)) : List α → V → Option (Ou V V R)
  | [], v => some (.nx v)
  | x :: xs, v => bd (f x v) fun o => match o with
    | .nx v' => lpO f xs v'
    | .ct v' => lpO f xs v'
    | .bk v' => some (.nx v')
    | .rt r => some (.rt r)
def mpO {α β : Type} (f : α → Option β) : List α → Option (List β)
  | [] => some []
  | x :: xs => bd (f x) fun y => bd (mpO f xs) fun ys => some (y :: ys)
/-- .. of those that a test keeps -/
def fmO {α β : Type} (t : α → Option Bool) (f : α → Option β) : List α → Option (List β)
  | [] => some []
  | x :: xs => bd (t x) fun k => cond k (bd (f x) fun y => bd (fmO t f xs) fun ys => some (y :: ys)) (fmO t f xs)
theorem mpO_pure {α β : Type} (f : α → β) (xs : List α) : mpO (fun x => some (f x)) xs = some (xs.map f) := by
  induction xs with
  | nil => rfl
  | cons x xs ih => show bd (mpO _ xs) _ = _; rw [ih]; rfl
theorem mpO_of {α β : Type} {f : α → Option β} {g : α → β} {xs : List α} (h : ∀ x ∈ xs, f x = some (g x)) : mpO f xs = some (xs.map g) := by
  induction xs with
  | nil => rfl
  | cons x xs ih =>
    show bd (f x) _ = _
    rw [h x List.mem_cons_self]
    show bd (mpO f xs) _ = _
    rw [ih fun y m => h y (List.mem_cons_of_mem _ m)]
    rfl
theorem fmO_of {α β : Type} {t : α → Option Bool} {f : α → Option β} {p : α → Bool} {g : α → β} {xs : List α} (ht : ∀ x ∈ xs, t x = some (p x)) (h : ∀ x ∈ xs, p x = true → f x = some (g x)) : fmO t f xs = some ((xs.filter p).map g) := by
  induction xs with
  | nil => rfl
  | cons x xs ih =>
    show bd (t x) _ = _
    rw [ht x List.mem_cons_self]
    show cond (p x) _ _ = _
    have ih := ih (fun y m => ht y (List.mem_cons_of_mem _ m)) fun y m => h y (List.mem_cons_of_mem _ m)
    cases hp : p x with
    | true =>
      show bd (f x) _ = _
      rw [h x List.mem_cons_self hp]
      show bd (fmO t f xs) _ = _
      rw [ih, List.filter_cons, if_pos hp]
      rfl
    | false =>
      show fmO t f xs = _
      rw [ih, List.filter_cons, if_neg (by rw [hp]; decide)]
/-- an invariant by the turn's number -/
theorem lp_inv {α V : Type} {f : α → V → Option V} (I : Nat → V → Prop) {xs : List α} {v : V} (h0 : I 0 v) (h : ∀ (i : Nat) (x : α) (v : V), xs[i]? = some x → I i v → ∃ v', f x v = some v' ∧ I (i + 1) v') : ∃ v', lp f xs v = some v' ∧ I xs.length v' := by
  induction xs generalizing v I with
  | nil => exact ⟨v, rfl, h0⟩
  | cons x xs ih =>
    obtain ⟨v1, e, i1⟩ := h 0 x v rfl h0
    obtain ⟨v2, e2, i2⟩ := ih (fun i => I (i + 1)) i1 fun i y w hy hw => h (i + 1) y w (by simpa using hy) hw
    refine ⟨v2, ?_, i2⟩
    show bd (f x v) _ = _
    rw [e]
    exact e2
/-- a loop that runs to its end -/
theorem lpO_inv {α V R : Type} {f : α → V → Option (Ou V V R)} (I : Nat → V → Prop) {xs : List α} {v : V} (h0 : I 0 v) (h : ∀ (i : Nat) (x : α) (v : V), xs[i]? = some x → I i v → ∃ v', (f x v = some (.nx v') ∨ f x v = some (.ct v')) ∧ I (i + 1) v') : ∃ v', lpO f xs v = some (.nx v') ∧ I xs.length v' := by
  induction xs generalizing v I with
  | nil => exact ⟨v, rfl, h0⟩
  | cons x xs ih =>
    obtain ⟨v1, e, i1⟩ := h 0 x v rfl h0
    obtain ⟨v2, e2, i2⟩ := ih (fun i => I (i + 1)) i1 fun i y w hy hw => h (i + 1) y w (by simpa using hy) hw
    refine ⟨v2, ?_, i2⟩
    show bd (f x v) _ = _
    rcases e with e | e <;> rw [e] <;> exact e2
/-- any end: the outcomes by invariants -/
theorem lpO_post {α V R : Type} {f : α → V → Option (Ou V V R)} (I : Nat → V → Prop) (P : Ou V V R → Prop) {xs : List α} {v : V} (h0 : I 0 v) (h : ∀ (i : Nat) (x : α) (v : V), xs[i]? = some x → I i v → ∃ o, f x v = some o ∧ match o with
    | .nx v' => I (i + 1) v'
    | .ct v' => I (i + 1) v'
    | .bk v' => P (.nx v')
    | .rt r => P (.rt r)) (hd : ∀ v, I xs.length v → P (.nx v)) : ∃ o, lpO f xs v = some o ∧ P o := by
  induction xs generalizing v I with
  | nil => exact ⟨_, rfl, hd v h0⟩
  | cons x xs ih =>
    obtain ⟨o, e, i1⟩ := h 0 x v rfl h0
    have go : ∀ v1, I 1 v1 → ∃ o, lpO f xs v1 = some o ∧ P o := fun v1 i1 => ih (fun i => I (i + 1)) i1 (fun i y w hy hw => h (i + 1) y w (by simpa using hy) hw) hd
    cases o with
    | nx v1 =>
      obtain ⟨o2, e2, i2⟩ := go v1 i1
      exact ⟨o2, by show bd (f x v) _ = _; rw [e]; exact e2, i2⟩
    | ct v1 =>
      obtain ⟨o2, e2, i2⟩ := go v1 i1
      exact ⟨o2, by show bd (f x v) _ = _; rw [e]; exact e2, i2⟩
    | bk v1 => exact ⟨_, by show bd (f x v) _ = _; rw [e]; rfl, i1⟩
    | rt r => exact ⟨_, by show bd (f x v) _ = _; rw [e]; rfl, i1⟩
def goO {V W R : Type} (Rn : V → Slots) (Rw : W → Slots) (er : R → O) (o : Ou V W R) : Go :=
  { nx := fun τ => ∃ v, o = .nx v ∧ Le τ (Rn v), bk := fun τ => ∃ w, o = .bk w ∧ Le τ (Rw w), ct := fun τ => ∃ w, o = .ct w ∧ Le τ (Rw w), rt := fun q => ∃ r, o = .rt r ∧ q = er r }
section
variable {X : Cx} {ρ : Slots} {e a b c elt : Expr} {es : List Expr} {st : Stmt} {sts : List Stmt} {G : Go} {o o1 o2 : O} {d : D} {ds : List D} {pos p0 p1 p2 p3 p4 : Pos} {i : Nat} {x nm : Str} {α β V W R : Type}
/-- for, no way out but the end -/
theorem m_forP {xs : List α} {enc : α → D} {wi : TI} {g : TG} {body : List Stmt} (p : PS X st (tFor wi g (wS X body))) (h : MI X ρ wi (xs.map enc)) {f : α → V → Option V} {v0 v1 : V} (hx : lp f xs v0 = some v1) (Rn : V → Slots) (h0 : Le ρ (Rn v0))
    (hs : ∀ (x : α) (v v' : V), x ∈ xs → f x v = some v' → ∃ τ' ws, MTg g X.K (Rn v) (enc x) τ' ws ∧ MS X τ' body { nx := fun τ => Le τ (Rn v') })
    (hd : ∀ τ, Le τ (Rn v1) → G.nx τ) : MS1 X ρ st G := by
  refine m_forTS (xs := xs) (enc := enc) p h (fun v : V => Rn v) (fun j v => lp f (xs.drop j) v = some v1) ⟨v0, hx, h0⟩ (fun j y v hj hv => ?_) fun τ v hv l => hd τ ?_
  · obtain ⟨hi, ey⟩ := List.getElem?_eq_some_iff.mp hj
    rw [← List.getElem_cons_drop (h := hi), ey] at hv
    obtain ⟨v', e1, e2⟩ := bd_some hv
    obtain ⟨τ', ws, t1, t2⟩ := hs y v v' (List.mem_of_getElem? hj) e1
    exact ⟨τ', ws, t1, ms_imp t2 (fun τ l => ⟨v', e2, l⟩) (fun _ z => z.elim) (fun _ z => z.elim) (fun _ z => z.elim) fun _ _ z => z.elim⟩
  · rw [List.drop_length] at hv
    cases hv
    exact l
/-- for with ways out -/
theorem m_forO {xs : List α} {enc : α → D} {wi : TI} {g : TG} {body : List Stmt} (p : PS X st (tFor wi g (wS X body))) (h : MI X ρ wi (xs.map enc)) {f : α → V → Option (Ou V V R)} {v0 : V} {out : Ou V V R} (hx : lpO f xs v0 = some out) (Rn : V → Slots) (er : R → O) (h0 : Le ρ (Rn v0))
    (hs : ∀ (x : α) (v : V) (o : Ou V V R), x ∈ xs → f x v = some o → ∃ τ' ws, MTg g X.K (Rn v) (enc x) τ' ws ∧ MS X τ' body (goO Rn Rn er o))
    (hd : ∀ v τ, out = .nx v → Le τ (Rn v) → G.nx τ) (hr : ∀ r, out = .rt r → G.rt (er r)) : MS1 X ρ st G := by
  refine m_forTS (xs := xs) (enc := enc) p h (fun v : V => Rn v) (fun j v => lpO f (xs.drop j) v = some out) ⟨v0, hx, h0⟩ (fun j y v hj hv => ?_) fun τ v hv l => ?_
  · obtain ⟨hi, ey⟩ := List.getElem?_eq_some_iff.mp hj
    rw [← List.getElem_cons_drop (h := hi), ey] at hv
    obtain ⟨o, e1, e2⟩ := bd_some hv
    obtain ⟨τ', ws, t1, t2⟩ := hs y v o (List.mem_of_getElem? hj) e1
    refine ⟨τ', ws, t1, ms_imp t2 (fun τ l => ?_) (fun q l => ?_) (fun τ l => ?_) (fun τ l => ?_) fun _ _ z => z.elim⟩
    · obtain ⟨v', rfl, l⟩ := l
      exact ⟨v', e2, l⟩
    · obtain ⟨r, rfl, rfl⟩ := l
      cases e2
      exact hr r rfl
    · obtain ⟨v', rfl, l⟩ := l
      cases e2
      exact hd v' τ rfl l
    · obtain ⟨v', rfl, l⟩ := l
      exact ⟨v', e2, l⟩
  · rw [List.drop_length] at hv
    cases hv
    exact hd v τ rfl l
/-- if whose ways come together -/
theorem m_ifO {c : Expr} {a b : List Stmt} {t : Bool} {p : Pos} {out : Ou V W R} (Rn : V → Slots) (Rw : W → Slots) (er : R → O) (hc : MT X ρ c t) (h1 : t = true → MS X ρ a (goO Rn Rw er out)) (h2 : t = false → MS X ρ b (goO Rn Rw er out))
    (kn : ∀ v τ, out = .nx v → Le τ (Rn v) → G.nx τ) (kb : ∀ w τ, out = .bk w → Le τ (Rw w) → G.bk τ) (kc : ∀ w τ, out = .ct w → Le τ (Rw w) → G.ct τ) (kr : ∀ r, out = .rt r → G.rt (er r)) : MS1 X ρ (.If c a b p) G := by
  have im : ∀ {s : List Stmt}, MS X ρ s (goO Rn Rw er out) → MS X ρ s G := fun h => ms_imp h (fun τ ⟨v, e, l⟩ => kn v τ e l) (fun q ⟨r, e, l⟩ => by rw [l]; exact kr r e) (fun τ ⟨v, e, l⟩ => kb v τ e l) (fun τ ⟨v, e, l⟩ => kc v τ e l) fun _ _ z => z.elim
  exact m_if hc (fun h => im (h1 h)) fun h => im (h2 h)
/-- if whose ways come together, none leaves -/
theorem m_ifP {c : Expr} {a b : List Stmt} {t : Bool} {p : Pos} {out : V} (Rn : V → Slots) (hc : MT X ρ c t) (h1 : t = true → MS X ρ a { nx := fun τ => Le τ (Rn out) }) (h2 : t = false → MS X ρ b { nx := fun τ => Le τ (Rn out) })
    (kn : ∀ τ, Le τ (Rn out) → G.nx τ) : MS1 X ρ (.If c a b p) G := by
  have im : ∀ {s : List Stmt}, MS X ρ s { nx := fun τ => Le τ (Rn out) } → MS X ρ s G := fun h => ms_imp h (fun τ l => kn τ l) (fun q z => z.elim) (fun τ z => z.elim) (fun τ z => z.elim) fun _ _ z => z.elim
  exact m_if hc (fun h => im (h1 h)) fun h => im (h2 h)
theorem atI_map {enc : α → D} {xs : List α} {k : Int} {y : α} (h : L2.atI xs k = some y) : L2.atI (xs.map enc) k = some (enc y) := by
  unfold L2.atI at h ⊢
  rw [List.length_map]
  cases e : ixN xs.length k with
  | none => rw [e] at h; cases h
  | some n =>
    rw [e] at h
    have h : xs[n]? = some y := h
    show (xs.map enc)[n]? = some (enc y)
    rw [List.getElem?_map, h]
    rfl
theorem me_ixLT {xs : List α} {enc : α → D} {k : Int} {y : α} (h : L2.atI xs k = some y) (ha : ML X ρ a (xs.map enc)) (hb : ME X ρ b (.fz (.int k))) (hp : PlainIx b := by exact fun _ _ => rfl) : ME X ρ (.Subscript a b pos) (.fz (enc y)) := me_ixL ha hb (atI_map h) hp
theorem cutG_map {enc : α → β} {xs : List α} {lo hi : Option Int} : cutG (xs.map enc) lo hi = (cutG xs lo hi).map enc := by
  unfold cutG
  rw [List.length_map, List.map_take, List.map_drop]
theorem me_slLT {xs : List α} {enc : α → D} {lo hi : Option Expr} {li hj : Option Int} (ha : ML X ρ a (xs.map enc)) (hl : MO X ρ lo li) (hh : MO X ρ hi hj) : ME X ρ (.Subscript a (.Slice lo hi none p2) pos) (.lst (((cutG xs li hj).map enc).map .fz)) := ME.is (me_slL ha hl hh) (by rw [cutG_map])
theorem me_catLT {xs ys : List α} {enc : α → D} (hl : xs.length + ys.length ≤ sizeLine) (ha : MV X ρ a (.lst ((xs.map enc).map .fz))) (hb : MV X ρ b (.lst ((ys.map enc).map .fz))) : ME X ρ (.BinOp a .Add b pos) (.lst (((xs ++ ys).map enc).map .fz)) := ME.is (me_catL ha hb (by rw [List.length_map, List.length_map]; exact hl)) (congrArg (fun z => O.lst (List.map O.fz z)) List.map_append.symm)
theorem m_appendT {xs : List α} {enc : α → D} {y : α} {p1 p2 p3 p4 : Pos} (hl : xs.length < sizeLine) (p : PE X (.Name x p1) (tVar i)) (hi : ρ[i]? = some (some (.lst ((xs.map enc).map .fz)))) (he : ME X ρ e (.fz (enc y))) (k : G.nx (ρ.set i (some (.lst (((xs ++ [y]).map enc).map .fz)))))
    (q : ∀ t, PE X (.Call (.Attribute (.Name x p1) "append" p2) [e] [] p3) t → PS X (.Expr (.Call (.Attribute (.Name x p1) "append" p2) [e] [] p3) p4) (tDrop t) := by exact fun _ h => ps_expr h)
    (pm : PE X (.Call (.Attribute (.Name x p1) "append" p2) [e] [] p3) (tBM X.K "list" rAppend (tVar i) (tCons (wE X e) tNil)) := by exact pe_bm PySem.F.plainAttrs_list PySem.F.slot_list_append PySem.F.type_list_append mt_append (pv _) (pa_cons pe_w pa_nil)) : MS1 X ρ (.Expr (.Call (.Attribute (.Name x p1) "append" p2) [e] [] p3) p4) G :=
  m_append p hi he (by rw [List.length_map, List.length_map]; exact hl) (by rw [List.map_append, List.map_append] at k; exact k) q pm
theorem m_setItemT {xs : List α} {enc : α → D} {y : α} {k : Int} {j : Nat} (hj : ixN xs.length k = some j) (pn : PE X (.Name x p1) (tVar i)) (hi : ρ[i]? = some (some (.lst ((xs.map enc).map .fz)))) (h1 : ME X ρ a (.fz (.int k))) (h2 : ME X ρ b (.fz (enc y))) (kk : G.nx (ρ.set i (some (.lst (((xs.set j y).map enc).map .fz)))))
    (pm : PS X (.Assign [.Subscript (.Name x p1) a p2] b p3) (tAsg (wE X b) (gSub (tVar i) (wE X a) rSetL)) := by exact ps_asg pe_w (pg_sub (pv _) pe_w set_list)) : MS1 X ρ (.Assign [.Subscript (.Name x p1) a p2] b p3) G :=
  m_setItem pn hi h1 h2 (by rw [List.length_map]; exact hj) (by rw [List.map_set] at kk; exact kk) pm
theorem enm_map {enc : α → D} {xs : List α} : enm (xs.map enc) = xs.zipIdx.map fun p => D.tup [.int (p.2 : Nat), enc p.1] := by
  unfold enm
  rw [List.zipIdx_map, List.map_map]
  rfl
theorem mi_enumT {xs : List α} {enc : α → D} (h : MK X ρ e (xs.map enc)) (n1 : NS X e := by exact fun _ => rfl) : MI X ρ (iEnum X.K (wA X [e])) (xs.zipIdx.map fun p => D.tup [.int (p.2 : Nat), enc p.1]) := by
  rw [← enm_map]
  exact mi_enum h n1
theorem mi_rangeT {j : Int} (h : MF X ρ es [.int j]) (h1 : -(2 ^ 62) ≤ j ∧ j < 2 ^ 62) : MI X ρ (iRng1 (wA X es)) ((List.range j.toNat).map fun k : Nat => D.int (k : Nat)) := by
  have q := mi_range1 h h1.1 h1.2
  unfold rng at q
  simp only [Int.zero_add] at q
  exact q
theorem mi_strT {y : Str} (h : ME X ρ e (.fz (.str y))) : MI X ρ (iStr (wE X e)) (y.cps.toList.map fun c => D.str ⟨#[c]⟩) := mi_str h
theorem mpO_get {f : α → Option β} : ∀ {xs : List α} {ys : List β}, mpO f xs = some ys → (∀ x ∈ xs, ∃ y, f x = some y) ∧ ys = xs.filterMap f
  | [], _, h => by cases h; exact ⟨fun _ m => (nomatch m), rfl⟩
  | x :: xs, _, h => by
    obtain ⟨y, e1, h⟩ := bd_some h
    obtain ⟨ys, e2, h⟩ := bd_some h
    cases h
    obtain ⟨q1, q2⟩ := mpO_get e2
    refine ⟨fun z m => (List.mem_cons.mp m).elim (fun e => by rw [e]; exact ⟨y, e1⟩) (q1 z), ?_⟩
    rw [List.filterMap_cons, e1, q2]
noncomputable def ofO (enc : β → D) (f : α → Option β) (x : α) : D := match f x with
  | some y => enc y
  | none => .non
theorem mpO_map {enc : β → D} {f : α → Option β} : ∀ {xs : List α} {ys : List β}, mpO f xs = some ys → xs.map (ofO enc f) = ys.map enc
  | [], _, h => by cases h; rfl
  | x :: xs, _, h => by
    obtain ⟨y, e1, h⟩ := bd_some h
    obtain ⟨ys, e2, h⟩ := bd_some h
    cases h
    rw [List.map_cons, List.map_cons, mpO_map e2]
    unfold ofO
    rw [e1]
theorem fmO_map {enc : β → D} {t : α → Option Bool} {f : α → Option β} : ∀ {xs : List α} {ys : List β}, fmO t f xs = some ys → ∃ p : α → Bool, (∀ x ∈ xs, t x = some (p x)) ∧ (∀ x ∈ xs, p x = true → ∃ y, f x = some y) ∧ (xs.filter p).map (ofO enc f) = ys.map enc := by
  intro xs ys h
  refine ⟨fun x => t x == some true, ?_⟩
  induction xs generalizing ys with
  | nil => cases h; exact ⟨fun _ m => (nomatch m), fun _ m => (nomatch m), rfl⟩
  | cons x xs ih =>
    obtain ⟨k, e1, h⟩ := bd_some h
    cases k with
    | true =>
      obtain ⟨y, e2, h⟩ := bd_some h
      obtain ⟨zs, e3, h⟩ := bd_some h
      cases h
      obtain ⟨q1, q2, q3⟩ := ih e3
      refine ⟨fun z m => (List.mem_cons.mp m).elim (fun e => by rw [e]; show t x = some (t x == some true); rw [e1]; rfl) (q1 z), fun z m => (List.mem_cons.mp m).elim (fun e _ => by rw [e]; exact ⟨y, e2⟩) (q2 z), ?_⟩
      rw [List.filter_cons, if_pos (by rw [e1]; rfl), List.map_cons, List.map_cons, q3]
      unfold ofO
      rw [e2]
    | false =>
      obtain ⟨q1, q2, q3⟩ := ih h
      refine ⟨fun z m => (List.mem_cons.mp m).elim (fun e => by rw [e]; show t x = some (t x == some true); rw [e1]; rfl) (q1 z), fun z m => (List.mem_cons.mp m).elim (fun e k => by rw [e] at k; have k : (t x == some true) = true := k; rw [e1] at k; cases k) (q2 z), ?_⟩
      rw [List.filter_cons, if_neg (by rw [e1]; decide)]
      exact q3
theorem me_lcO {xs : List α} {ys : List β} {enc : α → D} {enc2 : β → D} {f : α → Option β} (hy : mpO f xs = some ys) {wi : TI} {g : TG} {scope : Scope} {vs : List Nat} (p : ∀ te : TE, (∀ (s : Shared) (H : Hp) (C : Addr) (cl : List (Str × Addr)) (fp : List Addr), PE (X.blk s H scope (compEnvC scope cl C X.env) fp) elt te) → PE X e (tLc wi g tYes te vs))
    (h : MIc X ρ wi (xs.map enc)) (hz : xs.length < sizeLine)
    (hs : ∀ d ∈ xs, ∀ y, f d = some y → ∃ τ ws, MTg g X.K (wipeS ρ vs) (enc d) τ ws ∧ (∀ w ∈ ws, w ∈ vs) ∧ ∀ (s : Shared) (H : Hp) (C : Addr) (cl : List (Str × Addr)) (fp : List Addr), ME (X.blk s H scope (compEnvC scope cl C X.env) fp) τ elt (.fz (enc2 y))) :
    ME X ρ e (.lst ((ys.map enc2).map .fz)) := ME.is (me_lc p h (ofO enc2 f) hz fun d m => by
    obtain ⟨y, ey⟩ := (mpO_get hy).1 d m
    obtain ⟨τ, ws, t1, t2, t3⟩ := hs d m y ey
    exact ⟨τ, ws, t1, t2, fun s H C cl fp => ME.is (t3 s H C cl fp) (by unfold ofO; rw [ey])⟩) (by rw [mpO_map hy])
theorem me_lcIfO {xs : List α} {ys : List β} {enc : α → D} {enc2 : β → D} {t : α → Option Bool} {f : α → Option β} (hy : fmO t f xs = some ys) {wi : TI} {g : TG} {scope : Scope} {vs : List Nat} {c : Expr} (p : ∀ (tt : TT) (te : TE), (∀ (s : Shared) (H : Hp) (C : Addr) (cl : List (Str × Addr)) (fp : List Addr), PT (X.blk s H scope (compEnvC scope cl C X.env) fp) c tt) →
      (∀ (s : Shared) (H : Hp) (C : Addr) (cl : List (Str × Addr)) (fp : List Addr), PE (X.blk s H scope (compEnvC scope cl C X.env) fp) elt te) → PE X e (tLc wi g tt te vs))
    (h : MIc X ρ wi (xs.map enc)) (hz : xs.length < sizeLine)
    (hs : ∀ d ∈ xs, ∀ k, t d = some k → ∃ τ ws, MTg g X.K (wipeS ρ vs) (enc d) τ ws ∧ (∀ w ∈ ws, w ∈ vs) ∧ ∀ (s : Shared) (H : Hp) (C : Addr) (cl : List (Str × Addr)) (fp : List Addr), MT (X.blk s H scope (compEnvC scope cl C X.env) fp) τ c k ∧ (k = true → ∀ y, f d = some y → ME (X.blk s H scope (compEnvC scope cl C X.env) fp) τ elt (.fz (enc2 y)))) :
    ME X ρ e (.lst ((ys.map enc2).map .fz)) := by
  obtain ⟨pb, q1, q2, q3⟩ := fmO_map (enc := enc2) hy
  refine ME.is (me_lcIf p h pb (ofO enc2 f) hz fun d m => ?_) (by rw [q3])
  obtain ⟨τ, ws, t1, t2, t3⟩ := hs d m (pb d) (q1 d m)
  refine ⟨τ, ws, t1, t2, fun s H C cl fp => ⟨(t3 s H C cl fp).1, fun hk => ?_⟩⟩
  obtain ⟨y, ey⟩ := q2 d m hk
  exact ME.is ((t3 s H C cl fp).2 hk y ey) (by unfold ofO; rw [ey])
theorem m_setLcO {xs : List α} {ys : List β} {enc : α → D} {enc2 : β → D} {f : α → Option β} (hy : mpO f xs = some ys) {wi : TI} {g : TG} {scope : Scope} {vs : List Nat} (p : ∀ te : TE, (∀ (s : Shared) (H : Hp) (C : Addr) (cl : List (Str × Addr)) (fp : List Addr), PE (X.blk s H scope (compEnvC scope cl C X.env) fp) elt te) → PS X st (tAsg (tLc wi g tYes te vs) (gName i)))
    (h : MIc X ρ wi (xs.map enc)) (hz : xs.length < sizeLine)
    (hs : ∀ d ∈ xs, ∀ y, f d = some y → ∃ τ ws, MTg g X.K (wipeS ρ vs) (enc d) τ ws ∧ (∀ w ∈ ws, w ∈ vs) ∧ ∀ (s : Shared) (H : Hp) (C : Addr) (cl : List (Str × Addr)) (fp : List Addr), ME (X.blk s H scope (compEnvC scope cl C X.env) fp) τ elt (.fz (enc2 y)))
    (k : G.nx (ρ.set i (some (.lst ((ys.map enc2).map .fz))))) (hi : i < ρ.length := by exact Nat.le_of_ble_eq_true rfl) : MS1 X ρ st G := m_setLc p h (ofO enc2 f) hz (fun d m => by
    obtain ⟨y, ey⟩ := (mpO_get hy).1 d m
    obtain ⟨τ, ws, t1, t2, t3⟩ := hs d m y ey
    exact ⟨τ, ws, t1, t2, fun s H C cl fp => ME.is (t3 s H C cl fp) (by unfold ofO; rw [ey])⟩) (by rw [mpO_map hy]; exact k) hi
end
/-- the promise of a def by its mirror -/
def SpF {A R : Type} (K : PySem.W.Frag) (ar : A → List O) (f : A → Option R) (er : R → O) : Sp := SpM K (fun x : A × R => ar x.1) (fun x => f x.1 = some x.2) (fun x => er x.2)
end M
namespace M
open PySem L2 PySem.Spec PyProof.Rows
abbrev sg1 (c : Nat) : Str := ⟨#[c]⟩
abbrev e_d (d : D) : D := d
abbrev e_n (_ : Unit) : D := .non
def Ok {α : Type} (o : Option α) (P : α → Prop) : Prop := ∃ r, o = some r ∧ P r
section
variable {α β V W R : Type} {P : β → Prop}
theorem ok_gd {p : Prop} {k : Option β} (h : p) (hk : Ok k P) : Ok (gd p k) P := by rw [gd_pos h]; exact hk
theorem ok_bd {o : Option α} {k : α → Option β} {Q : α → Prop} (h : Ok o Q) (hk : ∀ a, Q a → Ok (k a) P) : Ok (bd o k) P := by
  obtain ⟨a, e, q⟩ := h
  rw [bd_of e]
  exact hk a q
theorem ok_lt {a : α} {k : α → Option β} (hk : Ok (k a) P) : Ok (lt a k) P := hk
theorem ok_ltx {a : α} {k : α → Option β} (hk : ∀ x, x = a → Ok (k x) P) : Ok (lt a k) P := hk a rfl
theorem ok_some {b : β} (h : P b) : Ok (some b) P := ⟨b, rfl, h⟩
theorem ok_cond {c : Bool} {a b : Option β} (h1 : c = true → Ok a P) (h2 : c = false → Ok b P) : Ok (cond c a b) P := by
  cases c with
  | true => exact h1 rfl
  | false => exact h2 rfl
theorem ok_t {c : Bool} {a b : Option β} (hc : c = true) (h : Ok a P) : Ok (cond c a b) P := by rw [hc]; exact h
theorem ok_f {c : Bool} {a b : Option β} (hc : c = false) (h : Ok b P) : Ok (cond c a b) P := by rw [hc]; exact h
theorem Ok.imp {Q : β → Prop} {o : Option β} (h : Ok o Q) (f : ∀ r, Q r → P r) : Ok o P := let ⟨r, e, q⟩ := h; ⟨r, e, f r q⟩
theorem Ok.eq {o : Option β} {b : β} (h : Ok o (· = b)) : o = some b := by obtain ⟨r, e, rfl⟩ := h; exact e
theorem Ok.of {o : Option β} {b : β} (h : o = some b) : Ok o (· = b) := ⟨b, h, rfl⟩
theorem ok_atI {xs : List α} {k : Int} {Q : α → Prop} (h0 : 0 ≤ k) (h1 : k < xs.length) (q : ∀ y, xs[k.toNat]? = some y → Q y) : Ok (L2.atI xs k) Q := by
  have hk : k.toNat < xs.length := by omega
  refine ⟨xs[k.toNat], ?_, q _ (List.getElem?_eq_getElem hk)⟩
  obtain ⟨n, rfl⟩ := Int.eq_ofNat_of_zero_le h0
  exact atI_nat (List.getElem?_eq_getElem (by simpa using hk))
theorem ok_atIm {xs : List α} {k : Int} {Q : α → Prop} (h0 : 0 ≤ k) (h1 : k < xs.length) (q : ∀ y ∈ xs, Q y) : Ok (L2.atI xs k) Q := ok_atI h0 h1 fun y e => q y (List.mem_of_getElem? e)
theorem ok_lp {f : α → V → Option V} {xs : List α} {v : V} {Q : V → Prop} (I : Nat → V → Prop) (h0 : I 0 v) (h : ∀ (i : Nat) (x : α) (v : V), xs[i]? = some x → I i v → Ok (f x v) (I (i + 1))) (hd : ∀ v, I xs.length v → Q v) : Ok (lp f xs v) Q := by
  obtain ⟨v', e, i⟩ := lp_inv I h0 h
  exact ⟨v', e, hd v' i⟩
theorem ok_lpO {f : α → V → Option (Ou V V R)} {xs : List α} {v : V} {Q : Ou V V R → Prop} (I : Nat → V → Prop) (h0 : I 0 v) (h : ∀ (i : Nat) (x : α) (v : V), xs[i]? = some x → I i v → Ok (f x v) fun o => match o with
    | .nx v' => I (i + 1) v'
    | .ct v' => I (i + 1) v'
    | .bk v' => Q (.nx v')
    | .rt r => Q (.rt r)) (hd : ∀ v, I xs.length v → Q (.nx v)) : Ok (lpO f xs v) Q := lpO_post I Q h0 h hd
theorem ok_lpN {f : α → V → Option (Ou V V R)} {xs : List α} {v : V} {Q : Ou V V R → Prop} (I : Nat → V → Prop) (h0 : I 0 v) (h : ∀ (i : Nat) (x : α) (v : V), xs[i]? = some x → I i v → Ok (f x v) fun o => ∃ v', (o = .nx v' ∨ o = .ct v') ∧ I (i + 1) v') (hd : ∀ v, I xs.length v → Q (.nx v)) : Ok (lpO f xs v) Q := by
  obtain ⟨v', e, i⟩ := lpO_inv (f := f) I h0 fun i x v hx hv => by
    obtain ⟨o, e, v', e2, q⟩ := h i x v hx hv
    exact ⟨v', e2.imp (fun z => by rw [e, z]) (fun z => by rw [e, z]), q⟩
  exact ⟨_, e, hd v' i⟩
theorem ok_mpO {f : α → Option β} {xs : List α} {Q : List β → Prop} (T : α → β → Prop) (h : ∀ x ∈ xs, Ok (f x) (T x)) (q : ∀ ys : List β, ys.length = xs.length → (∀ (i : Nat) (x : α) (y : β), xs[i]? = some x → ys[i]? = some y → T x y) → Q ys) : Ok (mpO f xs) Q := by
  suffices H : ∃ ys : List β, mpO f xs = some ys ∧ ys.length = xs.length ∧ ∀ (i : Nat) (x : α) (y : β), xs[i]? = some x → ys[i]? = some y → T x y by
    obtain ⟨ys, e, l, t⟩ := H
    exact ⟨ys, e, q ys l t⟩
  clear q
  induction xs with
  | nil => exact ⟨[], rfl, rfl, fun i x y h => by simp at h⟩
  | cons x xs ih =>
    obtain ⟨y, e1, t1⟩ := h x List.mem_cons_self
    obtain ⟨ys, e2, l, t⟩ := ih fun z m => h z (List.mem_cons_of_mem _ m)
    refine ⟨y :: ys, ?_, by simp [l], fun i a b ha hb => ?_⟩
    · show bd (f x) _ = _
      rw [bd_of e1]
      show bd (mpO f xs) _ = _
      rw [bd_of e2]
    · cases i with
      | zero =>
        simp at ha hb
        rw [← ha, ← hb]
        exact t1
      | succ i => exact t i a b (by simpa using ha) (by simpa using hb)
theorem ok_mpE {f : α → Option β} {g : α → β} {xs : List α} (h : ∀ x ∈ xs, f x = some (g x)) : Ok (mpO f xs) (· = xs.map g) := .of (mpO_of h)
theorem ok_mpM {f : α → Option β} {xs : List α} (T : β → Prop) (h : ∀ x ∈ xs, Ok (f x) T) : Ok (mpO f xs) fun ys => ys.length = xs.length ∧ ∀ y ∈ ys, T y := ok_mpO (fun _ => T) h fun ys l t => ⟨l, fun y m => by
  obtain ⟨i, e⟩ := List.mem_iff_getElem?.mp m
  have hi : i < xs.length := by
    have := (List.getElem?_eq_some_iff.mp e).1
    omega
  exact t i _ y (List.getElem?_eq_getElem hi) e⟩
end
section
variable {X : Cx} {ρ : Slots} {e a b c elt : Expr} {es : List Expr} {st : Stmt} {sts : List Stmt} {G : Go} {o o1 o2 : O} {d : D} {ds : List D} {pos p0 p1 p2 p3 p4 : Pos} {i : Nat} {x nm : Str} {α β : Type} {p q : Str} {k l : Bool} {m n : Int}
theorem MT.is (h : MT X ρ e k) (q : k = l) : MT X ρ e l := q ▸ h
theorem MW.is (h : MW X ρ e k) (q : k = l) : MW X ρ e l := q ▸ h
theorem ME.isB (h : ME X ρ e (.fz (.bl k))) (q : k = l) : ME X ρ e (.fz (.bl l)) := q ▸ h
theorem frz_own {enc : α → D} {xs : List α} : (O.lst ((xs.map enc).map .fz)).frz = .lst (xs.map enc) := congrArg D.lst (O.frzL_fz _)
theorem me_lenLT {xs : List α} {enc : α → D} (hg : Gl X "len") (hm : X.mg "len" = none) (ha : ML X ρ a (xs.map enc)) (n1 : NS X a := by exact fun _ => rfl) : ME X ρ (.Call (.Name "len" p0) [a] [] pos) (.fz (.int (xs.length : Int))) := ME.is (me_len hg hm ha n1) (by rw [List.length_map])
theorem mt_eqDT {d1 d2 : D} (hu : X.A.units + 64 < cLine) (h : d1.ok ∧ d2.ok) (e1 : o1.frz = d1) (e2 : o2.frz = d2) (ha : MV X ρ a o1) (hb : MV X ρ b o2) : MT X ρ (.Compare a [.Eq] [b] pos) (D.eqv d1 d2) := by
  subst e1 e2
  exact mt_eqD hu ha hb h.1 h.2
theorem mt_neDT {d1 d2 : D} (hu : X.A.units + 64 < cLine) (h : d1.ok ∧ d2.ok) (e1 : o1.frz = d1) (e2 : o2.frz = d2) (ha : MV X ρ a o1) (hb : MV X ρ b o2) : MT X ρ (.Compare a [.NotEq] [b] pos) (!D.eqv d1 d2) := by
  subst e1 e2
  exact mt_neD hu ha hb h.1 h.2
theorem among_s {k : Str} {xs : List Str} : D.among (.str k) (xs.map .str) = xs.contains k := by
  unfold D.among inV
  rw [List.map_map, List.any_map]
  induction xs with
  | nil => rfl
  | cons y xs ih =>
    rw [List.any_cons, List.contains_cons, ih]
    congr 1
    exact BEq.comm
theorem flat_s {xs : List Str} : (xs.map D.str).all D.flat = true := by
  rw [List.all_map]
  exact List.all_eq_true.mpr fun _ _ => rfl
theorem among_b {k : Bool} {xs : List Bool} : D.among (.bl k) (xs.map .bl) = xs.contains k := by
  unfold D.among inV
  rw [List.map_map, List.any_map]
  induction xs with
  | nil => rfl
  | cons y xs ih =>
    rw [List.any_cons, List.contains_cons, ih]
    congr 1
    exact BEq.comm
theorem flat_b {xs : List Bool} : (xs.map D.bl).all D.flat = true := by
  rw [List.all_map]
  exact List.all_eq_true.mpr fun _ _ => rfl
section
variable {xi : List Int} {xs : List Str} {xb : List Bool}
theorem mt_inLT_s (ha : ME X ρ a (.fz (.str p))) (hb : ML X ρ b (xs.map .str)) (hm : behindInMarks .In b = false := by rfl) : MT X ρ (.Compare a [.In] [b] pos) (xs.contains p) := (mt_inL ha hb rfl flat_s hm).is among_s
theorem mt_niLT_s (ha : ME X ρ a (.fz (.str p))) (hb : ML X ρ b (xs.map .str)) (hm : behindInMarks .NotIn b = false := by rfl) : MT X ρ (.Compare a [.NotIn] [b] pos) (!(xs.contains p)) := (mt_niL ha hb rfl flat_s hm).is (by rw [among_s])
theorem mt_inLT_b (ha : ME X ρ a (.fz (.bl k))) (hb : ML X ρ b (xb.map .bl)) (hm : behindInMarks .In b = false := by rfl) : MT X ρ (.Compare a [.In] [b] pos) (xb.contains k) := (mt_inL ha hb rfl flat_b hm).is among_b
end
theorem me_slS {lo hi : Option Expr} {li hj : Option Int} (hz : p.length ≤ sizeLine) (ha : ME X ρ a (.fz (.str p))) (hl : MO X ρ lo li) (hh : MO X ρ hi hj) : ME X ρ (.Subscript a (.Slice lo hi none p2) pos) (.fz (.str (cutS p li hj))) := .mk fun Z0 F Z σ H s Q q => by
  obtain ⟨tl, pl, kl⟩ := hl.run
  obtain ⟨th, ph, kh⟩ := hh.run
  refine PE_w (pe_slice sl_str pe_w pl ph) (ha.run Z0 F Z σ H s _ fun v Z1 H1 A1 g1 r1 n1 => kl Z0 F Z1 σ H1 (s.grow g1) _ fun Z2 H2 g2 => kh Z0 F Z2 σ H2 (s.grow (g1.trans g2)) _ fun Z3 H3 g3 => ?_)
  cases r1 with
  | fz r1 =>
    cases r1
    exact ⟨p, rfl, hz, q _ Z3 H3 [] (g1.trans (g2.trans g3)) (.fz (.str _)) .nil⟩
end
end M
namespace M
open PySem L2 PySem.Spec PyProof.Rows
section
variable {X : Cx} {ρ : Slots} {e a b c elt : Expr} {es : List Expr} {st : Stmt} {sts : List Stmt} {G : Go} {o o1 o2 : O} {d : D} {ds : List D} {pos p0 p1 p2 p3 p4 : Pos} {i : Nat} {x nm : Str} {α β γ : Type} {p q : Str} {k l : Bool} {m n : Int} {te : TE}
def repS (z : Str) (n : Int) : Str := ⟨(List.replicate n.toNat z.cps.toList).flatten.toArray⟩
theorem foldl_app {γ : Type} : ∀ (n : Nat) (c a : Array γ), (List.replicate n c).foldl (· ++ ·) a = ⟨a.toList ++ (List.replicate n c.toList).flatten⟩
  | 0, c, a => by simp
  | n + 1, c, a => by
    rw [List.replicate_succ, List.foldl_cons, foldl_app n, List.replicate_succ, List.flatten_cons]
    simp
theorem op_mul_str : OpR X (binaryOp .Mult) (fun x y H Q => ∃ z n, x = .str z ∧ y = .int n ∧ ((-(2 ^ 63) ≤ n ∧ n < 2 ^ 63) ∧ z.length * n.toNat ≤ 16777216) ∧ Q (.str (repS z n)) H) := by
  intro pins s σ H x y v u Q I rx ry h
  obtain ⟨z, n, rfl, rfl, ⟨⟨h1, h2⟩, h3⟩, q⟩ := h
  obtain ⟨t, rfl⟩ := rx
  obtain ⟨t', rfl⟩ := ry
  have hle : ¬ n < 1 → z.length ≤ 16777216 := fun hn => by
    have : 1 ≤ n.toNat := by omega
    exact Nat.le_trans (by have := Nat.mul_le_mul_left z.length this; omega) h3
  refine PySem.P.mul_str (by rw [decide_eq_false (by omega), decide_eq_false (by omega)]; rfl) (fun hn h0 hb => ?_) (fun hn h0 => ?_) ?_
  · have h1 : ((z.length : Int)) * n ≤ 16777216 := by
      have e : (n.toNat : Int) = n := by omega
      have := Int.ofNat_le.mpr h3
      rw [Int.natCast_mul, e] at this
      exact this
    have hn1 : 1 ≤ n := by omega
    have hq : (2 ^ 63 - 1) / n ≥ (z.length : Int) := by
      rw [ge_iff_le, Int.le_ediv_iff_mul_le (by omega)]
      omega
    omega
  · show decide (z.length * n.toNat > 16777216) = false
    exact decide_eq_false (by omega)
  · by_cases hn : n < 1
    · rw [if_pos hn]
      have e : repS z n = Str.empty := by
        unfold repS
        rw [show n.toNat = 0 by omega]
        rfl
      rw [e] at q
      exact ⟨by decide, .str _, H, I.tok _, ⟨_, rfl⟩, q⟩
    · rw [if_neg hn]
      by_cases h0 : (n == 1 || z.length == 0) = true
      · rw [if_pos h0]
        have e : repS z n = z := by
          unfold repS
          rw [Bool.or_eq_true, beq_iff_eq, beq_iff_eq] at h0
          rcases h0 with h0 | h0
          · subst h0
            simp
          · have : z.cps.toList = [] := by
              apply List.eq_nil_of_length_eq_zero
              rw [Array.length_toList]
              exact h0
            rw [this]
            have e2 : (List.replicate n.toNat ([] : List Nat)).flatten = [] := by simp
            rw [e2]
            obtain ⟨⟨l⟩⟩ := z
            have this : l = [] := this
            rw [this]
        rw [e] at q
        exact ⟨.str _, H, I, ⟨_, rfl⟩, q⟩
      · rw [if_neg h0]
        have e : (⟨(List.replicate n.toNat z.cps).foldl (· ++ ·) #[]⟩ : Str) = repS z n := by
          rw [foldl_app]
          rfl
        rw [e]
        refine ⟨?_, .str _, H, I.tok _, ⟨_, rfl⟩, q⟩
        have : (repS z n).length = n.toNat * z.length := by simp [repS, Str.length, List.length_flatten]
        rw [this, Nat.mul_comm]
        exact h3
theorem me_repS {kk : Int} (h : (-(2 ^ 63) ≤ kk ∧ kk < 2 ^ 63) ∧ p.length * kk.toNat ≤ 16777216) (ha : ME X ρ a (.fz (.str p))) (hb : ME X ρ b (.fz (.int kk))) : ME X ρ (.BinOp a .Mult b pos) (.fz (.str (repS p kk))) := me_op op_mul_str ha hb (.str p) (.int kk) (.str _) fun _ _ q => ⟨p, kk, rfl, rfl, h, q⟩
theorem zip_get {xs : List α} {ys : List β} {f : α → D} {g : β → D} {j : Nat} {d : D} (hd : ((xs.zip ys).map fun p => D.tup [f p.1, g p.2])[j]? = some d) : ∃ x y, xs[j]? = some x ∧ ys[j]? = some y ∧ d = .tup [f x, g y] := by
  rw [List.getElem?_map] at hd
  obtain ⟨⟨x, y⟩, h1, rfl⟩ := Option.map_eq_some_iff.mp hd
  have h2 := List.getElem?_zip_eq_some.mp h1
  exact ⟨x, y, h2.1, h2.2, rfl⟩
theorem wk_zip {K : PySem.W.Frag} {Zs F : Hp} {a b : Addr} {us vs : List V} {xs : List α} {ys : List β} {f : α → D} {g : β → D} (ra : RepL K Zs us (xs.map f)) (rb : RepL K Zs vs (ys.map g))
    (la : ∀ {Z2 H2 : Hp}, Ex Zs Z2 → Ex F H2 → Ex Z2 H2 → SqL K H2 a us) (lb : ∀ {Z2 H2 : Hp}, Ex Zs Z2 → Ex F H2 → Ex Z2 H2 → SqL K H2 b vs) : Wk K Zs F (Itz K a b) ((xs.zip ys).map fun p => D.tup [f p.1, g p.2]) := by
  refine ⟨fun j d Z2 H2 hd ez ef zh => ?_, fun Z2 H2 ez ef zh => ?_⟩
  · obtain ⟨x, y, hx, hy, rfl⟩ := zip_get hd
    obtain ⟨u, hu, ru⟩ := ra.get (i := j) (d := f x) (by rw [List.getElem?_map, hx]; rfl)
    obtain ⟨v, hv, rv⟩ := rb.get (i := j) (d := g y) (by rw [List.getElem?_map, hy]; rfl)
    refine ⟨⟨us, vs, u, v, la ez ef zh, lb ez ef zh, hu, hv⟩, fun w H3 hw => ?_⟩
    obtain ⟨T, u2, v2, ew, hT, e3, k1, k2⟩ := hw
    subst e3 ew
    have e4 := k1 us (la ez ef zh)
    have e5 := k2 vs (lb ez ef zh)
    rw [hu] at e4
    rw [hv] at e5
    cases e4
    cases e5
    have em := Ex.new (H := Z2) (o := HO.tup [u, v]) (zh.free hT)
    exact ⟨_, Gr.newz zh hT, .tup (.of upd_same) (.cons ((ru.mono ez).mono em) (.cons ((rv.mono ez).mono em) .nil))⟩
  · refine ⟨us, vs, la ez ef zh, lb ez ef zh, ?_⟩
    rw [ra.length, rb.length, List.length_map, List.length_map, List.length_map, List.length_zip]
    omega
theorem mi_zipT {xs : List α} {ys : List β} {enc : α → D} {enc2 : β → D} (h : MK X ρ a (xs.map enc)) (h2 : MK X ρ b (ys.map enc2)) (n1 : NS X a := by exact fun _ => rfl) (n2 : NS X b := by exact fun _ => rfl) : MI X ρ (iZip X.K (wA X [a, b])) ((xs.zip ys).map fun p => D.tup [enc p.1, enc2 p.2]) := .mk fun Z0 F Z σ H s R q =>
  PA_w (pa_cons pe_w (pa_cons pe_w pa_nil (n2 _)) (n1 _)) (h.run Z0 F Z σ H s _ fun l us Z1 H1 g1 l1 r1 => h2.run Z0 F Z1 σ H1 (s.grow g1) _ fun m vs Z2 H2 g2 l2 r2 => by
    have g := g1.trans g2
    have la : ∀ {Z3 H3 : Hp}, Ex Z2 Z3 → Ex F H3 → Ex Z3 H3 → SqL X.K H3 l us := fun e f z => l1.elim (fun l => ex_l ((g2.zz.trans e).trans z) l) fun l => ex_l f l
    have lb : ∀ {Z3 H3 : Hp}, Ex Z2 Z3 → Ex F H3 → Ex Z3 H3 → SqL X.K H3 m vs := fun e f z => l2.elim (fun l => ex_l (e.trans z) l) fun l => ex_l f l
    have eF := s.gr.hh.trans g.hh
    exact ⟨l, m, us, vs, rfl, la (Ex.refl _) eF g.zh, lb (Ex.refl _) eF g.zh, q _ Z2 H2 g (wk_zip (r1.mono g2.zz) r2 la lb)⟩)
theorem mic_enumT {xs : List α} {enc : α → D} (h : ML X ρ e (xs.map enc)) (n1 : NS X e := by exact fun _ => rfl) : MIc X ρ (iEnum X.K (wA X [e])) (xs.zipIdx.map fun p => D.tup [.int (p.2 : Nat), enc p.1]) := .mk fun Z0 F Z σ H s R q =>
  PA_w (pa_cons pe_w pa_nil (n1 _)) (h.run Z0 F Z σ H s _ fun a vs Z' H' g l r => by
    refine ⟨a, vs, rfl, l, q _ Z' H' g ⟨fun j d Z2 H2 hd ez ef zh => ?_, fun Z2 H2 ez ef zh => ?_⟩⟩
    · rw [List.getElem?_map, List.getElem?_zipIdx] at hd
      cases e : xs[j]? with
      | none =>
        rw [e] at hd
        cases hd
      | some d1 =>
        rw [e] at hd
        have hd2 : D.tup [.int ((0 + j : Nat)), enc d1] = d := Option.some.inj hd
        subst hd2
        obtain ⟨x, hx, rx⟩ := r.get (i := j) (d := enc d1) (by rw [List.getElem?_map, e]; rfl)
        refine ⟨⟨vs, x, ex_l ef l, hx⟩, fun y H3 hy => ?_⟩
        obtain ⟨T, x2, ey, hT, e3, hy⟩ := hy
        subst e3 ey
        have e4 := hy vs (ex_l ef l)
        rw [hx] at e4
        cases e4
        refine ⟨_, Gr.newz zh hT, .tup (.of upd_same) (.cons ?_ (.cons ((rx.mono ez).mono (Ex.new (zh.free hT))) .nil))⟩
        rw [Nat.zero_add]
        exact .int _
    · refine ⟨vs, ex_l ef l, ?_⟩
      rw [List.length_map, List.length_zipIdx, r.length, List.length_map]
      exact Nat.le_refl _)
noncomputable def srt (enc : β → D) (bs : List β) : List β := bs.mergeSort (PySem.W.dataLe false fun b => (enc b).py)
def SrtOk (enc : β → D) (bs : List β) : Prop := (∀ b ∈ bs, (enc b).pl = true) ∧ PySem.W.AllAlike (bs.map fun b => (enc b).py) ∧ PySem.W.Sortable (bs.map fun b => (enc b).py) ∧ ∀ b ∈ bs, (enc b).py.depth ≤ 60
/-- x = [elt for target in source if test], on one line -/
theorem m_setLcIf {xs : List α} {enc : α → D} {wi : TI} {g : TG} {scope : Scope} {vs : List Nat} {c : Expr} (p : ∀ (tt : TT) (te : TE), (∀ (s : Shared) (H : Hp) (C : Addr) (cl : List (Str × Addr)) (fp : List Addr), PT (X.blk s H scope (compEnvC scope cl C X.env) fp) c tt) →
      (∀ (s : Shared) (H : Hp) (C : Addr) (cl : List (Str × Addr)) (fp : List Addr), PE (X.blk s H scope (compEnvC scope cl C X.env) fp) elt te) → PS X st (tAsg (tLc wi g tt te vs) (gName i)))
    (h : MIc X ρ wi (xs.map enc)) (pb : α → Bool) (f : α → D) (hz : xs.length < sizeLine)
    (hs : ∀ d ∈ xs, ∃ τ ws, MTg g X.K (wipeS ρ vs) (enc d) τ ws ∧ (∀ w ∈ ws, w ∈ vs) ∧ ∀ (s : Shared) (H : Hp) (C : Addr) (cl : List (Str × Addr)) (fp : List Addr), MT (X.blk s H scope (compEnvC scope cl C X.env) fp) τ c (pb d) ∧ (pb d = true → ME (X.blk s H scope (compEnvC scope cl C X.env) fp) τ elt (.fz (f d))))
    (k : G.nx (ρ.set i (some (.lst (((xs.filter pb).map f).map .fz))))) (hi : i < ρ.length := by exact Nat.le_of_ble_eq_true rfl) : MS1 X ρ st G := .mk fun Z0 F Z σ H D s gdd => by
  refine PS_w (p (fun σ H Q => ∀ (s : Shared) (H' : Hp) (C : Addr) (cl : List (Str × Addr)) (fp : List Addr), wT (X.blk s H' scope (compEnvC scope cl C X.env) fp) c σ H Q) (fun σ H Q => ∀ (s : Shared) (H' : Hp) (C : Addr) (cl : List (Str × Addr)) (fp : List Addr), wE (X.blk s H' scope (compEnvC scope cl C X.env) fp) elt σ H Q)
    (fun s H' C cl fp => ⟨fun pins s' σ H Q I k => k s H' C cl fp pins s' I⟩) fun s H' C cl fp => ⟨fun pins s' σ H Q I k => k s H' C cl fp pins s' I⟩) ?_
  refine lc_run h pb f hz (fun d m => ?_) s fun v Z' H' A g' r n => gdd.nx _ Z' _ H' k (s.put g' r n hi)
  obtain ⟨τ, ws, t1, t2, t3⟩ := hs d m
  refine ⟨τ, ws, t1, t2, fun Z0 F Z σ H s Q q s' H' C cl fp => (t3 s' H' C cl fp).1.run Z0 F Z σ H s Q q, fun hp Z0 F Z σ H s Q q s' H' C cl fp => ((t3 s' H' C cl fp).2 hp).run Z0 F Z σ H s Q fun v Z' H' A g r n => ?_⟩
  cases r with
  | fz r => exact q v Z' H' g r
theorem m_setLcIfO {xs : List α} {ys : List β} {enc : α → D} {enc2 : β → D} {t : α → Option Bool} {f : α → Option β} (hy : fmO t f xs = some ys) {wi : TI} {g : TG} {scope : Scope} {vs : List Nat} {c : Expr} (p : ∀ (tt : TT) (te : TE), (∀ (s : Shared) (H : Hp) (C : Addr) (cl : List (Str × Addr)) (fp : List Addr), PT (X.blk s H scope (compEnvC scope cl C X.env) fp) c tt) →
      (∀ (s : Shared) (H : Hp) (C : Addr) (cl : List (Str × Addr)) (fp : List Addr), PE (X.blk s H scope (compEnvC scope cl C X.env) fp) elt te) → PS X st (tAsg (tLc wi g tt te vs) (gName i)))
    (h : MIc X ρ wi (xs.map enc)) (hz : xs.length < sizeLine)
    (hs : ∀ d ∈ xs, ∀ k, t d = some k → ∃ τ ws, MTg g X.K (wipeS ρ vs) (enc d) τ ws ∧ (∀ w ∈ ws, w ∈ vs) ∧ ∀ (s : Shared) (H : Hp) (C : Addr) (cl : List (Str × Addr)) (fp : List Addr), MT (X.blk s H scope (compEnvC scope cl C X.env) fp) τ c k ∧ (k = true → ∀ y, f d = some y → ME (X.blk s H scope (compEnvC scope cl C X.env) fp) τ elt (.fz (enc2 y))))
    (k : G.nx (ρ.set i (some (.lst ((ys.map enc2).map .fz))))) (hi : i < ρ.length := by exact Nat.le_of_ble_eq_true rfl) : MS1 X ρ st G := by
  obtain ⟨pb, q1, q2, q3⟩ := fmO_map (enc := enc2) hy
  refine m_setLcIf p h pb (ofO enc2 f) hz (fun d m => ?_) (by rw [q3]; exact k) hi
  obtain ⟨τ, ws, t1, t2, t3⟩ := hs d m (pb d) (q1 d m)
  refine ⟨τ, ws, t1, t2, fun s H C cl fp => ⟨(t3 s H C cl fp).1, fun hk => ?_⟩⟩
  obtain ⟨y, ey⟩ := q2 d m hk
  exact ME.is ((t3 s H C cl fp).2 hk y ey) (by unfold ofO; rw [ey])
end
end M
namespace M
open PySem L2 PySem.Spec PyProof.Rows
theorem nsPut_new : ∀ {ns : List Str} {f : Str}, nmAt ns f = none → nsPut ns f = ns ++ [f]
  | [], _, _ => rfl
  | n :: r, f, h => by
    unfold nmAt at h
    unfold nsPut
    by_cases e : n = f
    · rw [if_pos e.symm] at h; cases h
    · rw [if_neg fun q => e q.symm] at h
      rw [if_neg e, nsPut_new (Option.map_eq_none_iff.mp h)]
      rfl
theorem xsPut_new {α : Type} : ∀ {ns : List Str} {f : Str} {xs : List α} {y : α}, nmAt ns f = none → xs.length = ns.length → xsPut ns f xs y = xs ++ [y]
  | [], _, [], _, _, _ => rfl
  | n :: r, f, x :: xs, y, h, l => by
    unfold nmAt at h
    unfold xsPut
    by_cases e : n = f
    · rw [if_pos e.symm] at h; cases h
    · rw [if_neg fun q => e q.symm] at h
      rw [if_neg e, xsPut_new (Option.map_eq_none_iff.mp h) (by simpa using l)]
      rfl
section
variable {X : Cx} {ρ : Slots} {e a b c elt : Expr} {es : List Expr} {st : Stmt} {sts : List Stmt} {G : Go} {o o1 o2 : O} {d : D} {ds : List D} {os : List O} {pos p0 p1 p2 p3 p4 : Pos} {i : Nat} {x nm f : Str} {C : Addr} {ns : List Str}
theorem OC.take {K : PySem.W.Frag} {all : List Str} (n : Nat) (h : OC K C all) : OC K C (all.take n) := ⟨h.cl, fun f m => h.na f (List.mem_of_mem_take m)⟩
/-- x.f = e, an attribute that isn't there yet -/
theorem m_setFldN {l : Addr} {all : List Str} (pn : PE X (.Name x p1) (tVar i)) (hi : ρ[i]? = some (some (.at l C ns os))) (cc : OC X.K C all) (he : ME X ρ e o)
    (kk : G.nx (ρ.set i (some (.at l C (ns ++ [f]) (os ++ [o]))))) (hl : os.length = ns.length := by rfl) (h1000 : ns.length < 1000 := by decide) (hm : f ∈ all := by decide +kernel) (hn : nmAt ns f = none := by decide +kernel)
    (hs : swapsWith e (some (.Attribute (.Name x p1) f p2)) p3.line X.env = pure false := by rfl) : MS1 X ρ (.Assign [.Attribute (.Name x p1) f p2] e p3) G :=
  m_setFld pn hi hl h1000 cc hm he (by rw [nsPut_new hn, xsPut_new hn hl]; exact kk) hs
end
end M
namespace M
open PySem L2 PySem.Spec PyProof.Rows
/-- slots that are fit for what follows: gone, of one's own, or a view at a known place that stands as it stood -/
inductive Kp : Slots → Slots → Prop where
  | nil : Kp [] []
  | no {x : Option O} {ρ τ : Slots} : Kp ρ τ → Kp (x :: ρ) (none :: τ)
  | nv {x : Option O} {o : O} {ρ τ : Slots} : o.nv = true → Kp ρ τ → Kp (x :: ρ) (some o :: τ)
  | va {a : Addr} {ds : List D} {ρ τ : Slots} : Kp ρ τ → Kp (some (.vwa a ds) :: ρ) (some (.vwa a ds) :: τ)
  | lk {a : Addr} {o : O} {ρ τ : Slots} : Kp ρ τ → Kp (some (.lk (.loc a o)) :: ρ) (some (.lk (.loc a o)) :: τ)
section
variable {K : PySem.W.Frag} {Z0 Z Z1 F F' H H1 : Hp}
theorem StL.monoF (f : Ex F F') : ∀ {ρ : Slots} {σ : L2.St} {A : List Addr}, StL K Z F H ρ σ A → StL K Z F' H ρ σ A
  | _, _, _, .nil => .nil
  | _, _, _, .no h => .no (h.monoF f)
  | _, _, _, .so r h => .so (r.mono (Ex.refl _) f fun _ _ _ e => e) (h.monoF f)
theorem RepO.lkAt {v : V} {a : Addr} {o : O} {A : List Addr} (r : RepO K Z F H v (.lk (.loc a o)) A) : v = .ref a ∧ A = [] ∧ RepK K Z F (.ref a) o := by
  cases r with
  | lk r =>
    cases r with
    | loc r => exact ⟨rfl, rfl, r⟩
theorem StL.kp (ef : Ex F F') (ez : Ex Z Z1) : ∀ {ρ τ : Slots} {σ0 σ : L2.St} {A0 A : List Addr}, Kp ρ τ → StL K Z F H ρ σ0 A0 → StL K Z1 F' H1 τ σ A → StL K Z1 F H1 τ σ A
  | _, _, _, _, _, _, .nil, .nil, .nil => .nil
  | _, _, _, _, _, _, .no k, .no h0, .no h => .no (StL.kp ef ez k h0 h)
  | _, _, _, _, _, _, .no k, .so _ h0, .no h => .no (StL.kp ef ez k h0 h)
  | _, _, _, _, _, _, .nv n k, .no h0, .so r h => .so (r.unF n) (StL.kp ef ez k h0 h)
  | _, _, _, _, _, _, .nv n k, .so _ h0, .so r h => .so (r.unF n) (StL.kp ef ez k h0 h)
  | _, _, _, _, _, _, .va k, .so r0 h0, .so r h => by
    cases r with
    | vwa r2 r3 =>
      cases r0 with
      | vwa r4 r5 => exact .so (.vwa r4 (r5.mono ez)) (StL.kp ef ez k h0 h)
  | _, _, _, _, _, _, .lk (a := a) (o := o) k, .so r0 h0, .so r h => by
    have e0 := RepO.lkAt r0
    have e1 := RepO.lkAt r
    rw [e1.1, e1.2.1]
    exact .so (.lk (.loc (e0.2.2.mono ez (Ex.refl _)))) (StL.kp ef ez k h0 h)
end
section
variable {X : Cx} {ρ : Slots} {st : Stmt} {sts : List Stmt} {G : Go} {o : O} {d : D} {ds : List D} {i : Nat}
end
end M
namespace M
open PySem L2 PySem.Spec PyProof.Rows
section
variable {X : Cx} {ρ : Slots} {a b : Expr} {pos : Pos} {p : Str} {m : Int} {k : Bool}
end
end M
namespace M
open PySem L2 PySem.Spec PyProof.Rows
def isiD (T : String) (d : D) : Option Bool := d.tyN.bind fun t => kitB t T
def asI : D → Option Int
  | .int i => some i
  | _ => none
def asS : D → Option Str
  | .str x => some x
  | _ => none
theorem asI_is {d : D} {i : Int} (h : asI d = some i) : O.fz d = .fz (.int i) := by
  cases d <;> cases h
  rfl
theorem asS_is {d : D} {i : Str} (h : asS d = some i) : O.fz d = .fz (.str i) := by
  cases d <;> cases h
  rfl
section
variable {X : Cx} {ρ : Slots} {a b c e : Expr} {pos p0 p1 : Pos} {d : D} {k : Bool}
theorem me_isiD {T : String} {TS : Str} (hk : isiD T d = some k) (hg : Gl X "isinstance") (hm : X.mg "isinstance" = none) (hT : PE X (.Name TS p1) (tC (.ty T))) (ha : MV X ρ a (.fz d)) (n1 : NS X a := by exact fun _ => rfl) :
    ME X ρ (.Call (.Name "isinstance" p0) [a, .Name TS p1] [] pos) (.fz (.bl k)) := by
  obtain ⟨t, h1, h2⟩ := Option.bind_eq_some_iff.mp hk
  exact me_isi hg hm hT ha (o := .fz d) h1 h2 n1
end
end M
namespace M
open PySem L2 PySem.Spec PyProof.Rows
structure MkP (K : PySem.W.Frag) (C : Addr) : Prop where
  makes : PySem.W.makesIn K C = true
  init : PySem.W.findIn K (.ref C) "__init__" = some (some (.builtin "object.__init__"))
  kp : PySem.W.keepIn K (.ref C) = true
theorem run_plain {X : Cx} {C : Addr} {pins : List (Addr × Obj)} {σ : L2.St} {H : Hp} {s : Shared} {Q : VK} (M : MkP X.K C) (I : Inv X pins σ H s)
    (h : ∀ x dx, H x = none → H dx = none → dx ≠ x → Q (.ref x) (upd (upd H dx (.own x)) x (.ins C dx []))) : wpAny (model X.prog X.w) X.A (call (.ref C) []) (EP X pins σ Q) X.xe s := by
  have hq := h (s.heap.objs.size + 1) s.heap.objs.size (I.hok.fresh (Nat.le_succ _)) (I.hok.fresh (Nat.le_refl _)) (Nat.ne_of_lt (Nat.lt_succ_self _))
  have I2 := Inv.made (C := C) I
  have Y := PySem.W.makes_of (M := model X.prog X.w) I.kIn M.makes
  refine wpAny_call (make_map0 I.kIn M.makes M.init (fun self => PySem.W.Looks.of_pure (PySem.W.oi_bind self)) ?_)
  obtain ⟨hh, g, d, t, os⟩ := s
  have hx : ((hh.push PySem.W.emptyDict).push (PySem.W.instObj C hh.objs.size)).get? (hh.objs.size + 1) = some (PySem.W.instObj C hh.objs.size) := by heap_get
  have t1 : PySem.W.Looks (model X.prog X.w) ((hh.push PySem.W.emptyDict).push (PySem.W.instObj C hh.objs.size)) (typeOf (.ref (hh.objs.size + 1))) (.ref C) := (PySem.W.Looks.ld hx).andThen .now
  have t2 : PySem.W.Looks (model X.prog X.w) ((hh.push PySem.W.emptyDict).push (PySem.W.instObj C hh.objs.size)) (isInstance (.ref (hh.objs.size + 1)) (.type "object")) true := t1.andThen (Y.top.keeps fun b o e => Heap.get?_push_of_some _ (Heap.get?_push_of_some _ e))
  refine PySem.codeAny_call_builtin PySem.W.oi_plain PySem.W.entry_oi (@PySem.W.check_slot (model X.prog X.w) _ _ _ "object.__init__" "object" "__init__" (.ref (hh.objs.size + 1)) [] [] _ PySem.W.oi_kind PySem.W.oi_split t2 (PySem.W.oi_args (.ref (hh.objs.size + 1))) ?_)
  rw [PySem.W.oi_run]
  exact wpAny_pure (And.intro rfl ⟨V.ref (hh.objs.size + 1), _, I2, rfl, hq⟩)
section
variable {X : Cx} {ρ : Slots} {e a b : Expr} {es : List Expr} {pos p0 p1 : Pos} {nm : Str} {C : Addr} {ns : List Str} {ds : List D} {o : O} {d : D}
theorem pe_plain (mp : MkP X.K C) (hg : Gl X nm) (hm : X.mg nm = some (.ref C)) (hdb : (nm == ("__debug__" : Str)) = false := by decide) : PE X (.Call (.Name nm p0) [] [] pos) (fun σ H Q => ∀ x dx, H x = none → H dx = none → dx ≠ x → Q (.ref x) (upd (upd H dx (.own x)) x (.ins C dx []))) := by
  refine ⟨fun pins s σ H Q I h => ?_⟩
  refine wpAny_Call_Name_kw (ld_glob I hg hm ?_ hdb)
  exact PySem.W.callWith_K0 I.kIn mp.kp (run_plain mp I h)
theorem me_plain (mp : MkP X.K C) (hm : X.mg nm = some (.ref C)) (hg : Gl X nm := by rfl) (hdb : (nm == ("__debug__" : Str)) = false := by decide) : ME X ρ (.Call (.Name nm p0) [] [] pos) (.ins C [] []) := .mk fun Z0 F Z σ H s Q q =>
  PE_w (pe_plain mp hg hm hdb) fun x dx hx hdx ne => by
    have h2 : (upd H dx (.own x)) x = none := by rw [upd_ne ne.symm]; exact hx
    exact q (.ref x) Z _ [x] ((Gr.new s.ex hdx).trans (Gr.new ((s.ex).trans (Ex.new hdx)) h2)) (.ins (dx := dx) upd_same .nil) (new_one hx (s.ex.free hx))
theorem fn_mXD {α : Type} {P : Program} {w : World} {K : PySem.W.Frag} {mg : Str → Option Value} {base : Heap} {x qual : Str} {pr : Arguments} {bo : List Stmt} {sc : Scope} {dvs : List V} {kws : List (Str × V)} {f : Addr} {fd : FuncData} {N ps : List Str} {k : Nat} {ar : α → List O} {pre : α → Prop} {s0 s1 : Addr → α → O} {res : α → O}
    (F : FunD K x qual pr bo sc dvs kws f fd) (S : FnScope N ps sc) (hl : ∀ x, (ar x).length + 1 = ps.length) (hn1 : ∀ l x, pre x → (s1 l x).nv = true) (hn2 : ∀ x, pre x → (res x).nv = true) (hat : ∀ l x, ∃ C ns os, s1 l x = .at l C ns os)
    (hb : ∀ (cdv : Value) (A : Around) (outer : List Env) (s : Shared) (H : Hp) (E : XK), Room k (A.deeper (envOfC qual sc s.heap.objs.size f cdv)) → ∀ (l : Addr) x, pre x →
      MS (cxOf CX0 P w K mg base N qual sc f cdv A outer s H E).nox (some (s0 l x) :: (ar x).map some ++ List.replicate (N.length - ps.length) none) bo { nx := fun ρ => res x = .fz .non ∧ ρ[0]? = some (some (s1 l x)), rs := fun o ρ => o = res x ∧ ρ[0]? = some (some (s1 l x)) }) :
    FnOk P w K mg base CX0 (k + 1) f fd ps (SpX K ar pre s0 s1 res) := by
  refine F.ok S (fun vs H Q E h => ?_) (fun cdv A outer s H vs Q E hr h => ?_)
  · obtain ⟨x, Z, F, l, vs', A, rfl, _, _, _, _, _, r, _⟩ := h
    rw [List.length_cons, r.length, hl]
  · obtain ⟨x, Z, F0, l, vs', A0, rfl, ez, ef, nA, fA, rs, r, hp, q⟩ := h
    obtain ⟨C, ns, os, hs1⟩ := hat l x
    have st0 : StL K Z F0 H (some (s0 l x) :: (ar x).map some) (some (.ref l) :: vs'.map some) (A0 ++ []) := .so rs (stL_args (r.mono (Ex.refl _) (Ex.refl _) fun _ m => nomatch m))
    refine ⟨_, PSs.nox pss_w, (hb cdv A outer s H E hr l x hp).run Z F0 Z _ H _ ⟨⟨Ex.refl _, ef, ez.trans ef, fun _ _ _ => rfl⟩, A0 ++ [], ?_, by rw [List.append_nil]; exact nA, fun a m => ?_⟩ ⟨fun ρ Z' σ H' e s' => ?_, fun _ _ _ _ z => z.elim, fun _ _ _ _ z => z.elim, fun _ _ _ _ _ z => z.elim, fun o ρ v Z' σ H' e s' => ?_, GX.never fun _ z => z⟩⟩
    · have e : L2.start N (.ref l :: vs') = (some (.ref l) :: vs'.map some) ++ List.replicate (N.length - ps.length) none := by
        unfold L2.start
        rw [List.length_cons, r.length, hl]
        rfl
      rw [e]
      exact stL_more _ st0
    · rw [List.append_nil] at m
      exact ⟨ez.free (fA a m), fA a m⟩
    · obtain ⟨en, e⟩ := e
      obtain ⟨A1, t1, t2, t3⟩ := s'.st
      obtain ⟨v, B, u1, u2, u3, u4, _⟩ := t1.at e t2
      have hn := hn1 l x hp
      rw [hs1] at u2 hn
      cases u2 with
      | @«at» _ _ dx _ vs1 _ B1 h0 rl =>
        refine q .non Z' H' ((l :: B1) ++ ([] ++ [])) s'.gr (.cons ?_ (.cons (A := []) ?_ .nil)) (by simpa using u3) fun a m => ?_
        · rw [hs1]
          exact (RepO.at h0 rl).unF hn
        · rw [en]
          exact .fz .non
        · have m : a ∈ l :: B1 := by simpa using m
          exact ⟨(t3 a (u4 a m)).2, (t3 a (u4 a m)).1⟩
    · obtain ⟨en, e⟩ := e
      subst en
      obtain ⟨A1, t1, t2, t3⟩ := s'.st
      obtain ⟨B, Cc, w1, w2, w3, w4⟩ := t1.last t2
      obtain ⟨n1, n2, n3⟩ := List.nodup_append.mp w3
      obtain ⟨v0, B0, u1, u2, u3, u4, _⟩ := w1.at e n1
      have hn := hn1 l x hp
      rw [hs1] at u2 hn
      cases u2 with
      | @«at» _ _ dx _ vs1 _ B1 h0 rl =>
        refine q v Z' H' ((l :: B1) ++ (Cc ++ [])) s'.gr (.cons ?_ (.cons (w2.unF (hn2 x hp)) .nil)) ?_ fun a m => ?_
        · rw [hs1]
          exact (RepO.at h0 rl).unF hn
        · rw [List.append_nil]
          exact List.nodup_append.mpr ⟨u3, n2, fun a ha b hb => n3 a (u4 a ha) b hb⟩
        · rw [List.append_nil] at m
          have m2 : a ∈ B ++ Cc := by
            rcases List.mem_append.mp m with z | z
            · exact List.mem_append_left _ (u4 a z)
            · exact List.mem_append_right _ z
          exact ⟨(t3 a (w4 a m2)).2, (t3 a (w4 a m2)).1⟩
/-- a default is a plain value -/
inductive Dfl : List V → List D → Prop where
  | nil : Dfl [] []
  | cons {v : V} {d : D} {vs : List V} {ds : List D} : Sc d v → Dfl vs ds → Dfl (v :: vs) (d :: ds)
theorem Dfl.own {K : PySem.W.Frag} {Z F H : Hp} : ∀ {vs : List V} {ds : List D}, Dfl vs ds → RepOL K Z F H vs (ds.map .fz) []
  | _, _, .nil => .nil
  | _, _, .cons h r => .cons (A := []) (B := []) (.fz h.rep) r.own
theorem RepOL.app1 {K : PySem.W.Frag} {Z F H : Hp} : ∀ {vs : List V} {os : List O} {A : List Addr}, RepOL K Z F H vs os A → A = [] → ∀ {ws : List V} {us : List O}, RepOL K Z F H ws us [] → RepOL K Z F H (vs ++ ws) (os ++ us) []
  | _, _, _, .nil, _, _, _, s => s
  | _, _, _, .cons h r, e, _, _, s => by
    obtain ⟨rfl, rfl⟩ := List.append_eq_nil_iff.mp e
    exact .cons (A := []) (B := []) h (RepOL.app1 r rfl s)
theorem RepOL.app0 {K : PySem.W.Frag} {Z F H : Hp} {vs ws : List V} {os us : List O} (r : RepOL K Z F H vs os []) (s : RepOL K Z F H ws us []) : RepOL K Z F H (vs ++ ws) (os ++ us) [] := r.app1 rfl s
structure Mk1D (P : Program) (w : World) (K : PySem.W.Frag) (mg : Str → Option Value) (base : Heap) (name : Str) (C : Addr) (k : Nat) (ps : List Str) (dvs : List V) (sp : Sp) : Prop where
  ex : ∃ (f : Addr) (fd : FuncData) (dd : List Value), mg name = some (.ref C) ∧ Mk K C f ∧ Binds K fd ps dd ∧ Vals dvs dd ∧ FnOk P w K mg base CX0 k f fd ps sp
theorem me_makeD {α : Type} {ar : α → List O} {pre : α → Prop} {res : α → List O} {k : Nat} {ps : List Str} {dvs : List V} {dds : List D} {ro : List O} (c : Mk1D X.prog X.w X.K X.mg X.base nm C k ps dvs (SpI X.K C ns ar pre res)) (hd : Dfl dvs dds) (x : α) (ha : MA X ρ (e :: es) ro) (hx : ar x = ro ++ dds.map .fz) (hp : pre x) (hr : Room (k + 1) X.A) {os : List O} (hres : res x = os := by first | (dsimp only; done) | (dsimp only; rfl) | rfl) (hg : Gl X nm := by rfl)
    (hdb : (nm == ("__debug__" : Str)) = false := by decide) (he : starEach (e :: es) X.env = (false, eval e X.env) :: starEach es X.env := by rfl) (hpl : (backTo pos (starEach es X.env)).any (·.1) = false := by rfl) : ME X ρ (.Call (.Name nm p0) (e :: es) [] pos) (.ins C ns os) := by
  subst hres
  obtain ⟨f, fd, dd, hm, M, hb, hv, F⟩ := c.ex
  exact .mk fun Z0 F0 Z σ H s Q q => PE_w (pe_make M F hr hg hm hb hv pass0 pa_w hdb he hpl) (ha.run Z0 F0 Z σ H s _ fun vs Z1 H1 g1 r1 l dx nl ndx ne =>
    ⟨x, Z1, H1, l, dx, vs ++ dvs, rfl, g1.zh, (Ex.new ndx).trans (Ex.new (by rw [upd_ne ne.symm]; exact nl)), nl, upd_same, by rw [hx]; exact r1.app0 hd.own, hp, fun Z2 H2 A g2 r2 n2 =>
      ⟨rfl, q (.ref l) Z2 H2 A (g1.trans g2) (r2.unAt.mono (Ex.refl _) (fun _ _ z => by cases z) fun _ _ _ z => z) ⟨n2.1, fun a m => ⟨g1.hh.free (n2.2 a m).1, (n2.2 a m).2⟩⟩⟩⟩)
/-- C(..) without arguments -/
theorem me_make0 {α : Type} {ar : α → List O} {pre : α → Prop} {res : α → List O} {k : Nat} {ps : List Str} (c : Mk1 X.prog X.w X.K X.mg X.base nm C k ps (SpI X.K C ns ar pre res)) (x : α) (hx : ar x = []) (hp : pre x) (hr : Room (k + 1) X.A) {os : List O} (hres : res x = os := by first | (dsimp only; done) | (dsimp only; rfl) | rfl) (hg : Gl X nm := by rfl)
    (hdb : (nm == ("__debug__" : Str)) = false := by decide) : ME X ρ (.Call (.Name nm p0) [] [] pos) (.ins C ns os) := by
  subst hres
  obtain ⟨f, fd, hm, M, hb, F⟩ := c.ex
  exact .mk fun Z0 F0 Z σ H s Q q => PE_w (pe_make0 M F hr hg hm hb .nil pass0 hdb) (fun l dx nl ndx ne =>
    ⟨x, Z, H, l, dx, [], rfl, s.ex, (Ex.new ndx).trans (Ex.new (by rw [upd_ne ne.symm]; exact nl)), nl, upd_same, by rw [hx]; exact .nil, hp, fun Z2 H2 A g2 r2 n2 =>
      ⟨rfl, q (.ref l) Z2 H2 A g2 (r2.unAt.mono (Ex.refl _) (fun _ _ z => by cases z) fun _ _ _ z => z) ⟨n2.1, fun a m => ⟨(n2.2 a m).1, (n2.2 a m).2⟩⟩⟩⟩)
end
end M
namespace M
open PySem L2 PySem.Spec PyProof.Rows
section
variable {K : PySem.W.Frag} {Z0 Z Z' Z1 F F' H H' H1 : Hp} {ρ ρ' : Slots} {σ : L2.St}
theorem RepOL.foc : ∀ {vs : List V} {os : List O} {A : List Addr} {j : Nat} {o : O}, RepOL K Z F H vs os A → os[j]? = some o → A.Nodup →
    ∃ v B, vs[j]? = some v ∧ RepO K Z F H v o B ∧ B.Nodup ∧ (∀ a ∈ B, a ∈ A) ∧ ∀ {Z' H' : Hp} {o' : O} {B' : List Addr}, Ex Z Z' → (∀ a ∈ A, a ∉ B → ∀ u, H a = some u → H' a = some u) → RepO K Z' F H' v o' B' → B'.Nodup → (∀ a ∈ B', a ∈ A → a ∈ B) →
      ∃ A', RepOL K Z' F H' vs (os.set j o') A' ∧ A'.Nodup ∧ ∀ a ∈ A', (a ∈ A ∧ a ∉ B) ∨ a ∈ B'
  | _, _, _, _, _, .nil, e, _ => by simp at e
  | _, _, _, 0, _, .cons (A := A1) (B := A2) q h, e, nA => by
    simp at e
    subst e
    obtain ⟨n1, n2, n3⟩ := List.nodup_append.mp nA
    refine ⟨_, A1, rfl, q, n1, fun a m => List.mem_append_left _ m, fun ez k r n d => ?_⟩
    refine ⟨_, .cons r (RepOL.mono ez (Ex.refl _) h fun a m => k a (List.mem_append_right _ m) fun z => n3 a z a m rfl), List.nodup_append.mpr ⟨n, n2, fun a ha b hb e => ?_⟩, fun a m => ?_⟩
    · subst e
      exact n3 a (d a ha (List.mem_append_right _ hb)) a hb rfl
    · rcases List.mem_append.mp m with m | m
      · exact .inr m
      · exact .inl ⟨List.mem_append_right _ m, fun z => n3 a z a m rfl⟩
  | _, _, _, j + 1, _, .cons (A := A1) (B := A2) q h, e, nA => by
    obtain ⟨n1, n2, n3⟩ := List.nodup_append.mp nA
    obtain ⟨v, B, h1, h2, h3, h4, h5⟩ := RepOL.foc (j := j) h (by simpa using e) n2
    refine ⟨v, B, by simpa using h1, h2, h3, fun a m => List.mem_append_right _ (h4 a m), fun ez k r n d => ?_⟩
    obtain ⟨A', q1, q2, q3⟩ := h5 ez (fun a m nb => k a (List.mem_append_right _ m) nb) r n fun a m z => d a m (List.mem_append_right _ z)
    refine ⟨_, .cons (q.mono ez (Ex.refl _) fun a m => k a (List.mem_append_left _ m) fun z => n3 a m a (h4 a z) rfl) q1, List.nodup_append.mpr ⟨n1, q2, fun a ha b hb e => ?_⟩, fun a m => ?_⟩
    · subst e
      rcases q3 a hb with z | z
      · exact n3 a ha a z.1 rfl
      · exact n3 a ha a (h4 a (d a z (List.mem_append_left _ ha))) rfl
    · rcases List.mem_append.mp m with m | m
      · exact .inl ⟨List.mem_append_left _ m, fun z => n3 a m a (h4 a z) rfl⟩
      · exact (q3 a m).imp (fun z => ⟨List.mem_append_right _ z.1, z.2⟩) id
/-- a state with what it owns -/
structure StA (K : PySem.W.Frag) (ρ : Slots) (Z0 F Z : Hp) (σ : L2.St) (H : Hp) (A : List Addr) : Prop where
  gr : Gr Z0 F Z H
  st : StL K Z F H ρ σ A
  nd : A.Nodup
  ds : ∀ a ∈ A, Z a = none ∧ F a = none
theorem StA.r {A : List Addr} (s : StA K ρ Z0 F Z σ H A) : StR K ρ Z0 F Z σ H := ⟨s.gr, A, s.st, s.nd, s.ds⟩
theorem StR.a (s : StR K ρ Z0 F Z σ H) : ∃ A, StA K ρ Z0 F Z σ H A := let ⟨A, h1, h2, h3⟩ := s.st; ⟨A, s.gr, h1, h2, h3⟩
theorem StA.grow {A : List Addr} (s : StA K ρ Z0 F Z σ H A) (g : Gr Z H Z' H') : StA K ρ Z0 F Z' σ H' A := by
  refine ⟨s.gr.trans g, s.st.mono g.zz fun a _ u e => g.hh a u e, s.nd, fun a m => ⟨?_, (s.ds a m).2⟩⟩
  obtain ⟨u, e⟩ := s.st.there a m
  rw [g.nw a u e]
  exact (s.ds a m).1
/-- what a change at A must leave as it is -/
def Kept (F : Hp) (T A : List Addr) (a : Addr) : Prop := a ∉ A ∧ (a ∈ T ∨ ∃ u, F a = some u)
/-- the part at a place: what is there, and what comes of it where it is changed -/
structure FocA (K : PySem.W.Frag) (F Z : Hp) (Z0 : Hp) (σ : L2.St) (H : Hp) (T : List Addr) (v : V) (o : O) (R : O → Slots) (A : List Addr) : Prop where
  rp : RepO K Z F H v o A
  nd : A.Nodup
  ds : ∀ a ∈ A, a ∈ T ∧ Z a = none ∧ F a = none
  th : ∀ a ∈ T, ∃ u, H a = some u
  fh : Ex F H
  k : ∀ {Z' H' : Hp} {w : V} {o' p : O} {B : List Addr}, Ex Z Z' → (∀ a, Kept F T A a → Z' a = Z a) → Ex Z' H' → (∀ a, Kept F T A a → ∀ u, H a = some u → H' a = some u) → RepOL K Z' F H' [v, w] [o', p] B → B.Nodup → (∀ a ∈ B, (a ∈ A ∨ a ∉ T ∧ F a = none) ∧ Z' a = none) →
    StR K (R o' ++ [some p]) Z0 F Z' (σ ++ [some w]) H'
def Foc (K : PySem.W.Frag) (Z0 F Z : Hp) (σ : L2.St) (H : Hp) (T : List Addr) (v : V) (o : O) (R : O → Slots) : Prop := ∃ A, FocA K F Z Z0 σ H T v o R A
theorem StA.foc {T : List Addr} {i : Nat} {o : O} (s : StA K ρ Z0 F Z σ H T) (hi : ρ[i]? = some (some o)) : ∃ v, σ[i]? = some (some v) ∧ Foc K Z0 F Z σ H T v o (fun o' => ρ.set i (some o')) := by
  obtain ⟨v, B0, q1, q2, q3, q4, q5⟩ := s.st.at hi s.nd
  refine ⟨v, q1, B0, q2, q3, fun a m => ⟨q4 a m, s.ds a (q4 a m)⟩, s.st.there, s.gr.hh, fun {Z' H' w o' p B} ez nz zh k r n d => ?_⟩
  cases r with
  | @cons _ _ _ _ A1 B1 ra r =>
    cases r with
    | @cons _ _ _ _ A2 B2 rb r =>
      cases r
      rw [List.append_nil] at n d
      obtain ⟨n1, n2, n3⟩ := List.nodup_append.mp n
      have apart : ∀ a ∈ A1 ++ A2, a ∈ T → a ∈ B0 := fun a m ma => (d a m).1.elim id fun z => absurd ma z.1
      obtain ⟨A', r1, r2, r3⟩ := q5 (v' := v) ez (fun a m nb u e => k a ⟨nb, .inl m⟩ u e) ra n1 fun a m ma => apart a (List.mem_append_left _ m) ma
      rw [set_same q1] at r1
      have hF : ∀ a u, F a = some u → a ∉ B0 := fun a u e m => by
        rw [(s.ds a (q4 a m)).2] at e
        cases e
      refine ⟨⟨s.gr.zz.trans ez, fun a u e => k a ⟨hF a u e, .inr ⟨u, e⟩⟩ u (s.gr.hh a u e), zh, fun a u e => (nz a ⟨hF a u e, .inr ⟨u, e⟩⟩).trans (s.gr.nw a u e)⟩, A' ++ A2, r1.push rb, List.nodup_append.mpr ⟨r2, n2, fun a ha b hb e => ?_⟩, fun a m => ?_⟩
      · subst e
        rcases r3 a ha with z | z
        · exact z.2 (apart a (List.mem_append_right _ hb) z.1)
        · exact n3 a z a hb rfl
      · have new : a ∈ A1 ++ A2 → Z' a = none ∧ F a = none := fun y => by
          refine ⟨(d a y).2, ?_⟩
          rcases (d a y).1 with z | z
          · exact (s.ds a (q4 a z)).2
          · exact z.2
        rcases List.mem_append.mp m with m | m
        · rcases r3 a m with z | z
          · exact ⟨(nz a ⟨z.2, .inl z.1⟩).trans (s.ds a z.1).1, (s.ds a z.1).2⟩
          · exact new (List.mem_append_left _ z)
        · exact new (List.mem_append_right _ m)
theorem Foc.grow {T : List Addr} {v : V} {o : O} {R : O → Slots} (f : Foc K Z0 F Z σ H T v o R) (g : Gr Z H Z1 H1) : Foc K Z0 F Z1 σ H1 T v o R := by
  obtain ⟨A, f⟩ := f
  refine ⟨A, f.rp.ex g.zz g.hh, f.nd, fun a m => ⟨(f.ds a m).1, ?_, (f.ds a m).2.2⟩, fun a m => ?_, f.fh.trans g.hh, fun {Z' H' w o' p B} ez nz zh k r n d => ?_⟩
  · obtain ⟨u, e⟩ := f.rp.there a m
    exact (g.nw a u e).trans (f.ds a m).2.1
  · obtain ⟨u, e⟩ := f.th a m
    exact ⟨u, g.hh a u e⟩
  · refine f.k (g.zz.trans ez) (fun a ka => ?_) zh (fun a ka u e => k a ka u (g.hh a u e)) r n d
    have : ∃ u, H a = some u := ka.2.elim (f.th a) fun ⟨u, e⟩ => ⟨u, f.fh a u e⟩
    obtain ⟨u, e⟩ := this
    exact (nz a ka).trans (g.nw a u e)
theorem FocA.chg {T A : List Addr} {v : V} {o : O} {R : O → Slots} (f : FocA K F Z Z0 σ H T v o R A) {o' : O} {B : List Addr} (ez : Ex Z Z') (nz : ∀ a, Kept F T A a → Z' a = Z a) (zh : Ex Z' H') (k : ∀ a, Kept F T A a → ∀ u, H a = some u → H' a = some u) (r : RepO K Z' F H' v o' B) (n : B.Nodup) (d : ∀ a ∈ B, (a ∈ A ∨ a ∉ T ∧ F a = none) ∧ Z' a = none) : StR K (R o') Z0 F Z' σ H' := by
  have := f.k (w := .non) (p := .fz .non) ez nz zh k (.cons r (.cons (A := []) (.fz .non) .nil)) (by simpa using n) (fun a m => d a (by simpa using m))
  exact this.pop
/-- one step down -/
theorem FocA.down {X : Type} {T A : List Addr} {v : V} {mk : List O → O} {cell : X → List V → HO} {P : Addr → Prop} {R : O → Slots} {os : List O} {j : Nat} {o : O}
    (hmk : ∀ {Z H : Hp} {v : V} {os : List O} {A : List Addr}, RepO K Z F H v (mk os) A ↔ ∃ a x vs A1, P a ∧ v = .ref a ∧ A = a :: A1 ∧ H a = some (cell x vs) ∧ RepOL K Z F H vs os A1)
    (f : FocA K F Z Z0 σ H T v (mk os) R A) (hj : os[j]? = some o) : ∃ a x vs v', v = .ref a ∧ H a = some (cell x vs) ∧ vs.length = os.length ∧ vs[j]? = some v' ∧ Foc K Z0 F Z σ H T v' o (fun o' => R (mk (os.set j o'))) := by
  obtain ⟨a, x, vs, A1, pa, rfl, rfl, ha, rl⟩ := hmk.mp f.rp
  obtain ⟨na, nA⟩ := List.nodup_cons.mp f.nd
  obtain ⟨v', B, q1, q2, q3, q4, q5⟩ := rl.foc hj nA
  have lenL : ∀ {vs : List V} {os : List O} {A : List Addr}, RepOL K Z F H vs os A → vs.length = os.length := fun r => r.length
  refine ⟨a, x, vs, v', rfl, ha, lenL rl, q1, B, q2, q3, fun b m => f.ds b (List.mem_cons_of_mem _ (q4 b m)), f.th, f.fh, fun {Z' H' w o' p B2} ez nz zh k r n d => ?_⟩
  cases r with
  | @cons _ _ _ _ B3 _ ra r =>
    cases r with
    | @cons _ _ _ _ B4 _ rb r =>
      cases r
      rw [List.append_nil] at n d
      obtain ⟨n1, n2, n3⟩ := List.nodup_append.mp n
      have aB : a ∉ B := fun m => na (q4 a m)
      have kA : ∀ b ∈ A1, b ∉ B → Kept F T B b := fun b m nb => ⟨nb, .inl (f.ds b (List.mem_cons_of_mem _ m)).1⟩
      have kT : ∀ b, Kept F T (a :: A1) b → Kept F T B b := fun b kb => ⟨fun m => kb.1 (List.mem_cons_of_mem _ (q4 b m)), kb.2⟩
      have ka : Kept F T B a := ⟨aB, .inl (f.ds a List.mem_cons_self).1⟩
      have apart : ∀ b ∈ B3 ++ B4, b ∈ a :: A1 → b ∈ B := fun b m mb => (d b m).1.elim id fun z => absurd (f.ds b mb).1 z.1
      obtain ⟨A', t1, t2, t3⟩ := q5 ez (fun b m nb u e => k b (kA b m nb) u e) ra n1 fun b m mb => apart b (List.mem_append_left _ m) (List.mem_cons_of_mem _ mb)
      have rm : RepO K Z' F H' (.ref a) (mk (os.set j o')) (a :: A') := hmk.mpr ⟨a, x, vs, A', pa, rfl, rfl, k a ka _ ha, t1⟩
      have aA' : a ∉ A' := fun m => by
        rcases t3 a m with z | z
        · exact na z.1
        · exact aB (apart a (List.mem_append_left _ z) List.mem_cons_self)
      refine f.k ez (fun b kb => nz b (kT b kb)) zh (fun b kb u e => k b (kT b kb) u e) (.cons rm (.cons rb .nil)) ?_ fun b m => ?_
      · rw [List.append_nil]
        refine List.nodup_append.mpr ⟨List.nodup_cons.mpr ⟨aA', t2⟩, n2, fun b hb c hc e => ?_⟩
        subst e
        rcases List.mem_cons.mp hb with z | z
        · subst z
          exact aB (apart b (List.mem_append_right _ hc) List.mem_cons_self)
        · rcases t3 b z with y | y
          · exact y.2 (apart b (List.mem_append_right _ hc) (List.mem_cons_of_mem _ y.1))
          · exact n3 b y b hc rfl
      · rw [List.append_nil] at m
        have new : b ∈ B3 ++ B4 → (b ∈ a :: A1 ∨ b ∉ T ∧ F b = none) ∧ Z' b = none := fun y => ⟨(d b y).1.imp (fun z => List.mem_cons_of_mem _ (q4 b z)) id, (d b y).2⟩
        rcases List.mem_append.mp m with m | m
        · rcases List.mem_cons.mp m with z | z
          · subst z
            exact ⟨.inl List.mem_cons_self, (nz b ka).trans (f.ds b List.mem_cons_self).2.1⟩
          · rcases t3 b z with y | y
            · exact ⟨.inl (List.mem_cons_of_mem _ y.1), (nz b (kA b y.1 y.2)).trans (f.ds b (List.mem_cons_of_mem _ y.1)).2.1⟩
            · exact new (List.mem_append_left _ y)
        · exact new (List.mem_append_right _ m)
theorem hm_lst : ∀ {Z H : Hp} {v : V} {os : List O} {A : List Addr}, RepO K Z F H v (.lst os) A ↔ ∃ a, ∃ _ : Unit, ∃ vs A1, True ∧ v = .ref a ∧ A = a :: A1 ∧ H a = some (.lst vs) ∧ RepOL K Z F H vs os A1 := by
  intro Z H v os A
  constructor
  · intro r
    cases r with
    | lst h r => exact ⟨_, (), _, _, trivial, rfl, rfl, h, r⟩
  · rintro ⟨a, _, vs, A1, _, rfl, rfl, h, r⟩
    exact .lst h r
theorem hm_ins {C : Addr} {ns : List Str} : ∀ {Z H : Hp} {v : V} {os : List O} {A : List Addr}, RepO K Z F H v (.ins C ns os) A ↔ ∃ a, ∃ dx : Addr, ∃ vs A1, True ∧ v = .ref a ∧ A = a :: A1 ∧ H a = some (.ins C dx (ns.zip vs)) ∧ RepOL K Z F H vs os A1 := by
  intro Z H v os A
  constructor
  · intro r
    cases r with
    | ins h r => exact ⟨_, _, _, _, trivial, rfl, rfl, h, r⟩
  · rintro ⟨a, _, vs, A1, _, rfl, rfl, h, r⟩
    exact .ins h r
theorem hm_dct {ks : List Key} : ∀ {Z H : Hp} {v : V} {os : List O} {A : List Addr}, RepO K Z F H v (.dct ks os) A ↔ ∃ a, ∃ _ : Unit, ∃ vs A1, True ∧ v = .ref a ∧ A = a :: A1 ∧ H a = some (.dK (ks.zip vs)) ∧ RepOL K Z F H vs os A1 := by
  intro Z H v os A
  constructor
  · intro r
    cases r with
    | dct h r => exact ⟨_, (), _, _, trivial, rfl, rfl, h, r⟩
  · rintro ⟨a, _, vs, A1, _, rfl, rfl, h, r⟩
    exact .dct h r
end
end M
namespace M
open PySem L2 PySem.Spec PyProof.Rows
section
variable {X : Cx} {ρ ρ' : Slots} {R : O → Slots} {e a b c elt : Expr} {es rest : List Expr} {st : Stmt} {sts : List Stmt} {G : Go} {o o1 o2 : O} {d : D} {ds : List D} {os : List O} {pos p0 p1 p2 p3 p4 p5 p6 : Pos} {i j : Nat} {x nm f : Str} {m n k : Int} {p q : Str} {C : Addr} {ns : List Str}
/-- an expression that tells a place, and changes nothing -/
structure MQ (X : Cx) (ρ : Slots) (e : Expr) (o : O) (R : O → Slots) : Prop where
  run : ∀ (Z0 F Z : Hp) (σ : L2.St) (H : Hp) (T : List Addr), StA X.K ρ Z0 F Z σ H T → ∀ Q : VK, (∀ v Z' H', Gr Z H Z' H' → Foc X.K Z0 F Z' σ H' T v o R → Q v H') → wE X e σ H Q
/-- .. that changes slots ahead -/
structure MP (X : Cx) (ρ : Slots) (e : Expr) (o : O) (ρ' : Slots) (R : O → Slots) : Prop where
  run : ∀ (Z0 F Z : Hp) (σ : L2.St) (H : Hp) (T : List Addr), StA X.K ρ Z0 F Z σ H T → ∀ Q : VK, (∀ v Z' H' T', StR X.K ρ' Z0 F Z' σ H' → Foc X.K Z0 F Z' σ H' T' v o R → Q v H') → wE X e σ H Q
theorem MQ.toP (h : MQ X ρ e o R) : MP X ρ e o ρ R := .mk fun Z0 F Z σ H T s Q q => h.run Z0 F Z σ H T s Q fun v Z' H' g f => q v Z' H' T (s.grow g).r f
theorem mq_var (p : PE X (.Name x pos) (tVar i)) (hi : ρ[i]? = some (some o)) : MQ X ρ (.Name x pos) o (fun o' => ρ.set i (some o')) := .mk fun Z0 F Z σ H T s Q q => by
  obtain ⟨v, e1, f⟩ := s.foc hi
  exact PE_w p ⟨v, e1, q v Z H (Gr.refl s.gr.zh) f⟩
theorem Foc.unloc {K : PySem.W.Frag} {Z0 F Z H : Hp} {σ : L2.St} {T : List Addr} {v : V} {l : Addr} (f : Foc K Z0 F Z σ H T v (.loc l o) R) : v = .ref l ∧ Foc K Z0 F Z σ H T v o (fun o' => R (.loc l o')) := by
  obtain ⟨A, f⟩ := f
  have ev : v = .ref l := by
    cases f.rp with
    | loc r => rfl
  subst ev
  refine ⟨rfl, A, ?_, f.nd, f.ds, f.th, f.fh, fun ez nz zh k r n d => f.k ez nz zh k ?_ n d⟩
  · cases f.rp with
    | loc r => exact r
  · cases r with
    | cons r1 r2 => exact .cons (.loc r1) r2
theorem MV.unloc {l : Addr} (h : MV X ρ e (.loc l o)) : MV X ρ e o := .mk fun Z0 F Z σ H s Q q => h.run Z0 F Z σ H s Q fun v Z' H' A g r => by
  cases r with
  | loc r => exact q _ Z' H' A g r
/-- a cell is changed in place -/
theorem FocA.mut {K : PySem.W.Frag} {Z0 F Z H : Hp} {σ : L2.St} {T A : List Addr} {v : V} (f : FocA K F Z Z0 σ H T v o R A) (zh : Ex Z H) {a : Addr} (ha : a ∈ A) {c : HO} {o' : O} {B : List Addr} (r : RepO K Z F (upd H a c) v o' B) (n : B.Nodup) (d : ∀ b ∈ B, b ∈ A ∨ (b ∉ T ∧ Z b = none ∧ F b = none)) : StR K (R o') Z0 F Z σ (upd H a c) := by
  refine f.chg (Ex.refl _) (fun _ _ => rfl) (zh.mut (f.ds a ha).2.1) (fun b kb u e => ?_) r n fun b m => ?_
  · rw [upd_ne fun q => kb.1 (by rw [q]; exact ha)]
    exact e
  · rcases d b m with z | z
    · exact ⟨.inl z, (f.ds b z).2.1⟩
    · exact ⟨.inr ⟨z.1, z.2.2⟩, z.2.1⟩
/-- p.append(e) -/
theorem m_appendP (h : MP X ρ a (.lst os) ρ' R) (he : ME X ρ' e o) (hl : os.length < sizeLine) (k : G.nx (R (.lst (os ++ [o]))))
    (q : ∀ t, PE X (.Call (.Attribute a "append" p2) [e] [] p3) t → PS X (.Expr (.Call (.Attribute a "append" p2) [e] [] p3) p4) (tDrop t) := by exact fun _ h => ps_expr h)
    (pm : PE X (.Call (.Attribute a "append" p2) [e] [] p3) (tBM X.K "list" rAppend (wE X a) (tCons (wE X e) tNil)) := by exact pe_bm PySem.F.plainAttrs_list PySem.F.slot_list_append PySem.F.type_list_append mt_append pe_w (pa_cons pe_w pa_nil)) : MS1 X ρ (.Expr (.Call (.Attribute a "append" p2) [e] [] p3) p4) G := .mk fun Z0 F Z σ H D s g => by
  obtain ⟨T, s⟩ := s.a
  refine PS_w (q _ pm) (h.run Z0 F Z σ H T s _ fun v Z1 H1 T1 s1 f => ?_)
  have f0 := f
  obtain ⟨A, f⟩ := f
  obtain ⟨l, _, vs, A1, _, rfl, rfl, h0, rl⟩ := hm_lst.mp f.rp
  refine ⟨.inl ⟨rfl, _, SqL.of h0⟩, he.run Z0 F Z1 σ H1 s1 _ fun w Z2 H2 B g1 r2 n2 => ?_⟩
  obtain ⟨na, nA'⟩ := List.nodup_cons.mp f.nd
  have th := f.rp.there
  have thT := f.th
  have fh1 := f.fh
  obtain ⟨A', f'⟩ := f0.grow g1
  obtain ⟨l', _, vs', A1', _, el, rfl, h0', rl'⟩ := hm_lst.mp f'.rp
  cases el
  have ev : vs' = vs := by
    have := g1.hh _ _ h0
    rw [h0'] at this
    cases this
    rfl
  subst ev
  obtain ⟨na', nA2⟩ := List.nodup_cons.mp f'.nd
  have nB : ∀ b ∈ B, b ∉ T1 := fun b m mt => by
    obtain ⟨u, hu⟩ := thT b mt
    rw [(n2.2 b m).1] at hu
    cases hu
  have nBA : ∀ b ∈ B, b ∉ l :: A1' := fun b m mb => nB b m (f'.ds b mb).1
  refine ⟨l, vs', w, rfl, rfl, h0', by rw [rl'.length]; exact hl, ?_⟩
  have r1' : RepOL X.K Z2 F (upd H2 l (.lst (vs' ++ [w]))) vs' os A1' := rl'.mono (Ex.refl _) (Ex.refl _) fun b m u hu => by
    rw [upd_ne fun q => na' (by rw [← q]; exact m)]
    exact hu
  have r2' : RepO X.K Z2 F (upd H2 l (.lst (vs' ++ [w]))) w o B := r2.frame fun b m => upd_ne fun q => nBA b m (by rw [q]; exact List.mem_cons_self)
  refine g.nx _ Z2 σ _ k (f'.mut g1.zh List.mem_cons_self (.lst upd_same (r1'.snoc r2')) ?_ fun b m => ?_)
  · refine List.nodup_cons.mpr ⟨fun m => ?_, List.nodup_append.mpr ⟨nA2, n2.1, fun b hb c hc e => nBA c hc (by rw [← e]; exact List.mem_cons_of_mem _ hb)⟩⟩
    rcases List.mem_append.mp m with m | m
    · exact na' m
    · exact nBA _ m List.mem_cons_self
  · rcases List.mem_cons.mp m with z | z
    · exact .inl (by rw [z]; exact List.mem_cons_self)
    · rcases List.mem_append.mp z with z | z
      · exact .inl (List.mem_cons_of_mem _ z)
      · exact .inr ⟨nB b z, (n2.2 b z).2, fh1.free (n2.2 b z).1⟩
end
end M
namespace M
open PySem L2 PySem.Spec PyProof.Rows
section
variable {X : Cx} {ρ ρ' : Slots} {R : O → Slots} {e a b c elt : Expr} {es rest : List Expr} {st : Stmt} {sts : List Stmt} {G : Go} {o o1 o2 : O} {d : D} {ds : List D} {os : List O} {pos p0 p1 p2 p3 p4 p5 p6 : Pos} {i j : Nat} {x nm f : Str} {m n k : Int} {C : Addr} {ns : List Str}
theorem RepOL.apZ {K : PySem.W.Frag} {Z F H : Hp} {ws : List V} {ds : List D} (s : RepL K Z ws ds) : ∀ {vs : List V} {os : List O} {A : List Addr}, RepOL K Z F H vs os A → RepOL K Z F H (vs ++ ws) (os ++ ds.map .fz) A
  | _, _, _, .nil => s.own
  | _, _, _, .cons h r => .cons h (r.apZ s)
/-- the list at a place is changed by a step of its own -/
theorem FocA.chgL {K : PySem.W.Frag} {Z0 F Z H : Hp} {σ : L2.St} {T A A1 : List Addr} {l : Addr} {us : List V} {os' : List O} (f : FocA K F Z Z0 σ H T (.ref l) o R A) (eA : A = l :: A1) (zh : Ex Z H) (r : RepOL K Z F H us os' A1) : StR K (R (.lst os')) Z0 F Z σ (upd H l (.lst us)) := by
  subst eA
  obtain ⟨na, nA⟩ := List.nodup_cons.mp f.nd
  refine f.mut zh List.mem_cons_self (.lst upd_same (r.mono (Ex.refl _) (Ex.refl _) fun b m u hu => ?_)) f.nd fun b m => .inl m
  rw [upd_ne fun q => na (by rw [← q]; exact m)]
  exact hu
/-- p.extend(e), e a list of frozen things -/
theorem m_extendP (h : MP X ρ a (.lst os) ρ' R) (he : MV X ρ' e (.lst (ds.map .fz))) (hl : os.length + ds.length ≤ sizeLine) (k : G.nx (R (.lst (os ++ ds.map .fz))))
    (q : ∀ t, PE X (.Call (.Attribute a "extend" p2) [e] [] p3) t → PS X (.Expr (.Call (.Attribute a "extend" p2) [e] [] p3) p4) (tDrop t) := by exact fun _ h => ps_expr h)
    (pm : PE X (.Call (.Attribute a "extend" p2) [e] [] p3) (tBM X.K "list" rExtend (wE X a) (tCons (wE X e) tNil)) := by exact pe_bm PySem.F.plainAttrs_list PySem.F.slot_list_extend PySem.F.type_list_extend mt_extend pe_w (pa_cons pe_w pa_nil)) : MS1 X ρ (.Expr (.Call (.Attribute a "extend" p2) [e] [] p3) p4) G := .mk fun Z0 F Z σ H D s g => by
  obtain ⟨T, s⟩ := s.a
  refine PS_w (q _ pm) (h.run Z0 F Z σ H T s _ fun v Z1 H1 T1 s1 f => ?_)
  have f0 := f
  obtain ⟨A, f⟩ := f
  obtain ⟨l, _, vs, A1, _, rfl, rfl, h0, rl⟩ := hm_lst.mp f.rp
  refine ⟨.inl ⟨rfl, _, SqL.of h0⟩, he.run Z0 F Z1 σ H1 s1 _ fun w Z2 H2 B g1 r2 => ?_⟩
  cases r2 with
  | @lst b zs _ B0 hb rb =>
    obtain ⟨_, rz⟩ := rb.fzs
    obtain ⟨A', f'⟩ := f0.grow g1
    obtain ⟨l', _, vs', A1', _, el, rfl, h0', rl'⟩ := hm_lst.mp f'.rp
    cases el
    exact ⟨l, b, vs', zs, rfl, rfl, h0', hb, by rw [rl'.length, rz.length]; exact hl, g.nx _ Z2 σ _ k (f'.chgL rfl g1.zh (rl'.apZ rz))⟩
end
end M
namespace M
open PySem L2 PySem.Spec PyProof.Rows
section
variable {X : Cx} {ρ ρ' : Slots} {R : O → Slots} {e a b c elt : Expr} {es rest : List Expr} {st : Stmt} {sts : List Stmt} {G : Go} {o o1 o2 : O} {d : D} {ds ds1 ds2 : List D} {os : List O} {pos p0 p1 p2 p3 p4 p5 p6 : Pos} {i j : Nat} {nm : Str} {C : Addr} {ns : List Str}
/-- things that lie in the heap -/
def O.isRef : O → Bool
  | .lst _ => true
  | .ins _ _ _ => true
  | .dct _ _ => true
  | .dctT _ _ => true
  | .loc _ _ => true
  | _ => false
theorem RepO.isRef {K : PySem.W.Frag} {Z F H : Hp} {v : V} {A : List Addr} (r : RepO K Z F H v o A) (h : o.isRef = true) : ∃ l, v = .ref l := by
  cases r with
  | fz _ => cases h
  | lst _ _ => exact ⟨_, rfl⟩
  | ins _ _ => exact ⟨_, rfl⟩
  | dct _ _ => exact ⟨_, rfl⟩
  | dctT _ _ => exact ⟨_, rfl⟩
  | loc _ => exact ⟨_, rfl⟩
  | vw _ _ => cases h
  | vwa _ _ => cases h
  | tup _ _ => cases h
  | «at» _ _ => cases h
  | pt => cases h
  | lk _ => cases h
end
end M
namespace M
open PySem L2 PySem.Spec PyProof.Rows
section
variable {V W R : Type}
def wlN (c : V → Option Bool) (b : V → Option (Ou V V R)) : Nat → V → Option (Ou V V R)
  | 0, _ => none
  | n + 1, v => bd (c v) fun k => cond k (bd (b v) fun o => match o with
    | .nx v' => wlN c b n v'
    | .ct v' => wlN c b n v'
    | .bk v' => some (.nx v')
    | .rt r => some (.rt r)) (some (.nx v))
open Classical in
noncomputable def wl (c : V → Option Bool) (b : V → Option (Ou V V R)) (v : V) : Option (Ou V V R) := if h : ∃ n o, wlN c b n v = some o then some h.choose_spec.choose else none
theorem wl_some {c : V → Option Bool} {b : V → Option (Ou V V R)} {v : V} {o : Ou V V R} (h : wl c b v = some o) : ∃ n, wlN c b n v = some o := by
  unfold wl at h
  split at h
  · rename_i q
    have e := q.choose_spec.choose_spec
    rw [Option.some.inj h] at e
    exact ⟨_, e⟩
  · cases h
theorem wlN_more {c : V → Option Bool} {b : V → Option (Ou V V R)} : ∀ {n m : Nat} {v : V} {o : Ou V V R}, wlN c b n v = some o → n ≤ m → wlN c b m v = some o
  | 0, _, _, _, h, _ => by cases h
  | n + 1, 0, _, _, _, l => by omega
  | n + 1, m + 1, v, o, h, l => by
    obtain ⟨k, e1, h⟩ := bd_some h
    show bd (c v) _ = _
    rw [bd_of e1]
    cases k with
    | false => exact h
    | true =>
      obtain ⟨o1, e2, h⟩ := bd_some (show bd (b v) _ = some o from h)
      show bd (b v) _ = _
      rw [bd_of e2]
      cases o1 with
      | nx v' => exact wlN_more h (by omega)
      | ct v' => exact wlN_more h (by omega)
      | bk v' => exact h
      | rt r => exact h
theorem wl_of {c : V → Option Bool} {b : V → Option (Ou V V R)} {n : Nat} {v : V} {o : Ou V V R} (h : wlN c b n v = some o) : wl c b v = some o := by
  have ex : ∃ n o, wlN c b n v = some o := ⟨n, o, h⟩
  unfold wl
  rw [dif_pos ex]
  have e := ex.choose_spec.choose_spec
  have e1 := wlN_more e (Nat.le_max_left _ n)
  have e2 := wlN_more h (Nat.le_max_right ex.choose n)
  rw [e1] at e2
  exact e2
/-- a loop that ends: an invariant with a measure -/
theorem ok_wl {c : V → Option Bool} {b : V → Option (Ou V V R)} {Q : Ou V V R → Prop} (I : Nat → V → Prop) {m : Nat} {v : V} (h0 : I m v)
    (h : ∀ m v, I m v → Ok (c v) fun k => if k = true then Ok (b v) fun o => match o with
      | .nx v' => ∃ m', m' < m ∧ I m' v'
      | .ct v' => ∃ m', m' < m ∧ I m' v'
      | .bk v' => Q (.nx v')
      | .rt r => Q (.rt r) else Q (.nx v)) : Ok (wl c b v) Q := by
  suffices H : ∀ m v, I m v → ∃ o, wlN c b (m + 1) v = some o ∧ Q o by
    obtain ⟨o, e, q⟩ := H m v h0
    exact ⟨o, wl_of e, q⟩
  intro m
  induction m using Nat.strongRecOn with
  | _ m ih =>
    intro v hv
    obtain ⟨k, e1, q1⟩ := h m v hv
    have st : ∀ o, wlN c b (m + 1) v = some o ↔ bd (c v) (fun k => cond k (bd (b v) fun o => match o with
      | .nx v' => wlN c b m v'
      | .ct v' => wlN c b m v'
      | .bk v' => some (.nx v')
      | .rt r => some (.rt r)) (some (.nx v))) = some o := fun o => Iff.rfl
    cases k with
    | false =>
      rw [if_neg Bool.false_ne_true] at q1
      exact ⟨_, (st _).mpr (by rw [bd_of e1]; rfl), q1⟩
    | true =>
      rw [if_pos rfl] at q1
      obtain ⟨o, e2, q2⟩ := q1
      have go : ∀ v', (∃ m', m' < m ∧ I m' v') → ∃ o, wlN c b m v' = some o ∧ Q o := fun v' ⟨m', l, i⟩ => by
        obtain ⟨o, e, q⟩ := ih m' l v' i
        exact ⟨o, wlN_more e (by omega), q⟩
      have fin : ∀ o2, (match o with
        | .nx v' => wlN c b m v'
        | .ct v' => wlN c b m v'
        | .bk v' => some (.nx v')
        | .rt r => some (.rt r)) = some o2 → wlN c b (m + 1) v = some o2 := fun o2 e => (st _).mpr (by rw [bd_of e1]; show bd (b v) _ = _; rw [bd_of e2]; exact e)
      cases o with
      | nx v' => obtain ⟨o2, e3, q3⟩ := go v' q2; exact ⟨o2, fin _ e3, q3⟩
      | ct v' => obtain ⟨o2, e3, q3⟩ := go v' q2; exact ⟨o2, fin _ e3, q3⟩
      | bk v' => exact ⟨_, fin _ rfl, q2⟩
      | rt r => exact ⟨_, fin _ rfl, q2⟩
variable {X : Cx} {ρ ρ' : Slots} {e a c elt : Expr} {st : Stmt} {sts : List Stmt} {G : Go} {pos p0 : Pos}
theorem m_whileO {body : List Stmt} (p : PS X st (tWhile (wT X c) (wS X body))) {cm : V → Option Bool} {bm : V → Option (Ou V V R)} {v0 : V} {out : Ou V V R} (hx : wl cm bm v0 = some out) (Rn : V → Slots) (er : R → O) (h0 : Le ρ (Rn v0))
    (hc : ∀ v k, cm v = some k → MT X (Rn v) c k) (hs : ∀ v o, bm v = some o → MS X (Rn v) body (goO Rn Rn er o))
    (hd : ∀ v τ, out = .nx v → Le τ (Rn v) → G.nx τ) (hr : ∀ r, out = .rt r → G.rt (er r)) : MS1 X ρ st G := .mk fun Z0 F Z σ H D s g => by
  obtain ⟨n, hn⟩ := wl_some hx
  refine PS_w p ⟨fun m σ' H' => ∃ v Z', wlN cm bm m v = some out ∧ StR X.K (Rn v) Z0 F Z' σ' H', ⟨n, v0, Z, hn, s.le h0⟩, ?_⟩
  rintro m σ1 H1 ⟨v, Z1, hv, s1⟩
  cases m with
  | zero => cases hv
  | succ m =>
    obtain ⟨k, e1, hv⟩ := bd_some hv
    refine (hc v k e1).run Z0 F Z1 σ1 H1 s1 _ fun Z2 H2 g2 => ?_
    cases k with
    | false =>
      rw [if_neg Bool.false_ne_true]
      cases hv
      exact g.nx _ Z2 σ1 H2 (hd v _ rfl (Le.refl _)) (s1.grow g2)
    | true =>
      rw [if_pos rfl]
      obtain ⟨o, e2, hv⟩ := bd_some (show bd (bm v) _ = some out from hv)
      refine ⟨fun σ' H' => ∃ v' Z', wlN cm bm m v' = some out ∧ StR X.K (Rn v') Z0 F Z' σ' H', fun σ' H' q => ⟨m, Nat.lt_succ_self m, q⟩, ?_⟩
      refine (hs v o e2).run Z0 F Z2 σ1 H2 _ (s1.grow g2) ⟨fun τ Z3 σ3 H3 q s3 => ?_, fun τ Z3 σ3 H3 q s3 => ?_, fun τ Z3 σ3 H3 q s3 => ?_, fun o' w Z3 H3 A q g3 r n => ?_, fun _ _ _ _ _ _ z => z.elim, g.ex.imp fun o' q => by
        obtain ⟨r', rfl, rfl⟩ := q
        cases hv
        exact hr r' rfl⟩
      · obtain ⟨v', rfl, l⟩ := q
        exact ⟨v', Z3, hv, s3.le l⟩
      · obtain ⟨v', rfl, l⟩ := q
        cases hv
        exact g.nx _ Z3 σ3 H3 (hd v' _ rfl l) s3
      · obtain ⟨v', rfl, l⟩ := q
        exact ⟨v', Z3, hv, s3.le l⟩
      · obtain ⟨r', rfl, rfl⟩ := q
        cases hv
        exact g.rt _ w Z3 H3 A (hr r' rfl) g3 r n
end
end M
namespace M
open PySem L2 PySem.Spec PyProof.Rows
section
variable {X : Cx} {ρ ρ' : Slots} {R' : O → Slots} {e a b c elt : Expr} {es : List Expr} {st : Stmt} {sts : List Stmt} {G : Go} {o o1 o2 : O} {d : D} {ds : List D} {os : List O} {pos p0 p1 p2 p3 p4 : Pos} {i n : Nat} {x nm : Str} {α β V W R : Type}
theorem m_appendPT {xs : List α} {enc : α → D} {y : α} (h : MP X ρ a (.lst ((xs.map enc).map .fz)) ρ' R') (he : ME X ρ' e (.fz (enc y))) (hl : xs.length < sizeLine) (k : G.nx (R' (.lst (((xs ++ [y]).map enc).map .fz))))
    (q : ∀ t, PE X (.Call (.Attribute a "append" p2) [e] [] p3) t → PS X (.Expr (.Call (.Attribute a "append" p2) [e] [] p3) p4) (tDrop t) := by exact fun _ h => ps_expr h)
    (pm : PE X (.Call (.Attribute a "append" p2) [e] [] p3) (tBM X.K "list" rAppend (wE X a) (tCons (wE X e) tNil)) := by exact pe_bm PySem.F.plainAttrs_list PySem.F.slot_list_append PySem.F.type_list_append mt_append pe_w (pa_cons pe_w pa_nil)) : MS1 X ρ (.Expr (.Call (.Attribute a "append" p2) [e] [] p3) p4) G :=
  m_appendP h he (by rw [List.length_map, List.length_map]; exact hl) (by rw [List.map_append, List.map_append] at k; exact k) q pm
theorem m_extendPT {xs ys : List α} {enc : α → D} (h : MP X ρ a (.lst ((xs.map enc).map .fz)) ρ' R') (he : MV X ρ' e (.lst ((ys.map enc).map .fz))) (hl : xs.length + ys.length ≤ sizeLine) (k : G.nx (R' (.lst (((xs ++ ys).map enc).map .fz))))
    (q : ∀ t, PE X (.Call (.Attribute a "extend" p2) [e] [] p3) t → PS X (.Expr (.Call (.Attribute a "extend" p2) [e] [] p3) p4) (tDrop t) := by exact fun _ h => ps_expr h)
    (pm : PE X (.Call (.Attribute a "extend" p2) [e] [] p3) (tBM X.K "list" rExtend (wE X a) (tCons (wE X e) tNil)) := by exact pe_bm PySem.F.plainAttrs_list PySem.F.slot_list_extend PySem.F.type_list_extend mt_extend pe_w (pa_cons pe_w pa_nil)) : MS1 X ρ (.Expr (.Call (.Attribute a "extend" p2) [e] [] p3) p4) G :=
  m_extendP h he (by rw [List.length_map, List.length_map, List.length_map]; exact hl) (by rw [List.map_append, List.map_append] at k; exact k) q pm
theorem Le.get : ∀ {ρ τ : Slots} {n : Nat} {o : O}, Le ρ τ → τ[n]? = some (some o) → ρ[n]? = some (some o)
  | _, _, _, _, .nil, h => h
  | _, _, 0, _, .no _, h => by simp at h
  | _, _, 0, _, .eq _, h => h
  | _, _, n + 1, _, .no l, h => by
    simp only [List.getElem?_cons_succ] at h ⊢
    exact Le.get l h
  | _, _, n + 1, _, .eq l, h => by
    simp only [List.getElem?_cons_succ] at h ⊢
    exact Le.get l h
end
end M
namespace M
open PySem L2 PySem.Spec PyProof.Rows
/-- what a def tells: a result or an error -/
inductive Xr (E R : Type) where
  | ok (r : R) | er (e : E)
def exO {E R : Type} (te : E → Er) (er : R → O) : Xr E R → O
  | .ok r => er r
  | .er e => .rs (te e)
def ThrE (K : PySem.W.Frag) (E : XK) (e : Er) (Z H : Hp) : Prop := Thrown K (fun c d _ H => E c d H) e Z [] H
theorem thrown_of {K : PySem.W.Frag} {E : XK} {e : Er} {Z H : Hp} {σ : L2.St} (h : ThrE K E e Z H) : Thrown K (fun c d _ H => E c d H) e Z σ H := by
  unfold ThrE Thrown at h
  unfold Thrown
  cases hf : e.fld with
  | none => rw [hf] at h; exact h
  | some p => rw [hf] at h; exact h
def EW (W : WX) : XK := fun c d H => ∀ σ, W c d σ H
theorem thrE_of {K : PySem.W.Frag} {W : WX} {e : Er} {Z H : Hp} (h : ∀ σ, Thrown K W e Z σ H) : ThrE K (EW W) e Z H := by
  unfold Thrown at h
  unfold ThrE Thrown
  cases hf : e.fld with
  | none => intro σ; have := h σ; rw [hf] at this; exact this
  | some p => intro a v na r σ; have := h σ; rw [hf] at this; exact this a v na r
theorem stL_blank {K : PySem.W.Frag} {Z F H : Hp} : ∀ σ : L2.St, StL K Z F H (List.replicate σ.length none) σ []
  | [] => .nil
  | _ :: σ => .no (stL_blank σ)
theorem StR.blank {K : PySem.W.Frag} {Z0 F Z' H' : Hp} (g : Gr Z0 F Z' H') (σ : L2.St) : StR K (List.replicate σ.length none) Z0 F Z' σ H' := ⟨g, [], stL_blank σ, List.nodup_nil, fun _ m => nomatch m⟩
theorem pass_ew {X : Cx} {W : WX} (tk : Takes X W) : Passes (L2.CX X.prog X.w) X (EW W) := passes_call tk fun _ _ σ _ h => h σ
/-- a def that is known to refuse nothing -/
theorem _root_.L2.FnOk.known {P : Program} {w : World} {K : PySem.W.Frag} {mg : Str → Option Value} {base : Heap} {k : Nat} {f : Addr} {fd : FuncData} {ps : List Str} {sp sp' : Sp} (F : FnOk P w K mg base (L2.CX P w) k f fd ps sp)
    (h : ∀ vs H Q E, sp' vs H Q E → sp vs H Q (fun _ _ _ => False)) : FnOk P w K mg base CX0 k f fd ps sp' :=
  ⟨fun vs H Q E q => F.len vs H Q _ (h _ _ _ _ q), fun A outer s H args us vs Q E hr he hb hv hs => codeAny_mono (F.run A outer s H args us vs Q _ hr he hb hv (h _ _ _ _ hs)) fun r s' q => by
    cases r with
    | ok r => cases r <;> exact q
    | error e =>
      obtain ⟨_, _, _, _, _, _, _, _, _, _, _, _, z⟩ := q
      exact z.elim⟩
def SpE {α : Type} (K : PySem.W.Frag) (ar : α → List O) (pre : α → Prop) (res : α → O) : Sp := fun vs H Q E => ∃ (x : α) (Z : Hp), Ex Z H ∧ RepOL K Z H H vs (ar x) [] ∧ pre x ∧
  (∀ v Z' H' A, Gr Z H Z' H' → RepO K Z' (fun _ => none) H' v (res x) A → New H Z' A → Q v H') ∧ ∀ e Z' H', res x = .rs e → Gr Z H Z' H' → ThrE K E e Z' H'
/-- its body keeps its promise -/
theorem fn_mE {α : Type} {P : Program} {w : World} {K : PySem.W.Frag} {mg : Str → Option Value} {base : Heap} {x qual : Str} {st : Stmt} {f : Addr} {fd : FuncData} {N ps : List Str} {k : Nat} {ar : α → List O} {pre : α → Prop} {res : α → O}
    (F : Fun K x qual st f fd) (S : FnScope N ps (defScope st)) (hl : ∀ x, (ar x).length = ps.length) (hn : ∀ x, pre x → (res x).nv = true ∨ ∃ e, res x = .rs e)
    (hb : ∀ (cdv : Value) (A : Around) (outer : List Env) (s : Shared) (H : Hp) (E : XK), Room k (A.deeper (envOfC qual (defScope st) s.heap.objs.size f cdv)) →
      PassesOwn (model P w) (A.deeper (envOfC qual (defScope st) s.heap.objs.size f cdv)) (cxOf (L2.CX P w) P w K mg base N qual (defScope st) f cdv A outer s H E).env (cxOf (L2.CX P w) P w K mg base N qual (defScope st) f cdv A outer s H E).xe → ∀ x, pre x →
      MS (cxOf (L2.CX P w) P w K mg base N qual (defScope st) f cdv A outer s H E) ((ar x).map some ++ List.replicate (N.length - ps.length) none) (defBody st) { nx := fun _ => res x = .fz .non, rt := fun o => o = res x }) :
    FnOk P w K mg base (L2.CX P w) (k + 1) f fd ps (SpE K ar pre res) := by
  refine F.okX S (fun vs H Q E h => ?_) (fun cdv A outer s H vs Q E hr h => ?_)
  · obtain ⟨x, Z, _, r, _⟩ := h
    rw [r.length, hl]
  · obtain ⟨x, Z, ez, r, hp, q, qx⟩ := h
    refine ⟨_, pss_w, (hb cdv A outer s H E hr (passes_of rfl) x hp).run Z H Z _ H _ ⟨Gr.refl ez, [], ?_, List.nodup_nil, fun _ m => nomatch m⟩ ⟨fun ρ Z' σ H' e s' => ?_, fun _ _ _ _ z => z.elim, fun _ _ _ _ z => z.elim, fun o v Z' H' A e g r n => ?_, fun _ _ _ _ _ _ z => z.elim, ⟨_, takes_of rfl rfl rfl rfl, fun e ρ Z' σ H' k s' => thrown_of (qx e Z' H' k.symm s'.gr)⟩⟩⟩
    · have e : L2.start N vs = vs.map some ++ List.replicate (N.length - ps.length) none := by
        unfold L2.start
        rw [r.length, hl]
      rw [e]
      exact stL_more _ (stL_args r)
    · refine q _ Z' H' [] s'.gr ?_ .nil
      rw [e]
      exact .fz .non
    · subst e
      rcases hn x hp with hn | ⟨e, hn⟩
      · exact q _ Z' H' A g (r.unF hn) n
      · rw [hn] at r
        cases r
structure Fn1E (P : Program) (w : World) (K : PySem.W.Frag) (mg : Str → Option Value) (base : Heap) (name : Str) (k : Nat) (ps : List Str) (sp : Sp) : Prop where
  ex : ∃ (f : Addr) (fd : FuncData), mg name = some (.ref f) ∧ PySem.W.keepIn K (.ref f) = true ∧ Binds K fd ps [] ∧ FnOk P w K mg base (L2.CX P w) k f fd ps sp
theorem Fn1E.ok {P : Program} {w : World} {K : PySem.W.Frag} {mg : Str → Option Value} {base : Heap} {name : Str} {k : Nat} {ps : List Str} {α : Type} {ar : α → List O} {pre : α → Prop} {res : α → O} (c : Fn1E P w K mg base name k ps (SpE K ar pre res)) : Fn1 P w K mg base name k ps (SpM K ar (fun x => pre x ∧ ∀ e, res x ≠ .rs e) res) := by
  obtain ⟨f, fd, hm, hk, hb, F⟩ := c.ex
  exact ⟨f, fd, hm, hk, hb, F.known fun vs H Q E ⟨x, Z, ez, r, ⟨hp, hn⟩, q⟩ => ⟨x, Z, ez, r, hp, q, fun e _ _ z => absurd z (hn e)⟩⟩
/-- an expression that raises -/
structure MRz (X : Cx) (ρ : Slots) (e : Expr) (er : Er) : Prop where
  run : ∀ (Z0 F Z : Hp) (σ : L2.St) (H : Hp), StR X.K ρ Z0 F Z σ H → ∀ (W : WX), Takes X W → (∀ σ' Z' H', Gr Z0 F Z' H' → Thrown X.K W er Z' σ' H') → ∀ Q : VK, wE X e σ H Q
section
variable {X : Cx} {ρ : Slots} {e a b elt : Expr} {es : List Expr} {st : Stmt} {sts : List Stmt} {G : Go} {o o1 o2 : O} {d : D} {ds : List D} {pos p0 p1 p2 p3 : Pos} {i : Nat} {x nm f : Str} {er : Er}
/-- a call that raises -/
theorem mz_fn {α : Type} {ar : α → List O} {pre : α → Prop} {res : α → O} {k : Nat} {ps : List Str} (c : Fn1E X.prog X.w X.K X.mg X.base nm k ps (SpE X.K ar pre res)) (x : α) (ha : MA X ρ (e :: es) (ar x)) (hp : pre x) (hr : Room k X.A) (hres : res x = .rs er := by first | (dsimp only; done) | (dsimp only; rfl) | rfl) (hg : Gl X nm := by rfl)
    (hdb : (nm == ("__debug__" : Str)) = false := by decide) (he : starEach (e :: es) X.env = (false, eval e X.env) :: starEach es X.env := by rfl) (hpl : (backTo pos (starEach es X.env)).any (·.1) = false := by rfl) : MRz X ρ (.Call (.Name nm p0) (e :: es) [] pos) er := by
  obtain ⟨f, fd, hm, hk, hb, F⟩ := c.ex
  exact .mk fun Z0 F0 Z σ H s W tk qx Q => PE_w (pe_call F hr hg hm hk hb .nil (pass_ew tk) pa_w hdb he hpl) (ha.run Z0 F0 Z σ H s _ fun vs Z1 H1 g1 r1 =>
    ⟨x, Z1, g1.zh, by rw [List.append_nil]; exact r1, hp, (fun v Z2 H2 A g2 r2 n2 => by
      rw [hres] at r2
      cases r2), (fun e Z2 H2 z g2 => by
      rw [hres] at z
      cases z
      exact thrE_of fun σ' => qx σ' Z2 H2 (s.gr.trans (g1.trans g2)))⟩)
theorem gx_thrown {Z0 F : Hp} {r : O → Prop} (g : GX X Z0 F r) (k : r (.rs er)) : ∃ W : WX, Takes X W ∧ ∀ σ' Z' H', Gr Z0 F Z' H' → Thrown X.K W er Z' σ' H' := by
  obtain ⟨W, tk, kk⟩ := g
  exact ⟨W, tk, fun σ' Z' H' g => kk er _ Z' σ' H' k (StR.blank g σ')⟩
theorem m_rzAsg {g : TG} (p : PS X st (tAsg (wE X e) g)) (h : MRz X ρ e er) (k : G.rt (.rs er)) : MS1 X ρ st G := .mk fun Z0 F Z σ H D s gd => by
  obtain ⟨W, tk, kk⟩ := gx_thrown gd.ex k
  exact PS_w p (h.run Z0 F Z σ H s W tk kk _)
theorem m_rzDrop (p : PS X st (tDrop (wE X e))) (h : MRz X ρ e er) (k : G.rt (.rs er)) : MS1 X ρ st G := .mk fun Z0 F Z σ H D s gd => by
  obtain ⟨W, tk, kk⟩ := gx_thrown gd.ex k
  exact PS_w p (h.run Z0 F Z σ H s W tk kk _)
/-- raise C('m') -/
theorem m_raise {C : Addr} (pm : PMk X e (fun _ H Q => Q (.ref C) none H)) (k : G.rt (.rs ⟨C, none⟩)) (hc : X.calm = true := by rfl) : MS1 X ρ (.Raise (some e) none pos) G := .mk fun Z0 F Z σ H D s gd => by
  obtain ⟨W, tk, kk⟩ := gd.ex
  exact PS_w (ps_raise hc tk pm) (kk ⟨C, none⟩ ρ Z σ H k s)
end
/-- a class of errors without an __init__ of its own -/
structure XcC (K : PySem.W.Frag) (mg : Str → Option Value) (nm : Str) (C : Addr) : Prop where
  q : PySem.W.excIn K C [.type "ValueError", .type "Exception", .type "BaseException", .type "object"] "ValueError.__new__" = true
  g : mg nm = some (.ref C)
  k : PySem.W.keepIn K (.ref C) = true
  b : PySem.W.subIn K (.ref C) (.type "BaseException") = some true
  t : PySem.W.typeIn K (.ref C) = some (.type "type")
theorem pm_own {X : Cx} {nm m : Str} {C : Addr} {j : Nat} {p p2 pos : Pos} (c : XcC X.K X.mg nm C) (hg : Gl X nm := by rfl) (hdb : (nm == ("__debug__" : Str)) = false := by decide) : PMk X (.Call (.Name nm p) [.Constant (.str m) j p2] [] pos) (fun _ H Q => Q (.ref C) none H) :=
  pmk_own PySem.F.excBase_ValueError c.q c.g c.k (raises_own c.b c.t) hg hdb
def SpXE {α : Type} (K : PySem.W.Frag) (ar : α → List O) (pre : α → Prop) (s0 s1 : Addr → α → O) (res : α → O) : Sp := fun vs H Q E => ∃ (x : α) (Z F : Hp) (l : Addr) (vs' : List V) (A : List Addr), vs = .ref l :: vs' ∧ Ex Z F ∧ Ex F H ∧ A.Nodup ∧ (∀ a ∈ A, F a = none) ∧ RepO K Z F H (.ref l) (s0 l x) A ∧ RepOL K Z F F vs' (ar x) [] ∧ pre x ∧
  (∀ v Z' H' B, Gr Z F Z' H' → RepOL K Z' (fun _ => none) H' [.ref l, v] [s1 l x, res x] B → B.Nodup → (∀ a ∈ B, F a = none ∧ Z' a = none) → Q v H') ∧ ∀ e Z' H', res x = .rs e → Gr Z F Z' H' → ThrE K E e Z' H'
/-- of a new instance -/
def SpIE {α : Type} (K : PySem.W.Frag) (C : Addr) (ns : List Str) (ar : α → List O) (pre : α → Prop) (res : α → List O) (er : α → Option Er) : Sp := fun vs H Q E => ∃ (x : α) (Z F : Hp) (l dx : Addr) (vs' : List V), vs = .ref l :: vs' ∧ Ex Z F ∧ Ex F H ∧ F l = none ∧ H l = some (.ins C dx []) ∧ RepOL K Z F F vs' (ar x) [] ∧ pre x ∧
  (er x = none → ∀ Z' H' A, Gr Z F Z' H' → RepO K Z' (fun _ => none) H' (.ref l) (.at l C ns (res x)) A → New F Z' A → Q .non H') ∧ ∀ e Z' H', er x = some e → Gr Z F Z' H' → ThrE K E e Z' H'
theorem SpXE.init {α : Type} {P : Program} {w : World} {K : PySem.W.Frag} {mg : Str → Option Value} {base : Heap} {CX : CXT} {k : Nat} {f : Addr} {fd : FuncData} {ps : List Str} {ar : α → List O} {pre : α → Prop} {s0 s1 : Addr → α → O} {res : α → O} {β : Type} {arb : β → List O} {preb : β → Prop} {resb : β → List O} {erb : β → Option Er} {C : Addr} {ns : List Str} (g : β → α)
    (h : FnOk P w K mg base CX k f fd ps (SpXE K ar pre s0 s1 res)) (har : ∀ y, ar (g y) = arb y) (hp : ∀ y, preb y → pre (g y)) (h0 : ∀ l y, s0 l (g y) = .at l C [] []) (h1 : ∀ l y, erb y = none → s1 l (g y) = .at l C ns (resb y)) (h2 : ∀ y, (erb y = none ∧ res (g y) = .fz .non) ∨ ∃ e, erb y = some e ∧ res (g y) = .rs e) :
    FnOk P w K mg base CX k f fd ps (SpIE K C ns arb preb resb erb) := h.imp fun vs H Q E hh => by
  obtain ⟨y, Z, F, l, dx, vs', rfl, ez, ef, nl, hi, r, hpr, q, qx⟩ := hh
  have fl : ∀ a ∈ [l], F a = none := fun a m => by
    have e : a = l := by simpa using m
    rw [e]
    exact nl
  refine ⟨g y, Z, F, l, vs', [l], rfl, ez, ef, by simp, fl, ?_, by rw [har]; exact r, hp y hpr, fun v Z' H' B gg rr nB dB => ?_, fun e Z' H' z gg => ?_⟩
  · rw [h0]
    exact .at (dx := dx) hi .nil
  · rcases h2 y with ⟨en, er⟩ | ⟨e, en, er⟩
    · rw [er, h1 l y en] at rr
      cases rr with
      | @cons _ _ _ _ A1 B1 ra rb =>
        cases rb with
        | @cons _ _ _ _ A2 B2 rb rc =>
          cases rb with
          | fz rb =>
            cases rb
            cases rc
            rw [List.append_nil, List.append_nil] at nB dB
            exact q en Z' H' A1 gg ra ⟨nB, dB⟩
    · rw [er] at rr
      cases rr with
      | cons ra rb =>
        cases rb with
        | cons rb rc => cases rb
  · rcases h2 y with ⟨en, er⟩ | ⟨e', en, er⟩
    · rw [er] at z
      cases z
    · rw [er] at z
      cases z
      exact qx e Z' H' en gg
structure Mk1E (P : Program) (w : World) (K : PySem.W.Frag) (mg : Str → Option Value) (base : Heap) (name : Str) (C : Addr) (k : Nat) (ps : List Str) (sp : Sp) : Prop where
  ex : ∃ (f : Addr) (fd : FuncData), mg name = some (.ref C) ∧ Mk K C f ∧ Binds K fd ps [] ∧ FnOk P w K mg base (L2.CX P w) k f fd ps sp
structure Cf1E (P : Program) (w : World) (K : PySem.W.Frag) (mg : Str → Option Value) (base : Heap) (nmC m : Str) (k : Nat) (ps : List Str) (sp : Sp) : Prop where
  ex : ∃ (C : Addr) (mc : Value) (f : Addr) (fd : FuncData), mg nmC = some (.ref C) ∧ ClX.CRead K C mc ∧ ClX.CVal K C mc m (.ref f) (.ref f) ∧ PySem.W.keepIn K (.ref f) = true ∧ Binds K fd ps [] ∧ FnOk P w K mg base (L2.CX P w) k f fd ps sp
section
variable {P : Program} {w : World} {K : PySem.W.Frag} {mg : Str → Option Value} {base : Heap} {name m : Str} {k : Nat} {ps : List Str} {α : Type} {C : Addr} {ns : List Str} {ar : α → List O} {pre : α → Prop}
theorem Mk1E.ok {res : α → List O} {er : α → Option Er} (c : Mk1E P w K mg base name C k ps (SpIE K C ns ar pre res er)) : Mk1 P w K mg base name C k ps (SpI K C ns ar (fun x => pre x ∧ er x = none) res) := by
  obtain ⟨f, fd, hm, hk, hb, F⟩ := c.ex
  exact ⟨f, fd, hm, hk, hb, F.known fun vs H Q E ⟨x, Z, F, l, dx, vs', e, ez, ef, nl, hi, r, ⟨hp, hn⟩, q⟩ => ⟨x, Z, F, l, dx, vs', e, ez, ef, nl, hi, r, hp, fun _ => q, fun e _ _ z => by rw [hn] at z; cases z⟩⟩
theorem Cf1E.ok {s0 s1 : Addr → α → O} {res : α → O} (c : Cf1E P w K mg base name m k ps (SpXE K ar pre s0 s1 res)) : Cf1 P w K mg base name m k ps (SpX K ar (fun x => pre x ∧ ∀ e, res x ≠ .rs e) s0 s1 res) := by
  obtain ⟨C, mc, f, fd, hm, h1, h2, hk, hb, F⟩ := c.ex
  exact ⟨C, mc, f, fd, hm, h1, h2, hk, hb, F.known fun vs H Q E ⟨x, Z, F, l, vs', A, e, ez, ef, nA, fA, rs, r, ⟨hp, hn⟩, q⟩ => ⟨x, Z, F, l, vs', A, e, ez, ef, nA, fA, rs, r, hp, q, fun e _ _ z => absurd z (hn e)⟩⟩
end
section
variable {X : Cx} {ρ : Slots} {e : Expr} {es : List Expr} {pos p0 p1 p2 : Pos} {i : Nat} {xx nm : Str} {C : Addr} {ns all : List Str} {os : List O} {ds : List D} {er : Er}
end
def SpFE {A E R : Type} (K : PySem.W.Frag) (ar : A → List O) (f : A → Option (Xr E R)) (te : E → Er) (er : R → O) : Sp := SpE K (fun x : A × Xr E R => ar x.1) (fun x => f x.1 = some x.2) (fun x => exO te er x.2)
def okx {E R : Type} : Option (Xr E R) → Option R
  | some (.ok r) => some r
  | _ => none
theorem okx_is {E R : Type} {m : Option (Xr E R)} {r : R} (h : okx m = some r) : m = some (.ok r) := by
  cases m with
  | none => cases h
  | some m =>
    cases m with
    | ok x => cases h; rfl
    | er x => cases h
def bdx {E R S : Type} : Option (Xr E R) → (R → Option (Xr E S)) → Option (Xr E S)
  | some (.ok r), k => k r
  | some (.er e), _ => some (.er e)
  | none, _ => none
theorem bdx_some {E R S : Type} {m : Option (Xr E R)} {k : R → Option (Xr E S)} {y : Xr E S} (h : bdx m k = some y) : (∃ e, m = some (.er e) ∧ (some (.er e) : Option (Xr E S)) = some y) ∨ ∃ v, m = some (.ok v) ∧ k v = some y := by
  cases m with
  | none => cases h
  | some m =>
    cases m with
    | ok x => exact .inr ⟨x, rfl, h⟩
    | er x => exact .inl ⟨x, rfl, h⟩
def bdo {E R S V W : Type} : Option (Xr E R) → (R → Option (Ou V W (Xr E S))) → Option (Ou V W (Xr E S))
  | some (.ok r), k => k r
  | some (.er e), _ => some (.rt (.er e))
  | none, _ => none
theorem bdo_some {E R S V W : Type} {m : Option (Xr E R)} {k : R → Option (Ou V W (Xr E S))} {y : Ou V W (Xr E S)} (h : bdo m k = some y) : (∃ e, m = some (.er e) ∧ (some (.rt (.er e)) : Option (Ou V W (Xr E S))) = some y) ∨ ∃ v, m = some (.ok v) ∧ k v = some y := by
  cases m with
  | none => cases h
  | some m =>
    cases m with
    | ok x => exact .inr ⟨x, rfl, h⟩
    | er x => exact .inl ⟨x, rfl, h⟩
theorem exO_nv {E R : Type} {te : E → Er} {er : R → O} (h : ∀ r, (er r).nv = true) : ∀ y : Xr E R, (exO te er y).nv = true ∨ ∃ e, exO te er y = .rs e
  | .ok r => .inl (h r)
  | .er e => .inr ⟨_, rfl⟩
end M
namespace M
open PySem L2 PySem.Spec PyProof.Rows
def tryR {V E R S : Type} : Ou V Unit (Xr E R) → (V → Option S) → (R → Option S) → (E → Option S) → Option S
  | .nx v, k, _, _ => k v
  | .rt (.ok r), _, kr, _ => kr r
  | .rt (.er e), _, _, kx => kx e
  | _, _, _, _ => none
theorem le_none : ∀ ρ : Slots, Le ρ (List.replicate ρ.length none)
  | [] => .nil
  | _ :: ρ => .no (le_none ρ)
theorem le_blank {x : Option O} : ∀ (ρ : Slots) (i : Nat), Le (ρ.set i x) ((List.replicate ρ.length none).set i x)
  | [], _ => .nil
  | _ :: ρ, 0 => .eq (le_none ρ)
  | _ :: ρ, i + 1 => .no (le_blank ρ i)
section
variable {X : Cx} {ρ : Slots} {G : Go}
theorem m_tryO {E R V : Type} {xc n : Str} {C : Addr} {i : Nat} {body suite : List Stmt} {b0 : Stmt} {np pos pos' : Pos} {out : Ou V Unit (Xr E R)} (Rn : V → Slots) (te : E → Er) (er : R → O)
    (hN : X.N.Nodup) (hi : X.N[i]? = some n) (hln : X.env.kindOf n = some .local) (hc : Names X xc (.ref C)) (hne : ∀ r e, er r ≠ .rs e) (hnf : ∀ e, (te e).fld = none)
    (hb : ∀ (pn : List (Addr × Obj)) (xe : Value → Shared → Prop), PassesOwn (model X.prog X.w) X.A X.env xe → MS (X.tr pn xe) ρ body (goO Rn (fun _ : Unit => []) (exO te er) out))
    (kb : ∀ w, out ≠ .bk w) (kc : ∀ w, out ≠ .ct w) (kr : ∀ r, out = .rt (.ok r) → G.rt (er r))
    (hm : ∀ e, out = .rt (.er e) → PySem.W.exmOne X.K (.ref (te e).C) (.ref C) = some true)
    (hs : ∀ e, out = .rt (.er e) → ∀ (a : Addr) (oe : Obj) (pn : List (Addr × Obj)), Zc (.ref (te e).C) none oe → (∃ vs, oe.data = .fields vs) → MS (X.suite a ((a, oe) :: pn)) ((List.replicate X.N.length none).set i (some (.pt a))) (b0 :: suite) { rt := fun o => G.rt o ∧ ∀ e, o ≠ .rs e })
    (kn : ∀ v τ, out = .nx v → Le τ (Rn v) → G.nx τ)
    (e1 : X.stack = X.env :: X.outer := by rfl) (e2 : X.env.frame = some X.env.locals := by rfl) : MS1 X ρ (.Try body [.ExceptHandler (some (.Name xc np)) (some n) (b0 :: suite) pos'] [] [] pos) G := .mk fun Z0 F Z σ H D s g => by
  obtain ⟨Wout, tk, kk⟩ := g.ex
  refine PS_w (ps_try_as (i := i) (tb := fun W => fun D σ H => ∀ pn xe, Takes (X.tr pn xe) W → PassesOwn (model X.prog X.w) X.A X.env xe → wS (X.tr pn xe) body D σ H)
    (ts := fun a cls d => fun D σ H => ∀ (oe : Obj) (pn : List (Addr × Obj)), Zc cls d oe → (∃ vs, oe.data = .fields vs) → wS (X.suite a ((a, oe) :: pn)) (b0 :: suite) D σ H) e1 e2 hN hi hln hc tk
    (fun W pn xe t po => ⟨fun pins s σ H D I h => h pn xe t po pins s I⟩) (fun a oe cls d pn hz hf => ⟨fun pins s σ H D I h => h oe pn hz hf pins s I⟩)) ?_
  intro pn xe t po
  refine (hb pn xe po).run Z0 F Z σ H D s ⟨fun τ Z σ H ⟨v, e, l⟩ s' => g.nx τ Z σ H (kn v τ e l) s', fun _ _ _ _ ⟨w, e, _⟩ => absurd e (kb w), fun _ _ _ _ ⟨w, e, _⟩ => absurd e (kc w), fun o v Z' H' A k g' r n => ?_, fun _ _ _ _ _ _ z => z.elim, ⟨_, t, fun e ρ' Z' σ' H' k s' => ?_⟩⟩
  · obtain ⟨x, e, rfl⟩ := k
    cases x with
    | ok x => exact g.rt _ v Z' H' A (kr x e) g' r n
    | er x => cases r
  · obtain ⟨x, eo, ex⟩ := k
    cases x with
    | ok x => exact absurd ex.symm (hne x e)
    | er x =>
      cases ex
      unfold Thrown
      rw [hnf x]
      refine ⟨true, hm x eo, fun _ a na oe pn' hz hf => ?_, fun z => nomatch z⟩
      intro pins s2 I2
      have ln : σ'.length = X.N.length := by
        have := I2.len
        rw [List.length_set] at this
        exact this
      have lr : ρ'.length = X.N.length := by rw [← s'.len, ln]
      have hl : i < ρ'.length := by
        rw [lr]
        exact (List.getElem?_eq_some_iff.mp hi).1
      have s3 := s'.put (v := .ref a) (Gr.refl s'.ex) (RepO.pt (a := a)) .nil hl
      have le := le_blank (x := some (O.pt a)) ρ' i
      rw [lr] at le
      exact (hs x eo a oe pn' hz hf).run Z0 F Z' _ H' { nx := fun σ' H' => D.nx (σ'.set i none) H', rt := D.rt, bk := fun σ' H' => D.bk (σ'.set i none) H', ct := fun σ' H' => D.ct (σ'.set i none) H' } (s3.le le) ⟨fun _ _ _ _ z => z.elim, fun _ _ _ _ z => z.elim, fun _ _ _ _ z => z.elim, fun o v Z H A k g' r n => g.rt o v Z H A k.1 g' r n, fun _ _ _ _ _ _ z => z.elim, GX.never fun e z => z.2 e rfl⟩ pins s2 I2
end
section
variable {X : Cx} {ρ : Slots} {a C E : Addr} {oe : Obj} {pn : List (Addr × Obj)} {i : Nat} {n nm : Str} {p0 p1 p2 pos : Pos} {b : Bool} {T : String}
theorem me_isiE (c : ExcC X.K C) (hz : Zc (.ref C) none oe) (hf : ∃ vs, oe.data = .fields vs) (hg : Gl X "isinstance") (hm : X.mg "isinstance" = none) (hE : X.mg nm = some (.ref E)) (p : PE (X.suite a ((a, oe) :: pn)) (.Name n p2) (tVar i)) (hi : ρ[i]? = some (some (.pt a))) (hk : PySem.W.kitOne X.K (.ref C) (.ref E) = some b) (hgE : Gl X nm := by rfl) (hd : (nm == ("__debug__" : Str)) = false := by decide) :
    ME (X.suite a ((a, oe) :: pn)) ρ (.Call (.Name "isinstance" p0) [.Name n p2, .Name nm p1] [] pos) (.fz (.bl b)) := .mk fun Z0 F Z σ H s Q q =>
  PE_w (pe_callB (call_isE c hz hf) hg hm (by decide +kernel) (pa_cons pe_w (pa_cons (pe_glob (v := .ref E) hgE hE rfl hd) pa_nil) rfl) (he := rfl)) ((mv_var p hi).run Z0 F Z σ H s _ fun v Z1 H1 A1 g1 r1 => by
    cases r1
    exact ⟨.ref E, .ref E, b, rfl, fun u r => r, hk, q _ Z1 H1 [] g1 (.fz (.bl b)) .nil⟩)
theorem me_isiEB (c : ExcC X.K C) (hz : Zc (.ref C) none oe) (hf : ∃ vs, oe.data = .fields vs) (hg : Gl X "isinstance") (hm : X.mg "isinstance" = none) (hT : PE (X.suite a ((a, oe) :: pn)) (.Name nm p1) (tC (.ty T))) (p : PE (X.suite a ((a, oe) :: pn)) (.Name n p2) (tVar i)) (hi : ρ[i]? = some (some (.pt a))) (hk : PySem.W.kitOne X.K (.ref C) (.type T) = some b) :
    ME (X.suite a ((a, oe) :: pn)) ρ (.Call (.Name "isinstance" p0) [.Name n p2, .Name nm p1] [] pos) (.fz (.bl b)) := .mk fun Z0 F Z σ H s Q q =>
  PE_w (pe_callB (call_isE c hz hf) hg hm (by decide +kernel) (pa_cons pe_w (pa_cons hT pa_nil) rfl) (he := rfl)) ((mv_var p hi).run Z0 F Z σ H s _ fun v Z1 H1 A1 g1 r1 => by
    cases r1
    exact ⟨.ty T, .type T, b, rfl, fun u r => r, hk, q _ Z1 H1 [] g1 (.fz (.bl b)) .nil⟩)
end
end M
namespace M
open PySem L2 PySem.Spec PyProof.Rows
section
open PySem.SeqAt
open PySem.AutoSeq1 (wpAny_loadPart')
open PySem.MeetsSeq PySem.MeetsSeq2 PySem.MeetsSeq3
end
section
variable {X : Cx} {pins : List (Addr × Obj)} {σ : L2.St} {H Z : Hp} {s : Shared}
end
section
variable {X : Cx} {ρ : Slots} {a b : Expr} {d : D} {xs : List Str} {pos p1 p2 p3 : Pos} {x : Str}
end
theorem kit_false {K : PySem.W.Frag} {C E : Addr} (h0 : PySem.W.mroIn K C (.ref C) = some true) (h1 : PySem.W.isClsIn K E = true) (h2 : PySem.W.typeIn K (.ref E) = some (.type "type")) (h3 : PySem.W.mroIn K C (.ref E) = some false) : PySem.W.kitOne K (.ref C) (.ref E) = some false := by
  unfold PySem.W.kitOne
  split
  · rename_i h
    have h := eq_of_beq h
    cases h
    rw [h0] at h3
    cases h3
  · have e : PySem.W.kitCls K (.ref C) (.ref E) = if ((PySem.W.clsIn K E).isSome && PySem.W.typeIn K (.ref E) == some (.type "type")) = true then PySem.W.mroIn K C (.ref E) else none := rfl
    rw [e, if_pos, h3]
    rw [h2]
    show ((PySem.W.clsIn K E).isSome && _) = true
    rw [show (PySem.W.clsIn K E).isSome = true from h1]
    decide
theorem kit_ty {K : PySem.W.Frag} {C : Addr} {T : String} {b : Bool} (h1 : PySem.W.kitMeta T = true) (h3 : PySem.W.mroIn K C (.type T) = some b) : PySem.W.kitOne K (.ref C) (.type T) = some b := by
  unfold PySem.W.kitOne
  split
  · rename_i h
    have h := eq_of_beq h
    cases h
  · have e : PySem.W.kitCls K (.ref C) (.type T) = if PySem.W.kitMeta T = true then PySem.W.mroIn K C (.type T) else none := rfl
    rw [e, if_pos h1, h3]
end M
namespace M
open PySem L2 PySem.Spec PyProof.Rows
section
variable {X : Cx} {ρ : Slots} {a b : Expr} {d y : D} {ds : List D} {k : Int} {pos p0 p1 : Pos} {x z : Str}
end
end M
namespace M
open PySem L2 PySem.Spec PyProof.Rows
/-- behind a loop that is left by break alone, in a block without ways out -/
def ouV {V W R S : Type} : Ou V W R → (V → Option S) → Option S
  | .nx v, k => k v
  | _, _ => none
section
variable {X : Cx} {ρ : Slots} {a b c : Expr} {o : O} {os : List O} {sts : List Stmt} {G : Go} {k : Bool} {pos : Pos} {x : Str} {i j : Nat} {l : Addr}
theorem me_ifE (hc : MT X ρ c k) (ha : k = true → ME X ρ a o) (hb : k = false → ME X ρ b o) : ME X ρ (.IfExp c a b pos) o := .mk fun Z0 F Z σ H s Q q =>
  PE_w (pe_ifExp pt_w pe_w pe_w) (hc.run Z0 F Z σ H s _ fun Z1 H1 g1 => by
    cases k with
    | true => exact (ha rfl).run Z0 F Z1 σ H1 (s.grow g1) Q fun v Z2 H2 A g2 r n => q v Z2 H2 A (g1.trans g2) r ⟨n.1, fun a m => ⟨g1.hh.free (n.2 a m).1, (n.2 a m).2⟩⟩
    | false => exact (hb rfl).run Z0 F Z1 σ H1 (s.grow g1) Q fun v Z2 H2 A g2 r n => q v Z2 H2 A (g1.trans g2) r ⟨n.1, fun a m => ⟨g1.hh.free (n.2 a m).1, (n.2 a m).2⟩⟩)
end
end M
namespace M
open PySem L2 PySem.Spec PyProof.Rows
section
variable {X : Cx}
variable {ρ : Slots} {a : Expr} {α : Type}
end
def rCatS (K : PySem.W.Frag) : R2 := fun x y H Q => ∃ (l b : Addr) (xs zs : List V), x = .ref l ∧ y = .ref b ∧ SqL K H l xs ∧ SqL K H b zs ∧ xs.length + zs.length ≤ sizeLine ∧ ∀ p, H p = none → Q (.ref p) (upd H p (.lst (xs ++ zs)))
section
variable {X : Cx}
theorem op_catS : OpR X (binaryOp .Add) (rCatS X.K) := by
  intro pins s σ H x y v u Q I rx ry h
  obtain ⟨l, b, xs, zs, rfl, rfl, hl, hb, hz, q⟩ := h
  cases rx
  cases ry
  obtain ⟨its, r, ⟨⟨cls, dd, data, sl⟩, n, ho, hc, hdn, hd⟩, h1⟩ := I.list hl
  obtain ⟨its2, r2, ⟨⟨cls2, dd2, data2, sl2⟩, n2, ho2, hc2, hdn2, hd2⟩, h2⟩ := I.list hb
  simp only at hc hd hc2 hd2
  subst hc hd hc2 hd2
  have e1 := r.length
  have e2 := r2.length
  have ea : its.toArray ++ its2.toArray = (its ++ its2).toArray := by simp
  refine concat_meets ⟨_, ho, rfl⟩ ⟨_, ho2, rfl⟩ noFill_list_add seq_list_add PySem.F.slot_list_add PySem.F.entry_list_add (PySem.F.args_list_add_2 _ _) (list_addW l b its.toArray its2.toArray n n2 dd dd2 sl sl2 (by rw [List.size_toArray, List.size_toArray]; omega)) ⟨ho, ho2, ?_⟩
  rw [ea]
  exact ⟨.ref _, _, I.lnew (t' := s.toks) (r.append r2) (by rw [List.length_append]; omega), rfl, q _ I.fresh⟩
variable {ρ : Slots} {a b : Expr} {α : Type} {pos : Pos}
theorem me_catMM {xs ys : List α} {enc : α → D} (hl : xs.length + ys.length ≤ sizeLine) (ha : ML X ρ a (xs.map enc)) (hb : ML X ρ b (ys.map enc)) : ME X ρ (.BinOp a .Add b pos) (.lst (((xs ++ ys).map enc).map .fz)) := .mk fun Z0 F Z σ H s Q q =>
  PE_w (pe_op op_catS pe_w pe_w) (ha.run Z0 F Z σ H s _ fun l vs Z1 H1 g1 l1 r1 => hb.run Z0 F Z1 σ H1 (s.grow g1) _ fun l2 us Z2 H2 g2 l2' r2 => by
    have g := g1.trans g2
    have e1 := r1.length
    have e2 := r2.length
    rw [List.length_map] at e1 e2
    refine ⟨l, l2, vs, us, rfl, rfl, ex_l g2.hh l1, l2', by omega, fun p hp => ?_⟩
    rw [List.map_append] at q
    exact q _ Z2 _ [p] (g.trans (Gr.new g.zh hp)) (.lst upd_same ((r1.mono g2.zz).append r2).own) (new_one (g.hh.free hp) (g.zh.free hp)))
end
end M
namespace M
open PySem L2 PySem.Spec PyProof.Rows
section
variable {X : Cx} {ρ : Slots} {e : Expr} {d d' : D}
theorem MV.as (h : MV X ρ e (.fz d)) (q : d = d') : MV X ρ e (.fz d') := q ▸ h
theorem ME.as (h : ME X ρ e (.fz d)) (q : d = d') : ME X ρ e (.fz d') := q ▸ h
end
section
variable {X : Cx} {ρ : Slots} {e f : Expr} {pos dpos apos cpos : Pos} {s : Str} {d : Int} {keys : List (Option Expr)} {values : List Expr} {kvs : List (Str × Int)}
end
theorem fn_vac {A R : Type} {P : Program} {w : World} {K : PySem.W.Frag} {mg : Str → Option Value} {base : Heap} {CX : CXT} {k : Nat} {f : Addr} {fd : FuncData} {ps : List Str} {ar : A → List O} {g : A → Option R} {er : R → O} (h : ∀ x, g x = none) : FnOk P w K mg base CX k f fd ps (SpF K ar g er) :=
  ⟨fun vs H Q E z => (by
      obtain ⟨x, _, _, _, hp, _⟩ := z
      have hp : g x.1 = some x.2 := hp
      rw [h] at hp; cases hp), fun A outer s H args us vs Q E hr he hb hv z => (by
      obtain ⟨x, _, _, _, hp, _⟩ := z
      have hp : g x.1 = some x.2 := hp
      rw [h] at hp; cases hp)⟩
end M
namespace M
open PySem L2 PySem.Spec PyProof.Rows
theorem r_u65 {k : Nat} {A : Around} (r : Room k A) : A.units + 65 < cLine := by have := r.un; omega
theorem pyL_any (ds : List D) (p : PyData → Bool) : (D.pyL ds).any p = ds.any fun z => p z.py := by
  induction ds with
  | nil => rfl
  | cons d r ih =>
    show (p d.py || (D.pyL r).any p) = (p d.py || r.any _)
    rw [ih]
section
variable {X : Cx} {ρ : Slots} {a b : Expr} {o2 : O} {d : D} {ds : List D} {pos : Pos}
theorem mt_niD (hu : X.A.units + 65 < cLine) (h : d.ok ∧ (D.lst ds).ok) (e2 : o2.frz = .lst ds) (ha : MV X ρ a (.fz d)) (hb : MV X ρ b o2) (hm : behindInMarks .NotIn b = false := by rfl) : MT X ρ (.Compare a [.NotIn] [b] pos) (!(ds.any fun z => D.eqv z d)) :=
  mt_rD (r := rNotInD X.K) (pt_cmpR (op_notInD hu) pe_w pe_w hm) ha hb h.1.1 (by rw [e2]; exact h.2.1) fun x y H Q p1 p2 q => ⟨_, D.pyL ds, p1, by rw [e2] at p2; exact p2, h.1.2, h.2.2, by rw [pyL_any]; exact q⟩
/-- typed -/
def inDL {α : Type} (enc : α → D) (xs : List α) (d : D) : Bool := xs.any fun z => D.eqv (enc z) d
variable {α : Type} {enc : α → D} {xs : List α}
theorem inDL_is : ((xs.map enc).any fun z => D.eqv z d) = inDL enc xs d := by unfold inDL; rw [List.any_map]; rfl
theorem mt_niDL (hu : X.A.units + 65 < cLine) (h : d.ok ∧ (D.lst (xs.map enc)).ok) (e2 : o2.frz = .lst (xs.map enc)) (ha : MV X ρ a (.fz d)) (hb : MV X ρ b o2) (hm : behindInMarks .NotIn b = false := by rfl) : MT X ρ (.Compare a [.NotIn] [b] pos) (!(inDL enc xs d)) := inDL_is ▸ mt_niD hu h e2 ha hb hm
end
end M
namespace M
open PySem L2 PySem.Spec PyProof.Rows
section
variable {X : Cx} {ρ : Slots} {G : Go}
end
section
variable {X : Cx} {ρ : Slots} {e : Expr} {pos dpos : Pos} {s v : Str} {keys : List (Option Expr)} {values : List Expr} {kvs : List (Str × Str)}
end
section
variable {X : Cx} {ρ : Slots} {e : Expr} {pos dpos : Pos} {s : Str} {v : Int} {keys : List (Option Expr)} {values : List Expr} {kvs : List (Str × Int)}
end
end M
namespace M
open PySem L2 PySem.Spec PyProof.Rows
section
variable {K : PySem.W.Frag} {Z F H : Hp}
mutual
theorem RepK.rep (e : Ex Z H) (f : Ex F H) : ∀ {v : V} {o : O}, RepK K Z F v o → Rep K H v o.frz
  | _, _, .fz h => h.mono e
  | _, _, .vw h r => .lst (ex_l f h) (r.mono e)
  | _, _, .vwa h r => .lst (ex_l f h) (r.mono e)
  | _, .lk o, .lk h => RepK.rep (o := o) e f h
  | _, _, .lst h r => .lst (SqL.of (f _ _ h)) (RepKL.rep e f r)
  | _, _, .tup h r => .tup (SqT.of (f _ _ h)) (RepKL.rep e f r)
  | _, _, .ins h r => .ins (f _ _ h) (RepKL.rep e f r)
  | _, .loc _ o, .loc h => RepK.rep (o := o) e f h
  | _, _, .pt => .opq _
  | _, _, .at h r => .ins (f _ _ h) (RepKL.rep e f r)
  | _, _, .dct h r => .dct (f _ _ h) (RepKL.rep e f r)
  | _, _, .dctT h r => .dctT (f _ _ h) (RepKL.rep e f r)
theorem RepKL.rep (e : Ex Z H) (f : Ex F H) : ∀ {vs : List V} {os : List O}, RepKL K Z F vs os → RepL K H vs (O.frzL os)
  | _, _, .nil => .nil
  | _, _, .cons h r => .cons (RepK.rep e f h) (RepKL.rep e f r)
end
mutual
theorem RepO.rep (e : Ex Z H) (f : Ex F H) : ∀ {v : V} {o : O} {A : List Addr}, RepO K Z F H v o A → Rep K H v o.frz
  | _, _, _, .fz h => h.mono e
  | _, _, _, .vw h r => .lst (ex_l f h) (r.mono e)
  | _, _, _, .vwa h r => .lst (ex_l f h) (r.mono e)
  | _, .lk o, _, .lk h => RepK.rep (o := o) e f h
  | _, _, _, .lst h r => .lst (SqL.of h) (RepOL.rep e f r)
  | _, _, _, .tup h r => .tup (SqT.of h) (RepOL.rep e f r)
  | _, _, _, .ins h r => .ins h (RepOL.rep e f r)
  | _, .loc _ o, _, .loc h => RepO.rep (o := o) e f h
  | _, _, _, .pt => .opq _
  | _, _, _, .at h r => .ins h (RepOL.rep e f r)
  | _, _, _, .dct h r => .dct h (RepOL.rep e f r)
  | _, _, _, .dctT h r => .dctT h (RepOL.rep e f r)
theorem RepOL.rep (e : Ex Z H) (f : Ex F H) : ∀ {vs : List V} {os : List O} {A : List Addr}, RepOL K Z F H vs os A → RepL K H vs (O.frzL os)
  | _, _, _, .nil => .nil
  | _, _, _, .cons h r => .cons (RepO.rep e f h) (RepOL.rep e f r)
end
end
/-- an expression that tells a thing, which is d now -/
structure MD (X : Cx) (ρ : Slots) (e : Expr) (d : D) : Prop where
  run : ∀ (Z0 F Z : Hp) (σ : L2.St) (H : Hp), StR X.K ρ Z0 F Z σ H → ∀ Q : VK, (∀ v Z' H', Gr Z H Z' H' → Rep X.K H' v d → Q v H') → wE X e σ H Q
section
variable {κ : Type} [DecidableEq κ] {β γ : Type}
def lkp (m : List (κ × β)) (k : κ) : Option β := (m.find? fun p => decide (p.1 = k)).map (·.2)
theorem lkp_V (m : List (κ × V)) (k : κ) : valV m k = lkp m k := rfl
theorem lkp_pos {p : κ × β} {r : List (κ × β)} {k : κ} (e : p.1 = k) : lkp (p :: r) k = some p.2 := by simp [lkp, List.find?_cons, e]
theorem lkp_neg {p : κ × β} {r : List (κ × β)} {k : κ} (e : ¬ p.1 = k) : lkp (p :: r) k = lkp r k := by simp [lkp, List.find?_cons, e]
/-- tables alike: entry by entry -/
def Tb (P : β → γ → Prop) : List (κ × β) → List (κ × γ) → Prop
  | [], [] => True
  | p :: r, q :: t => p.1 = q.1 ∧ P p.2 q.2 ∧ Tb P r t
  | _, _ => False
theorem Tb.lkp {P : β → γ → Prop} (k : κ) : ∀ {m : List (κ × β)} {n : List (κ × γ)}, Tb P m n → (lkp m k = none ∧ lkp n k = none) ∨ ∃ x y, lkp m k = some x ∧ lkp n k = some y ∧ P x y
  | [], [], _ => .inl ⟨rfl, rfl⟩
  | p :: r, q :: t, h => by
    obtain ⟨h1, h2, h3⟩ := h
    by_cases e : p.1 = k
    · exact .inr ⟨p.2, q.2, lkp_pos e, lkp_pos (h1.symm.trans e), h2⟩
    · rw [lkp_neg e, lkp_neg (fun z => e (h1.trans z))]
      exact Tb.lkp k h3
end
theorem RepL.tb {K : PySem.W.Frag} {Z : Hp} {κ : Type} [DecidableEq κ] : ∀ {m : List (κ × D)} {vs : List V}, RepL K Z vs (m.map (·.2)) → Tb (fun d v => Rep K Z v d) m ((m.map (·.1)).zip vs)
  | [], _, .nil => trivial
  | p :: r, _, .cons h t => ⟨rfl, h, RepL.tb t⟩
def keyD : D → Option Key
  | .int i => some (.inl i)
  | .str x => some (.inr x)
  | _ => none
theorem key_V {K : PySem.W.Frag} {Z : Hp} {v : V} {d : D} {k : Key} (h : keyD d = some k) (r : Rep K Z v d) : v = kV k := by
  cases r with
  | int i => cases h; rfl
  | str x => cases h; rfl
  | _ => cases h
def oT (m : List (List Key × D)) : O := .dctT (m.map (·.1)) ((m.map (·.2)).map .fz)
section
variable {X : Cx} {ρ : Slots} {R : O → Slots} {e e1 e2 f o a : Expr} {es : List Expr} {d y : D} {ds vs : List D} {pos p1 p2 p3 apos cpos : Pos} {C : Addr} {ns : List Str} {nm : Str} {oo : O} {G : Go}
theorem MV.now (h : MV X ρ e oo) : MD X ρ e oo.frz := .mk fun Z0 F Z σ H s Q q => h.run Z0 F Z σ H s Q fun v Z' H' A g r => q v Z' H' g (r.rep g.zh (s.gr.hh.trans g.hh))
theorem me_dctT0 : ME X ρ (.Dict [] [] pos) (oT []) := .mk fun Z0 F Z σ H s Q q => PE_w pe_dnewT fun p hp => by
  refine q (.ref p) Z _ [p] (Gr.new s.ex hp) (.dctT (ks := []) (vs := []) upd_same .nil) (new_one hp (s.ex.free hp))
end
end M
namespace M
open PySem L2 PySem.Spec PyProof.Rows
section
variable {X : Cx} {pins : List (Addr × Obj)} {σ : L2.St} {H : Hp} {s : Shared} {a b : Addr} {r : Value} {d : V} {k : List Key} {A : Around} {E : Value → Shared → Prop}
end
section
variable {κ : Type} [DecidableEq κ] {β : Type}
def ixk : List (κ × β) → κ → Option Nat
  | [], _ => none
  | p :: r, k => if p.1 = k then some 0 else (ixk r k).map (· + 1)
theorem ixk_val : ∀ {m : List (κ × β)} {vs : List V} {k : κ}, vs.length = m.length → valV ((m.map (·.1)).zip vs) k = (ixk m k).bind fun j => vs[j]?
  | [], [], _, _ => rfl
  | p :: r, v :: vs, k, h => by
    show valV ((p.1, v) :: ((r.map (·.1)).zip vs)) k = _
    unfold ixk
    by_cases e : p.1 = k
    · rw [if_pos e, valV_pos e]; rfl
    · rw [if_neg e, valV_neg e, ixk_val (m := r) (by simpa using h)]
      cases ixk r k <;> rfl
theorem ixk_lt : ∀ {m : List (κ × β)} {k : κ} {j : Nat}, ixk m k = some j → j < m.length
  | p :: r, k, j, h => by
    unfold ixk at h
    by_cases e : p.1 = k
    · rw [if_pos e] at h; cases h; rw [List.length_cons]; omega
    · rw [if_neg e] at h
      obtain ⟨i, h1, rfl⟩ := Option.map_eq_some_iff.mp h
      have := ixk_lt h1
      rw [List.length_cons]; omega
end
section
variable {X : Cx} {ρ ρ' : Slots} {R R' : O → Slots} {e a f call : Expr} {d y : D} {ds : List D} {pos p1 p2 p3 apos cpos dpos : Pos} {i : Nat} {st : Stmt} {sts : List Stmt} {G : Go} {oo o' : O} {nm : Str}
structure FP (X : Cx) (ρ : Slots) (b : Addr) (o : O) (R : O → Slots) : Prop where
  run : ∀ (Z0 F Z : Hp) (σ : L2.St) (H : Hp) (T : List Addr), StA X.K ρ Z0 F Z σ H T → Foc X.K Z0 F Z σ H T (.ref b) o R
theorem pt_at {K : PySem.W.Frag} {Z0 F Z H : Hp} {σ : L2.St} {b : Addr} (s : StR K ρ Z0 F Z σ H) (hi : ρ[i]? = some (some (.pt b))) : σ[i]? = some (some (.ref b)) := by
  obtain ⟨T, s⟩ := s.a
  obtain ⟨v, B, q1, q2, _⟩ := s.st.at hi s.nd
  cases q2
  exact q1
theorem mq_pt {b : Addr} (p : PE X (.Name nm pos) (tVar i)) (fp : FP X ρ b oo R) (hi : ρ[i]? = some (some (.pt b))) : MQ X ρ (.Name nm pos) oo R := .mk fun Z0 F Z σ H T s Q q =>
  PE_w p ⟨_, pt_at s.r hi, q _ Z H (Gr.refl s.gr.zh) (fp.run Z0 F Z σ H T s)⟩
theorem mv_pt {b : Addr} (p : PE X (.Name nm pos) (tVar i)) (fp : FP X ρ b oo R) (hi : ρ[i]? = some (some (.pt b))) : MV X ρ (.Name nm pos) oo := .mk fun Z0 F Z σ H s Q q => by
  obtain ⟨T, s⟩ := s.a
  obtain ⟨A, f⟩ := fp.run Z0 F Z σ H T s
  exact PE_w p ⟨_, pt_at s.r hi, q _ Z H A (Gr.refl s.gr.zh) f.rp⟩
end
end M
namespace M
open PySem L2 PySem.Spec PyProof.Rows
section
variable {X : Cx} {ρ ρ' : Slots} {R R' : O → Slots} {e a b f call : Expr} {es : List Expr} {d y : D} {ds : List D} {pos p0 p1 p2 p3 apos cpos dpos : Pos} {i j : Nat} {st : Stmt} {sts : List Stmt} {G : Go} {oo o o' : O} {nm : Str} {C : Addr} {ns : List Str} {os : List O} {k : Int}
theorem MV.unlk (h : MV X ρ e (.lk o)) : MV X ρ e o := .mk fun Z0 F Z σ H s Q q => h.run Z0 F Z σ H s Q fun v Z' H' A g r => by
  cases r with
  | lk r =>
    obtain ⟨A, r⟩ := r.toO (s.gr.hh.trans g.hh)
    exact q v Z' H' A g r
theorem ma_lk (h : MV X ρ e o) (h2 : MA X ρ es os) (hs : starEach (e :: es) X.env = (false, eval e X.env) :: starEach es X.env := by rfl) : MA X ρ (e :: es) (.lk o :: os) := .mk fun Z0 F Z σ H s Q q =>
  PA_w (pa_cons pe_w pa_w hs) (h.run Z0 F Z σ H s _ fun v Z1 H1 A1 g1 r1 =>
    h2.run Z0 F Z1 σ H1 (s.grow g1) _ fun ws Z2 H2 g2 r2 => q _ Z2 H2 (g1.trans g2) (.cons (A := []) (B := []) (.lk ((r1.toK (s.gr.hh.trans g1.hh)).mono g2.zz g2.hh)) r2))
end
class Nv (o : O) : Prop where
  nv : o.nv = true
instance {d : D} : Nv (.fz d) := ⟨rfl⟩
instance {ds : List D} : Nv (.lst (ds.map .fz)) := ⟨O.nvL_fz ds⟩
instance {a : Addr} {o : O} [h : Nv o] : Nv (.loc a o) := ⟨h.nv⟩
instance {a : Addr} : Nv (.pt a) := ⟨rfl⟩
class NvL (os : List O) : Prop where
  nv : O.nvL os = true
instance : NvL [] := ⟨rfl⟩
instance {o : O} {os : List O} [h : Nv o] [t : NvL os] : NvL (o :: os) := ⟨by show (o.nv && O.nvL os) = true; rw [h.nv, t.nv]; rfl⟩
instance (priority := low) {β : Type} {g : β → O} {xs : List β} [h : ∀ x, Nv (g x)] : NvL (xs.map g) := ⟨by
  induction xs with
  | nil => rfl
  | cons x r ih => show ((g x).nv && O.nvL (r.map g)) = true; rw [(h x).nv, ih]; rfl⟩
instance {os : List O} [h : NvL os] : Nv (.lst os) := ⟨h.nv⟩
instance {os : List O} [h : NvL os] : Nv (.tup os) := ⟨h.nv⟩
instance {C : Addr} {ns : List Str} {os : List O} [h : NvL os] : Nv (.ins C ns os) := ⟨h.nv⟩
instance {ks : List Key} {os : List O} [h : NvL os] : Nv (.dct ks os) := ⟨h.nv⟩
instance {ks : List (List Key)} {os : List O} [h : NvL os] : Nv (.dctT ks os) := ⟨h.nv⟩
instance {a C : Addr} {ns : List Str} {os : List O} [h : NvL os] : Nv (.at a C ns os) := ⟨h.nv⟩
theorem Nv.is (o : O) [h : Nv o] : o.nv = true := h.nv
theorem ixk_lkp {κ β : Type} [DecidableEq κ] : ∀ (m : List (κ × β)) (k : κ), lkp m k = (ixk m k).bind fun j => (m[j]?).map (·.2)
  | [], _ => rfl
  | p :: r, k => by
    unfold ixk
    by_cases e : p.1 = k
    · rw [if_pos e, lkp_pos e]; rfl
    · rw [if_neg e, lkp_neg e, ixk_lkp r k]
      cases ixk r k <;> rfl
theorem ixk_key {κ β : Type} [DecidableEq κ] : ∀ {m : List (κ × β)} {k : κ} {j : Nat}, ixk m k = some j → (m[j]?).map (·.1) = some k
  | p :: r, k, j, h => by
    unfold ixk at h
    by_cases e : p.1 = k
    · rw [if_pos e] at h; cases h; exact congrArg some e
    · rw [if_neg e] at h
      obtain ⟨i, h1, rfl⟩ := Option.map_eq_some_iff.mp h
      have := ixk_key h1
      simpa using this
end M
namespace M
open PySem L2 PySem.Spec PyProof.Rows
section
variable {β : Type}
abbrev oDK (g : β → O) (m : List (Key × β)) : O := .dct (m.map (·.1)) (m.map fun p => g p.2)
abbrev oDT (g : β → O) (m : List (List Key × β)) : O := .dctT (m.map (·.1)) (m.map fun p => g p.2)
theorem RepOL.tbO {K : PySem.W.Frag} {Z F H : Hp} {κ : Type} [DecidableEq κ] {g : β → O} : ∀ {m : List (κ × β)} {vs : List V} {A : List Addr}, RepOL K Z F H vs (m.map fun p => g p.2) A → Tb (fun y v => ∃ B, RepO K Z F H v (g y) B) m ((m.map (·.1)).zip vs)
  | [], _, _, .nil => trivial
  | p :: r, _, _, .cons h t => ⟨rfl, ⟨_, h⟩, RepOL.tbO t⟩
end
section
variable {X : Cx} {ρ ρ' : Slots} {R R' : O → Slots} {e a b f call o : Expr} {es : List Expr} {d y dk : D} {ds : List D} {pos p0 p1 p2 p3 p4 apos cpos dpos : Pos} {i j : Nat} {st : Stmt} {sts : List Stmt} {G : Go} {oo o' : O} {nm : Str} {C : Addr} {ns : List Str} {os : List O} {β : Type} {g : β → O} {enc : β → D} {k : Key} {ks : List Key} {y0 y1 : β}
theorem mv_dixK {m : List (Key × β)} (hu : X.A.units + 64 < cLine) (hl : lkp m k = some y1) (hd : MV X ρ o (oDK g m)) (he : ME X ρ e (.fz dk)) (hk : keyD dk = some k) (hs : NoSl e := by exact fun _ _ _ _ z => nomatch z) : MV X ρ (.Subscript o e pos) (g y1) := .mk fun Z0 F Z σ H s Q q =>
  PE_w (pe_dget (by omega) pe_w pe_w hs) (hd.run Z0 F Z σ H s _ fun v Z1 H1 A1 g1 r1 => he.run Z0 F Z1 σ H1 (s.grow g1) _ fun u Z2 H2 A2 g2 r2 n2 => by
    cases r1 with
    | @dct a _ vs _ _ h0 rl =>
      cases r2 with
      | fz r2 =>
        rw [key_V hk r2]
        rcases rl.tbO.lkp k with ⟨q1, q2⟩ | ⟨x, z, q1, q2, B, q3⟩
        · rw [hl] at q1; cases q1
        · rw [hl] at q1; cases q1
          refine ⟨a, z, rfl, ?_, q _ Z2 H2 B (g1.trans g2) (q3.ex g2.zz g2.hh)⟩
          have := DGet.k (k := k) (g2.hh _ _ h0)
          rwa [lkp_V, q2] at this)
end
section
variable {K : PySem.W.Frag} {Z0 F Z Z' H H' : Hp} {σ : L2.St} {T A B : List Addr} {v : V} {o o' : O} {R : O → Slots}
theorem FocA.step (f : FocA K F Z Z0 σ H T v o R A) (ez : Ex Z Z') (nz : ∀ a, Kept F T A a → Z' a = Z a) (zh : Ex Z' H') (k : ∀ a, Kept F T A a → ∀ u, H a = some u → H' a = some u) (th : ∀ a ∈ A, ∃ u, H' a = some u) (fh : Ex F H') (r : RepO K Z' F H' v o' B) (n : B.Nodup) (d : ∀ a ∈ B, (a ∈ A ∨ a ∉ T ∧ F a = none) ∧ Z' a = none) : FocA K F Z' Z0 σ H' (T ++ B) v o' R B := by
  have nB : ∀ a, Kept F T A a → a ∉ B := fun a ka m => by
    rcases (d a m).1 with z | z
    · exact ka.1 z
    · rcases ka.2 with y | ⟨u, y⟩
      · exact z.1 y
      · rw [z.2] at y; cases y
  have kB : ∀ a, Kept F T A a → Kept F (T ++ B) B a := fun a ka => ⟨nB a ka, ka.2.imp (List.mem_append_left _) id⟩
  refine ⟨r, n, fun a m => ⟨List.mem_append_right _ m, (d a m).2, ?_⟩, fun a m => ?_, fh, fun {Z2 H2 w o2 p B2} ez2 nz2 zh2 k2 r2 n2 d2 => ?_⟩
  · rcases (d a m).1 with z | z
    · exact (f.ds a z).2.2
    · exact z.2
  · rcases List.mem_append.mp m with m | m
    · by_cases ma : a ∈ A
      · exact th a ma
      · obtain ⟨u, e⟩ := f.th a m
        exact ⟨u, k a ⟨ma, .inl m⟩ u e⟩
    · exact r.there a m
  · refine f.k (ez.trans ez2) (fun a ka => (nz2 a (kB a ka)).trans (nz a ka)) zh2 (fun a ka u e => k2 a (kB a ka) u (k a ka u e)) r2 n2 fun a m => ⟨?_, (d2 a m).2⟩
    rcases (d2 a m).1 with z | z
    · exact (d a z).1
    · exact .inr ⟨fun y => z.1 (List.mem_append_left _ y), z.2⟩
end
section
variable {κ : Type} [DecidableEq κ] {β : Type}
def sdK (m : List (κ × β)) (k : κ) (y : β) : List (κ × β) := if (lkp m k).isSome = true then m else m ++ [(k, y)]
/-- the place of the key behind a setdefault -/
def sdI (m : List (κ × β)) (k : κ) : Nat := (ixk m k).getD m.length
theorem sdK_old {m : List (κ × β)} {k : κ} {y x : β} (h : lkp m k = some x) : sdK m k y = m := by unfold sdK; rw [h]; rfl
theorem sdK_new {m : List (κ × β)} {k : κ} {y : β} (h : lkp m k = none) : sdK m k y = m ++ [(k, y)] := by unfold sdK; rw [h]; rfl
theorem ixk_none {m : List (κ × β)} {k : κ} (h : lkp m k = none) : ixk m k = none := by
  rw [ixk_lkp] at h
  cases e : ixk m k with
  | none => rfl
  | some j =>
    rw [e] at h
    have := ixk_lt e
    have h : (m[j]?).map (·.2) = none := h
    rw [List.getElem?_eq_getElem this] at h
    cases h
theorem ixk_some {m : List (κ × β)} {k : κ} {x : β} (h : lkp m k = some x) : ∃ j, ixk m k = some j ∧ (m[j]?).map (·.2) = some x := by
  rw [ixk_lkp] at h
  exact Option.bind_eq_some_iff.mp h
theorem sd_at {m : List (κ × β)} {k : κ} {y : β} : ((sdK m k y)[sdI m k]?).map (·.2) = some ((lkp m k).getD y) := by
  cases h : lkp m k with
  | none =>
    rw [sdK_new h]
    unfold sdI
    rw [ixk_none h]
    simp
  | some x =>
    obtain ⟨j, e, q⟩ := ixk_some h
    rw [sdK_old h]
    unfold sdI
    rw [e]
    exact q
end
end M
namespace M
open PySem L2 PySem.Spec PyProof.Rows
section
variable {κ : Type} [DecidableEq κ] {β γ : Type}
/-- the table with y at the place of the key, or at the end -/
def utK (m : List (κ × β)) (k : κ) (y : β) : List (κ × β) :=
  match ixk m k with
  | some j => m.set j (((m[j]?).map (·.1)).getD k, y)
  | none => m ++ [(k, y)]
theorem utK_new {m : List (κ × β)} {k : κ} {y : β} (h : ixk m k = none) : utK m k y = m ++ [(k, y)] := by unfold utK; rw [h]
theorem utK_old {m : List (κ × β)} {k : κ} {y : β} {j : Nat} (h : ixk m k = some j) : utK m k y = m.set j (k, y) := by
  unfold utK
  rw [h]
  show m.set j (((m[j]?).map (·.1)).getD k, y) = _
  rw [ixk_key h]
  rfl
theorem ixk_lkp_none {m : List (κ × β)} {k : κ} (h : ixk m k = none) : lkp m k = none := by rw [ixk_lkp, h]; rfl
theorem utK_keys (m : List (κ × β)) (k : κ) (y y0 : β) : (utK m k y).map (·.1) = (sdK m k y0).map (·.1) := by
  cases h : ixk m k with
  | none => rw [utK_new h, sdK_new (ixk_lkp_none h), List.map_append, List.map_append]; rfl
  | some j =>
    have jl := ixk_lt h
    have : lkp m k = some m[j].2 := by rw [ixk_lkp, h]; show (m[j]?).map (·.2) = _; rw [List.getElem?_eq_getElem jl]; rfl
    rw [utK_old h, sdK_old this, List.map_set]
    have q := ixk_key h
    rw [← List.getElem?_map] at q
    apply List.ext_getElem?
    intro i
    rw [List.getElem?_set]
    split
    · rename_i e
      subst e
      rw [q]
      split
      · rfl
      · rename_i n; rw [List.length_map] at n; exact absurd jl n
    · rfl
theorem utK_vals (g : β → γ) (m : List (κ × β)) (k : κ) (y y0 : β) : ((utK m k y).map fun p => g p.2) = ((sdK m k y0).map fun p => g p.2).set (sdI m k) (g y) := by
  unfold sdI
  cases h : ixk m k with
  | none =>
    rw [utK_new h, sdK_new (ixk_lkp_none h), List.map_append, List.map_append]
    show _ = List.set _ m.length _
    rw [List.set_append_right _ _ (by rw [List.length_map]; exact Nat.le_refl _), List.length_map, Nat.sub_self]
    rfl
  | some j =>
    have jl := ixk_lt h
    have : lkp m k = some m[j].2 := by rw [ixk_lkp, h]; show (m[j]?).map (·.2) = _; rw [List.getElem?_eq_getElem jl]; rfl
    rw [utK_old h, sdK_old this, List.map_set]
    rfl
theorem lkp_utK : ∀ (m : List (κ × β)) (k j : κ) (y : β), lkp (utK m k y) j = if j = k then some y else lkp m j
  | [], k, j, y => by
    rw [utK_new rfl]
    by_cases e : j = k
    · rw [if_pos e]; exact lkp_pos (p := (k, y)) e.symm
    · rw [if_neg e]; exact lkp_neg (p := (k, y)) fun z => e z.symm
  | p :: r, k, j, y => by
    have ih := lkp_utK r k j y
    by_cases e : p.1 = k
    · have h : ixk (p :: r) k = some 0 := by unfold ixk; rw [if_pos e]
      rw [utK_old h]
      show lkp ((k, y) :: r) j = _
      by_cases q : j = k
      · rw [if_pos q]; exact lkp_pos (p := (k, y)) q.symm
      · rw [if_neg q, lkp_neg (p := (k, y)) (fun z => q z.symm), lkp_neg (p := p) fun z => q (z.symm.trans e)]
    · have h : utK (p :: r) k y = p :: utK r k y := by
        cases h : ixk r k with
        | none =>
          rw [utK_new h, utK_new (by unfold ixk; rw [if_neg e, h]; rfl)]
          rfl
        | some i =>
          rw [utK_old h, utK_old (j := i + 1) (by unfold ixk; rw [if_neg e, h]; rfl)]
          rfl
      rw [h]
      by_cases q : p.1 = j
      · rw [lkp_pos q, lkp_pos q, if_neg fun z => e (q.trans z)]
      · rw [lkp_neg q, lkp_neg q, ih]
end
structure FQ (X : Cx) (ρ : Slots) (o : O) (R : O → Slots) : Prop where
  run : ∀ (Z0 F Z : Hp) (σ : L2.St) (H : Hp) (T : List Addr), StA X.K ρ Z0 F Z σ H T → ∃ v, Foc X.K Z0 F Z σ H T v o R
section
variable {X : Cx} {ρ ρ' : Slots} {R R' : O → Slots} {e a f : Expr} {d dk : D} {ds : List D} {pos p0 p1 p2 p3 apos cpos dpos : Pos} {i j : Nat} {st : Stmt} {sts : List Stmt} {G : Go} {oo o o' : O} {nm : Str} {C l b : Addr} {ns : List Str} {os : List O} {β : Type} {g : β → O} {k : Key} {ks : List Key} {y0 : β}
theorem fq_var (hi : ρ[i]? = some (some o)) : FQ X ρ o (fun o' => ρ.set i (some o')) := .mk fun Z0 F Z σ H T s => by
  obtain ⟨v, _, f⟩ := s.foc hi
  exact ⟨v, f⟩
theorem FQ.loc (h : FQ X ρ (.loc l o) R) : FQ X ρ o (fun o' => R (.loc l o')) := .mk fun Z0 F Z σ H T s => by
  obtain ⟨v, f⟩ := h.run Z0 F Z σ H T s
  exact ⟨v, f.unloc.2⟩
theorem FQ.fp (h : FQ X ρ (.loc l o) R) : FP X ρ l o (fun o' => R (.loc l o')) := .mk fun Z0 F Z σ H T s => by
  obtain ⟨v, f⟩ := h.run Z0 F Z σ H T s
  have := f.unloc
  rw [← this.1]
  exact this.2
theorem FQ.fld (h : FQ X ρ (.ins C ns os) R) (hd : os[j]? = some o) : FQ X ρ o (fun o' => R (.ins C ns (os.set j o'))) := .mk fun Z0 F Z σ H T s => by
  obtain ⟨v, A, f⟩ := h.run Z0 F Z σ H T s
  obtain ⟨_, _, _, v', _, _, _, _, f'⟩ := f.down hm_ins hd
  exact ⟨v', f'⟩
theorem FQ.it (h : FQ X ρ (.lst os) R) (hd : os[j]? = some o) : FQ X ρ o (fun o' => R (.lst (os.set j o'))) := .mk fun Z0 F Z σ H T s => by
  obtain ⟨v, A, f⟩ := h.run Z0 F Z σ H T s
  obtain ⟨_, _, _, v', _, _, _, _, f'⟩ := f.down hm_lst hd
  exact ⟨v', f'⟩
theorem FQ.enK {kk : List Key} (h : FQ X ρ (.dct kk os) R) (hd : os[j]? = some o) : FQ X ρ o (fun o' => R (.dct kk (os.set j o'))) := .mk fun Z0 F Z σ H T s => by
  obtain ⟨v, A, f⟩ := h.run Z0 F Z σ H T s
  obtain ⟨_, _, _, v', _, _, _, _, f'⟩ := f.down hm_dct hd
  exact ⟨v', f'⟩
theorem FocA.same {K : PySem.W.Frag} {Z0 F Z H : Hp} {σ : L2.St} {T A : List Addr} {v : V} (f : FocA K F Z Z0 σ H T v o R A) (zh : Ex Z H) (hw : RepO K Z F H v o' A) : StR K (R o') Z0 F Z σ H :=
  f.chg (Ex.refl _) (fun _ _ => rfl) zh (fun _ _ _ e => e) hw f.nd fun a m => ⟨.inl m, (f.ds a m).2.1⟩
/-- a mark is forgotten -/
theorem ms_unloc (fq : FQ X ρ (.loc b o) R) (h : MS X (R o) sts G) : MS X ρ sts G := .mk fun Z0 F Z σ H D s g => by
  obtain ⟨T, s⟩ := s.a
  obtain ⟨v, A, f⟩ := fq.run Z0 F Z σ H T s
  refine h.run Z0 F Z σ H D (f.same s.gr.zh ?_) g
  cases f.rp with
  | loc r => exact r
/-- a place gets a name -/
theorem m_aliasP (p : PS X st (tAsg (wE X e) (gName i))) (h : MP X ρ e o ρ' R) (href : o.isRef = true) (kk : ∀ b, G.nx ((R (.loc b o)).set i (some (.pt b)))) (hi : ∀ o', i < (R o').length) : MS1 X ρ st G := .mk fun Z0 F Z σ H D s g => by
  obtain ⟨T, s⟩ := s.a
  refine PS_w p (h.run Z0 F Z σ H T s _ fun v Z1 H1 T1 s1 f => ?_)
  obtain ⟨A, f⟩ := f
  obtain ⟨b, rfl⟩ := f.rp.isRef href
  have st := f.k (w := .ref b) (p := .pt b) (o' := .loc b o) (B := A ++ ([] ++ [])) (Ex.refl _) (fun _ _ => rfl) s1.gr.zh (fun _ _ _ e => e) (.cons (.loc f.rp) (.cons .pt .nil)) (by simpa using f.nd) (fun a m => by
    have m : a ∈ A := by simpa using m
    exact ⟨.inl m, (f.ds a m).2.1⟩)
  exact g.nx _ Z1 _ _ (kk b) (st.take (hi _))
end
end M
namespace L2
open PySem PySem.Spec PyProof.Rows
section
variable {X : Cx} {pins : List (Addr × Obj)} {σ : St} {H : Hp} {s : Shared} {d : Addr} {o : Obj}
end
end L2
namespace M
open PySem L2 PySem.Spec PyProof.Rows
mutual
def O.nt : O → Bool
  | .lst os => O.ntL os
  | .tup _ => false
  | .ins _ _ os => O.ntL os
  | .at _ _ _ os => O.ntL os
  | .loc _ o => o.nt
  | .dct _ os => O.ntL os
  | .dctT _ os => O.ntL os
  | _ => true
def O.ntL : List O → Bool
  | [] => true
  | o :: r => o.nt && O.ntL r
end
section
variable {K : PySem.W.Frag} {Z F H : Hp}
mutual
theorem RepO.nt : ∀ {v : V} {o : O} {A : List Addr}, RepO K Z F H v o A → o.nt = true → ∀ a ∈ A, ∀ xs, H a ≠ some (.tup xs)
  | _, _, _, .fz _, _, _, m => nomatch m
  | _, _, _, .vw _ _, _, _, m => nomatch m
  | _, _, _, .vwa _ _, _, _, m => nomatch m
  | _, _, _, .lk _, _, _, m => nomatch m
  | _, _, _, .pt, _, _, m => nomatch m
  | _, _, _, .tup _ _, n, _, _ => nomatch n
  | _, .loc _ o, _, .loc h, n, a, m => RepO.nt (o := o) h n a m
  | _, _, _, .lst h r, n, a, m => (List.mem_cons.mp m).elim (fun e xs z => by rw [e, h] at z; cases z) fun m => RepOL.nt r n a m
  | _, _, _, .ins h r, n, a, m => (List.mem_cons.mp m).elim (fun e xs z => by rw [e, h] at z; cases z) fun m => RepOL.nt r n a m
  | _, _, _, .at h r, n, a, m => (List.mem_cons.mp m).elim (fun e xs z => by rw [e, h] at z; cases z) fun m => RepOL.nt r n a m
  | _, _, _, .dct h r, n, a, m => (List.mem_cons.mp m).elim (fun e xs z => by rw [e, h] at z; cases z) fun m => RepOL.nt r n a m
  | _, _, _, .dctT h r, n, a, m => (List.mem_cons.mp m).elim (fun e xs z => by rw [e, h] at z; cases z) fun m => RepOL.nt r n a m
theorem RepOL.nt : ∀ {vs : List V} {os : List O} {A : List Addr}, RepOL K Z F H vs os A → O.ntL os = true → ∀ a ∈ A, ∀ xs, H a ≠ some (.tup xs)
  | _, _, _, .nil, _, _, m => nomatch m
  | _, _, _, .cons h r, n, a, m => (List.mem_append.mp m).elim (fun m => RepO.nt h (Bool.and_eq_true_iff.mp n).1 a m) fun m => RepOL.nt r (Bool.and_eq_true_iff.mp n).2 a m
end
theorem StL.nt : ∀ {ρ : Slots} {σ : L2.St} {A : List Addr}, StL K Z F H ρ σ A → (∀ o, some o ∈ ρ → o.nt = true) → ∀ a ∈ A, ∀ xs, H a ≠ some (.tup xs)
  | _, _, _, .nil, _, _, m => nomatch m
  | _, _, _, .no h, n, a, m => h.nt (fun o z => n o (List.mem_cons_of_mem _ z)) a m
  | _, _, _, .so r h, n, a, m => (List.mem_append.mp m).elim (fun m => r.nt (n _ List.mem_cons_self) a m) fun m => h.nt (fun o z => n o (List.mem_cons_of_mem _ z)) a m
end
class Nt (o : O) : Prop where
  nt : o.nt = true
class NtL (os : List O) : Prop where
  nt : O.ntL os = true
instance {d : D} : Nt (.fz d) := ⟨rfl⟩
instance {o : O} : Nt (.lk o) := ⟨rfl⟩
instance {ds : List D} : Nt (.vw ds) := ⟨rfl⟩
instance {a : Addr} {ds : List D} : Nt (.vwa a ds) := ⟨rfl⟩
instance {a : Addr} : Nt (.pt a) := ⟨rfl⟩
instance {a : Addr} {o : O} [h : Nt o] : Nt (.loc a o) := ⟨h.nt⟩
instance : NtL [] := ⟨rfl⟩
instance {o : O} {os : List O} [h : Nt o] [t : NtL os] : NtL (o :: os) := ⟨by show (o.nt && O.ntL os) = true; rw [h.nt, t.nt]; rfl⟩
instance (priority := low) {β : Type} {g : β → O} {xs : List β} [h : ∀ x, Nt (g x)] : NtL (xs.map g) := ⟨by
  induction xs with
  | nil => rfl
  | cons x r ih => show ((g x).nt && O.ntL (r.map g)) = true; rw [(h x).nt, ih]; rfl⟩
instance {os : List O} [h : NtL os] : Nt (.lst os) := ⟨h.nt⟩
instance {C : Addr} {ns : List Str} {os : List O} [h : NtL os] : Nt (.ins C ns os) := ⟨h.nt⟩
instance {a C : Addr} {ns : List Str} {os : List O} [h : NtL os] : Nt (.at a C ns os) := ⟨h.nt⟩
instance {ks : List Key} {os : List O} [h : NtL os] : Nt (.dct ks os) := ⟨h.nt⟩
instance {ks : List (List Key)} {os : List O} [h : NtL os] : Nt (.dctT ks os) := ⟨h.nt⟩
class NtS (ρ : Slots) : Prop where
  nt : ∀ o, some o ∈ ρ → o.nt = true
instance : NtS [] := ⟨fun _ m => nomatch m⟩
instance {ρ : Slots} [t : NtS ρ] : NtS (none :: ρ) := ⟨fun o m => (List.mem_cons.mp m).elim (fun z => nomatch z) (t.nt o)⟩
instance {o : O} {ρ : Slots} [h : Nt o] [t : NtS ρ] : NtS (some o :: ρ) := ⟨fun o m => (List.mem_cons.mp m).elim (fun z => by cases z; exact h.nt) (t.nt o)⟩
section
variable {K : PySem.W.Frag} {Z0 F Z H : Hp} {ρ τ : Slots} {σ : L2.St} {i : Nat} {l d : Addr} {o : O} {u lu : HO} {qs : List Addr}
def lkF (F H : Hp) (B qs : List Addr) (d : Addr) (lu : HO) : Hp := fun a => if a = d then some lu else if a ∈ B ∨ a ∈ qs then H a else F a
theorem lkF_d {B : List Addr} : lkF F H B qs d lu d = some lu := if_pos rfl
theorem lkF_in {B : List Addr} {a : Addr} (h : a ≠ d) (m : a ∈ B ∨ a ∈ qs) : lkF F H B qs d lu a = H a := by unfold lkF; rw [if_neg h, if_pos m]
theorem lkF_out {B : List Addr} {a : Addr} (h : a ≠ d) (m : ¬ (a ∈ B ∨ a ∈ qs)) : lkF F H B qs d lu a = F a := by unfold lkF; rw [if_neg h, if_neg m]
theorem locked (s : StR K ρ Z0 F Z σ H) (hi : ρ[i]? = some (some (.loc l o))) (nt : ∀ o, some o ∈ ρ → o.nt = true) : σ[i]? = some (some (.ref l)) ∧ ∃ B, RepO K Z F H (.ref l) o B ∧ B.Nodup ∧ (∀ a ∈ B, Z a = none ∧ F a = none) ∧
    ∀ {d : Addr} {u lu : HO} {qs : List Addr}, d ∈ B → H d = some u → (∀ q ∈ qs, ∃ xs, H q = some (.tup xs)) →
      Ex F (lkF F H B qs d lu) ∧ StR K (ρ.set i (some (.pt l))) Z (lkF F H B qs d lu) Z σ (upd H d lu) ∧
      ∀ {τ : Slots} {Zn Hn : Hp} {σn : L2.St}, StR K τ Z (lkF F H B qs d lu) Zn σn Hn → τ[i]? = some (some (.pt l)) → Kp (ρ.set i (some (.pt l))) τ → o.nv = true → StR K (τ.set i (some (.loc l o))) Z0 F Zn σn (upd Hn d u) := by
  obtain ⟨A, h1, h2, h3⟩ := s.st
  obtain ⟨v, B, q1, q2, q3, q4, q5⟩ := h1.at hi h2
  have ev : v = .ref l := by cases q2 with | loc _ => rfl
  subst ev
  have r0 : RepO K Z F H (.ref l) o B := by cases q2 with | loc r => exact r
  refine ⟨q1, B, r0, q3, fun a m => h3 a (q4 a m), fun {d u lu qs} hd hu hq => ?_⟩
  generalize eF : lkF F H B qs d lu = F1
  have zd : Z d = none := (h3 d (q4 d hd)).1
  have fd : F d = none := (h3 d (q4 d hd)).2
  have F1d : F1 d = some lu := by rw [← eF]; exact lkF_d
  have F1i : ∀ a, a ≠ d → (a ∈ B ∨ a ∈ qs) → F1 a = H a := fun a n m => by rw [← eF]; exact lkF_in n m
  have F1o : ∀ a, a ≠ d → ¬ (a ∈ B ∨ a ∈ qs) → F1 a = F a := fun a n m => by rw [← eF]; exact lkF_out n m
  have ef : Ex F F1 := fun a w e => by
    have n : a ≠ d := fun z => by rw [z, fd] at e; cases e
    by_cases m : a ∈ B ∨ a ∈ qs
    · rw [F1i a n m]; exact s.gr.hh a w e
    · rw [F1o a n m]; exact e
  have eh : Ex F1 (upd H d lu) := fun a w e => by
    by_cases n : a = d
    · subst n
      rw [F1d] at e
      rw [upd_same]; exact e
    · rw [upd_ne n]
      by_cases m : a ∈ B ∨ a ∈ qs
      · rw [F1i a n m] at e; exact e
      · rw [F1o a n m] at e; exact s.gr.hh a w e
  have zh : Ex Z (upd H d lu) := fun a w e => by
    rw [upd_ne fun z => by rw [z, zd] at e; cases e]
    exact s.gr.zh a w e
  obtain ⟨A', t1, t2, t3⟩ := q5 (Z' := Z) (H' := upd H d lu) (v' := .ref l) (o' := .pt l) (B' := []) (Ex.refl _) (fun a m nb w e => by
    rw [upd_ne (show a ≠ d from fun z => nb (by rw [z]; exact hd))]; exact e) .pt List.nodup_nil fun _ m => nomatch m
  rw [set_same q1] at t1
  have ntA : ∀ a ∈ A, ∀ xs, H a ≠ some (.tup xs) := h1.nt nt
  have F1A : ∀ a ∈ A, a ∉ B → F1 a = none := fun a m nb => by
    have n : a ≠ d := fun z => nb (by rw [z]; exact hd)
    have nm : ¬ (a ∈ B ∨ a ∈ qs) := fun z => z.elim nb fun z => by
      obtain ⟨xs, e⟩ := hq a z
      exact ntA a m xs e
    rw [F1o a n nm]; exact (h3 a m).2
  refine ⟨ef, ⟨⟨Ex.refl _, eh, zh, fun _ _ _ => rfl⟩, A', t1.monoF ef, t2, fun a m => ?_⟩, fun {τ Zn Hn σn} sn hp hk hv => ?_⟩
  · rcases t3 a m with z | z
    · exact ⟨(h3 a z.1).1, F1A a z.1 z.2⟩
    · exact nomatch z
  · obtain ⟨An, l1, l2, l3⟩ := sn.st
    obtain ⟨w, Bn, u1, u2, u3, u4, u5⟩ := l1.at hp l2
    have ew : w = .ref l := by cases u2; rfl
    subst ew
    have nd : ∀ a ∈ An, a ≠ d := fun a m z => by rw [z] at m; rw [(l3 d m).2] at F1d; cases F1d
    have HnB : ∀ a ∈ B, a ≠ d → Hn a = H a := fun a m n => by
      obtain ⟨w, e⟩ := r0.there a m
      rw [e]
      exact sn.gr.hh a w (by rw [F1i a n (.inl m)]; exact e)
    have rB : RepO K Zn F (upd Hn d u) (.ref l) (.loc l o) B := .loc (r0.mono sn.gr.zz (Ex.refl _) fun a m w e => by
      by_cases n : a = d
      · subst n
        rw [hu] at e
        rw [upd_same]; exact e
      · rw [upd_ne n, HnB a m n]; exact e)
    have ZnB : ∀ a ∈ B, Zn a = none := fun a m => by
      have : ∃ w, F1 a = some w := by
        by_cases n : a = d
        · exact ⟨_, by rw [n]; exact F1d⟩
        · obtain ⟨w, e⟩ := r0.there a m
          exact ⟨w, by rw [F1i a n (.inl m)]; exact e⟩
      obtain ⟨w, e⟩ := this
      rw [sn.gr.nw a w e]
      exact (h3 a (q4 a m)).1
    have l1' : StL K Zn F1 (upd Hn d u) τ σn An := l1.mono (Ex.refl _) fun a m w e => by rw [upd_ne (nd a m)]; exact e
    have l2' : StL K Zn F (upd Hn d u) τ σn An := StL.kp ef sn.gr.zz hk t1 (by
      exact l1')
    obtain ⟨w2, Bn2, y1, y2, y3, y4, y5⟩ := l2'.at hp l2
    have eB2 : Bn2 = [] := by cases y2; rfl
    subst eB2
    have BA : ∀ a ∈ B, a ∉ An := fun a m z => by
      have := (l3 a z).2
      by_cases n : a = d
      · rw [n, F1d] at this; cases this
      · obtain ⟨w, e⟩ := r0.there a m
        rw [F1i a n (.inl m), e] at this; cases this
    obtain ⟨A2, x1, x2, x3⟩ := y5 (Z' := Zn) (H' := upd Hn d u) (v' := .ref l) (o' := .loc l o) (B' := B) (Ex.refl _) (fun _ _ _ _ e => e) rB q3 fun a m z => absurd z (BA a m)
    rw [set_same u1] at x1
    have znd : Zn d = none := ZnB d hd
    refine ⟨⟨s.gr.zz.trans sn.gr.zz, fun a w e => ?_, fun a w e => ?_, fun a w e => (sn.gr.nw a w (ef a w e)).trans (s.gr.nw a w e)⟩, A2, x1, x2, fun a m => ?_⟩
    · rw [upd_ne fun z => by rw [z, fd] at e; cases e]
      exact sn.gr.hh a w (ef a w e)
    · rw [upd_ne fun z => by rw [z, znd] at e; cases e]
      exact sn.gr.zh a w e
    · rcases x3 a m with z | z
      · refine ⟨(l3 a z.1).1, ?_⟩
        have n := nd a z.1
        have := (l3 a z.1).2
        by_cases mm : a ∈ B ∨ a ∈ qs
        · cases e : F a with
          | none => rfl
          | some w =>
            have := ef a w e
            rw [(l3 a z.1).2] at this
            cases this
        · rw [F1o a n mm] at this; exact this
      · exact ⟨ZnB a z, (h3 a (q4 a z)).2⟩
end
end M
namespace M
open PySem L2 PySem.Spec PyProof.Rows
section
variable {X : Cx} {ρ : Slots} {e : Expr} {st : Stmt} {G : Go} {o : O} {pos p0 p1 p2 : Pos} {i i1 i2 j : Nat} {nm x : Str} {C l : Addr} {ns : List Str} {os : List O} {β V : Type} {g : β → O}
end
end M
namespace M
open PySem PySem.Spec PyProof.Rows
/-- each text once, in the order of their first coming -/
def dd1 (σ : List Str) (x : Str) : List Str := if σ.any (· == x) = true then σ else σ ++ [x]
def dd (xs : List Str) : List Str := xs.foldl dd1 []
theorem dd_snoc (xs : List Str) (x : Str) : dd (xs ++ [x]) = dd1 (dd xs) x := by unfold dd; rw [List.foldl_append]; rfl
theorem dd1_len (σ : List Str) (x : Str) : (dd1 σ x).length = if σ.any (· == x) = true then σ.length else σ.length + 1 := by
  unfold dd1; split <;> simp
theorem dd1_any (σ : List Str) (x k : Str) : (dd1 σ x).any (· == k) = (σ.any (· == k) || decide (k = x)) := by
  unfold dd1
  split
  · rename_i h
    by_cases e : k = x
    · rw [e, h]; rfl
    · rw [decide_eq_false e, Bool.or_false]
  · rw [List.any_append]
    congr 1
    rw [List.any_cons, List.any_nil, Bool.or_false]
    by_cases e : k = x
    · rw [e, beq_self_eq_true, decide_eq_true rfl]
    · rw [decide_eq_false e]
      exact beq_eq_false_iff_ne.mpr fun z => e z.symm
theorem dd_le (xs : List Str) : (dd xs).length ≤ xs.length := by
  have : ∀ (ys σ : List Str), (ys.foldl dd1 σ).length ≤ σ.length + ys.length := by
    intro ys
    induction ys with
    | nil => intro σ; exact Nat.le_refl _
    | cons y r ih =>
      intro σ
      refine Nat.le_trans (ih _) ?_
      rw [dd1_len, List.length_cons]
      split <;> omega
  have := this xs []
  rw [List.length_nil, Nat.zero_add] at this
  exact this
section
variable {prog : Program} {w : World} {A : Around}
/-- the loop that lays a walk's texts into a set -/
theorem set_loop {R : Result → Shared → Prop} {it S : Addr} {fp wr : List Addr} {g : Array GenState → Array GenState → Prop} {P : Nat → Value → Prop} {St : Nat → Shared → Prop} {xs : List Str} (W : WalksS prog w A.in1 it fp wr g xs.length P St) (sf : S ∉ fp) (hb : xs.length + 1 < scanBound)
    (hv : ∀ i v, P i v → ∃ y t, xs[i]? = some y ∧ v = .str y t) : ∀ (todo done : List Str) (s : Shared), xs = done ++ todo → St done.length s → s.heap.SetOf (strKind prog w) S (fun q => (dd done).any (· == q)) (dd done).length →
      (∀ s', Moved (S :: wr) g s s' → s'.heap.SetOf (strKind prog w) S (fun q => (dd xs).any (· == q)) (dd xs).length → R (.ok (.ret .none)) s') → codeAny (model prog w) A (.builtin "set.update.loop" ⟨[.ref S, .ref it], []⟩) R s
  | [], done, s, e, hs, hS, k => by
    rw [List.append_nil] at e
    subst e
    refine codeAny_builtin F.entry_set_update_loop ?_
    rw [Around.under_plainId F.plain_set_update_loop _]
    refine wpAny_bind (W.done s _ _ hs fun s' mv => ?_)
    refine wpAny_pure (k s' (mv.mono fun b m => List.mem_cons_of_mem _ m) ?_)
    obtain ⟨o, es, ep, tb, ho, r⟩ := hS
    exact ⟨o, es, ep, tb, mv.heap S _ (fun z => sf (W.sub _ z)) ho, r⟩
  | y :: todo, done, s, e, hs, hS, k => by
    have hy : xs[done.length]? = some y := by rw [e, List.getElem?_append_right (Nat.le_refl _), Nat.sub_self]; rfl
    have hl : done.length < xs.length := (List.getElem?_eq_some_iff.mp hy).1
    refine codeAny_builtin F.entry_set_update_loop ?_
    rw [Around.under_plainId F.plain_set_update_loop _]
    refine wpAny_bind (W.item done.length s _ _ hl hs fun v s' hP hs' mv => ?_)
    obtain ⟨y', t, ey, rfl⟩ := hv _ v hP
    rw [hy] at ey
    cases ey
    have hS' : s'.heap.SetOf (strKind prog w) S (fun q => (dd done).any (· == q)) (dd done).length := by
      obtain ⟨o, es, ep, tb, ho, r⟩ := hS
      exact ⟨o, es, ep, tb, mv.heap S _ (fun z => sf (W.sub _ z)) ho, r⟩
    refine wpAny_bind (wpAny_holding ?_)
    unfold setAdd
    refine wpAny_holding (wpAny_bind ((strKind prog w).pyHash (k := y) (strKind_is _ _ _ _) ?_))
    have room : (dd done).length + 1 < scanBound := by have := dd_le done; omega
    refine wpAny_setAddHashed_of (knd := strKind prog w) (s := { s' with toks := s'.toks + 1 }) (strKind_is _ _ _ _) rfl hS' room fun h' sb hS2 => ?_
    refine wpAny_pure ⟨plainId_quiet F.plain_set_update_loop _, set_loop W sf hb hv todo (done ++ [y]) _ (by rw [e, List.append_assoc]; rfl) ?_ (SetOf_congr hS2 (fun q => by rw [dd_snoc, dd1_any]) (by rw [dd_snoc, dd1_len])) fun s2 mv2 hS3 => ?_⟩
    · rw [List.length_append]
      exact W.frame _ s' _ _ hs' (Nat.le_succ _) fun b m o ho => by
        rw [sb.2 b fun z => sf (by rw [← z]; exact m)]; exact ho
    · exact k s2 (Moved.trans W.gtrans ((mv.mono fun b m => List.mem_cons_of_mem _ m).then_heap (Nat.le_succ _) fun b o m ho => by
        rw [sb.2 b fun z => m (by rw [z]; exact List.mem_cons_self)]; exact ho) mv2) hS3
set_option maxHeartbeats 3200000 in
/-- set(l) of a list of texts -/
theorem set_strs {E : Value → Shared → Prop} {s : Shared} {l : Addr} {its : Array Value} {xs : List Str} {Q : Value → Shared → Prop} (calm : A.handled = none) (il : s.heap.IsList l its) (hx : StrsAre its.toList xs) (hb : xs.length + 1 < scanBound)
    (k : ∀ (h' : Heap) (tk : Nat), h'.SetOf (strKind prog w) s.heap.objs.size (fun q => (dd xs).any (· == q)) (dd xs).length → (∀ b o, b < s.heap.objs.size → s.heap.get? b = some o → h'.get? b = some o) → Q (.ref s.heap.objs.size) { s with heap := h', toks := tk }) :
    wpAny (model prog w) A (call (.type "set") [.ref l]) Q E s := by
  obtain ⟨c, tl, hmro⟩ := F.called_set.mro
  have f1 := F.called_set.made
  have f2 := F.called_set.sub
  have f3 := F.called_set.notType
  have f4 := F.called_set.canCreate
  have f5 := F.typeCall_set_1 (.ref l)
  refine wpAny_call (codeAny_of_tree (show wpAny _ _ (callAny (.type "set") _) _ _ _ from wpAny_pure ⟨Code.quiet_builtin _ (by decide +kernel), codeAny_builtin F.entry_type_call ?_⟩))
  rw [Around.under_plain (weight_type_call_type "set" [.ref l] []) rfl]
  repeat (any_goals (first | assumption | wp_step))
  generalize eN : s.heap.objs.size = N at k
  refine codeAny_mono (code_set_new_1 (.ref l) (E := E) (Q₁ := fun ob s1 => ∃ led : Bool, ob = .ref N ∧ s1 = { s with heap := s.heap.push { cls := .type "set", dict := none, data := .set #[] 0 (.fresh 0 0 led) } }) fun led => ⟨led, by rw [eN], rfl⟩) fun r s1 hr => ?_
  rcases r with e | fl
  · exact hr
  · rcases fl with _ | _ | _ | ob
    all_goals first | exact hr.elim | skip
    obtain ⟨led, rfl, rfl⟩ := hr
    generalize eO : ({ cls := .type "set", dict := none, data := .set #[] 0 (.fresh 0 0 led) } : Obj) = ns
    have gN : (s.heap.push ns).get? N = some ns := by rw [← eN]; exact Heap.get?_push_size _ (by rw [← eO]; rfl)
    have tN : Shared.TypeIs { s with heap := s.heap.push ns } (.ref N) "set" := ⟨_, gN, by rw [← eO]⟩
    have f6 := F.called_set.init.lookup
    have f7 := F.called_set.init.bind (.ref N)
    repeat (any_goals (first | assumption | wp_step))
    refine codeAny_mono (codeAny_call_builtin (R := wants (fun r s2 => r = .none ∧ ∃ h' tk, s2 = { s with heap := h', toks := tk } ∧ h'.SetOf (strKind prog w) N (fun q => (dd xs).any (· == q)) (dd xs).length ∧ ∀ b o, b < N → s.heap.get? b = some o → h'.get? b = some o) E)
      F.called_set.init.plain F.entry_set_init (check_set_init_1 tN ?_)) fun r2 s2 h2 => ?_
    · obtain ⟨ol, hol, hc, nl, hd⟩ := il
      obtain ⟨oc, od, oa, os⟩ := ol
      simp only at hc hd
      subst hc hd
      have gl : (s.heap.push ns).get? l = some { cls := .type "list", dict := od, data := .seq its nl, slots := os } := Heap.get?_push_of_some _ hol
      have f8 := F.sub_list_set
      have f9 := F.sub_list_frozenset
      have f10 : (Value.type "list" == Value.type "dict") = false := by decide
      have ll : (s.heap.push ns).IsList l its := ⟨_, gl, rfl, nl, rfl⟩
      have ln : l < N := by rw [← eN]; exact Heap.lt_size hol
      have sz : (s.heap.push ns).objs.size = N + 1 := by rw [Heap.size_push, eN]
      have nI : l ≠ (s.heap.push ns).objs.size := by rw [sz]; exact Nat.ne_of_lt (Nat.lt_succ_of_lt ln)
      have sf : N ∉ [(s.heap.push ns).objs.size, l] := by
        rw [sz]
        intro m
        rcases List.mem_cons.mp m with z | z
        · exact absurd z (Nat.ne_of_lt (Nat.lt_succ_self _))
        · exact absurd (List.mem_singleton.mp z) (Nat.ne_of_gt ln)
      subst eO
      unfold Builtin.«set.__init__» noKeywords Builtin.Frozenset.updateFrom
      generalize hPI : pyIter = PI
      wp_walk
      subst hPI
      refine wpAny_pyIter_list ll ?_
      refine wpAny_bind (wpAny_runValue ?_)
      have lx : its.size = xs.length := by rw [← StrsAre.len_eq hx, Array.length_toList]
      have c3 : A.in1.in1.in1.handled = none := by simp [calm]
      have Wk := (Walks.list (prog := prog) (w := w) c3 _ l nI its).toS
      rw [lx] at Wk
      refine set_loop (xs := xs) Wk sf hb (fun i v e => ?_) xs [] _ rfl ⟨⟨_, Heap.get?_push_size _ rfl, rfl, rfl⟩, ll.push _⟩ ?_ fun s' mv hS' => ?_
      · have e : its[i]? = some v := e
        obtain ⟨t, ev⟩ := SS.strs_at hx i v (by rw [Array.getElem?_toList]; exact e)
        have il : i < xs.length := by have := (Array.getElem?_eq_some_iff.mp e).1; omega
        exact ⟨xs[i], t, List.getElem?_eq_getElem il, by rw [ev, List.getD_eq_getElem?_getD, List.getElem?_eq_getElem il]; rfl⟩
      · have g2 : ((s.heap.push { cls := .type "set", dict := none, data := .set #[] 0 (.fresh 0 0 led) }).push { cls := .type "list_iterator", data := .fields #[.ref l, .int 0 0] }).get? N = some { cls := .type "set", dict := none, data := .set #[] 0 (.fresh 0 0 led) } := Heap.get?_push_of_some _ gN
        exact SetOf_congr ((setObjOf_fresh (knd := strKind prog w) led).setOf g2 (by unfold scanBound; omega)) (fun _ => rfl) rfl
      · obtain ⟨h', g', d', tk', os'⟩ := s'
        have e1 : g' = s.gens := mv.gens
        have e2 : d' = s.drawn := mv.drawn
        have e3 : os' = s.os := mv.os
        subst e1 e2 e3
        refine wpAny_pure (wpAny_pure ⟨rfl, h', tk', rfl, hS', fun b o hl ho => ?_⟩)
        refine mv.heap b o (fun m => ?_) (Heap.get?_push_of_some _ (Heap.get?_push_of_some _ ho))
        rcases List.mem_cons.mp m with z | z
        · exact absurd z (Nat.ne_of_lt hl)
        · have := List.mem_singleton.mp z
          rw [sz] at this
          exact absurd this (Nat.ne_of_lt (Nat.lt_succ_of_lt hl))
    · rcases r2 with e2 | fl2
      · exact h2
      · rcases fl2 with _ | _ | _ | r3
        all_goals first | exact h2.elim | skip
        obtain ⟨rfl, h', tk, rfl, hS', hk'⟩ := h2
        repeat (any_goals (first | assumption | wp_step))
        exact k _ _ hS' hk'
end
end M
namespace M
open PySem L2 PySem.Spec PyProof.Rows
section
variable {X : Cx} {ρ : Slots} {e : Expr} {p p2 q pos : Pos}
theorem StrsOf : ∀ {ys : List Str} {us : List Value}, L2.Vals (ys.map L2.V.str) us → StrsAre us ys
  | [], _, .nil => .nil
  | y :: ys, _, .cons r t => by
    obtain ⟨k, rfl⟩ := r
    exact .cons y k (StrsOf t)
/-- len(set(e)), e a list of texts -/
theorem me_lenSet {xs : List Str} (hc : X.calm = true) (hg : L2.Gl X "len") (hm : X.mg "len" = none) (hg2 : L2.Gl X "set") (hm2 : X.mg "set" = none) (ha : ML X ρ e (xs.map .str)) (hb : xs.length + 1 < scanBound)
    (na : starEach [e] X.env = (false, eval e X.env) :: starEach [] X.env := by rfl) : ME X ρ (.Call (.Name "len" p) [.Call (.Name "set" p2) [e] [] q] [] pos) (.fz (.int (dd xs).length)) := .mk fun Z0 F Z σ H s Q qq => by
  refine PE_w (t := fun σ H Q => wE X e σ H fun x H1 => ∃ l, x = .ref l ∧ L2.SqL X.K H1 l (xs.map L2.V.str) ∧ Q (.int (dd xs).length) H1) ⟨fun pins s σ H Q I h => ?_⟩ (ha.run Z0 F Z σ H s _ fun a vs Z1 H1 g1 l1 r1 => ?_)
  · refine Call_ (ld_blt I hg hm boot_len ?_)
    refine callWith_builtin1 (args_cons ?_ rfl) rfl rfl
    refine Call_ (ld_blt I hg2 hm2 boot_set ?_)
    refine callWith_type1 (args_cons (L2.thn (h pins s I) fun v s1 ⟨x, H1, I1, r1, l, ex, hq, q1⟩ => args_nil ?_) na) na rfl
    subst ex
    cases r1
    obtain ⟨its, r, pl, hz⟩ := I1.list hq
    refine set_strs (I1.ok.hd hc) pl.isList (by simpa using StrsOf r) hb fun h' tk hS hk => args_nil ?_
    obtain ⟨o, es, ep, t, ho, hex, hd, _, _, _, hf, hn⟩ := hS
    have I2 : L2.Inv X pins σ H1 { s1 with heap := h', toks := tk } := I1.kept fun b o e => hk b o (Heap.lt_size e) e
    have := dd_le xs
    exact call_len_set ho hex hd hf (by rw [hn]; have : scanBound = 4096 := rfl; omega) ⟨.int (dd xs).length, H1, I2.tok _, ⟨_, by rw [hn]⟩, q1⟩
  · have e := r1.strs
    subst e
    exact ⟨a, rfl, l1, qq _ Z1 H1 [] g1 (.fz (.int _)) .nil⟩
end
end M
namespace M
open PySem L2 PySem.Spec PyProof.Rows
section
variable {X : Cx} {ρ ρ' : Slots} {R R' : O → Slots} {e a b c f : Expr} {es : List Expr} {d d1 dk : D} {ds : List D} {pos p0 p1 p2 p3 p4 : Pos} {i j : Nat} {st : Stmt} {sts : List Stmt} {G : Go} {o o' : O} {nm : Str} {C l : Addr} {ns : List Str} {os : List O} {β : Type} {g : β → O} {enc : β → D} {k : Key} {ks : List Key} {y1 : β} {n : Int}
end
end M
namespace M
open PySem L2 PySem.Spec PyProof.Rows
section
variable {X : Cx} {ρ ρ' : Slots} {R R' : O → Slots} {e a b c f : Expr} {es : List Expr} {d d1 dk : D} {ds : List D} {pos p0 p1 p2 p3 p4 : Pos} {i j : Nat} {st : Stmt} {sts : List Stmt} {G : Go} {o o' : O} {nm x : Str} {C l : Addr} {ns : List Str} {os : List O} {β : Type} {g : β → O} {enc : β → D}
end
end M
namespace M
open PySem L2
end M
namespace M
open PySem L2
section
variable {X : Cx} {ρ : Slots} {a b : Expr} {ds es : List D} {pos p2 : Pos} {lo hi : Option Expr} {li hj : Option Int}
end
end M
namespace M
open PySem L2
section
variable {X : Cx} {ρ : Slots} {a c : Expr} {pos po p0 : Pos} {G : Go}
end
end M
namespace M
open PySem L2 PySem.Spec PyProof.Rows
structure Mt1E (P : Program) (w : World) (K : PySem.W.Frag) (mg : Str → Option Value) (base : Heap) (C : Addr) (m : Str) (k : Nat) (ps : List Str) (sp : Sp) : Prop where
  ex : ∃ (f : Addr) (fd : FuncData), Meth K C m f ∧ Binds K fd ps [] ∧ FnOk P w K mg base (L2.CX P w) k f fd ps sp
theorem Mt1E.ok {P : Program} {w : World} {K : PySem.W.Frag} {mg : Str → Option Value} {base : Heap} {C : Addr} {m : Str} {k : Nat} {ps : List Str} {α : Type} {ar : α → List O} {pre : α → Prop} {res : α → O} (c : Mt1E P w K mg base C m k ps (SpE K ar pre res)) : Mt1 P w K mg base C m k ps (SpM K ar (fun x => pre x ∧ ∀ e, res x ≠ .rs e) res) := by
  obtain ⟨f, fd, hm, hb, F⟩ := c.ex
  exact ⟨f, fd, hm, hb, F.known fun vs H Q E ⟨x, Z, ez, r, ⟨hp, hn⟩, q⟩ => ⟨x, Z, ez, r, hp, q, fun e _ _ z => absurd z (hn e)⟩⟩
section
variable {X : Cx} {ρ : Slots} {a e : Expr} {es : List Expr} {pos p1 : Pos} {nm : Str} {C : Addr} {ns : List Str} {ds : List D} {er : Er}
end
section
variable {X : Cx} {ρ : Slots} {a b : Expr} {pos : Pos} {o : O} {β : Type} {enc : β → D} {xs : List β}
end
end M
namespace M
open PySem L2 PySem.Spec PyProof.Rows
/-- the items at ks -/
inductive AtAll (xs : List V) : List Int → List V → Prop
  | nil : AtAll xs [] []
  | cons {k : Int} {z : V} {ks : List Int} {zs : List V} (h : atI xs k = some z) (t : AtAll xs ks zs) : AtAll xs (k :: ks) (z :: zs)
section
variable {X : Cx} {pins : List (Addr × Obj)} {σ : L2.St} {H : Hp} {s : Shared} {x : Str} {i : Nat} {p : Addr} {xs : List V} {E : Value → Shared → Prop}
end
section
variable {β : Type} {K : PySem.W.Frag} {Z : Hp} {enc : β → D}
/-- the ints at ks -/
inductive AtInts (ds : List D) : List Int → List Int → Prop
  | nil : AtInts ds [] []
  | cons {k z : Int} {ks zs : List Int} (h : atI ds k = some (.int z)) (t : AtInts ds ks zs) : AtInts ds (k :: ks) (z :: zs)
theorem AtInts.all {ds : List D} {xs : List V} (r : RepL K Z xs ds) : ∀ {ks zs : List Int}, AtInts ds ks zs → AtAll xs ks (zs.map V.int)
  | _, _, .nil => .nil
  | _, _, .cons h t => by
    obtain ⟨v, e, rv⟩ := r.atI h
    cases rv
    exact .cons e (t.all r)
theorem AtInts.len {ds : List D} : ∀ {ks zs : List Int}, AtInts ds ks zs → zs.length = ks.length
  | _, _, .nil => rfl
  | _, _, .cons _ t => congrArg (· + 1) t.len
end
section
variable {X : Cx} {ρ : Slots} {a : Expr} {pos p0 p1 p2 : Pos} {β : Type} {enc : β → D} {bs : List β} {k0 : β → Int} {kr : β → List Int} {f : Addr} {ks : List Int} {nm : Str}
end
end M
namespace M
open PySem L2 PySem.Spec PyProof.Rows
structure MXF (X : Cx) (ρ : Slots) (e : Expr) (d : D) (ρ' : Slots) : Prop where
  run : ∀ (Z0 F Z : Hp) (σ : L2.St) (H : Hp), StR X.K ρ Z0 F Z σ H → ∀ Q : VK, (∀ v Z' H', StR X.K ρ' Z0 F Z' σ H' → Ex Z Z' → Rep X.K Z' v d → Q v H') → wE X e σ H Q
/-- a test, the slots behind it -/
structure MTX (X : Cx) (ρ : Slots) (e : Expr) (k : Bool) (ρ' : Slots) : Prop where
  run : ∀ (Z0 F Z : Hp) (σ : L2.St) (H : Hp), StR X.K ρ Z0 F Z σ H → ∀ Q : Bool → Hp → Prop, (∀ Z' H', StR X.K ρ' Z0 F Z' σ H' → Q k H') → wT X e σ H Q
/-- frozen ones for parameters that are looked at -/
inductive ArF : List D → List O → Prop
  | nil : ArF [] []
  | fz {d : D} {ds : List D} {os : List O} : ArF ds os → ArF (d :: ds) (.fz d :: os)
  | vw {xs ds : List D} {os : List O} : ArF ds os → ArF (.lst xs :: ds) (.vw xs :: os)
theorem ArF.rep {K : PySem.W.Frag} {Z H : Hp} (zh : Ex Z H) : ∀ {vs : List V} {ds : List D} {os : List O}, RepL K Z vs ds → ArF ds os → RepOL K Z H H vs os []
  | _, _, _, .nil, .nil => .nil
  | _, _, _, .cons h r, .fz t => .cons (A := []) (.fz h) (t.rep zh r)
  | _, _, _, .cons h r, .vw t => by
    cases h with
    | lst a b => exact .cons (A := []) (.vw (ex_l zh a) b) (t.rep zh r)
section
variable {X : Cx} {ρ ρ' ρ1 ρ2 : Slots} {R : O → Slots} {e f a b c : Expr} {es rest : List Expr} {d d1 d2 dk : D} {ds ds2 : List D} {pos p0 p1 p2 p3 p4 : Pos} {i j : Nat} {st : Stmt} {sts : List Stmt} {G : Go} {o o' o2 : O} {nm nx1 : Str} {C l : Addr} {ns : List Str} {os : List O} {k : Bool} {P1 P0 : Slots → Prop} {P : D → Slots → Prop}
theorem MXF.is (h : MXF X ρ e d ρ') (q : d = d2) : MXF X ρ e d2 ρ' := q ▸ h
theorem MTX.is {l : Bool} (h : MTX X ρ e k ρ') (q : k = l) : MTX X ρ e l ρ' := q ▸ h
end
end M
namespace M
open PySem L2 PySem.Spec PyProof.Rows
section
variable {X : Cx} {ρ ρ' : Slots} {e : Expr} {ds : List D} {st : Stmt} {G : Go} {α V R : Type}
end
section
variable {X : Cx} {ρ : Slots} {st : Stmt} {G : Go} {o : O} {i : Nat} {l : Addr}
end
section
variable {X : Cx} {ρ : Slots} {a b : Expr} {ns ms : List Int} {pos : Pos}
end
end M
namespace M
open PySem L2 PySem.Spec PyProof.Rows
section
variable {X : Cx} {ρ : Slots} {a : Expr} {pos p0 p1 p2 : Pos} {β : Type} {enc : β → D} {bs : List β} {k0 : β → Int} {kr : β → List Int} {ks : List Int} {nm : Str}
end
end M
namespace M
open PySem L2 PySem.Spec PyProof.Rows
section
variable {X : Cx} {ρ : Slots} {e o : Expr} {pos : Pos} {dk : D} {ds : List D} {k : Key} {ks : List Key} {β : Type} {g : β → O}
end
end M
namespace M
open PySem L2 PySem.Spec PyProof.Rows
section
variable {X : Cx} {ρ : Slots} {st : Stmt} {G : Go} {o : O} {i i1 : Nat} {l : Addr} {e : Expr} {β V R : Type}
end
section
variable {X : Cx} {ρ : Slots} {R : O → Slots} {e a b : Expr} {pos : Pos} {β : Type} {xs : List β} {g : β → O} {j i : Nat} {y n : β} {k : Int} {o : O}
end
end M
namespace M
open PySem PySem.Spec PyProof.Rows L2
section
variable {P : Program} {w : World} {A : Around} {s : Shared} {E : Value → Shared → Prop}
end
section
variable {X : Cx} {ρ : Slots} {e : Expr} {p apos cpos pos : Pos}
end
end M
namespace L2
open PySem PySem.Spec PyProof.Rows
end L2
namespace M
open PySem PySem.Spec PyProof.Rows L2
section
variable {X : Cx} {ρ : Slots} {e elt src : Expr} {o : O} {i i1 i2 : Nat} {l : Addr} {β γ : Type} {g : β → O}
end
theorem MV.to {X : Cx} {ρ : Slots} {e : Expr} {o o' : O} (h : MV X ρ e o) (q : o = o') : MV X ρ e o' := q ▸ h
end M
namespace M
open PySem L2 PySem.Spec PyProof.Rows
section
variable {X : Cx} {ρ ρ' : Slots} {e : Expr} {st : Stmt} {sts : List Stmt} {G : Go} {o oo : O} {i j n : Nat} {l b C : Addr} {ns : List Str} {os vs : List O} {kk : List Key} {ds : List D} {β : Type} {g : β → O} {m : List (Key × β)} {k : Key} {y y0 : β} {nm : Str} {p1 p2 p3 p4 : Pos}
theorem sdI_lt (g : β → O) (m : List (Key × β)) (k : Key) (y0 : β) : sdI m k < ((sdK m k y0).map fun p => g p.2).length := by
  have := sd_at (m := m) (k := k) (y := y0)
  rw [List.length_map]
  cases e : (sdK m k y0)[sdI m k]? with
  | none => rw [e] at this; cases this
  | some q => exact (List.getElem?_eq_some_iff.mp e).1
theorem oDK_ut (g : β → O) (m : List (Key × β)) (k : Key) (y y0 : β) : O.dct ((sdK m k y0).map (·.1)) (((sdK m k y0).map fun p => g p.2).set (sdI m k) (g y)) = oDK g (utK m k y) := by
  show _ = O.dct _ _
  rw [utK_keys _ _ _ y0, utK_vals g _ _ _ y0]
end
section
variable {X : Cx} {ρ : Slots} {e : Expr} {o : Expr} {pos : Pos} {k : Key} {ks : List Key} {dk : D} {ds : List D}
end
section
variable {X : Cx} {ρ : Slots} {a e : Expr} {es : List Expr} {C : Addr} {nm : Str} {ns : List Str} {pos p1 : Pos}
end
section
variable {X : Cx} {ρ : Slots} {e : Expr} {sts : List Stmt} {G : Go} {i : Nat} {β : Type} {enc : β → D} {m : List (Key × β)}
end
end M
namespace M
open PySem L2 PySem.Spec PyProof.Rows
end M
namespace M
open PySem L2 PySem.Spec PyProof.Rows
section
variable {prog : Program} {w : World} {K : Type} [DecidableEq K] {knd : HeapKind prog w K} {A : Around} {E : Value → Shared → Prop} {s : Shared}
end
section
variable {X : Cx}
end
section
variable {κ : Type} [DecidableEq κ]
end
section
variable {X : Cx} {ρ : Slots} {a b : Expr} {pos : Pos} {i : Nat} {sts : List Stmt} {G : Go}
end
section
variable {X : Cx} {ρ : Slots} {e : Expr} {sts : List Stmt} {G : Go} {o oo : O} {i n : Nat} {b : Addr} {vs : List O} {kk : List Key} {β : Type} {g : β → O} {m : List (Key × β)} {k : Key} {y y0 : β}
theorem fp_alKV (hi : ρ[i]? = some (some (.dct kk (vs.set n (.loc b oo))))) (hn : n < vs.length) : FP X ρ b oo (fun o' => ρ.set i (some (.dct kk (vs.set n (.loc b o'))))) := by
  have h := ((fq_var (X := X) hi).enK (j := n) (List.getElem?_set_self hn)).fp
  have e : (fun o' => ρ.set i (some (O.dct kk ((vs.set n (.loc b oo)).set n (.loc b o'))))) = fun o' => ρ.set i (some (.dct kk (vs.set n (.loc b o')))) := by
    funext o'
    rw [List.set_set]
  rw [← e]
  exact h
theorem ms_unalKV (hi : ρ[i]? = some (some (.dct ((sdK m k y0).map (·.1)) (((sdK m k y0).map fun p => g p.2).set (sdI m k) (.loc b (g y)))))) (h : MS X (ρ.set i (some (oDK g (utK m k y)))) sts G) : MS X ρ sts G := by
  refine ms_unloc ((fq_var (X := X) hi).enK (j := sdI m k) (List.getElem?_set_self (sdI_lt g m k y0))) ?_
  rw [List.set_set, oDK_ut]
  exact h
end
end M
namespace M
open PySem L2 PySem.Spec PyProof.Rows
theorem mergeK_nd : ∀ (kvs : List (Key × V)) (acc : List (Key × V)), (∀ p ∈ kvs, valV acc p.1 = none) → (kvs.map (·.1)).Nodup → mergeK acc kvs = acc ++ kvs
  | [], acc, _, _ => (List.append_nil _).symm
  | (k, v) :: r, acc, h, nd => by
    show mergeK (putK acc k v) r = acc ++ ((k, v) :: r)
    have hk := h (k, v) List.mem_cons_self
    rw [List.map_cons, List.nodup_cons] at nd
    rw [putK_new _ hk, mergeK_nd r _ (fun p m => ?_) nd.2, List.append_assoc]; rfl
    rw [valV_snoc _ _ _ _ hk, if_neg (fun z => ?_)]
    · exact h p (List.mem_cons_of_mem _ m)
    · exact nd.1 (by rw [← z]; exact List.mem_map_of_mem m)
structure MDO (X : Cx) (ρ : Slots) (pos : Pos) (keys : List (Option Expr)) (values : List Expr) (ks : List Str) (os : List O) : Prop where
  ex : ∃ trs, PPs X pos keys values trs ∧ keys.length = ks.length ∧ values.length = ks.length ∧ os.length = ks.length ∧ keys.all (·.isSome) = true ∧
    ∀ (Z0 F Z : Hp) (σ : L2.St) (H : Hp), StR X.K ρ Z0 F Z σ H → ∀ Q : List (V × V) → Hp → Prop, (∀ vs Z' H' A, Gr Z H Z' H' → RepOL X.K Z' F H' vs os A → New H Z' A → Q ((ks.zip vs).map fun kv => (.str kv.1, kv.2)) H') → tPairs trs σ H Q
section
variable {X : Cx} {ρ : Slots} {e v a : Expr} {pos p1 : Pos} {j1 : Nat} {k : Str} {o : O} {keys : List (Option Expr)} {values : List Expr} {ks : List Str} {os : List O} {R : O → Slots}
theorem mdo_nil : MDO X ρ pos [] [] [] [] := ⟨[], pps_nil, rfl, rfl, rfl, rfl, fun Z0 F Z σ H s Q q => q [] Z H [] (Gr.refl s.gr.zh) .nil ⟨List.nodup_nil, fun _ m => nomatch m⟩⟩
theorem mdo_cons (hv : ME X ρ v o) (h : MDO X ρ pos keys values ks os) : MDO X ρ pos (some (.Constant (.str k) j1 p1) :: keys) (v :: values) (k :: ks) (o :: os) := by
  obtain ⟨trs, p, l1, l2, l3, a, q⟩ := h.ex
  refine ⟨(tC (.str k), wE X v) :: trs, pps_cons pe_str pe_w p, by rw [List.length_cons, List.length_cons, l1], by rw [List.length_cons, List.length_cons, l2], by rw [List.length_cons, List.length_cons, l3], a, fun Z0 F Z σ H s Q qq => ?_⟩
  show wE X v σ H fun y H2 => tPairs trs σ H2 fun ps H3 => Q ((.str k, y) :: ps) H3
  refine hv.run Z0 F Z σ H s _ fun y Z1 H1 A1 g1 r1 n1 => q Z0 F Z1 σ H1 (s.grow g1) _ fun vs Z2 H2 A2 g2 r2 n2 => ?_
  refine qq (y :: vs) Z2 H2 (A1 ++ A2) (g1.trans g2) (.cons (r1.ex g2.zz g2.hh) r2) ⟨List.nodup_append.mpr ⟨n1.1, n2.1, fun b hb c hc e => ?_⟩, fun b m => ?_⟩
  · subst e
    obtain ⟨u, eu⟩ := r1.there b hb
    rw [(n2.2 b hc).1] at eu
    cases eu
  · rcases List.mem_append.mp m with m | m
    · refine ⟨(n1.2 b m).1, ?_⟩
      obtain ⟨u, eu⟩ := r1.there b m
      rw [g2.nw b u eu]
      exact (n1.2 b m).2
    · exact ⟨g1.hh.free (n2.2 b m).1, (n2.2 b m).2⟩
theorem me_dispO (m : MDO X ρ pos keys values ks os) (nd : (ks.map (fun x : Str => (Sum.inr x : Key))).Nodup := by decide +kernel) (h0 : ks.length ≠ 0 ∧ ks.length ≤ 15 := by decide) : ME X ρ (.Dict keys values pos) (.dct (ks.map fun x => (Sum.inr x : Key)) os) := by
  obtain ⟨trs, p, l1, l2, l3, al, q⟩ := m.ex
  refine .mk fun Z0 F Z σ H st Q qq => PE_w (pe_disp p al (l1.trans l2.symm) (fun z => h0.1 (by rw [← l1, z]; rfl)) (by rw [l1]; exact h0.2)) fun x hx => ?_
  have g0 : Gr Z H Z (upd H x (.dK [])) := Gr.new st.ex hx
  refine q Z0 F Z σ _ (st.grow g0) _ fun vs Z1 H1 A g r n => ?_
  have hx1 : H1 x = some (.dK []) := g.hh _ _ upd_same
  have zx : Z1 x = none := by
    rw [g.nw x _ upd_same]
    exact st.gr.zh.free hx
  have lv : vs.length = ks.length := r.length.trans l3
  have nA : ∀ b ∈ A, b ≠ x := fun b m e => by
    have := (n.2 b m).1
    rw [e, upd_same] at this
    cases this
  have gg := g0.trans g
  refine ⟨hx1, (ks.map fun x => (Sum.inr x : Key)).zip vs, ?_, by rw [List.length_zip, List.length_map]; omega, ?_⟩
  · rw [List.zip_map_left, List.map_map]
    rfl
  · rw [mergeK_nd _ [] (fun _ _ => rfl) (by rw [List.map_fst_zip (by rw [List.length_map]; omega)]; exact nd), List.nil_append]
    refine qq (.ref x) Z1 _ (x :: A) ⟨gg.zz, fun b u e => ?_, gg.zh.mut zx, gg.nw⟩ (.dct upd_same (r.mono (Ex.refl _) (Ex.refl _) fun b m u e => ?_)) ⟨List.nodup_cons.mpr ⟨fun m => nA x m rfl, n.1⟩, fun b m => ?_⟩
    · rw [upd_ne fun z => by rw [z, hx] at e; cases e]
      exact gg.hh b u e
    · rw [upd_ne (nA b m)]
      exact e
    · rcases List.mem_cons.mp m with e | m
      · rw [e]; exact ⟨hx, zx⟩
      · have := n.2 b m
        exact ⟨g0.hh.free this.1, this.2⟩
theorem mp_ixK {β : Type} {g : β → O} {m : List (Key × β)} {kk : Key} {dk : D} {y0 y1 : β} (hu : X.A.units + 64 < cLine) (hx : lkp m kk = some y1) (h : MQ X ρ a (oDK g m) R) (he : ME X ρ e (.fz dk)) (hk : keyD dk = some kk) (hs : NoSl e := by exact fun _ _ => rfl) :
    MP X ρ (.Subscript a e pos) (g ((lkp m kk).getD y0)) (R (oDK g (sdK m kk y0))) (fun o' => R (.dct ((sdK m kk y0).map (·.1)) (((sdK m kk y0).map fun p => g p.2).set (sdI m kk) o'))) := .mk fun Z0 F Z σ H T s Q q =>
  PE_w (pe_dget (by omega) pe_w pe_w hs) (h.run Z0 F Z σ H T s _ fun v Z1 H1 g1 f0 => by
    have fA := f0
    obtain ⟨A, fA⟩ := fA
    obtain ⟨l, _, vs, A1, _, rfl, rfl, h0, rl⟩ := hm_dct.mp fA.rp
    refine he.run Z0 F Z1 σ H1 (s.grow g1).r _ fun u Z2 H2 A2 g2 r2 n2 => ?_
    cases r2 with
    | fz r2 =>
      rw [key_V hk r2]
      obtain ⟨A', f3⟩ := f0.grow g2
      obtain ⟨j, hj⟩ : ∃ j, ixk m kk = some j := by
        cases e : ixk m kk with
        | none => rw [ixk_lkp, e] at hx; cases hx
        | some j => exact ⟨j, rfl⟩
      have jl := ixk_lt hj
      have ex : lkp m kk = some m[j].2 := by rw [ixk_lkp, hj]; show (m[j]?).map (·.2) = _; rw [List.getElem?_eq_getElem jl]; rfl
      have hd : (m.map fun p => g p.2)[j]? = some (g ((lkp m kk).getD y0)) := by rw [List.getElem?_map, List.getElem?_eq_getElem jl, ex]; rfl
      have st := f3.same (R := R) g2.zh f3.rp
      obtain ⟨_, _, vs2, v', e1, e2, e3, e4, f4⟩ := f3.down hm_dct hd
      cases e1
      have l2 : vs2.length = m.length := by rw [e3, List.length_map]
      have hv : valV ((m.map (·.1)).zip vs2) kk = some v' := by
        rw [ixk_val l2, hj]
        exact e4
      have dg := DGet.k (k := kk) e2
      rw [hv] at dg
      have es : sdI m kk = j := by unfold sdI; rw [hj]; rfl
      rw [sdK_old ex, es] at q
      exact ⟨_, _, rfl, dg, q v' Z2 H2 T st f4⟩)
theorem ML.as {ds ds' : List D} (h : ML X ρ e ds) (q : ds = ds') : ML X ρ e ds' := q ▸ h
end
theorem mpS_is : ∀ {xs : List D} {ys : List Str}, mpO asS xs = some ys → xs.map e_d = ys.map D.str
  | [], ys, h => by cases h; rfl
  | x :: xs, ys, h => by
    obtain ⟨y, h1, h⟩ := bd_some h
    obtain ⟨zs, h2, h⟩ := bd_some h
    cases h
    have e := asS_is h1
    have e : x = .str y := O.fz.inj e
    rw [List.map_cons, List.map_cons, mpS_is h2, e]
theorem mpI_is : ∀ {xs : List D} {ys : List Int}, mpO asI xs = some ys → xs.map e_d = ys.map D.int
  | [], ys, h => by cases h; rfl
  | x :: xs, ys, h => by
    obtain ⟨y, h1, h⟩ := bd_some h
    obtain ⟨zs, h2, h⟩ := bd_some h
    cases h
    have e := asI_is h1
    have e : x = .int y := O.fz.inj e
    rw [List.map_cons, List.map_cons, mpI_is h2, e]
section
variable {X : Cx} {ρ : Slots} {a b : Expr} {ns ms : List Int} {pos : Pos}
end
end M
namespace M
open PySem L2 PySem.Spec PyProof.Rows
def idxB : List Bool → Option Nat
  | [] => none
  | true :: _ => some 0
  | false :: r => (idxB r).map (· + 1)
theorem idxB_ok : ∀ {bs : List Bool} {j : Nat}, idxB bs = some j → bs[j]? = some true ∧ ∀ m, m < j → bs[m]? = some false
  | [], _, h => nomatch h
  | true :: r, j, h => by
    cases h
    exact ⟨rfl, fun m hm => absurd hm (Nat.not_lt_zero m)⟩
  | false :: r, j, h => by
    have h : (idxB r).map (· + 1) = some j := h
    cases e : idxB r with
    | none => rw [e] at h; cases h
    | some k =>
      rw [e] at h
      cases h
      obtain ⟨h1, h2⟩ := idxB_ok e
      refine ⟨by simpa using h1, fun m hm => ?_⟩
      cases m with
      | zero => rfl
      | succ m =>
        have hm : m + 1 < k + 1 := hm
        simpa using h2 m (by omega)
theorem RepL.bools {K : PySem.W.Frag} {Z : Hp} : ∀ {vs : List V} {bs : List Bool}, RepL K Z vs (bs.map .bl) → vs = bs.map .bl
  | _, [], .nil => rfl
  | _, b :: r, .cons h t => by
    cases h
    rw [RepL.bools t]
    rfl
section
variable {X : Cx} {ρ : Slots} {a b : Expr} {bs : List Bool} {j : Nat} {p1 pos : Pos}
theorem me_indexB (h : idxB bs = some j) (ha : ML X ρ a (bs.map .bl)) (hb : ME X ρ b (.fz (.bl true)))
    (pm : PE X (.Call (.Attribute a "index" p1) [b] [] pos) (tBM X.K "list" (rIndex X.K) (wE X a) (tCons (wE X b) tNil)) := by exact pe_bm PySem.F.plainAttrs_list PySem.F.slot_list_index PySem.F.type_list_index mt_index pe_w (pa_cons pe_w pa_nil)) : ME X ρ (.Call (.Attribute a "index" p1) [b] [] pos) (.fz (.int (j : Nat))) := .mk fun Z0 F Z σ H s Q q =>
  PE_w pm (ha.run Z0 F Z σ H s _ fun l vs Z1 H1 g1 l1 r1 => ⟨.inl ⟨rfl, vs, l1⟩, hb.run Z0 F Z1 σ H1 (s.grow g1) _ fun v Z2 H2 A2 g2 r2 n2 => by
    cases r2 with
    | fz r2 =>
      cases r2
      have e := r1.bools
      subst e
      obtain ⟨h1, h2⟩ := idxB_ok h
      exact ⟨l, bs.map .bl, .bl true, j, .bl true, rfl, rfl, ex_l g2.hh l1, rfl, List.all_eq_true.mpr fun x m => by
        obtain ⟨b, _, rfl⟩ := List.mem_map.mp m
        rfl, by rw [List.getElem?_map, h1]; rfl, rfl, fun m z hm hz => by
        rw [List.getElem?_map, h2 m hm] at hz
        cases hz
        rfl, q _ Z2 H2 [] (g1.trans g2) (.fz (.int _)) .nil⟩⟩)
end
end M
namespace K89
open PySem L2 M
section
variable {P : Program} {w : World} {K : PySem.W.Frag} {mg : Str → Option Value} {base : Heap} {C_CoverError C_NoShares C_NoEntry C_NoCover C_NoBook C_NotTold C_TooWide C_Counts C_Book C_Condition C_CauseIs C_ThingIs C_DaysIn C_Over C_Some C_Deal C_Cover : Addr}
def sp_is_whole_i (K : PySem.W.Frag) : Sp := SpM K (fun x : Int => [.fz (.int x)]) (fun _ => True) (fun _ => .fz (.bl true))
abbrev N_is_whole_i : List Str := ["thing"]
theorem sc_is_whole_i : FnScope N_is_whole_i ["thing"] (defScope s_is_whole) := ⟨rfl, rfl, rfl, by decide +kernel, rfl, by decide +kernel, by decide +kernel⟩
theorem ok_is_whole_i {f : Addr} {fd : FuncData} (F : Fun K "is_whole" "is_whole" s_is_whole f fd) (z_bool : mg "bool" = none) (z_int : mg "int" = none) (z_isinstance : mg "isinstance" = none)  : FnOk P w K mg base CX0 1 f fd ["thing"] (sp_is_whole_i K) := by
  refine fn_m F sc_is_whole_i (fun x => rfl) (fun x _ => rfl) fun cdv A outer s H E hr x hx => ?_
  have nd := sc_is_whole_i.nd
  refine ms_one (m_ret (ps_ret pe_w) (ME.r (me_and (me_isi (k := true) (by rfl) z_isinstance (pe_bltn (v := .ty "int") (by rfl) z_int (by decide +kernel) rfl) (mv_var (pv 0) rfl) rfl (by decide +kernel)) fun _ => (me_one (me_not (me_isi (k := false) (by rfl) z_isinstance (pe_bltn (v := .ty "bool") (by rfl) z_bool (by decide +kernel) rfl) (mv_var (pv 0) rfl) rfl (by decide +kernel)))))) ?_)
  rfl

structure WOk (ws : List Int) : Prop where
  l1 : 1 ≤ ws.length
  l8 : ws.length ≤ 8
  w1 : ∀ w ∈ ws, 1 ≤ w
  s100 : ws.sum ≤ 100
theorem sum_ge : ∀ {ws : List Int}, (∀ w ∈ ws, 1 ≤ w) → (ws.length : Int) ≤ ws.sum ∧ ∀ w ∈ ws, w ≤ ws.sum
  | [], _ => ⟨by simp, fun _ m => nomatch m⟩
  | a :: r, h => by
    obtain ⟨h1, h2⟩ := sum_ge (ws := r) fun w m => h w (List.mem_cons_of_mem _ m)
    have ha := h a List.mem_cons_self
    rw [List.sum_cons, List.length_cons]
    refine ⟨by omega, fun w m => ?_⟩
    rcases List.mem_cons.mp m with m | m
    · omega
    · have := h2 w m
      omega
def npStep (ws gs : List Int) (T n : Int) (acc : Option Nat × Int) (k : Nat) : Option Nat × Int :=
  if gs.getD k 0 * T < ws.getD k 0 * (n + 1) then
    if acc.1 = none ∨ -(-(gs.getD k 0 + 1) * T / ws.getD k 0) < acc.2 then (some k, -(-(gs.getD k 0 + 1) * T / ws.getD k 0)) else acc
  else acc
def npM (ws gs : List Int) (T n : Int) : Option Nat × Int := (List.range ws.length).foldl (npStep ws gs T n) (none, 0)
theorem np_lt (ws gs : List Int) (T n : Int) (m : Nat) : ∀ (l : List Nat) (acc : Option Nat × Int), (∀ k ∈ l, k < m) → (∀ p, acc.1 = some p → p < m) → ∀ p, (l.foldl (npStep ws gs T n) acc).1 = some p → p < m
  | [], _, _, h => h
  | k :: r, acc, hl, h => by
    refine np_lt ws gs T n m r _ (fun j m => hl j (List.mem_cons_of_mem _ m)) ?_
    unfold npStep
    split
    · split
      · intro p e
        cases e
        exact hl k List.mem_cons_self
      · exact h
    · exact h
theorem np_some (ws gs : List Int) (T n : Int) : ∀ (l : List Nat) (acc : Option Nat × Int), (acc.1 ≠ none ∨ ∃ k ∈ l, gs.getD k 0 * T < ws.getD k 0 * (n + 1)) → (l.foldl (npStep ws gs T n) acc).1 ≠ none
  | [], acc, h => by
    rcases h with h | ⟨k, m, _⟩
    · exact h
    · cases m
  | k :: r, acc, h => by
    refine np_some ws gs T n r _ ?_
    have keep : acc.1 ≠ none → (npStep ws gs T n acc k).1 ≠ none := fun h => by
      unfold npStep
      split
      · split
        · exact fun q => by cases q
        · exact h
      · exact h
    rcases h with h | ⟨j, m, hj⟩
    · exact .inl (keep h)
    · rcases List.mem_cons.mp m with m | m
      · subst m
        refine .inl ?_
        unfold npStep
        rw [if_pos hj]
        split
        · exact fun q => by cases q
        · rename_i hn
          exact fun q => hn (.inl q)
      · exact .inr ⟨j, m, hj⟩
theorem getD_mem {ws : List Int} {k : Nat} (h : k < ws.length) : ws.getD k 0 ∈ ws := by
  simp [List.getD, h]
theorem sum_getD_lt : ∀ {as bs : List Int}, as.length = bs.length → (∀ k, k < as.length → bs.getD k 0 ≤ as.getD k 0) → bs.sum ≤ as.sum
  | [], [], _, _ => by simp
  | a :: as, b :: bs, hl, h => by
    have ih := sum_getD_lt (as := as) (bs := bs) (by simpa using hl) fun k hk => by
      have := h (k + 1) (by simpa using hk)
      simpa using this
    have h0 := h 0 (by simp)
    simp at h0
    rw [List.sum_cons, List.sum_cons]
    omega
theorem sum_mul (c : Int) : ∀ xs : List Int, (xs.map (· * c)).sum = xs.sum * c
  | [] => by simp
  | a :: r => by rw [List.map_cons, List.sum_cons, List.sum_cons, sum_mul c r, Int.add_mul]
/-- there is a place that may have the turn -/
theorem np_there {ws gs : List Int} {n : Int} (hw : WOk ws) (hl : gs.length = ws.length) (hs : gs.sum = n) (hn : n < ws.sum) : (npM ws gs ws.sum n).1 ≠ none := by
  refine np_some _ _ _ _ _ _ (.inr ?_)
  refine Classical.byContradiction fun hno => ?_
  have hall : ∀ k, k < ws.length → ws.getD k 0 * (n + 1) ≤ gs.getD k 0 * ws.sum := fun k hk => by
    refine Int.not_lt.mp fun q => hno ⟨k, List.mem_range.mpr hk, q⟩
  have h1 := sum_getD_lt (as := gs.map (· * ws.sum)) (bs := ws.map (· * (n + 1))) (by simp [hl]) fun k hk => by
    have hk2 : k < ws.length := by simpa [hl] using hk
    have hk3 : k < gs.length := by omega
    have q := hall k hk2
    simpa [List.getD, hk2, hk3] using q
  rw [sum_mul, sum_mul, hs] at h1
  have hT := (sum_ge hw.w1).1
  have h1' := hw.l1
  have e : ws.sum * (n + 1) = n * ws.sum + ws.sum := by rw [Int.mul_add, Int.mul_one, Int.mul_comm]
  omega
def turnStep (ws : List Int) (acc : List Int × List Int) (n : Nat) : List Int × List Int :=
  match (npM ws acc.1 ws.sum n).1 with
  | some p => (acc.1.set p (acc.1.getD p 0 + 1), acc.2 ++ [(p : Int)])
  | none => acc
def turnsTo (ws : List Int) (n : Nat) : List Int × List Int := (List.range n).foldl (turnStep ws) (ws.map (fun _ => 0), [])
def turnsM (ws : List Int) : List Int := (turnsTo ws ws.sum.toNat).2
theorem turns_succ (ws : List Int) (n : Nat) : turnsTo ws (n + 1) = turnStep ws (turnsTo ws n) n := by
  unfold turnsTo
  rw [List.range_succ, List.foldl_append]
  rfl
theorem sum_set1 : ∀ {gs : List Int} {p : Nat}, p < gs.length → (gs.set p (gs.getD p 0 + 1)).sum = gs.sum + 1
  | a :: r, 0, _ => by
    simp
    omega
  | a :: r, p + 1, h => by
    have ih := sum_set1 (gs := r) (p := p) (by simpa using h)
    simp at ih ⊢
    omega
structure TOk (ws : List Int) (n : Nat) (acc : List Int × List Int) : Prop where
  len : acc.1.length = ws.length
  sum : acc.1.sum = n
  nn : ∀ g ∈ acc.1, 0 ≤ g ∧ g ≤ n
  wl : acc.2.length = n
  pl : ∀ p ∈ acc.2, 0 ≤ p ∧ p < ws.length
theorem mem_set1 {gs : List Int} {p : Nat} {v g : Int} (h : g ∈ gs.set p v) : g ∈ gs ∨ g = v := List.mem_or_eq_of_mem_set h
theorem sum_zero : ∀ ws : List Int, (ws.map fun _ => (0 : Int)).sum = 0
  | [] => rfl
  | _ :: r => by rw [List.map_cons, List.sum_cons, sum_zero r]; rfl
theorem turns_ok {ws : List Int} (hw : WOk ws) : ∀ n : Nat, (n : Int) ≤ ws.sum → TOk ws n (turnsTo ws n) ∧ ∀ m, n = m + 1 → ∃ p, (npM ws (turnsTo ws m).1 ws.sum m).1 = some p ∧ p < ws.length ∧ turnsTo ws n = ((turnsTo ws m).1.set p ((turnsTo ws m).1.getD p 0 + 1), (turnsTo ws m).2 ++ [(p : Int)])
  | 0, _ => by
    refine ⟨⟨by simp [turnsTo], ?_, fun g m => ?_, rfl, fun _ m => nomatch m⟩, fun m e => by cases e⟩
    · exact sum_zero ws
    · have : g = 0 := by
        simp [turnsTo] at m
        exact m.2.symm
      omega
  | n + 1, hn => by
    obtain ⟨ih, _⟩ := turns_ok hw n (by omega)
    have ht := np_there hw ih.len ih.sum (by omega)
    obtain ⟨p, hp⟩ := Option.ne_none_iff_exists'.mp ht
    have hpl : p < ws.length := np_lt ws _ _ _ ws.length _ _ (fun k m => List.mem_range.mp m) (fun _ e => by cases e) p hp
    have e : turnsTo ws (n + 1) = ((turnsTo ws n).1.set p ((turnsTo ws n).1.getD p 0 + 1), (turnsTo ws n).2 ++ [(p : Int)]) := by
      rw [turns_succ]
      unfold turnStep
      rw [hp]
    refine ⟨?_, fun m em => by cases em; exact ⟨p, hp, hpl, e⟩⟩
    rw [e]
    refine ⟨by rw [List.length_set, ih.len], ?_, fun g m => ?_, by rw [List.length_append, ih.wl]; rfl, fun q m => ?_⟩
    · show ((turnsTo ws n).1.set p _).sum = _
      rw [sum_set1 (by rw [ih.len]; exact hpl), ih.sum]
      omega
    · rcases mem_set1 m with m | m
      · have := ih.nn g m
        omega
      · have := ih.nn _ (getD_mem (ws := (turnsTo ws n).1) (k := p) (by rw [ih.len]; exact hpl))
        omega
    · rcases List.mem_append.mp m with m | m
      · exact ih.pl q m
      · have := List.mem_singleton.mp m
        omega
theorem at_ints {ns : List Int} {k : Int} (h0 : 0 ≤ k) (h : k < ns.length) : L2.atI (ns.map D.int) k = some (.int (ns.getD k.toNat 0)) := by
  obtain ⟨n, rfl⟩ := Int.eq_ofNat_of_zero_le h0
  have hn : n < ns.length := by omega
  refine atI_nat ?_
  rw [List.getElem?_map, List.getElem?_eq_getElem hn]
  simp [List.getD, hn]
theorem at_intsN {ns : List Int} {k : Nat} (h : k < ns.length) : L2.atI (ns.map D.int) (k : Int) = some (.int (ns.getD k 0)) := by
  have q := at_ints (ns := ns) (k := (k : Int)) (by omega) (by omega)
  rw [Int.toNat_natCast] at q
  exact q

def sp_total_of (K : PySem.W.Frag) : Sp := SpM K (fun x : List Int => [.vw (x.map .int)]) WOk (fun x => .fz (.int x.sum))
abbrev N_total_of : List Str := ["weights", "weight", "total"]
theorem sc_total_of : FnScope N_total_of ["weights"] (defScope s_total_of) := ⟨rfl, rfl, rfl, by decide +kernel, rfl, by decide +kernel, by decide +kernel⟩
theorem ok_total_of {f : Addr} {fd : FuncData} (F : Fun K "total_of" "total_of" s_total_of f fd) (z_isinstance : mg "isinstance" = none) (z_len : mg "len" = none) (z_list : mg "list" = none) (z_sum : mg "sum" = none) (g_MOST_PLACES : mg "MOST_PLACES" = some (.int 8 tk1)) (g_MOST_TURNS : mg "MOST_TURNS" = some (.int 100 tk2)) (c_is_whole_i : Fn1 P w K mg base "is_whole" 1 ["thing"] (sp_is_whole_i K)) : FnOk P w K mg base CX0 2 f fd ["weights"] (sp_total_of K) := by
  refine fn_m F sc_total_of (fun x => rfl) (fun x _ => rfl) fun cdv A outer s H E hr ws hw => ?_
  have nd := sc_total_of.nd
  have l1 := hw.l1
  have l8 := hw.l8
  have s1 := hw.s100
  refine ms_cons (m_if (mt_not (mt_val (me_isi (k := true) (by rfl) z_isinstance (pe_bltn (v := .ty "list") (by rfl) z_list (by decide +kernel) rfl) (mv_var (pv 0) rfl) rfl (by decide +kernel)))) (fun h => ?_) fun h => ms_nil ?_)
  · exact (Bool.false_ne_true h).elim
  refine ms_cons (m_if (MW.t (mw_or (mt_lt (me_len (by rfl) z_len (ml_var (pv 0) rfl)) me_int) fun _ => (mw_or1 (mt_gt (me_len (by rfl) z_len (ml_var (pv 0) rfl)) (me_gI g_MOST_PLACES))))) (fun h => ?_) fun h => ms_nil ?_)
  · rw [List.length_map, Bool.or_eq_true, decide_eq_true_iff, decide_eq_true_iff] at h
    omega
  -- for weight in weights
  refine ms_cons (m_forT (xs := ws) (enc := D.int) (ps_for PassesOwn.never rfl (pi_list pe_w) (pg_name (i := 1) nd rfl (Or.inl rfl)) pss_w) (by exact (mi_list (mk_var (pv 0) rfl))) (fun j => [some (.vw (ws.map .int)), none, none]) le_auto (fun j x hx => ?_) fun τ l => ms_le l ?_)
  · refine ⟨_, _, mg_name, ?_⟩
    have h1 := hw.w1 x (List.mem_of_getElem? hx)
    refine ms_one (m_if (MW.t (mw_or (mt_not (mt_val (me_fn c_is_whole_i x (ma_fz (me_var (pv 1) rfl) ma_nil) trivial (hr.mono (by decide))))) fun _ => (mw_or1 (mt_lt (me_var (pv 1) rfl) me_int)))) (fun h => ?_) fun h => ms_nil le_auto)
    rw [Bool.or_eq_true, decide_eq_true_iff] at h
    rcases h with h | h
    · exact (Bool.false_ne_true h).elim
    · omega
  refine ms_cons (m_set (ps_set (i := 2) nd rfl (Or.inl rfl) pe_w) (me_sum rfl (by rfl) z_sum (ml_var (pv 0) rfl)) ?_)
  refine ms_cons (m_if (mt_gt (me_var (pv 2) rfl) (me_gI g_MOST_TURNS)) (fun h => ?_) fun h => ms_nil ?_)
  · have h := of_decide_eq_true h
    omega
  refine ms_one (m_ret (ps_ret pe_w) (mr_var (pv 2) rfl) ?_)
  rfl

def sp_due_by (K : PySem.W.Frag) : Sp := SpM K (fun x : Int × Int × Int => [.fz (.int x.1), .fz (.int x.2.1), .fz (.int x.2.2)]) (fun x => 0 ≤ x.1 ∧ x.1 ≤ 1000 ∧ 0 < x.2.1 ∧ x.2.1 ≤ 1000) (fun x => .fz (.int (-(-(x.1 + 1) * x.2.2 / x.2.1))))
abbrev N_due_by : List Str := ["given", "weight", "total"]
theorem sc_due_by : FnScope N_due_by ["given", "weight", "total"] (defScope s_due_by) := ⟨rfl, rfl, rfl, by decide +kernel, rfl, by decide +kernel, by decide +kernel⟩
theorem ok_due_by {f : Addr} {fd : FuncData} (F : Fun K "due_by" "due_by" s_due_by f fd)   : FnOk P w K mg base CX0 1 f fd ["given", "weight", "total"] (sp_due_by K) := by
  refine fn_m F sc_due_by (fun x => rfl) (fun x _ => rfl) fun cdv A outer s H E hr x hx => ?_
  obtain ⟨given, weight, total⟩ := x
  obtain ⟨h0, h1, h2, h3⟩ := hx
  have h0 : 0 ≤ given := h0
  have h1 : given ≤ 1000 := h1
  have h2 : 0 < weight := h2
  have h3 : weight ≤ 1000 := h3
  have nd := sc_due_by.nd
  have c1 : CMul (-(given + 1)) total := .inl ⟨by omega, by omega⟩
  have c2 : CDiv (-(given + 1) * total) weight := ⟨h2, by omega⟩
  refine ms_one (m_ret (ps_ret pe_w) (ME.r (me_neg (me_fdiv (me_mul (me_neg (me_add (me_var (pv 0) rfl) me_int)) (me_var (pv 2) rfl) c1) (me_var (pv 1) rfl) c2))) ?_)
  rfl

def encON : Option Nat → D
  | none => .non
  | some p => .int p
def sp_next_place (K : PySem.W.Frag) : Sp := SpM K (fun x : List Int × List Int × Int × Int => [.vw (x.1.map .int), .vw (x.2.1.map .int), .fz (.int x.2.2.1), .fz (.int x.2.2.2)])
  (fun x => WOk x.1 ∧ x.2.1.length = x.1.length ∧ (∀ g ∈ x.2.1, 0 ≤ g ∧ g ≤ 100) ∧ 0 ≤ x.2.2.2 ∧ x.2.2.2 ≤ 100) (fun x => .fz (encON (npM x.1 x.2.1 x.2.2.1 x.2.2.2).1))
abbrev N_next_place : List Str := ["weights", "given", "total", "n", "best", "soonest", "place", "due"]
theorem sc_next_place : FnScope N_next_place ["weights", "given", "total", "n"] (defScope s_next_place) := ⟨rfl, rfl, rfl, by decide +kernel, rfl, by decide +kernel, by decide +kernel⟩
theorem ok_next_place {f : Addr} {fd : FuncData} (F : Fun K "next_place" "next_place" s_next_place f fd) (z_len : mg "len" = none) (z_range : mg "range" = none) (c_due_by : Fn1 P w K mg base "due_by" 1 ["given", "weight", "total"] (sp_due_by K)) : FnOk P w K mg base CX0 2 f fd ["weights", "given", "total", "n"] (sp_next_place K) := by
  refine fn_m F sc_next_place (fun x => rfl) (fun x _ => rfl) fun cdv A outer s H E hr x hx => ?_
  obtain ⟨ws, gs, T, n⟩ := x
  obtain ⟨hw, hl, hg, hn⟩ := hx
  have hw : WOk ws := hw
  have hl : gs.length = ws.length := hl
  have hg : ∀ g ∈ gs, 0 ≤ g ∧ g ≤ 100 := hg
  have hn : 0 ≤ n ∧ n ≤ 100 := hn
  have l8 := hw.l8
  have nd := sc_next_place.nd
  refine ms_cons (m_set (ps_set (i := 4) nd rfl (Or.inl rfl) pe_w) me_non ?_)
  refine ms_cons (m_set (ps_set (i := 5) nd rfl (Or.inl rfl) pe_w) me_int ?_)
  -- for place in range(len(weights))
  refine ms_cons (m_forN (lo := 0) (n := (ws.map D.int).length) (ps_for PassesOwn.never rfl (pi_range1 (by rfl) z_range pa_w) (pg_name (i := 6) nd rfl (Or.inl rfl)) pss_w) (by exact (mi_rangeN (mf_cons (me_len (by rfl) z_len (ml_var (pv 0) rfl)) mf_nil) (by rw [List.length_map]; omega)))
    (fun j => [some (.vw (ws.map .int)), some (.vw (gs.map .int)), some (.fz (.int T)), some (.fz (.int n)), some (.fz (encON ((List.range j).foldl (npStep ws gs T n) (none, 0)).1)), some (.fz (.int ((List.range j).foldl (npStep ws gs T n) (none, 0)).2)), none, none]) le_auto (fun j hj => ?_) fun τ l => ms_le l ?_)
  · rw [List.length_map] at hj
    have es : (List.range (j + 1)).foldl (npStep ws gs T n) (none, 0) = npStep ws gs T n ((List.range j).foldl (npStep ws gs T n) (none, 0)) j := by
      rw [List.range_succ, List.foldl_append]
      rfl
    show ∃ τ' ws', MTg _ _ [some (.vw (ws.map .int)), some (.vw (gs.map .int)), some (.fz (.int T)), some (.fz (.int n)), some (.fz (encON ((List.range j).foldl (npStep ws gs T n) (none, 0)).1)), some (.fz (.int ((List.range j).foldl (npStep ws gs T n) (none, 0)).2)), none, none] _ _ _ ∧ _
    generalize (List.range j).foldl (npStep ws gs T n) (none, 0) = acc at es ⊢
    rw [Int.zero_add]
    have a1 := at_intsN (ns := gs) (k := j) (by omega)
    have a2 := at_intsN (ns := ws) (k := j) hj
    have g1 := hg _ (getD_mem (ws := gs) (k := j) (by omega))
    have w1 := hw.w1 _ (getD_mem (ws := ws) (k := j) hj)
    have w2 := (sum_ge hw.w1).2 _ (getD_mem (ws := ws) (k := j) hj)
    have s1 := hw.s100
    have es2 : npStep ws gs T n acc j = npStep ws gs T n acc j := rfl
    conv at es2 => rhs; unfold npStep
    generalize gs.getD j 0 = g at *
    generalize ws.getD j 0 = wj at *
    have c1 : CMul g T := .inl ⟨by omega, by omega⟩
    have c2 : CMul wj (n + 1) := .inl ⟨by omega, by omega⟩
    refine ⟨_, _, mg_name, ?_⟩
    refine ms_one (m_if (mt_lt (me_mul (me_ixL (ml_var (pv 1) rfl) (me_var (pv 6) rfl) a1) (me_var (pv 2) rfl) c1) (me_mul (me_ixL (ml_var (pv 0) rfl) (me_var (pv 6) rfl) a2) (me_add (me_var (pv 3) rfl) me_int) c2)) (fun h => ?_) fun h => ?_)
    · -- if given[place] * total < weights[place] * (n + 1)
      rw [if_pos (of_decide_eq_true h)] at es2
      have pd : 0 ≤ g ∧ g ≤ 1000 ∧ 0 < wj ∧ wj ≤ 1000 := by omega
      refine ms_cons (m_set (ps_set (i := 7) nd rfl (Or.inl rfl) pe_w) (me_fn c_due_by (_, _, _) (ma_fz (me_ixL (ml_var (pv 1) rfl) (me_var (pv 6) rfl) a1) (ma_fz (me_ixL (ml_var (pv 0) rfl) (me_var (pv 6) rfl) a2) (ma_fz (me_var (pv 2) rfl) ma_nil))) pd (hr.mono (by decide))) ?_)
      have eN : (O.fz (encON acc.1)).isNon = decide (acc.1 = none) := by
        cases acc.1 with
        | none => rfl
        | some p => rfl
      refine ms_one (m_if (MW.t (mw_or (mt_isN (mv_var (pv 4) rfl)) fun _ => (mw_or1 (mt_lt (me_var (pv 7) rfl) (me_var (pv 5) rfl))))) (fun h => ?_) fun h => ?_)
      · -- if best is None or due < soonest
        rw [eN, Bool.or_eq_true, decide_eq_true_iff, decide_eq_true_iff] at h
        rw [if_pos h] at es2
        refine ms_cons (m_set (ps_set (i := 4) nd rfl (Or.inl rfl) pe_w) (me_var (pv 6) rfl) ?_)
        refine ms_one (m_set (ps_set (i := 5) nd rfl (Or.inl rfl) pe_w) (me_var (pv 7) rfl) ?_)
        rw [es, es2]
        exact le_auto
      · -- else
        rw [eN, Bool.or_eq_false_iff, decide_eq_false_iff_not, decide_eq_false_iff_not] at h
        rw [if_neg (fun q => q.elim h.1 h.2)] at es2
        refine ms_nil ?_
        rw [es, es2]
        exact le_auto
    · -- else
      rw [if_neg (of_decide_eq_false h)] at es2
      refine ms_nil ?_
      rw [es, es2]
      exact le_auto
  refine ms_one (m_ret (ps_ret pe_w) (mr_var (pv 4) rfl) ?_)
  show O.fz (encON _) = O.fz (encON (npM ws gs T n).1)
  rw [List.length_map]
  rfl

def sp_turns (K : PySem.W.Frag) : Sp := SpM K (fun x : List Int => [.vw (x.map .int)]) WOk (fun x => .lst (((turnsM x).map .int).map .fz))
abbrev N_turns : List Str := ["weights", "total", "given", "wheel", "n", "place", "weight"]
theorem sc_turns : FnScope N_turns ["weights"] (defScope s_turns) := ⟨rfl, rfl, rfl, by decide +kernel, rfl, by decide +kernel, by decide +kernel⟩
theorem ok_turns {f : Addr} {fd : FuncData} (F : Fun K "turns" "turns" s_turns f fd) (z_range : mg "range" = none) (c_total_of : Fn1 P w K mg base "total_of" 2 ["weights"] (sp_total_of K)) (c_next_place : Fn1 P w K mg base "next_place" 2 ["weights", "given", "total", "n"] (sp_next_place K)) : FnOk P w K mg base CX0 3 f fd ["weights"] (sp_turns K) := by
  refine fn_m F sc_turns (fun x => rfl) (fun x _ => O.nvL_fz _) fun cdv A outer s H E hr ws hw => ?_
  have nd := sc_turns.nd
  have s1 := hw.s100
  have l8 := hw.l8
  have sg := (sum_ge hw.w1).1
  refine ms_cons (m_set (ps_set (i := 1) nd rfl (Or.inl rfl) pe_w) (me_fn c_total_of ws (ma_vw (ml_var (pv 0) rfl) ma_nil) hw (hr.mono (by decide))) ?_)
  -- given = [0 for weight in weights]
  refine ms_cons (m_setLc (i := 2) (xs := ws) (enc := D.int) (fun te he => ps_setLc (i := 2) (own := [("weight", 6)]) rfl nd rfl rfl (sw_true rfl rfl rfl (by decide +kernel)) (pi_list pe_w) (blkOk_by (N := N_turns) (sc := defScope s_turns) (by decide +kernel)) (fun _ _ _ _ _ => (pg_name (i := 6) nd rfl (Or.inl rfl))) (fun _ _ _ _ _ => pts_nil) he) (mic_list (ml_var (pv 0) rfl)) (fun _ => D.int 0) (small1000 (by omega)) (fun d md => ⟨_, _, mg_name, by decide, fun s H C cl fp => me_int⟩) ?_)
  rw [show (ws.map fun _ => D.int 0) = (ws.map (fun _ => (0 : Int))).map D.int from by rw [List.map_map]; rfl]
  refine ms_cons (m_set (ps_set (i := 3) nd rfl (Or.inl rfl) pe_w) (me_lst mf_nil) ?_)
  -- for n in range(total)
  refine ms_cons (m_forN (lo := 0) (n := ws.sum.toNat) (ps_for PassesOwn.never rfl (pi_range1 (by rfl) z_range pa_w) (pg_name (i := 4) nd rfl (Or.inl rfl)) pss_w) (by exact (mi_range1 (mf_cons (me_var (pv 1) rfl) mf_nil) (by omega) (by omega)))
    (fun j => [some (.vw (ws.map .int)), some (.fz (.int ws.sum)), some (.lst (((turnsTo ws j).1.map .int).map .fz)), some (.lst (((turnsTo ws j).2.map .int).map .fz)), none, none, none]) le_auto (fun j hj => ?_) fun τ l => ms_le l ?_)
  · have hj : j < ws.sum.toNat := hj
    obtain ⟨ok, _⟩ := turns_ok hw j (by omega)
    obtain ⟨_, nx⟩ := turns_ok hw (j + 1) (by omega)
    obtain ⟨p, hp, hpl, es⟩ := nx j rfl
    rw [es]
    generalize turnsTo ws j = acc at ok hp ⊢
    rw [Int.zero_add]
    refine ⟨_, _, mg_name, ?_⟩
    have pn : WOk ws ∧ acc.1.length = ws.length ∧ (∀ g ∈ acc.1, 0 ≤ g ∧ g ≤ 100) ∧ 0 ≤ (j : Int) ∧ (j : Int) ≤ 100 := ⟨hw, ok.len, fun g m => ⟨(ok.nn g m).1, by have := (ok.nn g m).2; omega⟩, by omega, by omega⟩
    refine ms_cons (m_set (ps_set (i := 5) nd rfl (Or.inl rfl) pe_w) (me_fn c_next_place (_, _, _, _) (ma_vw (ml_var (pv 0) rfl) (ma_vw (ml_var (pv 2) rfl) (ma_fz (me_var (pv 1) rfl) (ma_fz (me_var (pv 4) rfl) ma_nil)))) pn (hr.mono (by decide))) ?_)
    show MS _ [some (.vw (ws.map .int)), some (.fz (.int ws.sum)), some (.lst ((acc.1.map D.int).map .fz)), some (.lst ((acc.2.map D.int).map .fz)), some (.fz (.int (j : Int))), some (.fz (encON (npM ws acc.1 ws.sum (j : Int)).1)), none] _ _
    rw [hp, show encON (some p) = .int (p : Int) from rfl]
    have ap := at_intsN (ns := acc.1) (k := p) (by rw [ok.len]; exact hpl)
    have ix : ixN (acc.1.map D.int).length (p : Int) = some p := by
      unfold ixN
      rw [List.length_map, ok.len, if_pos (by omega), if_pos (by omega), Int.toNat_natCast]
    refine ms_cons (m_setItem (i := 2) (pv _) rfl (me_var (pv 5) rfl) (me_add (me_ixL (ml_var (pv 2) rfl) (me_var (pv 5) rfl) ap) me_int) ix ?_)
    rw [show (acc.1.map D.int).set p (.int (acc.1.getD p 0 + 1)) = (acc.1.set p (acc.1.getD p 0 + 1)).map D.int from List.map_set.symm]
    refine ms_one (m_append (i := 3) (pv _) rfl (me_var (pv 5) rfl) ?_ ?_)
    · rw [List.length_map, List.length_map, ok.wl]
      exact small1000 (by omega)
    · rw [List.map_append, List.map_append]
      exact le_auto
  refine ms_one (m_ret (ps_ret pe_w) (mr_var (pv 3) rfl) ?_)
  rfl

def dealD (C : Addr) (ws : List Int) : D := .ins C ["wheel", "weights"] [.lst ((turnsM ws).map .int), .lst (ws.map .int)]
theorem frz_deal (C : Addr) (ws : List Int) : (O.ins C ["wheel", "weights"] [.lst (((turnsM ws).map .int).map .fz), .lst ((ws.map .int).map .fz)]).frz = dealD C ws := by
  show D.ins C _ [D.lst (O.frzL _), D.lst (O.frzL _)] = _
  rw [O.frzL_fz, O.frzL_fz]
  rfl
theorem nv_deal (C : Addr) (ws : List Int) : (O.ins C ["wheel", "weights"] [.lst (((turnsM ws).map .int).map .fz), .lst ((ws.map .int).map .fz)]).nv = true := by
  show (O.nvL _ && (O.nvL _ && true)) = true
  rw [O.nvL_fz, O.nvL_fz]
  rfl
def sp_Deal___init__ (K : PySem.W.Frag) (C : Addr) : Sp := SpI K C ["wheel", "weights"] (fun x : List Int => [.vw (x.map .int)]) WOk (fun x => [.lst (((turnsM x).map .int).map .fz), .lst ((x.map .int).map .fz)])
abbrev N_Deal___init__ : List Str := ["self", "weights"]
theorem sc_Deal___init__ : FnScope N_Deal___init__ ["self", "weights"] (defScope s_Deal___init__) := ⟨rfl, rfl, rfl, by decide +kernel, rfl, by decide +kernel, by decide +kernel⟩
theorem ok_Deal___init__ {f : Addr} {fd : FuncData} (F : Fun K "__init__" "Deal.__init__" s_Deal___init__ f fd) (z_list : mg "list" = none) (o_Deal : OC K C_Deal ["wheel", "weights"]) (c_turns : Fn1 P w K mg base "turns" 3 ["weights"] (sp_turns K)) : FnOk P w K mg base CX0 4 f fd ["self", "weights"] (sp_Deal___init__ K C_Deal) := by
  refine fn_mI F sc_Deal___init__ (fun x => rfl) (fun x _ => ?_) fun cdv A outer s H E hr l ws hw => ?_
  · show (O.nvL _ && (O.nvL _ && true)) = true
    rw [O.nvL_fz, O.nvL_fz]
    rfl
  have e2 : nsPut ["wheel"] "weights" = (["wheel", "weights"] : List Str) := by decide +kernel
  have e3 : ∀ a b : O, xsPut ["wheel"] "weights" [a] b = [a, b] := fun a b => by
    unfold xsPut
    rw [if_neg (by decide +kernel)]
    rfl
  refine ms_cons (m_setFld (i := 0) (pv _) rfl (cc := o_Deal) (he := me_fn c_turns ws (ma_vw (ml_var (pv 1) rfl) ma_nil) hw (hr.mono (by decide))) (kk := ?_))
  show MS _ [some (.at l C_Deal ["wheel"] [.lst (((turnsM ws).map .int).map .fz)]), some (.vw (ws.map .int))] _ _
  refine ms_one (m_setFld (i := 0) (pv _) rfl (cc := o_Deal) (he := me_list (by rfl) z_list (ml_var (pv 1) rfl)) (kk := ?_))
  rw [e2, e3]
  rfl
inductive Xc where
  | NoEntry | TooWide
abbrev t_Xc (C_NoEntry C_TooWide : Addr) : Xc → Er
  | .NoEntry => ⟨C_NoEntry, none⟩
  | .TooWide => ⟨C_TooWide, none⟩
inductive Cd where
  | plain (p : Unit)
  | cause (p : Str)
  | thing (p : Str)
  | days (p : (Int × Int))
  | over (p : Int)
  | someOf (p : (List Cd))
mutual
def u_Cd (C_Condition C_CauseIs C_ThingIs C_DaysIn C_Over C_Some : Addr) : Cd → D
  | .plain p => .ins C_Condition [] []
  | .cause p => .ins C_CauseIs ["name"] [.str p]
  | .thing p => .ins C_ThingIs ["name"] [.str p]
  | .days p => .ins C_DaysIn ["first", "last"] [.int p.1, .int p.2]
  | .over p => .ins C_Over ["cents"] [.int p]
  | .someOf p => .ins C_Some ["several"] [.lst (u_CdL C_Condition C_CauseIs C_ThingIs C_DaysIn C_Over C_Some p)]
def u_CdL (C_Condition C_CauseIs C_ThingIs C_DaysIn C_Over C_Some : Addr) : List Cd → List D
  | [] => []
  | x :: r => u_Cd C_Condition C_CauseIs C_ThingIs C_DaysIn C_Over C_Some x :: u_CdL C_Condition C_CauseIs C_ThingIs C_DaysIn C_Over C_Some r
end
theorem u_CdL_map (C_Condition C_CauseIs C_ThingIs C_DaysIn C_Over C_Some : Addr) : ∀ xs : List Cd, u_CdL C_Condition C_CauseIs C_ThingIs C_DaysIn C_Over C_Some xs = xs.map (u_Cd C_Condition C_CauseIs C_ThingIs C_DaysIn C_Over C_Some)
  | [] => rfl
  | x :: r => congrArg (u_Cd C_Condition C_CauseIs C_ThingIs C_DaysIn C_Over C_Some x :: ·) (u_CdL_map C_Condition C_CauseIs C_ThingIs C_DaysIn C_Over C_Some r)
abbrev r_Condition (C_Condition : Addr) (p : Unit) : D := .ins C_Condition [] []
theorem u_Cd_plain (C_Condition C_CauseIs C_ThingIs C_DaysIn C_Over C_Some : Addr) (p : Unit) : u_Cd C_Condition C_CauseIs C_ThingIs C_DaysIn C_Over C_Some (.plain p) = r_Condition C_Condition p := by
  show (.ins _ _ _ : D) = .ins _ _ _
  first | rfl | (simp only [u_CdL_map])
abbrev r_CauseIs (C_CauseIs : Addr) (p : Str) : D := .ins C_CauseIs ["name"] [.str p]
theorem u_Cd_cause (C_Condition C_CauseIs C_ThingIs C_DaysIn C_Over C_Some : Addr) (p : Str) : u_Cd C_Condition C_CauseIs C_ThingIs C_DaysIn C_Over C_Some (.cause p) = r_CauseIs C_CauseIs p := by
  show (.ins _ _ _ : D) = .ins _ _ _
  first | rfl | (simp only [u_CdL_map])
abbrev r_ThingIs (C_ThingIs : Addr) (p : Str) : D := .ins C_ThingIs ["name"] [.str p]
theorem u_Cd_thing (C_Condition C_CauseIs C_ThingIs C_DaysIn C_Over C_Some : Addr) (p : Str) : u_Cd C_Condition C_CauseIs C_ThingIs C_DaysIn C_Over C_Some (.thing p) = r_ThingIs C_ThingIs p := by
  show (.ins _ _ _ : D) = .ins _ _ _
  first | rfl | (simp only [u_CdL_map])
abbrev r_DaysIn (C_DaysIn : Addr) (p : (Int × Int)) : D := .ins C_DaysIn ["first", "last"] [.int p.1, .int p.2]
theorem u_Cd_days (C_Condition C_CauseIs C_ThingIs C_DaysIn C_Over C_Some : Addr) (p : (Int × Int)) : u_Cd C_Condition C_CauseIs C_ThingIs C_DaysIn C_Over C_Some (.days p) = r_DaysIn C_DaysIn p := by
  show (.ins _ _ _ : D) = .ins _ _ _
  first | rfl | (simp only [u_CdL_map])
abbrev r_Over (C_Over : Addr) (p : Int) : D := .ins C_Over ["cents"] [.int p]
theorem u_Cd_over (C_Condition C_CauseIs C_ThingIs C_DaysIn C_Over C_Some : Addr) (p : Int) : u_Cd C_Condition C_CauseIs C_ThingIs C_DaysIn C_Over C_Some (.over p) = r_Over C_Over p := by
  show (.ins _ _ _ : D) = .ins _ _ _
  first | rfl | (simp only [u_CdL_map])
abbrev r_Some (C_Some : Addr) (C_Condition C_CauseIs C_ThingIs C_DaysIn C_Over : Addr) (p : (List Cd)) : D := .ins C_Some ["several"] [.lst (p.map (u_Cd C_Condition C_CauseIs C_ThingIs C_DaysIn C_Over C_Some))]
theorem u_Cd_someOf (C_Condition C_CauseIs C_ThingIs C_DaysIn C_Over C_Some : Addr) (p : (List Cd)) : u_Cd C_Condition C_CauseIs C_ThingIs C_DaysIn C_Over C_Some (.someOf p) = r_Some C_Some C_Condition C_CauseIs C_ThingIs C_DaysIn C_Over p := by
  show (.ins _ _ _ : D) = .ins _ _ _
  first | rfl | (simp only [u_CdL_map])
abbrev r_Cover (C_Cover : Addr) (C_Condition C_CauseIs C_ThingIs C_DaysIn C_Over C_Some C_Deal : Addr) (p : (Str × Cd × (List Unit) × (List Str) × (List Int) × Bool)) : D := .ins C_Cover ["name", "condition", "clauses", "houses", "deal", "waits"] [.str p.1, (u_Cd C_Condition C_CauseIs C_ThingIs C_DaysIn C_Over C_Some) p.2.1, .lst (p.2.2.1.map e_n), .lst (p.2.2.2.1.map D.str), (dealD C_Deal) p.2.2.2.2.1, .bl p.2.2.2.2.2]
abbrev r_Book (C_Book : Addr) (C_Cover C_Condition C_CauseIs C_ThingIs C_DaysIn C_Over C_Some C_Deal : Addr) (p : ((List (Str × Cd × (List Unit) × (List Str) × (List Int) × Bool)) × (List (Str × Cd × (List Unit) × (List Str) × (List Int) × Bool)))) : D := .ins C_Book ["covers", "asking"] [.lst (p.1.map (r_Cover C_Cover C_Condition C_CauseIs C_ThingIs C_DaysIn C_Over C_Some C_Deal)), .lst (p.2.map (r_Cover C_Cover C_Condition C_CauseIs C_ThingIs C_DaysIn C_Over C_Some C_Deal))]
structure R_Counts where
  held : (List (List Key × (List (Key × Int))))
abbrev oo_Counts (C_Counts : Addr) (p : R_Counts) : O := .ins C_Counts ["held"] [oDT (fun y => oDK (fun y => .fz (D.int y)) y) p.held]
noncomputable def M_is_whole (thing : D) : Option Bool :=
  bd (isiD "int" thing) fun k1 =>
  bd (cond k1 (bd (isiD "bool" thing) fun k2 => some (!k2)) (some false)) fun v3 =>
  some v3
def sp_is_whole (K : PySem.W.Frag) : Sp := SpF K (fun x : D => [.fz x]) (fun x => M_is_whole x) (fun r => .fz (.bl r))
abbrev N_is_whole : List Str := ["thing"]
theorem sc_is_whole : FnScope N_is_whole ["thing"] (defScope s_is_whole) := ⟨rfl, rfl, rfl, by decide +kernel, rfl, by decide +kernel, by decide +kernel⟩
theorem ok_is_whole {f : Addr} {fd : FuncData} (F : Fun K "is_whole" "is_whole" s_is_whole f fd) (z_isinstance : mg "isinstance" = none) (z_int : mg "int" = none) (z_bool : mg "bool" = none) : FnOk P w K mg base CX0 1 f fd ["thing"] (sp_is_whole K) := by
  refine fn_m F sc_is_whole (fun x => rfl) (fun x _ => rfl) fun cdv A outer s H E hr x hx => ?_
  obtain ⟨thing, r⟩ := x
  replace hx : M_is_whole thing = some r := hx
  have nd := sc_is_whole.nd
  unfold M_is_whole at hx
  show MS _ [some (.fz thing)] _ _
  replace hx := bd_some hx
  obtain ⟨k1, hk1, hx⟩ := hx
  replace hx := bd_some hx
  obtain ⟨v3, hv3, hx⟩ := hx
  refine ms_one (m_ret (ps_ret pe_w) (ME.r (ME.isB (me_and (me_isiD (T := "int") hk1 (by rfl) z_isinstance (pe_bltn (v := .ty "int") (by rfl) z_int (by decide +kernel) rfl) (mv_var (pv 0) rfl)) fun q4 => (by have hx := cond_t hv3 q4; replace hx := bd_some hx; obtain ⟨k2, hk2, hx⟩ := hx; cases hx; exact (me_one (me_not (me_isiD (T := "bool") hk2 (by rfl) z_isinstance (pe_bltn (v := .ty "bool") (by rfl) z_bool (by decide +kernel) rfl) (mv_var (pv 0) rfl)))))) (and_c hv3))) ?_)
  cases hx; rfl

noncomputable def M_is_amount (thing : D) : Option Bool :=
  bd (M_is_whole thing) fun v1 =>
  bd (cond v1 (bd (asI thing) fun v2 => some (decide (0 ≤ v2) && decide (v2 ≤ 999999999999))) (some false)) fun v3 =>
  some v3
def sp_is_amount (K : PySem.W.Frag) : Sp := SpF K (fun x : D => [.fz x]) (fun x => M_is_amount x) (fun r => .fz (.bl r))
abbrev N_is_amount : List Str := ["thing"]
theorem sc_is_amount : FnScope N_is_amount ["thing"] (defScope s_is_amount) := ⟨rfl, rfl, rfl, by decide +kernel, rfl, by decide +kernel, by decide +kernel⟩
theorem ok_is_amount {f : Addr} {fd : FuncData} (F : Fun K "is_amount" "is_amount" s_is_amount f fd) (g_MOST_CENTS : mg "MOST_CENTS" = some (.int 999999999999 tkMOST_CENTS)) (c_is_whole : Fn1 P w K mg base "is_whole" 1 ["thing"] (sp_is_whole K)) : FnOk P w K mg base CX0 2 f fd ["thing"] (sp_is_amount K) := by
  refine fn_m F sc_is_amount (fun x => rfl) (fun x _ => rfl) fun cdv A outer s H E hr x hx => ?_
  obtain ⟨thing, r⟩ := x
  replace hx : M_is_amount thing = some r := hx
  have nd := sc_is_amount.nd
  unfold M_is_amount at hx
  show MS _ [some (.fz thing)] _ _
  replace hx := bd_some hx
  obtain ⟨v1, hv1, hx⟩ := hx
  replace hx := bd_some hx
  obtain ⟨v3, hv3, hx⟩ := hx
  refine ms_one (m_ret (ps_ret pe_w) (ME.r (ME.isB (me_and (me_fn c_is_whole (thing, v1) (ma_fz (me_var (pv 0) rfl) ma_nil) hv1 (hr.mono (by decide))) fun q4 => (by have hx := cond_t hv3 q4; replace hx := bd_some hx; obtain ⟨v2, hv2, hx⟩ := hx; cases hx; exact (me_one (me_chain (f := fun i j => decide (i ≤ j)) (f' := fun i j => decide (i ≤ j)) op_le op_le me_int (ME.is (o' := .fz (.int v2)) (me_var (pv 0) rfl) (asI_is hv2)) (me_gI g_MOST_CENTS))))) (and_c hv3))) ?_)
  cases hx; rfl

noncomputable def M_is_name (thing : Str) : Option Bool :=
  cond (!true) (some false) <|
  gd (thing.length ≤ sizeLine) <|
  bd (cond (decide ((thing.length : Int) < 1)) (some true) (gd (thing.length ≤ sizeLine) <| some (decide (8 < (thing.length : Int))))) fun v3 =>
  cond v3 (some false) <|
  bd (lpO (fun (x6 : Nat) (p5 : Unit) => (cond (!decide (x6 ∈ ("abcdefghijklmnopqrstuvwxyz" : Str).cps.toList)) (some (.rt false)) <|
    some (.nx ()) : Option (Ou (Unit) (Unit) Bool))) thing.cps.toList ()) fun o7 => ouR o7 fun p5 =>
  some true
def sp_is_name (K : PySem.W.Frag) : Sp := SpF K (fun x : Str => [.fz (.str x)]) (fun x => M_is_name x) (fun r => .fz (.bl r))
abbrev N_is_name : List Str := ["thing", "sign"]
theorem sc_is_name : FnScope N_is_name ["thing"] (defScope s_is_name) := ⟨rfl, rfl, rfl, by decide +kernel, rfl, by decide +kernel, by decide +kernel⟩
theorem ok_is_name {f : Addr} {fd : FuncData} (F : Fun K "is_name" "is_name" s_is_name f fd) (z_isinstance : mg "isinstance" = none) (z_str : mg "str" = none) (z_len : mg "len" = none) (g_LETTERS_losses : mg "LETTERS_losses" = some (.str "abcdefghijklmnopqrstuvwxyz" tkLETTERS_losses)) : FnOk P w K mg base CX0 1 f fd ["thing"] (sp_is_name K) := by
  refine fn_m F sc_is_name (fun x => rfl) (fun x _ => rfl) fun cdv A outer s H E hr x hx => ?_
  obtain ⟨thing, r⟩ := x
  replace hx : M_is_name thing = some r := hx
  have nd := sc_is_name.nd
  unfold M_is_name at hx
  show MS _ [some (.fz (.str thing)), none] _ _
  refine ms_cons (m_if (t := (!true)) (mt_not (mt_val (me_isi (k := true) (by rfl) z_isinstance (pe_bltn (v := .ty "str") (by rfl) z_str (by decide +kernel) rfl) (mv_var (pv 0) rfl) rfl (by decide +kernel)))) (fun h => ?_) fun h => ms_nil ?_)
  · replace hx := cond_t hx h
    refine ms_one (m_ret (ps_ret pe_w) (ME.r me_bl) ?_)
    cases hx; rfl
  replace hx := cond_f hx h
  replace hx := gd_some hx
  obtain ⟨g1, hx⟩ := hx
  replace hx := bd_some hx
  obtain ⟨v3, hv3, hx⟩ := hx
  refine ms_cons (m_if (t := v3) (MW.t (MW.is (mw_or (mt_lt (me_lenS (by rfl) z_len (me_var (pv 0) rfl) g1) me_int) fun q4 => (by have hx := cond_f hv3 q4; replace hx := gd_some hx; obtain ⟨g2, hx⟩ := hx; cases hx; exact (mw_or1 (mt_gt (me_lenS (by rfl) z_len (me_var (pv 0) rfl) g2) me_int)))) (or_c hv3))) (fun h => ?_) fun h => ms_nil ?_)
  · replace hx := cond_t hx h
    refine ms_one (m_ret (ps_ret pe_w) (ME.r me_bl) ?_)
    cases hx; rfl
  replace hx := cond_f hx h
  replace hx := bd_some hx
  obtain ⟨o7, ho7, hx⟩ := hx
  refine ms_cons (m_forO (xs := thing.cps.toList) (enc := (fun c => D.str ⟨#[c]⟩)) (ps_for PassesOwn.never rfl (pi_str pe_w) (pg_name (i := 1) nd rfl (Or.inl rfl)) pss_w) (by exact (mi_strT (me_var (pv 0) rfl))) ho7 (fun p5 => [some (.fz (.str thing)), none]) (fun r => .fz (.bl r)) le_auto (fun x6 p5 p5o mx hx => ?_) (fun p5 τ e le => ?_) fun q e => ?_)
  ·
    refine ⟨_, _, mg_name, ?_⟩
    show MS _ [some (.fz (.str thing)), some (.fz (.str (sg1 x6)))] _ _
    refine ms_one (m_if (t := (!decide (x6 ∈ ("abcdefghijklmnopqrstuvwxyz" : Str).cps.toList))) (mt_niS (me_var (pv 1) rfl) (me_gS g_LETTERS_losses)) (fun h => ?_) fun h => ms_nil ?_)
    · replace hx := cond_t hx h
      refine ms_one (m_ret (ps_ret pe_w) (ME.r me_bl) ?_)
      cases hx; exact ⟨_, rfl, rfl⟩
    replace hx := cond_f hx h
    cases hx; exact ⟨_, rfl, le_auto⟩
  · subst e
    dsimp only [ouR] at hx
    refine ms_le le ?_
    show MS _ [some (.fz (.str thing)), none] _ _
    refine ms_one (m_ret (ps_ret pe_w) (ME.r me_bl) ?_)
    cases hx; rfl
  · subst e; cases hx; rfl

abbrev e_T_s_d (p : (Str × D)) : D := .tup [.str p.1, p.2]
noncomputable def M_Condition_marks (self : Cd) : Option (List (Str × D)) :=
  some ([] : List (Str × D))
def sp_Condition_marks (K : PySem.W.Frag) (C_Condition C_CauseIs C_ThingIs C_DaysIn C_Over C_Some : Addr) : Sp := SpF K (fun x : Cd => [.fz ((u_Cd C_Condition C_CauseIs C_ThingIs C_DaysIn C_Over C_Some) x)]) (fun x => M_Condition_marks x) (fun r => .lst ((r.map e_T_s_d).map .fz))
abbrev N_Condition_marks : List Str := ["self"]
theorem sc_Condition_marks : FnScope N_Condition_marks ["self"] (defScope s_Condition_marks) := ⟨rfl, rfl, rfl, by decide +kernel, rfl, by decide +kernel, by decide +kernel⟩
theorem ok_Condition_marks {f : Addr} {fd : FuncData} (F : Fun K "marks" "Condition.marks" s_Condition_marks f fd)  : FnOk P w K mg base CX0 1 f fd ["self"] (sp_Condition_marks K C_Condition C_CauseIs C_ThingIs C_DaysIn C_Over C_Some) := by
  refine fn_m F sc_Condition_marks (fun x => rfl) (fun x _ => O.nvL_fz _) fun cdv A outer s H E hr x hx => ?_
  obtain ⟨self, r⟩ := x
  replace hx : M_Condition_marks self = some r := hx
  have nd := sc_Condition_marks.nd
  unfold M_Condition_marks at hx
  show MS _ [some (.fz ((u_Cd C_Condition C_CauseIs C_ThingIs C_DaysIn C_Over C_Some) self))] _ _
  refine ms_one (m_ret (ps_ret pe_w) (ME.r (me_lst (ds := [].map e_T_s_d) mf_nil)) ?_)
  cases hx; rfl

noncomputable def M_CauseIs_marks (self : Str) : Option (List (Str × D)) :=
  some [(("cause" : Str), (.str self))]
def sp_CauseIs_marks (K : PySem.W.Frag) (C_CauseIs : Addr) : Sp := SpF K (fun x : Str => [.fz ((r_CauseIs C_CauseIs) x)]) (fun x => M_CauseIs_marks x) (fun r => .lst ((r.map e_T_s_d).map .fz))
abbrev N_CauseIs_marks : List Str := ["self"]
theorem sc_CauseIs_marks : FnScope N_CauseIs_marks ["self"] (defScope s_CauseIs_marks) := ⟨rfl, rfl, rfl, by decide +kernel, rfl, by decide +kernel, by decide +kernel⟩
theorem ok_CauseIs_marks {f : Addr} {fd : FuncData} (F : Fun K "marks" "CauseIs.marks" s_CauseIs_marks f fd) (o_CauseIs : OC K C_CauseIs ["name"]) : FnOk P w K mg base CX0 1 f fd ["self"] (sp_CauseIs_marks K C_CauseIs) := by
  refine fn_m F sc_CauseIs_marks (fun x => rfl) (fun x _ => O.nvL_fz _) fun cdv A outer s H E hr x hx => ?_
  obtain ⟨self, r⟩ := x
  replace hx : M_CauseIs_marks self = some r := hx
  have nd := sc_CauseIs_marks.nd
  unfold M_CauseIs_marks at hx
  show MS _ [some (.fz ((r_CauseIs C_CauseIs) self))] _ _
  refine ms_one (m_ret (ps_ret pe_w) (ME.r (me_lst (ds := [(("cause" : Str), (.str self))].map e_T_s_d) (mf_cons (me_tup (mf_cons me_str (mf_cons (me_fld (j := 0) (mv_var (pv 0) rfl) o_CauseIs) mf_nil))) mf_nil))) ?_)
  cases hx; rfl

noncomputable def M_ThingIs_marks (self : Str) : Option (List (Str × D)) :=
  some [(("thing" : Str), (.str self))]
def sp_ThingIs_marks (K : PySem.W.Frag) (C_ThingIs : Addr) : Sp := SpF K (fun x : Str => [.fz ((r_ThingIs C_ThingIs) x)]) (fun x => M_ThingIs_marks x) (fun r => .lst ((r.map e_T_s_d).map .fz))
abbrev N_ThingIs_marks : List Str := ["self"]
theorem sc_ThingIs_marks : FnScope N_ThingIs_marks ["self"] (defScope s_ThingIs_marks) := ⟨rfl, rfl, rfl, by decide +kernel, rfl, by decide +kernel, by decide +kernel⟩
theorem ok_ThingIs_marks {f : Addr} {fd : FuncData} (F : Fun K "marks" "ThingIs.marks" s_ThingIs_marks f fd) (o_ThingIs : OC K C_ThingIs ["name"]) : FnOk P w K mg base CX0 1 f fd ["self"] (sp_ThingIs_marks K C_ThingIs) := by
  refine fn_m F sc_ThingIs_marks (fun x => rfl) (fun x _ => O.nvL_fz _) fun cdv A outer s H E hr x hx => ?_
  obtain ⟨self, r⟩ := x
  replace hx : M_ThingIs_marks self = some r := hx
  have nd := sc_ThingIs_marks.nd
  unfold M_ThingIs_marks at hx
  show MS _ [some (.fz ((r_ThingIs C_ThingIs) self))] _ _
  refine ms_one (m_ret (ps_ret pe_w) (ME.r (me_lst (ds := [(("thing" : Str), (.str self))].map e_T_s_d) (mf_cons (me_tup (mf_cons me_str (mf_cons (me_fld (j := 0) (mv_var (pv 0) rfl) o_ThingIs) mf_nil))) mf_nil))) ?_)
  cases hx; rfl

noncomputable def M_DaysIn_marks (self : (Int × Int)) : Option (List (Str × D)) :=
  some [(("day" : Str), (.int self.1)), (("day" : Str), (.int (self.2 + 1)))]
def sp_DaysIn_marks (K : PySem.W.Frag) (C_DaysIn : Addr) : Sp := SpF K (fun x : (Int × Int) => [.fz ((r_DaysIn C_DaysIn) x)]) (fun x => M_DaysIn_marks x) (fun r => .lst ((r.map e_T_s_d).map .fz))
abbrev N_DaysIn_marks : List Str := ["self"]
theorem sc_DaysIn_marks : FnScope N_DaysIn_marks ["self"] (defScope s_DaysIn_marks) := ⟨rfl, rfl, rfl, by decide +kernel, rfl, by decide +kernel, by decide +kernel⟩
theorem ok_DaysIn_marks {f : Addr} {fd : FuncData} (F : Fun K "marks" "DaysIn.marks" s_DaysIn_marks f fd) (o_DaysIn : OC K C_DaysIn ["first", "last"]) : FnOk P w K mg base CX0 1 f fd ["self"] (sp_DaysIn_marks K C_DaysIn) := by
  refine fn_m F sc_DaysIn_marks (fun x => rfl) (fun x _ => O.nvL_fz _) fun cdv A outer s H E hr x hx => ?_
  obtain ⟨self, r⟩ := x
  replace hx : M_DaysIn_marks self = some r := hx
  have nd := sc_DaysIn_marks.nd
  unfold M_DaysIn_marks at hx
  show MS _ [some (.fz ((r_DaysIn C_DaysIn) self))] _ _
  refine ms_one (m_ret (ps_ret pe_w) (ME.r (me_lst (ds := [(("day" : Str), (.int self.1)), (("day" : Str), (.int (self.2 + 1)))].map e_T_s_d) (mf_cons (me_tup (mf_cons me_str (mf_cons (me_fld (j := 0) (mv_var (pv 0) rfl) o_DaysIn) mf_nil))) (mf_cons (me_tup (mf_cons me_str (mf_cons (me_add (me_fld (j := 1) (mv_var (pv 0) rfl) o_DaysIn) me_int) mf_nil))) mf_nil)))) ?_)
  cases hx; rfl

noncomputable def M_Over_marks (self : Int) : Option (List (Str × D)) :=
  some [(("cents" : Str), (.int self))]
def sp_Over_marks (K : PySem.W.Frag) (C_Over : Addr) : Sp := SpF K (fun x : Int => [.fz ((r_Over C_Over) x)]) (fun x => M_Over_marks x) (fun r => .lst ((r.map e_T_s_d).map .fz))
abbrev N_Over_marks : List Str := ["self"]
theorem sc_Over_marks : FnScope N_Over_marks ["self"] (defScope s_Over_marks) := ⟨rfl, rfl, rfl, by decide +kernel, rfl, by decide +kernel, by decide +kernel⟩
theorem ok_Over_marks {f : Addr} {fd : FuncData} (F : Fun K "marks" "Over.marks" s_Over_marks f fd) (o_Over : OC K C_Over ["cents"]) : FnOk P w K mg base CX0 1 f fd ["self"] (sp_Over_marks K C_Over) := by
  refine fn_m F sc_Over_marks (fun x => rfl) (fun x _ => O.nvL_fz _) fun cdv A outer s H E hr x hx => ?_
  obtain ⟨self, r⟩ := x
  replace hx : M_Over_marks self = some r := hx
  have nd := sc_Over_marks.nd
  unfold M_Over_marks at hx
  show MS _ [some (.fz ((r_Over C_Over) self))] _ _
  refine ms_one (m_ret (ps_ret pe_w) (ME.r (me_lst (ds := [(("cents" : Str), (.int self))].map e_T_s_d) (mf_cons (me_tup (mf_cons me_str (mf_cons (me_fld (j := 0) (mv_var (pv 0) rfl) o_Over) mf_nil))) mf_nil))) ?_)
  cases hx; rfl

abbrev e_T_i_i_s_s_s_i (p : (Int × Int × Str × Str × Str × Int)) : D := .tup [.int p.1, .int p.2.1, .str p.2.2.1, .str p.2.2.2.1, .str p.2.2.2.2.1, .int p.2.2.2.2.2]
noncomputable def M_Condition_holds (self : Cd) (loss : (Int × Int × Str × Str × Str × Int)) : Option Bool :=
  some true
def sp_Condition_holds (K : PySem.W.Frag) (C_Condition C_CauseIs C_ThingIs C_DaysIn C_Over C_Some : Addr) : Sp := SpF K (fun x : Cd × (Int × Int × Str × Str × Str × Int) => [.fz ((u_Cd C_Condition C_CauseIs C_ThingIs C_DaysIn C_Over C_Some) x.1), .fz (e_T_i_i_s_s_s_i x.2)]) (fun x => M_Condition_holds x.1 x.2) (fun r => .fz (.bl r))
abbrev N_Condition_holds : List Str := ["self", "loss"]
theorem sc_Condition_holds : FnScope N_Condition_holds ["self", "loss"] (defScope s_Condition_holds) := ⟨rfl, rfl, rfl, by decide +kernel, rfl, by decide +kernel, by decide +kernel⟩
theorem ok_Condition_holds {f : Addr} {fd : FuncData} (F : Fun K "holds" "Condition.holds" s_Condition_holds f fd)  : FnOk P w K mg base CX0 1 f fd ["self", "loss"] (sp_Condition_holds K C_Condition C_CauseIs C_ThingIs C_DaysIn C_Over C_Some) := by
  refine fn_m F sc_Condition_holds (fun x => rfl) (fun x _ => rfl) fun cdv A outer s H E hr x hx => ?_
  obtain ⟨⟨self, loss⟩, r⟩ := x
  replace hx : M_Condition_holds self loss = some r := hx
  have nd := sc_Condition_holds.nd
  unfold M_Condition_holds at hx
  show MS _ [some (.fz ((u_Cd C_Condition C_CauseIs C_ThingIs C_DaysIn C_Over C_Some) self)), some (.fz (e_T_i_i_s_s_s_i loss))] _ _
  refine ms_one (m_ret (ps_ret pe_w) (ME.r me_bl) ?_)
  cases hx; rfl

noncomputable def M_CauseIs_holds (self : Str) (loss : (Int × Int × Str × Str × Str × Int)) : Option Bool :=
  some ((loss.2.2.2.2.1 == self))
def sp_CauseIs_holds (K : PySem.W.Frag) (C_CauseIs : Addr) : Sp := SpF K (fun x : Str × (Int × Int × Str × Str × Str × Int) => [.fz ((r_CauseIs C_CauseIs) x.1), .fz (e_T_i_i_s_s_s_i x.2)]) (fun x => M_CauseIs_holds x.1 x.2) (fun r => .fz (.bl r))
abbrev N_CauseIs_holds : List Str := ["self", "loss"]
theorem sc_CauseIs_holds : FnScope N_CauseIs_holds ["self", "loss"] (defScope s_CauseIs_holds) := ⟨rfl, rfl, rfl, by decide +kernel, rfl, by decide +kernel, by decide +kernel⟩
theorem ok_CauseIs_holds {f : Addr} {fd : FuncData} (F : Fun K "holds" "CauseIs.holds" s_CauseIs_holds f fd) (o_CauseIs : OC K C_CauseIs ["name"]) : FnOk P w K mg base CX0 1 f fd ["self", "loss"] (sp_CauseIs_holds K C_CauseIs) := by
  refine fn_m F sc_CauseIs_holds (fun x => rfl) (fun x _ => rfl) fun cdv A outer s H E hr x hx => ?_
  obtain ⟨⟨self, loss⟩, r⟩ := x
  replace hx : M_CauseIs_holds self loss = some r := hx
  have nd := sc_CauseIs_holds.nd
  unfold M_CauseIs_holds at hx
  show MS _ [some (.fz ((r_CauseIs C_CauseIs) self)), some (.fz (e_T_i_i_s_s_s_i loss))] _ _
  refine ms_one (m_ret (ps_ret pe_w) (ME.r (me_eqS (me_ixT (MV.u (ME.v (me_var (pv 1) rfl)) (.fz _)) me_int rfl) (me_fld (j := 0) (mv_var (pv 0) rfl) o_CauseIs))) ?_)
  cases hx; rfl

noncomputable def M_ThingIs_holds (self : Str) (loss : (Int × Int × Str × Str × Str × Int)) : Option Bool :=
  some ((loss.2.2.2.1 == self))
def sp_ThingIs_holds (K : PySem.W.Frag) (C_ThingIs : Addr) : Sp := SpF K (fun x : Str × (Int × Int × Str × Str × Str × Int) => [.fz ((r_ThingIs C_ThingIs) x.1), .fz (e_T_i_i_s_s_s_i x.2)]) (fun x => M_ThingIs_holds x.1 x.2) (fun r => .fz (.bl r))
abbrev N_ThingIs_holds : List Str := ["self", "loss"]
theorem sc_ThingIs_holds : FnScope N_ThingIs_holds ["self", "loss"] (defScope s_ThingIs_holds) := ⟨rfl, rfl, rfl, by decide +kernel, rfl, by decide +kernel, by decide +kernel⟩
theorem ok_ThingIs_holds {f : Addr} {fd : FuncData} (F : Fun K "holds" "ThingIs.holds" s_ThingIs_holds f fd) (o_ThingIs : OC K C_ThingIs ["name"]) : FnOk P w K mg base CX0 1 f fd ["self", "loss"] (sp_ThingIs_holds K C_ThingIs) := by
  refine fn_m F sc_ThingIs_holds (fun x => rfl) (fun x _ => rfl) fun cdv A outer s H E hr x hx => ?_
  obtain ⟨⟨self, loss⟩, r⟩ := x
  replace hx : M_ThingIs_holds self loss = some r := hx
  have nd := sc_ThingIs_holds.nd
  unfold M_ThingIs_holds at hx
  show MS _ [some (.fz ((r_ThingIs C_ThingIs) self)), some (.fz (e_T_i_i_s_s_s_i loss))] _ _
  refine ms_one (m_ret (ps_ret pe_w) (ME.r (me_eqS (me_ixT (MV.u (ME.v (me_var (pv 1) rfl)) (.fz _)) me_int rfl) (me_fld (j := 0) (mv_var (pv 0) rfl) o_ThingIs))) ?_)
  cases hx; rfl

noncomputable def M_DaysIn_holds (self : (Int × Int)) (loss : (Int × Int × Str × Str × Str × Int)) : Option Bool :=
  some (decide (self.1 ≤ loss.2.1) && decide (loss.2.1 ≤ self.2))
def sp_DaysIn_holds (K : PySem.W.Frag) (C_DaysIn : Addr) : Sp := SpF K (fun x : (Int × Int) × (Int × Int × Str × Str × Str × Int) => [.fz ((r_DaysIn C_DaysIn) x.1), .fz (e_T_i_i_s_s_s_i x.2)]) (fun x => M_DaysIn_holds x.1 x.2) (fun r => .fz (.bl r))
abbrev N_DaysIn_holds : List Str := ["self", "loss"]
theorem sc_DaysIn_holds : FnScope N_DaysIn_holds ["self", "loss"] (defScope s_DaysIn_holds) := ⟨rfl, rfl, rfl, by decide +kernel, rfl, by decide +kernel, by decide +kernel⟩
theorem ok_DaysIn_holds {f : Addr} {fd : FuncData} (F : Fun K "holds" "DaysIn.holds" s_DaysIn_holds f fd) (o_DaysIn : OC K C_DaysIn ["first", "last"]) : FnOk P w K mg base CX0 1 f fd ["self", "loss"] (sp_DaysIn_holds K C_DaysIn) := by
  refine fn_m F sc_DaysIn_holds (fun x => rfl) (fun x _ => rfl) fun cdv A outer s H E hr x hx => ?_
  obtain ⟨⟨self, loss⟩, r⟩ := x
  replace hx : M_DaysIn_holds self loss = some r := hx
  have nd := sc_DaysIn_holds.nd
  unfold M_DaysIn_holds at hx
  show MS _ [some (.fz ((r_DaysIn C_DaysIn) self)), some (.fz (e_T_i_i_s_s_s_i loss))] _ _
  refine ms_one (m_ret (ps_ret pe_w) (ME.r (me_chain (f := fun i j => decide (i ≤ j)) (f' := fun i j => decide (i ≤ j)) op_le op_le (me_fld (j := 0) (mv_var (pv 0) rfl) o_DaysIn) (me_ixT (MV.u (ME.v (me_var (pv 1) rfl)) (.fz _)) me_int rfl) (me_fld (j := 1) (mv_var (pv 0) rfl) o_DaysIn))) ?_)
  cases hx; rfl

noncomputable def M_Over_holds (self : Int) (loss : (Int × Int × Str × Str × Str × Int)) : Option Bool :=
  some (decide (self < loss.2.2.2.2.2))
def sp_Over_holds (K : PySem.W.Frag) (C_Over : Addr) : Sp := SpF K (fun x : Int × (Int × Int × Str × Str × Str × Int) => [.fz ((r_Over C_Over) x.1), .fz (e_T_i_i_s_s_s_i x.2)]) (fun x => M_Over_holds x.1 x.2) (fun r => .fz (.bl r))
abbrev N_Over_holds : List Str := ["self", "loss"]
theorem sc_Over_holds : FnScope N_Over_holds ["self", "loss"] (defScope s_Over_holds) := ⟨rfl, rfl, rfl, by decide +kernel, rfl, by decide +kernel, by decide +kernel⟩
theorem ok_Over_holds {f : Addr} {fd : FuncData} (F : Fun K "holds" "Over.holds" s_Over_holds f fd) (o_Over : OC K C_Over ["cents"]) : FnOk P w K mg base CX0 1 f fd ["self", "loss"] (sp_Over_holds K C_Over) := by
  refine fn_m F sc_Over_holds (fun x => rfl) (fun x _ => rfl) fun cdv A outer s H E hr x hx => ?_
  obtain ⟨⟨self, loss⟩, r⟩ := x
  replace hx : M_Over_holds self loss = some r := hx
  have nd := sc_Over_holds.nd
  unfold M_Over_holds at hx
  show MS _ [some (.fz ((r_Over C_Over) self)), some (.fz (e_T_i_i_s_s_s_i loss))] _ _
  refine ms_one (m_ret (ps_ret pe_w) (ME.r (me_gt (me_ixT (MV.u (ME.v (me_var (pv 1) rfl)) (.fz _)) me_int rfl) (me_fld (j := 0) (mv_var (pv 0) rfl) o_Over))) ?_)
  cases hx; rfl

noncomputable def M_CauseIs___init__ (name : Str) : Option Str :=
  some name
def sp_CauseIs___init__ (K : PySem.W.Frag) (C_CauseIs : Addr) : Sp := SpX K (fun x : ((Str) × Str) => [.fz (.str x.1)]) (fun x => M_CauseIs___init__ x.1 = some x.2) (fun l x => .at l C_CauseIs [] []) (fun l x => .at l C_CauseIs ["name"] [(.fz (.str x.2))]) (fun _ => .fz .non)
def spI_CauseIs___init__ (K : PySem.W.Frag) (C_CauseIs : Addr) : Sp := SpI K C_CauseIs ["name"] (fun x : ((Str) × Str) => [.fz (.str x.1)]) (fun x => M_CauseIs___init__ x.1 = some x.2) (fun x => [(.fz (.str x.2))])
theorem toI_CauseIs___init__ {k : Nat} {f : Addr} {fd : FuncData} {ps : List Str} {C_CauseIs : Addr} (h : FnOk P w K mg base CX0 k f fd ps (sp_CauseIs___init__ K C_CauseIs)) : FnOk P w K mg base CX0 k f fd ps (spI_CauseIs___init__ K C_CauseIs) := SpX.init (fun y => y) h (fun _ => rfl) (fun _ h => h) (fun _ _ => rfl) (fun _ _ => rfl)
abbrev N_CauseIs___init__ : List Str := ["self", "name"]
theorem sc_CauseIs___init__ : FnScope N_CauseIs___init__ ["self", "name"] (defScope s_CauseIs___init__) := ⟨rfl, rfl, rfl, by decide +kernel, rfl, by decide +kernel, by decide +kernel⟩
theorem ok_CauseIs___init__ {f : Addr} {fd : FuncData} (F : Fun K "__init__" "CauseIs.__init__" s_CauseIs___init__ f fd) (o_CauseIs : OC K C_CauseIs ["name"]) : FnOk P w K mg base CX0 1 f fd ["self", "name"] (sp_CauseIs___init__ K C_CauseIs) := by
  refine fn_mX F sc_CauseIs___init__ (fun x => rfl) (fun l x _ => rfl) (fun x _ => rfl) (fun l x => ⟨_, _, _, rfl⟩) fun cdv A outer s H E hr l x hx => ?_
  obtain ⟨name, r⟩ := x
  replace hx : M_CauseIs___init__ name = some r := hx
  have nd := sc_CauseIs___init__.nd
  unfold M_CauseIs___init__ at hx
  show MS _ [some (.at l C_CauseIs [] []), some (.fz (.str name))] _ _
  refine ms_one (m_setFldN (i := 0) (pv _) rfl o_CauseIs (me_var (pv 1) rfl) ?_)
  cases hx; exact ⟨rfl, rfl⟩

noncomputable def M_ThingIs___init__ (name : Str) : Option Str :=
  some name
def sp_ThingIs___init__ (K : PySem.W.Frag) (C_ThingIs : Addr) : Sp := SpX K (fun x : ((Str) × Str) => [.fz (.str x.1)]) (fun x => M_ThingIs___init__ x.1 = some x.2) (fun l x => .at l C_ThingIs [] []) (fun l x => .at l C_ThingIs ["name"] [(.fz (.str x.2))]) (fun _ => .fz .non)
def spI_ThingIs___init__ (K : PySem.W.Frag) (C_ThingIs : Addr) : Sp := SpI K C_ThingIs ["name"] (fun x : ((Str) × Str) => [.fz (.str x.1)]) (fun x => M_ThingIs___init__ x.1 = some x.2) (fun x => [(.fz (.str x.2))])
theorem toI_ThingIs___init__ {k : Nat} {f : Addr} {fd : FuncData} {ps : List Str} {C_ThingIs : Addr} (h : FnOk P w K mg base CX0 k f fd ps (sp_ThingIs___init__ K C_ThingIs)) : FnOk P w K mg base CX0 k f fd ps (spI_ThingIs___init__ K C_ThingIs) := SpX.init (fun y => y) h (fun _ => rfl) (fun _ h => h) (fun _ _ => rfl) (fun _ _ => rfl)
abbrev N_ThingIs___init__ : List Str := ["self", "name"]
theorem sc_ThingIs___init__ : FnScope N_ThingIs___init__ ["self", "name"] (defScope s_ThingIs___init__) := ⟨rfl, rfl, rfl, by decide +kernel, rfl, by decide +kernel, by decide +kernel⟩
theorem ok_ThingIs___init__ {f : Addr} {fd : FuncData} (F : Fun K "__init__" "ThingIs.__init__" s_ThingIs___init__ f fd) (o_ThingIs : OC K C_ThingIs ["name"]) : FnOk P w K mg base CX0 1 f fd ["self", "name"] (sp_ThingIs___init__ K C_ThingIs) := by
  refine fn_mX F sc_ThingIs___init__ (fun x => rfl) (fun l x _ => rfl) (fun x _ => rfl) (fun l x => ⟨_, _, _, rfl⟩) fun cdv A outer s H E hr l x hx => ?_
  obtain ⟨name, r⟩ := x
  replace hx : M_ThingIs___init__ name = some r := hx
  have nd := sc_ThingIs___init__.nd
  unfold M_ThingIs___init__ at hx
  show MS _ [some (.at l C_ThingIs [] []), some (.fz (.str name))] _ _
  refine ms_one (m_setFldN (i := 0) (pv _) rfl o_ThingIs (me_var (pv 1) rfl) ?_)
  cases hx; exact ⟨rfl, rfl⟩

noncomputable def M_DaysIn___init__ (first : Int) (last : Int) : Option (Int × Int) :=
  some (first, last)
def sp_DaysIn___init__ (K : PySem.W.Frag) (C_DaysIn : Addr) : Sp := SpX K (fun x : ((Int × Int) × (Int × Int)) => [.fz (.int x.1.1), .fz (.int x.1.2)]) (fun x => M_DaysIn___init__ x.1.1 x.1.2 = some x.2) (fun l x => .at l C_DaysIn [] []) (fun l x => .at l C_DaysIn ["first", "last"] [(.fz (.int x.2.1)), (.fz (.int x.2.2))]) (fun _ => .fz .non)
def spI_DaysIn___init__ (K : PySem.W.Frag) (C_DaysIn : Addr) : Sp := SpI K C_DaysIn ["first", "last"] (fun x : ((Int × Int) × (Int × Int)) => [.fz (.int x.1.1), .fz (.int x.1.2)]) (fun x => M_DaysIn___init__ x.1.1 x.1.2 = some x.2) (fun x => [(.fz (.int x.2.1)), (.fz (.int x.2.2))])
theorem toI_DaysIn___init__ {k : Nat} {f : Addr} {fd : FuncData} {ps : List Str} {C_DaysIn : Addr} (h : FnOk P w K mg base CX0 k f fd ps (sp_DaysIn___init__ K C_DaysIn)) : FnOk P w K mg base CX0 k f fd ps (spI_DaysIn___init__ K C_DaysIn) := SpX.init (fun y => y) h (fun _ => rfl) (fun _ h => h) (fun _ _ => rfl) (fun _ _ => rfl)
abbrev N_DaysIn___init__ : List Str := ["self", "first", "last"]
theorem sc_DaysIn___init__ : FnScope N_DaysIn___init__ ["self", "first", "last"] (defScope s_DaysIn___init__) := ⟨rfl, rfl, rfl, by decide +kernel, rfl, by decide +kernel, by decide +kernel⟩
theorem ok_DaysIn___init__ {f : Addr} {fd : FuncData} (F : Fun K "__init__" "DaysIn.__init__" s_DaysIn___init__ f fd) (o_DaysIn : OC K C_DaysIn ["first", "last"]) : FnOk P w K mg base CX0 1 f fd ["self", "first", "last"] (sp_DaysIn___init__ K C_DaysIn) := by
  refine fn_mX F sc_DaysIn___init__ (fun x => rfl) (fun l x _ => rfl) (fun x _ => rfl) (fun l x => ⟨_, _, _, rfl⟩) fun cdv A outer s H E hr l x hx => ?_
  obtain ⟨⟨first, last⟩, r⟩ := x
  replace hx : M_DaysIn___init__ first last = some r := hx
  have nd := sc_DaysIn___init__.nd
  unfold M_DaysIn___init__ at hx
  show MS _ [some (.at l C_DaysIn [] []), some (.fz (.int first)), some (.fz (.int last))] _ _
  refine ms_cons (m_setFldN (i := 0) (pv _) rfl o_DaysIn (me_var (pv 1) rfl) ?_)
  show MS _ [some (.at l C_DaysIn ["first"] [(.fz (.int first))]), some (.fz (.int first)), some (.fz (.int last))] _ _
  refine ms_one (m_setFldN (i := 0) (pv _) rfl o_DaysIn (me_var (pv 2) rfl) ?_)
  cases hx; exact ⟨rfl, rfl⟩

noncomputable def M_Over___init__ (cents : Int) : Option Int :=
  some cents
def sp_Over___init__ (K : PySem.W.Frag) (C_Over : Addr) : Sp := SpX K (fun x : ((Int) × Int) => [.fz (.int x.1)]) (fun x => M_Over___init__ x.1 = some x.2) (fun l x => .at l C_Over [] []) (fun l x => .at l C_Over ["cents"] [(.fz (.int x.2))]) (fun _ => .fz .non)
def spI_Over___init__ (K : PySem.W.Frag) (C_Over : Addr) : Sp := SpI K C_Over ["cents"] (fun x : ((Int) × Int) => [.fz (.int x.1)]) (fun x => M_Over___init__ x.1 = some x.2) (fun x => [(.fz (.int x.2))])
theorem toI_Over___init__ {k : Nat} {f : Addr} {fd : FuncData} {ps : List Str} {C_Over : Addr} (h : FnOk P w K mg base CX0 k f fd ps (sp_Over___init__ K C_Over)) : FnOk P w K mg base CX0 k f fd ps (spI_Over___init__ K C_Over) := SpX.init (fun y => y) h (fun _ => rfl) (fun _ h => h) (fun _ _ => rfl) (fun _ _ => rfl)
abbrev N_Over___init__ : List Str := ["self", "cents"]
theorem sc_Over___init__ : FnScope N_Over___init__ ["self", "cents"] (defScope s_Over___init__) := ⟨rfl, rfl, rfl, by decide +kernel, rfl, by decide +kernel, by decide +kernel⟩
theorem ok_Over___init__ {f : Addr} {fd : FuncData} (F : Fun K "__init__" "Over.__init__" s_Over___init__ f fd) (o_Over : OC K C_Over ["cents"]) : FnOk P w K mg base CX0 1 f fd ["self", "cents"] (sp_Over___init__ K C_Over) := by
  refine fn_mX F sc_Over___init__ (fun x => rfl) (fun l x _ => rfl) (fun x _ => rfl) (fun l x => ⟨_, _, _, rfl⟩) fun cdv A outer s H E hr l x hx => ?_
  obtain ⟨cents, r⟩ := x
  replace hx : M_Over___init__ cents = some r := hx
  have nd := sc_Over___init__.nd
  unfold M_Over___init__ at hx
  show MS _ [some (.at l C_Over [] []), some (.fz (.int cents))] _ _
  refine ms_one (m_setFldN (i := 0) (pv _) rfl o_Over (me_var (pv 1) rfl) ?_)
  cases hx; exact ⟨rfl, rfl⟩

noncomputable def M_Some___init__ (several : (List Cd)) : Option (List Cd) :=
  some several
def sp_Some___init__ (K : PySem.W.Frag) (C_Some C_Condition C_CauseIs C_ThingIs C_DaysIn C_Over : Addr) : Sp := SpX K (fun x : (((List Cd)) × (List Cd)) => [.vw (x.1.map (u_Cd C_Condition C_CauseIs C_ThingIs C_DaysIn C_Over C_Some))]) (fun x => M_Some___init__ x.1 = some x.2) (fun l x => .at l C_Some [] []) (fun l x => .at l C_Some ["several"] [(.lst ((x.2.map (u_Cd C_Condition C_CauseIs C_ThingIs C_DaysIn C_Over C_Some)).map .fz))]) (fun _ => .fz .non)
def spI_Some___init__ (K : PySem.W.Frag) (C_Some C_Condition C_CauseIs C_ThingIs C_DaysIn C_Over : Addr) : Sp := SpI K C_Some ["several"] (fun x : (((List Cd)) × (List Cd)) => [.vw (x.1.map (u_Cd C_Condition C_CauseIs C_ThingIs C_DaysIn C_Over C_Some))]) (fun x => M_Some___init__ x.1 = some x.2) (fun x => [(.lst ((x.2.map (u_Cd C_Condition C_CauseIs C_ThingIs C_DaysIn C_Over C_Some)).map .fz))])
theorem toI_Some___init__ {k : Nat} {f : Addr} {fd : FuncData} {ps : List Str} {C_Some C_Condition C_CauseIs C_ThingIs C_DaysIn C_Over : Addr} (h : FnOk P w K mg base CX0 k f fd ps (sp_Some___init__ K C_Some C_Condition C_CauseIs C_ThingIs C_DaysIn C_Over)) : FnOk P w K mg base CX0 k f fd ps (spI_Some___init__ K C_Some C_Condition C_CauseIs C_ThingIs C_DaysIn C_Over) := SpX.init (fun y => y) h (fun _ => rfl) (fun _ h => h) (fun _ _ => rfl) (fun _ _ => rfl)
abbrev N_Some___init__ : List Str := ["self", "several"]
theorem sc_Some___init__ : FnScope N_Some___init__ ["self", "several"] (defScope s_Some___init__) := ⟨rfl, rfl, rfl, by decide +kernel, rfl, by decide +kernel, by decide +kernel⟩
theorem ok_Some___init__ {f : Addr} {fd : FuncData} (F : Fun K "__init__" "Some.__init__" s_Some___init__ f fd) (z_list : mg "list" = none) (o_Some : OC K C_Some ["several"]) : FnOk P w K mg base CX0 1 f fd ["self", "several"] (sp_Some___init__ K C_Some C_Condition C_CauseIs C_ThingIs C_DaysIn C_Over) := by
  refine fn_mX F sc_Some___init__ (fun x => rfl) (fun l x _ => by simp only [O.nv, O.nvL, O.nvL_fz, Bool.and_self]) (fun x _ => rfl) (fun l x => ⟨_, _, _, rfl⟩) fun cdv A outer s H E hr l x hx => ?_
  obtain ⟨several, r⟩ := x
  replace hx : M_Some___init__ several = some r := hx
  have nd := sc_Some___init__.nd
  unfold M_Some___init__ at hx
  show MS _ [some (.at l C_Some [] []), some (.vw (several.map (u_Cd C_Condition C_CauseIs C_ThingIs C_DaysIn C_Over C_Some)))] _ _
  refine ms_one (m_setFldN (i := 0) (pv _) rfl o_Some (me_list (ds := several.map (u_Cd C_Condition C_CauseIs C_ThingIs C_DaysIn C_Over C_Some)) (by rfl) z_list (ml_var (pv 1) rfl)) ?_)
  cases hx; exact ⟨rfl, rfl⟩

abbrev e_T_s_i (p : (Str × Int)) : D := .tup [.str p.1, .int p.2]
noncomputable def M_need_houses (pairs : (List (Str × Int))) : Option (List Str) :=
  lt ([] : List Str) fun found =>
  bd (lpO (fun (x2 : (Str × Int)) (p1 : (List Str)) => (bd (M_is_name ((x2).1)) fun v4 =>
    cond ((!v4) || ((p1.contains ((x2).1)))) (none) <|
    gd (p1.length < sizeLine) <|
    lt (p1 ++ [(x2).1]) fun found_1 =>
    some (.nx found_1) : Option (Ou ((List Str)) ((List Str)) (List Str)))) pairs found) fun o3 => ouR o3 fun p1 =>
  some p1
def sp_need_houses (K : PySem.W.Frag) : Sp := SpF K (fun x : (List (Str × Int)) => [.vw (x.map e_T_s_i)]) (fun x => M_need_houses x) (fun r => .lst ((r.map D.str).map .fz))
abbrev N_need_houses : List Str := ["pairs", "found", "house", "weight"]
theorem sc_need_houses : FnScope N_need_houses ["pairs"] (defScope s_need_houses) := ⟨rfl, rfl, rfl, by decide +kernel, rfl, by decide +kernel, by decide +kernel⟩
theorem ok_need_houses {f : Addr} {fd : FuncData} (F : Fun K "need_houses" "need_houses" s_need_houses f fd) (c_is_name : Fn1 P w K mg base "is_name" 1 ["thing"] (sp_is_name K)) : FnOk P w K mg base CX0 2 f fd ["pairs"] (sp_need_houses K) := by
  refine fn_m F sc_need_houses (fun x => rfl) (fun x _ => O.nvL_fz _) fun cdv A outer s H E hr x hx => ?_
  obtain ⟨pairs, r⟩ := x
  replace hx : M_need_houses pairs = some r := hx
  have nd := sc_need_houses.nd
  unfold M_need_houses at hx
  show MS _ [some (.vw (pairs.map e_T_s_i)), none, none, none] _ _
  replace hx := lt_some hx
  obtain ⟨found, efound, hx⟩ := hx
  refine ms_cons (m_set (ps_set (i := 1) nd rfl (Or.inl rfl) pe_w) (ME.is (o' := (.lst ((found.map D.str).map .fz))) (me_lst (ds := [].map D.str) mf_nil) (by rw [efound] <;> rfl)) ?_)
  show MS _ [some (.vw (pairs.map e_T_s_i)), some (.lst ((found.map D.str).map .fz)), none, none] _ _
  replace hx := bd_some hx
  obtain ⟨o3, ho3, hx⟩ := hx
  refine ms_cons (m_forO (xs := pairs) (enc := e_T_s_i) (ps_for PassesOwn.never rfl (pi_list pe_w) (pg_tup (n := 2) rfl (pgs_cons (pg_name (i := 2) nd rfl (Or.inl rfl)) (pgs_cons (pg_name (i := 3) nd rfl (Or.inl rfl)) pgs_nil))) pss_w) (by exact (mi_list (ds := pairs.map e_T_s_i) (mk_var (pv 0) rfl))) ho3 (fun p1 => [some (.vw (pairs.map e_T_s_i)), some (.lst ((p1.map D.str).map .fz)), none, none]) (fun r => .lst ((r.map D.str).map .fz)) le_auto (fun x2 p1 p1o mx hx => ?_) (fun p1 τ e le => ?_) fun q e => ?_)
  ·
    refine ⟨_, _, (mg_tup (mgs_cons mg_name (mgs_cons mg_name mgs_nil)) rfl), ?_⟩
    show MS _ [some (.vw (pairs.map e_T_s_i)), some (.lst ((p1.map D.str).map .fz)), some (.fz (.str ((x2).1))), some (.fz (.int ((x2).2)))] _ _
    replace hx := bd_some hx
    obtain ⟨v4, hv4, hx⟩ := hx
    refine ms_cons (m_if (t := ((!v4) || ((p1.contains ((x2).1))))) (MW.t (mw_or (mt_not (mt_val (me_fn c_is_name ((x2).1, v4) (ma_fz (me_var (pv 2) rfl) ma_nil) hv4 (hr.mono (by decide))))) fun _ => (mw_or1 (mt_inLT_s (xs := p1) (me_var (pv 2) rfl) (ml_var (pv 1) rfl))))) (fun h => ?_) fun h => ms_nil ?_)
    · replace hx := cond_t hx h
      cases hx
    replace hx := cond_f hx h
    replace hx := gd_some hx
    obtain ⟨g5, hx⟩ := hx
    replace hx := lt_some hx
    obtain ⟨found_1, efound_1, hx⟩ := hx
    refine ms_one (m_appendT (i := 1) (xs := p1) (enc := D.str) (y := (x2).1) g5 (pv _) rfl (me_var (pv 2) rfl) ?_)
    rw [← efound_1]
    cases hx; exact ⟨_, rfl, le_auto⟩
  · subst e
    dsimp only [ouR] at hx
    refine ms_le le ?_
    show MS _ [some (.vw (pairs.map e_T_s_i)), some (.lst ((p1.map D.str).map .fz)), none, none] _ _
    refine ms_one (m_ret (ps_ret pe_w) (mr_var (pv 1) rfl) ?_)
    cases hx; rfl
  · subst e; cases hx; rfl

abbrev e_T_i_i (p : (Int × Int)) : D := .tup [.int p.1, .int p.2]
noncomputable def M_left_out (spans : (List (Int × Int))) (at_0 : Int) : Option Int :=
  bd (lpO (fun (x2 : ((Int × Int) × Nat)) (p1 : Unit) => (cond ((decide (at_0 < (x2.1).1)) || (decide ((x2.1).2 ≤ at_0))) (some (.rt (x2.2 : Int))) <|
    some (.nx ()) : Option (Ou (Unit) (Unit) Int))) (spans.zipIdx) ()) fun o3 => ouR o3 fun p1 =>
  some (-1)
def sp_left_out (K : PySem.W.Frag) : Sp := SpF K (fun x : (List (Int × Int)) × Int => [.vw (x.1.map e_T_i_i), .fz (.int x.2)]) (fun x => M_left_out x.1 x.2) (fun r => .fz (.int r))
abbrev N_left_out : List Str := ["spans", "at", "k", "low", "high"]
theorem sc_left_out : FnScope N_left_out ["spans", "at"] (defScope s_left_out) := ⟨rfl, rfl, rfl, by decide +kernel, rfl, by decide +kernel, by decide +kernel⟩
theorem ok_left_out {f : Addr} {fd : FuncData} (F : Fun K "left_out" "left_out" s_left_out f fd) (z_enumerate : mg "enumerate" = none) (g_PAID_covers : mg "PAID_covers" = some (.int (-1) tkPAID_covers)) : FnOk P w K mg base CX0 1 f fd ["spans", "at"] (sp_left_out K) := by
  refine fn_m F sc_left_out (fun x => rfl) (fun x _ => rfl) fun cdv A outer s H E hr x hx => ?_
  obtain ⟨⟨spans, at_0⟩, r⟩ := x
  replace hx : M_left_out spans at_0 = some r := hx
  have nd := sc_left_out.nd
  unfold M_left_out at hx
  show MS _ [some (.vw (spans.map e_T_i_i)), some (.fz (.int at_0)), none, none, none] _ _
  replace hx := bd_some hx
  obtain ⟨o3, ho3, hx⟩ := hx
  refine ms_cons (m_forO (xs := (spans.zipIdx)) (enc := (fun p => D.tup [.int (p.2 : Nat), e_T_i_i p.1])) (ps_for PassesOwn.never rfl (pi_enum (by rfl) z_enumerate pa_w) (pg_tup (n := 2) rfl (pgs_cons (pg_name (i := 2) nd rfl (Or.inl rfl)) (pgs_cons (pg_tup (n := 2) rfl (pgs_cons (pg_name (i := 3) nd rfl (Or.inl rfl)) (pgs_cons (pg_name (i := 4) nd rfl (Or.inl rfl)) pgs_nil))) pgs_nil))) pss_w) (by exact (mi_enumT (xs := spans) (enc := e_T_i_i) (mk_var (pv 0) rfl))) ho3 (fun p1 => [some (.vw (spans.map e_T_i_i)), some (.fz (.int at_0)), none, none, none]) (fun r => .fz (.int r)) le_auto (fun x2 p1 p1o mx hx => ?_) (fun p1 τ e le => ?_) fun q e => ?_)
  ·
    refine ⟨_, _, (mg_tup (mgs_cons mg_name (mgs_cons (mg_tup (mgs_cons mg_name (mgs_cons mg_name mgs_nil)) rfl) mgs_nil)) rfl), ?_⟩
    show MS _ [some (.vw (spans.map e_T_i_i)), some (.fz (.int at_0)), some (.fz (.int (x2.2 : Int))), some (.fz (.int ((x2.1).1))), some (.fz (.int ((x2.1).2)))] _ _
    refine ms_one (m_if (t := ((decide (at_0 < (x2.1).1)) || (decide ((x2.1).2 ≤ at_0)))) (MW.t (mw_or (mt_lt (me_var (pv 1) rfl) (me_var (pv 3) rfl)) fun _ => (mw_or1 (mt_ge (me_var (pv 1) rfl) (me_var (pv 4) rfl))))) (fun h => ?_) fun h => ms_nil ?_)
    · replace hx := cond_t hx h
      refine ms_one (m_ret (ps_ret pe_w) (ME.r (me_var (pv 2) rfl)) ?_)
      cases hx; exact ⟨_, rfl, rfl⟩
    replace hx := cond_f hx h
    cases hx; exact ⟨_, rfl, le_auto⟩
  · subst e
    dsimp only [ouR] at hx
    refine ms_le le ?_
    show MS _ [some (.vw (spans.map e_T_i_i)), some (.fz (.int at_0)), none, none, none] _ _
    refine ms_one (m_ret (ps_ret pe_w) (ME.r (me_gI g_PAID_covers)) ?_)
    cases hx; rfl
  · subst e; cases hx; rfl


abbrev TK_holds : Type := ((List Cd) × (Int × Int × Str × Str × Str × Int) → Option Bool)
noncomputable def U_Cd_holds (r : TK_holds) (v : Cd) (y0 : (Int × Int × Str × Str × Str × Int)) : Option Bool := match v with
  | .plain p => M_Condition_holds (.plain p) y0
  | .cause p => M_CauseIs_holds p y0
  | .thing p => M_ThingIs_holds p y0
  | .days p => M_DaysIn_holds p y0
  | .over p => M_Over_holds p y0
  | .someOf p => r (p, y0)
noncomputable def M_Some_holds (r : TK_holds) (self : (List Cd)) (loss : (Int × Int × Str × Str × Str × Int)) : Option Bool :=
  bd (lpO (fun (x2 : Cd) (p1 : Unit) => (bd (U_Cd_holds r x2 loss) fun v4 =>
    cond v4 (some (.rt true)) <|
    some (.nx ()) : Option (Ou (Unit) (Unit) Bool))) self ()) fun o3 => ouR o3 fun p1 =>
  some false
noncomputable def Kn_holds : Nat → TK_holds
  | 0 => (fun _ => none)
  | n + 1 => let r := Kn_holds n; (fun x => M_Some_holds r x.1 x.2)
noncomputable def Mf_Some_holds (n : Nat) (x0 : (List Cd)) (x1 : (Int × Int × Str × Str × Str × Int)) := (Kn_holds n) (x0, x1)
def sp_Some_holds (K : PySem.W.Frag) (C_Some C_Condition C_CauseIs C_ThingIs C_DaysIn C_Over : Addr) (n : Nat) : Sp := SpF K (fun x : (List Cd) × (Int × Int × Str × Str × Str × Int) => [.fz ((r_Some C_Some C_Condition C_CauseIs C_ThingIs C_DaysIn C_Over) x.1), .fz (e_T_i_i_s_s_s_i x.2)]) (fun x => Mf_Some_holds n x.1 x.2) (fun r => .fz (.bl r))
abbrev N_Some_holds : List Str := ["self", "loss", "part"]
theorem sc_Some_holds : FnScope N_Some_holds ["self", "loss"] (defScope s_Some_holds) := ⟨rfl, rfl, rfl, by decide +kernel, rfl, by decide +kernel, by decide +kernel⟩
theorem ok_Some_holds {f : Addr} {fd : FuncData} (n : Nat) (F : Fun K "holds" "Some.holds" s_Some_holds f fd) (o_Some : OC K C_Some ["several"]) (o_Condition : OC K C_Condition []) (o_CauseIs : OC K C_CauseIs ["name"]) (o_ThingIs : OC K C_ThingIs ["name"]) (o_DaysIn : OC K C_DaysIn ["first", "last"]) (o_Over : OC K C_Over ["cents"]) (m_Condition_holds : Mt1 P w K mg base C_Condition "holds" 1 ["self", "loss"] (sp_Condition_holds K C_Condition C_CauseIs C_ThingIs C_DaysIn C_Over C_Some)) (m_CauseIs_holds : Mt1 P w K mg base C_CauseIs "holds" 1 ["self", "loss"] (sp_CauseIs_holds K C_CauseIs)) (m_ThingIs_holds : Mt1 P w K mg base C_ThingIs "holds" 1 ["self", "loss"] (sp_ThingIs_holds K C_ThingIs)) (m_DaysIn_holds : Mt1 P w K mg base C_DaysIn "holds" 1 ["self", "loss"] (sp_DaysIn_holds K C_DaysIn)) (m_Over_holds : Mt1 P w K mg base C_Over "holds" 1 ["self", "loss"] (sp_Over_holds K C_Over)) (m_Some_holds : Mt1 P w K mg base C_Some "holds" (1 + n) ["self", "loss"] (sp_Some_holds K C_Some C_Condition C_CauseIs C_ThingIs C_DaysIn C_Over n)) : FnOk P w K mg base CX0 (1 + n + 1) f fd ["self", "loss"] (sp_Some_holds K C_Some C_Condition C_CauseIs C_ThingIs C_DaysIn C_Over (n + 1)) := by
  refine fn_m F sc_Some_holds (fun x => rfl) (fun x _ => rfl) fun cdv A outer s H E hr x hx => ?_
  obtain ⟨⟨self, loss⟩, r⟩ := x
  replace hx : M_Some_holds (Kn_holds n) self loss = some r := hx
  have nd := sc_Some_holds.nd
  unfold M_Some_holds at hx
  show MS _ [some (.fz ((r_Some C_Some C_Condition C_CauseIs C_ThingIs C_DaysIn C_Over) self)), some (.fz (e_T_i_i_s_s_s_i loss)), none] _ _
  replace hx := bd_some hx
  obtain ⟨o3, ho3, hx⟩ := hx
  refine ms_cons (m_forO (xs := self) (enc := (u_Cd C_Condition C_CauseIs C_ThingIs C_DaysIn C_Over C_Some)) (ps_for PassesOwn.never rfl (pi_list pe_w) (pg_name (i := 2) nd rfl (Or.inl rfl)) pss_w) (by exact (mi_list (ds := self.map (u_Cd C_Condition C_CauseIs C_ThingIs C_DaysIn C_Over C_Some)) (ME.k (me_fld (j := 0) (mv_var (pv 0) rfl) o_Some)))) ho3 (fun p1 => [some (.fz ((r_Some C_Some C_Condition C_CauseIs C_ThingIs C_DaysIn C_Over) self)), some (.fz (e_T_i_i_s_s_s_i loss)), none]) (fun r => .fz (.bl r)) le_auto (fun x2 p1 p1o mx hx => ?_) (fun p1 τ e le => ?_) fun q e => ?_)
  ·
    refine ⟨_, _, mg_name, ?_⟩
    show MS _ [some (.fz ((r_Some C_Some C_Condition C_CauseIs C_ThingIs C_DaysIn C_Over) self)), some (.fz (e_T_i_i_s_s_s_i loss)), some (.fz ((u_Cd C_Condition C_CauseIs C_ThingIs C_DaysIn C_Over C_Some) x2))] _ _
    replace hx := bd_some hx
    obtain ⟨v4, hv4, hx⟩ := hx
    refine ms_one (m_if (t := v4) (mt_val (show ME _ _ _ (.fz (.bl v4)) from by obtain ⟨cc, hv⟩ : ∃ cc, x2 = cc := ⟨_, rfl⟩; cases cc with | plain p => exact me_mt m_Condition_holds o_Condition (((.plain p), loss), v4) (MV.as (mv_var (pv 2) rfl) (congrArg (u_Cd C_Condition C_CauseIs C_ThingIs C_DaysIn C_Over C_Some) hv)) (ma_fz (me_var (pv 1) rfl) ma_nil) rfl ((congrArg (fun q => U_Cd_holds (Kn_holds n) q loss) hv).symm.trans hv4) (hr.mono (by omega)) | cause p => exact me_mt m_CauseIs_holds o_CauseIs ((p, loss), v4) (MV.as (mv_var (pv 2) rfl) ((congrArg (u_Cd C_Condition C_CauseIs C_ThingIs C_DaysIn C_Over C_Some) hv).trans (u_Cd_cause C_Condition C_CauseIs C_ThingIs C_DaysIn C_Over C_Some _))) (ma_fz (me_var (pv 1) rfl) ma_nil) rfl ((congrArg (fun q => U_Cd_holds (Kn_holds n) q loss) hv).symm.trans hv4) (hr.mono (by omega)) | thing p => exact me_mt m_ThingIs_holds o_ThingIs ((p, loss), v4) (MV.as (mv_var (pv 2) rfl) ((congrArg (u_Cd C_Condition C_CauseIs C_ThingIs C_DaysIn C_Over C_Some) hv).trans (u_Cd_thing C_Condition C_CauseIs C_ThingIs C_DaysIn C_Over C_Some _))) (ma_fz (me_var (pv 1) rfl) ma_nil) rfl ((congrArg (fun q => U_Cd_holds (Kn_holds n) q loss) hv).symm.trans hv4) (hr.mono (by omega)) | days p => exact me_mt m_DaysIn_holds o_DaysIn ((p, loss), v4) (MV.as (mv_var (pv 2) rfl) ((congrArg (u_Cd C_Condition C_CauseIs C_ThingIs C_DaysIn C_Over C_Some) hv).trans (u_Cd_days C_Condition C_CauseIs C_ThingIs C_DaysIn C_Over C_Some _))) (ma_fz (me_var (pv 1) rfl) ma_nil) rfl ((congrArg (fun q => U_Cd_holds (Kn_holds n) q loss) hv).symm.trans hv4) (hr.mono (by omega)) | over p => exact me_mt m_Over_holds o_Over ((p, loss), v4) (MV.as (mv_var (pv 2) rfl) ((congrArg (u_Cd C_Condition C_CauseIs C_ThingIs C_DaysIn C_Over C_Some) hv).trans (u_Cd_over C_Condition C_CauseIs C_ThingIs C_DaysIn C_Over C_Some _))) (ma_fz (me_var (pv 1) rfl) ma_nil) rfl ((congrArg (fun q => U_Cd_holds (Kn_holds n) q loss) hv).symm.trans hv4) (hr.mono (by omega)) | someOf p => exact me_mt m_Some_holds o_Some ((p, loss), v4) (MV.as (mv_var (pv 2) rfl) ((congrArg (u_Cd C_Condition C_CauseIs C_ThingIs C_DaysIn C_Over C_Some) hv).trans (u_Cd_someOf C_Condition C_CauseIs C_ThingIs C_DaysIn C_Over C_Some _))) (ma_fz (me_var (pv 1) rfl) ma_nil) rfl ((congrArg (fun q => U_Cd_holds (Kn_holds n) q loss) hv).symm.trans hv4) (hr.mono (by omega)))) (fun h => ?_) fun h => ms_nil ?_)
    · replace hx := cond_t hx h
      refine ms_one (m_ret (ps_ret pe_w) (ME.r me_bl) ?_)
      cases hx; exact ⟨_, rfl, rfl⟩
    replace hx := cond_f hx h
    cases hx; exact ⟨_, rfl, le_auto⟩
  · subst e
    dsimp only [ouR] at hx
    refine ms_le le ?_
    show MS _ [some (.fz ((r_Some C_Some C_Condition C_CauseIs C_ThingIs C_DaysIn C_Over) self)), some (.fz (e_T_i_i_s_s_s_i loss)), none] _ _
    refine ms_one (m_ret (ps_ret pe_w) (ME.r me_bl) ?_)
    cases hx; rfl
  · subst e; cases hx; rfl

-- GROUP holds 64 1 : Some_holds



abbrev TK_marks : Type := ((List Cd) → Option (List (Str × D))) × ((List Cd) → Option (List (Str × D)))
noncomputable def U_Cd_marks (r : TK_marks) (v : Cd)  : Option (List (Str × D)) := match v with
  | .plain p => M_Condition_marks (.plain p) 
  | .cause p => M_CauseIs_marks p 
  | .thing p => M_ThingIs_marks p 
  | .days p => M_DaysIn_marks p 
  | .over p => M_Over_marks p 
  | .someOf p => r.2 p
noncomputable def M_joined_marks (r : TK_marks) (several : (List Cd)) : Option (List (Str × D)) :=
  lt ([] : List (Str × D)) fun found =>
  bd (lp (fun (x2 : Cd) (p1 : (List (Str × D))) => (bd (U_Cd_marks r x2) fun v4 =>
    gd (p1.length + v4.length ≤ sizeLine) <|
    lt (p1 ++ v4) fun found_1 =>
    some found_1 : Option ((List (Str × D))))) several found) fun p3 =>
  some p3
noncomputable def M_Some_marks (r : TK_marks) (self : (List Cd)) : Option (List (Str × D)) :=
  bd (r.1 self) fun v1 =>
  some v1
noncomputable def Kn_marks : Nat → TK_marks
  | 0 => (fun _ => none, fun _ => none)
  | n + 1 => let r := Kn_marks n; (fun x => M_joined_marks r x, fun x => M_Some_marks r x)
noncomputable def Mf_joined_marks (n : Nat) (x0 : (List Cd)) := (Kn_marks n).1 x0
noncomputable def Mf_Some_marks (n : Nat) (x0 : (List Cd)) := (Kn_marks n).2 x0
def sp_joined_marks (K : PySem.W.Frag) (C_Condition C_CauseIs C_ThingIs C_DaysIn C_Over C_Some : Addr) (n : Nat) : Sp := SpF K (fun x : (List Cd) => [.vw (x.map (u_Cd C_Condition C_CauseIs C_ThingIs C_DaysIn C_Over C_Some))]) (fun x => Mf_joined_marks n x) (fun r => .lst ((r.map e_T_s_d).map .fz))
def sp_Some_marks (K : PySem.W.Frag) (C_Some C_Condition C_CauseIs C_ThingIs C_DaysIn C_Over : Addr) (n : Nat) : Sp := SpF K (fun x : (List Cd) => [.fz ((r_Some C_Some C_Condition C_CauseIs C_ThingIs C_DaysIn C_Over) x)]) (fun x => Mf_Some_marks n x) (fun r => .lst ((r.map e_T_s_d).map .fz))
abbrev N_joined_marks : List Str := ["several", "found", "part"]
theorem sc_joined_marks : FnScope N_joined_marks ["several"] (defScope s_joined_marks) := ⟨rfl, rfl, rfl, by decide +kernel, rfl, by decide +kernel, by decide +kernel⟩
theorem ok_joined_marks {f : Addr} {fd : FuncData} (n : Nat) (F : Fun K "joined_marks" "joined_marks" s_joined_marks f fd) (o_Condition : OC K C_Condition []) (o_CauseIs : OC K C_CauseIs ["name"]) (o_ThingIs : OC K C_ThingIs ["name"]) (o_DaysIn : OC K C_DaysIn ["first", "last"]) (o_Over : OC K C_Over ["cents"]) (o_Some : OC K C_Some ["several"]) (m_Condition_marks : Mt1 P w K mg base C_Condition "marks" 1 ["self"] (sp_Condition_marks K C_Condition C_CauseIs C_ThingIs C_DaysIn C_Over C_Some)) (m_CauseIs_marks : Mt1 P w K mg base C_CauseIs "marks" 1 ["self"] (sp_CauseIs_marks K C_CauseIs)) (m_ThingIs_marks : Mt1 P w K mg base C_ThingIs "marks" 1 ["self"] (sp_ThingIs_marks K C_ThingIs)) (m_DaysIn_marks : Mt1 P w K mg base C_DaysIn "marks" 1 ["self"] (sp_DaysIn_marks K C_DaysIn)) (m_Over_marks : Mt1 P w K mg base C_Over "marks" 1 ["self"] (sp_Over_marks K C_Over)) (m_Some_marks : Mt1 P w K mg base C_Some "marks" (1 + n) ["self"] (sp_Some_marks K C_Some C_Condition C_CauseIs C_ThingIs C_DaysIn C_Over n)) : FnOk P w K mg base CX0 (1 + n + 1) f fd ["several"] (sp_joined_marks K C_Condition C_CauseIs C_ThingIs C_DaysIn C_Over C_Some (n + 1)) := by
  refine fn_m F sc_joined_marks (fun x => rfl) (fun x _ => O.nvL_fz _) fun cdv A outer s H E hr x hx => ?_
  obtain ⟨several, r⟩ := x
  replace hx : M_joined_marks (Kn_marks n) several = some r := hx
  have nd := sc_joined_marks.nd
  unfold M_joined_marks at hx
  show MS _ [some (.vw (several.map (u_Cd C_Condition C_CauseIs C_ThingIs C_DaysIn C_Over C_Some))), none, none] _ _
  replace hx := lt_some hx
  obtain ⟨found, efound, hx⟩ := hx
  refine ms_cons (m_set (ps_set (i := 1) nd rfl (Or.inl rfl) pe_w) (ME.is (o' := (.lst ((found.map e_T_s_d).map .fz))) (me_lst (ds := [].map e_T_s_d) mf_nil) (by rw [efound] <;> rfl)) ?_)
  show MS _ [some (.vw (several.map (u_Cd C_Condition C_CauseIs C_ThingIs C_DaysIn C_Over C_Some))), some (.lst ((found.map e_T_s_d).map .fz)), none] _ _
  replace hx := bd_some hx
  obtain ⟨p3, hp3, hx⟩ := hx
  refine ms_cons (m_forP (xs := several) (enc := (u_Cd C_Condition C_CauseIs C_ThingIs C_DaysIn C_Over C_Some)) (ps_for PassesOwn.never rfl (pi_list pe_w) (pg_name (i := 2) nd rfl (Or.inl rfl)) pss_w) (by exact (mi_list (ds := several.map (u_Cd C_Condition C_CauseIs C_ThingIs C_DaysIn C_Over C_Some)) (mk_var (pv 0) rfl))) hp3 (fun p1 => [some (.vw (several.map (u_Cd C_Condition C_CauseIs C_ThingIs C_DaysIn C_Over C_Some))), some (.lst ((p1.map e_T_s_d).map .fz)), none]) le_auto (fun x2 p1 p1o mx hx => ?_) fun τ le => ?_)
  ·
    refine ⟨_, _, mg_name, ?_⟩
    show MS _ [some (.vw (several.map (u_Cd C_Condition C_CauseIs C_ThingIs C_DaysIn C_Over C_Some))), some (.lst ((p1.map e_T_s_d).map .fz)), some (.fz ((u_Cd C_Condition C_CauseIs C_ThingIs C_DaysIn C_Over C_Some) x2))] _ _
    replace hx := bd_some hx
    obtain ⟨v4, hv4, hx⟩ := hx
    replace hx := gd_some hx
    obtain ⟨g5, hx⟩ := hx
    replace hx := lt_some hx
    obtain ⟨found_1, efound_1, hx⟩ := hx
    refine ms_one (m_extendPT (xs := p1) (ys := v4) (enc := e_T_s_d) (MQ.toP (mq_var (pv 1) rfl)) (ME.v (show ME _ _ _ (.lst ((v4.map e_T_s_d).map .fz)) from by obtain ⟨cc, hv⟩ : ∃ cc, x2 = cc := ⟨_, rfl⟩; cases cc with | plain p => exact me_mt0 m_Condition_marks o_Condition ((.plain p), v4) (MV.as (mv_var (pv 2) rfl) (congrArg (u_Cd C_Condition C_CauseIs C_ThingIs C_DaysIn C_Over C_Some) hv)) rfl ((congrArg (fun q => U_Cd_marks (Kn_marks n) q ) hv).symm.trans hv4) (hr.mono (by omega)) | cause p => exact me_mt0 m_CauseIs_marks o_CauseIs (p, v4) (MV.as (mv_var (pv 2) rfl) ((congrArg (u_Cd C_Condition C_CauseIs C_ThingIs C_DaysIn C_Over C_Some) hv).trans (u_Cd_cause C_Condition C_CauseIs C_ThingIs C_DaysIn C_Over C_Some _))) rfl ((congrArg (fun q => U_Cd_marks (Kn_marks n) q ) hv).symm.trans hv4) (hr.mono (by omega)) | thing p => exact me_mt0 m_ThingIs_marks o_ThingIs (p, v4) (MV.as (mv_var (pv 2) rfl) ((congrArg (u_Cd C_Condition C_CauseIs C_ThingIs C_DaysIn C_Over C_Some) hv).trans (u_Cd_thing C_Condition C_CauseIs C_ThingIs C_DaysIn C_Over C_Some _))) rfl ((congrArg (fun q => U_Cd_marks (Kn_marks n) q ) hv).symm.trans hv4) (hr.mono (by omega)) | days p => exact me_mt0 m_DaysIn_marks o_DaysIn (p, v4) (MV.as (mv_var (pv 2) rfl) ((congrArg (u_Cd C_Condition C_CauseIs C_ThingIs C_DaysIn C_Over C_Some) hv).trans (u_Cd_days C_Condition C_CauseIs C_ThingIs C_DaysIn C_Over C_Some _))) rfl ((congrArg (fun q => U_Cd_marks (Kn_marks n) q ) hv).symm.trans hv4) (hr.mono (by omega)) | over p => exact me_mt0 m_Over_marks o_Over (p, v4) (MV.as (mv_var (pv 2) rfl) ((congrArg (u_Cd C_Condition C_CauseIs C_ThingIs C_DaysIn C_Over C_Some) hv).trans (u_Cd_over C_Condition C_CauseIs C_ThingIs C_DaysIn C_Over C_Some _))) rfl ((congrArg (fun q => U_Cd_marks (Kn_marks n) q ) hv).symm.trans hv4) (hr.mono (by omega)) | someOf p => exact me_mt0 m_Some_marks o_Some (p, v4) (MV.as (mv_var (pv 2) rfl) ((congrArg (u_Cd C_Condition C_CauseIs C_ThingIs C_DaysIn C_Over C_Some) hv).trans (u_Cd_someOf C_Condition C_CauseIs C_ThingIs C_DaysIn C_Over C_Some _))) rfl ((congrArg (fun q => U_Cd_marks (Kn_marks n) q ) hv).symm.trans hv4) (hr.mono (by omega)))) g5 ?_)
    rw [← efound_1]
    cases hx; exact le_auto
  refine ms_le le ?_
  show MS _ [some (.vw (several.map (u_Cd C_Condition C_CauseIs C_ThingIs C_DaysIn C_Over C_Some))), some (.lst ((p3.map e_T_s_d).map .fz)), none] _ _
  refine ms_one (m_ret (ps_ret pe_w) (mr_var (pv 1) rfl) ?_)
  cases hx; rfl

abbrev N_Some_marks : List Str := ["self"]
theorem sc_Some_marks : FnScope N_Some_marks ["self"] (defScope s_Some_marks) := ⟨rfl, rfl, rfl, by decide +kernel, rfl, by decide +kernel, by decide +kernel⟩
theorem ok_Some_marks {f : Addr} {fd : FuncData} (n : Nat) (F : Fun K "marks" "Some.marks" s_Some_marks f fd) (o_Some : OC K C_Some ["several"]) (c_joined_marks : Fn1 P w K mg base "joined_marks" (1 + n) ["several"] (sp_joined_marks K C_Condition C_CauseIs C_ThingIs C_DaysIn C_Over C_Some n)) : FnOk P w K mg base CX0 (1 + n + 1) f fd ["self"] (sp_Some_marks K C_Some C_Condition C_CauseIs C_ThingIs C_DaysIn C_Over (n + 1)) := by
  refine fn_m F sc_Some_marks (fun x => rfl) (fun x _ => O.nvL_fz _) fun cdv A outer s H E hr x hx => ?_
  obtain ⟨self, r⟩ := x
  replace hx : M_Some_marks (Kn_marks n) self = some r := hx
  have nd := sc_Some_marks.nd
  unfold M_Some_marks at hx
  show MS _ [some (.fz ((r_Some C_Some C_Condition C_CauseIs C_ThingIs C_DaysIn C_Over) self))] _ _
  replace hx := bd_some hx
  obtain ⟨v1, hv1, hx⟩ := hx
  refine ms_one (m_ret (ps_ret pe_w) (ME.r (me_fn c_joined_marks (self, v1) (ma_vw (MV.l (ME.v (me_fld (j := 0) (mv_var (pv 0) rfl) o_Some)) (.fz _)) ma_nil) hv1 (hr.mono (by omega)))) ?_)
  cases hx; rfl

-- GROUP marks 64 1 : joined_marks Some_marks

noncomputable def M_Cover___init__ (name : Str) (condition : Cd) (clauses : Unit) (houses : Unit) (waits : Bool) : Option (Str × Cd × (List Unit) × (List Str) × (List Int) × Bool) :=
  bd (M_is_name name) fun v1 =>
  cond ((!v1) || ((name == ("self" : Str)))) (none) <|
  lt ([] : List Unit) fun self_clauses =>
  cond (decide (8 < (self_clauses.length : Int))) (none) <|
  lt ([(name, 1)] : (List (Str × Int))) fun pairs =>
  bd (M_need_houses pairs) fun v2 =>
  gd (pairs.length < sizeLine) <|
  bd (mpO (fun x4 : (Str × Int) => some ((x4).2)) pairs) fun v5 =>
  gd (WOk v5) <|
  some (name, condition, self_clauses, v2, v5, waits)
def sp_Cover___init__ (K : PySem.W.Frag) (C_Cover C_Condition C_CauseIs C_ThingIs C_DaysIn C_Over C_Some C_Deal : Addr) : Sp := SpX K (fun x : ((Str × Cd × Unit × Unit × Bool) × (Str × Cd × (List Unit) × (List Str) × (List Int) × Bool)) => [.fz (.str x.1.1), .fz ((u_Cd C_Condition C_CauseIs C_ThingIs C_DaysIn C_Over C_Some) x.1.2.1), .fz (.non), .fz (.non), .fz (.bl x.1.2.2.2.2)]) (fun x => M_Cover___init__ x.1.1 x.1.2.1 x.1.2.2.1 x.1.2.2.2.1 x.1.2.2.2.2 = some x.2) (fun l x => .at l C_Cover [] []) (fun l x => .at l C_Cover ["name", "condition", "clauses", "houses", "deal", "waits"] [(.fz (.str x.2.1)), (.fz ((u_Cd C_Condition C_CauseIs C_ThingIs C_DaysIn C_Over C_Some) x.2.2.1)), (.lst ((x.2.2.2.1.map e_n).map .fz)), (.lst ((x.2.2.2.2.1.map D.str).map .fz)), (.fz ((dealD C_Deal) x.2.2.2.2.2.1)), (.fz (.bl x.2.2.2.2.2.2))]) (fun _ => .fz .non)
def spI_Cover___init__ (K : PySem.W.Frag) (C_Cover C_Condition C_CauseIs C_ThingIs C_DaysIn C_Over C_Some C_Deal : Addr) : Sp := SpI K C_Cover ["name", "condition", "clauses", "houses", "deal", "waits"] (fun x : ((Str × Cd × Unit × Unit × Bool) × (Str × Cd × (List Unit) × (List Str) × (List Int) × Bool)) => [.fz (.str x.1.1), .fz ((u_Cd C_Condition C_CauseIs C_ThingIs C_DaysIn C_Over C_Some) x.1.2.1), .fz (.non), .fz (.non), .fz (.bl x.1.2.2.2.2)]) (fun x => M_Cover___init__ x.1.1 x.1.2.1 x.1.2.2.1 x.1.2.2.2.1 x.1.2.2.2.2 = some x.2) (fun x => [(.fz (.str x.2.1)), (.fz ((u_Cd C_Condition C_CauseIs C_ThingIs C_DaysIn C_Over C_Some) x.2.2.1)), (.lst ((x.2.2.2.1.map e_n).map .fz)), (.lst ((x.2.2.2.2.1.map D.str).map .fz)), (.fz ((dealD C_Deal) x.2.2.2.2.2.1)), (.fz (.bl x.2.2.2.2.2.2))])
theorem toI_Cover___init__ {k : Nat} {f : Addr} {fd : FuncData} {ps : List Str} {C_Cover C_Condition C_CauseIs C_ThingIs C_DaysIn C_Over C_Some C_Deal : Addr} (h : FnOk P w K mg base CX0 k f fd ps (sp_Cover___init__ K C_Cover C_Condition C_CauseIs C_ThingIs C_DaysIn C_Over C_Some C_Deal)) : FnOk P w K mg base CX0 k f fd ps (spI_Cover___init__ K C_Cover C_Condition C_CauseIs C_ThingIs C_DaysIn C_Over C_Some C_Deal) := SpX.init (fun y => y) h (fun _ => rfl) (fun _ h => h) (fun _ _ => rfl) (fun _ _ => rfl)
abbrev N_Cover___init__ : List Str := ["self", "name", "condition", "clauses", "houses", "waits", "pairs", "house", "weight"]
theorem sc_Cover___init__ : FnScope N_Cover___init__ ["self", "name", "condition", "clauses", "houses", "waits"] (defScope s_Cover___init__) := ⟨rfl, rfl, rfl, by decide +kernel, rfl, by decide +kernel, by decide +kernel⟩
theorem ok_Cover___init__ {f : Addr} {fd : FuncData} (F : FunD K "__init__" "Cover.__init__" (defArgs s_Cover___init__) (defBody s_Cover___init__) (defScope s_Cover___init__) [.non, .non, .bl false] [] f fd) (z_len : mg "len" = none) (g_MOST_CLAUSES : mg "MOST_CLAUSES" = some (.int 8 tkMOST_CLAUSES)) (o_Cover : OC K C_Cover ["name", "condition", "clauses", "houses", "deal", "waits"]) (c_is_name : Fn1 P w K mg base "is_name" 1 ["thing"] (sp_is_name K)) (c_need_houses : Fn1 P w K mg base "need_houses" 2 ["pairs"] (sp_need_houses K)) (i_Deal : Mk1 P w K mg base "Deal" C_Deal 4 ["self", "weights"] (sp_Deal___init__ K C_Deal)) : FnOk P w K mg base CX0 6 f fd ["self", "name", "condition", "clauses", "houses", "waits"] (sp_Cover___init__ K C_Cover C_Condition C_CauseIs C_ThingIs C_DaysIn C_Over C_Some C_Deal) := by
  refine fn_mXD F sc_Cover___init__ (fun x => rfl) (fun l x _ => by simp only [O.nv, O.nvL, O.nvL_fz, Bool.and_self]) (fun x _ => rfl) (fun l x => ⟨_, _, _, rfl⟩) fun cdv A outer s H E hr l x hx => ?_
  obtain ⟨⟨name, condition, clauses, houses, waits⟩, r⟩ := x
  replace hx : M_Cover___init__ name condition clauses houses waits = some r := hx
  have nd := sc_Cover___init__.nd
  unfold M_Cover___init__ at hx
  show MS _ [some (.at l C_Cover [] []), some (.fz (.str name)), some (.fz ((u_Cd C_Condition C_CauseIs C_ThingIs C_DaysIn C_Over C_Some) condition)), some (.fz (.non)), some (.fz (.non)), some (.fz (.bl waits)), none, none, none] _ _
  replace hx := bd_some hx
  obtain ⟨v1, hv1, hx⟩ := hx
  refine ms_cons (m_if (t := ((!v1) || ((name == ("self" : Str))))) (MW.t (mw_or (mt_not (mt_val (me_fn c_is_name (name, v1) (ma_fz (me_var (pv 1) rfl) ma_nil) hv1 (hr.mono (by decide))))) fun _ => (mw_or1 (mt_eqS (me_var (pv 1) rfl) me_str)))) (fun h => ?_) fun h => ms_nil ?_)
  · replace hx := cond_t hx h
    cases hx
  replace hx := cond_f hx h
  refine ms_cons (m_setFldN (i := 0) (pv _) rfl o_Cover (me_var (pv 1) rfl) ?_)
  show MS _ [some (.at l C_Cover ["name"] [(.fz (.str name))]), some (.fz (.str name)), some (.fz ((u_Cd C_Condition C_CauseIs C_ThingIs C_DaysIn C_Over C_Some) condition)), some (.fz (.non)), some (.fz (.non)), some (.fz (.bl waits)), none, none, none] _ _
  refine ms_cons (m_setFldN (i := 0) (pv _) rfl o_Cover (me_var (pv 2) rfl) ?_)
  show MS _ [some (.at l C_Cover ["name", "condition"] [(.fz (.str name)), (.fz ((u_Cd C_Condition C_CauseIs C_ThingIs C_DaysIn C_Over C_Some) condition))]), some (.fz (.str name)), some (.fz ((u_Cd C_Condition C_CauseIs C_ThingIs C_DaysIn C_Over C_Some) condition)), some (.fz (.non)), some (.fz (.non)), some (.fz (.bl waits)), none, none, none] _ _
  replace hx := lt_some hx
  obtain ⟨self_clauses, eself_clauses, hx⟩ := hx
  refine ms_cons (m_setFldN (i := 0) (pv _) rfl o_Cover (ME.is (o' := (.lst ((self_clauses.map e_n).map .fz))) (me_lst (ds := [].map e_n) mf_nil) (by rw [eself_clauses] <;> rfl)) ?_)
  show MS _ [some (.at l C_Cover ["name", "condition", "clauses"] [(.fz (.str name)), (.fz ((u_Cd C_Condition C_CauseIs C_ThingIs C_DaysIn C_Over C_Some) condition)), (.lst ((self_clauses.map e_n).map .fz))]), some (.fz (.str name)), some (.fz ((u_Cd C_Condition C_CauseIs C_ThingIs C_DaysIn C_Over C_Some) condition)), some (.fz (.non)), some (.fz (.non)), some (.fz (.bl waits)), none, none, none] _ _
  refine ms_cons (m_if (t := false) (MT.is (l := false) (mt_notN (mv_var (pv 3) rfl)) (by rfl)) (fun h => nomatch h) fun _ => ?_)
  refine ms_nil ?_
  refine ms_cons (m_if (t := (decide (8 < (self_clauses.length : Int)))) (mt_gt (me_lenLT (xs := self_clauses) (enc := e_n) (by rfl) z_len (MV.l (mv_fldA (j := 2) (mv_var (pv 0) rfl) (OC.take 3 o_Cover)) (.own _))) (me_gI g_MOST_CLAUSES)) (fun h => ?_) fun h => ms_nil ?_)
  · replace hx := cond_t hx h
    cases hx
  replace hx := cond_f hx h
  replace hx := lt_some hx
  obtain ⟨pairs, epairs, hx⟩ := hx
  refine ms_cons (m_set (ps_set (i := 6) nd rfl (Or.inl rfl) pe_w) (ME.is (o' := (.lst ((pairs.map e_T_s_i).map .fz))) (me_lst (ds := [(name, 1)].map e_T_s_i) (mf_cons (me_tup (mf_cons (me_var (pv 1) rfl) (mf_cons me_int mf_nil))) mf_nil)) (by rw [epairs] <;> rfl)) ?_)
  show MS _ [some (.at l C_Cover ["name", "condition", "clauses"] [(.fz (.str name)), (.fz ((u_Cd C_Condition C_CauseIs C_ThingIs C_DaysIn C_Over C_Some) condition)), (.lst ((self_clauses.map e_n).map .fz))]), some (.fz (.str name)), some (.fz ((u_Cd C_Condition C_CauseIs C_ThingIs C_DaysIn C_Over C_Some) condition)), some (.fz (.non)), some (.fz (.non)), some (.fz (.bl waits)), some (.lst ((pairs.map e_T_s_i).map .fz)), none, none] _ _
  refine ms_cons (m_if (t := false) (MT.is (l := false) (mt_notN (mv_var (pv 4) rfl)) (by rfl)) (fun h => nomatch h) fun _ => ?_)
  refine ms_nil ?_
  replace hx := bd_some hx
  obtain ⟨v2, hv2, hx⟩ := hx
  refine ms_cons (m_setFldN (i := 0) (pv _) rfl o_Cover (me_fn c_need_houses (pairs, v2) (ma_vw (ml_var (pv 6) rfl) ma_nil) hv2 (hr.mono (by decide))) ?_)
  show MS _ [some (.at l C_Cover ["name", "condition", "clauses", "houses"] [(.fz (.str name)), (.fz ((u_Cd C_Condition C_CauseIs C_ThingIs C_DaysIn C_Over C_Some) condition)), (.lst ((self_clauses.map e_n).map .fz)), (.lst ((v2.map D.str).map .fz))]), some (.fz (.str name)), some (.fz ((u_Cd C_Condition C_CauseIs C_ThingIs C_DaysIn C_Over C_Some) condition)), some (.fz (.non)), some (.fz (.non)), some (.fz (.bl waits)), some (.lst ((pairs.map e_T_s_i).map .fz)), none, none] _ _
  replace hx := gd_some hx
  obtain ⟨g3, hx⟩ := hx
  replace hx := bd_some hx
  obtain ⟨v5, hv5, hx⟩ := hx
  replace hx := gd_some hx
  obtain ⟨g6, hx⟩ := hx
  refine ms_cons (m_setFldN (i := 0) (pv _) rfl o_Cover (ME.is (o' := .fz (dealD C_Deal v5)) (ME.frz (me_make i_Deal v5 (ma_vw (ME.l (by exact (me_lcO (g := (gTup K 2 (gCons (gName 7) (gCons (gName 8) gNil)))) (xs := pairs) (ys := v5) (enc := e_T_s_i) (enc2 := D.int) hv5 (fun te he => pe_lc (own := [("house", 7), ("weight", 8)]) rfl nd (pi_list pe_w) (blkOk_by (N := N_Cover___init__) (sc := defScope s_Cover___init__) (by decide +kernel)) (fun _ _ _ _ _ => (pg_tup (n := 2) rfl (pgs_cons (pg_name (i := 7) nd rfl (Or.inl rfl)) (pgs_cons (pg_name (i := 8) nd rfl (Or.inl rfl)) pgs_nil)))) (fun _ _ _ _ _ => pts_nil) he) (mic_list (ml_var (pv 6) rfl)) g3 (fun x4 mx x4y hx => by injection hx with hx; subst x4y; exact ⟨_, _, (mg_tup (mgs_cons mg_name (mgs_cons mg_name mgs_nil)) rfl), by decide, fun s H C cl fp => (me_var (pv 8) rfl)⟩)))) ma_nil) g6 (hr.mono (by decide))) (nv_deal _ _)) (congrArg O.fz (frz_deal _ _))) ?_)
  show MS _ [some (.at l C_Cover ["name", "condition", "clauses", "houses", "deal"] [(.fz (.str name)), (.fz ((u_Cd C_Condition C_CauseIs C_ThingIs C_DaysIn C_Over C_Some) condition)), (.lst ((self_clauses.map e_n).map .fz)), (.lst ((v2.map D.str).map .fz)), (.fz ((dealD C_Deal) v5))]), some (.fz (.str name)), some (.fz ((u_Cd C_Condition C_CauseIs C_ThingIs C_DaysIn C_Over C_Some) condition)), some (.fz (.non)), some (.fz (.non)), some (.fz (.bl waits)), some (.lst ((pairs.map e_T_s_i).map .fz)), none, none] _ _
  refine ms_one (m_setFldN (i := 0) (pv _) rfl o_Cover (me_var (pv 5) rfl) ?_)
  cases hx; exact ⟨rfl, rfl⟩

noncomputable def M_Cover_asks (self : (Str × Cd × (List Unit) × (List Str) × (List Int) × Bool)) (loss : (Int × Int × Str × Str × Str × Int)) : Option Bool :=
  bd (U_Cd_holds (Kn_holds 64) self.2.1 loss) fun v1 =>
  some v1
def sp_Cover_asks (K : PySem.W.Frag) (C_Cover C_Condition C_CauseIs C_ThingIs C_DaysIn C_Over C_Some C_Deal : Addr) : Sp := SpF K (fun x : (Str × Cd × (List Unit) × (List Str) × (List Int) × Bool) × (Int × Int × Str × Str × Str × Int) => [.fz ((r_Cover C_Cover C_Condition C_CauseIs C_ThingIs C_DaysIn C_Over C_Some C_Deal) x.1), .fz (e_T_i_i_s_s_s_i x.2)]) (fun x => M_Cover_asks x.1 x.2) (fun r => .fz (.bl r))
abbrev N_Cover_asks : List Str := ["self", "loss"]
theorem sc_Cover_asks : FnScope N_Cover_asks ["self", "loss"] (defScope s_Cover_asks) := ⟨rfl, rfl, rfl, by decide +kernel, rfl, by decide +kernel, by decide +kernel⟩
theorem ok_Cover_asks {f : Addr} {fd : FuncData} (F : Fun K "asks" "Cover.asks" s_Cover_asks f fd) (o_Cover : OC K C_Cover ["name", "condition", "clauses", "houses", "deal", "waits"]) (o_Condition : OC K C_Condition []) (o_CauseIs : OC K C_CauseIs ["name"]) (o_ThingIs : OC K C_ThingIs ["name"]) (o_DaysIn : OC K C_DaysIn ["first", "last"]) (o_Over : OC K C_Over ["cents"]) (o_Some : OC K C_Some ["several"]) (m_Condition_holds : Mt1 P w K mg base C_Condition "holds" 1 ["self", "loss"] (sp_Condition_holds K C_Condition C_CauseIs C_ThingIs C_DaysIn C_Over C_Some)) (m_CauseIs_holds : Mt1 P w K mg base C_CauseIs "holds" 1 ["self", "loss"] (sp_CauseIs_holds K C_CauseIs)) (m_ThingIs_holds : Mt1 P w K mg base C_ThingIs "holds" 1 ["self", "loss"] (sp_ThingIs_holds K C_ThingIs)) (m_DaysIn_holds : Mt1 P w K mg base C_DaysIn "holds" 1 ["self", "loss"] (sp_DaysIn_holds K C_DaysIn)) (m_Over_holds : Mt1 P w K mg base C_Over "holds" 1 ["self", "loss"] (sp_Over_holds K C_Over)) (m_Some_holds : Mt1 P w K mg base C_Some "holds" 65 ["self", "loss"] (sp_Some_holds K C_Some C_Condition C_CauseIs C_ThingIs C_DaysIn C_Over 64)) : FnOk P w K mg base CX0 66 f fd ["self", "loss"] (sp_Cover_asks K C_Cover C_Condition C_CauseIs C_ThingIs C_DaysIn C_Over C_Some C_Deal) := by
  refine fn_m F sc_Cover_asks (fun x => rfl) (fun x _ => rfl) fun cdv A outer s H E hr x hx => ?_
  obtain ⟨⟨self, loss⟩, r⟩ := x
  replace hx : M_Cover_asks self loss = some r := hx
  have nd := sc_Cover_asks.nd
  unfold M_Cover_asks at hx
  show MS _ [some (.fz ((r_Cover C_Cover C_Condition C_CauseIs C_ThingIs C_DaysIn C_Over C_Some C_Deal) self)), some (.fz (e_T_i_i_s_s_s_i loss))] _ _
  replace hx := bd_some hx
  obtain ⟨v1, hv1, hx⟩ := hx
  refine ms_one (m_ret (ps_ret pe_w) (ME.r (show ME _ _ _ (.fz (.bl v1)) from by obtain ⟨cc, hv⟩ : ∃ cc, self.2.1 = cc := ⟨_, rfl⟩; cases cc with | plain p => exact me_mt m_Condition_holds o_Condition (((.plain p), loss), v1) (MV.as (ME.v (me_fld (j := 1) (mv_var (pv 0) rfl) o_Cover)) (congrArg (u_Cd C_Condition C_CauseIs C_ThingIs C_DaysIn C_Over C_Some) hv)) (ma_fz (me_var (pv 1) rfl) ma_nil) rfl ((congrArg (fun q => U_Cd_holds (Kn_holds 64) q loss) hv).symm.trans hv1) (hr.mono (by decide)) | cause p => exact me_mt m_CauseIs_holds o_CauseIs ((p, loss), v1) (MV.as (ME.v (me_fld (j := 1) (mv_var (pv 0) rfl) o_Cover)) ((congrArg (u_Cd C_Condition C_CauseIs C_ThingIs C_DaysIn C_Over C_Some) hv).trans (u_Cd_cause C_Condition C_CauseIs C_ThingIs C_DaysIn C_Over C_Some _))) (ma_fz (me_var (pv 1) rfl) ma_nil) rfl ((congrArg (fun q => U_Cd_holds (Kn_holds 64) q loss) hv).symm.trans hv1) (hr.mono (by decide)) | thing p => exact me_mt m_ThingIs_holds o_ThingIs ((p, loss), v1) (MV.as (ME.v (me_fld (j := 1) (mv_var (pv 0) rfl) o_Cover)) ((congrArg (u_Cd C_Condition C_CauseIs C_ThingIs C_DaysIn C_Over C_Some) hv).trans (u_Cd_thing C_Condition C_CauseIs C_ThingIs C_DaysIn C_Over C_Some _))) (ma_fz (me_var (pv 1) rfl) ma_nil) rfl ((congrArg (fun q => U_Cd_holds (Kn_holds 64) q loss) hv).symm.trans hv1) (hr.mono (by decide)) | days p => exact me_mt m_DaysIn_holds o_DaysIn ((p, loss), v1) (MV.as (ME.v (me_fld (j := 1) (mv_var (pv 0) rfl) o_Cover)) ((congrArg (u_Cd C_Condition C_CauseIs C_ThingIs C_DaysIn C_Over C_Some) hv).trans (u_Cd_days C_Condition C_CauseIs C_ThingIs C_DaysIn C_Over C_Some _))) (ma_fz (me_var (pv 1) rfl) ma_nil) rfl ((congrArg (fun q => U_Cd_holds (Kn_holds 64) q loss) hv).symm.trans hv1) (hr.mono (by decide)) | over p => exact me_mt m_Over_holds o_Over ((p, loss), v1) (MV.as (ME.v (me_fld (j := 1) (mv_var (pv 0) rfl) o_Cover)) ((congrArg (u_Cd C_Condition C_CauseIs C_ThingIs C_DaysIn C_Over C_Some) hv).trans (u_Cd_over C_Condition C_CauseIs C_ThingIs C_DaysIn C_Over C_Some _))) (ma_fz (me_var (pv 1) rfl) ma_nil) rfl ((congrArg (fun q => U_Cd_holds (Kn_holds 64) q loss) hv).symm.trans hv1) (hr.mono (by decide)) | someOf p => exact me_mt m_Some_holds o_Some ((p, loss), v1) (MV.as (ME.v (me_fld (j := 1) (mv_var (pv 0) rfl) o_Cover)) ((congrArg (u_Cd C_Condition C_CauseIs C_ThingIs C_DaysIn C_Over C_Some) hv).trans (u_Cd_someOf C_Condition C_CauseIs C_ThingIs C_DaysIn C_Over C_Some _))) (ma_fz (me_var (pv 1) rfl) ma_nil) rfl ((congrArg (fun q => U_Cd_holds (Kn_holds 64) q loss) hv).symm.trans hv1) (hr.mono (by decide)))) ?_)
  cases hx; rfl

noncomputable def M_Cover_spans (self : (Str × Cd × (List Unit) × (List Str) × (List Int) × Bool)) (counts : (List Int)) (cents : Int) : Option (List (Int × Int)) :=
  gd ((self.2.2.1.zipIdx).length < sizeLine) <|
  bd (mpO (fun x2 : (Unit × Nat) => (none : Option (Int × Int))) (self.2.2.1.zipIdx)) fun v3 =>
  some v3
def sp_Cover_spans (K : PySem.W.Frag) (C_Cover C_Condition C_CauseIs C_ThingIs C_DaysIn C_Over C_Some C_Deal : Addr) : Sp := SpF K (fun x : (Str × Cd × (List Unit) × (List Str) × (List Int) × Bool) × (List Int) × Int => [.fz ((r_Cover C_Cover C_Condition C_CauseIs C_ThingIs C_DaysIn C_Over C_Some C_Deal) x.1), .vw (x.2.1.map D.int), .fz (.int x.2.2)]) (fun x => M_Cover_spans x.1 x.2.1 x.2.2) (fun r => .lst ((r.map e_T_i_i).map .fz))
abbrev N_Cover_spans : List Str := ["self", "counts", "cents", "k", "clause"]
theorem sc_Cover_spans : FnScope N_Cover_spans ["self", "counts", "cents"] (defScope s_Cover_spans) := ⟨rfl, rfl, rfl, by decide +kernel, rfl, by decide +kernel, by decide +kernel⟩
theorem ok_Cover_spans {f : Addr} {fd : FuncData} (F : Fun K "spans" "Cover.spans" s_Cover_spans f fd) (z_enumerate : mg "enumerate" = none) (o_Cover : OC K C_Cover ["name", "condition", "clauses", "houses", "deal", "waits"]) : FnOk P w K mg base CX0 1 f fd ["self", "counts", "cents"] (sp_Cover_spans K C_Cover C_Condition C_CauseIs C_ThingIs C_DaysIn C_Over C_Some C_Deal) := by
  refine fn_m F sc_Cover_spans (fun x => rfl) (fun x _ => O.nvL_fz _) fun cdv A outer s H E hr x hx => ?_
  obtain ⟨⟨self, counts, cents⟩, r⟩ := x
  replace hx : M_Cover_spans self counts cents = some r := hx
  have nd := sc_Cover_spans.nd
  unfold M_Cover_spans at hx
  show MS _ [some (.fz ((r_Cover C_Cover C_Condition C_CauseIs C_ThingIs C_DaysIn C_Over C_Some C_Deal) self)), some (.vw (counts.map D.int)), some (.fz (.int cents)), none, none] _ _
  replace hx := gd_some hx
  obtain ⟨g1, hx⟩ := hx
  replace hx := bd_some hx
  obtain ⟨v3, hv3, hx⟩ := hx
  refine ms_one (m_ret (ps_ret pe_w) (ME.r (by exact (me_lcO (g := (gTup K 2 (gCons (gName 3) (gCons (gName 4) gNil)))) (xs := (self.2.2.1.zipIdx)) (ys := v3) (enc := (fun p => D.tup [.int (p.2 : Nat), e_n p.1])) (enc2 := e_T_i_i) hv3 (fun te he => pe_lc (own := [("k", 3), ("clause", 4)]) rfl nd (pi_enum (by rfl) z_enumerate pa_w) (blkOk_by (N := N_Cover_spans) (sc := defScope s_Cover_spans) (by decide +kernel)) (fun _ _ _ _ _ => (pg_tup (n := 2) rfl (pgs_cons (pg_name (i := 3) nd rfl (Or.inl rfl)) (pgs_cons (pg_name (i := 4) nd rfl (Or.inl rfl)) pgs_nil)))) (fun _ _ _ _ _ => pts_nil) he) (mic_enumT (xs := self.2.2.1) (enc := e_n) (MV.l (ME.v (me_fld (j := 2) (mv_var (pv 0) rfl) o_Cover)) (.fz _))) g1 (fun x2 mx x2y hx => by cases hx)))) ?_)
  cases hx; rfl

noncomputable def M_Cover_window (self : (Str × Cd × (List Unit) × (List Str) × (List Int) × Bool)) (counts : (List Int)) (cents : Int) : Option (Int × Int) :=
  bd (M_Cover_spans self counts cents) fun v1 =>
  bd (lp (fun (x3 : (Int × Int)) (p2 : Int × Int) => (lt (max p2.1 ((x3).1)) fun low =>
    lt (min p2.2 ((x3).2)) fun high =>
    some (low, high) : Option (Int × Int))) v1 (0, cents)) fun p4 =>
  some (p4.1, (max p4.1 p4.2))
def sp_Cover_window (K : PySem.W.Frag) (C_Cover C_Condition C_CauseIs C_ThingIs C_DaysIn C_Over C_Some C_Deal : Addr) : Sp := SpF K (fun x : (Str × Cd × (List Unit) × (List Str) × (List Int) × Bool) × (List Int) × Int => [.fz ((r_Cover C_Cover C_Condition C_CauseIs C_ThingIs C_DaysIn C_Over C_Some C_Deal) x.1), .vw (x.2.1.map D.int), .fz (.int x.2.2)]) (fun x => M_Cover_window x.1 x.2.1 x.2.2) (fun r => .fz (e_T_i_i r))
abbrev N_Cover_window : List Str := ["self", "counts", "cents", "low", "high", "first", "upto"]
theorem sc_Cover_window : FnScope N_Cover_window ["self", "counts", "cents"] (defScope s_Cover_window) := ⟨rfl, rfl, rfl, by decide +kernel, rfl, by decide +kernel, by decide +kernel⟩
theorem ok_Cover_window {f : Addr} {fd : FuncData} (F : Fun K "window" "Cover.window" s_Cover_window f fd) (z_max : mg "max" = none) (z_min : mg "min" = none) (o_Cover : OC K C_Cover ["name", "condition", "clauses", "houses", "deal", "waits"]) (m_Cover_spans : Mt1 P w K mg base C_Cover "spans" 1 ["self", "counts", "cents"] (sp_Cover_spans K C_Cover C_Condition C_CauseIs C_ThingIs C_DaysIn C_Over C_Some C_Deal)) : FnOk P w K mg base CX0 2 f fd ["self", "counts", "cents"] (sp_Cover_window K C_Cover C_Condition C_CauseIs C_ThingIs C_DaysIn C_Over C_Some C_Deal) := by
  refine fn_m F sc_Cover_window (fun x => rfl) (fun x _ => rfl) fun cdv A outer s H E hr x hx => ?_
  obtain ⟨⟨self, counts, cents⟩, r⟩ := x
  replace hx : M_Cover_window self counts cents = some r := hx
  have nd := sc_Cover_window.nd
  unfold M_Cover_window at hx
  show MS _ [some (.fz ((r_Cover C_Cover C_Condition C_CauseIs C_ThingIs C_DaysIn C_Over C_Some C_Deal) self)), some (.vw (counts.map D.int)), some (.fz (.int cents)), none, none, none, none] _ _
  refine ms_cons (m_set (ps_set (i := 3) nd rfl (Or.inl rfl) pe_w) me_int ?_)
  show MS _ [some (.fz ((r_Cover C_Cover C_Condition C_CauseIs C_ThingIs C_DaysIn C_Over C_Some C_Deal) self)), some (.vw (counts.map D.int)), some (.fz (.int cents)), some (.fz (.int (0 : Int))), none, none, none] _ _
  refine ms_cons (m_set (ps_set (i := 4) nd rfl (Or.inl rfl) pe_w) (me_var (pv 2) rfl) ?_)
  show MS _ [some (.fz ((r_Cover C_Cover C_Condition C_CauseIs C_ThingIs C_DaysIn C_Over C_Some C_Deal) self)), some (.vw (counts.map D.int)), some (.fz (.int cents)), some (.fz (.int (0 : Int))), some (.fz (.int cents)), none, none] _ _
  replace hx := bd_some hx
  obtain ⟨v1, hv1, hx⟩ := hx
  replace hx := bd_some hx
  obtain ⟨p4, hp4, hx⟩ := hx
  refine ms_cons (m_forP (xs := v1) (enc := e_T_i_i) (ps_for PassesOwn.never rfl (pi_list pe_w) (pg_tup (n := 2) rfl (pgs_cons (pg_name (i := 5) nd rfl (Or.inl rfl)) (pgs_cons (pg_name (i := 6) nd rfl (Or.inl rfl)) pgs_nil))) pss_w) (by exact (mi_list (ds := v1.map e_T_i_i) (ME.k (ME.frzl (me_mt m_Cover_spans o_Cover ((self, counts, cents), v1) (mv_var (pv 0) rfl) (ma_vw (ml_var (pv 1) rfl) (ma_fz (me_var (pv 2) rfl) ma_nil)) rfl hv1 (hr.mono (by decide))))))) hp4 (fun p2 => [some (.fz ((r_Cover C_Cover C_Condition C_CauseIs C_ThingIs C_DaysIn C_Over C_Some C_Deal) self)), some (.vw (counts.map D.int)), some (.fz (.int cents)), some (.fz (.int p2.1)), some (.fz (.int p2.2)), none, none]) le_auto (fun x3 p2 p2o mx hx => ?_) fun τ le => ?_)
  ·
    refine ⟨_, _, (mg_tup (mgs_cons mg_name (mgs_cons mg_name mgs_nil)) rfl), ?_⟩
    show MS _ [some (.fz ((r_Cover C_Cover C_Condition C_CauseIs C_ThingIs C_DaysIn C_Over C_Some C_Deal) self)), some (.vw (counts.map D.int)), some (.fz (.int cents)), some (.fz (.int p2.1)), some (.fz (.int p2.2)), some (.fz (.int ((x3).1))), some (.fz (.int ((x3).2)))] _ _
    replace hx := lt_some hx
    obtain ⟨low, elow, hx⟩ := hx
    refine ms_cons (m_set (ps_set (i := 3) nd rfl (Or.inl rfl) pe_w) (ME.is (o' := (.fz (.int low))) (me_max rfl (by rfl) z_max (me_var (pv 3) rfl) (me_var (pv 5) rfl)) (by rw [elow] <;> rfl)) ?_)
    show MS _ [some (.fz ((r_Cover C_Cover C_Condition C_CauseIs C_ThingIs C_DaysIn C_Over C_Some C_Deal) self)), some (.vw (counts.map D.int)), some (.fz (.int cents)), some (.fz (.int low)), some (.fz (.int p2.2)), some (.fz (.int ((x3).1))), some (.fz (.int ((x3).2)))] _ _
    replace hx := lt_some hx
    obtain ⟨high, ehigh, hx⟩ := hx
    refine ms_one (m_set (ps_set (i := 4) nd rfl (Or.inl rfl) pe_w) (ME.is (o' := (.fz (.int high))) (me_min rfl (by rfl) z_min (me_var (pv 4) rfl) (me_var (pv 6) rfl)) (by rw [ehigh] <;> rfl)) ?_)
    cases hx; exact le_auto
  refine ms_le le ?_
  show MS _ [some (.fz ((r_Cover C_Cover C_Condition C_CauseIs C_ThingIs C_DaysIn C_Over C_Some C_Deal) self)), some (.vw (counts.map D.int)), some (.fz (.int cents)), some (.fz (.int p4.1)), some (.fz (.int p4.2)), none, none] _ _
  refine ms_one (m_ret (ps_ret pe_w) (ME.r (me_tup (mf_cons (me_var (pv 3) rfl) (mf_cons (me_max rfl (by rfl) z_max (me_var (pv 3) rfl) (me_var (pv 4) rfl)) mf_nil)))) ?_)
  cases hx; rfl

abbrev e_T_i_i_i (p : (Int × Int × Int)) : D := .tup [.int p.1, .int p.2.1, .int p.2.2]
noncomputable def M_Cover_parts (self : (Str × Cd × (List Unit) × (List Str) × (List Int) × Bool)) (counts : (List Int)) (cents : Int) : Option (List (Int × Int × Int)) :=
  bd (M_Cover_spans self counts cents) fun v1 =>
  lt ([0, cents] : (List Int)) fun ends =>
  bd (lp (fun (x3 : (Int × Int)) (p2 : (List Int)) => (gd (p2.length + [(x3).1, (x3).2].length ≤ sizeLine) <|
    lt (p2 ++ [(x3).1, (x3).2]) fun ends_1 =>
    some ends_1 : Option ((List Int)))) v1 ends) fun p4 =>
  gd (SrtOk D.int p4) <|
  lt (srt D.int p4) fun ends_2 =>
  lt ([] : List (Int × Int × Int)) fun found =>
  bd (lp (fun (x8 : (Int × Int)) (p7 : (List (Int × Int × Int))) => (bd (M_left_out v1 x8.1) fun v10 =>
    bd (cond (decide (x8.1 < x8.2)) (gd (D.ok (.lst (p7.map e_T_i_i_i)) ∧ D.ok (.lst (([] : List (Int × Int × Int)).map e_T_i_i_i))) <| bd (cond (!(D.eqv (.lst (p7.map e_T_i_i_i)) (.lst (([] : List (Int × Int × Int)).map e_T_i_i_i)))) (bd (L2.atI p7 (-(1 : Int))) fun v12 => some ((v12.2.2 == v10))) (some false)) fun v13 => some v13) (some false)) fun v15 =>
    cond v15 (bd (L2.atI p7 (-(1 : Int))) fun v17 =>
      bd (ixN p7.length (-(1 : Int))) fun j18 =>
      lt (p7.set j18 (v17.1, x8.2, v10)) fun found_1 =>
      some found_1) (cond (decide (x8.1 < x8.2)) (gd (p7.length < sizeLine) <|
        lt (p7 ++ [(x8.1, x8.2, v10)]) fun found_2 =>
        some found_2) (some p7)) : Option ((List (Int × Int × Int))))) ((cutG ends_2 none (some (-(1 : Int)))).zip (cutG ends_2 (some (1 : Int)) none)) found) fun p9 =>
  some p9
def sp_Cover_parts (K : PySem.W.Frag) (C_Cover C_Condition C_CauseIs C_ThingIs C_DaysIn C_Over C_Some C_Deal : Addr) : Sp := SpF K (fun x : (Str × Cd × (List Unit) × (List Str) × (List Int) × Bool) × (List Int) × Int => [.fz ((r_Cover C_Cover C_Condition C_CauseIs C_ThingIs C_DaysIn C_Over C_Some C_Deal) x.1), .vw (x.2.1.map D.int), .fz (.int x.2.2)]) (fun x => M_Cover_parts x.1 x.2.1 x.2.2) (fun r => .lst ((r.map e_T_i_i_i).map .fz))
abbrev N_Cover_parts : List Str := ["self", "counts", "cents", "spans", "ends", "low", "high", "found", "lo", "hi", "k"]
theorem sc_Cover_parts : FnScope N_Cover_parts ["self", "counts", "cents"] (defScope s_Cover_parts) := ⟨rfl, rfl, rfl, by decide +kernel, rfl, by decide +kernel, by decide +kernel⟩
theorem ok_Cover_parts {f : Addr} {fd : FuncData} (F : Fun K "parts" "Cover.parts" s_Cover_parts f fd) (z_sorted : mg "sorted" = none) (z_zip : mg "zip" = none) (o_Cover : OC K C_Cover ["name", "condition", "clauses", "houses", "deal", "waits"]) (m_Cover_spans : Mt1 P w K mg base C_Cover "spans" 1 ["self", "counts", "cents"] (sp_Cover_spans K C_Cover C_Condition C_CauseIs C_ThingIs C_DaysIn C_Over C_Some C_Deal)) (c_left_out : Fn1 P w K mg base "left_out" 1 ["spans", "at"] (sp_left_out K)) : FnOk P w K mg base CX0 2 f fd ["self", "counts", "cents"] (sp_Cover_parts K C_Cover C_Condition C_CauseIs C_ThingIs C_DaysIn C_Over C_Some C_Deal) := by
  refine fn_m F sc_Cover_parts (fun x => rfl) (fun x _ => O.nvL_fz _) fun cdv A outer s H E hr x hx => ?_
  obtain ⟨⟨self, counts, cents⟩, r⟩ := x
  replace hx : M_Cover_parts self counts cents = some r := hx
  have nd := sc_Cover_parts.nd
  unfold M_Cover_parts at hx
  show MS _ [some (.fz ((r_Cover C_Cover C_Condition C_CauseIs C_ThingIs C_DaysIn C_Over C_Some C_Deal) self)), some (.vw (counts.map D.int)), some (.fz (.int cents)), none, none, none, none, none, none, none, none] _ _
  replace hx := bd_some hx
  obtain ⟨v1, hv1, hx⟩ := hx
  refine ms_cons (m_set (ps_set (i := 3) nd rfl (Or.inl rfl) pe_w) (me_mt m_Cover_spans o_Cover ((self, counts, cents), v1) (mv_var (pv 0) rfl) (ma_vw (ml_var (pv 1) rfl) (ma_fz (me_var (pv 2) rfl) ma_nil)) rfl hv1 (hr.mono (by decide))) ?_)
  show MS _ [some (.fz ((r_Cover C_Cover C_Condition C_CauseIs C_ThingIs C_DaysIn C_Over C_Some C_Deal) self)), some (.vw (counts.map D.int)), some (.fz (.int cents)), some (.lst ((v1.map e_T_i_i).map .fz)), none, none, none, none, none, none, none] _ _
  replace hx := lt_some hx
  obtain ⟨ends, eends, hx⟩ := hx
  refine ms_cons (m_set (ps_set (i := 4) nd rfl (Or.inl rfl) pe_w) (ME.is (o' := (.lst ((ends.map D.int).map .fz))) (me_lst (ds := [0, cents].map D.int) (mf_cons me_int (mf_cons (me_var (pv 2) rfl) mf_nil))) (by rw [eends] <;> rfl)) ?_)
  show MS _ [some (.fz ((r_Cover C_Cover C_Condition C_CauseIs C_ThingIs C_DaysIn C_Over C_Some C_Deal) self)), some (.vw (counts.map D.int)), some (.fz (.int cents)), some (.lst ((v1.map e_T_i_i).map .fz)), some (.lst ((ends.map D.int).map .fz)), none, none, none, none, none, none] _ _
  refine ms_frzl (i := 3) rfl ?_
  show MS _ [some (.fz ((r_Cover C_Cover C_Condition C_CauseIs C_ThingIs C_DaysIn C_Over C_Some C_Deal) self)), some (.vw (counts.map D.int)), some (.fz (.int cents)), some (.fz (.lst (v1.map e_T_i_i))), some (.lst ((ends.map D.int).map .fz)), none, none, none, none, none, none] _ _
  replace hx := bd_some hx
  obtain ⟨p4, hp4, hx⟩ := hx
  refine ms_cons (m_forP (xs := v1) (enc := e_T_i_i) (ps_for PassesOwn.never rfl (pi_list pe_w) (pg_tup (n := 2) rfl (pgs_cons (pg_name (i := 5) nd rfl (Or.inl rfl)) (pgs_cons (pg_name (i := 6) nd rfl (Or.inl rfl)) pgs_nil))) pss_w) (by exact (mi_list (ds := v1.map e_T_i_i) (mk_var (pv 3) rfl))) hp4 (fun p2 => [some (.fz ((r_Cover C_Cover C_Condition C_CauseIs C_ThingIs C_DaysIn C_Over C_Some C_Deal) self)), some (.vw (counts.map D.int)), some (.fz (.int cents)), some (.fz (.lst (v1.map e_T_i_i))), some (.lst ((p2.map D.int).map .fz)), none, none, none, none, none, none]) le_auto (fun x3 p2 p2o mx hx => ?_) fun τ le => ?_)
  ·
    refine ⟨_, _, (mg_tup (mgs_cons mg_name (mgs_cons mg_name mgs_nil)) rfl), ?_⟩
    show MS _ [some (.fz ((r_Cover C_Cover C_Condition C_CauseIs C_ThingIs C_DaysIn C_Over C_Some C_Deal) self)), some (.vw (counts.map D.int)), some (.fz (.int cents)), some (.fz (.lst (v1.map e_T_i_i))), some (.lst ((p2.map D.int).map .fz)), some (.fz (.int ((x3).1))), some (.fz (.int ((x3).2))), none, none, none, none] _ _
    replace hx := gd_some hx
    obtain ⟨g5, hx⟩ := hx
    replace hx := lt_some hx
    obtain ⟨ends_1, eends_1, hx⟩ := hx
    refine ms_one (m_extendPT (xs := p2) (ys := [(x3).1, (x3).2]) (enc := D.int) (MQ.toP (mq_var (pv 4) rfl)) (ME.v (me_lst (ds := [(x3).1, (x3).2].map D.int) (mf_cons (me_var (pv 5) rfl) (mf_cons (me_var (pv 6) rfl) mf_nil)))) g5 ?_)
    rw [← eends_1]
    cases hx; exact le_auto
  refine ms_le le ?_
  show MS _ [some (.fz ((r_Cover C_Cover C_Condition C_CauseIs C_ThingIs C_DaysIn C_Over C_Some C_Deal) self)), some (.vw (counts.map D.int)), some (.fz (.int cents)), some (.fz (.lst (v1.map e_T_i_i))), some (.lst ((p4.map D.int).map .fz)), none, none, none, none, none, none] _ _
  replace hx := gd_some hx
  obtain ⟨g6, hx⟩ := hx
  replace hx := lt_some hx
  obtain ⟨ends_2, eends_2, hx⟩ := hx
  refine ms_cons (m_set (ps_set (i := 4) nd rfl (Or.inl rfl) pe_w) (ME.is (o' := (.lst ((ends_2.map D.int).map .fz))) (me_sorted (bs := p4) (enc := D.int) hr.units (by rfl) z_sorted (ml_var (pv 4) rfl) g6.1 g6.2.1 g6.2.2.1 g6.2.2.2) (by rw [eends_2] <;> rfl)) ?_)
  show MS _ [some (.fz ((r_Cover C_Cover C_Condition C_CauseIs C_ThingIs C_DaysIn C_Over C_Some C_Deal) self)), some (.vw (counts.map D.int)), some (.fz (.int cents)), some (.fz (.lst (v1.map e_T_i_i))), some (.lst ((ends_2.map D.int).map .fz)), none, none, none, none, none, none] _ _
  replace hx := lt_some hx
  obtain ⟨found, efound, hx⟩ := hx
  refine ms_cons (m_set (ps_set (i := 7) nd rfl (Or.inl rfl) pe_w) (ME.is (o' := (.lst ((found.map e_T_i_i_i).map .fz))) (me_lst (ds := [].map e_T_i_i_i) mf_nil) (by rw [efound] <;> rfl)) ?_)
  show MS _ [some (.fz ((r_Cover C_Cover C_Condition C_CauseIs C_ThingIs C_DaysIn C_Over C_Some C_Deal) self)), some (.vw (counts.map D.int)), some (.fz (.int cents)), some (.fz (.lst (v1.map e_T_i_i))), some (.lst ((ends_2.map D.int).map .fz)), none, none, some (.lst ((found.map e_T_i_i_i).map .fz)), none, none, none] _ _
  replace hx := bd_some hx
  obtain ⟨p9, hp9, hx⟩ := hx
  refine ms_cons (m_forP (xs := ((cutG ends_2 none (some (-(1 : Int)))).zip (cutG ends_2 (some (1 : Int)) none))) (enc := (fun p => D.tup [D.int p.1, D.int p.2])) (ps_for PassesOwn.never rfl (pi_zip (by rfl) z_zip pa_w) (pg_tup (n := 2) rfl (pgs_cons (pg_name (i := 8) nd rfl (Or.inl rfl)) (pgs_cons (pg_name (i := 9) nd rfl (Or.inl rfl)) pgs_nil))) pss_w) (by exact (mi_zipT (xs := (cutG ends_2 none (some (-(1 : Int))))) (ys := (cutG ends_2 (some (1 : Int)) none)) (enc := D.int) (enc2 := D.int) (ME.k (ME.frzl (me_slLT (xs := ends_2) (enc := D.int) (ml_var (pv 4) rfl) .none (.some (me_neg me_int))))) (ME.k (ME.frzl (me_slLT (xs := ends_2) (enc := D.int) (ml_var (pv 4) rfl) (.some me_int) .none))))) hp9 (fun p7 => [some (.fz ((r_Cover C_Cover C_Condition C_CauseIs C_ThingIs C_DaysIn C_Over C_Some C_Deal) self)), some (.vw (counts.map D.int)), some (.fz (.int cents)), some (.fz (.lst (v1.map e_T_i_i))), some (.lst ((ends_2.map D.int).map .fz)), none, none, some (.lst ((p7.map e_T_i_i_i).map .fz)), none, none, none]) le_auto (fun x8 p7 p7o mx hx => ?_) fun τ le => ?_)
  ·
    refine ⟨_, _, (mg_tup (mgs_cons mg_name (mgs_cons mg_name mgs_nil)) rfl), ?_⟩
    show MS _ [some (.fz ((r_Cover C_Cover C_Condition C_CauseIs C_ThingIs C_DaysIn C_Over C_Some C_Deal) self)), some (.vw (counts.map D.int)), some (.fz (.int cents)), some (.fz (.lst (v1.map e_T_i_i))), some (.lst ((ends_2.map D.int).map .fz)), none, none, some (.lst ((p7.map e_T_i_i_i).map .fz)), some (.fz (.int x8.1)), some (.fz (.int x8.2)), none] _ _
    replace hx := bd_some hx
    obtain ⟨v10, hv10, hx⟩ := hx
    refine ms_cons (m_set (ps_set (i := 10) nd rfl (Or.inl rfl) pe_w) (me_fn c_left_out ((v1, x8.1), v10) (ma_vw (ml_var (pv 3) rfl) (ma_fz (me_var (pv 8) rfl) ma_nil)) hv10 (hr.mono (by decide))) ?_)
    show MS _ [some (.fz ((r_Cover C_Cover C_Condition C_CauseIs C_ThingIs C_DaysIn C_Over C_Some C_Deal) self)), some (.vw (counts.map D.int)), some (.fz (.int cents)), some (.fz (.lst (v1.map e_T_i_i))), some (.lst ((ends_2.map D.int).map .fz)), none, none, some (.lst ((p7.map e_T_i_i_i).map .fz)), some (.fz (.int x8.1)), some (.fz (.int x8.2)), some (.fz (.int v10))] _ _
    replace hx := bd_some hx
    obtain ⟨v15, hv15, hx⟩ := hx
    refine ms_one (m_if (t := v15) (MW.t (MW.is (mw_and (mt_lt (me_var (pv 8) rfl) (me_var (pv 9) rfl)) fun q16 => (by have hx := cond_t hv15 q16; replace hx := gd_some hx; obtain ⟨g11, hx⟩ := hx; replace hx := bd_some hx; obtain ⟨v13, hv13, hx⟩ := hx; first | (cases hx; exact (MW.is (mw_and (mt_neDT (d1 := .lst (p7.map e_T_i_i_i)) (d2 := .lst (([] : List (Int × Int × Int)).map e_T_i_i_i)) hr.units g11 frz_own frz_own (mv_var (pv 7) rfl) (ME.v (me_lst (ds := [].map e_T_i_i_i) mf_nil))) fun q14 => (by have hx := cond_t hv13 q14; replace hx := bd_some hx; obtain ⟨v12, hv12, hx⟩ := hx; cases hx; exact (mw_and1 (mt_eqI (me_ixT (MV.u (ME.v (me_ixLT (xs := p7) (enc := e_T_i_i_i) hv12 (ml_var (pv 7) rfl) (me_neg me_int))) (.fz _)) me_int rfl) (me_var (pv 10) rfl))))) (and_c hv13))) | (injection hx with hx; subst hx; exact (MW.is (mw_and (mt_neDT (d1 := .lst (p7.map e_T_i_i_i)) (d2 := .lst (([] : List (Int × Int × Int)).map e_T_i_i_i)) hr.units g11 frz_own frz_own (mv_var (pv 7) rfl) (ME.v (me_lst (ds := [].map e_T_i_i_i) mf_nil))) fun q14 => (by have hx := cond_t hv13 q14; replace hx := bd_some hx; obtain ⟨v12, hv12, hx⟩ := hx; cases hx; exact (mw_and1 (mt_eqI (me_ixT (MV.u (ME.v (me_ixLT (xs := p7) (enc := e_T_i_i_i) hv12 (ml_var (pv 7) rfl) (me_neg me_int))) (.fz _)) me_int rfl) (me_var (pv 10) rfl))))) (and_c hv13))))) (and_c hv15))) (fun h => ?_) fun h => ?_)
    · replace hx := cond_t hx h
      replace hx := bd_some hx
      obtain ⟨v17, hv17, hx⟩ := hx
      replace hx := bd_some hx
      obtain ⟨j18, hj18, hx⟩ := hx
      replace hx := lt_some hx
      obtain ⟨found_1, efound_1, hx⟩ := hx
      refine ms_one (m_setItemT (i := 7) (xs := p7) (enc := e_T_i_i_i) (y := (v17.1, x8.2, v10)) hj18 (pv _) rfl (me_neg me_int) (me_tup (mf_cons (me_ixT (MV.u (ME.v (me_ixLT (xs := p7) (enc := e_T_i_i_i) hv17 (ml_var (pv 7) rfl) (me_neg me_int))) (.fz _)) me_int rfl) (mf_cons (me_var (pv 9) rfl) (mf_cons (me_var (pv 10) rfl) mf_nil)))) ?_)
      rw [← efound_1]
      cases hx; exact le_auto
    · replace hx := cond_f hx h
      refine ms_one (m_if (t := (decide (x8.1 < x8.2))) (mt_lt (me_var (pv 8) rfl) (me_var (pv 9) rfl)) (fun h => ?_) fun h => ?_)
      · replace hx := cond_t hx h
        replace hx := gd_some hx
        obtain ⟨g19, hx⟩ := hx
        replace hx := lt_some hx
        obtain ⟨found_2, efound_2, hx⟩ := hx
        refine ms_one (m_appendT (i := 7) (xs := p7) (enc := e_T_i_i_i) (y := (x8.1, x8.2, v10)) g19 (pv _) rfl (me_tup (mf_cons (me_var (pv 8) rfl) (mf_cons (me_var (pv 9) rfl) (mf_cons (me_var (pv 10) rfl) mf_nil)))) ?_)
        rw [← efound_2]
        cases hx; exact le_auto
      · replace hx := cond_f hx h
        refine ms_nil ?_
        cases hx; exact le_auto
  refine ms_le le ?_
  show MS _ [some (.fz ((r_Cover C_Cover C_Condition C_CauseIs C_ThingIs C_DaysIn C_Over C_Some C_Deal) self)), some (.vw (counts.map D.int)), some (.fz (.int cents)), some (.fz (.lst (v1.map e_T_i_i))), some (.lst ((ends_2.map D.int).map .fz)), none, none, some (.lst ((p9.map e_T_i_i_i).map .fz)), none, none, none] _ _
  refine ms_one (m_ret (ps_ret pe_w) (mr_var (pv 7) rfl) ?_)
  cases hx; rfl

abbrev e_N_T_i_i (p : (Option (Int × Int))) : D := match p with
  | some v => e_T_i_i v
  | none => .non
noncomputable def M_Cover_rest (self : (Str × Cd × (List Unit) × (List Str) × (List Int) × Bool)) (counts : (List Int)) : Option (Option (Int × Int)) :=
  bd (lp (fun (x2 : (Unit × Nat)) (p1 : (Option (Int × Int))) => (none : Option ((Option (Int × Int))))) (self.2.2.1.zipIdx) none) fun p3 =>
  some p3
def sp_Cover_rest (K : PySem.W.Frag) (C_Cover C_Condition C_CauseIs C_ThingIs C_DaysIn C_Over C_Some C_Deal : Addr) : Sp := SpF K (fun x : (Str × Cd × (List Unit) × (List Str) × (List Int) × Bool) × (List Int) => [.fz ((r_Cover C_Cover C_Condition C_CauseIs C_ThingIs C_DaysIn C_Over C_Some C_Deal) x.1), .vw (x.2.map D.int)]) (fun x => M_Cover_rest x.1 x.2) (fun r => .fz (e_N_T_i_i r))
abbrev N_Cover_rest : List Str := ["self", "counts", "best", "k", "clause", "room"]
theorem sc_Cover_rest : FnScope N_Cover_rest ["self", "counts"] (defScope s_Cover_rest) := ⟨rfl, rfl, rfl, by decide +kernel, rfl, by decide +kernel, by decide +kernel⟩
theorem ok_Cover_rest {f : Addr} {fd : FuncData} (F : Fun K "rest" "Cover.rest" s_Cover_rest f fd) (z_enumerate : mg "enumerate" = none) (o_Cover : OC K C_Cover ["name", "condition", "clauses", "houses", "deal", "waits"]) : FnOk P w K mg base CX0 1 f fd ["self", "counts"] (sp_Cover_rest K C_Cover C_Condition C_CauseIs C_ThingIs C_DaysIn C_Over C_Some C_Deal) := by
  refine fn_m F sc_Cover_rest (fun x => rfl) (fun x _ => rfl) fun cdv A outer s H E hr x hx => ?_
  obtain ⟨⟨self, counts⟩, r⟩ := x
  replace hx : M_Cover_rest self counts = some r := hx
  have nd := sc_Cover_rest.nd
  unfold M_Cover_rest at hx
  show MS _ [some (.fz ((r_Cover C_Cover C_Condition C_CauseIs C_ThingIs C_DaysIn C_Over C_Some C_Deal) self)), some (.vw (counts.map D.int)), none, none, none, none] _ _
  refine ms_cons (m_set (ps_set (i := 2) nd rfl (Or.inl rfl) pe_w) me_non ?_)
  show MS _ [some (.fz ((r_Cover C_Cover C_Condition C_CauseIs C_ThingIs C_DaysIn C_Over C_Some C_Deal) self)), some (.vw (counts.map D.int)), some (.fz (e_N_T_i_i none)), none, none, none] _ _
  replace hx := bd_some hx
  obtain ⟨p3, hp3, hx⟩ := hx
  refine ms_cons (m_forP (xs := (self.2.2.1.zipIdx)) (enc := (fun p => D.tup [.int (p.2 : Nat), e_n p.1])) (ps_for PassesOwn.never rfl (pi_enum (by rfl) z_enumerate pa_w) (pg_tup (n := 2) rfl (pgs_cons (pg_name (i := 3) nd rfl (Or.inl rfl)) (pgs_cons (pg_name (i := 4) nd rfl (Or.inl rfl)) pgs_nil))) pss_w) (by exact (mi_enumT (xs := self.2.2.1) (enc := e_n) (ME.k (me_fld (j := 2) (mv_var (pv 0) rfl) o_Cover)))) hp3 (fun p1 => [some (.fz ((r_Cover C_Cover C_Condition C_CauseIs C_ThingIs C_DaysIn C_Over C_Some C_Deal) self)), some (.vw (counts.map D.int)), some (.fz (e_N_T_i_i p1)), none, none, none]) le_auto (fun x2 p1 p1o mx hx => ?_) fun τ le => ?_)
  ·
    refine ⟨_, _, (mg_tup (mgs_cons mg_name (mgs_cons mg_name mgs_nil)) rfl), ?_⟩
    show MS _ [some (.fz ((r_Cover C_Cover C_Condition C_CauseIs C_ThingIs C_DaysIn C_Over C_Some C_Deal) self)), some (.vw (counts.map D.int)), some (.fz (e_N_T_i_i p1)), some (.fz (.int (x2.2 : Int))), some (.fz (.non)), none] _ _
    cases hx
  refine ms_le le ?_
  show MS _ [some (.fz ((r_Cover C_Cover C_Condition C_CauseIs C_ThingIs C_DaysIn C_Over C_Some C_Deal) self)), some (.vw (counts.map D.int)), some (.fz (e_N_T_i_i p3)), none, none, none] _ _
  refine ms_one (m_ret (ps_ret pe_w) (ME.r (me_var (pv 2) rfl)) ?_)
  cases hx; rfl
noncomputable def M_Book___init__ (covers : (List (Str × Cd × (List Unit) × (List Str) × (List Int) × Bool))) : Option ((List (Str × Cd × (List Unit) × (List Str) × (List Int) × Bool)) × (List (Str × Cd × (List Unit) × (List Str) × (List Int) × Bool))) :=
  cond (decide (8 < (covers.length : Int))) (none) <|
  gd (covers.length < sizeLine) <|
  bd (mpO (fun x2 : (Str × Cd × (List Unit) × (List Str) × (List Int) × Bool) => some x2.1) covers) fun v3 =>
  gd (v3.length + 1 < scanBound) <|
  cond (decide (((dd v3).length : Int) < (covers.length : Int))) (none) <|
  gd (covers.length < sizeLine) <|
  bd (fmO (fun x6 : (Str × Cd × (List Unit) × (List Str) × (List Int) × Bool) => some (!x6.2.2.2.2.2)) (fun x6 : (Str × Cd × (List Unit) × (List Str) × (List Int) × Bool) => some x6) covers) fun v7 =>
  gd (covers.length < sizeLine) <|
  bd (fmO (fun x10 : (Str × Cd × (List Unit) × (List Str) × (List Int) × Bool) => some x10.2.2.2.2.2) (fun x10 : (Str × Cd × (List Unit) × (List Str) × (List Int) × Bool) => some x10) covers) fun v11 =>
  gd (v7.length + v11.length ≤ sizeLine) <|
  lt (v7 ++ v11) fun self_asking =>
  some (covers, self_asking)
def sp_Book___init__ (K : PySem.W.Frag) (C_Book C_Cover C_Condition C_CauseIs C_ThingIs C_DaysIn C_Over C_Some C_Deal : Addr) : Sp := SpX K (fun x : (((List (Str × Cd × (List Unit) × (List Str) × (List Int) × Bool))) × ((List (Str × Cd × (List Unit) × (List Str) × (List Int) × Bool)) × (List (Str × Cd × (List Unit) × (List Str) × (List Int) × Bool)))) => [.vw (x.1.map (r_Cover C_Cover C_Condition C_CauseIs C_ThingIs C_DaysIn C_Over C_Some C_Deal))]) (fun x => M_Book___init__ x.1 = some x.2) (fun l x => .at l C_Book [] []) (fun l x => .at l C_Book ["covers", "asking"] [(.lst ((x.2.1.map (r_Cover C_Cover C_Condition C_CauseIs C_ThingIs C_DaysIn C_Over C_Some C_Deal)).map .fz)), (.lst ((x.2.2.map (r_Cover C_Cover C_Condition C_CauseIs C_ThingIs C_DaysIn C_Over C_Some C_Deal)).map .fz))]) (fun _ => .fz .non)
def spI_Book___init__ (K : PySem.W.Frag) (C_Book C_Cover C_Condition C_CauseIs C_ThingIs C_DaysIn C_Over C_Some C_Deal : Addr) : Sp := SpI K C_Book ["covers", "asking"] (fun x : (((List (Str × Cd × (List Unit) × (List Str) × (List Int) × Bool))) × ((List (Str × Cd × (List Unit) × (List Str) × (List Int) × Bool)) × (List (Str × Cd × (List Unit) × (List Str) × (List Int) × Bool)))) => [.vw (x.1.map (r_Cover C_Cover C_Condition C_CauseIs C_ThingIs C_DaysIn C_Over C_Some C_Deal))]) (fun x => M_Book___init__ x.1 = some x.2) (fun x => [(.lst ((x.2.1.map (r_Cover C_Cover C_Condition C_CauseIs C_ThingIs C_DaysIn C_Over C_Some C_Deal)).map .fz)), (.lst ((x.2.2.map (r_Cover C_Cover C_Condition C_CauseIs C_ThingIs C_DaysIn C_Over C_Some C_Deal)).map .fz))])
theorem toI_Book___init__ {k : Nat} {f : Addr} {fd : FuncData} {ps : List Str} {C_Book C_Cover C_Condition C_CauseIs C_ThingIs C_DaysIn C_Over C_Some C_Deal : Addr} (h : FnOk P w K mg base CX0 k f fd ps (sp_Book___init__ K C_Book C_Cover C_Condition C_CauseIs C_ThingIs C_DaysIn C_Over C_Some C_Deal)) : FnOk P w K mg base CX0 k f fd ps (spI_Book___init__ K C_Book C_Cover C_Condition C_CauseIs C_ThingIs C_DaysIn C_Over C_Some C_Deal) := SpX.init (fun y => y) h (fun _ => rfl) (fun _ h => h) (fun _ _ => rfl) (fun _ _ => rfl)
abbrev N_Book___init__ : List Str := ["self", "covers", "firm", "cover"]
theorem sc_Book___init__ : FnScope N_Book___init__ ["self", "covers"] (defScope s_Book___init__) := ⟨rfl, rfl, rfl, by decide +kernel, rfl, by decide +kernel, by decide +kernel⟩
theorem ok_Book___init__ {f : Addr} {fd : FuncData} (F : Fun K "__init__" "Book.__init__" s_Book___init__ f fd) (z_len : mg "len" = none) (z_set : mg "set" = none) (z_list : mg "list" = none) (g_MOST_COVERS : mg "MOST_COVERS" = some (.int 8 tkMOST_COVERS)) (o_Cover : OC K C_Cover ["name", "condition", "clauses", "houses", "deal", "waits"]) (o_Book : OC K C_Book ["covers", "asking"]) : FnOk P w K mg base CX0 1 f fd ["self", "covers"] (sp_Book___init__ K C_Book C_Cover C_Condition C_CauseIs C_ThingIs C_DaysIn C_Over C_Some C_Deal) := by
  refine fn_mX F sc_Book___init__ (fun x => rfl) (fun l x _ => by simp only [O.nv, O.nvL, O.nvL_fz, Bool.and_self]) (fun x _ => rfl) (fun l x => ⟨_, _, _, rfl⟩) fun cdv A outer s H E hr l x hx => ?_
  obtain ⟨covers, r⟩ := x
  replace hx : M_Book___init__ covers = some r := hx
  have nd := sc_Book___init__.nd
  unfold M_Book___init__ at hx
  show MS _ [some (.at l C_Book [] []), some (.vw (covers.map (r_Cover C_Cover C_Condition C_CauseIs C_ThingIs C_DaysIn C_Over C_Some C_Deal))), none, none] _ _
  refine ms_cons (m_if (t := (decide (8 < (covers.length : Int)))) (mt_gt (me_lenLT (xs := covers) (enc := (r_Cover C_Cover C_Condition C_CauseIs C_ThingIs C_DaysIn C_Over C_Some C_Deal)) (by rfl) z_len (ml_var (pv 1) rfl)) (me_gI g_MOST_COVERS)) (fun h => ?_) fun h => ms_nil ?_)
  · replace hx := cond_t hx h
    cases hx
  replace hx := cond_f hx h
  replace hx := gd_some hx
  obtain ⟨g1, hx⟩ := hx
  replace hx := bd_some hx
  obtain ⟨v3, hv3, hx⟩ := hx
  replace hx := gd_some hx
  obtain ⟨g4, hx⟩ := hx
  refine ms_cons (m_if (t := (decide (((dd v3).length : Int) < (covers.length : Int)))) (mt_lt (me_lenSet (xs := v3) rfl (by rfl) z_len (by rfl) z_set (ME.l (by exact (me_lcO (g := (gName 3)) (xs := covers) (ys := v3) (enc := (r_Cover C_Cover C_Condition C_CauseIs C_ThingIs C_DaysIn C_Over C_Some C_Deal)) (enc2 := D.str) hv3 (fun te he => pe_lc (own := [("cover", 3)]) rfl nd (pi_list pe_w) (blkOk_by (N := N_Book___init__) (sc := defScope s_Book___init__) (by decide +kernel)) (fun _ _ _ _ _ => (pg_name (i := 3) nd rfl (Or.inl rfl))) (fun _ _ _ _ _ => pts_nil) he) (mic_list (ml_var (pv 1) rfl)) g1 (fun x2 mx x2y hx => by injection hx with hx; subst x2y; exact ⟨_, _, mg_name, by decide, fun s H C cl fp => (me_fld (j := 0) (mv_var (pv 3) rfl) o_Cover)⟩)))) g4) (me_lenLT (xs := covers) (enc := (r_Cover C_Cover C_Condition C_CauseIs C_ThingIs C_DaysIn C_Over C_Some C_Deal)) (by rfl) z_len (ml_var (pv 1) rfl))) (fun h => ?_) fun h => ms_nil ?_)
  · replace hx := cond_t hx h
    cases hx
  replace hx := cond_f hx h
  refine ms_cons (m_setFldN (i := 0) (pv _) rfl o_Book (me_list (ds := covers.map (r_Cover C_Cover C_Condition C_CauseIs C_ThingIs C_DaysIn C_Over C_Some C_Deal)) (by rfl) z_list (ml_var (pv 1) rfl)) ?_)
  show MS _ [some (.at l C_Book ["covers"] [(.lst ((covers.map (r_Cover C_Cover C_Condition C_CauseIs C_ThingIs C_DaysIn C_Over C_Some C_Deal)).map .fz))]), some (.vw (covers.map (r_Cover C_Cover C_Condition C_CauseIs C_ThingIs C_DaysIn C_Over C_Some C_Deal))), none, none] _ _
  replace hx := gd_some hx
  obtain ⟨g5, hx⟩ := hx
  replace hx := bd_some hx
  obtain ⟨v7, hv7, hx⟩ := hx
  refine ms_cons (m_setLcIfO (i := 2) (g := (gName 3)) (xs := covers) (ys := v7) (enc := (r_Cover C_Cover C_Condition C_CauseIs C_ThingIs C_DaysIn C_Over C_Some C_Deal)) (enc2 := (r_Cover C_Cover C_Condition C_CauseIs C_ThingIs C_DaysIn C_Over C_Some C_Deal)) hv7 (fun tt te ht he => ps_setLc (i := 2) (own := [("cover", 3)]) rfl nd rfl rfl (sw_true rfl rfl rfl (by decide +kernel)) (pi_list pe_w) (blkOk_by (N := N_Book___init__) (sc := defScope s_Book___init__) (by decide +kernel)) (fun _ _ _ _ _ => (pg_name (i := 3) nd rfl (Or.inl rfl))) (fun s H C cl fp => pts_one (ht s H C cl fp)) he) (mic_list (ml_var (pv 1) rfl)) g5 (fun x6 mx k8 hx => by have hx := hx; injection hx with hx; subst k8; exact ⟨_, _, mg_name, by decide, fun s H C cl fp => ⟨(mt_not (mt_val (me_fld (j := 5) (mv_var (pv 3) rfl) o_Cover))), fun hk x6y hx => by injection hx with hx; subst x6y; exact (me_var (pv 3) rfl)⟩⟩) ?_)
  show MS _ [some (.at l C_Book ["covers"] [(.lst ((covers.map (r_Cover C_Cover C_Condition C_CauseIs C_ThingIs C_DaysIn C_Over C_Some C_Deal)).map .fz))]), some (.vw (covers.map (r_Cover C_Cover C_Condition C_CauseIs C_ThingIs C_DaysIn C_Over C_Some C_Deal))), some (.lst ((v7.map (r_Cover C_Cover C_Condition C_CauseIs C_ThingIs C_DaysIn C_Over C_Some C_Deal)).map .fz)), none] _ _
  replace hx := gd_some hx
  obtain ⟨g9, hx⟩ := hx
  replace hx := bd_some hx
  obtain ⟨v11, hv11, hx⟩ := hx
  replace hx := gd_some hx
  obtain ⟨g13, hx⟩ := hx
  replace hx := lt_some hx
  obtain ⟨self_asking, eself_asking, hx⟩ := hx
  refine ms_one (m_setFldN (i := 0) (pv _) rfl o_Book (ME.is (o' := (.lst ((self_asking.map (r_Cover C_Cover C_Condition C_CauseIs C_ThingIs C_DaysIn C_Over C_Some C_Deal)).map .fz))) (me_catLT (xs := v7) (ys := v11) (enc := (r_Cover C_Cover C_Condition C_CauseIs C_ThingIs C_DaysIn C_Over C_Some C_Deal)) g13 (mv_var (pv 2) rfl) (ME.v (by exact (me_lcIfO (g := (gName 3)) (xs := covers) (ys := v11) (enc := (r_Cover C_Cover C_Condition C_CauseIs C_ThingIs C_DaysIn C_Over C_Some C_Deal)) (enc2 := (r_Cover C_Cover C_Condition C_CauseIs C_ThingIs C_DaysIn C_Over C_Some C_Deal)) hv11 (fun tt te ht he => pe_lc (own := [("cover", 3)]) rfl nd (pi_list pe_w) (blkOk_by (N := N_Book___init__) (sc := defScope s_Book___init__) (by decide +kernel)) (fun _ _ _ _ _ => (pg_name (i := 3) nd rfl (Or.inl rfl))) (fun s H C cl fp => pts_one (ht s H C cl fp)) he) (mic_list (ml_var (pv 1) rfl)) g9 (fun x10 mx k12 hx => by have hx := hx; injection hx with hx; subst k12; exact ⟨_, _, mg_name, by decide, fun s H C cl fp => ⟨(mt_val (me_fld (j := 5) (mv_var (pv 3) rfl) o_Cover)), fun hk x10y hx => by injection hx with hx; subst x10y; exact (me_var (pv 3) rfl)⟩⟩))))) (by rw [eself_asking] <;> rfl)) ?_)
  cases hx; exact ⟨rfl, rfl⟩

noncomputable def M_Counts___init__  : Option R_Counts :=
  lt ([] : (List (List Key × (List (Key × Int))))) fun self_held =>
  some ({ held := self_held } : R_Counts)
def sp_Counts___init__ (K : PySem.W.Frag) (C_Counts : Addr) : Sp := SpX K (fun x : ((Unit) × R_Counts) => []) (fun x => M_Counts___init__  = some x.2) (fun l x => .at l C_Counts [] []) (fun l x => .at l C_Counts ["held"] [(oDT (fun y => oDK (fun y => .fz (D.int y)) y) x.2.held)]) (fun _ => .fz .non)
def spI_Counts___init__ (K : PySem.W.Frag) (C_Counts : Addr) : Sp := SpI K C_Counts ["held"] (fun x : ((Unit) × R_Counts) => []) (fun x => M_Counts___init__  = some x.2) (fun x => [(oDT (fun y => oDK (fun y => .fz (D.int y)) y) x.2.held)])
theorem toI_Counts___init__ {k : Nat} {f : Addr} {fd : FuncData} {ps : List Str} {C_Counts : Addr} (h : FnOk P w K mg base CX0 k f fd ps (sp_Counts___init__ K C_Counts)) : FnOk P w K mg base CX0 k f fd ps (spI_Counts___init__ K C_Counts) := SpX.init (fun y => y) h (fun _ => rfl) (fun _ h => h) (fun _ _ => rfl) (fun _ _ => rfl)
abbrev N_Counts___init__ : List Str := ["self"]
theorem sc_Counts___init__ : FnScope N_Counts___init__ ["self"] (defScope s_Counts___init__) := ⟨rfl, rfl, rfl, by decide +kernel, rfl, by decide +kernel, by decide +kernel⟩
theorem ok_Counts___init__ {f : Addr} {fd : FuncData} (F : Fun K "__init__" "Counts.__init__" s_Counts___init__ f fd) (o_Counts : OC K C_Counts ["held"]) : FnOk P w K mg base CX0 1 f fd ["self"] (sp_Counts___init__ K C_Counts) := by
  refine fn_mX F sc_Counts___init__ (fun x => rfl) (fun l x _ => Nv.is _) (fun x _ => rfl) (fun l x => ⟨_, _, _, rfl⟩) fun cdv A outer s H E hr l x hx => ?_
  obtain ⟨_, r⟩ := x
  replace hx : M_Counts___init__  = some r := hx
  have nd := sc_Counts___init__.nd
  unfold M_Counts___init__ at hx
  show MS _ [some (.at l C_Counts [] [])] _ _
  replace hx := lt_some hx
  obtain ⟨self_held, eself_held, hx⟩ := hx
  refine ms_one (m_setFldN (i := 0) (pv _) rfl o_Counts (ME.is (o' := (oDT (fun y => oDK (fun y => .fz (D.int y)) y) self_held)) (ME.is (o' := oDT (fun y => oDK (fun y => .fz (D.int y)) y) ([] : (List (List Key × (List (Key × Int)))))) me_dctT0 rfl) (by rw [eself_held] <;> rfl)) ?_)
  cases hx; exact ⟨rfl, rfl⟩
noncomputable def M_cut_within (runs : (List (Int × Int))) (lo : Int) (hi : Int) : Option (List (Int × Int)) :=
  lt ([] : List (Int × Int)) fun found =>
  bd (lp (fun (x2 : (Int × Int)) (p1 : (List (Int × Int))) => (lt (max ((x2).1) lo) fun low =>
    lt (min ((x2).2) hi) fun high =>
    cond (decide (low < high)) (gd (p1.length < sizeLine) <|
      lt (p1 ++ [(low, high)]) fun found_1 =>
      some found_1) (some p1) : Option ((List (Int × Int))))) runs found) fun p3 =>
  some p3
def sp_cut_within (K : PySem.W.Frag) : Sp := SpF K (fun x : (List (Int × Int)) × Int × Int => [.vw (x.1.map e_T_i_i), .fz (.int x.2.1), .fz (.int x.2.2)]) (fun x => M_cut_within x.1 x.2.1 x.2.2) (fun r => .lst ((r.map e_T_i_i).map .fz))
abbrev N_cut_within : List Str := ["runs", "lo", "hi", "found", "first", "upto", "low", "high"]
theorem sc_cut_within : FnScope N_cut_within ["runs", "lo", "hi"] (defScope s_cut_within) := ⟨rfl, rfl, rfl, by decide +kernel, rfl, by decide +kernel, by decide +kernel⟩
theorem ok_cut_within {f : Addr} {fd : FuncData} (F : Fun K "cut_within" "cut_within" s_cut_within f fd) (z_max : mg "max" = none) (z_min : mg "min" = none) : FnOk P w K mg base CX0 1 f fd ["runs", "lo", "hi"] (sp_cut_within K) := by
  refine fn_m F sc_cut_within (fun x => rfl) (fun x _ => O.nvL_fz _) fun cdv A outer s H E hr x hx => ?_
  obtain ⟨⟨runs, lo, hi⟩, r⟩ := x
  replace hx : M_cut_within runs lo hi = some r := hx
  have nd := sc_cut_within.nd
  unfold M_cut_within at hx
  show MS _ [some (.vw (runs.map e_T_i_i)), some (.fz (.int lo)), some (.fz (.int hi)), none, none, none, none, none] _ _
  replace hx := lt_some hx
  obtain ⟨found, efound, hx⟩ := hx
  refine ms_cons (m_set (ps_set (i := 3) nd rfl (Or.inl rfl) pe_w) (ME.is (o' := (.lst ((found.map e_T_i_i).map .fz))) (me_lst (ds := [].map e_T_i_i) mf_nil) (by rw [efound] <;> rfl)) ?_)
  show MS _ [some (.vw (runs.map e_T_i_i)), some (.fz (.int lo)), some (.fz (.int hi)), some (.lst ((found.map e_T_i_i).map .fz)), none, none, none, none] _ _
  replace hx := bd_some hx
  obtain ⟨p3, hp3, hx⟩ := hx
  refine ms_cons (m_forP (xs := runs) (enc := e_T_i_i) (ps_for PassesOwn.never rfl (pi_list pe_w) (pg_tup (n := 2) rfl (pgs_cons (pg_name (i := 4) nd rfl (Or.inl rfl)) (pgs_cons (pg_name (i := 5) nd rfl (Or.inl rfl)) pgs_nil))) pss_w) (by exact (mi_list (ds := runs.map e_T_i_i) (mk_var (pv 0) rfl))) hp3 (fun p1 => [some (.vw (runs.map e_T_i_i)), some (.fz (.int lo)), some (.fz (.int hi)), some (.lst ((p1.map e_T_i_i).map .fz)), none, none, none, none]) le_auto (fun x2 p1 p1o mx hx => ?_) fun τ le => ?_)
  ·
    refine ⟨_, _, (mg_tup (mgs_cons mg_name (mgs_cons mg_name mgs_nil)) rfl), ?_⟩
    show MS _ [some (.vw (runs.map e_T_i_i)), some (.fz (.int lo)), some (.fz (.int hi)), some (.lst ((p1.map e_T_i_i).map .fz)), some (.fz (.int ((x2).1))), some (.fz (.int ((x2).2))), none, none] _ _
    replace hx := lt_some hx
    obtain ⟨low, elow, hx⟩ := hx
    refine ms_cons (m_set (ps_set (i := 6) nd rfl (Or.inl rfl) pe_w) (ME.is (o' := (.fz (.int low))) (me_max rfl (by rfl) z_max (me_var (pv 4) rfl) (me_var (pv 1) rfl)) (by rw [elow] <;> rfl)) ?_)
    show MS _ [some (.vw (runs.map e_T_i_i)), some (.fz (.int lo)), some (.fz (.int hi)), some (.lst ((p1.map e_T_i_i).map .fz)), some (.fz (.int ((x2).1))), some (.fz (.int ((x2).2))), some (.fz (.int low)), none] _ _
    replace hx := lt_some hx
    obtain ⟨high, ehigh, hx⟩ := hx
    refine ms_cons (m_set (ps_set (i := 7) nd rfl (Or.inl rfl) pe_w) (ME.is (o' := (.fz (.int high))) (me_min rfl (by rfl) z_min (me_var (pv 5) rfl) (me_var (pv 2) rfl)) (by rw [ehigh] <;> rfl)) ?_)
    show MS _ [some (.vw (runs.map e_T_i_i)), some (.fz (.int lo)), some (.fz (.int hi)), some (.lst ((p1.map e_T_i_i).map .fz)), some (.fz (.int ((x2).1))), some (.fz (.int ((x2).2))), some (.fz (.int low)), some (.fz (.int high))] _ _
    refine ms_one (m_if (t := (decide (low < high))) (mt_lt (me_var (pv 6) rfl) (me_var (pv 7) rfl)) (fun h => ?_) fun h => ?_)
    · replace hx := cond_t hx h
      replace hx := gd_some hx
      obtain ⟨g4, hx⟩ := hx
      replace hx := lt_some hx
      obtain ⟨found_1, efound_1, hx⟩ := hx
      refine ms_one (m_appendT (i := 3) (xs := p1) (enc := e_T_i_i) (y := (low, high)) g4 (pv _) rfl (me_tup (mf_cons (me_var (pv 6) rfl) (mf_cons (me_var (pv 7) rfl) mf_nil))) ?_)
      rw [← efound_1]
      cases hx; exact le_auto
    · replace hx := cond_f hx h
      refine ms_nil ?_
      cases hx; exact le_auto
  refine ms_le le ?_
  show MS _ [some (.vw (runs.map e_T_i_i)), some (.fz (.int lo)), some (.fz (.int hi)), some (.lst ((p3.map e_T_i_i).map .fz)), none, none, none, none] _ _
  refine ms_one (m_ret (ps_ret pe_w) (mr_var (pv 3) rfl) ?_)
  cases hx; rfl

abbrev e_N_i (p : (Option Int)) : D := match p with
  | some v => .int v
  | none => .non
noncomputable def M_lowest_of (runs : (List (Int × Int))) (n_0 : (Option Int)) : Option (List (Int × Int)) :=
  cond (n_0.isNone) (some runs) <|
  lt ([] : List (Int × Int)) fun found =>
  bd n_0 fun v1 =>
  bd (lpO (fun (x3 : (Int × Int)) (p2 : (List (Int × Int)) × Int) => (cond (decide (p2.2 < 1)) (some (.bk (p2.1, p2.2))) <|
    lt (min ((x3).2) ((x3).1 + p2.2)) fun high =>
    gd (p2.1.length < sizeLine) <|
    lt (p2.1 ++ [((x3).1, high)]) fun found_1 =>
    lt (p2.2 - (high - (x3).1)) fun left =>
    some (.nx (found_1, left)) : Option (Ou ((List (Int × Int)) × Int) ((List (Int × Int)) × Int) (List (Int × Int))))) runs (found, v1)) fun o4 => ouR o4 fun p2 =>
  some p2.1
def sp_lowest_of (K : PySem.W.Frag) : Sp := SpF K (fun x : (List (Int × Int)) × (Option Int) => [.vw (x.1.map e_T_i_i), .fz (e_N_i x.2)]) (fun x => M_lowest_of x.1 x.2) (fun r => .lst ((r.map e_T_i_i).map .fz))
abbrev N_lowest_of : List Str := ["runs", "n", "found", "left", "lo", "hi", "high"]
theorem sc_lowest_of : FnScope N_lowest_of ["runs", "n"] (defScope s_lowest_of) := ⟨rfl, rfl, rfl, by decide +kernel, rfl, by decide +kernel, by decide +kernel⟩
theorem ok_lowest_of {f : Addr} {fd : FuncData} (F : Fun K "lowest_of" "lowest_of" s_lowest_of f fd) (z_list : mg "list" = none) (z_min : mg "min" = none) : FnOk P w K mg base CX0 1 f fd ["runs", "n"] (sp_lowest_of K) := by
  refine fn_m F sc_lowest_of (fun x => rfl) (fun x _ => O.nvL_fz _) fun cdv A outer s H E hr x hx => ?_
  obtain ⟨⟨runs, n_0⟩, r⟩ := x
  replace hx : M_lowest_of runs n_0 = some r := hx
  have nd := sc_lowest_of.nd
  unfold M_lowest_of at hx
  show MS _ [some (.vw (runs.map e_T_i_i)), some (.fz (e_N_i n_0)), none, none, none, none, none] _ _
  refine ms_cons (m_if (t := (n_0.isNone)) (MT.is (l := (n_0.isNone)) (mt_isN (mv_var (pv 1) rfl)) (by cases n_0 <;> rfl)) (fun h => ?_) fun h => ms_nil ?_)
  · replace hx := cond_t hx h
    refine ms_one (m_ret (ps_ret pe_w) (ME.r (me_list (ds := runs.map e_T_i_i) (by rfl) z_list (ml_var (pv 0) rfl))) ?_)
    cases hx; rfl
  replace hx := cond_f hx h
  replace hx := lt_some hx
  obtain ⟨found, efound, hx⟩ := hx
  refine ms_cons (m_set (ps_set (i := 2) nd rfl (Or.inl rfl) pe_w) (ME.is (o' := (.lst ((found.map e_T_i_i).map .fz))) (me_lst (ds := [].map e_T_i_i) mf_nil) (by rw [efound] <;> rfl)) ?_)
  show MS _ [some (.vw (runs.map e_T_i_i)), some (.fz (e_N_i n_0)), some (.lst ((found.map e_T_i_i).map .fz)), none, none, none, none] _ _
  replace hx := bd_some hx
  obtain ⟨v1, hv1, hx⟩ := hx
  refine ms_cons (m_set (ps_set (i := 3) nd rfl (Or.inl rfl) pe_w) (ME.is (o' := .fz (.int v1)) (me_var (pv 1) rfl) (by rw [hv1])) ?_)
  show MS _ [some (.vw (runs.map e_T_i_i)), some (.fz (e_N_i n_0)), some (.lst ((found.map e_T_i_i).map .fz)), some (.fz (.int v1)), none, none, none] _ _
  replace hx := bd_some hx
  obtain ⟨o4, ho4, hx⟩ := hx
  refine ms_cons (m_forO (xs := runs) (enc := e_T_i_i) (ps_for PassesOwn.never rfl (pi_list pe_w) (pg_tup (n := 2) rfl (pgs_cons (pg_name (i := 4) nd rfl (Or.inl rfl)) (pgs_cons (pg_name (i := 5) nd rfl (Or.inl rfl)) pgs_nil))) pss_w) (by exact (mi_list (ds := runs.map e_T_i_i) (mk_var (pv 0) rfl))) ho4 (fun p2 => [some (.vw (runs.map e_T_i_i)), some (.fz (e_N_i n_0)), some (.lst ((p2.1.map e_T_i_i).map .fz)), some (.fz (.int p2.2)), none, none, none]) (fun r => .lst ((r.map e_T_i_i).map .fz)) le_auto (fun x3 p2 p2o mx hx => ?_) (fun p2 τ e le => ?_) fun q e => ?_)
  ·
    refine ⟨_, _, (mg_tup (mgs_cons mg_name (mgs_cons mg_name mgs_nil)) rfl), ?_⟩
    show MS _ [some (.vw (runs.map e_T_i_i)), some (.fz (e_N_i n_0)), some (.lst ((p2.1.map e_T_i_i).map .fz)), some (.fz (.int p2.2)), some (.fz (.int ((x3).1))), some (.fz (.int ((x3).2))), none] _ _
    refine ms_cons (m_if (t := (decide (p2.2 < 1))) (mt_lt (me_var (pv 3) rfl) me_int) (fun h => ?_) fun h => ms_nil ?_)
    · replace hx := cond_t hx h
      refine ms_one (m_break ?_)
      cases hx; exact ⟨_, rfl, le_auto⟩
    replace hx := cond_f hx h
    replace hx := lt_some hx
    obtain ⟨high, ehigh, hx⟩ := hx
    refine ms_cons (m_set (ps_set (i := 6) nd rfl (Or.inl rfl) pe_w) (ME.is (o' := (.fz (.int high))) (me_min rfl (by rfl) z_min (me_var (pv 5) rfl) (me_add (me_var (pv 4) rfl) (me_var (pv 3) rfl))) (by rw [ehigh] <;> rfl)) ?_)
    show MS _ [some (.vw (runs.map e_T_i_i)), some (.fz (e_N_i n_0)), some (.lst ((p2.1.map e_T_i_i).map .fz)), some (.fz (.int p2.2)), some (.fz (.int ((x3).1))), some (.fz (.int ((x3).2))), some (.fz (.int high))] _ _
    replace hx := gd_some hx
    obtain ⟨g5, hx⟩ := hx
    replace hx := lt_some hx
    obtain ⟨found_1, efound_1, hx⟩ := hx
    refine ms_cons (m_appendT (i := 2) (xs := p2.1) (enc := e_T_i_i) (y := ((x3).1, high)) g5 (pv _) rfl (me_tup (mf_cons (me_var (pv 4) rfl) (mf_cons (me_var (pv 6) rfl) mf_nil))) ?_)
    rw [← efound_1]
    show MS _ [some (.vw (runs.map e_T_i_i)), some (.fz (e_N_i n_0)), some (.lst ((found_1.map e_T_i_i).map .fz)), some (.fz (.int p2.2)), some (.fz (.int ((x3).1))), some (.fz (.int ((x3).2))), some (.fz (.int high))] _ _
    replace hx := lt_some hx
    obtain ⟨left, eleft, hx⟩ := hx
    refine ms_one (m_set (ps_set (i := 3) nd rfl (Or.inl rfl) pe_w) (ME.is (o' := (.fz (.int left))) (me_sub (me_var (pv 3) rfl) (me_sub (me_var (pv 6) rfl) (me_var (pv 4) rfl))) (by rw [eleft] <;> rfl)) ?_)
    cases hx; exact ⟨_, rfl, le_auto⟩
  · subst e
    dsimp only [ouR] at hx
    refine ms_le le ?_
    show MS _ [some (.vw (runs.map e_T_i_i)), some (.fz (e_N_i n_0)), some (.lst ((p2.1.map e_T_i_i).map .fz)), some (.fz (.int p2.2)), none, none, none] _ _
    refine ms_one (m_ret (ps_ret pe_w) (mr_var (pv 2) rfl) ?_)
    cases hx; rfl
  · subst e; cases hx; rfl

noncomputable def M_cut_out (runs : (List (Int × Int))) (others : (List (Int × Int))) : Option (List (Int × Int)) :=
  lt ([] : List (Int × Int)) fun found =>
  bd (lp (fun (x2 : (Int × Int)) (p1 : (List (Int × Int))) => (lt ((x2).1) fun at_0 =>
    bd (lpO (fun (x5 : (Int × Int)) (p4 : (List (Int × Int)) × Int) => (cond (decide ((x2).2 ≤ (x5).1)) (some (.bk (p4.1, p4.2))) <|
      cond (decide ((x5).2 ≤ p4.2)) (some (.ct (p4.1, p4.2))) <|
      bd (cond (decide (p4.2 < (x5).1)) (gd (p4.1.length < sizeLine) <|
        lt (p4.1 ++ [(p4.2, (x5).1)]) fun found_1 =>
        some found_1) (some p4.1) : Option ((List (Int × Int)))) fun p7 =>
      lt ((x5).2) fun at_1 =>
      some (.nx (p7, at_1)) : Option (Ou ((List (Int × Int)) × Int) ((List (Int × Int)) × Int) (List (Int × Int))))) others (p1, at_0)) fun o6 => ouV o6 fun p4 =>
    cond (decide (p4.2 < (x2).2)) (gd (p4.1.length < sizeLine) <|
      lt (p4.1 ++ [(p4.2, (x2).2)]) fun found_2 =>
      some found_2) (some p4.1) : Option ((List (Int × Int))))) runs found) fun p3 =>
  some p3
def sp_cut_out (K : PySem.W.Frag) : Sp := SpF K (fun x : (List (Int × Int)) × (List (Int × Int)) => [.vw (x.1.map e_T_i_i), .vw (x.2.map e_T_i_i)]) (fun x => M_cut_out x.1 x.2) (fun r => .lst ((r.map e_T_i_i).map .fz))
abbrev N_cut_out : List Str := ["runs", "others", "found", "lo", "hi", "at", "first", "upto"]
theorem sc_cut_out : FnScope N_cut_out ["runs", "others"] (defScope s_cut_out) := ⟨rfl, rfl, rfl, by decide +kernel, rfl, by decide +kernel, by decide +kernel⟩
theorem ok_cut_out {f : Addr} {fd : FuncData} (F : Fun K "cut_out" "cut_out" s_cut_out f fd)  : FnOk P w K mg base CX0 1 f fd ["runs", "others"] (sp_cut_out K) := by
  refine fn_m F sc_cut_out (fun x => rfl) (fun x _ => O.nvL_fz _) fun cdv A outer s H E hr x hx => ?_
  obtain ⟨⟨runs, others⟩, r⟩ := x
  replace hx : M_cut_out runs others = some r := hx
  have nd := sc_cut_out.nd
  unfold M_cut_out at hx
  show MS _ [some (.vw (runs.map e_T_i_i)), some (.vw (others.map e_T_i_i)), none, none, none, none, none, none] _ _
  replace hx := lt_some hx
  obtain ⟨found, efound, hx⟩ := hx
  refine ms_cons (m_set (ps_set (i := 2) nd rfl (Or.inl rfl) pe_w) (ME.is (o' := (.lst ((found.map e_T_i_i).map .fz))) (me_lst (ds := [].map e_T_i_i) mf_nil) (by rw [efound] <;> rfl)) ?_)
  show MS _ [some (.vw (runs.map e_T_i_i)), some (.vw (others.map e_T_i_i)), some (.lst ((found.map e_T_i_i).map .fz)), none, none, none, none, none] _ _
  replace hx := bd_some hx
  obtain ⟨p3, hp3, hx⟩ := hx
  refine ms_cons (m_forP (xs := runs) (enc := e_T_i_i) (ps_for PassesOwn.never rfl (pi_list pe_w) (pg_tup (n := 2) rfl (pgs_cons (pg_name (i := 3) nd rfl (Or.inl rfl)) (pgs_cons (pg_name (i := 4) nd rfl (Or.inl rfl)) pgs_nil))) pss_w) (by exact (mi_list (ds := runs.map e_T_i_i) (mk_var (pv 0) rfl))) hp3 (fun p1 => [some (.vw (runs.map e_T_i_i)), some (.vw (others.map e_T_i_i)), some (.lst ((p1.map e_T_i_i).map .fz)), none, none, none, none, none]) le_auto (fun x2 p1 p1o mx hx => ?_) fun τ le => ?_)
  ·
    refine ⟨_, _, (mg_tup (mgs_cons mg_name (mgs_cons mg_name mgs_nil)) rfl), ?_⟩
    show MS _ [some (.vw (runs.map e_T_i_i)), some (.vw (others.map e_T_i_i)), some (.lst ((p1.map e_T_i_i).map .fz)), some (.fz (.int ((x2).1))), some (.fz (.int ((x2).2))), none, none, none] _ _
    replace hx := lt_some hx
    obtain ⟨at_0, eat_0, hx⟩ := hx
    refine ms_cons (m_set (ps_set (i := 5) nd rfl (Or.inl rfl) pe_w) (ME.is (o' := (.fz (.int at_0))) (me_var (pv 3) rfl) (by rw [eat_0] <;> rfl)) ?_)
    show MS _ [some (.vw (runs.map e_T_i_i)), some (.vw (others.map e_T_i_i)), some (.lst ((p1.map e_T_i_i).map .fz)), some (.fz (.int ((x2).1))), some (.fz (.int ((x2).2))), some (.fz (.int at_0)), none, none] _ _
    replace hx := bd_some hx
    obtain ⟨o6, ho6, hx⟩ := hx
    refine ms_cons (m_forO (xs := others) (enc := e_T_i_i) (ps_for PassesOwn.never rfl (pi_list pe_w) (pg_tup (n := 2) rfl (pgs_cons (pg_name (i := 6) nd rfl (Or.inl rfl)) (pgs_cons (pg_name (i := 7) nd rfl (Or.inl rfl)) pgs_nil))) pss_w) (by exact (mi_list (ds := others.map e_T_i_i) (mk_var (pv 1) rfl))) ho6 (fun p4 => [some (.vw (runs.map e_T_i_i)), some (.vw (others.map e_T_i_i)), some (.lst ((p4.1.map e_T_i_i).map .fz)), some (.fz (.int ((x2).1))), some (.fz (.int ((x2).2))), some (.fz (.int p4.2)), none, none]) (fun r => .lst ((r.map e_T_i_i).map .fz)) le_auto (fun x5 p4 p4o mx hx => ?_) (fun p4 τ e le => ?_) fun q e => ?_)
    ·
      refine ⟨_, _, (mg_tup (mgs_cons mg_name (mgs_cons mg_name mgs_nil)) rfl), ?_⟩
      show MS _ [some (.vw (runs.map e_T_i_i)), some (.vw (others.map e_T_i_i)), some (.lst ((p4.1.map e_T_i_i).map .fz)), some (.fz (.int ((x2).1))), some (.fz (.int ((x2).2))), some (.fz (.int p4.2)), some (.fz (.int ((x5).1))), some (.fz (.int ((x5).2)))] _ _
      refine ms_cons (m_if (t := (decide ((x2).2 ≤ (x5).1))) (mt_ge (me_var (pv 6) rfl) (me_var (pv 4) rfl)) (fun h => ?_) fun h => ms_nil ?_)
      · replace hx := cond_t hx h
        refine ms_one (m_break ?_)
        cases hx; exact ⟨_, rfl, le_auto⟩
      replace hx := cond_f hx h
      refine ms_cons (m_if (t := (decide ((x5).2 ≤ p4.2))) (mt_le (me_var (pv 7) rfl) (me_var (pv 5) rfl)) (fun h => ?_) fun h => ms_nil ?_)
      · replace hx := cond_t hx h
        refine ms_one (m_continue ?_)
        cases hx; exact ⟨_, rfl, le_auto⟩
      replace hx := cond_f hx h
      replace hx := bd_some hx
      obtain ⟨p7, hp7, hx⟩ := hx
      refine ms_cons (m_ifP (out := p7) (fun p7 => [some (.vw (runs.map e_T_i_i)), some (.vw (others.map e_T_i_i)), some (.lst ((p7.map e_T_i_i).map .fz)), some (.fz (.int ((x2).1))), some (.fz (.int ((x2).2))), some (.fz (.int p4.2)), some (.fz (.int ((x5).1))), some (.fz (.int ((x5).2)))]) (t := (decide (p4.2 < (x5).1))) (mt_lt (me_var (pv 5) rfl) (me_var (pv 6) rfl)) (fun h => ?_) (fun h => ?_) fun τ le => ?_)
      · replace hx := cond_t hp7 h
        replace hx := gd_some hx
        obtain ⟨g8, hx⟩ := hx
        replace hx := lt_some hx
        obtain ⟨found_1, efound_1, hx⟩ := hx
        refine ms_one (m_appendT (i := 2) (xs := p4.1) (enc := e_T_i_i) (y := (p4.2, (x5).1)) g8 (pv _) rfl (me_tup (mf_cons (me_var (pv 5) rfl) (mf_cons (me_var (pv 6) rfl) mf_nil))) ?_)
        rw [← efound_1]
        cases hx; exact le_auto
      · replace hx := cond_f hp7 h
        refine ms_nil ?_
        cases hx; exact le_auto
      refine ms_le le ?_
      show MS _ [some (.vw (runs.map e_T_i_i)), some (.vw (others.map e_T_i_i)), some (.lst ((p7.map e_T_i_i).map .fz)), some (.fz (.int ((x2).1))), some (.fz (.int ((x2).2))), some (.fz (.int p4.2)), some (.fz (.int ((x5).1))), some (.fz (.int ((x5).2)))] _ _
      replace hx := lt_some hx
      obtain ⟨at_1, eat_1, hx⟩ := hx
      refine ms_one (m_set (ps_set (i := 5) nd rfl (Or.inl rfl) pe_w) (ME.is (o' := (.fz (.int at_1))) (me_var (pv 7) rfl) (by rw [eat_1] <;> rfl)) ?_)
      cases hx; exact ⟨_, rfl, le_auto⟩
    · subst e
      dsimp only [ouV] at hx
      refine ms_le le ?_
      show MS _ [some (.vw (runs.map e_T_i_i)), some (.vw (others.map e_T_i_i)), some (.lst ((p4.1.map e_T_i_i).map .fz)), some (.fz (.int ((x2).1))), some (.fz (.int ((x2).2))), some (.fz (.int p4.2)), none, none] _ _
      refine ms_one (m_if (t := (decide (p4.2 < (x2).2))) (mt_lt (me_var (pv 5) rfl) (me_var (pv 4) rfl)) (fun h => ?_) fun h => ?_)
      · replace hx := cond_t hx h
        replace hx := gd_some hx
        obtain ⟨g9, hx⟩ := hx
        replace hx := lt_some hx
        obtain ⟨found_2, efound_2, hx⟩ := hx
        refine ms_one (m_appendT (i := 2) (xs := p4.1) (enc := e_T_i_i) (y := (p4.2, (x2).2)) g9 (pv _) rfl (me_tup (mf_cons (me_var (pv 5) rfl) (mf_cons (me_var (pv 4) rfl) mf_nil))) ?_)
        rw [← efound_2]
        cases hx; exact le_auto
      · replace hx := cond_f hx h
        refine ms_nil ?_
        cases hx; exact le_auto
    · subst e; cases hx
  refine ms_le le ?_
  show MS _ [some (.vw (runs.map e_T_i_i)), some (.vw (others.map e_T_i_i)), some (.lst ((p3.map e_T_i_i).map .fz)), none, none, none, none, none] _ _
  refine ms_one (m_ret (ps_ret pe_w) (mr_var (pv 2) rfl) ?_)
  cases hx; rfl

noncomputable def M_numbers_of (cover : (Str × Cd × (List Unit) × (List Str) × (List Int) × Bool)) (counts : R_Counts) (loss : (Int × Int × Str × Str × Str × Int)) : Option (List Int) :=
  gd ((cover.2.2.1.zipIdx).length < sizeLine) <|
  bd (mpO (fun x2 : (Unit × Nat) => (none : Option Int)) (cover.2.2.1.zipIdx)) fun v3 =>
  some v3
def sp_numbers_of (K : PySem.W.Frag) (C_Cover C_Condition C_CauseIs C_ThingIs C_DaysIn C_Over C_Some C_Deal C_Counts : Addr) : Sp := SpF K (fun x : (Str × Cd × (List Unit) × (List Str) × (List Int) × Bool) × R_Counts × (Int × Int × Str × Str × Str × Int) => [.fz ((r_Cover C_Cover C_Condition C_CauseIs C_ThingIs C_DaysIn C_Over C_Some C_Deal) x.1), .lk (oo_Counts C_Counts x.2.1), .fz (e_T_i_i_s_s_s_i x.2.2)]) (fun x => M_numbers_of x.1 x.2.1 x.2.2) (fun r => .lst ((r.map D.int).map .fz))
abbrev N_numbers_of : List Str := ["cover", "counts", "loss", "k", "clause"]
theorem sc_numbers_of : FnScope N_numbers_of ["cover", "counts", "loss"] (defScope s_numbers_of) := ⟨rfl, rfl, rfl, by decide +kernel, rfl, by decide +kernel, by decide +kernel⟩
theorem ok_numbers_of {f : Addr} {fd : FuncData} (F : Fun K "numbers_of" "numbers_of" s_numbers_of f fd) (z_enumerate : mg "enumerate" = none) (o_Cover : OC K C_Cover ["name", "condition", "clauses", "houses", "deal", "waits"]) : FnOk P w K mg base CX0 1 f fd ["cover", "counts", "loss"] (sp_numbers_of K C_Cover C_Condition C_CauseIs C_ThingIs C_DaysIn C_Over C_Some C_Deal C_Counts) := by
  refine fn_m F sc_numbers_of (fun x => rfl) (fun x _ => O.nvL_fz _) fun cdv A outer s H E hr x hx => ?_
  obtain ⟨⟨cover, counts, loss⟩, r⟩ := x
  replace hx : M_numbers_of cover counts loss = some r := hx
  have nd := sc_numbers_of.nd
  unfold M_numbers_of at hx
  show MS _ [some (.fz ((r_Cover C_Cover C_Condition C_CauseIs C_ThingIs C_DaysIn C_Over C_Some C_Deal) cover)), some (.lk (oo_Counts C_Counts counts)), some (.fz (e_T_i_i_s_s_s_i loss)), none, none] _ _
  replace hx := gd_some hx
  obtain ⟨g1, hx⟩ := hx
  replace hx := bd_some hx
  obtain ⟨v3, hv3, hx⟩ := hx
  refine ms_one (m_ret (ps_ret pe_w) (ME.r (by exact (me_lcO (g := (gTup K 2 (gCons (gName 3) (gCons (gName 4) gNil)))) (xs := (cover.2.2.1.zipIdx)) (ys := v3) (enc := (fun p => D.tup [.int (p.2 : Nat), e_n p.1])) (enc2 := D.int) hv3 (fun te he => pe_lc (own := [("k", 3), ("clause", 4)]) rfl nd (pi_enum (by rfl) z_enumerate pa_w) (blkOk_by (N := N_numbers_of) (sc := defScope s_numbers_of) (by decide +kernel)) (fun _ _ _ _ _ => (pg_tup (n := 2) rfl (pgs_cons (pg_name (i := 3) nd rfl (Or.inl rfl)) (pgs_cons (pg_name (i := 4) nd rfl (Or.inl rfl)) pgs_nil)))) (fun _ _ _ _ _ => pts_nil) he) (mic_enumT (xs := cover.2.2.1) (enc := e_n) (MV.l (ME.v (me_fld (j := 2) (mv_var (pv 0) rfl) o_Cover)) (.fz _))) g1 (fun x2 mx x2y hx => by cases hx)))) ?_)
  cases hx; rfl

noncomputable def M_paid_by (cover : (Str × Cd × (List Unit) × (List Str) × (List Int) × Bool)) (had : (List Int)) (cents : Int) (free : (List (Int × Int))) : Option (List (Int × Int)) :=
  bd (M_Cover_window cover had cents) fun v1 =>
  bd (M_cut_within free v1.1 v1.2) fun v2 =>
  bd (M_Cover_rest cover had) fun v3 =>
  cond (v3.isNone) (some v2) <|
  bd v3 fun v4 =>
  bd (M_lowest_of v2 (some v4.1)) fun v5 =>
  some v5
def sp_paid_by (K : PySem.W.Frag) (C_Cover C_Condition C_CauseIs C_ThingIs C_DaysIn C_Over C_Some C_Deal : Addr) : Sp := SpF K (fun x : (Str × Cd × (List Unit) × (List Str) × (List Int) × Bool) × (List Int) × Int × (List (Int × Int)) => [.fz ((r_Cover C_Cover C_Condition C_CauseIs C_ThingIs C_DaysIn C_Over C_Some C_Deal) x.1), .vw (x.2.1.map D.int), .fz (.int x.2.2.1), .vw (x.2.2.2.map e_T_i_i)]) (fun x => M_paid_by x.1 x.2.1 x.2.2.1 x.2.2.2) (fun r => .lst ((r.map e_T_i_i).map .fz))
abbrev N_paid_by : List Str := ["cover", "had", "cents", "free", "low", "high", "near", "rest"]
theorem sc_paid_by : FnScope N_paid_by ["cover", "had", "cents", "free"] (defScope s_paid_by) := ⟨rfl, rfl, rfl, by decide +kernel, rfl, by decide +kernel, by decide +kernel⟩
theorem ok_paid_by {f : Addr} {fd : FuncData} (F : Fun K "paid_by" "paid_by" s_paid_by f fd) (o_Cover : OC K C_Cover ["name", "condition", "clauses", "houses", "deal", "waits"]) (m_Cover_window : Mt1 P w K mg base C_Cover "window" 2 ["self", "counts", "cents"] (sp_Cover_window K C_Cover C_Condition C_CauseIs C_ThingIs C_DaysIn C_Over C_Some C_Deal)) (c_cut_within : Fn1 P w K mg base "cut_within" 1 ["runs", "lo", "hi"] (sp_cut_within K)) (m_Cover_rest : Mt1 P w K mg base C_Cover "rest" 1 ["self", "counts"] (sp_Cover_rest K C_Cover C_Condition C_CauseIs C_ThingIs C_DaysIn C_Over C_Some C_Deal)) (c_lowest_of : Fn1 P w K mg base "lowest_of" 1 ["runs", "n"] (sp_lowest_of K)) : FnOk P w K mg base CX0 3 f fd ["cover", "had", "cents", "free"] (sp_paid_by K C_Cover C_Condition C_CauseIs C_ThingIs C_DaysIn C_Over C_Some C_Deal) := by
  refine fn_m F sc_paid_by (fun x => rfl) (fun x _ => O.nvL_fz _) fun cdv A outer s H E hr x hx => ?_
  obtain ⟨⟨cover, had, cents, free⟩, r⟩ := x
  replace hx : M_paid_by cover had cents free = some r := hx
  have nd := sc_paid_by.nd
  unfold M_paid_by at hx
  show MS _ [some (.fz ((r_Cover C_Cover C_Condition C_CauseIs C_ThingIs C_DaysIn C_Over C_Some C_Deal) cover)), some (.vw (had.map D.int)), some (.fz (.int cents)), some (.vw (free.map e_T_i_i)), none, none, none, none] _ _
  replace hx := bd_some hx
  obtain ⟨v1, hv1, hx⟩ := hx
  refine ms_cons (m_tgt (ps_asg pe_w (pg_tup (n := 2) rfl (pgs_cons (pg_name (i := 4) nd rfl (Or.inl rfl)) (pgs_cons (pg_name (i := 5) nd rfl (Or.inl rfl)) pgs_nil)))) (me_mt m_Cover_window o_Cover ((cover, had, cents), v1) (mv_var (pv 0) rfl) (ma_vw (ml_var (pv 1) rfl) (ma_fz (me_var (pv 2) rfl) ma_nil)) rfl hv1 (hr.mono (by decide))) (mg_tup (mgs_cons mg_name (mgs_cons mg_name mgs_nil)) rfl) ?_)
  show MS _ [some (.fz ((r_Cover C_Cover C_Condition C_CauseIs C_ThingIs C_DaysIn C_Over C_Some C_Deal) cover)), some (.vw (had.map D.int)), some (.fz (.int cents)), some (.vw (free.map e_T_i_i)), some (.fz (.int v1.1)), some (.fz (.int v1.2)), none, none] _ _
  replace hx := bd_some hx
  obtain ⟨v2, hv2, hx⟩ := hx
  refine ms_cons (m_set (ps_set (i := 6) nd rfl (Or.inl rfl) pe_w) (me_fn c_cut_within ((free, v1.1, v1.2), v2) (ma_vw (ml_var (pv 3) rfl) (ma_fz (me_var (pv 4) rfl) (ma_fz (me_var (pv 5) rfl) ma_nil))) hv2 (hr.mono (by decide))) ?_)
  show MS _ [some (.fz ((r_Cover C_Cover C_Condition C_CauseIs C_ThingIs C_DaysIn C_Over C_Some C_Deal) cover)), some (.vw (had.map D.int)), some (.fz (.int cents)), some (.vw (free.map e_T_i_i)), some (.fz (.int v1.1)), some (.fz (.int v1.2)), some (.lst ((v2.map e_T_i_i).map .fz)), none] _ _
  replace hx := bd_some hx
  obtain ⟨v3, hv3, hx⟩ := hx
  refine ms_cons (m_set (ps_set (i := 7) nd rfl (Or.inl rfl) pe_w) (me_mt m_Cover_rest o_Cover ((cover, had), v3) (mv_var (pv 0) rfl) (ma_vw (ml_var (pv 1) rfl) ma_nil) rfl hv3 (hr.mono (by decide))) ?_)
  show MS _ [some (.fz ((r_Cover C_Cover C_Condition C_CauseIs C_ThingIs C_DaysIn C_Over C_Some C_Deal) cover)), some (.vw (had.map D.int)), some (.fz (.int cents)), some (.vw (free.map e_T_i_i)), some (.fz (.int v1.1)), some (.fz (.int v1.2)), some (.lst ((v2.map e_T_i_i).map .fz)), some (.fz (e_N_T_i_i v3))] _ _
  refine ms_cons (m_if (t := (v3.isNone)) (MT.is (l := (v3.isNone)) (mt_isN (mv_var (pv 7) rfl)) (by cases v3 <;> rfl)) (fun h => ?_) fun h => ms_nil ?_)
  · replace hx := cond_t hx h
    refine ms_one (m_ret (ps_ret pe_w) (mr_var (pv 6) rfl) ?_)
    cases hx; rfl
  replace hx := cond_f hx h
  replace hx := bd_some hx
  obtain ⟨v4, hv4, hx⟩ := hx
  replace hx := bd_some hx
  obtain ⟨v5, hv5, hx⟩ := hx
  refine ms_one (m_ret (ps_ret pe_w) (ME.r (me_fn c_lowest_of ((v2, (some v4.1)), v5) (ma_vw (ml_var (pv 6) rfl) (ma_fz (me_ixT (MV.u (ME.v (ME.is (o' := .fz (e_T_i_i v4)) (me_var (pv 7) rfl) (by rw [hv4]))) (.fz _)) me_int rfl) ma_nil)) hv5 (hr.mono (by decide)))) ?_)
  cases hx; rfl

abbrev e_T_i_i_s_i (p : (Int × Int × Str × Int)) : D := .tup [.int p.1, .int p.2.1, .str p.2.2.1, .int p.2.2.2]
noncomputable def M_unpaid_by (cover : (Str × Cd × (List Unit) × (List Str) × (List Int) × Bool)) (had : (List Int)) (cents : Int) (free : (List (Int × Int))) : Option (List (Int × Int × Str × Int)) :=
  lt ([] : List (Int × Int × Str × Int)) fun strips =>
  bd (M_Cover_parts cover had cents) fun v1 =>
  bd (lp (fun (x3 : (Int × Int × Int)) (p2 : (List (Int × Int × Str × Int))) => (bd (cond (((x3).2.2 == (-1))) (bd (M_Cover_rest cover had) fun v6 =>
      cond (v6.isSome) (bd v6 fun v7 =>
        some v7.2) (some ((x3).2.2))) (some ((x3).2.2)) : Option (Int)) fun p5 =>
    bd (M_cut_within free ((x3).1) ((x3).2.1)) fun v8 =>
    bd (lp (fun (x10 : (Int × Int)) (p9 : (List (Int × Int × Str × Int))) => (gd (p9.length < sizeLine) <|
      lt (p9 ++ [((x10).1, (x10).2, cover.1, p5)]) fun strips_1 =>
      some strips_1 : Option ((List (Int × Int × Str × Int))))) v8 p2) fun p11 =>
    some p11 : Option ((List (Int × Int × Str × Int))))) v1 strips) fun p4 =>
  some p4
def sp_unpaid_by (K : PySem.W.Frag) (C_Cover C_Condition C_CauseIs C_ThingIs C_DaysIn C_Over C_Some C_Deal : Addr) : Sp := SpF K (fun x : (Str × Cd × (List Unit) × (List Str) × (List Int) × Bool) × (List Int) × Int × (List (Int × Int)) => [.fz ((r_Cover C_Cover C_Condition C_CauseIs C_ThingIs C_DaysIn C_Over C_Some C_Deal) x.1), .vw (x.2.1.map D.int), .fz (.int x.2.2.1), .vw (x.2.2.2.map e_T_i_i)]) (fun x => M_unpaid_by x.1 x.2.1 x.2.2.1 x.2.2.2) (fun r => .lst ((r.map e_T_i_i_s_i).map .fz))
abbrev N_unpaid_by : List Str := ["cover", "had", "cents", "free", "strips", "lo", "hi", "k", "rest", "first", "upto"]
theorem sc_unpaid_by : FnScope N_unpaid_by ["cover", "had", "cents", "free"] (defScope s_unpaid_by) := ⟨rfl, rfl, rfl, by decide +kernel, rfl, by decide +kernel, by decide +kernel⟩
theorem ok_unpaid_by {f : Addr} {fd : FuncData} (F : Fun K "unpaid_by" "unpaid_by" s_unpaid_by f fd) (g_PAID_settling : mg "PAID_settling" = some (.int (-1) tkPAID_settling)) (o_Cover : OC K C_Cover ["name", "condition", "clauses", "houses", "deal", "waits"]) (m_Cover_parts : Mt1 P w K mg base C_Cover "parts" 2 ["self", "counts", "cents"] (sp_Cover_parts K C_Cover C_Condition C_CauseIs C_ThingIs C_DaysIn C_Over C_Some C_Deal)) (m_Cover_rest : Mt1 P w K mg base C_Cover "rest" 1 ["self", "counts"] (sp_Cover_rest K C_Cover C_Condition C_CauseIs C_ThingIs C_DaysIn C_Over C_Some C_Deal)) (c_cut_within : Fn1 P w K mg base "cut_within" 1 ["runs", "lo", "hi"] (sp_cut_within K)) : FnOk P w K mg base CX0 3 f fd ["cover", "had", "cents", "free"] (sp_unpaid_by K C_Cover C_Condition C_CauseIs C_ThingIs C_DaysIn C_Over C_Some C_Deal) := by
  refine fn_m F sc_unpaid_by (fun x => rfl) (fun x _ => O.nvL_fz _) fun cdv A outer s H E hr x hx => ?_
  obtain ⟨⟨cover, had, cents, free⟩, r⟩ := x
  replace hx : M_unpaid_by cover had cents free = some r := hx
  have nd := sc_unpaid_by.nd
  unfold M_unpaid_by at hx
  show MS _ [some (.fz ((r_Cover C_Cover C_Condition C_CauseIs C_ThingIs C_DaysIn C_Over C_Some C_Deal) cover)), some (.vw (had.map D.int)), some (.fz (.int cents)), some (.vw (free.map e_T_i_i)), none, none, none, none, none, none, none] _ _
  replace hx := lt_some hx
  obtain ⟨strips, estrips, hx⟩ := hx
  refine ms_cons (m_set (ps_set (i := 4) nd rfl (Or.inl rfl) pe_w) (ME.is (o' := (.lst ((strips.map e_T_i_i_s_i).map .fz))) (me_lst (ds := [].map e_T_i_i_s_i) mf_nil) (by rw [estrips] <;> rfl)) ?_)
  show MS _ [some (.fz ((r_Cover C_Cover C_Condition C_CauseIs C_ThingIs C_DaysIn C_Over C_Some C_Deal) cover)), some (.vw (had.map D.int)), some (.fz (.int cents)), some (.vw (free.map e_T_i_i)), some (.lst ((strips.map e_T_i_i_s_i).map .fz)), none, none, none, none, none, none] _ _
  replace hx := bd_some hx
  obtain ⟨v1, hv1, hx⟩ := hx
  replace hx := bd_some hx
  obtain ⟨p4, hp4, hx⟩ := hx
  refine ms_cons (m_forP (xs := v1) (enc := e_T_i_i_i) (ps_for PassesOwn.never rfl (pi_list pe_w) (pg_tup (n := 3) rfl (pgs_cons (pg_name (i := 5) nd rfl (Or.inl rfl)) (pgs_cons (pg_name (i := 6) nd rfl (Or.inl rfl)) (pgs_cons (pg_name (i := 7) nd rfl (Or.inl rfl)) pgs_nil)))) pss_w) (by exact (mi_list (ds := v1.map e_T_i_i_i) (ME.k (ME.frzl (me_mt m_Cover_parts o_Cover ((cover, had, cents), v1) (mv_var (pv 0) rfl) (ma_vw (ml_var (pv 1) rfl) (ma_fz (me_var (pv 2) rfl) ma_nil)) rfl hv1 (hr.mono (by decide))))))) hp4 (fun p2 => [some (.fz ((r_Cover C_Cover C_Condition C_CauseIs C_ThingIs C_DaysIn C_Over C_Some C_Deal) cover)), some (.vw (had.map D.int)), some (.fz (.int cents)), some (.vw (free.map e_T_i_i)), some (.lst ((p2.map e_T_i_i_s_i).map .fz)), none, none, none, none, none, none]) le_auto (fun x3 p2 p2o mx hx => ?_) fun τ le => ?_)
  ·
    refine ⟨_, _, (mg_tup (mgs_cons mg_name (mgs_cons mg_name (mgs_cons mg_name mgs_nil))) rfl), ?_⟩
    show MS _ [some (.fz ((r_Cover C_Cover C_Condition C_CauseIs C_ThingIs C_DaysIn C_Over C_Some C_Deal) cover)), some (.vw (had.map D.int)), some (.fz (.int cents)), some (.vw (free.map e_T_i_i)), some (.lst ((p2.map e_T_i_i_s_i).map .fz)), some (.fz (.int ((x3).1))), some (.fz (.int ((x3).2.1))), some (.fz (.int ((x3).2.2))), none, none, none] _ _
    replace hx := bd_some hx
    obtain ⟨p5, hp5, hx⟩ := hx
    refine ms_cons (m_ifP (out := p5) (fun p5 => [some (.fz ((r_Cover C_Cover C_Condition C_CauseIs C_ThingIs C_DaysIn C_Over C_Some C_Deal) cover)), some (.vw (had.map D.int)), some (.fz (.int cents)), some (.vw (free.map e_T_i_i)), some (.lst ((p2.map e_T_i_i_s_i).map .fz)), some (.fz (.int ((x3).1))), some (.fz (.int ((x3).2.1))), some (.fz (.int p5)), none, none, none]) (t := (((x3).2.2 == (-1)))) (mt_eqI (me_var (pv 7) rfl) (me_gI g_PAID_settling)) (fun h => ?_) (fun h => ?_) fun τ le => ?_)
    · replace hx := cond_t hp5 h
      replace hx := bd_some hx
      obtain ⟨v6, hv6, hx⟩ := hx
      refine ms_cons (m_set (ps_set (i := 8) nd rfl (Or.inl rfl) pe_w) (me_mt m_Cover_rest o_Cover ((cover, had), v6) (mv_var (pv 0) rfl) (ma_vw (ml_var (pv 1) rfl) ma_nil) rfl hv6 (hr.mono (by decide))) ?_)
      show MS _ [some (.fz ((r_Cover C_Cover C_Condition C_CauseIs C_ThingIs C_DaysIn C_Over C_Some C_Deal) cover)), some (.vw (had.map D.int)), some (.fz (.int cents)), some (.vw (free.map e_T_i_i)), some (.lst ((p2.map e_T_i_i_s_i).map .fz)), some (.fz (.int ((x3).1))), some (.fz (.int ((x3).2.1))), some (.fz (.int ((x3).2.2))), some (.fz (e_N_T_i_i v6)), none, none] _ _
      refine ms_one (m_if (t := (v6.isSome)) (MT.is (l := (v6.isSome)) (mt_notN (mv_var (pv 8) rfl)) (by cases v6 <;> rfl)) (fun h => ?_) fun h => ?_)
      · replace hx := cond_t hx h
        replace hx := bd_some hx
        obtain ⟨v7, hv7, hx⟩ := hx
        refine ms_one (m_set (ps_set (i := 7) nd rfl (Or.inl rfl) pe_w) (me_ixT (MV.u (ME.v (ME.is (o' := .fz (e_T_i_i v7)) (me_var (pv 8) rfl) (by rw [hv7]))) (.fz _)) me_int rfl) ?_)
        cases hx; exact le_auto
      · replace hx := cond_f hx h
        refine ms_nil ?_
        cases hx; exact le_auto
    · replace hx := cond_f hp5 h
      refine ms_nil ?_
      cases hx; exact le_auto
    refine ms_le le ?_
    show MS _ [some (.fz ((r_Cover C_Cover C_Condition C_CauseIs C_ThingIs C_DaysIn C_Over C_Some C_Deal) cover)), some (.vw (had.map D.int)), some (.fz (.int cents)), some (.vw (free.map e_T_i_i)), some (.lst ((p2.map e_T_i_i_s_i).map .fz)), some (.fz (.int ((x3).1))), some (.fz (.int ((x3).2.1))), some (.fz (.int p5)), none, none, none] _ _
    replace hx := bd_some hx
    obtain ⟨v8, hv8, hx⟩ := hx
    replace hx := bd_some hx
    obtain ⟨p11, hp11, hx⟩ := hx
    refine ms_one (m_forP (xs := v8) (enc := e_T_i_i) (ps_for PassesOwn.never rfl (pi_list pe_w) (pg_tup (n := 2) rfl (pgs_cons (pg_name (i := 9) nd rfl (Or.inl rfl)) (pgs_cons (pg_name (i := 10) nd rfl (Or.inl rfl)) pgs_nil))) pss_w) (by exact (mi_list (ds := v8.map e_T_i_i) (ME.k (ME.frzl (me_fn c_cut_within ((free, (x3).1, (x3).2.1), v8) (ma_vw (ml_var (pv 3) rfl) (ma_fz (me_var (pv 5) rfl) (ma_fz (me_var (pv 6) rfl) ma_nil))) hv8 (hr.mono (by decide))))))) hp11 (fun p9 => [some (.fz ((r_Cover C_Cover C_Condition C_CauseIs C_ThingIs C_DaysIn C_Over C_Some C_Deal) cover)), some (.vw (had.map D.int)), some (.fz (.int cents)), some (.vw (free.map e_T_i_i)), some (.lst ((p9.map e_T_i_i_s_i).map .fz)), some (.fz (.int ((x3).1))), some (.fz (.int ((x3).2.1))), some (.fz (.int p5)), none, none, none]) le_auto (fun x10 p9 p9o mx hx => ?_) fun τ le => ?_)
    ·
      refine ⟨_, _, (mg_tup (mgs_cons mg_name (mgs_cons mg_name mgs_nil)) rfl), ?_⟩
      show MS _ [some (.fz ((r_Cover C_Cover C_Condition C_CauseIs C_ThingIs C_DaysIn C_Over C_Some C_Deal) cover)), some (.vw (had.map D.int)), some (.fz (.int cents)), some (.vw (free.map e_T_i_i)), some (.lst ((p9.map e_T_i_i_s_i).map .fz)), some (.fz (.int ((x3).1))), some (.fz (.int ((x3).2.1))), some (.fz (.int p5)), none, some (.fz (.int ((x10).1))), some (.fz (.int ((x10).2)))] _ _
      replace hx := gd_some hx
      obtain ⟨g12, hx⟩ := hx
      replace hx := lt_some hx
      obtain ⟨strips_1, estrips_1, hx⟩ := hx
      refine ms_one (m_appendT (i := 4) (xs := p9) (enc := e_T_i_i_s_i) (y := ((x10).1, (x10).2, cover.1, p5)) g12 (pv _) rfl (me_tup (mf_cons (me_var (pv 9) rfl) (mf_cons (me_var (pv 10) rfl) (mf_cons (me_fld (j := 0) (mv_var (pv 0) rfl) o_Cover) (mf_cons (me_var (pv 7) rfl) mf_nil))))) ?_)
      rw [← estrips_1]
      cases hx; exact le_auto
    cases hx; exact (le.trans le_auto)
  refine ms_le le ?_
  show MS _ [some (.fz ((r_Cover C_Cover C_Condition C_CauseIs C_ThingIs C_DaysIn C_Over C_Some C_Deal) cover)), some (.vw (had.map D.int)), some (.fz (.int cents)), some (.vw (free.map e_T_i_i)), some (.lst ((p4.map e_T_i_i_s_i).map .fz)), none, none, none, none, none, none] _ _
  refine ms_one (m_ret (ps_ret pe_w) (mr_var (pv 4) rfl) ?_)
  cases hx; rfl

abbrev e_N_U_Cover (C_Cover C_Condition C_CauseIs C_ThingIs C_DaysIn C_Over C_Some C_Deal : Addr) (p : (Option (Str × Cd × (List Unit) × (List Str) × (List Int) × Bool))) : D := match p with
  | some v => (r_Cover C_Cover C_Condition C_CauseIs C_ThingIs C_DaysIn C_Over C_Some C_Deal) v
  | none => .non
noncomputable def M_strips_of (book : ((List (Str × Cd × (List Unit) × (List Str) × (List Int) × Bool)) × (List (Str × Cd × (List Unit) × (List Str) × (List Int) × Bool)))) (counts : R_Counts) (loss : (Int × Int × Str × Str × Str × Int)) : Option (List (Int × Int × Str × Int)) :=
  lt ([(0, loss.2.2.2.2.2)] : (List (Int × Int))) fun free =>
  lt ([] : List (Int × Int × Str × Int)) fun strips =>
  bd (lpO (fun (x2 : (Str × Cd × (List Unit) × (List Str) × (List Int) × Bool)) (p1 : (Option (Str × Cd × (List Unit) × (List Str) × (List Int) × Bool)) × (List (Int × Int × Str × Int)) × (List (Int × Int))) => (bd (M_Cover_asks x2 loss) fun v4 =>
    cond (!v4) (some (.ct (p1.1, p1.2.1, p1.2.2))) <|
    bd (cond (p1.1.isNone) (lt (some x2) fun first =>
      some first) (some p1.1) : Option ((Option (Str × Cd × (List Unit) × (List Str) × (List Int) × Bool)))) fun p5 =>
    bd (M_numbers_of x2 counts loss) fun v6 =>
    bd (M_paid_by x2 v6 loss.2.2.2.2.2 p1.2.2) fun v7 =>
    gd (v7.length < sizeLine) <|
    bd (mpO (fun x9 : (Int × Int) => some ((x9).1, (x9).2, x2.1, (-1))) v7) fun v10 =>
    gd (p1.2.1.length + v10.length ≤ sizeLine) <|
    lt (p1.2.1 ++ v10) fun strips_1 =>
    bd (M_cut_out p1.2.2 v7) fun v12 =>
    some (.nx (p5, strips_1, v12)) : Option (Ou ((Option (Str × Cd × (List Unit) × (List Str) × (List Int) × Bool)) × (List (Int × Int × Str × Int)) × (List (Int × Int))) ((Option (Str × Cd × (List Unit) × (List Str) × (List Int) × Bool)) × (List (Int × Int × Str × Int)) × (List (Int × Int))) (List (Int × Int × Str × Int))))) book.2 (none, strips, free)) fun o3 => ouR o3 fun p1 =>
  cond (p1.1.isNone) (some [(0, loss.2.2.2.2.2, ("" : Str), 0)]) <|
  bd p1.1 fun v13 =>
  bd p1.1 fun v14 =>
  bd (M_numbers_of v14 counts loss) fun v15 =>
  bd (M_unpaid_by v13 v15 loss.2.2.2.2.2 p1.2.2) fun v16 =>
  gd (p1.2.1.length + v16.length ≤ sizeLine) <|
  lt (p1.2.1 ++ v16) fun strips_2 =>
  gd (SrtOk e_T_i_i_s_i strips_2) <|
  some (srt e_T_i_i_s_i strips_2)
def sp_strips_of (K : PySem.W.Frag) (C_Book C_Cover C_Condition C_CauseIs C_ThingIs C_DaysIn C_Over C_Some C_Deal C_Counts : Addr) : Sp := SpF K (fun x : ((List (Str × Cd × (List Unit) × (List Str) × (List Int) × Bool)) × (List (Str × Cd × (List Unit) × (List Str) × (List Int) × Bool))) × R_Counts × (Int × Int × Str × Str × Str × Int) => [.fz ((r_Book C_Book C_Cover C_Condition C_CauseIs C_ThingIs C_DaysIn C_Over C_Some C_Deal) x.1), .lk (oo_Counts C_Counts x.2.1), .fz (e_T_i_i_s_s_s_i x.2.2)]) (fun x => M_strips_of x.1 x.2.1 x.2.2) (fun r => .lst ((r.map e_T_i_i_s_i).map .fz))
abbrev N_strips_of : List Str := ["book", "counts", "loss", "cents", "free", "strips", "first", "cover", "took", "lo", "hi"]
theorem sc_strips_of : FnScope N_strips_of ["book", "counts", "loss"] (defScope s_strips_of) := ⟨rfl, rfl, rfl, by decide +kernel, rfl, by decide +kernel, by decide +kernel⟩
theorem ok_strips_of {f : Addr} {fd : FuncData} (F : Fun K "strips_of" "strips_of" s_strips_of f fd) (z_sorted : mg "sorted" = none) (g_PAID_settling : mg "PAID_settling" = some (.int (-1) tkPAID_settling)) (o_Book : OC K C_Book ["covers", "asking"]) (o_Cover : OC K C_Cover ["name", "condition", "clauses", "houses", "deal", "waits"]) (m_Cover_asks : Mt1 P w K mg base C_Cover "asks" 66 ["self", "loss"] (sp_Cover_asks K C_Cover C_Condition C_CauseIs C_ThingIs C_DaysIn C_Over C_Some C_Deal)) (c_numbers_of : Fn1 P w K mg base "numbers_of" 1 ["cover", "counts", "loss"] (sp_numbers_of K C_Cover C_Condition C_CauseIs C_ThingIs C_DaysIn C_Over C_Some C_Deal C_Counts)) (c_paid_by : Fn1 P w K mg base "paid_by" 3 ["cover", "had", "cents", "free"] (sp_paid_by K C_Cover C_Condition C_CauseIs C_ThingIs C_DaysIn C_Over C_Some C_Deal)) (c_cut_out : Fn1 P w K mg base "cut_out" 1 ["runs", "others"] (sp_cut_out K)) (c_unpaid_by : Fn1 P w K mg base "unpaid_by" 3 ["cover", "had", "cents", "free"] (sp_unpaid_by K C_Cover C_Condition C_CauseIs C_ThingIs C_DaysIn C_Over C_Some C_Deal)) : FnOk P w K mg base CX0 67 f fd ["book", "counts", "loss"] (sp_strips_of K C_Book C_Cover C_Condition C_CauseIs C_ThingIs C_DaysIn C_Over C_Some C_Deal C_Counts) := by
  refine fn_m F sc_strips_of (fun x => rfl) (fun x _ => O.nvL_fz _) fun cdv A outer s H E hr x hx => ?_
  obtain ⟨⟨book, counts, loss⟩, r⟩ := x
  replace hx : M_strips_of book counts loss = some r := hx
  have nd := sc_strips_of.nd
  unfold M_strips_of at hx
  show MS _ [some (.fz ((r_Book C_Book C_Cover C_Condition C_CauseIs C_ThingIs C_DaysIn C_Over C_Some C_Deal) book)), some (.lk (oo_Counts C_Counts counts)), some (.fz (e_T_i_i_s_s_s_i loss)), none, none, none, none, none, none, none, none] _ _
  refine ms_cons (m_set (ps_set (i := 3) nd rfl (Or.inl rfl) pe_w) (me_ixT (MV.u (ME.v (me_var (pv 2) rfl)) (.fz _)) me_int rfl) ?_)
  show MS _ [some (.fz ((r_Book C_Book C_Cover C_Condition C_CauseIs C_ThingIs C_DaysIn C_Over C_Some C_Deal) book)), some (.lk (oo_Counts C_Counts counts)), some (.fz (e_T_i_i_s_s_s_i loss)), some (.fz (.int loss.2.2.2.2.2)), none, none, none, none, none, none, none] _ _
  replace hx := lt_some hx
  obtain ⟨free, efree, hx⟩ := hx
  refine ms_cons (m_set (ps_set (i := 4) nd rfl (Or.inl rfl) pe_w) (ME.is (o' := (.lst ((free.map e_T_i_i).map .fz))) (me_lst (ds := [(0, loss.2.2.2.2.2)].map e_T_i_i) (mf_cons (me_tup (mf_cons me_int (mf_cons (me_var (pv 3) rfl) mf_nil))) mf_nil)) (by rw [efree] <;> rfl)) ?_)
  show MS _ [some (.fz ((r_Book C_Book C_Cover C_Condition C_CauseIs C_ThingIs C_DaysIn C_Over C_Some C_Deal) book)), some (.lk (oo_Counts C_Counts counts)), some (.fz (e_T_i_i_s_s_s_i loss)), some (.fz (.int loss.2.2.2.2.2)), some (.lst ((free.map e_T_i_i).map .fz)), none, none, none, none, none, none] _ _
  replace hx := lt_some hx
  obtain ⟨strips, estrips, hx⟩ := hx
  refine ms_cons (m_set (ps_set (i := 5) nd rfl (Or.inl rfl) pe_w) (ME.is (o' := (.lst ((strips.map e_T_i_i_s_i).map .fz))) (me_lst (ds := [].map e_T_i_i_s_i) mf_nil) (by rw [estrips] <;> rfl)) ?_)
  show MS _ [some (.fz ((r_Book C_Book C_Cover C_Condition C_CauseIs C_ThingIs C_DaysIn C_Over C_Some C_Deal) book)), some (.lk (oo_Counts C_Counts counts)), some (.fz (e_T_i_i_s_s_s_i loss)), some (.fz (.int loss.2.2.2.2.2)), some (.lst ((free.map e_T_i_i).map .fz)), some (.lst ((strips.map e_T_i_i_s_i).map .fz)), none, none, none, none, none] _ _
  refine ms_cons (m_set (ps_set (i := 6) nd rfl (Or.inl rfl) pe_w) me_non ?_)
  show MS _ [some (.fz ((r_Book C_Book C_Cover C_Condition C_CauseIs C_ThingIs C_DaysIn C_Over C_Some C_Deal) book)), some (.lk (oo_Counts C_Counts counts)), some (.fz (e_T_i_i_s_s_s_i loss)), some (.fz (.int loss.2.2.2.2.2)), some (.lst ((free.map e_T_i_i).map .fz)), some (.lst ((strips.map e_T_i_i_s_i).map .fz)), some (.fz ((e_N_U_Cover C_Cover C_Condition C_CauseIs C_ThingIs C_DaysIn C_Over C_Some C_Deal) none)), none, none, none, none] _ _
  replace hx := bd_some hx
  obtain ⟨o3, ho3, hx⟩ := hx
  refine ms_cons (m_forO (xs := book.2) (enc := (r_Cover C_Cover C_Condition C_CauseIs C_ThingIs C_DaysIn C_Over C_Some C_Deal)) (ps_for PassesOwn.never rfl (pi_list pe_w) (pg_name (i := 7) nd rfl (Or.inr rfl)) pss_w) (by exact (mi_list (ds := book.2.map (r_Cover C_Cover C_Condition C_CauseIs C_ThingIs C_DaysIn C_Over C_Some C_Deal)) (ME.k (me_fld (j := 1) (mv_var (pv 0) rfl) o_Book)))) ho3 (fun p1 => [some (.fz ((r_Book C_Book C_Cover C_Condition C_CauseIs C_ThingIs C_DaysIn C_Over C_Some C_Deal) book)), some (.lk (oo_Counts C_Counts counts)), some (.fz (e_T_i_i_s_s_s_i loss)), some (.fz (.int loss.2.2.2.2.2)), some (.lst ((p1.2.2.map e_T_i_i).map .fz)), some (.lst ((p1.2.1.map e_T_i_i_s_i).map .fz)), some (.fz ((e_N_U_Cover C_Cover C_Condition C_CauseIs C_ThingIs C_DaysIn C_Over C_Some C_Deal) p1.1)), none, none, none, none]) (fun r => .lst ((r.map e_T_i_i_s_i).map .fz)) le_auto (fun x2 p1 p1o mx hx => ?_) (fun p1 τ e le => ?_) fun q e => ?_)
  ·
    refine ⟨_, _, mg_name, ?_⟩
    show MS _ [some (.fz ((r_Book C_Book C_Cover C_Condition C_CauseIs C_ThingIs C_DaysIn C_Over C_Some C_Deal) book)), some (.lk (oo_Counts C_Counts counts)), some (.fz (e_T_i_i_s_s_s_i loss)), some (.fz (.int loss.2.2.2.2.2)), some (.lst ((p1.2.2.map e_T_i_i).map .fz)), some (.lst ((p1.2.1.map e_T_i_i_s_i).map .fz)), some (.fz ((e_N_U_Cover C_Cover C_Condition C_CauseIs C_ThingIs C_DaysIn C_Over C_Some C_Deal) p1.1)), some (.fz ((r_Cover C_Cover C_Condition C_CauseIs C_ThingIs C_DaysIn C_Over C_Some C_Deal) x2)), none, none, none] _ _
    replace hx := bd_some hx
    obtain ⟨v4, hv4, hx⟩ := hx
    refine ms_cons (m_if (t := (!v4)) (mt_not (mt_val (me_mt m_Cover_asks o_Cover ((x2, loss), v4) (mv_var (pv 7) rfl) (ma_fz (me_var (pv 2) rfl) ma_nil) rfl hv4 (hr.mono (by decide))))) (fun h => ?_) fun h => ms_nil ?_)
    · replace hx := cond_t hx h
      refine ms_one (m_continue ?_)
      cases hx; exact ⟨_, rfl, le_auto⟩
    replace hx := cond_f hx h
    replace hx := bd_some hx
    obtain ⟨p5, hp5, hx⟩ := hx
    refine ms_cons (m_ifP (out := p5) (fun p5 => [some (.fz ((r_Book C_Book C_Cover C_Condition C_CauseIs C_ThingIs C_DaysIn C_Over C_Some C_Deal) book)), some (.lk (oo_Counts C_Counts counts)), some (.fz (e_T_i_i_s_s_s_i loss)), some (.fz (.int loss.2.2.2.2.2)), some (.lst ((p1.2.2.map e_T_i_i).map .fz)), some (.lst ((p1.2.1.map e_T_i_i_s_i).map .fz)), some (.fz ((e_N_U_Cover C_Cover C_Condition C_CauseIs C_ThingIs C_DaysIn C_Over C_Some C_Deal) p5)), some (.fz ((r_Cover C_Cover C_Condition C_CauseIs C_ThingIs C_DaysIn C_Over C_Some C_Deal) x2)), none, none, none]) (t := (p1.1.isNone)) (MT.is (l := (p1.1.isNone)) (mt_isN (mv_var (pv 6) rfl)) (by cases p1.1 <;> rfl)) (fun h => ?_) (fun h => ?_) fun τ le => ?_)
    · replace hx := cond_t hp5 h
      replace hx := lt_some hx
      obtain ⟨first, efirst, hx⟩ := hx
      refine ms_one (m_set (ps_set (i := 6) nd rfl (Or.inl rfl) pe_w) (ME.is (o' := (.fz ((e_N_U_Cover C_Cover C_Condition C_CauseIs C_ThingIs C_DaysIn C_Over C_Some C_Deal) first))) (me_var (pv 7) rfl) (by rw [efirst] <;> rfl)) ?_)
      cases hx; exact le_auto
    · replace hx := cond_f hp5 h
      refine ms_nil ?_
      cases hx; exact le_auto
    refine ms_le le ?_
    show MS _ [some (.fz ((r_Book C_Book C_Cover C_Condition C_CauseIs C_ThingIs C_DaysIn C_Over C_Some C_Deal) book)), some (.lk (oo_Counts C_Counts counts)), some (.fz (e_T_i_i_s_s_s_i loss)), some (.fz (.int loss.2.2.2.2.2)), some (.lst ((p1.2.2.map e_T_i_i).map .fz)), some (.lst ((p1.2.1.map e_T_i_i_s_i).map .fz)), some (.fz ((e_N_U_Cover C_Cover C_Condition C_CauseIs C_ThingIs C_DaysIn C_Over C_Some C_Deal) p5)), some (.fz ((r_Cover C_Cover C_Condition C_CauseIs C_ThingIs C_DaysIn C_Over C_Some C_Deal) x2)), none, none, none] _ _
    replace hx := bd_some hx
    obtain ⟨v6, hv6, hx⟩ := hx
    replace hx := bd_some hx
    obtain ⟨v7, hv7, hx⟩ := hx
    refine ms_cons (m_set (ps_set (i := 8) nd rfl (Or.inl rfl) pe_w) (me_fn c_paid_by ((x2, v6, loss.2.2.2.2.2, p1.2.2), v7) (ma_fz (me_var (pv 7) rfl) (ma_vw (ME.l (me_fn c_numbers_of ((x2, counts, loss), v6) (ma_fz (me_var (pv 7) rfl) (ma_lk (MV.unlk (mv_var (pv 1) rfl)) (ma_fz (me_var (pv 2) rfl) ma_nil))) hv6 (hr.mono (by decide)))) (ma_fz (me_var (pv 3) rfl) (ma_vw (ml_var (pv 4) rfl) ma_nil)))) hv7 (hr.mono (by decide))) ?_)
    show MS _ [some (.fz ((r_Book C_Book C_Cover C_Condition C_CauseIs C_ThingIs C_DaysIn C_Over C_Some C_Deal) book)), some (.lk (oo_Counts C_Counts counts)), some (.fz (e_T_i_i_s_s_s_i loss)), some (.fz (.int loss.2.2.2.2.2)), some (.lst ((p1.2.2.map e_T_i_i).map .fz)), some (.lst ((p1.2.1.map e_T_i_i_s_i).map .fz)), some (.fz ((e_N_U_Cover C_Cover C_Condition C_CauseIs C_ThingIs C_DaysIn C_Over C_Some C_Deal) p5)), some (.fz ((r_Cover C_Cover C_Condition C_CauseIs C_ThingIs C_DaysIn C_Over C_Some C_Deal) x2)), some (.lst ((v7.map e_T_i_i).map .fz)), none, none] _ _
    replace hx := gd_some hx
    obtain ⟨g8, hx⟩ := hx
    replace hx := bd_some hx
    obtain ⟨v10, hv10, hx⟩ := hx
    replace hx := gd_some hx
    obtain ⟨g11, hx⟩ := hx
    replace hx := lt_some hx
    obtain ⟨strips_1, estrips_1, hx⟩ := hx
    refine ms_cons (m_extendPT (xs := p1.2.1) (ys := v10) (enc := e_T_i_i_s_i) (MQ.toP (mq_var (pv 5) rfl)) (ME.v (by exact (me_lcO (g := (gTup K 2 (gCons (gName 9) (gCons (gName 10) gNil)))) (xs := v7) (ys := v10) (enc := e_T_i_i) (enc2 := e_T_i_i_s_i) hv10 (fun te he => pe_lc (own := [("lo", 9), ("hi", 10)]) rfl nd (pi_list pe_w) (blkOk_by (N := N_strips_of) (sc := defScope s_strips_of) (by decide +kernel)) (fun _ _ _ _ _ => (pg_tup (n := 2) rfl (pgs_cons (pg_name (i := 9) nd rfl (Or.inl rfl)) (pgs_cons (pg_name (i := 10) nd rfl (Or.inl rfl)) pgs_nil)))) (fun _ _ _ _ _ => pts_nil) he) (mic_list (ml_var (pv 8) rfl)) g8 (fun x9 mx x9y hx => by injection hx with hx; subst x9y; exact ⟨_, _, (mg_tup (mgs_cons mg_name (mgs_cons mg_name mgs_nil)) rfl), by decide, fun s H C cl fp => (me_tup (mf_cons (me_var (pv 9) rfl) (mf_cons (me_var (pv 10) rfl) (mf_cons (me_fld (j := 0) (mv_var (pv 7) rfl) o_Cover) (mf_cons (me_gI g_PAID_settling) mf_nil)))))⟩)))) g11 ?_)
    rw [← estrips_1]
    show MS _ [some (.fz ((r_Book C_Book C_Cover C_Condition C_CauseIs C_ThingIs C_DaysIn C_Over C_Some C_Deal) book)), some (.lk (oo_Counts C_Counts counts)), some (.fz (e_T_i_i_s_s_s_i loss)), some (.fz (.int loss.2.2.2.2.2)), some (.lst ((p1.2.2.map e_T_i_i).map .fz)), some (.lst ((strips_1.map e_T_i_i_s_i).map .fz)), some (.fz ((e_N_U_Cover C_Cover C_Condition C_CauseIs C_ThingIs C_DaysIn C_Over C_Some C_Deal) p5)), some (.fz ((r_Cover C_Cover C_Condition C_CauseIs C_ThingIs C_DaysIn C_Over C_Some C_Deal) x2)), some (.lst ((v7.map e_T_i_i).map .fz)), none, none] _ _
    replace hx := bd_some hx
    obtain ⟨v12, hv12, hx⟩ := hx
    refine ms_one (m_set (ps_set (i := 4) nd rfl (Or.inl rfl) pe_w) (me_fn c_cut_out ((p1.2.2, v7), v12) (ma_vw (ml_var (pv 4) rfl) (ma_vw (ml_var (pv 8) rfl) ma_nil)) hv12 (hr.mono (by decide))) ?_)
    cases hx; exact ⟨_, rfl, le_auto⟩
  · subst e
    dsimp only [ouR] at hx
    refine ms_le le ?_
    show MS _ [some (.fz ((r_Book C_Book C_Cover C_Condition C_CauseIs C_ThingIs C_DaysIn C_Over C_Some C_Deal) book)), some (.lk (oo_Counts C_Counts counts)), some (.fz (e_T_i_i_s_s_s_i loss)), some (.fz (.int loss.2.2.2.2.2)), some (.lst ((p1.2.2.map e_T_i_i).map .fz)), some (.lst ((p1.2.1.map e_T_i_i_s_i).map .fz)), some (.fz ((e_N_U_Cover C_Cover C_Condition C_CauseIs C_ThingIs C_DaysIn C_Over C_Some C_Deal) p1.1)), none, none, none, none] _ _
    refine ms_cons (m_if (t := (p1.1.isNone)) (MT.is (l := (p1.1.isNone)) (mt_isN (mv_var (pv 6) rfl)) (by cases p1.1 <;> rfl)) (fun h => ?_) fun h => ms_nil ?_)
    · replace hx := cond_t hx h
      refine ms_one (m_ret (ps_ret pe_w) (ME.r (me_lst (ds := [(0, loss.2.2.2.2.2, ("" : Str), 0)].map e_T_i_i_s_i) (mf_cons (me_tup (mf_cons me_int (mf_cons (me_var (pv 3) rfl) (mf_cons me_str (mf_cons me_int mf_nil))))) mf_nil))) ?_)
      cases hx; rfl
    replace hx := cond_f hx h
    replace hx := bd_some hx
    obtain ⟨v13, hv13, hx⟩ := hx
    replace hx := bd_some hx
    obtain ⟨v14, hv14, hx⟩ := hx
    replace hx := bd_some hx
    obtain ⟨v15, hv15, hx⟩ := hx
    replace hx := bd_some hx
    obtain ⟨v16, hv16, hx⟩ := hx
    replace hx := gd_some hx
    obtain ⟨g17, hx⟩ := hx
    replace hx := lt_some hx
    obtain ⟨strips_2, estrips_2, hx⟩ := hx
    refine ms_cons (m_extendPT (xs := p1.2.1) (ys := v16) (enc := e_T_i_i_s_i) (MQ.toP (mq_var (pv 5) rfl)) (ME.v (me_fn c_unpaid_by ((v13, v15, loss.2.2.2.2.2, p1.2.2), v16) (ma_fz (ME.is (o' := .fz ((r_Cover C_Cover C_Condition C_CauseIs C_ThingIs C_DaysIn C_Over C_Some C_Deal) v13)) (me_var (pv 6) rfl) (by rw [hv13])) (ma_vw (ME.l (me_fn c_numbers_of ((v14, counts, loss), v15) (ma_fz (ME.is (o' := .fz ((r_Cover C_Cover C_Condition C_CauseIs C_ThingIs C_DaysIn C_Over C_Some C_Deal) v14)) (me_var (pv 6) rfl) (by rw [hv14])) (ma_lk (MV.unlk (mv_var (pv 1) rfl)) (ma_fz (me_var (pv 2) rfl) ma_nil))) hv15 (hr.mono (by decide)))) (ma_fz (me_var (pv 3) rfl) (ma_vw (ml_var (pv 4) rfl) ma_nil)))) hv16 (hr.mono (by decide)))) g17 ?_)
    rw [← estrips_2]
    show MS _ [some (.fz ((r_Book C_Book C_Cover C_Condition C_CauseIs C_ThingIs C_DaysIn C_Over C_Some C_Deal) book)), some (.lk (oo_Counts C_Counts counts)), some (.fz (e_T_i_i_s_s_s_i loss)), some (.fz (.int loss.2.2.2.2.2)), some (.lst ((p1.2.2.map e_T_i_i).map .fz)), some (.lst ((strips_2.map e_T_i_i_s_i).map .fz)), some (.fz ((e_N_U_Cover C_Cover C_Condition C_CauseIs C_ThingIs C_DaysIn C_Over C_Some C_Deal) p1.1)), none, none, none, none] _ _
    replace hx := gd_some hx
    obtain ⟨g18, hx⟩ := hx
    refine ms_one (m_ret (ps_ret pe_w) (ME.r (me_sorted (bs := strips_2) (enc := e_T_i_i_s_i) hr.units (by rfl) z_sorted (ml_var (pv 5) rfl) g18.1 g18.2.1 g18.2.2.1 g18.2.2.2)) ?_)
    cases hx; rfl
  · subst e; cases hx; rfl
abbrev e_T_L_s_L_s_L_i_L_i (p : ((List Str) × (List Str) × (List Int) × (List Int))) : D := .tup [.lst (p.1.map D.str), .lst (p.2.1.map D.str), .lst (p.2.2.1.map D.int), .lst (p.2.2.2.map D.int)]
noncomputable def M_marks_of (book : ((List (Str × Cd × (List Unit) × (List Str) × (List Int) × Bool)) × (List (Str × Cd × (List Unit) × (List Str) × (List Int) × Bool)))) : Option ((List Str) × (List Str) × (List Int) × (List Int)) :=
  lt ([((.inr ("cause" : Str)), ([] : List D)), ((.inr ("thing" : Str)), ([] : List D)), ((.inr ("day" : Str)), ([] : List D)), ((.inr ("cents" : Str)), ([] : List D))] : (List (Key × (List D)))) fun found =>
  bd (lp (fun (x2 : (Str × Cd × (List Unit) × (List Str) × (List Int) × Bool)) (p1 : (List (Key × (List D)))) => (bd (U_Cd_marks (Kn_marks 64) x2.2.1) fun v4 =>
    bd (lp (fun (x6 : (Str × D)) (p5 : (List (Key × (List D)))) => (bd (lkp p5 ((.inr ((x6).1)) : Key)) fun v8 =>
      lt ((lkp p5 ((.inr ((x6).1)) : Key)).getD ([] : (List D))) fun row =>
      gd (D.ok (x6).2 ∧ D.ok (.lst (row.map e_d))) <|
      bd (cond (!(inDL e_d row (x6).2)) (gd (row.length < sizeLine) <|
        lt (row ++ [(x6).2]) fun row_1 =>
        some row_1) (some row) : Option ((List D))) fun p11 =>
      some (utK p5 ((.inr ((x6).1)) : Key) p11) : Option ((List (Key × (List D)))))) v4 p1) fun p7 =>
    some p7 : Option ((List (Key × (List D)))))) book.1 found) fun p3 =>
  bd (lkp p3 ((.inr ("day" : Str)) : Key)) fun v13 =>
  gd (v13.length < sizeLine) <|
  bd (fmO (fun x15 : D => bd (asI x15) fun v16 => some (decide (1 ≤ v16) && decide (v16 ≤ 1000000))) (fun x15 : D => some x15) v13) fun v17 =>
  bd (lkp p3 ((.inr ("cause" : Str)) : Key)) fun v19 =>
  bd (mpO asS v19) fun v20 =>
  gd (SrtOk D.str v20) <|
  bd (lkp p3 ((.inr ("thing" : Str)) : Key)) fun v22 =>
  bd (mpO asS v22) fun v23 =>
  gd (SrtOk D.str v23) <|
  bd (mpO asI v17) fun v25 =>
  gd (SrtOk D.int v25) <|
  bd (lkp p3 ((.inr ("cents" : Str)) : Key)) fun v27 =>
  bd (mpO asI v27) fun v28 =>
  gd (SrtOk D.int v28) <|
  some ((srt D.str v20), (srt D.str v23), (srt D.int v25), (srt D.int v28))
def sp_marks_of (K : PySem.W.Frag) (C_Book C_Cover C_Condition C_CauseIs C_ThingIs C_DaysIn C_Over C_Some C_Deal : Addr) : Sp := SpF K (fun x : ((List (Str × Cd × (List Unit) × (List Str) × (List Int) × Bool)) × (List (Str × Cd × (List Unit) × (List Str) × (List Int) × Bool))) => [.fz ((r_Book C_Book C_Cover C_Condition C_CauseIs C_ThingIs C_DaysIn C_Over C_Some C_Deal) x)]) (fun x => M_marks_of x) (fun r => .fz (e_T_L_s_L_s_L_i_L_i r))
abbrev N_marks_of : List Str := ["book", "found", "cover", "word", "value", "row", "days", "day"]
theorem sc_marks_of : FnScope N_marks_of ["book"] (defScope s_marks_of) := ⟨rfl, rfl, rfl, by decide +kernel, rfl, by decide +kernel, by decide +kernel⟩
theorem ok_marks_of {f : Addr} {fd : FuncData} (F : Fun K "marks_of" "marks_of" s_marks_of f fd) (z_sorted : mg "sorted" = none) (g_LAST_DAY : mg "LAST_DAY" = some (.int 1000000 tkLAST_DAY)) (o_Book : OC K C_Book ["covers", "asking"]) (o_Cover : OC K C_Cover ["name", "condition", "clauses", "houses", "deal", "waits"]) (o_Condition : OC K C_Condition []) (o_CauseIs : OC K C_CauseIs ["name"]) (o_ThingIs : OC K C_ThingIs ["name"]) (o_DaysIn : OC K C_DaysIn ["first", "last"]) (o_Over : OC K C_Over ["cents"]) (o_Some : OC K C_Some ["several"]) (m_Condition_marks : Mt1 P w K mg base C_Condition "marks" 1 ["self"] (sp_Condition_marks K C_Condition C_CauseIs C_ThingIs C_DaysIn C_Over C_Some)) (m_CauseIs_marks : Mt1 P w K mg base C_CauseIs "marks" 1 ["self"] (sp_CauseIs_marks K C_CauseIs)) (m_ThingIs_marks : Mt1 P w K mg base C_ThingIs "marks" 1 ["self"] (sp_ThingIs_marks K C_ThingIs)) (m_DaysIn_marks : Mt1 P w K mg base C_DaysIn "marks" 1 ["self"] (sp_DaysIn_marks K C_DaysIn)) (m_Over_marks : Mt1 P w K mg base C_Over "marks" 1 ["self"] (sp_Over_marks K C_Over)) (m_Some_marks : Mt1 P w K mg base C_Some "marks" 65 ["self"] (sp_Some_marks K C_Some C_Condition C_CauseIs C_ThingIs C_DaysIn C_Over 64)) : FnOk P w K mg base CX0 66 f fd ["book"] (sp_marks_of K C_Book C_Cover C_Condition C_CauseIs C_ThingIs C_DaysIn C_Over C_Some C_Deal) := by
  refine fn_m F sc_marks_of (fun x => rfl) (fun x _ => rfl) fun cdv A outer s H E hr x hx => ?_
  obtain ⟨book, r⟩ := x
  replace hx : M_marks_of book = some r := hx
  have nd := sc_marks_of.nd
  unfold M_marks_of at hx
  show MS _ [some (.fz ((r_Book C_Book C_Cover C_Condition C_CauseIs C_ThingIs C_DaysIn C_Over C_Some C_Deal) book)), none, none, none, none, none, none, none] _ _
  replace hx := lt_some hx
  obtain ⟨found, efound, hx⟩ := hx
  refine ms_cons (m_set (ps_set (i := 1) nd rfl (Or.inl rfl) pe_w) (ME.is (o' := (oDK (fun y => .lst ((y.map e_d).map .fz)) found)) (ME.is (o' := oDK (fun y => .lst ((y.map e_d).map .fz)) ([((.inr ("cause" : Str)), ([] : List D)), ((.inr ("thing" : Str)), ([] : List D)), ((.inr ("day" : Str)), ([] : List D)), ((.inr ("cents" : Str)), ([] : List D))] : (List (Key × (List D))))) (me_dispO (mdo_cons (ME.is (o' := .lst ((([] : List D).map e_d).map .fz)) (me_lst (ds := [].map e_d) mf_nil) rfl) (mdo_cons (ME.is (o' := .lst ((([] : List D).map e_d).map .fz)) (me_lst (ds := [].map e_d) mf_nil) rfl) (mdo_cons (ME.is (o' := .lst ((([] : List D).map e_d).map .fz)) (me_lst (ds := [].map e_d) mf_nil) rfl) (mdo_cons (ME.is (o' := .lst ((([] : List D).map e_d).map .fz)) (me_lst (ds := [].map e_d) mf_nil) rfl) mdo_nil))))) rfl) (by rw [efound] <;> rfl)) ?_)
  show MS _ [some (.fz ((r_Book C_Book C_Cover C_Condition C_CauseIs C_ThingIs C_DaysIn C_Over C_Some C_Deal) book)), some (oDK (fun y => .lst ((y.map e_d).map .fz)) found), none, none, none, none, none, none] _ _
  replace hx := bd_some hx
  obtain ⟨p3, hp3, hx⟩ := hx
  refine ms_cons (m_forP (xs := book.1) (enc := (r_Cover C_Cover C_Condition C_CauseIs C_ThingIs C_DaysIn C_Over C_Some C_Deal)) (ps_for PassesOwn.never rfl (pi_list pe_w) (pg_name (i := 2) nd rfl (Or.inl rfl)) pss_w) (by exact (mi_list (ds := book.1.map (r_Cover C_Cover C_Condition C_CauseIs C_ThingIs C_DaysIn C_Over C_Some C_Deal)) (ME.k (me_fld (j := 0) (mv_var (pv 0) rfl) o_Book)))) hp3 (fun p1 => [some (.fz ((r_Book C_Book C_Cover C_Condition C_CauseIs C_ThingIs C_DaysIn C_Over C_Some C_Deal) book)), some (oDK (fun y => .lst ((y.map e_d).map .fz)) p1), none, none, none, none, none, none]) le_auto (fun x2 p1 p1o mx hx => ?_) fun τ le => ?_)
  ·
    refine ⟨_, _, mg_name, ?_⟩
    show MS _ [some (.fz ((r_Book C_Book C_Cover C_Condition C_CauseIs C_ThingIs C_DaysIn C_Over C_Some C_Deal) book)), some (oDK (fun y => .lst ((y.map e_d).map .fz)) p1), some (.fz ((r_Cover C_Cover C_Condition C_CauseIs C_ThingIs C_DaysIn C_Over C_Some C_Deal) x2)), none, none, none, none, none] _ _
    replace hx := bd_some hx
    obtain ⟨v4, hv4, hx⟩ := hx
    replace hx := bd_some hx
    obtain ⟨p7, hp7, hx⟩ := hx
    refine ms_one (m_forP (xs := v4) (enc := e_T_s_d) (ps_for PassesOwn.never rfl (pi_list pe_w) (pg_tup (n := 2) rfl (pgs_cons (pg_name (i := 3) nd rfl (Or.inl rfl)) (pgs_cons (pg_name (i := 4) nd rfl (Or.inl rfl)) pgs_nil))) pss_w) (by exact (mi_list (ds := v4.map e_T_s_d) (ME.k (ME.frzl (show ME _ _ _ (.lst ((v4.map e_T_s_d).map .fz)) from by obtain ⟨cc, hv⟩ : ∃ cc, x2.2.1 = cc := ⟨_, rfl⟩; cases cc with | plain p => exact me_mt0 m_Condition_marks o_Condition ((.plain p), v4) (MV.as (ME.v (me_fld (j := 1) (mv_var (pv 2) rfl) o_Cover)) (congrArg (u_Cd C_Condition C_CauseIs C_ThingIs C_DaysIn C_Over C_Some) hv)) rfl ((congrArg (fun q => U_Cd_marks (Kn_marks 64) q ) hv).symm.trans hv4) (hr.mono (by decide)) | cause p => exact me_mt0 m_CauseIs_marks o_CauseIs (p, v4) (MV.as (ME.v (me_fld (j := 1) (mv_var (pv 2) rfl) o_Cover)) ((congrArg (u_Cd C_Condition C_CauseIs C_ThingIs C_DaysIn C_Over C_Some) hv).trans (u_Cd_cause C_Condition C_CauseIs C_ThingIs C_DaysIn C_Over C_Some _))) rfl ((congrArg (fun q => U_Cd_marks (Kn_marks 64) q ) hv).symm.trans hv4) (hr.mono (by decide)) | thing p => exact me_mt0 m_ThingIs_marks o_ThingIs (p, v4) (MV.as (ME.v (me_fld (j := 1) (mv_var (pv 2) rfl) o_Cover)) ((congrArg (u_Cd C_Condition C_CauseIs C_ThingIs C_DaysIn C_Over C_Some) hv).trans (u_Cd_thing C_Condition C_CauseIs C_ThingIs C_DaysIn C_Over C_Some _))) rfl ((congrArg (fun q => U_Cd_marks (Kn_marks 64) q ) hv).symm.trans hv4) (hr.mono (by decide)) | days p => exact me_mt0 m_DaysIn_marks o_DaysIn (p, v4) (MV.as (ME.v (me_fld (j := 1) (mv_var (pv 2) rfl) o_Cover)) ((congrArg (u_Cd C_Condition C_CauseIs C_ThingIs C_DaysIn C_Over C_Some) hv).trans (u_Cd_days C_Condition C_CauseIs C_ThingIs C_DaysIn C_Over C_Some _))) rfl ((congrArg (fun q => U_Cd_marks (Kn_marks 64) q ) hv).symm.trans hv4) (hr.mono (by decide)) | over p => exact me_mt0 m_Over_marks o_Over (p, v4) (MV.as (ME.v (me_fld (j := 1) (mv_var (pv 2) rfl) o_Cover)) ((congrArg (u_Cd C_Condition C_CauseIs C_ThingIs C_DaysIn C_Over C_Some) hv).trans (u_Cd_over C_Condition C_CauseIs C_ThingIs C_DaysIn C_Over C_Some _))) rfl ((congrArg (fun q => U_Cd_marks (Kn_marks 64) q ) hv).symm.trans hv4) (hr.mono (by decide)) | someOf p => exact me_mt0 m_Some_marks o_Some (p, v4) (MV.as (ME.v (me_fld (j := 1) (mv_var (pv 2) rfl) o_Cover)) ((congrArg (u_Cd C_Condition C_CauseIs C_ThingIs C_DaysIn C_Over C_Some) hv).trans (u_Cd_someOf C_Condition C_CauseIs C_ThingIs C_DaysIn C_Over C_Some _))) rfl ((congrArg (fun q => U_Cd_marks (Kn_marks 64) q ) hv).symm.trans hv4) (hr.mono (by decide))))))) hp7 (fun p5 => [some (.fz ((r_Book C_Book C_Cover C_Condition C_CauseIs C_ThingIs C_DaysIn C_Over C_Some C_Deal) book)), some (oDK (fun y => .lst ((y.map e_d).map .fz)) p5), some (.fz ((r_Cover C_Cover C_Condition C_CauseIs C_ThingIs C_DaysIn C_Over C_Some C_Deal) x2)), none, none, none, none, none]) le_auto (fun x6 p5 p5o mx hx => ?_) fun τ le => ?_)
    ·
      refine ⟨_, _, (mg_tup (mgs_cons mg_name (mgs_cons mg_name mgs_nil)) rfl), ?_⟩
      show MS _ [some (.fz ((r_Book C_Book C_Cover C_Condition C_CauseIs C_ThingIs C_DaysIn C_Over C_Some C_Deal) book)), some (oDK (fun y => .lst ((y.map e_d).map .fz)) p5), some (.fz ((r_Cover C_Cover C_Condition C_CauseIs C_ThingIs C_DaysIn C_Over C_Some C_Deal) x2)), some (.fz (.str ((x6).1))), some (.fz (x6).2), none, none, none] _ _
      replace hx := bd_some hx
      obtain ⟨v8, hv8, hx⟩ := hx
      replace hx := lt_some hx
      obtain ⟨row, erow, hx⟩ := hx
      refine ms_cons (m_aliasP (i := 5) (ps_set (i := 5) nd rfl (Or.inl rfl) pe_w) (mp_ixK (m := p5) (g := (fun y => .lst ((y.map e_d).map .fz))) (y0 := ([] : (List D))) hr.units hv8 (mq_var (pv 1) rfl) (me_var (pv 3) rfl) rfl) rfl (fun b9 => ?_) (fun _ => Nat.le_of_ble_eq_true rfl))
      rw [← erow]
      show MS _ [some (.fz ((r_Book C_Book C_Cover C_Condition C_CauseIs C_ThingIs C_DaysIn C_Over C_Some C_Deal) book)), some (.dct ((sdK p5 ((.inr ((x6).1)) : Key) ([] : (List D))).map (·.1)) (((sdK p5 ((.inr ((x6).1)) : Key) ([] : (List D))).map fun p => (fun y => .lst ((y.map e_d).map .fz)) p.2).set (sdI p5 ((.inr ((x6).1)) : Key)) (.loc b9 ((fun y => .lst ((y.map e_d).map .fz)) row)))), some (.fz ((r_Cover C_Cover C_Condition C_CauseIs C_ThingIs C_DaysIn C_Over C_Some C_Deal) x2)), some (.fz (.str ((x6).1))), some (.fz (x6).2), some (.pt b9), none, none] _ _
      replace hx := gd_some hx
      obtain ⟨g10, hx⟩ := hx
      replace hx := bd_some hx
      obtain ⟨p11, hp11, hx⟩ := hx
      refine ms_cons (m_ifP (out := p11) (fun p11 => [some (.fz ((r_Book C_Book C_Cover C_Condition C_CauseIs C_ThingIs C_DaysIn C_Over C_Some C_Deal) book)), some (.dct ((sdK p5 ((.inr ((x6).1)) : Key) ([] : (List D))).map (·.1)) (((sdK p5 ((.inr ((x6).1)) : Key) ([] : (List D))).map fun p => (fun y => .lst ((y.map e_d).map .fz)) p.2).set (sdI p5 ((.inr ((x6).1)) : Key)) (.loc b9 ((fun y => .lst ((y.map e_d).map .fz)) p11)))), some (.fz ((r_Cover C_Cover C_Condition C_CauseIs C_ThingIs C_DaysIn C_Over C_Some C_Deal) x2)), some (.fz (.str ((x6).1))), some (.fz (x6).2), some (.pt b9), none, none]) (t := (!(inDL e_d row (x6).2))) (mt_niDL (xs := row) (enc := e_d) (d := (x6).2) (r_u65 hr) g10 frz_own (ME.v (me_var (pv 4) rfl)) (mv_pt (pv 5) (fp_alKV (i := 1) (n := sdI p5 ((.inr ((x6).1)) : Key)) rfl (sdI_lt (fun y => .lst ((y.map e_d).map .fz)) p5 ((.inr ((x6).1)) : Key) ([] : (List D)))) rfl)) (fun h => ?_) (fun h => ?_) fun τ le => ?_)
      · replace hx := cond_t hp11 h
        replace hx := gd_some hx
        obtain ⟨g12, hx⟩ := hx
        replace hx := lt_some hx
        obtain ⟨row_1, erow_1, hx⟩ := hx
        refine ms_one (m_appendPT (xs := row) (enc := e_d) (y := (x6).2) (MQ.toP (mq_pt (pv 5) (fp_alKV (i := 1) (n := sdI p5 ((.inr ((x6).1)) : Key)) rfl (sdI_lt (fun y => .lst ((y.map e_d).map .fz)) p5 ((.inr ((x6).1)) : Key) ([] : (List D)))) rfl)) (me_var (pv 4) rfl) g12 ?_)
        rw [← erow_1]
        cases hx; exact le_auto
      · replace hx := cond_f hp11 h
        refine ms_nil ?_
        cases hx; exact le_auto
      refine ms_le le ?_
      show MS _ [some (.fz ((r_Book C_Book C_Cover C_Condition C_CauseIs C_ThingIs C_DaysIn C_Over C_Some C_Deal) book)), some (.dct ((sdK p5 ((.inr ((x6).1)) : Key) ([] : (List D))).map (·.1)) (((sdK p5 ((.inr ((x6).1)) : Key) ([] : (List D))).map fun p => (fun y => .lst ((y.map e_d).map .fz)) p.2).set (sdI p5 ((.inr ((x6).1)) : Key)) (.loc b9 ((fun y => .lst ((y.map e_d).map .fz)) p11)))), some (.fz ((r_Cover C_Cover C_Condition C_CauseIs C_ThingIs C_DaysIn C_Over C_Some C_Deal) x2)), some (.fz (.str ((x6).1))), some (.fz (x6).2), some (.pt b9), none, none] _ _
      refine ms_unalKV (i := 1) (m := p5) (g := (fun y => .lst ((y.map e_d).map .fz))) (k := ((.inr ((x6).1)) : Key)) (y := p11) (y0 := ([] : (List D))) rfl ?_
      refine ms_le (τ := [some (.fz ((r_Book C_Book C_Cover C_Condition C_CauseIs C_ThingIs C_DaysIn C_Over C_Some C_Deal) book)), some (oDK (fun y => .lst ((y.map e_d).map .fz)) (utK p5 ((.inr ((x6).1)) : Key) p11)), some (.fz ((r_Cover C_Cover C_Condition C_CauseIs C_ThingIs C_DaysIn C_Over C_Some C_Deal) x2)), some (.fz (.str ((x6).1))), some (.fz (x6).2), none, none, none]) le_auto ?_
      show MS _ [some (.fz ((r_Book C_Book C_Cover C_Condition C_CauseIs C_ThingIs C_DaysIn C_Over C_Some C_Deal) book)), some (oDK (fun y => .lst ((y.map e_d).map .fz)) (utK p5 ((.inr ((x6).1)) : Key) p11)), some (.fz ((r_Cover C_Cover C_Condition C_CauseIs C_ThingIs C_DaysIn C_Over C_Some C_Deal) x2)), some (.fz (.str ((x6).1))), some (.fz (x6).2), none, none, none] _ _
      refine ms_nil ?_
      cases hx; exact le_auto
    cases hx; exact (le.trans le_auto)
  refine ms_le le ?_
  show MS _ [some (.fz ((r_Book C_Book C_Cover C_Condition C_CauseIs C_ThingIs C_DaysIn C_Over C_Some C_Deal) book)), some (oDK (fun y => .lst ((y.map e_d).map .fz)) p3), none, none, none, none, none, none] _ _
  replace hx := bd_some hx
  obtain ⟨v13, hv13, hx⟩ := hx
  replace hx := gd_some hx
  obtain ⟨g14, hx⟩ := hx
  replace hx := bd_some hx
  obtain ⟨v17, hv17, hx⟩ := hx
  refine ms_cons (m_setLcIfO (i := 6) (g := (gName 7)) (xs := v13) (ys := v17) (enc := e_d) (enc2 := e_d) hv17 (fun tt te ht he => ps_setLc (i := 6) (own := [("day", 7)]) rfl nd rfl rfl (sw_true rfl rfl rfl (by decide +kernel)) (pi_list pe_w) (blkOk_by (N := N_marks_of) (sc := defScope s_marks_of) (by decide +kernel)) (fun _ _ _ _ _ => (pg_name (i := 7) nd rfl (Or.inl rfl))) (fun s H C cl fp => pts_one (ht s H C cl fp)) he) (mic_list (MV.l (mv_dixK (m := p3) (g := (fun y => .lst ((y.map e_d).map .fz))) hr.units hv13 (mv_var (pv 1) rfl) me_str rfl (fun _ _ => rfl)) (.own _))) g14 (fun x15 mx k18 hx => by have hx := hx; replace hx := bd_some hx; obtain ⟨v16, hv16, hx⟩ := hx; injection hx with hx; subst k18; exact ⟨_, _, mg_name, by decide, fun s H C cl fp => ⟨(mt_chain (f := fun i j => decide (i ≤ j)) (f' := fun i j => decide (i ≤ j)) op_le op_le me_int (ME.is (o' := .fz (.int v16)) (me_var (pv 7) rfl) (asI_is hv16)) (me_gI g_LAST_DAY)), fun hk x15y hx => by injection hx with hx; subst x15y; exact (me_var (pv 7) rfl)⟩⟩) ?_)
  show MS _ [some (.fz ((r_Book C_Book C_Cover C_Condition C_CauseIs C_ThingIs C_DaysIn C_Over C_Some C_Deal) book)), some (oDK (fun y => .lst ((y.map e_d).map .fz)) p3), none, none, none, none, some (.lst ((v17.map e_d).map .fz)), none] _ _
  replace hx := bd_some hx
  obtain ⟨v19, hv19, hx⟩ := hx
  replace hx := bd_some hx
  obtain ⟨v20, hv20, hx⟩ := hx
  replace hx := gd_some hx
  obtain ⟨g21, hx⟩ := hx
  replace hx := bd_some hx
  obtain ⟨v22, hv22, hx⟩ := hx
  replace hx := bd_some hx
  obtain ⟨v23, hv23, hx⟩ := hx
  replace hx := gd_some hx
  obtain ⟨g24, hx⟩ := hx
  replace hx := bd_some hx
  obtain ⟨v25, hv25, hx⟩ := hx
  replace hx := gd_some hx
  obtain ⟨g26, hx⟩ := hx
  replace hx := bd_some hx
  obtain ⟨v27, hv27, hx⟩ := hx
  replace hx := bd_some hx
  obtain ⟨v28, hv28, hx⟩ := hx
  replace hx := gd_some hx
  obtain ⟨g29, hx⟩ := hx
  refine ms_one (m_ret (ps_ret pe_w) (ME.r (me_tup (mf_cons (ME.frzl (me_sorted (bs := v20) (enc := D.str) hr.units (by rfl) z_sorted (ML.as (MV.l (mv_dixK (m := p3) (g := (fun y => .lst ((y.map e_d).map .fz))) hr.units hv19 (mv_var (pv 1) rfl) me_str rfl (fun _ _ => rfl)) (.own _)) (mpS_is hv20)) g21.1 g21.2.1 g21.2.2.1 g21.2.2.2)) (mf_cons (ME.frzl (me_sorted (bs := v23) (enc := D.str) hr.units (by rfl) z_sorted (ML.as (MV.l (mv_dixK (m := p3) (g := (fun y => .lst ((y.map e_d).map .fz))) hr.units hv22 (mv_var (pv 1) rfl) me_str rfl (fun _ _ => rfl)) (.own _)) (mpS_is hv23)) g24.1 g24.2.1 g24.2.2.1 g24.2.2.2)) (mf_cons (ME.frzl (me_sorted (bs := v25) (enc := D.int) hr.units (by rfl) z_sorted (ML.as (ml_var (pv 6) rfl) (mpI_is hv25)) g26.1 g26.2.1 g26.2.2.1 g26.2.2.2)) (mf_cons (ME.frzl (me_sorted (bs := v28) (enc := D.int) hr.units (by rfl) z_sorted (ML.as (MV.l (mv_dixK (m := p3) (g := (fun y => .lst ((y.map e_d).map .fz))) hr.units hv27 (mv_var (pv 1) rfl) me_str rfl (fun _ _ => rfl)) (.own _)) (mpI_is hv28)) g29.1 g29.2.1 g29.2.2.1 g29.2.2.2)) mf_nil)))))) ?_)
  cases hx; rfl

noncomputable def M_another (names : (List Str)) : Option Str :=
  lt [("" : Str)] fun heads =>
  bd (wl (fun (p1 : (List Str)) => (some true : Option Bool)) (fun (p1 : (List Str)) => (lt ([] : List Str) fun longer =>
    bd (lpO (fun (x4 : Str) (p3 : (List Str)) => (bd (lpO (fun (x7 : Nat) (p6 : (List Str)) => (gd (x4.length + (sg1 x7).length ≤ sizeLine) <|
        cond (!(names.contains (x4 ++ (sg1 x7)))) (gd (x4.length + (sg1 x7).length ≤ sizeLine) <|
          some (.rt (x4 ++ (sg1 x7)))) <|
        gd (x4.length + (sg1 x7).length ≤ sizeLine) <|
        gd (p6.length < sizeLine) <|
        lt (p6 ++ [(x4 ++ (sg1 x7))]) fun longer_1 =>
        some (.nx longer_1) : Option (Ou ((List Str)) ((List Str)) Str))) (("abcdefghijklmnopqrstuvwxyz" : Str).cps.toList) p3) fun o8 => ouL o8 fun p6 =>
      some (.nx p6) : Option (Ou ((List Str)) ((List Str)) Str))) p1 longer) fun o5 => ouL o5 fun p3 =>
    some (.nx p3) : Option (Ou ((List Str)) ((List Str)) Str))) heads) fun o2 => ouR o2 fun p1 =>
  none
def sp_another (K : PySem.W.Frag) : Sp := SpF K (fun x : (List Str) => [.fz (.lst (x.map D.str))]) (fun x => M_another x) (fun r => .fz (.str r))
abbrev N_another : List Str := ["names", "heads", "longer", "head", "letter"]
theorem sc_another : FnScope N_another ["names"] (defScope s_another) := ⟨rfl, rfl, rfl, by decide +kernel, rfl, by decide +kernel, by decide +kernel⟩
theorem ok_another {f : Addr} {fd : FuncData} (F : Fun K "another" "another" s_another f fd) (g_LETTERS_cells : mg "LETTERS_cells" = some (.str "abcdefghijklmnopqrstuvwxyz" tkLETTERS_cells)) : FnOk P w K mg base CX0 1 f fd ["names"] (sp_another K) := by
  refine fn_m F sc_another (fun x => rfl) (fun x _ => rfl) fun cdv A outer s H E hr x hx => ?_
  obtain ⟨names, r⟩ := x
  replace hx : M_another names = some r := hx
  have nd := sc_another.nd
  unfold M_another at hx
  show MS _ [some (.fz (.lst (names.map D.str))), none, none, none, none] _ _
  replace hx := lt_some hx
  obtain ⟨heads, eheads, hx⟩ := hx
  refine ms_cons (m_set (ps_set (i := 1) nd rfl (Or.inl rfl) pe_w) (ME.is (o' := (.fz (.lst (heads.map D.str)))) (ME.frzl (me_lst (ds := [("" : Str)].map D.str) (mf_cons me_str mf_nil))) (by rw [eheads] <;> rfl)) ?_)
  show MS _ [some (.fz (.lst (names.map D.str))), some (.fz (.lst (heads.map D.str))), none, none, none] _ _
  replace hx := bd_some hx
  obtain ⟨o2, ho2, hx⟩ := hx
  refine ms_one (m_whileO (ps_while PassesOwn.never pt_w pss_w) ho2 (fun p1 => [some (.fz (.lst (names.map D.str))), some (.fz (.lst (p1.map D.str))), none, none, none]) (fun r => .fz (.str r)) le_auto (fun p1 k hx => ?_) (fun p1 p1o hx => ?_) (fun p1 τ e le => ?_) fun q e => ?_)
  · injection hx with hx; subst k; exact (mt_val me_bl)
  ·
    show MS _ [some (.fz (.lst (names.map D.str))), some (.fz (.lst (p1.map D.str))), none, none, none] _ _
    replace hx := lt_some hx
    obtain ⟨longer, elonger, hx⟩ := hx
    refine ms_cons (m_set (ps_set (i := 2) nd rfl (Or.inl rfl) pe_w) (ME.is (o' := (.lst ((longer.map D.str).map .fz))) (me_lst (ds := [].map D.str) mf_nil) (by rw [elonger] <;> rfl)) ?_)
    show MS _ [some (.fz (.lst (names.map D.str))), some (.fz (.lst (p1.map D.str))), some (.lst ((longer.map D.str).map .fz)), none, none] _ _
    replace hx := bd_some hx
    obtain ⟨o5, ho5, hx⟩ := hx
    refine ms_cons (m_forO (xs := p1) (enc := D.str) (ps_for PassesOwn.never rfl (pi_list pe_w) (pg_name (i := 3) nd rfl (Or.inl rfl)) pss_w) (by exact (mi_list (ds := p1.map D.str) (mk_var (pv 1) rfl))) ho5 (fun p3 => [some (.fz (.lst (names.map D.str))), some (.fz (.lst (p1.map D.str))), some (.lst ((p3.map D.str).map .fz)), none, none]) (fun r => .fz (.str r)) le_auto (fun x4 p3 p3o mx hx => ?_) (fun p3 τ e le => ?_) fun q e => ?_)
    ·
      refine ⟨_, _, mg_name, ?_⟩
      show MS _ [some (.fz (.lst (names.map D.str))), some (.fz (.lst (p1.map D.str))), some (.lst ((p3.map D.str).map .fz)), some (.fz (.str x4)), none] _ _
      replace hx := bd_some hx
      obtain ⟨o8, ho8, hx⟩ := hx
      refine ms_one (m_forO (xs := ("abcdefghijklmnopqrstuvwxyz" : Str).cps.toList) (enc := (fun c => D.str ⟨#[c]⟩)) (ps_for PassesOwn.never rfl (pi_str pe_w) (pg_name (i := 4) nd rfl (Or.inl rfl)) pss_w) (by exact (mi_strT (me_gS g_LETTERS_cells))) ho8 (fun p6 => [some (.fz (.lst (names.map D.str))), some (.fz (.lst (p1.map D.str))), some (.lst ((p6.map D.str).map .fz)), some (.fz (.str x4)), none]) (fun r => .fz (.str r)) le_auto (fun x7 p6 p6o mx hx => ?_) (fun p6 τ e le => ?_) fun q e => ?_)
      ·
        refine ⟨_, _, mg_name, ?_⟩
        show MS _ [some (.fz (.lst (names.map D.str))), some (.fz (.lst (p1.map D.str))), some (.lst ((p6.map D.str).map .fz)), some (.fz (.str x4)), some (.fz (.str (sg1 x7)))] _ _
        replace hx := gd_some hx
        obtain ⟨g9, hx⟩ := hx
        refine ms_cons (m_if (t := (!(names.contains (x4 ++ (sg1 x7))))) (mt_niLT_s (xs := names) (me_cat (me_var (pv 3) rfl) (me_var (pv 4) rfl) g9) (ml_var (pv 0) rfl)) (fun h => ?_) fun h => ms_nil ?_)
        · replace hx := cond_t hx h
          replace hx := gd_some hx
          obtain ⟨g10, hx⟩ := hx
          refine ms_one (m_ret (ps_ret pe_w) (ME.r (me_cat (me_var (pv 3) rfl) (me_var (pv 4) rfl) g10)) ?_)
          cases hx; exact ⟨_, rfl, rfl⟩
        replace hx := cond_f hx h
        replace hx := gd_some hx
        obtain ⟨g11, hx⟩ := hx
        replace hx := gd_some hx
        obtain ⟨g12, hx⟩ := hx
        replace hx := lt_some hx
        obtain ⟨longer_1, elonger_1, hx⟩ := hx
        refine ms_one (m_appendT (i := 2) (xs := p6) (enc := D.str) (y := (x4 ++ (sg1 x7))) g12 (pv _) rfl (me_cat (me_var (pv 3) rfl) (me_var (pv 4) rfl) g11) ?_)
        rw [← elonger_1]
        cases hx; exact ⟨_, rfl, le_auto⟩
      · subst e
        dsimp only [ouL] at hx
        cases hx; exact ⟨_, rfl, (le.trans le_auto)⟩
      · subst e; cases hx; exact ⟨_, rfl, rfl⟩
    · subst e
      dsimp only [ouL] at hx
      refine ms_le le ?_
      show MS _ [some (.fz (.lst (names.map D.str))), some (.fz (.lst (p1.map D.str))), some (.lst ((p3.map D.str).map .fz)), none, none] _ _
      refine ms_frzl (i := 2) rfl ?_
      show MS _ [some (.fz (.lst (names.map D.str))), some (.fz (.lst (p1.map D.str))), some (.fz (.lst (p3.map D.str))), none, none] _ _
      refine ms_one (m_set (ps_set (i := 1) nd rfl (Or.inl rfl) pe_w) (me_var (pv 2) rfl) ?_)
      cases hx; exact ⟨_, rfl, le_auto⟩
    · subst e; cases hx; exact ⟨_, rfl, rfl⟩
  · subst e
    dsimp only [ouR] at hx
    cases hx
  · subst e; cases hx; rfl

noncomputable def M_parted (first : Int) (last : Int) (marks : (List Int)) : Option (List (Int × Int)) :=
  lt ([] : List (Int × Int)) fun found =>
  bd (lp (fun (x2 : Int) (p1 : (List (Int × Int)) × Int) => (cond (decide (p1.2 < x2) && decide (x2 ≤ last)) (gd (p1.1.length < sizeLine) <|
      lt (p1.1 ++ [(p1.2, (x2 - 1))]) fun found_1 =>
      some (found_1, x2)) (some (p1.1, p1.2)) : Option ((List (Int × Int)) × Int))) marks (found, first)) fun p3 =>
  gd (p3.1.length < sizeLine) <|
  lt (p3.1 ++ [(p3.2, last)]) fun found_2 =>
  some found_2
def sp_parted (K : PySem.W.Frag) : Sp := SpF K (fun x : Int × Int × (List Int) => [.fz (.int x.1), .fz (.int x.2.1), .vw (x.2.2.map D.int)]) (fun x => M_parted x.1 x.2.1 x.2.2) (fun r => .lst ((r.map e_T_i_i).map .fz))
abbrev N_parted : List Str := ["first", "last", "marks", "found", "at", "mark"]
theorem sc_parted : FnScope N_parted ["first", "last", "marks"] (defScope s_parted) := ⟨rfl, rfl, rfl, by decide +kernel, rfl, by decide +kernel, by decide +kernel⟩
theorem ok_parted {f : Addr} {fd : FuncData} (F : Fun K "parted" "parted" s_parted f fd)  : FnOk P w K mg base CX0 1 f fd ["first", "last", "marks"] (sp_parted K) := by
  refine fn_m F sc_parted (fun x => rfl) (fun x _ => O.nvL_fz _) fun cdv A outer s H E hr x hx => ?_
  obtain ⟨⟨first, last, marks⟩, r⟩ := x
  replace hx : M_parted first last marks = some r := hx
  have nd := sc_parted.nd
  unfold M_parted at hx
  show MS _ [some (.fz (.int first)), some (.fz (.int last)), some (.vw (marks.map D.int)), none, none, none] _ _
  replace hx := lt_some hx
  obtain ⟨found, efound, hx⟩ := hx
  refine ms_cons (m_set (ps_set (i := 3) nd rfl (Or.inl rfl) pe_w) (ME.is (o' := (.lst ((found.map e_T_i_i).map .fz))) (me_lst (ds := [].map e_T_i_i) mf_nil) (by rw [efound] <;> rfl)) ?_)
  show MS _ [some (.fz (.int first)), some (.fz (.int last)), some (.vw (marks.map D.int)), some (.lst ((found.map e_T_i_i).map .fz)), none, none] _ _
  refine ms_cons (m_set (ps_set (i := 4) nd rfl (Or.inl rfl) pe_w) (me_var (pv 0) rfl) ?_)
  show MS _ [some (.fz (.int first)), some (.fz (.int last)), some (.vw (marks.map D.int)), some (.lst ((found.map e_T_i_i).map .fz)), some (.fz (.int first)), none] _ _
  replace hx := bd_some hx
  obtain ⟨p3, hp3, hx⟩ := hx
  refine ms_cons (m_forP (xs := marks) (enc := D.int) (ps_for PassesOwn.never rfl (pi_list pe_w) (pg_name (i := 5) nd rfl (Or.inl rfl)) pss_w) (by exact (mi_list (ds := marks.map D.int) (mk_var (pv 2) rfl))) hp3 (fun p1 => [some (.fz (.int first)), some (.fz (.int last)), some (.vw (marks.map D.int)), some (.lst ((p1.1.map e_T_i_i).map .fz)), some (.fz (.int p1.2)), none]) le_auto (fun x2 p1 p1o mx hx => ?_) fun τ le => ?_)
  ·
    refine ⟨_, _, mg_name, ?_⟩
    show MS _ [some (.fz (.int first)), some (.fz (.int last)), some (.vw (marks.map D.int)), some (.lst ((p1.1.map e_T_i_i).map .fz)), some (.fz (.int p1.2)), some (.fz (.int x2))] _ _
    refine ms_one (m_if (t := (decide (p1.2 < x2) && decide (x2 ≤ last))) (mt_chain (f := fun i j => decide (i < j)) (f' := fun i j => decide (i ≤ j)) op_lt op_le (me_var (pv 4) rfl) (me_var (pv 5) rfl) (me_var (pv 1) rfl)) (fun h => ?_) fun h => ?_)
    · replace hx := cond_t hx h
      replace hx := gd_some hx
      obtain ⟨g4, hx⟩ := hx
      replace hx := lt_some hx
      obtain ⟨found_1, efound_1, hx⟩ := hx
      refine ms_cons (m_appendT (i := 3) (xs := p1.1) (enc := e_T_i_i) (y := (p1.2, (x2 - 1))) g4 (pv _) rfl (me_tup (mf_cons (me_var (pv 4) rfl) (mf_cons (me_sub (me_var (pv 5) rfl) me_int) mf_nil))) ?_)
      rw [← efound_1]
      show MS _ [some (.fz (.int first)), some (.fz (.int last)), some (.vw (marks.map D.int)), some (.lst ((found_1.map e_T_i_i).map .fz)), some (.fz (.int p1.2)), some (.fz (.int x2))] _ _
      refine ms_one (m_set (ps_set (i := 4) nd rfl (Or.inl rfl) pe_w) (me_var (pv 5) rfl) ?_)
      cases hx; exact le_auto
    · replace hx := cond_f hx h
      refine ms_nil ?_
      cases hx; exact le_auto
  refine ms_le le ?_
  show MS _ [some (.fz (.int first)), some (.fz (.int last)), some (.vw (marks.map D.int)), some (.lst ((p3.1.map e_T_i_i).map .fz)), some (.fz (.int p3.2)), none] _ _
  replace hx := gd_some hx
  obtain ⟨g5, hx⟩ := hx
  replace hx := lt_some hx
  obtain ⟨found_2, efound_2, hx⟩ := hx
  refine ms_cons (m_appendT (i := 3) (xs := p3.1) (enc := e_T_i_i) (y := (p3.2, last)) g5 (pv _) rfl (me_tup (mf_cons (me_var (pv 4) rfl) (mf_cons (me_var (pv 1) rfl) mf_nil))) ?_)
  rw [← efound_2]
  show MS _ [some (.fz (.int first)), some (.fz (.int last)), some (.vw (marks.map D.int)), some (.lst ((found_2.map e_T_i_i).map .fz)), some (.fz (.int p3.2)), none] _ _
  refine ms_one (m_ret (ps_ret pe_w) (mr_var (pv 3) rfl) ?_)
  cases hx; rfl

abbrev e_T_s_s_i_i (p : (Str × Str × Int × Int)) : D := .tup [.str p.1, .str p.2.1, .int p.2.2.1, .int p.2.2.2]
noncomputable def M_cells_of (book : ((List (Str × Cd × (List Unit) × (List Str) × (List Int) × Bool)) × (List (Str × Cd × (List Unit) × (List Str) × (List Int) × Bool)))) : Option (Xr Xc (List (Str × Str × Int × Int))) :=
  bd (M_marks_of book) fun v1 =>
  gd (CMul ((v1.1.length : Int) + 1) ((v1.2.1.length : Int) + 1)) <|
  gd (CMul (((v1.1.length : Int) + 1) * ((v1.2.1.length : Int) + 1)) ((v1.2.2.1.length : Int) + 1)) <|
  cond (decide (120 < ((((v1.1.length : Int) + 1) * ((v1.2.1.length : Int) + 1)) * ((v1.2.2.1.length : Int) + 1)))) (some (.er .TooWide)) <|
  lt ([] : List (Str × Str × Int × Int)) fun found =>
  gd (v1.1.length + [("" : Str)].length ≤ sizeLine) <|
  bd (lp (fun (x6 : Str) (p5 : (List (Str × Str × Int × Int))) => (gd (v1.2.1.length + [("" : Str)].length ≤ sizeLine) <|
    bd (lp (fun (x10 : Str) (p9 : (List (Str × Str × Int × Int))) => (bd (M_parted (0 : Int) (1000000 : Int) v1.2.2.1) fun v12 =>
      bd (lp (fun (x14 : (Int × Int)) (p13 : (List (Str × Str × Int × Int))) => (gd (p13.length < sizeLine) <|
        lt (p13 ++ [(x6, x10, (x14).1, (x14).2)]) fun found_1 =>
        some found_1 : Option ((List (Str × Str × Int × Int))))) v12 p9) fun p15 =>
      some p15 : Option ((List (Str × Str × Int × Int))))) (v1.2.1 ++ [("" : Str)]) p5) fun p11 =>
    some p11 : Option ((List (Str × Str × Int × Int))))) (v1.1 ++ [("" : Str)]) found) fun p7 =>
  some (.ok p7)
def sp_cells_of (K : PySem.W.Frag) (C_Book C_Cover C_Condition C_CauseIs C_ThingIs C_DaysIn C_Over C_Some C_Deal C_NoEntry C_TooWide : Addr) : Sp := SpFE K (fun x : ((List (Str × Cd × (List Unit) × (List Str) × (List Int) × Bool)) × (List (Str × Cd × (List Unit) × (List Str) × (List Int) × Bool))) => [.fz ((r_Book C_Book C_Cover C_Condition C_CauseIs C_ThingIs C_DaysIn C_Over C_Some C_Deal) x)]) (fun x => M_cells_of x) (t_Xc C_NoEntry C_TooWide) (fun r => .lst ((r.map e_T_s_s_i_i).map .fz))
abbrev N_cells_of : List Str := ["book", "causes", "things", "days", "amounts", "found", "cause", "thing", "first", "last"]
theorem sc_cells_of : FnScope N_cells_of ["book"] (defScope s_cells_of) := ⟨rfl, rfl, rfl, by decide +kernel, rfl, by decide +kernel, by decide +kernel⟩
theorem ok_cells_of {f : Addr} {fd : FuncData} (F : Fun K "cells_of" "cells_of" s_cells_of f fd) (z_len : mg "len" = none) (g_MOST_ROWS : mg "MOST_ROWS" = some (.int 120 tkMOST_ROWS)) (g_LAST_DAY : mg "LAST_DAY" = some (.int 1000000 tkLAST_DAY)) (c_marks_of : Fn1 P w K mg base "marks_of" 66 ["book"] (sp_marks_of K C_Book C_Cover C_Condition C_CauseIs C_ThingIs C_DaysIn C_Over C_Some C_Deal)) (x_TooWide : XcC K mg "TooWide" C_TooWide) (c_parted : Fn1 P w K mg base "parted" 1 ["first", "last", "marks"] (sp_parted K)) : FnOk P w K mg base (L2.CX P w) 67 f fd ["book"] (sp_cells_of K C_Book C_Cover C_Condition C_CauseIs C_ThingIs C_DaysIn C_Over C_Some C_Deal C_NoEntry C_TooWide) := by
  refine fn_mE F sc_cells_of (fun x => rfl) (fun x _ => exO_nv (by intro _; exact O.nvL_fz _) x.2) fun cdv A outer s H E hr po x hx => ?_
  obtain ⟨book, r⟩ := x
  replace hx : M_cells_of book = some r := hx
  have nd := sc_cells_of.nd
  unfold M_cells_of at hx
  show MS _ [some (.fz ((r_Book C_Book C_Cover C_Condition C_CauseIs C_ThingIs C_DaysIn C_Over C_Some C_Deal) book)), none, none, none, none, none, none, none, none, none] _ _
  replace hx := bd_some hx
  obtain ⟨v1, hv1, hx⟩ := hx
  refine ms_cons (m_tgt (ps_asg pe_w (pg_tup (n := 4) rfl (pgs_cons (pg_name (i := 1) nd rfl (Or.inl rfl)) (pgs_cons (pg_name (i := 2) nd rfl (Or.inl rfl)) (pgs_cons (pg_name (i := 3) nd rfl (Or.inl rfl)) (pgs_cons (pg_name (i := 4) nd rfl (Or.inl rfl)) pgs_nil)))))) (me_fn c_marks_of (book, v1) (ma_fz (me_var (pv 0) rfl) ma_nil) hv1 (hr.mono (by decide))) (mg_tup (mgs_cons mg_name (mgs_cons mg_name (mgs_cons mg_name (mgs_cons mg_name mgs_nil)))) rfl) ?_)
  show MS _ [some (.fz ((r_Book C_Book C_Cover C_Condition C_CauseIs C_ThingIs C_DaysIn C_Over C_Some C_Deal) book)), some (.fz (.lst (v1.1.map D.str))), some (.fz (.lst (v1.2.1.map D.str))), some (.fz (.lst (v1.2.2.1.map D.int))), some (.fz (.lst (v1.2.2.2.map D.int))), none, none, none, none, none] _ _
  replace hx := gd_some hx
  obtain ⟨g2, hx⟩ := hx
  replace hx := gd_some hx
  obtain ⟨g3, hx⟩ := hx
  refine ms_cons (m_if (t := (decide (120 < ((((v1.1.length : Int) + 1) * ((v1.2.1.length : Int) + 1)) * ((v1.2.2.1.length : Int) + 1))))) (mt_gt (me_mul (me_mul (me_add (me_lenLT (xs := v1.1) (enc := D.str) (by rfl) z_len (ml_var (pv 1) rfl)) me_int) (me_add (me_lenLT (xs := v1.2.1) (enc := D.str) (by rfl) z_len (ml_var (pv 2) rfl)) me_int) g2) (me_add (me_lenLT (xs := v1.2.2.1) (enc := D.int) (by rfl) z_len (ml_var (pv 3) rfl)) me_int) g3) (me_gI g_MOST_ROWS)) (fun h => ?_) fun h => ms_nil ?_)
  · replace hx := cond_t hx h
    refine ms_one (m_raise (pm_own x_TooWide) ?_)
    cases hx; rfl
  replace hx := cond_f hx h
  replace hx := lt_some hx
  obtain ⟨found, efound, hx⟩ := hx
  refine ms_cons (m_set (ps_set (i := 5) nd rfl (Or.inl rfl) pe_w) (ME.is (o' := (.lst ((found.map e_T_s_s_i_i).map .fz))) (me_lst (ds := [].map e_T_s_s_i_i) mf_nil) (by rw [efound] <;> rfl)) ?_)
  show MS _ [some (.fz ((r_Book C_Book C_Cover C_Condition C_CauseIs C_ThingIs C_DaysIn C_Over C_Some C_Deal) book)), some (.fz (.lst (v1.1.map D.str))), some (.fz (.lst (v1.2.1.map D.str))), some (.fz (.lst (v1.2.2.1.map D.int))), some (.fz (.lst (v1.2.2.2.map D.int))), some (.lst ((found.map e_T_s_s_i_i).map .fz)), none, none, none, none] _ _
  replace hx := gd_some hx
  obtain ⟨g4, hx⟩ := hx
  replace hx := bd_some hx
  obtain ⟨p7, hp7, hx⟩ := hx
  refine ms_cons (m_forP (xs := (v1.1 ++ [("" : Str)])) (enc := D.str) (ps_for po rfl (pi_list pe_w) (pg_name (i := 6) nd rfl (Or.inl rfl)) pss_w) (by exact (mi_list (ds := (v1.1 ++ [("" : Str)]).map D.str) (ME.k (ME.frzl (me_catMM (xs := v1.1) (ys := [("" : Str)]) (enc := D.str) g4 (ml_var (pv 1) rfl) (ME.l (me_lst (ds := [("" : Str)].map D.str) (mf_cons me_str mf_nil)))))))) hp7 (fun p5 => [some (.fz ((r_Book C_Book C_Cover C_Condition C_CauseIs C_ThingIs C_DaysIn C_Over C_Some C_Deal) book)), some (.fz (.lst (v1.1.map D.str))), some (.fz (.lst (v1.2.1.map D.str))), some (.fz (.lst (v1.2.2.1.map D.int))), some (.fz (.lst (v1.2.2.2.map D.int))), some (.lst ((p5.map e_T_s_s_i_i).map .fz)), none, none, none, none]) le_auto (fun x6 p5 p5o mx hx => ?_) fun τ le => ?_)
  ·
    refine ⟨_, _, mg_name, ?_⟩
    show MS _ [some (.fz ((r_Book C_Book C_Cover C_Condition C_CauseIs C_ThingIs C_DaysIn C_Over C_Some C_Deal) book)), some (.fz (.lst (v1.1.map D.str))), some (.fz (.lst (v1.2.1.map D.str))), some (.fz (.lst (v1.2.2.1.map D.int))), some (.fz (.lst (v1.2.2.2.map D.int))), some (.lst ((p5.map e_T_s_s_i_i).map .fz)), some (.fz (.str x6)), none, none, none] _ _
    replace hx := gd_some hx
    obtain ⟨g8, hx⟩ := hx
    replace hx := bd_some hx
    obtain ⟨p11, hp11, hx⟩ := hx
    refine ms_one (m_forP (xs := (v1.2.1 ++ [("" : Str)])) (enc := D.str) (ps_for po rfl (pi_list pe_w) (pg_name (i := 7) nd rfl (Or.inl rfl)) pss_w) (by exact (mi_list (ds := (v1.2.1 ++ [("" : Str)]).map D.str) (ME.k (ME.frzl (me_catMM (xs := v1.2.1) (ys := [("" : Str)]) (enc := D.str) g8 (ml_var (pv 2) rfl) (ME.l (me_lst (ds := [("" : Str)].map D.str) (mf_cons me_str mf_nil)))))))) hp11 (fun p9 => [some (.fz ((r_Book C_Book C_Cover C_Condition C_CauseIs C_ThingIs C_DaysIn C_Over C_Some C_Deal) book)), some (.fz (.lst (v1.1.map D.str))), some (.fz (.lst (v1.2.1.map D.str))), some (.fz (.lst (v1.2.2.1.map D.int))), some (.fz (.lst (v1.2.2.2.map D.int))), some (.lst ((p9.map e_T_s_s_i_i).map .fz)), some (.fz (.str x6)), none, none, none]) le_auto (fun x10 p9 p9o mx hx => ?_) fun τ le => ?_)
    ·
      refine ⟨_, _, mg_name, ?_⟩
      show MS _ [some (.fz ((r_Book C_Book C_Cover C_Condition C_CauseIs C_ThingIs C_DaysIn C_Over C_Some C_Deal) book)), some (.fz (.lst (v1.1.map D.str))), some (.fz (.lst (v1.2.1.map D.str))), some (.fz (.lst (v1.2.2.1.map D.int))), some (.fz (.lst (v1.2.2.2.map D.int))), some (.lst ((p9.map e_T_s_s_i_i).map .fz)), some (.fz (.str x6)), some (.fz (.str x10)), none, none] _ _
      replace hx := bd_some hx
      obtain ⟨v12, hv12, hx⟩ := hx
      replace hx := bd_some hx
      obtain ⟨p15, hp15, hx⟩ := hx
      refine ms_one (m_forP (xs := v12) (enc := e_T_i_i) (ps_for po rfl (pi_list pe_w) (pg_tup (n := 2) rfl (pgs_cons (pg_name (i := 8) nd rfl (Or.inl rfl)) (pgs_cons (pg_name (i := 9) nd rfl (Or.inl rfl)) pgs_nil))) pss_w) (by exact (mi_list (ds := v12.map e_T_i_i) (ME.k (ME.frzl (me_fn c_parted ((0, 1000000, v1.2.2.1), v12) (ma_fz me_int (ma_fz (me_gI g_LAST_DAY) (ma_vw (ml_var (pv 3) rfl) ma_nil))) hv12 (hr.mono (by decide))))))) hp15 (fun p13 => [some (.fz ((r_Book C_Book C_Cover C_Condition C_CauseIs C_ThingIs C_DaysIn C_Over C_Some C_Deal) book)), some (.fz (.lst (v1.1.map D.str))), some (.fz (.lst (v1.2.1.map D.str))), some (.fz (.lst (v1.2.2.1.map D.int))), some (.fz (.lst (v1.2.2.2.map D.int))), some (.lst ((p13.map e_T_s_s_i_i).map .fz)), some (.fz (.str x6)), some (.fz (.str x10)), none, none]) le_auto (fun x14 p13 p13o mx hx => ?_) fun τ le => ?_)
      ·
        refine ⟨_, _, (mg_tup (mgs_cons mg_name (mgs_cons mg_name mgs_nil)) rfl), ?_⟩
        show MS _ [some (.fz ((r_Book C_Book C_Cover C_Condition C_CauseIs C_ThingIs C_DaysIn C_Over C_Some C_Deal) book)), some (.fz (.lst (v1.1.map D.str))), some (.fz (.lst (v1.2.1.map D.str))), some (.fz (.lst (v1.2.2.1.map D.int))), some (.fz (.lst (v1.2.2.2.map D.int))), some (.lst ((p13.map e_T_s_s_i_i).map .fz)), some (.fz (.str x6)), some (.fz (.str x10)), some (.fz (.int ((x14).1))), some (.fz (.int ((x14).2)))] _ _
        replace hx := gd_some hx
        obtain ⟨g16, hx⟩ := hx
        replace hx := lt_some hx
        obtain ⟨found_1, efound_1, hx⟩ := hx
        refine ms_one (m_appendT (i := 5) (xs := p13) (enc := e_T_s_s_i_i) (y := (x6, x10, (x14).1, (x14).2)) g16 (pv _) rfl (me_tup (mf_cons (me_var (pv 6) rfl) (mf_cons (me_var (pv 7) rfl) (mf_cons (me_var (pv 8) rfl) (mf_cons (me_var (pv 9) rfl) mf_nil))))) ?_)
        rw [← efound_1]
        cases hx; exact le_auto
      cases hx; exact (le.trans le_auto)
    cases hx; exact (le.trans le_auto)
  refine ms_le le ?_
  show MS _ [some (.fz ((r_Book C_Book C_Cover C_Condition C_CauseIs C_ThingIs C_DaysIn C_Over C_Some C_Deal) book)), some (.fz (.lst (v1.1.map D.str))), some (.fz (.lst (v1.2.1.map D.str))), some (.fz (.lst (v1.2.2.1.map D.int))), some (.fz (.lst (v1.2.2.2.map D.int))), some (.lst ((p7.map e_T_s_s_i_i).map .fz)), none, none, none, none] _ _
  refine ms_one (m_ret (ps_ret pe_w) (mr_var (pv 5) rfl) ?_)
  cases hx; rfl

noncomputable def M_stretches_of (book : ((List (Str × Cd × (List Unit) × (List Str) × (List Int) × Bool)) × (List (Str × Cd × (List Unit) × (List Str) × (List Int) × Bool)))) (bound : Int) : Option (List (Int × Int)) :=
  bd (M_marks_of book) fun v1 =>
  gd (v1.2.2.2.length < sizeLine) <|
  bd (mpO (fun x3 : Int => some (x3 + 1)) v1.2.2.2) fun v4 =>
  bd (M_parted (1 : Int) bound v4) fun v5 =>
  some v5
def sp_stretches_of (K : PySem.W.Frag) (C_Book C_Cover C_Condition C_CauseIs C_ThingIs C_DaysIn C_Over C_Some C_Deal : Addr) : Sp := SpF K (fun x : ((List (Str × Cd × (List Unit) × (List Str) × (List Int) × Bool)) × (List (Str × Cd × (List Unit) × (List Str) × (List Int) × Bool))) × Int => [.fz ((r_Book C_Book C_Cover C_Condition C_CauseIs C_ThingIs C_DaysIn C_Over C_Some C_Deal) x.1), .fz (.int x.2)]) (fun x => M_stretches_of x.1 x.2) (fun r => .lst ((r.map e_T_i_i).map .fz))
abbrev N_stretches_of : List Str := ["book", "bound", "causes", "things", "days", "amounts", "amount"]
theorem sc_stretches_of : FnScope N_stretches_of ["book", "bound"] (defScope s_stretches_of) := ⟨rfl, rfl, rfl, by decide +kernel, rfl, by decide +kernel, by decide +kernel⟩
theorem ok_stretches_of {f : Addr} {fd : FuncData} (F : Fun K "stretches_of" "stretches_of" s_stretches_of f fd) (c_marks_of : Fn1 P w K mg base "marks_of" 66 ["book"] (sp_marks_of K C_Book C_Cover C_Condition C_CauseIs C_ThingIs C_DaysIn C_Over C_Some C_Deal)) (c_parted : Fn1 P w K mg base "parted" 1 ["first", "last", "marks"] (sp_parted K)) : FnOk P w K mg base CX0 67 f fd ["book", "bound"] (sp_stretches_of K C_Book C_Cover C_Condition C_CauseIs C_ThingIs C_DaysIn C_Over C_Some C_Deal) := by
  refine fn_m F sc_stretches_of (fun x => rfl) (fun x _ => O.nvL_fz _) fun cdv A outer s H E hr x hx => ?_
  obtain ⟨⟨book, bound⟩, r⟩ := x
  replace hx : M_stretches_of book bound = some r := hx
  have nd := sc_stretches_of.nd
  unfold M_stretches_of at hx
  show MS _ [some (.fz ((r_Book C_Book C_Cover C_Condition C_CauseIs C_ThingIs C_DaysIn C_Over C_Some C_Deal) book)), some (.fz (.int bound)), none, none, none, none, none] _ _
  replace hx := bd_some hx
  obtain ⟨v1, hv1, hx⟩ := hx
  refine ms_cons (m_tgt (ps_asg pe_w (pg_tup (n := 4) rfl (pgs_cons (pg_name (i := 2) nd rfl (Or.inl rfl)) (pgs_cons (pg_name (i := 3) nd rfl (Or.inl rfl)) (pgs_cons (pg_name (i := 4) nd rfl (Or.inl rfl)) (pgs_cons (pg_name (i := 5) nd rfl (Or.inl rfl)) pgs_nil)))))) (me_fn c_marks_of (book, v1) (ma_fz (me_var (pv 0) rfl) ma_nil) hv1 (hr.mono (by decide))) (mg_tup (mgs_cons mg_name (mgs_cons mg_name (mgs_cons mg_name (mgs_cons mg_name mgs_nil)))) rfl) ?_)
  show MS _ [some (.fz ((r_Book C_Book C_Cover C_Condition C_CauseIs C_ThingIs C_DaysIn C_Over C_Some C_Deal) book)), some (.fz (.int bound)), some (.fz (.lst (v1.1.map D.str))), some (.fz (.lst (v1.2.1.map D.str))), some (.fz (.lst (v1.2.2.1.map D.int))), some (.fz (.lst (v1.2.2.2.map D.int))), none] _ _
  replace hx := gd_some hx
  obtain ⟨g2, hx⟩ := hx
  replace hx := bd_some hx
  obtain ⟨v4, hv4, hx⟩ := hx
  replace hx := bd_some hx
  obtain ⟨v5, hv5, hx⟩ := hx
  refine ms_one (m_ret (ps_ret pe_w) (ME.r (me_fn c_parted ((1, bound, v4), v5) (ma_fz me_int (ma_fz (me_var (pv 1) rfl) (ma_vw (ME.l (by exact (me_lcO (g := (gName 6)) (xs := v1.2.2.2) (ys := v4) (enc := D.int) (enc2 := D.int) hv4 (fun te he => pe_lc (own := [("amount", 6)]) rfl nd (pi_list pe_w) (blkOk_by (N := N_stretches_of) (sc := defScope s_stretches_of) (by decide +kernel)) (fun _ _ _ _ _ => (pg_name (i := 6) nd rfl (Or.inl rfl))) (fun _ _ _ _ _ => pts_nil) he) (mic_list (ml_var (pv 5) rfl)) g2 (fun x3 mx x3y hx => by injection hx with hx; subst x3y; exact ⟨_, _, mg_name, by decide, fun s H C cl fp => (me_add (me_var (pv 6) rfl) me_int)⟩)))) ma_nil))) hv5 (hr.mono (by decide)))) ?_)
  cases hx; rfl

noncomputable def M_loss_in (book : ((List (Str × Cd × (List Unit) × (List Str) × (List Int) × Bool)) × (List (Str × Cd × (List Unit) × (List Str) × (List Int) × Bool)))) (cell : (Str × Str × Int × Int)) (cents : Int) : Option (Int × Int × Str × Str × Str × Int) :=
  bd (M_marks_of book) fun v1 =>
  bd (cond ((cell.1 == ("" : Str))) (bd (M_another v1.1) fun v3 =>
    some v3) (some cell.1) : Option (Str)) fun p2 =>
  bd (cond ((cell.2.1 == ("" : Str))) (bd (M_another v1.2.1) fun v5 =>
    some v5) (some cell.2.1) : Option (Str)) fun p4 =>
  some (0, cell.2.2.1, ("e" : Str), p4, p2, cents)
def sp_loss_in (K : PySem.W.Frag) (C_Book C_Cover C_Condition C_CauseIs C_ThingIs C_DaysIn C_Over C_Some C_Deal : Addr) : Sp := SpF K (fun x : ((List (Str × Cd × (List Unit) × (List Str) × (List Int) × Bool)) × (List (Str × Cd × (List Unit) × (List Str) × (List Int) × Bool))) × (Str × Str × Int × Int) × Int => [.fz ((r_Book C_Book C_Cover C_Condition C_CauseIs C_ThingIs C_DaysIn C_Over C_Some C_Deal) x.1), .fz (e_T_s_s_i_i x.2.1), .fz (.int x.2.2)]) (fun x => M_loss_in x.1 x.2.1 x.2.2) (fun r => .fz (e_T_i_i_s_s_s_i r))
abbrev N_loss_in : List Str := ["book", "cell", "cents", "causes", "things", "days", "amounts", "cause", "thing"]
theorem sc_loss_in : FnScope N_loss_in ["book", "cell", "cents"] (defScope s_loss_in) := ⟨rfl, rfl, rfl, by decide +kernel, rfl, by decide +kernel, by decide +kernel⟩
theorem ok_loss_in {f : Addr} {fd : FuncData} (F : Fun K "loss_in" "loss_in" s_loss_in f fd) (c_marks_of : Fn1 P w K mg base "marks_of" 66 ["book"] (sp_marks_of K C_Book C_Cover C_Condition C_CauseIs C_ThingIs C_DaysIn C_Over C_Some C_Deal)) (c_another : Fn1 P w K mg base "another" 1 ["names"] (sp_another K)) : FnOk P w K mg base CX0 67 f fd ["book", "cell", "cents"] (sp_loss_in K C_Book C_Cover C_Condition C_CauseIs C_ThingIs C_DaysIn C_Over C_Some C_Deal) := by
  refine fn_m F sc_loss_in (fun x => rfl) (fun x _ => rfl) fun cdv A outer s H E hr x hx => ?_
  obtain ⟨⟨book, cell, cents⟩, r⟩ := x
  replace hx : M_loss_in book cell cents = some r := hx
  have nd := sc_loss_in.nd
  unfold M_loss_in at hx
  show MS _ [some (.fz ((r_Book C_Book C_Cover C_Condition C_CauseIs C_ThingIs C_DaysIn C_Over C_Some C_Deal) book)), some (.fz (e_T_s_s_i_i cell)), some (.fz (.int cents)), none, none, none, none, none, none] _ _
  replace hx := bd_some hx
  obtain ⟨v1, hv1, hx⟩ := hx
  refine ms_cons (m_tgt (ps_asg pe_w (pg_tup (n := 4) rfl (pgs_cons (pg_name (i := 3) nd rfl (Or.inl rfl)) (pgs_cons (pg_name (i := 4) nd rfl (Or.inl rfl)) (pgs_cons (pg_name (i := 5) nd rfl (Or.inl rfl)) (pgs_cons (pg_name (i := 6) nd rfl (Or.inl rfl)) pgs_nil)))))) (me_fn c_marks_of (book, v1) (ma_fz (me_var (pv 0) rfl) ma_nil) hv1 (hr.mono (by decide))) (mg_tup (mgs_cons mg_name (mgs_cons mg_name (mgs_cons mg_name (mgs_cons mg_name mgs_nil)))) rfl) ?_)
  show MS _ [some (.fz ((r_Book C_Book C_Cover C_Condition C_CauseIs C_ThingIs C_DaysIn C_Over C_Some C_Deal) book)), some (.fz (e_T_s_s_i_i cell)), some (.fz (.int cents)), some (.fz (.lst (v1.1.map D.str))), some (.fz (.lst (v1.2.1.map D.str))), some (.fz (.lst (v1.2.2.1.map D.int))), some (.fz (.lst (v1.2.2.2.map D.int))), none, none] _ _
  refine ms_cons (m_set (ps_set (i := 7) nd rfl (Or.inl rfl) pe_w) (me_ixT (MV.u (ME.v (me_var (pv 1) rfl)) (.fz _)) me_int rfl) ?_)
  show MS _ [some (.fz ((r_Book C_Book C_Cover C_Condition C_CauseIs C_ThingIs C_DaysIn C_Over C_Some C_Deal) book)), some (.fz (e_T_s_s_i_i cell)), some (.fz (.int cents)), some (.fz (.lst (v1.1.map D.str))), some (.fz (.lst (v1.2.1.map D.str))), some (.fz (.lst (v1.2.2.1.map D.int))), some (.fz (.lst (v1.2.2.2.map D.int))), some (.fz (.str cell.1)), none] _ _
  replace hx := bd_some hx
  obtain ⟨p2, hp2, hx⟩ := hx
  refine ms_cons (m_ifP (out := p2) (fun p2 => [some (.fz ((r_Book C_Book C_Cover C_Condition C_CauseIs C_ThingIs C_DaysIn C_Over C_Some C_Deal) book)), some (.fz (e_T_s_s_i_i cell)), some (.fz (.int cents)), some (.fz (.lst (v1.1.map D.str))), some (.fz (.lst (v1.2.1.map D.str))), some (.fz (.lst (v1.2.2.1.map D.int))), some (.fz (.lst (v1.2.2.2.map D.int))), some (.fz (.str p2)), none]) (t := ((cell.1 == ("" : Str)))) (mt_eqS (me_var (pv 7) rfl) me_str) (fun h => ?_) (fun h => ?_) fun τ le => ?_)
  · replace hx := cond_t hp2 h
    replace hx := bd_some hx
    obtain ⟨v3, hv3, hx⟩ := hx
    refine ms_one (m_set (ps_set (i := 7) nd rfl (Or.inl rfl) pe_w) (me_fn c_another (v1.1, v3) (ma_fz (me_var (pv 3) rfl) ma_nil) hv3 (hr.mono (by decide))) ?_)
    cases hx; exact le_auto
  · replace hx := cond_f hp2 h
    refine ms_nil ?_
    cases hx; exact le_auto
  refine ms_le le ?_
  show MS _ [some (.fz ((r_Book C_Book C_Cover C_Condition C_CauseIs C_ThingIs C_DaysIn C_Over C_Some C_Deal) book)), some (.fz (e_T_s_s_i_i cell)), some (.fz (.int cents)), some (.fz (.lst (v1.1.map D.str))), some (.fz (.lst (v1.2.1.map D.str))), some (.fz (.lst (v1.2.2.1.map D.int))), some (.fz (.lst (v1.2.2.2.map D.int))), some (.fz (.str p2)), none] _ _
  refine ms_cons (m_set (ps_set (i := 8) nd rfl (Or.inl rfl) pe_w) (me_ixT (MV.u (ME.v (me_var (pv 1) rfl)) (.fz _)) me_int rfl) ?_)
  show MS _ [some (.fz ((r_Book C_Book C_Cover C_Condition C_CauseIs C_ThingIs C_DaysIn C_Over C_Some C_Deal) book)), some (.fz (e_T_s_s_i_i cell)), some (.fz (.int cents)), some (.fz (.lst (v1.1.map D.str))), some (.fz (.lst (v1.2.1.map D.str))), some (.fz (.lst (v1.2.2.1.map D.int))), some (.fz (.lst (v1.2.2.2.map D.int))), some (.fz (.str p2)), some (.fz (.str cell.2.1))] _ _
  replace hx := bd_some hx
  obtain ⟨p4, hp4, hx⟩ := hx
  refine ms_cons (m_ifP (out := p4) (fun p4 => [some (.fz ((r_Book C_Book C_Cover C_Condition C_CauseIs C_ThingIs C_DaysIn C_Over C_Some C_Deal) book)), some (.fz (e_T_s_s_i_i cell)), some (.fz (.int cents)), some (.fz (.lst (v1.1.map D.str))), some (.fz (.lst (v1.2.1.map D.str))), some (.fz (.lst (v1.2.2.1.map D.int))), some (.fz (.lst (v1.2.2.2.map D.int))), some (.fz (.str p2)), some (.fz (.str p4))]) (t := ((cell.2.1 == ("" : Str)))) (mt_eqS (me_var (pv 8) rfl) me_str) (fun h => ?_) (fun h => ?_) fun τ le => ?_)
  · replace hx := cond_t hp4 h
    replace hx := bd_some hx
    obtain ⟨v5, hv5, hx⟩ := hx
    refine ms_one (m_set (ps_set (i := 8) nd rfl (Or.inl rfl) pe_w) (me_fn c_another (v1.2.1, v5) (ma_fz (me_var (pv 4) rfl) ma_nil) hv5 (hr.mono (by decide))) ?_)
    cases hx; exact le_auto
  · replace hx := cond_f hp4 h
    refine ms_nil ?_
    cases hx; exact le_auto
  refine ms_le le ?_
  show MS _ [some (.fz ((r_Book C_Book C_Cover C_Condition C_CauseIs C_ThingIs C_DaysIn C_Over C_Some C_Deal) book)), some (.fz (e_T_s_s_i_i cell)), some (.fz (.int cents)), some (.fz (.lst (v1.1.map D.str))), some (.fz (.lst (v1.2.1.map D.str))), some (.fz (.lst (v1.2.2.1.map D.int))), some (.fz (.lst (v1.2.2.2.map D.int))), some (.fz (.str p2)), some (.fz (.str p4))] _ _
  refine ms_one (m_ret (ps_ret pe_w) (ME.r (me_tup (mf_cons me_int (mf_cons (me_ixT (MV.u (ME.v (me_var (pv 1) rfl)) (.fz _)) me_int rfl) (mf_cons me_str (mf_cons (me_var (pv 8) rfl) (mf_cons (me_var (pv 7) rfl) (mf_cons (me_var (pv 2) rfl) mf_nil)))))))) ?_)
  cases hx; rfl
noncomputable def M_claim_of (cover : (Str × Cd × (List Unit) × (List Str) × (List Int) × Bool)) (loss : (Int × Int × Str × Str × Str × Int)) : Option (Int × Int) :=
  bd M_Counts___init__ fun v1 =>
  bd (M_numbers_of cover v1 loss) fun v2 =>
  bd (M_Cover_window cover v2 loss.2.2.2.2.2) fun v3 =>
  bd (M_Cover_rest cover v2) fun v4 =>
  bd (cond (v4.isSome) (bd v4 fun v6 =>
    lt (min v3.2 (v3.1 + v6.1)) fun high =>
    some high) (some v3.2) : Option (Int)) fun p5 =>
  some (v3.1, p5)
def sp_claim_of (K : PySem.W.Frag) (C_Cover C_Condition C_CauseIs C_ThingIs C_DaysIn C_Over C_Some C_Deal : Addr) : Sp := SpF K (fun x : (Str × Cd × (List Unit) × (List Str) × (List Int) × Bool) × (Int × Int × Str × Str × Str × Int) => [.fz ((r_Cover C_Cover C_Condition C_CauseIs C_ThingIs C_DaysIn C_Over C_Some C_Deal) x.1), .fz (e_T_i_i_s_s_s_i x.2)]) (fun x => M_claim_of x.1 x.2) (fun r => .fz (e_T_i_i r))
abbrev N_claim_of : List Str := ["cover", "loss", "had", "low", "high", "rest"]
theorem sc_claim_of : FnScope N_claim_of ["cover", "loss"] (defScope s_claim_of) := ⟨rfl, rfl, rfl, by decide +kernel, rfl, by decide +kernel, by decide +kernel⟩
theorem ok_claim_of {f : Addr} {fd : FuncData} (F : Fun K "claim_of" "claim_of" s_claim_of f fd) (z_min : mg "min" = none) (o_Cover : OC K C_Cover ["name", "condition", "clauses", "houses", "deal", "waits"]) (i_Counts : Mk1 P w K mg base "Counts" C_Counts 1 ["self"] (spI_Counts___init__ K C_Counts)) (c_numbers_of : Fn1 P w K mg base "numbers_of" 1 ["cover", "counts", "loss"] (sp_numbers_of K C_Cover C_Condition C_CauseIs C_ThingIs C_DaysIn C_Over C_Some C_Deal C_Counts)) (m_Cover_window : Mt1 P w K mg base C_Cover "window" 2 ["self", "counts", "cents"] (sp_Cover_window K C_Cover C_Condition C_CauseIs C_ThingIs C_DaysIn C_Over C_Some C_Deal)) (m_Cover_rest : Mt1 P w K mg base C_Cover "rest" 1 ["self", "counts"] (sp_Cover_rest K C_Cover C_Condition C_CauseIs C_ThingIs C_DaysIn C_Over C_Some C_Deal)) : FnOk P w K mg base CX0 3 f fd ["cover", "loss"] (sp_claim_of K C_Cover C_Condition C_CauseIs C_ThingIs C_DaysIn C_Over C_Some C_Deal) := by
  refine fn_m F sc_claim_of (fun x => rfl) (fun x _ => rfl) fun cdv A outer s H E hr x hx => ?_
  obtain ⟨⟨cover, loss⟩, r⟩ := x
  replace hx : M_claim_of cover loss = some r := hx
  have nd := sc_claim_of.nd
  unfold M_claim_of at hx
  show MS _ [some (.fz ((r_Cover C_Cover C_Condition C_CauseIs C_ThingIs C_DaysIn C_Over C_Some C_Deal) cover)), some (.fz (e_T_i_i_s_s_s_i loss)), none, none, none, none] _ _
  replace hx := bd_some hx
  obtain ⟨v1, hv1, hx⟩ := hx
  replace hx := bd_some hx
  obtain ⟨v2, hv2, hx⟩ := hx
  refine ms_cons (m_set (ps_set (i := 2) nd rfl (Or.inl rfl) pe_w) (me_fn c_numbers_of ((cover, v1, loss), v2) (ma_fz (me_var (pv 0) rfl) (ma_lk (ME.v (ME.is (o' := oo_Counts C_Counts v1) (me_make0 i_Counts ((), v1) rfl hv1 (hr.mono (by decide))) rfl)) (ma_fz (me_var (pv 1) rfl) ma_nil))) hv2 (hr.mono (by decide))) ?_)
  show MS _ [some (.fz ((r_Cover C_Cover C_Condition C_CauseIs C_ThingIs C_DaysIn C_Over C_Some C_Deal) cover)), some (.fz (e_T_i_i_s_s_s_i loss)), some (.lst ((v2.map D.int).map .fz)), none, none, none] _ _
  replace hx := bd_some hx
  obtain ⟨v3, hv3, hx⟩ := hx
  refine ms_cons (m_tgt (ps_asg pe_w (pg_tup (n := 2) rfl (pgs_cons (pg_name (i := 3) nd rfl (Or.inl rfl)) (pgs_cons (pg_name (i := 4) nd rfl (Or.inl rfl)) pgs_nil)))) (me_mt m_Cover_window o_Cover ((cover, v2, loss.2.2.2.2.2), v3) (mv_var (pv 0) rfl) (ma_vw (ml_var (pv 2) rfl) (ma_fz (me_ixT (MV.u (ME.v (me_var (pv 1) rfl)) (.fz _)) me_int rfl) ma_nil)) rfl hv3 (hr.mono (by decide))) (mg_tup (mgs_cons mg_name (mgs_cons mg_name mgs_nil)) rfl) ?_)
  show MS _ [some (.fz ((r_Cover C_Cover C_Condition C_CauseIs C_ThingIs C_DaysIn C_Over C_Some C_Deal) cover)), some (.fz (e_T_i_i_s_s_s_i loss)), some (.lst ((v2.map D.int).map .fz)), some (.fz (.int v3.1)), some (.fz (.int v3.2)), none] _ _
  replace hx := bd_some hx
  obtain ⟨v4, hv4, hx⟩ := hx
  refine ms_cons (m_set (ps_set (i := 5) nd rfl (Or.inl rfl) pe_w) (me_mt m_Cover_rest o_Cover ((cover, v2), v4) (mv_var (pv 0) rfl) (ma_vw (ml_var (pv 2) rfl) ma_nil) rfl hv4 (hr.mono (by decide))) ?_)
  show MS _ [some (.fz ((r_Cover C_Cover C_Condition C_CauseIs C_ThingIs C_DaysIn C_Over C_Some C_Deal) cover)), some (.fz (e_T_i_i_s_s_s_i loss)), some (.lst ((v2.map D.int).map .fz)), some (.fz (.int v3.1)), some (.fz (.int v3.2)), some (.fz (e_N_T_i_i v4))] _ _
  replace hx := bd_some hx
  obtain ⟨p5, hp5, hx⟩ := hx
  refine ms_cons (m_ifP (out := p5) (fun p5 => [some (.fz ((r_Cover C_Cover C_Condition C_CauseIs C_ThingIs C_DaysIn C_Over C_Some C_Deal) cover)), some (.fz (e_T_i_i_s_s_s_i loss)), some (.lst ((v2.map D.int).map .fz)), some (.fz (.int v3.1)), some (.fz (.int p5)), some (.fz (e_N_T_i_i v4))]) (t := (v4.isSome)) (MT.is (l := (v4.isSome)) (mt_notN (mv_var (pv 5) rfl)) (by cases v4 <;> rfl)) (fun h => ?_) (fun h => ?_) fun τ le => ?_)
  · replace hx := cond_t hp5 h
    replace hx := bd_some hx
    obtain ⟨v6, hv6, hx⟩ := hx
    replace hx := lt_some hx
    obtain ⟨high, ehigh, hx⟩ := hx
    refine ms_one (m_set (ps_set (i := 4) nd rfl (Or.inl rfl) pe_w) (ME.is (o' := (.fz (.int high))) (me_min rfl (by rfl) z_min (me_var (pv 4) rfl) (me_add (me_var (pv 3) rfl) (me_ixT (MV.u (ME.v (ME.is (o' := .fz (e_T_i_i v6)) (me_var (pv 5) rfl) (by rw [hv6]))) (.fz _)) me_int rfl))) (by rw [ehigh] <;> rfl)) ?_)
    cases hx; exact le_auto
  · replace hx := cond_f hp5 h
    refine ms_nil ?_
    cases hx; exact le_auto
  refine ms_le le ?_
  show MS _ [some (.fz ((r_Cover C_Cover C_Condition C_CauseIs C_ThingIs C_DaysIn C_Over C_Some C_Deal) cover)), some (.fz (e_T_i_i_s_s_s_i loss)), some (.lst ((v2.map D.int).map .fz)), some (.fz (.int v3.1)), some (.fz (.int p5)), some (.fz (e_N_T_i_i v4))] _ _
  refine ms_one (m_ret (ps_ret pe_w) (ME.r (me_tup (mf_cons (me_var (pv 3) rfl) (mf_cons (me_var (pv 4) rfl) mf_nil)))) ?_)
  cases hx; rfl

abbrev e_T_s_i_i (p : (Str × Int × Int)) : D := .tup [.str p.1, .int p.2.1, .int p.2.2]
noncomputable def M_claims_of (book : ((List (Str × Cd × (List Unit) × (List Str) × (List Int) × Bool)) × (List (Str × Cd × (List Unit) × (List Str) × (List Int) × Bool)))) (loss : (Int × Int × Str × Str × Str × Int)) : Option (List (Str × Int × Int)) :=
  lt ([] : List (Str × Int × Int)) fun found =>
  bd (lp (fun (x2 : (Str × Cd × (List Unit) × (List Str) × (List Int) × Bool)) (p1 : (List (Str × Int × Int))) => (bd (cond (!x2.2.2.2.2.2) (bd (M_Cover_asks x2 loss) fun v4 => some v4) (some false)) fun v5 =>
    cond v5 (bd (M_claim_of x2 loss) fun v7 =>
      cond (decide (v7.1 < v7.2)) (gd (p1.length < sizeLine) <|
        lt (p1 ++ [(x2.1, v7.1, v7.2)]) fun found_1 =>
        some found_1) (some p1)) (some p1) : Option ((List (Str × Int × Int))))) book.2 found) fun p3 =>
  some p3
def sp_claims_of (K : PySem.W.Frag) (C_Book C_Cover C_Condition C_CauseIs C_ThingIs C_DaysIn C_Over C_Some C_Deal : Addr) : Sp := SpF K (fun x : ((List (Str × Cd × (List Unit) × (List Str) × (List Int) × Bool)) × (List (Str × Cd × (List Unit) × (List Str) × (List Int) × Bool))) × (Int × Int × Str × Str × Str × Int) => [.fz ((r_Book C_Book C_Cover C_Condition C_CauseIs C_ThingIs C_DaysIn C_Over C_Some C_Deal) x.1), .fz (e_T_i_i_s_s_s_i x.2)]) (fun x => M_claims_of x.1 x.2) (fun r => .lst ((r.map e_T_s_i_i).map .fz))
abbrev N_claims_of : List Str := ["book", "loss", "found", "cover", "low", "high"]
theorem sc_claims_of : FnScope N_claims_of ["book", "loss"] (defScope s_claims_of) := ⟨rfl, rfl, rfl, by decide +kernel, rfl, by decide +kernel, by decide +kernel⟩
theorem ok_claims_of {f : Addr} {fd : FuncData} (F : Fun K "claims_of" "claims_of" s_claims_of f fd) (o_Book : OC K C_Book ["covers", "asking"]) (o_Cover : OC K C_Cover ["name", "condition", "clauses", "houses", "deal", "waits"]) (m_Cover_asks : Mt1 P w K mg base C_Cover "asks" 66 ["self", "loss"] (sp_Cover_asks K C_Cover C_Condition C_CauseIs C_ThingIs C_DaysIn C_Over C_Some C_Deal)) (c_claim_of : Fn1 P w K mg base "claim_of" 3 ["cover", "loss"] (sp_claim_of K C_Cover C_Condition C_CauseIs C_ThingIs C_DaysIn C_Over C_Some C_Deal)) : FnOk P w K mg base CX0 67 f fd ["book", "loss"] (sp_claims_of K C_Book C_Cover C_Condition C_CauseIs C_ThingIs C_DaysIn C_Over C_Some C_Deal) := by
  refine fn_m F sc_claims_of (fun x => rfl) (fun x _ => O.nvL_fz _) fun cdv A outer s H E hr x hx => ?_
  obtain ⟨⟨book, loss⟩, r⟩ := x
  replace hx : M_claims_of book loss = some r := hx
  have nd := sc_claims_of.nd
  unfold M_claims_of at hx
  show MS _ [some (.fz ((r_Book C_Book C_Cover C_Condition C_CauseIs C_ThingIs C_DaysIn C_Over C_Some C_Deal) book)), some (.fz (e_T_i_i_s_s_s_i loss)), none, none, none, none] _ _
  replace hx := lt_some hx
  obtain ⟨found, efound, hx⟩ := hx
  refine ms_cons (m_set (ps_set (i := 2) nd rfl (Or.inl rfl) pe_w) (ME.is (o' := (.lst ((found.map e_T_s_i_i).map .fz))) (me_lst (ds := [].map e_T_s_i_i) mf_nil) (by rw [efound] <;> rfl)) ?_)
  show MS _ [some (.fz ((r_Book C_Book C_Cover C_Condition C_CauseIs C_ThingIs C_DaysIn C_Over C_Some C_Deal) book)), some (.fz (e_T_i_i_s_s_s_i loss)), some (.lst ((found.map e_T_s_i_i).map .fz)), none, none, none] _ _
  replace hx := bd_some hx
  obtain ⟨p3, hp3, hx⟩ := hx
  refine ms_cons (m_forP (xs := book.2) (enc := (r_Cover C_Cover C_Condition C_CauseIs C_ThingIs C_DaysIn C_Over C_Some C_Deal)) (ps_for PassesOwn.never rfl (pi_list pe_w) (pg_name (i := 3) nd rfl (Or.inl rfl)) pss_w) (by exact (mi_list (ds := book.2.map (r_Cover C_Cover C_Condition C_CauseIs C_ThingIs C_DaysIn C_Over C_Some C_Deal)) (ME.k (me_fld (j := 1) (mv_var (pv 0) rfl) o_Book)))) hp3 (fun p1 => [some (.fz ((r_Book C_Book C_Cover C_Condition C_CauseIs C_ThingIs C_DaysIn C_Over C_Some C_Deal) book)), some (.fz (e_T_i_i_s_s_s_i loss)), some (.lst ((p1.map e_T_s_i_i).map .fz)), none, none, none]) le_auto (fun x2 p1 p1o mx hx => ?_) fun τ le => ?_)
  ·
    refine ⟨_, _, mg_name, ?_⟩
    show MS _ [some (.fz ((r_Book C_Book C_Cover C_Condition C_CauseIs C_ThingIs C_DaysIn C_Over C_Some C_Deal) book)), some (.fz (e_T_i_i_s_s_s_i loss)), some (.lst ((p1.map e_T_s_i_i).map .fz)), some (.fz ((r_Cover C_Cover C_Condition C_CauseIs C_ThingIs C_DaysIn C_Over C_Some C_Deal) x2)), none, none] _ _
    replace hx := bd_some hx
    obtain ⟨v5, hv5, hx⟩ := hx
    refine ms_one (m_if (t := v5) (MW.t (MW.is (mw_and (mt_not (mt_val (me_fld (j := 5) (mv_var (pv 3) rfl) o_Cover))) fun q6 => (by have hx := cond_t hv5 q6; replace hx := bd_some hx; obtain ⟨v4, hv4, hx⟩ := hx; first | (cases hx; exact (mw_and1 (mt_val (me_mt m_Cover_asks o_Cover ((x2, loss), v4) (mv_var (pv 3) rfl) (ma_fz (me_var (pv 1) rfl) ma_nil) rfl hv4 (hr.mono (by decide)))))) | (injection hx with hx; subst hx; exact (mw_and1 (mt_val (me_mt m_Cover_asks o_Cover ((x2, loss), v4) (mv_var (pv 3) rfl) (ma_fz (me_var (pv 1) rfl) ma_nil) rfl hv4 (hr.mono (by decide)))))))) (and_c hv5))) (fun h => ?_) fun h => ?_)
    · replace hx := cond_t hx h
      replace hx := bd_some hx
      obtain ⟨v7, hv7, hx⟩ := hx
      refine ms_cons (m_tgt (ps_asg pe_w (pg_tup (n := 2) rfl (pgs_cons (pg_name (i := 4) nd rfl (Or.inl rfl)) (pgs_cons (pg_name (i := 5) nd rfl (Or.inl rfl)) pgs_nil)))) (me_fn c_claim_of ((x2, loss), v7) (ma_fz (me_var (pv 3) rfl) (ma_fz (me_var (pv 1) rfl) ma_nil)) hv7 (hr.mono (by decide))) (mg_tup (mgs_cons mg_name (mgs_cons mg_name mgs_nil)) rfl) ?_)
      show MS _ [some (.fz ((r_Book C_Book C_Cover C_Condition C_CauseIs C_ThingIs C_DaysIn C_Over C_Some C_Deal) book)), some (.fz (e_T_i_i_s_s_s_i loss)), some (.lst ((p1.map e_T_s_i_i).map .fz)), some (.fz ((r_Cover C_Cover C_Condition C_CauseIs C_ThingIs C_DaysIn C_Over C_Some C_Deal) x2)), some (.fz (.int v7.1)), some (.fz (.int v7.2))] _ _
      refine ms_one (m_if (t := (decide (v7.1 < v7.2))) (mt_lt (me_var (pv 4) rfl) (me_var (pv 5) rfl)) (fun h => ?_) fun h => ?_)
      · replace hx := cond_t hx h
        replace hx := gd_some hx
        obtain ⟨g8, hx⟩ := hx
        replace hx := lt_some hx
        obtain ⟨found_1, efound_1, hx⟩ := hx
        refine ms_one (m_appendT (i := 2) (xs := p1) (enc := e_T_s_i_i) (y := (x2.1, v7.1, v7.2)) g8 (pv _) rfl (me_tup (mf_cons (me_fld (j := 0) (mv_var (pv 3) rfl) o_Cover) (mf_cons (me_var (pv 4) rfl) (mf_cons (me_var (pv 5) rfl) mf_nil)))) ?_)
        rw [← efound_1]
        cases hx; exact le_auto
      · replace hx := cond_f hx h
        refine ms_nil ?_
        cases hx; exact le_auto
    · replace hx := cond_f hx h
      refine ms_nil ?_
      cases hx; exact le_auto
  refine ms_le le ?_
  show MS _ [some (.fz ((r_Book C_Book C_Cover C_Condition C_CauseIs C_ThingIs C_DaysIn C_Over C_Some C_Deal) book)), some (.fz (e_T_i_i_s_s_s_i loss)), some (.lst ((p3.map e_T_s_i_i).map .fz)), none, none, none] _ _
  refine ms_one (m_ret (ps_ret pe_w) (mr_var (pv 2) rfl) ?_)
  cases hx; rfl

abbrev e_T_T_s_s_i_i_i_i_L_T_i_i_s_i_L_T_s_i_i (p : ((Str × Str × Int × Int) × Int × Int × (List (Int × Int × Str × Int)) × (List (Str × Int × Int)))) : D := .tup [e_T_s_s_i_i p.1, .int p.2.1, .int p.2.2.1, .lst (p.2.2.2.1.map e_T_i_i_s_i), .lst (p.2.2.2.2.map e_T_s_i_i)]
noncomputable def M_row_of (book : ((List (Str × Cd × (List Unit) × (List Str) × (List Int) × Bool)) × (List (Str × Cd × (List Unit) × (List Str) × (List Int) × Bool)))) (cell : (Str × Str × Int × Int)) (lo : Int) (hi : Int) : Option ((Str × Str × Int × Int) × Int × Int × (List (Int × Int × Str × Int)) × (List (Str × Int × Int))) :=
  bd (M_loss_in book cell hi) fun v1 =>
  bd M_Counts___init__ fun v2 =>
  bd (M_strips_of book v2 v1) fun v3 =>
  bd (M_claims_of book v1) fun v4 =>
  some (cell, lo, hi, v3, v4)
def sp_row_of (K : PySem.W.Frag) (C_Book C_Cover C_Condition C_CauseIs C_ThingIs C_DaysIn C_Over C_Some C_Deal : Addr) : Sp := SpF K (fun x : ((List (Str × Cd × (List Unit) × (List Str) × (List Int) × Bool)) × (List (Str × Cd × (List Unit) × (List Str) × (List Int) × Bool))) × (Str × Str × Int × Int) × Int × Int => [.fz ((r_Book C_Book C_Cover C_Condition C_CauseIs C_ThingIs C_DaysIn C_Over C_Some C_Deal) x.1), .fz (e_T_s_s_i_i x.2.1), .fz (.int x.2.2.1), .fz (.int x.2.2.2)]) (fun x => M_row_of x.1 x.2.1 x.2.2.1 x.2.2.2) (fun r => .fz (e_T_T_s_s_i_i_i_i_L_T_i_i_s_i_L_T_s_i_i r))
abbrev N_row_of : List Str := ["book", "cell", "lo", "hi", "loss"]
theorem sc_row_of : FnScope N_row_of ["book", "cell", "lo", "hi"] (defScope s_row_of) := ⟨rfl, rfl, rfl, by decide +kernel, rfl, by decide +kernel, by decide +kernel⟩
theorem ok_row_of {f : Addr} {fd : FuncData} (F : Fun K "row_of" "row_of" s_row_of f fd) (c_loss_in : Fn1 P w K mg base "loss_in" 67 ["book", "cell", "cents"] (sp_loss_in K C_Book C_Cover C_Condition C_CauseIs C_ThingIs C_DaysIn C_Over C_Some C_Deal)) (i_Counts : Mk1 P w K mg base "Counts" C_Counts 1 ["self"] (spI_Counts___init__ K C_Counts)) (c_strips_of : Fn1 P w K mg base "strips_of" 67 ["book", "counts", "loss"] (sp_strips_of K C_Book C_Cover C_Condition C_CauseIs C_ThingIs C_DaysIn C_Over C_Some C_Deal C_Counts)) (c_claims_of : Fn1 P w K mg base "claims_of" 67 ["book", "loss"] (sp_claims_of K C_Book C_Cover C_Condition C_CauseIs C_ThingIs C_DaysIn C_Over C_Some C_Deal)) : FnOk P w K mg base CX0 68 f fd ["book", "cell", "lo", "hi"] (sp_row_of K C_Book C_Cover C_Condition C_CauseIs C_ThingIs C_DaysIn C_Over C_Some C_Deal) := by
  refine fn_m F sc_row_of (fun x => rfl) (fun x _ => rfl) fun cdv A outer s H E hr x hx => ?_
  obtain ⟨⟨book, cell, lo, hi⟩, r⟩ := x
  replace hx : M_row_of book cell lo hi = some r := hx
  have nd := sc_row_of.nd
  unfold M_row_of at hx
  show MS _ [some (.fz ((r_Book C_Book C_Cover C_Condition C_CauseIs C_ThingIs C_DaysIn C_Over C_Some C_Deal) book)), some (.fz (e_T_s_s_i_i cell)), some (.fz (.int lo)), some (.fz (.int hi)), none] _ _
  replace hx := bd_some hx
  obtain ⟨v1, hv1, hx⟩ := hx
  refine ms_cons (m_set (ps_set (i := 4) nd rfl (Or.inl rfl) pe_w) (me_fn c_loss_in ((book, cell, hi), v1) (ma_fz (me_var (pv 0) rfl) (ma_fz (me_var (pv 1) rfl) (ma_fz (me_var (pv 3) rfl) ma_nil))) hv1 (hr.mono (by decide))) ?_)
  show MS _ [some (.fz ((r_Book C_Book C_Cover C_Condition C_CauseIs C_ThingIs C_DaysIn C_Over C_Some C_Deal) book)), some (.fz (e_T_s_s_i_i cell)), some (.fz (.int lo)), some (.fz (.int hi)), some (.fz (e_T_i_i_s_s_s_i v1))] _ _
  replace hx := bd_some hx
  obtain ⟨v2, hv2, hx⟩ := hx
  replace hx := bd_some hx
  obtain ⟨v3, hv3, hx⟩ := hx
  replace hx := bd_some hx
  obtain ⟨v4, hv4, hx⟩ := hx
  refine ms_one (m_ret (ps_ret pe_w) (ME.r (me_tup (mf_cons (me_var (pv 1) rfl) (mf_cons (me_var (pv 2) rfl) (mf_cons (me_var (pv 3) rfl) (mf_cons (ME.frzl (me_fn c_strips_of ((book, v2, v1), v3) (ma_fz (me_var (pv 0) rfl) (ma_lk (ME.v (ME.is (o' := oo_Counts C_Counts v2) (me_make0 i_Counts ((), v2) rfl hv2 (hr.mono (by decide))) rfl)) (ma_fz (me_var (pv 4) rfl) ma_nil))) hv3 (hr.mono (by decide)))) (mf_cons (ME.frzl (me_fn c_claims_of ((book, v1), v4) (ma_fz (me_var (pv 0) rfl) (ma_fz (me_var (pv 4) rfl) ma_nil)) hv4 (hr.mono (by decide)))) mf_nil))))))) ?_)
  cases hx; rfl

noncomputable def M_paper_of (book : ((List (Str × Cd × (List Unit) × (List Str) × (List Int) × Bool)) × (List (Str × Cd × (List Unit) × (List Str) × (List Int) × Bool)))) (bound : D) : Option (Xr Xc (List ((Str × Str × Int × Int) × Int × Int × (List (Int × Int × Str × Int)) × (List (Str × Int × Int))))) :=
  bd (M_is_amount bound) fun v1 =>
  bd (cond (!v1) (some true) (bd (asI bound) fun v2 => some (decide (v2 < 1)))) fun v3 =>
  cond v3 (some (.er .NoEntry)) <|
  bdx (M_cells_of book) fun v5 =>
  bd (asI bound) fun v7 =>
  bd (M_stretches_of book v7) fun v8 =>
  gd (CMul (v5.length : Int) (v8.length : Int)) <|
  cond (decide (120 < ((v5.length : Int) * (v8.length : Int)))) (some (.er .TooWide)) <|
  lt ([] : List ((Str × Str × Int × Int) × Int × Int × (List (Int × Int × Str × Int)) × (List (Str × Int × Int)))) fun rows =>
  bd (lp (fun (x11 : (Str × Str × Int × Int)) (p10 : (List ((Str × Str × Int × Int) × Int × Int × (List (Int × Int × Str × Int)) × (List (Str × Int × Int))))) => (bd (lp (fun (x14 : (Int × Int)) (p13 : (List ((Str × Str × Int × Int) × Int × Int × (List (Int × Int × Str × Int)) × (List (Str × Int × Int))))) => (bd (M_row_of book x11 ((x14).1) ((x14).2)) fun v16 =>
      gd (p13.length < sizeLine) <|
      lt (p13 ++ [v16]) fun rows_1 =>
      some rows_1 : Option ((List ((Str × Str × Int × Int) × Int × Int × (List (Int × Int × Str × Int)) × (List (Str × Int × Int))))))) v8 p10) fun p15 =>
    some p15 : Option ((List ((Str × Str × Int × Int) × Int × Int × (List (Int × Int × Str × Int)) × (List (Str × Int × Int))))))) v5 rows) fun p12 =>
  some (.ok p12)
def sp_paper_of (K : PySem.W.Frag) (C_Book C_Cover C_Condition C_CauseIs C_ThingIs C_DaysIn C_Over C_Some C_Deal C_NoEntry C_TooWide : Addr) : Sp := SpFE K (fun x : ((List (Str × Cd × (List Unit) × (List Str) × (List Int) × Bool)) × (List (Str × Cd × (List Unit) × (List Str) × (List Int) × Bool))) × D => [.fz ((r_Book C_Book C_Cover C_Condition C_CauseIs C_ThingIs C_DaysIn C_Over C_Some C_Deal) x.1), .fz x.2]) (fun x => M_paper_of x.1 x.2) (t_Xc C_NoEntry C_TooWide) (fun r => .lst ((r.map e_T_T_s_s_i_i_i_i_L_T_i_i_s_i_L_T_s_i_i).map .fz))
abbrev N_paper_of : List Str := ["book", "bound", "cells", "stretches", "rows", "cell", "lo", "hi"]
theorem sc_paper_of : FnScope N_paper_of ["book", "bound"] (defScope s_paper_of) := ⟨rfl, rfl, rfl, by decide +kernel, rfl, by decide +kernel, by decide +kernel⟩
theorem ok_paper_of {f : Addr} {fd : FuncData} (F : Fun K "paper_of" "paper_of" s_paper_of f fd) (z_len : mg "len" = none) (g_MOST_ROWS : mg "MOST_ROWS" = some (.int 120 tkMOST_ROWS)) (c_is_amount : Fn1 P w K mg base "is_amount" 2 ["thing"] (sp_is_amount K)) (x_NoEntry : XcC K mg "NoEntry" C_NoEntry) (c_cells_of : Fn1E P w K mg base "cells_of" 67 ["book"] (sp_cells_of K C_Book C_Cover C_Condition C_CauseIs C_ThingIs C_DaysIn C_Over C_Some C_Deal C_NoEntry C_TooWide)) (c_stretches_of : Fn1 P w K mg base "stretches_of" 67 ["book", "bound"] (sp_stretches_of K C_Book C_Cover C_Condition C_CauseIs C_ThingIs C_DaysIn C_Over C_Some C_Deal)) (x_TooWide : XcC K mg "TooWide" C_TooWide) (c_row_of : Fn1 P w K mg base "row_of" 68 ["book", "cell", "lo", "hi"] (sp_row_of K C_Book C_Cover C_Condition C_CauseIs C_ThingIs C_DaysIn C_Over C_Some C_Deal)) : FnOk P w K mg base (L2.CX P w) 69 f fd ["book", "bound"] (sp_paper_of K C_Book C_Cover C_Condition C_CauseIs C_ThingIs C_DaysIn C_Over C_Some C_Deal C_NoEntry C_TooWide) := by
  refine fn_mE F sc_paper_of (fun x => rfl) (fun x _ => exO_nv (by intro _; exact O.nvL_fz _) x.2) fun cdv A outer s H E hr po x hx => ?_
  obtain ⟨⟨book, bound⟩, r⟩ := x
  replace hx : M_paper_of book bound = some r := hx
  have nd := sc_paper_of.nd
  unfold M_paper_of at hx
  show MS _ [some (.fz ((r_Book C_Book C_Cover C_Condition C_CauseIs C_ThingIs C_DaysIn C_Over C_Some C_Deal) book)), some (.fz bound), none, none, none, none, none, none] _ _
  replace hx := bd_some hx
  obtain ⟨v1, hv1, hx⟩ := hx
  replace hx := bd_some hx
  obtain ⟨v3, hv3, hx⟩ := hx
  refine ms_cons (m_if (t := v3) (MW.t (MW.is (mw_or (mt_not (mt_val (me_fn c_is_amount (bound, v1) (ma_fz (me_var (pv 1) rfl) ma_nil) hv1 (hr.mono (by decide))))) fun q4 => (by have hx := cond_f hv3 q4; replace hx := bd_some hx; obtain ⟨v2, hv2, hx⟩ := hx; cases hx; exact (mw_or1 (mt_lt (ME.is (o' := .fz (.int v2)) (me_var (pv 1) rfl) (asI_is hv2)) me_int)))) (or_c hv3))) (fun h => ?_) fun h => ms_nil ?_)
  · replace hx := cond_t hx h
    refine ms_one (m_raise (pm_own x_NoEntry) ?_)
    cases hx; rfl
  replace hx := cond_f hx h
  rcases bdx_some hx with ⟨xe6, hv5, hx⟩ | ⟨v5, hv5, hx⟩
  · refine ms_cons (m_rzAsg (ps_set (i := 2) nd rfl (Or.inl rfl) pe_w) (mz_fn c_cells_of (book, .er xe6) (ma_fz (me_var (pv 0) rfl) ma_nil) hv5 (hr.mono (by decide))) ?_)
    cases hx; rfl
  refine ms_cons (m_set (ps_set (i := 2) nd rfl (Or.inl rfl) pe_w) (me_fn (Fn1E.ok c_cells_of) (book, .ok v5) (ma_fz (me_var (pv 0) rfl) ma_nil) ⟨hv5, (by intro _ z; cases z)⟩ (hr.mono (by decide))) ?_)
  show MS _ [some (.fz ((r_Book C_Book C_Cover C_Condition C_CauseIs C_ThingIs C_DaysIn C_Over C_Some C_Deal) book)), some (.fz bound), some (.lst ((v5.map e_T_s_s_i_i).map .fz)), none, none, none, none, none] _ _
  replace hx := bd_some hx
  obtain ⟨v7, hv7, hx⟩ := hx
  replace hx := bd_some hx
  obtain ⟨v8, hv8, hx⟩ := hx
  refine ms_cons (m_set (ps_set (i := 3) nd rfl (Or.inl rfl) pe_w) (me_fn c_stretches_of ((book, v7), v8) (ma_fz (me_var (pv 0) rfl) (ma_fz (ME.is (o' := .fz (.int v7)) (me_var (pv 1) rfl) (asI_is hv7)) ma_nil)) hv8 (hr.mono (by decide))) ?_)
  show MS _ [some (.fz ((r_Book C_Book C_Cover C_Condition C_CauseIs C_ThingIs C_DaysIn C_Over C_Some C_Deal) book)), some (.fz bound), some (.lst ((v5.map e_T_s_s_i_i).map .fz)), some (.lst ((v8.map e_T_i_i).map .fz)), none, none, none, none] _ _
  replace hx := gd_some hx
  obtain ⟨g9, hx⟩ := hx
  refine ms_cons (m_if (t := (decide (120 < ((v5.length : Int) * (v8.length : Int))))) (mt_gt (me_mul (me_lenLT (xs := v5) (enc := e_T_s_s_i_i) (by rfl) z_len (ml_var (pv 2) rfl)) (me_lenLT (xs := v8) (enc := e_T_i_i) (by rfl) z_len (ml_var (pv 3) rfl)) g9) (me_gI g_MOST_ROWS)) (fun h => ?_) fun h => ms_nil ?_)
  · replace hx := cond_t hx h
    refine ms_one (m_raise (pm_own x_TooWide) ?_)
    cases hx; rfl
  replace hx := cond_f hx h
  replace hx := lt_some hx
  obtain ⟨rows, erows, hx⟩ := hx
  refine ms_cons (m_set (ps_set (i := 4) nd rfl (Or.inl rfl) pe_w) (ME.is (o' := (.lst ((rows.map e_T_T_s_s_i_i_i_i_L_T_i_i_s_i_L_T_s_i_i).map .fz))) (me_lst (ds := [].map e_T_T_s_s_i_i_i_i_L_T_i_i_s_i_L_T_s_i_i) mf_nil) (by rw [erows] <;> rfl)) ?_)
  show MS _ [some (.fz ((r_Book C_Book C_Cover C_Condition C_CauseIs C_ThingIs C_DaysIn C_Over C_Some C_Deal) book)), some (.fz bound), some (.lst ((v5.map e_T_s_s_i_i).map .fz)), some (.lst ((v8.map e_T_i_i).map .fz)), some (.lst ((rows.map e_T_T_s_s_i_i_i_i_L_T_i_i_s_i_L_T_s_i_i).map .fz)), none, none, none] _ _
  refine ms_frzl (i := 2) rfl ?_
  refine ms_frzl (i := 3) rfl ?_
  show MS _ [some (.fz ((r_Book C_Book C_Cover C_Condition C_CauseIs C_ThingIs C_DaysIn C_Over C_Some C_Deal) book)), some (.fz bound), some (.fz (.lst (v5.map e_T_s_s_i_i))), some (.fz (.lst (v8.map e_T_i_i))), some (.lst ((rows.map e_T_T_s_s_i_i_i_i_L_T_i_i_s_i_L_T_s_i_i).map .fz)), none, none, none] _ _
  replace hx := bd_some hx
  obtain ⟨p12, hp12, hx⟩ := hx
  refine ms_cons (m_forP (xs := v5) (enc := e_T_s_s_i_i) (ps_for po rfl (pi_list pe_w) (pg_name (i := 5) nd rfl (Or.inl rfl)) pss_w) (by exact (mi_list (ds := v5.map e_T_s_s_i_i) (mk_var (pv 2) rfl))) hp12 (fun p10 => [some (.fz ((r_Book C_Book C_Cover C_Condition C_CauseIs C_ThingIs C_DaysIn C_Over C_Some C_Deal) book)), some (.fz bound), some (.fz (.lst (v5.map e_T_s_s_i_i))), some (.fz (.lst (v8.map e_T_i_i))), some (.lst ((p10.map e_T_T_s_s_i_i_i_i_L_T_i_i_s_i_L_T_s_i_i).map .fz)), none, none, none]) le_auto (fun x11 p10 p10o mx hx => ?_) fun τ le => ?_)
  ·
    refine ⟨_, _, mg_name, ?_⟩
    show MS _ [some (.fz ((r_Book C_Book C_Cover C_Condition C_CauseIs C_ThingIs C_DaysIn C_Over C_Some C_Deal) book)), some (.fz bound), some (.fz (.lst (v5.map e_T_s_s_i_i))), some (.fz (.lst (v8.map e_T_i_i))), some (.lst ((p10.map e_T_T_s_s_i_i_i_i_L_T_i_i_s_i_L_T_s_i_i).map .fz)), some (.fz (e_T_s_s_i_i x11)), none, none] _ _
    replace hx := bd_some hx
    obtain ⟨p15, hp15, hx⟩ := hx
    refine ms_one (m_forP (xs := v8) (enc := e_T_i_i) (ps_for po rfl (pi_list pe_w) (pg_tup (n := 2) rfl (pgs_cons (pg_name (i := 6) nd rfl (Or.inl rfl)) (pgs_cons (pg_name (i := 7) nd rfl (Or.inl rfl)) pgs_nil))) pss_w) (by exact (mi_list (ds := v8.map e_T_i_i) (mk_var (pv 3) rfl))) hp15 (fun p13 => [some (.fz ((r_Book C_Book C_Cover C_Condition C_CauseIs C_ThingIs C_DaysIn C_Over C_Some C_Deal) book)), some (.fz bound), some (.fz (.lst (v5.map e_T_s_s_i_i))), some (.fz (.lst (v8.map e_T_i_i))), some (.lst ((p13.map e_T_T_s_s_i_i_i_i_L_T_i_i_s_i_L_T_s_i_i).map .fz)), some (.fz (e_T_s_s_i_i x11)), none, none]) le_auto (fun x14 p13 p13o mx hx => ?_) fun τ le => ?_)
    ·
      refine ⟨_, _, (mg_tup (mgs_cons mg_name (mgs_cons mg_name mgs_nil)) rfl), ?_⟩
      show MS _ [some (.fz ((r_Book C_Book C_Cover C_Condition C_CauseIs C_ThingIs C_DaysIn C_Over C_Some C_Deal) book)), some (.fz bound), some (.fz (.lst (v5.map e_T_s_s_i_i))), some (.fz (.lst (v8.map e_T_i_i))), some (.lst ((p13.map e_T_T_s_s_i_i_i_i_L_T_i_i_s_i_L_T_s_i_i).map .fz)), some (.fz (e_T_s_s_i_i x11)), some (.fz (.int ((x14).1))), some (.fz (.int ((x14).2)))] _ _
      replace hx := bd_some hx
      obtain ⟨v16, hv16, hx⟩ := hx
      replace hx := gd_some hx
      obtain ⟨g17, hx⟩ := hx
      replace hx := lt_some hx
      obtain ⟨rows_1, erows_1, hx⟩ := hx
      refine ms_one (m_appendT (i := 4) (xs := p13) (enc := e_T_T_s_s_i_i_i_i_L_T_i_i_s_i_L_T_s_i_i) (y := v16) g17 (pv _) rfl (me_fn c_row_of ((book, x11, (x14).1, (x14).2), v16) (ma_fz (me_var (pv 0) rfl) (ma_fz (me_var (pv 5) rfl) (ma_fz (me_var (pv 6) rfl) (ma_fz (me_var (pv 7) rfl) ma_nil)))) hv16 (hr.mono (by decide))) ?_)
      rw [← erows_1]
      cases hx; exact le_auto
    cases hx; exact (le.trans le_auto)
  refine ms_le le ?_
  show MS _ [some (.fz ((r_Book C_Book C_Cover C_Condition C_CauseIs C_ThingIs C_DaysIn C_Over C_Some C_Deal) book)), some (.fz bound), some (.fz (.lst (v5.map e_T_s_s_i_i))), some (.fz (.lst (v8.map e_T_i_i))), some (.lst ((p12.map e_T_T_s_s_i_i_i_i_L_T_i_i_s_i_L_T_s_i_i).map .fz)), none, none, none] _ _
  refine ms_one (m_ret (ps_ret pe_w) (mr_var (pv 4) rfl) ?_)
  cases hx; rfl
noncomputable def M__law_cell (script : (List Int)) (k_0 : Int) : Option Int :=
  cond (decide (k_0 < (script.length : Int))) (bd (L2.atI script k_0) fun v1 =>
    some v1) <|
  some (0 : Int)
def sp__law_cell (K : PySem.W.Frag) : Sp := SpF K (fun x : (List Int) × Int => [.vw (x.1.map D.int), .fz (.int x.2)]) (fun x => M__law_cell x.1 x.2) (fun r => .fz (.int r))
abbrev N__law_cell : List Str := ["_law_script", "_law_k"]
theorem sc__law_cell : FnScope N__law_cell ["_law_script", "_law_k"] (defScope s__law_cell) := ⟨rfl, rfl, rfl, by decide +kernel, rfl, by decide +kernel, by decide +kernel⟩
theorem ok__law_cell {f : Addr} {fd : FuncData} (F : Fun K "_law_cell" "_law_cell" s__law_cell f fd) (z_len : mg "len" = none) : FnOk P w K mg base CX0 1 f fd ["_law_script", "_law_k"] (sp__law_cell K) := by
  refine fn_m F sc__law_cell (fun x => rfl) (fun x _ => rfl) fun cdv A outer s H E hr x hx => ?_
  obtain ⟨⟨script, k_0⟩, r⟩ := x
  replace hx : M__law_cell script k_0 = some r := hx
  have nd := sc__law_cell.nd
  unfold M__law_cell at hx
  show MS _ [some (.vw (script.map D.int)), some (.fz (.int k_0))] _ _
  refine ms_cons (m_if (t := (decide (k_0 < (script.length : Int)))) (mt_lt (me_var (pv 1) rfl) (me_lenLT (xs := script) (enc := D.int) (by rfl) z_len (ml_var (pv 0) rfl))) (fun h => ?_) fun h => ms_nil ?_)
  · replace hx := cond_t hx h
    replace hx := bd_some hx
    obtain ⟨v1, hv1, hx⟩ := hx
    refine ms_one (m_ret (ps_ret pe_w) (ME.r (me_ixLT (xs := script) (enc := D.int) hv1 (ml_var (pv 0) rfl) (me_var (pv 1) rfl))) ?_)
    cases hx; rfl
  replace hx := cond_f hx h
  refine ms_one (m_ret (ps_ret pe_w) (ME.r me_int) ?_)
  cases hx; rfl

noncomputable def M__law_some (parts : (List Cd)) : Option Cd :=
  cond (((parts.length : Int) == 0)) (some (Cd.plain ())) <|
  cond (((parts.length : Int) == 1)) (bd (L2.atI parts (0 : Int)) fun v1 =>
    some v1) <|
  bd (M_Some___init__ parts) fun v2 =>
  some (Cd.someOf v2)
def sp__law_some (K : PySem.W.Frag) (C_Condition C_CauseIs C_ThingIs C_DaysIn C_Over C_Some : Addr) : Sp := SpF K (fun x : (List Cd) => [.fz (.lst (x.map (u_Cd C_Condition C_CauseIs C_ThingIs C_DaysIn C_Over C_Some)))]) (fun x => M__law_some x) (fun r => .fz ((u_Cd C_Condition C_CauseIs C_ThingIs C_DaysIn C_Over C_Some) r))
abbrev N__law_some : List Str := ["_law_parts"]
theorem sc__law_some : FnScope N__law_some ["_law_parts"] (defScope s__law_some) := ⟨rfl, rfl, rfl, by decide +kernel, rfl, by decide +kernel, by decide +kernel⟩
theorem ok__law_some {f : Addr} {fd : FuncData} (F : Fun K "_law_some" "_law_some" s__law_some f fd) (z_len : mg "len" = none) (p_Condition : MkP K C_Condition) (e_Condition : mg "Condition" = some (.ref C_Condition)) (i_Some : Mk1 P w K mg base "Some" C_Some 1 ["self", "several"] (spI_Some___init__ K C_Some C_Condition C_CauseIs C_ThingIs C_DaysIn C_Over)) : FnOk P w K mg base CX0 3 f fd ["_law_parts"] (sp__law_some K C_Condition C_CauseIs C_ThingIs C_DaysIn C_Over C_Some) := by
  refine fn_m F sc__law_some (fun x => rfl) (fun x _ => rfl) fun cdv A outer s H E hr x hx => ?_
  obtain ⟨parts, r⟩ := x
  replace hx : M__law_some parts = some r := hx
  have nd := sc__law_some.nd
  unfold M__law_some at hx
  show MS _ [some (.fz (.lst (parts.map (u_Cd C_Condition C_CauseIs C_ThingIs C_DaysIn C_Over C_Some))))] _ _
  refine ms_cons (m_if (t := (((parts.length : Int) == 0))) (mt_eqI (me_lenLT (xs := parts) (enc := (u_Cd C_Condition C_CauseIs C_ThingIs C_DaysIn C_Over C_Some)) (by rfl) z_len (ml_var (pv 0) rfl)) me_int) (fun h => ?_) fun h => ms_nil ?_)
  · replace hx := cond_t hx h
    refine ms_one (m_ret (ps_ret pe_w) (ME.r (ME.as (ME.is (o' := .fz ((r_Condition C_Condition) ())) (ME.frz (me_plain p_Condition e_Condition) rfl) rfl) (u_Cd_plain C_Condition C_CauseIs C_ThingIs C_DaysIn C_Over C_Some _).symm)) ?_)
    cases hx; rfl
  replace hx := cond_f hx h
  refine ms_cons (m_if (t := (((parts.length : Int) == 1))) (mt_eqI (me_lenLT (xs := parts) (enc := (u_Cd C_Condition C_CauseIs C_ThingIs C_DaysIn C_Over C_Some)) (by rfl) z_len (ml_var (pv 0) rfl)) me_int) (fun h => ?_) fun h => ms_nil ?_)
  · replace hx := cond_t hx h
    replace hx := bd_some hx
    obtain ⟨v1, hv1, hx⟩ := hx
    refine ms_one (m_ret (ps_ret pe_w) (ME.r (me_ixLT (xs := parts) (enc := (u_Cd C_Condition C_CauseIs C_ThingIs C_DaysIn C_Over C_Some)) hv1 (ml_var (pv 0) rfl) me_int)) ?_)
    cases hx; rfl
  replace hx := cond_f hx h
  replace hx := bd_some hx
  obtain ⟨v2, hv2, hx⟩ := hx
  refine ms_one (m_ret (ps_ret pe_w) (ME.r (ME.as (ME.is (o' := .fz ((r_Some C_Some C_Condition C_CauseIs C_ThingIs C_DaysIn C_Over) v2)) (ME.frz (me_make i_Some (parts, v2) (ma_vw (ml_var (pv 0) rfl) ma_nil) hv2 (hr.mono (by decide))) (by simp only [O.nv, O.nvL, O.nvL_fz, Bool.and_self])) (by simp only [O.frz, O.frzL, O.frzL_fz])) (u_Cd_someOf C_Condition C_CauseIs C_ThingIs C_DaysIn C_Over C_Some _).symm)) ?_)
  cases hx; rfl

abbrev e_L_U_Cd (C_Condition C_CauseIs C_ThingIs C_DaysIn C_Over C_Some : Addr) (xs : (List Cd)) : D := .lst (xs.map (u_Cd C_Condition C_CauseIs C_ThingIs C_DaysIn C_Over C_Some))
noncomputable def M__law_book (sizes : (List Int)) (start : Int) (gap : Int) (waits : Int) : Option ((List (Str × Cd × (List Unit) × (List Str) × (List Int) × Bool)) × (List (Str × Cd × (List Unit) × (List Str) × (List Int) × Bool))) :=
  bd (L2.atI sizes (0 : Int)) fun v1 =>
  gd (-(2 ^ 62) ≤ v1 ∧ v1 < 2 ^ 62) <|
  gd ((List.range v1.toNat).length < sizeLine) <|
  bd (mpO (fun x4 : Nat => gd (("abcdefgh" : Str).length ≤ sizeLine) <| bd (M_CauseIs___init__ (cutS ("abcdefgh" : Str) (some (x4 : Int)) (some (((x4 : Int) + 1) + (start % 2))))) fun v6 => some (Cd.cause v6)) (List.range v1.toNat)) fun v7 =>
  bd (L2.atI sizes (1 : Int)) fun v8 =>
  gd (-(2 ^ 62) ≤ v8 ∧ v8 < 2 ^ 62) <|
  gd ((List.range v8.toNat).length < sizeLine) <|
  bd (mpO (fun x11 : Nat => gd ((-(2 ^ 63) ≤ ((x11 : Int) + 1) ∧ ((x11 : Int) + 1) < 2 ^ 63) ∧ ("h" : Str).length * ((x11 : Int) + 1).toNat ≤ 16777216) <| bd (M_ThingIs___init__ (repS ("h" : Str) ((x11 : Int) + 1))) fun v13 => some (Cd.thing v13)) (List.range v8.toNat)) fun v14 =>
  bd (L2.atI sizes (2 : Int)) fun v15 =>
  gd (-(2 ^ 62) ≤ v15 ∧ v15 < 2 ^ 62) <|
  gd ((List.range v15.toNat).length < sizeLine) <|
  bd (mpO (fun x18 : Nat => gd (CMul gap (x18 : Int)) <| bd (M_DaysIn___init__ (start + (gap * (x18 : Int))) (1000000 : Int)) fun v20 => some (Cd.days v20)) (List.range v15.toNat)) fun v21 =>
  bd (L2.atI sizes (3 : Int)) fun v22 =>
  gd (-(2 ^ 62) ≤ v22 ∧ v22 < 2 ^ 62) <|
  gd ((List.range v22.toNat).length < sizeLine) <|
  bd (mpO (fun x25 : Nat => gd (CMul gap (x25 : Int)) <| bd (M_Over___init__ (start + (gap * (x25 : Int)))) fun v27 => some (Cd.over v27)) (List.range v22.toNat)) fun v28 =>
  lt ([] : List (Str × Cd × (List Unit) × (List Str) × (List Int) × Bool)) fun covers =>
  bd (lp (fun (x30 : Nat) (p29 : (List (Str × Cd × (List Unit) × (List Str) × (List Int) × Bool))) => (bd (L2.atI ("abcd" : Str).cps.toList (x30 : Int)) fun c32 =>
    gd (("abcd" : Str).length ≤ sizeLine) <|
    bd (L2.atI [v7, v14, v21, v28] (x30 : Int)) fun v34 =>
    bd (M__law_some v34) fun v35 =>
    bd (M_Cover___init__ (sg1 c32) v35 () () ((waits == (x30 : Int)))) fun v36 =>
    gd (p29.length < sizeLine) <|
    lt (p29 ++ [v36]) fun covers_1 =>
    some covers_1 : Option ((List (Str × Cd × (List Unit) × (List Str) × (List Int) × Bool))))) (List.range (4 : Int).toNat) covers) fun p31 =>
  bd (M_Book___init__ p31) fun v38 =>
  some v38
def sp__law_book (K : PySem.W.Frag) (C_Book C_Cover C_Condition C_CauseIs C_ThingIs C_DaysIn C_Over C_Some C_Deal : Addr) : Sp := SpF K (fun x : (List Int) × Int × Int × Int => [.vw (x.1.map D.int), .fz (.int x.2.1), .fz (.int x.2.2.1), .fz (.int x.2.2.2)]) (fun x => M__law_book x.1 x.2.1 x.2.2.1 x.2.2.2) (fun r => .fz ((r_Book C_Book C_Cover C_Condition C_CauseIs C_ThingIs C_DaysIn C_Over C_Some C_Deal) r))
abbrev N__law_book : List Str := ["_law_sizes", "_law_start", "_law_gap", "_law_waits", "_law_causes", "_law_things", "_law_days", "_law_amounts", "_law_covers", "_law_k"]
theorem sc__law_book : FnScope N__law_book ["_law_sizes", "_law_start", "_law_gap", "_law_waits"] (defScope s__law_book) := ⟨rfl, rfl, rfl, by decide +kernel, rfl, by decide +kernel, by decide +kernel⟩
theorem ok__law_book {f : Addr} {fd : FuncData} (F : Fun K "_law_book" "_law_book" s__law_book f fd) (z_range : mg "range" = none) (i_CauseIs : Mk1 P w K mg base "CauseIs" C_CauseIs 1 ["self", "name"] (spI_CauseIs___init__ K C_CauseIs)) (i_ThingIs : Mk1 P w K mg base "ThingIs" C_ThingIs 1 ["self", "name"] (spI_ThingIs___init__ K C_ThingIs)) (i_DaysIn : Mk1 P w K mg base "DaysIn" C_DaysIn 1 ["self", "first", "last"] (spI_DaysIn___init__ K C_DaysIn)) (i_Over : Mk1 P w K mg base "Over" C_Over 1 ["self", "cents"] (spI_Over___init__ K C_Over)) (c__law_some : Fn1 P w K mg base "_law_some" 3 ["_law_parts"] (sp__law_some K C_Condition C_CauseIs C_ThingIs C_DaysIn C_Over C_Some)) (i_Cover__5 : Mk1D P w K mg base "Cover" C_Cover 6 ["self", "name", "condition", "clauses", "houses", "waits"] [] (spI_Cover___init__ K C_Cover C_Condition C_CauseIs C_ThingIs C_DaysIn C_Over C_Some C_Deal)) (i_Book : Mk1 P w K mg base "Book" C_Book 1 ["self", "covers"] (spI_Book___init__ K C_Book C_Cover C_Condition C_CauseIs C_ThingIs C_DaysIn C_Over C_Some C_Deal)) : FnOk P w K mg base CX0 8 f fd ["_law_sizes", "_law_start", "_law_gap", "_law_waits"] (sp__law_book K C_Book C_Cover C_Condition C_CauseIs C_ThingIs C_DaysIn C_Over C_Some C_Deal) := by
  refine fn_m F sc__law_book (fun x => rfl) (fun x _ => rfl) fun cdv A outer s H E hr x hx => ?_
  obtain ⟨⟨sizes, start, gap, waits⟩, r⟩ := x
  replace hx : M__law_book sizes start gap waits = some r := hx
  have nd := sc__law_book.nd
  unfold M__law_book at hx
  show MS _ [some (.vw (sizes.map D.int)), some (.fz (.int start)), some (.fz (.int gap)), some (.fz (.int waits)), none, none, none, none, none, none] _ _
  replace hx := bd_some hx
  obtain ⟨v1, hv1, hx⟩ := hx
  replace hx := gd_some hx
  obtain ⟨g2, hx⟩ := hx
  replace hx := gd_some hx
  obtain ⟨g3, hx⟩ := hx
  replace hx := bd_some hx
  obtain ⟨v7, hv7, hx⟩ := hx
  refine ms_cons (m_setLcO (i := 4) (g := (gName 9)) (xs := (List.range v1.toNat)) (ys := v7) (enc := (fun k : Nat => D.int (k : Nat))) (enc2 := (u_Cd C_Condition C_CauseIs C_ThingIs C_DaysIn C_Over C_Some)) hv7 (fun te he => ps_setLc (i := 4) (own := [("_law_k", 9)]) rfl nd rfl rfl (sw_true rfl rfl rfl (by decide +kernel)) (pi_range1 (by rfl) z_range pa_w) (blkOk_by (N := N__law_book) (sc := defScope s__law_book) (by decide +kernel)) (fun _ _ _ _ _ => (pg_name (i := 9) nd rfl (Or.inl rfl))) (fun _ _ _ _ _ => pts_nil) he) (MI.c (mi_rangeT (mf_cons (me_ixLT (xs := sizes) (enc := D.int) hv1 (ml_var (pv 0) rfl) me_int) mf_nil) g2)) g3 (fun x4 mx x4y hx => by replace hx := gd_some hx; obtain ⟨g5, hx⟩ := hx; replace hx := bd_some hx; obtain ⟨v6, hv6, hx⟩ := hx; injection hx with hx; subst x4y; exact ⟨_, _, mg_name, by decide, fun s H C cl fp => (ME.as (ME.is (o' := .fz ((r_CauseIs C_CauseIs) v6)) (ME.frz (me_make i_CauseIs ((cutS ("abcdefgh" : Str) (some (x4 : Int)) (some (((x4 : Int) + 1) + (start % 2)))), v6) (ma_fz (me_slS g5 me_str (.some (me_var (pv 9) rfl)) (.some (me_add (me_add (me_var (pv 9) rfl) me_int) (me_mod (me_var (pv 1) rfl) me_int (by decide))))) ma_nil) hv6 (hr.mono (by decide))) rfl) rfl) (u_Cd_cause C_Condition C_CauseIs C_ThingIs C_DaysIn C_Over C_Some _).symm)⟩) ?_)
  show MS _ [some (.vw (sizes.map D.int)), some (.fz (.int start)), some (.fz (.int gap)), some (.fz (.int waits)), some (.lst ((v7.map (u_Cd C_Condition C_CauseIs C_ThingIs C_DaysIn C_Over C_Some)).map .fz)), none, none, none, none, none] _ _
  replace hx := bd_some hx
  obtain ⟨v8, hv8, hx⟩ := hx
  replace hx := gd_some hx
  obtain ⟨g9, hx⟩ := hx
  replace hx := gd_some hx
  obtain ⟨g10, hx⟩ := hx
  replace hx := bd_some hx
  obtain ⟨v14, hv14, hx⟩ := hx
  refine ms_cons (m_setLcO (i := 5) (g := (gName 9)) (xs := (List.range v8.toNat)) (ys := v14) (enc := (fun k : Nat => D.int (k : Nat))) (enc2 := (u_Cd C_Condition C_CauseIs C_ThingIs C_DaysIn C_Over C_Some)) hv14 (fun te he => ps_setLc (i := 5) (own := [("_law_k", 9)]) rfl nd rfl rfl (sw_true rfl rfl rfl (by decide +kernel)) (pi_range1 (by rfl) z_range pa_w) (blkOk_by (N := N__law_book) (sc := defScope s__law_book) (by decide +kernel)) (fun _ _ _ _ _ => (pg_name (i := 9) nd rfl (Or.inl rfl))) (fun _ _ _ _ _ => pts_nil) he) (MI.c (mi_rangeT (mf_cons (me_ixLT (xs := sizes) (enc := D.int) hv8 (ml_var (pv 0) rfl) me_int) mf_nil) g9)) g10 (fun x11 mx x11y hx => by replace hx := gd_some hx; obtain ⟨g12, hx⟩ := hx; replace hx := bd_some hx; obtain ⟨v13, hv13, hx⟩ := hx; injection hx with hx; subst x11y; exact ⟨_, _, mg_name, by decide, fun s H C cl fp => (ME.as (ME.is (o' := .fz ((r_ThingIs C_ThingIs) v13)) (ME.frz (me_make i_ThingIs ((repS ("h" : Str) ((x11 : Int) + 1)), v13) (ma_fz (me_repS g12 me_str (me_add (me_var (pv 9) rfl) me_int)) ma_nil) hv13 (hr.mono (by decide))) rfl) rfl) (u_Cd_thing C_Condition C_CauseIs C_ThingIs C_DaysIn C_Over C_Some _).symm)⟩) ?_)
  show MS _ [some (.vw (sizes.map D.int)), some (.fz (.int start)), some (.fz (.int gap)), some (.fz (.int waits)), some (.lst ((v7.map (u_Cd C_Condition C_CauseIs C_ThingIs C_DaysIn C_Over C_Some)).map .fz)), some (.lst ((v14.map (u_Cd C_Condition C_CauseIs C_ThingIs C_DaysIn C_Over C_Some)).map .fz)), none, none, none, none] _ _
  replace hx := bd_some hx
  obtain ⟨v15, hv15, hx⟩ := hx
  replace hx := gd_some hx
  obtain ⟨g16, hx⟩ := hx
  replace hx := gd_some hx
  obtain ⟨g17, hx⟩ := hx
  replace hx := bd_some hx
  obtain ⟨v21, hv21, hx⟩ := hx
  refine ms_cons (m_setLcO (i := 6) (g := (gName 9)) (xs := (List.range v15.toNat)) (ys := v21) (enc := (fun k : Nat => D.int (k : Nat))) (enc2 := (u_Cd C_Condition C_CauseIs C_ThingIs C_DaysIn C_Over C_Some)) hv21 (fun te he => ps_setLc (i := 6) (own := [("_law_k", 9)]) rfl nd rfl rfl (sw_true rfl rfl rfl (by decide +kernel)) (pi_range1 (by rfl) z_range pa_w) (blkOk_by (N := N__law_book) (sc := defScope s__law_book) (by decide +kernel)) (fun _ _ _ _ _ => (pg_name (i := 9) nd rfl (Or.inl rfl))) (fun _ _ _ _ _ => pts_nil) he) (MI.c (mi_rangeT (mf_cons (me_ixLT (xs := sizes) (enc := D.int) hv15 (ml_var (pv 0) rfl) me_int) mf_nil) g16)) g17 (fun x18 mx x18y hx => by replace hx := gd_some hx; obtain ⟨g19, hx⟩ := hx; replace hx := bd_some hx; obtain ⟨v20, hv20, hx⟩ := hx; injection hx with hx; subst x18y; exact ⟨_, _, mg_name, by decide, fun s H C cl fp => (ME.as (ME.is (o' := .fz ((r_DaysIn C_DaysIn) v20)) (ME.frz (me_make i_DaysIn (((start + (gap * (x18 : Int))), 1000000), v20) (ma_fz (me_add (me_var (pv 1) rfl) (me_mul (me_var (pv 2) rfl) (me_var (pv 9) rfl) g19)) (ma_fz (ME.is (o' := .fz (.int 1000000)) (me_pow me_int me_int ⟨by decide, by decide, by decide⟩) rfl) ma_nil)) hv20 (hr.mono (by decide))) rfl) rfl) (u_Cd_days C_Condition C_CauseIs C_ThingIs C_DaysIn C_Over C_Some _).symm)⟩) ?_)
  show MS _ [some (.vw (sizes.map D.int)), some (.fz (.int start)), some (.fz (.int gap)), some (.fz (.int waits)), some (.lst ((v7.map (u_Cd C_Condition C_CauseIs C_ThingIs C_DaysIn C_Over C_Some)).map .fz)), some (.lst ((v14.map (u_Cd C_Condition C_CauseIs C_ThingIs C_DaysIn C_Over C_Some)).map .fz)), some (.lst ((v21.map (u_Cd C_Condition C_CauseIs C_ThingIs C_DaysIn C_Over C_Some)).map .fz)), none, none, none] _ _
  replace hx := bd_some hx
  obtain ⟨v22, hv22, hx⟩ := hx
  replace hx := gd_some hx
  obtain ⟨g23, hx⟩ := hx
  replace hx := gd_some hx
  obtain ⟨g24, hx⟩ := hx
  replace hx := bd_some hx
  obtain ⟨v28, hv28, hx⟩ := hx
  refine ms_cons (m_setLcO (i := 7) (g := (gName 9)) (xs := (List.range v22.toNat)) (ys := v28) (enc := (fun k : Nat => D.int (k : Nat))) (enc2 := (u_Cd C_Condition C_CauseIs C_ThingIs C_DaysIn C_Over C_Some)) hv28 (fun te he => ps_setLc (i := 7) (own := [("_law_k", 9)]) rfl nd rfl rfl (sw_true rfl rfl rfl (by decide +kernel)) (pi_range1 (by rfl) z_range pa_w) (blkOk_by (N := N__law_book) (sc := defScope s__law_book) (by decide +kernel)) (fun _ _ _ _ _ => (pg_name (i := 9) nd rfl (Or.inl rfl))) (fun _ _ _ _ _ => pts_nil) he) (MI.c (mi_rangeT (mf_cons (me_ixLT (xs := sizes) (enc := D.int) hv22 (ml_var (pv 0) rfl) me_int) mf_nil) g23)) g24 (fun x25 mx x25y hx => by replace hx := gd_some hx; obtain ⟨g26, hx⟩ := hx; replace hx := bd_some hx; obtain ⟨v27, hv27, hx⟩ := hx; injection hx with hx; subst x25y; exact ⟨_, _, mg_name, by decide, fun s H C cl fp => (ME.as (ME.is (o' := .fz ((r_Over C_Over) v27)) (ME.frz (me_make i_Over ((start + (gap * (x25 : Int))), v27) (ma_fz (me_add (me_var (pv 1) rfl) (me_mul (me_var (pv 2) rfl) (me_var (pv 9) rfl) g26)) ma_nil) hv27 (hr.mono (by decide))) rfl) rfl) (u_Cd_over C_Condition C_CauseIs C_ThingIs C_DaysIn C_Over C_Some _).symm)⟩) ?_)
  show MS _ [some (.vw (sizes.map D.int)), some (.fz (.int start)), some (.fz (.int gap)), some (.fz (.int waits)), some (.lst ((v7.map (u_Cd C_Condition C_CauseIs C_ThingIs C_DaysIn C_Over C_Some)).map .fz)), some (.lst ((v14.map (u_Cd C_Condition C_CauseIs C_ThingIs C_DaysIn C_Over C_Some)).map .fz)), some (.lst ((v21.map (u_Cd C_Condition C_CauseIs C_ThingIs C_DaysIn C_Over C_Some)).map .fz)), some (.lst ((v28.map (u_Cd C_Condition C_CauseIs C_ThingIs C_DaysIn C_Over C_Some)).map .fz)), none, none] _ _
  replace hx := lt_some hx
  obtain ⟨covers, ecovers, hx⟩ := hx
  refine ms_cons (m_set (ps_set (i := 8) nd rfl (Or.inl rfl) pe_w) (ME.is (o' := (.lst ((covers.map (r_Cover C_Cover C_Condition C_CauseIs C_ThingIs C_DaysIn C_Over C_Some C_Deal)).map .fz))) (me_lst (ds := [].map (r_Cover C_Cover C_Condition C_CauseIs C_ThingIs C_DaysIn C_Over C_Some C_Deal)) mf_nil) (by rw [ecovers] <;> rfl)) ?_)
  show MS _ [some (.vw (sizes.map D.int)), some (.fz (.int start)), some (.fz (.int gap)), some (.fz (.int waits)), some (.lst ((v7.map (u_Cd C_Condition C_CauseIs C_ThingIs C_DaysIn C_Over C_Some)).map .fz)), some (.lst ((v14.map (u_Cd C_Condition C_CauseIs C_ThingIs C_DaysIn C_Over C_Some)).map .fz)), some (.lst ((v21.map (u_Cd C_Condition C_CauseIs C_ThingIs C_DaysIn C_Over C_Some)).map .fz)), some (.lst ((v28.map (u_Cd C_Condition C_CauseIs C_ThingIs C_DaysIn C_Over C_Some)).map .fz)), some (.lst ((covers.map (r_Cover C_Cover C_Condition C_CauseIs C_ThingIs C_DaysIn C_Over C_Some C_Deal)).map .fz)), none] _ _
  refine ms_frzl (i := 4) rfl ?_
  refine ms_frzl (i := 5) rfl ?_
  refine ms_frzl (i := 6) rfl ?_
  refine ms_frzl (i := 7) rfl ?_
  show MS _ [some (.vw (sizes.map D.int)), some (.fz (.int start)), some (.fz (.int gap)), some (.fz (.int waits)), some (.fz (.lst (v7.map (u_Cd C_Condition C_CauseIs C_ThingIs C_DaysIn C_Over C_Some)))), some (.fz (.lst (v14.map (u_Cd C_Condition C_CauseIs C_ThingIs C_DaysIn C_Over C_Some)))), some (.fz (.lst (v21.map (u_Cd C_Condition C_CauseIs C_ThingIs C_DaysIn C_Over C_Some)))), some (.fz (.lst (v28.map (u_Cd C_Condition C_CauseIs C_ThingIs C_DaysIn C_Over C_Some)))), some (.lst ((covers.map (r_Cover C_Cover C_Condition C_CauseIs C_ThingIs C_DaysIn C_Over C_Some C_Deal)).map .fz)), none] _ _
  replace hx := bd_some hx
  obtain ⟨p31, hp31, hx⟩ := hx
  refine ms_cons (m_forP (xs := (List.range (4 : Int).toNat)) (enc := (fun k : Nat => D.int (k : Nat))) (ps_for PassesOwn.never rfl (pi_range1 (by rfl) z_range pa_w) (pg_name (i := 9) nd rfl (Or.inl rfl)) pss_w) (by exact (mi_rangeT (mf_cons me_int mf_nil) ⟨by decide, by decide⟩)) hp31 (fun p29 => [some (.vw (sizes.map D.int)), some (.fz (.int start)), some (.fz (.int gap)), some (.fz (.int waits)), some (.fz (.lst (v7.map (u_Cd C_Condition C_CauseIs C_ThingIs C_DaysIn C_Over C_Some)))), some (.fz (.lst (v14.map (u_Cd C_Condition C_CauseIs C_ThingIs C_DaysIn C_Over C_Some)))), some (.fz (.lst (v21.map (u_Cd C_Condition C_CauseIs C_ThingIs C_DaysIn C_Over C_Some)))), some (.fz (.lst (v28.map (u_Cd C_Condition C_CauseIs C_ThingIs C_DaysIn C_Over C_Some)))), some (.lst ((p29.map (r_Cover C_Cover C_Condition C_CauseIs C_ThingIs C_DaysIn C_Over C_Some C_Deal)).map .fz)), none]) le_auto (fun x30 p29 p29o mx hx => ?_) fun τ le => ?_)
  ·
    refine ⟨_, _, mg_name, ?_⟩
    show MS _ [some (.vw (sizes.map D.int)), some (.fz (.int start)), some (.fz (.int gap)), some (.fz (.int waits)), some (.fz (.lst (v7.map (u_Cd C_Condition C_CauseIs C_ThingIs C_DaysIn C_Over C_Some)))), some (.fz (.lst (v14.map (u_Cd C_Condition C_CauseIs C_ThingIs C_DaysIn C_Over C_Some)))), some (.fz (.lst (v21.map (u_Cd C_Condition C_CauseIs C_ThingIs C_DaysIn C_Over C_Some)))), some (.fz (.lst (v28.map (u_Cd C_Condition C_CauseIs C_ThingIs C_DaysIn C_Over C_Some)))), some (.lst ((p29.map (r_Cover C_Cover C_Condition C_CauseIs C_ThingIs C_DaysIn C_Over C_Some C_Deal)).map .fz)), some (.fz (.int (x30 : Int)))] _ _
    replace hx := bd_some hx
    obtain ⟨c32, hc32, hx⟩ := hx
    replace hx := gd_some hx
    obtain ⟨g33, hx⟩ := hx
    replace hx := bd_some hx
    obtain ⟨v34, hv34, hx⟩ := hx
    replace hx := bd_some hx
    obtain ⟨v35, hv35, hx⟩ := hx
    replace hx := bd_some hx
    obtain ⟨v36, hv36, hx⟩ := hx
    replace hx := gd_some hx
    obtain ⟨g37, hx⟩ := hx
    replace hx := lt_some hx
    obtain ⟨covers_1, ecovers_1, hx⟩ := hx
    refine ms_one (m_appendT (i := 8) (xs := p29) (enc := (r_Cover C_Cover C_Condition C_CauseIs C_ThingIs C_DaysIn C_Over C_Some C_Deal)) (y := v36) g37 (pv _) rfl (ME.is (o' := .fz ((r_Cover C_Cover C_Condition C_CauseIs C_ThingIs C_DaysIn C_Over C_Some C_Deal) v36)) (ME.frz (me_makeD i_Cover__5 .nil (((sg1 c32), v35, (), (), ((waits == (x30 : Int)))), v36) (ma_fz (me_ixS me_str (me_var (pv 9) rfl) g33 hc32) (ma_fz (me_fn c__law_some (v34, v35) (ma_fz (me_ixLT (xs := [v7, v14, v21, v28]) (enc := (e_L_U_Cd C_Condition C_CauseIs C_ThingIs C_DaysIn C_Over C_Some)) hv34 (ME.l (me_lst (ds := [v7, v14, v21, v28].map (e_L_U_Cd C_Condition C_CauseIs C_ThingIs C_DaysIn C_Over C_Some)) (mf_cons (me_var (pv 4) rfl) (mf_cons (me_var (pv 5) rfl) (mf_cons (me_var (pv 6) rfl) (mf_cons (me_var (pv 7) rfl) mf_nil)))))) (me_var (pv 9) rfl)) ma_nil) hv35 (hr.mono (by decide))) (ma_fz me_non (ma_fz me_non (ma_fz (me_eqI (me_var (pv 3) rfl) (me_var (pv 9) rfl)) ma_nil))))) rfl hv36 (hr.mono (by decide))) (by simp only [O.nv, O.nvL, O.nvL_fz, Bool.and_self])) (by simp only [O.frz, O.frzL, O.frzL_fz])) ?_)
    rw [← ecovers_1]
    cases hx; exact le_auto
  refine ms_le le ?_
  show MS _ [some (.vw (sizes.map D.int)), some (.fz (.int start)), some (.fz (.int gap)), some (.fz (.int waits)), some (.fz (.lst (v7.map (u_Cd C_Condition C_CauseIs C_ThingIs C_DaysIn C_Over C_Some)))), some (.fz (.lst (v14.map (u_Cd C_Condition C_CauseIs C_ThingIs C_DaysIn C_Over C_Some)))), some (.fz (.lst (v21.map (u_Cd C_Condition C_CauseIs C_ThingIs C_DaysIn C_Over C_Some)))), some (.fz (.lst (v28.map (u_Cd C_Condition C_CauseIs C_ThingIs C_DaysIn C_Over C_Some)))), some (.lst ((p31.map (r_Cover C_Cover C_Condition C_CauseIs C_ThingIs C_DaysIn C_Over C_Some C_Deal)).map .fz)), none] _ _
  replace hx := bd_some hx
  obtain ⟨v38, hv38, hx⟩ := hx
  refine ms_one (m_ret (ps_ret pe_w) (ME.r (ME.is (o' := .fz ((r_Book C_Book C_Cover C_Condition C_CauseIs C_ThingIs C_DaysIn C_Over C_Some C_Deal) v38)) (ME.frz (me_make i_Book (p31, v38) (ma_vw (ml_var (pv 8) rfl) ma_nil) hv38 (hr.mono (by decide))) (by simp only [O.nv, O.nvL, O.nvL_fz, Bool.and_self])) (by simp only [O.frz, O.frzL, O.frzL_fz]))) ?_)
  cases hx; rfl

def Xc.is_TooWide : Xc → Bool
  | .NoEntry => false
  | .TooWide => true
def Xc.is_NoEntry : Xc → Bool
  | .NoEntry => true
  | .TooWide => false
noncomputable def M__law_refused (way : Int) (book_here : ((List (Str × Cd × (List Unit) × (List Str) × (List Int) × Bool)) × (List (Str × Cd × (List Unit) × (List Str) × (List Int) × Bool)))) (bound : D) : Option Int :=
  bd (cond ((way == 0)) (bdo (M_cells_of book_here) fun v3 =>
      some (.nx ())) (bdo (M_paper_of book_here bound) fun v5 =>
      some (.nx ())) : Option (Ou (Unit) Unit (Xr Xc Int))) fun o2 => tryR o2 (fun p1 =>
  some (0 : Int)) (fun r => some r) (fun xe => lt [false, false] fun others =>
    lt [(Xc.is_TooWide xe), (Xc.is_NoEntry xe)] fun some_here =>
    bd (cond (!true) (some true) (bd (cond ((others.contains true)) (some true) (gd (D.ok (.lst (some_here.map D.bl)) ∧ D.ok (.lst ([true, true].map D.bl))) <| some ((D.eqv (.lst (some_here.map D.bl)) (.lst ([true, true].map D.bl)))))) fun v8 => some v8)) fun v10 =>
    cond v10 (some (3 : Int)) <|
    bd (cond ((some_here.contains true)) (bd (idxB some_here) fun j12 => some ((j12 : Int) + 1)) (some (4 : Int))) fun v13 =>
    some v13)
def sp__law_refused (K : PySem.W.Frag) (C_Book C_Cover C_Condition C_CauseIs C_ThingIs C_DaysIn C_Over C_Some C_Deal : Addr) : Sp := SpF K (fun x : Int × ((List (Str × Cd × (List Unit) × (List Str) × (List Int) × Bool)) × (List (Str × Cd × (List Unit) × (List Str) × (List Int) × Bool))) × D => [.fz (.int x.1), .fz ((r_Book C_Book C_Cover C_Condition C_CauseIs C_ThingIs C_DaysIn C_Over C_Some C_Deal) x.2.1), .fz x.2.2]) (fun x => M__law_refused x.1 x.2.1 x.2.2) (fun r => .fz (.int r))
abbrev N__law_refused : List Str := ["_law_way", "_law_book_here", "_law_bound", "e", "_law_others", "_law_some_here"]
theorem sc__law_refused : FnScope N__law_refused ["_law_way", "_law_book_here", "_law_bound"] (defScope s__law_refused) := ⟨rfl, rfl, rfl, by decide +kernel, rfl, by decide +kernel, by decide +kernel⟩
theorem ok__law_refused {f : Addr} {fd : FuncData} (F : Fun K "_law_refused" "_law_refused" s__law_refused f fd) (z_isinstance : mg "isinstance" = none) (z_ValueError : mg "ValueError" = none) (e_CoverError : mg "CoverError" = some (.ref C_CoverError)) (v_NoEntry_CoverError : PySem.W.exmOne K (.ref C_NoEntry) (.ref C_CoverError) = some true) (v_TooWide_CoverError : PySem.W.exmOne K (.ref C_TooWide) (.ref C_CoverError) = some true) (c_cells_of : Fn1E P w K mg base "cells_of" 67 ["book"] (sp_cells_of K C_Book C_Cover C_Condition C_CauseIs C_ThingIs C_DaysIn C_Over C_Some C_Deal C_NoEntry C_TooWide)) (c_paper_of : Fn1E P w K mg base "paper_of" 69 ["book", "bound"] (sp_paper_of K C_Book C_Cover C_Condition C_CauseIs C_ThingIs C_DaysIn C_Over C_Some C_Deal C_NoEntry C_TooWide)) (e_NoBook : mg "NoBook" = some (.ref C_NoBook)) (w_NoEntry : ExcC K C_NoEntry) (q_NoEntry_NoBook : PySem.W.kitOne K (.ref C_NoEntry) (.ref C_NoBook) = some false) (w_TooWide : ExcC K C_TooWide) (q_TooWide_NoBook : PySem.W.kitOne K (.ref C_TooWide) (.ref C_NoBook) = some false) (e_NotTold : mg "NotTold" = some (.ref C_NotTold)) (q_NoEntry_NotTold : PySem.W.kitOne K (.ref C_NoEntry) (.ref C_NotTold) = some false) (q_TooWide_NotTold : PySem.W.kitOne K (.ref C_TooWide) (.ref C_NotTold) = some false) (e_TooWide : mg "TooWide" = some (.ref C_TooWide)) (q_NoEntry_TooWide : PySem.W.kitOne K (.ref C_NoEntry) (.ref C_TooWide) = some false) (q_TooWide_TooWide : PySem.W.kitOne K (.ref C_TooWide) (.ref C_TooWide) = some true) (e_NoEntry : mg "NoEntry" = some (.ref C_NoEntry)) (q_NoEntry_NoEntry : PySem.W.kitOne K (.ref C_NoEntry) (.ref C_NoEntry) = some true) (q_TooWide_NoEntry : PySem.W.kitOne K (.ref C_TooWide) (.ref C_NoEntry) = some false) (q_NoEntry_ValueError : PySem.W.kitOne K (.ref C_NoEntry) (.type "ValueError") = some true) (q_TooWide_ValueError : PySem.W.kitOne K (.ref C_TooWide) (.type "ValueError") = some true) : FnOk P w K mg base CX0 70 f fd ["_law_way", "_law_book_here", "_law_bound"] (sp__law_refused K C_Book C_Cover C_Condition C_CauseIs C_ThingIs C_DaysIn C_Over C_Some C_Deal) := by
  refine fn_m F sc__law_refused (fun x => rfl) (fun x _ => rfl) fun cdv A outer s H E hr x hx => ?_
  obtain ⟨⟨way, book_here, bound⟩, r⟩ := x
  replace hx : M__law_refused way book_here bound = some r := hx
  have nd := sc__law_refused.nd
  unfold M__law_refused at hx
  show MS _ [some (.fz (.int way)), some (.fz ((r_Book C_Book C_Cover C_Condition C_CauseIs C_ThingIs C_DaysIn C_Over C_Some C_Deal) book_here)), some (.fz bound), none, none, none] _ _
  replace hx := bd_some hx
  obtain ⟨o2, ho2, hx⟩ := hx
  refine ms_cons (m_tryO (i := 3) (out := o2) (fun p1 => [some (.fz (.int way)), some (.fz ((r_Book C_Book C_Cover C_Condition C_CauseIs C_ThingIs C_DaysIn C_Over C_Some C_Deal) book_here)), some (.fz bound), none, none, none]) (t_Xc C_NoEntry C_TooWide) (fun r => .fz (.int r)) nd rfl rfl ⟨rfl, by decide, .inl e_CoverError⟩ (by intro _ _ z; cases z) (fun e => by cases e <;> rfl) (fun pn xe po => ?_) (fun _ e => ?_) (fun _ e => ?_) (fun q e => ?_) (fun e _ => (by cases e with | NoEntry => exact v_NoEntry_CoverError | TooWide => exact v_TooWide_CoverError)) (fun xe e a oe pn hz hf => ?_) (fun p1 τ e le => ?_))
  · replace hx := ho2
    show MS _ [some (.fz (.int way)), some (.fz ((r_Book C_Book C_Cover C_Condition C_CauseIs C_ThingIs C_DaysIn C_Over C_Some C_Deal) book_here)), some (.fz bound), none, none, none] _ _
    refine ms_one (m_if (t := ((way == 0))) (mt_eqI (me_var (pv 0) rfl) me_int) (fun h => ?_) fun h => ?_)
    · replace hx := cond_t hx h
      rcases bdo_some hx with ⟨xe4, hv3, hx⟩ | ⟨v3, hv3, hx⟩
      · refine ms_one (m_rzDrop (ps_expr pe_w) (mz_fn c_cells_of (book_here, .er xe4) (ma_fz (me_var (pv 1) rfl) ma_nil) hv3 (hr.mono (by decide))) ?_)
        cases hx; exact ⟨_, rfl, rfl⟩
      refine ms_one (m_expr (ps_expr pe_w) (me_fn (Fn1E.ok c_cells_of) (book_here, .ok v3) (ma_fz (me_var (pv 1) rfl) ma_nil) ⟨hv3, (by intro _ z; cases z)⟩ (hr.mono (by decide))) ?_)
      cases hx; exact ⟨_, rfl, le_auto⟩
    · replace hx := cond_f hx h
      rcases bdo_some hx with ⟨xe6, hv5, hx⟩ | ⟨v5, hv5, hx⟩
      · refine ms_one (m_rzDrop (ps_expr pe_w) (mz_fn c_paper_of ((book_here, bound), .er xe6) (ma_fz (me_var (pv 1) rfl) (ma_fz (me_var (pv 2) rfl) ma_nil)) hv5 (hr.mono (by decide))) ?_)
        cases hx; exact ⟨_, rfl, rfl⟩
      refine ms_one (m_expr (ps_expr pe_w) (me_fn (Fn1E.ok c_paper_of) ((book_here, bound), .ok v5) (ma_fz (me_var (pv 1) rfl) (ma_fz (me_var (pv 2) rfl) ma_nil)) ⟨hv5, (by intro _ z; cases z)⟩ (hr.mono (by decide))) ?_)
      cases hx; exact ⟨_, rfl, le_auto⟩
  · subst e; cases hx
  · subst e; cases hx
  · subst e; dsimp only [tryR] at hx; cases hx; rfl
  · subst e
    dsimp only [tryR] at hx
    show MS _ [none, none, none, some (.pt a), none, none] _ _
    replace hx := lt_some hx
    obtain ⟨others, eothers, hx⟩ := hx
    refine ms_cons (m_set (ps_set (i := 4) nd rfl (Or.inl rfl) pe_w) (ME.is (o' := (.lst ((others.map D.bl).map .fz))) (me_lst (ds := [false, false].map D.bl) (mf_cons (show ME _ _ _ (.fz (.bl false)) from by cases xe with | NoEntry => exact me_isiE w_NoEntry hz hf rfl z_isinstance e_NoBook (pv 3) rfl q_NoEntry_NoBook | TooWide => exact me_isiE w_TooWide hz hf rfl z_isinstance e_NoBook (pv 3) rfl q_TooWide_NoBook) (mf_cons (show ME _ _ _ (.fz (.bl false)) from by cases xe with | NoEntry => exact me_isiE w_NoEntry hz hf rfl z_isinstance e_NotTold (pv 3) rfl q_NoEntry_NotTold | TooWide => exact me_isiE w_TooWide hz hf rfl z_isinstance e_NotTold (pv 3) rfl q_TooWide_NotTold) mf_nil))) (by rw [eothers] <;> rfl)) ?_)
    show MS _ [none, none, none, some (.pt a), some (.lst ((others.map D.bl).map .fz)), none] _ _
    replace hx := lt_some hx
    obtain ⟨some_here, esome_here, hx⟩ := hx
    refine ms_cons (m_set (ps_set (i := 5) nd rfl (Or.inl rfl) pe_w) (ME.is (o' := (.lst ((some_here.map D.bl).map .fz))) (me_lst (ds := [(Xc.is_TooWide xe), (Xc.is_NoEntry xe)].map D.bl) (mf_cons (show ME _ _ _ (.fz (.bl (Xc.is_TooWide xe))) from by cases xe with | NoEntry => exact me_isiE w_NoEntry hz hf rfl z_isinstance e_TooWide (pv 3) rfl q_NoEntry_TooWide | TooWide => exact me_isiE w_TooWide hz hf rfl z_isinstance e_TooWide (pv 3) rfl q_TooWide_TooWide) (mf_cons (show ME _ _ _ (.fz (.bl (Xc.is_NoEntry xe))) from by cases xe with | NoEntry => exact me_isiE w_NoEntry hz hf rfl z_isinstance e_NoEntry (pv 3) rfl q_NoEntry_NoEntry | TooWide => exact me_isiE w_TooWide hz hf rfl z_isinstance e_NoEntry (pv 3) rfl q_TooWide_NoEntry) mf_nil))) (by rw [esome_here] <;> rfl)) ?_)
    show MS _ [none, none, none, some (.pt a), some (.lst ((others.map D.bl).map .fz)), some (.lst ((some_here.map D.bl).map .fz))] _ _
    replace hx := bd_some hx
    obtain ⟨v10, hv10, hx⟩ := hx
    refine ms_cons (m_if (t := v10) (MW.t (MW.is (mw_or (mt_not (mt_val (show ME _ _ _ (.fz (.bl true)) from by cases xe with | NoEntry => exact me_isiEB w_NoEntry hz hf rfl z_isinstance (pe_bltn (v := .ty "ValueError") (by rfl) z_ValueError (by decide +kernel) rfl) (pv 3) rfl q_NoEntry_ValueError | TooWide => exact me_isiEB w_TooWide hz hf rfl z_isinstance (pe_bltn (v := .ty "ValueError") (by rfl) z_ValueError (by decide +kernel) rfl) (pv 3) rfl q_TooWide_ValueError))) fun q11 => (by have hx := cond_f hv10 q11; replace hx := bd_some hx; obtain ⟨v8, hv8, hx⟩ := hx; first | (cases hx; exact (MW.is (mw_or (mt_inLT_b (xb := others) me_bl (ml_var (pv 4) rfl)) fun q9 => (by have hx := cond_f hv8 q9; replace hx := gd_some hx; obtain ⟨g7, hx⟩ := hx; cases hx; exact (mw_or1 (mt_eqDT (d1 := .lst (some_here.map D.bl)) (d2 := .lst ([true, true].map D.bl)) hr.units g7 frz_own frz_own (mv_var (pv 5) rfl) (ME.v (me_lst (ds := [true, true].map D.bl) (mf_cons me_bl (mf_cons me_bl mf_nil)))))))) (or_c hv8))) | (injection hx with hx; subst hx; exact (MW.is (mw_or (mt_inLT_b (xb := others) me_bl (ml_var (pv 4) rfl)) fun q9 => (by have hx := cond_f hv8 q9; replace hx := gd_some hx; obtain ⟨g7, hx⟩ := hx; cases hx; exact (mw_or1 (mt_eqDT (d1 := .lst (some_here.map D.bl)) (d2 := .lst ([true, true].map D.bl)) hr.units g7 frz_own frz_own (mv_var (pv 5) rfl) (ME.v (me_lst (ds := [true, true].map D.bl) (mf_cons me_bl (mf_cons me_bl mf_nil)))))))) (or_c hv8))))) (or_c hv10))) (fun h => ?_) fun h => ms_nil ?_)
    · replace hx := cond_t hx h
      refine ms_one (m_ret (ps_ret pe_w) (ME.r me_int) ?_)
      cases hx; exact ⟨rfl, fun _ h => nomatch h⟩
    replace hx := cond_f hx h
    replace hx := bd_some hx
    obtain ⟨v13, hv13, hx⟩ := hx
    refine ms_one (m_ret (ps_ret pe_w) (ME.r (me_ifE (o := .fz (.int v13)) (mt_inLT_b (xb := some_here) me_bl (ml_var (pv 5) rfl)) (fun q14 => (by have hx := cond_t hv13 q14; replace hx := bd_some hx; obtain ⟨j12, hj12, hx⟩ := hx; first | (cases hx; exact (me_add (me_indexB hj12 (ml_var (pv 5) rfl) me_bl) me_int)) | (injection hx with hx; subst hx; exact (me_add (me_indexB hj12 (ml_var (pv 5) rfl) me_bl) me_int)))) (fun q14 => (by have hx := cond_f hv13 q14; first | (cases hx; exact me_int) | (injection hx with hx; subst hx; exact me_int))))) ?_)
    cases hx; exact ⟨rfl, fun _ h => nomatch h⟩
  · subst e
    dsimp only [tryR] at hx
    refine ms_le le ?_
    show MS _ [some (.fz (.int way)), some (.fz ((r_Book C_Book C_Cover C_Condition C_CauseIs C_ThingIs C_DaysIn C_Over C_Some C_Deal) book_here)), some (.fz bound), none, none, none] _ _
    refine ms_one (m_ret (ps_ret pe_w) (ME.r me_int) ?_)
    cases hx; rfl
noncomputable def M_law (script : (List Int)) : Option Bool :=
  gd ((List.range (4 : Int).toNat).length < sizeLine) <|
  bd (mpO (fun x2 : Nat => bd (M__law_cell script (x2 : Int)) fun v3 => some (v3 % 8)) (List.range (4 : Int).toNat)) fun v4 =>
  bd (M__law_cell script (4 : Int)) fun v5 =>
  lt (1 + (v5 % 50000)) fun start =>
  bd (M__law_cell script (5 : Int)) fun v6 =>
  lt (1 + (v6 % 50000)) fun gap =>
  bd (M__law_cell script (6 : Int)) fun v7 =>
  bd (M__law_book v4 start gap (v7 % 5)) fun v8 =>
  bd (M__law_cell script (7 : Int)) fun v9 =>
  bd (M__law_cell script (8 : Int)) fun v10 =>
  bd (L2.atI [400000, (1000000000000 - 1)] (v10 % 2)) fun v11 =>
  gd (0 < v11) <|
  lt (1 + (v9 % v11)) fun bound =>
  bd (L2.atI v4 (0 : Int)) fun v13 =>
  bd (L2.atI v4 (1 : Int)) fun v14 =>
  gd (CMul (v13 + 1) (v14 + 1)) <|
  bd (L2.atI v4 (2 : Int)) fun v16 =>
  gd (CMul ((v13 + 1) * (v14 + 1)) (v16 + 1)) <|
  lt (((v13 + 1) * (v14 + 1)) * (v16 + 1)) fun wide =>
  bd (L2.atI v4 (3 : Int)) fun v18 =>
  gd (-(2 ^ 62) ≤ v18 ∧ v18 < 2 ^ 62) <|
  gd ((List.range v18.toNat).length < sizeLine) <|
  bd (fmO (fun x21 : Nat => gd (CMul gap (x21 : Int)) <| some (decide ((start + (gap * (x21 : Int))) < bound))) (fun x21 : Nat => some (x21 : Int)) (List.range v18.toNat)) fun v23 =>
  lt (v23.length : Int) fun cuts =>
  bd (M__law_cell script (9 : Int)) fun v25 =>
  bd (L2.atI [(.int (0 : Int) : D), (.int ((-(1 : Int)) - bound)), (.int (1000000000000 + (bound % 7))), (.non), (.bl true), (.str ("1.00" : Str)), (.lst ([bound].map D.int)), (.int (1000000000000 : Int))] (v25 % 8)) fun v26 =>
  bd (M__law_refused (0 : Int) v8 (.int bound)) fun v27 =>
  bd (cond (!(v27 == (if (decide (120 < wide)) then 1 else 0))) (some true) (bd (M__law_refused (1 : Int) v8 v26) fun v28 => some (!(v28 == 2)))) fun v29 =>
  cond v29 (some false) <|
  gd (CMul wide (cuts + 1)) <|
  bd (cond (decide (120 < (wide * (cuts + 1)))) (bd (M__law_refused (1 : Int) v8 (.int bound)) fun v34 =>
    cond (!(v34 == 1)) (some (.rt false)) <|
    some (.nx ())) (bd (okx (M_paper_of v8 (.int bound))) fun v35 =>
    gd (CMul wide (cuts + 1)) <|
    cond (!((v35.length : Int) == (wide * (cuts + 1)))) (some (.rt false)) <|
    some (.nx ())) : Option (Ou (Unit) (Unit) Bool)) fun o33 => ouR o33 fun p32 =>
  bd (cond (decide (wide ≤ 120)) (bd (okx (M_cells_of v8)) fun v37 => some (!((v37.length : Int) == wide))) (some false)) fun v38 =>
  cond v38 (some false) <|
  bd (M_stretches_of v8 bound) fun v40 =>
  cond (!((v40.length : Int) == (cuts + 1))) (some false) <|
  bd (M__law_refused (0 : Int) v8 (.int bound)) fun v41 =>
  bd (cond ((v41 == (if (decide (120 < wide)) then 1 else 0))) (bd (M__law_refused (1 : Int) v8 v26) fun v42 => some ((v42 == 2))) (some false)) fun v43 =>
  some v43
open SX TL
def Sm (x : Str) (n : Nat) : Prop := x.length ≤ n ∧ x.cps.toList.all (· < 128) = true
theorem Sm.mono {x : Str} {n m : Nat} (h : Sm x n) (l : n ≤ m) : Sm x m := ⟨Nat.le_trans h.1 l, h.2⟩
theorem tl_cat (x y : Str) : (x ++ y).cps.toList = x.cps.toList ++ y.cps.toList := TL.tl_append x y
theorem Sm.lay {x : Str} {n : Nat} (h : Sm x n) : (PyData.str x).canLay0 = true := by
  show x.cps.all (· < 0x110000) = true
  rw [← Array.all_toList]
  exact List.all_eq_true.mpr fun c m => by
    have := List.all_eq_true.mp h.2 c m
    simp at this ⊢
    omega
theorem Sm.smp {x : Str} {n k : Nat} (h : Sm x n) : Smp k (.str x) := .str h.lay
abbrev ABC : Str := "abcdefghijklmnopqrstuvwxyz"
def Lc (x : Str) (n : Nat) : Prop := x.length ≤ n ∧ x.cps.toList.all (fun c => 97 ≤ c && c ≤ 122) = true
theorem Lc.sm {x : Str} {n : Nat} (h : Lc x n) : Sm x n := ⟨h.1, List.all_eq_true.mpr fun c m => by
  have := List.all_eq_true.mp h.2 c m
  simp at this ⊢
  omega⟩
theorem Lc.mono {x : Str} {n m : Nat} (h : Lc x n) (l : n ≤ m) : Lc x m := ⟨Nat.le_trans h.1 l, h.2⟩
theorem eqv_i (a b : Int) : D.eqv (.int a) (.int b) = (a == b) := by
  first | rfl | (show PyData.eqv (.int a) (.int b) = _; simp [PyData.eqv]) 
theorem eqv_s (a b : Str) : D.eqv (.str a) (.str b) = (a == b) := by
  first | rfl | (show PyData.eqv (.str a) (.str b) = _; simp [PyData.eqv]) 
theorem cell_ok {ns : List Int} {k : Int} (h : 0 ≤ k) : Ok (M__law_cell ns k) fun _ => True := by
  unfold M__law_cell
  exact ok_cond (fun h1 => ok_bd (ok_atI h (of_decide_eq_true h1) fun y _ => trivial) fun y _ => ok_some trivial) fun _ => ok_some trivial

theorem abc_mem {c : Nat} (h : 97 ≤ c ∧ c ≤ 122) : c ∈ ABC.cps.toList := by
  have q : ∀ k, k < 26 → 97 + k ∈ ABC.cps.toList := by decide +kernel
  have := q (c - 97) (by omega)
  rwa [show 97 + (c - 97) = c by omega] at this
theorem isname_ok {x : Str} (h1 : 1 ≤ x.length) (h : Lc x 8) : M_is_name x = some true := by
  have l := h.1
  unfold M_is_name
  refine Ok.eq ?_
  refine ok_gd (by show _ ≤ 16777216; omega) ?_
  refine ok_bd (Q := fun k => k = false) (ok_f (decide_eq_false (by omega)) (ok_gd (by show _ ≤ 16777216; omega) (ok_some (decide_eq_false (by omega))))) fun v hv => ?_
  subst hv
  refine ok_bd (ok_lpN (Q := fun o => o = .nx ()) (fun _ _ => True) trivial (fun i c v hc _ => ?_) fun v _ => rfl) fun o ho => ?_
  · have m := List.mem_of_getElem? hc
    have a := List.all_eq_true.mp h.2 c m
    have a : 97 ≤ c ∧ c ≤ 122 := by simpa using a
    exact ok_f (by rw [decide_eq_true (abc_mem a)]; rfl) (ok_some ⟨(), .inl rfl, trivial⟩)
  · subst ho
    exact ok_some rfl
theorem srtok_i (xs : List Int) : SrtOk D.int xs := ⟨fun _ _ => rfl, PySem.W.AllAlike.of fun _ _ => rfl, PySem.W.Sortable.others fun b => ⟨nofun, nofun⟩, fun _ _ => Nat.zero_le 60⟩
theorem srt_i (xs : List Int) : srt D.int xs = xs.mergeSort fun a b => decide (a ≤ b) := by
  unfold srt
  have e := PySem.W.dataLe_int (fun b : Int => b)
  have e2 : (fun b : Int => (D.int b).py) = fun b => PyData.int b := rfl
  rw [e2, e]
theorem srt_sorted (xs : List Int) : (srt D.int xs).Pairwise (· ≤ ·) := by
  rw [srt_i]
  have := List.pairwise_mergeSort (le := fun a b : Int => decide (a ≤ b)) (fun a b c h1 h2 => by simp at h1 h2 ⊢; omega) (fun a b => by simp; omega) xs
  exact this.imp fun h => of_decide_eq_true h
open SX TL
theorem letters : ∀ j, j < 26 → ABC.cps.toList[j]? = some (97 + j) := by decide +kernel
theorem letter {k : Int} : L2.atI ABC.cps.toList (k % 26) = some (97 + (k % 26).toNat) := by
  have h0 : 0 ≤ k % 26 := by omega
  obtain ⟨j, ej⟩ := Int.eq_ofNat_of_zero_le h0
  rw [ej, Int.toNat_natCast]
  exact atI_nat (letters j (by omega))
def Nam (x : Str) : Prop := 1 ≤ x.length ∧ Lc x 8
theorem Nam.is {x : Str} (h : Nam x) : M_is_name x = some true := isname_ok h.1 h.2
theorem str_ext {x y : Str} (h : x.cps.toList = y.cps.toList) : x = y := by rw [← S_tl x, ← S_tl y, h]
theorem sg_tl (c : Nat) : (sg1 c).cps.toList = [c] := rfl
theorem tl_len (x : Str) : x.length = x.cps.toList.length := TL.len_tl x
abbrev CoverT := Str × Cd × List Unit × List Str × List Int × Bool
abbrev BookT := List CoverT × List CoverT
theorem houses_ok {ps : List (Str × Int)} (hl : ps.length ≤ 1000) (hn : ∀ p ∈ ps, Nam p.1) (hd : (ps.map (·.1)).Nodup) : M_need_houses ps = some (ps.map (·.1)) := by
  unfold M_need_houses
  refine Ok.eq (ok_lt ?_)
  refine ok_bd (ok_lpN (Q := fun o => o = .nx (ps.map (·.1))) (fun i (q : List Str) => q = (ps.map (·.1)).take i) rfl (fun i x q hx hq => ?_) fun q hq => ?_) fun o ho => ?_
  · obtain ⟨hi, ex⟩ := List.getElem?_eq_some_iff.mp hx
    have m := List.mem_of_getElem? hx
    rw [bd_of (hn x m).is]
    have nin : q.contains x.1 = false := by
      rw [Bool.eq_false_iff]
      intro z
      have z := List.contains_iff_mem.mp z
      rw [hq] at z
      obtain ⟨j, ej⟩ := List.mem_iff_getElem?.mp z
      rw [List.getElem?_take] at ej
      split at ej
      · rename_i lt
        obtain ⟨hj, e1⟩ := List.getElem?_eq_some_iff.mp ej
        have e2 : (ps.map (·.1))[i]'(by rw [List.length_map]; exact hi) = x.1 := by rw [List.getElem_map, ex]
        have := (List.getElem_inj (h₀ := hj) (h₁ := by rw [List.length_map]; exact hi) hd).mp (e1.trans e2.symm)
        omega
      · cases ej
    refine ok_f (by rw [nin]; rfl) (ok_gd (by rw [hq, List.length_take]; show _ < 16777216; omega) (ok_lt (ok_some ⟨_, .inl rfl, ?_⟩)))
    rw [hq, List.take_succ, List.getElem?_map, hx]
    rfl
  · rw [hq, List.take_of_length_le (by rw [List.length_map]; exact Nat.le_refl _)]
  · subst ho
    exact ok_some rfl

theorem wok1 : WOk [1] := ⟨by decide, by decide, by decide, by decide⟩
theorem dd_nodup : ∀ {xs : List Str}, xs.Nodup → dd xs = xs := by
  suffices H : ∀ (xs a : List Str), (a ++ xs).Nodup → xs.foldl dd1 a = a ++ xs from fun {xs} h => H xs [] h
  intro xs
  induction xs with
  | nil => intro a _; rw [List.append_nil]; rfl
  | cons x r ih =>
    intro a h
    have e : dd1 a x = a ++ [x] := by
      unfold dd1
      refine if_neg fun z => ?_
      obtain ⟨y, my, ey⟩ := List.any_eq_true.mp z
      have ey := eq_of_beq ey
      subst ey
      exact (List.nodup_append.mp h).2.2 y my y List.mem_cons_self rfl
    show r.foldl dd1 (dd1 a x) = _
    rw [e, ih (a ++ [x]) (by rw [List.append_assoc]; exact h), List.append_assoc]
    rfl
def turnsOf (cs : List CoverT) : List CoverT := cs.filter (fun c => !c.2.2.2.2.2) ++ cs.filter (fun c => c.2.2.2.2.2)
theorem fmO_filt {α : Type} (p : α → Bool) (xs : List α) : fmO (fun x => some (p x)) (fun x => some x) xs = some (xs.filter p) := by
  have := fmO_of (t := fun x => some (p x)) (f := fun x => some x) (p := p) (g := id) (xs := xs) (fun _ _ => rfl) (fun _ _ _ => rfl)
  rw [this, List.map_id]
theorem book_new {cs : List CoverT} (h8 : cs.length ≤ 8) (hn : (cs.map (·.1)).Nodup) : M_Book___init__ cs = some (cs, turnsOf cs) := by
  have sz : cs.length < sizeLine := by show _ < 16777216; omega
  unfold M_Book___init__
  refine Ok.eq (ok_f (decide_eq_false (by omega)) (ok_gd sz ?_))
  rw [mpO_pure]
  refine ok_gd (by rw [List.length_map]; show _ < 4096; omega) (ok_f ?_ ?_)
  · rw [dd_nodup hn, List.length_map]
    exact decide_eq_false (by omega)
  · rw [fmO_filt, fmO_filt]
    refine ok_gd sz (ok_gd sz (ok_gd ?_ (ok_lt (ok_some rfl))))
    have l1 := List.length_filter_le (fun c : CoverT => !c.2.2.2.2.2) cs
    have l2 := List.length_filter_le (fun c : CoverT => c.2.2.2.2.2) cs
    show (cs.filter fun c => !c.2.2.2.2.2).length + (cs.filter fun c => c.2.2.2.2.2).length ≤ 16777216
    omega
theorem turns_len (cs : List CoverT) : (turnsOf cs).length = cs.length := by
  unfold turnsOf
  rw [List.length_append]
  induction cs with
  | nil => rfl
  | cons c r ih =>
    rw [List.filter_cons, List.filter_cons, List.length_cons, ← ih]
    cases c.2.2.2.2.2 <;> simp <;> omega
theorem turns_mem {cs : List CoverT} {c : CoverT} : c ∈ turnsOf cs ↔ c ∈ cs := by
  unfold turnsOf
  rw [List.mem_append, List.mem_filter, List.mem_filter]
  cases c.2.2.2.2.2 <;> simp
theorem srt_perm (xs : List β) : (srt enc xs).Perm xs := List.mergeSort_perm xs _
abbrev MKSL := List (Str × D)
def MSh (m : Str × D) : Prop := ((m.1 = "cause" ∨ m.1 = "thing") ∧ ∃ x, m.2 = .str x ∧ Nam x) ∨ (m.1 = "day" ∧ ∃ i, m.2 = .int i ∧ 0 ≤ i) ∨ (m.1 = "cents" ∧ ∃ i, m.2 = .int i ∧ 0 ≤ i ∧ i ≤ 300000000000)
theorem wd_ne : ("cause" : Str) ≠ "thing" ∧ ("cause" : Str) ≠ "day" ∧ ("cause" : Str) ≠ "cents" ∧ ("thing" : Str) ≠ "day" ∧ ("thing" : Str) ≠ "cents" ∧ ("day" : Str) ≠ "cents" := by decide +kernel
def cntw (w : Str) (ws : List Str) : Nat := (ws.filter fun x => x == w).length
theorem cntw_app (w : Str) (a b : List Str) : cntw w (a ++ b) = cntw w a + cntw w b := by
  unfold cntw
  rw [List.filter_append, List.length_append]
theorem MSh.two {w : Str} {a : D} (h : MSh (w, a)) : ((w = "cause" ∨ w = "thing") ∧ ∃ x, a = .str x ∧ Nam x) ∨ ((w = "day" ∨ w = "cents") ∧ ∃ i, a = .int i) := by
  rcases h with ⟨h, x, e, n⟩ | ⟨h, i, e, _⟩ | ⟨h, i, e, _⟩
  · exact .inl ⟨h, x, e, n⟩
  · exact .inr ⟨.inl h, i, e⟩
  · exact .inr ⟨.inr h, i, e⟩
theorem wd_not {w : Str} (h : w = "cause" ∨ w = "thing") (k : w = "day" ∨ w = "cents") : False := by
  obtain ⟨n1, n2, n3, n4, n5, n6⟩ := wd_ne
  rcases h with e | e <;> rcases k with f | f
  · exact n2 (e.symm.trans f)
  · exact n3 (e.symm.trans f)
  · exact n4 (e.symm.trans f)
  · exact n5 (e.symm.trans f)
theorem MSh.str {w : Str} {a : D} (h : MSh (w, a)) (k : w = "cause" ∨ w = "thing") : ∃ x, a = .str x ∧ Nam x := h.two.elim (fun z => z.2) fun z => (wd_not k z.1).elim
theorem MSh.int {w : Str} {a : D} (h : MSh (w, a)) (k : w = "day" ∨ w = "cents") : ∃ i, a = .int i := h.two.elim (fun z => (wd_not z.1 k).elim) fun z => z.2
theorem msh_eqv {w : Str} {a b : D} (ha : MSh (w, a)) (hb : MSh (w, b)) : D.eqv a b = true ↔ a = b := by
  rcases ha.two with ⟨h, x, e, _⟩ | ⟨h, i, e⟩
  · obtain ⟨y, f, _⟩ := hb.str h
    subst e f
    rw [eqv_s, beq_iff_eq]
    exact ⟨fun z => by rw [z], fun z => D.str.inj z⟩
  · obtain ⟨j, f⟩ := hb.int h
    subst e f
    rw [eqv_i, beq_iff_eq]
    exact ⟨fun z => by rw [z], fun z => D.int.inj z⟩
theorem MSh.smp {m : Str × D} (h : MSh m) : Smp 0 m.2 := by
  rcases MSh.two (w := m.1) (a := m.2) h with ⟨_, x, e, n⟩ | ⟨_, i, e⟩
  · rw [e]; exact n.2.sm.smp
  · rw [e]; exact .int i
def W4 (w : Str) : Prop := (w = "cause" ∨ w = "thing") ∨ (w = "day" ∨ w = "cents")
theorem MSh.w4 {m : Str × D} (h : MSh m) : W4 m.1 := (MSh.two (w := m.1) (a := m.2) h).imp (·.1) (·.1)
structure Row1 (w : Str) (done : MKSL) (l : List D) : Prop where
  mem : ∀ d, d ∈ l ↔ (w, d) ∈ done
  nd : l.Nodup
  len : l.length ≤ cntw w (done.map (·.1))
def Tb (done : MKSL) (p : List (Key × List D)) : Prop := ∀ w, W4 w → ∃ l, lkp p (.inr w) = some l ∧ Row1 w done l
theorem row1_nil (w : Str) : Row1 w [] [] := ⟨fun _ => ⟨fun z => (nomatch z), fun z => (nomatch z)⟩, List.nodup_nil, Nat.le_refl 0⟩
theorem tb0 : Tb [] [((.inr ("cause" : Str)), ([] : List D)), ((.inr ("thing" : Str)), ([] : List D)), ((.inr ("day" : Str)), ([] : List D)), ((.inr ("cents" : Str)), ([] : List D))] := fun w h => by
  obtain ⟨n1, n2, n3, n4, n5, n6⟩ := wd_ne
  refine ⟨[], ?_, row1_nil w⟩
  have ne : ∀ {a b : Str}, a ≠ b → ¬ (Sum.inr a : Key) = .inr b := fun h z => h (Sum.inr.inj z)
  rcases h with (rfl | rfl) | (rfl | rfl)
  · exact lkp_pos rfl
  · rw [lkp_neg (ne n1)]; exact lkp_pos rfl
  · rw [lkp_neg (ne n2), lkp_neg (ne n4)]; exact lkp_pos rfl
  · rw [lkp_neg (ne n3), lkp_neg (ne n5), lkp_neg (ne n6)]; exact lkp_pos rfl
theorem inDL_iff {w : Str} {l : List D} {d : D} (hl : ∀ z ∈ l, MSh (w, z)) (hd : MSh (w, d)) : inDL e_d l d = true ↔ d ∈ l := by
  unfold inDL
  rw [List.any_eq_true]
  constructor
  · rintro ⟨z, mz, e⟩
    rw [← (msh_eqv (hl z mz) hd).mp e]
    exact mz
  · intro m
    exact ⟨d, m, (msh_eqv hd hd).mpr rfl⟩
theorem Row1.other {w : Str} {done : MKSL} {m : Str × D} {l : List D} (h : Row1 w done l) (ne : m.1 ≠ w) : Row1 w (done ++ [m]) l := by
  refine ⟨fun d => ?_, h.nd, ?_⟩
  · rw [h.mem, List.mem_append, List.mem_singleton]
    exact ⟨.inl, fun z => z.elim id fun e => absurd (by rw [← e]) ne⟩
  · rw [List.map_append, cntw_app]
    have := h.len
    omega
theorem Row1.old {w : Str} {done : MKSL} {d : D} {l : List D} (h : Row1 w done l) (m : d ∈ l) : Row1 w (done ++ [(w, d)]) l := by
  refine ⟨fun e => ?_, h.nd, ?_⟩
  · rw [h.mem, List.mem_append, List.mem_singleton]
    exact ⟨.inl, fun z => z.elim id fun e => by rw [e]; exact (h.mem d).mp m⟩
  · rw [List.map_append, cntw_app]
    have := h.len
    omega
theorem Row1.new {w : Str} {done : MKSL} {d : D} {l : List D} (h : Row1 w done l) (m : d ∉ l) : Row1 w (done ++ [(w, d)]) (l ++ [d]) := by
  refine ⟨fun e => ?_, List.nodup_append.mpr ⟨h.nd, by simp, fun a ma b mb e => ?_⟩, ?_⟩
  · rw [List.mem_append, h.mem, List.mem_append, List.mem_singleton, List.mem_singleton]
    exact ⟨fun z => z.imp id fun q => by rw [q], fun z => z.imp id fun q => congrArg Prod.snd q⟩
  · cases List.mem_singleton.mp mb
    exact m (e ▸ ma)
  · rw [List.map_append, cntw_app, List.length_append]
    have := h.len
    have : cntw w ([(w, d)].map (·.1)) = 1 := by
      unfold cntw
      simp
    show l.length + 1 ≤ _
    omega
theorem mpS_of : ∀ {l : List D}, (∀ d ∈ l, ∃ x, d = .str x) → ∃ ys, mpO asS l = some ys ∧ l = ys.map D.str
  | [], _ => ⟨[], rfl, rfl⟩
  | d :: r, h => by
    obtain ⟨x, e⟩ := h d List.mem_cons_self
    obtain ⟨ys, e1, e2⟩ := mpS_of (l := r) fun z m => h z (List.mem_cons_of_mem _ m)
    subst e
    refine ⟨x :: ys, ?_, by rw [e2]; rfl⟩
    show bd (some x) _ = _
    rw [bd_of rfl, bd_of e1]
theorem mpI_of : ∀ {l : List D}, (∀ d ∈ l, ∃ x, d = .int x) → ∃ ys, mpO asI l = some ys ∧ l = ys.map D.int
  | [], _ => ⟨[], rfl, rfl⟩
  | d :: r, h => by
    obtain ⟨x, e⟩ := h d List.mem_cons_self
    obtain ⟨ys, e1, e2⟩ := mpI_of (l := r) fun z m => h z (List.mem_cons_of_mem _ m)
    subst e
    refine ⟨x :: ys, ?_, by rw [e2]; rfl⟩
    show bd (some x) _ = _
    rw [bd_of rfl, bd_of e1]
theorem srtok_s (xs : List Str) : SrtOk D.str xs := ⟨fun _ _ => rfl, PySem.W.AllAlike.of fun _ _ => rfl, PySem.W.Sortable.others fun b => ⟨nofun, nofun⟩, fun _ _ => Nat.zero_le 60⟩
theorem nd_str {ys : List Str} (h : (ys.map D.str).Nodup) : ys.Nodup := (List.pairwise_map.mp h).imp fun {a b} n e => n (congrArg D.str e)
def dayP : D → Bool
  | .int i => decide (1 ≤ i) && decide (i ≤ 1000000)
  | _ => false
structure MkOk (ms : MKSL) (r : List Str × List Str × List Int × List Int) : Prop where
  cm : ∀ x, x ∈ r.1 ↔ (("cause" : Str), D.str x) ∈ ms
  tm : ∀ x, x ∈ r.2.1 ↔ (("thing" : Str), D.str x) ∈ ms
  dm : ∀ i, i ∈ r.2.2.1 ↔ (("day" : Str), D.int i) ∈ ms ∧ 1 ≤ i ∧ i ≤ 1000000
  am : ∀ i, i ∈ r.2.2.2 ↔ (("cents" : Str), D.int i) ∈ ms
  cl : r.1.length ≤ cntw "cause" (ms.map (·.1))
  tl : r.2.1.length ≤ cntw "thing" (ms.map (·.1))
  dl : r.2.2.1.length ≤ cntw "day" (ms.map (·.1))
  al : r.2.2.2.length ≤ cntw "cents" (ms.map (·.1))
  ds : r.2.2.1.Pairwise (· ≤ ·)
  as : r.2.2.2.Pairwise (· ≤ ·)
  cn : r.1.Nodup
  tn : r.2.1.Nodup
theorem srt_memD {α : Type} {enc : α → D} {xs : List α} {x : α} : x ∈ srt enc xs ↔ x ∈ xs := List.mem_mergeSort
theorem srt_lenD {α : Type} {enc : α → D} (xs : List α) : (srt enc xs).length = xs.length := List.length_mergeSort xs

structure Prt (first last : Int) (marks : List Int) (ps : List (Int × Int)) : Prop where
  inn : ∀ p ∈ ps, first ≤ p.1 ∧ p.1 ≤ p.2 ∧ p.2 ≤ last
  few : ps.length ≤ marks.length + 1
  cov : ∀ n, first ≤ n → n ≤ last → ∃ p ∈ ps, p.1 ≤ n ∧ n ≤ p.2
  ord : ps.Pairwise fun p q => p.2 < q.1
  nm : ∀ m ∈ marks, ∀ p ∈ ps, ¬ (p.1 < m ∧ m ≤ p.2)
  sm : (ps.map fun p => p.2 - p.1 + 1).sum = last - first + 1
  sb : ∀ p ∈ ps, p.1 = first ∨ p.1 ∈ marks
structure PrI (first last : Int) (done : List Int) (st : List (Int × Int) × Int) : Prop where
  at0 : first ≤ st.2 ∧ st.2 ≤ last
  was : (st.2 = first ∧ st.1 = []) ∨ st.2 ∈ done
  inn : ∀ p ∈ st.1, first ≤ p.1 ∧ p.1 ≤ p.2 ∧ p.2 < st.2
  few : st.1.length ≤ done.length
  cov : ∀ n, first ≤ n → n < st.2 → ∃ p ∈ st.1, p.1 ≤ n ∧ n ≤ p.2
  ord : st.1.Pairwise fun p q => p.2 < q.1
  nm : ∀ m ∈ done, (∀ p ∈ st.1, ¬ (p.1 < m ∧ m ≤ p.2)) ∧ ¬ (st.2 < m ∧ m ≤ last)
  sm : (st.1.map fun p => p.2 - p.1 + 1).sum = st.2 - first
  sb : ∀ p ∈ st.1, p.1 = first ∨ p.1 ∈ done
theorem parted_ok {first last : Int} {marks : List Int} (h : first ≤ last) (hs : marks.Pairwise (· ≤ ·)) (hl : marks.length ≤ 1000) : Ok (M_parted first last marks) (Prt first last marks) := by
  unfold M_parted
  refine ok_lt (ok_bd (ok_lp (fun i (q : List (Int × Int) × Int) => PrI first last (marks.take i) q) ⟨⟨Int.le_refl _, h⟩, .inl ⟨rfl, rfl⟩, fun _ m => (nomatch m), Nat.le_refl 0, fun n a b => by omega, .nil, fun _ m => (nomatch m), by show (0 : Int) = first - first; omega, fun _ m => (nomatch m)⟩ (fun i x q hx hq => ?_) fun q hq => hq) fun q hq => ?_)
  · obtain ⟨hi, ex⟩ := List.getElem?_eq_some_iff.mp hx
    have et : marks.take (i + 1) = marks.take i ++ [x] := by rw [List.take_succ, hx]; rfl
    have up : ∀ m ∈ marks.take i, m ≤ x := fun m mm => by
      have := hs
      rw [← List.take_append_drop i marks] at this
      have md : x ∈ marks.drop i := List.mem_iff_getElem?.mpr ⟨0, by rw [List.getElem?_drop]; exact hx⟩
      exact (List.pairwise_append.mp this).2.2 m mm x md
    have lt : (marks.take i).length = i := by rw [List.length_take]; omega
    rw [et]
    have q0 := hq.at0
    have qf := hq.few
    refine ok_cond (fun c => ok_gd (by show _ < 16777216; omega) (ok_lt (ok_some ?_))) fun c => ok_some ?_
    · rw [Bool.and_eq_true, decide_eq_true_iff, decide_eq_true_iff] at c
      refine ⟨by show first ≤ x ∧ x ≤ last; omega, .inr (List.mem_append_right _ (List.mem_singleton.mpr rfl)), fun p m => ?_, ?_, fun n a b => ?_, ?_, fun m mm => ?_, by have := hq.sm; rw [List.map_append, List.sum_append]; show _ + ((x - 1 - q.2 + 1) + 0) = x - first; omega, fun p m => by
        rcases List.mem_append.mp m with m | m
        · exact (hq.sb p m).imp id fun y => List.mem_append_left _ y
        · rw [List.mem_singleton.mp m]; exact hq.was.imp (·.1) fun y => List.mem_append_left _ y⟩
      · show first ≤ p.1 ∧ p.1 ≤ p.2 ∧ p.2 < x
        rcases List.mem_append.mp m with m | m
        · have := hq.inn p m
          omega
        · cases List.mem_singleton.mp m
          show first ≤ q.2 ∧ q.2 ≤ x - 1 ∧ x - 1 < x
          omega
      · rw [List.length_append, List.length_append]
        show q.1.length + 1 ≤ _ + 1
        omega
      · have b : n < x := b
        by_cases z : n < q.2
        · obtain ⟨p, mp, p1⟩ := hq.cov n a z
          exact ⟨p, List.mem_append_left _ mp, p1⟩
        · exact ⟨(q.2, x - 1), List.mem_append_right _ (List.mem_singleton.mpr rfl), by show q.2 ≤ n; omega, by show n ≤ x - 1; omega⟩
      · refine List.pairwise_append.mpr ⟨hq.ord, List.pairwise_singleton _ _, fun p m r mr => ?_⟩
        cases List.mem_singleton.mp mr
        exact (hq.inn p m).2.2
      · have mx : m ≤ x := (List.mem_append.mp mm).elim (up m) fun z => by cases List.mem_singleton.mp z; exact Int.le_refl _
        refine ⟨fun p mp => ?_, by show ¬ (x < m ∧ m ≤ last); omega⟩
        rcases List.mem_append.mp mp with mp | mp
        · rcases List.mem_append.mp mm with mm | mm
          · exact (hq.nm m mm).1 p mp
          · cases List.mem_singleton.mp mm
            have := hq.inn p mp
            omega
        · cases List.mem_singleton.mp mp
          show ¬ (q.2 < m ∧ m ≤ x - 1)
          rcases List.mem_append.mp mm with mm | mm
          · have := (hq.nm m mm).2
            omega
          · cases List.mem_singleton.mp mm
            omega
    · have nc : ¬ (q.2 < x ∧ x ≤ last) := fun z => by
        rw [decide_eq_true z.1, decide_eq_true z.2] at c
        cases c
      refine ⟨hq.at0, hq.was.imp id fun m => List.mem_append_left _ m, hq.inn, by rw [List.length_append]; show q.1.length ≤ _ + 1; omega, hq.cov, hq.ord, fun m mm => ?_, hq.sm, fun p m => (hq.sb p m).imp id fun y => List.mem_append_left _ y⟩
      rcases List.mem_append.mp mm with mm | mm
      · exact hq.nm m mm
      · cases List.mem_singleton.mp mm
        refine ⟨fun p mp => ?_, nc⟩
        rcases hq.was with ⟨_, e⟩ | w
        · rw [e] at mp
          cases mp
        · have := up _ w
          have := hq.inn p mp
          omega
  · rw [List.take_length] at hq
    have q0 := hq.at0
    have qf := hq.few
    refine ok_gd (by show _ < 16777216; omega) (ok_lt (ok_some ?_))
    refine ⟨fun p m => ?_, by rw [List.length_append]; show q.1.length + 1 ≤ _; omega, fun n a b => ?_, ?_, fun m mm p mp => ?_, by have := hq.sm; rw [List.map_append, List.sum_append]; show _ + ((last - q.2 + 1) + 0) = last - first + 1; omega, fun p m => by
      rcases List.mem_append.mp m with m | m
      · exact hq.sb p m
      · rw [List.mem_singleton.mp m]; exact hq.was.imp (·.1) id⟩
    · rcases List.mem_append.mp m with m | m
      · have := hq.inn p m
        omega
      · cases List.mem_singleton.mp m
        exact ⟨q0.1, q0.2, Int.le_refl _⟩
    · by_cases z : n < q.2
      · obtain ⟨p, mp, p1⟩ := hq.cov n a z
        exact ⟨p, List.mem_append_left _ mp, p1⟩
      · exact ⟨(q.2, last), List.mem_append_right _ (List.mem_singleton.mpr rfl), by show q.2 ≤ n; omega, b⟩
    · refine List.pairwise_append.mpr ⟨hq.ord, List.pairwise_singleton _ _, fun p m r mr => ?_⟩
      cases List.mem_singleton.mp mr
      exact (hq.inn p m).2.2
    · rcases List.mem_append.mp mp with mp | mp
      · exact (hq.nm m mm).1 p mp
      · cases List.mem_singleton.mp mp
        exact (hq.nm m mm).2
theorem sub_len {α : Type} [DecidableEq α] : ∀ {a b : List α}, a.Nodup → (∀ x ∈ a, x ∈ b) → a.length ≤ b.length
  | [], _, _, _ => Nat.zero_le _
  | x :: r, b, nd, h => by
    rw [List.nodup_cons] at nd
    have mb := h x List.mem_cons_self
    have i := sub_len (a := r) (b := b.erase x) nd.2 fun y my => (List.mem_erase_of_ne (fun e => nd.1 (by rw [← e]; exact my))).mpr (h y (List.mem_cons_of_mem _ my))
    rw [List.length_erase_of_mem mb] at i
    have := List.length_pos_of_mem mb
    show r.length + 1 ≤ _
    omega
theorem e_cat (x : Str) : ("" : Str) ++ x = x := str_ext (by rw [tl_cat]; rfl)
def l26 : List Nat := ("abcdefghijklmnopqrstuvwxyz" : Str).cps.toList
theorem l26_ok : l26 = (List.range 26).map (97 + ·) := by decide +kernel
theorem sg_nam {c : Nat} (h : 97 ≤ c ∧ c ≤ 122) : Nam (sg1 c) := by
  refine ⟨by rw [tl_len, sg_tl]; exact Nat.le_refl 1, by rw [tl_len, sg_tl]; show 1 ≤ 8; decide, ?_⟩
  show [c].all _ = true
  simp
  omega
theorem another_ok {ns : List Str} (h : ns.length < 26) : Ok (M_another ns) fun x => Nam x ∧ x ∉ ns := by
  have l0 : ("" : Str).length = 0 := by decide +kernel
  have sl : ∀ c, (sg1 c).length = 1 := fun c => by rw [tl_len, sg_tl]; rfl
  unfold M_another
  refine ok_ltx fun heads eh => ?_
  subst eh
  refine ok_bd (Q := fun o => ∃ x, o = .rt x ∧ Nam x ∧ x ∉ ns) (ok_wl (fun m (v : List Str) => v = [("" : Str)]) (m := 0) rfl fun m v hv => ok_some ?_) fun o ho => ?_
  · rw [if_pos rfl]
    subst hv
    refine ok_ltx fun lg el => ?_
    subst el
    refine ok_bd (Q := fun o => ∃ x, o = .rt x ∧ Nam x ∧ x ∉ ns) ?_ fun o ⟨x, e, q⟩ => ?_
    · show Ok (lpO _ [("" : Str)] []) _
      refine ok_lpO (fun i (q : List Str) => i = 0 ∧ q = []) ⟨rfl, rfl⟩ (fun i x q hx ⟨hi, hq⟩ => ?_) fun q hq => absurd hq.1 (by decide)
      subst hi hq
      cases hx
      refine ok_bd (Q := fun o => ∃ x, o = .rt x ∧ Nam x ∧ x ∉ ns) (ok_lpO (fun i (q : List Str) => q.length = i ∧ ∀ c ∈ l26.take i, sg1 c ∈ ns) ⟨rfl, fun _ m => (nomatch m)⟩ (fun i c q hx ⟨q1, q2⟩ => ?_) fun q ⟨q1, q2⟩ => ?_) fun o ⟨x, e, q⟩ => ?_
      · have hx : l26[i]? = some c := hx
        obtain ⟨hi, ex⟩ := List.getElem?_eq_some_iff.mp hx
        have mc := List.mem_of_getElem? hx
        rw [l26_ok] at hi mc
        rw [List.length_map, List.length_range] at hi
        obtain ⟨k, mk, ek⟩ := List.mem_map.mp mc
        have := List.mem_range.mp mk
        have cl : ("" : Str).length + (sg1 c).length ≤ sizeLine := by rw [l0, sl]; show 1 ≤ 16777216; decide
        rw [gd_pos cl, gd_pos cl, gd_pos cl, e_cat]
        refine ok_cond (fun z => ok_some ?_) fun z => ok_gd (by show _ < 16777216; omega) (ok_lt (ok_some ?_))
        · refine ⟨sg1 c, rfl, sg_nam (by omega), fun mm => ?_⟩
          rw [List.contains_iff_mem.mpr mm] at z
          cases z
        · refine ⟨by rw [List.length_append, q1]; rfl, fun d md => ?_⟩
          rw [List.take_succ, hx] at md
          rcases List.mem_append.mp md with md | md
          · exact q2 d md
          · have md : d ∈ [c] := md
            cases List.mem_singleton.mp md
            cases w : ns.contains (sg1 c) with
            | true => exact List.contains_iff_mem.mp w
            | false => rw [w] at z; cases z
      · exfalso
        have q2 : ∀ c ∈ l26, sg1 c ∈ ns := fun c m => q2 c (by
          have : l26.take l26.length = l26 := List.take_length
          exact this.symm ▸ m)
        have nd : (l26.map sg1).Nodup := by
          rw [l26_ok, List.map_map]
          refine List.pairwise_map.mpr (List.nodup_range.imp fun {a b} ab e => ab ?_)
          have e : [97 + a] = [97 + b] := congrArg (fun x : Str => x.cps.toList) e
          have := List.cons.inj e
          omega
        have le := sub_len nd fun x m => by
          obtain ⟨c, mc, rfl⟩ := List.mem_map.mp m
          exact q2 c mc
        rw [l26_ok, List.length_map, List.length_map, List.length_range] at le
        omega
      · subst e
        exact ok_some ⟨x, rfl, q⟩
    · subst e
      exact ok_some ⟨x, rfl, q⟩
  · obtain ⟨x, e, q⟩ := ho
    subst e
    exact ok_some q
theorem lp_app {α β : Type} {f : α → List β → Option (List β)} {g : α → List β} (N : Nat) : ∀ {xs : List α} {a : List β}, (∀ x ∈ xs, ∀ a : List β, a.length + (g x).length ≤ N → f x a = some (a ++ g x)) → a.length + (xs.flatMap g).length ≤ N → lp f xs a = some (a ++ xs.flatMap g)
  | [], a, _, _ => by show some a = some (a ++ []); rw [List.append_nil]
  | x :: r, a, h, l => by
    rw [List.flatMap_cons, List.length_append] at l
    show bd (f x a) _ = _
    rw [bd_of (h x List.mem_cons_self a (by omega))]
    show lp f r (a ++ g x) = _
    rw [lp_app N (fun y m => h y (List.mem_cons_of_mem _ m)) (by rw [List.length_append]; omega), List.flatMap_cons, List.append_assoc]
theorem flatM_len {α β : Type} {g : α → List β} {b : Nat} : ∀ {xs : List α}, (∀ x ∈ xs, (g x).length ≤ b) → (xs.flatMap g).length ≤ xs.length * b
  | [], _ => Nat.zero_le _
  | x :: r, h => by
    have i := flatM_len (g := g) (xs := r) fun y m => h y (List.mem_cons_of_mem _ m)
    have := h x List.mem_cons_self
    rw [List.flatMap_cons, List.length_append, List.length_cons, Nat.add_mul]
    omega
theorem flatM_one {α β : Type} {e : α → β} : ∀ {xs : List α}, (xs.flatMap fun x => [e x]).length = xs.length
  | [] => rfl
  | x :: r => by rw [List.flatMap_cons, List.length_append, flatM_one]; show 1 + _ = _ + 1; omega
abbrev MKR := List Str × List Str × List Int × List Int
abbrev CELL := Str × Str × Int × Int
def cellsL (r : MKR) (ps : List (Int × Int)) : List CELL := (r.1 ++ [("" : Str)]).flatMap fun a => (r.2.1 ++ [("" : Str)]).flatMap fun b => ps.flatMap fun p => [(a, b, p.1, p.2)]
theorem cells_len (r : MKR) (ps : List (Int × Int)) : (cellsL r ps).length ≤ (r.1.length + 1) * ((r.2.1.length + 1) * ps.length) := by
  unfold cellsL
  have := flatM_len (g := fun a => (r.2.1 ++ [("" : Str)]).flatMap fun b => ps.flatMap fun p => [((a, b, p.1, p.2) : CELL)]) (b := (r.2.1.length + 1) * ps.length) (xs := r.1 ++ [("" : Str)]) fun a _ => by
    have := flatM_len (g := fun b => ps.flatMap fun p => [((a, b, p.1, p.2) : CELL)]) (b := ps.length) (xs := r.2.1 ++ [("" : Str)]) fun b _ => by rw [flatM_one]; exact Nat.le_refl _
    rw [List.length_append] at this
    exact this
  rw [List.length_append] at this
  exact this
theorem stretches_ok {bk : BookT} {r : MKR} {bound : Int} (hm : M_marks_of bk = some r) (hs : r.2.2.2.Pairwise (· ≤ ·)) (hl : r.2.2.2.length ≤ 1000) (hb : 1 ≤ bound) : Ok (M_stretches_of bk bound) (Prt 1 bound (r.2.2.2.map (· + 1))) := by
  unfold M_stretches_of
  rw [bd_of hm]
  refine ok_gd (by show _ < 16777216; omega) ?_
  rw [mpO_pure]
  refine ok_bd (Q := (· = r.2.2.2.map (· + 1))) (ok_some rfl) fun v e => ?_
  subst e
  exact ok_bd (parted_ok hb (List.pairwise_map.mpr (hs.imp fun {a b} h => by show a + 1 ≤ b + 1; omega)) (by rw [List.length_map]; exact hl)) fun st h => ok_some h
def mks1 : Cd → MKSL
  | .cause x => [("cause", .str x)]
  | .thing x => [("thing", .str x)]
  | .days p => [("day", .int p.1), ("day", .int (p.2 + 1))]
  | .over c => [("cents", .int c)]
  | _ => []
def mks : Cd → MKSL
  | .someOf cs => cs.flatMap mks1
  | c => mks1 c
inductive At : Cd → Prop where
  | cause (x : Str) : At (.cause x)
  | thing (x : Str) : At (.thing x)
  | days (p : Int × Int) : At (.days p)
  | over (c : Int) : At (.over c)
structure CdK (c : Cd) : Prop where
  mk' : U_Cd_marks (Kn_marks 64) c = some (mks c)
  hl : ∀ l, ∃ b, U_Cd_holds (Kn_holds 64) c l = some b
  sh : ∀ m ∈ mks c, MSh m
  len : (mks c).length ≤ 14
theorem At.mk {c : Cd} (h : At c) (r : TK_marks) : U_Cd_marks r c = some (mks1 c) := by cases h <;> rfl
theorem At.hl {c : Cd} (h : At c) (r : TK_holds) (l : Int × Int × Str × Str × Str × Int) : ∃ b, U_Cd_holds r c l = some b := by cases h <;> exact ⟨_, rfl⟩
theorem at_len {ps : List Cd} : (ps.flatMap mks1).length ≤ ps.length * 2 := flatM_len fun c _ => by cases c <;> exact Nat.le_of_ble_eq_true rfl
theorem some_k {ps : List Cd} (h : ∀ c ∈ ps, At c) (l : ps.length ≤ 7) (sh : ∀ m ∈ ps.flatMap mks1, MSh m) : CdK (.someOf ps) := by
  have l2 := at_len (ps := ps)
  refine ⟨?_, fun ls => ?_, sh, by show (ps.flatMap mks1).length ≤ 14; omega⟩
  · show M_Some_marks (Kn_marks 63) ps = some (ps.flatMap mks1)
    unfold M_Some_marks
    show bd (M_joined_marks (Kn_marks 62) ps) _ = _
    have e : M_joined_marks (Kn_marks 62) ps = some ([] ++ ps.flatMap mks1) := by
      unfold M_joined_marks
      refine Ok.eq (ok_lt (ok_bd (Q := (· = [] ++ ps.flatMap mks1)) (.of (lp_app (g := mks1) 1000 (fun c m a ha => ?_) (by show 0 + _ ≤ 1000; omega))) fun v hv => ok_some hv))
      rw [bd_of ((h c m).mk _), gd_pos (show a.length + (mks1 c).length ≤ sizeLine by show _ ≤ 16777216; omega)]
      rfl
    rw [bd_of e]
    rfl
  · show ∃ b, M_Some_holds (Kn_holds 63) ps ls = some b
    unfold M_Some_holds
    have q : Ok (bd (lpO (fun (x2 : Cd) (p1 : Unit) => (bd (U_Cd_holds (Kn_holds 63) x2 ls) fun v4 =>
      cond v4 (some (.rt true)) <|
      some (.nx ()) : Option (Ou (Unit) (Unit) Bool))) ps ()) fun o3 => ouR o3 fun p1 => some false) fun _ => True := by
      refine ok_bd (ok_lpO (Q := fun o => o = .nx () ∨ o = .rt true) (fun _ _ => True) trivial (fun i c v hc _ => ?_) fun v _ => .inl rfl) fun o ho => ?_
      · obtain ⟨b, e⟩ := (h c (List.mem_of_getElem? hc)).hl (Kn_holds 63) ls
        rw [bd_of e]
        exact ok_cond (fun _ => ok_some (.inr rfl)) fun _ => ok_some trivial
      · rcases ho with rfl | rfl
        · exact ok_some trivial
        · exact ok_some trivial
    obtain ⟨b, e, _⟩ := q
    exact ⟨b, e⟩
def lsm : List Cd → Cd
  | [] => .plain ()
  | [c] => c
  | ps => .someOf ps
theorem lsm_mks : ∀ {ps : List Cd}, (∀ c ∈ ps, At c) → mks (lsm ps) = ps.flatMap mks1
  | [], _ => rfl
  | [c], h => by
    have a := h c List.mem_cons_self
    show mks c = [c].flatMap mks1
    rw [List.flatMap_cons, List.flatMap_nil, List.append_nil]
    cases a <;> rfl
  | _ :: _ :: _, _ => rfl
theorem lsm_k : ∀ {ps : List Cd}, (∀ c ∈ ps, At c) → ps.length ≤ 7 → (∀ m ∈ ps.flatMap mks1, MSh m) → CdK (lsm ps)
  | [], _, _, _ => ⟨rfl, fun _ => ⟨_, rfl⟩, fun _ m => (nomatch m), by decide⟩
  | [c], h, _, sh => by
    have a := h c List.mem_cons_self
    have e : mks c = mks1 c := by cases a <;> rfl
    refine ⟨by show U_Cd_marks _ c = some (mks c); rw [e]; exact a.mk _, fun l => a.hl _ l, fun m k => sh m (by rw [List.flatMap_cons, List.flatMap_nil, List.append_nil]; rw [← e]; exact k), ?_⟩
    show (mks c).length ≤ 14
    rw [e]
    cases a <;> exact Nat.le_of_ble_eq_true rfl
  | a :: b :: r, h, l, sh => some_k h l sh
theorem lsm_is {ps : List Cd} : M__law_some ps = some (lsm ps) := by
  unfold M__law_some
  match ps with
  | [] => rfl
  | [c] => rfl
  | a :: b :: r =>
    have e0 : ((((a :: b :: r).length : Nat) : Int) == 0) = false := beq_eq_false_iff_ne.mpr (by rw [List.length_cons]; omega)
    have e1 : ((((a :: b :: r).length : Nat) : Int) == 1) = false := beq_eq_false_iff_ne.mpr (by rw [List.length_cons, List.length_cons]; omega)
    rw [e0, e1]
    rfl
def bmk (cs : List CoverT) : MKSL := cs.flatMap fun c => mks c.2.1
theorem bmk_sh {cs : List CoverT} (h : ∀ c ∈ cs, CdK c.2.1) : ∀ m ∈ bmk cs, MSh m := fun m k => by
  obtain ⟨c, mc, k⟩ := List.mem_flatMap.mp k
  exact (h c mc).sh m k
theorem bmk_len {cs : List CoverT} (h : ∀ c ∈ cs, CdK c.2.1) : (bmk cs).length ≤ cs.length * 14 := flatM_len fun c m => (h c m).len
def dd2 (w : Str) (l : List D) (m : Str × D) : List D := if m.1 = w then (if inDL e_d l m.2 = true then l else l ++ [m.2]) else l
def ddp (w : Str) (ms : MKSL) : List D := ms.foldl (dd2 w) []
theorem ddp_snoc (w : Str) (ms : MKSL) (m : Str × D) : ddp w (ms ++ [m]) = dd2 w (ddp w ms) m := by
  unfold ddp
  rw [List.foldl_append]
  rfl
theorem take_snoc {α : Type} {xs : List α} {i : Nat} {x : α} (h : xs[i]? = some x) : xs.take (i + 1) = xs.take i ++ [x] := by
  rw [List.take_succ, h]
  rfl
theorem ddp_rowI {w : Str} {ms : MKSL} (h : ∀ m ∈ ms, MSh m) : ∀ i, i ≤ ms.length → Row1 w (ms.take i) (ddp w (ms.take i))
  | 0, _ => by rw [List.take_zero]; exact row1_nil w
  | i + 1, hi => by
    have ih := ddp_rowI (w := w) h i (by omega)
    have hx := List.getElem?_eq_getElem (show i < ms.length by omega)
    generalize ms[i] = m at hx
    rw [take_snoc hx, ddp_snoc]
    unfold dd2
    by_cases e : m.1 = w
    · rw [if_pos e]
      have sm := h m (List.mem_of_getElem? hx)
      obtain ⟨a, d⟩ := m
      have e : a = w := e
      subst e
      have hz : ∀ z ∈ ddp a (ms.take i), MSh (a, z) := fun z k => h _ (List.mem_of_mem_take ((ih.mem z).mp k))
      split
      · rename_i q
        exact ih.old ((inDL_iff hz sm).mp q)
      · rename_i q
        exact ih.new fun k => q ((inDL_iff hz sm).mpr k)
    · rw [if_neg e]
      exact ih.other e
theorem ddp_row {w : Str} {ms : MKSL} (h : ∀ m ∈ ms, MSh m) : Row1 w ms (ddp w ms) := by
  have := ddp_rowI (w := w) h ms.length (Nat.le_refl _)
  rwa [List.take_length] at this
theorem ddp_len {w : Str} {ms : MKSL} (h : ∀ m ∈ ms, MSh m) : (ddp w ms).length ≤ ms.length := by
  have := (ddp_row (w := w) h).len
  have l1 : cntw w (ms.map (·.1)) ≤ (ms.map (·.1)).length := List.length_filter_le _ _
  rw [List.length_map] at l1
  omega
theorem ddp_sh {w : Str} {ms : MKSL} (h : ∀ m ∈ ms, MSh m) : ∀ z ∈ ddp w ms, MSh (w, z) := fun z k => h _ (((ddp_row h).mem z).mp k)
theorem smp_ds {w : Str} {l : List D} (h : ∀ z ∈ l, MSh (w, z)) : Smp 1 (.lst (l.map e_d)) := .lst (smps_map fun z k => MSh.smp (h z k))
def Tbx (done : MKSL) (p : List (Key × List D)) : Prop := ∀ w, W4 w → lkp p (.inr w) = some (ddp w done)
theorem tbx0 : Tbx [] [((.inr ("cause" : Str)), ([] : List D)), ((.inr ("thing" : Str)), ([] : List D)), ((.inr ("day" : Str)), ([] : List D)), ((.inr ("cents" : Str)), ([] : List D))] := fun w h => by
  obtain ⟨l, e, r⟩ := tb0 w h
  rw [e]
  cases l with
  | nil => rfl
  | cons d l => exact absurd ((r.mem d).mp List.mem_cons_self) (fun z => nomatch z)
theorem tbx_marks {ms done : MKSL} {p : List (Key × List D)} (h : Tbx done p) (hd : ∀ x ∈ done, MSh x) (hm : ∀ x ∈ ms, MSh x) (hl : done.length + ms.length ≤ 1000) : Ok (lp (fun (x6 : (Str × D)) (p5 : (List (Key × (List D)))) => (bd (lkp p5 ((.inr ((x6).1)) : Key)) fun v8 =>
      lt ((lkp p5 ((.inr ((x6).1)) : Key)).getD ([] : (List D))) fun row =>
      gd (D.ok (x6).2 ∧ D.ok (.lst (row.map e_d))) <|
      bd (cond (!(inDL e_d row (x6).2)) (gd (row.length < sizeLine) <|
        lt (row ++ [(x6).2]) fun row_1 =>
        some row_1) (some row) : Option ((List D))) fun p11 =>
      some (utK p5 ((.inr ((x6).1)) : Key) p11) : Option ((List (Key × (List D)))))) ms p) (Tbx (done ++ ms)) := by
  refine ok_lp (fun i (q : List (Key × List D)) => Tbx (done ++ ms.take i) q) (by rw [List.take_zero, List.append_nil]; exact h) (fun i m q hx hq => ?_) fun q hq => by rw [List.take_length] at hq; exact hq
  have mm := List.mem_of_getElem? hx
  have sm := hm m mm
  have hall : ∀ x ∈ done ++ ms.take i, MSh x := fun x k => (List.mem_append.mp k).elim (hd x) fun k => hm x (List.mem_of_mem_take k)
  have et : done ++ ms.take (i + 1) = (done ++ ms.take i) ++ [m] := by rw [take_snoc hx, List.append_assoc]
  have e := hq m.1 sm.w4
  have hz := ddp_sh (w := m.1) hall
  have ln : (ddp m.1 (done ++ ms.take i)).length ≤ 1000 := by
    have := ddp_len (w := m.1) hall
    rw [List.length_append, List.length_take] at this
    omega
  rw [et, bd_of e]
  refine ok_ltx fun row er => ?_
  rw [e] at er
  have er : row = ddp m.1 (done ++ ms.take i) := er
  subst er
  refine ok_gd ⟨sm.smp.ok, (smp_ds hz).ok⟩ ?_
  refine ok_bd (Q := (· = dd2 m.1 (ddp m.1 (done ++ ms.take i)) m)) (ok_cond (fun c => ok_gd (by show _ < 16777216; omega) (ok_lt (ok_some ?_))) fun c => ok_some ?_) fun l' hl' => ok_some fun w hw => ?_
  · unfold dd2
    rw [if_pos rfl, if_neg fun z => by rw [z] at c; cases c]
  · unfold dd2
    rw [if_pos rfl, if_pos (by cases z : inDL e_d (ddp m.1 (done ++ ms.take i)) m.2 with
      | true => rfl
      | false => rw [z] at c; cases c)]
  · rw [lkp_utK, ddp_snoc]
    by_cases ew : w = m.1
    · subst ew
      rw [if_pos rfl, hl']
    · rw [if_neg fun z => ew (Sum.inr.inj z), hq w hw]
      unfold dd2
      rw [if_neg fun z => ew z.symm]
theorem nd_int {ys : List Int} (h : (ys.map D.int).Nodup) : ys.Nodup := (List.pairwise_map.mp h).imp fun {a b} n e => n (congrArg D.int e)
/-- the marks that a book tells -/
structure MkX (ms : MKSL) (r : MKR) : Prop where
  ok : MkOk ms r
  di : r.2.2.1.Nodup
  ai : r.2.2.2.Nodup
theorem marks_x {bk : BookT} (h : ∀ c ∈ bk.1, CdK c.2.1) (h4 : bk.1.length ≤ 4) : Ok (M_marks_of bk) (MkX (bmk bk.1)) := by
  have sh := bmk_sh h
  have ln := bmk_len h
  unfold M_marks_of
  refine ok_lt (ok_bd (ok_lp (fun i (q : List (Key × List D)) => Tbx (bmk (bk.1.take i)) q) tbx0 (fun i c q hx hq => ?_) fun q hq => hq) fun p hp => ?_)
  · have mc := List.mem_of_getElem? hx
    have hk := h c mc
    have e : bmk (bk.1.take (i + 1)) = bmk (bk.1.take i) ++ mks c.2.1 := by
      unfold bmk
      rw [take_snoc hx, List.flatMap_append]
      simp
    have l1 := bmk_len (cs := bk.1.take i) fun x m => h x (List.mem_of_mem_take m)
    rw [List.length_take] at l1
    have := hk.len
    rw [bd_of hk.mk', e]
    exact ok_bd (tbx_marks hq (fun x m => by
      obtain ⟨c2, mc2, k⟩ := List.mem_flatMap.mp m
      exact (h c2 (List.mem_of_mem_take mc2)).sh x k) hk.sh (by omega)) fun q hq => ok_some hq
  · rw [List.take_length] at hp
    have ec := hp "cause" (.inl (.inl rfl))
    have et := hp "thing" (.inl (.inr rfl))
    have ed := hp "day" (.inr (.inl rfl))
    have ea := hp "cents" (.inr (.inr rfl))
    have rc := ddp_row (w := "cause") sh
    have rt := ddp_row (w := "thing") sh
    have rd := ddp_row (w := "day") sh
    have ra := ddp_row (w := "cents") sh
    have hld := ddp_len (w := "day") sh
    rw [bd_of ed]
    refine ok_gd (by show _ < 16777216; omega) ?_
    have fm : fmO (fun x15 : D => bd (asI x15) fun v16 => some (decide (1 ≤ v16) && decide (v16 ≤ 1000000))) (fun x15 : D => some x15) (ddp "day" (bmk bk.1)) = some ((ddp "day" (bmk bk.1)).filter dayP) := by
      have := fmO_of (t := fun x15 : D => bd (asI x15) fun v16 => some (decide (1 ≤ v16) && decide (v16 ≤ 1000000))) (f := fun x15 : D => some x15) (p := dayP) (g := id) (xs := ddp "day" (bmk bk.1)) (fun d m => by
        obtain ⟨i, e⟩ := (ddp_sh sh d m).int (.inl rfl)
        subst e
        rfl) fun _ _ _ => rfl
      rw [this, List.map_id]
    rw [bd_of fm]
    obtain ⟨ys, y1, y2⟩ := mpS_of (l := ddp "cause" (bmk bk.1)) fun d m => by
      obtain ⟨x, e, _⟩ := (ddp_sh sh d m).str (.inl rfl)
      exact ⟨x, e⟩
    obtain ⟨zs, z1, z2⟩ := mpS_of (l := ddp "thing" (bmk bk.1)) fun d m => by
      obtain ⟨x, e, _⟩ := (ddp_sh sh d m).str (.inr rfl)
      exact ⟨x, e⟩
    obtain ⟨us, u1, u2⟩ := mpI_of (l := (ddp "day" (bmk bk.1)).filter dayP) fun d m => (ddp_sh sh d (List.mem_filter.mp m).1).int (.inl rfl)
    obtain ⟨vs, v1, v2⟩ := mpI_of (l := ddp "cents" (bmk bk.1)) fun d m => (ddp_sh sh d m).int (.inr rfl)
    rw [bd_of ec, bd_of y1]
    refine ok_gd (srtok_s _) ?_
    rw [bd_of et, bd_of z1]
    refine ok_gd (srtok_s _) ?_
    rw [bd_of u1]
    refine ok_gd (srtok_i _) ?_
    rw [bd_of ea, bd_of v1]
    refine ok_gd (srtok_i _) (ok_some ?_)
    refine ⟨?_, (srt_perm _).nodup_iff.mpr (nd_int (u2 ▸ (rd.nd.sublist List.filter_sublist))), (srt_perm _).nodup_iff.mpr (nd_int (v2 ▸ ra.nd))⟩
    have inj : ∀ {x : Str} {xs : List Str}, D.str x ∈ xs.map D.str ↔ x ∈ xs := fun {x xs} => ⟨fun m => by
      obtain ⟨y, my, e⟩ := List.mem_map.mp m
      cases e
      exact my, fun m => List.mem_map.mpr ⟨x, m, rfl⟩⟩
    have injI : ∀ {x : Int} {xs : List Int}, D.int x ∈ xs.map D.int ↔ x ∈ xs := fun {x xs} => ⟨fun m => by
      obtain ⟨y, my, e⟩ := List.mem_map.mp m
      cases e
      exact my, fun m => List.mem_map.mpr ⟨x, m, rfl⟩⟩
    refine ⟨fun x => ?_, fun x => ?_, fun i => ?_, fun i => ?_, ?_, ?_, ?_, ?_, srt_sorted _, srt_sorted _, (srt_perm _).nodup_iff.mpr (nd_str (y2 ▸ rc.nd)), (srt_perm _).nodup_iff.mpr (nd_str (z2 ▸ rt.nd))⟩
    · show x ∈ srt D.str ys ↔ _
      rw [srt_memD, ← rc.mem, y2, inj]
    · show x ∈ srt D.str zs ↔ _
      rw [srt_memD, ← rt.mem, z2, inj]
    · show i ∈ srt D.int us ↔ _
      rw [srt_memD, ← rd.mem, ← injI, ← u2, List.mem_filter]
      show _ ∧ (decide (1 ≤ i) && decide (i ≤ 1000000)) = true ↔ _
      rw [Bool.and_eq_true, decide_eq_true_iff, decide_eq_true_iff]
    · show i ∈ srt D.int vs ↔ _
      rw [srt_memD, ← ra.mem, v2, injI]
    · show (srt D.str ys).length ≤ _
      have := rc.len
      rw [y2, List.length_map] at this
      rw [srt_lenD]
      exact this
    · show (srt D.str zs).length ≤ _
      have := rt.len
      rw [z2, List.length_map] at this
      rw [srt_lenD]
      exact this
    · show (srt D.int us).length ≤ _
      have e := congrArg List.length u2
      rw [List.length_map] at e
      have := List.length_filter_le dayP (ddp "day" (bmk bk.1))
      have := rd.len
      rw [srt_lenD]
      omega
    · show (srt D.int vs).length ≤ _
      have := ra.len
      rw [v2, List.length_map] at this
      rw [srt_lenD]
      exact this
abbrev LOSSX := Int × Int × Str × Str × Str × Int
def Free (c : CoverT) : Prop := c.2.2.1 = []
section
variable {c : CoverT} {cents : Int} {nums : List Int}
theorem spans_0 (h : Free c) : M_Cover_spans c nums cents = some [] := by
  unfold M_Cover_spans
  rw [show c.2.2.1 = [] from h]
  exact Ok.eq (ok_gd (by decide) (ok_some rfl))
theorem window_0 (h : Free c) (h0 : 0 ≤ cents) : M_Cover_window c nums cents = some (0, cents) := by
  unfold M_Cover_window
  rw [bd_of (spans_0 h)]
  show some ((0 : Int), max 0 cents) = _
  rw [Int.max_eq_right h0]
theorem rest_0 (h : Free c) : M_Cover_rest c nums = some none := by
  unfold M_Cover_rest
  rw [show c.2.2.1 = [] from h]
  rfl
theorem left_0 (at_ : Int) : M_left_out [] at_ = some (-1) := rfl
theorem srt_two (h0 : 0 ≤ cents) : srt D.int [0, cents] = [0, cents] := by
  rw [srt_i]
  exact List.mergeSort_of_pairwise (by simpa using h0)
theorem parts_0 (h : Free c) (h0 : 1 ≤ cents) : M_Cover_parts c nums cents = some [(0, cents, -1)] := by
  unfold M_Cover_parts
  rw [bd_of (spans_0 h)]
  refine Ok.eq (ok_lt ?_)
  refine ok_bd (Q := (· = [0, cents])) (ok_some rfl) fun p4 hp => ?_
  subst hp
  refine ok_gd (srtok_i _) (ok_lt (ok_lt ?_))
  rw [srt_two (by omega)]
  have ez : (cutG [(0 : Int), cents] none (some (-(1 : Int)))).zip (cutG [0, cents] (some (1 : Int)) none) = [(0, cents)] := rfl
  rw [ez]
  have e0 : Smp 0 (.lst (([] : List (Int × Int × Int)).map e_T_i_i_i)) ∨ True := .inr trivial
  have ok0 : D.ok (.lst (([] : List (Int × Int × Int)).map e_T_i_i_i)) := (show Smp 1 (.lst (([] : List (Int × Int × Int)).map e_T_i_i_i)) from .lst fun _ m => nomatch m).ok
  refine ok_bd (Q := (· = [(0, cents, -1)])) ?_ fun v hv => ok_some hv
  show Ok (bd _ _) _
  refine ok_bd (Q := (· = [((0 : Int), cents, (-1 : Int))])) ?_ fun v hv => ok_some hv
  show Ok (bd (M_left_out [] (0 : Int)) _) _
  rw [bd_of (left_0 _)]
  refine ok_bd (Q := (· = false)) (ok_t (decide_eq_true (by show (0 : Int) < cents; omega)) (ok_gd ⟨ok0, ok0⟩ (ok_bd (Q := (· = false)) (ok_f rfl (ok_some rfl)) fun v hv => ok_some hv))) fun v hv => ok_f hv ?_
  exact ok_t (decide_eq_true (by show (0 : Int) < cents; omega)) (ok_gd (by decide) (ok_lt (ok_some rfl)))
theorem numbers_0 (h : Free c) {ct : R_Counts} {l : LOSSX} : M_numbers_of c ct l = some [] := by
  unfold M_numbers_of
  rw [show c.2.2.1 = [] from h]
  exact Ok.eq (ok_gd (by decide) (ok_some rfl))
theorem within_all (h0 : 1 ≤ cents) : M_cut_within [(0, cents)] 0 cents = some [(0, cents)] := by
  unfold M_cut_within
  refine Ok.eq (ok_lt (ok_bd (Q := (· = [((0 : Int), cents)])) ?_ fun v hv => ok_some hv))
  show Ok (bd _ _) _
  refine ok_bd (Q := (· = [((0 : Int), cents)])) (ok_lt (ok_lt ?_)) fun v hv => ok_some hv
  have e1 : max (0 : Int) 0 = 0 := rfl
  have e2 : min cents cents = cents := Int.min_self cents
  show Ok (cond (decide (max (0 : Int) 0 < min cents cents)) _ _) _
  rw [e1, e2]
  exact ok_t (decide_eq_true (by omega)) (ok_gd (by decide) (ok_lt (ok_some rfl)))
theorem within_none (lo hi : Int) : M_cut_within [] lo hi = some [] := rfl
theorem paid_0 (h : Free c) (h0 : 1 ≤ cents) : M_paid_by c nums cents [(0, cents)] = some [(0, cents)] := by
  unfold M_paid_by
  rw [bd_of (window_0 h (by omega)), bd_of (within_all h0), bd_of (rest_0 h)]
  rfl
theorem paid_n (h : Free c) (h0 : 1 ≤ cents) : M_paid_by c nums cents [] = some [] := by
  unfold M_paid_by
  rw [bd_of (window_0 h (by omega)), bd_of (within_none _ _), bd_of (rest_0 h)]
  rfl
theorem out_all (h0 : 1 ≤ cents) : M_cut_out [(0, cents)] [(0, cents)] = some [] := by
  unfold M_cut_out
  refine Ok.eq (ok_lt (ok_bd (Q := (· = ([] : List (Int × Int)))) ?_ fun v hv => ok_some hv))
  show Ok (bd _ _) _
  refine ok_bd (Q := (· = ([] : List (Int × Int)))) (ok_lt ?_) fun v hv => ok_some hv
  refine ok_bd (Q := fun o => o = .nx ([], cents)) ?_ fun o ho => ?_
  · refine ok_lpN (Q := fun o => o = .nx ([], cents)) (fun i (p : List (Int × Int) × Int) => p.1 = [] ∧ p.2 = if i = 0 then 0 else cents) ⟨rfl, rfl⟩ (fun i x p hx ⟨p1, p2⟩ => ?_) fun p ⟨p1, p2⟩ => ?_
    · have hi := (List.getElem?_eq_some_iff.mp hx).1
      have hi : i < 1 := hi
      have i0 : i = 0 := by omega
      subst i0
      cases hx
      obtain ⟨a, b⟩ := p
      have p1 : a = [] := p1
      have p2 : b = 0 := p2
      subst p1 p2
      refine ok_f (decide_eq_false (by show ¬ cents ≤ 0; omega)) (ok_f (decide_eq_false (by show ¬ cents ≤ 0; omega)) ?_)
      refine ok_bd (Q := (· = [])) (ok_f (decide_eq_false (by show ¬ (0 : Int) < 0; omega)) (ok_some rfl)) fun v hv => ok_lt (ok_some ⟨_, .inl rfl, hv, rfl⟩)
    · obtain ⟨a, b⟩ := p
      have p1 : a = [] := p1
      have p2 : b = cents := p2
      rw [p1, p2]
  · subst ho
    exact ok_f (decide_eq_false (by show ¬ cents < cents; omega)) (ok_some rfl)
theorem out_none (rs : List (Int × Int)) : M_cut_out [] rs = some [] := rfl
theorem unpaid_n (h : Free c) (h0 : 1 ≤ cents) : M_unpaid_by c nums cents [] = some [] := by
  unfold M_unpaid_by
  refine Ok.eq (ok_lt ?_)
  rw [bd_of (parts_0 h h0)]
  refine ok_bd (Q := (· = [])) ?_ fun v hv => ok_some hv
  show Ok (bd _ _) _
  refine ok_bd (Q := (· = [])) ?_ fun v hv => ok_some hv
  refine ok_bd (Q := fun _ => True) (ok_t rfl ?_) fun k _ => ?_
  · rw [bd_of (rest_0 h)]
    exact ok_f rfl (ok_some trivial)
  · rw [bd_of (within_none _ _)]
    exact ok_bd (Q := (· = [])) (ok_some rfl) fun v hv => ok_some hv
end
structure BkOk (bk : BookT) : Prop where
  few : bk.2.length ≤ 4
  fr : ∀ c ∈ bk.2, Free c
  hl : ∀ c ∈ bk.2, ∀ l, ∃ b, U_Cd_holds (Kn_holds 64) c.2.1 l = some b
theorem asks_0 {c : CoverT} {l : LOSSX} (h : ∃ b, U_Cd_holds (Kn_holds 64) c.2.1 l = some b) : ∃ b, M_Cover_asks c l = some b := by
  obtain ⟨b, e⟩ := h
  refine ⟨b, ?_⟩
  unfold M_Cover_asks
  rw [bd_of e]
theorem srtok_one (x : Int × Int × Str × Int) : SrtOk e_T_i_i_s_i [x] := by
  refine ⟨fun _ _ => rfl, PySem.W.AllAlike.of fun _ _ => rfl, PySem.W.Sortable.tuples fun b => ⟨_, _, rfl⟩, fun _ _ => by show _ ≤ 60; exact Nat.le_trans (show _ ≤ 1 from Nat.le_refl _) (by decide)⟩
theorem strips_any {bk : BookT} {ct : R_Counts} {l : LOSSX} (h : BkOk bk) (h0 : 1 ≤ l.2.2.2.2.2) : Ok (M_strips_of bk ct l) fun _ => True := by
  unfold M_strips_of
  refine ok_lt (ok_lt ?_)
  refine ok_bd (ok_lpN (Q := fun o => ∃ p, o = .nx p ∧ ((p.1 = none) ∨ ∃ x s, p = (some x, [s], []) ∧ Free x)) (fun i (p : Option CoverT × List (Int × Int × Str × Int) × List (Int × Int)) => (p = (none, [], [(0, l.2.2.2.2.2)])) ∨ ∃ x s, p = (some x, [s], []) ∧ Free x) (.inl rfl) (fun i c p hc hp => ?_) fun p hp => ⟨p, rfl, hp.elim (fun e => .inl (by rw [e])) .inr⟩) fun o ⟨p, eo, hp⟩ => ?_
  · have mc := List.mem_of_getElem? hc
    have fc := h.fr c mc
    obtain ⟨b, eb⟩ := asks_0 (h.hl c mc l)
    rw [bd_of eb]
    refine ok_cond (fun _ => ok_some ⟨_, .inr rfl, hp⟩) fun _ => ?_
    rcases hp with hp | ⟨x, s, hp, fx⟩
    · subst hp
      refine ok_bd (Q := (· = some c)) (ok_t rfl (ok_lt (ok_some rfl))) fun v5 e5 => ?_
      subst e5
      rw [bd_of (numbers_0 fc), bd_of (paid_0 fc h0)]
      refine ok_gd (by show 1 < 16777216; decide) (ok_bd (Q := (· = [(0, l.2.2.2.2.2, c.1, -1)])) (ok_some rfl) fun v10 e10 => ?_)
      subst e10
      refine ok_gd (by show 0 + 1 ≤ 16777216; decide) (ok_lt ?_)
      rw [bd_of (out_all h0)]
      exact ok_some ⟨_, .inl rfl, .inr ⟨c, _, rfl, fc⟩⟩
    · subst hp
      refine ok_bd (Q := (· = some x)) (ok_f rfl (ok_some rfl)) fun v5 e5 => ?_
      subst e5
      rw [bd_of (numbers_0 fc), bd_of (paid_n fc h0)]
      refine ok_gd (by show 0 < 16777216; decide) (ok_bd (Q := (· = [])) (ok_some rfl) fun v10 e10 => ?_)
      subst e10
      refine ok_gd (by show 1 + 0 ≤ 16777216; decide) (ok_lt ?_)
      rw [bd_of (out_none _)]
      exact ok_some ⟨_, .inl rfl, .inr ⟨x, s, rfl, fx⟩⟩
  · subst eo
    rcases hp with hp | ⟨x, s, hp, fx⟩
    · refine ok_t (by show p.1.isNone = true; rw [hp]; rfl) (ok_some trivial)
    · subst hp
      show Ok (bd (some x) fun v13 => bd (some x) fun v14 => bd (M_numbers_of v14 ct l) fun v15 => bd (M_unpaid_by v13 v15 l.2.2.2.2.2 []) fun v16 => gd ([s].length + v16.length ≤ sizeLine) (lt ([s] ++ v16) fun strips_2 => gd (SrtOk e_T_i_i_s_i strips_2) (some (srt e_T_i_i_s_i strips_2)))) _
      rw [bd_of rfl, bd_of rfl, bd_of (numbers_0 fx), bd_of (unpaid_n fx h0)]
      refine ok_gd (by show 1 + 0 ≤ 16777216; decide) (ok_lt (ok_gd ?_ (ok_some trivial)))
      show SrtOk e_T_i_i_s_i ([s] ++ [])
      rw [List.append_nil]
      exact srtok_one s
theorem ct0_any : ∃ ct, M_Counts___init__ = some ct := ⟨_, rfl⟩
theorem claims_any {bk : BookT} {l : LOSSX} (h : BkOk bk) (h0 : 1 ≤ l.2.2.2.2.2) : Ok (M_claims_of bk l) fun _ => True := by
  unfold M_claims_of
  refine ok_lt (ok_bd (ok_lp (Q := fun _ => True) (fun i (p : List (Str × Int × Int)) => p.length ≤ i) (Nat.le_refl 0) (fun i c p hc hp => ?_) fun _ _ => trivial) fun _ _ => ok_some trivial)
  have hi := (List.getElem?_eq_some_iff.mp hc).1
  have hi := Nat.lt_of_lt_of_le hi h.few
  have mc := List.mem_of_getElem? hc
  have fc := h.fr c mc
  refine ok_bd (Q := fun _ => True) (ok_cond (fun _ => ?_) fun _ => ok_some trivial) fun b _ => ok_cond (fun _ => ?_) fun _ => ok_some (by omega)
  · obtain ⟨b, eb⟩ := asks_0 (h.hl c mc l)
    rw [bd_of eb]
    exact ok_some trivial
  · have ec : M_claim_of c l = some (0, l.2.2.2.2.2) := by
      obtain ⟨ct, e⟩ := ct0_any
      unfold M_claim_of
      rw [bd_of e, bd_of (numbers_0 fc), bd_of (window_0 fc (by omega)), bd_of (rest_0 fc)]
      rfl
    rw [bd_of ec]
    exact ok_cond (fun _ => ok_gd (by show _ < 16777216; omega) (ok_lt (ok_some (by rw [List.length_append]; show _ + 1 ≤ _; omega)))) fun _ => ok_some (by omega)
theorem row_any {bk : BookT} {r : MKR} (h : BkOk bk) (hm : M_marks_of bk = some r) (l1 : r.1.length < 26) (l2 : r.2.1.length < 26) (c : CELL) (lo : Int) {hi : Int} (h1 : 1 ≤ hi) : Ok (M_row_of bk c lo hi) fun _ => True := by
  unfold M_row_of
  refine ok_bd (Q := fun l : LOSSX => l.2.2.2.2.2 = hi) ?_ fun l el => ?_
  · unfold M_loss_in
    rw [bd_of hm]
    refine ok_bd (Q := fun _ => True) (ok_cond (fun _ => ok_bd (another_ok l1) fun _ _ => ok_some trivial) fun _ => ok_some trivial) fun _ _ => ok_bd (Q := fun _ => True) (ok_cond (fun _ => ok_bd (another_ok l2) fun _ _ => ok_some trivial) fun _ => ok_some trivial) fun _ _ => ok_some rfl
  · obtain ⟨ct, e⟩ := ct0_any
    rw [bd_of e]
    exact ok_bd (strips_any h (by omega)) fun _ _ => ok_bd (claims_any h (by omega)) fun _ _ => ok_some trivial
theorem eq_len {α : Type} [DecidableEq α] {a b : List α} (ha : a.Nodup) (hb : b.Nodup) (h : ∀ x, x ∈ a ↔ x ∈ b) : a.length = b.length :=
  Nat.le_antisymm (sub_len ha fun x m => (h x).mp m) (sub_len hb fun x m => (h x).mpr m)
theorem Prt.count {first last : Int} {marks : List Int} {ps : List (Int × Int)} (h : Prt first last marks ps) (h0 : first ≤ last) (nd : marks.Nodup) : ps.length = (marks.filter fun m => decide (first < m) && decide (m ≤ last)).length + 1 := by
  have sn : (ps.map (·.1)).Nodup := List.pairwise_map.mpr (List.Pairwise.imp_of_mem (fun {p q} mp mq l e => by
    have := h.inn p mp
    have e : p.1 = q.1 := e
    omega) h.ord)
  have fn : (first :: marks.filter fun m => decide (first < m) && decide (m ≤ last)).Nodup := List.nodup_cons.mpr ⟨fun m => by
    have := (List.mem_filter.mp m).2
    rw [Bool.and_eq_true, decide_eq_true_iff] at this
    omega, nd.sublist List.filter_sublist⟩
  have st : ∀ m, first ≤ m → m ≤ last → (m = first ∨ m ∈ marks) → m ∈ ps.map (·.1) := fun m m1 m2 m3 => by
    obtain ⟨p, mp, p1, p2⟩ := h.cov m m1 m2
    refine List.mem_map.mpr ⟨p, mp, ?_⟩
    have ip := h.inn p mp
    rcases m3 with e | mm
    · show p.1 = m
      omega
    · have := h.nm m mm p mp
      show p.1 = m
      omega
  have e := eq_len sn fn fun x => by
    constructor
    · intro m
      obtain ⟨p, mp, e⟩ := List.mem_map.mp m
      have e : p.1 = x := e
      have ip := h.inn p mp
      rcases h.sb p mp with z | z
      · exact List.mem_cons.mpr (.inl (by rw [← e, z]))
      · by_cases q : x = first
        · exact List.mem_cons.mpr (.inl q)
        · refine List.mem_cons_of_mem _ (List.mem_filter.mpr ⟨by rw [← e]; exact z, ?_⟩)
          rw [Bool.and_eq_true, decide_eq_true_iff, decide_eq_true_iff]
          omega
    · intro m
      rcases List.mem_cons.mp m with e | m
      · subst e
        exact st x (Int.le_refl _) h0 (.inl rfl)
      · obtain ⟨m1, m2⟩ := List.mem_filter.mp m
        rw [Bool.and_eq_true, decide_eq_true_iff, decide_eq_true_iff] at m2
        exact st x (by omega) m2.2 (.inr m1)
  rw [List.length_map] at e
  exact e
theorem fm_len {α β : Type} {g : α → List β} {m : Nat} : ∀ {xs : List α}, (∀ x ∈ xs, (g x).length = m) → (xs.flatMap g).length = xs.length * m
  | [], _ => by simp
  | y :: r, hl => by
    rw [List.flatMap_cons, List.length_append, hl y List.mem_cons_self, fm_len fun z mz => hl z (List.mem_cons_of_mem _ mz), List.length_cons, Nat.add_mul]
    omega
theorem cells_length {r : MKR} {ps : List (Int × Int)} : (cellsL r ps).length = (r.1.length + 1) * ((r.2.1.length + 1) * ps.length) := by
  have l1 : ∀ a b : Str, (ps.flatMap fun p => [((a, b, p.1, p.2) : CELL)]).length = ps.length := fun a b => flatM_one
  have := fm_len (xs := r.1 ++ [("" : Str)]) (g := fun a => (r.2.1 ++ [("" : Str)]).flatMap fun b => ps.flatMap fun p => [((a, b, p.1, p.2) : CELL)]) (m := (r.2.1.length + 1) * ps.length) fun a _ => by
    have := fm_len (xs := r.2.1 ++ [("" : Str)]) (g := fun b => ps.flatMap fun p => [((a, b, p.1, p.2) : CELL)]) (m := ps.length) fun b _ => l1 a b
    rw [List.length_append] at this
    exact this
  rw [List.length_append] at this
  exact this
theorem cells_at {bk : BookT} {r : MKR} {ps : List (Int × Int)} (hm : M_marks_of bk = some r) (hp : M_parted 0 1000000 r.2.2.1 = some ps) (b1 : r.1.length ≤ 7) (b2 : r.2.1.length ≤ 7) (b3 : r.2.2.1.length ≤ 7) (pl : ps.length ≤ r.2.2.1.length + 1) : M_cells_of bk = some (if (r.1.length + 1) * (r.2.1.length + 1) * (r.2.2.1.length + 1) ≤ 120 then .ok (cellsL r ps) else .er .TooWide) := by
  have e1 : (((r.1.length : Int) + 1) * ((r.2.1.length : Int) + 1)) = (((r.1.length + 1) * (r.2.1.length + 1) : Nat) : Int) := by push_cast; rfl
  have e2 : ((((r.1.length : Int) + 1) * ((r.2.1.length : Int) + 1)) * ((r.2.2.1.length : Int) + 1)) = (((r.1.length + 1) * (r.2.1.length + 1) * (r.2.2.1.length + 1) : Nat) : Int) := by push_cast; rfl
  have a1 : (r.1.length + 1) * (r.2.1.length + 1) ≤ 8 * 8 := Nat.mul_le_mul (by omega) (by omega)
  have tot : (cellsL r ps).length ≤ 8 * (8 * 8) := Nat.le_trans (cells_len r ps) (Nat.mul_le_mul (by omega) (Nat.mul_le_mul (by omega) (by omega)))
  unfold M_cells_of
  refine Ok.eq ?_
  rw [bd_of hm, e2, e1]
  refine ok_gd (.inl ⟨by omega, by omega⟩) (ok_gd (.inl ⟨by omega, by omega⟩) (ok_cond (fun c => ok_some ?_) fun c => ok_lt (ok_gd ?_ ?_)))
  · have c := of_decide_eq_true c
    rw [if_neg (by omega)]
  · show r.1.length + 1 ≤ 16777216
    omega
  · have c := of_decide_eq_false c
    rw [if_pos (by omega)]
    refine ok_bd (Q := (· = cellsL r ps)) (.of ?_) fun v e => ok_some (by rw [e])
    show lp _ (r.1 ++ [("" : Str)]) [] = some ([] ++ cellsL r ps)
    refine lp_app (xs := r.1 ++ [("" : Str)]) (a := []) (g := fun a => (r.2.1 ++ [("" : Str)]).flatMap fun b => ps.flatMap fun p => [((a, b, p.1, p.2) : CELL)]) 3000000 (fun a ma acc hacc => ?_) (by show 0 + (cellsL r ps).length ≤ 3000000; omega)
    rw [gd_pos (show r.2.1.length + [("" : Str)].length ≤ sizeLine by show r.2.1.length + 1 ≤ 16777216; omega)]
    rw [bd_of (lp_app (g := fun b => ps.flatMap fun p => [((a, b, p.1, p.2) : CELL)]) 3000000 (fun b mb acc2 hacc2 => ?_) hacc)]
    rw [bd_of hp, bd_of (lp_app (g := fun p => [((a, b, p.1, p.2) : CELL)]) 3000000 (fun p mp acc3 hacc3 => ?_) hacc2)]
    have : acc3.length + 1 ≤ 3000000 := hacc3
    rw [gd_pos (show acc3.length < sizeLine by show _ < 16777216; omega)]
    rfl
theorem whole_i (i : Int) : M_is_whole (.int i) = some true := by
  unfold M_is_whole
  rw [bd_of (show isiD "int" (.int i) = some true from show kitB "int" "int" = some true by decide +kernel)]
  show bd (bd (isiD "bool" (.int i)) _) _ = _
  rw [bd_of (show isiD "bool" (.int i) = some false from show kitB "int" "bool" = some false by decide +kernel)]
  rfl
theorem amount_i (i : Int) : M_is_amount (.int i) = some (decide (0 ≤ i) && decide (i ≤ 999999999999)) := by
  unfold M_is_amount
  rw [bd_of (whole_i i)]
  rfl
/-- what is no bound -/
def BadB (d : D) : Prop := (∃ i, d = .int i ∧ (i < 1 ∨ 999999999999 < i)) ∨ M_is_whole d = some false
theorem paper_bad {bk : BookT} {d : D} (h : BadB d) : M_paper_of bk d = some (.er .NoEntry) := by
  unfold M_paper_of
  refine Ok.eq ?_
  rcases h with ⟨i, e, h⟩ | h
  · subst e
    rw [bd_of (amount_i i)]
    refine ok_bd (Q := (· = true)) (ok_cond (fun _ => ok_some rfl) fun c => ?_) fun v hv => ok_t hv (ok_some rfl)
    rw [bd_of (show asI (.int i) = some i from rfl)]
    refine ok_some (decide_eq_true ?_)
    rcases h with h | h
    · exact h
    · exfalso
      rw [decide_eq_false (by omega : ¬ i ≤ 999999999999), Bool.and_false] at c
      cases c
  · have e : M_is_amount d = some false := by
      unfold M_is_amount
      rw [bd_of h]
      rfl
    rw [bd_of e]
    exact ok_bd (Q := (· = true)) (ok_t rfl (ok_some rfl)) fun v hv => ok_t hv (ok_some rfl)
def PapR (W n : Nat) (x : Xr Xc (List ((Str × Str × Int × Int) × Int × Int × (List (Int × Int × Str × Int)) × (List (Str × Int × Int))))) : Prop := (W * n ≤ 120 ∧ ∃ rows, x = .ok rows ∧ rows.length = W * n) ∨ (120 < W * n ∧ x = .er .TooWide)
theorem paper_at {bk : BookT} {r : MKR} {ps st : List (Int × Int)} {b : Int} (h : BkOk bk) (hm : M_marks_of bk = some r) (b0 : 1 ≤ b) (b1 : b ≤ 999999999999) (w1 : r.1.length ≤ 7) (w2 : r.2.1.length ≤ 7) (w3 : r.2.2.1.length ≤ 7) (pl : ps.length = r.2.2.1.length + 1)
    (hc : M_cells_of bk = some (if (r.1.length + 1) * (r.2.1.length + 1) * (r.2.2.1.length + 1) ≤ 120 then .ok (cellsL r ps) else .er .TooWide)) (hs : M_stretches_of bk b = some st) (hp : Prt 1 b (r.2.2.2.map (· + 1)) st) (s1 : 1 ≤ st.length) (s8 : st.length ≤ 8) :
    Ok (M_paper_of bk (.int b)) (PapR ((r.1.length + 1) * (r.2.1.length + 1) * (r.2.2.1.length + 1)) st.length) := by
  have cl := cells_length (r := r) (ps := ps)
  rw [pl, ← Nat.mul_assoc] at cl
  generalize (r.1.length + 1) * (r.2.1.length + 1) * (r.2.2.1.length + 1) = W at hc cl ⊢
  unfold M_paper_of
  rw [bd_of (amount_i b), decide_eq_true (by omega : 0 ≤ b), decide_eq_true b1]
  refine ok_bd (Q := (· = false)) ?_ fun v hv => ok_f hv ?_
  · refine ok_f rfl ?_
    rw [bd_of (show asI (.int b) = some b from rfl)]
    exact ok_some (decide_eq_false (by omega))
  rw [hc]
  by_cases hw : W ≤ 120
  · rw [if_pos hw]
    show Ok (bd (asI (.int b)) _) _
    rw [bd_of (show asI (.int b) = some b from rfl), bd_of hs]
    have e1 : (((cellsL r ps).length : Int) * (st.length : Int)) = ((W * st.length : Nat) : Int) := by rw [cl]; push_cast; rfl
    rw [e1]
    refine ok_gd (.inl ⟨by omega, by omega⟩) (ok_cond (fun c => ok_some (.inr ⟨by have := of_decide_eq_true c; omega, rfl⟩)) fun c => ok_lt ?_)
    have c : W * st.length ≤ 120 := by have := of_decide_eq_false c; omega
    refine ok_bd (ok_lp (Q := fun rows => rows.length = W * st.length) (fun i (p : List ((Str × Str × Int × Int) × Int × Int × (List (Int × Int × Str × Int)) × (List (Str × Int × Int)))) => p.length = i * st.length) (by rw [Nat.zero_mul]; rfl) (fun i x p hx hp2 => ?_) fun p hp2 => by rw [hp2, cl]) fun rows hr => ok_some (.inl ⟨c, rows, rfl, hr⟩)
    have hi := (List.getElem?_eq_some_iff.mp hx).1
    rw [cl] at hi
    have m1 : (i + 1) * st.length ≤ W * st.length := Nat.mul_le_mul_right _ hi
    rw [Nat.add_mul] at m1
    refine ok_bd (ok_lp (Q := fun q => q.length = (i + 1) * st.length) (fun j (q : List ((Str × Str × Int × Int) × Int × Int × (List (Int × Int × Str × Int)) × (List (Str × Int × Int)))) => q.length = i * st.length + j) (by rw [hp2, Nat.add_zero]) (fun j y q hy hq => ?_) fun q hq => by rw [hq, Nat.add_mul, Nat.one_mul]) fun q hq => ok_some hq
    have hj := (List.getElem?_eq_some_iff.mp hy).1
    have iy := hp.inn y (List.mem_of_getElem? hy)
    refine ok_bd (row_any h hm (by omega) (by omega) _ _ (by omega)) fun v _ => ok_gd (by show _ < 16777216; omega) (ok_lt (ok_some (by rw [List.length_append, hq]; show _ + 1 = _; omega)))
  · rw [if_neg hw]
    show Ok (some (Xr.er Xc.TooWide)) _
    refine ok_some (.inr ⟨?_, rfl⟩)
    have := Nat.le_mul_of_pos_right W s1
    omega
def rf1 : Xc → Int
  | .TooWide => 1
  | .NoEntry => 2
def rf0 : Xr Xc (List CELL) → Int
  | .ok _ => 0
  | .er e => rf1 e
theorem refused_0 {bk : BookT} {x : Xr Xc (List CELL)} (d : D) (h : M_cells_of bk = some x) : M__law_refused 0 bk d = some (rf0 x) := by
  have o2 : ∀ a b : Bool, D.ok (.lst ([a, b].map D.bl)) := fun a b => (show Smp 1 (.lst ([a, b].map D.bl)) from .lst (smps_map fun z _ => .bl z)).ok
  unfold M__law_refused
  rw [h]
  cases x with
  | ok v => rfl
  | er e =>
    cases e with
    | NoEntry =>
      refine Ok.eq ?_
      show Ok (lt _ _) _
      refine ok_lt (ok_lt (ok_bd (Q := (· = false)) (ok_f rfl (ok_bd (Q := (· = false)) (ok_f rfl (ok_gd ⟨o2 _ _, o2 _ _⟩ (ok_some rfl))) fun v hv => ok_some hv)) fun v hv => ok_f hv ?_))
      exact ok_bd (Q := (· = 2)) (ok_t rfl (ok_bd (Q := (· = 1)) (ok_some rfl) fun j hj => ok_some (by rw [hj]; rfl))) fun v hv => ok_some hv
    | TooWide =>
      refine Ok.eq ?_
      show Ok (lt _ _) _
      refine ok_lt (ok_lt (ok_bd (Q := (· = false)) (ok_f rfl (ok_bd (Q := (· = false)) (ok_f rfl (ok_gd ⟨o2 _ _, o2 _ _⟩ (ok_some rfl))) fun v hv => ok_some hv)) fun v hv => ok_f hv ?_))
      exact ok_bd (Q := (· = 1)) (ok_t rfl (ok_bd (Q := (· = 0)) (ok_some rfl) fun j hj => ok_some (by rw [hj]; rfl))) fun v hv => ok_some hv
theorem refused_1 {bk : BookT} {d : D} {e : Xc} (h : M_paper_of bk d = some (.er e)) : M__law_refused 1 bk d = some (rf1 e) := by
  have o2 : ∀ a b : Bool, D.ok (.lst ([a, b].map D.bl)) := fun a b => (show Smp 1 (.lst ([a, b].map D.bl)) from .lst (smps_map fun z _ => .bl z)).ok
  unfold M__law_refused
  rw [h]
  cases e with
  | NoEntry =>
    refine Ok.eq ?_
    show Ok (lt _ _) _
    refine ok_lt (ok_lt (ok_bd (Q := (· = false)) (ok_f rfl (ok_bd (Q := (· = false)) (ok_f rfl (ok_gd ⟨o2 _ _, o2 _ _⟩ (ok_some rfl))) fun v hv => ok_some hv)) fun v hv => ok_f hv ?_))
    exact ok_bd (Q := (· = 2)) (ok_t rfl (ok_bd (Q := (· = 1)) (ok_some rfl) fun j hj => ok_some (by rw [hj]; rfl))) fun v hv => ok_some hv
  | TooWide =>
    refine Ok.eq ?_
    show Ok (lt _ _) _
    refine ok_lt (ok_lt (ok_bd (Q := (· = false)) (ok_f rfl (ok_bd (Q := (· = false)) (ok_f rfl (ok_gd ⟨o2 _ _, o2 _ _⟩ (ok_some rfl))) fun v hv => ok_some hv)) fun v hv => ok_f hv ?_))
    exact ok_bd (Q := (· = 1)) (ok_t rfl (ok_bd (Q := (· = 0)) (ok_some rfl) fun j hj => ok_some (by rw [hj]; rfl))) fun v hv => ok_some hv
def nc (b k : Nat) : Str := cutS ("abcdefgh" : Str) (some (k : Int)) (some (((k : Int) + 1) + (b : Int)))
def nt (k : Nat) : Str := repS ("h" : Str) ((k : Int) + 1)
def namT (x : Str) : Bool := decide (1 ≤ x.length) && (decide (x.length ≤ 8) && x.cps.toList.all (fun c => 97 ≤ c && c ≤ 122))
theorem namT_ok {x : Str} (h : namT x = true) : Nam x := by
  unfold namT at h
  rw [Bool.and_eq_true, Bool.and_eq_true, decide_eq_true_iff, decide_eq_true_iff] at h
  exact ⟨h.1, h.2.1, h.2.2⟩
theorem nc_nam : ∀ b < 2, ∀ k < 7, namT (nc b k) = true := by decide +kernel
theorem nt_nam : ∀ k < 7, namT (nt k) = true := by decide +kernel
theorem nc_inj : ∀ b < 2, ∀ k < 7, ∀ j < 7, nc b k = nc b j → k = j := by decide +kernel
theorem nt_inj : ∀ k < 7, ∀ j < 7, nt k = nt j → k = j := by decide +kernel
def cvK (nm : Str) (cd : Cd) (w : Bool) : CoverT := (nm, cd, [], [nm], [1], w)
theorem cover_k {nm : Str} {cd : Cd} {w : Bool} (hn : Nam nm) (ns : nm ≠ "self") : M_Cover___init__ nm cd () () w = some (cvK nm cd w) := by
  unfold M_Cover___init__
  refine Ok.eq ?_
  rw [bd_of hn.is]
  refine ok_f (by rw [beq_eq_false_iff_ne.mpr ns]; rfl) (ok_lt (ok_f rfl (ok_lt ?_)))
  rw [bd_of (houses_ok (ps := [(nm, (1 : Int))]) (by show 1 ≤ 1000; decide) (fun p m => by cases List.mem_singleton.mp m; exact hn) (by simp))]
  refine ok_gd (by show 1 < 16777216; decide) (ok_gd wok1 (ok_some rfl))
/-- the conditions of one kind -/
def Ps (b : Nat) (s g : Int) (n0 n1 n2 n3 : Nat) : Nat → List Cd
  | 0 => (List.range n0).map fun k => .cause (nc b k)
  | 1 => (List.range n1).map fun k => .thing (nt k)
  | 2 => (List.range n2).map fun k : Nat => .days (s + g * (k : Int), 1000000)
  | _ => (List.range n3).map fun k : Nat => .over (s + g * (k : Int))
def csOf (b : Nat) (s g w : Int) (n0 n1 n2 n3 : Nat) : List CoverT := (List.range 4).map fun k => cvK (sg1 (97 + k)) (lsm (Ps b s g n0 n1 n2 n3 k)) (w == (k : Int))
section
variable {b n0 n1 n2 n3 : Nat} {s g w : Int}
theorem ps_at (k : Nat) : ∀ c ∈ Ps b s g n0 n1 n2 n3 k, At c := fun c m => by
  match k, m with
  | 0, m => obtain ⟨j, _, rfl⟩ := List.mem_map.mp m; exact .cause _
  | 1, m => obtain ⟨j, _, rfl⟩ := List.mem_map.mp m; exact .thing _
  | 2, m => obtain ⟨j, _, rfl⟩ := List.mem_map.mp m; exact .days _
  | k + 3, m => obtain ⟨j, _, rfl⟩ := List.mem_map.mp m; exact .over _
theorem ps_len (h0 : n0 ≤ 7) (h1 : n1 ≤ 7) (h2 : n2 ≤ 7) (h3 : n3 ≤ 7) (k : Nat) : (Ps b s g n0 n1 n2 n3 k).length ≤ 7 := by
  match k with
  | 0 => show ((List.range n0).map _).length ≤ 7; rw [List.length_map, List.length_range]; exact h0
  | 1 => show ((List.range n1).map _).length ≤ 7; rw [List.length_map, List.length_range]; exact h1
  | 2 => show ((List.range n2).map _).length ≤ 7; rw [List.length_map, List.length_range]; exact h2
  | k + 3 => show ((List.range n3).map _).length ≤ 7; rw [List.length_map, List.length_range]; exact h3
theorem fk_ok (s0 : 1 ≤ s) (s1 : s ≤ 50000) (g0 : 1 ≤ g) (g1 : g ≤ 50000) {k : Nat} (hk : k < 7) : 1 ≤ s + g * (k : Int) ∧ s + g * (k : Int) ≤ 350000 := by
  have h1 : 0 ≤ g * (k : Int) := Int.mul_nonneg (by omega) (by omega)
  have h2 : g * (k : Int) ≤ 50000 * 6 := Int.mul_le_mul g1 (by omega) (by omega) (by omega)
  omega
theorem fk_inj (g0 : 1 ≤ g) {k j : Nat} (e : s + g * (k : Int) = s + g * (j : Int)) : k = j := by
  have e : g * (k : Int) = g * (j : Int) := by omega
  have := Int.eq_of_mul_eq_mul_left (by omega : g ≠ 0) e
  omega
def Mem4 (b : Nat) (s g : Int) (n0 n1 n2 n3 : Nat) (m : Str × D) : Prop :=
  (∃ k, k < n0 ∧ m = (("cause" : Str), D.str (nc b k))) ∨ (∃ k, k < n1 ∧ m = (("thing" : Str), D.str (nt k))) ∨ (∃ k, k < n2 ∧ (m = (("day" : Str), D.int (s + g * (k : Int))) ∨ m = (("day" : Str), D.int 1000001))) ∨ (∃ k, k < n3 ∧ m = (("cents" : Str), D.int (s + g * (k : Int))))
theorem ps_mem {m : Str × D} : (∃ i, i < 4 ∧ m ∈ (Ps b s g n0 n1 n2 n3 i).flatMap mks1) ↔ Mem4 b s g n0 n1 n2 n3 m := by
  constructor
  · rintro ⟨i, hi, h⟩
    obtain ⟨c, mc, h⟩ := List.mem_flatMap.mp h
    have e : i = 0 ∨ i = 1 ∨ i = 2 ∨ i = 3 := by omega
    rcases e with rfl | rfl | rfl | rfl
    · obtain ⟨k, mk, rfl⟩ := List.mem_map.mp mc
      exact .inl ⟨k, List.mem_range.mp mk, List.mem_singleton.mp h⟩
    · obtain ⟨k, mk, rfl⟩ := List.mem_map.mp mc
      exact .inr (.inl ⟨k, List.mem_range.mp mk, List.mem_singleton.mp h⟩)
    · obtain ⟨k, mk, rfl⟩ := List.mem_map.mp mc
      refine .inr (.inr (.inl ⟨k, List.mem_range.mp mk, ?_⟩))
      rcases List.mem_cons.mp h with h | h
      · exact .inl h
      · exact .inr (List.mem_singleton.mp h)
    · obtain ⟨k, mk, rfl⟩ := List.mem_map.mp mc
      exact .inr (.inr (.inr ⟨k, List.mem_range.mp mk, List.mem_singleton.mp h⟩))
  · rintro (⟨k, hk, e⟩ | ⟨k, hk, e⟩ | ⟨k, hk, e⟩ | ⟨k, hk, e⟩)
    · exact ⟨0, by decide, List.mem_flatMap.mpr ⟨_, List.mem_map.mpr ⟨k, List.mem_range.mpr hk, rfl⟩, List.mem_singleton.mpr e⟩⟩
    · exact ⟨1, by decide, List.mem_flatMap.mpr ⟨_, List.mem_map.mpr ⟨k, List.mem_range.mpr hk, rfl⟩, List.mem_singleton.mpr e⟩⟩
    · refine ⟨2, by decide, List.mem_flatMap.mpr ⟨_, List.mem_map.mpr ⟨k, List.mem_range.mpr hk, rfl⟩, ?_⟩⟩
      rcases e with e | e
      · exact List.mem_cons.mpr (.inl e)
      · exact List.mem_cons_of_mem _ (List.mem_singleton.mpr e)
    · exact ⟨3, by decide, List.mem_flatMap.mpr ⟨_, List.mem_map.mpr ⟨k, List.mem_range.mpr hk, rfl⟩, List.mem_singleton.mpr e⟩⟩
theorem mem4_sh (hb : b < 2) (h0 : n0 ≤ 7) (h1 : n1 ≤ 7) (h2 : n2 ≤ 7) (h3 : n3 ≤ 7) (s0 : 1 ≤ s) (s1 : s ≤ 50000) (g0 : 1 ≤ g) (g1 : g ≤ 50000) {m : Str × D} (h : Mem4 b s g n0 n1 n2 n3 m) : MSh m := by
  rcases h with ⟨k, hk, e⟩ | ⟨k, hk, e⟩ | ⟨k, hk, e⟩ | ⟨k, hk, e⟩
  · subst e
    exact .inl ⟨.inl rfl, _, rfl, namT_ok (nc_nam b hb k (by omega))⟩
  · subst e
    exact .inl ⟨.inr rfl, _, rfl, namT_ok (nt_nam k (by omega))⟩
  · have := fk_ok s0 s1 g0 g1 (show k < 7 by omega)
    rcases e with e | e <;> subst e
    · exact .inr (.inl ⟨rfl, _, rfl, by omega⟩)
    · exact .inr (.inl ⟨rfl, _, rfl, by decide⟩)
  · have := fk_ok s0 s1 g0 g1 (show k < 7 by omega)
    subst e
    exact .inr (.inr ⟨rfl, _, rfl, by omega, by omega⟩)
theorem cs_k (hb : b < 2) (h0 : n0 ≤ 7) (h1 : n1 ≤ 7) (h2 : n2 ≤ 7) (h3 : n3 ≤ 7) (s0 : 1 ≤ s) (s1 : s ≤ 50000) (g0 : 1 ≤ g) (g1 : g ≤ 50000) : ∀ c ∈ csOf b s g w n0 n1 n2 n3, CdK c.2.1 ∧ Free c := fun c m => by
  obtain ⟨k, mk, rfl⟩ := List.mem_map.mp m
  have hk := List.mem_range.mp mk
  exact ⟨lsm_k (ps_at k) (ps_len h0 h1 h2 h3 k) fun m mm => mem4_sh hb h0 h1 h2 h3 s0 s1 g0 g1 (ps_mem.mp ⟨k, hk, mm⟩), rfl⟩
theorem cs_mem {m : Str × D} : m ∈ bmk (csOf b s g w n0 n1 n2 n3) ↔ Mem4 b s g n0 n1 n2 n3 m := by
  rw [← ps_mem]
  unfold bmk csOf
  rw [List.mem_flatMap]
  constructor
  · rintro ⟨c, mc, h⟩
    obtain ⟨k, mk, rfl⟩ := List.mem_map.mp mc
    refine ⟨k, List.mem_range.mp mk, ?_⟩
    rw [← lsm_mks (ps_at k)]
    exact h
  · rintro ⟨k, hk, h⟩
    refine ⟨_, List.mem_map.mpr ⟨k, List.mem_range.mpr hk, rfl⟩, ?_⟩
    show m ∈ mks (lsm _)
    rw [lsm_mks (ps_at k)]
    exact h
theorem abcd_at : ∀ j, j < 4 → ("abcd" : Str).cps.toList[j]? = some (97 + j) := by decide +kernel
theorem abcd_nam : ∀ k < 4, namT (sg1 (97 + k)) = true ∧ sg1 (97 + k) ≠ "self" := by decide +kernel
theorem abcd_nd : ((List.range 4).map fun k => sg1 (97 + k)).Nodup := by decide +kernel
theorem book_is (hb : b < 2) (eb : s % 2 = (b : Int)) (h0 : n0 ≤ 7) (h1 : n1 ≤ 7) (h2 : n2 ≤ 7) (h3 : n3 ≤ 7) (s0 : 1 ≤ s) (s1 : s ≤ 50000) (g0 : 1 ≤ g) (g1 : g ≤ 50000) : M__law_book [(n0 : Int), (n1 : Int), (n2 : Int), (n3 : Int)] s g w = some (csOf b s g w n0 n1 n2 n3, turnsOf (csOf b s g w n0 n1 n2 n3)) := by
  have lz : ("abcdefgh" : Str).length ≤ sizeLine := by decide +kernel
  have hz : ("h" : Str).length = 1 := by decide +kernel
  have rl : ∀ n : Nat, n ≤ 7 → (List.range (n : Int).toNat).length < sizeLine := fun n hn => by
    rw [List.length_range, Int.toNat_natCast]
    show n < 16777216
    omega
  have cm : ∀ k : Nat, k < 7 → CMul g (k : Int) := fun k hk => .inl ⟨by omega, by omega⟩
  unfold M__law_book
  refine Ok.eq ?_
  rw [bd_of (show L2.atI [(n0 : Int), (n1 : Int), (n2 : Int), (n3 : Int)] (0 : Int) = some (n0 : Int) from atI_nat (j := 0) rfl)]
  refine ok_gd ⟨by omega, by omega⟩ (ok_gd (rl n0 h0) ?_)
  refine ok_bd (ok_mpE (g := fun k : Nat => Cd.cause (nc b k)) fun k mk => ?_) fun v7 e7 => ?_
  · rw [gd_pos lz]
    show some (Cd.cause (cutS _ _ (some (((k : Int) + 1) + (s % 2))))) = _
    rw [eb]
    rfl
  rw [bd_of (show L2.atI [(n0 : Int), (n1 : Int), (n2 : Int), (n3 : Int)] (1 : Int) = some (n1 : Int) from atI_nat (j := 1) rfl)]
  refine ok_gd ⟨by omega, by omega⟩ (ok_gd (rl n1 h1) ?_)
  refine ok_bd (ok_mpE (g := fun k : Nat => Cd.thing (nt k)) fun k mk => ?_) fun v14 e14 => ?_
  · have hk := List.mem_range.mp mk
    rw [gd_pos ⟨⟨by omega, by omega⟩, by rw [hz]; omega⟩]
    rfl
  rw [bd_of (show L2.atI [(n0 : Int), (n1 : Int), (n2 : Int), (n3 : Int)] (2 : Int) = some (n2 : Int) from atI_nat (j := 2) rfl)]
  refine ok_gd ⟨by omega, by omega⟩ (ok_gd (rl n2 h2) ?_)
  refine ok_bd (ok_mpE (g := fun k : Nat => Cd.days (s + g * (k : Int), 1000000)) fun k mk => ?_) fun v21 e21 => ?_
  · have hk := List.mem_range.mp mk
    rw [gd_pos (cm k (by omega))]
    rfl
  rw [bd_of (show L2.atI [(n0 : Int), (n1 : Int), (n2 : Int), (n3 : Int)] (3 : Int) = some (n3 : Int) from atI_nat (j := 3) rfl)]
  refine ok_gd ⟨by omega, by omega⟩ (ok_gd (rl n3 h3) ?_)
  refine ok_bd (ok_mpE (g := fun k : Nat => Cd.over (s + g * (k : Int))) fun k mk => ?_) fun v28 e28 => ok_lt ?_
  · have hk := List.mem_range.mp mk
    rw [gd_pos (cm k (by omega))]
    rfl
  rw [Int.toNat_natCast] at e7 e14 e21 e28
  refine ok_bd (ok_lp (Q := (· = csOf b s g w n0 n1 n2 n3)) (fun i (p : List CoverT) => p = (csOf b s g w n0 n1 n2 n3).take i) rfl (fun i x p hx hp => ?_) fun p hp => ?_) fun cs ec => ?_
  · obtain ⟨hi, ex⟩ := List.getElem?_eq_some_iff.mp hx
    rw [List.length_range] at hi
    rw [List.getElem_range] at ex
    subst ex
    have hi : i < 4 := hi
    rw [bd_of (atI_nat (abcd_at i hi))]
    refine ok_gd (by decide +kernel) ?_
    have e4 : L2.atI [v7, v14, v21, v28] (i : Int) = some (Ps b s g n0 n1 n2 n3 i) := by
      have e : i = 0 ∨ i = 1 ∨ i = 2 ∨ i = 3 := by omega
      rcases e with rfl | rfl | rfl | rfl
      · rw [e7]; exact atI_nat (j := 0) rfl
      · rw [e14]; exact atI_nat (j := 1) rfl
      · rw [e21]; exact atI_nat (j := 2) rfl
      · rw [e28]; exact atI_nat (j := 3) rfl
    have pl : p.length ≤ 4 := by
      rw [hp, List.length_take]
      show min i ((List.range 4).map _).length ≤ 4
      rw [List.length_map, List.length_range]
      omega
    obtain ⟨c1, c2⟩ := abcd_nam i hi
    rw [bd_of e4, bd_of lsm_is, bd_of (cover_k (namT_ok c1) c2)]
    refine ok_gd (by show _ < 16777216; omega) (ok_lt (ok_some ?_))
    have hx : (csOf b s g w n0 n1 n2 n3)[i]? = some (cvK (sg1 (97 + i)) (lsm (Ps b s g n0 n1 n2 n3 i)) (w == (i : Int))) := by
      show ((List.range 4).map _)[i]? = _
      rw [List.getElem?_map, List.getElem?_range hi]
      rfl
    rw [take_snoc hx, hp]
  · rw [hp]
    exact List.take_of_length_le (by show ((List.range 4).map _).length ≤ _; rw [List.length_map]; exact Nat.le_refl _)
  · subst ec
    have nd : ((csOf b s g w n0 n1 n2 n3).map (·.1)).Nodup := by
      show (((List.range 4).map _).map _).Nodup
      rw [List.map_map]
      exact abcd_nd
    rw [bd_of (book_new (cs := csOf b s g w n0 n1 n2 n3) (by show ((List.range 4).map _).length ≤ 8; rw [List.length_map]; decide) nd)]
    exact ok_some rfl
end
theorem law_true (ns : List Int) (h : ns.length ≤ 63) : M_law ns = some true := by
  obtain ⟨x1, x2, x3, x4, x5, x6⟩ := wd_ne
  unfold M_law
  refine Ok.eq (ok_gd (by decide) ?_)
  refine ok_bd ((ok_mpM (fun y : Int => 0 ≤ y ∧ y < 8) fun k mk => ?_)) fun v4 ⟨l4, h4⟩ => ?_
  · have := List.mem_range.mp mk
    exact ok_bd (cell_ok (by omega)) fun v _ => ok_some (by omega)
  obtain ⟨a0, a1, a2, a3, e4⟩ : ∃ a0 a1 a2 a3, v4 = [a0, a1, a2, a3] := by
    match v4, l4 with
    | [a, b, c, d], _ => exact ⟨a, b, c, d, rfl⟩
  subst e4
  have q0 := h4 a0 (by simp)
  have q1 := h4 a1 (by simp)
  have q2 := h4 a2 (by simp)
  have q3 := h4 a3 (by simp)
  obtain ⟨n0, rfl⟩ := Int.eq_ofNat_of_zero_le q0.1
  obtain ⟨n1, rfl⟩ := Int.eq_ofNat_of_zero_le q1.1
  obtain ⟨n2, rfl⟩ := Int.eq_ofNat_of_zero_le q2.1
  obtain ⟨n3, rfl⟩ := Int.eq_ofNat_of_zero_le q3.1
  clear h4 l4
  have h0 : n0 ≤ 7 := by omega
  have h1 : n1 ≤ 7 := by omega
  have h2 : n2 ≤ 7 := by omega
  have h3 : n3 ≤ 7 := by omega
  refine ok_bd (cell_ok (by decide)) fun v5 _ => ok_ltx fun s es => ok_bd (cell_ok (by decide)) fun v6 _ => ok_ltx fun g eg => ok_bd (cell_ok (by decide)) fun v7 _ => ?_
  have s0 : 1 ≤ s ∧ s ≤ 50000 := by omega
  have g0 : 1 ≤ g ∧ g ≤ 50000 := by omega
  clear es eg
  obtain ⟨b, eb⟩ := Int.eq_ofNat_of_zero_le (show 0 ≤ s % 2 by omega)
  have hb : b < 2 := by omega
  rw [bd_of (book_is (w := v7 % 5) hb eb h0 h1 h2 h3 s0.1 s0.2 g0.1 g0.2)]
  have ck := cs_k (w := v7 % 5) hb h0 h1 h2 h3 s0.1 s0.2 g0.1 g0.2
  have cm : ∀ m, m ∈ bmk (csOf b s g (v7 % 5) n0 n1 n2 n3) ↔ Mem4 b s g n0 n1 n2 n3 m := fun m => cs_mem
  have cl : (csOf b s g (v7 % 5) n0 n1 n2 n3).length = 4 := by
    show ((List.range 4).map _).length = 4
    rw [List.length_map, List.length_range]
  generalize csOf b s g (v7 % 5) n0 n1 n2 n3 = cs at ck cm cl ⊢
  have B : BkOk (cs, turnsOf cs) := ⟨by show (turnsOf cs).length ≤ 4; rw [turns_len]; omega, fun c m => (ck c (turns_mem.mp m)).2, fun c m l => (ck c (turns_mem.mp m)).1.hl l⟩
  refine ok_bd (cell_ok (by decide)) fun v9 _ => ok_bd (cell_ok (by decide)) fun v10 _ => ok_bd (ok_atIm (Q := fun m : Int => 0 < m ∧ m ≤ 999999999999) (by omega) (by show _ < (2 : Int); omega) fun y m => ?_) fun v11 h11 => ok_gd h11.1 (ok_ltx fun bd_ ebd => ?_)
  · simp only [List.mem_cons, List.not_mem_nil, or_false] at m
    rcases m with rfl | rfl <;> omega
  have b0 : 1 ≤ bd_ ∧ bd_ ≤ 999999999999 := by
    have := Int.emod_nonneg v9 (by omega : v11 ≠ 0)
    have := Int.emod_lt_of_pos v9 h11.1
    omega
  clear ebd
  -- what the book tells
  obtain ⟨r, em, mx⟩ := marks_x (bk := (cs, turnsOf cs)) (fun c m => (ck c m).1) (by show cs.length ≤ 4; omega)
  have mx : MkX (bmk cs) r := mx
  have fk := fun {k : Nat} (hk : k < 7) => fk_ok s0.1 s0.2 g0.1 g0.2 hk
  have str_inj : ∀ {x y : Str}, D.str x = D.str y → x = y := fun e => D.str.inj e
  have int_inj : ∀ {x y : Int}, D.int x = D.int y → x = y := fun e => D.int.inj e
  have rng : ∀ {α : Type} {f : Nat → α} {n : Nat}, n ≤ 7 → (∀ k < 7, ∀ j < 7, f k = f j → k = j) → ((List.range n).map f).Nodup := fun {α f n} hn hf => List.pairwise_map.mpr (List.Pairwise.imp_of_mem (fun {x y} mx my ne e => ne (hf x (by
      have := List.mem_range.mp mx
      omega) y (by
      have := List.mem_range.mp my
      omega) e)) List.nodup_range)
  have w1 : r.1.length = n0 := by
    have := eq_len mx.ok.cn (rng h0 (nc_inj b hb)) fun x => by
      rw [mx.ok.cm, cm, List.mem_map]
      constructor
      · rintro (⟨k, hk, e⟩ | ⟨k, hk, e⟩ | ⟨k, hk, e⟩ | ⟨k, hk, e⟩)
        · exact ⟨k, List.mem_range.mpr hk, (str_inj (congrArg Prod.snd e)).symm⟩
        · exact absurd (congrArg Prod.fst e) x1
        · rcases e with e | e <;> exact absurd (congrArg Prod.fst e) x2
        · exact absurd (congrArg Prod.fst e) x3
      · rintro ⟨k, mk, e⟩
        exact .inl ⟨k, List.mem_range.mp mk, by rw [e]⟩
    rw [List.length_map, List.length_range] at this
    exact this
  have w2 : r.2.1.length = n1 := by
    have := eq_len mx.ok.tn (rng h1 nt_inj) fun x => by
      rw [mx.ok.tm, cm, List.mem_map]
      constructor
      · rintro (⟨k, hk, e⟩ | ⟨k, hk, e⟩ | ⟨k, hk, e⟩ | ⟨k, hk, e⟩)
        · exact absurd (congrArg Prod.fst e).symm x1
        · exact ⟨k, List.mem_range.mpr hk, (str_inj (congrArg Prod.snd e)).symm⟩
        · rcases e with e | e <;> exact absurd (congrArg Prod.fst e) x4
        · exact absurd (congrArg Prod.fst e) x5
      · rintro ⟨k, mk, e⟩
        exact .inr (.inl ⟨k, List.mem_range.mp mk, by rw [e]⟩)
    rw [List.length_map, List.length_range] at this
    exact this
  have dmem : ∀ i : Int, i ∈ r.2.2.1 ↔ i ∈ (List.range n2).map fun k : Nat => s + g * (k : Int) := fun i => by
    rw [mx.ok.dm, cm, List.mem_map]
    constructor
    · rintro ⟨⟨k, hk, e⟩ | ⟨k, hk, e⟩ | ⟨k, hk, e⟩ | ⟨k, hk, e⟩, i1, i2⟩
      · exact absurd (congrArg Prod.fst e).symm x2
      · exact absurd (congrArg Prod.fst e).symm x4
      · rcases e with e | e
        · exact ⟨k, List.mem_range.mpr hk, (int_inj (congrArg Prod.snd e)).symm⟩
        · have := int_inj (congrArg Prod.snd e)
          omega
      · exact absurd (congrArg Prod.fst e) x6
    · rintro ⟨k, mk, e⟩
      have hk := List.mem_range.mp mk
      have := fk (show k < 7 by omega)
      exact ⟨.inr (.inr (.inl ⟨k, hk, .inl (by rw [e])⟩)), by omega, by omega⟩
  have amem : ∀ i : Int, i ∈ r.2.2.2 ↔ i ∈ (List.range n3).map fun k : Nat => s + g * (k : Int) := fun i => by
    rw [mx.ok.am, cm, List.mem_map]
    constructor
    · rintro (⟨k, hk, e⟩ | ⟨k, hk, e⟩ | ⟨k, hk, e⟩ | ⟨k, hk, e⟩)
      · exact absurd (congrArg Prod.fst e).symm x3
      · exact absurd (congrArg Prod.fst e).symm x5
      · rcases e with e | e <;> exact absurd (congrArg Prod.fst e).symm x6
      · exact ⟨k, List.mem_range.mpr hk, (int_inj (congrArg Prod.snd e)).symm⟩
    · rintro ⟨k, mk, e⟩
      exact .inr (.inr (.inr ⟨k, List.mem_range.mp mk, by rw [e]⟩))
  have fnd : ∀ {n : Nat}, n ≤ 7 → ((List.range n).map fun k : Nat => s + g * (k : Int)).Nodup := fun hn => rng hn fun k _ j _ e => fk_inj g0.1 e
  have w3 : r.2.2.1.length = n2 := by
    have := eq_len mx.di (fnd h2) dmem
    rw [List.length_map, List.length_range] at this
    exact this
  have w4 : r.2.2.2.length = n3 := by
    have := eq_len mx.ai (fnd h3) amem
    rw [List.length_map, List.length_range] at this
    exact this
  obtain ⟨ps, ep, hp⟩ := parted_ok (first := 0) (last := 1000000) (by decide) mx.ok.ds (by omega)
  have pl : ps.length = n2 + 1 := by
    rw [hp.count (by decide) mx.di, List.filter_eq_self.mpr fun x m => ?_, w3]
    obtain ⟨k, mk, e⟩ := List.mem_map.mp ((dmem x).mp m)
    have := fk (show k < 7 by have := List.mem_range.mp mk; omega)
    have e : s + g * (k : Int) = x := e
    rw [Bool.and_eq_true, decide_eq_true_iff, decide_eq_true_iff]
    omega
  have ec := cells_at em ep (by omega) (by omega) (by omega) (by omega)
  obtain ⟨st, es, hs⟩ := stretches_ok (bound := bd_) em mx.ok.as (by omega) b0.1
  have and1 : (r.2.2.2.map (· + 1)).Nodup := List.pairwise_map.mpr (mx.ai.imp fun {a b} ne e => ne (by omega))
  have lC : ((List.range n3).filter fun k : Nat => decide (s + g * (k : Int) < bd_)).length ≤ 7 := by
    have := List.length_filter_le (fun k : Nat => decide (s + g * (k : Int) < bd_)) (List.range n3)
    rw [List.length_range] at this
    omega
  have sl : st.length = ((List.range n3).filter fun k : Nat => decide (s + g * (k : Int) < bd_)).length + 1 := by
    rw [hs.count b0.1 and1]
    congr 1
    have := eq_len (a := (r.2.2.2.map (· + 1)).filter fun m => decide (1 < m) && decide (m ≤ bd_)) (b := ((List.range n3).filter fun k : Nat => decide (s + g * (k : Int) < bd_)).map fun k : Nat => s + g * (k : Int) + 1) (and1.sublist List.filter_sublist) (List.pairwise_map.mpr ((List.nodup_range.sublist List.filter_sublist).imp fun {a b} ne e => ne (fk_inj (s := s) g0.1 (by omega)))) fun x => by
      rw [List.mem_filter, List.mem_map, List.mem_map, Bool.and_eq_true, decide_eq_true_iff, decide_eq_true_iff]
      constructor
      · rintro ⟨⟨a, ma, e⟩, m1, m2⟩
        obtain ⟨k, mk, e2⟩ := List.mem_map.mp ((amem a).mp ma)
        exact ⟨k, List.mem_filter.mpr ⟨mk, decide_eq_true (by omega)⟩, by omega⟩
      · rintro ⟨k, mk, e⟩
        obtain ⟨mk, k2⟩ := List.mem_filter.mp mk
        have k2 := of_decide_eq_true k2
        have := fk (show k < 7 by have := List.mem_range.mp mk; omega)
        exact ⟨⟨s + g * (k : Int), (amem _).mpr (List.mem_map.mpr ⟨k, mk, rfl⟩), e⟩, by omega, by omega⟩
    rw [List.length_map] at this
    exact this
  -- the law
  rw [bd_of (show L2.atI [(n0 : Int), (n1 : Int), (n2 : Int), (n3 : Int)] (0 : Int) = some (n0 : Int) from atI_nat (j := 0) rfl), bd_of (show L2.atI [(n0 : Int), (n1 : Int), (n2 : Int), (n3 : Int)] (1 : Int) = some (n1 : Int) from atI_nat (j := 1) rfl)]
  have W1 : (n0 + 1) * (n1 + 1) ≤ 64 := Nat.mul_le_mul (show n0 + 1 ≤ 8 by omega) (show n1 + 1 ≤ 8 by omega)
  have W2 : (n0 + 1) * (n1 + 1) * (n2 + 1) ≤ 64 * 8 := Nat.mul_le_mul W1 (show n2 + 1 ≤ 8 by omega)
  have e1 : ((n0 : Int) + 1) * ((n1 : Int) + 1) = (((n0 + 1) * (n1 + 1) : Nat) : Int) := by push_cast; rfl
  have e2 : ((n0 : Int) + 1) * ((n1 : Int) + 1) * ((n2 : Int) + 1) = (((n0 + 1) * (n1 + 1) * (n2 + 1) : Nat) : Int) := by push_cast; rfl
  refine ok_gd (.inl ⟨by omega, by omega⟩) ?_
  rw [bd_of (show L2.atI [(n0 : Int), (n1 : Int), (n2 : Int), (n3 : Int)] (2 : Int) = some (n2 : Int) from atI_nat (j := 2) rfl)]
  refine ok_gd (.inl ⟨by rw [e1]; omega, by omega⟩) ?_
  rw [e2]
  refine ok_ltx fun wide ew => ?_
  rw [bd_of (show L2.atI [(n0 : Int), (n1 : Int), (n2 : Int), (n3 : Int)] (3 : Int) = some (n3 : Int) from atI_nat (j := 3) rfl)]
  refine ok_gd ⟨by omega, by omega⟩ (ok_gd (by rw [List.length_range, Int.toNat_natCast]; show _ < 16777216; omega) ?_)
  have f1 := fmO_of (t := fun x21 : Nat => gd (CMul g (x21 : Int)) <| some (decide ((s + (g * (x21 : Int))) < bd_))) (f := fun x21 : Nat => some (x21 : Int)) (p := fun k : Nat => decide (s + g * (k : Int) < bd_)) (g := fun k : Nat => (k : Int)) (xs := List.range n3) (fun k mk => by
    have := List.mem_range.mp mk
    show gd _ _ = _
    rw [gd_pos (.inl ⟨by omega, by omega⟩)]) fun _ _ _ => rfl
  rw [Int.toNat_natCast, bd_of f1, List.length_map]
  refine ok_ltx fun cuts ecu => ?_
  refine ok_bd (cell_ok (by decide)) fun v25 _ => ok_bd (ok_atIm (Q := BadB) (by omega) (by show _ < (8 : Int); omega) fun y m => ?_) fun bad hbad => ?_
  · have no : ∀ {t : String} {d : D}, kitB t "int" = some false → d.tyN = some t → M_is_whole d = some false := fun {t d} hk hd => by
      have : isiD "int" d = some false := by
        unfold isiD
        rw [hd]
        exact hk
      unfold M_is_whole
      rw [bd_of this]
      rfl
    simp only [List.mem_cons, List.not_mem_nil, or_false] at m
    rcases m with rfl | rfl | rfl | rfl | rfl | rfl | rfl | rfl
    · exact .inl ⟨_, rfl, .inl (by decide)⟩
    · exact .inl ⟨_, rfl, .inl (by omega)⟩
    · exact .inl ⟨_, rfl, .inr (by omega)⟩
    · exact .inr (no (t := "NoneType") (by decide +kernel) rfl)
    · refine .inr ?_
      unfold M_is_whole
      rw [bd_of (show isiD "int" (.bl true) = some true from show kitB "bool" "int" = some true by decide +kernel)]
      show bd (bd (isiD "bool" (.bl true)) _) _ = _
      rw [bd_of (show isiD "bool" (.bl true) = some true from show kitB "bool" "bool" = some true by decide +kernel)]
      rfl
    · exact .inr (no (t := "str") (by decide +kernel) rfl)
    · exact .inr (no (t := "list") (by decide +kernel) rfl)
    · exact .inl ⟨_, rfl, .inr (by decide)⟩
  have rb := refused_1 (paper_bad (bk := (cs, turnsOf cs)) hbad)
  have r0 := refused_0 (.int bd_) ec
  rw [w1, w2, w3] at r0
  have er0 : rf0 (if (n0 + 1) * (n1 + 1) * (n2 + 1) ≤ 120 then Xr.ok (cellsL r ps) else Xr.er Xc.TooWide) = if decide (120 < wide) then 1 else 0 := by
    by_cases c : (n0 + 1) * (n1 + 1) * (n2 + 1) ≤ 120
    · rw [if_pos c, if_neg (by rw [decide_eq_true_iff]; omega)]
      rfl
    · rw [if_neg c, if_pos (by rw [decide_eq_true_iff]; omega)]
      rfl
  rw [er0] at r0
  rw [bd_of r0, bd_of rb]
  refine ok_bd (Q := (· = false)) (ok_f (by rw [beq_self_eq_true]; rfl) (ok_some rfl)) fun v hv => ok_f hv ?_
  have pp := paper_at (b := bd_) B em b0.1 b0.2 (by omega) (by omega) (by omega) (by omega) ec es hs (by omega) (by omega)
  rw [w1, w2, w3, sl] at pp
  have wc : wide * (cuts + 1) = (((n0 + 1) * (n1 + 1) * (n2 + 1) * (((List.range n3).filter fun k : Nat => decide (s + g * (k : Int) < bd_)).length + 1) : Nat) : Int) := by
    rw [ew, ecu]
    push_cast
    rfl
  have W3 : (n0 + 1) * (n1 + 1) * (n2 + 1) * (((List.range n3).filter fun k : Nat => decide (s + g * (k : Int) < bd_)).length + 1) ≤ 64 * 8 * 8 := Nat.mul_le_mul W2 (by omega)
  have cmw : CMul wide (cuts + 1) := .inl ⟨by omega, by omega⟩
  refine ok_gd cmw (ok_bd (Q := fun o => o = .nx ()) (ok_cond (fun c => ?_) fun c => ?_) fun o ho => ?_)
  · have c := of_decide_eq_true c
    obtain ⟨x, ex, hx⟩ := pp
    rcases hx with ⟨z, _⟩ | ⟨_, e⟩
    · omega
    · subst e
      rw [bd_of (refused_1 ex)]
      exact ok_f rfl (ok_some rfl)
  · have c := of_decide_eq_false c
    obtain ⟨x, ex, hx⟩ := pp
    rcases hx with ⟨_, rows, e, hl⟩ | ⟨z, _⟩
    · subst e
      rw [bd_of (show okx (M_paper_of (cs, turnsOf cs) (.int bd_)) = some rows by rw [ex]; rfl)]
      refine ok_gd cmw (ok_f ?_ (ok_some rfl))
      rw [hl, wc, beq_self_eq_true]
      rfl
    · omega
  · subst ho
    refine ok_bd (Q := (· = false)) (ok_cond (fun c => ?_) fun _ => ok_some rfl) fun v hv => ok_f hv ?_
    · have c := of_decide_eq_true c
      have e : M_cells_of (cs, turnsOf cs) = some (.ok (cellsL r ps)) := by
        rw [ec, w1, w2, w3, if_pos (by omega)]
      rw [bd_of (show okx (M_cells_of (cs, turnsOf cs)) = some (cellsL r ps) by rw [e]; rfl)]
      refine ok_some ?_
      rw [cells_length, w1, w2, pl, ← Nat.mul_assoc, ew, beq_self_eq_true]
      rfl
    · rw [bd_of es]
      refine ok_f ?_ ?_
      · rw [sl, ecu]
        show (!(((_ + 1 : Nat) : Int) == ((_ : Nat) : Int) + 1)) = false
        rw [show ((((List.range n3).filter fun k : Nat => decide (s + g * (k : Int) < bd_)).length + 1 : Nat) : Int) = (((List.range n3).filter fun k : Nat => decide (s + g * (k : Int) < bd_)).length : Int) + 1 by push_cast; rfl, beq_self_eq_true]
        rfl
      · rw [bd_of r0]
        refine ok_bd (Q := (· = true)) (ok_t (beq_self_eq_true _) ?_) fun v hv => ok_some hv
        rw [bd_of rb]
        exact ok_some rfl
abbrev N_law : List Str := ["_law_script", "_law_sizes", "_law_start", "_law_gap", "_law_book_here", "_law_bound", "_law_wide", "_law_cuts", "_law_bad", "_law_k"]
theorem sc_law : FnScope N_law ["_law_script"] (defScope s_law) := ⟨rfl, rfl, rfl, by decide +kernel, rfl, by decide +kernel, by decide +kernel⟩
theorem ok_law {f : Addr} {fd : FuncData} (F : Fun K "law" "law" s_law f fd) (z_range : mg "range" = none) (z_len : mg "len" = none) (z_int : mg "int" = none) (c__law_cell : Fn1 P w K mg base "_law_cell" 1 ["_law_script", "_law_k"] (sp__law_cell K)) (c__law_book : Fn1 P w K mg base "_law_book" 8 ["_law_sizes", "_law_start", "_law_gap", "_law_waits"] (sp__law_book K C_Book C_Cover C_Condition C_CauseIs C_ThingIs C_DaysIn C_Over C_Some C_Deal)) (c__law_refused : Fn1 P w K mg base "_law_refused" 70 ["_law_way", "_law_book_here", "_law_bound"] (sp__law_refused K C_Book C_Cover C_Condition C_CauseIs C_ThingIs C_DaysIn C_Over C_Some C_Deal)) (c_paper_of : Fn1E P w K mg base "paper_of" 69 ["book", "bound"] (sp_paper_of K C_Book C_Cover C_Condition C_CauseIs C_ThingIs C_DaysIn C_Over C_Some C_Deal C_NoEntry C_TooWide)) (c_cells_of : Fn1E P w K mg base "cells_of" 67 ["book"] (sp_cells_of K C_Book C_Cover C_Condition C_CauseIs C_ThingIs C_DaysIn C_Over C_Some C_Deal C_NoEntry C_TooWide)) (c_stretches_of : Fn1 P w K mg base "stretches_of" 67 ["book", "bound"] (sp_stretches_of K C_Book C_Cover C_Condition C_CauseIs C_ThingIs C_DaysIn C_Over C_Some C_Deal)) : FnOk P w K mg base CX0 71 f fd ["_law_script"] (spLaw K) := by
  refine fn_m F sc_law (fun x => rfl) (fun x _ => rfl) fun cdv A outer s H E hr script hx => ?_
  have hx : M_law script = some true := law_true script hx
  have nd := sc_law.nd
  unfold M_law at hx
  show MS _ [some (.vw (script.map D.int)), none, none, none, none, none, none, none, none, none] _ _
  replace hx := gd_some hx
  obtain ⟨g1, hx⟩ := hx
  replace hx := bd_some hx
  obtain ⟨v4, hv4, hx⟩ := hx
  refine ms_cons (m_setLcO (i := 1) (g := (gName 9)) (xs := (List.range (4 : Int).toNat)) (ys := v4) (enc := (fun k : Nat => D.int (k : Nat))) (enc2 := D.int) hv4 (fun te he => ps_setLc (i := 1) (own := [("_law_k", 9)]) rfl nd rfl rfl (sw_true rfl rfl rfl (by decide +kernel)) (pi_range1 (by rfl) z_range pa_w) (blkOk_by (N := N_law) (sc := defScope s_law) (by decide +kernel)) (fun _ _ _ _ _ => (pg_name (i := 9) nd rfl (Or.inl rfl))) (fun _ _ _ _ _ => pts_nil) he) (MI.c (mi_rangeT (mf_cons me_int mf_nil) ⟨by decide, by decide⟩)) g1 (fun x2 mx x2y hx => by replace hx := bd_some hx; obtain ⟨v3, hv3, hx⟩ := hx; injection hx with hx; subst x2y; exact ⟨_, _, mg_name, by decide, fun s H C cl fp => (me_mod (me_fn c__law_cell ((script, (x2 : Int)), v3) (ma_vw (ml_var (pv 0) rfl) (ma_fz (me_var (pv 9) rfl) ma_nil)) hv3 (hr.mono (by decide))) me_int (by decide))⟩) ?_)
  show MS _ [some (.vw (script.map D.int)), some (.lst ((v4.map D.int).map .fz)), none, none, none, none, none, none, none, none] _ _
  replace hx := bd_some hx
  obtain ⟨v5, hv5, hx⟩ := hx
  replace hx := lt_some hx
  obtain ⟨start, estart, hx⟩ := hx
  refine ms_cons (m_set (ps_set (i := 2) nd rfl (Or.inr rfl) pe_w) (ME.is (o' := (.fz (.int start))) (me_add me_int (me_mod (me_fn c__law_cell ((script, 4), v5) (ma_vw (ml_var (pv 0) rfl) (ma_fz me_int ma_nil)) hv5 (hr.mono (by decide))) me_int (by decide))) (by rw [estart] <;> rfl)) ?_)
  show MS _ [some (.vw (script.map D.int)), some (.lst ((v4.map D.int).map .fz)), some (.fz (.int start)), none, none, none, none, none, none, none] _ _
  replace hx := bd_some hx
  obtain ⟨v6, hv6, hx⟩ := hx
  replace hx := lt_some hx
  obtain ⟨gap, egap, hx⟩ := hx
  refine ms_cons (m_set (ps_set (i := 3) nd rfl (Or.inr rfl) pe_w) (ME.is (o' := (.fz (.int gap))) (me_add me_int (me_mod (me_fn c__law_cell ((script, 5), v6) (ma_vw (ml_var (pv 0) rfl) (ma_fz me_int ma_nil)) hv6 (hr.mono (by decide))) me_int (by decide))) (by rw [egap] <;> rfl)) ?_)
  show MS _ [some (.vw (script.map D.int)), some (.lst ((v4.map D.int).map .fz)), some (.fz (.int start)), some (.fz (.int gap)), none, none, none, none, none, none] _ _
  replace hx := bd_some hx
  obtain ⟨v7, hv7, hx⟩ := hx
  replace hx := bd_some hx
  obtain ⟨v8, hv8, hx⟩ := hx
  refine ms_cons (m_set (ps_set (i := 4) nd rfl (Or.inl rfl) pe_w) (me_fn c__law_book ((v4, start, gap, (v7 % 5)), v8) (ma_vw (ml_var (pv 1) rfl) (ma_fz (me_var (pv 2) rfl) (ma_fz (me_var (pv 3) rfl) (ma_fz (me_mod (me_fn c__law_cell ((script, 6), v7) (ma_vw (ml_var (pv 0) rfl) (ma_fz me_int ma_nil)) hv7 (hr.mono (by decide))) me_int (by decide)) ma_nil)))) hv8 (hr.mono (by decide))) ?_)
  show MS _ [some (.vw (script.map D.int)), some (.lst ((v4.map D.int).map .fz)), some (.fz (.int start)), some (.fz (.int gap)), some (.fz ((r_Book C_Book C_Cover C_Condition C_CauseIs C_ThingIs C_DaysIn C_Over C_Some C_Deal) v8)), none, none, none, none, none] _ _
  replace hx := bd_some hx
  obtain ⟨v9, hv9, hx⟩ := hx
  replace hx := bd_some hx
  obtain ⟨v10, hv10, hx⟩ := hx
  replace hx := bd_some hx
  obtain ⟨v11, hv11, hx⟩ := hx
  replace hx := gd_some hx
  obtain ⟨g12, hx⟩ := hx
  replace hx := lt_some hx
  obtain ⟨bound, ebound, hx⟩ := hx
  refine ms_cons (m_set (ps_set (i := 5) nd rfl (Or.inr rfl) pe_w) (ME.is (o' := (.fz (.int bound))) (me_add me_int (me_mod (me_fn c__law_cell ((script, 7), v9) (ma_vw (ml_var (pv 0) rfl) (ma_fz me_int ma_nil)) hv9 (hr.mono (by decide))) (me_ixLT (xs := [400000, (1000000000000 - 1)]) (enc := D.int) hv11 (ME.l (me_lst (ds := [400000, (1000000000000 - 1)].map D.int) (mf_cons me_int (mf_cons (me_sub (ME.is (o' := .fz (.int 1000000000000)) (me_pow me_int me_int ⟨by decide, by decide, by decide⟩) rfl) me_int) mf_nil)))) (me_mod (me_fn c__law_cell ((script, 8), v10) (ma_vw (ml_var (pv 0) rfl) (ma_fz me_int ma_nil)) hv10 (hr.mono (by decide))) me_int (by decide))) g12)) (by rw [ebound] <;> rfl)) ?_)
  show MS _ [some (.vw (script.map D.int)), some (.lst ((v4.map D.int).map .fz)), some (.fz (.int start)), some (.fz (.int gap)), some (.fz ((r_Book C_Book C_Cover C_Condition C_CauseIs C_ThingIs C_DaysIn C_Over C_Some C_Deal) v8)), some (.fz (.int bound)), none, none, none, none] _ _
  replace hx := bd_some hx
  obtain ⟨v13, hv13, hx⟩ := hx
  replace hx := bd_some hx
  obtain ⟨v14, hv14, hx⟩ := hx
  replace hx := gd_some hx
  obtain ⟨g15, hx⟩ := hx
  replace hx := bd_some hx
  obtain ⟨v16, hv16, hx⟩ := hx
  replace hx := gd_some hx
  obtain ⟨g17, hx⟩ := hx
  replace hx := lt_some hx
  obtain ⟨wide, ewide, hx⟩ := hx
  refine ms_cons (m_set (ps_set (i := 6) nd rfl (Or.inl rfl) pe_w) (ME.is (o' := (.fz (.int wide))) (me_mul (me_mul (me_add (me_ixLT (xs := v4) (enc := D.int) hv13 (ml_var (pv 1) rfl) me_int) me_int) (me_add (me_ixLT (xs := v4) (enc := D.int) hv14 (ml_var (pv 1) rfl) me_int) me_int) g15) (me_add (me_ixLT (xs := v4) (enc := D.int) hv16 (ml_var (pv 1) rfl) me_int) me_int) g17) (by rw [ewide] <;> rfl)) ?_)
  show MS _ [some (.vw (script.map D.int)), some (.lst ((v4.map D.int).map .fz)), some (.fz (.int start)), some (.fz (.int gap)), some (.fz ((r_Book C_Book C_Cover C_Condition C_CauseIs C_ThingIs C_DaysIn C_Over C_Some C_Deal) v8)), some (.fz (.int bound)), some (.fz (.int wide)), none, none, none] _ _
  replace hx := bd_some hx
  obtain ⟨v18, hv18, hx⟩ := hx
  replace hx := gd_some hx
  obtain ⟨g19, hx⟩ := hx
  replace hx := gd_some hx
  obtain ⟨g20, hx⟩ := hx
  replace hx := bd_some hx
  obtain ⟨v23, hv23, hx⟩ := hx
  replace hx := lt_some hx
  obtain ⟨cuts, ecuts, hx⟩ := hx
  refine ms_cons (m_set (ps_set (i := 7) nd rfl (Or.inl rfl) pe_w) (ME.is (o' := (.fz (.int cuts))) (me_lenLT (xs := v23) (enc := D.int) (by rfl) z_len (ME.l (by exact (me_lcIfO (g := (gName 9)) (xs := (List.range v18.toNat)) (ys := v23) (enc := (fun k : Nat => D.int (k : Nat))) (enc2 := D.int) hv23 (fun tt te ht he => pe_lc (own := [("_law_k", 9)]) rfl nd (pi_range1 (by rfl) z_range pa_w) (blkOk_by (N := N_law) (sc := defScope s_law) (by decide +kernel)) (fun _ _ _ _ _ => (pg_name (i := 9) nd rfl (Or.inl rfl))) (fun s H C cl fp => pts_one (ht s H C cl fp)) he) (MI.c (mi_rangeT (mf_cons (me_ixLT (xs := v4) (enc := D.int) hv18 (ml_var (pv 1) rfl) me_int) mf_nil) g19)) g20 (fun x21 mx k24 hx => by have hx := hx; replace hx := gd_some hx; obtain ⟨g22, hx⟩ := hx; injection hx with hx; subst k24; exact ⟨_, _, mg_name, by decide, fun s H C cl fp => ⟨(mt_lt (me_add (me_var (pv 2) rfl) (me_mul (me_var (pv 3) rfl) (me_var (pv 9) rfl) g22)) (me_var (pv 5) rfl)), fun hk x21y hx => by injection hx with hx; subst x21y; exact (me_var (pv 9) rfl)⟩⟩))))) (by rw [ecuts] <;> rfl)) ?_)
  show MS _ [some (.vw (script.map D.int)), some (.lst ((v4.map D.int).map .fz)), some (.fz (.int start)), some (.fz (.int gap)), some (.fz ((r_Book C_Book C_Cover C_Condition C_CauseIs C_ThingIs C_DaysIn C_Over C_Some C_Deal) v8)), some (.fz (.int bound)), some (.fz (.int wide)), some (.fz (.int cuts)), none, none] _ _
  replace hx := bd_some hx
  obtain ⟨v25, hv25, hx⟩ := hx
  replace hx := bd_some hx
  obtain ⟨v26, hv26, hx⟩ := hx
  refine ms_cons (m_set (ps_set (i := 8) nd rfl (Or.inl rfl) pe_w) (me_ixLT (xs := [(.int (0 : Int) : D), (.int ((-(1 : Int)) - bound)), (.int (1000000000000 + (bound % 7))), (.non), (.bl true), (.str ("1.00" : Str)), (.lst ([bound].map D.int)), (.int (1000000000000 : Int))]) (enc := e_d) hv26 (ME.l (me_lst (ds := [(.int (0 : Int) : D), (.int ((-(1 : Int)) - bound)), (.int (1000000000000 + (bound % 7))), (.non), (.bl true), (.str ("1.00" : Str)), (.lst ([bound].map D.int)), (.int (1000000000000 : Int))].map e_d) (mf_cons me_int (mf_cons (me_sub (me_neg me_int) (me_var (pv 5) rfl)) (mf_cons (me_add (ME.is (o' := .fz (.int 1000000000000)) (me_pow me_int me_int ⟨by decide, by decide, by decide⟩) rfl) (me_mod (me_var (pv 5) rfl) me_int (by decide))) (mf_cons me_non (mf_cons me_bl (mf_cons me_str (mf_cons (ME.frzl (me_lst (ds := [bound].map D.int) (mf_cons (me_var (pv 5) rfl) mf_nil))) (mf_cons (ME.is (o' := .fz (.int 1000000000000)) (me_pow me_int me_int ⟨by decide, by decide, by decide⟩) rfl) mf_nil)))))))))) (me_mod (me_fn c__law_cell ((script, 9), v25) (ma_vw (ml_var (pv 0) rfl) (ma_fz me_int ma_nil)) hv25 (hr.mono (by decide))) me_int (by decide))) ?_)
  show MS _ [some (.vw (script.map D.int)), some (.lst ((v4.map D.int).map .fz)), some (.fz (.int start)), some (.fz (.int gap)), some (.fz ((r_Book C_Book C_Cover C_Condition C_CauseIs C_ThingIs C_DaysIn C_Over C_Some C_Deal) v8)), some (.fz (.int bound)), some (.fz (.int wide)), some (.fz (.int cuts)), some (.fz v26), none] _ _
  replace hx := bd_some hx
  obtain ⟨v27, hv27, hx⟩ := hx
  replace hx := bd_some hx
  obtain ⟨v29, hv29, hx⟩ := hx
  refine ms_cons (m_if (t := v29) (MW.t (MW.is (mw_or (mt_neI (me_fn c__law_refused ((0, v8, (.int bound)), v27) (ma_fz me_int (ma_fz (me_var (pv 4) rfl) (ma_fz (me_var (pv 5) rfl) ma_nil))) hv27 (hr.mono (by decide))) (me_intB (by rfl) z_int (me_gt (me_var (pv 6) rfl) me_int))) fun q30 => (by have hx := cond_f hv29 q30; replace hx := bd_some hx; obtain ⟨v28, hv28, hx⟩ := hx; cases hx; exact (mw_or1 (mt_neI (me_fn c__law_refused ((1, v8, v26), v28) (ma_fz me_int (ma_fz (me_var (pv 4) rfl) (ma_fz (me_var (pv 8) rfl) ma_nil))) hv28 (hr.mono (by decide))) me_int)))) (or_c hv29))) (fun h => ?_) fun h => ms_nil ?_)
  · replace hx := cond_t hx h
    refine ms_one (m_ret (ps_ret pe_w) (ME.r me_bl) ?_)
    first | (cases hx; done) | (cases hx; rfl) | (injection hx with hx; show O.fz (.bl _) = O.fz (.bl true); rw [hx])
  replace hx := cond_f hx h
  replace hx := gd_some hx
  obtain ⟨g31, hx⟩ := hx
  replace hx := bd_some hx
  obtain ⟨o33, ho33, hx⟩ := hx
  refine ms_cons (m_ifO (out := o33) (fun p32 => [some (.vw (script.map D.int)), some (.lst ((v4.map D.int).map .fz)), some (.fz (.int start)), some (.fz (.int gap)), some (.fz ((r_Book C_Book C_Cover C_Condition C_CauseIs C_ThingIs C_DaysIn C_Over C_Some C_Deal) v8)), some (.fz (.int bound)), some (.fz (.int wide)), some (.fz (.int cuts)), some (.fz v26), none]) (fun _ : Unit => []) (fun r => .fz (.bl r)) (t := (decide (120 < (wide * (cuts + 1))))) (mt_gt (me_mul (me_var (pv 6) rfl) (me_add (me_var (pv 7) rfl) me_int) g31) me_int) (fun h => ?_) (fun h => ?_) (fun p32 τ e le => ?_) (fun q τ e le => ?_) (fun q τ e le => ?_) fun q e => ?_)
  · replace hx := cond_t ho33 h
    replace hx := bd_some hx
    obtain ⟨v34, hv34, hx⟩ := hx
    refine ms_one (m_if (t := (!(v34 == 1))) (mt_neI (me_fn c__law_refused ((1, v8, (.int bound)), v34) (ma_fz me_int (ma_fz (me_var (pv 4) rfl) (ma_fz (me_var (pv 5) rfl) ma_nil))) hv34 (hr.mono (by decide))) me_int) (fun h => ?_) fun h => ms_nil ?_)
    · replace hx := cond_t hx h
      refine ms_one (m_ret (ps_ret pe_w) (ME.r me_bl) ?_)
      cases hx; exact ⟨_, rfl, rfl⟩
    replace hx := cond_f hx h
    cases hx; exact ⟨_, rfl, le_auto⟩
  · replace hx := cond_f ho33 h
    replace hx := bd_some hx
    obtain ⟨v35, hv35, hx⟩ := hx
    replace hx := gd_some hx
    obtain ⟨g36, hx⟩ := hx
    refine ms_one (m_if (t := (!((v35.length : Int) == (wide * (cuts + 1))))) (mt_neI (me_lenLT (xs := v35) (enc := e_T_T_s_s_i_i_i_i_L_T_i_i_s_i_L_T_s_i_i) (by rfl) z_len (ME.l (me_fn (Fn1E.ok c_paper_of) ((v8, (.int bound)), .ok v35) (ma_fz (me_var (pv 4) rfl) (ma_fz (me_var (pv 5) rfl) ma_nil)) ⟨okx_is hv35, (by intro _ z; cases z)⟩ (hr.mono (by decide))))) (me_mul (me_var (pv 6) rfl) (me_add (me_var (pv 7) rfl) me_int) g36)) (fun h => ?_) fun h => ms_nil ?_)
    · replace hx := cond_t hx h
      refine ms_one (m_ret (ps_ret pe_w) (ME.r me_bl) ?_)
      cases hx; exact ⟨_, rfl, rfl⟩
    replace hx := cond_f hx h
    cases hx; exact ⟨_, rfl, le_auto⟩
  · subst e
    dsimp only [ouR] at hx
    refine ms_le le ?_
    show MS _ [some (.vw (script.map D.int)), some (.lst ((v4.map D.int).map .fz)), some (.fz (.int start)), some (.fz (.int gap)), some (.fz ((r_Book C_Book C_Cover C_Condition C_CauseIs C_ThingIs C_DaysIn C_Over C_Some C_Deal) v8)), some (.fz (.int bound)), some (.fz (.int wide)), some (.fz (.int cuts)), some (.fz v26), none] _ _
    replace hx := bd_some hx
    obtain ⟨v38, hv38, hx⟩ := hx
    refine ms_cons (m_if (t := v38) (MW.t (MW.is (mw_and (mt_le (me_var (pv 6) rfl) me_int) fun q39 => (by have hx := cond_t hv38 q39; replace hx := bd_some hx; obtain ⟨v37, hv37, hx⟩ := hx; cases hx; exact (mw_and1 (mt_neI (me_lenLT (xs := v37) (enc := e_T_s_s_i_i) (by rfl) z_len (ME.l (me_fn (Fn1E.ok c_cells_of) (v8, .ok v37) (ma_fz (me_var (pv 4) rfl) ma_nil) ⟨okx_is hv37, (by intro _ z; cases z)⟩ (hr.mono (by decide))))) (me_var (pv 6) rfl))))) (and_c hv38))) (fun h => ?_) fun h => ms_nil ?_)
    · replace hx := cond_t hx h
      refine ms_one (m_ret (ps_ret pe_w) (ME.r me_bl) ?_)
      first | (cases hx; done) | (cases hx; rfl) | (injection hx with hx; show O.fz (.bl _) = O.fz (.bl true); rw [hx])
    replace hx := cond_f hx h
    replace hx := bd_some hx
    obtain ⟨v40, hv40, hx⟩ := hx
    refine ms_cons (m_if (t := (!((v40.length : Int) == (cuts + 1)))) (mt_neI (me_lenLT (xs := v40) (enc := e_T_i_i) (by rfl) z_len (ME.l (me_fn c_stretches_of ((v8, bound), v40) (ma_fz (me_var (pv 4) rfl) (ma_fz (me_var (pv 5) rfl) ma_nil)) hv40 (hr.mono (by decide))))) (me_add (me_var (pv 7) rfl) me_int)) (fun h => ?_) fun h => ms_nil ?_)
    · replace hx := cond_t hx h
      refine ms_one (m_ret (ps_ret pe_w) (ME.r me_bl) ?_)
      first | (cases hx; done) | (cases hx; rfl) | (injection hx with hx; show O.fz (.bl _) = O.fz (.bl true); rw [hx])
    replace hx := cond_f hx h
    replace hx := bd_some hx
    obtain ⟨v41, hv41, hx⟩ := hx
    replace hx := bd_some hx
    obtain ⟨v43, hv43, hx⟩ := hx
    refine ms_one (m_ret (ps_ret pe_w) (ME.r (ME.isB (me_and (me_eqI (me_fn c__law_refused ((0, v8, (.int bound)), v41) (ma_fz me_int (ma_fz (me_var (pv 4) rfl) (ma_fz (me_var (pv 5) rfl) ma_nil))) hv41 (hr.mono (by decide))) (me_intB (by rfl) z_int (me_gt (me_var (pv 6) rfl) me_int))) fun q44 => (by have hx := cond_t hv43 q44; replace hx := bd_some hx; obtain ⟨v42, hv42, hx⟩ := hx; cases hx; exact (me_one (me_eqI (me_fn c__law_refused ((1, v8, v26), v42) (ma_fz me_int (ma_fz (me_var (pv 4) rfl) (ma_fz (me_var (pv 8) rfl) ma_nil))) hv42 (hr.mono (by decide))) me_int)))) (and_c hv43))) ?_)
    first | (cases hx; done) | (cases hx; rfl) | (injection hx with hx; show O.fz (.bl _) = O.fz (.bl true); rw [hx])
  · subst e; cases hx
  · subst e; cases hx
  · subst e; cases hx; rfl
end
theorem all_mk {l : PySem.W.OpenLaw} {w : World} {K : PySem.W.Frag} {h : Heap} {mg : Str → Option Value} {fa : Addr} (X : K.In h) (G : h.Ns mainGlobals mg) (hfa : mg "law" = some (.ref fa))
    {C_CauseIs : Addr} (a_CauseIs : PySem.W.nsIn K mainGlobals "CauseIs" = some (some (.ref C_CauseIs))) (pg_CauseIs : PySem.W.plainGet K C_CauseIs Str.empty = true) (hd_CauseIs : PySem.W.hasDictIn K C_CauseIs = true) (po_CauseIs : PySem.W.plainOver K C_CauseIs = true) (sa_CauseIs : PySem.W.findIn K (.ref C_CauseIs) "__setattr__" = some (some (.builtin "object.__setattr__"))) (mk_CauseIs : PySem.W.makesIn K C_CauseIs = true) (kc_CauseIs : PySem.W.keepIn K (.ref C_CauseIs) = true)
    (na_CauseIs_name : PySem.W.findIn K (.ref C_CauseIs) "name" = some none)
    {C_ThingIs : Addr} (a_ThingIs : PySem.W.nsIn K mainGlobals "ThingIs" = some (some (.ref C_ThingIs))) (pg_ThingIs : PySem.W.plainGet K C_ThingIs Str.empty = true) (hd_ThingIs : PySem.W.hasDictIn K C_ThingIs = true) (po_ThingIs : PySem.W.plainOver K C_ThingIs = true) (sa_ThingIs : PySem.W.findIn K (.ref C_ThingIs) "__setattr__" = some (some (.builtin "object.__setattr__"))) (mk_ThingIs : PySem.W.makesIn K C_ThingIs = true) (kc_ThingIs : PySem.W.keepIn K (.ref C_ThingIs) = true)
    (na_ThingIs_name : PySem.W.findIn K (.ref C_ThingIs) "name" = some none)
    {C_DaysIn : Addr} (a_DaysIn : PySem.W.nsIn K mainGlobals "DaysIn" = some (some (.ref C_DaysIn))) (pg_DaysIn : PySem.W.plainGet K C_DaysIn Str.empty = true) (hd_DaysIn : PySem.W.hasDictIn K C_DaysIn = true) (po_DaysIn : PySem.W.plainOver K C_DaysIn = true) (sa_DaysIn : PySem.W.findIn K (.ref C_DaysIn) "__setattr__" = some (some (.builtin "object.__setattr__"))) (mk_DaysIn : PySem.W.makesIn K C_DaysIn = true) (kc_DaysIn : PySem.W.keepIn K (.ref C_DaysIn) = true)
    (na_DaysIn_first : PySem.W.findIn K (.ref C_DaysIn) "first" = some none)
    (na_DaysIn_last : PySem.W.findIn K (.ref C_DaysIn) "last" = some none)
    {C_Over : Addr} (a_Over : PySem.W.nsIn K mainGlobals "Over" = some (some (.ref C_Over))) (pg_Over : PySem.W.plainGet K C_Over Str.empty = true) (hd_Over : PySem.W.hasDictIn K C_Over = true) (po_Over : PySem.W.plainOver K C_Over = true) (sa_Over : PySem.W.findIn K (.ref C_Over) "__setattr__" = some (some (.builtin "object.__setattr__"))) (mk_Over : PySem.W.makesIn K C_Over = true) (kc_Over : PySem.W.keepIn K (.ref C_Over) = true)
    (na_Over_cents : PySem.W.findIn K (.ref C_Over) "cents" = some none)
    {C_Some : Addr} (a_Some : PySem.W.nsIn K mainGlobals "Some" = some (some (.ref C_Some))) (pg_Some : PySem.W.plainGet K C_Some Str.empty = true) (hd_Some : PySem.W.hasDictIn K C_Some = true) (po_Some : PySem.W.plainOver K C_Some = true) (sa_Some : PySem.W.findIn K (.ref C_Some) "__setattr__" = some (some (.builtin "object.__setattr__"))) (mk_Some : PySem.W.makesIn K C_Some = true) (kc_Some : PySem.W.keepIn K (.ref C_Some) = true)
    (na_Some_several : PySem.W.findIn K (.ref C_Some) "several" = some none)
    {C_Condition : Addr} (a_Condition : PySem.W.nsIn K mainGlobals "Condition" = some (some (.ref C_Condition))) (pg_Condition : PySem.W.plainGet K C_Condition Str.empty = true) (hd_Condition : PySem.W.hasDictIn K C_Condition = true) (po_Condition : PySem.W.plainOver K C_Condition = true) (sa_Condition : PySem.W.findIn K (.ref C_Condition) "__setattr__" = some (some (.builtin "object.__setattr__"))) (mk_Condition : PySem.W.makesIn K C_Condition = true) (kc_Condition : PySem.W.keepIn K (.ref C_Condition) = true)
    {C_Deal : Addr} (a_Deal : PySem.W.nsIn K mainGlobals "Deal" = some (some (.ref C_Deal))) (pg_Deal : PySem.W.plainGet K C_Deal Str.empty = true) (hd_Deal : PySem.W.hasDictIn K C_Deal = true) (po_Deal : PySem.W.plainOver K C_Deal = true) (sa_Deal : PySem.W.findIn K (.ref C_Deal) "__setattr__" = some (some (.builtin "object.__setattr__"))) (mk_Deal : PySem.W.makesIn K C_Deal = true) (kc_Deal : PySem.W.keepIn K (.ref C_Deal) = true)
    (na_Deal_wheel : PySem.W.findIn K (.ref C_Deal) "wheel" = some none)
    (na_Deal_weights : PySem.W.findIn K (.ref C_Deal) "weights" = some none)
    {C_Cover : Addr} (a_Cover : PySem.W.nsIn K mainGlobals "Cover" = some (some (.ref C_Cover))) (pg_Cover : PySem.W.plainGet K C_Cover Str.empty = true) (hd_Cover : PySem.W.hasDictIn K C_Cover = true) (po_Cover : PySem.W.plainOver K C_Cover = true) (sa_Cover : PySem.W.findIn K (.ref C_Cover) "__setattr__" = some (some (.builtin "object.__setattr__"))) (mk_Cover : PySem.W.makesIn K C_Cover = true) (kc_Cover : PySem.W.keepIn K (.ref C_Cover) = true)
    (na_Cover_name : PySem.W.findIn K (.ref C_Cover) "name" = some none)
    (na_Cover_condition : PySem.W.findIn K (.ref C_Cover) "condition" = some none)
    (na_Cover_clauses : PySem.W.findIn K (.ref C_Cover) "clauses" = some none)
    (na_Cover_houses : PySem.W.findIn K (.ref C_Cover) "houses" = some none)
    (na_Cover_deal : PySem.W.findIn K (.ref C_Cover) "deal" = some none)
    (na_Cover_waits : PySem.W.findIn K (.ref C_Cover) "waits" = some none)
    {C_Book : Addr} (a_Book : PySem.W.nsIn K mainGlobals "Book" = some (some (.ref C_Book))) (pg_Book : PySem.W.plainGet K C_Book Str.empty = true) (hd_Book : PySem.W.hasDictIn K C_Book = true) (po_Book : PySem.W.plainOver K C_Book = true) (sa_Book : PySem.W.findIn K (.ref C_Book) "__setattr__" = some (some (.builtin "object.__setattr__"))) (mk_Book : PySem.W.makesIn K C_Book = true) (kc_Book : PySem.W.keepIn K (.ref C_Book) = true)
    (na_Book_covers : PySem.W.findIn K (.ref C_Book) "covers" = some none)
    (na_Book_asking : PySem.W.findIn K (.ref C_Book) "asking" = some none)
    {C_Counts : Addr} (a_Counts : PySem.W.nsIn K mainGlobals "Counts" = some (some (.ref C_Counts))) (pg_Counts : PySem.W.plainGet K C_Counts Str.empty = true) (hd_Counts : PySem.W.hasDictIn K C_Counts = true) (po_Counts : PySem.W.plainOver K C_Counts = true) (sa_Counts : PySem.W.findIn K (.ref C_Counts) "__setattr__" = some (some (.builtin "object.__setattr__"))) (mk_Counts : PySem.W.makesIn K C_Counts = true) (kc_Counts : PySem.W.keepIn K (.ref C_Counts) = true)
    (na_Counts_held : PySem.W.findIn K (.ref C_Counts) "held" = some none)
    {C_CoverError : Addr} (a_CoverError : PySem.W.nsIn K mainGlobals "CoverError" = some (some (.ref C_CoverError)))
    {C_NoBook : Addr} (a_NoBook : PySem.W.nsIn K mainGlobals "NoBook" = some (some (.ref C_NoBook)))
    {C_NotTold : Addr} (a_NotTold : PySem.W.nsIn K mainGlobals "NotTold" = some (some (.ref C_NotTold)))
    {C_TooWide : Addr} (a_TooWide : PySem.W.nsIn K mainGlobals "TooWide" = some (some (.ref C_TooWide)))
    {C_NoEntry : Addr} (a_NoEntry : PySem.W.nsIn K mainGlobals "NoEntry" = some (some (.ref C_NoEntry)))
    (xq_TooWide : PySem.W.excIn K C_TooWide [.type "ValueError", .type "Exception", .type "BaseException", .type "object"] "ValueError.__new__" = true)
    (xk_TooWide : PySem.W.keepIn K (.ref C_TooWide) = true)
    (xb_TooWide : PySem.W.subIn K (.ref C_TooWide) (.type "BaseException") = some true)
    (xt_TooWide : PySem.W.typeIn K (.ref C_TooWide) = some (.type "type"))
    (xq_NoEntry : PySem.W.excIn K C_NoEntry [.type "ValueError", .type "Exception", .type "BaseException", .type "object"] "ValueError.__new__" = true)
    (xk_NoEntry : PySem.W.keepIn K (.ref C_NoEntry) = true)
    (xb_NoEntry : PySem.W.subIn K (.ref C_NoEntry) (.type "BaseException") = some true)
    (xt_NoEntry : PySem.W.typeIn K (.ref C_NoEntry) = some (.type "type"))
    (xg_NoEntry : PySem.W.findIn K (.ref C_NoEntry) "__getattribute__" = some (some (.builtin "BaseException.__getattribute__")))
    (xh_NoEntry : PySem.W.findIn K (.ref C_NoEntry) "__getattr__" = some none)
    (xd_NoEntry : PySem.W.hasDictIn K C_NoEntry = true)
    (xa_NoEntry : PySem.W.findIn K (.ref C_NoEntry) "__class__" = some (some (.builtin "object.__class__")))
    (xm_NoEntry : PySem.W.mroIn K C_NoEntry (.type "object") = some true)
    (xg_TooWide : PySem.W.findIn K (.ref C_TooWide) "__getattribute__" = some (some (.builtin "BaseException.__getattribute__")))
    (xh_TooWide : PySem.W.findIn K (.ref C_TooWide) "__getattr__" = some none)
    (xd_TooWide : PySem.W.hasDictIn K C_TooWide = true)
    (xa_TooWide : PySem.W.findIn K (.ref C_TooWide) "__class__" = some (some (.builtin "object.__class__")))
    (xm_TooWide : PySem.W.mroIn K C_TooWide (.type "object") = some true)
    (xn0 : PySem.W.specialIn K (.builtin "object.__class__") "__get__" = some (some (.builtin "getset_descriptor.__get__"))) (xt0 : PySem.W.takesIn K (.builtin "object.__class__") = some true)
    (xb_CoverError : PySem.W.subIn K (.ref C_CoverError) (.type "BaseException") = some true)
    (xd_CoverError : PySem.W.hasDictIn K C_CoverError = true)
    (xt_CoverError : PySem.W.typeIn K (.ref C_CoverError) = some (.type "type"))
    (xs_NoEntry_CoverError : PySem.W.subIn K (.ref C_NoEntry) (.ref C_CoverError) = some true)
    (xs_TooWide_CoverError : PySem.W.subIn K (.ref C_TooWide) (.ref C_CoverError) = some true)
    (ob_Condition : PySem.W.findIn K (.ref C_Condition) "__init__" = some (some (.builtin "object.__init__")))
    {f0 : Addr} {od0 an0 : Option Addr} {sl0 : Array (Option Value)} {oc0 kV0 dc0 pm0 cd0 ct0 : Value}
    (a0 : PySem.W.nsIn K mainGlobals "_law_cell" = some (some (.ref f0))) (l0 : K.lookup f0 = some ⟨oc0, od0, .func (PySem.W.fnOf "_law_cell" "_law_cell" (defArgs s__law_cell) (defBody s__law_cell) (defScope s__law_cell) .none kV0 dc0 pm0 an0 cd0 ct0), sl0⟩) (c0 : PySem.W.codeIn K cd0 "_law_cell" = true) (k0 : PySem.W.keepIn K (.ref f0) = true)
    {f1 : Addr} {od1 an1 : Option Addr} {sl1 : Array (Option Value)} {oc1 kV1 dc1 pm1 cd1 ct1 : Value}
    (a1 : PySem.W.findIn K (.ref C_CauseIs) "__init__" = some (some (.ref f1))) (l1 : K.lookup f1 = some ⟨oc1, od1, .func (PySem.W.fnOf "__init__" "CauseIs.__init__" (defArgs s_CauseIs___init__) (defBody s_CauseIs___init__) (defScope s_CauseIs___init__) .none kV1 dc1 pm1 an1 cd1 ct1), sl1⟩) (c1 : PySem.W.codeIn K cd1 "CauseIs.__init__" = true) (k1 : PySem.W.keepIn K (.ref f1) = true) (i1 : PySem.W.isFn K (.ref f1) = true)
    {f2 : Addr} {od2 an2 : Option Addr} {sl2 : Array (Option Value)} {oc2 kV2 dc2 pm2 cd2 ct2 : Value}
    (a2 : PySem.W.findIn K (.ref C_ThingIs) "__init__" = some (some (.ref f2))) (l2 : K.lookup f2 = some ⟨oc2, od2, .func (PySem.W.fnOf "__init__" "ThingIs.__init__" (defArgs s_ThingIs___init__) (defBody s_ThingIs___init__) (defScope s_ThingIs___init__) .none kV2 dc2 pm2 an2 cd2 ct2), sl2⟩) (c2 : PySem.W.codeIn K cd2 "ThingIs.__init__" = true) (k2 : PySem.W.keepIn K (.ref f2) = true) (i2 : PySem.W.isFn K (.ref f2) = true)
    {f3 : Addr} {od3 an3 : Option Addr} {sl3 : Array (Option Value)} {oc3 kV3 dc3 pm3 cd3 ct3 : Value}
    (a3 : PySem.W.findIn K (.ref C_DaysIn) "__init__" = some (some (.ref f3))) (l3 : K.lookup f3 = some ⟨oc3, od3, .func (PySem.W.fnOf "__init__" "DaysIn.__init__" (defArgs s_DaysIn___init__) (defBody s_DaysIn___init__) (defScope s_DaysIn___init__) .none kV3 dc3 pm3 an3 cd3 ct3), sl3⟩) (c3 : PySem.W.codeIn K cd3 "DaysIn.__init__" = true) (k3 : PySem.W.keepIn K (.ref f3) = true) (i3 : PySem.W.isFn K (.ref f3) = true)
    {f4 : Addr} {od4 an4 : Option Addr} {sl4 : Array (Option Value)} {oc4 kV4 dc4 pm4 cd4 ct4 : Value}
    (a4 : PySem.W.findIn K (.ref C_Over) "__init__" = some (some (.ref f4))) (l4 : K.lookup f4 = some ⟨oc4, od4, .func (PySem.W.fnOf "__init__" "Over.__init__" (defArgs s_Over___init__) (defBody s_Over___init__) (defScope s_Over___init__) .none kV4 dc4 pm4 an4 cd4 ct4), sl4⟩) (c4 : PySem.W.codeIn K cd4 "Over.__init__" = true) (k4 : PySem.W.keepIn K (.ref f4) = true) (i4 : PySem.W.isFn K (.ref f4) = true)
    {f5 : Addr} {od5 an5 : Option Addr} {sl5 : Array (Option Value)} {oc5 kV5 dc5 pm5 cd5 ct5 : Value}
    (a5 : PySem.W.findIn K (.ref C_Some) "__init__" = some (some (.ref f5))) (l5 : K.lookup f5 = some ⟨oc5, od5, .func (PySem.W.fnOf "__init__" "Some.__init__" (defArgs s_Some___init__) (defBody s_Some___init__) (defScope s_Some___init__) .none kV5 dc5 pm5 an5 cd5 ct5), sl5⟩) (c5 : PySem.W.codeIn K cd5 "Some.__init__" = true) (k5 : PySem.W.keepIn K (.ref f5) = true) (i5 : PySem.W.isFn K (.ref f5) = true)
    {f6 : Addr} {od6 an6 : Option Addr} {sl6 : Array (Option Value)} {oc6 kV6 dc6 pm6 cd6 ct6 : Value}
    (a6 : PySem.W.nsIn K mainGlobals "_law_some" = some (some (.ref f6))) (l6 : K.lookup f6 = some ⟨oc6, od6, .func (PySem.W.fnOf "_law_some" "_law_some" (defArgs s__law_some) (defBody s__law_some) (defScope s__law_some) .none kV6 dc6 pm6 an6 cd6 ct6), sl6⟩) (c6 : PySem.W.codeIn K cd6 "_law_some" = true) (k6 : PySem.W.keepIn K (.ref f6) = true)
    {f7 : Addr} {od7 an7 : Option Addr} {sl7 : Array (Option Value)} {oc7 kV7 dc7 pm7 cd7 ct7 : Value}
    (a7 : PySem.W.nsIn K mainGlobals "is_name" = some (some (.ref f7))) (l7 : K.lookup f7 = some ⟨oc7, od7, .func (PySem.W.fnOf "is_name" "is_name" (defArgs s_is_name) (defBody s_is_name) (defScope s_is_name) .none kV7 dc7 pm7 an7 cd7 ct7), sl7⟩) (c7 : PySem.W.codeIn K cd7 "is_name" = true) (k7 : PySem.W.keepIn K (.ref f7) = true)
    {f8 : Addr} {od8 an8 : Option Addr} {sl8 : Array (Option Value)} {oc8 kV8 dc8 pm8 cd8 ct8 : Value}
    (a8 : PySem.W.nsIn K mainGlobals "need_houses" = some (some (.ref f8))) (l8 : K.lookup f8 = some ⟨oc8, od8, .func (PySem.W.fnOf "need_houses" "need_houses" (defArgs s_need_houses) (defBody s_need_houses) (defScope s_need_houses) .none kV8 dc8 pm8 an8 cd8 ct8), sl8⟩) (c8 : PySem.W.codeIn K cd8 "need_houses" = true) (k8 : PySem.W.keepIn K (.ref f8) = true)
    {f9 : Addr} {od9 an9 : Option Addr} {sl9 : Array (Option Value)} {oc9 kV9 dc9 pm9 cd9 ct9 : Value}
    (a9 : PySem.W.nsIn K mainGlobals "is_whole" = some (some (.ref f9))) (l9 : K.lookup f9 = some ⟨oc9, od9, .func (PySem.W.fnOf "is_whole" "is_whole" (defArgs s_is_whole) (defBody s_is_whole) (defScope s_is_whole) .none kV9 dc9 pm9 an9 cd9 ct9), sl9⟩) (c9 : PySem.W.codeIn K cd9 "is_whole" = true) (k9 : PySem.W.keepIn K (.ref f9) = true)
    {f10 : Addr} {od10 an10 : Option Addr} {sl10 : Array (Option Value)} {oc10 kV10 dc10 pm10 cd10 ct10 : Value}
    (a10 : PySem.W.nsIn K mainGlobals "total_of" = some (some (.ref f10))) (l10 : K.lookup f10 = some ⟨oc10, od10, .func (PySem.W.fnOf "total_of" "total_of" (defArgs s_total_of) (defBody s_total_of) (defScope s_total_of) .none kV10 dc10 pm10 an10 cd10 ct10), sl10⟩) (c10 : PySem.W.codeIn K cd10 "total_of" = true) (k10 : PySem.W.keepIn K (.ref f10) = true)
    {f11 : Addr} {od11 an11 : Option Addr} {sl11 : Array (Option Value)} {oc11 kV11 dc11 pm11 cd11 ct11 : Value}
    (a11 : PySem.W.nsIn K mainGlobals "due_by" = some (some (.ref f11))) (l11 : K.lookup f11 = some ⟨oc11, od11, .func (PySem.W.fnOf "due_by" "due_by" (defArgs s_due_by) (defBody s_due_by) (defScope s_due_by) .none kV11 dc11 pm11 an11 cd11 ct11), sl11⟩) (c11 : PySem.W.codeIn K cd11 "due_by" = true) (k11 : PySem.W.keepIn K (.ref f11) = true)
    {f12 : Addr} {od12 an12 : Option Addr} {sl12 : Array (Option Value)} {oc12 kV12 dc12 pm12 cd12 ct12 : Value}
    (a12 : PySem.W.nsIn K mainGlobals "next_place" = some (some (.ref f12))) (l12 : K.lookup f12 = some ⟨oc12, od12, .func (PySem.W.fnOf "next_place" "next_place" (defArgs s_next_place) (defBody s_next_place) (defScope s_next_place) .none kV12 dc12 pm12 an12 cd12 ct12), sl12⟩) (c12 : PySem.W.codeIn K cd12 "next_place" = true) (k12 : PySem.W.keepIn K (.ref f12) = true)
    {f13 : Addr} {od13 an13 : Option Addr} {sl13 : Array (Option Value)} {oc13 kV13 dc13 pm13 cd13 ct13 : Value}
    (a13 : PySem.W.nsIn K mainGlobals "turns" = some (some (.ref f13))) (l13 : K.lookup f13 = some ⟨oc13, od13, .func (PySem.W.fnOf "turns" "turns" (defArgs s_turns) (defBody s_turns) (defScope s_turns) .none kV13 dc13 pm13 an13 cd13 ct13), sl13⟩) (c13 : PySem.W.codeIn K cd13 "turns" = true) (k13 : PySem.W.keepIn K (.ref f13) = true)
    {f14 : Addr} {od14 an14 : Option Addr} {sl14 : Array (Option Value)} {oc14 kV14 dc14 pm14 cd14 ct14 : Value}
    (a14 : PySem.W.findIn K (.ref C_Deal) "__init__" = some (some (.ref f14))) (l14 : K.lookup f14 = some ⟨oc14, od14, .func (PySem.W.fnOf "__init__" "Deal.__init__" (defArgs s_Deal___init__) (defBody s_Deal___init__) (defScope s_Deal___init__) .none kV14 dc14 pm14 an14 cd14 ct14), sl14⟩) (c14 : PySem.W.codeIn K cd14 "Deal.__init__" = true) (k14 : PySem.W.keepIn K (.ref f14) = true) (i14 : PySem.W.isFn K (.ref f14) = true)
    {f15 : Addr} {fd15 : FuncData}
    (a15 : PySem.W.findIn K (.ref C_Cover) "__init__" = some (some (.ref f15))) (F15 : FunD K "__init__" "Cover.__init__" (defArgs s_Cover___init__) (defBody s_Cover___init__) (defScope s_Cover___init__) [.non, .non, .bl false] [] f15 fd15) (k15 : PySem.W.keepIn K (.ref f15) = true) (i15 : PySem.W.isFn K (.ref f15) = true)
    {f16 : Addr} {od16 an16 : Option Addr} {sl16 : Array (Option Value)} {oc16 kV16 dc16 pm16 cd16 ct16 : Value}
    (a16 : PySem.W.findIn K (.ref C_Book) "__init__" = some (some (.ref f16))) (l16 : K.lookup f16 = some ⟨oc16, od16, .func (PySem.W.fnOf "__init__" "Book.__init__" (defArgs s_Book___init__) (defBody s_Book___init__) (defScope s_Book___init__) .none kV16 dc16 pm16 an16 cd16 ct16), sl16⟩) (c16 : PySem.W.codeIn K cd16 "Book.__init__" = true) (k16 : PySem.W.keepIn K (.ref f16) = true) (i16 : PySem.W.isFn K (.ref f16) = true)
    {f17 : Addr} {od17 an17 : Option Addr} {sl17 : Array (Option Value)} {oc17 kV17 dc17 pm17 cd17 ct17 : Value}
    (a17 : PySem.W.nsIn K mainGlobals "_law_book" = some (some (.ref f17))) (l17 : K.lookup f17 = some ⟨oc17, od17, .func (PySem.W.fnOf "_law_book" "_law_book" (defArgs s__law_book) (defBody s__law_book) (defScope s__law_book) .none kV17 dc17 pm17 an17 cd17 ct17), sl17⟩) (c17 : PySem.W.codeIn K cd17 "_law_book" = true) (k17 : PySem.W.keepIn K (.ref f17) = true)
    {f18 : Addr} {od18 an18 : Option Addr} {sl18 : Array (Option Value)} {oc18 kV18 dc18 pm18 cd18 ct18 : Value}
    (a18 : PySem.W.findIn K (.ref C_Condition) "marks" = some (some (.ref f18))) (l18 : K.lookup f18 = some ⟨oc18, od18, .func (PySem.W.fnOf "marks" "Condition.marks" (defArgs s_Condition_marks) (defBody s_Condition_marks) (defScope s_Condition_marks) .none kV18 dc18 pm18 an18 cd18 ct18), sl18⟩) (c18 : PySem.W.codeIn K cd18 "Condition.marks" = true) (k18 : PySem.W.keepIn K (.ref f18) = true) (i18 : PySem.W.isFn K (.ref f18) = true)
    {f19 : Addr} {od19 an19 : Option Addr} {sl19 : Array (Option Value)} {oc19 kV19 dc19 pm19 cd19 ct19 : Value}
    (a19 : PySem.W.findIn K (.ref C_CauseIs) "marks" = some (some (.ref f19))) (l19 : K.lookup f19 = some ⟨oc19, od19, .func (PySem.W.fnOf "marks" "CauseIs.marks" (defArgs s_CauseIs_marks) (defBody s_CauseIs_marks) (defScope s_CauseIs_marks) .none kV19 dc19 pm19 an19 cd19 ct19), sl19⟩) (c19 : PySem.W.codeIn K cd19 "CauseIs.marks" = true) (k19 : PySem.W.keepIn K (.ref f19) = true) (i19 : PySem.W.isFn K (.ref f19) = true)
    {f20 : Addr} {od20 an20 : Option Addr} {sl20 : Array (Option Value)} {oc20 kV20 dc20 pm20 cd20 ct20 : Value}
    (a20 : PySem.W.findIn K (.ref C_ThingIs) "marks" = some (some (.ref f20))) (l20 : K.lookup f20 = some ⟨oc20, od20, .func (PySem.W.fnOf "marks" "ThingIs.marks" (defArgs s_ThingIs_marks) (defBody s_ThingIs_marks) (defScope s_ThingIs_marks) .none kV20 dc20 pm20 an20 cd20 ct20), sl20⟩) (c20 : PySem.W.codeIn K cd20 "ThingIs.marks" = true) (k20 : PySem.W.keepIn K (.ref f20) = true) (i20 : PySem.W.isFn K (.ref f20) = true)
    {f21 : Addr} {od21 an21 : Option Addr} {sl21 : Array (Option Value)} {oc21 kV21 dc21 pm21 cd21 ct21 : Value}
    (a21 : PySem.W.findIn K (.ref C_DaysIn) "marks" = some (some (.ref f21))) (l21 : K.lookup f21 = some ⟨oc21, od21, .func (PySem.W.fnOf "marks" "DaysIn.marks" (defArgs s_DaysIn_marks) (defBody s_DaysIn_marks) (defScope s_DaysIn_marks) .none kV21 dc21 pm21 an21 cd21 ct21), sl21⟩) (c21 : PySem.W.codeIn K cd21 "DaysIn.marks" = true) (k21 : PySem.W.keepIn K (.ref f21) = true) (i21 : PySem.W.isFn K (.ref f21) = true)
    {f22 : Addr} {od22 an22 : Option Addr} {sl22 : Array (Option Value)} {oc22 kV22 dc22 pm22 cd22 ct22 : Value}
    (a22 : PySem.W.findIn K (.ref C_Over) "marks" = some (some (.ref f22))) (l22 : K.lookup f22 = some ⟨oc22, od22, .func (PySem.W.fnOf "marks" "Over.marks" (defArgs s_Over_marks) (defBody s_Over_marks) (defScope s_Over_marks) .none kV22 dc22 pm22 an22 cd22 ct22), sl22⟩) (c22 : PySem.W.codeIn K cd22 "Over.marks" = true) (k22 : PySem.W.keepIn K (.ref f22) = true) (i22 : PySem.W.isFn K (.ref f22) = true)
    {f23 : Addr} {od23 an23 : Option Addr} {sl23 : Array (Option Value)} {oc23 kV23 dc23 pm23 cd23 ct23 : Value}
    (a23 : PySem.W.nsIn K mainGlobals "joined_marks" = some (some (.ref f23))) (l23 : K.lookup f23 = some ⟨oc23, od23, .func (PySem.W.fnOf "joined_marks" "joined_marks" (defArgs s_joined_marks) (defBody s_joined_marks) (defScope s_joined_marks) .none kV23 dc23 pm23 an23 cd23 ct23), sl23⟩) (c23 : PySem.W.codeIn K cd23 "joined_marks" = true) (k23 : PySem.W.keepIn K (.ref f23) = true)
    {f24 : Addr} {od24 an24 : Option Addr} {sl24 : Array (Option Value)} {oc24 kV24 dc24 pm24 cd24 ct24 : Value}
    (a24 : PySem.W.findIn K (.ref C_Some) "marks" = some (some (.ref f24))) (l24 : K.lookup f24 = some ⟨oc24, od24, .func (PySem.W.fnOf "marks" "Some.marks" (defArgs s_Some_marks) (defBody s_Some_marks) (defScope s_Some_marks) .none kV24 dc24 pm24 an24 cd24 ct24), sl24⟩) (c24 : PySem.W.codeIn K cd24 "Some.marks" = true) (k24 : PySem.W.keepIn K (.ref f24) = true) (i24 : PySem.W.isFn K (.ref f24) = true)
    {f25 : Addr} {od25 an25 : Option Addr} {sl25 : Array (Option Value)} {oc25 kV25 dc25 pm25 cd25 ct25 : Value}
    (a25 : PySem.W.nsIn K mainGlobals "marks_of" = some (some (.ref f25))) (l25 : K.lookup f25 = some ⟨oc25, od25, .func (PySem.W.fnOf "marks_of" "marks_of" (defArgs s_marks_of) (defBody s_marks_of) (defScope s_marks_of) .none kV25 dc25 pm25 an25 cd25 ct25), sl25⟩) (c25 : PySem.W.codeIn K cd25 "marks_of" = true) (k25 : PySem.W.keepIn K (.ref f25) = true)
    {f26 : Addr} {od26 an26 : Option Addr} {sl26 : Array (Option Value)} {oc26 kV26 dc26 pm26 cd26 ct26 : Value}
    (a26 : PySem.W.nsIn K mainGlobals "parted" = some (some (.ref f26))) (l26 : K.lookup f26 = some ⟨oc26, od26, .func (PySem.W.fnOf "parted" "parted" (defArgs s_parted) (defBody s_parted) (defScope s_parted) .none kV26 dc26 pm26 an26 cd26 ct26), sl26⟩) (c26 : PySem.W.codeIn K cd26 "parted" = true) (k26 : PySem.W.keepIn K (.ref f26) = true)
    {f27 : Addr} {od27 an27 : Option Addr} {sl27 : Array (Option Value)} {oc27 kV27 dc27 pm27 cd27 ct27 : Value}
    (a27 : PySem.W.nsIn K mainGlobals "cells_of" = some (some (.ref f27))) (l27 : K.lookup f27 = some ⟨oc27, od27, .func (PySem.W.fnOf "cells_of" "cells_of" (defArgs s_cells_of) (defBody s_cells_of) (defScope s_cells_of) .none kV27 dc27 pm27 an27 cd27 ct27), sl27⟩) (c27 : PySem.W.codeIn K cd27 "cells_of" = true) (k27 : PySem.W.keepIn K (.ref f27) = true)
    {f28 : Addr} {od28 an28 : Option Addr} {sl28 : Array (Option Value)} {oc28 kV28 dc28 pm28 cd28 ct28 : Value}
    (a28 : PySem.W.nsIn K mainGlobals "is_whole" = some (some (.ref f28))) (l28 : K.lookup f28 = some ⟨oc28, od28, .func (PySem.W.fnOf "is_whole" "is_whole" (defArgs s_is_whole) (defBody s_is_whole) (defScope s_is_whole) .none kV28 dc28 pm28 an28 cd28 ct28), sl28⟩) (c28 : PySem.W.codeIn K cd28 "is_whole" = true) (k28 : PySem.W.keepIn K (.ref f28) = true)
    {f29 : Addr} {od29 an29 : Option Addr} {sl29 : Array (Option Value)} {oc29 kV29 dc29 pm29 cd29 ct29 : Value}
    (a29 : PySem.W.nsIn K mainGlobals "is_amount" = some (some (.ref f29))) (l29 : K.lookup f29 = some ⟨oc29, od29, .func (PySem.W.fnOf "is_amount" "is_amount" (defArgs s_is_amount) (defBody s_is_amount) (defScope s_is_amount) .none kV29 dc29 pm29 an29 cd29 ct29), sl29⟩) (c29 : PySem.W.codeIn K cd29 "is_amount" = true) (k29 : PySem.W.keepIn K (.ref f29) = true)
    {f30 : Addr} {od30 an30 : Option Addr} {sl30 : Array (Option Value)} {oc30 kV30 dc30 pm30 cd30 ct30 : Value}
    (a30 : PySem.W.nsIn K mainGlobals "stretches_of" = some (some (.ref f30))) (l30 : K.lookup f30 = some ⟨oc30, od30, .func (PySem.W.fnOf "stretches_of" "stretches_of" (defArgs s_stretches_of) (defBody s_stretches_of) (defScope s_stretches_of) .none kV30 dc30 pm30 an30 cd30 ct30), sl30⟩) (c30 : PySem.W.codeIn K cd30 "stretches_of" = true) (k30 : PySem.W.keepIn K (.ref f30) = true)
    {f31 : Addr} {od31 an31 : Option Addr} {sl31 : Array (Option Value)} {oc31 kV31 dc31 pm31 cd31 ct31 : Value}
    (a31 : PySem.W.nsIn K mainGlobals "another" = some (some (.ref f31))) (l31 : K.lookup f31 = some ⟨oc31, od31, .func (PySem.W.fnOf "another" "another" (defArgs s_another) (defBody s_another) (defScope s_another) .none kV31 dc31 pm31 an31 cd31 ct31), sl31⟩) (c31 : PySem.W.codeIn K cd31 "another" = true) (k31 : PySem.W.keepIn K (.ref f31) = true)
    {f32 : Addr} {od32 an32 : Option Addr} {sl32 : Array (Option Value)} {oc32 kV32 dc32 pm32 cd32 ct32 : Value}
    (a32 : PySem.W.nsIn K mainGlobals "loss_in" = some (some (.ref f32))) (l32 : K.lookup f32 = some ⟨oc32, od32, .func (PySem.W.fnOf "loss_in" "loss_in" (defArgs s_loss_in) (defBody s_loss_in) (defScope s_loss_in) .none kV32 dc32 pm32 an32 cd32 ct32), sl32⟩) (c32 : PySem.W.codeIn K cd32 "loss_in" = true) (k32 : PySem.W.keepIn K (.ref f32) = true)
    {f33 : Addr} {od33 an33 : Option Addr} {sl33 : Array (Option Value)} {oc33 kV33 dc33 pm33 cd33 ct33 : Value}
    (a33 : PySem.W.findIn K (.ref C_Counts) "__init__" = some (some (.ref f33))) (l33 : K.lookup f33 = some ⟨oc33, od33, .func (PySem.W.fnOf "__init__" "Counts.__init__" (defArgs s_Counts___init__) (defBody s_Counts___init__) (defScope s_Counts___init__) .none kV33 dc33 pm33 an33 cd33 ct33), sl33⟩) (c33 : PySem.W.codeIn K cd33 "Counts.__init__" = true) (k33 : PySem.W.keepIn K (.ref f33) = true) (i33 : PySem.W.isFn K (.ref f33) = true)
    {f34 : Addr} {od34 an34 : Option Addr} {sl34 : Array (Option Value)} {oc34 kV34 dc34 pm34 cd34 ct34 : Value}
    (a34 : PySem.W.findIn K (.ref C_Condition) "holds" = some (some (.ref f34))) (l34 : K.lookup f34 = some ⟨oc34, od34, .func (PySem.W.fnOf "holds" "Condition.holds" (defArgs s_Condition_holds) (defBody s_Condition_holds) (defScope s_Condition_holds) .none kV34 dc34 pm34 an34 cd34 ct34), sl34⟩) (c34 : PySem.W.codeIn K cd34 "Condition.holds" = true) (k34 : PySem.W.keepIn K (.ref f34) = true) (i34 : PySem.W.isFn K (.ref f34) = true)
    {f35 : Addr} {od35 an35 : Option Addr} {sl35 : Array (Option Value)} {oc35 kV35 dc35 pm35 cd35 ct35 : Value}
    (a35 : PySem.W.findIn K (.ref C_CauseIs) "holds" = some (some (.ref f35))) (l35 : K.lookup f35 = some ⟨oc35, od35, .func (PySem.W.fnOf "holds" "CauseIs.holds" (defArgs s_CauseIs_holds) (defBody s_CauseIs_holds) (defScope s_CauseIs_holds) .none kV35 dc35 pm35 an35 cd35 ct35), sl35⟩) (c35 : PySem.W.codeIn K cd35 "CauseIs.holds" = true) (k35 : PySem.W.keepIn K (.ref f35) = true) (i35 : PySem.W.isFn K (.ref f35) = true)
    {f36 : Addr} {od36 an36 : Option Addr} {sl36 : Array (Option Value)} {oc36 kV36 dc36 pm36 cd36 ct36 : Value}
    (a36 : PySem.W.findIn K (.ref C_ThingIs) "holds" = some (some (.ref f36))) (l36 : K.lookup f36 = some ⟨oc36, od36, .func (PySem.W.fnOf "holds" "ThingIs.holds" (defArgs s_ThingIs_holds) (defBody s_ThingIs_holds) (defScope s_ThingIs_holds) .none kV36 dc36 pm36 an36 cd36 ct36), sl36⟩) (c36 : PySem.W.codeIn K cd36 "ThingIs.holds" = true) (k36 : PySem.W.keepIn K (.ref f36) = true) (i36 : PySem.W.isFn K (.ref f36) = true)
    {f37 : Addr} {od37 an37 : Option Addr} {sl37 : Array (Option Value)} {oc37 kV37 dc37 pm37 cd37 ct37 : Value}
    (a37 : PySem.W.findIn K (.ref C_DaysIn) "holds" = some (some (.ref f37))) (l37 : K.lookup f37 = some ⟨oc37, od37, .func (PySem.W.fnOf "holds" "DaysIn.holds" (defArgs s_DaysIn_holds) (defBody s_DaysIn_holds) (defScope s_DaysIn_holds) .none kV37 dc37 pm37 an37 cd37 ct37), sl37⟩) (c37 : PySem.W.codeIn K cd37 "DaysIn.holds" = true) (k37 : PySem.W.keepIn K (.ref f37) = true) (i37 : PySem.W.isFn K (.ref f37) = true)
    {f38 : Addr} {od38 an38 : Option Addr} {sl38 : Array (Option Value)} {oc38 kV38 dc38 pm38 cd38 ct38 : Value}
    (a38 : PySem.W.findIn K (.ref C_Over) "holds" = some (some (.ref f38))) (l38 : K.lookup f38 = some ⟨oc38, od38, .func (PySem.W.fnOf "holds" "Over.holds" (defArgs s_Over_holds) (defBody s_Over_holds) (defScope s_Over_holds) .none kV38 dc38 pm38 an38 cd38 ct38), sl38⟩) (c38 : PySem.W.codeIn K cd38 "Over.holds" = true) (k38 : PySem.W.keepIn K (.ref f38) = true) (i38 : PySem.W.isFn K (.ref f38) = true)
    {f39 : Addr} {od39 an39 : Option Addr} {sl39 : Array (Option Value)} {oc39 kV39 dc39 pm39 cd39 ct39 : Value}
    (a39 : PySem.W.findIn K (.ref C_Some) "holds" = some (some (.ref f39))) (l39 : K.lookup f39 = some ⟨oc39, od39, .func (PySem.W.fnOf "holds" "Some.holds" (defArgs s_Some_holds) (defBody s_Some_holds) (defScope s_Some_holds) .none kV39 dc39 pm39 an39 cd39 ct39), sl39⟩) (c39 : PySem.W.codeIn K cd39 "Some.holds" = true) (k39 : PySem.W.keepIn K (.ref f39) = true) (i39 : PySem.W.isFn K (.ref f39) = true)
    {f40 : Addr} {od40 an40 : Option Addr} {sl40 : Array (Option Value)} {oc40 kV40 dc40 pm40 cd40 ct40 : Value}
    (a40 : PySem.W.findIn K (.ref C_Cover) "asks" = some (some (.ref f40))) (l40 : K.lookup f40 = some ⟨oc40, od40, .func (PySem.W.fnOf "asks" "Cover.asks" (defArgs s_Cover_asks) (defBody s_Cover_asks) (defScope s_Cover_asks) .none kV40 dc40 pm40 an40 cd40 ct40), sl40⟩) (c40 : PySem.W.codeIn K cd40 "Cover.asks" = true) (k40 : PySem.W.keepIn K (.ref f40) = true) (i40 : PySem.W.isFn K (.ref f40) = true)
    {f41 : Addr} {od41 an41 : Option Addr} {sl41 : Array (Option Value)} {oc41 kV41 dc41 pm41 cd41 ct41 : Value}
    (a41 : PySem.W.nsIn K mainGlobals "numbers_of" = some (some (.ref f41))) (l41 : K.lookup f41 = some ⟨oc41, od41, .func (PySem.W.fnOf "numbers_of" "numbers_of" (defArgs s_numbers_of) (defBody s_numbers_of) (defScope s_numbers_of) .none kV41 dc41 pm41 an41 cd41 ct41), sl41⟩) (c41 : PySem.W.codeIn K cd41 "numbers_of" = true) (k41 : PySem.W.keepIn K (.ref f41) = true)
    {f42 : Addr} {od42 an42 : Option Addr} {sl42 : Array (Option Value)} {oc42 kV42 dc42 pm42 cd42 ct42 : Value}
    (a42 : PySem.W.findIn K (.ref C_Cover) "spans" = some (some (.ref f42))) (l42 : K.lookup f42 = some ⟨oc42, od42, .func (PySem.W.fnOf "spans" "Cover.spans" (defArgs s_Cover_spans) (defBody s_Cover_spans) (defScope s_Cover_spans) .none kV42 dc42 pm42 an42 cd42 ct42), sl42⟩) (c42 : PySem.W.codeIn K cd42 "Cover.spans" = true) (k42 : PySem.W.keepIn K (.ref f42) = true) (i42 : PySem.W.isFn K (.ref f42) = true)
    {f43 : Addr} {od43 an43 : Option Addr} {sl43 : Array (Option Value)} {oc43 kV43 dc43 pm43 cd43 ct43 : Value}
    (a43 : PySem.W.findIn K (.ref C_Cover) "window" = some (some (.ref f43))) (l43 : K.lookup f43 = some ⟨oc43, od43, .func (PySem.W.fnOf "window" "Cover.window" (defArgs s_Cover_window) (defBody s_Cover_window) (defScope s_Cover_window) .none kV43 dc43 pm43 an43 cd43 ct43), sl43⟩) (c43 : PySem.W.codeIn K cd43 "Cover.window" = true) (k43 : PySem.W.keepIn K (.ref f43) = true) (i43 : PySem.W.isFn K (.ref f43) = true)
    {f44 : Addr} {od44 an44 : Option Addr} {sl44 : Array (Option Value)} {oc44 kV44 dc44 pm44 cd44 ct44 : Value}
    (a44 : PySem.W.nsIn K mainGlobals "cut_within" = some (some (.ref f44))) (l44 : K.lookup f44 = some ⟨oc44, od44, .func (PySem.W.fnOf "cut_within" "cut_within" (defArgs s_cut_within) (defBody s_cut_within) (defScope s_cut_within) .none kV44 dc44 pm44 an44 cd44 ct44), sl44⟩) (c44 : PySem.W.codeIn K cd44 "cut_within" = true) (k44 : PySem.W.keepIn K (.ref f44) = true)
    {f45 : Addr} {od45 an45 : Option Addr} {sl45 : Array (Option Value)} {oc45 kV45 dc45 pm45 cd45 ct45 : Value}
    (a45 : PySem.W.findIn K (.ref C_Cover) "rest" = some (some (.ref f45))) (l45 : K.lookup f45 = some ⟨oc45, od45, .func (PySem.W.fnOf "rest" "Cover.rest" (defArgs s_Cover_rest) (defBody s_Cover_rest) (defScope s_Cover_rest) .none kV45 dc45 pm45 an45 cd45 ct45), sl45⟩) (c45 : PySem.W.codeIn K cd45 "Cover.rest" = true) (k45 : PySem.W.keepIn K (.ref f45) = true) (i45 : PySem.W.isFn K (.ref f45) = true)
    {f46 : Addr} {od46 an46 : Option Addr} {sl46 : Array (Option Value)} {oc46 kV46 dc46 pm46 cd46 ct46 : Value}
    (a46 : PySem.W.nsIn K mainGlobals "lowest_of" = some (some (.ref f46))) (l46 : K.lookup f46 = some ⟨oc46, od46, .func (PySem.W.fnOf "lowest_of" "lowest_of" (defArgs s_lowest_of) (defBody s_lowest_of) (defScope s_lowest_of) .none kV46 dc46 pm46 an46 cd46 ct46), sl46⟩) (c46 : PySem.W.codeIn K cd46 "lowest_of" = true) (k46 : PySem.W.keepIn K (.ref f46) = true)
    {f47 : Addr} {od47 an47 : Option Addr} {sl47 : Array (Option Value)} {oc47 kV47 dc47 pm47 cd47 ct47 : Value}
    (a47 : PySem.W.nsIn K mainGlobals "paid_by" = some (some (.ref f47))) (l47 : K.lookup f47 = some ⟨oc47, od47, .func (PySem.W.fnOf "paid_by" "paid_by" (defArgs s_paid_by) (defBody s_paid_by) (defScope s_paid_by) .none kV47 dc47 pm47 an47 cd47 ct47), sl47⟩) (c47 : PySem.W.codeIn K cd47 "paid_by" = true) (k47 : PySem.W.keepIn K (.ref f47) = true)
    {f48 : Addr} {od48 an48 : Option Addr} {sl48 : Array (Option Value)} {oc48 kV48 dc48 pm48 cd48 ct48 : Value}
    (a48 : PySem.W.nsIn K mainGlobals "cut_out" = some (some (.ref f48))) (l48 : K.lookup f48 = some ⟨oc48, od48, .func (PySem.W.fnOf "cut_out" "cut_out" (defArgs s_cut_out) (defBody s_cut_out) (defScope s_cut_out) .none kV48 dc48 pm48 an48 cd48 ct48), sl48⟩) (c48 : PySem.W.codeIn K cd48 "cut_out" = true) (k48 : PySem.W.keepIn K (.ref f48) = true)
    {f49 : Addr} {od49 an49 : Option Addr} {sl49 : Array (Option Value)} {oc49 kV49 dc49 pm49 cd49 ct49 : Value}
    (a49 : PySem.W.nsIn K mainGlobals "left_out" = some (some (.ref f49))) (l49 : K.lookup f49 = some ⟨oc49, od49, .func (PySem.W.fnOf "left_out" "left_out" (defArgs s_left_out) (defBody s_left_out) (defScope s_left_out) .none kV49 dc49 pm49 an49 cd49 ct49), sl49⟩) (c49 : PySem.W.codeIn K cd49 "left_out" = true) (k49 : PySem.W.keepIn K (.ref f49) = true)
    {f50 : Addr} {od50 an50 : Option Addr} {sl50 : Array (Option Value)} {oc50 kV50 dc50 pm50 cd50 ct50 : Value}
    (a50 : PySem.W.findIn K (.ref C_Cover) "parts" = some (some (.ref f50))) (l50 : K.lookup f50 = some ⟨oc50, od50, .func (PySem.W.fnOf "parts" "Cover.parts" (defArgs s_Cover_parts) (defBody s_Cover_parts) (defScope s_Cover_parts) .none kV50 dc50 pm50 an50 cd50 ct50), sl50⟩) (c50 : PySem.W.codeIn K cd50 "Cover.parts" = true) (k50 : PySem.W.keepIn K (.ref f50) = true) (i50 : PySem.W.isFn K (.ref f50) = true)
    {f51 : Addr} {od51 an51 : Option Addr} {sl51 : Array (Option Value)} {oc51 kV51 dc51 pm51 cd51 ct51 : Value}
    (a51 : PySem.W.nsIn K mainGlobals "unpaid_by" = some (some (.ref f51))) (l51 : K.lookup f51 = some ⟨oc51, od51, .func (PySem.W.fnOf "unpaid_by" "unpaid_by" (defArgs s_unpaid_by) (defBody s_unpaid_by) (defScope s_unpaid_by) .none kV51 dc51 pm51 an51 cd51 ct51), sl51⟩) (c51 : PySem.W.codeIn K cd51 "unpaid_by" = true) (k51 : PySem.W.keepIn K (.ref f51) = true)
    {f52 : Addr} {od52 an52 : Option Addr} {sl52 : Array (Option Value)} {oc52 kV52 dc52 pm52 cd52 ct52 : Value}
    (a52 : PySem.W.nsIn K mainGlobals "strips_of" = some (some (.ref f52))) (l52 : K.lookup f52 = some ⟨oc52, od52, .func (PySem.W.fnOf "strips_of" "strips_of" (defArgs s_strips_of) (defBody s_strips_of) (defScope s_strips_of) .none kV52 dc52 pm52 an52 cd52 ct52), sl52⟩) (c52 : PySem.W.codeIn K cd52 "strips_of" = true) (k52 : PySem.W.keepIn K (.ref f52) = true)
    {f53 : Addr} {od53 an53 : Option Addr} {sl53 : Array (Option Value)} {oc53 kV53 dc53 pm53 cd53 ct53 : Value}
    (a53 : PySem.W.nsIn K mainGlobals "claim_of" = some (some (.ref f53))) (l53 : K.lookup f53 = some ⟨oc53, od53, .func (PySem.W.fnOf "claim_of" "claim_of" (defArgs s_claim_of) (defBody s_claim_of) (defScope s_claim_of) .none kV53 dc53 pm53 an53 cd53 ct53), sl53⟩) (c53 : PySem.W.codeIn K cd53 "claim_of" = true) (k53 : PySem.W.keepIn K (.ref f53) = true)
    {f54 : Addr} {od54 an54 : Option Addr} {sl54 : Array (Option Value)} {oc54 kV54 dc54 pm54 cd54 ct54 : Value}
    (a54 : PySem.W.nsIn K mainGlobals "claims_of" = some (some (.ref f54))) (l54 : K.lookup f54 = some ⟨oc54, od54, .func (PySem.W.fnOf "claims_of" "claims_of" (defArgs s_claims_of) (defBody s_claims_of) (defScope s_claims_of) .none kV54 dc54 pm54 an54 cd54 ct54), sl54⟩) (c54 : PySem.W.codeIn K cd54 "claims_of" = true) (k54 : PySem.W.keepIn K (.ref f54) = true)
    {f55 : Addr} {od55 an55 : Option Addr} {sl55 : Array (Option Value)} {oc55 kV55 dc55 pm55 cd55 ct55 : Value}
    (a55 : PySem.W.nsIn K mainGlobals "row_of" = some (some (.ref f55))) (l55 : K.lookup f55 = some ⟨oc55, od55, .func (PySem.W.fnOf "row_of" "row_of" (defArgs s_row_of) (defBody s_row_of) (defScope s_row_of) .none kV55 dc55 pm55 an55 cd55 ct55), sl55⟩) (c55 : PySem.W.codeIn K cd55 "row_of" = true) (k55 : PySem.W.keepIn K (.ref f55) = true)
    {f56 : Addr} {od56 an56 : Option Addr} {sl56 : Array (Option Value)} {oc56 kV56 dc56 pm56 cd56 ct56 : Value}
    (a56 : PySem.W.nsIn K mainGlobals "paper_of" = some (some (.ref f56))) (l56 : K.lookup f56 = some ⟨oc56, od56, .func (PySem.W.fnOf "paper_of" "paper_of" (defArgs s_paper_of) (defBody s_paper_of) (defScope s_paper_of) .none kV56 dc56 pm56 an56 cd56 ct56), sl56⟩) (c56 : PySem.W.codeIn K cd56 "paper_of" = true) (k56 : PySem.W.keepIn K (.ref f56) = true)
    {f57 : Addr} {od57 an57 : Option Addr} {sl57 : Array (Option Value)} {oc57 kV57 dc57 pm57 cd57 ct57 : Value}
    (a57 : PySem.W.nsIn K mainGlobals "_law_refused" = some (some (.ref f57))) (l57 : K.lookup f57 = some ⟨oc57, od57, .func (PySem.W.fnOf "_law_refused" "_law_refused" (defArgs s__law_refused) (defBody s__law_refused) (defScope s__law_refused) .none kV57 dc57 pm57 an57 cd57 ct57), sl57⟩) (c57 : PySem.W.codeIn K cd57 "_law_refused" = true) (k57 : PySem.W.keepIn K (.ref f57) = true)
    {f58 : Addr} {od58 an58 : Option Addr} {sl58 : Array (Option Value)} {oc58 kV58 dc58 pm58 cd58 ct58 : Value}
    (a58 : PySem.W.nsIn K mainGlobals "law" = some (some (.ref f58))) (l58 : K.lookup f58 = some ⟨oc58, od58, .func (PySem.W.fnOf "law" "law" (defArgs s_law) (defBody s_law) (defScope s_law) .none kV58 dc58 pm58 an58 cd58 ct58), sl58⟩) (c58 : PySem.W.codeIn K cd58 "law" = true) (k58 : PySem.W.keepIn K (.ref f58) = true)
    (mr_NoEntry_NoBook : PySem.W.mroIn K C_NoEntry (.ref C_NoBook) = some false)
    (ms_NoEntry : PySem.W.mroIn K C_NoEntry (.ref C_NoEntry) = some true)
    (mr_TooWide_NoBook : PySem.W.mroIn K C_TooWide (.ref C_NoBook) = some false)
    (ms_TooWide : PySem.W.mroIn K C_TooWide (.ref C_TooWide) = some true)
    (mr_NoEntry_NotTold : PySem.W.mroIn K C_NoEntry (.ref C_NotTold) = some false)
    (mr_TooWide_NotTold : PySem.W.mroIn K C_TooWide (.ref C_NotTold) = some false)
    (mr_NoEntry_TooWide : PySem.W.mroIn K C_NoEntry (.ref C_TooWide) = some false)
    (mr_TooWide_TooWide : PySem.W.mroIn K C_TooWide (.ref C_TooWide) = some true)
    (mr_NoEntry_NoEntry : PySem.W.mroIn K C_NoEntry (.ref C_NoEntry) = some true)
    (mr_TooWide_NoEntry : PySem.W.mroIn K C_TooWide (.ref C_NoEntry) = some false)
    (mr_NoEntry_ValueError : PySem.W.mroIn K C_NoEntry (.type "ValueError") = some true)
    (mr_TooWide_ValueError : PySem.W.mroIn K C_TooWide (.type "ValueError") = some true)
    (ic_NoBook : PySem.W.isClsIn K C_NoBook = true) (ti_NoBook : PySem.W.typeIn K (.ref C_NoBook) = some (.type "type"))
    (ic_NoEntry : PySem.W.isClsIn K C_NoEntry = true) (ti_NoEntry : PySem.W.typeIn K (.ref C_NoEntry) = some (.type "type"))
    (ic_NotTold : PySem.W.isClsIn K C_NotTold = true) (ti_NotTold : PySem.W.typeIn K (.ref C_NotTold) = some (.type "type"))
    (ic_TooWide : PySem.W.isClsIn K C_TooWide = true) (ti_TooWide : PySem.W.typeIn K (.ref C_TooWide) = some (.type "type"))
    (z_len : PySem.W.nsIn K mainGlobals "len" = some none)
    (z_list : PySem.W.nsIn K mainGlobals "list" = some none)
    (z_isinstance : PySem.W.nsIn K mainGlobals "isinstance" = some none)
    (z_str : PySem.W.nsIn K mainGlobals "str" = some none)
    (z_bool : PySem.W.nsIn K mainGlobals "bool" = some none)
    (z_int : PySem.W.nsIn K mainGlobals "int" = some none)
    (z_sum : PySem.W.nsIn K mainGlobals "sum" = some none)
    (z_range : PySem.W.nsIn K mainGlobals "range" = some none)
    (z_set : PySem.W.nsIn K mainGlobals "set" = some none)
    (z_sorted : PySem.W.nsIn K mainGlobals "sorted" = some none)
    (z_enumerate : PySem.W.nsIn K mainGlobals "enumerate" = some none)
    (z_max : PySem.W.nsIn K mainGlobals "max" = some none)
    (z_min : PySem.W.nsIn K mainGlobals "min" = some none)
    (z_zip : PySem.W.nsIn K mainGlobals "zip" = some none)
    (z_ValueError : PySem.W.nsIn K mainGlobals "ValueError" = some none)
    {tg_LETTERS_losses : Tok} (g_LETTERS_losses : PySem.W.nsIn K mainGlobals "LETTERS_losses" = some (some (.str "abcdefghijklmnopqrstuvwxyz" tg_LETTERS_losses)))
    {tg_MOST_PLACES : Tok} (g_MOST_PLACES : PySem.W.nsIn K mainGlobals "MOST_PLACES" = some (some (.int 8 tg_MOST_PLACES)))
    {tg_MOST_TURNS : Tok} (g_MOST_TURNS : PySem.W.nsIn K mainGlobals "MOST_TURNS" = some (some (.int 100 tg_MOST_TURNS)))
    {tg_MOST_CLAUSES : Tok} (g_MOST_CLAUSES : PySem.W.nsIn K mainGlobals "MOST_CLAUSES" = some (some (.int 8 tg_MOST_CLAUSES)))
    {tg_MOST_COVERS : Tok} (g_MOST_COVERS : PySem.W.nsIn K mainGlobals "MOST_COVERS" = some (some (.int 8 tg_MOST_COVERS)))
    {tg_LAST_DAY : Tok} (g_LAST_DAY : PySem.W.nsIn K mainGlobals "LAST_DAY" = some (some (.int 1000000 tg_LAST_DAY)))
    {tg_MOST_ROWS : Tok} (g_MOST_ROWS : PySem.W.nsIn K mainGlobals "MOST_ROWS" = some (some (.int 120 tg_MOST_ROWS)))
    {tg_MOST_CENTS : Tok} (g_MOST_CENTS : PySem.W.nsIn K mainGlobals "MOST_CENTS" = some (some (.int 999999999999 tg_MOST_CENTS)))
    {tg_LETTERS_cells : Tok} (g_LETTERS_cells : PySem.W.nsIn K mainGlobals "LETTERS_cells" = some (some (.str "abcdefghijklmnopqrstuvwxyz" tg_LETTERS_cells)))
    {tg_PAID_covers : Tok} (g_PAID_covers : PySem.W.nsIn K mainGlobals "PAID_covers" = some (some (.int (-1) tg_PAID_covers)))
    {tg_PAID_settling : Tok} (g_PAID_settling : PySem.W.nsIn K mainGlobals "PAID_settling" = some (some (.int (-1) tg_PAID_settling)))
    : ∃ fd : FuncData, (∀ (s : Shared) (v : Value), BindsTo s fd ⟨[v], []⟩ [("_law_script", v)]) ∧ ∀ base : Heap, K.In base → base.Ns mainGlobals mg → FnOk l.prog w K mg base CX0 71 fa fd ["_law_script"] (spLaw K) := by
  have e := hfa.symm.trans (PySem.W.mg_of X G a58)
  cases e
  have q_TooWide_TooWide := kit_true ic_TooWide ti_TooWide mr_TooWide_TooWide
  have q_NoEntry_NoEntry := kit_true ic_NoEntry ti_NoEntry mr_NoEntry_NoEntry
  have q_NoEntry_NoBook := kit_false ms_NoEntry ic_NoBook ti_NoBook mr_NoEntry_NoBook
  have q_TooWide_NoBook := kit_false ms_TooWide ic_NoBook ti_NoBook mr_TooWide_NoBook
  have q_NoEntry_NotTold := kit_false ms_NoEntry ic_NotTold ti_NotTold mr_NoEntry_NotTold
  have q_TooWide_NotTold := kit_false ms_TooWide ic_NotTold ti_NotTold mr_TooWide_NotTold
  have q_NoEntry_TooWide := kit_false ms_NoEntry ic_TooWide ti_TooWide mr_NoEntry_TooWide
  have q_TooWide_NoEntry := kit_false ms_TooWide ic_NoEntry ti_NoEntry mr_TooWide_NoEntry
  have q_NoEntry_ValueError : PySem.W.kitOne K (.ref C_NoEntry) (.type "ValueError") = some true := kit_ty (by decide +kernel) mr_NoEntry_ValueError
  have q_TooWide_ValueError : PySem.W.kitOne K (.ref C_TooWide) (.type "ValueError") = some true := kit_ty (by decide +kernel) mr_TooWide_ValueError
  have z_len := PySem.W.mg_none_of X G z_len
  have z_list := PySem.W.mg_none_of X G z_list
  have z_isinstance := PySem.W.mg_none_of X G z_isinstance
  have z_str := PySem.W.mg_none_of X G z_str
  have z_bool := PySem.W.mg_none_of X G z_bool
  have z_int := PySem.W.mg_none_of X G z_int
  have z_sum := PySem.W.mg_none_of X G z_sum
  have z_range := PySem.W.mg_none_of X G z_range
  have z_set := PySem.W.mg_none_of X G z_set
  have z_sorted := PySem.W.mg_none_of X G z_sorted
  have z_enumerate := PySem.W.mg_none_of X G z_enumerate
  have z_max := PySem.W.mg_none_of X G z_max
  have z_min := PySem.W.mg_none_of X G z_min
  have z_zip := PySem.W.mg_none_of X G z_zip
  have z_ValueError := PySem.W.mg_none_of X G z_ValueError
  have g_LETTERS_losses := PySem.W.mg_of X G g_LETTERS_losses
  have g_MOST_PLACES := PySem.W.mg_of X G g_MOST_PLACES
  have g_MOST_TURNS := PySem.W.mg_of X G g_MOST_TURNS
  have g_MOST_CLAUSES := PySem.W.mg_of X G g_MOST_CLAUSES
  have g_MOST_COVERS := PySem.W.mg_of X G g_MOST_COVERS
  have g_LAST_DAY := PySem.W.mg_of X G g_LAST_DAY
  have g_MOST_ROWS := PySem.W.mg_of X G g_MOST_ROWS
  have g_MOST_CENTS := PySem.W.mg_of X G g_MOST_CENTS
  have g_LETTERS_cells := PySem.W.mg_of X G g_LETTERS_cells
  have g_PAID_covers := PySem.W.mg_of X G g_PAID_covers
  have g_PAID_settling := PySem.W.mg_of X G g_PAID_settling
  have F0 := fun_mk (st := s__law_cell) l0 c0 k0
  have b0 := F0.binds (ps := ["_law_script", "_law_k"]) fun _ _ _ _ _ _ us hl => match us, hl with | [_, _], _ => rfl
  have F1 := fun_mk (st := s_CauseIs___init__) l1 c1 k1
  have b1 := F1.binds (ps := ["self", "name"]) fun _ _ _ _ _ _ us hl => match us, hl with | [_, _], _ => rfl
  have F2 := fun_mk (st := s_ThingIs___init__) l2 c2 k2
  have b2 := F2.binds (ps := ["self", "name"]) fun _ _ _ _ _ _ us hl => match us, hl with | [_, _], _ => rfl
  have F3 := fun_mk (st := s_DaysIn___init__) l3 c3 k3
  have b3 := F3.binds (ps := ["self", "first", "last"]) fun _ _ _ _ _ _ us hl => match us, hl with | [_, _, _], _ => rfl
  have F4 := fun_mk (st := s_Over___init__) l4 c4 k4
  have b4 := F4.binds (ps := ["self", "cents"]) fun _ _ _ _ _ _ us hl => match us, hl with | [_, _], _ => rfl
  have F5 := fun_mk (st := s_Some___init__) l5 c5 k5
  have b5 := F5.binds (ps := ["self", "several"]) fun _ _ _ _ _ _ us hl => match us, hl with | [_, _], _ => rfl
  have F6 := fun_mk (st := s__law_some) l6 c6 k6
  have b6 := F6.binds (ps := ["_law_parts"]) fun _ _ _ _ _ _ us hl => match us, hl with | [_], _ => rfl
  have F7 := fun_mk (st := s_is_name) l7 c7 k7
  have b7 := F7.binds (ps := ["thing"]) fun _ _ _ _ _ _ us hl => match us, hl with | [_], _ => rfl
  have F8 := fun_mk (st := s_need_houses) l8 c8 k8
  have b8 := F8.binds (ps := ["pairs"]) fun _ _ _ _ _ _ us hl => match us, hl with | [_], _ => rfl
  have F9 := fun_mk (st := s_is_whole) l9 c9 k9
  have b9 := F9.binds (ps := ["thing"]) fun _ _ _ _ _ _ us hl => match us, hl with | [_], _ => rfl
  have F10 := fun_mk (st := s_total_of) l10 c10 k10
  have b10 := F10.binds (ps := ["weights"]) fun _ _ _ _ _ _ us hl => match us, hl with | [_], _ => rfl
  have F11 := fun_mk (st := s_due_by) l11 c11 k11
  have b11 := F11.binds (ps := ["given", "weight", "total"]) fun _ _ _ _ _ _ us hl => match us, hl with | [_, _, _], _ => rfl
  have F12 := fun_mk (st := s_next_place) l12 c12 k12
  have b12 := F12.binds (ps := ["weights", "given", "total", "n"]) fun _ _ _ _ _ _ us hl => match us, hl with | [_, _, _, _], _ => rfl
  have F13 := fun_mk (st := s_turns) l13 c13 k13
  have b13 := F13.binds (ps := ["weights"]) fun _ _ _ _ _ _ us hl => match us, hl with | [_], _ => rfl
  have F14 := fun_mk (st := s_Deal___init__) l14 c14 k14
  have b14 := F14.binds (ps := ["self", "weights"]) fun _ _ _ _ _ _ us hl => match us, hl with | [_, _], _ => rfl
  obtain ⟨ddi_Cover__5, hvi_Cover__5, hbi_Cover__5⟩ := F15.binds1 (ps := ["self", "name", "condition", "clauses", "houses", "waits"]) 6 3 (by decide) rfl fun T kV doc pm an cdv ct us its hu hi => match us, its, hu, hi with | [_, _, _, _, _, _], [_, _, _], _, _ => ⟨_, rfl, rfl⟩
  have F16 := fun_mk (st := s_Book___init__) l16 c16 k16
  have b16 := F16.binds (ps := ["self", "covers"]) fun _ _ _ _ _ _ us hl => match us, hl with | [_, _], _ => rfl
  have F17 := fun_mk (st := s__law_book) l17 c17 k17
  have b17 := F17.binds (ps := ["_law_sizes", "_law_start", "_law_gap", "_law_waits"]) fun _ _ _ _ _ _ us hl => match us, hl with | [_, _, _, _], _ => rfl
  have F18 := fun_mk (st := s_Condition_marks) l18 c18 k18
  have b18 := F18.binds (ps := ["self"]) fun _ _ _ _ _ _ us hl => match us, hl with | [_], _ => rfl
  have F19 := fun_mk (st := s_CauseIs_marks) l19 c19 k19
  have b19 := F19.binds (ps := ["self"]) fun _ _ _ _ _ _ us hl => match us, hl with | [_], _ => rfl
  have F20 := fun_mk (st := s_ThingIs_marks) l20 c20 k20
  have b20 := F20.binds (ps := ["self"]) fun _ _ _ _ _ _ us hl => match us, hl with | [_], _ => rfl
  have F21 := fun_mk (st := s_DaysIn_marks) l21 c21 k21
  have b21 := F21.binds (ps := ["self"]) fun _ _ _ _ _ _ us hl => match us, hl with | [_], _ => rfl
  have F22 := fun_mk (st := s_Over_marks) l22 c22 k22
  have b22 := F22.binds (ps := ["self"]) fun _ _ _ _ _ _ us hl => match us, hl with | [_], _ => rfl
  have F23 := fun_mk (st := s_joined_marks) l23 c23 k23
  have b23 := F23.binds (ps := ["several"]) fun _ _ _ _ _ _ us hl => match us, hl with | [_], _ => rfl
  have F24 := fun_mk (st := s_Some_marks) l24 c24 k24
  have b24 := F24.binds (ps := ["self"]) fun _ _ _ _ _ _ us hl => match us, hl with | [_], _ => rfl
  have F25 := fun_mk (st := s_marks_of) l25 c25 k25
  have b25 := F25.binds (ps := ["book"]) fun _ _ _ _ _ _ us hl => match us, hl with | [_], _ => rfl
  have F26 := fun_mk (st := s_parted) l26 c26 k26
  have b26 := F26.binds (ps := ["first", "last", "marks"]) fun _ _ _ _ _ _ us hl => match us, hl with | [_, _, _], _ => rfl
  have F27 := fun_mk (st := s_cells_of) l27 c27 k27
  have b27 := F27.binds (ps := ["book"]) fun _ _ _ _ _ _ us hl => match us, hl with | [_], _ => rfl
  have F28 := fun_mk (st := s_is_whole) l28 c28 k28
  have b28 := F28.binds (ps := ["thing"]) fun _ _ _ _ _ _ us hl => match us, hl with | [_], _ => rfl
  have F29 := fun_mk (st := s_is_amount) l29 c29 k29
  have b29 := F29.binds (ps := ["thing"]) fun _ _ _ _ _ _ us hl => match us, hl with | [_], _ => rfl
  have F30 := fun_mk (st := s_stretches_of) l30 c30 k30
  have b30 := F30.binds (ps := ["book", "bound"]) fun _ _ _ _ _ _ us hl => match us, hl with | [_, _], _ => rfl
  have F31 := fun_mk (st := s_another) l31 c31 k31
  have b31 := F31.binds (ps := ["names"]) fun _ _ _ _ _ _ us hl => match us, hl with | [_], _ => rfl
  have F32 := fun_mk (st := s_loss_in) l32 c32 k32
  have b32 := F32.binds (ps := ["book", "cell", "cents"]) fun _ _ _ _ _ _ us hl => match us, hl with | [_, _, _], _ => rfl
  have F33 := fun_mk (st := s_Counts___init__) l33 c33 k33
  have b33 := F33.binds (ps := ["self"]) fun _ _ _ _ _ _ us hl => match us, hl with | [_], _ => rfl
  have F34 := fun_mk (st := s_Condition_holds) l34 c34 k34
  have b34 := F34.binds (ps := ["self", "loss"]) fun _ _ _ _ _ _ us hl => match us, hl with | [_, _], _ => rfl
  have F35 := fun_mk (st := s_CauseIs_holds) l35 c35 k35
  have b35 := F35.binds (ps := ["self", "loss"]) fun _ _ _ _ _ _ us hl => match us, hl with | [_, _], _ => rfl
  have F36 := fun_mk (st := s_ThingIs_holds) l36 c36 k36
  have b36 := F36.binds (ps := ["self", "loss"]) fun _ _ _ _ _ _ us hl => match us, hl with | [_, _], _ => rfl
  have F37 := fun_mk (st := s_DaysIn_holds) l37 c37 k37
  have b37 := F37.binds (ps := ["self", "loss"]) fun _ _ _ _ _ _ us hl => match us, hl with | [_, _], _ => rfl
  have F38 := fun_mk (st := s_Over_holds) l38 c38 k38
  have b38 := F38.binds (ps := ["self", "loss"]) fun _ _ _ _ _ _ us hl => match us, hl with | [_, _], _ => rfl
  have F39 := fun_mk (st := s_Some_holds) l39 c39 k39
  have b39 := F39.binds (ps := ["self", "loss"]) fun _ _ _ _ _ _ us hl => match us, hl with | [_, _], _ => rfl
  have F40 := fun_mk (st := s_Cover_asks) l40 c40 k40
  have b40 := F40.binds (ps := ["self", "loss"]) fun _ _ _ _ _ _ us hl => match us, hl with | [_, _], _ => rfl
  have F41 := fun_mk (st := s_numbers_of) l41 c41 k41
  have b41 := F41.binds (ps := ["cover", "counts", "loss"]) fun _ _ _ _ _ _ us hl => match us, hl with | [_, _, _], _ => rfl
  have F42 := fun_mk (st := s_Cover_spans) l42 c42 k42
  have b42 := F42.binds (ps := ["self", "counts", "cents"]) fun _ _ _ _ _ _ us hl => match us, hl with | [_, _, _], _ => rfl
  have F43 := fun_mk (st := s_Cover_window) l43 c43 k43
  have b43 := F43.binds (ps := ["self", "counts", "cents"]) fun _ _ _ _ _ _ us hl => match us, hl with | [_, _, _], _ => rfl
  have F44 := fun_mk (st := s_cut_within) l44 c44 k44
  have b44 := F44.binds (ps := ["runs", "lo", "hi"]) fun _ _ _ _ _ _ us hl => match us, hl with | [_, _, _], _ => rfl
  have F45 := fun_mk (st := s_Cover_rest) l45 c45 k45
  have b45 := F45.binds (ps := ["self", "counts"]) fun _ _ _ _ _ _ us hl => match us, hl with | [_, _], _ => rfl
  have F46 := fun_mk (st := s_lowest_of) l46 c46 k46
  have b46 := F46.binds (ps := ["runs", "n"]) fun _ _ _ _ _ _ us hl => match us, hl with | [_, _], _ => rfl
  have F47 := fun_mk (st := s_paid_by) l47 c47 k47
  have b47 := F47.binds (ps := ["cover", "had", "cents", "free"]) fun _ _ _ _ _ _ us hl => match us, hl with | [_, _, _, _], _ => rfl
  have F48 := fun_mk (st := s_cut_out) l48 c48 k48
  have b48 := F48.binds (ps := ["runs", "others"]) fun _ _ _ _ _ _ us hl => match us, hl with | [_, _], _ => rfl
  have F49 := fun_mk (st := s_left_out) l49 c49 k49
  have b49 := F49.binds (ps := ["spans", "at"]) fun _ _ _ _ _ _ us hl => match us, hl with | [_, _], _ => rfl
  have F50 := fun_mk (st := s_Cover_parts) l50 c50 k50
  have b50 := F50.binds (ps := ["self", "counts", "cents"]) fun _ _ _ _ _ _ us hl => match us, hl with | [_, _, _], _ => rfl
  have F51 := fun_mk (st := s_unpaid_by) l51 c51 k51
  have b51 := F51.binds (ps := ["cover", "had", "cents", "free"]) fun _ _ _ _ _ _ us hl => match us, hl with | [_, _, _, _], _ => rfl
  have F52 := fun_mk (st := s_strips_of) l52 c52 k52
  have b52 := F52.binds (ps := ["book", "counts", "loss"]) fun _ _ _ _ _ _ us hl => match us, hl with | [_, _, _], _ => rfl
  have F53 := fun_mk (st := s_claim_of) l53 c53 k53
  have b53 := F53.binds (ps := ["cover", "loss"]) fun _ _ _ _ _ _ us hl => match us, hl with | [_, _], _ => rfl
  have F54 := fun_mk (st := s_claims_of) l54 c54 k54
  have b54 := F54.binds (ps := ["book", "loss"]) fun _ _ _ _ _ _ us hl => match us, hl with | [_, _], _ => rfl
  have F55 := fun_mk (st := s_row_of) l55 c55 k55
  have b55 := F55.binds (ps := ["book", "cell", "lo", "hi"]) fun _ _ _ _ _ _ us hl => match us, hl with | [_, _, _, _], _ => rfl
  have F56 := fun_mk (st := s_paper_of) l56 c56 k56
  have b56 := F56.binds (ps := ["book", "bound"]) fun _ _ _ _ _ _ us hl => match us, hl with | [_, _], _ => rfl
  have F57 := fun_mk (st := s__law_refused) l57 c57 k57
  have b57 := F57.binds (ps := ["_law_way", "_law_book_here", "_law_bound"]) fun _ _ _ _ _ _ us hl => match us, hl with | [_, _, _], _ => rfl
  have F58 := fun_mk (st := s_law) l58 c58 k58
  refine ⟨PySem.W.fnOf "law" "law" (defArgs s_law) (defBody s_law) (defScope s_law) .none kV58 dc58 pm58 an58 cd58 ct58, fun s v => .of_eq rfl, fun base _ _ => ?_⟩
  have n__law_cell : Fn1 l.prog w K mg base "_law_cell" 1 ["_law_script", "_law_k"] (sp__law_cell K) := ⟨_, _, PySem.W.mg_of X G a0, k0, b0, ok__law_cell F0 z_len⟩
  have o_CauseIs___init__ := ok_CauseIs___init__ (P := l.prog) (w := w) (mg := mg) (base := base) (C_CauseIs := C_CauseIs) F1 ⟨⟨pg_CauseIs, hd_CauseIs, po_CauseIs, sa_CauseIs⟩, fun _ => fun m => (List.mem_cons.mp m).elim (fun e => by rw [e]; exact na_CauseIs_name) (fun m => (nomatch m))⟩
  have ni_CauseIs : Mk1 l.prog w K mg base "CauseIs" C_CauseIs 1 ["self", "name"] (spI_CauseIs___init__ K C_CauseIs) := ⟨_, _, PySem.W.mg_of X G a_CauseIs, ⟨mk_CauseIs, a1, i1, kc_CauseIs⟩, b1, toI_CauseIs___init__ o_CauseIs___init__⟩
  have o_ThingIs___init__ := ok_ThingIs___init__ (P := l.prog) (w := w) (mg := mg) (base := base) (C_ThingIs := C_ThingIs) F2 ⟨⟨pg_ThingIs, hd_ThingIs, po_ThingIs, sa_ThingIs⟩, fun _ => fun m => (List.mem_cons.mp m).elim (fun e => by rw [e]; exact na_ThingIs_name) (fun m => (nomatch m))⟩
  have ni_ThingIs : Mk1 l.prog w K mg base "ThingIs" C_ThingIs 1 ["self", "name"] (spI_ThingIs___init__ K C_ThingIs) := ⟨_, _, PySem.W.mg_of X G a_ThingIs, ⟨mk_ThingIs, a2, i2, kc_ThingIs⟩, b2, toI_ThingIs___init__ o_ThingIs___init__⟩
  have o_DaysIn___init__ := ok_DaysIn___init__ (P := l.prog) (w := w) (mg := mg) (base := base) (C_DaysIn := C_DaysIn) F3 ⟨⟨pg_DaysIn, hd_DaysIn, po_DaysIn, sa_DaysIn⟩, fun _ => fun m => (List.mem_cons.mp m).elim (fun e => by rw [e]; exact na_DaysIn_first) (fun m => (List.mem_cons.mp m).elim (fun e => by rw [e]; exact na_DaysIn_last) (fun m => (nomatch m)))⟩
  have ni_DaysIn : Mk1 l.prog w K mg base "DaysIn" C_DaysIn 1 ["self", "first", "last"] (spI_DaysIn___init__ K C_DaysIn) := ⟨_, _, PySem.W.mg_of X G a_DaysIn, ⟨mk_DaysIn, a3, i3, kc_DaysIn⟩, b3, toI_DaysIn___init__ o_DaysIn___init__⟩
  have o_Over___init__ := ok_Over___init__ (P := l.prog) (w := w) (mg := mg) (base := base) (C_Over := C_Over) F4 ⟨⟨pg_Over, hd_Over, po_Over, sa_Over⟩, fun _ => fun m => (List.mem_cons.mp m).elim (fun e => by rw [e]; exact na_Over_cents) (fun m => (nomatch m))⟩
  have ni_Over : Mk1 l.prog w K mg base "Over" C_Over 1 ["self", "cents"] (spI_Over___init__ K C_Over) := ⟨_, _, PySem.W.mg_of X G a_Over, ⟨mk_Over, a4, i4, kc_Over⟩, b4, toI_Over___init__ o_Over___init__⟩
  have o_Some___init__ := ok_Some___init__ (P := l.prog) (w := w) (mg := mg) (base := base) (C_Some := C_Some) (C_Condition := C_Condition) (C_CauseIs := C_CauseIs) (C_ThingIs := C_ThingIs) (C_DaysIn := C_DaysIn) (C_Over := C_Over) F5 z_list ⟨⟨pg_Some, hd_Some, po_Some, sa_Some⟩, fun _ => fun m => (List.mem_cons.mp m).elim (fun e => by rw [e]; exact na_Some_several) (fun m => (nomatch m))⟩
  have ni_Some : Mk1 l.prog w K mg base "Some" C_Some 1 ["self", "several"] (spI_Some___init__ K C_Some C_Condition C_CauseIs C_ThingIs C_DaysIn C_Over) := ⟨_, _, PySem.W.mg_of X G a_Some, ⟨mk_Some, a5, i5, kc_Some⟩, b5, toI_Some___init__ o_Some___init__⟩
  have n__law_some : Fn1 l.prog w K mg base "_law_some" 3 ["_law_parts"] (sp__law_some K C_Condition C_CauseIs C_ThingIs C_DaysIn C_Over C_Some) := ⟨_, _, PySem.W.mg_of X G a6, k6, b6, ok__law_some F6 z_len ⟨mk_Condition, ob_Condition, kc_Condition⟩ (PySem.W.mg_of X G a_Condition) ni_Some⟩
  have n_is_name : Fn1 l.prog w K mg base "is_name" 1 ["thing"] (sp_is_name K) := ⟨_, _, PySem.W.mg_of X G a7, k7, b7, ok_is_name F7 z_isinstance z_str z_len g_LETTERS_losses⟩
  have n_need_houses : Fn1 l.prog w K mg base "need_houses" 2 ["pairs"] (sp_need_houses K) := ⟨_, _, PySem.W.mg_of X G a8, k8, b8, ok_need_houses F8 n_is_name⟩
  have n_is_whole_i : Fn1 l.prog w K mg base "is_whole" 1 ["thing"] (sp_is_whole_i K) := ⟨_, _, PySem.W.mg_of X G a9, k9, b9, ok_is_whole_i F9 z_bool z_int z_isinstance⟩
  have n_total_of : Fn1 l.prog w K mg base "total_of" 2 ["weights"] (sp_total_of K) := ⟨_, _, PySem.W.mg_of X G a10, k10, b10, ok_total_of F10 z_isinstance z_len z_list z_sum g_MOST_PLACES g_MOST_TURNS n_is_whole_i⟩
  have n_due_by : Fn1 l.prog w K mg base "due_by" 1 ["given", "weight", "total"] (sp_due_by K) := ⟨_, _, PySem.W.mg_of X G a11, k11, b11, ok_due_by F11 ⟩
  have n_next_place : Fn1 l.prog w K mg base "next_place" 2 ["weights", "given", "total", "n"] (sp_next_place K) := ⟨_, _, PySem.W.mg_of X G a12, k12, b12, ok_next_place F12 z_len z_range n_due_by⟩
  have n_turns : Fn1 l.prog w K mg base "turns" 3 ["weights"] (sp_turns K) := ⟨_, _, PySem.W.mg_of X G a13, k13, b13, ok_turns F13 z_range n_total_of n_next_place⟩
  have o_Deal___init__ := ok_Deal___init__ (P := l.prog) (w := w) (mg := mg) (base := base) (C_Deal := C_Deal) F14 z_list ⟨⟨pg_Deal, hd_Deal, po_Deal, sa_Deal⟩, fun _ => fun m => (List.mem_cons.mp m).elim (fun e => by rw [e]; exact na_Deal_wheel) (fun m => (List.mem_cons.mp m).elim (fun e => by rw [e]; exact na_Deal_weights) (fun m => (nomatch m)))⟩ n_turns
  have ni_Deal : Mk1 l.prog w K mg base "Deal" C_Deal 4 ["self", "weights"] (sp_Deal___init__ K C_Deal) := ⟨_, _, PySem.W.mg_of X G a_Deal, ⟨mk_Deal, a14, i14, kc_Deal⟩, b14, o_Deal___init__⟩
  have o_Cover___init__ := ok_Cover___init__ (P := l.prog) (w := w) (mg := mg) (base := base) (C_Cover := C_Cover) (C_Condition := C_Condition) (C_CauseIs := C_CauseIs) (C_ThingIs := C_ThingIs) (C_DaysIn := C_DaysIn) (C_Over := C_Over) (C_Some := C_Some) (C_Deal := C_Deal) F15 z_len g_MOST_CLAUSES ⟨⟨pg_Cover, hd_Cover, po_Cover, sa_Cover⟩, fun _ => fun m => (List.mem_cons.mp m).elim (fun e => by rw [e]; exact na_Cover_name) (fun m => (List.mem_cons.mp m).elim (fun e => by rw [e]; exact na_Cover_condition) (fun m => (List.mem_cons.mp m).elim (fun e => by rw [e]; exact na_Cover_clauses) (fun m => (List.mem_cons.mp m).elim (fun e => by rw [e]; exact na_Cover_houses) (fun m => (List.mem_cons.mp m).elim (fun e => by rw [e]; exact na_Cover_deal) (fun m => (List.mem_cons.mp m).elim (fun e => by rw [e]; exact na_Cover_waits) (fun m => (nomatch m)))))))⟩ n_is_name n_need_houses ni_Deal
  have ni_Cover__5 : Mk1D l.prog w K mg base "Cover" C_Cover 6 ["self", "name", "condition", "clauses", "houses", "waits"] [] (spI_Cover___init__ K C_Cover C_Condition C_CauseIs C_ThingIs C_DaysIn C_Over C_Some C_Deal) := ⟨_, _, ddi_Cover__5, PySem.W.mg_of X G a_Cover, ⟨mk_Cover, a15, i15, kc_Cover⟩, hbi_Cover__5, hvi_Cover__5, toI_Cover___init__ o_Cover___init__⟩
  have o_Book___init__ := ok_Book___init__ (P := l.prog) (w := w) (mg := mg) (base := base) (C_Book := C_Book) (C_Cover := C_Cover) (C_Condition := C_Condition) (C_CauseIs := C_CauseIs) (C_ThingIs := C_ThingIs) (C_DaysIn := C_DaysIn) (C_Over := C_Over) (C_Some := C_Some) (C_Deal := C_Deal) F16 z_len z_set z_list g_MOST_COVERS ⟨⟨pg_Cover, hd_Cover, po_Cover, sa_Cover⟩, fun _ => fun m => (List.mem_cons.mp m).elim (fun e => by rw [e]; exact na_Cover_name) (fun m => (List.mem_cons.mp m).elim (fun e => by rw [e]; exact na_Cover_condition) (fun m => (List.mem_cons.mp m).elim (fun e => by rw [e]; exact na_Cover_clauses) (fun m => (List.mem_cons.mp m).elim (fun e => by rw [e]; exact na_Cover_houses) (fun m => (List.mem_cons.mp m).elim (fun e => by rw [e]; exact na_Cover_deal) (fun m => (List.mem_cons.mp m).elim (fun e => by rw [e]; exact na_Cover_waits) (fun m => (nomatch m)))))))⟩ ⟨⟨pg_Book, hd_Book, po_Book, sa_Book⟩, fun _ => fun m => (List.mem_cons.mp m).elim (fun e => by rw [e]; exact na_Book_covers) (fun m => (List.mem_cons.mp m).elim (fun e => by rw [e]; exact na_Book_asking) (fun m => (nomatch m)))⟩
  have ni_Book : Mk1 l.prog w K mg base "Book" C_Book 1 ["self", "covers"] (spI_Book___init__ K C_Book C_Cover C_Condition C_CauseIs C_ThingIs C_DaysIn C_Over C_Some C_Deal) := ⟨_, _, PySem.W.mg_of X G a_Book, ⟨mk_Book, a16, i16, kc_Book⟩, b16, toI_Book___init__ o_Book___init__⟩
  have n__law_book : Fn1 l.prog w K mg base "_law_book" 8 ["_law_sizes", "_law_start", "_law_gap", "_law_waits"] (sp__law_book K C_Book C_Cover C_Condition C_CauseIs C_ThingIs C_DaysIn C_Over C_Some C_Deal) := ⟨_, _, PySem.W.mg_of X G a17, k17, b17, ok__law_book F17 z_range ni_CauseIs ni_ThingIs ni_DaysIn ni_Over n__law_some ni_Cover__5 ni_Book⟩
  have o_Condition_marks := ok_Condition_marks (P := l.prog) (w := w) (mg := mg) (base := base) (C_Condition := C_Condition) (C_CauseIs := C_CauseIs) (C_ThingIs := C_ThingIs) (C_DaysIn := C_DaysIn) (C_Over := C_Over) (C_Some := C_Some) F18 
  have nm_Condition_marks : Mt1 l.prog w K mg base C_Condition "marks" 1 ["self"] (sp_Condition_marks K C_Condition C_CauseIs C_ThingIs C_DaysIn C_Over C_Some) := ⟨_, _, ⟨a18, i18, k18⟩, b18, o_Condition_marks⟩
  have o_CauseIs_marks := ok_CauseIs_marks (P := l.prog) (w := w) (mg := mg) (base := base) (C_CauseIs := C_CauseIs) F19 ⟨⟨pg_CauseIs, hd_CauseIs, po_CauseIs, sa_CauseIs⟩, fun _ => fun m => (List.mem_cons.mp m).elim (fun e => by rw [e]; exact na_CauseIs_name) (fun m => (nomatch m))⟩
  have nm_CauseIs_marks : Mt1 l.prog w K mg base C_CauseIs "marks" 1 ["self"] (sp_CauseIs_marks K C_CauseIs) := ⟨_, _, ⟨a19, i19, k19⟩, b19, o_CauseIs_marks⟩
  have o_ThingIs_marks := ok_ThingIs_marks (P := l.prog) (w := w) (mg := mg) (base := base) (C_ThingIs := C_ThingIs) F20 ⟨⟨pg_ThingIs, hd_ThingIs, po_ThingIs, sa_ThingIs⟩, fun _ => fun m => (List.mem_cons.mp m).elim (fun e => by rw [e]; exact na_ThingIs_name) (fun m => (nomatch m))⟩
  have nm_ThingIs_marks : Mt1 l.prog w K mg base C_ThingIs "marks" 1 ["self"] (sp_ThingIs_marks K C_ThingIs) := ⟨_, _, ⟨a20, i20, k20⟩, b20, o_ThingIs_marks⟩
  have o_DaysIn_marks := ok_DaysIn_marks (P := l.prog) (w := w) (mg := mg) (base := base) (C_DaysIn := C_DaysIn) F21 ⟨⟨pg_DaysIn, hd_DaysIn, po_DaysIn, sa_DaysIn⟩, fun _ => fun m => (List.mem_cons.mp m).elim (fun e => by rw [e]; exact na_DaysIn_first) (fun m => (List.mem_cons.mp m).elim (fun e => by rw [e]; exact na_DaysIn_last) (fun m => (nomatch m)))⟩
  have nm_DaysIn_marks : Mt1 l.prog w K mg base C_DaysIn "marks" 1 ["self"] (sp_DaysIn_marks K C_DaysIn) := ⟨_, _, ⟨a21, i21, k21⟩, b21, o_DaysIn_marks⟩
  have o_Over_marks := ok_Over_marks (P := l.prog) (w := w) (mg := mg) (base := base) (C_Over := C_Over) F22 ⟨⟨pg_Over, hd_Over, po_Over, sa_Over⟩, fun _ => fun m => (List.mem_cons.mp m).elim (fun e => by rw [e]; exact na_Over_cents) (fun m => (nomatch m))⟩
  have nm_Over_marks : Mt1 l.prog w K mg base C_Over "marks" 1 ["self"] (sp_Over_marks K C_Over) := ⟨_, _, ⟨a22, i22, k22⟩, b22, o_Over_marks⟩
  have O_marks : ∀ n : Nat, FnOk l.prog w K mg base CX0 (1 + n) f23 (PySem.W.fnOf "joined_marks" "joined_marks" (defArgs s_joined_marks) (defBody s_joined_marks) (defScope s_joined_marks) .none kV23 dc23 pm23 an23 cd23 ct23) ["several"] (sp_joined_marks K C_Condition C_CauseIs C_ThingIs C_DaysIn C_Over C_Some n) ∧ FnOk l.prog w K mg base CX0 (1 + n) f24 (PySem.W.fnOf "marks" "Some.marks" (defArgs s_Some_marks) (defBody s_Some_marks) (defScope s_Some_marks) .none kV24 dc24 pm24 an24 cd24 ct24) ["self"] (sp_Some_marks K C_Some C_Condition C_CauseIs C_ThingIs C_DaysIn C_Over n) ∧ True := by
    intro n
    induction n with
    | zero => exact ⟨fn_vac (fun _ => rfl), fn_vac (fun _ => rfl), trivial⟩
    | succ n ih =>
      obtain ⟨ih_joined_marks, ih_Some_marks, _⟩ := ih
      have nm_Some_marks : Mt1 l.prog w K mg base C_Some "marks" (1 + n) ["self"] (sp_Some_marks K C_Some C_Condition C_CauseIs C_ThingIs C_DaysIn C_Over n) := ⟨_, _, ⟨a24, i24, k24⟩, b24, ih_Some_marks⟩
      have n_joined_marks : Fn1 l.prog w K mg base "joined_marks" (1 + n) ["several"] (sp_joined_marks K C_Condition C_CauseIs C_ThingIs C_DaysIn C_Over C_Some n) := ⟨_, _, PySem.W.mg_of X G a23, k23, b23, ih_joined_marks⟩
      exact ⟨ok_joined_marks (P := l.prog) (w := w) (mg := mg) (base := base) (C_Condition := C_Condition) (C_CauseIs := C_CauseIs) (C_ThingIs := C_ThingIs) (C_DaysIn := C_DaysIn) (C_Over := C_Over) (C_Some := C_Some) n F23 ⟨⟨pg_Condition, hd_Condition, po_Condition, sa_Condition⟩, fun _ => fun m => (nomatch m)⟩ ⟨⟨pg_CauseIs, hd_CauseIs, po_CauseIs, sa_CauseIs⟩, fun _ => fun m => (List.mem_cons.mp m).elim (fun e => by rw [e]; exact na_CauseIs_name) (fun m => (nomatch m))⟩ ⟨⟨pg_ThingIs, hd_ThingIs, po_ThingIs, sa_ThingIs⟩, fun _ => fun m => (List.mem_cons.mp m).elim (fun e => by rw [e]; exact na_ThingIs_name) (fun m => (nomatch m))⟩ ⟨⟨pg_DaysIn, hd_DaysIn, po_DaysIn, sa_DaysIn⟩, fun _ => fun m => (List.mem_cons.mp m).elim (fun e => by rw [e]; exact na_DaysIn_first) (fun m => (List.mem_cons.mp m).elim (fun e => by rw [e]; exact na_DaysIn_last) (fun m => (nomatch m)))⟩ ⟨⟨pg_Over, hd_Over, po_Over, sa_Over⟩, fun _ => fun m => (List.mem_cons.mp m).elim (fun e => by rw [e]; exact na_Over_cents) (fun m => (nomatch m))⟩ ⟨⟨pg_Some, hd_Some, po_Some, sa_Some⟩, fun _ => fun m => (List.mem_cons.mp m).elim (fun e => by rw [e]; exact na_Some_several) (fun m => (nomatch m))⟩ nm_Condition_marks nm_CauseIs_marks nm_ThingIs_marks nm_DaysIn_marks nm_Over_marks nm_Some_marks, ok_Some_marks (P := l.prog) (w := w) (mg := mg) (base := base) (C_Some := C_Some) (C_Condition := C_Condition) (C_CauseIs := C_CauseIs) (C_ThingIs := C_ThingIs) (C_DaysIn := C_DaysIn) (C_Over := C_Over) n F24 ⟨⟨pg_Some, hd_Some, po_Some, sa_Some⟩, fun _ => fun m => (List.mem_cons.mp m).elim (fun e => by rw [e]; exact na_Some_several) (fun m => (nomatch m))⟩ n_joined_marks, trivial⟩
  obtain ⟨o_joined_marks, o_Some_marks, _⟩ := O_marks 64
  have n_joined_marks : Fn1 l.prog w K mg base "joined_marks" 65 ["several"] (sp_joined_marks K C_Condition C_CauseIs C_ThingIs C_DaysIn C_Over C_Some 64) := ⟨_, _, PySem.W.mg_of X G a23, k23, b23, o_joined_marks⟩
  have nm_Some_marks : Mt1 l.prog w K mg base C_Some "marks" 65 ["self"] (sp_Some_marks K C_Some C_Condition C_CauseIs C_ThingIs C_DaysIn C_Over 64) := ⟨_, _, ⟨a24, i24, k24⟩, b24, o_Some_marks⟩
  have n_marks_of : Fn1 l.prog w K mg base "marks_of" 66 ["book"] (sp_marks_of K C_Book C_Cover C_Condition C_CauseIs C_ThingIs C_DaysIn C_Over C_Some C_Deal) := ⟨_, _, PySem.W.mg_of X G a25, k25, b25, ok_marks_of F25 z_sorted g_LAST_DAY ⟨⟨pg_Book, hd_Book, po_Book, sa_Book⟩, fun _ => fun m => (List.mem_cons.mp m).elim (fun e => by rw [e]; exact na_Book_covers) (fun m => (List.mem_cons.mp m).elim (fun e => by rw [e]; exact na_Book_asking) (fun m => (nomatch m)))⟩ ⟨⟨pg_Cover, hd_Cover, po_Cover, sa_Cover⟩, fun _ => fun m => (List.mem_cons.mp m).elim (fun e => by rw [e]; exact na_Cover_name) (fun m => (List.mem_cons.mp m).elim (fun e => by rw [e]; exact na_Cover_condition) (fun m => (List.mem_cons.mp m).elim (fun e => by rw [e]; exact na_Cover_clauses) (fun m => (List.mem_cons.mp m).elim (fun e => by rw [e]; exact na_Cover_houses) (fun m => (List.mem_cons.mp m).elim (fun e => by rw [e]; exact na_Cover_deal) (fun m => (List.mem_cons.mp m).elim (fun e => by rw [e]; exact na_Cover_waits) (fun m => (nomatch m)))))))⟩ ⟨⟨pg_Condition, hd_Condition, po_Condition, sa_Condition⟩, fun _ => fun m => (nomatch m)⟩ ⟨⟨pg_CauseIs, hd_CauseIs, po_CauseIs, sa_CauseIs⟩, fun _ => fun m => (List.mem_cons.mp m).elim (fun e => by rw [e]; exact na_CauseIs_name) (fun m => (nomatch m))⟩ ⟨⟨pg_ThingIs, hd_ThingIs, po_ThingIs, sa_ThingIs⟩, fun _ => fun m => (List.mem_cons.mp m).elim (fun e => by rw [e]; exact na_ThingIs_name) (fun m => (nomatch m))⟩ ⟨⟨pg_DaysIn, hd_DaysIn, po_DaysIn, sa_DaysIn⟩, fun _ => fun m => (List.mem_cons.mp m).elim (fun e => by rw [e]; exact na_DaysIn_first) (fun m => (List.mem_cons.mp m).elim (fun e => by rw [e]; exact na_DaysIn_last) (fun m => (nomatch m)))⟩ ⟨⟨pg_Over, hd_Over, po_Over, sa_Over⟩, fun _ => fun m => (List.mem_cons.mp m).elim (fun e => by rw [e]; exact na_Over_cents) (fun m => (nomatch m))⟩ ⟨⟨pg_Some, hd_Some, po_Some, sa_Some⟩, fun _ => fun m => (List.mem_cons.mp m).elim (fun e => by rw [e]; exact na_Some_several) (fun m => (nomatch m))⟩ nm_Condition_marks nm_CauseIs_marks nm_ThingIs_marks nm_DaysIn_marks nm_Over_marks nm_Some_marks⟩
  have n_parted : Fn1 l.prog w K mg base "parted" 1 ["first", "last", "marks"] (sp_parted K) := ⟨_, _, PySem.W.mg_of X G a26, k26, b26, ok_parted F26 ⟩
  have n_cells_of : Fn1E l.prog w K mg base "cells_of" 67 ["book"] (sp_cells_of K C_Book C_Cover C_Condition C_CauseIs C_ThingIs C_DaysIn C_Over C_Some C_Deal C_NoEntry C_TooWide) := ⟨_, _, PySem.W.mg_of X G a27, k27, b27, ok_cells_of F27 z_len g_MOST_ROWS g_LAST_DAY n_marks_of ⟨xq_TooWide, PySem.W.mg_of X G a_TooWide, xk_TooWide, xb_TooWide, xt_TooWide⟩ n_parted⟩
  have n_is_whole : Fn1 l.prog w K mg base "is_whole" 1 ["thing"] (sp_is_whole K) := ⟨_, _, PySem.W.mg_of X G a28, k28, b28, ok_is_whole F28 z_isinstance z_int z_bool⟩
  have n_is_amount : Fn1 l.prog w K mg base "is_amount" 2 ["thing"] (sp_is_amount K) := ⟨_, _, PySem.W.mg_of X G a29, k29, b29, ok_is_amount F29 g_MOST_CENTS n_is_whole⟩
  have n_stretches_of : Fn1 l.prog w K mg base "stretches_of" 67 ["book", "bound"] (sp_stretches_of K C_Book C_Cover C_Condition C_CauseIs C_ThingIs C_DaysIn C_Over C_Some C_Deal) := ⟨_, _, PySem.W.mg_of X G a30, k30, b30, ok_stretches_of F30 n_marks_of n_parted⟩
  have n_another : Fn1 l.prog w K mg base "another" 1 ["names"] (sp_another K) := ⟨_, _, PySem.W.mg_of X G a31, k31, b31, ok_another F31 g_LETTERS_cells⟩
  have n_loss_in : Fn1 l.prog w K mg base "loss_in" 67 ["book", "cell", "cents"] (sp_loss_in K C_Book C_Cover C_Condition C_CauseIs C_ThingIs C_DaysIn C_Over C_Some C_Deal) := ⟨_, _, PySem.W.mg_of X G a32, k32, b32, ok_loss_in F32 n_marks_of n_another⟩
  have o_Counts___init__ := ok_Counts___init__ (P := l.prog) (w := w) (mg := mg) (base := base) (C_Counts := C_Counts) F33 ⟨⟨pg_Counts, hd_Counts, po_Counts, sa_Counts⟩, fun _ => fun m => (List.mem_cons.mp m).elim (fun e => by rw [e]; exact na_Counts_held) (fun m => (nomatch m))⟩
  have ni_Counts : Mk1 l.prog w K mg base "Counts" C_Counts 1 ["self"] (spI_Counts___init__ K C_Counts) := ⟨_, _, PySem.W.mg_of X G a_Counts, ⟨mk_Counts, a33, i33, kc_Counts⟩, b33, toI_Counts___init__ o_Counts___init__⟩
  have o_Condition_holds := ok_Condition_holds (P := l.prog) (w := w) (mg := mg) (base := base) (C_Condition := C_Condition) (C_CauseIs := C_CauseIs) (C_ThingIs := C_ThingIs) (C_DaysIn := C_DaysIn) (C_Over := C_Over) (C_Some := C_Some) F34 
  have nm_Condition_holds : Mt1 l.prog w K mg base C_Condition "holds" 1 ["self", "loss"] (sp_Condition_holds K C_Condition C_CauseIs C_ThingIs C_DaysIn C_Over C_Some) := ⟨_, _, ⟨a34, i34, k34⟩, b34, o_Condition_holds⟩
  have o_CauseIs_holds := ok_CauseIs_holds (P := l.prog) (w := w) (mg := mg) (base := base) (C_CauseIs := C_CauseIs) F35 ⟨⟨pg_CauseIs, hd_CauseIs, po_CauseIs, sa_CauseIs⟩, fun _ => fun m => (List.mem_cons.mp m).elim (fun e => by rw [e]; exact na_CauseIs_name) (fun m => (nomatch m))⟩
  have nm_CauseIs_holds : Mt1 l.prog w K mg base C_CauseIs "holds" 1 ["self", "loss"] (sp_CauseIs_holds K C_CauseIs) := ⟨_, _, ⟨a35, i35, k35⟩, b35, o_CauseIs_holds⟩
  have o_ThingIs_holds := ok_ThingIs_holds (P := l.prog) (w := w) (mg := mg) (base := base) (C_ThingIs := C_ThingIs) F36 ⟨⟨pg_ThingIs, hd_ThingIs, po_ThingIs, sa_ThingIs⟩, fun _ => fun m => (List.mem_cons.mp m).elim (fun e => by rw [e]; exact na_ThingIs_name) (fun m => (nomatch m))⟩
  have nm_ThingIs_holds : Mt1 l.prog w K mg base C_ThingIs "holds" 1 ["self", "loss"] (sp_ThingIs_holds K C_ThingIs) := ⟨_, _, ⟨a36, i36, k36⟩, b36, o_ThingIs_holds⟩
  have o_DaysIn_holds := ok_DaysIn_holds (P := l.prog) (w := w) (mg := mg) (base := base) (C_DaysIn := C_DaysIn) F37 ⟨⟨pg_DaysIn, hd_DaysIn, po_DaysIn, sa_DaysIn⟩, fun _ => fun m => (List.mem_cons.mp m).elim (fun e => by rw [e]; exact na_DaysIn_first) (fun m => (List.mem_cons.mp m).elim (fun e => by rw [e]; exact na_DaysIn_last) (fun m => (nomatch m)))⟩
  have nm_DaysIn_holds : Mt1 l.prog w K mg base C_DaysIn "holds" 1 ["self", "loss"] (sp_DaysIn_holds K C_DaysIn) := ⟨_, _, ⟨a37, i37, k37⟩, b37, o_DaysIn_holds⟩
  have o_Over_holds := ok_Over_holds (P := l.prog) (w := w) (mg := mg) (base := base) (C_Over := C_Over) F38 ⟨⟨pg_Over, hd_Over, po_Over, sa_Over⟩, fun _ => fun m => (List.mem_cons.mp m).elim (fun e => by rw [e]; exact na_Over_cents) (fun m => (nomatch m))⟩
  have nm_Over_holds : Mt1 l.prog w K mg base C_Over "holds" 1 ["self", "loss"] (sp_Over_holds K C_Over) := ⟨_, _, ⟨a38, i38, k38⟩, b38, o_Over_holds⟩
  have O_holds : ∀ n : Nat, FnOk l.prog w K mg base CX0 (1 + n) f39 (PySem.W.fnOf "holds" "Some.holds" (defArgs s_Some_holds) (defBody s_Some_holds) (defScope s_Some_holds) .none kV39 dc39 pm39 an39 cd39 ct39) ["self", "loss"] (sp_Some_holds K C_Some C_Condition C_CauseIs C_ThingIs C_DaysIn C_Over n) ∧ True := by
    intro n
    induction n with
    | zero => exact ⟨fn_vac (fun _ => rfl), trivial⟩
    | succ n ih =>
      obtain ⟨ih_Some_holds, _⟩ := ih
      have nm_Some_holds : Mt1 l.prog w K mg base C_Some "holds" (1 + n) ["self", "loss"] (sp_Some_holds K C_Some C_Condition C_CauseIs C_ThingIs C_DaysIn C_Over n) := ⟨_, _, ⟨a39, i39, k39⟩, b39, ih_Some_holds⟩
      exact ⟨ok_Some_holds (P := l.prog) (w := w) (mg := mg) (base := base) (C_Some := C_Some) (C_Condition := C_Condition) (C_CauseIs := C_CauseIs) (C_ThingIs := C_ThingIs) (C_DaysIn := C_DaysIn) (C_Over := C_Over) n F39 ⟨⟨pg_Some, hd_Some, po_Some, sa_Some⟩, fun _ => fun m => (List.mem_cons.mp m).elim (fun e => by rw [e]; exact na_Some_several) (fun m => (nomatch m))⟩ ⟨⟨pg_Condition, hd_Condition, po_Condition, sa_Condition⟩, fun _ => fun m => (nomatch m)⟩ ⟨⟨pg_CauseIs, hd_CauseIs, po_CauseIs, sa_CauseIs⟩, fun _ => fun m => (List.mem_cons.mp m).elim (fun e => by rw [e]; exact na_CauseIs_name) (fun m => (nomatch m))⟩ ⟨⟨pg_ThingIs, hd_ThingIs, po_ThingIs, sa_ThingIs⟩, fun _ => fun m => (List.mem_cons.mp m).elim (fun e => by rw [e]; exact na_ThingIs_name) (fun m => (nomatch m))⟩ ⟨⟨pg_DaysIn, hd_DaysIn, po_DaysIn, sa_DaysIn⟩, fun _ => fun m => (List.mem_cons.mp m).elim (fun e => by rw [e]; exact na_DaysIn_first) (fun m => (List.mem_cons.mp m).elim (fun e => by rw [e]; exact na_DaysIn_last) (fun m => (nomatch m)))⟩ ⟨⟨pg_Over, hd_Over, po_Over, sa_Over⟩, fun _ => fun m => (List.mem_cons.mp m).elim (fun e => by rw [e]; exact na_Over_cents) (fun m => (nomatch m))⟩ nm_Condition_holds nm_CauseIs_holds nm_ThingIs_holds nm_DaysIn_holds nm_Over_holds nm_Some_holds, trivial⟩
  obtain ⟨o_Some_holds, _⟩ := O_holds 64
  have nm_Some_holds : Mt1 l.prog w K mg base C_Some "holds" 65 ["self", "loss"] (sp_Some_holds K C_Some C_Condition C_CauseIs C_ThingIs C_DaysIn C_Over 64) := ⟨_, _, ⟨a39, i39, k39⟩, b39, o_Some_holds⟩
  have o_Cover_asks := ok_Cover_asks (P := l.prog) (w := w) (mg := mg) (base := base) (C_Cover := C_Cover) (C_Condition := C_Condition) (C_CauseIs := C_CauseIs) (C_ThingIs := C_ThingIs) (C_DaysIn := C_DaysIn) (C_Over := C_Over) (C_Some := C_Some) (C_Deal := C_Deal) F40 ⟨⟨pg_Cover, hd_Cover, po_Cover, sa_Cover⟩, fun _ => fun m => (List.mem_cons.mp m).elim (fun e => by rw [e]; exact na_Cover_name) (fun m => (List.mem_cons.mp m).elim (fun e => by rw [e]; exact na_Cover_condition) (fun m => (List.mem_cons.mp m).elim (fun e => by rw [e]; exact na_Cover_clauses) (fun m => (List.mem_cons.mp m).elim (fun e => by rw [e]; exact na_Cover_houses) (fun m => (List.mem_cons.mp m).elim (fun e => by rw [e]; exact na_Cover_deal) (fun m => (List.mem_cons.mp m).elim (fun e => by rw [e]; exact na_Cover_waits) (fun m => (nomatch m)))))))⟩ ⟨⟨pg_Condition, hd_Condition, po_Condition, sa_Condition⟩, fun _ => fun m => (nomatch m)⟩ ⟨⟨pg_CauseIs, hd_CauseIs, po_CauseIs, sa_CauseIs⟩, fun _ => fun m => (List.mem_cons.mp m).elim (fun e => by rw [e]; exact na_CauseIs_name) (fun m => (nomatch m))⟩ ⟨⟨pg_ThingIs, hd_ThingIs, po_ThingIs, sa_ThingIs⟩, fun _ => fun m => (List.mem_cons.mp m).elim (fun e => by rw [e]; exact na_ThingIs_name) (fun m => (nomatch m))⟩ ⟨⟨pg_DaysIn, hd_DaysIn, po_DaysIn, sa_DaysIn⟩, fun _ => fun m => (List.mem_cons.mp m).elim (fun e => by rw [e]; exact na_DaysIn_first) (fun m => (List.mem_cons.mp m).elim (fun e => by rw [e]; exact na_DaysIn_last) (fun m => (nomatch m)))⟩ ⟨⟨pg_Over, hd_Over, po_Over, sa_Over⟩, fun _ => fun m => (List.mem_cons.mp m).elim (fun e => by rw [e]; exact na_Over_cents) (fun m => (nomatch m))⟩ ⟨⟨pg_Some, hd_Some, po_Some, sa_Some⟩, fun _ => fun m => (List.mem_cons.mp m).elim (fun e => by rw [e]; exact na_Some_several) (fun m => (nomatch m))⟩ nm_Condition_holds nm_CauseIs_holds nm_ThingIs_holds nm_DaysIn_holds nm_Over_holds nm_Some_holds
  have nm_Cover_asks : Mt1 l.prog w K mg base C_Cover "asks" 66 ["self", "loss"] (sp_Cover_asks K C_Cover C_Condition C_CauseIs C_ThingIs C_DaysIn C_Over C_Some C_Deal) := ⟨_, _, ⟨a40, i40, k40⟩, b40, o_Cover_asks⟩
  have n_numbers_of : Fn1 l.prog w K mg base "numbers_of" 1 ["cover", "counts", "loss"] (sp_numbers_of K C_Cover C_Condition C_CauseIs C_ThingIs C_DaysIn C_Over C_Some C_Deal C_Counts) := ⟨_, _, PySem.W.mg_of X G a41, k41, b41, ok_numbers_of F41 z_enumerate ⟨⟨pg_Cover, hd_Cover, po_Cover, sa_Cover⟩, fun _ => fun m => (List.mem_cons.mp m).elim (fun e => by rw [e]; exact na_Cover_name) (fun m => (List.mem_cons.mp m).elim (fun e => by rw [e]; exact na_Cover_condition) (fun m => (List.mem_cons.mp m).elim (fun e => by rw [e]; exact na_Cover_clauses) (fun m => (List.mem_cons.mp m).elim (fun e => by rw [e]; exact na_Cover_houses) (fun m => (List.mem_cons.mp m).elim (fun e => by rw [e]; exact na_Cover_deal) (fun m => (List.mem_cons.mp m).elim (fun e => by rw [e]; exact na_Cover_waits) (fun m => (nomatch m)))))))⟩⟩
  have o_Cover_spans := ok_Cover_spans (P := l.prog) (w := w) (mg := mg) (base := base) (C_Cover := C_Cover) (C_Condition := C_Condition) (C_CauseIs := C_CauseIs) (C_ThingIs := C_ThingIs) (C_DaysIn := C_DaysIn) (C_Over := C_Over) (C_Some := C_Some) (C_Deal := C_Deal) F42 z_enumerate ⟨⟨pg_Cover, hd_Cover, po_Cover, sa_Cover⟩, fun _ => fun m => (List.mem_cons.mp m).elim (fun e => by rw [e]; exact na_Cover_name) (fun m => (List.mem_cons.mp m).elim (fun e => by rw [e]; exact na_Cover_condition) (fun m => (List.mem_cons.mp m).elim (fun e => by rw [e]; exact na_Cover_clauses) (fun m => (List.mem_cons.mp m).elim (fun e => by rw [e]; exact na_Cover_houses) (fun m => (List.mem_cons.mp m).elim (fun e => by rw [e]; exact na_Cover_deal) (fun m => (List.mem_cons.mp m).elim (fun e => by rw [e]; exact na_Cover_waits) (fun m => (nomatch m)))))))⟩
  have nm_Cover_spans : Mt1 l.prog w K mg base C_Cover "spans" 1 ["self", "counts", "cents"] (sp_Cover_spans K C_Cover C_Condition C_CauseIs C_ThingIs C_DaysIn C_Over C_Some C_Deal) := ⟨_, _, ⟨a42, i42, k42⟩, b42, o_Cover_spans⟩
  have o_Cover_window := ok_Cover_window (P := l.prog) (w := w) (mg := mg) (base := base) (C_Cover := C_Cover) (C_Condition := C_Condition) (C_CauseIs := C_CauseIs) (C_ThingIs := C_ThingIs) (C_DaysIn := C_DaysIn) (C_Over := C_Over) (C_Some := C_Some) (C_Deal := C_Deal) F43 z_max z_min ⟨⟨pg_Cover, hd_Cover, po_Cover, sa_Cover⟩, fun _ => fun m => (List.mem_cons.mp m).elim (fun e => by rw [e]; exact na_Cover_name) (fun m => (List.mem_cons.mp m).elim (fun e => by rw [e]; exact na_Cover_condition) (fun m => (List.mem_cons.mp m).elim (fun e => by rw [e]; exact na_Cover_clauses) (fun m => (List.mem_cons.mp m).elim (fun e => by rw [e]; exact na_Cover_houses) (fun m => (List.mem_cons.mp m).elim (fun e => by rw [e]; exact na_Cover_deal) (fun m => (List.mem_cons.mp m).elim (fun e => by rw [e]; exact na_Cover_waits) (fun m => (nomatch m)))))))⟩ nm_Cover_spans
  have nm_Cover_window : Mt1 l.prog w K mg base C_Cover "window" 2 ["self", "counts", "cents"] (sp_Cover_window K C_Cover C_Condition C_CauseIs C_ThingIs C_DaysIn C_Over C_Some C_Deal) := ⟨_, _, ⟨a43, i43, k43⟩, b43, o_Cover_window⟩
  have n_cut_within : Fn1 l.prog w K mg base "cut_within" 1 ["runs", "lo", "hi"] (sp_cut_within K) := ⟨_, _, PySem.W.mg_of X G a44, k44, b44, ok_cut_within F44 z_max z_min⟩
  have o_Cover_rest := ok_Cover_rest (P := l.prog) (w := w) (mg := mg) (base := base) (C_Cover := C_Cover) (C_Condition := C_Condition) (C_CauseIs := C_CauseIs) (C_ThingIs := C_ThingIs) (C_DaysIn := C_DaysIn) (C_Over := C_Over) (C_Some := C_Some) (C_Deal := C_Deal) F45 z_enumerate ⟨⟨pg_Cover, hd_Cover, po_Cover, sa_Cover⟩, fun _ => fun m => (List.mem_cons.mp m).elim (fun e => by rw [e]; exact na_Cover_name) (fun m => (List.mem_cons.mp m).elim (fun e => by rw [e]; exact na_Cover_condition) (fun m => (List.mem_cons.mp m).elim (fun e => by rw [e]; exact na_Cover_clauses) (fun m => (List.mem_cons.mp m).elim (fun e => by rw [e]; exact na_Cover_houses) (fun m => (List.mem_cons.mp m).elim (fun e => by rw [e]; exact na_Cover_deal) (fun m => (List.mem_cons.mp m).elim (fun e => by rw [e]; exact na_Cover_waits) (fun m => (nomatch m)))))))⟩
  have nm_Cover_rest : Mt1 l.prog w K mg base C_Cover "rest" 1 ["self", "counts"] (sp_Cover_rest K C_Cover C_Condition C_CauseIs C_ThingIs C_DaysIn C_Over C_Some C_Deal) := ⟨_, _, ⟨a45, i45, k45⟩, b45, o_Cover_rest⟩
  have n_lowest_of : Fn1 l.prog w K mg base "lowest_of" 1 ["runs", "n"] (sp_lowest_of K) := ⟨_, _, PySem.W.mg_of X G a46, k46, b46, ok_lowest_of F46 z_list z_min⟩
  have n_paid_by : Fn1 l.prog w K mg base "paid_by" 3 ["cover", "had", "cents", "free"] (sp_paid_by K C_Cover C_Condition C_CauseIs C_ThingIs C_DaysIn C_Over C_Some C_Deal) := ⟨_, _, PySem.W.mg_of X G a47, k47, b47, ok_paid_by F47 ⟨⟨pg_Cover, hd_Cover, po_Cover, sa_Cover⟩, fun _ => fun m => (List.mem_cons.mp m).elim (fun e => by rw [e]; exact na_Cover_name) (fun m => (List.mem_cons.mp m).elim (fun e => by rw [e]; exact na_Cover_condition) (fun m => (List.mem_cons.mp m).elim (fun e => by rw [e]; exact na_Cover_clauses) (fun m => (List.mem_cons.mp m).elim (fun e => by rw [e]; exact na_Cover_houses) (fun m => (List.mem_cons.mp m).elim (fun e => by rw [e]; exact na_Cover_deal) (fun m => (List.mem_cons.mp m).elim (fun e => by rw [e]; exact na_Cover_waits) (fun m => (nomatch m)))))))⟩ nm_Cover_window n_cut_within nm_Cover_rest n_lowest_of⟩
  have n_cut_out : Fn1 l.prog w K mg base "cut_out" 1 ["runs", "others"] (sp_cut_out K) := ⟨_, _, PySem.W.mg_of X G a48, k48, b48, ok_cut_out F48 ⟩
  have n_left_out : Fn1 l.prog w K mg base "left_out" 1 ["spans", "at"] (sp_left_out K) := ⟨_, _, PySem.W.mg_of X G a49, k49, b49, ok_left_out F49 z_enumerate g_PAID_covers⟩
  have o_Cover_parts := ok_Cover_parts (P := l.prog) (w := w) (mg := mg) (base := base) (C_Cover := C_Cover) (C_Condition := C_Condition) (C_CauseIs := C_CauseIs) (C_ThingIs := C_ThingIs) (C_DaysIn := C_DaysIn) (C_Over := C_Over) (C_Some := C_Some) (C_Deal := C_Deal) F50 z_sorted z_zip ⟨⟨pg_Cover, hd_Cover, po_Cover, sa_Cover⟩, fun _ => fun m => (List.mem_cons.mp m).elim (fun e => by rw [e]; exact na_Cover_name) (fun m => (List.mem_cons.mp m).elim (fun e => by rw [e]; exact na_Cover_condition) (fun m => (List.mem_cons.mp m).elim (fun e => by rw [e]; exact na_Cover_clauses) (fun m => (List.mem_cons.mp m).elim (fun e => by rw [e]; exact na_Cover_houses) (fun m => (List.mem_cons.mp m).elim (fun e => by rw [e]; exact na_Cover_deal) (fun m => (List.mem_cons.mp m).elim (fun e => by rw [e]; exact na_Cover_waits) (fun m => (nomatch m)))))))⟩ nm_Cover_spans n_left_out
  have nm_Cover_parts : Mt1 l.prog w K mg base C_Cover "parts" 2 ["self", "counts", "cents"] (sp_Cover_parts K C_Cover C_Condition C_CauseIs C_ThingIs C_DaysIn C_Over C_Some C_Deal) := ⟨_, _, ⟨a50, i50, k50⟩, b50, o_Cover_parts⟩
  have n_unpaid_by : Fn1 l.prog w K mg base "unpaid_by" 3 ["cover", "had", "cents", "free"] (sp_unpaid_by K C_Cover C_Condition C_CauseIs C_ThingIs C_DaysIn C_Over C_Some C_Deal) := ⟨_, _, PySem.W.mg_of X G a51, k51, b51, ok_unpaid_by F51 g_PAID_settling ⟨⟨pg_Cover, hd_Cover, po_Cover, sa_Cover⟩, fun _ => fun m => (List.mem_cons.mp m).elim (fun e => by rw [e]; exact na_Cover_name) (fun m => (List.mem_cons.mp m).elim (fun e => by rw [e]; exact na_Cover_condition) (fun m => (List.mem_cons.mp m).elim (fun e => by rw [e]; exact na_Cover_clauses) (fun m => (List.mem_cons.mp m).elim (fun e => by rw [e]; exact na_Cover_houses) (fun m => (List.mem_cons.mp m).elim (fun e => by rw [e]; exact na_Cover_deal) (fun m => (List.mem_cons.mp m).elim (fun e => by rw [e]; exact na_Cover_waits) (fun m => (nomatch m)))))))⟩ nm_Cover_parts nm_Cover_rest n_cut_within⟩
  have n_strips_of : Fn1 l.prog w K mg base "strips_of" 67 ["book", "counts", "loss"] (sp_strips_of K C_Book C_Cover C_Condition C_CauseIs C_ThingIs C_DaysIn C_Over C_Some C_Deal C_Counts) := ⟨_, _, PySem.W.mg_of X G a52, k52, b52, ok_strips_of F52 z_sorted g_PAID_settling ⟨⟨pg_Book, hd_Book, po_Book, sa_Book⟩, fun _ => fun m => (List.mem_cons.mp m).elim (fun e => by rw [e]; exact na_Book_covers) (fun m => (List.mem_cons.mp m).elim (fun e => by rw [e]; exact na_Book_asking) (fun m => (nomatch m)))⟩ ⟨⟨pg_Cover, hd_Cover, po_Cover, sa_Cover⟩, fun _ => fun m => (List.mem_cons.mp m).elim (fun e => by rw [e]; exact na_Cover_name) (fun m => (List.mem_cons.mp m).elim (fun e => by rw [e]; exact na_Cover_condition) (fun m => (List.mem_cons.mp m).elim (fun e => by rw [e]; exact na_Cover_clauses) (fun m => (List.mem_cons.mp m).elim (fun e => by rw [e]; exact na_Cover_houses) (fun m => (List.mem_cons.mp m).elim (fun e => by rw [e]; exact na_Cover_deal) (fun m => (List.mem_cons.mp m).elim (fun e => by rw [e]; exact na_Cover_waits) (fun m => (nomatch m)))))))⟩ nm_Cover_asks n_numbers_of n_paid_by n_cut_out n_unpaid_by⟩
  have n_claim_of : Fn1 l.prog w K mg base "claim_of" 3 ["cover", "loss"] (sp_claim_of K C_Cover C_Condition C_CauseIs C_ThingIs C_DaysIn C_Over C_Some C_Deal) := ⟨_, _, PySem.W.mg_of X G a53, k53, b53, ok_claim_of F53 z_min ⟨⟨pg_Cover, hd_Cover, po_Cover, sa_Cover⟩, fun _ => fun m => (List.mem_cons.mp m).elim (fun e => by rw [e]; exact na_Cover_name) (fun m => (List.mem_cons.mp m).elim (fun e => by rw [e]; exact na_Cover_condition) (fun m => (List.mem_cons.mp m).elim (fun e => by rw [e]; exact na_Cover_clauses) (fun m => (List.mem_cons.mp m).elim (fun e => by rw [e]; exact na_Cover_houses) (fun m => (List.mem_cons.mp m).elim (fun e => by rw [e]; exact na_Cover_deal) (fun m => (List.mem_cons.mp m).elim (fun e => by rw [e]; exact na_Cover_waits) (fun m => (nomatch m)))))))⟩ ni_Counts n_numbers_of nm_Cover_window nm_Cover_rest⟩
  have n_claims_of : Fn1 l.prog w K mg base "claims_of" 67 ["book", "loss"] (sp_claims_of K C_Book C_Cover C_Condition C_CauseIs C_ThingIs C_DaysIn C_Over C_Some C_Deal) := ⟨_, _, PySem.W.mg_of X G a54, k54, b54, ok_claims_of F54 ⟨⟨pg_Book, hd_Book, po_Book, sa_Book⟩, fun _ => fun m => (List.mem_cons.mp m).elim (fun e => by rw [e]; exact na_Book_covers) (fun m => (List.mem_cons.mp m).elim (fun e => by rw [e]; exact na_Book_asking) (fun m => (nomatch m)))⟩ ⟨⟨pg_Cover, hd_Cover, po_Cover, sa_Cover⟩, fun _ => fun m => (List.mem_cons.mp m).elim (fun e => by rw [e]; exact na_Cover_name) (fun m => (List.mem_cons.mp m).elim (fun e => by rw [e]; exact na_Cover_condition) (fun m => (List.mem_cons.mp m).elim (fun e => by rw [e]; exact na_Cover_clauses) (fun m => (List.mem_cons.mp m).elim (fun e => by rw [e]; exact na_Cover_houses) (fun m => (List.mem_cons.mp m).elim (fun e => by rw [e]; exact na_Cover_deal) (fun m => (List.mem_cons.mp m).elim (fun e => by rw [e]; exact na_Cover_waits) (fun m => (nomatch m)))))))⟩ nm_Cover_asks n_claim_of⟩
  have n_row_of : Fn1 l.prog w K mg base "row_of" 68 ["book", "cell", "lo", "hi"] (sp_row_of K C_Book C_Cover C_Condition C_CauseIs C_ThingIs C_DaysIn C_Over C_Some C_Deal) := ⟨_, _, PySem.W.mg_of X G a55, k55, b55, ok_row_of F55 n_loss_in ni_Counts n_strips_of n_claims_of⟩
  have n_paper_of : Fn1E l.prog w K mg base "paper_of" 69 ["book", "bound"] (sp_paper_of K C_Book C_Cover C_Condition C_CauseIs C_ThingIs C_DaysIn C_Over C_Some C_Deal C_NoEntry C_TooWide) := ⟨_, _, PySem.W.mg_of X G a56, k56, b56, ok_paper_of F56 z_len g_MOST_ROWS n_is_amount ⟨xq_NoEntry, PySem.W.mg_of X G a_NoEntry, xk_NoEntry, xb_NoEntry, xt_NoEntry⟩ n_cells_of n_stretches_of ⟨xq_TooWide, PySem.W.mg_of X G a_TooWide, xk_TooWide, xb_TooWide, xt_TooWide⟩ n_row_of⟩
  have n__law_refused : Fn1 l.prog w K mg base "_law_refused" 70 ["_law_way", "_law_book_here", "_law_bound"] (sp__law_refused K C_Book C_Cover C_Condition C_CauseIs C_ThingIs C_DaysIn C_Over C_Some C_Deal) := ⟨_, _, PySem.W.mg_of X G a57, k57, b57, ok__law_refused F57 z_isinstance z_ValueError (PySem.W.mg_of X G a_CoverError) (PySem.W.exm_ref xb_CoverError xd_CoverError xt_CoverError xs_NoEntry_CoverError) (PySem.W.exm_ref xb_CoverError xd_CoverError xt_CoverError xs_TooWide_CoverError) n_cells_of n_paper_of (PySem.W.mg_of X G a_NoBook) ⟨xg_NoEntry, xh_NoEntry, xb_NoEntry, xd_NoEntry, xa_NoEntry, xn0, xt0, xm_NoEntry⟩ q_NoEntry_NoBook ⟨xg_TooWide, xh_TooWide, xb_TooWide, xd_TooWide, xa_TooWide, xn0, xt0, xm_TooWide⟩ q_TooWide_NoBook (PySem.W.mg_of X G a_NotTold) q_NoEntry_NotTold q_TooWide_NotTold (PySem.W.mg_of X G a_TooWide) q_NoEntry_TooWide q_TooWide_TooWide (PySem.W.mg_of X G a_NoEntry) q_NoEntry_NoEntry q_TooWide_NoEntry q_NoEntry_ValueError q_TooWide_ValueError⟩
  exact ok_law F58 z_range z_len z_int n__law_cell n__law_book n__law_refused n_paper_of n_cells_of n_stretches_of
theorem all_hk {l : PySem.W.OpenLaw} {w : World} {K : PySem.W.Frag} {h : Heap} {mg : Str → Option Value} {fa : Addr} (X : K.In h) (G : h.Ns mainGlobals mg) (hfa : mg "law" = some (.ref fa)) (c : SaysH hd_ex0 hd_fns K) : ∃ fd : FuncData, (∀ (s : Shared) (v : Value), BindsTo s fd ⟨[v], []⟩ [("_law_script", v)]) ∧ ∀ base : Heap, K.In base → base.Ns mainGlobals mg → FnOk l.prog w K mg base CX0 71 fa fd ["_law_script"] (spLaw K) := by
  have e := c.facts
  obtain ⟨e0, e⟩ := He.ba e
  obtain ⟨e1, e⟩ := He.ba e
  obtain ⟨e2, e⟩ := He.ba e
  obtain ⟨e3, e⟩ := He.ba e
  obtain ⟨e4, e⟩ := He.ba e
  obtain ⟨e5, e⟩ := He.ba e
  obtain ⟨e6, e⟩ := He.ba e
  obtain ⟨e7, e⟩ := He.ba e
  obtain ⟨e8, e⟩ := He.ba e
  obtain ⟨e9, e⟩ := He.ba e
  obtain ⟨e10, e⟩ := He.ba e
  obtain ⟨e11, e⟩ := He.ba e
  obtain ⟨e12, e⟩ := He.ba e
  obtain ⟨e13, e⟩ := He.ba e
  obtain ⟨e14, e⟩ := He.ba e
  obtain ⟨e15, e⟩ := He.ba e
  obtain ⟨h_a_CauseIs, e0⟩ := He.ba e0
  obtain ⟨h_pg_CauseIs, e0⟩ := He.ba e0
  obtain ⟨h_hd_CauseIs, e0⟩ := He.ba e0
  obtain ⟨h_po_CauseIs, e0⟩ := He.ba e0
  obtain ⟨h_sa_CauseIs, e0⟩ := He.ba e0
  obtain ⟨h_mk_CauseIs, e0⟩ := He.ba e0
  obtain ⟨h_kc_CauseIs, e0⟩ := He.ba e0
  obtain ⟨h_na_CauseIs_name, e0⟩ := He.ba e0
  obtain ⟨h_a_ThingIs, e0⟩ := He.ba e0
  obtain ⟨h_pg_ThingIs, e0⟩ := He.ba e0
  obtain ⟨h_hd_ThingIs, e0⟩ := He.ba e0
  obtain ⟨h_po_ThingIs, e0⟩ := He.ba e0
  obtain ⟨h_sa_ThingIs, e0⟩ := He.ba e0
  obtain ⟨h_mk_ThingIs, e0⟩ := He.ba e0
  obtain ⟨h_kc_ThingIs, e0⟩ := He.ba e0
  obtain ⟨h_na_ThingIs_name, e0⟩ := He.ba e0
  obtain ⟨h_a_DaysIn, e1⟩ := He.ba e1
  obtain ⟨h_pg_DaysIn, e1⟩ := He.ba e1
  obtain ⟨h_hd_DaysIn, e1⟩ := He.ba e1
  obtain ⟨h_po_DaysIn, e1⟩ := He.ba e1
  obtain ⟨h_sa_DaysIn, e1⟩ := He.ba e1
  obtain ⟨h_mk_DaysIn, e1⟩ := He.ba e1
  obtain ⟨h_kc_DaysIn, e1⟩ := He.ba e1
  obtain ⟨h_na_DaysIn_first, e1⟩ := He.ba e1
  obtain ⟨h_na_DaysIn_last, e1⟩ := He.ba e1
  obtain ⟨h_a_Over, e1⟩ := He.ba e1
  obtain ⟨h_pg_Over, e1⟩ := He.ba e1
  obtain ⟨h_hd_Over, e1⟩ := He.ba e1
  obtain ⟨h_po_Over, e1⟩ := He.ba e1
  obtain ⟨h_sa_Over, e1⟩ := He.ba e1
  obtain ⟨h_mk_Over, e1⟩ := He.ba e1
  obtain ⟨h_kc_Over, e1⟩ := He.ba e1
  obtain ⟨h_na_Over_cents, e2⟩ := He.ba e2
  obtain ⟨h_a_Some, e2⟩ := He.ba e2
  obtain ⟨h_pg_Some, e2⟩ := He.ba e2
  obtain ⟨h_hd_Some, e2⟩ := He.ba e2
  obtain ⟨h_po_Some, e2⟩ := He.ba e2
  obtain ⟨h_sa_Some, e2⟩ := He.ba e2
  obtain ⟨h_mk_Some, e2⟩ := He.ba e2
  obtain ⟨h_kc_Some, e2⟩ := He.ba e2
  obtain ⟨h_na_Some_several, e2⟩ := He.ba e2
  obtain ⟨h_a_Condition, e2⟩ := He.ba e2
  obtain ⟨h_pg_Condition, e2⟩ := He.ba e2
  obtain ⟨h_hd_Condition, e2⟩ := He.ba e2
  obtain ⟨h_po_Condition, e2⟩ := He.ba e2
  obtain ⟨h_sa_Condition, e2⟩ := He.ba e2
  obtain ⟨h_mk_Condition, e2⟩ := He.ba e2
  obtain ⟨h_kc_Condition, e2⟩ := He.ba e2
  obtain ⟨h_a_Deal, e3⟩ := He.ba e3
  obtain ⟨h_pg_Deal, e3⟩ := He.ba e3
  obtain ⟨h_hd_Deal, e3⟩ := He.ba e3
  obtain ⟨h_po_Deal, e3⟩ := He.ba e3
  obtain ⟨h_sa_Deal, e3⟩ := He.ba e3
  obtain ⟨h_mk_Deal, e3⟩ := He.ba e3
  obtain ⟨h_kc_Deal, e3⟩ := He.ba e3
  obtain ⟨h_na_Deal_wheel, e3⟩ := He.ba e3
  obtain ⟨h_na_Deal_weights, e3⟩ := He.ba e3
  obtain ⟨h_a_Cover, e3⟩ := He.ba e3
  obtain ⟨h_pg_Cover, e3⟩ := He.ba e3
  obtain ⟨h_hd_Cover, e3⟩ := He.ba e3
  obtain ⟨h_po_Cover, e3⟩ := He.ba e3
  obtain ⟨h_sa_Cover, e3⟩ := He.ba e3
  obtain ⟨h_mk_Cover, e3⟩ := He.ba e3
  obtain ⟨h_kc_Cover, e3⟩ := He.ba e3
  obtain ⟨h_na_Cover_name, e4⟩ := He.ba e4
  obtain ⟨h_na_Cover_condition, e4⟩ := He.ba e4
  obtain ⟨h_na_Cover_clauses, e4⟩ := He.ba e4
  obtain ⟨h_na_Cover_houses, e4⟩ := He.ba e4
  obtain ⟨h_na_Cover_deal, e4⟩ := He.ba e4
  obtain ⟨h_na_Cover_waits, e4⟩ := He.ba e4
  obtain ⟨h_a_Book, e4⟩ := He.ba e4
  obtain ⟨h_pg_Book, e4⟩ := He.ba e4
  obtain ⟨h_hd_Book, e4⟩ := He.ba e4
  obtain ⟨h_po_Book, e4⟩ := He.ba e4
  obtain ⟨h_sa_Book, e4⟩ := He.ba e4
  obtain ⟨h_mk_Book, e4⟩ := He.ba e4
  obtain ⟨h_kc_Book, e4⟩ := He.ba e4
  obtain ⟨h_na_Book_covers, e4⟩ := He.ba e4
  obtain ⟨h_na_Book_asking, e4⟩ := He.ba e4
  obtain ⟨h_a_Counts, e4⟩ := He.ba e4
  obtain ⟨h_pg_Counts, e5⟩ := He.ba e5
  obtain ⟨h_hd_Counts, e5⟩ := He.ba e5
  obtain ⟨h_po_Counts, e5⟩ := He.ba e5
  obtain ⟨h_sa_Counts, e5⟩ := He.ba e5
  obtain ⟨h_mk_Counts, e5⟩ := He.ba e5
  obtain ⟨h_kc_Counts, e5⟩ := He.ba e5
  obtain ⟨h_na_Counts_held, e5⟩ := He.ba e5
  obtain ⟨h_a_CoverError, e5⟩ := He.ba e5
  obtain ⟨h_a_NoBook, e5⟩ := He.ba e5
  obtain ⟨h_a_NotTold, e5⟩ := He.ba e5
  obtain ⟨h_a_TooWide, e5⟩ := He.ba e5
  obtain ⟨h_a_NoEntry, e5⟩ := He.ba e5
  obtain ⟨h_xq_TooWide, e5⟩ := He.ba e5
  obtain ⟨h_xk_TooWide, e5⟩ := He.ba e5
  obtain ⟨h_xb_TooWide, e5⟩ := He.ba e5
  obtain ⟨h_xt_TooWide, e5⟩ := He.ba e5
  obtain ⟨h_xq_NoEntry, e6⟩ := He.ba e6
  obtain ⟨h_xk_NoEntry, e6⟩ := He.ba e6
  obtain ⟨h_xb_NoEntry, e6⟩ := He.ba e6
  obtain ⟨h_xt_NoEntry, e6⟩ := He.ba e6
  obtain ⟨h_xg_NoEntry, e6⟩ := He.ba e6
  obtain ⟨h_xh_NoEntry, e6⟩ := He.ba e6
  obtain ⟨h_xd_NoEntry, e6⟩ := He.ba e6
  obtain ⟨h_xa_NoEntry, e6⟩ := He.ba e6
  obtain ⟨h_xm_NoEntry, e6⟩ := He.ba e6
  obtain ⟨h_xg_TooWide, e6⟩ := He.ba e6
  obtain ⟨h_xh_TooWide, e6⟩ := He.ba e6
  obtain ⟨h_xd_TooWide, e6⟩ := He.ba e6
  obtain ⟨h_xa_TooWide, e6⟩ := He.ba e6
  obtain ⟨h_xm_TooWide, e6⟩ := He.ba e6
  obtain ⟨h_xn0, e6⟩ := He.ba e6
  obtain ⟨h_xt0, e6⟩ := He.ba e6
  obtain ⟨h_xb_CoverError, e7⟩ := He.ba e7
  obtain ⟨h_xd_CoverError, e7⟩ := He.ba e7
  obtain ⟨h_xt_CoverError, e7⟩ := He.ba e7
  obtain ⟨h_xs_NoEntry_CoverError, e7⟩ := He.ba e7
  obtain ⟨h_xs_TooWide_CoverError, e7⟩ := He.ba e7
  obtain ⟨h_ob_Condition, e7⟩ := He.ba e7
  obtain ⟨h_a0, e7⟩ := He.ba e7
  obtain ⟨h_a1, e7⟩ := He.ba e7
  obtain ⟨h_i1, e7⟩ := He.ba e7
  obtain ⟨h_a2, e7⟩ := He.ba e7
  obtain ⟨h_i2, e7⟩ := He.ba e7
  obtain ⟨h_a3, e7⟩ := He.ba e7
  obtain ⟨h_i3, e7⟩ := He.ba e7
  obtain ⟨h_a4, e7⟩ := He.ba e7
  obtain ⟨h_i4, e7⟩ := He.ba e7
  obtain ⟨h_a5, e7⟩ := He.ba e7
  obtain ⟨h_i5, e8⟩ := He.ba e8
  obtain ⟨h_a6, e8⟩ := He.ba e8
  obtain ⟨h_a7, e8⟩ := He.ba e8
  obtain ⟨h_a8, e8⟩ := He.ba e8
  obtain ⟨h_a9, e8⟩ := He.ba e8
  obtain ⟨h_a10, e8⟩ := He.ba e8
  obtain ⟨h_a11, e8⟩ := He.ba e8
  obtain ⟨h_a12, e8⟩ := He.ba e8
  obtain ⟨h_a13, e8⟩ := He.ba e8
  obtain ⟨h_a14, e8⟩ := He.ba e8
  obtain ⟨h_i14, e8⟩ := He.ba e8
  obtain ⟨h_a15, e8⟩ := He.ba e8
  obtain ⟨h_i15, e8⟩ := He.ba e8
  obtain ⟨h_a16, e8⟩ := He.ba e8
  obtain ⟨h_i16, e8⟩ := He.ba e8
  obtain ⟨h_a17, e8⟩ := He.ba e8
  obtain ⟨h_a18, e9⟩ := He.ba e9
  obtain ⟨h_i18, e9⟩ := He.ba e9
  obtain ⟨h_a19, e9⟩ := He.ba e9
  obtain ⟨h_i19, e9⟩ := He.ba e9
  obtain ⟨h_a20, e9⟩ := He.ba e9
  obtain ⟨h_i20, e9⟩ := He.ba e9
  obtain ⟨h_a21, e9⟩ := He.ba e9
  obtain ⟨h_i21, e9⟩ := He.ba e9
  obtain ⟨h_a22, e9⟩ := He.ba e9
  obtain ⟨h_i22, e9⟩ := He.ba e9
  obtain ⟨h_a23, e9⟩ := He.ba e9
  obtain ⟨h_a24, e9⟩ := He.ba e9
  obtain ⟨h_i24, e9⟩ := He.ba e9
  obtain ⟨h_a25, e9⟩ := He.ba e9
  obtain ⟨h_a26, e9⟩ := He.ba e9
  obtain ⟨h_a27, e9⟩ := He.ba e9
  obtain ⟨h_a28, e10⟩ := He.ba e10
  obtain ⟨h_a29, e10⟩ := He.ba e10
  obtain ⟨h_a30, e10⟩ := He.ba e10
  obtain ⟨h_a31, e10⟩ := He.ba e10
  obtain ⟨h_a32, e10⟩ := He.ba e10
  obtain ⟨h_a33, e10⟩ := He.ba e10
  obtain ⟨h_i33, e10⟩ := He.ba e10
  obtain ⟨h_a34, e10⟩ := He.ba e10
  obtain ⟨h_i34, e10⟩ := He.ba e10
  obtain ⟨h_a35, e10⟩ := He.ba e10
  obtain ⟨h_i35, e10⟩ := He.ba e10
  obtain ⟨h_a36, e10⟩ := He.ba e10
  obtain ⟨h_i36, e10⟩ := He.ba e10
  obtain ⟨h_a37, e10⟩ := He.ba e10
  obtain ⟨h_i37, e10⟩ := He.ba e10
  obtain ⟨h_a38, e10⟩ := He.ba e10
  obtain ⟨h_i38, e11⟩ := He.ba e11
  obtain ⟨h_a39, e11⟩ := He.ba e11
  obtain ⟨h_i39, e11⟩ := He.ba e11
  obtain ⟨h_a40, e11⟩ := He.ba e11
  obtain ⟨h_i40, e11⟩ := He.ba e11
  obtain ⟨h_a41, e11⟩ := He.ba e11
  obtain ⟨h_a42, e11⟩ := He.ba e11
  obtain ⟨h_i42, e11⟩ := He.ba e11
  obtain ⟨h_a43, e11⟩ := He.ba e11
  obtain ⟨h_i43, e11⟩ := He.ba e11
  obtain ⟨h_a44, e11⟩ := He.ba e11
  obtain ⟨h_a45, e11⟩ := He.ba e11
  obtain ⟨h_i45, e11⟩ := He.ba e11
  obtain ⟨h_a46, e11⟩ := He.ba e11
  obtain ⟨h_a47, e11⟩ := He.ba e11
  obtain ⟨h_a48, e11⟩ := He.ba e11
  obtain ⟨h_a49, e12⟩ := He.ba e12
  obtain ⟨h_a50, e12⟩ := He.ba e12
  obtain ⟨h_i50, e12⟩ := He.ba e12
  obtain ⟨h_a51, e12⟩ := He.ba e12
  obtain ⟨h_a52, e12⟩ := He.ba e12
  obtain ⟨h_a53, e12⟩ := He.ba e12
  obtain ⟨h_a54, e12⟩ := He.ba e12
  obtain ⟨h_a55, e12⟩ := He.ba e12
  obtain ⟨h_a56, e12⟩ := He.ba e12
  obtain ⟨h_a57, e12⟩ := He.ba e12
  obtain ⟨h_a58, e12⟩ := He.ba e12
  obtain ⟨h_mr_NoEntry_NoBook, e12⟩ := He.ba e12
  obtain ⟨h_ms_NoEntry, e12⟩ := He.ba e12
  obtain ⟨h_mr_TooWide_NoBook, e12⟩ := He.ba e12
  obtain ⟨h_ms_TooWide, e12⟩ := He.ba e12
  obtain ⟨h_mr_NoEntry_NotTold, e12⟩ := He.ba e12
  obtain ⟨h_mr_TooWide_NotTold, e13⟩ := He.ba e13
  obtain ⟨h_mr_NoEntry_TooWide, e13⟩ := He.ba e13
  obtain ⟨h_mr_TooWide_TooWide, e13⟩ := He.ba e13
  obtain ⟨h_mr_NoEntry_NoEntry, e13⟩ := He.ba e13
  obtain ⟨h_mr_TooWide_NoEntry, e13⟩ := He.ba e13
  obtain ⟨h_mr_NoEntry_ValueError, e13⟩ := He.ba e13
  obtain ⟨h_mr_TooWide_ValueError, e13⟩ := He.ba e13
  obtain ⟨h_ic_NoBook, e13⟩ := He.ba e13
  obtain ⟨h_ti_NoBook, e13⟩ := He.ba e13
  obtain ⟨h_ic_NoEntry, e13⟩ := He.ba e13
  obtain ⟨h_ti_NoEntry, e13⟩ := He.ba e13
  obtain ⟨h_ic_NotTold, e13⟩ := He.ba e13
  obtain ⟨h_ti_NotTold, e13⟩ := He.ba e13
  obtain ⟨h_ic_TooWide, e13⟩ := He.ba e13
  obtain ⟨h_ti_TooWide, e13⟩ := He.ba e13
  obtain ⟨h_z_len, e13⟩ := He.ba e13
  obtain ⟨h_z_list, e14⟩ := He.ba e14
  obtain ⟨h_z_isinstance, e14⟩ := He.ba e14
  obtain ⟨h_z_str, e14⟩ := He.ba e14
  obtain ⟨h_z_bool, e14⟩ := He.ba e14
  obtain ⟨h_z_int, e14⟩ := He.ba e14
  obtain ⟨h_z_sum, e14⟩ := He.ba e14
  obtain ⟨h_z_range, e14⟩ := He.ba e14
  obtain ⟨h_z_set, e14⟩ := He.ba e14
  obtain ⟨h_z_sorted, e14⟩ := He.ba e14
  obtain ⟨h_z_enumerate, e14⟩ := He.ba e14
  obtain ⟨h_z_max, e14⟩ := He.ba e14
  obtain ⟨h_z_min, e14⟩ := He.ba e14
  obtain ⟨h_z_zip, e14⟩ := He.ba e14
  obtain ⟨h_z_ValueError, e14⟩ := He.ba e14
  obtain ⟨h_g_LETTERS_losses, e14⟩ := He.ba e14
  obtain ⟨_, v_g_LETTERS_losses⟩ := strB_ok h_g_LETTERS_losses
  obtain ⟨h_g_MOST_PLACES, e14⟩ := He.ba e14
  obtain ⟨_, v_g_MOST_PLACES⟩ := intB_ok h_g_MOST_PLACES
  obtain ⟨h_g_MOST_TURNS, e15⟩ := He.ba e15
  obtain ⟨_, v_g_MOST_TURNS⟩ := intB_ok h_g_MOST_TURNS
  obtain ⟨h_g_MOST_CLAUSES, e15⟩ := He.ba e15
  obtain ⟨_, v_g_MOST_CLAUSES⟩ := intB_ok h_g_MOST_CLAUSES
  obtain ⟨h_g_MOST_COVERS, e15⟩ := He.ba e15
  obtain ⟨_, v_g_MOST_COVERS⟩ := intB_ok h_g_MOST_COVERS
  obtain ⟨h_g_LAST_DAY, e15⟩ := He.ba e15
  obtain ⟨_, v_g_LAST_DAY⟩ := intB_ok h_g_LAST_DAY
  obtain ⟨h_g_MOST_ROWS, e15⟩ := He.ba e15
  obtain ⟨_, v_g_MOST_ROWS⟩ := intB_ok h_g_MOST_ROWS
  obtain ⟨h_g_MOST_CENTS, e15⟩ := He.ba e15
  obtain ⟨_, v_g_MOST_CENTS⟩ := intB_ok h_g_MOST_CENTS
  obtain ⟨h_g_LETTERS_cells, e15⟩ := He.ba e15
  obtain ⟨_, v_g_LETTERS_cells⟩ := strB_ok h_g_LETTERS_cells
  obtain ⟨h_g_PAID_covers, e15⟩ := He.ba e15
  obtain ⟨_, v_g_PAID_covers⟩ := intB_ok h_g_PAID_covers
  obtain ⟨h_g_PAID_settling, e15⟩ := He.ba e15
  obtain ⟨_, v_g_PAID_settling⟩ := intB_ok h_g_PAID_settling
  obtain ⟨_, E0⟩ := c.def_ 0 (d := hd_dd0) rfl
  obtain ⟨_, _, _, _, _, _, _, _, _, l0, c0, k0⟩ := funD_raw E0
  obtain ⟨_, E1⟩ := c.def_ 1 (d := hd_dd1) rfl
  obtain ⟨_, _, _, _, _, _, _, _, _, l1, c1, k1⟩ := funD_raw E1
  obtain ⟨_, E2⟩ := c.def_ 2 (d := hd_dd2) rfl
  obtain ⟨_, _, _, _, _, _, _, _, _, l2, c2, k2⟩ := funD_raw E2
  obtain ⟨_, E3⟩ := c.def_ 3 (d := hd_dd3) rfl
  obtain ⟨_, _, _, _, _, _, _, _, _, l3, c3, k3⟩ := funD_raw E3
  obtain ⟨_, E4⟩ := c.def_ 4 (d := hd_dd4) rfl
  obtain ⟨_, _, _, _, _, _, _, _, _, l4, c4, k4⟩ := funD_raw E4
  obtain ⟨_, E5⟩ := c.def_ 5 (d := hd_dd5) rfl
  obtain ⟨_, _, _, _, _, _, _, _, _, l5, c5, k5⟩ := funD_raw E5
  obtain ⟨_, E6⟩ := c.def_ 6 (d := hd_dd6) rfl
  obtain ⟨_, _, _, _, _, _, _, _, _, l6, c6, k6⟩ := funD_raw E6
  obtain ⟨_, E7⟩ := c.def_ 7 (d := hd_dd7) rfl
  obtain ⟨_, _, _, _, _, _, _, _, _, l7, c7, k7⟩ := funD_raw E7
  obtain ⟨_, E8⟩ := c.def_ 8 (d := hd_dd8) rfl
  obtain ⟨_, _, _, _, _, _, _, _, _, l8, c8, k8⟩ := funD_raw E8
  obtain ⟨_, E9⟩ := c.def_ 9 (d := hd_dd9) rfl
  obtain ⟨_, _, _, _, _, _, _, _, _, l9, c9, k9⟩ := funD_raw E9
  obtain ⟨_, E10⟩ := c.def_ 10 (d := hd_dd10) rfl
  obtain ⟨_, _, _, _, _, _, _, _, _, l10, c10, k10⟩ := funD_raw E10
  obtain ⟨_, E11⟩ := c.def_ 11 (d := hd_dd11) rfl
  obtain ⟨_, _, _, _, _, _, _, _, _, l11, c11, k11⟩ := funD_raw E11
  obtain ⟨_, E12⟩ := c.def_ 12 (d := hd_dd12) rfl
  obtain ⟨_, _, _, _, _, _, _, _, _, l12, c12, k12⟩ := funD_raw E12
  obtain ⟨_, E13⟩ := c.def_ 13 (d := hd_dd13) rfl
  obtain ⟨_, _, _, _, _, _, _, _, _, l13, c13, k13⟩ := funD_raw E13
  obtain ⟨_, E14⟩ := c.def_ 14 (d := hd_dd14) rfl
  obtain ⟨_, _, _, _, _, _, _, _, _, l14, c14, k14⟩ := funD_raw E14
  obtain ⟨_, E15⟩ := c.def_ 15 (d := hd_dd15) rfl
  have F15 := E15
  have k15 := E15.kp
  obtain ⟨_, E16⟩ := c.def_ 16 (d := hd_dd16) rfl
  obtain ⟨_, _, _, _, _, _, _, _, _, l16, c16, k16⟩ := funD_raw E16
  obtain ⟨_, E17⟩ := c.def_ 17 (d := hd_dd17) rfl
  obtain ⟨_, _, _, _, _, _, _, _, _, l17, c17, k17⟩ := funD_raw E17
  obtain ⟨_, E18⟩ := c.def_ 18 (d := hd_dd18) rfl
  obtain ⟨_, _, _, _, _, _, _, _, _, l18, c18, k18⟩ := funD_raw E18
  obtain ⟨_, E19⟩ := c.def_ 19 (d := hd_dd19) rfl
  obtain ⟨_, _, _, _, _, _, _, _, _, l19, c19, k19⟩ := funD_raw E19
  obtain ⟨_, E20⟩ := c.def_ 20 (d := hd_dd20) rfl
  obtain ⟨_, _, _, _, _, _, _, _, _, l20, c20, k20⟩ := funD_raw E20
  obtain ⟨_, E21⟩ := c.def_ 21 (d := hd_dd21) rfl
  obtain ⟨_, _, _, _, _, _, _, _, _, l21, c21, k21⟩ := funD_raw E21
  obtain ⟨_, E22⟩ := c.def_ 22 (d := hd_dd22) rfl
  obtain ⟨_, _, _, _, _, _, _, _, _, l22, c22, k22⟩ := funD_raw E22
  obtain ⟨_, E23⟩ := c.def_ 23 (d := hd_dd23) rfl
  obtain ⟨_, _, _, _, _, _, _, _, _, l23, c23, k23⟩ := funD_raw E23
  obtain ⟨_, E24⟩ := c.def_ 24 (d := hd_dd24) rfl
  obtain ⟨_, _, _, _, _, _, _, _, _, l24, c24, k24⟩ := funD_raw E24
  obtain ⟨_, E25⟩ := c.def_ 25 (d := hd_dd25) rfl
  obtain ⟨_, _, _, _, _, _, _, _, _, l25, c25, k25⟩ := funD_raw E25
  obtain ⟨_, E26⟩ := c.def_ 26 (d := hd_dd26) rfl
  obtain ⟨_, _, _, _, _, _, _, _, _, l26, c26, k26⟩ := funD_raw E26
  obtain ⟨_, E27⟩ := c.def_ 27 (d := hd_dd27) rfl
  obtain ⟨_, _, _, _, _, _, _, _, _, l27, c27, k27⟩ := funD_raw E27
  obtain ⟨_, E28⟩ := c.def_ 28 (d := hd_dd28) rfl
  obtain ⟨_, _, _, _, _, _, _, _, _, l28, c28, k28⟩ := funD_raw E28
  obtain ⟨_, E29⟩ := c.def_ 29 (d := hd_dd29) rfl
  obtain ⟨_, _, _, _, _, _, _, _, _, l29, c29, k29⟩ := funD_raw E29
  obtain ⟨_, E30⟩ := c.def_ 30 (d := hd_dd30) rfl
  obtain ⟨_, _, _, _, _, _, _, _, _, l30, c30, k30⟩ := funD_raw E30
  obtain ⟨_, E31⟩ := c.def_ 31 (d := hd_dd31) rfl
  obtain ⟨_, _, _, _, _, _, _, _, _, l31, c31, k31⟩ := funD_raw E31
  obtain ⟨_, E32⟩ := c.def_ 32 (d := hd_dd32) rfl
  obtain ⟨_, _, _, _, _, _, _, _, _, l32, c32, k32⟩ := funD_raw E32
  obtain ⟨_, E33⟩ := c.def_ 33 (d := hd_dd33) rfl
  obtain ⟨_, _, _, _, _, _, _, _, _, l33, c33, k33⟩ := funD_raw E33
  obtain ⟨_, E34⟩ := c.def_ 34 (d := hd_dd34) rfl
  obtain ⟨_, _, _, _, _, _, _, _, _, l34, c34, k34⟩ := funD_raw E34
  obtain ⟨_, E35⟩ := c.def_ 35 (d := hd_dd35) rfl
  obtain ⟨_, _, _, _, _, _, _, _, _, l35, c35, k35⟩ := funD_raw E35
  obtain ⟨_, E36⟩ := c.def_ 36 (d := hd_dd36) rfl
  obtain ⟨_, _, _, _, _, _, _, _, _, l36, c36, k36⟩ := funD_raw E36
  obtain ⟨_, E37⟩ := c.def_ 37 (d := hd_dd37) rfl
  obtain ⟨_, _, _, _, _, _, _, _, _, l37, c37, k37⟩ := funD_raw E37
  obtain ⟨_, E38⟩ := c.def_ 38 (d := hd_dd38) rfl
  obtain ⟨_, _, _, _, _, _, _, _, _, l38, c38, k38⟩ := funD_raw E38
  obtain ⟨_, E39⟩ := c.def_ 39 (d := hd_dd39) rfl
  obtain ⟨_, _, _, _, _, _, _, _, _, l39, c39, k39⟩ := funD_raw E39
  obtain ⟨_, E40⟩ := c.def_ 40 (d := hd_dd40) rfl
  obtain ⟨_, _, _, _, _, _, _, _, _, l40, c40, k40⟩ := funD_raw E40
  obtain ⟨_, E41⟩ := c.def_ 41 (d := hd_dd41) rfl
  obtain ⟨_, _, _, _, _, _, _, _, _, l41, c41, k41⟩ := funD_raw E41
  obtain ⟨_, E42⟩ := c.def_ 42 (d := hd_dd42) rfl
  obtain ⟨_, _, _, _, _, _, _, _, _, l42, c42, k42⟩ := funD_raw E42
  obtain ⟨_, E43⟩ := c.def_ 43 (d := hd_dd43) rfl
  obtain ⟨_, _, _, _, _, _, _, _, _, l43, c43, k43⟩ := funD_raw E43
  obtain ⟨_, E44⟩ := c.def_ 44 (d := hd_dd44) rfl
  obtain ⟨_, _, _, _, _, _, _, _, _, l44, c44, k44⟩ := funD_raw E44
  obtain ⟨_, E45⟩ := c.def_ 45 (d := hd_dd45) rfl
  obtain ⟨_, _, _, _, _, _, _, _, _, l45, c45, k45⟩ := funD_raw E45
  obtain ⟨_, E46⟩ := c.def_ 46 (d := hd_dd46) rfl
  obtain ⟨_, _, _, _, _, _, _, _, _, l46, c46, k46⟩ := funD_raw E46
  obtain ⟨_, E47⟩ := c.def_ 47 (d := hd_dd47) rfl
  obtain ⟨_, _, _, _, _, _, _, _, _, l47, c47, k47⟩ := funD_raw E47
  obtain ⟨_, E48⟩ := c.def_ 48 (d := hd_dd48) rfl
  obtain ⟨_, _, _, _, _, _, _, _, _, l48, c48, k48⟩ := funD_raw E48
  obtain ⟨_, E49⟩ := c.def_ 49 (d := hd_dd49) rfl
  obtain ⟨_, _, _, _, _, _, _, _, _, l49, c49, k49⟩ := funD_raw E49
  obtain ⟨_, E50⟩ := c.def_ 50 (d := hd_dd50) rfl
  obtain ⟨_, _, _, _, _, _, _, _, _, l50, c50, k50⟩ := funD_raw E50
  obtain ⟨_, E51⟩ := c.def_ 51 (d := hd_dd51) rfl
  obtain ⟨_, _, _, _, _, _, _, _, _, l51, c51, k51⟩ := funD_raw E51
  obtain ⟨_, E52⟩ := c.def_ 52 (d := hd_dd52) rfl
  obtain ⟨_, _, _, _, _, _, _, _, _, l52, c52, k52⟩ := funD_raw E52
  obtain ⟨_, E53⟩ := c.def_ 53 (d := hd_dd53) rfl
  obtain ⟨_, _, _, _, _, _, _, _, _, l53, c53, k53⟩ := funD_raw E53
  obtain ⟨_, E54⟩ := c.def_ 54 (d := hd_dd54) rfl
  obtain ⟨_, _, _, _, _, _, _, _, _, l54, c54, k54⟩ := funD_raw E54
  obtain ⟨_, E55⟩ := c.def_ 55 (d := hd_dd55) rfl
  obtain ⟨_, _, _, _, _, _, _, _, _, l55, c55, k55⟩ := funD_raw E55
  obtain ⟨_, E56⟩ := c.def_ 56 (d := hd_dd56) rfl
  obtain ⟨_, _, _, _, _, _, _, _, _, l56, c56, k56⟩ := funD_raw E56
  obtain ⟨_, E57⟩ := c.def_ 57 (d := hd_dd57) rfl
  obtain ⟨_, _, _, _, _, _, _, _, _, l57, c57, k57⟩ := funD_raw E57
  obtain ⟨_, E58⟩ := c.def_ 58 (d := hd_dd58) rfl
  obtain ⟨_, _, _, _, _, _, _, _, _, l58, c58, k58⟩ := funD_raw E58
  exact all_mk X G hfa (dO_ok h_a_CauseIs) h_pg_CauseIs h_hd_CauseIs h_po_CauseIs (dO_ok h_sa_CauseIs) h_mk_CauseIs h_kc_CauseIs (dO_ok h_na_CauseIs_name) (dO_ok h_a_ThingIs) h_pg_ThingIs h_hd_ThingIs h_po_ThingIs (dO_ok h_sa_ThingIs) h_mk_ThingIs h_kc_ThingIs (dO_ok h_na_ThingIs_name) (dO_ok h_a_DaysIn) h_pg_DaysIn h_hd_DaysIn h_po_DaysIn (dO_ok h_sa_DaysIn) h_mk_DaysIn h_kc_DaysIn (dO_ok h_na_DaysIn_first) (dO_ok h_na_DaysIn_last) (dO_ok h_a_Over) h_pg_Over h_hd_Over h_po_Over (dO_ok h_sa_Over) h_mk_Over h_kc_Over (dO_ok h_na_Over_cents) (dO_ok h_a_Some) h_pg_Some h_hd_Some h_po_Some (dO_ok h_sa_Some) h_mk_Some h_kc_Some (dO_ok h_na_Some_several) (dO_ok h_a_Condition) h_pg_Condition h_hd_Condition h_po_Condition (dO_ok h_sa_Condition) h_mk_Condition h_kc_Condition (dO_ok h_a_Deal) h_pg_Deal h_hd_Deal h_po_Deal (dO_ok h_sa_Deal) h_mk_Deal h_kc_Deal (dO_ok h_na_Deal_wheel) (dO_ok h_na_Deal_weights) (dO_ok h_a_Cover) h_pg_Cover h_hd_Cover h_po_Cover (dO_ok h_sa_Cover) h_mk_Cover h_kc_Cover (dO_ok h_na_Cover_name) (dO_ok h_na_Cover_condition) (dO_ok h_na_Cover_clauses) (dO_ok h_na_Cover_houses) (dO_ok h_na_Cover_deal) (dO_ok h_na_Cover_waits) (dO_ok h_a_Book) h_pg_Book h_hd_Book h_po_Book (dO_ok h_sa_Book) h_mk_Book h_kc_Book (dO_ok h_na_Book_covers) (dO_ok h_na_Book_asking) (dO_ok h_a_Counts) h_pg_Counts h_hd_Counts h_po_Counts (dO_ok h_sa_Counts) h_mk_Counts h_kc_Counts (dO_ok h_na_Counts_held) (dO_ok h_a_CoverError) (dO_ok h_a_NoBook) (dO_ok h_a_NotTold) (dO_ok h_a_TooWide) (dO_ok h_a_NoEntry) h_xq_TooWide h_xk_TooWide (dB_ok h_xb_TooWide) (dV_ok h_xt_TooWide) h_xq_NoEntry h_xk_NoEntry (dB_ok h_xb_NoEntry) (dV_ok h_xt_NoEntry) (dO_ok h_xg_NoEntry) (dO_ok h_xh_NoEntry) h_xd_NoEntry (dO_ok h_xa_NoEntry) (dB_ok h_xm_NoEntry) (dO_ok h_xg_TooWide) (dO_ok h_xh_TooWide) h_xd_TooWide (dO_ok h_xa_TooWide) (dB_ok h_xm_TooWide) (dO_ok h_xn0) (dB_ok h_xt0) (dB_ok h_xb_CoverError) h_xd_CoverError (dV_ok h_xt_CoverError) (dB_ok h_xs_NoEntry_CoverError) (dB_ok h_xs_TooWide_CoverError) (dO_ok h_ob_Condition) (dO_ok h_a0) l0 c0 k0 (dO_ok h_a1) l1 c1 k1 h_i1 (dO_ok h_a2) l2 c2 k2 h_i2 (dO_ok h_a3) l3 c3 k3 h_i3 (dO_ok h_a4) l4 c4 k4 h_i4 (dO_ok h_a5) l5 c5 k5 h_i5 (dO_ok h_a6) l6 c6 k6 (dO_ok h_a7) l7 c7 k7 (dO_ok h_a8) l8 c8 k8 (dO_ok h_a9) l9 c9 k9 (dO_ok h_a10) l10 c10 k10 (dO_ok h_a11) l11 c11 k11 (dO_ok h_a12) l12 c12 k12 (dO_ok h_a13) l13 c13 k13 (dO_ok h_a14) l14 c14 k14 h_i14 (dO_ok h_a15) F15 k15 h_i15 (dO_ok h_a16) l16 c16 k16 h_i16 (dO_ok h_a17) l17 c17 k17 (dO_ok h_a18) l18 c18 k18 h_i18 (dO_ok h_a19) l19 c19 k19 h_i19 (dO_ok h_a20) l20 c20 k20 h_i20 (dO_ok h_a21) l21 c21 k21 h_i21 (dO_ok h_a22) l22 c22 k22 h_i22 (dO_ok h_a23) l23 c23 k23 (dO_ok h_a24) l24 c24 k24 h_i24 (dO_ok h_a25) l25 c25 k25 (dO_ok h_a26) l26 c26 k26 (dO_ok h_a27) l27 c27 k27 (dO_ok h_a28) l28 c28 k28 (dO_ok h_a29) l29 c29 k29 (dO_ok h_a30) l30 c30 k30 (dO_ok h_a31) l31 c31 k31 (dO_ok h_a32) l32 c32 k32 (dO_ok h_a33) l33 c33 k33 h_i33 (dO_ok h_a34) l34 c34 k34 h_i34 (dO_ok h_a35) l35 c35 k35 h_i35 (dO_ok h_a36) l36 c36 k36 h_i36 (dO_ok h_a37) l37 c37 k37 h_i37 (dO_ok h_a38) l38 c38 k38 h_i38 (dO_ok h_a39) l39 c39 k39 h_i39 (dO_ok h_a40) l40 c40 k40 h_i40 (dO_ok h_a41) l41 c41 k41 (dO_ok h_a42) l42 c42 k42 h_i42 (dO_ok h_a43) l43 c43 k43 h_i43 (dO_ok h_a44) l44 c44 k44 (dO_ok h_a45) l45 c45 k45 h_i45 (dO_ok h_a46) l46 c46 k46 (dO_ok h_a47) l47 c47 k47 (dO_ok h_a48) l48 c48 k48 (dO_ok h_a49) l49 c49 k49 (dO_ok h_a50) l50 c50 k50 h_i50 (dO_ok h_a51) l51 c51 k51 (dO_ok h_a52) l52 c52 k52 (dO_ok h_a53) l53 c53 k53 (dO_ok h_a54) l54 c54 k54 (dO_ok h_a55) l55 c55 k55 (dO_ok h_a56) l56 c56 k56 (dO_ok h_a57) l57 c57 k57 (dO_ok h_a58) l58 c58 k58 (dB_ok h_mr_NoEntry_NoBook) (dB_ok h_ms_NoEntry) (dB_ok h_mr_TooWide_NoBook) (dB_ok h_ms_TooWide) (dB_ok h_mr_NoEntry_NotTold) (dB_ok h_mr_TooWide_NotTold) (dB_ok h_mr_NoEntry_TooWide) (dB_ok h_mr_TooWide_TooWide) (dB_ok h_mr_NoEntry_NoEntry) (dB_ok h_mr_TooWide_NoEntry) (dB_ok h_mr_NoEntry_ValueError) (dB_ok h_mr_TooWide_ValueError) h_ic_NoBook (dV_ok h_ti_NoBook) h_ic_NoEntry (dV_ok h_ti_NoEntry) h_ic_NotTold (dV_ok h_ti_NotTold) h_ic_TooWide (dV_ok h_ti_TooWide) (dO_ok h_z_len) (dO_ok h_z_list) (dO_ok h_z_isinstance) (dO_ok h_z_str) (dO_ok h_z_bool) (dO_ok h_z_int) (dO_ok h_z_sum) (dO_ok h_z_range) (dO_ok h_z_set) (dO_ok h_z_sorted) (dO_ok h_z_enumerate) (dO_ok h_z_max) (dO_ok h_z_min) (dO_ok h_z_zip) (dO_ok h_z_ValueError) v_g_LETTERS_losses v_g_MOST_PLACES v_g_MOST_TURNS v_g_MOST_CLAUSES v_g_MOST_COVERS v_g_LAST_DAY v_g_MOST_ROWS v_g_MOST_CENTS v_g_LETTERS_cells v_g_PAID_covers v_g_PAID_settling
end K89

open PySem PySem.W PyProof.Rows in
set_option maxRecDepth 100000 in
set_option maxHeartbeats 0 in
theorem PySem.Challenge.cw_coverroll_k89_too_wide_holds : PySem.Challenge.rw_coverroll_k89_too_wide.Holds := by
  w_on; o_law
  refine HandSHeadRun.head_any (r := OpenLaw.row PySem.Challenge.rw_coverroll_k89_too_wide) (q := view (OpenLaw.row PySem.Challenge.rw_coverroll_k89_too_wide).prog [73]) (H := K89.hd_hk) (ob := K89.hd_ob) (M := 14000) (loose := K89.hd_nms) (d := HandSHeadRun.topDef (OpenLaw.row PySem.Challenge.rw_coverroll_k89_too_wide).prog 73) (kwd := []) K89.hd_ob_eq
    (by kernel_rfl) (fun s => by kernel_rfl) K89.hd_run (by kernel_rfl) (by kernel_rfl) (by kernel_rfl) (by rfl) (by first | assumption | decide +kernel) (by decide +kernel) ⟨rfl, rfl, rfl, rfl, rfl, by decide +kernel⟩ ?hw ?hc
  case hw => w_witness2
  case hc =>
    refine L2.walk_ofE (l := PySem.Challenge.rw_coverroll_k89_too_wide) (n := 63) (k := 71) (x := "_law_script") (CX := L2.CX0) rfl (by decide) (by kernel_rfl) ⟨rfl, by decide, by decide⟩ ?F (fun _ _ _ _ z => z)
    intro w mg fa h Y G hmg0
    obtain ⟨K, KX, c⟩ := Y
    have hmg : mg ("law" : PySem.Str) = some (.ref fa) := by
      have e : (HandSHeadRun.topDef (OpenLaw.row PySem.Challenge.rw_coverroll_k89_too_wide).prog 73).name = ("law" : PySem.Str) := by kernel_rfl
      rw [← e]
      exact hmg0
    obtain ⟨fd, hb, hF⟩ := K89.all_hk (l := PySem.Challenge.rw_coverroll_k89_too_wide) (w := w) KX G hmg c
    exact ⟨K, fd, M.spLaw K, KX, hb, fun H a ns hl _ hS => M.spLaw_of hS hl, hF⟩
