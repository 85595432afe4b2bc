import PyProof.Rows.All
import Wide.All
import OpenK.AllK
import Wide.FinOn
import HandS.ForMost
import HandS.IsInst
import HandS.Exc
import HandS.Style
import HandS.Wide
import HandS.StrMore
import HandS.SetFor
import PyProof.LongRange
import HandS.Codes
import KE.SortData
import HandS.ClsMeth
import PyProof.Rows.StrRev
import PyProof.StrOps2
import HandS.Defaults
import HandS.More
import HandS.ExcOwn
import HandS.WordsExc
import HandS.TryOnly
import HandS.ExcIs
import HandS.Deep
import HandS.Text
import PyProof.EqKinds
import PyProof.P3In
import HandS.Dict
import PyProof.DictMoreH
import HandS.SetKeys
import KE.KDictWalk
import HandS.Iter
import HandS.Strs
import PyProof.Rows.SetFrom
import HandS.Head0
import HandS.Head1
import HandS.Head2
import HandS.HeadEnd
import HandS.HeadHook1
import HandS.HeadHook2
import HandS.List
import HandS.OwnEq
import HandS.SortKw
import KE.SortKeyHeap
import HandS.TupLe
import PySem.Challenge.RW_coverroll_k51_rows_that_wait
set_option Elab.async false
set_option linter.all false
set_option maxRecDepth 100000
set_option maxHeartbeats 4000000
namespace M
open PySem L2
/-! the head by a Hook: one Bool of all facts, and the defs -/
theorem funD_raw {K : PySem.W.Frag} {x qual : Str} {params : Arguments} {body : List Stmt} {scope : Scope} {f : Addr} {fd : FuncData} (F : FunD K x qual params body scope [] [] f fd) :
    ∃ (oc : Value) (od : Option Addr) (kV doc pm : Value) (an : Option Addr) (cdv ct : Value) (osl : Array (Option Value)), K.lookup f = some ⟨oc, od, .func (PySem.W.fnOf x qual params body scope .none kV doc pm an cdv ct), osl⟩ ∧ PySem.W.codeIn K cdv qual = true ∧ PySem.W.keepIn K (.ref f) = true := by
  obtain ⟨oc, od, dV, kV, doc, pm, an, cdv, ct, osl, rfl, lk, cd, dv, kv⟩ := F.ex
  rcases dv with ⟨_, rfl⟩ | ⟨h, _⟩
  · exact ⟨oc, od, kV, doc, pm, an, cdv, ct, osl, lk, cd, F.kp⟩
  · exact absurd rfl h
theorem funD_fun {K : PySem.W.Frag} {x qual : Str} {st : Stmt} {f : Addr} {fd : FuncData} (F : FunD K x qual (defArgs st) (defBody st) (defScope st) [] [] f fd) : Fun K x qual st f fd := by
  obtain ⟨oc, od, dV, kV, doc, pm, an, cdv, ct, osl, rfl, lk, cd, dv, kv⟩ := F.ex
  rcases dv with ⟨_, rfl⟩ | ⟨h, _⟩
  · exact ⟨⟨oc, od, kV, doc, pm, an, cdv, ct, osl, rfl, lk, cd⟩, F.kp⟩
  · exact absurd rfl h
/-- the objects that an object names, as far as facts of classes and defs go -/
def refsM (o : Obj) : List Addr := match o.data with
  | .dict es _ => es.toList.flatMap fun e => He.refV e.val
  | .func fd => He.refV fd.code ++ He.refV fd.defaults
  | .cls cd => [cd.ns]
  | _ => []
def nextM (g : Addr → Option Obj) (as : List Addr) : List Addr := as.flatMap fun a => match g a with
  | some o => refsM o
  | none => []
def fromM (g : Addr → Option Obj) : Nat → List Addr → List Addr
  | 0, as => as
  | n + 1, as => as ++ fromM g n (nextM g as)
def asM (g : Addr → Option Obj) (n : Nat) : List Addr := fromM g n [mainGlobals] ++ [cStatics]
abbrev AlH : Type := Bool × List He.FnW
def obsH (ex : PySem.W.Frag → Bool) (fn : List He.DefD) (K : PySem.W.Frag) : AlH := (ex K && fn.all fun d => d.ok K, fn.map fun d => He.fnW K d.at_)
def valH (fn : List He.DefD) : AlH := (true, fn.map He.DefD.val)
def SaysH (ex : PySem.W.Frag → Bool) (fn : List He.DefD) (K : PySem.W.Frag) : Prop := obsH ex fn K = valH fn
def obsHG (n : Nat) (ex : PySem.W.Frag → Bool) (fn : List He.DefD) (g : Addr → Option Obj) : AlH := obsH ex fn (He.frG g (asM g n))
def hookH (n : Nat) (ex : PySem.W.Frag → Bool) (fn : List He.DefD) : PySem.W.Hook where
  α := AlH
  obs := fun s => obsHG n ex fn s.heap.get?
  val := fun _ => valH fn
  says := fun _ h => ∃ K : PySem.W.Frag, K.In h ∧ SaysH ex fn K
  of := fun _ _ e => ⟨_, He.frG_in, e⟩
  keeps := fun _ _ _ ⟨K, hK, c⟩ k => ⟨K, PySem.W.Frag.In.keeps hK k, c⟩
theorem obsHG_eq {n : Nat} {ex : PySem.W.Frag → Bool} {fn : List He.DefD} {g : Addr → Option Obj} {s : Shared} (h : ∀ a, g a = s.heap.get? a) : obsHG n ex fn g = (hookH n ex fn).obs s := by
  have e : g = s.heap.get? := funext h
  rw [e] <;> rfl
section
variable {ex : PySem.W.Frag → Bool} {fn : List He.DefD} {K : PySem.W.Frag}
theorem SaysH.facts (c : SaysH ex fn K) : ex K = true := (He.ba (show (ex K && fn.all fun d => d.ok K) = true from congrArg (fun z : AlH => z.1) c)).1
theorem SaysH.def_ (c : SaysH ex fn K) (i : Nat) {d : He.DefD} (h : fn[i]? = some d) : ∃ fd, FunD K d.name d.qual d.params d.body d.scope (d.dvs K) (d.kws K) (He.fAd K d.at_) fd := by
  have c2 := (He.ba (show (ex K && fn.all fun d => d.ok K) = true from congrArg (fun z : AlH => z.1) c)).2
  have e : fn.map (fun d => He.fnW K d.at_) = fn.map He.DefD.val := congrArg (fun z : AlH => z.2) c
  have e2 : (fn.map fun d => He.fnW K d.at_)[i]? = (fn.map He.DefD.val)[i]? := by rw [e]
  rw [List.getElem?_map, List.getElem?_map, h] at e2
  exact He.DefD.funD (Option.some.inj e2) (List.all_eq_true.mp c2 d (List.mem_of_getElem? h))
end
/-! facts as Bools -/
def dO (a b : Option (Option Value)) : Bool := decide (a = b)
def dV (a b : Option Value) : Bool := decide (a = b)
def dB (a b : Option Bool) : Bool := decide (a = b)
theorem dO_ok {a b : Option (Option Value)} (h : dO a b = true) : a = b := of_decide_eq_true h
theorem dV_ok {a b : Option Value} (h : dV a b = true) : a = b := of_decide_eq_true h
theorem dB_ok {a b : Option Bool} (h : dB a b = true) : a = b := of_decide_eq_true h
def clsB (K : PySem.W.Frag) (c mc : Value) (m : Str) (f : Addr) : Bool := match PySem.W.findCls K c mc m with
  | some (.val (.ref a)) => decide (a = f)
  | _ => false
theorem clsB_ok {K : PySem.W.Frag} {c mc : Value} {m : Str} {f : Addr} (h : clsB K c mc m f = true) : PySem.W.findCls K c mc m = some (.val (.ref f)) := by
  unfold clsB at h
  split at h
  · rename_i a e
    rw [e, of_decide_eq_true h]
  · cases h
def intB (K : PySem.W.Frag) (x : Str) (i : Int) : Bool := match PySem.W.nsIn K mainGlobals x with
  | some (some (.int j _)) => decide (j = i)
  | _ => false
theorem intB_ok {K : PySem.W.Frag} {x : Str} {i : Int} (h : intB K x i = true) : ∃ t, PySem.W.nsIn K mainGlobals x = some (some (.int i t)) := by
  unfold intB at h
  split at h
  · rename_i j t e
    rw [of_decide_eq_true h] at e
    exact ⟨t, e⟩
  · cases h
def strB (K : PySem.W.Frag) (x z : Str) : Bool := match PySem.W.nsIn K mainGlobals x with
  | some (some (.str y _)) => decide (y = z)
  | _ => false
theorem strB_ok {K : PySem.W.Frag} {x z : Str} (h : strB K x z = true) : ∃ t, PySem.W.nsIn K mainGlobals x = some (some (.str z t)) := by
  unfold strB at h
  split at h
  · rename_i j t e
    rw [of_decide_eq_true h] at e
    exact ⟨t, e⟩
  · cases h
/-- a name that stands for a tuple of plain values -/
def tupV (K : PySem.W.Frag) (x : Str) (vs : List V) : Bool := He.eqO (PySem.W.nsIn K mainGlobals x) (some (some (.ref (He.ga K x)))) && match K.lookup (He.ga K x) with
  | some ⟨.type c, _, .seq its _, _⟩ => decide (c = "tuple") && (decide (its.size ≤ sizeLine) && He.relAll vs its.toList)
  | _ => false
end M
namespace K51
open PySem L2 M
def top (i : Nat) : Stmt := PySem.Challenge.pw_coverroll_k51_rows_that_wait.main.body.getD i (.Pass ⟨0, 0, 0, 0⟩)
abbrev s_turn_of : Stmt := top 1
abbrev s_Days___init__ : Stmt := inClass (top 2) 0
abbrev s_Days_put : Stmt := inClass (top 2) 1
abbrev s_Days_has_number : Stmt := inClass (top 2) 2
abbrev s_Days_up_to : Stmt := inClass (top 2) 3
abbrev s__law_cell : Stmt := top 4
abbrev s__law_whole : Stmt := top 5
abbrev s__law_mix : Stmt := top 6
abbrev s__law_ahead : Stmt := top 7
abbrev s__law_due : Stmt := top 8
abbrev s__law_same : Stmt := top 9
abbrev s__law_put : Stmt := top 10
abbrev s__law_triple : Stmt := top 11
abbrev s_law : Stmt := top 12
def hd_gx0 (K : PySem.W.Frag) : Bool := dO (PySem.W.nsIn K mainGlobals "Days") (some (some (.ref (He.ga K "Days")))) && (PySem.W.plainGet K (He.ga K "Days") Str.empty && (PySem.W.hasDictIn K (He.ga K "Days") && (PySem.W.plainOver K (He.ga K "Days") && (dO (PySem.W.findIn K (.ref (He.ga K "Days")) "__setattr__") (some (some (.builtin "object.__setattr__"))) && (PySem.W.makesIn K (He.ga K "Days") && (PySem.W.keepIn K (.ref (He.ga K "Days")) && (dO (PySem.W.findIn K (.ref (He.ga K "Days")) "waiting") (some none) && (dO (PySem.W.findIn K (.ref (He.ga K "Days")) "known") (some none) && (dO (PySem.W.nsIn K mainGlobals "_law_cell") (some (some (.ref (He.fAd K ("_law_cell", none))))) && (dO (PySem.W.findIn K (.ref (He.ga K "Days")) "__init__") (some (some (.ref (He.fAd K ("Days", some "__init__"))))) && (PySem.W.isFn K (.ref (He.fAd K ("Days", some "__init__"))) && (dO (PySem.W.nsIn K mainGlobals "_law_mix") (some (some (.ref (He.fAd K ("_law_mix", none))))) && (dO (PySem.W.nsIn K mainGlobals "_law_ahead") (some (some (.ref (He.fAd K ("_law_ahead", none))))) && (dO (PySem.W.nsIn K mainGlobals "_law_due") (some (some (.ref (He.fAd K ("_law_due", none))))) && (dO (PySem.W.nsIn K mainGlobals "turn_of") (some (some (.ref (He.fAd K ("turn_of", none))))) && (true))))))))))))))))
def hd_gx1 (K : PySem.W.Frag) : Bool := dO (PySem.W.findIn K (.ref (He.ga K "Days")) "up_to") (some (some (.ref (He.fAd K ("Days", some "up_to"))))) && (PySem.W.isFn K (.ref (He.fAd K ("Days", some "up_to"))) && (dO (PySem.W.nsIn K mainGlobals "_law_whole") (some (some (.ref (He.fAd K ("_law_whole", none))))) && (dO (PySem.W.nsIn K mainGlobals "_law_same") (some (some (.ref (He.fAd K ("_law_same", none))))) && (dO (PySem.W.nsIn K mainGlobals "_law_triple") (some (some (.ref (He.fAd K ("_law_triple", none))))) && (dO (PySem.W.findIn K (.ref (He.ga K "Days")) "has_number") (some (some (.ref (He.fAd K ("Days", some "has_number"))))) && (PySem.W.isFn K (.ref (He.fAd K ("Days", some "has_number"))) && (dO (PySem.W.findIn K (.ref (He.ga K "Days")) "put") (some (some (.ref (He.fAd K ("Days", some "put"))))) && (PySem.W.isFn K (.ref (He.fAd K ("Days", some "put"))) && (dO (PySem.W.nsIn K mainGlobals "_law_put") (some (some (.ref (He.fAd K ("_law_put", none))))) && (dO (PySem.W.nsIn K mainGlobals "law") (some (some (.ref (He.fAd K ("law", none))))) && (dO (PySem.W.nsIn K mainGlobals "len") (some none) && (dO (PySem.W.nsIn K mainGlobals "sorted") (some none) && (dO (PySem.W.nsIn K mainGlobals "isinstance") (some none) && (dO (PySem.W.nsIn K mainGlobals "int") (some none) && (dO (PySem.W.nsIn K mainGlobals "bool") (some none) && (true))))))))))))))))
def hd_gx2 (K : PySem.W.Frag) : Bool := dO (PySem.W.nsIn K mainGlobals "list") (some none) && (dO (PySem.W.nsIn K mainGlobals "tuple") (some none) && (dO (PySem.W.nsIn K mainGlobals "enumerate") (some none) && (true)))
def hd_ex0 (K : PySem.W.Frag) : Bool := hd_gx0 K && (hd_gx1 K && (hd_gx2 K && (true)))
def hd_dd0 : He.DefD := ⟨("_law_cell", none), "_law_cell", "_law_cell", defArgs s__law_cell, defBody s__law_cell, defScope s__law_cell, [], []⟩
def hd_dd1 : He.DefD := ⟨("Days", some "__init__"), "__init__", "Days.__init__", defArgs s_Days___init__, defBody s_Days___init__, defScope s_Days___init__, [], []⟩
def hd_dd2 : He.DefD := ⟨("_law_mix", none), "_law_mix", "_law_mix", defArgs s__law_mix, defBody s__law_mix, defScope s__law_mix, [], []⟩
def hd_dd3 : He.DefD := ⟨("_law_ahead", none), "_law_ahead", "_law_ahead", defArgs s__law_ahead, defBody s__law_ahead, defScope s__law_ahead, [], []⟩
def hd_dd4 : He.DefD := ⟨("_law_due", none), "_law_due", "_law_due", defArgs s__law_due, defBody s__law_due, defScope s__law_due, [], []⟩
def hd_dd5 : He.DefD := ⟨("turn_of", none), "turn_of", "turn_of", defArgs s_turn_of, defBody s_turn_of, defScope s_turn_of, [], []⟩
def hd_dd6 : He.DefD := ⟨("Days", some "up_to"), "up_to", "Days.up_to", defArgs s_Days_up_to, defBody s_Days_up_to, defScope s_Days_up_to, [], []⟩
def hd_dd7 : He.DefD := ⟨("_law_whole", none), "_law_whole", "_law_whole", defArgs s__law_whole, defBody s__law_whole, defScope s__law_whole, [], []⟩
def hd_dd8 : He.DefD := ⟨("_law_same", none), "_law_same", "_law_same", defArgs s__law_same, defBody s__law_same, defScope s__law_same, [], []⟩
def hd_dd9 : He.DefD := ⟨("_law_triple", none), "_law_triple", "_law_triple", defArgs s__law_triple, defBody s__law_triple, defScope s__law_triple, [], []⟩
def hd_dd10 : He.DefD := ⟨("Days", some "has_number"), "has_number", "Days.has_number", defArgs s_Days_has_number, defBody s_Days_has_number, defScope s_Days_has_number, [], []⟩
def hd_dd11 : He.DefD := ⟨("Days", some "put"), "put", "Days.put", defArgs s_Days_put, defBody s_Days_put, defScope s_Days_put, [], []⟩
def hd_dd12 : He.DefD := ⟨("_law_put", none), "_law_put", "_law_put", defArgs s__law_put, defBody s__law_put, defScope s__law_put, [], []⟩
def hd_dd13 : He.DefD := ⟨("law", none), "law", "law", defArgs s_law, defBody s_law, defScope s_law, [], []⟩
def hd_fn0 : List He.DefD := [hd_dd0, hd_dd1, hd_dd2, hd_dd3, hd_dd4, hd_dd5, hd_dd6, hd_dd7, hd_dd8, hd_dd9, hd_dd10, hd_dd11, hd_dd12, hd_dd13]
def hd_fns : List He.DefD := hd_fn0
def hd_nm0 : List PySem.Str := [("__name__" : PySem.Str), ("turn_of" : PySem.Str), ("Days" : PySem.Str), ("_law_cell" : PySem.Str), ("_law_whole" : PySem.Str), ("_law_mix" : PySem.Str), ("_law_ahead" : PySem.Str), ("_law_due" : PySem.Str), ("_law_same" : PySem.Str), ("_law_put" : PySem.Str), ("_law_triple" : PySem.Str)]
def hd_nms : List PySem.Str := hd_nm0
abbrev hd_RR : PySem.W.OpenRow := PySem.W.OpenLaw.row PySem.Challenge.rw_coverroll_k51_rows_that_wait
abbrev hd_hk : PySem.W.Hook := hookH 4 hd_ex0 hd_fns
def hd_ob (s : PySem.W.SharedT) : AlH := obsHG 4 hd_ex0 hd_fns (HandSHeadRun.getT s)
theorem hd_ob_eq (s : PySem.W.SharedT) : hd_ob s = hd_hk.obs s.abs := obsHG_eq (HandSHeadRun.getT_eq s)
set_option maxHeartbeats 0 in
theorem hd_run (w : World) : HandSHeadRun.RunEq hd_RR (PySem.W.view hd_RR.prog [12]) hd_hk hd_ob 14000 hd_nms w := by
  intro os
  kernel_rfl

end K51
namespace M
open PySem L2

/-- data that no one changes any more -/
inductive D where
  | non | bl (b : Bool) | int (i : Int) | str (x : Str) | ty (n : String) | opq (a : Addr)
  | tup (ds : List D) | lst (ds : List D) | ins (C : Addr) (ns : List Str) (ds : List D)
  | dct (ks : List Key) (ds : List D) | dctT (ks : List (List Key)) (ds : List D)
/-- an error: its class, its attribute -/
structure Er where
  C : Addr
  fld : Option (Str × D) := none
/-- things of the def's own, that may be changed; rs: nothing comes back, an error is raised; vw: a list that stays as it is while the def runs -/
inductive O where
  | fz (d : D) | vw (ds : List D) | lst (os : List O) | tup (os : List O) | ins (C : Addr) (ns : List Str) (os : List O)
  | dct (ks : List Key) (os : List O) | dctT (ks : List (List Key)) (os : List O)
  | at (a : Addr) (C : Addr) (ns : List Str) (os : List O)
  | vwa (a : Addr) (ds : List D)
  | loc (a : Addr) (o : O)
  | pt (a : Addr)
  | rs (e : Er)
  | lk (o : O)

def Ex (H H' : Hp) : Prop := ∀ a o, H a = some o → H' a = some o
theorem Ex.refl (H : Hp) : Ex H H := fun _ _ h => h
theorem Ex.trans {H H1 H2 : Hp} (a : Ex H H1) (b : Ex H1 H2) : Ex H H2 := fun x o h => b x o (a x o h)
theorem Ex.new {H : Hp} {p : Addr} {o : HO} (h : H p = none) : Ex H (upd H p o) := fun a u e => by
  rw [upd_ne (ne_of_none e h)]
  exact e
theorem Ex.free {H H' : Hp} {p : Addr} (e : Ex H H') (h : H' p = none) : H p = none := by
  cases h1 : H p with
  | none => rfl
  | some o =>
    rw [e p o h1] at h
    cases h
theorem Ex.mut {H H' : Hp} {p : Addr} {o : HO} (e : Ex H H') (h : H p = none) : Ex H (upd H' p o) := fun a u ha => by
  rw [upd_ne (ne_of_none ha h)]
  exact e a u ha
theorem ex_rd {H H' : Hp} {a : Addr} {u : HO} (e : Ex H H') (h : Rd H a u) : Rd H' a u := by
  rcases h with h | ⟨o, h⟩
  · exact .inl (e a _ h)
  · exact .inr ⟨o, e a _ h⟩
theorem ex_l {K : PySem.W.Frag} {H H' : Hp} {a : Addr} {xs : List V} (e : Ex H H') (h : SqL K H a xs) : SqL K H' a xs := by
  rcases h with h | h
  · exact .inl (ex_rd e h)
  · exact .inr h
theorem ex_t {K : PySem.W.Frag} {H H' : Hp} {a : Addr} {xs : List V} (e : Ex H H') (h : SqT K H a xs) : SqT K H' a xs := by
  rcases h with h | h
  · exact .inl (ex_rd e h)
  · exact .inr h

mutual
inductive Rep (K : PySem.W.Frag) (Z : Hp) : V → D → Prop where
  | non : Rep K Z .non .non
  | bl (b : Bool) : Rep K Z (.bl b) (.bl b)
  | int (i : Int) : Rep K Z (.int i) (.int i)
  | str (x : Str) : Rep K Z (.str x) (.str x)
  | ty (n : String) : Rep K Z (.ty n) (.ty n)
  | opq (a : Addr) : Rep K Z (.ref a) (.opq a)
  | tup {a : Addr} {vs : List V} {ds : List D} : SqT K Z a vs → RepL K Z vs ds → Rep K Z (.ref a) (.tup ds)
  | lst {a : Addr} {vs : List V} {ds : List D} : SqL K Z a vs → RepL K Z vs ds → Rep K Z (.ref a) (.lst ds)
  | ins {a C dx : Addr} {ns : List Str} {vs : List V} {ds : List D} : Z a = some (.ins C dx (ns.zip vs)) → RepL K Z vs ds → Rep K Z (.ref a) (.ins C ns ds)
  | dct {a : Addr} {ks : List Key} {vs : List V} {ds : List D} : Z a = some (.dK (ks.zip vs)) → RepL K Z vs ds → Rep K Z (.ref a) (.dct ks ds)
  | dctT {a : Addr} {ks : List (List Key)} {vs : List V} {ds : List D} : Z a = some (.dT (ks.zip vs)) → RepL K Z vs ds → Rep K Z (.ref a) (.dctT ks ds)
inductive RepL (K : PySem.W.Frag) (Z : Hp) : List V → List D → Prop where
  | nil : RepL K Z [] []
  | cons {v : V} {vs : List V} {d : D} {ds : List D} : Rep K Z v d → RepL K Z vs ds → RepL K Z (v :: vs) (d :: ds)
end
mutual
/-- a thing that is looked at: its cells lie in F -/
inductive RepK (K : PySem.W.Frag) (Z F : Hp) : V → O → Prop where
  | fz {v : V} {d : D} : Rep K Z v d → RepK K Z F v (.fz d)
  | vw {a : Addr} {vs : List V} {ds : List D} : SqL K F a vs → RepL K Z vs ds → RepK K Z F (.ref a) (.vw ds)
  | vwa {a : Addr} {vs : List V} {ds : List D} : SqL K F a vs → RepL K Z vs ds → RepK K Z F (.ref a) (.vwa a ds)
  | lst {a : Addr} {vs : List V} {os : List O} : F a = some (.lst vs) → RepKL K Z F vs os → RepK K Z F (.ref a) (.lst os)
  | tup {a : Addr} {vs : List V} {os : List O} : F a = some (.tup vs) → RepKL K Z F vs os → RepK K Z F (.ref a) (.tup os)
  | ins {a C dx : Addr} {ns : List Str} {vs : List V} {os : List O} : F a = some (.ins C dx (ns.zip vs)) → RepKL K Z F vs os → RepK K Z F (.ref a) (.ins C ns os)
  | at {a C dx : Addr} {ns : List Str} {vs : List V} {os : List O} : F a = some (.ins C dx (ns.zip vs)) → RepKL K Z F vs os → RepK K Z F (.ref a) (.at a C ns os)
  | dct {a : Addr} {ks : List Key} {vs : List V} {os : List O} : F a = some (.dK (ks.zip vs)) → RepKL K Z F vs os → RepK K Z F (.ref a) (.dct ks os)
  | dctT {a : Addr} {ks : List (List Key)} {vs : List V} {os : List O} : F a = some (.dT (ks.zip vs)) → RepKL K Z F vs os → RepK K Z F (.ref a) (.dctT ks os)
  | loc {a : Addr} {o : O} : RepK K Z F (.ref a) o → RepK K Z F (.ref a) (.loc a o)
  | pt {a : Addr} : RepK K Z F (.ref a) (.pt a)
  | lk {v : V} {o : O} : RepK K Z F v o → RepK K Z F v (.lk o)
inductive RepKL (K : PySem.W.Frag) (Z F : Hp) : List V → List O → Prop where
  | nil : RepKL K Z F [] []
  | cons {v : V} {vs : List V} {o : O} {os : List O} : RepK K Z F v o → RepKL K Z F vs os → RepKL K Z F (v :: vs) (o :: os)
end
mutual
inductive RepO (K : PySem.W.Frag) (Z F H : Hp) : V → O → List Addr → Prop where
  | fz {v : V} {d : D} : Rep K Z v d → RepO K Z F H v (.fz d) []
  | vw {a : Addr} {vs : List V} {ds : List D} : SqL K F a vs → RepL K Z vs ds → RepO K Z F H (.ref a) (.vw ds) []
  | vwa {a : Addr} {vs : List V} {ds : List D} : SqL K F a vs → RepL K Z vs ds → RepO K Z F H (.ref a) (.vwa a ds) []
  | lst {a : Addr} {vs : List V} {os : List O} {A : List Addr} : H a = some (.lst vs) → RepOL K Z F H vs os A → RepO K Z F H (.ref a) (.lst os) (a :: A)
  | tup {a : Addr} {vs : List V} {os : List O} {A : List Addr} : H a = some (.tup vs) → RepOL K Z F H vs os A → RepO K Z F H (.ref a) (.tup os) (a :: A)
  | ins {a C dx : Addr} {ns : List Str} {vs : List V} {os : List O} {A : List Addr} : H a = some (.ins C dx (ns.zip vs)) → RepOL K Z F H vs os A → RepO K Z F H (.ref a) (.ins C ns os) (a :: A)
  | at {a C dx : Addr} {ns : List Str} {vs : List V} {os : List O} {A : List Addr} : H a = some (.ins C dx (ns.zip vs)) → RepOL K Z F H vs os A → RepO K Z F H (.ref a) (.at a C ns os) (a :: A)
  | dct {a : Addr} {ks : List Key} {vs : List V} {os : List O} {A : List Addr} : H a = some (.dK (ks.zip vs)) → RepOL K Z F H vs os A → RepO K Z F H (.ref a) (.dct ks os) (a :: A)
  | dctT {a : Addr} {ks : List (List Key)} {vs : List V} {os : List O} {A : List Addr} : H a = some (.dT (ks.zip vs)) → RepOL K Z F H vs os A → RepO K Z F H (.ref a) (.dctT ks os) (a :: A)
  | loc {a : Addr} {o : O} {A : List Addr} : RepO K Z F H (.ref a) o A → RepO K Z F H (.ref a) (.loc a o) A
  | pt {a : Addr} : RepO K Z F H (.ref a) (.pt a) []
  | lk {v : V} {o : O} : RepK K Z F v o → RepO K Z F H v (.lk o) []
inductive RepOL (K : PySem.W.Frag) (Z F H : Hp) : List V → List O → List Addr → Prop where
  | nil : RepOL K Z F H [] [] []
  | cons {v : V} {vs : List V} {o : O} {os : List O} {A B : List Addr} : RepO K Z F H v o A → RepOL K Z F H vs os B → RepOL K Z F H (v :: vs) (o :: os) (A ++ B)
end

section
variable {K : PySem.W.Frag} {Z Z' F F' H H' : Hp}
mutual
theorem Rep.mono (e : Ex Z Z') : ∀ {v : V} {d : D}, Rep K Z v d → Rep K Z' v d
  | _, _, .non => .non
  | _, _, .bl b => .bl b
  | _, _, .int i => .int i
  | _, _, .str x => .str x
  | _, _, .ty n => .ty n
  | _, _, .opq a => .opq a
  | _, _, .tup h r => .tup (ex_t e h) (RepL.mono e r)
  | _, _, .lst h r => .lst (ex_l e h) (RepL.mono e r)
  | _, _, .ins h r => .ins (e _ _ h) (RepL.mono e r)
  | _, _, .dct h r => .dct (e _ _ h) (RepL.mono e r)
  | _, _, .dctT h r => .dctT (e _ _ h) (RepL.mono e r)
theorem RepL.mono (e : Ex Z Z') : ∀ {vs : List V} {ds : List D}, RepL K Z vs ds → RepL K Z' vs ds
  | _, _, .nil => .nil
  | _, _, .cons h r => .cons (Rep.mono e h) (RepL.mono e r)
end
mutual
theorem RepK.mono (e : Ex Z Z') (f : Ex F F') : ∀ {v : V} {o : O}, RepK K Z F v o → RepK K Z' F' v o
  | _, _, .fz h => .fz (h.mono e)
  | _, _, .vw h r => .vw (ex_l f h) (r.mono e)
  | _, _, .vwa h r => .vwa (ex_l f h) (r.mono e)
  | _, _, .lst h r => .lst (f _ _ h) (RepKL.mono e f r)
  | _, _, .tup h r => .tup (f _ _ h) (RepKL.mono e f r)
  | _, _, .ins h r => .ins (f _ _ h) (RepKL.mono e f r)
  | _, _, .at h r => .at (f _ _ h) (RepKL.mono e f r)
  | _, _, .dct h r => .dct (f _ _ h) (RepKL.mono e f r)
  | _, _, .dctT h r => .dctT (f _ _ h) (RepKL.mono e f r)
  | _, .loc _ o, .loc h => .loc (RepK.mono (o := o) e f h)
  | _, _, .pt => .pt
  | _, .lk o, .lk h => .lk (RepK.mono (o := o) e f h)
theorem RepKL.mono (e : Ex Z Z') (f : Ex F F') : ∀ {vs : List V} {os : List O}, RepKL K Z F vs os → RepKL K Z' F' vs os
  | _, _, .nil => .nil
  | _, _, .cons h r => .cons (RepK.mono e f h) (RepKL.mono e f r)
end
mutual
theorem RepO.mono (e : Ex Z Z') (f : Ex F F') : ∀ {v : V} {o : O} {A : List Addr}, RepO K Z F H v o A → (∀ a ∈ A, ∀ u, H a = some u → H' a = some u) → RepO K Z' F' H' v o A
  | _, _, _, .fz h, _ => .fz (h.mono e)
  | _, _, _, .vw h r, _ => .vw (ex_l f h) (r.mono e)
  | _, _, _, .vwa h r, _ => .vwa (ex_l f h) (r.mono e)
  | _, _, _, .lk h, _ => .lk (h.mono e f)
  | _, _, _, .lst h r, k => .lst (k _ List.mem_cons_self _ h) (RepOL.mono e f r fun a m => k a (List.mem_cons_of_mem _ m))
  | _, _, _, .tup h r, k => .tup (k _ List.mem_cons_self _ h) (RepOL.mono e f r fun a m => k a (List.mem_cons_of_mem _ m))
  | _, _, _, .ins h r, k => .ins (k _ List.mem_cons_self _ h) (RepOL.mono e f r fun a m => k a (List.mem_cons_of_mem _ m))
  | _, _, _, .loc h, k => .loc (RepO.mono e f h k)
  | _, _, _, .pt, _ => .pt
  | _, _, _, .at h r, k => .at (k _ List.mem_cons_self _ h) (RepOL.mono e f r fun a m => k a (List.mem_cons_of_mem _ m))
  | _, _, _, .dct h r, k => .dct (k _ List.mem_cons_self _ h) (RepOL.mono e f r fun a m => k a (List.mem_cons_of_mem _ m))
  | _, _, _, .dctT h r, k => .dctT (k _ List.mem_cons_self _ h) (RepOL.mono e f r fun a m => k a (List.mem_cons_of_mem _ m))
theorem RepOL.mono (e : Ex Z Z') (f : Ex F F') : ∀ {vs : List V} {os : List O} {A : List Addr}, RepOL K Z F H vs os A → (∀ a ∈ A, ∀ u, H a = some u → H' a = some u) → RepOL K Z' F' H' vs os A
  | _, _, _, .nil, _ => .nil
  | _, _, _, .cons h r, k => .cons (RepO.mono e f h fun a m => k a (List.mem_append_left _ m)) (RepOL.mono e f r fun a m => k a (List.mem_append_right _ m))
end
mutual
theorem RepO.there : ∀ {v : V} {o : O} {A : List Addr}, RepO K Z F H v o A → ∀ a ∈ A, ∃ u, H a = some u
  | _, _, _, .fz _, _, m => nomatch m
  | _, _, _, .vw _ _, _, m => nomatch m
  | _, _, _, .vwa _ _, _, m => nomatch m
  | _, _, _, .lk _, _, m => nomatch m
  | _, _, _, .lst h r, a, m => (List.mem_cons.mp m).elim (fun e => ⟨_, e ▸ h⟩) fun m => RepOL.there r a m
  | _, _, _, .tup h r, a, m => (List.mem_cons.mp m).elim (fun e => ⟨_, e ▸ h⟩) fun m => RepOL.there r a m
  | _, _, _, .ins h r, a, m => (List.mem_cons.mp m).elim (fun e => ⟨_, e ▸ h⟩) fun m => RepOL.there r a m
  | _, _, _, .loc h, a, m => RepO.there h a m
  | _, _, _, .pt, _, m => nomatch m
  | _, _, _, .at h r, a, m => (List.mem_cons.mp m).elim (fun e => ⟨_, e ▸ h⟩) fun m => RepOL.there r a m
  | _, _, _, .dct h r, a, m => (List.mem_cons.mp m).elim (fun e => ⟨_, e ▸ h⟩) fun m => RepOL.there r a m
  | _, _, _, .dctT h r, a, m => (List.mem_cons.mp m).elim (fun e => ⟨_, e ▸ h⟩) fun m => RepOL.there r a m
theorem RepOL.there : ∀ {vs : List V} {os : List O} {A : List Addr}, RepOL K Z F H vs os A → ∀ a ∈ A, ∃ u, H a = some u
  | _, _, _, .nil, _, m => nomatch m
  | _, _, _, .cons h r, a, m => (List.mem_append.mp m).elim (fun m => RepO.there h a m) fun m => RepOL.there r a m
end
theorem RepO.ex {v : V} {o : O} {A : List Addr} (e : Ex Z Z') (g : Ex H H') (r : RepO K Z F H v o A) : RepO K Z' F H' v o A := r.mono e (Ex.refl _) fun a _ u h => g a u h
theorem RepO.frame {v : V} {o : O} {A : List Addr} (r : RepO K Z F H v o A) (k : ∀ a ∈ A, H' a = H a) : RepO K Z F H' v o A := r.mono (Ex.refl _) (Ex.refl _) fun a m u h => (k a m).trans h
mutual
theorem RepO.toK (f : Ex F H) : ∀ {v : V} {o : O} {A : List Addr}, RepO K Z F H v o A → RepK K Z H v o
  | _, _, _, .fz h => .fz h
  | _, _, _, .vw h r => .vw (ex_l f h) r
  | _, _, _, .vwa h r => .vwa (ex_l f h) r
  | _, _, _, .lk h => .lk (h.mono (Ex.refl _) f)
  | _, _, _, .lst h r => .lst h (RepOL.toK f r)
  | _, _, _, .tup h r => .tup h (RepOL.toK f r)
  | _, _, _, .ins h r => .ins h (RepOL.toK f r)
  | _, .loc _ o, _, .loc h => .loc (RepO.toK (o := o) f h)
  | _, _, _, .pt => .pt
  | _, _, _, .at h r => .at h (RepOL.toK f r)
  | _, _, _, .dct h r => .dct h (RepOL.toK f r)
  | _, _, _, .dctT h r => .dctT h (RepOL.toK f r)
theorem RepOL.toK (f : Ex F H) : ∀ {vs : List V} {os : List O} {A : List Addr}, RepOL K Z F H vs os A → RepKL K Z H vs os
  | _, _, _, .nil => .nil
  | _, _, _, .cons h r => .cons (RepO.toK f h) (RepOL.toK f r)
end
mutual
theorem RepK.toO (f : Ex F H) : ∀ {v : V} {o : O}, RepK K Z F v o → ∃ A, RepO K Z F H v o A
  | _, _, .fz h => ⟨_, .fz h⟩
  | _, _, .vw h r => ⟨_, .vw h r⟩
  | _, _, .vwa h r => ⟨_, .vwa h r⟩
  | _, _, .lst h r => let ⟨_, q⟩ := RepKL.toO f r; ⟨_, .lst (f _ _ h) q⟩
  | _, _, .tup h r => let ⟨_, q⟩ := RepKL.toO f r; ⟨_, .tup (f _ _ h) q⟩
  | _, _, .ins h r => let ⟨_, q⟩ := RepKL.toO f r; ⟨_, .ins (f _ _ h) q⟩
  | _, _, .at h r => let ⟨_, q⟩ := RepKL.toO f r; ⟨_, .at (f _ _ h) q⟩
  | _, _, .dct h r => let ⟨_, q⟩ := RepKL.toO f r; ⟨_, .dct (f _ _ h) q⟩
  | _, _, .dctT h r => let ⟨_, q⟩ := RepKL.toO f r; ⟨_, .dctT (f _ _ h) q⟩
  | _, .loc _ o, .loc h => let ⟨_, q⟩ := RepK.toO (o := o) f h; ⟨_, .loc q⟩
  | _, _, .pt => ⟨_, .pt⟩
  | _, .lk o, .lk h => ⟨_, .lk h⟩
theorem RepKL.toO (f : Ex F H) : ∀ {vs : List V} {os : List O}, RepKL K Z F vs os → ∃ A, RepOL K Z F H vs os A
  | _, _, .nil => ⟨_, .nil⟩
  | _, _, .cons h r => let ⟨_, p⟩ := RepK.toO f h; let ⟨_, q⟩ := RepKL.toO f r; ⟨_, .cons p q⟩
end
theorem RepKL.length : ∀ {vs : List V} {os : List O}, RepKL K Z F vs os → vs.length = os.length
  | _, _, .nil => rfl
  | _, _, .cons _ r => congrArg (· + 1) r.length
theorem RepKL.get : ∀ {vs : List V} {os : List O} {i : Nat} {o : O}, RepKL K Z F vs os → os[i]? = some o → ∃ v, vs[i]? = some v ∧ RepK K Z F v o
  | _, _, _, _, .nil, e => by simp at e
  | _, _, 0, _, .cons h _, e => by
    simp at e
    subst e
    exact ⟨_, rfl, h⟩
  | _, _, i + 1, o, .cons _ r, e => by
    obtain ⟨v, h1, h2⟩ := RepKL.get (i := i) (o := o) r (by simpa using e)
    exact ⟨v, by simpa using h1, h2⟩
theorem RepKL.fzs : ∀ {ds : List D} {vs : List V}, RepKL K Z F vs (ds.map .fz) → RepL K Z vs ds
  | [], _, .nil => .nil
  | _ :: _, _, .cons (.fz h) r => .cons h r.fzs
theorem RepL.length : ∀ {vs : List V} {ds : List D}, RepL K Z vs ds → vs.length = ds.length
  | _, _, .nil => rfl
  | _, _, .cons _ r => congrArg (· + 1) r.length
theorem RepL.get : ∀ {vs : List V} {ds : List D} {i : Nat} {d : D}, RepL K Z vs ds → ds[i]? = some d → ∃ v, vs[i]? = some v ∧ Rep K Z v d
  | _, _, _, _, .nil, e => by simp at e
  | _, _, 0, _, .cons h _, e => by
    simp at e
    subst e
    exact ⟨_, rfl, h⟩
  | _, _, i + 1, d, .cons _ r, e => by
    obtain ⟨v, h1, h2⟩ := RepL.get (i := i) (d := d) r (by simpa using e)
    exact ⟨v, by simpa using h1, h2⟩
theorem RepL.getV : ∀ {vs : List V} {ds : List D} {i : Nat} {v : V}, RepL K Z vs ds → vs[i]? = some v → ∃ d, ds[i]? = some d ∧ Rep K Z v d
  | _, _, _, _, .nil, e => by simp at e
  | _, _, 0, _, .cons h _, e => by
    simp at e
    subst e
    exact ⟨_, rfl, h⟩
  | _, _, i + 1, v, .cons _ r, e => by
    obtain ⟨d, h1, h2⟩ := RepL.getV (i := i) (v := v) r (by simpa using e)
    exact ⟨d, by simpa using h1, h2⟩
theorem RepL.append : ∀ {vs ws : List V} {ds es : List D}, RepL K Z vs ds → RepL K Z ws es → RepL K Z (vs ++ ws) (ds ++ es)
  | _, _, _, _, .nil, s => s
  | _, _, _, _, .cons h r, s => .cons h (r.append s)
theorem RepL.set {v : V} {d : D} (h : Rep K Z v d) : ∀ {vs : List V} {ds : List D} (i : Nat), RepL K Z vs ds → RepL K Z (vs.set i v) (ds.set i d)
  | _, _, _, .nil => .nil
  | _, _, 0, .cons _ r => .cons h r
  | _, _, i + 1, .cons g r => .cons g (RepL.set h i r)
theorem RepL.take : ∀ {vs : List V} {ds : List D} (n : Nat), RepL K Z vs ds → RepL K Z (vs.take n) (ds.take n)
  | _, _, 0, _ => .nil
  | _, _, _ + 1, .nil => .nil
  | _, _, n + 1, .cons h r => .cons h (RepL.take n r)
theorem RepL.drop : ∀ {vs : List V} {ds : List D} (n : Nat), RepL K Z vs ds → RepL K Z (vs.drop n) (ds.drop n)
  | _, _, 0, r => r
  | _, _, _ + 1, .nil => .nil
  | _, _, n + 1, .cons _ r => RepL.drop n r
theorem RepL.reverse : ∀ {vs : List V} {ds : List D}, RepL K Z vs ds → RepL K Z vs.reverse ds.reverse
  | _, _, .nil => .nil
  | _, _, .cons h r => by
    rw [List.reverse_cons, List.reverse_cons]
    exact r.reverse.append (.cons h .nil)
/-- a list of frozen things -/
theorem RepOL.fzs : ∀ {ds : List D} {vs : List V} {A : List Addr}, RepOL K Z F H vs (ds.map .fz) A → A = [] ∧ RepL K Z vs ds
  | [], _, _, .nil => ⟨rfl, .nil⟩
  | _ :: _, _, _, .cons (.fz h) r => by
    obtain ⟨e, q⟩ := RepOL.fzs r
    exact ⟨by rw [e]; rfl, .cons h q⟩
theorem RepL.own : ∀ {vs : List V} {ds : List D}, RepL K Z vs ds → RepOL K Z F H vs (ds.map .fz) []
  | _, _, .nil => .nil
  | _, _, .cons h r => .cons (A := []) (B := []) (.fz h) r.own
theorem RepL.ints : ∀ {ns : List Int} {vs : List V}, RepL K Z vs (ns.map .int) → vs = ns.map V.int
  | [], _, .nil => rfl
  | _ :: _, _, .cons (.int _) r => by rw [r.ints]; rfl
theorem RepL.ofInts : ∀ {ns : List Int}, RepL K Z (ns.map V.int) (ns.map .int)
  | [] => .nil
  | n :: r => .cons (.int n) (RepL.ofInts (ns := r))
end

/-! ### freezing -/
mutual
def O.frz : O → D
  | .fz d => d
  | .vw ds => .lst ds
  | .vwa _ ds => .lst ds
  | .lk o => o.frz
  | .lst os => .lst (O.frzL os)
  | .tup os => .tup (O.frzL os)
  | .ins C ns os => .ins C ns (O.frzL os)
  | .at _ C ns os => .ins C ns (O.frzL os)
  | .loc _ o => o.frz
  | .pt a => .opq a
  | .rs _ => .non
  | .dct ks os => .dct ks (O.frzL os)
  | .dctT ks os => .dctT ks (O.frzL os)
def O.frzL : List O → List D
  | [] => []
  | o :: r => o.frz :: O.frzL r
end
mutual
def O.nv : O → Bool
  | .fz _ => true
  | .vw _ => false
  | .vwa _ _ => false
  | .lk _ => false
  | .lst os => O.nvL os
  | .tup os => O.nvL os
  | .ins _ _ os => O.nvL os
  | .at _ _ _ os => O.nvL os
  | .loc _ o => o.nv
  | .pt _ => true
  | .rs _ => false
  | .dct _ os => O.nvL os
  | .dctT _ os => O.nvL os
def O.nvL : List O → Bool
  | [] => true
  | o :: r => o.nv && O.nvL r
end
theorem O.frzL_fz : ∀ ds : List D, O.frzL (ds.map .fz) = ds
  | [] => rfl
  | d :: r => by
    show O.frz (.fz d) :: O.frzL (r.map .fz) = d :: r
    rw [O.frzL_fz r]
    rfl
theorem O.nvL_fz : ∀ ds : List D, O.nvL (ds.map .fz) = true
  | [] => rfl
  | d :: r => by
    show (O.nv (.fz d) && O.nvL (r.map .fz)) = true
    rw [O.nvL_fz r]
    rfl
section
variable {K : PySem.W.Frag} {Z Z' F H : Hp}
mutual
theorem RepO.frz (e : Ex Z Z') : ∀ {v : V} {o : O} {A : List Addr}, RepO K Z F H v o A → (∀ a ∈ A, Z' a = H a) → o.nv = true → Rep K Z' v o.frz
  | _, _, _, .fz h, _, _ => h.mono e
  | _, _, _, .vw _ _, _, n => nomatch n
  | _, _, _, .vwa _ _, _, n => nomatch n
  | _, _, _, .lk _, _, n => nomatch n
  | _, _, _, .lst h r, k, n => .lst (SqL.of ((k _ List.mem_cons_self).trans h)) (RepOL.frz e r (fun a m => k a (List.mem_cons_of_mem _ m)) n)
  | _, _, _, .tup h r, k, n => .tup (SqT.of ((k _ List.mem_cons_self).trans h)) (RepOL.frz e r (fun a m => k a (List.mem_cons_of_mem _ m)) n)
  | _, _, _, .ins h r, k, n => .ins ((k _ List.mem_cons_self).trans h) (RepOL.frz e r (fun a m => k a (List.mem_cons_of_mem _ m)) n)
  | _, .loc _ o, _, .loc h, k, n => by
    have h : RepO K Z F H _ o _ := h
    exact (show Rep K Z' _ o.frz from RepO.frz (o := o) e h k n)
  | _, _, _, .pt, _, _ => .opq _
  | _, _, _, .at h r, k, n => .ins ((k _ List.mem_cons_self).trans h) (RepOL.frz e r (fun a m => k a (List.mem_cons_of_mem _ m)) n)
  | _, _, _, .dct h r, k, n => .dct ((k _ List.mem_cons_self).trans h) (RepOL.frz e r (fun a m => k a (List.mem_cons_of_mem _ m)) n)
  | _, _, _, .dctT h r, k, n => .dctT ((k _ List.mem_cons_self).trans h) (RepOL.frz e r (fun a m => k a (List.mem_cons_of_mem _ m)) n)
theorem RepOL.frz (e : Ex Z Z') : ∀ {vs : List V} {os : List O} {A : List Addr}, RepOL K Z F H vs os A → (∀ a ∈ A, Z' a = H a) → O.nvL os = true → RepL K Z' vs (O.frzL os)
  | _, _, _, .nil, _, _ => .nil
  | _, _, _, .cons h r, k, n => .cons (RepO.frz e h (fun a m => k a (List.mem_append_left _ m)) (Bool.and_eq_true_iff.mp n).1) (RepOL.frz e r (fun a m => k a (List.mem_append_right _ m)) (Bool.and_eq_true_iff.mp n).2)
end
end
/-- Z and the cells at A -/
def frzAt (Z H : Hp) (A : List Addr) : Hp := fun a => if a ∈ A then H a else Z a
theorem frzAt_in {Z H : Hp} {A : List Addr} {a : Addr} (h : a ∈ A) : frzAt Z H A a = H a := if_pos h
theorem frzAt_out {Z H : Hp} {A : List Addr} {a : Addr} (h : a ∉ A) : frzAt Z H A a = Z a := if_neg h
theorem ex_frzAt {Z H : Hp} {A : List Addr} (e : Ex Z H) : Ex Z (frzAt Z H A) := fun a u h => by
  by_cases m : a ∈ A
  · rw [frzAt_in m]
    exact e a u h
  · rw [frzAt_out m]
    exact h
theorem frzAt_ex {Z H : Hp} {A : List Addr} (e : Ex Z H) : Ex (frzAt Z H A) H := fun a u h => by
  by_cases m : a ∈ A
  · rw [frzAt_in m] at h
    exact h
  · rw [frzAt_out m] at h
    exact e a u h

/-- the heap grows: frozen part Z, all H -/
structure Gr (Z H Z' H' : Hp) : Prop where
  zz : Ex Z Z'
  hh : Ex H H'
  zh : Ex Z' H'
  nw : ∀ a o, H a = some o → Z' a = Z a
theorem Gr.trans {Z H Z1 H1 Z2 H2 : Hp} (a : Gr Z H Z1 H1) (b : Gr Z1 H1 Z2 H2) : Gr Z H Z2 H2 :=
  ⟨a.zz.trans b.zz, a.hh.trans b.hh, b.zh, fun x o h => (b.nw x o (a.hh x o h)).trans (a.nw x o h)⟩
theorem Gr.refl {Z H : Hp} (h : Ex Z H) : Gr Z H Z H := ⟨Ex.refl _, Ex.refl _, h, fun _ _ _ => rfl⟩
/-- a new object that is not frozen -/
theorem Gr.new {Z H : Hp} {p : Addr} {o : HO} (h : Ex Z H) (hp : H p = none) : Gr Z H Z (upd H p o) := ⟨Ex.refl _, Ex.new hp, h.trans (Ex.new hp), fun _ _ _ => rfl⟩
/-- .. frozen at once -/
theorem Gr.newz {Z H : Hp} {p : Addr} {o : HO} (h : Ex Z H) (hp : H p = none) : Gr Z H (upd Z p o) (upd H p o) :=
  ⟨Ex.new (h.free hp), Ex.new hp, fun a u e => by
    by_cases ha : a = p
    · subst ha
      rw [upd_same] at e ⊢
      exact e
    · rw [upd_ne ha] at e ⊢
      exact h a u e, fun a u e => upd_ne (ne_of_none e hp)⟩

abbrev Slots := List (Option O)
inductive StL (K : PySem.W.Frag) (Z F H : Hp) : Slots → L2.St → List Addr → Prop where
  | nil : StL K Z F H [] [] []
  | no {s : Option V} {ρ : Slots} {σ : L2.St} {A : List Addr} : StL K Z F H ρ σ A → StL K Z F H (none :: ρ) (s :: σ) A
  | so {v : V} {o : O} {ρ : Slots} {σ : L2.St} {A B : List Addr} : RepO K Z F H v o A → StL K Z F H ρ σ B → StL K Z F H (some o :: ρ) (some v :: σ) (A ++ B)
structure StR (K : PySem.W.Frag) (ρ : Slots) (Z0 F Z : Hp) (σ : L2.St) (H : Hp) : Prop where
  gr : Gr Z0 F Z H
  st : ∃ A, StL K Z F H ρ σ A ∧ A.Nodup ∧ ∀ a ∈ A, Z a = none ∧ F a = none
section
variable {K : PySem.W.Frag} {Z0 Z Z' F H H' : Hp} {ρ : Slots} {σ : L2.St}
theorem StL.mono (e : Ex Z Z') : ∀ {ρ : Slots} {σ : L2.St} {A : List Addr}, StL K Z F H ρ σ A → (∀ a ∈ A, ∀ u, H a = some u → H' a = some u) → StL K Z' F H' ρ σ A
  | _, _, _, .nil, _ => .nil
  | _, _, _, .no h, k => .no (h.mono e k)
  | _, _, _, .so r h, k => .so (r.mono e (Ex.refl _) fun a m => k a (List.mem_append_left _ m)) (h.mono e fun a m => k a (List.mem_append_right _ m))
theorem StL.there : ∀ {ρ : Slots} {σ : L2.St} {A : List Addr}, StL K Z F H ρ σ A → ∀ a ∈ A, ∃ u, H a = some u
  | _, _, _, .nil, _, m => nomatch m
  | _, _, _, .no h, a, m => h.there a m
  | _, _, _, .so r h, a, m => (List.mem_append.mp m).elim (fun m => r.there a m) fun m => h.there a m
theorem StL.length : ∀ {ρ : Slots} {σ : L2.St} {A : List Addr}, StL K Z F H ρ σ A → σ.length = ρ.length
  | _, _, _, .nil => rfl
  | _, _, _, .no h => congrArg (· + 1) h.length
  | _, _, _, .so _ h => congrArg (· + 1) h.length
theorem StL.get : ∀ {ρ : Slots} {σ : L2.St} {A : List Addr} {i : Nat} {o : O}, StL K Z F H ρ σ A → ρ[i]? = some (some o) → ∃ v B, σ[i]? = some (some v) ∧ RepO K Z F H v o B ∧ ∀ a ∈ B, a ∈ A
  | _, _, _, _, _, .nil, e => by simp at e
  | _, _, _, 0, _, .no h, e => by simp at e
  | _, _, _, i + 1, _, .no h, e => by
    obtain ⟨v, B, h1, h2, h3⟩ := h.get (i := i) (by simpa using e)
    exact ⟨v, B, by simpa using h1, h2, h3⟩
  | _, _, _, 0, _, .so r h, e => by
    simp at e
    subst e
    exact ⟨_, _, rfl, r, fun a m => List.mem_append_left _ m⟩
  | _, _, _, i + 1, _, .so r h, e => by
    obtain ⟨v, B, h1, h2, h3⟩ := h.get (i := i) (by simpa using e)
    exact ⟨v, B, by simpa using h1, h2, fun a m => List.mem_append_right _ (h3 a m)⟩
/-- a slot is stored anew -/
theorem StL.put {v : V} {o : O} {B : List Addr} (r : RepO K Z F H v o B) : ∀ {ρ : Slots} {σ : L2.St} {A : List Addr} {i : Nat}, StL K Z F H ρ σ A → i < ρ.length → A.Nodup → B.Nodup → (∀ a ∈ B, a ∉ A) →
    ∃ A', StL K Z F H (ρ.set i (some o)) (σ.set i (some v)) A' ∧ A'.Nodup ∧ ∀ a ∈ A', a ∈ A ∨ a ∈ B
  | _, _, _, _, .nil, hi, _, _, _ => by simp at hi
  | _, _, _, 0, .no h, _, nA, nB, d => ⟨_, .so r h, by
      refine List.nodup_append.mpr ⟨nB, nA, fun a ha b hb e => ?_⟩
      subst e
      exact d a ha hb, fun a m => (List.mem_append.mp m).symm⟩
  | _, _, _, i + 1, .no h, hi, nA, nB, d => by
    obtain ⟨A', h1, h2, h3⟩ := StL.put r (i := i) h (by simpa using hi) nA nB d
    exact ⟨A', .no h1, h2, h3⟩
  | _, _, _, 0, .so (A := A1) (B := A2) _ h, _, nA, nB, d => ⟨_, .so r h, by
      refine List.nodup_append.mpr ⟨nB, (List.nodup_append.mp nA).2.1, fun a ha b hb e => ?_⟩
      subst e
      exact d a ha (List.mem_append_right _ hb), fun a m => (List.mem_append.mp m).elim .inr fun m => .inl (List.mem_append_right _ m)⟩
  | _, _, _, i + 1, .so (A := A1) (B := A2) q h, hi, nA, nB, d => by
    obtain ⟨n1, n2, n3⟩ := List.nodup_append.mp nA
    obtain ⟨A', h1, h2, h3⟩ := StL.put r (i := i) h (by simpa using hi) n2 nB fun a ha hb => d a ha (List.mem_append_right _ hb)
    refine ⟨_, .so q h1, List.nodup_append.mpr ⟨n1, h2, fun a ha b hb e => ?_⟩, fun a m => ?_⟩
    · subst e
      rcases h3 a hb with z | z
      · exact n3 a ha a z rfl
      · exact d a z (List.mem_append_left _ ha)
    · rcases List.mem_append.mp m with m | m
      · exact .inl (List.mem_append_left _ m)
      · exact (h3 a m).imp (List.mem_append_right _) id
/-- a slot's own thing is changed in place -/
theorem StL.at : ∀ {ρ : Slots} {σ : L2.St} {A : List Addr} {i : Nat} {o : O}, StL K Z F H ρ σ A → ρ[i]? = some (some o) → A.Nodup →
    ∃ v B, σ[i]? = some (some v) ∧ RepO K Z F H v o B ∧ B.Nodup ∧ (∀ a ∈ B, a ∈ A) ∧ ∀ {Z' H' : Hp} {v' : V} {o' : O} {B' : List Addr}, Ex Z Z' → (∀ a ∈ A, a ∉ B → ∀ u, H a = some u → H' a = some u) → RepO K Z' F H' v' o' B' → B'.Nodup → (∀ a ∈ B', a ∈ A → a ∈ B) →
      ∃ A', StL K Z' F H' (ρ.set i (some o')) (σ.set i (some v')) A' ∧ A'.Nodup ∧ ∀ a ∈ A', (a ∈ A ∧ a ∉ B) ∨ a ∈ B'
  | _, _, _, _, _, .nil, e, _ => by simp at e
  | _, _, _, 0, _, .no h, e, _ => by simp at e
  | _, _, _, i + 1, _, .no h, e, nA => by
    obtain ⟨v, B, h1, h2, h3, h4, h5⟩ := StL.at (i := i) h (by simpa using e) nA
    refine ⟨v, B, by simpa using h1, h2, h3, h4, fun ez k r n d => ?_⟩
    obtain ⟨A', q1, q2, q3⟩ := h5 ez k r n d
    exact ⟨A', .no q1, q2, q3⟩
  | _, _, _, 0, _, .so (A := A1) (B := A2) q h, e, nA => by
    simp at e
    subst e
    obtain ⟨n1, n2, n3⟩ := List.nodup_append.mp nA
    refine ⟨_, A1, rfl, q, n1, fun a m => List.mem_append_left _ m, fun ez k r n d => ?_⟩
    refine ⟨_, .so r (h.mono ez fun a m => k a (List.mem_append_right _ m) fun z => n3 a z a m rfl), List.nodup_append.mpr ⟨n, n2, fun a ha b hb e => ?_⟩, fun a m => ?_⟩
    · subst e
      exact n3 a (d a ha (List.mem_append_right _ hb)) a hb rfl
    · rcases List.mem_append.mp m with m | m
      · exact .inr m
      · exact .inl ⟨List.mem_append_right _ m, fun z => n3 a z a m rfl⟩
  | _, _, _, i + 1, _, .so (A := A1) (B := A2) q h, e, nA => by
    obtain ⟨n1, n2, n3⟩ := List.nodup_append.mp nA
    obtain ⟨v, B, h1, h2, h3, h4, h5⟩ := StL.at (i := i) h (by simpa using e) n2
    refine ⟨v, B, by simpa using h1, h2, h3, fun a m => List.mem_append_right _ (h4 a m), fun ez k r n d => ?_⟩
    obtain ⟨A', q1, q2, q3⟩ := h5 ez (fun a m nb => k a (List.mem_append_right _ m) nb) r n fun a m z => d a m (List.mem_append_right _ z)
    refine ⟨_, .so (q.mono ez (Ex.refl _) fun a m => k a (List.mem_append_left _ m) fun z => n3 a m a (h4 a z) rfl) q1, List.nodup_append.mpr ⟨n1, q2, fun a ha b hb e => ?_⟩, fun a m => ?_⟩
    · subst e
      rcases q3 a hb with z | z
      · exact n3 a ha a z.1 rfl
      · exact n3 a ha a (h4 a (d a z (List.mem_append_left _ ha))) rfl
    · rcases List.mem_append.mp m with m | m
      · exact .inl ⟨List.mem_append_left _ m, fun z => n3 a m a (h4 a z) rfl⟩
      · exact (q3 a m).imp (fun z => ⟨List.mem_append_right _ z.1, z.2⟩) id

theorem StR.ex (s : StR K ρ Z0 F Z σ H) : Ex Z H := s.gr.zh
theorem StR.grow (s : StR K ρ Z0 F Z σ H) (g : Gr Z H Z' H') : StR K ρ Z0 F Z' σ H' := by
  obtain ⟨A, h1, h2, h3⟩ := s.st
  refine ⟨s.gr.trans g, A, h1.mono g.zz fun a _ u e => g.hh a u e, h2, fun a m => ⟨?_, (h3 a m).2⟩⟩
  obtain ⟨u, e⟩ := h1.there a m
  rw [g.nw a u e]
  exact (h3 a m).1
theorem StR.len (s : StR K ρ Z0 F Z σ H) : σ.length = ρ.length := let ⟨_, h, _⟩ := s.st; h.length
/-- what is new: not there ahead, not frozen -/
def New (H Z' : Hp) (A : List Addr) : Prop := A.Nodup ∧ ∀ a ∈ A, H a = none ∧ Z' a = none
theorem New.nil {H Z' : Hp} : New H Z' [] := ⟨List.nodup_nil, fun _ m => nomatch m⟩
theorem StR.put {v : V} {o : O} {B : List Addr} {i : Nat} (s : StR K ρ Z0 F Z σ H) (g : Gr Z H Z' H') (r : RepO K Z' F H' v o B) (n : New H Z' B) (hi : i < ρ.length) : StR K (ρ.set i (some o)) Z0 F Z' (σ.set i (some v)) H' := by
  have s' := s.grow g
  obtain ⟨A, h1, h2, h3⟩ := s.st
  have m1 : StL K Z' F H' ρ σ A := h1.mono g.zz fun a _ u e => g.hh a u e
  obtain ⟨A', q1, q2, q3⟩ := StL.put r m1 hi h2 n.1 fun a ha hb => by
    obtain ⟨u, e⟩ := h1.there a hb
    rw [(n.2 a ha).1] at e
    cases e
  refine ⟨s'.gr, A', q1, q2, fun a m => ?_⟩
  rcases q3 a m with z | z
  · obtain ⟨u, e⟩ := h1.there a z
    exact ⟨(g.nw a u e).trans (h3 a z).1, (h3 a z).2⟩
  · exact ⟨(n.2 a z).2, s.gr.hh.free (n.2 a z).1⟩
/-- a slot's own thing is frozen -/
theorem StR.freeze {i : Nat} {o : O} (s : StR K ρ Z0 F Z σ H) (hi : ρ[i]? = some (some o)) (hn : o.nv = true) : ∃ Z', Gr Z0 F Z' H ∧ Ex Z Z' ∧ StR K (ρ.set i (some (.fz o.frz))) Z0 F Z' σ H := by
  obtain ⟨A, h1, h2, h3⟩ := s.st
  obtain ⟨v, B, q1, q2, q3, q4, q5⟩ := h1.at hi h2
  have hr : Rep K (frzAt Z H B) v o.frz := q2.frz (ex_frzAt s.ex) (fun a m => frzAt_in m) hn
  have g : Gr Z0 F (frzAt Z H B) H := ⟨s.gr.zz.trans (ex_frzAt s.ex), s.gr.hh, frzAt_ex s.ex, fun a u e => by
    have nb : a ∉ B := fun m => by
      rw [(h3 a (q4 a m)).2] at e
      cases e
    rw [frzAt_out nb]
    exact s.gr.nw a u e⟩
  obtain ⟨A', r1, r2, r3⟩ := q5 (Z' := frzAt Z H B) (H' := H) (v' := v) (o' := .fz o.frz) (B' := []) (ex_frzAt s.ex) (fun _ _ _ _ e => e) (.fz hr) List.nodup_nil fun _ m => nomatch m
  have eσ : σ.set i (some v) = σ := by
    apply List.ext_getElem?
    intro j
    by_cases hj : i = j
    · subst hj
      rw [List.getElem?_set_self (List.getElem?_eq_some_iff.mp q1).1, q1]
    · rw [List.getElem?_set_ne hj]
  rw [eσ] at r1
  refine ⟨frzAt Z H B, g, ex_frzAt s.ex, g, A', r1, r2, fun a m => ?_⟩
  rcases r3 a m with z | z
  · rw [frzAt_out z.2]
    exact h3 a z.1
  · exact nomatch z
theorem set_same {σ : L2.St} {i : Nat} {v : V} (q : σ[i]? = some (some v)) : σ.set i (some v) = σ := by
  apply List.ext_getElem?
  intro j
  by_cases hj : i = j
  · subst hj
    rw [List.getElem?_set_self (List.getElem?_eq_some_iff.mp q).1, q]
  · rw [List.getElem?_set_ne hj]
/-- a slot's own thing changes -/
theorem StR.upd {i : Nat} {o : O} (s : StR K ρ Z0 F Z σ H) (hi : ρ[i]? = some (some o)) : ∃ v A, σ[i]? = some (some v) ∧ RepO K Z F H v o A ∧ A.Nodup ∧ (∀ a ∈ A, Z a = none ∧ F a = none) ∧
    ∀ {Z' H' : Hp} {o' : O} {A' : List Addr}, Ex Z Z' → (∀ a u, H a = some u → Z' a = Z a) → Ex Z' H' → (∀ a, a ∉ A → ∀ u, H a = some u → H' a = some u) → RepO K Z' F H' v o' A' → A'.Nodup → (∀ a ∈ A', a ∈ A ∨ (H a = none ∧ Z' a = none)) →
      StR K (ρ.set i (some o')) Z0 F Z' σ H' := by
  obtain ⟨A, h1, h2, h3⟩ := s.st
  obtain ⟨v, B, q1, q2, q3, q4, q5⟩ := h1.at hi h2
  refine ⟨v, B, q1, q2, q3, fun a m => h3 a (q4 a m), fun {Z' H' o' A'} ez nz zh k r n d => ?_⟩
  obtain ⟨A2, r1, r2, r3⟩ := q5 (v' := v) ez (fun a _ nb u e => k a nb u e) r n fun a m ma => by
    rcases d a m with z | z
    · exact z
    · obtain ⟨u, e⟩ := h1.there a ma
      rw [z.1] at e
      cases e
  rw [set_same q1] at r1
  have hF : ∀ a u, F a = some u → a ∉ B := fun a u e m => by
    rw [(h3 a (q4 a m)).2] at e
    cases e
  refine ⟨⟨s.gr.zz.trans ez, fun a u e => k a (hF a u e) u (s.gr.hh a u e), zh, fun a u e => (nz a u (s.gr.hh a u e)).trans (s.gr.nw a u e)⟩, A2, r1, r2, fun a m => ?_⟩
  have old : ∀ a ∈ A, Z' a = none ∧ F a = none := fun a m => by
    obtain ⟨u, e⟩ := h1.there a m
    exact ⟨(nz a u e).trans (h3 a m).1, (h3 a m).2⟩
  rcases r3 a m with z | z
  · exact old a z.1
  · rcases d a z with y | y
    · exact old a (q4 a y)
    · exact ⟨y.2, s.gr.hh.free y.1⟩
/-- slots are forgotten -/
inductive Le : Slots → Slots → Prop where
  | nil : Le [] []
  | no {x : Option O} {ρ τ : Slots} : Le ρ τ → Le (x :: ρ) (none :: τ)
  | eq {x : Option O} {ρ τ : Slots} : Le ρ τ → Le (x :: ρ) (x :: τ)
theorem Le.refl : ∀ ρ : Slots, Le ρ ρ
  | [] => .nil
  | _ :: r => .eq (Le.refl r)
theorem StL.le : ∀ {ρ τ : Slots} {σ : L2.St} {A : List Addr}, Le ρ τ → StL K Z F H ρ σ A → A.Nodup → ∃ A', StL K Z F H τ σ A' ∧ A'.Nodup ∧ ∀ a ∈ A', a ∈ A
  | _, _, _, _, .nil, .nil, n => ⟨_, .nil, n, fun _ m => m⟩
  | _, _, _, _, .no l, .no h, n => by
    obtain ⟨A', q1, q2, q3⟩ := StL.le l h n
    exact ⟨A', .no q1, q2, q3⟩
  | _, _, _, _, .no l, .so _ h, n => by
    obtain ⟨A', q1, q2, q3⟩ := StL.le l h (List.nodup_append.mp n).2.1
    exact ⟨A', .no q1, q2, fun a m => List.mem_append_right _ (q3 a m)⟩
  | _, _, _, _, .eq l, .no h, n => by
    obtain ⟨A', q1, q2, q3⟩ := StL.le l h n
    exact ⟨A', .no q1, q2, q3⟩
  | _, _, _, _, .eq l, .so r h, n => by
    obtain ⟨n1, n2, n3⟩ := List.nodup_append.mp n
    obtain ⟨A', q1, q2, q3⟩ := StL.le l h n2
    refine ⟨_, .so r q1, List.nodup_append.mpr ⟨n1, q2, fun a ha b hb => n3 a ha b (q3 b hb)⟩, fun a m => ?_⟩
    rcases List.mem_append.mp m with m | m
    · exact List.mem_append_left _ m
    · exact List.mem_append_right _ (q3 a m)
theorem StR.le {τ : Slots} (s : StR K ρ Z0 F Z σ H) (l : Le ρ τ) : StR K τ Z0 F Z σ H := by
  obtain ⟨A, h1, h2, h3⟩ := s.st
  obtain ⟨A', q1, q2, q3⟩ := h1.le l h2
  exact ⟨s.gr, A', q1, q2, fun a m => h3 a (q3 a m)⟩
end
end M
namespace M
open PySem L2

/-! ### the weakest readings -/
def wE (X : Cx) (e : Expr) : TE := fun σ H Q => ∀ (pins : List (Addr × Obj)) (s : Shared), Inv X pins σ H s → wpAny (model X.prog X.w) X.A (eval e X.env) (EP X pins σ Q) X.xe s
def wT (X : Cx) (e : Expr) : TT := fun σ H Q => ∀ (pins : List (Addr × Obj)) (s : Shared), Inv X pins σ H s → wpAny (model X.prog X.w) X.A (isTrue e X.env (eval e X.env)) (TP X pins σ Q) X.xe s
def wA (X : Cx) (es : List Expr) : TA := fun σ H Q => ∀ (pos : Pos) (pins : List (Addr × Obj)) (s : Shared), Inv X pins σ H s → wpAny (model X.prog X.w) X.A (spliced (backTo pos (starEach es X.env))) (AP X pins σ Q) X.xe s
def wS1 (X : Cx) (st : Stmt) : TS := fun D σ H => ∀ (pins : List (Addr × Obj)) (s : Shared), Inv X pins σ H s → wpAny (model X.prog X.w) X.A (exec st X.env) (SP X pins D) X.xe s
def wS (X : Cx) (st : List Stmt) : TS := fun D σ H => ∀ (pins : List (Addr × Obj)) (s : Shared), Inv X pins σ H s → wpAny (model X.prog X.w) X.A (execs st X.env) (SP X pins D) X.xe s
section
variable {X : Cx} {e : Expr} {es : List Expr} {st : Stmt} {sts : List Stmt}
theorem pe_w : PE X e (wE X e) := ⟨fun pins s _ _ _ I h => h pins s I⟩
theorem pt_w : PT X e (wT X e) := ⟨fun pins s _ _ _ I h => h pins s I⟩
theorem pa_w : PA X es (wA X es) := ⟨fun pos pins s _ _ _ I h => h pos pins s I⟩
theorem ps_w : PS X st (wS1 X st) := ⟨fun pins s _ _ _ I h => h pins s I⟩
theorem pss_w : PSs X sts (wS X sts) := ⟨fun pins s _ _ _ I h => h pins s I⟩
theorem PE_w {t : TE} (p : PE X e t) {σ : L2.St} {H : Hp} {Q : VK} (h : t σ H Q) : wE X e σ H Q := fun pins s I => p.run pins s σ H Q I h
theorem PT_w {t : TT} (p : PT X e t) {σ : L2.St} {H : Hp} {Q : Bool → Hp → Prop} (h : t σ H Q) : wT X e σ H Q := fun pins s I => p.run pins s σ H Q I h
theorem PA_w {t : TA} (p : PA X es t) {σ : L2.St} {H : Hp} {Q : List V → Hp → Prop} (h : t σ H Q) : wA X es σ H Q := fun pos pins s I => p.run pos pins s σ H Q I h
theorem PS_w {t : TS} (p : PS X st t) {σ : L2.St} {H : Hp} {D : Ends} (h : t D σ H) : wS1 X st D σ H := fun pins s I => p.run pins s σ H D I h
theorem PSs_w {t : TS} (p : PSs X sts t) {σ : L2.St} {H : Hp} {D : Ends} (h : t D σ H) : wS X sts D σ H := fun pins s I => p.run pins s σ H D I h
end

/-! ### the judgements -/
/-- a new thing (or a frozen one) -/
structure ME (X : Cx) (ρ : Slots) (e : Expr) (o : O) : Prop where
  run : ∀ (Z0 F Z : Hp) (σ : L2.St) (H : Hp), StR X.K ρ Z0 F Z σ H → ∀ Q : VK,
  (∀ v Z' H' A, Gr Z H Z' H' → RepO X.K Z' F H' v o A → New H Z' A → Q v H') → wE X e σ H Q
/-- a thing that is looked at -/
structure MV (X : Cx) (ρ : Slots) (e : Expr) (o : O) : Prop where
  run : ∀ (Z0 F Z : Hp) (σ : L2.St) (H : Hp), StR X.K ρ Z0 F Z σ H → ∀ Q : VK,
  (∀ v Z' H' A, Gr Z H Z' H' → RepO X.K Z' F H' v o A → Q v H') → wE X e σ H Q
/-- a list that is looked at -/
structure ML (X : Cx) (ρ : Slots) (e : Expr) (ds : List D) : Prop where
  run : ∀ (Z0 F Z : Hp) (σ : L2.St) (H : Hp), StR X.K ρ Z0 F Z σ H → ∀ Q : VK,
  (∀ a vs Z' H', Gr Z H Z' H' → SqL X.K H' a vs → RepL X.K Z' vs ds → Q (.ref a) H') → wE X e σ H Q
/-- a tuple that is looked at -/
structure MU (X : Cx) (ρ : Slots) (e : Expr) (ds : List D) : Prop where
  run : ∀ (Z0 F Z : Hp) (σ : L2.St) (H : Hp), StR X.K ρ Z0 F Z σ H → ∀ Q : VK,
  (∀ a vs Z' H', Gr Z H Z' H' → SqT X.K H' a vs → RepL X.K Z' vs ds → Q (.ref a) H') → wE X e σ H Q
structure MT (X : Cx) (ρ : Slots) (e : Expr) (b : Bool) : Prop where
  run : ∀ (Z0 F Z : Hp) (σ : L2.St) (H : Hp), StR X.K ρ Z0 F Z σ H → ∀ Q : Bool → Hp → Prop,
  (∀ Z' H', Gr Z H Z' H' → Q b H') → wT X e σ H Q
/-- arguments: frozen things, lists that are looked at -/
structure MA (X : Cx) (ρ : Slots) (es : List Expr) (os : List O) : Prop where
  run : ∀ (Z0 F Z : Hp) (σ : L2.St) (H : Hp), StR X.K ρ Z0 F Z σ H → ∀ Q : List V → Hp → Prop,
  (∀ vs Z' H', Gr Z H Z' H' → RepOL X.K Z' H' H' vs os [] → Q vs H') → wA X es σ H Q
/-- what is handed back: own slots may go with it -/
structure MR (X : Cx) (ρ : Slots) (e : Expr) (o : O) : Prop where
  run : ∀ (Z0 F Z : Hp) (σ : L2.St) (H : Hp), StR X.K ρ Z0 F Z σ H → ∀ Q : VK,
  (∀ v Z' H' A, Gr Z H Z' H' → RepO X.K Z' F H' v o A → A.Nodup → (∀ a ∈ A, Z' a = none ∧ F a = none) → Q v H') → wE X e σ H Q

structure Go where
  nx : Slots → Prop := fun _ => False
  rt : O → Prop := fun _ => False
  bk : Slots → Prop := fun _ => False
  ct : Slots → Prop := fun _ => False
  rs : O → Slots → Prop := fun _ _ => False
/-- the error e is taken -/
def Thrown (K : PySem.W.Frag) (W : WX) (e : Er) (Z : Hp) (σ : L2.St) (H : Hp) : Prop := match e.fld with
  | none => W (.ref e.C) none σ H
  | some (f, d) => ∀ (a : Addr) (v : V), H a = none → Rep K Z v d → W (.ref e.C) (some a) σ (upd H a (.xd [(f, v)]))
/-- the errors r are taken -/
def GX (X : Cx) (Z0 F : Hp) (r : O → Prop) : Prop := ∃ W : WX, Takes X W ∧ ∀ (e : Er) (ρ : Slots) (Z : Hp) (σ : L2.St) (H : Hp), r (.rs e) → StR X.K ρ Z0 F Z σ H → Thrown X.K W e Z σ H
theorem GX.never {X : Cx} {Z0 F : Hp} {r : O → Prop} (n : ∀ e, ¬ r (.rs e)) : GX X Z0 F r := ⟨fun _ _ _ _ => False, fun _ _ ⟨_, _, _, _, _, _, _, _, _, _, _, _, _, _, _, _, w⟩ => w.elim, fun e _ _ _ _ k _ => (n e k).elim⟩
theorem GX.imp {X : Cx} {Z0 F : Hp} {r r' : O → Prop} (g : GX X Z0 F r) (h : ∀ o, r' o → r o) : GX X Z0 F r' := by
  obtain ⟨W, t, k⟩ := g
  exact ⟨W, t, fun e ρ Z σ H q s => k e ρ Z σ H (h _ q) s⟩
structure GD (X : Cx) (Z0 F : Hp) (G : Go) (D : Ends) : Prop where
  nx : ∀ ρ Z σ H, G.nx ρ → StR X.K ρ Z0 F Z σ H → D.nx σ H
  bk : ∀ ρ Z σ H, G.bk ρ → StR X.K ρ Z0 F Z σ H → D.bk σ H
  ct : ∀ ρ Z σ H, G.ct ρ → StR X.K ρ Z0 F Z σ H → D.ct σ H
  rt : ∀ o v Z H A, G.rt o → Gr Z0 F Z H → RepO X.K Z F H v o A → New F Z A → D.rt v H
  rs : ∀ o ρ v Z σ H, G.rs o ρ → StR X.K (ρ ++ [some o]) Z0 F Z (σ ++ [some v]) H → D.rt v H
  ex : GX X Z0 F G.rt
structure MS1 (X : Cx) (ρ : Slots) (st : Stmt) (G : Go) : Prop where
  run : ∀ (Z0 F Z : Hp) (σ : L2.St) (H : Hp) (D : Ends), StR X.K ρ Z0 F Z σ H → GD X Z0 F G D → wS1 X st D σ H
structure MS (X : Cx) (ρ : Slots) (sts : List Stmt) (G : Go) : Prop where
  run : ∀ (Z0 F Z : Hp) (σ : L2.St) (H : Hp) (D : Ends), StR X.K ρ Z0 F Z σ H → GD X Z0 F G D → wS X sts D σ H
/-- then the rest -/
def Go.th (G : Go) (X : Cx) (sts : List Stmt) : Go := { G with nx := fun ρ => MS X ρ sts G }

section
variable {X : Cx} {ρ : Slots} {e : Expr} {es : List Expr} {st : Stmt} {sts : List Stmt} {G : Go} {o : O} {d : D} {ds : List D} {pos : Pos}
theorem ms_nil (h : G.nx ρ) : MS X ρ [] G := .mk fun Z0 F Z σ H D s g => PSs_w pss_nil (g.nx ρ Z σ H h s)
theorem ms_cons (h : MS1 X ρ st (G.th X sts)) : MS X ρ (st :: sts) G := .mk fun Z0 F Z σ H D s g =>
  PSs_w (pss_cons ps_w pss_w) (h.run Z0 F Z σ H _ s ⟨fun ρ' Z' σ' H' m s' => m.run Z0 F Z' σ' H' D s' g, g.bk, g.ct, g.rt, g.rs, g.ex⟩)
theorem ms_one (h : MS1 X ρ st G) : MS X ρ [st] G := .mk fun Z0 F Z σ H D s g => PSs_w (pss_one ps_w) (h.run Z0 F Z σ H _ s g)

/-! ### from one to the other -/
theorem ME.v (h : ME X ρ e o) : MV X ρ e o := .mk fun Z0 F Z σ H s Q q => h.run Z0 F Z σ H s Q fun v Z' H' A g r _ => q v Z' H' A g r
theorem MV.em (h : MV X ρ e (.fz d)) : ME X ρ e (.fz d) := .mk fun Z0 F Z σ H s Q q => h.run Z0 F Z σ H s Q fun v Z' H' A g r => by
  cases r with
  | fz r => exact q v Z' H' [] g (.fz r) .nil
theorem ME.r (h : ME X ρ e o) : MR X ρ e o := .mk fun Z0 F Z σ H s Q q => h.run Z0 F Z σ H s Q fun v Z' H' A g r n => q v Z' H' A g r n.1 fun a m => ⟨(n.2 a m).2, s.gr.hh.free (n.2 a m).1⟩
/-- the lists that can be looked at -/
inductive IsLst : O → List D → Prop where
  | fz (ds : List D) : IsLst (.fz (.lst ds)) ds
  | vw (ds : List D) : IsLst (.vw ds) ds
  | vwa (a : Addr) (ds : List D) : IsLst (.vwa a ds) ds
  | own (ds : List D) : IsLst (.lst (ds.map .fz)) ds
inductive IsTp : O → List D → Prop where
  | fz (ds : List D) : IsTp (.fz (.tup ds)) ds
  | own (ds : List D) : IsTp (.tup (ds.map .fz)) ds
theorem MV.l (h : MV X ρ e o) (i : IsLst o ds) : ML X ρ e ds := .mk fun Z0 F Z σ H s Q q => h.run Z0 F Z σ H s Q fun v Z' H' A g r => by
  cases i with
  | fz ds =>
    cases r with
    | fz r =>
      cases r with
      | lst a b => exact q _ _ Z' H' g (ex_l g.zh a) b
  | vw ds =>
    cases r with
    | vw a b => exact q _ _ Z' H' g (ex_l (s.gr.hh.trans g.hh) a) b
  | vwa a ds =>
    cases r with
    | vwa a b => exact q _ _ Z' H' g (ex_l (s.gr.hh.trans g.hh) a) b
  | own ds =>
    cases r with
    | lst a b => exact q _ _ Z' H' g (.of a) (RepOL.fzs b).2
theorem MV.u (h : MV X ρ e o) (i : IsTp o ds) : MU X ρ e ds := .mk fun Z0 F Z σ H s Q q => h.run Z0 F Z σ H s Q fun v Z' H' A g r => by
  cases i with
  | fz ds =>
    cases r with
    | fz r =>
      cases r with
      | tup a b => exact q _ _ Z' H' g (ex_t g.zh a) b
  | own ds =>
    cases r with
    | tup a b => exact q _ _ Z' H' g (.of a) (RepOL.fzs b).2





/-- a new thing is frozen at once -/
theorem ME.frz (h : ME X ρ e o) (n : o.nv = true) : ME X ρ e (.fz o.frz) := .mk fun Z0 F Z σ H s Q q => h.run Z0 F Z σ H s Q fun v Z' H' A g r w => by
  refine q v (frzAt Z' H' A) H' [] ⟨g.zz.trans (ex_frzAt g.zh), g.hh, frzAt_ex g.zh, fun a u e => ?_⟩ (.fz (r.frz (ex_frzAt g.zh) (fun a m => frzAt_in m) n)) .nil
  have na : a ∉ A := fun m => by
    rw [(w.2 a m).1] at e
    cases e
  rw [frzAt_out na]
  exact g.nw a u e
theorem ME.frzl (h : ME X ρ e (.lst (ds.map .fz))) : ME X ρ e (.fz (.lst ds)) := by
  have q := h.frz (O.nvL_fz ds)
  rw [show (O.lst (ds.map .fz)).frz = .lst ds from congrArg D.lst (O.frzL_fz ds)] at q
  exact q
theorem ME.l (h : ME X ρ e (.lst (ds.map .fz))) : ML X ρ e ds := MV.l h.v (.own ds)

/-! ### names, constants -/
theorem mv_var {i : Nat} {x : Str} (p : PE X (.Name x pos) (tVar i)) (h : ρ[i]? = some (some o)) : MV X ρ (.Name x pos) o := .mk fun Z0 F Z σ H s Q q => by
  obtain ⟨A, h1, h2, h3⟩ := s.st
  obtain ⟨v, B, e, r, _⟩ := h1.get h
  exact PE_w p ⟨v, e, q v Z H B (Gr.refl s.ex) r⟩
theorem me_var {i : Nat} {x : Str} (p : PE X (.Name x pos) (tVar i)) (h : ρ[i]? = some (some (.fz d))) : ME X ρ (.Name x pos) (.fz d) := MV.em (mv_var p h)
theorem mr_var {i : Nat} {x : Str} (p : PE X (.Name x pos) (tVar i)) (h : ρ[i]? = some (some o)) : MR X ρ (.Name x pos) o := .mk fun Z0 F Z σ H s Q q => by
  obtain ⟨A, h1, h2, h3⟩ := s.st
  obtain ⟨v, B, e, r, n, m, _⟩ := h1.at h h2
  exact PE_w p ⟨v, e, q v Z H B (Gr.refl s.ex) r n fun a z => h3 a (m a z)⟩
/-- a value that is what it is -/
inductive Sc : D → V → Prop where
  | non : Sc .non .non
  | bl (b : Bool) : Sc (.bl b) (.bl b)
  | int (i : Int) : Sc (.int i) (.int i)
  | str (x : Str) : Sc (.str x) (.str x)
  | ty (n : String) : Sc (.ty n) (.ty n)
  | opq (a : Addr) : Sc (.opq a) (.ref a)
theorem Sc.rep {K : PySem.W.Frag} {Z : Hp} {v : V} (h : Sc d v) : Rep K Z v d := by
  cases h <;> constructor
theorem Sc.eq {K : PySem.W.Frag} {Z : Hp} {v w : V} (h : Sc d v) (r : Rep K Z w d) : w = v := by
  cases h <;> cases r <;> rfl
theorem me_c {v : V} (p : PE X e (tC v)) (h : Sc d v) : ME X ρ e (.fz d) := .mk fun Z0 F Z σ H s Q q => PE_w p (q v Z H [] (Gr.refl s.ex) (.fz h.rep) .nil)
theorem me_int {i : Int} {j : Nat} : ME X ρ (.Constant (.int i) j pos) (.fz (.int i)) := me_c pe_int (.int i)
theorem me_bl {b : Bool} {j : Nat} : ME X ρ (.Constant (.bool b) j pos) (.fz (.bl b)) := me_c pe_bl (.bl b)
theorem me_non {j : Nat} : ME X ρ (.Constant .none j pos) (.fz .non) := me_c pe_non .non
theorem me_str {x : Str} {j : Nat} : ME X ρ (.Constant (.str x) j pos) (.fz (.str x)) := me_c pe_str (.str x)

/-! ### operators on plain values -/
variable {a b : Expr} {d1 d2 d3 : D} {x y z : V}
theorem me_r2 {r : R2} {t : TE} (p : PE X e (tOp r (wE X a) (wE X b))) (ha : ME X ρ a (.fz d1)) (hb : ME X ρ b (.fz d2)) (s1 : Sc d1 x) (s2 : Sc d2 y) (s3 : Sc d3 z) (h : ∀ H (Q : VK), Q z H → r x y H Q) : ME X ρ e (.fz d3) := .mk fun Z0 F Z σ H s Q q => by
  refine PE_w p (ha.run Z0 F Z σ H s _ fun v Z1 H1 A1 g1 r1 n1 => ?_)
  refine hb.run Z0 F Z1 σ H1 (s.grow g1) _ fun w Z2 H2 A2 g2 r2 n2 => ?_
  cases r1 with
  | fz r1 =>
    cases r2 with
    | fz r2 =>
      rw [s1.eq r1, s2.eq r2]
      exact h H2 Q (q z Z2 H2 [] (g1.trans g2) (.fz s3.rep) .nil)
theorem me_op {op : Operator} {r : R2} (ho : OpR X (binaryOp op) r) (ha : ME X ρ a (.fz d1)) (hb : ME X ρ b (.fz d2)) (s1 : Sc d1 x) (s2 : Sc d2 y) (s3 : Sc d3 z) (h : ∀ H (Q : VK), Q z H → r x y H Q) : ME X ρ (.BinOp a op b pos) (.fz d3) :=
  me_r2 (t := tOp r (wE X a) (wE X b)) (pe_op ho pe_w pe_w) ha hb s1 s2 s3 h
variable {i j : Int}
theorem me_add (ha : ME X ρ a (.fz (.int i))) (hb : ME X ρ b (.fz (.int j))) : ME X ρ (.BinOp a .Add b pos) (.fz (.int (i + j))) := me_op op_add ha hb (.int i) (.int j) (.int _) fun _ _ q => ⟨i, j, rfl, rfl, q⟩
theorem me_sub (ha : ME X ρ a (.fz (.int i))) (hb : ME X ρ b (.fz (.int j))) : ME X ρ (.BinOp a .Sub b pos) (.fz (.int (i - j))) := me_op op_sub ha hb (.int i) (.int j) (.int _) fun _ _ q => ⟨i, j, rfl, rfl, q⟩
theorem me_mul (ha : ME X ρ a (.fz (.int i))) (hb : ME X ρ b (.fz (.int j))) (c : CMul i j := by first | exact Or.inr (by decide) | exact Or.inl (by decide)) : ME X ρ (.BinOp a .Mult b pos) (.fz (.int (i * j))) := me_op op_mul ha hb (.int i) (.int j) (.int _) fun _ _ q => ⟨i, j, rfl, rfl, c, q⟩
theorem me_fdiv (ha : ME X ρ a (.fz (.int i))) (hb : ME X ρ b (.fz (.int j))) (c : CDiv i j := by exact ⟨by decide, by decide⟩) : ME X ρ (.BinOp a .FloorDiv b pos) (.fz (.int (i / j))) := me_op op_fdiv ha hb (.int i) (.int j) (.int _) fun _ _ q => ⟨i, j, rfl, rfl, c, q⟩
theorem me_mod (ha : ME X ρ a (.fz (.int i))) (hb : ME X ρ b (.fz (.int j))) (c : 0 < j := by decide) : ME X ρ (.BinOp a .Mod b pos) (.fz (.int (i % j))) := me_op op_mod ha hb (.int i) (.int j) (.int _) fun _ _ q => ⟨i, j, rfl, rfl, c, q⟩
theorem me_pow (ha : ME X ρ a (.fz (.int i))) (hb : ME X ρ b (.fz (.int j))) (c : CPow i j := by exact ⟨by decide, by decide, by decide⟩) : ME X ρ (.BinOp a .Pow b pos) (.fz (.int (i ^ j.toNat))) := me_op op_pow ha hb (.int i) (.int j) (.int _) fun _ _ q => ⟨i, j, rfl, rfl, c, q⟩
variable {p q : Str}
theorem me_cat (ha : ME X ρ a (.fz (.str p))) (hb : ME X ρ b (.fz (.str q))) (c : p.length + q.length ≤ sizeLine) : ME X ρ (.BinOp a .Add b pos) (.fz (.str (p ++ q))) := me_op op_add_str ha hb (.str p) (.str q) (.str _) fun _ _ k => ⟨p, q, rfl, rfl, c, k⟩
theorem me_neg (ha : ME X ρ a (.fz (.int i))) : ME X ρ (.UnaryOp .USub a pos) (.fz (.int (-i))) := .mk fun Z0 F Z σ H s Q q => by
  refine PE_w (pe_un un_neg pe_w) (ha.run Z0 F Z σ H s _ fun v Z1 H1 A1 g1 r1 n1 => ?_)
  cases r1 with
  | fz r1 =>
    cases r1
    exact ⟨i, rfl, q _ Z1 H1 [] g1 (.fz (.int _)) .nil⟩

/-! ### comparisons -/
theorem me_cmp {op : CmpOp} {r : R2} {k : Bool} (ho : OpR X (compareOp op) r) (ha : ME X ρ a (.fz d1)) (hb : ME X ρ b (.fz d2)) (s1 : Sc d1 x) (s2 : Sc d2 y) (h : ∀ H (Q : VK), Q (.bl k) H → r x y H Q) (hm : behindInMarks op b = false) : ME X ρ (.Compare a [op] [b] pos) (.fz (.bl k)) :=
  me_r2 (t := tOp r (wE X a) (wE X b)) (pe_cmpR ho pe_w pe_w hm) ha hb s1 s2 (.bl k) h
theorem mt_cmp {op : CmpOp} {r : R2} {k : Bool} (ho : OpR X (compareOp op) r) (ha : ME X ρ a (.fz d1)) (hb : ME X ρ b (.fz d2)) (s1 : Sc d1 x) (s2 : Sc d2 y) (h : ∀ H (Q : VK), Q (.bl k) H → r x y H Q) (hm : behindInMarks op b = false) : MT X ρ (.Compare a [op] [b] pos) k := .mk fun Z0 F Z σ H s Q q => by
  refine PT_w (pt_cmpR ho pe_w pe_w hm) (ha.run Z0 F Z σ H s _ fun v Z1 H1 A1 g1 r1 n1 => ?_)
  refine hb.run Z0 F Z1 σ H1 (s.grow g1) _ fun w Z2 H2 A2 g2 r2 n2 => ?_
  cases r1 with
  | fz r1 =>
    cases r2 with
    | fz r2 =>
      rw [s1.eq r1, s2.eq r2]
      exact h H2 _ ⟨k, rfl, q Z2 H2 (g1.trans g2)⟩
theorem me_lt (ha : ME X ρ a (.fz (.int i))) (hb : ME X ρ b (.fz (.int j))) : ME X ρ (.Compare a [.Lt] [b] pos) (.fz (.bl (decide (i < j)))) := me_cmp op_lt ha hb (.int i) (.int j) (fun _ _ k => ⟨i, j, rfl, rfl, k⟩) (nomark _)
theorem mt_lt (ha : ME X ρ a (.fz (.int i))) (hb : ME X ρ b (.fz (.int j))) : MT X ρ (.Compare a [.Lt] [b] pos) (decide (i < j)) := mt_cmp op_lt ha hb (.int i) (.int j) (fun _ _ k => ⟨i, j, rfl, rfl, k⟩) (nomark _)
theorem me_le (ha : ME X ρ a (.fz (.int i))) (hb : ME X ρ b (.fz (.int j))) : ME X ρ (.Compare a [.LtE] [b] pos) (.fz (.bl (decide (i ≤ j)))) := me_cmp op_le ha hb (.int i) (.int j) (fun _ _ k => ⟨i, j, rfl, rfl, k⟩) (nomark _)
theorem mt_le (ha : ME X ρ a (.fz (.int i))) (hb : ME X ρ b (.fz (.int j))) : MT X ρ (.Compare a [.LtE] [b] pos) (decide (i ≤ j)) := mt_cmp op_le ha hb (.int i) (.int j) (fun _ _ k => ⟨i, j, rfl, rfl, k⟩) (nomark _)
theorem me_gt (ha : ME X ρ a (.fz (.int i))) (hb : ME X ρ b (.fz (.int j))) : ME X ρ (.Compare a [.Gt] [b] pos) (.fz (.bl (decide (j < i)))) := me_cmp op_gt ha hb (.int i) (.int j) (fun _ _ k => ⟨i, j, rfl, rfl, k⟩) (nomark _)
theorem mt_gt (ha : ME X ρ a (.fz (.int i))) (hb : ME X ρ b (.fz (.int j))) : MT X ρ (.Compare a [.Gt] [b] pos) (decide (j < i)) := mt_cmp op_gt ha hb (.int i) (.int j) (fun _ _ k => ⟨i, j, rfl, rfl, k⟩) (nomark _)
theorem me_ge (ha : ME X ρ a (.fz (.int i))) (hb : ME X ρ b (.fz (.int j))) : ME X ρ (.Compare a [.GtE] [b] pos) (.fz (.bl (decide (j ≤ i)))) := me_cmp op_ge ha hb (.int i) (.int j) (fun _ _ k => ⟨i, j, rfl, rfl, k⟩) (nomark _)
theorem mt_ge (ha : ME X ρ a (.fz (.int i))) (hb : ME X ρ b (.fz (.int j))) : MT X ρ (.Compare a [.GtE] [b] pos) (decide (j ≤ i)) := mt_cmp op_ge ha hb (.int i) (.int j) (fun _ _ k => ⟨i, j, rfl, rfl, k⟩) (nomark _)
theorem me_eqI (ha : ME X ρ a (.fz (.int i))) (hb : ME X ρ b (.fz (.int j))) : ME X ρ (.Compare a [.Eq] [b] pos) (.fz (.bl (i == j))) := me_cmp op_eq ha hb (.int i) (.int j) (fun _ _ k => ⟨rfl, by rw [dec_int]; exact k⟩) (nomark _)
theorem me_neI (ha : ME X ρ a (.fz (.int i))) (hb : ME X ρ b (.fz (.int j))) : ME X ρ (.Compare a [.NotEq] [b] pos) (.fz (.bl (!(i == j)))) := me_cmp op_ne ha hb (.int i) (.int j) (fun _ _ k => ⟨rfl, by rw [dec_int]; exact k⟩) (nomark _)
theorem me_eqS (ha : ME X ρ a (.fz (.str p))) (hb : ME X ρ b (.fz (.str q))) : ME X ρ (.Compare a [.Eq] [b] pos) (.fz (.bl (p == q))) := me_cmp op_eq ha hb (.str p) (.str q) (fun _ _ k => ⟨rfl, by rw [dec_str]; exact k⟩) (nomark _)
theorem me_neS (ha : ME X ρ a (.fz (.str p))) (hb : ME X ρ b (.fz (.str q))) : ME X ρ (.Compare a [.NotEq] [b] pos) (.fz (.bl (!(p == q)))) := me_cmp op_ne ha hb (.str p) (.str q) (fun _ _ k => ⟨rfl, by rw [dec_str]; exact k⟩) (nomark _)
theorem mt_eqI (ha : ME X ρ a (.fz (.int i))) (hb : ME X ρ b (.fz (.int j))) : MT X ρ (.Compare a [.Eq] [b] pos) (i == j) := mt_cmp op_eq ha hb (.int i) (.int j) (fun _ _ k => ⟨rfl, by rw [dec_int]; exact k⟩) (nomark _)
theorem mt_neI (ha : ME X ρ a (.fz (.int i))) (hb : ME X ρ b (.fz (.int j))) : MT X ρ (.Compare a [.NotEq] [b] pos) (!(i == j)) := mt_cmp op_ne ha hb (.int i) (.int j) (fun _ _ k => ⟨rfl, by rw [dec_int]; exact k⟩) (nomark _)
theorem mt_eqS (ha : ME X ρ a (.fz (.str p))) (hb : ME X ρ b (.fz (.str q))) : MT X ρ (.Compare a [.Eq] [b] pos) (p == q) := mt_cmp op_eq ha hb (.str p) (.str q) (fun _ _ k => ⟨rfl, by rw [dec_str]; exact k⟩) (nomark _)
theorem mt_neS (ha : ME X ρ a (.fz (.str p))) (hb : ME X ρ b (.fz (.str q))) : MT X ρ (.Compare a [.NotEq] [b] pos) (!(p == q)) := mt_cmp op_ne ha hb (.str p) (.str q) (fun _ _ k => ⟨rfl, by rw [dec_str]; exact k⟩) (nomark _)

def D.isNon : D → Bool
  | .non => true
  | _ => false
def O.isNon : O → Bool
  | .fz d => d.isNon
  | .lk o => o.isNon
  | _ => false
theorem Rep.isNon {K : PySem.W.Frag} {Z : Hp} {v : V} (r : Rep K Z v d) : decide (v = .non) = d.isNon := by
  cases r <;> rfl
theorem RepK.isNon {K : PySem.W.Frag} {Z F : Hp} : ∀ {v : V} {o : O}, RepK K Z F v o → decide (v = .non) = o.isNon
  | _, _, .fz r => r.isNon
  | _, .lk o, .lk r => RepK.isNon (o := o) r
  | _, _, .vw _ _ => rfl
  | _, _, .vwa _ _ => rfl
  | _, _, .lst _ _ => rfl
  | _, _, .tup _ _ => rfl
  | _, _, .ins _ _ => rfl
  | _, _, .at _ _ => rfl
  | _, _, .dct _ _ => rfl
  | _, _, .dctT _ _ => rfl
  | _, _, .loc _ => rfl
  | _, _, .pt => rfl
theorem RepO.isNon {K : PySem.W.Frag} {Z F H : Hp} {v : V} {A : List Addr} (r : RepO K Z F H v o A) : decide (v = .non) = o.isNon := by
  cases r with
  | fz r => exact r.isNon
  | lk r => exact r.isNon
  | _ => rfl
theorem mt_isN {k2 : Nat} {p2 : Pos} (ha : MV X ρ a o) : MT X ρ (.Compare a [.Is] [.Constant .none k2 p2] pos) o.isNon := .mk fun Z0 F Z σ H s Q q => by
  refine PT_w (pt_cmpR op_isN pe_w pe_non (nomark _)) (ha.run Z0 F Z σ H s _ fun v Z1 H1 A1 g1 r1 => ?_)
  exact ⟨rfl, o.isNon, by rw [r1.isNon], q Z1 H1 g1⟩
theorem mt_notN {k2 : Nat} {p2 : Pos} (ha : MV X ρ a o) : MT X ρ (.Compare a [.IsNot] [.Constant .none k2 p2] pos) (!o.isNon) := .mk fun Z0 F Z σ H s Q q => by
  refine PT_w (pt_cmpR op_notN pe_w pe_non (nomark _)) (ha.run Z0 F Z σ H s _ fun v Z1 H1 A1 g1 r1 => ?_)
  exact ⟨rfl, !o.isNon, by rw [r1.isNon], q Z1 H1 g1⟩
/-- a value that is a bool, as a test -/
theorem mt_val {k : Bool} (ha : ME X ρ e (.fz (.bl k))) (he : ∀ whole, isTrue e X.env whole = (do let v ← whole; standAt e.pos; holding [v] (truthy v)) := by intro _; rfl) : MT X ρ e k := .mk fun Z0 F Z σ H s Q q => by
  refine PT_w (pt_val pe_w he) (ha.run Z0 F Z σ H s _ fun v Z1 H1 A1 g1 r1 n1 => ?_)
  cases r1 with
  | fz r1 =>
    cases r1
    exact ⟨k, rfl, q Z1 H1 g1⟩

/-! ### and, or, not -/
def wW (X : Cx) (e : Expr) : TT := fun σ H Q => ∀ (whole : Sem Value) (pins : List (Addr × Obj)) (s : Shared), Inv X pins σ H s → wpAny (model X.prog X.w) X.A (isTrue e X.env whole) (TP X pins σ Q) X.xe s
theorem pw_w : PW X e (wW X e) := ⟨fun whole pins s _ _ _ I h => h whole pins s I⟩
theorem PW_w {t : TT} (p : PW X e t) {σ : L2.St} {H : Hp} {Q : Bool → Hp → Prop} (h : t σ H Q) : wW X e σ H Q := fun whole pins s I => p.run whole pins s σ H Q I h
structure MW (X : Cx) (ρ : Slots) (e : Expr) (b : Bool) : Prop where
  run : ∀ (Z0 F Z : Hp) (σ : L2.St) (H : Hp), StR X.K ρ Z0 F Z σ H → ∀ Q : Bool → Hp → Prop,
  (∀ Z' H', Gr Z H Z' H' → Q b H') → wW X e σ H Q
variable {k l : Bool} {rest : List Expr}
theorem MW.t (h : MW X ρ e k) : MT X ρ e k := .mk fun Z0 F Z σ H s Q q => PT_w (PW.pt pw_w) (h.run Z0 F Z σ H s Q q)
theorem mw_and1 (h : MT X ρ a k) : MW X ρ (.BoolOp .And [a] pos) k := .mk fun Z0 F Z σ H s Q q => PW_w (pw_and1 pt_w) (h.run Z0 F Z σ H s Q q)
theorem mw_or1 (h : MT X ρ a k) : MW X ρ (.BoolOp .Or [a] pos) k := .mk fun Z0 F Z σ H s Q q => PW_w (pw_or1 pt_w) (h.run Z0 F Z σ H s Q q)
theorem mw_and (h : MT X ρ a k) (h2 : k = true → MW X ρ (.BoolOp .And (b :: rest) pos) l) : MW X ρ (.BoolOp .And (a :: b :: rest) pos) (k && l) := .mk fun Z0 F Z σ H s Q q =>
  PW_w (pw_and pt_w pw_w) (h.run Z0 F Z σ H s _ fun Z1 H1 g1 => by
    cases k with
    | true => exact (h2 rfl).run Z0 F Z1 σ H1 (s.grow g1) Q fun Z2 H2 g2 => q Z2 H2 (g1.trans g2)
    | false => exact q Z1 H1 g1)
theorem mw_or (h : MT X ρ a k) (h2 : k = false → MW X ρ (.BoolOp .Or (b :: rest) pos) l) : MW X ρ (.BoolOp .Or (a :: b :: rest) pos) (k || l) := .mk fun Z0 F Z σ H s Q q =>
  PW_w (pw_or pt_w pw_w) (h.run Z0 F Z σ H s _ fun Z1 H1 g1 => by
    cases k with
    | true => exact q Z1 H1 g1
    | false => exact (h2 rfl).run Z0 F Z1 σ H1 (s.grow g1) Q fun Z2 H2 g2 => q Z2 H2 (g1.trans g2))
theorem mt_not (h : MT X ρ a k) : MT X ρ (.UnaryOp .Not a pos) (!k) := .mk fun Z0 F Z σ H s Q q => PT_w (pt_not pt_w) (h.run Z0 F Z σ H s _ fun Z1 H1 g1 => q Z1 H1 g1)
theorem me_one {op : BoolOp} (h : ME X ρ a o) : ME X ρ (.BoolOp op [a] pos) o := .mk fun Z0 F Z σ H s Q q => PE_w (pe_one pe_w) (h.run Z0 F Z σ H s Q q)
theorem me_and (h : ME X ρ a (.fz (.bl k))) (h2 : k = true → ME X ρ (.BoolOp .And (b :: rest) pos) (.fz (.bl l))) : ME X ρ (.BoolOp .And (a :: b :: rest) pos) (.fz (.bl (k && l))) := .mk fun Z0 F Z σ H s Q q =>
  PE_w (pe_and pe_w pe_w) (h.run Z0 F Z σ H s _ fun v Z1 H1 A1 g1 r1 n1 => by
    cases r1 with
    | fz r1 =>
      cases r1
      refine ⟨k, rfl, ?_⟩
      cases k with
      | true =>
        refine (h2 rfl).run Z0 F Z1 σ H1 (s.grow g1) Q fun w Z2 H2 A2 g2 r2 n2 => ?_
        cases r2 with
        | fz r2 => exact q w Z2 H2 [] (g1.trans g2) (.fz r2) .nil
      | false => exact q _ Z1 H1 [] g1 (.fz (.bl false)) .nil)
theorem me_or (h : ME X ρ a (.fz (.bl k))) (h2 : k = false → ME X ρ (.BoolOp .Or (b :: rest) pos) (.fz (.bl l))) : ME X ρ (.BoolOp .Or (a :: b :: rest) pos) (.fz (.bl (k || l))) := .mk fun Z0 F Z σ H s Q q =>
  PE_w (pe_or pe_w pe_w) (h.run Z0 F Z σ H s _ fun v Z1 H1 A1 g1 r1 n1 => by
    cases r1 with
    | fz r1 =>
      cases r1
      refine ⟨k, rfl, ?_⟩
      cases k with
      | false =>
        refine (h2 rfl).run Z0 F Z1 σ H1 (s.grow g1) Q fun w Z2 H2 A2 g2 r2 n2 => ?_
        cases r2 with
        | fz r2 => exact q w Z2 H2 [] (g1.trans g2) (.fz r2) .nil
      | true => exact q _ Z1 H1 [] g1 (.fz (.bl true)) .nil)
theorem me_not (h : ME X ρ a (.fz (.bl k))) : ME X ρ (.UnaryOp .Not a pos) (.fz (.bl (!k))) := .mk fun Z0 F Z σ H s Q q =>
  PE_w (pe_not pe_w) (h.run Z0 F Z σ H s _ fun v Z1 H1 A1 g1 r1 n1 => by
    cases r1 with
    | fz r1 =>
      cases r1
      exact ⟨k, rfl, q _ Z1 H1 [] g1 (.fz (.bl _)) .nil⟩)
theorem me_if {c : Expr} (h : MT X ρ c k) (h1 : k = true → ME X ρ a o) (h2 : k = false → ME X ρ b o) : ME X ρ (.IfExp c a b pos) o := .mk fun Z0 F Z σ H s Q q =>
  PE_w (pe_ifExp pt_w pe_w pe_w) (h.run Z0 F Z σ H s _ fun Z1 H1 g1 => by
    cases k with
    | true => exact (h1 rfl).run Z0 F Z1 σ H1 (s.grow g1) Q fun v Z2 H2 A2 g2 r2 n2 => q v Z2 H2 A2 (g1.trans g2) r2 ⟨n2.1, fun a m => ⟨g1.hh.free (n2.2 a m).1, (n2.2 a m).2⟩⟩
    | false => exact (h2 rfl).run Z0 F Z1 σ H1 (s.grow g1) Q fun v Z2 H2 A2 g2 r2 n2 => q v Z2 H2 A2 (g1.trans g2) r2 ⟨n2.1, fun a m => ⟨g1.hh.free (n2.2 a m).1, (n2.2 a m).2⟩⟩)

/-- not starred -/
abbrev NS (X : Cx) (e : Expr) : Prop := ∀ es, starEach (e :: es) X.env = (false, eval e X.env) :: starEach es X.env
/-! ### argument lists, displays -/
/-- frozen things -/
structure MF (X : Cx) (ρ : Slots) (es : List Expr) (ds : List D) : Prop where
  run : ∀ (Z0 F Z : Hp) (σ : L2.St) (H : Hp), StR X.K ρ Z0 F Z σ H → ∀ Q : List V → Hp → Prop,
  (∀ vs Z' H', Gr Z H Z' H' → RepL X.K Z' vs ds → Q vs H') → wA X es σ H Q
theorem mf_nil : MF X ρ [] [] := .mk fun Z0 F Z σ H s Q q => PA_w pa_nil (q [] Z H (Gr.refl s.ex) .nil)
theorem mf_cons (h : ME X ρ e (.fz d)) (h2 : MF X ρ es ds) (hs : starEach (e :: es) X.env = (false, eval e X.env) :: starEach es X.env := by rfl) : MF X ρ (e :: es) (d :: ds) := .mk fun Z0 F Z σ H s Q q =>
  PA_w (pa_cons pe_w pa_w hs) (h.run Z0 F Z σ H s _ fun v Z1 H1 A1 g1 r1 n1 => by
    cases r1 with
    | fz r1 => exact h2.run Z0 F Z1 σ H1 (s.grow g1) _ fun vs Z2 H2 g2 r2 => q _ Z2 H2 (g1.trans g2) (.cons (r1.mono g2.zz) r2))
theorem ma_nil : MA X ρ [] [] := .mk fun Z0 F Z σ H s Q q => PA_w pa_nil (q [] Z H (Gr.refl s.ex) .nil)
theorem ma_fz {os : List O} (h : ME X ρ e (.fz d)) (h2 : MA X ρ es os) (hs : starEach (e :: es) X.env = (false, eval e X.env) :: starEach es X.env := by rfl) : MA X ρ (e :: es) (.fz d :: os) := .mk fun Z0 F Z σ H s Q q =>
  PA_w (pa_cons pe_w pa_w hs) (h.run Z0 F Z σ H s _ fun v Z1 H1 A1 g1 r1 n1 => by
    cases r1 with
    | fz r1 => exact h2.run Z0 F Z1 σ H1 (s.grow g1) _ fun vs Z2 H2 g2 r2 => q _ Z2 H2 (g1.trans g2) (.cons (A := []) (B := []) (.fz (r1.mono g2.zz)) r2))
theorem ma_vw {os : List O} (h : ML X ρ e ds) (h2 : MA X ρ es os) (hs : starEach (e :: es) X.env = (false, eval e X.env) :: starEach es X.env := by rfl) : MA X ρ (e :: es) (.vw ds :: os) := .mk fun Z0 F Z σ H s Q q =>
  PA_w (pa_cons pe_w pa_w hs) (h.run Z0 F Z σ H s _ fun a vs Z1 H1 g1 l1 r1 =>
    h2.run Z0 F Z1 σ H1 (s.grow g1) _ fun ws Z2 H2 g2 r2 => q _ Z2 H2 (g1.trans g2) (.cons (A := []) (B := []) (.vw (ex_l g2.hh l1) (r1.mono g2.zz)) r2))
theorem new_one {H Z : Hp} {p : Addr} (h : H p = none) (h2 : Z p = none) : New H Z [p] := ⟨List.nodup_cons.mpr ⟨(fun m => nomatch m), List.nodup_nil⟩, fun a m => by
  cases List.mem_singleton.mp m
  exact ⟨h, h2⟩⟩
theorem me_tup {n : Nat} (h : MF X ρ es ds) (hl : ds.length ≤ 1000 := by first | decide | (simp; done)) : ME X ρ (.Tuple es n pos) (.fz (.tup ds)) := .mk fun Z0 F Z σ H s Q q =>
  PE_w (pe_tup pa_w) (h.run Z0 F Z σ H s _ fun vs Z1 H1 g1 r1 => ⟨(by rw [r1.length]; exact Nat.le_of_lt (small1000 hl)), fun p hp => by
    exact q _ (upd Z1 p (.tup vs)) _ [] (g1.trans (Gr.newz g1.zh hp)) (.fz (.tup (.of upd_same) (r1.mono (Ex.new (g1.zh.free hp))))) .nil⟩)
theorem me_lst (h : MF X ρ es ds) (hl : ds.length ≤ 1000 := by first | decide | (simp; done)) : ME X ρ (.List es pos) (.lst (ds.map .fz)) := .mk fun Z0 F Z σ H s Q q =>
  PE_w (pe_lst pa_w) (h.run Z0 F Z σ H s _ fun vs Z1 H1 g1 r1 => ⟨(by rw [r1.length]; exact Nat.le_of_lt (small1000 hl)), fun p hp => by
    refine q _ Z1 _ [p] (g1.trans (Gr.new g1.zh hp)) (.lst upd_same r1.own) (new_one (g1.hh.free hp) (g1.zh.free hp))⟩)

/-! ### items, lengths, slices -/
theorem RepL.atI {K : PySem.W.Frag} {Z : Hp} {vs : List V} {ds : List D} {i : Int} {d : D} (r : RepL K Z vs ds) (h : L2.atI ds i = some d) : ∃ v, L2.atI vs i = some v ∧ Rep K Z v d := by
  unfold L2.atI at h ⊢
  rw [r.length]
  cases e : ixN ds.length i with
  | none =>
    rw [e] at h
    cases h
  | some n =>
    rw [e] at h
    exact r.get h
theorem me_ixL (ha : ML X ρ a ds) (hb : ME X ρ b (.fz (.int i))) (h : L2.atI ds i = some d) (hp : PlainIx b := by exact fun _ _ => rfl) : ME X ρ (.Subscript a b pos) (.fz d) := .mk fun Z0 F Z σ H s Q q =>
  PE_w (pe_ix ix_list pe_w pe_w hp) (ha.run Z0 F Z σ H s _ fun l vs Z1 H1 g1 l1 r1 => hb.run Z0 F Z1 σ H1 (s.grow g1) _ fun w Z2 H2 A2 g2 r2 n2 => by
    cases r2 with
    | fz r2 =>
      cases r2
      obtain ⟨v, e, rv⟩ := (r1.mono g2.zz).atI h
      exact ⟨l, vs, i, v, rfl, rfl, ex_l g2.hh l1, e, q v Z2 H2 [] (g1.trans g2) (.fz rv) .nil⟩)
theorem me_ixT (ha : MU X ρ a ds) (hb : ME X ρ b (.fz (.int i))) (h : L2.atI ds i = some d) (hp : PlainIx b := by exact fun _ _ => rfl) : ME X ρ (.Subscript a b pos) (.fz d) := .mk fun Z0 F Z σ H s Q q =>
  PE_w (pe_ix ix_tup pe_w pe_w hp) (ha.run Z0 F Z σ H s _ fun l vs Z1 H1 g1 l1 r1 => hb.run Z0 F Z1 σ H1 (s.grow g1) _ fun w Z2 H2 A2 g2 r2 n2 => by
    cases r2 with
    | fz r2 =>
      cases r2
      obtain ⟨v, e, rv⟩ := (r1.mono g2.zz).atI h
      exact ⟨l, vs, i, v, rfl, rfl, ex_t g2.hh l1, e, q v Z2 H2 [] (g1.trans g2) (.fz rv) .nil⟩)
theorem me_ixS {c : Nat} (ha : ME X ρ a (.fz (.str p))) (hb : ME X ρ b (.fz (.int i))) (hl : p.length ≤ sizeLine) (h : L2.atI p.cps.toList i = some c) (hp : PlainIx b := by exact fun _ _ => rfl) : ME X ρ (.Subscript a b pos) (.fz (.str ⟨#[c]⟩)) :=
  me_r2 (t := tOp rIxS (wE X a) (wE X b)) (pe_ix ix_str pe_w pe_w hp) ha hb (.str p) (.int i) (.str _) fun _ _ k => ⟨p, i, c, rfl, rfl, hl, h, k⟩
theorem RepOL.get {K : PySem.W.Frag} {Z F H : Hp} : ∀ {vs : List V} {os : List O} {A : List Addr} {i : Nat} {o : O}, RepOL K Z F H vs os A → os[i]? = some o → ∃ v B, vs[i]? = some v ∧ RepO K Z F H v o B
  | _, _, _, _, _, .nil, e => by simp at e
  | _, _, _, 0, _, .cons h _, e => by
    simp at e
    subst e
    exact ⟨_, _, rfl, h⟩
  | _, _, _, i + 1, _, .cons _ r, e => by
    obtain ⟨v, B, h1, h2⟩ := RepOL.get (i := i) r (by simpa using e)
    exact ⟨v, B, by simpa using h1, h2⟩
theorem RepOL.length {K : PySem.W.Frag} {Z F H : Hp} : ∀ {vs : List V} {os : List O} {A : List Addr}, RepOL K Z F H vs os A → vs.length = os.length
  | _, _, _, .nil => rfl
  | _, _, _, .cons _ r => congrArg (· + 1) r.length
theorem RepOL.atI {K : PySem.W.Frag} {Z F H : Hp} {vs : List V} {os : List O} {A : List Addr} {i : Int} {o : O} (r : RepOL K Z F H vs os A) (h : L2.atI os i = some o) : ∃ v B, L2.atI vs i = some v ∧ RepO K Z F H v o B := by
  unfold L2.atI at h ⊢
  rw [r.length]
  cases e : ixN os.length i with
  | none =>
    rw [e] at h
    cases h
  | some n =>
    rw [e] at h
    exact r.get h
/-- an item of an own tuple, of an own list -/
theorem mv_ixT {os : List O} (ha : MV X ρ a (.tup os)) (hb : ME X ρ b (.fz (.int i))) (h : L2.atI os i = some o) (hp : PlainIx b := by exact fun _ _ => rfl) : MV X ρ (.Subscript a b pos) o := .mk fun Z0 F Z σ H s Q q =>
  PE_w (pe_ix ix_tup pe_w pe_w hp) (ha.run Z0 F Z σ H s _ fun v Z1 H1 A1 g1 r1 => hb.run Z0 F Z1 σ H1 (s.grow g1) _ fun w Z2 H2 A2 g2 r2 n2 => by
    cases r2 with
    | fz r2 =>
      cases r2
      have r3 := r1.ex g2.zz g2.hh
      cases r3 with
      | tup l1 r4 =>
        obtain ⟨v, B, e, rv⟩ := r4.atI h
        exact ⟨_, _, i, v, rfl, rfl, .of l1, e, q v Z2 H2 B (g1.trans g2) rv⟩)
theorem mv_ixL {os : List O} (ha : MV X ρ a (.lst os)) (hb : ME X ρ b (.fz (.int i))) (h : L2.atI os i = some o) (hp : PlainIx b := by exact fun _ _ => rfl) : MV X ρ (.Subscript a b pos) o := .mk fun Z0 F Z σ H s Q q =>
  PE_w (pe_ix ix_list pe_w pe_w hp) (ha.run Z0 F Z σ H s _ fun v Z1 H1 A1 g1 r1 => hb.run Z0 F Z1 σ H1 (s.grow g1) _ fun w Z2 H2 A2 g2 r2 n2 => by
    cases r2 with
    | fz r2 =>
      cases r2
      have r3 := r1.ex g2.zz g2.hh
      cases r3 with
      | lst l1 r4 =>
        obtain ⟨v, B, e, rv⟩ := r4.atI h
        exact ⟨_, _, i, v, rfl, rfl, .of l1, e, q v Z2 H2 B (g1.trans g2) rv⟩)
variable {nm T id : Str} {p0 p1 p2 : Pos}
theorem me_len (hg : Gl X "len") (hm : X.mg "len" = none) (ha : ML X ρ a ds) (n1 : NS X a := by exact fun _ => rfl) : ME X ρ (.Call (.Name "len" p0) [a] [] pos) (.fz (.int (ds.length : Int))) := .mk fun Z0 F Z σ H s Q q =>
  PE_w (pe_callB call_len_seq hg hm boot_len (pa_cons pe_w pa_nil (n1 _)) (he := n1 _)) (ha.run Z0 F Z σ H s _ fun l vs Z1 H1 g1 l1 r1 => ⟨l, vs, rfl, .inl l1, by rw [r1.length]; exact q _ Z1 H1 [] g1 (.fz (.int _)) .nil⟩)
theorem me_lenT (hg : Gl X "len") (hm : X.mg "len" = none) (ha : MU X ρ a ds) (n1 : NS X a := by exact fun _ => rfl) : ME X ρ (.Call (.Name "len" p0) [a] [] pos) (.fz (.int (ds.length : Int))) := .mk fun Z0 F Z σ H s Q q =>
  PE_w (pe_callB call_len_seq hg hm boot_len (pa_cons pe_w pa_nil (n1 _)) (he := n1 _)) (ha.run Z0 F Z σ H s _ fun l vs Z1 H1 g1 l1 r1 => ⟨l, vs, rfl, .inr l1, by rw [r1.length]; exact q _ Z1 H1 [] g1 (.fz (.int _)) .nil⟩)
theorem me_lenTO {os : List O} (hg : Gl X "len") (hm : X.mg "len" = none) (ha : MV X ρ a (.tup os)) (n1 : NS X a := by exact fun _ => rfl) : ME X ρ (.Call (.Name "len" p0) [a] [] pos) (.fz (.int (os.length : Int))) := .mk fun Z0 F Z σ H s Q q =>
  PE_w (pe_callB call_len_seq hg hm boot_len (pa_cons pe_w pa_nil (n1 _)) (he := n1 _)) (ha.run Z0 F Z σ H s _ fun v Z1 H1 A g1 r1 => by
    cases r1 with
    | tup l1 r1 => exact ⟨_, _, rfl, .inr (.of l1), by rw [r1.length]; exact q _ Z1 H1 [] g1 (.fz (.int _)) .nil⟩)
theorem me_lenLO {os : List O} (hg : Gl X "len") (hm : X.mg "len" = none) (ha : MV X ρ a (.lst os)) (n1 : NS X a := by exact fun _ => rfl) : ME X ρ (.Call (.Name "len" p0) [a] [] pos) (.fz (.int (os.length : Int))) := .mk fun Z0 F Z σ H s Q q =>
  PE_w (pe_callB call_len_seq hg hm boot_len (pa_cons pe_w pa_nil (n1 _)) (he := n1 _)) (ha.run Z0 F Z σ H s _ fun v Z1 H1 A g1 r1 => by
    cases r1 with
    | lst l1 r1 => exact ⟨_, _, rfl, .inl (.of l1), by rw [r1.length]; exact q _ Z1 H1 [] g1 (.fz (.int _)) .nil⟩)
theorem me_lenS (hg : Gl X "len") (hm : X.mg "len" = none) (ha : ME X ρ a (.fz (.str p))) (hl : p.length ≤ sizeLine) (n1 : NS X a := by exact fun _ => rfl) : ME X ρ (.Call (.Name "len" p0) [a] [] pos) (.fz (.int (p.length : Int))) := .mk fun Z0 F Z σ H s Q q =>
  PE_w (pe_callB call_len_str hg hm boot_len (pa_cons pe_w pa_nil (n1 _)) (he := n1 _)) (ha.run Z0 F Z σ H s _ fun v Z1 H1 A g1 r1 n1 => by
    cases r1 with
    | fz r1 =>
      cases r1
      exact ⟨p, rfl, hl, q _ Z1 H1 [] g1 (.fz (.int _)) .nil⟩)
theorem me_list (hg : Gl X "list") (hm : X.mg "list" = none) (ha : ML X ρ a ds) (n1 : NS X a := by exact fun _ => rfl) : ME X ρ (.Call (.Name "list" p0) [a] [] pos) (.lst (ds.map .fz)) := .mk fun Z0 F Z σ H s Q q =>
  PE_w (pe_callTy call_list_of hg hm (by decide +kernel) (pa_cons pe_w pa_nil (n1 _)) (he := n1 _)) (ha.run Z0 F Z σ H s _ fun l vs Z1 H1 g1 l1 r1 => ⟨l, vs, rfl, .inl l1, fun p hp =>
    q _ Z1 _ [p] (g1.trans (Gr.new g1.zh hp)) (.lst upd_same r1.own) (new_one (g1.hh.free hp) (g1.zh.free hp))⟩)
theorem me_sum {ns : List Int} (hc : X.calm = true) (hg : Gl X "sum") (hm : X.mg "sum" = none) (ha : ML X ρ a (ns.map .int)) (n1 : NS X a := by exact fun _ => rfl) : ME X ρ (.Call (.Name "sum" p0) [a] [] pos) (.fz (.int ns.sum)) := .mk fun Z0 F Z σ H s Q q =>
  PE_w (pe_callB (cr_sum hc) hg hm (by decide +kernel) (pa_cons pe_w pa_nil (n1 _)) (he := n1 _)) (ha.run Z0 F Z σ H s _ fun l vs Z1 H1 g1 l1 r1 => by
    have e := r1.ints
    subst e
    exact ⟨l, ns, rfl, l1, q _ Z1 H1 [] g1 (.fz (.int _)) .nil⟩)
theorem me_min (hc : X.calm = true) (hg : Gl X "min") (hm : X.mg "min" = none) (ha : ME X ρ a (.fz (.int i))) (hb : ME X ρ b (.fz (.int j))) (n1 : NS X a := by exact fun _ => rfl) (n2 : NS X b := by exact fun _ => rfl) : ME X ρ (.Call (.Name "min" p0) [a, b] [] pos) (.fz (.int (min i j))) := .mk fun Z0 F Z σ H s Q q =>
  PE_w (pe_callB (call_min2 hc) hg hm (by decide +kernel) (pa_cons pe_w (pa_cons pe_w pa_nil (n2 _)) (n1 _)) (he := n1 _) (hpl := by rw [n2 []]; rfl)) (ha.run Z0 F Z σ H s _ fun v Z1 H1 A1 g1 r1 n1 => hb.run Z0 F Z1 σ H1 (s.grow g1) _ fun w Z2 H2 A2 g2 r2 n2 => by
    cases r1 with
    | fz r1 =>
      cases r2 with
      | fz r2 =>
        cases r1
        cases r2
        refine ⟨i, j, rfl, ?_⟩
        have e : (if j < i then j else i) = min i j := by omega
        rw [e]
        exact q _ Z2 H2 [] (g1.trans g2) (.fz (.int _)) .nil)
theorem me_max (hc : X.calm = true) (hg : Gl X "max") (hm : X.mg "max" = none) (ha : ME X ρ a (.fz (.int i))) (hb : ME X ρ b (.fz (.int j))) (n1 : NS X a := by exact fun _ => rfl) (n2 : NS X b := by exact fun _ => rfl) : ME X ρ (.Call (.Name "max" p0) [a, b] [] pos) (.fz (.int (max i j))) := .mk fun Z0 F Z σ H s Q q =>
  PE_w (pe_callB (call_max2 hc) hg hm (by decide +kernel) (pa_cons pe_w (pa_cons pe_w pa_nil (n2 _)) (n1 _)) (he := n1 _) (hpl := by rw [n2 []]; rfl)) (ha.run Z0 F Z σ H s _ fun v Z1 H1 A1 g1 r1 n1 => hb.run Z0 F Z1 σ H1 (s.grow g1) _ fun w Z2 H2 A2 g2 r2 n2 => by
    cases r1 with
    | fz r1 =>
      cases r2 with
      | fz r2 =>
        cases r1
        cases r2
        refine ⟨i, j, rfl, ?_⟩
        have e : (if j > i then j else i) = max i j := by omega
        rw [e]
        exact q _ Z2 H2 [] (g1.trans g2) (.fz (.int _)) .nil)
/-- a part of a slice -/
def wO (X : Cx) (e : Option Expr) : TO := fun σ H Q => ∀ (pins : List (Addr × Obj)) (s : Shared), Inv X pins σ H s → True
inductive MO (X : Cx) (ρ : Slots) : Option Expr → Option Int → Prop where
  | none : MO X ρ none none
  | some {e : Expr} {i : Int} (h : ME X ρ e (.fz (.int i))) : MO X ρ (some e) (some i)
theorem MO.run {eo : Option Expr} {io : Option Int} (h : MO X ρ eo io) : ∃ t, PO X eo t ∧ ∀ (Z0 F Z : Hp) (σ : L2.St) (H : Hp), StR X.K ρ Z0 F Z σ H → ∀ Q : Option Int → Hp → Prop, (∀ Z' H', Gr Z H Z' H' → Q io H') → t σ H Q := by
  cases h with
  | none => exact ⟨_, po_none, fun Z0 F Z σ H s Q q => q Z H (Gr.refl s.ex)⟩
  | @some e i h => exact ⟨_, po_some pe_w, fun Z0 F Z σ H s Q q => h.run Z0 F Z σ H s _ fun v Z1 H1 A1 g1 r1 n1 => by
      cases r1 with
      | fz r1 =>
        cases r1
        exact ⟨i, rfl, q Z1 H1 g1⟩⟩
def cutG {α : Type} (xs : List α) (lo hi : Option Int) : List α := (xs.drop (HT.sIx xs.length 0 lo)).take (HT.sIx xs.length xs.length hi - HT.sIx xs.length 0 lo)
theorem RepL.cut {K : PySem.W.Frag} {Z : Hp} {vs : List V} {ds : List D} (r : RepL K Z vs ds) (lo hi : Option Int) : RepL K Z (cutV vs lo hi) (cutG ds lo hi) := by
  unfold cutV cutG
  rw [r.length]
  exact (r.drop _).take _
theorem me_slL {lo hi : Option Expr} {li hj : Option Int} (ha : ML X ρ a ds) (hl : MO X ρ lo li) (hh : MO X ρ hi hj) : ME X ρ (.Subscript a (.Slice lo hi none p2) pos) (.lst ((cutG ds li hj).map .fz)) := .mk fun Z0 F Z σ H s Q q => by
  obtain ⟨tl, pl, kl⟩ := hl.run
  obtain ⟨th, ph, kh⟩ := hh.run
  refine PE_w (pe_slice sl_list pe_w pl ph) (ha.run Z0 F Z σ H s _ fun l vs Z1 H1 g1 l1 r1 => kl Z0 F Z1 σ H1 (s.grow g1) _ fun Z2 H2 g2 => kh Z0 F Z2 σ H2 (s.grow (g1.trans g2)) _ fun Z3 H3 g3 => ?_)
  refine ⟨l, vs, rfl, ex_l (g2.hh.trans g3.hh) l1, fun p hp => ?_⟩
  have g := g1.trans (g2.trans g3)
  exact q _ Z3 _ [p] (g.trans (Gr.new g.zh hp)) (.lst upd_same ((r1.mono (g2.zz.trans g3.zz)).cut li hj).own) (new_one (g.hh.free hp) (g.zh.free hp))

/-! ### isinstance -/
def D.tyN : D → Option String
  | .non => some "NoneType"
  | .bl _ => some "bool"
  | .int _ => some "int"
  | .str _ => some "str"
  | .tup _ => some "tuple"
  | .lst _ => some "list"
  | .dct _ _ => some "dict"
  | .dctT _ _ => some "dict"
  | _ => none
def O.tyN : O → Option String
  | .fz d => d.tyN
  | .vw _ => some "list"
  | .vwa _ _ => some "list"
  | .lk o => o.tyN
  | .lst _ => some "list"
  | .tup _ => some "tuple"
  | .dct _ _ => some "dict"
  | .dctT _ _ => some "dict"
  | .ins _ _ _ => none
  | .at _ _ _ _ => none
  | .loc _ o => o.tyN
  | .pt _ => none
  | .rs _ => none
theorem sql_ty {K : PySem.W.Frag} {H : Hp} {l : Addr} {vs : List V} (h : SqL K H l vs) : TyX K H (.ref l) (.type "list") := by
  rcases h with (h | ⟨o, h⟩) | ⟨o, its, n, h, c, _⟩
  · exact .base (.lst h)
  · exact .base (.frz h)
  · exact .kList h c
theorem sqt_ty {K : PySem.W.Frag} {H : Hp} {l : Addr} {vs : List V} (h : SqT K H l vs) : TyX K H (.ref l) (.type "tuple") := by
  rcases h with (h | ⟨o, h⟩) | ⟨o, its, n, h, c, _⟩
  · exact .base (.tup h)
  · exact .fTuple h
  · exact .kTuple h c
theorem Rep.ty' {K : PySem.W.Frag} {Z H : Hp} {v : V} {d : D} {t : String} (e : Ex Z H) (r : Rep K Z v d) (h : d.tyN = some t) : TyX K H v (.type t) := by
  cases r with
  | non => cases h; exact .base .non
  | bl b => cases h; exact .base (.bl b)
  | int i => cases h; exact .base (.int i)
  | str x => cases h; exact .base (.str x)
  | ty n => cases h
  | opq a => cases h
  | tup a b => cases h; exact sqt_ty (ex_t e a)
  | lst a b => cases h; exact sql_ty (ex_l e a)
  | ins a b => cases h
  | dct a b => cases h; exact .base (.dK (e _ _ a))
  | dctT a b => cases h; exact .base (.dT (e _ _ a))
theorem RepK.ty' {K : PySem.W.Frag} {Z F H : Hp} {t : String} (e : Ex Z H) (f : Ex F H) : ∀ {v : V} {o : O}, RepK K Z F v o → o.tyN = some t → TyX K H v (.type t)
  | _, _, .fz r, h => r.ty' e h
  | _, _, .vw a b, h => by cases h; exact sql_ty (ex_l f a)
  | _, _, .vwa a b, h => by cases h; exact sql_ty (ex_l f a)
  | _, .lk o, .lk r, h => RepK.ty' (o := o) e f r h
  | _, _, .lst a b, h => by cases h; exact .base (.lst (f _ _ a))
  | _, _, .tup a b, h => by cases h; exact .base (.tup (f _ _ a))
  | _, _, .ins a b, h => by cases h
  | _, _, .at a b, h => by cases h
  | _, _, .dct a b, h => by cases h; exact .base (.dK (f _ _ a))
  | _, _, .dctT a b, h => by cases h; exact .base (.dT (f _ _ a))
  | _, .loc _ o, .loc r, h => RepK.ty' (o := o) e f r h
  | _, _, .pt, h => by cases h
theorem RepO.ty' {K : PySem.W.Frag} {Z F H : Hp} {t : String} (e : Ex Z H) (f : Ex F H) : ∀ {v : V} {o : O} {A : List Addr}, RepO K Z F H v o A → o.tyN = some t → TyX K H v (.type t)
  | _, _, _, .fz r, h => r.ty' e h
  | _, _, _, .vw a b, h => by cases h; exact sql_ty (ex_l f a)
  | _, _, _, .vwa a b, h => by cases h; exact sql_ty (ex_l f a)
  | _, .lk o, _, .lk r, h => RepK.ty' (o := o) e f r h
  | _, _, _, .lst a b, h => by cases h; exact .base (.lst a)
  | _, _, _, .tup a b, h => by cases h; exact .base (.tup a)
  | _, _, _, .ins a b, h => by cases h
  | _, _, _, .at a b, h => by cases h
  | _, _, _, .dct a b, h => by cases h; exact .base (.dK a)
  | _, _, _, .dctT a b, h => by cases h; exact .base (.dT a)
  | _, _, _, .loc r, h => RepO.ty' e f r h
  | _, _, _, .pt, h => by cases h
theorem me_isi {T t : String} {TS : Str} {k : Bool} (hg : Gl X "isinstance") (hm : X.mg "isinstance" = none) (hT : PE X (.Name TS p1) (tC (.ty T))) (ha : MV X ρ a o) (ht : o.tyN = some t) (hk : kitB t T = some k) (n1 : NS X a := by exact fun _ => rfl) :
    ME X ρ (.Call (.Name "isinstance" p0) [a, .Name TS p1] [] pos) (.fz (.bl k)) := .mk fun Z0 F Z σ H s Q q =>
  PE_w (pe_callB call_isi hg hm (by decide +kernel) (pa_cons pe_w (pa_cons hT pa_nil) (n1 _)) (he := n1 _)) (ha.run Z0 F Z σ H s _ fun v Z1 H1 A1 g1 r1 =>
    ⟨v, .ty T, .type t, .type T, k, rfl, .ty T, r1.ty' g1.zh (s.gr.hh.trans g1.hh) ht, kit_ty hk, q _ Z1 H1 [] g1 (.fz (.bl k)) .nil⟩)
end
end M
namespace M
open PySem L2

theorem RepOL.snoc {K : PySem.W.Frag} {Z F H : Hp} {w : V} {o : O} {B : List Addr} (h : RepO K Z F H w o B) : ∀ {vs : List V} {os : List O} {A : List Addr}, RepOL K Z F H vs os A → RepOL K Z F H (vs ++ [w]) (os ++ [o]) (A ++ B)
  | _, _, _, .nil => by
    have q := RepOL.cons h (RepOL.nil (K := K) (Z := Z) (F := F) (H := H))
    rw [List.append_nil] at q
    exact q
  | _, _, _, .cons g r => by
    rw [List.append_assoc]
    exact .cons g (r.snoc h)
section
variable {X : Cx} {ρ : Slots} {e : Expr} {es : List Expr} {st : Stmt} {sts : List Stmt} {G : Go} {o : O} {d : D} {ds : List D} {pos : Pos} {i : Nat}

/-! ### small statements -/
theorem m_set (p : PS X st (tAsg (wE X e) (gName i))) (h : ME X ρ e o) (k : G.nx (ρ.set i (some o))) (hi : i < ρ.length := by exact Nat.le_of_ble_eq_true rfl) : MS1 X ρ st G := .mk fun Z0 F Z σ H D s g =>
  PS_w p (h.run Z0 F Z σ H s _ fun v Z1 H1 A g1 r n => g.nx _ Z1 _ H1 k (s.put g1 r n hi))
theorem m_expr (p : PS X st (tDrop (wE X e))) (h : ME X ρ e o) (k : G.nx ρ) : MS1 X ρ st G := .mk fun Z0 F Z σ H D s g =>
  PS_w p (h.run Z0 F Z σ H s _ fun v Z1 H1 A g1 r n => g.nx _ Z1 _ H1 k (s.grow g1))
theorem m_doc {x : Str} {j : Nat} {p1 p2 : Pos} (k : G.nx ρ) : MS1 X ρ (.Expr (.Constant (.str x) j p1) p2) G := .mk fun Z0 F Z σ H D s g => PS_w ps_doc (g.nx _ Z _ H k s)
theorem m_ret (p : PS X st (tRet (wE X e))) (h : MR X ρ e o) (k : G.rt o) : MS1 X ρ st G := .mk fun Z0 F Z σ H D s g =>
  PS_w p (h.run Z0 F Z σ H s _ fun v Z1 H1 A g1 r n d => g.rt o v Z1 H1 A k (s.gr.trans g1) r ⟨n, fun a m => ⟨(d a m).2, (d a m).1⟩⟩)
theorem m_retN (p : PS X st tRetN) (k : G.rt (.fz .non)) : MS1 X ρ st G := .mk fun Z0 F Z σ H D s g =>
  PS_w p (g.rt _ _ Z H [] k s.gr (.fz .non) .nil)
theorem m_if {c : Expr} {a b : List Stmt} {t : Bool} (hc : MT X ρ c t) (h1 : t = true → MS X ρ a G) (h2 : t = false → MS X ρ b G) : MS1 X ρ (.If c a b pos) G := .mk fun Z0 F Z σ H D s g =>
  PS_w (ps_if pt_w pss_w pss_w) (hc.run Z0 F Z σ H s _ fun Z1 H1 g1 => by
    cases t with
    | true => exact (h1 rfl).run Z0 F Z1 σ H1 D (s.grow g1) g
    | false => exact (h2 rfl).run Z0 F Z1 σ H1 D (s.grow g1) g)
theorem m_pass (k : G.nx ρ) : MS1 X ρ (.Pass pos) G := .mk fun Z0 F Z σ H D s g => PS_w ps_pass (g.nx _ Z _ H k s)
theorem m_break (k : G.bk ρ) : MS1 X ρ (.Break pos) G := .mk fun Z0 F Z σ H D s g => PS_w ps_break (g.bk _ Z _ H k s)
theorem m_continue (k : G.ct ρ) : MS1 X ρ (.Continue pos) G := .mk fun Z0 F Z σ H D s g => PS_w ps_continue (g.ct _ Z _ H k s)
/-- a slot's thing is frozen from here on -/
theorem ms_frz (hi : ρ[i]? = some (some o)) (hn : o.nv = true) (h : MS X (ρ.set i (some (.fz o.frz))) sts G) : MS X ρ sts G := .mk fun Z0 F Z σ H D s g => by
  obtain ⟨Z', _, _, s'⟩ := s.freeze hi hn
  exact h.run Z0 F Z' σ H D s' g
theorem ms_frzl (hi : ρ[i]? = some (some (.lst (ds.map .fz)))) (h : MS X (ρ.set i (some (.fz (.lst ds)))) sts G) : MS X ρ sts G := by
  refine ms_frz hi (O.nvL_fz ds) ?_
  rw [show (O.lst (ds.map .fz)).frz = .lst ds from congrArg D.lst (O.frzL_fz ds)]
  exact h
theorem ms_le {τ : Slots} (l : Le ρ τ) (h : MS X τ sts G) : MS X ρ sts G := .mk fun Z0 F Z σ H D s g => h.run Z0 F Z σ H D (s.le l) g
theorem Go.le {τ : Slots} (h : MS X τ sts G) : ∀ ρ, Le ρ τ → MS X ρ sts G := fun _ l => ms_le l h
/-- another end -/
theorem ms_imp {G' : Go} (h : MS X ρ sts G) (n : ∀ ρ, G.nx ρ → G'.nx ρ) (r : ∀ o, G.rt o → G'.rt o) (b : ∀ ρ, G.bk ρ → G'.bk ρ) (c : ∀ ρ, G.ct ρ → G'.ct ρ) (rs : ∀ o ρ, G.rs o ρ → G'.rs o ρ := by exact fun _ _ h => h) : MS X ρ sts G' := .mk fun Z0 F Z σ H D s g =>
  h.run Z0 F Z σ H D s ⟨fun ρ Z σ H k => g.nx ρ Z σ H (n ρ k), fun ρ Z σ H k => g.bk ρ Z σ H (b ρ k), fun ρ Z σ H k => g.ct ρ Z σ H (c ρ k), fun o v Z H A k => g.rt o v Z H A (r o k), fun o ρ v Z σ H k => g.rs o ρ v Z σ H (rs o ρ k), g.ex.imp r⟩
/-- x.append(e), x a slot with an own list -/
theorem m_append {x : Str} {p1 p2 p3 p4 : Pos} {os : List O} {o : O} (p : PE X (.Name x p1) (tVar i)) (hi : ρ[i]? = some (some (.lst os))) (he : ME X ρ e o) (hl : os.length < sizeLine) (k : G.nx (ρ.set i (some (.lst (os ++ [o])))))
    (q : ∀ t, PE X (.Call (.Attribute (.Name x p1) "append" p2) [e] [] p3) t → PS X (.Expr (.Call (.Attribute (.Name x p1) "append" p2) [e] [] p3) p4) (tDrop t) := by exact fun _ h => ps_expr h)
    (pm : PE X (.Call (.Attribute (.Name x p1) "append" p2) [e] [] p3) (tBM X.K "list" rAppend (tVar i) (tCons (wE X e) tNil)) := by exact pe_bm PySem.F.plainAttrs_list PySem.F.slot_list_append PySem.F.type_list_append mt_append (pv _) (pa_cons pe_w pa_nil)) : MS1 X ρ (.Expr (.Call (.Attribute (.Name x p1) "append" p2) [e] [] p3) p4) G := .mk fun Z0 F Z σ H D s g => by
  obtain ⟨v, A, e1, r1, nA, dA, k1⟩ := s.upd hi
  cases r1 with
  | @lst a vs _ A h0 r1 =>
    refine PS_w (q _ pm) ⟨_, e1, .inl ⟨rfl, _, SqL.of h0⟩, ?_⟩
    refine he.run Z0 F Z σ H s _ fun w Z1 H1 B g1 r2 n2 => ?_
    refine ⟨a, vs, w, rfl, rfl, g1.hh _ _ h0, by rw [r1.length]; exact hl, ?_⟩
    have za : Z1 a = none := by
      rw [g1.nw a _ h0]
      exact (dA a List.mem_cons_self).1
    obtain ⟨na, nA'⟩ := List.nodup_cons.mp nA
    have nB : ∀ b ∈ B, b ≠ a ∧ b ∉ A := fun b m => by
      refine ⟨fun q => ?_, fun q => ?_⟩
      · have z := (n2.2 b m).1
        rw [q, h0] at z
        cases z
      · obtain ⟨u, hu⟩ := r1.there b q
        rw [(n2.2 b m).1] at hu
        cases hu
    have r1' : RepOL X.K Z1 F (upd H1 a (.lst (vs ++ [w]))) vs os A := r1.mono g1.zz (Ex.refl _) fun b m u hu => by
      have ne : b ≠ a := fun q => na (by rw [← q]; exact m)
      rw [upd_ne ne]
      exact g1.hh b u hu
    have r2' : RepO X.K Z1 F (upd H1 a (.lst (vs ++ [w]))) w o B := r2.mono (Ex.refl _) (Ex.refl _) fun b m u hu => by
      rw [upd_ne (nB b m).1]
      exact hu
    refine g.nx _ Z1 σ _ k (k1 g1.zz g1.nw (g1.zh.mut za) (fun b nb u hu => ?_) (.lst upd_same (r1'.snoc r2')) ?_ fun b m => ?_)
    · have ne : b ≠ a := fun q => nb (by rw [q]; exact List.mem_cons_self)
      rw [upd_ne ne]
      exact g1.hh b u hu
    · refine List.nodup_cons.mpr ⟨fun m => ?_, List.nodup_append.mpr ⟨nA', n2.1, fun b hb c hc q => (nB c hc).2 (by rw [← q]; exact hb)⟩⟩
      rcases List.mem_append.mp m with m | m
      · exact na m
      · exact (nB a m).1 rfl
    · rcases List.mem_cons.mp m with m | m
      · exact .inl (by rw [m]; exact List.mem_cons_self)
      · rcases List.mem_append.mp m with m | m
        · exact .inl (List.mem_cons_of_mem _ m)
        · exact .inr (n2.2 b m)
end
end M
namespace M
open PySem L2 PySem.Spec PyProof.Rows

section
variable {K : PySem.W.Frag} {Z0 Z Z' F H H' : Hp} {ρ : Slots} {σ : L2.St} {G : Go} {D : Ends}
/-- from a later beginning -/
theorem StR.rebase {H1 : Hp} (s : StR K ρ Z0 F Z σ H) : StR K ρ Z F Z σ H := ⟨⟨Ex.refl _, s.gr.hh, s.gr.zh, fun _ _ _ => rfl⟩, s.st⟩
theorem Gr.base {Z1 H1 : Hp} (g0 : Gr Z0 F Z1 H1) (g : Gr Z1 F Z H) : Gr Z0 F Z H := ⟨g0.zz.trans g.zz, g.hh, g.zh, fun a u e => (g.nw a u e).trans (g0.nw a u e)⟩
theorem StR.unbase {Z1 H1 : Hp} (g0 : Gr Z0 F Z1 H1) (s : StR K ρ Z1 F Z σ H) : StR K ρ Z0 F Z σ H := ⟨g0.base s.gr, s.st⟩
theorem GX.rebase {X : Cx} {Z1 H1 : Hp} {r : O → Prop} (g0 : Gr Z0 F Z1 H1) (g : GX X Z0 F r) : GX X Z1 F r := by
  obtain ⟨W, t, k⟩ := g
  exact ⟨W, t, fun e ρ Z σ H q s => k e ρ Z σ H q (s.unbase g0)⟩
theorem GD.rebase {X : Cx} {Z1 H1 : Hp} (g0 : Gr Z0 F Z1 H1) (g : GD X Z0 F G D) : GD X Z1 F G D :=
  ⟨fun ρ Z σ H k s => g.nx ρ Z σ H k (s.unbase g0), fun ρ Z σ H k s => g.bk ρ Z σ H k (s.unbase g0), fun ρ Z σ H k s => g.ct ρ Z σ H k (s.unbase g0), fun o v Z H A k r => g.rt o v Z H A k (g0.base r), fun o ρ v Z σ H k s => g.rs o ρ v Z σ H k (s.unbase g0), g.ex.rebase g0⟩
end

/-- a list that stands still -/
structure MK (X : Cx) (ρ : Slots) (e : Expr) (ds : List D) : Prop where
  run : ∀ (Z0 F Z : Hp) (σ : L2.St) (H : Hp), StR X.K ρ Z0 F Z σ H → ∀ Q : VK,
  (∀ a vs Z' H', Gr Z H Z' H' → (SqL X.K Z' a vs ∨ SqL X.K F a vs) → RepL X.K Z' vs ds → Q (.ref a) H') → wE X e σ H Q
/-- what is walked: n items, from the heap Zs (frozen) and F on -/
structure Wk (K : PySem.W.Frag) (Zs F : Hp) (J : It) (ds : List D) : Prop where
  go : ∀ (i : Nat) (d : D) (Z H : Hp), ds[i]? = some d → Ex Zs Z → Ex F H → Ex Z H → J.go i H ∧ ∀ x H', J.yld i H x H' → ∃ Z', Gr Z H Z' H' ∧ Rep K Z' x d
  stop : ∀ (Z H : Hp), Ex Zs Z → Ex F H → Ex Z H → J.stop ds.length H
structure MI (X : Cx) (ρ : Slots) (wi : TI) (ds : List D) : Prop where
  run : ∀ (Z0 F Z : Hp) (σ : L2.St) (H : Hp), StR X.K ρ Z0 F Z σ H → ∀ R : It → Hp → Prop,
  (∀ J Z' H', Gr Z H Z' H' → Wk X.K Z' F J ds → R J H') → wi σ H R
/-- a target: d is stored; the slots at ws change alone -/
structure MTg (g : TG) (K : PySem.W.Frag) (ρ : Slots) (d : D) (ρ' : Slots) (ws : List Nat) : Prop where
  run : ∀ (Z0 F Z : Hp) (σ : L2.St) (H : Hp) (v : V), StR K ρ Z0 F Z σ H → Rep K Z v d → ∀ Q : L2.St → Hp → Prop,
  (∀ σ', StR K ρ' Z0 F Z σ' H → (∀ vs : List Nat, (∀ w ∈ ws, w ∈ vs) → wipe σ' vs = wipe σ vs) → Q σ' H) → g v σ H Q
structure MTgs (g : TGs) (K : PySem.W.Frag) (ρ : Slots) (ds : List D) (ρ' : Slots) (ws : List Nat) : Prop where
  run : ∀ (Z0 F Z : Hp) (σ : L2.St) (H : Hp) (vs : List V), StR K ρ Z0 F Z σ H → RepL K Z vs ds → ∀ Q : L2.St → Hp → Prop,
  (∀ σ', StR K ρ' Z0 F Z σ' H → (∀ vs : List Nat, (∀ w ∈ ws, w ∈ vs) → wipe σ' vs = wipe σ vs) → Q σ' H) → g vs σ H Q
theorem wipe_get (σ : L2.St) : ∀ (vs : List Nat) (j : Nat), (wipe σ vs)[j]? = if j ∈ vs then (if j < σ.length then some none else none) else σ[j]?
  | [], j => by simp [wipe]
  | v :: vs, j => by
    unfold wipe
    rw [List.getElem?_set, wipe_length, wipe_get σ vs j]
    by_cases h : v = j
    · subst h
      by_cases hl : v < σ.length
      · simp [hl]
      · simp [hl]
    · have h2 : ¬ j = v := fun q => h q.symm
      simp [h, h2]
theorem wipe_set {σ : L2.St} {vs : List Nat} {i : Nat} {x : Option V} (h : i ∈ vs) : wipe (σ.set i x) vs = wipe σ vs := by
  apply List.ext_getElem?
  intro j
  rw [wipe_get, wipe_get, List.length_set]
  by_cases hj : j ∈ vs
  · rw [if_pos hj, if_pos hj]
  · rw [if_neg hj, if_neg hj]
    exact List.getElem?_set_ne (fun q => hj (by rw [← q]; exact h))
theorem wipe_wipe {σ : L2.St} {vs : List Nat} : wipe (wipe σ vs) vs = wipe σ vs := by
  apply List.ext_getElem?
  intro j
  rw [wipe_get, wipe_length, wipe_get]
  by_cases hj : j ∈ vs
  · rw [if_pos hj, if_pos hj]
  · rw [if_neg hj, if_neg hj]
section
variable {K : PySem.W.Frag} {ρ ρ' ρ2 : Slots} {d : D} {ds : List D} {i : Nat} {ws ws2 : List Nat}
theorem mg_name (hi : i < ρ.length := by exact Nat.le_of_ble_eq_true rfl) : MTg (gName i) K ρ d (ρ.set i (some (.fz d))) [i] := .mk fun Z0 F Z σ H v s r Q q =>
  q _ (s.put (Gr.refl s.ex) (.fz r) .nil hi) fun vs h => wipe_set (h i List.mem_cons_self)
theorem mgs_nil : MTgs gNil K ρ [] ρ [] := .mk fun Z0 F Z σ H vs s r Q q => by
  cases r
  exact ⟨rfl, q σ s fun _ _ => rfl⟩
theorem mgs_cons {t : TG} {u : TGs} (h1 : MTg t K ρ d ρ' ws) (h2 : MTgs u K ρ' ds ρ2 ws2) : MTgs (gCons t u) K ρ (d :: ds) ρ2 (ws ++ ws2) := .mk fun Z0 F Z σ H vs s r Q q => by
  cases r with
  | cons a b =>
    exact ⟨_, _, rfl, h1.run Z0 F Z σ H _ s a _ fun σ1 s1 w1 => h2.run Z0 F Z σ1 H _ s1 b _ fun σ2 s2 w2 => q σ2 s2 fun vs h =>
      (w2 vs fun w m => h w (List.mem_append_right _ m)).trans (w1 vs fun w m => h w (List.mem_append_left _ m))⟩
theorem mg_tup {n : Nat} {u : TGs} (h : MTgs u K ρ ds ρ' ws) (hn : ds.length = n) : MTg (gTup K n u) K ρ (.tup ds) ρ' ws := .mk fun Z0 F Z σ H v s r Q q => by
  cases r with
  | tup a b => exact ⟨_, _, rfl, ex_t s.ex a, by rw [b.length, hn], h.run Z0 F Z σ H _ s b Q q⟩
end

section
variable {X : Cx} {ρ : Slots} {e : Expr} {es : List Expr} {st : Stmt} {sts : List Stmt} {G : Go} {o : O} {d : D} {ds : List D} {pos : Pos} {i : Nat}
theorem ME.k (h : ME X ρ e (.fz (.lst ds))) : MK X ρ e ds := .mk fun Z0 F Z σ H s Q q => h.run Z0 F Z σ H s Q fun v Z' H' A g r n => by
  cases r with
  | fz r =>
    cases r with
    | lst a b => exact q _ _ Z' H' g (.inl a) b
theorem MV.k (h : MV X ρ e (.vw ds)) : MK X ρ e ds := .mk fun Z0 F Z σ H s Q q => h.run Z0 F Z σ H s Q fun v Z' H' A g r => by
  cases r with
  | vw a b => exact q _ _ Z' H' g (.inr a) b
theorem MV.ka {a : Addr} (h : MV X ρ e (.vwa a ds)) : MK X ρ e ds := .mk fun Z0 F Z σ H s Q q => h.run Z0 F Z σ H s Q fun v Z' H' A g r => by
  cases r with
  | vwa a b => exact q _ _ Z' H' g (.inr a) b
theorem MK.l (h : MK X ρ e ds) : ML X ρ e ds := .mk fun Z0 F Z σ H s Q q => h.run Z0 F Z σ H s Q fun a vs Z' H' g l r => q a vs Z' H' g (l.elim (ex_l g.zh) (ex_l (s.gr.hh.trans g.hh))) r
theorem mi_list (h : MK X ρ e ds) : MI X ρ (iList X.K (wE X e)) ds := .mk fun Z0 F Z σ H s R q => h.run Z0 F Z σ H s _ fun a vs Z' H' g l r => by
  have lv : ∀ {Z2 H2 : Hp}, Ex Z' Z2 → Ex F H2 → Ex Z2 H2 → SqL X.K H2 a vs := fun e f z => l.elim (fun l => ex_l (e.trans z) l) fun l => ex_l f l
  refine ⟨a, rfl, ⟨vs, lv (Ex.refl _) (s.gr.hh.trans g.hh) g.zh⟩, q _ Z' H' g ⟨fun j d Z2 H2 hd ez ef zh => ?_, fun Z2 H2 ez ef zh => ⟨vs, lv ez ef zh, Nat.le_of_eq r.length⟩⟩⟩
  obtain ⟨x, hx, rx⟩ := r.get hd
  refine ⟨⟨vs, x, lv ez ef zh, hx⟩, fun y H3 hy => ?_⟩
  obtain ⟨e3, hy⟩ := hy
  subst e3
  have e4 := hy vs (lv ez ef zh)
  rw [hx] at e4
  cases e4
  exact ⟨Z2, Gr.refl zh, rx.mono ez⟩
/-- one argument, a list that stands still -/
theorem mk_arg (h : MK X ρ e ds) (n1 : NS X e) {Z0 F Z : Hp} {σ : L2.St} {H : Hp} (s : StR X.K ρ Z0 F Z σ H) {Q : List V → Hp → Prop}
    (q : ∀ a vs Z' H', Gr Z H Z' H' → (SqL X.K Z' a vs ∨ SqL X.K F a vs) → RepL X.K Z' vs ds → Q [.ref a] H') : wA X [e] σ H Q :=
  PA_w (pa_cons pe_w pa_nil (n1 _)) (h.run Z0 F Z σ H s _ fun a vs Z' H' g l r => q a vs Z' H' g l r)
theorem mi_rev (h : MK X ρ e ds) (n1 : NS X e := by exact fun _ => rfl) : MI X ρ (iRev X.K (wA X [e])) ds.reverse := .mk fun Z0 F Z σ H s R q => mk_arg h n1 s fun a vs Z' H' g l r => by
  have lv : ∀ {Z2 H2 : Hp}, Ex Z' Z2 → Ex F H2 → Ex Z2 H2 → SqL X.K H2 a vs := fun e f z => l.elim (fun l => ex_l (e.trans z) l) fun l => ex_l f l
  refine ⟨a, vs, rfl, lv (Ex.refl _) (s.gr.hh.trans g.hh) g.zh, q _ Z' H' g ⟨fun j d Z2 H2 hd ez ef zh => ?_, fun Z2 H2 ez ef zh => ?_⟩⟩
  · have hj : j < ds.length := by
      have := (List.getElem?_eq_some_iff.mp hd).1
      simpa using this
    rw [List.getElem?_reverse hj] at hd
    obtain ⟨x, hx, rx⟩ := r.get hd
    rw [← r.length] at hx hj
    refine ⟨⟨hj, vs, x, lv ez ef zh, hx⟩, fun y H3 hy => ?_⟩
    obtain ⟨e3, hy⟩ := hy
    subst e3
    have e4 := hy vs (lv ez ef zh)
    rw [hx] at e4
    cases e4
    exact ⟨Z2, Gr.refl zh, rx.mono ez⟩
  · show vs.length ≤ ds.reverse.length
    rw [List.length_reverse, r.length]
    exact Nat.le_refl _
/-- enumerate -/
def enm (ds : List D) : List D := ds.zipIdx.map fun p => .tup [.int (p.2 : Nat), p.1]
theorem mi_enum (h : MK X ρ e ds) (n1 : NS X e := by exact fun _ => rfl) : MI X ρ (iEnum X.K (wA X [e])) (enm ds) := .mk fun Z0 F Z σ H s R q => mk_arg h n1 s fun a vs Z' H' g l r => by
  have lv : ∀ {Z2 H2 : Hp}, Ex Z' Z2 → Ex F H2 → Ex Z2 H2 → SqL X.K H2 a vs := fun e f z => l.elim (fun l => ex_l (e.trans z) l) fun l => ex_l f l
  refine ⟨a, vs, rfl, lv (Ex.refl _) (s.gr.hh.trans g.hh) g.zh, q _ Z' H' g ⟨fun j d Z2 H2 hd ez ef zh => ?_, fun Z2 H2 ez ef zh => ?_⟩⟩
  · unfold enm at hd
    rw [List.getElem?_map, List.getElem?_zipIdx] at hd
    cases e : ds[j]? with
    | none =>
      rw [e] at hd
      cases hd
    | some d1 =>
      rw [e] at hd
      have hd2 : D.tup [.int ((0 + j : Nat)), d1] = d := Option.some.inj hd
      subst hd2
      obtain ⟨x, hx, rx⟩ := r.get e
      refine ⟨⟨vs, x, lv ez ef zh, hx⟩, fun y H3 hy => ?_⟩
      obtain ⟨T, x2, ey, hT, e3, hy⟩ := hy
      subst e3 ey
      have e4 := hy vs (lv ez ef zh)
      rw [hx] at e4
      cases e4
      refine ⟨_, Gr.newz zh hT, .tup (.of upd_same) (.cons ?_ (.cons ((rx.mono ez).mono (Ex.new (zh.free hT))) .nil))⟩
      rw [Nat.zero_add]
      exact .int _
  · refine ⟨vs, lv ez ef zh, ?_⟩
    unfold enm
    rw [List.length_map, List.length_zipIdx, r.length]
    exact Nat.le_refl _
/-- a text, sign by sign -/
def sgn (x : Str) : List D := x.cps.toList.map fun c => .str ⟨#[c]⟩
theorem mi_str {x : Str} (h : ME X ρ e (.fz (.str x))) : MI X ρ (iStr (wE X e)) (sgn x) := .mk fun Z0 F Z σ H s R q => h.run Z0 F Z σ H s _ fun v Z' H' A g r n => by
  cases r with
  | fz r =>
    cases r
    refine ⟨x, rfl, q _ Z' H' g ⟨fun j d Z2 H2 hd ez ef zh => ?_, fun Z2 H2 ez ef zh => ?_⟩⟩
    · unfold sgn at hd
      rw [List.getElem?_map] at hd
      cases e : x.cps.toList[j]? with
      | none =>
        rw [e] at hd
        cases hd
      | some c =>
        rw [e] at hd
        have hd2 : D.str ⟨#[c]⟩ = d := Option.some.inj hd
        subst hd2
        have e' : x.cps[j]? = some c := by simpa using e
        refine ⟨(Array.getElem?_eq_some_iff.mp e').1, fun y H3 hy => ?_⟩
        obtain ⟨e3, c2, h1, h2⟩ := hy
        subst e3 h2
        rw [e'] at h1
        cases h1
        exact ⟨Z2, Gr.refl zh, .str _⟩
    · show x.cps.size ≤ (sgn x).length
      unfold sgn
      simp
def rng (lo : Int) (n : Nat) : List D := (List.range n).map fun k => .int (lo + (k : Nat))
theorem rng_len (lo : Int) (n : Nat) : (rng lo n).length = n := by simp [rng]
theorem rng_get {lo : Int} {n i : Nat} {d : D} (h : (rng lo n)[i]? = some d) : i < n ∧ d = .int (lo + (i : Nat)) := by
  unfold rng at h
  rw [List.getElem?_map] at h
  by_cases hi : i < n
  · rw [List.getElem?_range hi] at h
    exact ⟨hi, (Option.some.inj h).symm⟩
  · rw [List.getElem?_eq_none (by simpa using hi)] at h
    cases h
theorem wk_rng {K : PySem.W.Frag} {Zs F : Hp} (lo : Int) (n : Nat) : Wk K Zs F (Itr lo n) (rng lo n) := ⟨fun i d Z H h _ _ zh => by
    obtain ⟨hi, e⟩ := rng_get h
    subst e
    refine ⟨hi, fun x H' hy => ?_⟩
    obtain ⟨e, ex⟩ := hy
    subst e ex
    exact ⟨Z, Gr.refl zh, .int _⟩, fun Z H _ _ _ => Nat.le_of_eq (rng_len lo n).symm⟩
theorem mi_range1 {j : Int} (h : MF X ρ es [.int j]) (h1 : -(2 ^ 62) ≤ j) (h2 : j < 2 ^ 62) : MI X ρ (iRng1 (wA X es)) (rng 0 j.toNat) := .mk fun Z0 F Z σ H s R q => h.run Z0 F Z σ H s _ fun vs Z' H' g r => by
  cases r with
  | cons a r =>
    cases a
    cases r
    exact ⟨j, rfl, h1, h2, q _ Z' H' g (wk_rng 0 _)⟩
theorem mi_range2 {k j : Int} (h : MF X ρ es [.int k, .int j]) (hb : -(2 ^ 62) ≤ k ∧ k < 2 ^ 62 ∧ -(2 ^ 62) ≤ j ∧ j < 2 ^ 62) : MI X ρ (iRng2 (wA X es)) (rng k (j - k).toNat) := .mk fun Z0 F Z σ H s R q => h.run Z0 F Z σ H s _ fun vs Z' H' g r => by
  cases r with
  | cons a r =>
    cases a
    cases r with
    | cons b r =>
      cases b
      cases r
      exact ⟨k, j, rfl, hb, q _ Z' H' g (wk_rng k _)⟩

/-- for: I i holds ahead of turn i -/
theorem m_for {wi : TI} {g : TG} {body : List Stmt} (p : PS X st (tFor wi g (wS X body))) (h : MI X ρ wi ds) (I : Nat → Slots → Prop) (h0 : I 0 ρ)
    (hs : ∀ (j : Nat) (d : D) (τ : Slots), ds[j]? = some d → I j τ → ∃ τ' ws, MTg g X.K τ d τ' ws ∧ MS X τ' body { nx := I (j + 1), ct := I (j + 1), bk := G.nx, rt := G.rt, rs := G.rs })
    (hd : ∀ τ, I ds.length τ → G.nx τ) : MS1 X ρ st G := .mk fun Z0 F Z σ H D s gd => by
  refine PS_w p (h.run Z0 F Z σ H s _ fun J Z1 H1 g1 wk => ?_)
  have s1 := s.grow g1
  have g0 : Gr Z0 F Z1 H1 := s1.gr
  refine ⟨fun j m σ H => m = ds.length - j ∧ j ≤ ds.length ∧ ∃ τ Z2, I j τ ∧ StR X.K τ Z1 F Z2 σ H, ⟨ds.length, by simp, Nat.zero_le _, ρ, Z1, h0, ⟨⟨Ex.refl _, g0.hh, g0.zh, fun _ _ _ => rfl⟩, s1.st⟩⟩, ?_⟩
  rintro j m σ2 H2 ⟨rfl, hj, τ, Z2, hI, s2⟩
  by_cases hlt : j < ds.length
  · obtain ⟨d, ed⟩ : ∃ d, ds[j]? = some d := ⟨ds[j], by simp [hlt]⟩
    obtain ⟨w1, w2⟩ := wk.go j d Z2 H2 ed s2.gr.zz s2.gr.hh s2.gr.zh
    refine .inr ⟨w1, fun σ' H' => ∃ τ Z2, I (j + 1) τ ∧ StR X.K τ Z1 F Z2 σ' H', fun σ' H' q => ⟨ds.length - (j + 1), by omega, rfl, hlt, q⟩, fun x H3 hy => ?_⟩
    obtain ⟨Z3, g3, r3⟩ := w2 x H3 hy
    have s3 := s2.grow g3
    obtain ⟨τ', ws, t1, t2⟩ := hs j d τ ed hI
    refine t1.run Z1 F Z3 σ2 H3 x s3 r3 _ fun σ4 s4 _ => ?_
    exact t2.run Z1 F Z3 σ4 H3 _ s4 ⟨fun τ Z σ H k s => ⟨τ, Z, k, s⟩, fun τ Z σ H k s => gd.nx τ Z σ H k (s.unbase g0), fun τ Z σ H k s => ⟨τ, Z, k, s⟩, fun o v Z H A k gr r n => gd.rt o v Z H A k (g0.base gr) r n, fun o ρ v Z σ H k s => gd.rs o ρ v Z σ H k (s.unbase g0), gd.ex.rebase g0⟩
  · have e : j = ds.length := by omega
    subst e
    exact .inl ⟨wk.stop Z2 H2 s2.gr.zz s2.gr.hh s2.gr.zh, gd.nx τ Z2 σ2 H2 (hd τ hI) (s2.unbase g0)⟩
/-- while -/
theorem m_while {c : Expr} {body : List Stmt} (p : PS X st (tWhile (wT X c) (wS X body))) (I : Nat → Slots → Prop) (h0 : ∃ m, I m ρ)
    (hs : ∀ (m : Nat) (τ : Slots), I m τ → ∃ b, MT X τ c b ∧ (b = true → MS X τ body { nx := fun τ' => ∃ m', m' < m ∧ I m' τ', ct := fun τ' => ∃ m', m' < m ∧ I m' τ', bk := G.nx, rt := G.rt, rs := G.rs }) ∧ (b = false → G.nx τ)) : MS1 X ρ st G := .mk fun Z0 F Z σ H D s gd => by
  refine PS_w p ?_
  obtain ⟨m0, h0⟩ := h0
  refine ⟨fun m σ H => ∃ τ Z2, I m τ ∧ StR X.K τ Z0 F Z2 σ H, ⟨m0, ρ, Z, h0, s⟩, ?_⟩
  rintro m σ2 H2 ⟨τ, Z2, hI, s2⟩
  obtain ⟨b, t1, t2, t3⟩ := hs m τ hI
  refine t1.run Z0 F Z2 σ2 H2 s2 _ fun Z3 H3 g3 => ?_
  have s3 := s2.grow g3
  cases b with
  | true =>
    rw [if_pos rfl]
    refine ⟨fun σ' H' => ∃ m', m' < m ∧ ∃ τ Z2, I m' τ ∧ StR X.K τ Z0 F Z2 σ' H', fun σ' H' q => q, ?_⟩
    exact (t2 rfl).run Z0 F Z3 σ2 H3 _ s3 ⟨fun τ Z σ H ⟨m', hm, k⟩ s => ⟨m', hm, τ, Z, k, s⟩, fun τ Z σ H k s => gd.nx τ Z σ H k s, fun τ Z σ H ⟨m', hm, k⟩ s => ⟨m', hm, τ, Z, k, s⟩, gd.rt, gd.rs, gd.ex⟩
  | false =>
    rw [if_neg Bool.false_ne_true]
    exact gd.nx τ Z3 σ2 H3 (t3 rfl) s3
/-- a, b = e, e a frozen tuple -/
theorem m_tgt {g : TG} {ρ' : Slots} {ws : List Nat} (p : PS X st (tAsg (wE X e) g)) (h : ME X ρ e (.fz d)) (t : MTg g X.K ρ d ρ' ws) (k : G.nx ρ') : MS1 X ρ st G := .mk fun Z0 F Z σ H D s gd =>
  PS_w p (h.run Z0 F Z σ H s _ fun v Z1 H1 A g1 r n => by
    cases r with
    | fz r => exact t.run Z0 F Z1 σ H1 v (s.grow g1) r _ fun σ2 s2 _ => gd.nx ρ' Z1 σ2 H1 k s2)
/-- x += e, whole numbers -/
theorem m_aug {a j : Int} {op : Operator} {f : Int → Int → Int} (p : PS X st (tAug i (wE X e) (ipI f))) (hi : ρ[i]? = some (some (.fz (.int a)))) (h : ME X ρ e (.fz (.int j))) (k : G.nx (ρ.set i (some (.fz (.int (f a j)))))) : MS1 X ρ st G := .mk fun Z0 F Z σ H D s gd => by
  obtain ⟨A, h1, h2, h3⟩ := s.st
  obtain ⟨v, B, e1, r1, _⟩ := h1.get hi
  cases r1 with
  | fz r1 =>
    cases r1
    refine PS_w p ⟨_, e1, h.run Z0 F Z σ H s _ fun w Z1 H1 A g1 r n => ?_⟩
    cases r with
    | fz r =>
      cases r
      have hl : i < ρ.length := (List.getElem?_eq_some_iff.mp hi).1
      exact ⟨a, j, rfl, rfl, gd.nx _ Z1 _ H1 k (s.put g1 (.fz (.int _)) .nil hl)⟩

/-! ### calls of own defs -/
/-- the promise of a def: the arguments (frozen things, lists that stay as they are), what is handed back -/
def SpM {α : Type} (K : PySem.W.Frag) (ar : α → List O) (pre : α → Prop) (res : α → O) : Sp := fun vs H Q _ => ∃ (x : α) (Z : Hp), Ex Z H ∧ RepOL K Z H H vs (ar x) [] ∧ pre x ∧
  ∀ v Z' H' A, Gr Z H Z' H' → RepO K Z' (fun _ => none) H' v (res x) A → New H Z' A → Q v H'
theorem me_call {α : Type} {ar : α → List O} {pre : α → Prop} {res : α → O} {E : XK} (p : PE X e (tCall (SpM X.K ar pre res) [] E (wA X es))) (x : α) (ha : MA X ρ es (ar x)) (hp : pre x) : ME X ρ e (res x) := .mk fun Z0 F Z σ H s Q q =>
  PE_w p (ha.run Z0 F Z σ H s _ fun vs Z1 H1 g1 r1 => ⟨x, Z1, g1.zh, by rw [List.append_nil]; exact r1, hp, fun v Z2 H2 A g2 r2 n2 =>
    q v Z2 H2 A (g1.trans g2) (r2.mono (Ex.refl _) (fun _ _ z => by cases z) fun _ _ _ z => z) ⟨n2.1, fun a m => ⟨g1.hh.free (n2.2 a m).1, (n2.2 a m).2⟩⟩⟩)
mutual
theorem RepO.unF {K : PySem.W.Frag} {Z F F' H : Hp} : ∀ {v : V} {o : O} {A : List Addr}, RepO K Z F H v o A → o.nv = true → RepO K Z F' H v o A
  | _, _, _, .fz h, _ => .fz h
  | _, _, _, .vw _ _, n => nomatch n
  | _, _, _, .vwa _ _, n => nomatch n
  | _, _, _, .lk _, n => nomatch n
  | _, _, _, .lst h r, n => .lst h (RepOL.unF r n)
  | _, _, _, .tup h r, n => .tup h (RepOL.unF r n)
  | _, _, _, .ins h r, n => .ins h (RepOL.unF r n)
  | _, _, _, .at h r, n => .at h (RepOL.unF r n)
  | _, _, _, .loc h, n => .loc (RepO.unF h n)
  | _, _, _, .pt, _ => .pt
  | _, _, _, .dct h r, n => .dct h (RepOL.unF r n)
  | _, _, _, .dctT h r, n => .dctT h (RepOL.unF r n)
theorem RepOL.unF {K : PySem.W.Frag} {Z F F' H : Hp} : ∀ {vs : List V} {os : List O} {A : List Addr}, RepOL K Z F H vs os A → O.nvL os = true → RepOL K Z F' H vs os A
  | _, _, _, .nil, _ => .nil
  | _, _, _, .cons h r, n => .cons (RepO.unF h (Bool.and_eq_true_iff.mp n).1) (RepOL.unF r (Bool.and_eq_true_iff.mp n).2)
end
theorem stL_args {K : PySem.W.Frag} {Z F H : Hp} : ∀ {vs : List V} {os : List O} {A : List Addr}, RepOL K Z F H vs os A → StL K Z F H (os.map some) (vs.map some) A
  | _, _, _, .nil => .nil
  | _, _, _, .cons h r => .so h (stL_args r)
theorem stL_more {K : PySem.W.Frag} {Z F H : Hp} (n : Nat) : ∀ {ρ : Slots} {σ : L2.St} {A : List Addr}, StL K Z F H ρ σ A → StL K Z F H (ρ ++ List.replicate n none) (σ ++ List.replicate n none) A
  | _, _, _, .nil => by
    rw [List.nil_append, List.nil_append]
    induction n with
    | zero => exact .nil
    | succ n ih => exact .no ih
  | _, _, _, .no h => .no (stL_more n h)
  | _, _, _, .so r h => .so r (stL_more n h)
/-- a def's body keeps its promise -/
theorem fn_m {α : Type} {P : Program} {w : World} {K : PySem.W.Frag} {mg : Str → Option Value} {base : Heap} {x qual : Str} {st : Stmt} {f : Addr} {fd : FuncData} {N ps : List Str} {k : Nat} {ar : α → List O} {pre : α → Prop} {res : α → O}
    (F : Fun K x qual st f fd) (S : FnScope N ps (defScope st)) (hl : ∀ x, (ar x).length = ps.length) (hn : ∀ x, pre x → (res x).nv = true)
    (hb : ∀ (cdv : Value) (A : Around) (outer : List Env) (s : Shared) (H : Hp) (E : XK), Room k (A.deeper (envOfC qual (defScope st) s.heap.objs.size f cdv)) → ∀ x, pre x →
      MS (cxOf CX0 P w K mg base N qual (defScope st) f cdv A outer s H E).nox ((ar x).map some ++ List.replicate (N.length - ps.length) none) (defBody st) { nx := fun _ => res x = .fz .non, rt := fun o => o = res x }) :
    FnOk P w K mg base CX0 (k + 1) f fd ps (SpM K ar pre res) := by
  refine F.ok S (fun vs H Q E h => ?_) (fun cdv A outer s H vs Q E hr h => ?_)
  · obtain ⟨x, Z, _, r, _⟩ := h
    rw [r.length, hl]
  · obtain ⟨x, Z, ez, r, hp, q⟩ := h
    refine ⟨_, pss_w, (hb cdv A outer s H E hr x hp).run Z H Z _ H _ ⟨Gr.refl ez, [], ?_, List.nodup_nil, fun _ m => nomatch m⟩ ⟨fun ρ Z' σ H' e s' => ?_, fun _ _ _ _ z => z.elim, fun _ _ _ _ z => z.elim, fun o v Z' H' A e g r n => ?_, fun _ _ _ _ _ _ z => z.elim, GX.never fun e z => by
      have n := hn x hp
      rw [← show O.rs e = res x from z] at n
      cases n⟩⟩
    · have e : L2.start N vs = vs.map some ++ List.replicate (N.length - ps.length) none := by
        unfold L2.start
        rw [r.length, hl]
      rw [e]
      exact stL_more _ (stL_args r)
    · refine q _ Z' H' [] s'.gr ?_ .nil
      rw [e]
      exact .fz .non
    · subst e
      exact q _ Z' H' A g (r.unF (hn x hp)) n
end
end M
namespace M
open PySem L2 PySem.Spec PyProof.Rows

/-! ### == of data -/
mutual
def D.py : D → PyData
  | .bl b => .bool b
  | .int i => .int i
  | .str x => .str x
  | .tup ds => .tuple (D.pyL ds)
  | .lst ds => .list (D.pyL ds)
  | _ => .none
def D.pyL : List D → List PyData
  | [] => []
  | d :: r => d.py :: D.pyL r
end
mutual
def D.pl : D → Bool
  | .non => true
  | .bl _ => true
  | .int _ => true
  | .str _ => true
  | .tup ds => D.plL ds
  | .lst ds => D.plL ds
  | _ => false
def D.plL : List D → Bool
  | [] => true
  | d :: r => d.pl && D.plL r
end
section
variable {K : PySem.W.Frag} {Z F H : Hp}
mutual
theorem Rep.dp (e : Ex Z H) : ∀ {v : V} {d : D}, Rep K Z v d → d.pl = true → Dp K H v d.py
  | _, _, .non, _ => .non
  | _, _, .bl b, _ => .bl b
  | _, _, .int i, _ => .int i
  | _, _, .str x, _ => .str x
  | _, _, .ty _, h => nomatch h
  | _, _, .opq _, h => nomatch h
  | _, _, .tup a r, h => .tup (ex_t e a) (RepL.dp e r h)
  | _, _, .lst a r, h => .lst (ex_l e a) (RepL.dp e r h)
  | _, _, .ins _ _, h => nomatch h
  | _, _, .dct _ _, h => nomatch h
  | _, _, .dctT _ _, h => nomatch h
theorem RepL.dp (e : Ex Z H) : ∀ {vs : List V} {ds : List D}, RepL K Z vs ds → D.plL ds = true → DpAll K H vs (D.pyL ds)
  | _, _, .nil, _ => .nil
  | _, _, .cons a r, h => .cons (Rep.dp e a (Bool.and_eq_true_iff.mp h).1) (RepL.dp e r (Bool.and_eq_true_iff.mp h).2)
end
mutual
theorem RepK.dp (e : Ex Z H) (f : Ex F H) : ∀ {v : V} {o : O}, RepK K Z F v o → o.frz.pl = true → Dp K H v o.frz.py
  | _, _, .fz r, h => r.dp e h
  | _, _, .vw a r, h => .lst (ex_l f a) (r.dp e h)
  | _, _, .vwa a r, h => .lst (ex_l f a) (r.dp e h)
  | _, .lk o, .lk r, h => RepK.dp (o := o) e f r h
  | _, _, .lst a r, h => .lst (.of (f _ _ a)) (RepKL.dp e f r h)
  | _, _, .tup a r, h => .tup (.of (f _ _ a)) (RepKL.dp e f r h)
  | _, .loc _ o, .loc r, h => RepK.dp (o := o) e f r h
  | _, _, .pt, h => nomatch h
  | _, _, .ins _ _, h => nomatch h
  | _, _, .at _ _, h => nomatch h
  | _, _, .dct _ _, h => nomatch h
  | _, _, .dctT _ _, h => nomatch h
theorem RepKL.dp (e : Ex Z H) (f : Ex F H) : ∀ {vs : List V} {os : List O}, RepKL K Z F vs os → D.plL (O.frzL os) = true → DpAll K H vs (D.pyL (O.frzL os))
  | _, _, .nil, _ => .nil
  | _, _, .cons a r, h => .cons (RepK.dp e f a (Bool.and_eq_true_iff.mp h).1) (RepKL.dp e f r (Bool.and_eq_true_iff.mp h).2)
end
mutual
theorem RepO.dp (e : Ex Z H) (f : Ex F H) : ∀ {v : V} {o : O} {A : List Addr}, RepO K Z F H v o A → o.frz.pl = true → Dp K H v o.frz.py
  | _, _, _, .fz r, h => r.dp e h
  | _, _, _, .vw a r, h => .lst (ex_l f a) (r.dp e h)
  | _, _, _, .vwa a r, h => .lst (ex_l f a) (r.dp e h)
  | _, .lk o, _, .lk r, h => RepK.dp (o := o) e f r h
  | _, _, _, .lst a r, h => .lst (.of a) (RepOL.dp e f r h)
  | _, _, _, .tup a r, h => .tup (.of a) (RepOL.dp e f r h)
  | _, .loc _ o, _, .loc r, h => RepO.dp (o := o) e f r h
  | _, _, _, .pt, h => nomatch h
  | _, _, _, .ins _ _, h => nomatch h
  | _, _, _, .dct _ _, h => nomatch h
  | _, _, _, .dctT _ _, h => nomatch h
theorem RepOL.dp (e : Ex Z H) (f : Ex F H) : ∀ {vs : List V} {os : List O} {A : List Addr}, RepOL K Z F H vs os A → D.plL (O.frzL os) = true → DpAll K H vs (D.pyL (O.frzL os))
  | _, _, _, .nil, _ => .nil
  | _, _, _, .cons a r, h => .cons (RepO.dp e f a (Bool.and_eq_true_iff.mp h).1) (RepOL.dp e f r (Bool.and_eq_true_iff.mp h).2)
end
end
/-- data that can be compared -/
def D.ok (d : D) : Prop := d.pl = true ∧ SeqAt.shaped d.py = true
def D.eqv (d e : D) : Bool := PyData.eqv d.py e.py
section
variable {X : Cx} {ρ : Slots} {e a b elt : Expr} {es : List Expr} {st : Stmt} {sts : List Stmt} {G : Go} {o o1 o2 : O} {d : D} {ds : List D} {pos : Pos} {i : Nat}
theorem me_rD {r : R2} {t : TE} {k : Bool} (p : PE X e (tOp r (wE X a) (wE X b))) (ha : MV X ρ a o1) (hb : MV X ρ b o2) (h1 : o1.frz.pl = true) (h2 : o2.frz.pl = true)
    (h : ∀ x y H (Q : VK), Dp X.K H x o1.frz.py → Dp X.K H y o2.frz.py → Q (.bl k) H → r x y H Q) : ME X ρ e (.fz (.bl k)) := .mk fun Z0 F Z σ H s Q q => by
  refine PE_w p (ha.run Z0 F Z σ H s _ fun v Z1 H1 A1 g1 r1 => ?_)
  refine hb.run Z0 F Z1 σ H1 (s.grow g1) _ fun w Z2 H2 A2 g2 r2 => ?_
  have g := g1.trans g2
  exact h v w H2 Q ((r1.ex g2.zz g2.hh).dp g2.zh (s.gr.hh.trans g.hh) h1) (r2.dp g2.zh (s.gr.hh.trans g.hh) h2) (q _ Z2 H2 [] g (.fz (.bl k)) .nil)
theorem me_eqD (hu : X.A.units + 64 < cLine) (ha : MV X ρ a o1) (hb : MV X ρ b o2) (h1 : o1.frz.ok) (h2 : o2.frz.ok) : ME X ρ (.Compare a [.Eq] [b] pos) (.fz (.bl (o1.frz.eqv o2.frz))) :=
  me_rD (t := tOp (rEqD X.K) (wE X a) (wE X b)) (pe_cmpR (op_eqD hu) pe_w pe_w (nomark _)) ha hb h1.1 h2.1 fun x y H Q p1 p2 q => ⟨_, _, p1, p2, h1.2, h2.2, q⟩
theorem me_neD (hu : X.A.units + 64 < cLine) (ha : MV X ρ a o1) (hb : MV X ρ b o2) (h1 : o1.frz.ok) (h2 : o2.frz.ok) : ME X ρ (.Compare a [.NotEq] [b] pos) (.fz (.bl (!o1.frz.eqv o2.frz))) :=
  me_rD (t := tOp (rNeD X.K) (wE X a) (wE X b)) (pe_cmpR (op_neD hu) pe_w pe_w (nomark _)) ha hb h1.1 h2.1 fun x y H Q p1 p2 q => ⟨_, _, p1, p2, h1.2, h2.2, q⟩
theorem mt_rD {r : R2} {k : Bool} (p : PT X e (tTest (tOp r (wE X a) (wE X b)))) (ha : MV X ρ a o1) (hb : MV X ρ b o2) (h1 : o1.frz.pl = true) (h2 : o2.frz.pl = true)
    (h : ∀ x y H (Q : VK), Dp X.K H x o1.frz.py → Dp X.K H y o2.frz.py → Q (.bl k) H → r x y H Q) : MT X ρ e k := .mk fun Z0 F Z σ H s Q q => by
  refine PT_w p (ha.run Z0 F Z σ H s _ fun v Z1 H1 A1 g1 r1 => ?_)
  refine hb.run Z0 F Z1 σ H1 (s.grow g1) _ fun w Z2 H2 A2 g2 r2 => ?_
  have g := g1.trans g2
  exact h v w H2 _ ((r1.ex g2.zz g2.hh).dp g2.zh (s.gr.hh.trans g.hh) h1) (r2.dp g2.zh (s.gr.hh.trans g.hh) h2) ⟨k, rfl, q Z2 H2 g⟩
theorem mt_eqD (hu : X.A.units + 64 < cLine) (ha : MV X ρ a o1) (hb : MV X ρ b o2) (h1 : o1.frz.ok) (h2 : o2.frz.ok) : MT X ρ (.Compare a [.Eq] [b] pos) (o1.frz.eqv o2.frz) :=
  mt_rD (pt_cmpR (op_eqD hu) pe_w pe_w (nomark _)) ha hb h1.1 h2.1 fun x y H Q p1 p2 q => ⟨_, _, p1, p2, h1.2, h2.2, q⟩
theorem mt_neD (hu : X.A.units + 64 < cLine) (ha : MV X ρ a o1) (hb : MV X ρ b o2) (h1 : o1.frz.ok) (h2 : o2.frz.ok) : MT X ρ (.Compare a [.NotEq] [b] pos) (!o1.frz.eqv o2.frz) :=
  mt_rD (pt_cmpR (op_neD hu) pe_w pe_w (nomark _)) ha hb h1.1 h2.1 fun x y H Q p1 p2 q => ⟨_, _, p1, p2, h1.2, h2.2, q⟩

/-! ### comprehensions -/
/-- what is walked while nothing that stands changes -/
structure MIc (X : Cx) (ρ : Slots) (wi : TI) (ds : List D) : Prop where
  run : ∀ (Z0 F Z : Hp) (σ : L2.St) (H : Hp), StR X.K ρ Z0 F Z σ H → ∀ R : It → Hp → Prop,
  (∀ J Z' H', Gr Z H Z' H' → Wk X.K Z' H' J ds → R J H') → wi σ H R
theorem MI.c {wi : TI} (h : MI X ρ wi ds) : MIc X ρ wi ds := .mk fun Z0 F Z σ H s R q => h.run Z0 F Z σ H s R fun J Z' H' g wk =>
  q J Z' H' g ⟨fun i d Z2 H2 hd e f z => wk.go i d Z2 H2 hd e ((s.gr.hh.trans g.hh).trans f) z, fun Z2 H2 e f z => wk.stop Z2 H2 e ((s.gr.hh.trans g.hh).trans f) z⟩
theorem mic_list (h : ML X ρ e ds) : MIc X ρ (iList X.K (wE X e)) ds := .mk fun Z0 F Z σ H s R q => h.run Z0 F Z σ H s _ fun a vs Z' H' g l r => by
  refine ⟨a, rfl, ⟨vs, l⟩, q _ Z' H' g ⟨fun j d Z2 H2 hd ez ef zh => ?_, fun Z2 H2 ez ef zh => ⟨vs, ex_l ef l, Nat.le_of_eq r.length⟩⟩⟩
  obtain ⟨x, hx, rx⟩ := r.get hd
  refine ⟨⟨vs, x, ex_l ef l, hx⟩, fun y H3 hy => ?_⟩
  obtain ⟨e3, hy⟩ := hy
  subst e3
  have e4 := hy vs (ex_l ef l)
  rw [hx] at e4
  cases e4
  exact ⟨Z2, Gr.refl zh, rx.mono ez⟩
def wipeS (ρ : Slots) : List Nat → Slots
  | [] => ρ
  | v :: vs => (wipeS ρ vs).set v none
theorem StL.none {K : PySem.W.Frag} {Z F H : Hp} (x : Option V) : ∀ {ρ : Slots} {σ : L2.St} {A : List Addr} (i : Nat), StL K Z F H ρ σ A → A.Nodup → ∃ A', StL K Z F H (ρ.set i Option.none) (σ.set i x) A' ∧ A'.Nodup ∧ ∀ a ∈ A', a ∈ A
  | _, _, _, _, .nil, n => ⟨_, .nil, n, fun _ m => m⟩
  | _, _, _, 0, .no h, n => ⟨_, .no h, n, fun _ m => m⟩
  | _, _, _, i + 1, .no h, n => by
    obtain ⟨A', q1, q2, q3⟩ := StL.none x i h n
    exact ⟨A', .no q1, q2, q3⟩
  | _, _, _, 0, .so _ h, n => ⟨_, .no h, (List.nodup_append.mp n).2.1, fun _ m => List.mem_append_right _ m⟩
  | _, _, _, i + 1, .so r h, n => by
    obtain ⟨n1, n2, n3⟩ := List.nodup_append.mp n
    obtain ⟨A', q1, q2, q3⟩ := StL.none x i h n2
    refine ⟨_, .so r q1, List.nodup_append.mpr ⟨n1, q2, fun a ha b hb => n3 a ha b (q3 b hb)⟩, fun a m => ?_⟩
    rcases List.mem_append.mp m with m | m
    · exact List.mem_append_left _ m
    · exact List.mem_append_right _ (q3 a m)
theorem StR.wipe {K : PySem.W.Frag} {Z0 F Z H : Hp} {σ : L2.St} (s : StR K ρ Z0 F Z σ H) : ∀ vs : List Nat, StR K (wipeS ρ vs) Z0 F Z (L2.wipe σ vs) H
  | [] => s
  | v :: vs => by
    obtain ⟨g, A, h1, h2, h3⟩ := StR.wipe s vs
    obtain ⟨A', q1, q2, q3⟩ := h1.none none v h2
    exact ⟨g, A', q1, q2, fun a m => h3 a (q3 a m)⟩
/-- the list that a comprehension makes -/
theorem lc_run {α : Type} {xs : List α} {enc : α → D} {wi : TI} {g : TG} {tt : TT} {te : TE} {vs : List Nat} (h : MIc X ρ wi (xs.map enc)) (pb : α → Bool) (f : α → D) (hz : xs.length < sizeLine)
    (hs : ∀ d ∈ xs, ∃ τ ws, MTg g X.K (wipeS ρ vs) (enc d) τ ws ∧ (∀ w ∈ ws, w ∈ vs) ∧
      (∀ (Z0 F Z : Hp) (σ : L2.St) (H : Hp), StR X.K τ Z0 F Z σ H → ∀ Q : Bool → Hp → Prop, (∀ Z' H', Gr Z H Z' H' → Q (pb d) H') → tt σ H Q) ∧
      (pb d = true → ∀ (Z0 F Z : Hp) (σ : L2.St) (H : Hp), StR X.K τ Z0 F Z σ H → ∀ Q : VK, (∀ v Z' H', Gr Z H Z' H' → Rep X.K Z' v (f d) → Q v H') → te σ H Q))
    {Z0 F Z : Hp} {σ : L2.St} {H : Hp} (s : StR X.K ρ Z0 F Z σ H) {Q : VK} (q : ∀ v Z' H' A, Gr Z H Z' H' → RepO X.K Z' F H' v (.lst (((xs.filter pb).map f).map .fz)) A → New H Z' A → Q v H') : tLc wi g tt te vs σ H Q := by
  refine h.run Z0 F Z σ H s _ fun J Z1 H1 g1 wk => ?_
  intro L hL
  have s1 := (s.grow g1).wipe vs
  refine ⟨fun j m H2 => m = xs.length - j ∧ j ≤ xs.length ∧ ∃ Z2 acc, Gr Z1 H1 Z2 H2 ∧ H2 L = some (.lst acc) ∧ Z2 L = none ∧ RepL X.K Z2 acc (((xs.take j).filter pb).map f),
    ⟨xs.length, by simp, Nat.zero_le _, Z1, [], Gr.new g1.zh hL, upd_same, g1.zh.free hL, .nil⟩, ?_⟩
  rintro j m H2 ⟨rfl, hj, Z2, acc, g2, hacc, zL, racc⟩
  by_cases hlt : j < xs.length
  · have ed : (xs.map enc)[j]? = some (enc xs[j]) := by simp [hlt]
    obtain ⟨w1, w2⟩ := wk.go j _ Z2 H2 ed g2.zz g2.hh g2.zh
    refine .inr ⟨w1, fun H3 => j + 1 ≤ xs.length ∧ ∃ Z2 acc, Gr Z1 H1 Z2 H3 ∧ H3 L = some (.lst acc) ∧ Z2 L = none ∧ RepL X.K Z2 acc (((xs.take (j + 1)).filter pb).map f), fun H3 q => ⟨xs.length - (j + 1), by omega, rfl, q⟩, fun x H3 hy => ?_⟩
    obtain ⟨Z3, g3, r3⟩ := w2 x H3 hy
    obtain ⟨τ, ws, t1, t2, t3, t4⟩ := hs _ (List.getElem_mem hlt)
    have g13 := g2.trans g3
    have etake : xs.take (j + 1) = xs.take j ++ [xs[j]] := (List.take_append_getElem hlt).symm
    refine t1.run Z0 F Z3 _ H3 x (s1.grow g13) r3 _ fun σ4 s4 w4 => ⟨by rw [w4 vs t2, wipe_wipe], ?_⟩
    refine t3 Z0 F Z3 σ4 H3 s4 _ fun Z5 H5 g5 => ?_
    have hL5 : H5 L = some (.lst acc) := g5.hh _ _ (g3.hh _ _ hacc)
    have zL5 : Z5 L = none := by rw [g5.nw L _ (g3.hh _ _ hacc), g3.nw L _ hacc, zL]
    have r5 := racc.mono (g3.zz.trans g5.zz)
    cases hp : pb xs[j] with
    | true =>
      rw [if_pos rfl]
      refine t4 hp Z0 F Z5 σ4 H5 (s4.grow g5) _ fun y Z6 H6 g6 r6 => ?_
      have hL6 := g6.hh _ _ hL5
      have zL6 : Z6 L = none := by rw [g6.nw L _ hL5, zL5]
      have hlen : acc.length < sizeLine := by
        rw [racc.length, List.length_map]
        exact Nat.lt_of_le_of_lt (Nat.le_trans (List.length_filter_le _ _) (by rw [List.length_take]; exact Nat.min_le_right _ _)) hz
      refine ⟨acc, hL6, hlen, hlt, Z6, acc ++ [y], ?_, upd_same, zL6, ?_⟩
      · have g16 := g13.trans (g5.trans g6)
        exact ⟨g16.zz, g16.hh.mut hL, g16.zh.mut zL6, g16.nw⟩
      · rw [etake, List.filter_append, List.map_append]
        have e1 : [xs[j]].filter pb = [xs[j]] := by simp [hp]
        rw [e1]
        exact (r5.mono g6.zz).append (.cons r6 .nil)
    | false =>
      rw [if_neg Bool.false_ne_true]
      refine ⟨hlt, Z5, acc, g13.trans g5, hL5, zL5, ?_⟩
      rw [etake, List.filter_append, List.map_append]
      have e1 : [xs[j]].filter pb = [] := by simp [hp]
      rw [e1, List.map_nil, List.append_nil]
      exact r5
  · have e : j = xs.length := by omega
    subst e
    have st := wk.stop Z2 H2 g2.zz g2.hh g2.zh
    rw [List.length_map] at st
    refine .inl ⟨st, q _ Z2 H2 [L] (g1.trans g2) (.lst hacc ?_) (new_one (g1.hh.free hL) zL)⟩
    rw [List.take_length] at racc
    exact racc.own
/-- [elt for target in source] -/
theorem me_lc {α : Type} {xs : List α} {enc : α → D} {wi : TI} {g : TG} {scope : Scope} {vs : List Nat} (p : ∀ te : TE, (∀ (s : Shared) (H : Hp) (C : Addr) (cl : List (Str × Addr)) (fp : List Addr), PE (X.blk s H scope (compEnvC scope cl C X.env) fp) elt te) → PE X e (tLc wi g tYes te vs))
    (h : MIc X ρ wi (xs.map enc)) (f : α → D) (hz : xs.length < sizeLine)
    (hs : ∀ d ∈ xs, ∃ τ ws, MTg g X.K (wipeS ρ vs) (enc d) τ ws ∧ (∀ w ∈ ws, w ∈ vs) ∧ ∀ (s : Shared) (H : Hp) (C : Addr) (cl : List (Str × Addr)) (fp : List Addr), ME (X.blk s H scope (compEnvC scope cl C X.env) fp) τ elt (.fz (f d))) :
    ME X ρ e (.lst ((xs.map f).map .fz)) := .mk fun Z0 F Z σ H s Q q => by
  refine PE_w (p (fun σ H Q => ∀ (s : Shared) (H' : Hp) (C : Addr) (cl : List (Str × Addr)) (fp : List Addr), wE (X.blk s H' scope (compEnvC scope cl C X.env) fp) elt σ H Q) fun s H' C cl fp => ⟨fun pins s' σ H Q I k => k s H' C cl fp pins s' I⟩) ?_
  refine lc_run h (fun _ => true) f hz (fun d m => ?_) s fun v Z' H' A g r n => q v Z' H' A g ?_ n
  · obtain ⟨τ, ws, t1, t2, t3⟩ := hs d m
    refine ⟨τ, ws, t1, t2, fun Z0 F Z σ H s Q q => q Z H (Gr.refl s.ex), fun _ Z0 F Z σ H s Q q s' H' C cl fp => (t3 s' H' C cl fp).run Z0 F Z σ H s Q fun v Z' H' A g r n => ?_⟩
    cases r with
    | fz r => exact q v Z' H' g r
  · rw [List.filter_eq_self.mpr fun _ _ => rfl] at r
    exact r
/-- [elt for target in source if test] -/
theorem me_lcIf {α : Type} {xs : List α} {enc : α → D} {wi : TI} {g : TG} {scope : Scope} {vs : List Nat} {c : Expr} (p : ∀ (tt : TT) (te : TE), (∀ (s : Shared) (H : Hp) (C : Addr) (cl : List (Str × Addr)) (fp : List Addr), PT (X.blk s H scope (compEnvC scope cl C X.env) fp) c tt) →
      (∀ (s : Shared) (H : Hp) (C : Addr) (cl : List (Str × Addr)) (fp : List Addr), PE (X.blk s H scope (compEnvC scope cl C X.env) fp) elt te) → PE X e (tLc wi g tt te vs))
    (h : MIc X ρ wi (xs.map enc)) (pb : α → Bool) (f : α → D) (hz : xs.length < sizeLine)
    (hs : ∀ d ∈ xs, ∃ τ ws, MTg g X.K (wipeS ρ vs) (enc d) τ ws ∧ (∀ w ∈ ws, w ∈ vs) ∧ ∀ (s : Shared) (H : Hp) (C : Addr) (cl : List (Str × Addr)) (fp : List Addr), MT (X.blk s H scope (compEnvC scope cl C X.env) fp) τ c (pb d) ∧ (pb d = true → ME (X.blk s H scope (compEnvC scope cl C X.env) fp) τ elt (.fz (f d)))) :
    ME X ρ e (.lst (((xs.filter pb).map f).map .fz)) := .mk fun Z0 F Z σ H s Q q => by
  refine PE_w (p (fun σ H Q => ∀ (s : Shared) (H' : Hp) (C : Addr) (cl : List (Str × Addr)) (fp : List Addr), wT (X.blk s H' scope (compEnvC scope cl C X.env) fp) c σ H Q) (fun σ H Q => ∀ (s : Shared) (H' : Hp) (C : Addr) (cl : List (Str × Addr)) (fp : List Addr), wE (X.blk s H' scope (compEnvC scope cl C X.env) fp) elt σ H Q)
    (fun s H' C cl fp => ⟨fun pins s' σ H Q I k => k s H' C cl fp pins s' I⟩) fun s H' C cl fp => ⟨fun pins s' σ H Q I k => k s H' C cl fp pins s' I⟩) ?_
  refine lc_run h pb f hz (fun d m => ?_) s q
  obtain ⟨τ, ws, t1, t2, t3⟩ := hs d m
  refine ⟨τ, ws, t1, t2, fun Z0 F Z σ H s Q q s' H' C cl fp => (t3 s' H' C cl fp).1.run Z0 F Z σ H s Q q, fun hp Z0 F Z σ H s Q q s' H' C cl fp => ((t3 s' H' C cl fp).2 hp).run Z0 F Z σ H s Q fun v Z' H' A g r n => ?_⟩
  cases r with
  | fz r => exact q v Z' H' g r

/-! ### what is handed back: own slots within -/
/-- (.., x, ..): a tuple of frozen things and one own slot's thing -/
structure MRs (X : Cx) (ρ : Slots) (es : List Expr) (os : List O) : Prop where
  run : ∀ (Z0 F Z : Hp) (σ : L2.St) (H : Hp), StR X.K ρ Z0 F Z σ H → ∀ Q : List V → Hp → Prop,
  (∀ vs Z' H' A, Gr Z H Z' H' → RepOL X.K Z' F H' vs os A → A.Nodup → (∀ a ∈ A, Z' a = none ∧ F a = none) → Q vs H') → wA X es σ H Q
theorem MF.rs (h : MF X ρ es ds) : MRs X ρ es (ds.map .fz) := .mk fun Z0 F Z σ H s Q q => h.run Z0 F Z σ H s Q fun vs Z' H' g r => q vs Z' H' [] g r.own List.nodup_nil fun _ m => nomatch m
theorem mrs_fz {os : List O} (h : ME X ρ e (.fz d)) (h2 : MRs X ρ es os) (hs : starEach (e :: es) X.env = (false, eval e X.env) :: starEach es X.env := by rfl) : MRs X ρ (e :: es) (.fz d :: os) := .mk fun Z0 F Z σ H s Q q =>
  PA_w (pa_cons pe_w pa_w hs) (h.run Z0 F Z σ H s _ fun v Z1 H1 A1 g1 r1 n1 => by
    cases r1 with
    | fz r1 => exact h2.run Z0 F Z1 σ H1 (s.grow g1) _ fun vs Z2 H2 A g2 r2 n d => q _ Z2 H2 A (g1.trans g2) (.cons (A := []) (.fz (r1.mono g2.zz)) r2) n d)
theorem mrs_own (h : MR X ρ e o) (h2 : MF X ρ es ds) (hs : starEach (e :: es) X.env = (false, eval e X.env) :: starEach es X.env := by rfl) : MRs X ρ (e :: es) (o :: ds.map .fz) := .mk fun Z0 F Z σ H s Q q =>
  PA_w (pa_cons pe_w pa_w hs) (h.run Z0 F Z σ H s _ fun v Z1 H1 A1 g1 r1 n1 d1 => h2.run Z0 F Z1 σ H1 (s.grow g1) _ fun vs Z2 H2 g2 r2 => q _ Z2 H2 (A1 ++ []) (g1.trans g2) (.cons (r1.ex g2.zz g2.hh) r2.own) (by rw [List.append_nil]; exact n1) fun a m => by
    rw [List.append_nil] at m
    obtain ⟨u, hu⟩ := r1.there a m
    exact ⟨(g2.nw a u hu).trans (d1 a m).1, (d1 a m).2⟩)
theorem mr_tup {n : Nat} {os : List O} (h : MRs X ρ es os) (hl : os.length ≤ 1000 := by first | decide | (simp; done)) : MR X ρ (.Tuple es n pos) (.tup os) := .mk fun Z0 F Z σ H s Q q =>
  PE_w (pe_tup pa_w) (h.run Z0 F Z σ H s _ fun vs Z1 H1 A g1 r1 n1 d1 => ⟨(by rw [r1.length]; exact Nat.le_of_lt (small1000 hl)), fun p hp => by
    refine q _ Z1 _ (p :: A) (g1.trans (Gr.new g1.zh hp)) (.tup upd_same (r1.mono (Ex.refl _) (Ex.refl _) fun a m u hu => ?_)) (List.nodup_cons.mpr ⟨fun m => ?_, n1⟩) fun a m => ?_
    · rw [upd_ne (ne_of_none hu hp)]
      exact hu
    · obtain ⟨u, hu⟩ := r1.there p m
      rw [hp] at hu
      cases hu
    · rcases List.mem_cons.mp m with m | m
      · subst m
        exact ⟨g1.zh.free hp, s.gr.hh.free (g1.hh.free hp)⟩
      · exact d1 a m⟩)
end
end M
namespace M
open PySem L2 PySem.Spec PyProof.Rows
section
variable {X : Cx} {ρ : Slots} {e a b elt : Expr} {es : List Expr} {st : Stmt} {sts : List Stmt} {G : Go} {o o1 o2 : O} {d : D} {ds : List D} {pos p0 p1 : Pos} {i : Nat} {x nm : Str}
theorem ml_var (p : PE X (.Name x pos) (tVar i)) (h : ρ[i]? = some (some o)) (hl : IsLst o ds := by first | exact .vw _ | exact .fz _ | exact .own _ | exact .vwa _ _) : ML X ρ (.Name x pos) ds := MV.l (mv_var p h) hl
theorem mu_var (p : PE X (.Name x pos) (tVar i)) (h : ρ[i]? = some (some o)) (hl : IsTp o ds := by first | exact .fz _ | exact .own _) : MU X ρ (.Name x pos) ds := MV.u (mv_var p h) hl
theorem mk_var (p : PE X (.Name x pos) (tVar i)) (h : ρ[i]? = some (some o)) (hl : o = .vw ds ∨ o = .fz (.lst ds) ∨ ∃ a, o = .vwa a ds := by first | exact .inl rfl | exact .inr (.inl rfl) | exact .inr (.inr ⟨_, rfl⟩)) : MK X ρ (.Name x pos) ds := by
  rcases hl with rfl | rfl | ⟨a, rfl⟩
  · exact MV.k (mv_var p h)
  · exact ME.k (me_var p h)
  · exact MV.ka (mv_var p h)
theorem le_auto {ρ τ : Slots} (l : Le ρ τ := by repeat (first | exact Le.nil | refine Le.no ?_ | refine Le.eq ?_)) : Le ρ τ := l
/-- for: R j holds ahead of turn j -/
theorem m_forR {wi : TI} {g : TG} {body : List Stmt} (p : PS X st (tFor wi g (wS X body))) (h : MI X ρ wi ds) (R : Nat → Slots) (h0 : Le ρ (R 0))
    (hs : ∀ (j : Nat) (d : D), ds[j]? = some d → ∃ τ' ws, MTg g X.K (R j) d τ' ws ∧ MS X τ' body { nx := fun τ => Le τ (R (j + 1)), ct := fun τ => Le τ (R (j + 1)), bk := G.nx, rt := G.rt, rs := G.rs })
    (hd : ∀ τ, Le τ (R ds.length) → G.nx τ) : MS1 X ρ st G := by
  refine m_for p h (fun j τ => Le τ (R j)) h0 (fun j d τ hj l => ?_) hd
  obtain ⟨τ', ws, t1, t2⟩ := hs j d hj
  exact ⟨τ', ws, .mk fun Z0 F Z σ H v s r Q q => t1.run Z0 F Z σ H v (s.le l) r Q q, t2⟩
/-- .. by a state: S j x holds ahead of turn j -/
theorem m_forS {α : Type} {wi : TI} {g : TG} {body : List Stmt} (p : PS X st (tFor wi g (wS X body))) (h : MI X ρ wi ds) (R : α → Slots) (S : Nat → α → Prop) (h0 : ∃ x, S 0 x ∧ Le ρ (R x))
    (hs : ∀ (j : Nat) (d : D) (x : α), ds[j]? = some d → S j x → ∃ τ' ws, MTg g X.K (R x) d τ' ws ∧ MS X τ' body { nx := fun τ => ∃ y, S (j + 1) y ∧ Le τ (R y), ct := fun τ => ∃ y, S (j + 1) y ∧ Le τ (R y), bk := G.nx, rt := G.rt, rs := G.rs })
    (hd : ∀ τ x, S ds.length x → Le τ (R x) → G.nx τ) : MS1 X ρ st G := by
  refine m_for p h (fun j τ => ∃ x, S j x ∧ Le τ (R x)) h0 (fun j d τ hj l => ?_) fun τ ⟨x, h1, h2⟩ => hd τ x h1 h2
  obtain ⟨x, l1, l2⟩ := l
  obtain ⟨τ', ws, t1, t2⟩ := hs j d x hj l1
  exact ⟨τ', ws, .mk fun Z0 F Z σ H v s r Q q => t1.run Z0 F Z σ H v (s.le l2) r Q q, t2⟩
/-- if, both ways go on -/
theorem m_ifJ {c : Expr} {a b : List Stmt} {t : Bool} {p : Pos} (hc : MT X ρ c t) (τ : Slots) (h1 : t = true → MS X ρ a { G with nx := fun ρ => Le ρ τ }) (h2 : t = false → MS X ρ b { G with nx := fun ρ => Le ρ τ }) (k : ∀ ρ, Le ρ τ → G.nx ρ) : MS1 X ρ (.If c a b p) G :=
  m_if hc (fun h => ms_imp (h1 h) k (fun _ h => h) (fun _ h => h) fun _ h => h) fun h => ms_imp (h2 h) k (fun _ h => h) (fun _ h => h) fun _ h => h
/-- an own def, as it is called by its name -/
structure Fn1 (P : Program) (w : World) (K : PySem.W.Frag) (mg : Str → Option Value) (base : Heap) (name : Str) (k : Nat) (ps : List Str) (sp : Sp) : Prop where
  ex : ∃ (f : Addr) (fd : FuncData), mg name = some (.ref f) ∧ PySem.W.keepIn K (.ref f) = true ∧ Binds K fd ps [] ∧ FnOk P w K mg base CX0 k f fd ps sp
theorem me_fn {α : Type} {ar : α → List O} {pre : α → Prop} {res : α → O} {k : Nat} {ps : List Str} (c : Fn1 X.prog X.w X.K X.mg X.base nm k ps (SpM X.K ar pre res)) (x : α) (ha : MA X ρ (e :: es) (ar x)) (hp : pre x) (hr : Room k X.A) {o : O} (hres : res x = o := by first | (dsimp only; done) | (dsimp only; rfl) | rfl) (hg : Gl X nm := by rfl)
    (hdb : (nm == ("__debug__" : Str)) = false := by decide) (he : starEach (e :: es) X.env = (false, eval e X.env) :: starEach es X.env := by rfl) (hpl : (backTo pos (starEach es X.env)).any (·.1) = false := by rfl) : ME X ρ (.Call (.Name nm p0) (e :: es) [] pos) o := by
  subst hres
  obtain ⟨f, fd, hm, hk, hb, F⟩ := c.ex
  exact me_call (pe_call F hr hg hm hk hb .nil pass0 pa_w hdb he hpl) x ha hp
end
end M
namespace M
open PySem L2 PySem.Spec PyProof.Rows
/-! ### data that can be compared: of a bounded depth -/
inductive Smp : Nat → D → Prop where
  | non {n : Nat} : Smp n .non
  | bl {n : Nat} (b : Bool) : Smp n (.bl b)
  | int {n : Nat} (i : Int) : Smp n (.int i)
  | str {n : Nat} {x : Str} (h : (PyData.str x).canLay0 = true) : Smp n (.str x)
  | tup {n : Nat} {ds : List D} (h : ∀ d ∈ ds, Smp n d) : Smp (n + 1) (.tup ds)
  | lst {n : Nat} {ds : List D} (h : ∀ d ∈ ds, Smp n d) : Smp (n + 1) (.lst ds)
theorem D.plL_all : ∀ {ds : List D}, (∀ d ∈ ds, d.pl = true) → D.plL ds = true
  | [], _ => rfl
  | d :: r, h => by
    show (d.pl && D.plL r) = true
    rw [h d List.mem_cons_self, D.plL_all fun e m => h e (List.mem_cons_of_mem _ m)]
    rfl
theorem canL_all : ∀ {ds : List D}, (∀ d ∈ ds, d.py.canLay0 = true) → PyData.canLayAll0 (D.pyL ds) = true
  | [], _ => rfl
  | d :: r, h => by
    show (d.py.canLay0 && PyData.canLayAll0 (D.pyL r)) = true
    rw [h d List.mem_cons_self, canL_all fun e m => h e (List.mem_cons_of_mem _ m)]
    rfl
theorem depL_all {n : Nat} : ∀ {ds : List D}, (∀ d ∈ ds, d.py.depth ≤ n) → PyData.depthAll (D.pyL ds) ≤ n
  | [], _ => Nat.zero_le _
  | d :: r, h => Nat.max_le.mpr ⟨h d List.mem_cons_self, depL_all fun e m => h e (List.mem_cons_of_mem _ m)⟩
theorem Smp.all {n : Nat} {d : D} (h : Smp n d) : d.pl = true ∧ d.py.canLay0 = true ∧ d.py.depth ≤ n := by
  induction h with
  | non => exact ⟨rfl, rfl, Nat.zero_le _⟩
  | bl b => exact ⟨rfl, rfl, Nat.zero_le _⟩
  | int i => exact ⟨rfl, rfl, Nat.zero_le _⟩
  | str h => exact ⟨rfl, h, Nat.zero_le _⟩
  | tup h ih => exact ⟨D.plL_all fun d m => (ih d m).1, canL_all fun d m => (ih d m).2.1, Nat.succ_le_succ (depL_all fun d m => (ih d m).2.2)⟩
  | lst h ih => exact ⟨D.plL_all fun d m => (ih d m).1, canL_all fun d m => (ih d m).2.1, Nat.succ_le_succ (depL_all fun d m => (ih d m).2.2)⟩
theorem Smp.ok {n : Nat} {d : D} (h : Smp n d) (hn : n ≤ 64 := by decide) : d.ok := by
  obtain ⟨h1, h2, h3⟩ := h.all
  refine ⟨h1, ?_⟩
  unfold SeqAt.shaped
  rw [h2, decide_eq_true (Nat.le_trans h3 hn)]
  rfl
theorem Smp.up {n m : Nat} {d : D} (h : Smp n d) (l : n ≤ m) : Smp m d := by
  induction h generalizing m with
  | non => exact .non
  | bl b => exact .bl b
  | int i => exact .int i
  | str h => exact .str h
  | tup h ih =>
    cases m with
    | zero => exact absurd l (by omega)
    | succ m => exact .tup fun d k => ih d k (by omega)
  | lst h ih =>
    cases m with
    | zero => exact absurd l (by omega)
    | succ m => exact .lst fun d k => ih d k (by omega)
theorem eqvL_refl : ∀ {ds : List D}, (∀ d ∈ ds, d.eqv d = true) → PyData.eqvAll (D.pyL ds) (D.pyL ds) = true
  | [], _ => rfl
  | d :: r, h => by
    show (PyData.eqv d.py d.py && PyData.eqvAll (D.pyL r) (D.pyL r)) = true
    rw [show PyData.eqv d.py d.py = true from h d List.mem_cons_self, eqvL_refl fun e m => h e (List.mem_cons_of_mem _ m)]
    rfl
theorem Smp.eqv {n : Nat} {d : D} (h : Smp n d) : d.eqv d = true := by
  induction h with
  | non => rfl
  | bl b => exact beq_self_eq_true b
  | int i => exact beq_self_eq_true i
  | str h => exact beq_self_eq_true _
  | tup h ih => exact eqvL_refl ih
  | lst h ih => exact eqvL_refl ih
theorem smps_nil {n : Nat} : ∀ d ∈ ([] : List D), Smp n d := fun _ m => nomatch m
theorem smps_cons {n : Nat} {d : D} {ds : List D} (h : Smp n d) (r : ∀ d ∈ ds, Smp n d) : ∀ e ∈ d :: ds, Smp n e := fun e m => (List.mem_cons.mp m).elim (fun q => q ▸ h) (r e)
theorem smps_map {α : Type} {n : Nat} {f : α → D} {xs : List α} (h : ∀ x ∈ xs, Smp n (f x)) : ∀ d ∈ xs.map f, Smp n d := fun d m => by
  obtain ⟨x, hx, rfl⟩ := List.mem_map.mp m
  exact h x hx
section
variable {X : Cx} {ρ : Slots} {e a b elt : Expr} {es : List Expr} {st : Stmt} {sts : List Stmt} {G : Go} {o o1 o2 : O} {d : D} {ds : List D} {pos p0 p1 : Pos} {i : Nat} {x nm : Str}
/-- a tuple is walked -/
theorem mi_tup (h : ME X ρ e (.fz (.tup ds))) : MI X ρ (iTup X.K (wE X e)) ds := .mk fun Z0 F Z σ H s R q => h.run Z0 F Z σ H s _ fun v Z' H' A g r n => by
  cases r with
  | fz r =>
    cases r with
    | @tup a vs _ l r =>
      refine ⟨a, rfl, ⟨vs, ex_t g.zh l⟩, q _ Z' H' g ⟨fun j d Z2 H2 hd ez ef zh => ?_, fun Z2 H2 ez ef zh => ⟨vs, ex_t zh (ex_t ez l), Nat.le_of_eq r.length⟩⟩⟩
      obtain ⟨x, hx, rx⟩ := r.get hd
      have lt := ex_t zh (ex_t ez l)
      refine ⟨⟨vs, x, lt, hx⟩, fun y H3 hy => ?_⟩
      obtain ⟨e3, hy⟩ := hy
      subst e3
      have e4 := hy vs lt
      rw [hx] at e4
      cases e4
      exact ⟨Z2, Gr.refl zh, rx.mono ez⟩
end
section
variable {K : PySem.W.Frag} {Z0 Z Z' F H H' : Hp} {ρ : Slots} {σ : L2.St}
/-- a slot's own thing is changed, and forgotten -/
theorem StR.lose {i : Nat} {o : O} (s : StR K ρ Z0 F Z σ H) (hi : ρ[i]? = some (some o)) : ∃ v A, σ[i]? = some (some v) ∧ RepO K Z F H v o A ∧ (∀ a ∈ A, Z a = none ∧ F a = none) ∧
    ∀ {Z' H' : Hp}, Ex Z Z' → (∀ a u, H a = some u → Z' a = Z a) → Ex Z' H' → (∀ a, a ∉ A → ∀ u, H a = some u → H' a = some u) → StR K (ρ.set i none) Z0 F Z' σ H' := by
  obtain ⟨A, h1, h2, h3⟩ := s.st
  obtain ⟨v, B, q1, q2, q3, q4, q5⟩ := h1.at hi h2
  refine ⟨v, B, q1, q2, fun a m => h3 a (q4 a m), fun {Z' H'} ez nz zh k => ?_⟩
  obtain ⟨A2, r1, r2, r3⟩ := q5 (v' := .non) (o' := .fz .non) (B' := []) ez (fun a _ nb u e => k a nb u e) (.fz .non) List.nodup_nil (fun _ m => nomatch m)
  obtain ⟨A3, t1, t2, t3⟩ := r1.none (some v) i r2
  rw [List.set_set, List.set_set, set_same q1] at t1
  have hF : ∀ a u, F a = some u → a ∉ B := fun a u e m => by
    rw [(h3 a (q4 a m)).2] at e
    cases e
  refine ⟨⟨s.gr.zz.trans ez, fun a u e => k a (hF a u e) u (s.gr.hh a u e), zh, fun a u e => (nz a u (s.gr.hh a u e)).trans (s.gr.nw a u e)⟩, A3, t1, t2, fun a m => ?_⟩
  rcases r3 a (t3 a m) with z | z
  · obtain ⟨u, e⟩ := h1.there a z.1
    exact ⟨(nz a u e).trans (h3 a z.1).1, (h3 a z.1).2⟩
  · exact nomatch z
end
section
variable {X : Cx} {ρ : Slots} {e a b elt : Expr} {es : List Expr} {st : Stmt} {sts : List Stmt} {G : Go} {o o1 o2 : O} {d : D} {ds : List D} {pos p0 p1 : Pos} {i : Nat} {x nm : Str}
/-- x[0].append(e), x an own tuple; x is forgotten -/
theorem m_app0 {x : Str} {p1 p2 p3 p4 p5 p6 : Pos} {k0 : Nat} {os r : List O} {d : D} (p : PE X (.Name x p1) (tVar i)) (hi : ρ[i]? = some (some (.tup (.lst os :: r)))) (he : ME X ρ e (.fz d)) (hl : os.length < sizeLine) (k : G.nx (ρ.set i none))
    (q : ∀ t, PE X (.Call (.Attribute (.Subscript (.Name x p1) (.Constant (.int 0) k0 p4) p5) "append" p2) [e] [] p3) t → PS X (.Expr (.Call (.Attribute (.Subscript (.Name x p1) (.Constant (.int 0) k0 p4) p5) "append" p2) [e] [] p3) p6) (tDrop t) := by exact fun _ h => ps_expr h)
    (pm : PE X (.Call (.Attribute (.Subscript (.Name x p1) (.Constant (.int 0) k0 p4) p5) "append" p2) [e] [] p3) (tBM X.K "list" rAppend (tOp (rIxT X.K) (tVar i) (tC (.int 0))) (tCons (wE X e) tNil)) := by
      exact pe_bm PySem.F.plainAttrs_list PySem.F.slot_list_append PySem.F.type_list_append mt_append (pe_ix ix_tup (pv _) pe_int (fun _ _ => rfl)) (pa_cons pe_w pa_nil)) : MS1 X ρ (.Expr (.Call (.Attribute (.Subscript (.Name x p1) (.Constant (.int 0) k0 p4) p5) "append" p2) [e] [] p3) p6) G := .mk fun Z0 F Z σ H D s g => by
  obtain ⟨v, A, e1, r1, dA, k1⟩ := s.lose hi
  cases r1 with
  | @tup t vs _ A t0 r1 =>
    cases r1 with
    | @cons w ws _ _ A1 A2 r1 r2 =>
      cases r1 with
      | @lst a us _ A3 h0 r3 =>
        refine PS_w (q _ pm) ⟨_, e1, t, _, 0, .ref a, rfl, rfl, SqT.of t0, atI_nat (j := 0) rfl, .inl ⟨rfl, _, SqL.of h0⟩, ?_⟩
        refine he.run Z0 F Z σ H s _ fun w Z1 H1 B g1 r2 n2 => ?_
        refine ⟨a, us, w, rfl, rfl, g1.hh _ _ h0, by rw [r3.length]; exact hl, ?_⟩
        have ma : a ∈ t :: ((a :: A3) ++ A2) := List.mem_cons_of_mem _ (List.mem_append_left _ List.mem_cons_self)
        have za : Z1 a = none := by
          rw [g1.nw a _ h0]
          exact (dA a ma).1
        refine g.nx _ Z1 σ _ k (k1 g1.zz g1.nw (g1.zh.mut za) fun b nb u hu => ?_)
        have ne : b ≠ a := fun q => nb (by rw [q]; exact ma)
        rw [upd_ne ne]
        exact g1.hh b u hu
theorem mi_rangeN {n : Nat} (h : MF X ρ es [.int (n : Int)]) (hn : n < 2 ^ 62) : MI X ρ (iRng1 (wA X es)) (rng 0 n) := by
  have q := mi_range1 h (by omega) (by omega)
  rw [Int.toNat_natCast] at q
  exact q
theorem ME.is {o' : O} (h : ME X ρ e o) (q : o = o') : ME X ρ e o' := q ▸ h
/-- for over typed items -/
theorem m_forT {α : Type} {xs : List α} {enc : α → D} {wi : TI} {g : TG} {body : List Stmt} (p : PS X st (tFor wi g (wS X body))) (h : MI X ρ wi (xs.map enc)) (R : Nat → Slots) (h0 : Le ρ (R 0))
    (hs : ∀ (j : Nat) (x : α), xs[j]? = some x → ∃ τ' ws, MTg g X.K (R j) (enc x) τ' ws ∧ MS X τ' body { nx := fun τ => Le τ (R (j + 1)), ct := fun τ => Le τ (R (j + 1)), bk := G.nx, rt := G.rt, rs := G.rs })
    (hd : ∀ τ, Le τ (R xs.length) → G.nx τ) : MS1 X ρ st G := by
  refine m_forR p h R h0 (fun j d hj => ?_) fun τ l => hd τ (by rw [List.length_map] at l; exact l)
  rw [List.getElem?_map] at hj
  obtain ⟨x, hx, rfl⟩ := Option.map_eq_some_iff.mp hj
  exact hs j x hx
theorem m_forTS {α β : Type} {xs : List α} {enc : α → D} {wi : TI} {g : TG} {body : List Stmt} (p : PS X st (tFor wi g (wS X body))) (h : MI X ρ wi (xs.map enc)) (R : β → Slots) (S : Nat → β → Prop) (h0 : ∃ y, S 0 y ∧ Le ρ (R y))
    (hs : ∀ (j : Nat) (x : α) (y : β), xs[j]? = some x → S j y → ∃ τ' ws, MTg g X.K (R y) (enc x) τ' ws ∧ MS X τ' body { nx := fun τ => ∃ y, S (j + 1) y ∧ Le τ (R y), ct := fun τ => ∃ y, S (j + 1) y ∧ Le τ (R y), bk := G.nx, rt := G.rt, rs := G.rs })
    (hd : ∀ τ y, S xs.length y → Le τ (R y) → G.nx τ) : MS1 X ρ st G := by
  refine m_forS p h R S h0 (fun j d y hj => ?_) fun τ y h1 l => hd τ y (by rw [List.length_map] at h1; exact h1) l
  rw [List.getElem?_map] at hj
  obtain ⟨x, hx, rfl⟩ := Option.map_eq_some_iff.mp hj
  exact hs j x y hx
/-- for over a range -/
theorem m_forN {lo : Int} {n : Nat} {wi : TI} {g : TG} {body : List Stmt} (p : PS X st (tFor wi g (wS X body))) (h : MI X ρ wi (rng lo n)) (R : Nat → Slots) (h0 : Le ρ (R 0))
    (hs : ∀ (j : Nat), j < n → ∃ τ' ws, MTg g X.K (R j) (.int (lo + (j : Nat))) τ' ws ∧ MS X τ' body { nx := fun τ => Le τ (R (j + 1)), ct := fun τ => Le τ (R (j + 1)), bk := G.nx, rt := G.rt, rs := G.rs })
    (hd : ∀ τ, Le τ (R n) → G.nx τ) : MS1 X ρ st G := by
  refine m_forR p h R h0 (fun j d hj => ?_) fun τ l => hd τ (by rw [rng_len] at l; exact l)
  obtain ⟨h1, rfl⟩ := rng_get hj
  exact hs j h1
theorem m_forNS {β : Type} {lo : Int} {n : Nat} {wi : TI} {g : TG} {body : List Stmt} (p : PS X st (tFor wi g (wS X body))) (h : MI X ρ wi (rng lo n)) (R : β → Slots) (S : Nat → β → Prop) (h0 : ∃ y, S 0 y ∧ Le ρ (R y))
    (hs : ∀ (j : Nat) (y : β), j < n → S j y → ∃ τ' ws, MTg g X.K (R y) (.int (lo + (j : Nat))) τ' ws ∧ MS X τ' body { nx := fun τ => ∃ y, S (j + 1) y ∧ Le τ (R y), ct := fun τ => ∃ y, S (j + 1) y ∧ Le τ (R y), bk := G.nx, rt := G.rt, rs := G.rs })
    (hd : ∀ τ y, S n y → Le τ (R y) → G.nx τ) : MS1 X ρ st G := by
  refine m_forS p h R S h0 (fun j d y hj => ?_) fun τ y h1 l => hd τ y (by rw [rng_len] at h1; exact h1) l
  obtain ⟨h1, rfl⟩ := rng_get hj
  exact hs j y h1
end
theorem foldl_step {α β : Type} (f : β → α → β) (b : β) {xs : List α} {i : Nat} {x : α} (h : xs[i]? = some x) : (xs.take (i + 1)).foldl f b = f ((xs.take i).foldl f b) x := by
  obtain ⟨hi, e⟩ := List.getElem?_eq_some_iff.mp h
  rw [← List.take_append_getElem hi, List.foldl_append, e]
  rfl
/-- a law's promise -/
def spLaw (K : PySem.W.Frag) : Sp := SpM K (fun ns : List Int => [.vw (ns.map .int)]) (fun ns => ns.length ≤ 63) (fun _ => .fz (.bl true))
theorem spLaw_of {K : PySem.W.Frag} {H : Hp} {a : Addr} {ns : List Int} {E : XK} (hS : SqL K H a (ns.map V.int)) (hl : ns.length ≤ 63) : spLaw K [.ref a] H (fun v _ => v = .bl true) E := by
  refine ⟨ns, fun _ => none, fun _ _ z => (by cases z), RepOL.cons (A := []) (B := []) (RepO.vw hS RepL.ofInts) RepOL.nil, hl, fun v Z' H' A g r n => ?_⟩
  cases r with
  | fz r =>
    cases r
    rfl
end M
namespace M
open PySem L2 PySem.Spec PyProof.Rows
theorem RepOL.set {K : PySem.W.Frag} {Z F H : Hp} {w : V} {d : D} (h : Rep K Z w d) : ∀ {vs : List V} {ds : List D} {A : List Addr} (j : Nat), RepOL K Z F H vs (ds.map .fz) A → RepOL K Z F H (vs.set j w) ((ds.set j d).map .fz) A
  | _, [], _, _, .nil => .nil
  | _, _ :: _, _, 0, .cons (.fz _) r => .cons (A := []) (.fz h) r
  | _, _ :: _, _, j + 1, .cons (.fz g) r => .cons (A := []) (.fz g) (RepOL.set h j r)
section
variable {X : Cx} {ρ : Slots} {e a b c elt : Expr} {es rest : List Expr} {st : Stmt} {sts : List Stmt} {G : Go} {o o1 o2 : O} {d : D} {ds : List D} {pos p0 p1 p2 p3 p4 p5 p6 : Pos} {i : Nat} {x nm : Str} {m n k : Int} {p q : Str}
/-- x[e1] = e2, x a slot with an own list of frozen things -/
theorem m_setItem {j : Nat} (pn : PE X (.Name x p1) (tVar i)) (hi : ρ[i]? = some (some (.lst (ds.map .fz)))) (h1 : ME X ρ a (.fz (.int k))) (h2 : ME X ρ b (.fz d)) (hj : ixN ds.length k = some j) (kk : G.nx (ρ.set i (some (.lst ((ds.set j d).map .fz)))))
    (pm : PS X (.Assign [.Subscript (.Name x p1) a p2] b p3) (tAsg (wE X b) (gSub (tVar i) (wE X a) rSetL)) := by exact ps_asg pe_w (pg_sub (pv _) pe_w set_list)) : MS1 X ρ (.Assign [.Subscript (.Name x p1) a p2] b p3) G := .mk fun Z0 F Z σ H D s g => by
  obtain ⟨v, A, e1, r1, nA, dA, k1⟩ := s.upd hi
  cases r1 with
  | @lst l vs _ A h0 r1 =>
    refine PS_w pm (h2.run Z0 F Z σ H s _ fun w Z1 H1 B g1 r2 n2 => ?_)
    refine ⟨_, e1, h1.run Z0 F Z1 σ H1 (s.grow g1) _ fun y Z2 H2 B2 g2 r3 n3 => ?_⟩
    cases r3 with
    | fz r3 =>
      cases r3
      cases r2 with
      | fz r2 =>
        have g12 := g1.trans g2
        have hl : ixN vs.length k = some j := by rw [r1.length, List.length_map]; exact hj
        refine ⟨l, vs, k, j, rfl, rfl, g12.hh _ _ h0, hl, ?_⟩
        have zl : Z2 l = none := by
          rw [g12.nw l _ h0]
          exact (dA l List.mem_cons_self).1
        obtain ⟨na, nA'⟩ := List.nodup_cons.mp nA
        have r1' : RepOL X.K Z2 F (upd H2 l (.lst (vs.set j w))) vs (ds.map .fz) A := r1.mono g12.zz (Ex.refl _) fun b m u hu => by
          have ne : b ≠ l := fun q => na (by rw [← q]; exact m)
          rw [upd_ne ne]
          exact g12.hh b u hu
        refine g.nx _ Z2 σ _ kk ?_
        refine k1 g12.zz g12.nw (g12.zh.mut zl) (fun b nb u hu => ?_) (.lst upd_same (r1'.set (r2.mono g2.zz) j)) nA fun b m => .inl m
        have ne : b ≠ l := fun q => nb (by rw [q]; exact List.mem_cons_self)
        rw [upd_ne ne]
        exact g12.hh b u hu

theorem me_own {os : List O} (h : ME X ρ e (.lst os)) : MV X ρ e (.lst os) := h.v
/-- [..] * n, a list of its own -/
def repG {α : Type} (xs : List α) (k : Int) : List α := (List.replicate k.toNat xs).flatten
theorem RepL.rep {K : PySem.W.Frag} {Z : Hp} {vs : List V} {ds : List D} (r : RepL K Z vs ds) : ∀ k : Nat, RepL K Z (List.replicate k vs).flatten (List.replicate k ds).flatten
  | 0 => .nil
  | k + 1 => by
    rw [List.replicate_succ, List.replicate_succ, List.flatten_cons, List.flatten_cons]
    exact r.append (r.rep k)
theorem me_rep (ha : MV X ρ a (.lst (ds.map .fz))) (hb : ME X ρ b (.fz (.int k))) (hk : -(2 ^ 63) ≤ k ∧ k < 2 ^ 63) (hl : ds.length * k.toNat ≤ sizeLine) : ME X ρ (.BinOp a .Mult b pos) (.lst ((repG ds k).map .fz)) := .mk fun Z0 F Z σ H s Q q =>
  PE_w (pe_op op_rep pe_w pe_w) (ha.run Z0 F Z σ H s _ fun v Z1 H1 A1 g1 r1 => hb.run Z0 F Z1 σ H1 (s.grow g1) _ fun w Z2 H2 A2 g2 r2 n2 => by
    cases r2 with
    | fz r2 =>
      cases r2
      cases r1 with
      | @lst l vs _ A h0 r1 =>
        have g := g1.trans g2
        obtain ⟨_, r1⟩ := r1.fzs
        refine ⟨l, k, vs, rfl, rfl, g2.hh _ _ h0, hk.1, hk.2, by rw [r1.length]; exact hl, fun p hp => ?_⟩
        exact q _ Z2 _ [p] (g.trans (Gr.new g.zh hp)) (.lst upd_same ((r1.mono g2.zz).rep _).own) (new_one (g.hh.free hp) (g.zh.free hp)))
/-- xs + ys, lists of its own -/
theorem me_catL {es1 : List D} (ha : MV X ρ a (.lst (ds.map .fz))) (hb : MV X ρ b (.lst (es1.map .fz))) (hl : ds.length + es1.length ≤ sizeLine) : ME X ρ (.BinOp a .Add b pos) (.lst ((ds ++ es1).map .fz)) := .mk fun Z0 F Z σ H s Q q =>
  PE_w (pe_op op_cat pe_w pe_w) (ha.run Z0 F Z σ H s _ fun v Z1 H1 A1 g1 r1 => hb.run Z0 F Z1 σ H1 (s.grow g1) _ fun w Z2 H2 A2 g2 r2 => by
    cases r2 with
    | @lst l2 us _ A2 h2 r2 =>
      cases r1 with
      | @lst l vs _ A h0 r1 =>
        have g := g1.trans g2
        obtain ⟨_, r1⟩ := r1.fzs
        obtain ⟨_, r2⟩ := r2.fzs
        refine ⟨l, l2, vs, us, rfl, rfl, g2.hh _ _ h0, h2, by rw [r1.length, r2.length]; exact hl, fun p hp => ?_⟩
        exact q _ Z2 _ [p] (g.trans (Gr.new g.zh hp)) (.lst upd_same ((r1.mono g2.zz).append r2).own) (new_one (g.hh.free hp) (g.zh.free hp)))
/-- xs[::-1] -/
theorem me_revL {kk : Nat} (ha : ML X ρ a ds) : ME X ρ (.Subscript a (.Slice none none (some (.UnaryOp .USub (.Constant (.int 1) kk p1) p2)) p3) pos) (.lst (ds.reverse.map .fz)) := .mk fun Z0 F Z σ H s Q q =>
  PE_w (L2.pe_revL pe_w) (ha.run Z0 F Z σ H s _ fun l vs Z1 H1 g1 l1 r1 => ⟨l, vs, rfl, l1, fun p hp =>
    q _ Z1 _ [p] (g1.trans (Gr.new g1.zh hp)) (.lst upd_same r1.reverse.own) (new_one (g1.hh.free hp) (g1.zh.free hp))⟩)
/-- a op b op' c, whole numbers -/
theorem mt_chain {op op' : CmpOp} {f f' : Int → Int → Bool} (ho : OpR X (compareOp op) (rI0 fun i j => .bl (f i j))) (ho' : OpR X (compareOp op') (rI0 fun i j => .bl (f' i j))) (ha : ME X ρ a (.fz (.int m))) (hb : ME X ρ b (.fz (.int n))) (hc : ME X ρ c (.fz (.int k)))
    (hm : lastMarks [op, op'] [b, c] = false := by with_unfolding_all rfl) : MT X ρ (.Compare a [op, op'] [b, c] pos) (f m n && f' n k) := .mk fun Z0 F Z σ H s Q q =>
  PT_w (pt_chain ho ho' pe_w pe_w pe_w hm) (ha.run Z0 F Z σ H s _ fun v Z1 H1 A1 g1 r1 n1 => hb.run Z0 F Z1 σ H1 (s.grow g1) _ fun w Z2 H2 A2 g2 r2 n2 => by
    cases r1 with
    | fz r1 =>
      cases r1
      cases r2 with
      | fz r2 =>
        cases r2
        refine ⟨m, n, rfl, rfl, f m n, rfl, ?_⟩
        cases hf : f m n with
        | false =>
          rw [if_neg Bool.false_ne_true]
          have q' := q Z2 H2 (g1.trans g2)
          rw [hf] at q'
          exact ⟨false, rfl, q'⟩
        | true =>
          rw [if_pos rfl]
          refine hc.run Z0 F Z2 σ H2 (s.grow (g1.trans g2)) _ fun y Z3 H3 A3 g3 r3 n3 => ?_
          cases r3 with
          | fz r3 =>
            cases r3
            have q' := q Z3 H3 ((g1.trans g2).trans g3)
            rw [hf] at q'
            exact ⟨n, k, rfl, rfl, f' n k, rfl, q'⟩)
theorem me_chain {op op' : CmpOp} {f f' : Int → Int → Bool} (ho : OpR X (compareOp op) (rI0 fun i j => .bl (f i j))) (ho' : OpR X (compareOp op') (rI0 fun i j => .bl (f' i j))) (ha : ME X ρ a (.fz (.int m))) (hb : ME X ρ b (.fz (.int n))) (hc : ME X ρ c (.fz (.int k)))
    (hm : lastMarks [op, op'] [b, c] = false := by with_unfolding_all rfl) : ME X ρ (.Compare a [op, op'] [b, c] pos) (.fz (.bl (f m n && f' n k))) := .mk fun Z0 F Z σ H s Q q =>
  PE_w (pe_chain ho ho' pe_w pe_w pe_w hm) (ha.run Z0 F Z σ H s _ fun v Z1 H1 A1 g1 r1 n1 => hb.run Z0 F Z1 σ H1 (s.grow g1) _ fun w Z2 H2 A2 g2 r2 n2 => by
    cases r1 with
    | fz r1 =>
      cases r1
      cases r2 with
      | fz r2 =>
        cases r2
        refine ⟨m, n, rfl, rfl, f m n, rfl, ?_⟩
        cases hf : f m n with
        | false =>
          rw [if_neg Bool.false_ne_true]
          have q' := q (.bl (f m n && f' n k)) Z2 H2 [] (g1.trans g2) (.fz (.bl _)) .nil
          rw [hf] at q'
          exact q'
        | true =>
          rw [if_pos rfl]
          refine hc.run Z0 F Z2 σ H2 (s.grow (g1.trans g2)) _ fun y Z3 H3 A3 g3 r3 n3 => ?_
          cases r3 with
          | fz r3 =>
            cases r3
            have q' := q (.bl (f m n && f' n k)) Z3 H3 [] ((g1.trans g2).trans g3) (.fz (.bl _)) .nil
            rw [hf] at q'
            exact ⟨n, k, rfl, rfl, q'⟩)
/-! ### wide numbers -/
theorem me_mulW (ha : ME X ρ a (.fz (.int m))) (hb : ME X ρ b (.fz (.int n))) (c : CMulW m n) : ME X ρ (.BinOp a .Mult b pos) (.fz (.int (m * n))) := me_op op_mulW ha hb (.int m) (.int n) (.int _) fun _ _ q => ⟨m, n, rfl, rfl, c, q⟩
/-! ### texts -/
theorem me_strI (hg : Gl X "str") (hm : X.mg "str" = none) (ha : ME X ρ a (.fz (.int m))) (hl : m.natAbs.log2 < 1920) (n1 : NS X a := by exact fun _ => rfl) : ME X ρ (.Call (.Name "str" p0) [a] [] pos) (.fz (.str (toString m))) := .mk fun Z0 F Z σ H s Q q =>
  PE_w (pe_callTy call_str_int hg hm (by decide +kernel) (pa_cons pe_w pa_nil (n1 _)) (he := n1 _)) (ha.run Z0 F Z σ H s _ fun v Z1 H1 A1 g1 r1 n1 => by
    cases r1 with
    | fz r1 =>
      cases r1
      exact ⟨m, rfl, hl, q _ Z1 H1 [] g1 (.fz (.str _)) .nil⟩)
theorem me_intS (hg : Gl X "int") (hm : X.mg "int" = none) (ha : ME X ρ a (.fz (.str p))) (hn : PySem.intText? p = some m) (hl : p.length ≤ 640) (n1 : NS X a := by exact fun _ => rfl) : ME X ρ (.Call (.Name "int" p0) [a] [] pos) (.fz (.int m)) := .mk fun Z0 F Z σ H s Q q =>
  PE_w (pe_callTy call_int_str hg hm (by decide +kernel) (pa_cons pe_w pa_nil (n1 _)) (he := n1 _)) (ha.run Z0 F Z σ H s _ fun v Z1 H1 A1 g1 r1 n1 => by
    cases r1 with
    | fz r1 =>
      cases r1
      exact ⟨p, m, rfl, hn, hl, q _ Z1 H1 [] g1 (.fz (.int _)) .nil⟩)
theorem me_divmod (hg : Gl X "divmod") (hm : X.mg "divmod" = none) (ha : ME X ρ a (.fz (.int m))) (hb : ME X ρ b (.fz (.int n))) (c : CDiv m n := by exact ⟨by decide, by decide⟩) (n1 : NS X a := by exact fun _ => rfl) (n2 : NS X b := by exact fun _ => rfl) :
    ME X ρ (.Call (.Name "divmod" p0) [a, b] [] pos) (.fz (.tup [.int (m / n), .int (m % n)])) := .mk fun Z0 F Z σ H s Q q =>
  PE_w (pe_callB call_divmod hg hm (by decide +kernel) (pa_cons pe_w (pa_cons pe_w pa_nil (n2 _)) (n1 _)) (he := n1 _) (hpl := by rw [n2 []]; rfl)) (ha.run Z0 F Z σ H s _ fun v Z1 H1 A1 g1 r1 n1 => hb.run Z0 F Z1 σ H1 (s.grow g1) _ fun w Z2 H2 A2 g2 r2 n2 => by
    cases r1 with
    | fz r1 =>
      cases r2 with
      | fz r2 =>
        cases r1
        cases r2
        have g := g1.trans g2
        refine ⟨m, n, rfl, c, fun p hp => ?_⟩
        exact q _ _ _ [] (g.trans (Gr.newz g.zh hp)) (.fz (.tup (.of upd_same) (.cons (.int _) (.cons (.int _) .nil)))) .nil)
/-- a sign in a written text -/
theorem me_inS {ch : Nat} (ha : ME X ρ a (.fz (.str ⟨#[ch]⟩))) (hb : ME X ρ b (.fz (.str q))) (hm : behindInMarks .In b = false := by rfl) : ME X ρ (.Compare a [.In] [b] pos) (.fz (.bl (decide (ch ∈ q.cps.toList)))) := me_cmp op_in_sign ha hb (.str _) (.str _) (fun _ _ k => ⟨ch, q, rfl, rfl, k⟩) hm
theorem mt_inS {ch : Nat} (ha : ME X ρ a (.fz (.str ⟨#[ch]⟩))) (hb : ME X ρ b (.fz (.str q))) (hm : behindInMarks .In b = false := by rfl) : MT X ρ (.Compare a [.In] [b] pos) (decide (ch ∈ q.cps.toList)) := mt_cmp op_in_sign ha hb (.str _) (.str _) (fun _ _ k => ⟨ch, q, rfl, rfl, k⟩) hm
theorem me_niS {ch : Nat} (ha : ME X ρ a (.fz (.str ⟨#[ch]⟩))) (hb : ME X ρ b (.fz (.str q))) (hm : behindInMarks .NotIn b = false := by rfl) : ME X ρ (.Compare a [.NotIn] [b] pos) (.fz (.bl (!decide (ch ∈ q.cps.toList)))) := me_cmp op_notIn_sign ha hb (.str _) (.str _) (fun _ _ k => ⟨ch, q, rfl, rfl, k⟩) hm
theorem mt_niS {ch : Nat} (ha : ME X ρ a (.fz (.str ⟨#[ch]⟩))) (hb : ME X ρ b (.fz (.str q))) (hm : behindInMarks .NotIn b = false := by rfl) : MT X ρ (.Compare a [.NotIn] [b] pos) (!decide (ch ∈ q.cps.toList)) := mt_cmp op_notIn_sign ha hb (.str _) (.str _) (fun _ _ k => ⟨ch, q, rfl, rfl, k⟩) hm
/-- x = [elt for target in source], on one line -/
theorem m_setLc {α : Type} {xs : List α} {enc : α → D} {wi : TI} {g : TG} {scope : Scope} {vs : List Nat} (p : ∀ te : TE, (∀ (s : Shared) (H : Hp) (C : Addr) (cl : List (Str × Addr)) (fp : List Addr), PE (X.blk s H scope (compEnvC scope cl C X.env) fp) elt te) → PS X st (tAsg (tLc wi g tYes te vs) (gName i)))
    (h : MIc X ρ wi (xs.map enc)) (f : α → D) (hz : xs.length < sizeLine)
    (hs : ∀ d ∈ xs, ∃ τ ws, MTg g X.K (wipeS ρ vs) (enc d) τ ws ∧ (∀ w ∈ ws, w ∈ vs) ∧ ∀ (s : Shared) (H : Hp) (C : Addr) (cl : List (Str × Addr)) (fp : List Addr), ME (X.blk s H scope (compEnvC scope cl C X.env) fp) τ elt (.fz (f d)))
    (k : G.nx (ρ.set i (some (.lst ((xs.map f).map .fz))))) (hi : i < ρ.length := by exact Nat.le_of_ble_eq_true rfl) : MS1 X ρ st G := .mk fun Z0 F Z σ H D s gd => by
  refine PS_w (p (fun σ H Q => ∀ (s : Shared) (H' : Hp) (C : Addr) (cl : List (Str × Addr)) (fp : List Addr), wE (X.blk s H' scope (compEnvC scope cl C X.env) fp) elt σ H Q) fun s H' C cl fp => ⟨fun pins s' σ H Q I k => k s H' C cl fp pins s' I⟩) ?_
  refine lc_run h (fun _ => true) f hz (fun d m => ?_) s fun v Z' H' A g' r n => ?_
  · obtain ⟨τ, ws, t1, t2, t3⟩ := hs d m
    refine ⟨τ, ws, t1, t2, fun Z0 F Z σ H s Q q => q Z H (Gr.refl s.ex), fun _ Z0 F Z σ H s Q q s' H' C cl fp => (t3 s' H' C cl fp).run Z0 F Z σ H s Q fun v Z' H' A g r n => ?_⟩
    cases r with
    | fz r => exact q v Z' H' g r
  · rw [List.filter_eq_self.mpr fun _ _ => rfl] at r
    exact gd.nx _ Z' _ H' k (s.put g' r n hi)
theorem me_gI {t : Tok} (hm : X.mg nm = some (.int m t)) (hg : Gl X nm := by rfl) (hd : (nm == ("__debug__" : Str)) = false := by decide) : ME X ρ (.Name nm pos) (.fz (.int m)) := me_c (pe_glob (v := .int m) hg hm ⟨t, rfl⟩ hd) (.int m)
theorem me_gS {t : Tok} (hm : X.mg nm = some (.str p t)) (hg : Gl X nm := by rfl) (hd : (nm == ("__debug__" : Str)) = false := by decide) : ME X ρ (.Name nm pos) (.fz (.str p)) := me_c (pe_glob (v := .str p) hg hm ⟨t, rfl⟩ hd) (.str p)
end
end M
namespace M
open PySem L2 PySem.Spec PyProof.Rows
theorem Le.trans : ∀ {ρ τ υ : Slots}, Le ρ τ → Le τ υ → Le ρ υ
  | _, _, _, .nil, h => h
  | _, _, _, .no l, .no r => .no (l.trans r)
  | _, _, _, .no l, .eq r => .no (l.trans r)
  | _, _, _, .eq l, .no r => .no (l.trans r)
  | _, _, _, .eq l, .eq r => .eq (l.trans r)
/-! ### instances of own classes -/
/-- what the text tells of a class: its attributes' names are no names of the class -/
structure OC (K : PySem.W.Frag) (C : Addr) (ns : List Str) : Prop where
  cl : Cls K C
  na : ∀ f ∈ ns, NoAttr K C f
def nmAt : List Str → Str → Option Nat
  | [], _ => none
  | n :: r, f => if f = n then some 0 else (nmAt r f).map (· + 1)
theorem nmAt_mem : ∀ {ns : List Str} {f : Str} {j : Nat}, nmAt ns f = some j → f ∈ ns
  | n :: r, f, j, h => by
    unfold nmAt at h
    by_cases e : f = n
    · subst e
      exact List.mem_cons_self
    · rw [if_neg e] at h
      cases h1 : nmAt r f with
      | none =>
        rw [h1] at h
        cases h
      | some i => exact List.mem_cons_of_mem _ (nmAt_mem h1)
theorem look_zip : ∀ {ns : List Str} {f : Str} {j : Nat} {vs : List V} {v : V}, nmAt ns f = some j → vs[j]? = some v → (ns.zip vs).lookup f = some v
  | n :: r, f, j, vs, v, h, hv => by
    unfold nmAt at h
    cases vs with
    | nil => simp at hv
    | cons u us =>
      by_cases e : f = n
      · rw [if_pos e] at h
        cases h
        simp at hv
        subst hv
        show List.lookup f ((n, u) :: r.zip us) = _
        simp only [List.lookup, beq_iff_eq.mpr e]
      · rw [if_neg e] at h
        cases h1 : nmAt r f with
        | none =>
          rw [h1] at h
          cases h
        | some i =>
          rw [h1] at h
          cases h
          show List.lookup f ((n, u) :: r.zip us) = _
          simp only [List.lookup, beq_eq_false_iff_ne.mpr e]
          exact look_zip h1 (by simpa using hv)
theorem look_none : ∀ {ns : List Str} {f : Str} {vs : List V}, nmAt ns f = none → (ns.zip vs).lookup f = none
  | [], f, vs, _ => by simp
  | n :: r, f, [], _ => by simp
  | n :: r, f, u :: us, h => by
    unfold nmAt at h
    by_cases e : f = n
    · rw [if_pos e] at h
      cases h
    · rw [if_neg e] at h
      show List.lookup f ((n, u) :: r.zip us) = none
      simp only [List.lookup, beq_eq_false_iff_ne.mpr e]
      refine look_none ?_
      cases h1 : nmAt r f with
      | none => rfl
      | some i =>
        rw [h1] at h
        cases h
/-- a name is put: it stands there, or comes behind -/
def nsPut : List Str → Str → List Str
  | [], f => [f]
  | n :: r, f => if n = f then n :: r else n :: nsPut r f
def xsPut {α : Type} : List Str → Str → List α → α → List α
  | n :: r, f, u :: us, v => if n = f then v :: us else u :: xsPut r f us v
  | _, _, _, v => [v]
theorem put_zip : ∀ {ns : List Str} {f : Str} {vs : List V} {v : V}, vs.length = ns.length → putF f v (ns.zip vs) = (nsPut ns f).zip (xsPut ns f vs v)
  | [], f, [], v, _ => rfl
  | n :: r, f, u :: us, v, h => by
    show putF f v ((n, u) :: r.zip us) = _
    unfold putF nsPut xsPut
    by_cases e : n = f
    · rw [if_pos e, if_pos e, if_pos e]
      rfl
    · rw [if_neg e, if_neg e, if_neg e, put_zip (by simpa using h)]
      rfl
section
variable {K : PySem.W.Frag} {Z Z' F F' H H' : Hp}
theorem RepOL.put {w : V} {o : O} {B : List Addr} (r : RepO K Z F H w o B) (nB : B.Nodup) : ∀ {ns : List Str} {f : Str} {vs : List V} {os : List O} {A : List Addr}, vs.length = ns.length → RepOL K Z F H vs os A → A.Nodup → (∀ a ∈ A, a ∉ B) →
    ∃ A', RepOL K Z F H (xsPut ns f vs w) (xsPut ns f os o) A' ∧ A'.Nodup ∧ ∀ a ∈ A', a ∈ A ∨ a ∈ B
  | [], f, [], [], _, _, .nil, _, _ => ⟨B ++ [], .cons r .nil, by rw [List.append_nil]; exact nB, fun a m => .inr (by rw [List.append_nil] at m; exact m)⟩
  | n :: ns, f, v :: vs, o1 :: os, _, hl, .cons (A := A1) (B := A2) h1 h2, nA, d => by
    obtain ⟨n1, n2, n3⟩ := List.nodup_append.mp nA
    unfold xsPut
    by_cases e : n = f
    · rw [if_pos e, if_pos e]
      refine ⟨B ++ A2, .cons r h2, List.nodup_append.mpr ⟨nB, n2, fun a ha b hb e => ?_⟩, fun a m => ?_⟩
      · subst e
        exact d a (List.mem_append_right _ hb) ha
      · rcases List.mem_append.mp m with m | m
        · exact .inr m
        · exact .inl (List.mem_append_right _ m)
    · rw [if_neg e, if_neg e]
      obtain ⟨A', q1, q2, q3⟩ := RepOL.put r nB (ns := ns) (f := f) (vs := vs) (os := os) (by simpa using hl) h2 n2 fun a m => d a (List.mem_append_right _ m)
      refine ⟨A1 ++ A', .cons h1 q1, List.nodup_append.mpr ⟨n1, q2, fun a ha b hb e => ?_⟩, fun a m => ?_⟩
      · subst e
        rcases q3 a hb with z | z
        · exact n3 a ha a z rfl
        · exact d a (List.mem_append_left _ ha) z
      · rcases List.mem_append.mp m with m | m
        · exact .inl (List.mem_append_left _ m)
        · exact (q3 a m).imp (List.mem_append_right _) id
theorem RepO.unAt {v : V} {a C : Addr} {ns : List Str} {os : List O} {A : List Addr} (r : RepO K Z F H v (.at a C ns os) A) : RepO K Z F H v (.ins C ns os) A := by
  cases r with
  | «at» h q => exact .ins h q
end
section
variable {X : Cx} {ρ : Slots} {e a b c elt : Expr} {es rest : List Expr} {st : Stmt} {sts : List Stmt} {G : Go} {o o1 o2 : O} {d : D} {ds : List D} {os : List O} {pos p0 p1 p2 p3 p4 p5 p6 : Pos} {i : Nat} {x nm f : Str} {m n k : Int} {p q : Str} {C : Addr} {ns : List Str}
/-- e.f of a frozen instance -/
theorem me_fld {j : Nat} (h : MV X ρ e (.fz (.ins C ns ds))) (cc : OC X.K C ns) (hd : ds[j]? = some d := by rfl) (hj : nmAt ns f = some j := by decide +kernel) (hb : attributeBase e f X.env (eval e X.env) = eval e X.env := by rfl) : ME X ρ (.Attribute e f pos) (.fz d) := .mk fun Z0 F Z σ H s Q q =>
  PE_w (pe_fld pe_w hb) (h.run Z0 F Z σ H s _ fun v Z1 H1 A g1 r1 => by
    cases r1 with
    | fz r1 =>
      cases r1 with
      | @ins a C dx ns vs ds hz rl =>
        obtain ⟨v, hv, rv⟩ := rl.get hd
        exact ⟨a, C, dx, _, v, rfl, g1.zh _ _ hz, cc.cl, cc.na f (nmAt_mem hj), look_zip hj hv, q v Z1 H1 [] g1 (.fz rv) .nil⟩)
/-- e.f of an own instance -/
theorem mv_fld {j : Nat} (h : MV X ρ e (.ins C ns os)) (cc : OC X.K C ns) (hd : os[j]? = some o := by rfl) (hj : nmAt ns f = some j := by decide +kernel) (hb : attributeBase e f X.env (eval e X.env) = eval e X.env := by rfl) : MV X ρ (.Attribute e f pos) o := .mk fun Z0 F Z σ H s Q q =>
  PE_w (pe_fld pe_w hb) (h.run Z0 F Z σ H s _ fun v Z1 H1 A g1 r1 => by
    cases r1 with
    | @ins a C dx ns vs os A hz rl =>
      obtain ⟨v, B, hv, rv⟩ := rl.get hd
      exact ⟨a, C, dx, _, v, rfl, hz, cc.cl, cc.na f (nmAt_mem hj), look_zip hj hv, q v Z1 H1 B g1 rv⟩)
theorem MV.unAt {l : Addr} (h : MV X ρ e (.at l C ns os)) : MV X ρ e (.ins C ns os) := .mk fun Z0 F Z σ H s Q q => h.run Z0 F Z σ H s Q fun v Z1 H1 A g r => q v Z1 H1 A g r.unAt
theorem ME.unAt {l : Addr} (h : ME X ρ e (.at l C ns os)) : ME X ρ e (.ins C ns os) := .mk fun Z0 F Z σ H s Q q => h.run Z0 F Z σ H s Q fun v Z1 H1 A g r => q v Z1 H1 A g r.unAt
theorem mv_fldA {l : Addr} {j : Nat} (h : MV X ρ e (.at l C ns os)) (cc : OC X.K C ns) (hd : os[j]? = some o := by rfl) (hj : nmAt ns f = some j := by decide +kernel) (hb : attributeBase e f X.env (eval e X.env) = eval e X.env := by rfl) : MV X ρ (.Attribute e f pos) o := mv_fld h.unAt cc hd hj hb
/-- x.f = e, x a slot with an own instance at a known place; all: every attribute's name that the class has -/
theorem m_setFld {l : Addr} {all : List Str} (pn : PE X (.Name x p1) (tVar i)) (hi : ρ[i]? = some (some (.at l C ns os))) (hl : os.length = ns.length := by rfl) (h1000 : ns.length < 1000 := by decide) (cc : OC X.K C all) (hm : f ∈ all := by decide +kernel) (he : ME X ρ e o)
    (kk : G.nx (ρ.set i (some (.at l C (nsPut ns f) (xsPut ns f os o)))))
    (hs : swapsWith e (some (.Attribute (.Name x p1) f p2)) p3.line X.env = pure false := by rfl) : MS1 X ρ (.Assign [.Attribute (.Name x p1) f p2] e p3) G := .mk fun Z0 F Z σ H D s g => by
  obtain ⟨v, A, e1, r1, nA, dA, k1⟩ := s.upd hi
  cases r1 with
  | @«at» l C dx ns vs os A h0 r1 =>
    have hlv : vs.length = ns.length := by rw [r1.length]; exact hl
    refine PS_w (ps_fld pn pe_w hs) (he.run Z0 F Z σ H s _ fun w Z1 H1 B g1 r2 n2 => ?_)
    refine ⟨_, e1, l, C, dx, _, rfl, g1.hh _ _ h0, cc.cl, cc.na f hm, by rw [List.length_zip, hlv]; omega, ?_⟩
    rw [put_zip hlv]
    obtain ⟨na, nA'⟩ := List.nodup_cons.mp nA
    have zl : Z1 l = none := by
      rw [g1.nw l _ h0]
      exact (dA l List.mem_cons_self).1
    have there : ∀ b ∈ l :: A, ∃ u, H b = some u := (RepO.at (Z := Z) (F := F) (H := H) h0 r1).there
    have nb : ∀ b ∈ B, b ≠ l := fun b m q => by
      have := (n2.2 b m).1
      rw [q, h0] at this
      cases this
    have r1' : RepOL X.K Z1 F (upd H1 l (.ins C dx ((nsPut ns f).zip (xsPut ns f vs w)))) vs os A := r1.mono g1.zz (Ex.refl _) fun b m u hu => by
      have ne : b ≠ l := fun q => na (by rw [← q]; exact m)
      rw [upd_ne ne]
      exact g1.hh b u hu
    have r2' : RepO X.K Z1 F (upd H1 l (.ins C dx ((nsPut ns f).zip (xsPut ns f vs w)))) w o B := r2.frame fun b m => upd_ne (nb b m)
    obtain ⟨A', q1, q2, q3⟩ := RepOL.put r2' n2.1 hlv r1' nA' fun b m mb => by
      obtain ⟨u, hu⟩ := there b (List.mem_cons_of_mem _ m)
      rw [(n2.2 b mb).1] at hu
      cases hu
    refine g.nx _ Z1 σ _ kk ?_
    refine k1 g1.zz g1.nw (g1.zh.mut zl) (fun b nb u hu => ?_) (.at upd_same q1) (List.nodup_cons.mpr ⟨fun m => ?_, q2⟩) fun b m => ?_
    · have ne : b ≠ l := fun q => nb (by rw [q]; exact List.mem_cons_self)
      rw [upd_ne ne]
      exact g1.hh b u hu
    · rcases q3 _ m with z | z
      · exact na z
      · exact nb _ z rfl
    · rcases List.mem_cons.mp m with z | z
      · exact .inl (by rw [z]; exact List.mem_cons_self)
      · rcases q3 _ z with z | z
        · exact .inl (List.mem_cons_of_mem _ z)
        · exact .inr (n2.2 b z)
/-! ### made by __init__ -/
/-- the promise of an __init__: of a new instance it makes one with the attributes ns -/
def SpI {α : Type} (K : PySem.W.Frag) (C : Addr) (ns : List Str) (ar : α → List O) (pre : α → Prop) (res : α → List O) : Sp := fun vs H Q _ => ∃ (x : α) (Z F : Hp) (l dx : Addr) (vs' : List V), vs = .ref l :: vs' ∧ Ex Z F ∧ Ex F H ∧ F l = none ∧ H l = some (.ins C dx []) ∧ RepOL K Z F F vs' (ar x) [] ∧ pre x ∧
  ∀ Z' H' A, Gr Z F Z' H' → RepO K Z' (fun _ => none) H' (.ref l) (.at l C ns (res x)) A → New F Z' A → Q .non H'
structure Mk1 (P : Program) (w : World) (K : PySem.W.Frag) (mg : Str → Option Value) (base : Heap) (name : Str) (C : Addr) (k : Nat) (ps : List Str) (sp : Sp) : Prop where
  ex : ∃ (f : Addr) (fd : FuncData), mg name = some (.ref C) ∧ Mk K C f ∧ Binds K fd ps [] ∧ FnOk P w K mg base CX0 k f fd ps sp
theorem me_make {α : Type} {ar : α → List O} {pre : α → Prop} {res : α → List O} {k : Nat} {ps : List Str} (c : Mk1 X.prog X.w X.K X.mg X.base nm C k ps (SpI X.K C ns ar pre res)) (x : α) (ha : MA X ρ (e :: es) (ar x)) (hp : pre x) (hr : Room (k + 1) X.A) {os : List O} (hres : res x = os := by first | (dsimp only; done) | (dsimp only; rfl) | rfl) (hg : Gl X nm := by rfl)
    (hdb : (nm == ("__debug__" : Str)) = false := by decide) (he : starEach (e :: es) X.env = (false, eval e X.env) :: starEach es X.env := by rfl) (hpl : (backTo pos (starEach es X.env)).any (·.1) = false := by rfl) : ME X ρ (.Call (.Name nm p0) (e :: es) [] pos) (.ins C ns os) := by
  subst hres
  obtain ⟨f, fd, hm, M, hb, F⟩ := c.ex
  exact .mk fun Z0 F0 Z σ H s Q q => PE_w (pe_make M F hr hg hm hb .nil pass0 pa_w hdb he hpl) (ha.run Z0 F0 Z σ H s _ fun vs Z1 H1 g1 r1 l dx nl ndx ne =>
    ⟨x, Z1, H1, l, dx, vs, by rw [List.append_nil], g1.zh, (Ex.new ndx).trans (Ex.new (by rw [upd_ne ne.symm]; exact nl)), nl, upd_same, r1, hp, fun Z2 H2 A g2 r2 n2 =>
      ⟨rfl, q (.ref l) Z2 H2 A (g1.trans g2) (r2.unAt.mono (Ex.refl _) (fun _ _ z => by cases z) fun _ _ _ z => z) ⟨n2.1, fun a m => ⟨g1.hh.free (n2.2 a m).1, (n2.2 a m).2⟩⟩⟩⟩)
/-- an __init__'s body keeps its promise -/
theorem fn_mI {α : Type} {P : Program} {w : World} {K : PySem.W.Frag} {mg : Str → Option Value} {base : Heap} {x qual : Str} {st : Stmt} {f : Addr} {fd : FuncData} {N ps : List Str} {k : Nat} {ar : α → List O} {pre : α → Prop} {res : α → List O} {C : Addr} {ns : List Str}
    (F : Fun K x qual st f fd) (S : FnScope N ps (defScope st)) (hl : ∀ x, (ar x).length + 1 = ps.length) (hn : ∀ x, pre x → O.nvL (res x) = true)
    (hb : ∀ (cdv : Value) (A : Around) (outer : List Env) (s : Shared) (H : Hp) (E : XK), Room k (A.deeper (envOfC qual (defScope st) s.heap.objs.size f cdv)) → ∀ (l : Addr) x, pre x →
      MS (cxOf CX0 P w K mg base N qual (defScope st) f cdv A outer s H E).nox (some (.at l C [] []) :: (ar x).map some ++ List.replicate (N.length - ps.length) none) (defBody st) { nx := fun ρ => ρ[0]? = some (some (.at l C ns (res x))) }) :
    FnOk P w K mg base CX0 (k + 1) f fd ps (SpI K C ns ar pre res) := by
  refine F.ok S (fun vs H Q E h => ?_) (fun cdv A outer s H vs Q E hr h => ?_)
  · obtain ⟨x, Z, F, l, dx, vs', rfl, _, _, _, _, r, _⟩ := h
    rw [List.length_cons, r.length, hl]
  · obtain ⟨x, Z, F0, l, dx, vs', rfl, ez, ef, nl, hi, r, hp, q⟩ := h
    have zl : Z l = none := ez.free nl
    have st0 : StL K Z F0 H (some (.at l C [] []) :: (ar x).map some) (some (.ref l) :: vs'.map some) ([l] ++ []) := .so (.at (dx := dx) hi .nil) (stL_args (r.mono (Ex.refl _) (Ex.refl _) fun _ m => nomatch m))
    refine ⟨_, pss_w, (hb cdv A outer s H E hr l x hp).run Z F0 Z _ H _ ⟨⟨Ex.refl _, ef, ez.trans ef, fun _ _ _ => rfl⟩, [l] ++ [], ?_, by simp, fun a m => ?_⟩ ⟨fun ρ Z' σ H' e s' => ?_, fun _ _ _ _ z => z.elim, fun _ _ _ _ z => z.elim, fun _ _ _ _ _ z => z.elim, fun _ _ _ _ _ _ z => z.elim, GX.never fun _ z => z⟩⟩
    · have e : L2.start N (.ref l :: vs') = (some (.ref l) :: vs'.map some) ++ List.replicate (N.length - ps.length) none := by
        unfold L2.start
        rw [List.length_cons, r.length, hl]
        rfl
      rw [e]
      exact stL_more _ st0
    · have : a = l := by simpa using m
      subst this
      exact ⟨zl, nl⟩
    · obtain ⟨A1, t1, t2, t3⟩ := s'.st
      obtain ⟨v, B, u1, u2, u3, u4, _⟩ := t1.at e t2
      cases u2 with
      | «at» h0 rl => exact q Z' H' _ s'.gr ((RepO.at h0 rl).unF (show O.nvL (res x) = true from hn x hp)) ⟨u3, fun a m => ⟨(t3 a (u4 a m)).2, (t3 a (u4 a m)).1⟩⟩
/-! ### methods that change nothing -/
structure Mt1 (P : Program) (w : World) (K : PySem.W.Frag) (mg : Str → Option Value) (base : Heap) (C : Addr) (m : Str) (k : Nat) (ps : List Str) (sp : Sp) : Prop where
  ex : ∃ (f : Addr) (fd : FuncData), Meth K C m f ∧ Binds K fd ps [] ∧ FnOk P w K mg base CX0 k f fd ps sp
theorem me_mt {α : Type} {ar : α → List O} {pre : α → Prop} {res : α → O} {k : Nat} {ps : List Str} {ro : List O} {pl : Sem Bool} (c : Mt1 X.prog X.w X.K X.mg X.base C nm k ps (SpM X.K ar pre res)) (cc : OC X.K C ns) (x : α) (ho : MV X ρ a (.fz (.ins C ns ds))) (ha : MA X ρ (e :: es) ro) (hx : ar x = .fz (.ins C ns ds) :: ro) (hp : pre x) (hr : Room k X.A) {o : O} (hres : res x = o := by first | (dsimp only; done) | (dsimp only; rfl) | rfl)
    (hnm : nmAt ns nm = none := by decide +kernel) (he : starEach (e :: es) X.env = (false, eval e X.env) :: starEach es X.env := by rfl) (hpl : (backTo pos (starEach es X.env)).any (·.1) = false := by rfl)
    (ht : eval (.Call (.Attribute a nm p1) (e :: es) [] pos) X.env = (do
      let ov ← eval a X.env
      standAt p1.atName
      let (f, first) ← holding [ov] (getMethod ov nm pl)
      callWith pos f first (backTo pos (starEach (e :: es) X.env)) (backToKw pos (keywordEach [] X.env))) := by rfl) : ME X ρ (.Call (.Attribute a nm p1) (e :: es) [] pos) o := by
  subst hres
  obtain ⟨f, fd, hm, hb, F⟩ := c.ex
  exact .mk fun Z0 F0 Z σ H s Q q => PE_w (pe_meth (pl := pl) pe_w cc.cl hm F hr hb .nil pass0 pa_w he hpl ht) (ho.run Z0 F0 Z σ H s _ fun v Z1 H1 A1 g1 r1 => by
    cases r1 with
    | fz r1 =>
      have r1' := r1
      cases r1' with
      | @ins l C dx ns vs0 ds hz rl =>
        refine ⟨l, dx, _, rfl, g1.zh _ _ hz, look_none hnm, ha.run Z0 F0 Z1 σ H1 (s.grow g1) _ fun vs Z2 H2 g2 r2 => ?_⟩
        refine ⟨x, Z2, g2.zh, by rw [List.append_nil, hx]; exact .cons (A := []) (.fz (r1.mono g2.zz)) r2, hp, fun v Z3 H3 A g3 r3 n3 => ?_⟩
        exact q v Z3 H3 A ((g1.trans g2).trans g3) (r3.mono (Ex.refl _) (fun _ _ z => by cases z) fun _ _ _ z => z) ⟨n3.1, fun a m => ⟨(g1.trans g2).hh.free (n3.2 a m).1, (n3.2 a m).2⟩⟩)
theorem me_mt0 {α : Type} {ar : α → List O} {pre : α → Prop} {res : α → O} {k : Nat} {ps : List Str} {pl : Sem Bool} (c : Mt1 X.prog X.w X.K X.mg X.base C nm k ps (SpM X.K ar pre res)) (cc : OC X.K C ns) (x : α) (ho : MV X ρ a (.fz (.ins C ns ds))) (hx : ar x = [.fz (.ins C ns ds)]) (hp : pre x) (hr : Room k X.A) {o : O} (hres : res x = o := by first | (dsimp only; done) | (dsimp only; rfl) | rfl)
    (hnm : nmAt ns nm = none := by decide +kernel)
    (ht : eval (.Call (.Attribute a nm p1) [] [] pos) X.env = (do
      let ov ← eval a X.env
      standAt p1.atName
      let (f, first) ← holding [ov] (getMethod ov nm pl)
      callWith pos f first (backTo pos (starEach [] X.env)) (backToKw pos (keywordEach [] X.env))) := by rfl) : ME X ρ (.Call (.Attribute a nm p1) [] [] pos) o := by
  subst hres
  obtain ⟨f, fd, hm, hb, F⟩ := c.ex
  exact .mk fun Z0 F0 Z σ H s Q q => PE_w (pe_meth0 (pl := pl) pe_w cc.cl hm F hr hb .nil pass0 ht) (ho.run Z0 F0 Z σ H s _ fun v Z1 H1 A1 g1 r1 => by
    cases r1 with
    | fz r1 =>
      have r1' := r1
      cases r1' with
      | @ins l C dx ns vs0 ds hz rl =>
        refine ⟨l, dx, _, rfl, g1.zh _ _ hz, look_none hnm, ?_⟩
        refine ⟨x, Z1, g1.zh, by rw [List.append_nil, hx]; exact .cons (A := []) (.fz r1) .nil, hp, fun v Z3 H3 A g3 r3 n3 => ?_⟩
        exact q v Z3 H3 A (g1.trans g3) (r3.mono (Ex.refl _) (fun _ _ z => by cases z) fun _ _ _ z => z) ⟨n3.1, fun a m => ⟨g1.hh.free (n3.2 a m).1, (n3.2 a m).2⟩⟩)
end
end M
namespace M
open PySem L2 PySem.Spec PyProof.Rows
section
variable {X : Cx} {ρ : Slots} {e a b c elt : Expr} {es rest : List Expr} {st : Stmt} {sts : List Stmt} {G : Go} {o o1 o2 : O} {d : D} {ds : List D} {os : List O} {pos p0 p1 p2 p3 p4 p5 p6 : Pos} {i : Nat} {x nm f : Str} {m n k : Int} {p q : Str} {C : Addr} {ns : List Int}
/-- xs.count(k) of ints -/
theorem me_count (ha : ML X ρ a (ns.map .int)) (hb : ME X ρ b (.fz (.int k)))
    (pm : PE X (.Call (.Attribute a "count" p1) [b] [] pos) (tBM X.K "list" (rCntI X.K) (wE X a) (tCons (wE X b) tNil)) := by exact pe_bm PySem.F.plainAttrs_list PySem.F.slot_list_count PySem.F.type_list_count mt_lcount pe_w (pa_cons pe_w pa_nil)) : ME X ρ (.Call (.Attribute a "count" p1) [b] [] pos) (.fz (.int (ns.count k : Nat))) := .mk fun Z0 F Z σ H s Q q =>
  PE_w pm (ha.run Z0 F Z σ H s _ fun l vs Z1 H1 g1 l1 r1 => ⟨.inl ⟨rfl, vs, l1⟩, hb.run Z0 F Z1 σ H1 (s.grow g1) _ fun v Z2 H2 A2 g2 r2 n2 => by
    cases r2 with
    | fz r2 =>
      cases r2
      have e := r1.ints
      subst e
      exact ⟨l, ns, k, rfl, rfl, ex_l g2.hh l1, q _ Z2 H2 [] (g1.trans g2) (.fz (.int _)) .nil⟩⟩)
/-- max(xs), min(xs) of ints -/
theorem me_maxL {m : Int} (hc : X.calm = true) (hg : Gl X "max") (hm : X.mg "max" = none) (ha : ML X ρ a (ns.map .int)) (h1 : m ∈ ns) (h2 : ∀ y ∈ ns, y ≤ m) (n1 : NS X a := by exact fun _ => rfl) : ME X ρ (.Call (.Name "max" p0) [a] [] pos) (.fz (.int m)) := .mk fun Z0 F Z σ H s Q q =>
  PE_w (pe_callB (cr_max hc) hg hm (by decide +kernel) (pa_cons pe_w pa_nil (n1 _)) (he := n1 _)) (ha.run Z0 F Z σ H s _ fun l vs Z1 H1 g1 l1 r1 => by
    have e := r1.ints
    subst e
    refine ⟨l, ns, rfl, l1, List.length_pos_of_mem h1, fun m' k1 k2 => ?_⟩
    have e : m' = m := by
      have := h2 m' k1
      have := k2 m h1
      omega
    subst e
    exact q _ Z1 H1 [] g1 (.fz (.int _)) .nil)
theorem me_minL {m : Int} (hc : X.calm = true) (hg : Gl X "min") (hm : X.mg "min" = none) (ha : ML X ρ a (ns.map .int)) (h1 : m ∈ ns) (h2 : ∀ y ∈ ns, m ≤ y) (n1 : NS X a := by exact fun _ => rfl) : ME X ρ (.Call (.Name "min" p0) [a] [] pos) (.fz (.int m)) := .mk fun Z0 F Z σ H s Q q =>
  PE_w (pe_callB (cr_min hc) hg hm (by decide +kernel) (pa_cons pe_w pa_nil (n1 _)) (he := n1 _)) (ha.run Z0 F Z σ H s _ fun l vs Z1 H1 g1 l1 r1 => by
    have e := r1.ints
    subst e
    refine ⟨l, ns, rfl, l1, List.length_pos_of_mem h1, fun m' k1 k2 => ?_⟩
    have e : m' = m := by
      have := h2 m' k1
      have := k2 m h1
      omega
    subst e
    exact q _ Z1 H1 [] g1 (.fz (.int _)) .nil)
/-- s.m(t) of texts -/
theorem me_s1 {id : String} {name : Str} {d : D} {r : V → List V → Hp → VK → Prop} (slot : Slot "str" name id) (ty : typeOf (.builtin id) = pure (.type "method_descriptor")) (rule : MtR X id r) (ha : ME X ρ a (.fz (.str p))) (hb : ME X ρ b (.fz d2)) {y z : V} (s2 : Sc d2 y) (s3 : Sc d z)
    (h : ∀ H (Q : VK), Q z H → r (.str p) [y] H Q) (hs : starEach [b] X.env = [(false, eval b X.env)] := by rfl) (hbase : attributeBase a name X.env (eval a X.env) = eval a X.env := by rfl) (hline : (p1.endLine == pos.line) = true := by rfl) :
    ME X ρ (.Call (.Attribute a name p1) [b] [] pos) (.fz d) := .mk fun Z0 F Z σ H s Q q =>
  PE_w (pe_m1 slot ty rule pe_w pe_w hs hbase hline) (ha.run Z0 F Z σ H s _ fun v Z1 H1 A1 g1 r1 n1 => by
    cases r1 with
    | fz r1 =>
      cases r1
      refine ⟨⟨_, rfl⟩, hb.run Z0 F Z1 σ H1 (s.grow g1) _ fun v Z2 H2 A2 g2 r2 n2 => ?_⟩
      cases r2 with
      | fz r2 =>
        have e := s2.eq r2
        subst e
        exact h H2 _ (q _ Z2 H2 [] (g1.trans g2) (.fz s3.rep) .nil))
theorem me_zfill (ha : ME X ρ a (.fz (.str p))) (hb : ME X ρ b (.fz (.int k))) (hk : PadOk k = true := by decide) (hs : starEach [b] X.env = [(false, eval b X.env)] := by rfl) (hbase : attributeBase a "zfill" X.env (eval a X.env) = eval a X.env := by rfl) (hline : (p1.endLine == pos.line) = true := by rfl) :
    ME X ρ (.Call (.Attribute a "zfill" p1) [b] [] pos) (.fz (.str (Txt.zfill p k))) := me_s1 F.slot_str_zfill F.type_str_zfill mt_zfill ha hb (.int k) (.str _) (fun H Q q => ⟨p, k, rfl, rfl, hk, q⟩) hs hbase hline
/-- s.partition(t): a tuple of three texts -/
theorem me_partition (ha : ME X ρ a (.fz (.str p))) (hb : ME X ρ b (.fz (.str q))) (hq : (q.length == 0) = false) (hp : p.length ≤ sizeLine) (hs : starEach [b] X.env = [(false, eval b X.env)] := by rfl) (hbase : attributeBase a "partition" X.env (eval a X.env) = eval a X.env := by rfl) (hline : (p1.endLine == pos.line) = true := by rfl) :
    ME X ρ (.Call (.Attribute a "partition" p1) [b] [] pos) (.fz (.tup [.str (Txt.partition p q).1, .str (Txt.partition p q).2.1, .str (Txt.partition p q).2.2])) := .mk fun Z0 F Z σ H s Q qq =>
  PE_w (pe_partition pe_w pe_w hs hbase hline) (ha.run Z0 F Z σ H s _ fun v Z1 H1 A1 g1 r1 n1 => by
    cases r1 with
    | fz r1 =>
      cases r1
      refine ⟨⟨_, rfl⟩, hb.run Z0 F Z1 σ H1 (s.grow g1) _ fun v Z2 H2 A2 g2 r2 n2 => ?_⟩
      cases r2 with
      | fz r2 =>
        cases r2
        refine ⟨p, q, rfl, rfl, hq, hp, fun l hl => ?_⟩
        exact qq _ _ _ [] ((g1.trans g2).trans (Gr.newz g2.zh hl)) (.fz (.tup (SqT.of upd_same) (.cons (.str _) (.cons (.str _) (.cons (.str _) .nil))))) .nil)
end
end M
namespace M
open PySem L2 PySem.Spec PyProof.Rows
/-! ### ranges of ints of any size -/
theorem turn_long {P : Program} {w : World} {K : PySem.W.Frag} {tg : Expr} (it : Addr) (lo : Int) (n : Nat) : Turn P w K tg (Itr lo n) [it] it (fun i h => IsLongIter h it (lo + (i : Nat) * 1) ((n : Int) - (i : Nat)) 1) where
  mem := by simp
  obj := fun i h st b hb => by
    have e : b = it := by simpa using hb
    subst e
    exact ⟨_, st, fun v z => by
      have z' : Data.fields _ = Data.cell v := z
      cases z'⟩
  keep := fun i h h' st k => k it (by simp) _ st
  item := by
    intro X hP hw hK hc i pins s σ H E I hf st hg
    subst hP hw hK
    obtain ⟨f0, f1, f2, f3, f4, f5⟩ := hf it (by simp)
    have W := Walks.longrange (prog := X.prog) (w := X.w) (I.ok.hd hc) it lo 1 n
    refine W.item i s _ _ hg st fun v h' tk hv st' kk => ?_
    obtain ⟨t, rfl⟩ := hv
    have I1 : Inv X pins σ H { s with heap := h', toks := tk } := I.turned (fun b o hb e => kk b o (by simpa using hb) e) f0 f1 f3 f4 f5
    refine ⟨_, rfl, go_of (s := { s with heap := h', toks := tk }) (n := "longrange_iterator") st' rfl rfl (by decide) ⟨.int (lo + i), H, I1, ⟨t, ?_⟩, ⟨rfl, rfl⟩, st', fun b hb => (hf b hb).1⟩⟩
    rw [Int.mul_one]
  done := by
    intro X hP hw hK hc i pins s σ H E I hf st hg
    subst hP hw hK
    obtain ⟨f0, f1, f2, f3, f4, f5⟩ := hf it (by simp)
    exact wpAny_pyNext_long_end (I.ok.hd hc) st (by have : n ≤ i := hg; omega) fun h' eb => ⟨rfl, I.turned (t' := s.toks) (fun b o hb e => eb b o hb e) f0 f1 f3 f4 f5⟩
  self := fun _ _ _ _ _ st h => wpAny_pyIter_longiter st h
section
variable {X : Cx} {tg : Expr}
theorem range_itW {pins : List (Addr × Obj)} {σ : L2.St} {H : Hp} {s : Shared} {R : It → Hp → Prop} {E : Value → Shared → Prop} {lo hi : Int} {t u v : Tok} {tk : Nat} (I : Inv X pins σ H s)
    (q : R (Itr lo (hi - lo).toNat) H) : wpAny (model X.prog X.w) X.A (pyIter (.ref s.heap.objs.size)) (PIE X pins σ tg R) E { s with heap := s.heap.push { cls := .type "range", data := .fields #[.int lo t, .int hi u, .int 1 v] }, toks := tk } := by
  have I1 : Inv X pins σ H { s with heap := s.heap.push { cls := .type "range", data := .fields #[.int lo t, .int hi u, .int 1 v] }, toks := tk } := I.kept fun b o e => Heap.get?_push_of_some _ e
  have e1 : lo + ((0 : Nat) : Int) * 1 = lo := by simp
  have e2 : (((hi - lo).toNat : Nat) : Int) - ((0 : Nat) : Int) = Builtin.Range.rangeSize lo hi 1 := by rw [rangeSize_one]; split <;> omega
  cases hs : Builtin.Range.small lo hi 1 with
  | true =>
    refine wpAny_pyIter_range (IsRange.new ..) hs ?_
    refine ⟨(s.heap.push { cls := .type "range", data := .fields #[.int lo t, .int hi u, .int 1 v] }).objs.size, [(s.heap.push { cls := .type "range", data := .fields #[.int lo t, .int hi u, .int 1 v] }).objs.size], _, _, H, rfl,
      I1.kept (t' := tk) fun b o e => Heap.get?_push_of_some _ e, turn_range _ lo (hi - lo).toNat, ?_, fun b hb => ?_, q⟩
    · show IsRangeIter _ _ (lo + ((0 : Nat) : Int) * 1) ((((hi - lo).toNat : Nat) : Int) - ((0 : Nat) : Int)) 1
      rw [e1, e2]
      exact Heap.get?_push_size _ rfl
    · have e : b = (s.heap.push { cls := .type "range", data := .fields #[.int lo t, .int hi u, .int 1 v] }).objs.size := by simpa using hb
      subst e
      exact I1.fpOk (Nat.le_refl _) (I1.hok.fresh (Nat.le_refl _))
  | false =>
    refine wpAny_pyIter_longrange (IsRange.new ..) hs ?_
    refine ⟨(s.heap.push { cls := .type "range", data := .fields #[.int lo t, .int hi u, .int 1 v] }).objs.size, [(s.heap.push { cls := .type "range", data := .fields #[.int lo t, .int hi u, .int 1 v] }).objs.size], _, _, H, rfl,
      I1.kept (t' := tk) fun b o e => Heap.get?_push_of_some _ e, turn_long _ lo (hi - lo).toNat, ?_, fun b hb => ?_, q⟩
    · show IsLongIter _ _ (lo + ((0 : Nat) : Int) * 1) ((((hi - lo).toNat : Nat) : Int) - ((0 : Nat) : Int)) 1
      rw [e1, e2]
      exact Heap.get?_push_size _ rfl
    · have e : b = (s.heap.push { cls := .type "range", data := .fields #[.int lo t, .int hi u, .int 1 v] }).objs.size := by simpa using hb
      subst e
      exact I1.fpOk (Nat.le_refl _) (I1.hok.fresh (Nat.le_refl _))
def iRng2W (ta : TA) : TI := fun σ H R => ta σ H fun vs H1 => ∃ i j : Int, vs = [.int i, .int j] ∧ R (Itr i (j - i).toNat) H1
theorem pi_range2W {a b : Expr} {ta : TA} {p pos : Pos} (hg : Gl X "range") (hm : X.mg "range" = none) (ha : PA X [a, b] ta) (hs : starEach [a, b] X.env = [(false, eval a X.env), (false, eval b X.env)] := by rfl) (hs2 : starEach [b] X.env = [(false, eval b X.env)] := by rfl) :
    PI X tg (.Call (.Name "range" p) [a, b] [] pos) (iRng2W ta) := by
  refine ⟨fun pins s σ H R I h => ?_⟩
  refine Call_ (ld_blt I hg hm boot_range (PyProof.Rows.callWith_type1 (thn (ha.run pos pins s σ H _ I h) fun us s1 ⟨vs, H1, I1, r1, q1⟩ => ?_) (by rw [hs, hs2]) (by rw [hs2]; rfl)))
  obtain ⟨i, j, e, q⟩ := q1
  subst e
  cases r1 with
  | cons r rr =>
    cases rr with
    | cons r' rr =>
      cases rr
      obtain ⟨t, rfl⟩ := r
      obtain ⟨t', rfl⟩ := r'
      exact call_range_2 (range_itW I1 q)
end
section
variable {X : Cx} {ρ : Slots} {es : List Expr} {k j : Int}
theorem mi_range2W (h : MF X ρ es [.int k, .int j]) : MI X ρ (iRng2W (wA X es)) (rng k (j - k).toNat) := .mk fun Z0 F Z σ H s R q => h.run Z0 F Z σ H s _ fun vs Z' H' g r => by
  cases r with
  | cons a r =>
    cases a
    cases r with
    | cons b r =>
      cases b
      cases r
      exact ⟨k, j, rfl, q _ Z' H' g (wk_rng k _)⟩
end
end M
namespace M
open PySem L2 PySem.Spec PyProof.Rows
section
variable {X : Cx} {ρ : Slots} {a b : Expr} {pos : Pos} {k l : Bool}
/-- is, is not of truths -/
theorem me_isB (ha : ME X ρ a (.fz (.bl k))) (hb : ME X ρ b (.fz (.bl l))) : ME X ρ (.Compare a [.Is] [b] pos) (.fz (.bl (decide (k = l)))) := me_cmp op_isBl ha hb (.bl k) (.bl l) (fun _ _ q => ⟨k, l, rfl, rfl, q⟩) (nomark _)
theorem mt_isB (ha : ME X ρ a (.fz (.bl k))) (hb : ME X ρ b (.fz (.bl l))) : MT X ρ (.Compare a [.Is] [b] pos) (decide (k = l)) := mt_cmp op_isBl ha hb (.bl k) (.bl l) (fun _ _ q => ⟨k, l, rfl, rfl, q⟩) (nomark _)
theorem me_niB (ha : ME X ρ a (.fz (.bl k))) (hb : ME X ρ b (.fz (.bl l))) : ME X ρ (.Compare a [.IsNot] [b] pos) (.fz (.bl (!decide (k = l)))) := me_cmp op_notBl ha hb (.bl k) (.bl l) (fun _ _ q => ⟨k, l, rfl, rfl, q⟩) (nomark _)
theorem mt_niB (ha : ME X ρ a (.fz (.bl k))) (hb : ME X ρ b (.fz (.bl l))) : MT X ρ (.Compare a [.IsNot] [b] pos) (!decide (k = l)) := mt_cmp op_notBl ha hb (.bl k) (.bl l) (fun _ _ q => ⟨k, l, rfl, rfl, q⟩) (nomark _)
end
end M
namespace M
open PySem L2 PySem.Spec PyProof.Rows
/-! ### sorted of data -/
section
variable {β : Type} {K : PySem.W.Frag} {Z : Hp} {enc : β → D}
def StandFor (K : PySem.W.Frag) (Z : Hp) (enc : β → D) (u : Value) (b : β) : Prop := ∃ x, RelV x u ∧ Rep K Z x (enc b) ∧ (enc b).pl = true
theorem each_of : ∀ {xs : List V} {us : List Value} {bs : List β}, Vals xs us → RepL K Z xs (bs.map enc) → (∀ b ∈ bs, (enc b).pl = true) → PySem.W.EachIs (StandFor K Z enc) us bs
  | [], _, [], .nil, .nil, _ => .nil
  | _ :: _, _, _ :: _, .cons r1 r2, .cons h1 h2, hp => .cons ⟨_, r1, h1, hp _ List.mem_cons_self⟩ (each_of r2 h2 fun b m => hp b (List.mem_cons_of_mem _ m))
theorem each_back : ∀ {us : List Value} {bs : List β}, PySem.W.EachIs (StandFor K Z enc) us bs → ∃ xs, Vals xs us ∧ RepL K Z xs (bs.map enc)
  | _, _, .nil => ⟨[], .nil, .nil⟩
  | _, _, .cons ⟨x, r, h, _⟩ t => by
    obtain ⟨xs, q1, q2⟩ := each_back t
    exact ⟨x :: xs, .cons r q1, .cons h q2⟩
def rSortD (K : PySem.W.Frag) (enc : β → D) (bs : List β) : List V → Hp → VK → Prop := fun vs H Q => ∃ (Z : Hp) (l : Addr) (xs : List V), vs = [.ref l] ∧ SqL K H l xs ∧ RepL K Z xs (bs.map enc) ∧ Ex Z H ∧
  ∀ ys p, RepL K Z ys ((bs.mergeSort (PySem.W.dataLe false fun b => (enc b).py)).map enc) → H p = none → Q (.ref p) (upd H p (.lst ys))
theorem cr_sortD {X : Cx} {bs : List β} (hu : X.A.units + 64 < cLine) (hp : ∀ b ∈ bs, (enc b).pl = true) (hal : PySem.W.AllAlike (bs.map fun b => (enc b).py)) (hk : PySem.W.Sortable (bs.map fun b => (enc b).py)) (hd : ∀ b ∈ bs, (enc b).py.depth ≤ 60) : CallR X (.builtin "sorted") (rSortD X.K enc bs) := by
  intro pins s σ H vs us Q I r h
  obtain ⟨Z, l, xs, rfl, hs, rl, ez, q⟩ := h
  obtain ⟨its, rv, hl, hz⟩ := I.list hs
  obtain ⟨u, rfl, ru⟩ := vals1 r
  obtain rfl : u = Value.ref l := ru
  have hlen : its.length = bs.length := by rw [← rv.length, rl.length, List.length_map]
  have e := each_of rv rl hp
  have er : PySem.W.EachIs (fun v b => ∃ as, Reads s.heap v ((enc b).py) as) its bs := e.mono fun u b ⟨x, rx, rr, hpl⟩ => Dp.reads I _ x u (rr.dp ez hpl) rx
  refine PySem.W.sorted_data (enc := fun b => (enc b).py) hl.isList e er hal hk (by rw [← hlen, ← rv.length]; exact hz) (fun b m => by have := hd b m; omega) fun out ho hR => ?_
  obtain ⟨ys, v1, v2⟩ := each_back hR
  have hfree : H (s.heap.objs.size + 1) = none := I.hok.fresh (Nat.le_succ _)
  obtain ⟨n, hn⟩ := sortedAll_at s.heap its out.toArray
  refine ⟨.ref (s.heap.objs.size + 1), upd H (s.heap.objs.size + 1) (.lst ys), I.laid (t' := s.toks) (fun b o e => sortedAll_old e) (Nat.le_succ _) ⟨?_, out, n, v1, hn⟩, rfl, q ys _ v2 hfree⟩
  rw [v1.length, ho, ← hlen, ← rv.length]
  exact hz
end
section
variable {X : Cx} {ρ : Slots} {a : Expr} {pos p0 p1 p2 p3 p4 : Pos} {β : Type} {enc : β → D} {bs : List β}
theorem me_sorted (hu : X.A.units + 64 < cLine) (hg : Gl X "sorted") (hm : X.mg "sorted" = none) (ha : ML X ρ a (bs.map enc)) (hp : ∀ b ∈ bs, (enc b).pl = true) (hal : PySem.W.AllAlike (bs.map fun b => (enc b).py)) (hk : PySem.W.Sortable (bs.map fun b => (enc b).py)) (hd : ∀ b ∈ bs, (enc b).py.depth ≤ 60) (n1 : NS X a := by exact fun _ => rfl) :
    ME X ρ (.Call (.Name "sorted" p0) [a] [] pos) (.lst (((bs.mergeSort (PySem.W.dataLe false fun b => (enc b).py)).map enc).map .fz)) := .mk fun Z0 F Z σ H s Q q =>
  PE_w (pe_callB (cr_sortD hu hp hal hk hd) hg hm (by decide +kernel) (pa_cons pe_w pa_nil (n1 _)) (he := n1 _)) (ha.run Z0 F Z σ H s _ fun l vs Z1 H1 g1 l1 r1 =>
    ⟨Z1, l, vs, rfl, l1, r1, g1.zh, fun ys p ry hp => q _ Z1 _ [p] (g1.trans (Gr.new g1.zh hp)) (.lst upd_same ry.own) (new_one (g1.hh.free hp) (g1.zh.free hp))⟩)
end
section
variable {X : Cx} {ρ : Slots} {a b e : Expr} {G : Go} {pos p0 p1 p2 p3 p4 : Pos} {k l : Bool} {i : Nat} {x : Str} {d : D} {ds : List D}
theorem mt_eqB (ha : ME X ρ a (.fz (.bl k))) (hb : ME X ρ b (.fz (.bl l))) : MT X ρ (.Compare a [.Eq] [b] pos) (k == l) := mt_cmp op_eq ha hb (.bl k) (.bl l) (fun _ _ q => ⟨rfl, by rw [dec_bl]; exact q⟩) (nomark _)
theorem mt_neB (ha : ME X ρ a (.fz (.bl k))) (hb : ME X ρ b (.fz (.bl l))) : MT X ρ (.Compare a [.NotEq] [b] pos) (!(k == l)) := mt_cmp op_ne ha hb (.bl k) (.bl l) (fun _ _ q => ⟨rfl, by rw [dec_bl]; exact q⟩) (nomark _)
theorem me_eqB (ha : ME X ρ a (.fz (.bl k))) (hb : ME X ρ b (.fz (.bl l))) : ME X ρ (.Compare a [.Eq] [b] pos) (.fz (.bl (k == l))) := me_cmp op_eq ha hb (.bl k) (.bl l) (fun _ _ q => ⟨rfl, by rw [dec_bl]; exact q⟩) (nomark _)
/-- tg = x.pop(), x a slot with an own list of frozen things -/
theorem m_popT {tg : Expr} {g : TG} {ρ' : Slots} {ws : List Nat} (hi : ρ[i]? = some (some (.lst (ds.map .fz)))) (hd : ds[ds.length - 1]? = some d) (t : MTg g X.K (ρ.set i (some (.lst (ds.dropLast.map .fz)))) d ρ' ws) (kk : G.nx ρ')
    (p : PS X (.Assign [tg] (.Call (.Attribute (.Name x p1) "pop" p2) [] [] p3) p4) (tAsg (tBM0 X.K "list" rPop (tVar i)) g)) : MS1 X ρ (.Assign [tg] (.Call (.Attribute (.Name x p1) "pop" p2) [] [] p3) p4) G := .mk fun Z0 F Z σ H D s gd => by
  obtain ⟨v, A, e1, r1, nA, dA, k1⟩ := s.upd hi
  cases r1 with
  | @lst l vs _ A h0 r1 =>
    obtain ⟨eA, rl⟩ := r1.fzs
    subst eA
    have hlen := rl.length
    obtain ⟨y, hy, ry⟩ := rl.get hd
    rw [← hlen] at hy
    have zl : Z l = none := (dA l List.mem_cons_self).1
    have rd : RepL X.K Z vs.dropLast ds.dropLast := by
      rw [List.dropLast_eq_take, List.dropLast_eq_take, hlen]
      exact rl.take _
    have st := k1 (Z' := Z) (H' := upd H l (.lst vs.dropLast)) (o' := .lst (ds.dropLast.map .fz)) (A' := [l]) (Ex.refl _) (fun _ _ _ => rfl) (s.ex.mut zl) (fun b nb u hu => by
      have ne : b ≠ l := fun q => nb (by rw [q]; exact List.mem_cons_self)
      rw [upd_ne ne]
      exact hu) (.lst upd_same rd.own) (by simp) (fun b m => .inl (by simpa using m))
    refine PS_w p ⟨_, e1, .inl ⟨rfl, _, SqL.of h0⟩, l, vs, y, rfl, rfl, h0, hy, ?_⟩
    exact t.run Z0 F Z σ _ y st ry _ fun σ2 s2 _ => gd.nx ρ' Z σ2 _ kk s2
end
end M
namespace M
open PySem L2 PySem.Spec PyProof.Rows
/-! ### isinstance of own classes -/
structure OI (K : PySem.W.Frag) (C : Addr) : Prop where
  cl : Cls K C
  ha : PySem.W.findIn K (.ref C) "__class__" = some (some (.builtin "object.__class__"))
  hn : PySem.W.specialIn K (.builtin "object.__class__") "__get__" = some (some (.builtin "getset_descriptor.__get__"))
  htk : PySem.W.takesIn K (.builtin "object.__class__") = some true
  hm : PySem.W.mroIn K C (.type "object") = some true
section
variable {X : Cx} {ρ : Slots} {a : Expr} {pos p0 p1 : Pos} {C E : Addr} {ns : List Str} {ds : List D} {os : List O} {nm : Str} {k : Bool} {o : O}
/-- isinstance(e, N), e an instance of the class at C, N the class at E -/
theorem me_isiC (hg : Gl X "isinstance") (hm : X.mg "isinstance" = none) (hE : X.mg nm = some (.ref E)) (ha : MV X ρ a (.fz (.ins C ns ds))) (oi : OI X.K C) (hk : PySem.W.kitOne X.K (.ref C) (.ref E) = some k) (hgE : Gl X nm := by rfl) (hd : (nm == ("__debug__" : Str)) = false := by decide) (n1 : NS X a := by exact fun _ => rfl) :
    ME X ρ (.Call (.Name "isinstance" p0) [a, .Name nm p1] [] pos) (.fz (.bl k)) := .mk fun Z0 F Z σ H s Q q =>
  PE_w (pe_callB call_isi hg hm (by decide +kernel) (pa_cons pe_w (pa_cons (pe_glob (v := .ref E) hgE hE rfl hd) pa_nil) (n1 _)) (he := n1 _)) (ha.run Z0 F Z σ H s _ fun v Z1 H1 A1 g1 r1 => by
    cases r1 with
    | fz r1 =>
      cases r1 with
      | @ins l C dx ns vs ds hz rl =>
        exact ⟨.ref l, .ref E, .ref C, .ref E, k, rfl, .own E, .base (.ins (g1.zh _ _ hz) oi.cl oi.ha oi.hn oi.htk oi.hm), hk, q _ Z1 H1 [] g1 (.fz (.bl k)) .nil⟩)
/-- isinstance(e, N), e of a built-in type, N an own class -/
theorem me_isiB {t : String} (hg : Gl X "isinstance") (hm : X.mg "isinstance" = none) (hE : X.mg nm = some (.ref E)) (ha : MV X ρ a o) (ht : o.tyN = some t) (hk : PySem.W.kitOne X.K (.type t) (.ref E) = some k) (hgE : Gl X nm := by rfl) (hd : (nm == ("__debug__" : Str)) = false := by decide) (n1 : NS X a := by exact fun _ => rfl) :
    ME X ρ (.Call (.Name "isinstance" p0) [a, .Name nm p1] [] pos) (.fz (.bl k)) := .mk fun Z0 F Z σ H s Q q =>
  PE_w (pe_callB call_isi hg hm (by decide +kernel) (pa_cons pe_w (pa_cons (pe_glob (v := .ref E) hgE hE rfl hd) pa_nil) (n1 _)) (he := n1 _)) (ha.run Z0 F Z σ H s _ fun v Z1 H1 A1 g1 r1 =>
    ⟨v, .ref E, .type t, .ref E, k, rfl, .own E, r1.ty' g1.zh (s.gr.hh.trans g1.hh) ht, hk, q _ Z1 H1 [] g1 (.fz (.bl k)) .nil⟩)
end
/-! ### slots with one more behind -/
section
variable {K : PySem.W.Frag} {Z0 Z Z' F F' H H' : Hp} {ρ : Slots} {σ : L2.St}
theorem StL.push {v : V} {o : O} {B : List Addr} (r : RepO K Z F H v o B) : ∀ {ρ : Slots} {σ : L2.St} {A : List Addr}, StL K Z F H ρ σ A → StL K Z F H (ρ ++ [some o]) (σ ++ [some v]) (A ++ B)
  | _, _, _, .nil => by
    have := StL.so r (.nil (K := K) (Z := Z) (F := F) (H := H))
    rw [List.append_nil] at this
    exact this
  | _, _, _, .no h => .no (h.push r)
  | _, _, _, .so q h => by
    rw [List.append_assoc]
    exact .so q (h.push r)
theorem StR.push {v : V} {o : O} {B : List Addr} (s : StR K ρ Z0 F Z σ H) (g : Gr Z H Z' H') (r : RepO K Z' F H' v o B) (n : New H Z' B) : StR K (ρ ++ [some o]) Z0 F Z' (σ ++ [some v]) H' := by
  have s' := s.grow g
  obtain ⟨A, h1, h2, h3⟩ := s.st
  have m1 : StL K Z' F H' ρ σ A := h1.mono g.zz fun a _ u e => g.hh a u e
  refine ⟨s'.gr, A ++ B, m1.push r, List.nodup_append.mpr ⟨h2, n.1, fun a ha b hb e => ?_⟩, fun a m => ?_⟩
  · subst e
    obtain ⟨u, e⟩ := h1.there a ha
    rw [(n.2 a hb).1] at e
    cases e
  · rcases List.mem_append.mp m with z | z
    · obtain ⟨u, e⟩ := h1.there a z
      exact ⟨(g.nw a u e).trans (h3 a z).1, (h3 a z).2⟩
    · exact ⟨(n.2 a z).2, s.gr.hh.free (n.2 a z).1⟩
theorem StL.last' : ∀ {τ : Slots} {υ : L2.St} {A : List Addr}, StL K Z F H τ υ A → A.Nodup → ∀ {ρ : Slots} {o : O} {σ : L2.St} {v : V}, τ = ρ ++ [some o] → υ = σ ++ [some v] → ∃ B C, StL K Z F H ρ σ B ∧ RepO K Z F H v o C ∧ (B ++ C).Nodup ∧ (∀ a ∈ B ++ C, a ∈ A)
  | _, _, _, .nil, _, ρ, o, σ, v, e1, e2 => by simp at e1
  | _, _, _, .no h, n, ρ, o, σ, v, e1, e2 => by
    cases ρ with
    | nil => simp at e1
    | cons x ρ =>
      cases σ with
      | nil =>
        have l := h.length
        simp at e1 e2
        rw [e1.2, e2.2] at l
        simp at l
      | cons y σ =>
        simp at e1 e2
        obtain ⟨e1a, e1b⟩ := e1
        obtain ⟨e2a, e2b⟩ := e2
        obtain ⟨B, C, q1, q2, q3, q4⟩ := h.last' n e1b e2b
        subst e1a
        exact ⟨B, C, .no q1, q2, q3, q4⟩
  | _, _, _, .so (A := A1) (B := A2) r h, n, ρ, o, σ, v, e1, e2 => by
    obtain ⟨n1, n2, n3⟩ := List.nodup_append.mp n
    cases ρ with
    | nil =>
      cases σ with
      | nil =>
        simp at e1 e2
        obtain ⟨e1a, e1b⟩ := e1
        obtain ⟨e2a, e2b⟩ := e2
        subst e1a e1b e2a e2b
        cases h
        exact ⟨[], A1, .nil, r, by simpa using n, fun a m => by simpa using m⟩
      | cons y σ =>
        have l := h.length
        simp at e1 e2
        rw [e1.2, e2.2] at l
        simp at l
    | cons x ρ =>
      cases σ with
      | nil =>
        have l := h.length
        simp at e1 e2
        rw [e1.2, e2.2] at l
        simp at l
      | cons y σ =>
        simp at e1 e2
        obtain ⟨e1a, e1b⟩ := e1
        obtain ⟨e2a, e2b⟩ := e2
        obtain ⟨B, C, q1, q2, q3, q4⟩ := h.last' n2 e1b e2b
        subst e1a e2a
        refine ⟨A1 ++ B, C, .so r q1, q2, ?_, fun a m => ?_⟩
        · rw [List.append_assoc]
          exact List.nodup_append.mpr ⟨n1, q3, fun a ha b hb => n3 a ha b (q4 b hb)⟩
        · rw [List.append_assoc] at m
          rcases List.mem_append.mp m with m | m
          · exact List.mem_append_left _ m
          · exact List.mem_append_right _ (q4 a m)
theorem StL.last {ρ : Slots} {o : O} {σ : L2.St} {v : V} {A : List Addr} (h : StL K Z F H (ρ ++ [some o]) (σ ++ [some v]) A) (n : A.Nodup) : ∃ B C, StL K Z F H ρ σ B ∧ RepO K Z F H v o C ∧ (B ++ C).Nodup ∧ (∀ a ∈ B ++ C, a ∈ A) := h.last' n rfl rfl
theorem StR.pop {v : V} {o : O} (s : StR K (ρ ++ [some o]) Z0 F Z (σ ++ [some v]) H) : StR K ρ Z0 F Z σ H := by
  obtain ⟨A, h1, h2, h3⟩ := s.st
  obtain ⟨B, C, q1, q2, q3, q4⟩ := h1.last h2
  exact ⟨s.gr, B, q1, (List.nodup_append.mp q3).1, fun a m => h3 a (q4 a (List.mem_append_left _ m))⟩
/-- what is behind comes to a slot -/
theorem StR.take {v : V} {o : O} {i : Nat} (s : StR K (ρ ++ [some o]) Z0 F Z (σ ++ [some v]) H) (hi : i < ρ.length) : StR K (ρ.set i (some o)) Z0 F Z (σ.set i (some v)) H := by
  obtain ⟨A, h1, h2, h3⟩ := s.st
  obtain ⟨B, C, q1, q2, q3, q4⟩ := h1.last h2
  obtain ⟨n1, n2, n3⟩ := List.nodup_append.mp q3
  obtain ⟨A', r1, r2, r3⟩ := StL.put q2 q1 hi n1 n2 fun a ha hb => n3 a hb a ha rfl
  refine ⟨s.gr, A', r1, r2, fun a m => h3 a (q4 a ?_)⟩
  rcases r3 a m with z | z
  · exact List.mem_append_left _ z
  · exact List.mem_append_right _ z
/-- a slot's own thing changes; what was its own may be frozen -/
theorem StR.updX {i : Nat} {o : O} (s : StR K ρ Z0 F Z σ H) (hi : ρ[i]? = some (some o)) : ∃ v A, σ[i]? = some (some v) ∧ RepO K Z F H v o A ∧ A.Nodup ∧ (∀ a ∈ A, Z a = none ∧ F a = none) ∧
    ∀ {Z' H' : Hp} {w : V} {o' p : O} {B : List Addr}, Ex Z Z' → (∀ a, a ∉ A → ∀ u, H a = some u → Z' a = Z a) → Ex Z' H' → (∀ a, a ∉ A → ∀ u, H a = some u → H' a = some u) → RepOL K Z' F H' [v, w] [o', p] B → B.Nodup → (∀ a ∈ B, (a ∈ A ∨ H a = none) ∧ Z' a = none) →
      StR K (ρ.set i (some o') ++ [some p]) Z0 F Z' (σ ++ [some w]) H' := by
  obtain ⟨A, h1, h2, h3⟩ := s.st
  obtain ⟨v, B0, q1, q2, q3, q4, q5⟩ := h1.at hi h2
  refine ⟨v, B0, q1, q2, q3, fun a m => h3 a (q4 a m), fun {Z' H' w o' p B} ez nz zh k r n d => ?_⟩
  cases r with
  | @cons _ _ _ _ A1 B1 ra r =>
    cases r with
    | @cons _ _ _ _ A2 B2 rb r =>
      cases r
      rw [List.append_nil] at n d
      obtain ⟨n1, n2, n3⟩ := List.nodup_append.mp n
      have apart : ∀ a ∈ A1 ++ A2, a ∈ A → a ∈ B0 := fun a m ma => by
        rcases (d a m).1 with z | z
        · exact z
        · obtain ⟨u, e⟩ := h1.there a ma
          rw [z] at e
          cases e
      obtain ⟨A', r1, r2, r3⟩ := q5 (v' := v) ez (fun a _ nb u e => k a nb u e) ra n1 fun a m ma => apart a (List.mem_append_left _ m) ma
      rw [set_same q1] at r1
      have hF : ∀ a u, F a = some u → a ∉ B0 := fun a u e m => by
        rw [(h3 a (q4 a m)).2] at e
        cases e
      refine ⟨⟨s.gr.zz.trans ez, fun a u e => k a (hF a u e) u (s.gr.hh a u e), zh, fun a u e => (nz a (hF a u e) u (s.gr.hh a u e)).trans (s.gr.nw a u e)⟩, A' ++ A2, r1.push rb, List.nodup_append.mpr ⟨r2, n2, fun a ha b hb e => ?_⟩, fun a m => ?_⟩
      · subst e
        rcases r3 a ha with z | z
        · exact z.2 (apart a (List.mem_append_right _ hb) z.1)
        · exact n3 a z a hb rfl
      · have new : a ∈ A1 ++ A2 → Z' a = none ∧ F a = none := fun y => by
          refine ⟨(d a y).2, ?_⟩
          rcases (d a y).1 with z | z
          · exact (h3 a (q4 a z)).2
          · exact s.gr.hh.free z
        rcases List.mem_append.mp m with m | m
        · rcases r3 a m with z | z
          · obtain ⟨u, e⟩ := h1.there a z.1
            exact ⟨(nz a z.2 u e).trans (h3 a z.1).1, (h3 a z.1).2⟩
          · exact new (List.mem_append_left _ z)
        · exact new (List.mem_append_right _ m)
end
/-! ### expressions that change slots -/
structure MX (X : Cx) (ρ : Slots) (e : Expr) (o : O) (ρ' : Slots) : Prop where
  run : ∀ (Z0 F Z : Hp) (σ : L2.St) (H : Hp), StR X.K ρ Z0 F Z σ H → ∀ Q : VK, (∀ v Z' H', StR X.K (ρ' ++ [some o]) Z0 F Z' (σ ++ [some v]) H' → Q v H') → wE X e σ H Q
section
variable {X : Cx} {ρ ρ' : Slots} {e : Expr} {st : Stmt} {G : Go} {o : O} {i : Nat}
theorem ME.x (h : ME X ρ e o) : MX X ρ e o ρ := .mk fun Z0 F Z σ H s Q q => h.run Z0 F Z σ H s Q fun v Z' H' A g r n => q v Z' H' (s.push g r n)
theorem m_exprX (p : PS X st (tDrop (wE X e))) (h : MX X ρ e o ρ') (k : G.nx ρ') : MS1 X ρ st G := .mk fun Z0 F Z σ H D s g =>
  PS_w p (h.run Z0 F Z σ H s _ fun v Z' H' s' => g.nx ρ' Z' σ H' k s'.pop)
theorem m_setX (p : PS X st (tAsg (wE X e) (gName i))) (h : MX X ρ e o ρ') (k : G.nx (ρ'.set i (some o))) (hi : i < ρ'.length := by exact Nat.le_of_ble_eq_true rfl) : MS1 X ρ st G := .mk fun Z0 F Z σ H D s g =>
  PS_w p (h.run Z0 F Z σ H s _ fun v Z' H' s' => g.nx _ Z' _ H' k (s'.take hi))
theorem m_retX (p : PS X st (tRet (wE X e))) (h : MX X ρ e o ρ') (k : G.rs o ρ') : MS1 X ρ st G := .mk fun Z0 F Z σ H D s g =>
  PS_w p (h.run Z0 F Z σ H s _ fun v Z' H' s' => g.rs o ρ' v Z' σ H' k s')
theorem m_retS (p : PS X st (tRet (wE X e))) (h : ME X ρ e o) (k : G.rs o ρ) : MS1 X ρ st G := m_retX p h.x k
end
end M
namespace M
open PySem L2 PySem.Spec PyProof.Rows
/-! ### defs that change their first argument -/
def SpX {α : Type} (K : PySem.W.Frag) (ar : α → List O) (pre : α → Prop) (s0 s1 : Addr → α → O) (res : α → O) : Sp := fun vs H Q _ => ∃ (x : α) (Z F : Hp) (l : Addr) (vs' : List V) (A : List Addr), vs = .ref l :: vs' ∧ Ex Z F ∧ Ex F H ∧ A.Nodup ∧ (∀ a ∈ A, F a = none) ∧ RepO K Z F H (.ref l) (s0 l x) A ∧ RepOL K Z F F vs' (ar x) [] ∧ pre x ∧
  ∀ v Z' H' B, Gr Z F Z' H' → RepOL K Z' (fun _ => none) H' [.ref l, v] [s1 l x, res x] B → B.Nodup → (∀ a ∈ B, F a = none ∧ Z' a = none) → Q v H'
/-- such a def's body keeps its promise -/
theorem fn_mX {α : Type} {P : Program} {w : World} {K : PySem.W.Frag} {mg : Str → Option Value} {base : Heap} {x qual : Str} {st : Stmt} {f : Addr} {fd : FuncData} {N ps : List Str} {k : Nat} {ar : α → List O} {pre : α → Prop} {s0 s1 : Addr → α → O} {res : α → O}
    (F : Fun K x qual st f fd) (S : FnScope N ps (defScope st)) (hl : ∀ x, (ar x).length + 1 = ps.length) (hn1 : ∀ l x, pre x → (s1 l x).nv = true) (hn2 : ∀ x, pre x → (res x).nv = true) (hat : ∀ l x, ∃ C ns os, s1 l x = .at l C ns os)
    (hb : ∀ (cdv : Value) (A : Around) (outer : List Env) (s : Shared) (H : Hp) (E : XK), Room k (A.deeper (envOfC qual (defScope st) s.heap.objs.size f cdv)) → ∀ (l : Addr) x, pre x →
      MS (cxOf CX0 P w K mg base N qual (defScope st) f cdv A outer s H E).nox (some (s0 l x) :: (ar x).map some ++ List.replicate (N.length - ps.length) none) (defBody st) { nx := fun ρ => res x = .fz .non ∧ ρ[0]? = some (some (s1 l x)), rs := fun o ρ => o = res x ∧ ρ[0]? = some (some (s1 l x)) }) :
    FnOk P w K mg base CX0 (k + 1) f fd ps (SpX K ar pre s0 s1 res) := by
  refine F.ok S (fun vs H Q E h => ?_) (fun cdv A outer s H vs Q E hr h => ?_)
  · obtain ⟨x, Z, F, l, vs', A, rfl, _, _, _, _, _, r, _⟩ := h
    rw [List.length_cons, r.length, hl]
  · obtain ⟨x, Z, F0, l, vs', A0, rfl, ez, ef, nA, fA, rs, r, hp, q⟩ := h
    obtain ⟨C, ns, os, hs1⟩ := hat l x
    have st0 : StL K Z F0 H (some (s0 l x) :: (ar x).map some) (some (.ref l) :: vs'.map some) (A0 ++ []) := .so rs (stL_args (r.mono (Ex.refl _) (Ex.refl _) fun _ m => nomatch m))
    refine ⟨_, pss_w, (hb cdv A outer s H E hr l x hp).run Z F0 Z _ H _ ⟨⟨Ex.refl _, ef, ez.trans ef, fun _ _ _ => rfl⟩, A0 ++ [], ?_, by rw [List.append_nil]; exact nA, fun a m => ?_⟩ ⟨fun ρ Z' σ H' e s' => ?_, fun _ _ _ _ z => z.elim, fun _ _ _ _ z => z.elim, fun _ _ _ _ _ z => z.elim, fun o ρ v Z' σ H' e s' => ?_, GX.never fun _ z => z⟩⟩
    · have e : L2.start N (.ref l :: vs') = (some (.ref l) :: vs'.map some) ++ List.replicate (N.length - ps.length) none := by
        unfold L2.start
        rw [List.length_cons, r.length, hl]
        rfl
      rw [e]
      exact stL_more _ st0
    · rw [List.append_nil] at m
      exact ⟨ez.free (fA a m), fA a m⟩
    · obtain ⟨en, e⟩ := e
      obtain ⟨A1, t1, t2, t3⟩ := s'.st
      obtain ⟨v, B, u1, u2, u3, u4, _⟩ := t1.at e t2
      have hn := hn1 l x hp
      rw [hs1] at u2 hn
      cases u2 with
      | @«at» _ _ dx _ vs1 _ B1 h0 rl =>
        refine q .non Z' H' ((l :: B1) ++ ([] ++ [])) s'.gr (.cons ?_ (.cons (A := []) ?_ .nil)) (by simpa using u3) fun a m => ?_
        · rw [hs1]
          exact (RepO.at h0 rl).unF hn
        · rw [en]
          exact .fz .non
        · have m : a ∈ l :: B1 := by simpa using m
          exact ⟨(t3 a (u4 a m)).2, (t3 a (u4 a m)).1⟩
    · obtain ⟨en, e⟩ := e
      subst en
      obtain ⟨A1, t1, t2, t3⟩ := s'.st
      obtain ⟨B, Cc, w1, w2, w3, w4⟩ := t1.last t2
      obtain ⟨n1, n2, n3⟩ := List.nodup_append.mp w3
      obtain ⟨v0, B0, u1, u2, u3, u4, _⟩ := w1.at e n1
      have hn := hn1 l x hp
      rw [hs1] at u2 hn
      cases u2 with
      | @«at» _ _ dx _ vs1 _ B1 h0 rl =>
        refine q v Z' H' ((l :: B1) ++ (Cc ++ [])) s'.gr (.cons ?_ (.cons (w2.unF (hn2 x hp)) .nil)) ?_ fun a m => ?_
        · rw [hs1]
          exact (RepO.at h0 rl).unF hn
        · rw [List.append_nil]
          exact List.nodup_append.mpr ⟨u3, n2, fun a ha b hb => n3 a (u4 a ha) b hb⟩
        · rw [List.append_nil] at m
          have m2 : a ∈ B ++ Cc := by
            rcases List.mem_append.mp m with z | z
            · exact List.mem_append_left _ (u4 a z)
            · exact List.mem_append_right _ z
          exact ⟨(t3 a (w4 a m2)).2, (t3 a (w4 a m2)).1⟩
/-- an __init__ that is such a def makes a new instance -/
theorem SpX.init {α : Type} {P : Program} {w : World} {K : PySem.W.Frag} {mg : Str → Option Value} {base : Heap} {CX : CXT} {k : Nat} {f : Addr} {fd : FuncData} {ps : List Str} {ar : α → List O} {pre : α → Prop} {s0 s1 : Addr → α → O} {β : Type} {arb : β → List O} {preb : β → Prop} {resb : β → List O} {C : Addr} {ns : List Str} (g : β → α)
    (h : FnOk P w K mg base CX k f fd ps (SpX K ar pre s0 s1 fun _ => .fz .non)) (har : ∀ y, ar (g y) = arb y) (hp : ∀ y, preb y → pre (g y)) (h0 : ∀ l y, s0 l (g y) = .at l C [] []) (h1 : ∀ l y, s1 l (g y) = .at l C ns (resb y)) :
    FnOk P w K mg base CX k f fd ps (SpI K C ns arb preb resb) := h.imp fun vs H Q E hh => by
  obtain ⟨y, Z, F, l, dx, vs', rfl, ez, ef, nl, hi, r, hpr, q⟩ := hh
  have fl : ∀ a ∈ [l], F a = none := fun a m => by
    have e : a = l := by simpa using m
    rw [e]
    exact nl
  refine ⟨g y, Z, F, l, vs', [l], rfl, ez, ef, by simp, fl, ?_, by rw [har]; exact r, hp y hpr, fun v Z' H' B gg rr nB dB => ?_⟩
  · rw [h0]
    exact .at (dx := dx) hi .nil
  · cases rr with
    | @cons _ _ _ _ A1 B1 ra rb =>
      cases rb with
      | @cons _ _ _ _ A2 B2 rb rc =>
        cases rc
        cases rb with
        | fz rb =>
          cases rb
          rw [h1] at ra
          rw [List.append_nil, List.append_nil] at nB dB
          exact q Z' H' _ gg ra ⟨nB, dB⟩
section
variable {X : Cx} {ρ : Slots} {e a b : Expr} {es : List Expr} {pos p0 p1 p2 : Pos} {i : Nat} {xx nm : Str} {C : Addr} {ns ns' all : List Str} {os os' : List O} {ds : List D} {o o' : O}
/-- the callee's share of the heap: all but the cells at A -/
def wo (H : Hp) (A : List Addr) : Hp := fun a => if a ∈ A then none else H a
theorem wo_in {H : Hp} {A : List Addr} {a : Addr} (h : a ∈ A) : wo H A a = none := if_pos h
theorem wo_out {H : Hp} {A : List Addr} {a : Addr} (h : a ∉ A) : wo H A a = H a := if_neg h
theorem ex_wo {H : Hp} {A : List Addr} : Ex (wo H A) H := fun a u h => by
  by_cases m : a ∈ A
  · rw [wo_in m] at h; cases h
  · rw [wo_out m] at h; exact h
theorem ex_to_wo {Z H : Hp} {A : List Addr} (e : Ex Z H) (n : ∀ a ∈ A, Z a = none) : Ex Z (wo H A) := fun a u h => by
  by_cases m : a ∈ A
  · rw [n a m] at h; cases h
  · rw [wo_out m]; exact e a u h
theorem wo_none {H : Hp} {A : List Addr} {a : Addr} (h : wo H A a = none) : a ∈ A ∨ H a = none := by
  by_cases m : a ∈ A
  · exact .inl m
  · rw [wo_out m] at h; exact .inr h
/-- the core: what a promise of that kind gives at a state whose slot i holds the thing -/
theorem spX_at {α : Type} {ar : α → List O} {pre : α → Prop} {s0 s1 : Addr → α → O} {res : α → O} {Z0 F Z Z1 H H1 : Hp} {σ : L2.St} {E : XK} {Q : VK} {A : List Addr} {vs : List V} {l : Addr} (x : α) (dA : ∀ a ∈ A, Z a = none ∧ F a = none) (nA : A.Nodup) (s : StR X.K ρ Z0 F Z σ H) (g1 : Gr Z H Z1 H1) (there : ∀ a ∈ A, ∃ u, H a = some u)
    (r : RepO X.K Z F H (.ref l) (s0 l x) A) (ra : RepL X.K Z1 vs ds) (hx : ar x = ds.map .fz) (hp : pre x)
    (q : ∀ w Z2 H2 B, Ex Z Z2 → (∀ a, a ∉ A → ∀ u, H a = some u → Z2 a = Z a) → Ex Z2 H2 → (∀ a, a ∉ A → ∀ u, H a = some u → H2 a = some u) → RepOL X.K Z2 F H2 [.ref l, w] [s1 l x, res x] B → B.Nodup → (∀ a ∈ B, (a ∈ A ∨ H a = none) ∧ Z2 a = none) → Q w H2) :
    SpX X.K ar pre s0 s1 res (.ref l :: (vs ++ [])) H1 Q E := by
  have z1 : ∀ a ∈ A, Z1 a = none := fun a m => by
    obtain ⟨u, e⟩ := there a m
    rw [g1.nw a u e]
    exact (dA a m).1
  refine ⟨x, Z1, wo H1 A, l, vs, A, by rw [List.append_nil], ex_to_wo g1.zh z1, ex_wo, nA, fun a m => wo_in m, r.mono g1.zz (ex_to_wo (s.gr.hh.trans g1.hh) fun a m => (dA a m).2) fun a _ u e => g1.hh a u e, by rw [hx]; exact ra.own, hp, fun w Z2 H2 B g2 rb nB dB => ?_⟩
  have keep : ∀ a, a ∉ A → ∀ u, H a = some u → wo H1 A a = some u := fun a na u e => by
    rw [wo_out na]
    exact g1.hh a u e
  refine q w Z2 H2 B (g1.zz.trans g2.zz) (fun a na u e => (g2.nw a u (keep a na u e)).trans (g1.nw a u e)) g2.zh (fun a na u e => g2.hh a u (keep a na u e)) (rb.mono (Ex.refl _) (fun _ _ z => by cases z) fun _ _ _ z => z) nB fun a m => ?_
  refine ⟨?_, (dB a m).2⟩
  rcases wo_none (dB a m).1 with z | z
  · exact .inl z
  · exact .inr (g1.hh.free z)
/-- x.m(e, ..), x a slot with an own instance, that changes -/
theorem mx_mt {α : Type} {ar : α → List O} {pre : α → Prop} {s0 s1 : Addr → α → O} {res : α → O} {k : Nat} {ps : List Str} {pl : Sem Bool} (c : Mt1 X.prog X.w X.K X.mg X.base C nm k ps (SpX X.K ar pre s0 s1 res)) (cc : OC X.K C all) (x : α) (pn : PE X (.Name xx p0) (tVar i)) (hi : ρ[i]? = some (some (.ins C ns os))) (ha : MF X ρ (e :: es) ds) (h0 : ∀ l, s0 l x = .at l C ns os) (h1 : ∀ l, s1 l x = .at l C ns' os') (hx : ar x = ds.map .fz) (hp : pre x) (hr : Room k X.A)
    (hnm : nmAt ns nm = none := by decide +kernel) (he : starEach (e :: es) X.env = (false, eval e X.env) :: starEach es X.env := by rfl) (hpl : (backTo pos (starEach es X.env)).any (·.1) = false := by rfl)
    (ht : eval (.Call (.Attribute (.Name xx p0) nm p1) (e :: es) [] pos) X.env = (do
      let ov ← eval (.Name xx p0) X.env
      standAt p1.atName
      let (f, first) ← holding [ov] (getMethod ov nm pl)
      callWith pos f first (backTo pos (starEach (e :: es) X.env)) (backToKw pos (keywordEach [] X.env))) := by rfl) : MX X ρ (.Call (.Attribute (.Name xx p0) nm p1) (e :: es) [] pos) (res x) (ρ.set i (some (.ins C ns' os'))) := by
  obtain ⟨f, fd, hm, hb, F⟩ := c.ex
  refine .mk fun Z0 F0 Z σ H s Q q => PE_w (pe_meth (pl := pl) pn cc.cl hm F hr hb .nil pass0 pa_w he hpl ht) ?_
  obtain ⟨v, A, e1, r1, nA, dA, k1⟩ := s.updX hi
  have th := r1.there
  cases r1 with
  | @ins l _ dx _ vs0 _ A h0' rl =>
    refine ⟨_, e1, l, dx, _, rfl, h0', look_none hnm, ha.run Z0 F0 Z σ H s _ fun vs Z1 H1 g1 ra => ?_⟩
    refine spX_at x dA nA s g1 th (by rw [h0]; exact .at h0' rl) ra hx hp fun w Z2 H2 B a1 a2 a3 a4 rb nB dB => ?_
    rw [h1] at rb
    refine q w Z2 H2 (k1 a1 a2 a3 a4 ?_ nB dB)
    cases rb with
    | cons rb rc => exact .cons rb.unAt rc
/-- .. at a known place -/
theorem mx_mtA {α : Type} {ar : α → List O} {pre : α → Prop} {s0 s1 : Addr → α → O} {res : α → O} {k : Nat} {ps : List Str} {l : Addr} {pl : Sem Bool} (c : Mt1 X.prog X.w X.K X.mg X.base C nm k ps (SpX X.K ar pre s0 s1 res)) (cc : OC X.K C all) (x : α) (pn : PE X (.Name xx p0) (tVar i)) (hi : ρ[i]? = some (some (.at l C ns os))) (ha : MF X ρ (e :: es) ds) (h0 : s0 l x = .at l C ns os) (hx : ar x = ds.map .fz) (hp : pre x) (hr : Room k X.A)
    (hnm : nmAt ns nm = none := by decide +kernel) (he : starEach (e :: es) X.env = (false, eval e X.env) :: starEach es X.env := by rfl) (hpl : (backTo pos (starEach es X.env)).any (·.1) = false := by rfl)
    (ht : eval (.Call (.Attribute (.Name xx p0) nm p1) (e :: es) [] pos) X.env = (do
      let ov ← eval (.Name xx p0) X.env
      standAt p1.atName
      let (f, first) ← holding [ov] (getMethod ov nm pl)
      callWith pos f first (backTo pos (starEach (e :: es) X.env)) (backToKw pos (keywordEach [] X.env))) := by rfl) : MX X ρ (.Call (.Attribute (.Name xx p0) nm p1) (e :: es) [] pos) (res x) (ρ.set i (some (s1 l x))) := by
  obtain ⟨f, fd, hm, hb, F⟩ := c.ex
  refine .mk fun Z0 F0 Z σ H s Q q => PE_w (pe_meth (pl := pl) pn cc.cl hm F hr hb .nil pass0 pa_w he hpl ht) ?_
  obtain ⟨v, A, e1, r1, nA, dA, k1⟩ := s.updX hi
  have th := r1.there
  cases r1 with
  | @«at» l _ dx _ vs0 _ A h0' rl =>
    refine ⟨_, e1, l, dx, _, rfl, h0', look_none hnm, ha.run Z0 F0 Z σ H s _ fun vs Z1 H1 g1 ra => ?_⟩
    exact spX_at x dA nA s g1 th (by rw [h0]; exact .at h0' rl) ra hx hp fun w Z2 H2 B a1 a2 a3 a4 rb nB dB => q w Z2 H2 (k1 a1 a2 a3 a4 rb nB dB)
/-- x.m() -/
theorem mx_mt0 {α : Type} {ar : α → List O} {pre : α → Prop} {s0 s1 : Addr → α → O} {res : α → O} {k : Nat} {ps : List Str} {pl : Sem Bool} (c : Mt1 X.prog X.w X.K X.mg X.base C nm k ps (SpX X.K ar pre s0 s1 res)) (cc : OC X.K C all) (x : α) (pn : PE X (.Name xx p0) (tVar i)) (hi : ρ[i]? = some (some (.ins C ns os))) (h0 : ∀ l, s0 l x = .at l C ns os) (h1 : ∀ l, s1 l x = .at l C ns' os') (hx : ar x = []) (hp : pre x) (hr : Room k X.A)
    (hnm : nmAt ns nm = none := by decide +kernel)
    (ht : eval (.Call (.Attribute (.Name xx p0) nm p1) [] [] pos) X.env = (do
      let ov ← eval (.Name xx p0) X.env
      standAt p1.atName
      let (f, first) ← holding [ov] (getMethod ov nm pl)
      callWith pos f first (backTo pos (starEach [] X.env)) (backToKw pos (keywordEach [] X.env))) := by rfl) : MX X ρ (.Call (.Attribute (.Name xx p0) nm p1) [] [] pos) (res x) (ρ.set i (some (.ins C ns' os'))) := by
  obtain ⟨f, fd, hm, hb, F⟩ := c.ex
  refine .mk fun Z0 F0 Z σ H s Q q => PE_w (pe_meth0 (pl := pl) pn cc.cl hm F hr hb .nil pass0 ht) ?_
  obtain ⟨v, A, e1, r1, nA, dA, k1⟩ := s.updX hi
  have th := r1.there
  cases r1 with
  | @ins l _ dx _ vs0 _ A h0' rl =>
    refine ⟨_, e1, l, dx, _, rfl, h0', look_none hnm, ?_⟩
    refine spX_at (E := E0) (ds := []) (vs := []) x dA nA s (Gr.refl s.ex) th (by rw [h0]; exact .at h0' rl) .nil (by rw [hx]; rfl) hp fun w Z2 H2 B a1 a2 a3 a4 rb nB dB => ?_
    rw [h1] at rb
    refine q w Z2 H2 (k1 a1 a2 a3 a4 ?_ nB dB)
    cases rb with
    | cons rb rc => exact .cons rb.unAt rc
/-! ### C.m(self, ..): a def read off a class -/
theorem pe_cfn {CX : CXT} {k : Nat} {f : Addr} {fd : FuncData} {ps : List Str} {sp : Sp} {dvs : List V} {dd : List Value} {E : XK} {t : TA} {mc : Value} {pl : Sem Bool} (hg : Gl X xx) (hmC : X.mg xx = some (.ref C)) (r : ClX.CRead X.K C mc) (kv : ClX.CVal X.K C mc nm (.ref f) (.ref f)) (hk : PySem.W.keepIn X.K (.ref f) = true)
    (F : FnOk X.prog X.w X.K X.mg X.base CX k f fd ps sp) (hr : Room k X.A) (hb : Binds X.K fd ps dd) (hd : Vals dvs dd) (hx : Passes CX X E) (ha : PA X (e :: es) t) (hdb : (xx == ("__debug__" : Str)) = false := by decide)
    (hst : starEach (e :: es) X.env = (false, eval e X.env) :: starEach es X.env := by rfl) (hpl : (backTo pos (starEach es X.env)).any (·.1) = false := by rfl)
    (ht : eval (.Call (.Attribute (.Name xx p0) nm p1) (e :: es) [] pos) X.env = (do
      let ov ← eval (.Name xx p0) X.env
      standAt p1.atName
      let (f, first) ← holding [ov] (getMethod ov nm pl)
      callWith pos f first (backTo pos (starEach (e :: es) X.env)) (backToKw pos (keywordEach [] X.env))) := by rfl) :
    PE X (.Call (.Attribute (.Name xx p0) nm p1) (e :: es) [] pos) (tCall sp dvs E t) := by
  refine ⟨fun pins s σ H Q I h => ?_⟩
  have he : PE X (.Name xx p0) (tC (.ref C)) := pe_glob (v := .ref C) hg hmC rfl hdb
  refine PySem.W.methodCall_KW (pl := pl) (thn (he.run pins s σ H (fun x H1 => x = .ref C ∧ H1 = H) I ⟨rfl, rfl⟩) fun u s1 ⟨x, H1, I1, rx, ex, eH⟩ => ?_) ht
  subst ex eH
  obtain rfl : u = Value.ref C := rx
  refine PySem.W.method_cls I1.kIn r.ga (ClX.getcval_ok I1 r kv fun s2 I2 => ?_)
  refine PySem.W.callWith_K (first := []) (h₀ := X.base) I.ok.mod.kin hk (thn (ha.run pos pins s2 σ H1 _ I2 h) fun us s3 ⟨vs, H2, I3, r3, q3⟩ => ⟨I3.kIn, ?_⟩) hst hpl
  exact run_fn F hr hb hd hx I3 r3 q3
structure Cf1 (P : Program) (w : World) (K : PySem.W.Frag) (mg : Str → Option Value) (base : Heap) (nmC m : Str) (k : Nat) (ps : List Str) (sp : Sp) : Prop where
  ex : ∃ (C : Addr) (mc : Value) (f : Addr) (fd : FuncData), mg nmC = some (.ref C) ∧ ClX.CRead K C mc ∧ ClX.CVal K C mc m (.ref f) (.ref f) ∧ PySem.W.keepIn K (.ref f) = true ∧ Binds K fd ps [] ∧ FnOk P w K mg base CX0 k f fd ps sp
/-- N.m(x, e, ..), x a slot with an own instance at a known place, that changes -/
theorem mx_cfn {α : Type} {ar : α → List O} {pre : α → Prop} {s0 s1 : Addr → α → O} {res : α → O} {k : Nat} {ps : List Str} {l : Addr} {nmC : Str} {pl : Sem Bool} (c : Cf1 X.prog X.w X.K X.mg X.base nmC nm k ps (SpX X.K ar pre s0 s1 res)) (x : α) (pn : PE X (.Name xx p2) (tVar i)) (hi : ρ[i]? = some (some (.at l C ns os))) (ha : MF X ρ es ds) (h0 : s0 l x = .at l C ns os) (hx : ar x = ds.map .fz) (hp : pre x) (hr : Room k X.A)
    (hg : Gl X nmC := by rfl) (hdb : (nmC == ("__debug__" : Str)) = false := by decide) (hst : starEach (.Name xx p2 :: es) X.env = (false, eval (.Name xx p2) X.env) :: starEach es X.env := by rfl) (hpl : (backTo pos (starEach es X.env)).any (·.1) = false := by rfl)
    (ht : eval (.Call (.Attribute (.Name nmC p0) nm p1) (.Name xx p2 :: es) [] pos) X.env = (do
      let ov ← eval (.Name nmC p0) X.env
      standAt p1.atName
      let (f, first) ← holding [ov] (getMethod ov nm pl)
      callWith pos f first (backTo pos (starEach (.Name xx p2 :: es) X.env)) (backToKw pos (keywordEach [] X.env))) := by rfl) : MX X ρ (.Call (.Attribute (.Name nmC p0) nm p1) (.Name xx p2 :: es) [] pos) (res x) (ρ.set i (some (s1 l x))) := by
  obtain ⟨Cc, mc, f, fd, hmC, r, kv, hk, hb, F⟩ := c.ex
  refine .mk fun Z0 F0 Z σ H s Q q => PE_w (pe_cfn (pl := pl) hg hmC r kv hk F hr hb .nil pass0 (pa_cons pn pa_w hst) hdb hst hpl ht) ?_
  obtain ⟨v, A, e1, r1, nA, dA, k1⟩ := s.updX hi
  have th := r1.there
  cases r1 with
  | @«at» l _ dx _ vs0 _ A h0' rl =>
    refine ⟨_, e1, ha.run Z0 F0 Z σ H s _ fun vs Z1 H1 g1 ra => ?_⟩
    exact spX_at x dA nA s g1 th (by rw [h0]; exact .at h0' rl) ra hx hp fun w Z2 H2 B a1 a2 a3 a4 rb nB dB => q w Z2 H2 (k1 a1 a2 a3 a4 rb nB dB)
end
end M
namespace M
open PySem L2 PySem.Spec PyProof.Rows
/-! ### in of flat things -/
def D.flat : D → Bool
  | .non => true
  | .bl _ => true
  | .int _ => true
  | .str _ => true
  | _ => false
def D.v : D → V
  | .bl b => .bl b
  | .int i => .int i
  | .str x => .str x
  | _ => .non
theorem Rep.flat {K : PySem.W.Frag} {Z : Hp} {v : V} {d : D} (r : Rep K Z v d) (h : d.flat = true) : v = d.v := by
  cases r with
  | non => rfl
  | bl b => rfl
  | int i => rfl
  | str x => rfl
  | _ => cases h
theorem RepL.flat {K : PySem.W.Frag} {Z : Hp} : ∀ {vs : List V} {ds : List D}, RepL K Z vs ds → ds.all D.flat = true → vs = ds.map D.v
  | _, _, .nil, _ => rfl
  | _, _, .cons a r, h => by
    rw [List.all_cons, Bool.and_eq_true] at h
    rw [List.map_cons, a.flat h.1, r.flat h.2]
theorem D.flat_v : ∀ {d : D}, d.flat = true → flatV d.v = true
  | .non, _ => rfl
  | .bl _, _ => rfl
  | .int _, _ => rfl
  | .str _, _ => rfl
theorem D.flat_vs : ∀ {ds : List D}, ds.all D.flat = true → (ds.map D.v).all flatV = true
  | [], _ => rfl
  | d :: r, h => by
    rw [List.all_cons, Bool.and_eq_true] at h
    rw [List.map_cons, List.all_cons, D.flat_v h.1, D.flat_vs h.2]
    rfl
/-- d stands among ds -/
def D.among (d : D) (ds : List D) : Bool := inV d.v (ds.map D.v)
section
variable {X : Cx} {ρ : Slots} {a b : Expr} {pos : Pos} {d : D} {ds : List D}
theorem inT_core {neg : Bool} {op : CmpOp} (ho : OpR X (compareOp op) (rIn X.K neg)) (ha : ME X ρ a (.fz d)) (hb : MU X ρ b ds) (hf : d.flat = true) (hfs : ds.all D.flat = true) {Z0 F Z : Hp} {σ : L2.St} {H : Hp} (s : StR X.K ρ Z0 F Z σ H) {Q : VK} (q : ∀ Z' H', Gr Z H Z' H' → Q (.bl (if neg then !(d.among ds) else d.among ds)) H') : tOp (rIn X.K neg) (wE X a) (wE X b) σ H Q :=
  ha.run Z0 F Z σ H s _ fun v Z1 H1 A1 g1 r1 n1 => by
    cases r1 with
    | fz r1 =>
      have e1 := r1.flat hf
      subst e1
      refine hb.run Z0 F Z1 σ H1 (s.grow g1) _ fun l vs Z2 H2 g2 l2 r2 => ?_
      have e2 := r2.flat hfs
      subst e2
      exact ⟨l, _, rfl, .inr l2, D.flat_v hf, D.flat_vs hfs, q Z2 H2 (g1.trans g2)⟩
theorem inL_core {neg : Bool} {op : CmpOp} (ho : OpR X (compareOp op) (rIn X.K neg)) (ha : ME X ρ a (.fz d)) (hb : ML X ρ b ds) (hf : d.flat = true) (hfs : ds.all D.flat = true) {Z0 F Z : Hp} {σ : L2.St} {H : Hp} (s : StR X.K ρ Z0 F Z σ H) {Q : VK} (q : ∀ Z' H', Gr Z H Z' H' → Q (.bl (if neg then !(d.among ds) else d.among ds)) H') : tOp (rIn X.K neg) (wE X a) (wE X b) σ H Q :=
  ha.run Z0 F Z σ H s _ fun v Z1 H1 A1 g1 r1 n1 => by
    cases r1 with
    | fz r1 =>
      have e1 := r1.flat hf
      subst e1
      refine hb.run Z0 F Z1 σ H1 (s.grow g1) _ fun l vs Z2 H2 g2 l2 r2 => ?_
      have e2 := r2.flat hfs
      subst e2
      exact ⟨l, _, rfl, .inl l2, D.flat_v hf, D.flat_vs hfs, q Z2 H2 (g1.trans g2)⟩
theorem mt_inT (ha : ME X ρ a (.fz d)) (hb : MU X ρ b ds) (hf : d.flat = true := by rfl) (hfs : ds.all D.flat = true := by rfl) (hm : behindInMarks .In b = false := by rfl) : MT X ρ (.Compare a [.In] [b] pos) (d.among ds) := .mk fun Z0 F Z σ H s Q q =>
  PT_w (pt_cmpR op_in_seq pe_w pe_w hm) (inT_core op_in_seq ha hb hf hfs s fun Z' H' g => ⟨_, rfl, q Z' H' g⟩)
theorem mt_niT (ha : ME X ρ a (.fz d)) (hb : MU X ρ b ds) (hf : d.flat = true := by rfl) (hfs : ds.all D.flat = true := by rfl) (hm : behindInMarks .NotIn b = false := by rfl) : MT X ρ (.Compare a [.NotIn] [b] pos) (!(d.among ds)) := .mk fun Z0 F Z σ H s Q q =>
  PT_w (pt_cmpR op_notIn_seq pe_w pe_w hm) (inT_core op_notIn_seq ha hb hf hfs s fun Z' H' g => ⟨_, rfl, q Z' H' g⟩)
theorem mt_inL (ha : ME X ρ a (.fz d)) (hb : ML X ρ b ds) (hf : d.flat = true := by rfl) (hfs : ds.all D.flat = true := by rfl) (hm : behindInMarks .In b = false := by rfl) : MT X ρ (.Compare a [.In] [b] pos) (d.among ds) := .mk fun Z0 F Z σ H s Q q =>
  PT_w (pt_cmpR op_in_seq pe_w pe_w hm) (inL_core op_in_seq ha hb hf hfs s fun Z' H' g => ⟨_, rfl, q Z' H' g⟩)
theorem mt_niL (ha : ME X ρ a (.fz d)) (hb : ML X ρ b ds) (hf : d.flat = true := by rfl) (hfs : ds.all D.flat = true := by rfl) (hm : behindInMarks .NotIn b = false := by rfl) : MT X ρ (.Compare a [.NotIn] [b] pos) (!(d.among ds)) := .mk fun Z0 F Z σ H s Q q =>
  PT_w (pt_cmpR op_notIn_seq pe_w pe_w hm) (inL_core op_notIn_seq ha hb hf hfs s fun Z' H' g => ⟨_, rfl, q Z' H' g⟩)
end
/-! ### a module's constant that is a tuple -/
structure TupC (K : PySem.W.Frag) (mg : Str → Option Value) (nm : Str) (ds : List D) : Prop where
  ex : ∃ (a : Addr) (o : Obj) (its : Array Value) (n : Nat) (vs : List V), mg nm = some (.ref a) ∧ K.lookup a = some o ∧ o.cls = .type "tuple" ∧ o.data = .seq its n ∧ its.size ≤ sizeLine ∧ Vals vs its.toList ∧ ∀ Z, RepL K Z vs ds
theorem me_gT {X : Cx} {ρ : Slots} {nm : Str} {pos : Pos} {ds : List D} (c : TupC X.K X.mg nm ds) (hg : Gl X nm := by rfl) (hd : (nm == ("__debug__" : Str)) = false := by decide) : ME X ρ (.Name nm pos) (.fz (.tup ds)) := by
  obtain ⟨a, o, its, n, vs, hm, hk, hc, hda, hz, hv, hr⟩ := c.ex
  exact .mk fun Z0 F Z σ H s Q q => PE_w (pe_glob (v := .ref a) hg hm rfl hd) (q _ Z H [] (Gr.refl s.ex) (.fz (.tup (.inr ⟨o, its, n, hk, hc, hda, hz, hv⟩) (hr Z))) .nil)
end M
namespace M
open PySem L2 PySem.Spec PyProof.Rows
/-! ### a < b < c < d as a test -/
def tChain3 (r1 r2 r3 : R2) (ta tb tc td : TE) : TT := fun σ H Q => ta σ H fun x H1 => tb σ H1 fun y H2 => r1 x y H2 fun z H3 => ∃ k, z = .bl k ∧
  (if k = true then tc σ H3 fun w H4 => r2 y w H4 fun z2 H5 => ∃ k2, z2 = .bl k2 ∧ (if k2 = true then td σ H5 fun u H6 => r3 w u H6 fun z3 H7 => ∃ k3, z3 = .bl k3 ∧ Q k3 H7 else Q false H5) else Q false H3)
section
variable {X : Cx} {ρ : Slots} {a b c d : Expr} {ta tb tc td : TE} {pos : Pos} {m n k l : Int}
theorem pt_chain3 {op1 op2 op3 : CmpOp} {r1 r2 r3 : R2} (h1 : OpR X (compareOp op1) r1) (h2 : OpR X (compareOp op2) r2) (h3 : OpR X (compareOp op3) r3) (ha : PE X a ta) (hb : PE X b tb) (hc : PE X c tc) (hd : PE X d td)
    (hm : lastMarks [op1, op2, op3] [b, c, d] = false := by with_unfolding_all rfl) : PT X (.Compare a [op1, op2, op3] [b, c, d] pos) (tChain3 r1 r2 r3 ta tb tc td) := by
  refine ⟨fun pins s σ H Q I h => ?_⟩
  refine isTrue_chain (thn (ha.run pins s σ H _ I h) fun v s1 ⟨x, H1, I1, rx, q1⟩ => test_link (thn (hb.run pins s1 σ H1 _ I1 q1) fun u s2 ⟨y, H2, I2, ry, q2⟩ =>
    thn (h1 pins s2 σ H2 x y v u _ I2 rx ry q2) fun e s3 ⟨z, H3, I3, rz, k, ez, q3⟩ => ?_)) hm
  subst ez
  cases rz
  refine wpAny_truthy_bool ?_
  cases k with
  | false => exact ite_ff ⟨H3, I3, q3⟩
  | true =>
    refine ite_tt (test_link (thn (hc.run pins s3 σ H3 _ I3 q3) fun w' s4 ⟨w, H4, I4, rw', q4⟩ => thn (h2 pins s4 σ H4 y w u w' _ I4 ry rw' q4) fun e2 s5 ⟨z2, H5, I5, rz2, k2, ez2, q5⟩ => ?_))
    subst ez2
    cases rz2
    refine wpAny_truthy_bool ?_
    cases k2 with
    | false => exact ite_ff ⟨H5, I5, q5⟩
    | true =>
      refine ite_tt (test_last (thn (hd.run pins s5 σ H5 _ I5 q5) fun t' s6 ⟨t, H6, I6, rt, q6⟩ => thn (h3 pins s6 σ H6 w t w' t' _ I6 rw' rt q6) fun e3 s7 ⟨z3, H7, I7, rz3, k3, ez3, q7⟩ => ?_))
      subst ez3
      cases rz3
      exact wpAny_truthy_bool ⟨H7, I7, q7⟩
theorem mt_chain3 {op1 op2 op3 : CmpOp} {f1 f2 f3 : Int → Int → Bool} (h1 : OpR X (compareOp op1) (rI0 fun i j => .bl (f1 i j))) (h2 : OpR X (compareOp op2) (rI0 fun i j => .bl (f2 i j))) (h3 : OpR X (compareOp op3) (rI0 fun i j => .bl (f3 i j)))
    (ha : ME X ρ a (.fz (.int m))) (hb : ME X ρ b (.fz (.int n))) (hc : ME X ρ c (.fz (.int k))) (hd : ME X ρ d (.fz (.int l))) (hm : lastMarks [op1, op2, op3] [b, c, d] = false := by with_unfolding_all rfl) : MT X ρ (.Compare a [op1, op2, op3] [b, c, d] pos) (f1 m n && (f2 n k && f3 k l)) := .mk fun Z0 F Z σ H s Q q =>
  PT_w (pt_chain3 h1 h2 h3 pe_w pe_w pe_w pe_w hm) (ha.run Z0 F Z σ H s _ fun v Z1 H1 A1 g1 r1 n1 => hb.run Z0 F Z1 σ H1 (s.grow g1) _ fun w Z2 H2 A2 g2 r2 n2 => by
    cases r1 with
    | fz r1 =>
      cases r1
      cases r2 with
      | fz r2 =>
        cases r2
        refine ⟨m, n, rfl, rfl, f1 m n, rfl, ?_⟩
        cases hf : f1 m n with
        | false =>
          rw [if_neg Bool.false_ne_true]
          have q' := q Z2 H2 (g1.trans g2)
          rw [hf] at q'
          exact q'
        | true =>
          rw [if_pos rfl]
          refine hc.run Z0 F Z2 σ H2 (s.grow (g1.trans g2)) _ fun y Z3 H3 A3 g3 r3 n3 => ?_
          cases r3 with
          | fz r3 =>
            cases r3
            refine ⟨n, k, rfl, rfl, f2 n k, rfl, ?_⟩
            cases hf2 : f2 n k with
            | false =>
              rw [if_neg Bool.false_ne_true]
              have q' := q Z3 H3 ((g1.trans g2).trans g3)
              rw [hf, hf2] at q'
              exact q'
            | true =>
              rw [if_pos rfl]
              refine hd.run Z0 F Z3 σ H3 (s.grow ((g1.trans g2).trans g3)) _ fun t Z4 H4 A4 g4 r4 n4 => ?_
              cases r4 with
              | fz r4 =>
                cases r4
                have q' := q Z4 H4 (((g1.trans g2).trans g3).trans g4)
                rw [hf, hf2] at q'
                exact ⟨k, l, rfl, rfl, f3 k l, rfl, q'⟩)
theorem me_isN {o : O} {e : Expr} {k2 : Nat} {p2 : Pos} (ha : MV X ρ e o) : ME X ρ (.Compare e [.Is] [.Constant .none k2 p2] pos) (.fz (.bl o.isNon)) := .mk fun Z0 F Z σ H s Q q =>
  PE_w (pe_cmpR op_isN pe_w pe_non (nomark _)) (ha.run Z0 F Z σ H s _ fun v Z1 H1 A1 g1 r1 => ⟨rfl, by rw [r1.isNon]; exact q _ Z1 H1 [] g1 (.fz (.bl _)) .nil⟩)
theorem me_notN {o : O} {e : Expr} {k2 : Nat} {p2 : Pos} (ha : MV X ρ e o) : ME X ρ (.Compare e [.IsNot] [.Constant .none k2 p2] pos) (.fz (.bl (!o.isNon))) := .mk fun Z0 F Z σ H s Q q =>
  PE_w (pe_cmpR op_notN pe_w pe_non (nomark _)) (ha.run Z0 F Z σ H s _ fun v Z1 H1 A1 g1 r1 => ⟨rfl, by rw [r1.isNon]; exact q _ Z1 H1 [] g1 (.fz (.bl _)) .nil⟩)
end
/-! ### ranges with a step -/
theorem wk_rngC {K : PySem.W.Frag} {Zs F : Hp} (lo c : Int) (n : Nat) : Wk K Zs F (Itc lo c n) ((List.range n).map fun k : Nat => D.int (lo + (k : Nat) * c)) := by
  refine ⟨fun i d Z H h _ _ zh => ?_, fun Z H _ _ _ => ?_⟩
  · rw [List.getElem?_map] at h
    by_cases hi : i < n
    · rw [List.getElem?_range hi] at h
      cases h
      refine ⟨hi, fun x H' hy => ?_⟩
      obtain ⟨e, ex⟩ := hy
      subst e ex
      exact ⟨Z, Gr.refl zh, .int _⟩
    · rw [List.getElem?_eq_none (by simpa using hi)] at h
      cases h
  · rw [List.length_map, List.length_range]
    exact Nat.le_refl n
theorem mi_range3 {X : Cx} {ρ : Slots} {es : List Expr} {i j c : Int} {n : Nat} (h : MF X ρ es [.int i, .int j, .int c]) (hr : RgC i j c n) : MI X ρ (iRng3 (wA X es)) ((List.range n).map fun k : Nat => D.int (i + (k : Nat) * c)) := .mk fun Z0 F Z σ H s R q => h.run Z0 F Z σ H s _ fun vs Z' H' g r => by
  cases r with
  | cons a r =>
    cases a
    cases r with
    | cons b r =>
      cases b
      cases r with
      | cons d r =>
        cases d
        cases r
        exact ⟨i, j, c, n, rfl, hr, q _ Z' H' g (wk_rngC i c n)⟩
theorem rgC_5 : ∀ m : Nat, m < 61 → RgC 0 (m : Int) 5 ((m + 4) / 5) := by
  unfold RgC
  decide +kernel
theorem kit_true {K : PySem.W.Frag} {C E : Addr} (h1 : PySem.W.isClsIn K E = true) (h2 : PySem.W.typeIn K (.ref E) = some (.type "type")) (h3 : PySem.W.mroIn K C (.ref E) = some true) : PySem.W.kitOne K (.ref C) (.ref E) = some true := by
  unfold PySem.W.kitOne
  split
  · rfl
  · show PySem.W.kitCls K (.ref C) (.ref E) = some true
    have e : PySem.W.kitCls K (.ref C) (.ref E) = if ((PySem.W.clsIn K E).isSome && PySem.W.typeIn K (.ref E) == some (.type "type")) = true then PySem.W.mroIn K C (.ref E) else none := rfl
    rw [e, if_pos, h3]
    rw [h2]
    show ((PySem.W.clsIn K E).isSome && _) = true
    rw [show (PySem.W.clsIn K E).isSome = true from h1]
    decide
end M
namespace M
open PySem L2 PySem.Spec PyProof.Rows
section
variable {X : Cx} {ρ : Slots} {a b c e : Expr} {es : List Expr} {pos p0 p1 : Pos} {p q : Str} {k : Bool} {ys : List Str}
theorem RepL.strs {K : PySem.W.Frag} {Z : Hp} : ∀ {ys : List Str} {vs : List V}, RepL K Z vs (ys.map .str) → vs = ys.map V.str
  | [], _, .nil => rfl
  | _ :: _, _, .cons (.str _) r => by rw [RepL.strs r]; rfl
/-- s.join(xs), xs a list of texts -/
theorem me_joinL (ha : ME X ρ a (.fz (.str p))) (hb : ML X ρ b (ys.map .str)) (hz : (ys.map (·.length)).sum + ys.length * p.length ≤ 16777216) (hs : starEach [b] X.env = [(false, eval b X.env)] := by rfl) (hbase : attributeBase a "join" X.env (eval a X.env) = eval a X.env := by rfl) (hline : (p1.endLine == pos.line) = true := by rfl) :
    ME X ρ (.Call (.Attribute a "join" p1) [b] [] pos) (.fz (.str (Txt.join p ys))) := .mk fun Z0 F Z σ H s Q qq =>
  PE_w (pe_join pe_w pe_w hs hbase hline) (ha.run Z0 F Z σ H s _ fun v Z1 H1 A1 g1 r1 n1 => by
    cases r1 with
    | fz r1 =>
      cases r1
      refine ⟨⟨_, rfl⟩, hb.run Z0 F Z1 σ H1 (s.grow g1) _ fun l vs Z2 H2 g2 l2 r2 => ?_⟩
      have e := r2.strs
      subst e
      exact ⟨p, l, ys, rfl, rfl, .inl l2, hz, qq _ Z2 H2 [] (g1.trans g2) (.fz (.str _)) .nil⟩)
/-- int(k) of a truth -/
theorem me_intB (hg : Gl X "int") (hm : X.mg "int" = none) (ha : ME X ρ a (.fz (.bl k))) (n1 : NS X a := by exact fun _ => rfl) : ME X ρ (.Call (.Name "int" p0) [a] [] pos) (.fz (.int (if k then 1 else 0))) := .mk fun Z0 F Z σ H s Q q =>
  PE_w (pe_callTy call_int1 hg hm (by decide +kernel) (pa_cons pe_w pa_nil (n1 _)) (he := n1 _)) (ha.run Z0 F Z σ H s _ fun v Z1 H1 A1 g1 r1 n1 => by
    cases r1 with
    | fz r1 =>
      cases r1
      exact .inr ⟨k, rfl, q _ Z1 H1 [] g1 (.fz (.int _)) .nil⟩)
end
end M
namespace M
open PySem L2 PySem.Spec PyProof.Rows
/-! ### mirrors: what a def computes, none where the layer has no word -/
noncomputable def gd {α : Type} (p : Prop) (k : Option α) : Option α := @ite _ p (Classical.propDecidable p) k none
def bd {α β : Type} (o : Option α) (k : α → Option β) : Option β := o.bind k
def lt {α β : Type} (a : α) (k : α → Option β) : Option β := k a
section
variable {α β γ : Type}
theorem gd_some {p : Prop} {k : Option α} {r : α} (h : gd p k = some r) : p ∧ k = some r := by
  unfold gd at h
  by_cases hp : p
  · rw [if_pos hp] at h
    exact ⟨hp, h⟩
  · rw [if_neg hp] at h
    cases h
theorem gd_pos {p : Prop} {k : Option α} (h : p) : gd p k = k := if_pos h
theorem bd_some {o : Option α} {k : α → Option β} {r : β} (h : bd o k = some r) : ∃ a, o = some a ∧ k a = some r := Option.bind_eq_some_iff.mp h
theorem bd_of {o : Option α} {k : α → Option β} {a : α} (h : o = some a) : bd o k = k a := by rw [h]; rfl
theorem lt_some {a : α} {k : α → Option β} {r : β} (h : lt a k = some r) : ∃ x, x = a ∧ k x = some r := ⟨a, rfl, h⟩
theorem lt_of {a : α} {k : α → Option β} : lt a k = k a := rfl
theorem cond_t {c : Bool} {a b : α} {r : α} (h : cond c a b = r) (hc : c = true) : a = r := by rw [hc] at h; exact h
theorem cond_f {c : Bool} {a b : α} {r : α} (h : cond c a b = r) (hc : c = false) : b = r := by rw [hc] at h; exact h
theorem and_c {k c : Bool} {b : Option Bool} (h : cond k b (some false) = some c) : (k && c) = c := by
  cases k with
  | true => rfl
  | false => cases h; rfl
theorem or_c {k c : Bool} {b : Option Bool} (h : cond k (some true) b = some c) : (k || c) = c := by
  cases k with
  | true => cases h; rfl
  | false => rfl
end
/-- how a block ends: on, out of the loop, to its next turn, out of the def -/
inductive Ou (V W R : Type) where
  | nx (v : V) | bk (w : W) | ct (w : W) | rt (r : R)
def ouR {V W R : Type} : Ou V W R → (V → Option R) → Option R
  | .nx v, k => k v
  | .rt r, _ => some r
  | _, _ => none
def ouO {V W V' R : Type} : Ou V W R → (V → Option (Ou V' W R)) → Option (Ou V' W R)
  | .nx v, k => k v
  | .rt r, _ => some (.rt r)
  | .bk w, _ => some (.bk w)
  | .ct w, _ => some (.ct w)
/-- behind a loop -/
def ouL {V V' W R : Type} : Ou V V R → (V → Option (Ou V' W R)) → Option (Ou V' W R)
  | .nx v, k => k v
  | .rt r, _ => some (.rt r)
  | _, _ => none
def lp {α V : Type} (f : α → V → Option V) : List α → V → Option V
  | [], v => some v
  | x :: xs, v => bd (f x v) fun v' => lp f xs v'
def lpO {α V R : Type} (f : α → V → Option (Ou V V R)) : List α → V → Option (Ou V V R)
  | [], v => some (.nx v)
  | x :: xs, v => bd (f x v) fun o => match o with
    | .nx v' => lpO f xs v'
    | .ct v' => lpO f xs v'
    | .bk v' => some (.nx v')
    | .rt r => some (.rt r)
def mpO {α β : Type} (f : α → Option β) : List α → Option (List β)
  | [] => some []
  | x :: xs => bd (f x) fun y => bd (mpO f xs) fun ys => some (y :: ys)
/-- .. of those that a test keeps -/
def fmO {α β : Type} (t : α → Option Bool) (f : α → Option β) : List α → Option (List β)
  | [] => some []
  | x :: xs => bd (t x) fun k => cond k (bd (f x) fun y => bd (fmO t f xs) fun ys => some (y :: ys)) (fmO t f xs)
theorem mpO_pure {α β : Type} (f : α → β) (xs : List α) : mpO (fun x => some (f x)) xs = some (xs.map f) := by
  induction xs with
  | nil => rfl
  | cons x xs ih => show bd (mpO _ xs) _ = _; rw [ih]; rfl
theorem mpO_of {α β : Type} {f : α → Option β} {g : α → β} {xs : List α} (h : ∀ x ∈ xs, f x = some (g x)) : mpO f xs = some (xs.map g) := by
  induction xs with
  | nil => rfl
  | cons x xs ih =>
    show bd (f x) _ = _
    rw [h x List.mem_cons_self]
    show bd (mpO f xs) _ = _
    rw [ih fun y m => h y (List.mem_cons_of_mem _ m)]
    rfl
theorem fmO_of {α β : Type} {t : α → Option Bool} {f : α → Option β} {p : α → Bool} {g : α → β} {xs : List α} (ht : ∀ x ∈ xs, t x = some (p x)) (h : ∀ x ∈ xs, p x = true → f x = some (g x)) : fmO t f xs = some ((xs.filter p).map g) := by
  induction xs with
  | nil => rfl
  | cons x xs ih =>
    show bd (t x) _ = _
    rw [ht x List.mem_cons_self]
    show cond (p x) _ _ = _
    have ih := ih (fun y m => ht y (List.mem_cons_of_mem _ m)) fun y m => h y (List.mem_cons_of_mem _ m)
    cases hp : p x with
    | true =>
      show bd (f x) _ = _
      rw [h x List.mem_cons_self hp]
      show bd (fmO t f xs) _ = _
      rw [ih, List.filter_cons, if_pos hp]
      rfl
    | false =>
      show fmO t f xs = _
      rw [ih, List.filter_cons, if_neg (by rw [hp]; decide)]
theorem lp_of {α V : Type} {f : α → V → Option V} {g : V → α → V} (I : V → Prop) {xs : List α} {v : V} (h : ∀ x ∈ xs, ∀ v, I v → f x v = some (g v x) ∧ I (g v x)) (hv : I v) : lp f xs v = some (xs.foldl g v) ∧ I (xs.foldl g v) := by
  induction xs generalizing v with
  | nil => exact ⟨rfl, hv⟩
  | cons x xs ih =>
    obtain ⟨e, i⟩ := h x List.mem_cons_self v hv
    have q := ih (fun y m => h y (List.mem_cons_of_mem _ m)) i
    refine ⟨?_, q.2⟩
    show bd (f x v) _ = _
    rw [e]
    exact q.1
/-- an invariant by the turn's number -/
theorem lp_inv {α V : Type} {f : α → V → Option V} (I : Nat → V → Prop) {xs : List α} {v : V} (h0 : I 0 v) (h : ∀ (i : Nat) (x : α) (v : V), xs[i]? = some x → I i v → ∃ v', f x v = some v' ∧ I (i + 1) v') : ∃ v', lp f xs v = some v' ∧ I xs.length v' := by
  induction xs generalizing v I with
  | nil => exact ⟨v, rfl, h0⟩
  | cons x xs ih =>
    obtain ⟨v1, e, i1⟩ := h 0 x v rfl h0
    obtain ⟨v2, e2, i2⟩ := ih (fun i => I (i + 1)) i1 fun i y w hy hw => h (i + 1) y w (by simpa using hy) hw
    refine ⟨v2, ?_, i2⟩
    show bd (f x v) _ = _
    rw [e]
    exact e2
/-- a loop that runs to its end -/
theorem lpO_inv {α V R : Type} {f : α → V → Option (Ou V V R)} (I : Nat → V → Prop) {xs : List α} {v : V} (h0 : I 0 v) (h : ∀ (i : Nat) (x : α) (v : V), xs[i]? = some x → I i v → ∃ v', (f x v = some (.nx v') ∨ f x v = some (.ct v')) ∧ I (i + 1) v') : ∃ v', lpO f xs v = some (.nx v') ∧ I xs.length v' := by
  induction xs generalizing v I with
  | nil => exact ⟨v, rfl, h0⟩
  | cons x xs ih =>
    obtain ⟨v1, e, i1⟩ := h 0 x v rfl h0
    obtain ⟨v2, e2, i2⟩ := ih (fun i => I (i + 1)) i1 fun i y w hy hw => h (i + 1) y w (by simpa using hy) hw
    refine ⟨v2, ?_, i2⟩
    show bd (f x v) _ = _
    rcases e with e | e <;> rw [e] <;> exact e2
/-- any end: the outcomes by invariants -/
theorem lpO_post {α V R : Type} {f : α → V → Option (Ou V V R)} (I : Nat → V → Prop) (P : Ou V V R → Prop) {xs : List α} {v : V} (h0 : I 0 v) (h : ∀ (i : Nat) (x : α) (v : V), xs[i]? = some x → I i v → ∃ o, f x v = some o ∧ match o with
    | .nx v' => I (i + 1) v'
    | .ct v' => I (i + 1) v'
    | .bk v' => P (.nx v')
    | .rt r => P (.rt r)) (hd : ∀ v, I xs.length v → P (.nx v)) : ∃ o, lpO f xs v = some o ∧ P o := by
  induction xs generalizing v I with
  | nil => exact ⟨_, rfl, hd v h0⟩
  | cons x xs ih =>
    obtain ⟨o, e, i1⟩ := h 0 x v rfl h0
    have go : ∀ v1, I 1 v1 → ∃ o, lpO f xs v1 = some o ∧ P o := fun v1 i1 => ih (fun i => I (i + 1)) i1 (fun i y w hy hw => h (i + 1) y w (by simpa using hy) hw) hd
    cases o with
    | nx v1 =>
      obtain ⟨o2, e2, i2⟩ := go v1 i1
      exact ⟨o2, by show bd (f x v) _ = _; rw [e]; exact e2, i2⟩
    | ct v1 =>
      obtain ⟨o2, e2, i2⟩ := go v1 i1
      exact ⟨o2, by show bd (f x v) _ = _; rw [e]; exact e2, i2⟩
    | bk v1 => exact ⟨_, by show bd (f x v) _ = _; rw [e]; rfl, i1⟩
    | rt r => exact ⟨_, by show bd (f x v) _ = _; rw [e]; rfl, i1⟩
/-! ### the goal of a block by its mirror's end -/
def goO {V W R : Type} (Rn : V → Slots) (Rw : W → Slots) (er : R → O) (o : Ou V W R) : Go :=
  { nx := fun τ => ∃ v, o = .nx v ∧ Le τ (Rn v), bk := fun τ => ∃ w, o = .bk w ∧ Le τ (Rw w), ct := fun τ => ∃ w, o = .ct w ∧ Le τ (Rw w), rt := fun q => ∃ r, o = .rt r ∧ q = er r }
section
variable {X : Cx} {ρ : Slots} {e a b c elt : Expr} {es : List Expr} {st : Stmt} {sts : List Stmt} {G : Go} {o o1 o2 : O} {d : D} {ds : List D} {pos p0 p1 p2 p3 p4 : Pos} {i : Nat} {x nm : Str} {α β V W R : Type}
/-- for, no way out but the end -/
theorem m_forP {xs : List α} {enc : α → D} {wi : TI} {g : TG} {body : List Stmt} (p : PS X st (tFor wi g (wS X body))) (h : MI X ρ wi (xs.map enc)) {f : α → V → Option V} {v0 v1 : V} (hx : lp f xs v0 = some v1) (Rn : V → Slots) (h0 : Le ρ (Rn v0))
    (hs : ∀ (x : α) (v v' : V), x ∈ xs → f x v = some v' → ∃ τ' ws, MTg g X.K (Rn v) (enc x) τ' ws ∧ MS X τ' body { nx := fun τ => Le τ (Rn v') })
    (hd : ∀ τ, Le τ (Rn v1) → G.nx τ) : MS1 X ρ st G := by
  refine m_forTS (xs := xs) (enc := enc) p h (fun v : V => Rn v) (fun j v => lp f (xs.drop j) v = some v1) ⟨v0, hx, h0⟩ (fun j y v hj hv => ?_) fun τ v hv l => hd τ ?_
  · obtain ⟨hi, ey⟩ := List.getElem?_eq_some_iff.mp hj
    rw [← List.getElem_cons_drop (h := hi), ey] at hv
    obtain ⟨v', e1, e2⟩ := bd_some hv
    obtain ⟨τ', ws, t1, t2⟩ := hs y v v' (List.mem_of_getElem? hj) e1
    exact ⟨τ', ws, t1, ms_imp t2 (fun τ l => ⟨v', e2, l⟩) (fun _ z => z.elim) (fun _ z => z.elim) (fun _ z => z.elim) fun _ _ z => z.elim⟩
  · rw [List.drop_length] at hv
    cases hv
    exact l
/-- for with ways out -/
theorem m_forO {xs : List α} {enc : α → D} {wi : TI} {g : TG} {body : List Stmt} (p : PS X st (tFor wi g (wS X body))) (h : MI X ρ wi (xs.map enc)) {f : α → V → Option (Ou V V R)} {v0 : V} {out : Ou V V R} (hx : lpO f xs v0 = some out) (Rn : V → Slots) (er : R → O) (h0 : Le ρ (Rn v0))
    (hs : ∀ (x : α) (v : V) (o : Ou V V R), x ∈ xs → f x v = some o → ∃ τ' ws, MTg g X.K (Rn v) (enc x) τ' ws ∧ MS X τ' body (goO Rn Rn er o))
    (hd : ∀ v τ, out = .nx v → Le τ (Rn v) → G.nx τ) (hr : ∀ r, out = .rt r → G.rt (er r)) : MS1 X ρ st G := by
  refine m_forTS (xs := xs) (enc := enc) p h (fun v : V => Rn v) (fun j v => lpO f (xs.drop j) v = some out) ⟨v0, hx, h0⟩ (fun j y v hj hv => ?_) fun τ v hv l => ?_
  · obtain ⟨hi, ey⟩ := List.getElem?_eq_some_iff.mp hj
    rw [← List.getElem_cons_drop (h := hi), ey] at hv
    obtain ⟨o, e1, e2⟩ := bd_some hv
    obtain ⟨τ', ws, t1, t2⟩ := hs y v o (List.mem_of_getElem? hj) e1
    refine ⟨τ', ws, t1, ms_imp t2 (fun τ l => ?_) (fun q l => ?_) (fun τ l => ?_) (fun τ l => ?_) fun _ _ z => z.elim⟩
    · obtain ⟨v', rfl, l⟩ := l
      exact ⟨v', e2, l⟩
    · obtain ⟨r, rfl, rfl⟩ := l
      cases e2
      exact hr r rfl
    · obtain ⟨v', rfl, l⟩ := l
      cases e2
      exact hd v' τ rfl l
    · obtain ⟨v', rfl, l⟩ := l
      exact ⟨v', e2, l⟩
  · rw [List.drop_length] at hv
    cases hv
    exact hd v τ rfl l
/-- if whose ways come together -/
theorem m_ifO {c : Expr} {a b : List Stmt} {t : Bool} {p : Pos} {out : Ou V W R} (Rn : V → Slots) (Rw : W → Slots) (er : R → O) (hc : MT X ρ c t) (h1 : t = true → MS X ρ a (goO Rn Rw er out)) (h2 : t = false → MS X ρ b (goO Rn Rw er out))
    (kn : ∀ v τ, out = .nx v → Le τ (Rn v) → G.nx τ) (kb : ∀ w τ, out = .bk w → Le τ (Rw w) → G.bk τ) (kc : ∀ w τ, out = .ct w → Le τ (Rw w) → G.ct τ) (kr : ∀ r, out = .rt r → G.rt (er r)) : MS1 X ρ (.If c a b p) G := by
  have im : ∀ {s : List Stmt}, MS X ρ s (goO Rn Rw er out) → MS X ρ s G := fun h => ms_imp h (fun τ ⟨v, e, l⟩ => kn v τ e l) (fun q ⟨r, e, l⟩ => by rw [l]; exact kr r e) (fun τ ⟨v, e, l⟩ => kb v τ e l) (fun τ ⟨v, e, l⟩ => kc v τ e l) fun _ _ z => z.elim
  exact m_if hc (fun h => im (h1 h)) fun h => im (h2 h)
/-- if whose ways come together, none leaves -/
theorem m_ifP {c : Expr} {a b : List Stmt} {t : Bool} {p : Pos} {out : V} (Rn : V → Slots) (hc : MT X ρ c t) (h1 : t = true → MS X ρ a { nx := fun τ => Le τ (Rn out) }) (h2 : t = false → MS X ρ b { nx := fun τ => Le τ (Rn out) })
    (kn : ∀ τ, Le τ (Rn out) → G.nx τ) : MS1 X ρ (.If c a b p) G := by
  have im : ∀ {s : List Stmt}, MS X ρ s { nx := fun τ => Le τ (Rn out) } → MS X ρ s G := fun h => ms_imp h (fun τ l => kn τ l) (fun q z => z.elim) (fun τ z => z.elim) (fun τ z => z.elim) fun _ _ z => z.elim
  exact m_if hc (fun h => im (h1 h)) fun h => im (h2 h)
/-! ### typed lists -/
theorem atI_map {enc : α → D} {xs : List α} {k : Int} {y : α} (h : L2.atI xs k = some y) : L2.atI (xs.map enc) k = some (enc y) := by
  unfold L2.atI at h ⊢
  rw [List.length_map]
  cases e : ixN xs.length k with
  | none => rw [e] at h; cases h
  | some n =>
    rw [e] at h
    have h : xs[n]? = some y := h
    show (xs.map enc)[n]? = some (enc y)
    rw [List.getElem?_map, h]
    rfl
theorem me_ixLT {xs : List α} {enc : α → D} {k : Int} {y : α} (h : L2.atI xs k = some y) (ha : ML X ρ a (xs.map enc)) (hb : ME X ρ b (.fz (.int k))) (hp : PlainIx b := by exact fun _ _ => rfl) : ME X ρ (.Subscript a b pos) (.fz (enc y)) := me_ixL ha hb (atI_map h) hp
theorem cutG_map {enc : α → β} {xs : List α} {lo hi : Option Int} : cutG (xs.map enc) lo hi = (cutG xs lo hi).map enc := by
  unfold cutG
  rw [List.length_map, List.map_take, List.map_drop]
theorem me_slLT {xs : List α} {enc : α → D} {lo hi : Option Expr} {li hj : Option Int} (ha : ML X ρ a (xs.map enc)) (hl : MO X ρ lo li) (hh : MO X ρ hi hj) : ME X ρ (.Subscript a (.Slice lo hi none p2) pos) (.lst (((cutG xs li hj).map enc).map .fz)) := ME.is (me_slL ha hl hh) (by rw [cutG_map])
theorem me_revLT {xs : List α} {enc : α → D} {kk : Nat} (ha : ML X ρ a (xs.map enc)) : ME X ρ (.Subscript a (.Slice none none (some (.UnaryOp .USub (.Constant (.int 1) kk p1) p2)) p3) pos) (.lst ((xs.reverse.map enc).map .fz)) := ME.is (me_revL ha) (congrArg (fun z => O.lst (List.map O.fz z)) List.map_reverse.symm)
theorem me_catLT {xs ys : List α} {enc : α → D} (hl : xs.length + ys.length ≤ sizeLine) (ha : MV X ρ a (.lst ((xs.map enc).map .fz))) (hb : MV X ρ b (.lst ((ys.map enc).map .fz))) : ME X ρ (.BinOp a .Add b pos) (.lst (((xs ++ ys).map enc).map .fz)) := ME.is (me_catL ha hb (by rw [List.length_map, List.length_map]; exact hl)) (congrArg (fun z => O.lst (List.map O.fz z)) List.map_append.symm)
theorem m_appendT {xs : List α} {enc : α → D} {y : α} {p1 p2 p3 p4 : Pos} (hl : xs.length < sizeLine) (p : PE X (.Name x p1) (tVar i)) (hi : ρ[i]? = some (some (.lst ((xs.map enc).map .fz)))) (he : ME X ρ e (.fz (enc y))) (k : G.nx (ρ.set i (some (.lst (((xs ++ [y]).map enc).map .fz)))))
    (q : ∀ t, PE X (.Call (.Attribute (.Name x p1) "append" p2) [e] [] p3) t → PS X (.Expr (.Call (.Attribute (.Name x p1) "append" p2) [e] [] p3) p4) (tDrop t) := by exact fun _ h => ps_expr h)
    (pm : PE X (.Call (.Attribute (.Name x p1) "append" p2) [e] [] p3) (tBM X.K "list" rAppend (tVar i) (tCons (wE X e) tNil)) := by exact pe_bm PySem.F.plainAttrs_list PySem.F.slot_list_append PySem.F.type_list_append mt_append (pv _) (pa_cons pe_w pa_nil)) : MS1 X ρ (.Expr (.Call (.Attribute (.Name x p1) "append" p2) [e] [] p3) p4) G :=
  m_append p hi he (by rw [List.length_map, List.length_map]; exact hl) (by rw [List.map_append, List.map_append] at k; exact k) q pm
theorem m_setItemT {xs : List α} {enc : α → D} {y : α} {k : Int} {j : Nat} (hj : ixN xs.length k = some j) (pn : PE X (.Name x p1) (tVar i)) (hi : ρ[i]? = some (some (.lst ((xs.map enc).map .fz)))) (h1 : ME X ρ a (.fz (.int k))) (h2 : ME X ρ b (.fz (enc y))) (kk : G.nx (ρ.set i (some (.lst (((xs.set j y).map enc).map .fz)))))
    (pm : PS X (.Assign [.Subscript (.Name x p1) a p2] b p3) (tAsg (wE X b) (gSub (tVar i) (wE X a) rSetL)) := by exact ps_asg pe_w (pg_sub (pv _) pe_w set_list)) : MS1 X ρ (.Assign [.Subscript (.Name x p1) a p2] b p3) G :=
  m_setItem pn hi h1 h2 (by rw [List.length_map]; exact hj) (by rw [List.map_set] at kk; exact kk) pm
theorem enm_map {enc : α → D} {xs : List α} : enm (xs.map enc) = xs.zipIdx.map fun p => D.tup [.int (p.2 : Nat), enc p.1] := by
  unfold enm
  rw [List.zipIdx_map, List.map_map]
  rfl
theorem mi_enumT {xs : List α} {enc : α → D} (h : MK X ρ e (xs.map enc)) (n1 : NS X e := by exact fun _ => rfl) : MI X ρ (iEnum X.K (wA X [e])) (xs.zipIdx.map fun p => D.tup [.int (p.2 : Nat), enc p.1]) := by
  rw [← enm_map]
  exact mi_enum h n1
theorem mi_revT {xs : List α} {enc : α → D} (h : MK X ρ e (xs.map enc)) (n1 : NS X e := by exact fun _ => rfl) : MI X ρ (iRev X.K (wA X [e])) (xs.reverse.map enc) := by
  rw [List.map_reverse]
  exact mi_rev h n1
theorem mi_rangeT {j : Int} (h : MF X ρ es [.int j]) (h1 : -(2 ^ 62) ≤ j ∧ j < 2 ^ 62) : MI X ρ (iRng1 (wA X es)) ((List.range j.toNat).map fun k : Nat => D.int (k : Nat)) := by
  have q := mi_range1 h h1.1 h1.2
  unfold rng at q
  simp only [Int.zero_add] at q
  exact q
theorem mi_rangeT2 {k j : Int} (h : MF X ρ es [.int k, .int j]) (hb : -(2 ^ 62) ≤ k ∧ k < 2 ^ 62 ∧ -(2 ^ 62) ≤ j ∧ j < 2 ^ 62) : MI X ρ (iRng2 (wA X es)) ((List.range (j - k).toNat).map fun m : Nat => D.int (k + (m : Nat))) := mi_range2 h hb
theorem mi_strT {y : Str} (h : ME X ρ e (.fz (.str y))) : MI X ρ (iStr (wE X e)) (y.cps.toList.map fun c => D.str ⟨#[c]⟩) := mi_str h
/-! ### comprehensions by their mirrors -/
theorem mpO_get {f : α → Option β} : ∀ {xs : List α} {ys : List β}, mpO f xs = some ys → (∀ x ∈ xs, ∃ y, f x = some y) ∧ ys = xs.filterMap f
  | [], _, h => by cases h; exact ⟨fun _ m => (nomatch m), rfl⟩
  | x :: xs, _, h => by
    obtain ⟨y, e1, h⟩ := bd_some h
    obtain ⟨ys, e2, h⟩ := bd_some h
    cases h
    obtain ⟨q1, q2⟩ := mpO_get e2
    refine ⟨fun z m => (List.mem_cons.mp m).elim (fun e => by rw [e]; exact ⟨y, e1⟩) (q1 z), ?_⟩
    rw [List.filterMap_cons, e1, q2]
noncomputable def ofO (enc : β → D) (f : α → Option β) (x : α) : D := match f x with
  | some y => enc y
  | none => .non
theorem mpO_map {enc : β → D} {f : α → Option β} : ∀ {xs : List α} {ys : List β}, mpO f xs = some ys → xs.map (ofO enc f) = ys.map enc
  | [], _, h => by cases h; rfl
  | x :: xs, _, h => by
    obtain ⟨y, e1, h⟩ := bd_some h
    obtain ⟨ys, e2, h⟩ := bd_some h
    cases h
    rw [List.map_cons, List.map_cons, mpO_map e2]
    unfold ofO
    rw [e1]
theorem fmO_map {enc : β → D} {t : α → Option Bool} {f : α → Option β} : ∀ {xs : List α} {ys : List β}, fmO t f xs = some ys → ∃ p : α → Bool, (∀ x ∈ xs, t x = some (p x)) ∧ (∀ x ∈ xs, p x = true → ∃ y, f x = some y) ∧ (xs.filter p).map (ofO enc f) = ys.map enc := by
  intro xs ys h
  refine ⟨fun x => t x == some true, ?_⟩
  induction xs generalizing ys with
  | nil => cases h; exact ⟨fun _ m => (nomatch m), fun _ m => (nomatch m), rfl⟩
  | cons x xs ih =>
    obtain ⟨k, e1, h⟩ := bd_some h
    cases k with
    | true =>
      obtain ⟨y, e2, h⟩ := bd_some h
      obtain ⟨zs, e3, h⟩ := bd_some h
      cases h
      obtain ⟨q1, q2, q3⟩ := ih e3
      refine ⟨fun z m => (List.mem_cons.mp m).elim (fun e => by rw [e]; show t x = some (t x == some true); rw [e1]; rfl) (q1 z), fun z m => (List.mem_cons.mp m).elim (fun e _ => by rw [e]; exact ⟨y, e2⟩) (q2 z), ?_⟩
      rw [List.filter_cons, if_pos (by rw [e1]; rfl), List.map_cons, List.map_cons, q3]
      unfold ofO
      rw [e2]
    | false =>
      obtain ⟨q1, q2, q3⟩ := ih h
      refine ⟨fun z m => (List.mem_cons.mp m).elim (fun e => by rw [e]; show t x = some (t x == some true); rw [e1]; rfl) (q1 z), fun z m => (List.mem_cons.mp m).elim (fun e k => by rw [e] at k; have k : (t x == some true) = true := k; rw [e1] at k; cases k) (q2 z), ?_⟩
      rw [List.filter_cons, if_neg (by rw [e1]; decide)]
      exact q3
theorem me_lcO {xs : List α} {ys : List β} {enc : α → D} {enc2 : β → D} {f : α → Option β} (hy : mpO f xs = some ys) {wi : TI} {g : TG} {scope : Scope} {vs : List Nat} (p : ∀ te : TE, (∀ (s : Shared) (H : Hp) (C : Addr) (cl : List (Str × Addr)) (fp : List Addr), PE (X.blk s H scope (compEnvC scope cl C X.env) fp) elt te) → PE X e (tLc wi g tYes te vs))
    (h : MIc X ρ wi (xs.map enc)) (hz : xs.length < sizeLine)
    (hs : ∀ d ∈ xs, ∀ y, f d = some y → ∃ τ ws, MTg g X.K (wipeS ρ vs) (enc d) τ ws ∧ (∀ w ∈ ws, w ∈ vs) ∧ ∀ (s : Shared) (H : Hp) (C : Addr) (cl : List (Str × Addr)) (fp : List Addr), ME (X.blk s H scope (compEnvC scope cl C X.env) fp) τ elt (.fz (enc2 y))) :
    ME X ρ e (.lst ((ys.map enc2).map .fz)) := ME.is (me_lc p h (ofO enc2 f) hz fun d m => by
    obtain ⟨y, ey⟩ := (mpO_get hy).1 d m
    obtain ⟨τ, ws, t1, t2, t3⟩ := hs d m y ey
    exact ⟨τ, ws, t1, t2, fun s H C cl fp => ME.is (t3 s H C cl fp) (by unfold ofO; rw [ey])⟩) (by rw [mpO_map hy])
theorem me_lcIfO {xs : List α} {ys : List β} {enc : α → D} {enc2 : β → D} {t : α → Option Bool} {f : α → Option β} (hy : fmO t f xs = some ys) {wi : TI} {g : TG} {scope : Scope} {vs : List Nat} {c : Expr} (p : ∀ (tt : TT) (te : TE), (∀ (s : Shared) (H : Hp) (C : Addr) (cl : List (Str × Addr)) (fp : List Addr), PT (X.blk s H scope (compEnvC scope cl C X.env) fp) c tt) →
      (∀ (s : Shared) (H : Hp) (C : Addr) (cl : List (Str × Addr)) (fp : List Addr), PE (X.blk s H scope (compEnvC scope cl C X.env) fp) elt te) → PE X e (tLc wi g tt te vs))
    (h : MIc X ρ wi (xs.map enc)) (hz : xs.length < sizeLine)
    (hs : ∀ d ∈ xs, ∀ k, t d = some k → ∃ τ ws, MTg g X.K (wipeS ρ vs) (enc d) τ ws ∧ (∀ w ∈ ws, w ∈ vs) ∧ ∀ (s : Shared) (H : Hp) (C : Addr) (cl : List (Str × Addr)) (fp : List Addr), MT (X.blk s H scope (compEnvC scope cl C X.env) fp) τ c k ∧ (k = true → ∀ y, f d = some y → ME (X.blk s H scope (compEnvC scope cl C X.env) fp) τ elt (.fz (enc2 y)))) :
    ME X ρ e (.lst ((ys.map enc2).map .fz)) := by
  obtain ⟨pb, q1, q2, q3⟩ := fmO_map (enc := enc2) hy
  refine ME.is (me_lcIf p h pb (ofO enc2 f) hz fun d m => ?_) (by rw [q3])
  obtain ⟨τ, ws, t1, t2, t3⟩ := hs d m (pb d) (q1 d m)
  refine ⟨τ, ws, t1, t2, fun s H C cl fp => ⟨(t3 s H C cl fp).1, fun hk => ?_⟩⟩
  obtain ⟨y, ey⟩ := q2 d m hk
  exact ME.is ((t3 s H C cl fp).2 hk y ey) (by unfold ofO; rw [ey])
theorem m_setLcO {xs : List α} {ys : List β} {enc : α → D} {enc2 : β → D} {f : α → Option β} (hy : mpO f xs = some ys) {wi : TI} {g : TG} {scope : Scope} {vs : List Nat} (p : ∀ te : TE, (∀ (s : Shared) (H : Hp) (C : Addr) (cl : List (Str × Addr)) (fp : List Addr), PE (X.blk s H scope (compEnvC scope cl C X.env) fp) elt te) → PS X st (tAsg (tLc wi g tYes te vs) (gName i)))
    (h : MIc X ρ wi (xs.map enc)) (hz : xs.length < sizeLine)
    (hs : ∀ d ∈ xs, ∀ y, f d = some y → ∃ τ ws, MTg g X.K (wipeS ρ vs) (enc d) τ ws ∧ (∀ w ∈ ws, w ∈ vs) ∧ ∀ (s : Shared) (H : Hp) (C : Addr) (cl : List (Str × Addr)) (fp : List Addr), ME (X.blk s H scope (compEnvC scope cl C X.env) fp) τ elt (.fz (enc2 y)))
    (k : G.nx (ρ.set i (some (.lst ((ys.map enc2).map .fz))))) (hi : i < ρ.length := by exact Nat.le_of_ble_eq_true rfl) : MS1 X ρ st G := m_setLc p h (ofO enc2 f) hz (fun d m => by
    obtain ⟨y, ey⟩ := (mpO_get hy).1 d m
    obtain ⟨τ, ws, t1, t2, t3⟩ := hs d m y ey
    exact ⟨τ, ws, t1, t2, fun s H C cl fp => ME.is (t3 s H C cl fp) (by unfold ofO; rw [ey])⟩) (by rw [mpO_map hy]; exact k) hi
end
/-- the promise of a def by its mirror -/
def SpF {A R : Type} (K : PySem.W.Frag) (ar : A → List O) (f : A → Option R) (er : R → O) : Sp := SpM K (fun x : A × R => ar x.1) (fun x => f x.1 = some x.2) (fun x => er x.2)
end M
namespace M
open PySem L2 PySem.Spec PyProof.Rows
abbrev sg1 (c : Nat) : Str := ⟨#[c]⟩
abbrev strI (m : Int) : Str := toString m
abbrev e_d (d : D) : D := d
abbrev e_n (_ : Unit) : D := .non
/-! ### a result's calculus: it is there, and P holds of it -/
def Ok {α : Type} (o : Option α) (P : α → Prop) : Prop := ∃ r, o = some r ∧ P r
section
variable {α β V W R : Type} {P : β → Prop}
theorem ok_gd {p : Prop} {k : Option β} (h : p) (hk : Ok k P) : Ok (gd p k) P := by rw [gd_pos h]; exact hk
theorem ok_bd {o : Option α} {k : α → Option β} {Q : α → Prop} (h : Ok o Q) (hk : ∀ a, Q a → Ok (k a) P) : Ok (bd o k) P := by
  obtain ⟨a, e, q⟩ := h
  rw [bd_of e]
  exact hk a q
theorem ok_lt {a : α} {k : α → Option β} (hk : Ok (k a) P) : Ok (lt a k) P := hk
theorem ok_ltx {a : α} {k : α → Option β} (hk : ∀ x, x = a → Ok (k x) P) : Ok (lt a k) P := hk a rfl
theorem ok_some {b : β} (h : P b) : Ok (some b) P := ⟨b, rfl, h⟩
theorem ok_cond {c : Bool} {a b : Option β} (h1 : c = true → Ok a P) (h2 : c = false → Ok b P) : Ok (cond c a b) P := by
  cases c with
  | true => exact h1 rfl
  | false => exact h2 rfl
theorem ok_t {c : Bool} {a b : Option β} (hc : c = true) (h : Ok a P) : Ok (cond c a b) P := by rw [hc]; exact h
theorem ok_f {c : Bool} {a b : Option β} (hc : c = false) (h : Ok b P) : Ok (cond c a b) P := by rw [hc]; exact h
theorem Ok.imp {Q : β → Prop} {o : Option β} (h : Ok o Q) (f : ∀ r, Q r → P r) : Ok o P := let ⟨r, e, q⟩ := h; ⟨r, e, f r q⟩
theorem Ok.eq {o : Option β} {b : β} (h : Ok o (· = b)) : o = some b := by obtain ⟨r, e, rfl⟩ := h; exact e
theorem Ok.of {o : Option β} {b : β} (h : o = some b) : Ok o (· = b) := ⟨b, h, rfl⟩
theorem ok_atI {xs : List α} {k : Int} {Q : α → Prop} (h0 : 0 ≤ k) (h1 : k < xs.length) (q : ∀ y, xs[k.toNat]? = some y → Q y) : Ok (L2.atI xs k) Q := by
  have hk : k.toNat < xs.length := by omega
  refine ⟨xs[k.toNat], ?_, q _ (List.getElem?_eq_getElem hk)⟩
  obtain ⟨n, rfl⟩ := Int.eq_ofNat_of_zero_le h0
  exact atI_nat (List.getElem?_eq_getElem (by simpa using hk))
theorem ok_atIm {xs : List α} {k : Int} {Q : α → Prop} (h0 : 0 ≤ k) (h1 : k < xs.length) (q : ∀ y ∈ xs, Q y) : Ok (L2.atI xs k) Q := ok_atI h0 h1 fun y e => q y (List.mem_of_getElem? e)
theorem ok_lp {f : α → V → Option V} {xs : List α} {v : V} {Q : V → Prop} (I : Nat → V → Prop) (h0 : I 0 v) (h : ∀ (i : Nat) (x : α) (v : V), xs[i]? = some x → I i v → Ok (f x v) (I (i + 1))) (hd : ∀ v, I xs.length v → Q v) : Ok (lp f xs v) Q := by
  obtain ⟨v', e, i⟩ := lp_inv I h0 h
  exact ⟨v', e, hd v' i⟩
theorem ok_lpE {f : α → V → Option V} {g : V → α → V} {xs : List α} {v : V} (h : ∀ x ∈ xs, ∀ v, f x v = some (g v x)) : Ok (lp f xs v) (· = xs.foldl g v) := .of (lp_of (fun _ => True) (fun x m v _ => ⟨h x m v, trivial⟩) trivial).1
theorem ok_lpO {f : α → V → Option (Ou V V R)} {xs : List α} {v : V} {Q : Ou V V R → Prop} (I : Nat → V → Prop) (h0 : I 0 v) (h : ∀ (i : Nat) (x : α) (v : V), xs[i]? = some x → I i v → Ok (f x v) fun o => match o with
    | .nx v' => I (i + 1) v'
    | .ct v' => I (i + 1) v'
    | .bk v' => Q (.nx v')
    | .rt r => Q (.rt r)) (hd : ∀ v, I xs.length v → Q (.nx v)) : Ok (lpO f xs v) Q := lpO_post I Q h0 h hd
theorem ok_lpN {f : α → V → Option (Ou V V R)} {xs : List α} {v : V} {Q : Ou V V R → Prop} (I : Nat → V → Prop) (h0 : I 0 v) (h : ∀ (i : Nat) (x : α) (v : V), xs[i]? = some x → I i v → Ok (f x v) fun o => ∃ v', (o = .nx v' ∨ o = .ct v') ∧ I (i + 1) v') (hd : ∀ v, I xs.length v → Q (.nx v)) : Ok (lpO f xs v) Q := by
  obtain ⟨v', e, i⟩ := lpO_inv (f := f) I h0 fun i x v hx hv => by
    obtain ⟨o, e, v', e2, q⟩ := h i x v hx hv
    exact ⟨v', e2.imp (fun z => by rw [e, z]) (fun z => by rw [e, z]), q⟩
  exact ⟨_, e, hd v' i⟩
theorem ok_mpO {f : α → Option β} {xs : List α} {Q : List β → Prop} (T : α → β → Prop) (h : ∀ x ∈ xs, Ok (f x) (T x)) (q : ∀ ys : List β, ys.length = xs.length → (∀ (i : Nat) (x : α) (y : β), xs[i]? = some x → ys[i]? = some y → T x y) → Q ys) : Ok (mpO f xs) Q := by
  suffices H : ∃ ys : List β, mpO f xs = some ys ∧ ys.length = xs.length ∧ ∀ (i : Nat) (x : α) (y : β), xs[i]? = some x → ys[i]? = some y → T x y by
    obtain ⟨ys, e, l, t⟩ := H
    exact ⟨ys, e, q ys l t⟩
  clear q
  induction xs with
  | nil => exact ⟨[], rfl, rfl, fun i x y h => by simp at h⟩
  | cons x xs ih =>
    obtain ⟨y, e1, t1⟩ := h x List.mem_cons_self
    obtain ⟨ys, e2, l, t⟩ := ih fun z m => h z (List.mem_cons_of_mem _ m)
    refine ⟨y :: ys, ?_, by simp [l], fun i a b ha hb => ?_⟩
    · show bd (f x) _ = _
      rw [bd_of e1]
      show bd (mpO f xs) _ = _
      rw [bd_of e2]
    · cases i with
      | zero =>
        simp at ha hb
        rw [← ha, ← hb]
        exact t1
      | succ i => exact t i a b (by simpa using ha) (by simpa using hb)
theorem ok_mpE {f : α → Option β} {g : α → β} {xs : List α} (h : ∀ x ∈ xs, f x = some (g x)) : Ok (mpO f xs) (· = xs.map g) := .of (mpO_of h)
theorem ok_mpM {f : α → Option β} {xs : List α} (T : β → Prop) (h : ∀ x ∈ xs, Ok (f x) T) : Ok (mpO f xs) fun ys => ys.length = xs.length ∧ ∀ y ∈ ys, T y := ok_mpO (fun _ => T) h fun ys l t => ⟨l, fun y m => by
  obtain ⟨i, e⟩ := List.mem_iff_getElem?.mp m
  have hi : i < xs.length := by
    have := (List.getElem?_eq_some_iff.mp e).1
    omega
  exact t i _ y (List.getElem?_eq_getElem hi) e⟩
end
section
variable {X : Cx} {ρ : Slots} {e a b c elt : Expr} {es : List Expr} {st : Stmt} {sts : List Stmt} {G : Go} {o o1 o2 : O} {d : D} {ds : List D} {pos p0 p1 p2 p3 p4 : Pos} {i : Nat} {x nm : Str} {α β : Type} {p q : Str} {k l : Bool} {m n : Int}
theorem MT.is (h : MT X ρ e k) (q : k = l) : MT X ρ e l := q ▸ h
theorem MW.is (h : MW X ρ e k) (q : k = l) : MW X ρ e l := q ▸ h
theorem ME.isB (h : ME X ρ e (.fz (.bl k))) (q : k = l) : ME X ρ e (.fz (.bl l)) := q ▸ h
theorem frz_own {enc : α → D} {xs : List α} : (O.lst ((xs.map enc).map .fz)).frz = .lst (xs.map enc) := congrArg D.lst (O.frzL_fz _)
theorem me_lenLT {xs : List α} {enc : α → D} (hg : Gl X "len") (hm : X.mg "len" = none) (ha : ML X ρ a (xs.map enc)) (n1 : NS X a := by exact fun _ => rfl) : ME X ρ (.Call (.Name "len" p0) [a] [] pos) (.fz (.int (xs.length : Int))) := ME.is (me_len hg hm ha n1) (by rw [List.length_map])
theorem repG_map {enc : α → β} {xs : List α} {k : Int} : repG (xs.map enc) k = (repG xs k).map enc := by
  unfold repG
  rw [List.map_flatten, List.map_replicate]
theorem me_repT {xs : List α} {enc : α → D} {kk : Int} (h : (-(2 ^ 63) ≤ kk ∧ kk < 2 ^ 63) ∧ xs.length * kk.toNat ≤ sizeLine) (ha : MV X ρ a (.lst ((xs.map enc).map .fz))) (hb : ME X ρ b (.fz (.int kk))) : ME X ρ (.BinOp a .Mult b pos) (.lst (((repG xs kk).map enc).map .fz)) :=
  ME.is (me_rep ha hb h.1 (by rw [List.length_map]; exact h.2)) (by rw [repG_map])
/-! data compared -/
theorem me_eqDT {d1 d2 : D} (hu : X.A.units + 64 < cLine) (h : d1.ok ∧ d2.ok) (e1 : o1.frz = d1) (e2 : o2.frz = d2) (ha : MV X ρ a o1) (hb : MV X ρ b o2) : ME X ρ (.Compare a [.Eq] [b] pos) (.fz (.bl (D.eqv d1 d2))) := by
  subst e1 e2
  exact me_eqD hu ha hb h.1 h.2
theorem me_neDT {d1 d2 : D} (hu : X.A.units + 64 < cLine) (h : d1.ok ∧ d2.ok) (e1 : o1.frz = d1) (e2 : o2.frz = d2) (ha : MV X ρ a o1) (hb : MV X ρ b o2) : ME X ρ (.Compare a [.NotEq] [b] pos) (.fz (.bl (!D.eqv d1 d2))) := by
  subst e1 e2
  exact me_neD hu ha hb h.1 h.2
theorem mt_eqDT {d1 d2 : D} (hu : X.A.units + 64 < cLine) (h : d1.ok ∧ d2.ok) (e1 : o1.frz = d1) (e2 : o2.frz = d2) (ha : MV X ρ a o1) (hb : MV X ρ b o2) : MT X ρ (.Compare a [.Eq] [b] pos) (D.eqv d1 d2) := by
  subst e1 e2
  exact mt_eqD hu ha hb h.1 h.2
theorem mt_neDT {d1 d2 : D} (hu : X.A.units + 64 < cLine) (h : d1.ok ∧ d2.ok) (e1 : o1.frz = d1) (e2 : o2.frz = d2) (ha : MV X ρ a o1) (hb : MV X ρ b o2) : MT X ρ (.Compare a [.NotEq] [b] pos) (!D.eqv d1 d2) := by
  subst e1 e2
  exact mt_neD hu ha hb h.1 h.2
/-! in of ints, of texts -/
theorem among_i {k : Int} {xs : List Int} : D.among (.int k) (xs.map .int) = xs.contains k := by
  unfold D.among inV
  rw [List.map_map, List.any_map]
  induction xs with
  | nil => rfl
  | cons y xs ih =>
    rw [List.any_cons, List.contains_cons, ih]
    congr 1
    exact BEq.comm
theorem flat_i {xs : List Int} : (xs.map D.int).all D.flat = true := by
  rw [List.all_map]
  exact List.all_eq_true.mpr fun _ _ => rfl
theorem among_s {k : Str} {xs : List Str} : D.among (.str k) (xs.map .str) = xs.contains k := by
  unfold D.among inV
  rw [List.map_map, List.any_map]
  induction xs with
  | nil => rfl
  | cons y xs ih =>
    rw [List.any_cons, List.contains_cons, ih]
    congr 1
    exact BEq.comm
theorem flat_s {xs : List Str} : (xs.map D.str).all D.flat = true := by
  rw [List.all_map]
  exact List.all_eq_true.mpr fun _ _ => rfl
theorem among_b {k : Bool} {xs : List Bool} : D.among (.bl k) (xs.map .bl) = xs.contains k := by
  unfold D.among inV
  rw [List.map_map, List.any_map]
  induction xs with
  | nil => rfl
  | cons y xs ih =>
    rw [List.any_cons, List.contains_cons, ih]
    congr 1
    exact BEq.comm
theorem flat_b {xs : List Bool} : (xs.map D.bl).all D.flat = true := by
  rw [List.all_map]
  exact List.all_eq_true.mpr fun _ _ => rfl
theorem me_inL (ha : ME X ρ a (.fz d)) (hb : ML X ρ b ds) (hf : d.flat = true := by rfl) (hfs : ds.all D.flat = true := by rfl) (hm : behindInMarks .In b = false := by rfl) : ME X ρ (.Compare a [.In] [b] pos) (.fz (.bl (d.among ds))) := .mk fun Z0 F Z σ H s Q q =>
  PE_w (pe_cmpR op_in_seq pe_w pe_w hm) (inL_core op_in_seq ha hb hf hfs s fun Z' H' g => q _ Z' H' [] g (.fz (.bl _)) .nil)
theorem me_niL (ha : ME X ρ a (.fz d)) (hb : ML X ρ b ds) (hf : d.flat = true := by rfl) (hfs : ds.all D.flat = true := by rfl) (hm : behindInMarks .NotIn b = false := by rfl) : ME X ρ (.Compare a [.NotIn] [b] pos) (.fz (.bl (!(d.among ds)))) := .mk fun Z0 F Z σ H s Q q =>
  PE_w (pe_cmpR op_notIn_seq pe_w pe_w hm) (inL_core op_notIn_seq ha hb hf hfs s fun Z' H' g => q _ Z' H' [] g (.fz (.bl _)) .nil)
theorem me_inT (ha : ME X ρ a (.fz d)) (hb : MU X ρ b ds) (hf : d.flat = true := by rfl) (hfs : ds.all D.flat = true := by rfl) (hm : behindInMarks .In b = false := by rfl) : ME X ρ (.Compare a [.In] [b] pos) (.fz (.bl (d.among ds))) := .mk fun Z0 F Z σ H s Q q =>
  PE_w (pe_cmpR op_in_seq pe_w pe_w hm) (inT_core op_in_seq ha hb hf hfs s fun Z' H' g => q _ Z' H' [] g (.fz (.bl _)) .nil)
theorem me_niT (ha : ME X ρ a (.fz d)) (hb : MU X ρ b ds) (hf : d.flat = true := by rfl) (hfs : ds.all D.flat = true := by rfl) (hm : behindInMarks .NotIn b = false := by rfl) : ME X ρ (.Compare a [.NotIn] [b] pos) (.fz (.bl (!(d.among ds)))) := .mk fun Z0 F Z σ H s Q q =>
  PE_w (pe_cmpR op_notIn_seq pe_w pe_w hm) (inT_core op_notIn_seq ha hb hf hfs s fun Z' H' g => q _ Z' H' [] g (.fz (.bl _)) .nil)
section
variable {xi : List Int} {xs : List Str} {xb : List Bool}
theorem mt_inLT_i (ha : ME X ρ a (.fz (.int m))) (hb : ML X ρ b (xi.map .int)) (hm : behindInMarks .In b = false := by rfl) : MT X ρ (.Compare a [.In] [b] pos) (xi.contains m) := (mt_inL ha hb rfl flat_i hm).is among_i
theorem mt_niLT_i (ha : ME X ρ a (.fz (.int m))) (hb : ML X ρ b (xi.map .int)) (hm : behindInMarks .NotIn b = false := by rfl) : MT X ρ (.Compare a [.NotIn] [b] pos) (!(xi.contains m)) := (mt_niL ha hb rfl flat_i hm).is (by rw [among_i])
theorem mt_inLT_s (ha : ME X ρ a (.fz (.str p))) (hb : ML X ρ b (xs.map .str)) (hm : behindInMarks .In b = false := by rfl) : MT X ρ (.Compare a [.In] [b] pos) (xs.contains p) := (mt_inL ha hb rfl flat_s hm).is among_s
theorem mt_niLT_s (ha : ME X ρ a (.fz (.str p))) (hb : ML X ρ b (xs.map .str)) (hm : behindInMarks .NotIn b = false := by rfl) : MT X ρ (.Compare a [.NotIn] [b] pos) (!(xs.contains p)) := (mt_niL ha hb rfl flat_s hm).is (by rw [among_s])
theorem mt_inLT_b (ha : ME X ρ a (.fz (.bl k))) (hb : ML X ρ b (xb.map .bl)) (hm : behindInMarks .In b = false := by rfl) : MT X ρ (.Compare a [.In] [b] pos) (xb.contains k) := (mt_inL ha hb rfl flat_b hm).is among_b
theorem mt_niLT_b (ha : ME X ρ a (.fz (.bl k))) (hb : ML X ρ b (xb.map .bl)) (hm : behindInMarks .NotIn b = false := by rfl) : MT X ρ (.Compare a [.NotIn] [b] pos) (!(xb.contains k)) := (mt_niL ha hb rfl flat_b hm).is (by rw [among_b])
theorem me_inLT_i (ha : ME X ρ a (.fz (.int m))) (hb : ML X ρ b (xi.map .int)) (hm : behindInMarks .In b = false := by rfl) : ME X ρ (.Compare a [.In] [b] pos) (.fz (.bl (xi.contains m))) := (me_inL ha hb rfl flat_i hm).isB among_i
theorem me_niLT_i (ha : ME X ρ a (.fz (.int m))) (hb : ML X ρ b (xi.map .int)) (hm : behindInMarks .NotIn b = false := by rfl) : ME X ρ (.Compare a [.NotIn] [b] pos) (.fz (.bl (!(xi.contains m)))) := (me_niL ha hb rfl flat_i hm).isB (by rw [among_i])
theorem me_inLT_s (ha : ME X ρ a (.fz (.str p))) (hb : ML X ρ b (xs.map .str)) (hm : behindInMarks .In b = false := by rfl) : ME X ρ (.Compare a [.In] [b] pos) (.fz (.bl (xs.contains p))) := (me_inL ha hb rfl flat_s hm).isB among_s
theorem me_niLT_s (ha : ME X ρ a (.fz (.str p))) (hb : ML X ρ b (xs.map .str)) (hm : behindInMarks .NotIn b = false := by rfl) : ME X ρ (.Compare a [.NotIn] [b] pos) (.fz (.bl (!(xs.contains p)))) := (me_niL ha hb rfl flat_s hm).isB (by rw [among_s])
theorem me_inLT_b (ha : ME X ρ a (.fz (.bl k))) (hb : ML X ρ b (xb.map .bl)) (hm : behindInMarks .In b = false := by rfl) : ME X ρ (.Compare a [.In] [b] pos) (.fz (.bl (xb.contains k))) := (me_inL ha hb rfl flat_b hm).isB among_b
theorem me_niLT_b (ha : ME X ρ a (.fz (.bl k))) (hb : ML X ρ b (xb.map .bl)) (hm : behindInMarks .NotIn b = false := by rfl) : ME X ρ (.Compare a [.NotIn] [b] pos) (.fz (.bl (!(xb.contains k)))) := (me_niL ha hb rfl flat_b hm).isB (by rw [among_b])
end
/-! texts: cut, turned, repeated -/
theorem me_slS {lo hi : Option Expr} {li hj : Option Int} (hz : p.length ≤ sizeLine) (ha : ME X ρ a (.fz (.str p))) (hl : MO X ρ lo li) (hh : MO X ρ hi hj) : ME X ρ (.Subscript a (.Slice lo hi none p2) pos) (.fz (.str (cutS p li hj))) := .mk fun Z0 F Z σ H s Q q => by
  obtain ⟨tl, pl, kl⟩ := hl.run
  obtain ⟨th, ph, kh⟩ := hh.run
  refine PE_w (pe_slice sl_str pe_w pl ph) (ha.run Z0 F Z σ H s _ fun v Z1 H1 A1 g1 r1 n1 => kl Z0 F Z1 σ H1 (s.grow g1) _ fun Z2 H2 g2 => kh Z0 F Z2 σ H2 (s.grow (g1.trans g2)) _ fun Z3 H3 g3 => ?_)
  cases r1 with
  | fz r1 =>
    cases r1
    exact ⟨p, rfl, hz, q _ Z3 H3 [] (g1.trans (g2.trans g3)) (.fz (.str _)) .nil⟩
def revS (z : Str) : Str := ⟨z.cps.toList.reverse.toArray⟩
theorem revS_is (z : Str) : (⟨((Builtin.Str.strSliceIndices none none (-1) z.length).filterMap (z.cps[·]?)).toArray⟩ : Str) = revS z := by
  unfold revS
  rw [picked_rev, filterMap_get, List.map_map]
  · congr 2
    apply List.ext_getElem
    · simp [Str.length]
    · intro i h1 h2
      have hi : i < z.cps.size := by simpa [Str.length] using h1
      simp only [List.getElem_map, List.getElem_range, Function.comp, List.getElem_reverse, Array.getElem_toList]
      have : z.length - 1 - i < z.cps.size := by
        show z.cps.size - 1 - i < z.cps.size
        omega
      rw [Array.getD, dif_pos this]
      congr 1
  · intro i hi
    obtain ⟨k, hk, rfl⟩ := List.mem_map.mp hi
    have hk' : k < z.length := List.mem_range.mp hk
    show z.length - 1 - k < z.length
    omega
end
end M
namespace M
open PySem L2 PySem.Spec PyProof.Rows
/-! ### s[::-1] of a text, s * n -/
def tRevS (te : TE) : TE := fun σ H Q => te σ H fun v H1 => ∃ z, v = .str z ∧ z.length ≤ sizeLine ∧ Q (.str (revS z)) H1
section
variable {X : Cx} {ρ : Slots} {e a b c elt : Expr} {es : List Expr} {st : Stmt} {sts : List Stmt} {G : Go} {o o1 o2 : O} {d : D} {ds : List D} {pos p0 p1 p2 p3 p4 : Pos} {i : Nat} {x nm : Str} {α β γ : Type} {p q : Str} {k l : Bool} {m n : Int} {te : TE}
theorem pe_revS {k : Nat} (he : PE X e te) : PE X (.Subscript e (.Slice none none (some (.UnaryOp .USub (.Constant (.int 1) k p1) p2)) p3) pos) (tRevS te) := by
  refine ⟨fun pins s σ H Q I h => ?_⟩
  refine Subscript_ (thn (he.run pins s σ H _ I h) fun v s1 ⟨x, H1, I1, r1, q1⟩ => ?_)
  obtain ⟨z, ex, hz, q⟩ := q1
  subst ex
  obtain ⟨t, rfl⟩ := r1
  have hst : PO X (some (.UnaryOp .USub (.Constant (.int 1) k p1) p2)) (tPart (tUn (rU fun i => .int (-i)) (tC (.int 1)))) := po_some (pe_un un_neg pe_int)
  refine wpAny_Slice (thn (po_none.run pins s1 σ H1 (fun o H2 => o = none ∧ H2 = H1) I1 ⟨rfl, rfl⟩) fun vl s2 ⟨l, H2, I2, pl, el, e2⟩ => ?_)
  subst el e2
  refine thn (po_none.run pins s2 σ H2 (fun o H3 => o = none ∧ H3 = H2) I2 ⟨rfl, rfl⟩) fun vu s3 ⟨u, H3, I3, pu, eu, e3⟩ => ?_
  subst eu e3
  refine thn (hst.run pins s3 σ H3 (fun o H4 => o = some (-1) ∧ H4 = H3) I3 ⟨1, rfl, -1, rfl, rfl, rfl⟩) fun vs s4 ⟨o, H4, I4, ps, eo, e4⟩ => ?_
  subst eo e4
  have I5 : Inv X pins σ H4 { s4 with heap := s4.heap.push { cls := .type "slice", data := .fields #[vl, vu, vs] } } := I4.kept (t' := s4.toks) fun b ob q => Heap.get?_push_of_some _ q
  show wpAny (model X.prog X.w) X.A (subscriptTail e (.Slice none none (some (.UnaryOp .USub (.Constant (.int 1) k p1) p2)) p3) (.str z t) (.ref s4.heap.objs.size)) (EP X pins σ Q) X.xe { s4 with heap := s4.heap.push { cls := .type "slice", data := .fields #[vl, vu, vs] } }
  refine tail_any (ops := [.str z t, .ref s4.heap.objs.size]) (typeIs_str _ _ _) (F.slot_str_getitem.lookup) ?_ (by with_unfolding_all rfl)
  obtain ⟨l, rfl, hl⟩ := IsPart.raw pl
  obtain ⟨u, rfl, hu⟩ := IsPart.raw pu
  obtain ⟨so, rfl, hso⟩ := IsPart.raw ps
  refine wpAny_getItem_str_slice (l := l) (u := u) (st := so) ⟨_, Heap.get?_push_size _ rfl, rfl, rfl⟩ ?_ ?_
  · rw [hso]; rfl
  · have hm : sliceMade z t l u so = .str (revS z) := by
      unfold sliceMade slicePicked
      rw [hl, hu, hso]
      show (if ((-1 : Int) == 1 && _) = true then Made.val (.str z t) else Made.str ⟨((Builtin.Str.strSliceIndices none none (-1) z.length).filterMap (z.cps[·]?)).toArray⟩) = _
      rw [if_neg (by simp), revS_is]
    rw [hm]
    refine ⟨?_, .str (revS z), H4, I5.tok _, ⟨_, rfl⟩, q⟩
    have : (revS z).length = z.length := by simp [revS, Str.length]
    rw [this]
    exact hz
theorem me_revS {kk : Nat} (hz : p.length ≤ sizeLine) (ha : ME X ρ a (.fz (.str p))) : ME X ρ (.Subscript a (.Slice none none (some (.UnaryOp .USub (.Constant (.int 1) kk p1) p2)) p3) pos) (.fz (.str (revS p))) := .mk fun Z0 F Z σ H s Q q =>
  PE_w (pe_revS pe_w) (ha.run Z0 F Z σ H s _ fun v Z1 H1 A1 g1 r1 n1 => by
    cases r1 with
    | fz r1 =>
      cases r1
      exact ⟨p, rfl, hz, q _ Z1 H1 [] g1 (.fz (.str _)) .nil⟩)
def repS (z : Str) (n : Int) : Str := ⟨(List.replicate n.toNat z.cps.toList).flatten.toArray⟩
theorem foldl_app {γ : Type} : ∀ (n : Nat) (c a : Array γ), (List.replicate n c).foldl (· ++ ·) a = ⟨a.toList ++ (List.replicate n c.toList).flatten⟩
  | 0, c, a => by simp
  | n + 1, c, a => by
    rw [List.replicate_succ, List.foldl_cons, foldl_app n, List.replicate_succ, List.flatten_cons]
    simp
theorem op_mul_str : OpR X (binaryOp .Mult) (fun x y H Q => ∃ z n, x = .str z ∧ y = .int n ∧ ((-(2 ^ 63) ≤ n ∧ n < 2 ^ 63) ∧ z.length * n.toNat ≤ 16777216) ∧ Q (.str (repS z n)) H) := by
  intro pins s σ H x y v u Q I rx ry h
  obtain ⟨z, n, rfl, rfl, ⟨⟨h1, h2⟩, h3⟩, q⟩ := h
  obtain ⟨t, rfl⟩ := rx
  obtain ⟨t', rfl⟩ := ry
  have hle : ¬ n < 1 → z.length ≤ 16777216 := fun hn => by
    have : 1 ≤ n.toNat := by omega
    exact Nat.le_trans (by have := Nat.mul_le_mul_left z.length this; omega) h3
  refine PySem.P.mul_str (by rw [decide_eq_false (by omega), decide_eq_false (by omega)]; rfl) (fun hn h0 hb => ?_) (fun hn h0 => ?_) ?_
  · have h1 : ((z.length : Int)) * n ≤ 16777216 := by
      have e : (n.toNat : Int) = n := by omega
      have := Int.ofNat_le.mpr h3
      rw [Int.natCast_mul, e] at this
      exact this
    have hn1 : 1 ≤ n := by omega
    have hq : (2 ^ 63 - 1) / n ≥ (z.length : Int) := by
      rw [ge_iff_le, Int.le_ediv_iff_mul_le (by omega)]
      omega
    omega
  · show decide (z.length * n.toNat > 16777216) = false
    exact decide_eq_false (by omega)
  · by_cases hn : n < 1
    · rw [if_pos hn]
      have e : repS z n = Str.empty := by
        unfold repS
        rw [show n.toNat = 0 by omega]
        rfl
      rw [e] at q
      exact ⟨by decide, .str _, H, I.tok _, ⟨_, rfl⟩, q⟩
    · rw [if_neg hn]
      by_cases h0 : (n == 1 || z.length == 0) = true
      · rw [if_pos h0]
        have e : repS z n = z := by
          unfold repS
          rw [Bool.or_eq_true, beq_iff_eq, beq_iff_eq] at h0
          rcases h0 with h0 | h0
          · subst h0
            simp
          · have : z.cps.toList = [] := by
              apply List.eq_nil_of_length_eq_zero
              rw [Array.length_toList]
              exact h0
            rw [this]
            have e2 : (List.replicate n.toNat ([] : List Nat)).flatten = [] := by simp
            rw [e2]
            obtain ⟨⟨l⟩⟩ := z
            have this : l = [] := this
            rw [this]
        rw [e] at q
        exact ⟨.str _, H, I, ⟨_, rfl⟩, q⟩
      · rw [if_neg h0]
        have e : (⟨(List.replicate n.toNat z.cps).foldl (· ++ ·) #[]⟩ : Str) = repS z n := by
          rw [foldl_app]
          rfl
        rw [e]
        refine ⟨?_, .str _, H, I.tok _, ⟨_, rfl⟩, q⟩
        have : (repS z n).length = n.toNat * z.length := by simp [repS, Str.length, List.length_flatten]
        rw [this, Nat.mul_comm]
        exact h3
theorem me_repS {kk : Int} (h : (-(2 ^ 63) ≤ kk ∧ kk < 2 ^ 63) ∧ p.length * kk.toNat ≤ 16777216) (ha : ME X ρ a (.fz (.str p))) (hb : ME X ρ b (.fz (.int kk))) : ME X ρ (.BinOp a .Mult b pos) (.fz (.str (repS p kk))) := me_op op_mul_str ha hb (.str p) (.int kk) (.str _) fun _ _ q => ⟨p, kk, rfl, rfl, h, q⟩
/-! ### zip; comprehensions over reversed, enumerate, zip -/
theorem zip_get {xs : List α} {ys : List β} {f : α → D} {g : β → D} {j : Nat} {d : D} (hd : ((xs.zip ys).map fun p => D.tup [f p.1, g p.2])[j]? = some d) : ∃ x y, xs[j]? = some x ∧ ys[j]? = some y ∧ d = .tup [f x, g y] := by
  rw [List.getElem?_map] at hd
  obtain ⟨⟨x, y⟩, h1, rfl⟩ := Option.map_eq_some_iff.mp hd
  have h2 := List.getElem?_zip_eq_some.mp h1
  exact ⟨x, y, h2.1, h2.2, rfl⟩
theorem wk_zip {K : PySem.W.Frag} {Zs F : Hp} {a b : Addr} {us vs : List V} {xs : List α} {ys : List β} {f : α → D} {g : β → D} (ra : RepL K Zs us (xs.map f)) (rb : RepL K Zs vs (ys.map g))
    (la : ∀ {Z2 H2 : Hp}, Ex Zs Z2 → Ex F H2 → Ex Z2 H2 → SqL K H2 a us) (lb : ∀ {Z2 H2 : Hp}, Ex Zs Z2 → Ex F H2 → Ex Z2 H2 → SqL K H2 b vs) : Wk K Zs F (Itz K a b) ((xs.zip ys).map fun p => D.tup [f p.1, g p.2]) := by
  refine ⟨fun j d Z2 H2 hd ez ef zh => ?_, fun Z2 H2 ez ef zh => ?_⟩
  · obtain ⟨x, y, hx, hy, rfl⟩ := zip_get hd
    obtain ⟨u, hu, ru⟩ := ra.get (i := j) (d := f x) (by rw [List.getElem?_map, hx]; rfl)
    obtain ⟨v, hv, rv⟩ := rb.get (i := j) (d := g y) (by rw [List.getElem?_map, hy]; rfl)
    refine ⟨⟨us, vs, u, v, la ez ef zh, lb ez ef zh, hu, hv⟩, fun w H3 hw => ?_⟩
    obtain ⟨T, u2, v2, ew, hT, e3, k1, k2⟩ := hw
    subst e3 ew
    have e4 := k1 us (la ez ef zh)
    have e5 := k2 vs (lb ez ef zh)
    rw [hu] at e4
    rw [hv] at e5
    cases e4
    cases e5
    have em := Ex.new (H := Z2) (o := HO.tup [u, v]) (zh.free hT)
    exact ⟨_, Gr.newz zh hT, .tup (.of upd_same) (.cons ((ru.mono ez).mono em) (.cons ((rv.mono ez).mono em) .nil))⟩
  · refine ⟨us, vs, la ez ef zh, lb ez ef zh, ?_⟩
    rw [ra.length, rb.length, List.length_map, List.length_map, List.length_map, List.length_zip]
    omega
theorem mi_zipT {xs : List α} {ys : List β} {enc : α → D} {enc2 : β → D} (h : MK X ρ a (xs.map enc)) (h2 : MK X ρ b (ys.map enc2)) (n1 : NS X a := by exact fun _ => rfl) (n2 : NS X b := by exact fun _ => rfl) : MI X ρ (iZip X.K (wA X [a, b])) ((xs.zip ys).map fun p => D.tup [enc p.1, enc2 p.2]) := .mk fun Z0 F Z σ H s R q =>
  PA_w (pa_cons pe_w (pa_cons pe_w pa_nil (n2 _)) (n1 _)) (h.run Z0 F Z σ H s _ fun l us Z1 H1 g1 l1 r1 => h2.run Z0 F Z1 σ H1 (s.grow g1) _ fun m vs Z2 H2 g2 l2 r2 => by
    have g := g1.trans g2
    have la : ∀ {Z3 H3 : Hp}, Ex Z2 Z3 → Ex F H3 → Ex Z3 H3 → SqL X.K H3 l us := fun e f z => l1.elim (fun l => ex_l ((g2.zz.trans e).trans z) l) fun l => ex_l f l
    have lb : ∀ {Z3 H3 : Hp}, Ex Z2 Z3 → Ex F H3 → Ex Z3 H3 → SqL X.K H3 m vs := fun e f z => l2.elim (fun l => ex_l (e.trans z) l) fun l => ex_l f l
    have eF := s.gr.hh.trans g.hh
    exact ⟨l, m, us, vs, rfl, la (Ex.refl _) eF g.zh, lb (Ex.refl _) eF g.zh, q _ Z2 H2 g (wk_zip (r1.mono g2.zz) r2 la lb)⟩)
theorem mic_zipT {xs : List α} {ys : List β} {enc : α → D} {enc2 : β → D} (h : ML X ρ a (xs.map enc)) (h2 : ML X ρ b (ys.map enc2)) (n1 : NS X a := by exact fun _ => rfl) (n2 : NS X b := by exact fun _ => rfl) : MIc X ρ (iZip X.K (wA X [a, b])) ((xs.zip ys).map fun p => D.tup [enc p.1, enc2 p.2]) := .mk fun Z0 F Z σ H s R q =>
  PA_w (pa_cons pe_w (pa_cons pe_w pa_nil (n2 _)) (n1 _)) (h.run Z0 F Z σ H s _ fun l us Z1 H1 g1 l1 r1 => h2.run Z0 F Z1 σ H1 (s.grow g1) _ fun m vs Z2 H2 g2 l2 r2 => by
    have g := g1.trans g2
    have la : ∀ {Z3 H3 : Hp}, Ex Z2 Z3 → Ex H2 H3 → Ex Z3 H3 → SqL X.K H3 l us := fun _ f _ => ex_l f (ex_l g2.hh l1)
    have lb : ∀ {Z3 H3 : Hp}, Ex Z2 Z3 → Ex H2 H3 → Ex Z3 H3 → SqL X.K H3 m vs := fun _ f _ => ex_l f l2
    exact ⟨l, m, us, vs, rfl, ex_l g2.hh l1, l2, q _ Z2 H2 g (wk_zip (r1.mono g2.zz) r2 la lb)⟩)
theorem mic_revT {xs : List α} {enc : α → D} (h : ML X ρ e (xs.map enc)) (n1 : NS X e := by exact fun _ => rfl) : MIc X ρ (iRev X.K (wA X [e])) (xs.reverse.map enc) := .mk fun Z0 F Z σ H s R q =>
  PA_w (pa_cons pe_w pa_nil (n1 _)) (h.run Z0 F Z σ H s _ fun a vs Z' H' g l r => by
    refine ⟨a, vs, rfl, l, q _ Z' H' g ⟨fun j d Z2 H2 hd ez ef zh => ?_, fun Z2 H2 ez ef zh => ?_⟩⟩
    · rw [List.map_reverse] at hd
      have hj : j < (xs.map enc).length := by
        have := (List.getElem?_eq_some_iff.mp hd).1
        simpa using this
      rw [List.getElem?_reverse hj] at hd
      obtain ⟨x, hx, rx⟩ := r.get hd
      rw [← r.length] at hx hj
      refine ⟨⟨hj, vs, x, ex_l ef l, hx⟩, fun y H3 hy => ?_⟩
      obtain ⟨e3, hy⟩ := hy
      subst e3
      have e4 := hy vs (ex_l ef l)
      rw [hx] at e4
      cases e4
      exact ⟨Z2, Gr.refl zh, rx.mono ez⟩
    · show vs.length ≤ (xs.reverse.map enc).length
      rw [List.length_map, List.length_reverse, r.length, List.length_map]
      exact Nat.le_refl _)
theorem mic_enumT {xs : List α} {enc : α → D} (h : ML X ρ e (xs.map enc)) (n1 : NS X e := by exact fun _ => rfl) : MIc X ρ (iEnum X.K (wA X [e])) (xs.zipIdx.map fun p => D.tup [.int (p.2 : Nat), enc p.1]) := .mk fun Z0 F Z σ H s R q =>
  PA_w (pa_cons pe_w pa_nil (n1 _)) (h.run Z0 F Z σ H s _ fun a vs Z' H' g l r => by
    refine ⟨a, vs, rfl, l, q _ Z' H' g ⟨fun j d Z2 H2 hd ez ef zh => ?_, fun Z2 H2 ez ef zh => ?_⟩⟩
    · rw [List.getElem?_map, List.getElem?_zipIdx] at hd
      cases e : xs[j]? with
      | none =>
        rw [e] at hd
        cases hd
      | some d1 =>
        rw [e] at hd
        have hd2 : D.tup [.int ((0 + j : Nat)), enc d1] = d := Option.some.inj hd
        subst hd2
        obtain ⟨x, hx, rx⟩ := r.get (i := j) (d := enc d1) (by rw [List.getElem?_map, e]; rfl)
        refine ⟨⟨vs, x, ex_l ef l, hx⟩, fun y H3 hy => ?_⟩
        obtain ⟨T, x2, ey, hT, e3, hy⟩ := hy
        subst e3 ey
        have e4 := hy vs (ex_l ef l)
        rw [hx] at e4
        cases e4
        refine ⟨_, Gr.newz zh hT, .tup (.of upd_same) (.cons ?_ (.cons ((rx.mono ez).mono (Ex.new (zh.free hT))) .nil))⟩
        rw [Nat.zero_add]
        exact .int _
    · refine ⟨vs, ex_l ef l, ?_⟩
      rw [List.length_map, List.length_zipIdx, r.length, List.length_map]
      exact Nat.le_refl _)
/-! ### sorted, range with a step -/
noncomputable def srt (enc : β → D) (bs : List β) : List β := bs.mergeSort (PySem.W.dataLe false fun b => (enc b).py)
def SrtOk (enc : β → D) (bs : List β) : Prop := (∀ b ∈ bs, (enc b).pl = true) ∧ PySem.W.AllAlike (bs.map fun b => (enc b).py) ∧ PySem.W.Sortable (bs.map fun b => (enc b).py) ∧ ∀ b ∈ bs, (enc b).py.depth ≤ 60
noncomputable def rgN (i j c : Int) : Option Nat := @ite _ (∃ n, RgC i j c n) (Classical.propDecidable _) (some (Builtin.Range.rangeSize i j c).toNat) none
theorem rgN_ok {i j c : Int} {n : Nat} (h : rgN i j c = some n) : RgC i j c n := by
  unfold rgN at h
  by_cases e : ∃ n, RgC i j c n
  · rw [if_pos e] at h
    obtain ⟨m, h1, h2, h3, h4⟩ := e
    cases h
    rw [h4]
    exact ⟨h1, h2, h3, h4⟩
  · rw [if_neg e] at h
    cases h
theorem rgN_is {i j c : Int} {n : Nat} (h : RgC i j c n) : rgN i j c = some n := by
  unfold rgN
  rw [if_pos ⟨n, h⟩, h.2.2.2]
  rfl
/-- x = [elt for target in source if test], on one line -/
theorem m_setLcIf {xs : List α} {enc : α → D} {wi : TI} {g : TG} {scope : Scope} {vs : List Nat} {c : Expr} (p : ∀ (tt : TT) (te : TE), (∀ (s : Shared) (H : Hp) (C : Addr) (cl : List (Str × Addr)) (fp : List Addr), PT (X.blk s H scope (compEnvC scope cl C X.env) fp) c tt) →
      (∀ (s : Shared) (H : Hp) (C : Addr) (cl : List (Str × Addr)) (fp : List Addr), PE (X.blk s H scope (compEnvC scope cl C X.env) fp) elt te) → PS X st (tAsg (tLc wi g tt te vs) (gName i)))
    (h : MIc X ρ wi (xs.map enc)) (pb : α → Bool) (f : α → D) (hz : xs.length < sizeLine)
    (hs : ∀ d ∈ xs, ∃ τ ws, MTg g X.K (wipeS ρ vs) (enc d) τ ws ∧ (∀ w ∈ ws, w ∈ vs) ∧ ∀ (s : Shared) (H : Hp) (C : Addr) (cl : List (Str × Addr)) (fp : List Addr), MT (X.blk s H scope (compEnvC scope cl C X.env) fp) τ c (pb d) ∧ (pb d = true → ME (X.blk s H scope (compEnvC scope cl C X.env) fp) τ elt (.fz (f d))))
    (k : G.nx (ρ.set i (some (.lst (((xs.filter pb).map f).map .fz))))) (hi : i < ρ.length := by exact Nat.le_of_ble_eq_true rfl) : MS1 X ρ st G := .mk fun Z0 F Z σ H D s gdd => by
  refine PS_w (p (fun σ H Q => ∀ (s : Shared) (H' : Hp) (C : Addr) (cl : List (Str × Addr)) (fp : List Addr), wT (X.blk s H' scope (compEnvC scope cl C X.env) fp) c σ H Q) (fun σ H Q => ∀ (s : Shared) (H' : Hp) (C : Addr) (cl : List (Str × Addr)) (fp : List Addr), wE (X.blk s H' scope (compEnvC scope cl C X.env) fp) elt σ H Q)
    (fun s H' C cl fp => ⟨fun pins s' σ H Q I k => k s H' C cl fp pins s' I⟩) fun s H' C cl fp => ⟨fun pins s' σ H Q I k => k s H' C cl fp pins s' I⟩) ?_
  refine lc_run h pb f hz (fun d m => ?_) s fun v Z' H' A g' r n => gdd.nx _ Z' _ H' k (s.put g' r n hi)
  obtain ⟨τ, ws, t1, t2, t3⟩ := hs d m
  refine ⟨τ, ws, t1, t2, fun Z0 F Z σ H s Q q s' H' C cl fp => (t3 s' H' C cl fp).1.run Z0 F Z σ H s Q q, fun hp Z0 F Z σ H s Q q s' H' C cl fp => ((t3 s' H' C cl fp).2 hp).run Z0 F Z σ H s Q fun v Z' H' A g r n => ?_⟩
  cases r with
  | fz r => exact q v Z' H' g r
theorem m_setLcIfO {xs : List α} {ys : List β} {enc : α → D} {enc2 : β → D} {t : α → Option Bool} {f : α → Option β} (hy : fmO t f xs = some ys) {wi : TI} {g : TG} {scope : Scope} {vs : List Nat} {c : Expr} (p : ∀ (tt : TT) (te : TE), (∀ (s : Shared) (H : Hp) (C : Addr) (cl : List (Str × Addr)) (fp : List Addr), PT (X.blk s H scope (compEnvC scope cl C X.env) fp) c tt) →
      (∀ (s : Shared) (H : Hp) (C : Addr) (cl : List (Str × Addr)) (fp : List Addr), PE (X.blk s H scope (compEnvC scope cl C X.env) fp) elt te) → PS X st (tAsg (tLc wi g tt te vs) (gName i)))
    (h : MIc X ρ wi (xs.map enc)) (hz : xs.length < sizeLine)
    (hs : ∀ d ∈ xs, ∀ k, t d = some k → ∃ τ ws, MTg g X.K (wipeS ρ vs) (enc d) τ ws ∧ (∀ w ∈ ws, w ∈ vs) ∧ ∀ (s : Shared) (H : Hp) (C : Addr) (cl : List (Str × Addr)) (fp : List Addr), MT (X.blk s H scope (compEnvC scope cl C X.env) fp) τ c k ∧ (k = true → ∀ y, f d = some y → ME (X.blk s H scope (compEnvC scope cl C X.env) fp) τ elt (.fz (enc2 y))))
    (k : G.nx (ρ.set i (some (.lst ((ys.map enc2).map .fz))))) (hi : i < ρ.length := by exact Nat.le_of_ble_eq_true rfl) : MS1 X ρ st G := by
  obtain ⟨pb, q1, q2, q3⟩ := fmO_map (enc := enc2) hy
  refine m_setLcIf p h pb (ofO enc2 f) hz (fun d m => ?_) (by rw [q3]; exact k) hi
  obtain ⟨τ, ws, t1, t2, t3⟩ := hs d m (pb d) (q1 d m)
  refine ⟨τ, ws, t1, t2, fun s H C cl fp => ⟨(t3 s H C cl fp).1, fun hk => ?_⟩⟩
  obtain ⟨y, ey⟩ := q2 d m hk
  exact ME.is ((t3 s H C cl fp).2 hk y ey) (by unfold ofO; rw [ey])
end
end M
namespace M
open PySem L2 PySem.Spec PyProof.Rows
/-! ### attributes of instances that are being made -/
theorem nsPut_new : ∀ {ns : List Str} {f : Str}, nmAt ns f = none → nsPut ns f = ns ++ [f]
  | [], _, _ => rfl
  | n :: r, f, h => by
    unfold nmAt at h
    unfold nsPut
    by_cases e : n = f
    · rw [if_pos e.symm] at h; cases h
    · rw [if_neg fun q => e q.symm] at h
      rw [if_neg e, nsPut_new (Option.map_eq_none_iff.mp h)]
      rfl
theorem xsPut_new {α : Type} : ∀ {ns : List Str} {f : Str} {xs : List α} {y : α}, nmAt ns f = none → xs.length = ns.length → xsPut ns f xs y = xs ++ [y]
  | [], _, [], _, _, _ => rfl
  | n :: r, f, x :: xs, y, h, l => by
    unfold nmAt at h
    unfold xsPut
    by_cases e : n = f
    · rw [if_pos e.symm] at h; cases h
    · rw [if_neg fun q => e q.symm] at h
      rw [if_neg e, xsPut_new (Option.map_eq_none_iff.mp h) (by simpa using l)]
      rfl
theorem nsPut_old : ∀ {ns : List Str} {f : Str} {j : Nat}, nmAt ns f = some j → nsPut ns f = ns
  | n :: r, f, j, h => by
    unfold nmAt at h
    unfold nsPut
    by_cases e : n = f
    · exact (if_pos e).trans (by rw [e])
    · rw [if_neg fun q => e q.symm] at h
      obtain ⟨k, hk, _⟩ := Option.map_eq_some_iff.mp h
      rw [if_neg e, nsPut_old hk]
theorem xsPut_old {α : Type} : ∀ {ns : List Str} {f : Str} {xs : List α} {y : α} {j : Nat}, nmAt ns f = some j → xs.length = ns.length → xsPut ns f xs y = xs.set j y
  | n :: r, f, x :: xs, y, j, h, l => by
    unfold nmAt at h
    unfold xsPut
    by_cases e : n = f
    · rw [if_pos e.symm] at h
      cases h
      rw [if_pos e]
      rfl
    · rw [if_neg fun q => e q.symm] at h
      obtain ⟨k, hk, rfl⟩ := Option.map_eq_some_iff.mp h
      rw [if_neg e, xsPut_old hk (by simpa using l)]
      rfl
section
variable {X : Cx} {ρ : Slots} {e a b c elt : Expr} {es : List Expr} {st : Stmt} {sts : List Stmt} {G : Go} {o o1 o2 : O} {d : D} {ds : List D} {os : List O} {pos p0 p1 p2 p3 p4 : Pos} {i : Nat} {x nm f : Str} {C : Addr} {ns : List Str}
theorem OC.take {K : PySem.W.Frag} {all : List Str} (n : Nat) (h : OC K C all) : OC K C (all.take n) := ⟨h.cl, fun f m => h.na f (List.mem_of_mem_take m)⟩
/-- x.f = e, an attribute that isn't there yet -/
theorem m_setFldN {l : Addr} {all : List Str} (pn : PE X (.Name x p1) (tVar i)) (hi : ρ[i]? = some (some (.at l C ns os))) (cc : OC X.K C all) (he : ME X ρ e o)
    (kk : G.nx (ρ.set i (some (.at l C (ns ++ [f]) (os ++ [o]))))) (hl : os.length = ns.length := by rfl) (h1000 : ns.length < 1000 := by decide) (hm : f ∈ all := by decide +kernel) (hn : nmAt ns f = none := by decide +kernel)
    (hs : swapsWith e (some (.Attribute (.Name x p1) f p2)) p3.line X.env = pure false := by rfl) : MS1 X ρ (.Assign [.Attribute (.Name x p1) f p2] e p3) G :=
  m_setFld pn hi hl h1000 cc hm he (by rw [nsPut_new hn, xsPut_new hn hl]; exact kk) hs
/-- .. that is there -/
theorem m_setFldO {l : Addr} {all : List Str} {j : Nat} (pn : PE X (.Name x p1) (tVar i)) (hi : ρ[i]? = some (some (.at l C ns os))) (cc : OC X.K C all) (he : ME X ρ e o)
    (kk : G.nx (ρ.set i (some (.at l C ns (os.set j o))))) (hn : nmAt ns f = some j := by decide +kernel) (hl : os.length = ns.length := by rfl) (h1000 : ns.length < 1000 := by decide) (hm : f ∈ all := by decide +kernel)
    (hs : swapsWith e (some (.Attribute (.Name x p1) f p2)) p3.line X.env = pure false := by rfl) : MS1 X ρ (.Assign [.Attribute (.Name x p1) f p2] e p3) G :=
  m_setFld pn hi hl h1000 cc hm he (by rw [nsPut_old hn, xsPut_old hn hl]; exact kk) hs
end
end M
namespace M
open PySem L2 PySem.Spec PyProof.Rows
/-! ### a list of one's own that stands still for a while -/
/-- slots that are fit for what follows: gone, of one's own, or a view at a known place that stands as it stood -/
inductive Kp : Slots → Slots → Prop where
  | nil : Kp [] []
  | no {x : Option O} {ρ τ : Slots} : Kp ρ τ → Kp (x :: ρ) (none :: τ)
  | nv {x : Option O} {o : O} {ρ τ : Slots} : o.nv = true → Kp ρ τ → Kp (x :: ρ) (some o :: τ)
  | va {a : Addr} {ds : List D} {ρ τ : Slots} : Kp ρ τ → Kp (some (.vwa a ds) :: ρ) (some (.vwa a ds) :: τ)
  | lk {a : Addr} {o : O} {ρ τ : Slots} : Kp ρ τ → Kp (some (.lk (.loc a o)) :: ρ) (some (.lk (.loc a o)) :: τ)
section
variable {K : PySem.W.Frag} {Z0 Z Z1 F F' H H1 : Hp}
theorem StL.monoF (f : Ex F F') : ∀ {ρ : Slots} {σ : L2.St} {A : List Addr}, StL K Z F H ρ σ A → StL K Z F' H ρ σ A
  | _, _, _, .nil => .nil
  | _, _, _, .no h => .no (h.monoF f)
  | _, _, _, .so r h => .so (r.mono (Ex.refl _) f fun _ _ _ e => e) (h.monoF f)
theorem RepO.lkAt {v : V} {a : Addr} {o : O} {A : List Addr} (r : RepO K Z F H v (.lk (.loc a o)) A) : v = .ref a ∧ A = [] ∧ RepK K Z F (.ref a) o := by
  cases r with
  | lk r =>
    cases r with
    | loc r => exact ⟨rfl, rfl, r⟩
theorem StL.kp (ef : Ex F F') (ez : Ex Z Z1) : ∀ {ρ τ : Slots} {σ0 σ : L2.St} {A0 A : List Addr}, Kp ρ τ → StL K Z F H ρ σ0 A0 → StL K Z1 F' H1 τ σ A → StL K Z1 F H1 τ σ A
  | _, _, _, _, _, _, .nil, .nil, .nil => .nil
  | _, _, _, _, _, _, .no k, .no h0, .no h => .no (StL.kp ef ez k h0 h)
  | _, _, _, _, _, _, .no k, .so _ h0, .no h => .no (StL.kp ef ez k h0 h)
  | _, _, _, _, _, _, .nv n k, .no h0, .so r h => .so (r.unF n) (StL.kp ef ez k h0 h)
  | _, _, _, _, _, _, .nv n k, .so _ h0, .so r h => .so (r.unF n) (StL.kp ef ez k h0 h)
  | _, _, _, _, _, _, .va k, .so r0 h0, .so r h => by
    cases r with
    | vwa r2 r3 =>
      cases r0 with
      | vwa r4 r5 => exact .so (.vwa r4 (r5.mono ez)) (StL.kp ef ez k h0 h)
  | _, _, _, _, _, _, .lk (a := a) (o := o) k, .so r0 h0, .so r h => by
    have e0 := RepO.lkAt r0
    have e1 := RepO.lkAt r
    rw [e1.1, e1.2.1]
    exact .so (.lk (.loc (e0.2.2.mono ez (Ex.refl _)))) (StL.kp ef ez k h0 h)
end
theorem kp_auto {ρ τ : Slots} (l : Kp ρ τ := by repeat (first | exact Kp.nil | refine Kp.no ?_ | refine Kp.va ?_ | refine Kp.lk ?_ | refine Kp.nv rfl ?_ | refine Kp.nv (O.nvL_fz _) ?_)) : Kp ρ τ := l
theorem kp_set : ∀ {ρ τ : Slots} {i : Nat} {a : Addr} {ds : List D} {o : O}, Kp (ρ.set i (some (.vwa a ds))) τ → τ[i]? = some (some (.vwa a ds)) → o.nv = true → Kp ρ (τ.set i (some o))
  | [], _, _, _, _, _, h, e, _ => by
    cases h
    simp at e
  | x :: ρ, _, 0, _, _, _, .no k, e, n => by simp at e
  | x :: ρ, _, 0, _, _, _, .nv m k, e, n => .nv n k
  | _ :: ρ, _, 0, _, _, _, .va k, e, n => .nv n k
  | x :: ρ, _, i + 1, _, _, _, .no k, e, n => .no (kp_set k (by simpa using e) n)
  | x :: ρ, _, i + 1, _, _, _, .nv m k, e, n => .nv m (kp_set k (by simpa using e) n)
  | _ :: ρ, _, i + 1, _, _, _, .va k, e, n => .va (kp_set k (by simpa using e) n)
  | _ :: ρ, _, i + 1, _, _, _, .lk k, e, n => .lk (kp_set k (by simpa using e) n)
section
variable {X : Cx} {ρ : Slots} {st : Stmt} {sts : List Stmt} {G : Go} {o : O} {d : D} {ds : List D} {i : Nat}
/-- a view is at some place -/
theorem ms_known (hi : ρ[i]? = some (some (.vw ds))) (h : ∀ a, MS X (ρ.set i (some (.vwa a ds))) sts G) : MS X ρ sts G := .mk fun Z0 F Z σ H D s g => by
  obtain ⟨A, h1, h2, h3⟩ := s.st
  obtain ⟨v, B, q1, q2, q3, q4, q5⟩ := h1.at hi h2
  cases q2 with
  | @vw a vs _ l r =>
    refine (h a).run Z0 F Z σ H D ?_ g
    obtain ⟨A', r1, r2, r3⟩ := q5 (Z' := Z) (H' := H) (v' := .ref a) (o' := .vwa a ds) (B' := []) (Ex.refl _) (fun _ _ _ _ e => e) (.vwa l r) List.nodup_nil fun _ m => nomatch m
    rw [set_same q1] at r1
    exact ⟨s.gr, A', r1, r2, fun a m => (r3 a m).elim (fun z => h3 a z.1) fun z => nomatch z⟩
/-- a statement while slot i's own list stands still -/
theorem m_still (hi : ρ[i]? = some (some (.lst (ds.map .fz)))) (h : ∀ a, MS1 X (ρ.set i (some (.vwa a ds))) st { nx := fun τ => ∃ τ', Le τ τ' ∧ τ'[i]? = some (some (.vwa a ds)) ∧ Kp (ρ.set i (some (.vwa a ds))) τ' ∧ G.nx (τ'.set i (some (.lst (ds.map .fz)))), rt := fun q => q.nv = true ∧ G.rt q }) : MS1 X ρ st G := .mk fun Z0 F Z σ H D s gd => by
  obtain ⟨A, h1, h2, h3⟩ := s.st
  obtain ⟨v, B, q1, q2, q3, q4, q5⟩ := h1.at hi h2
  cases q2 with
  | @lst a vs _ A1 ha r =>
    obtain ⟨eA, rl⟩ := r.fzs
    subst eA
    have fa : F a = none := (h3 a (q4 a List.mem_cons_self)).2
    have za : Z a = none := (h3 a (q4 a List.mem_cons_self)).1
    have ef : Ex F (upd F a (.lst vs)) := Ex.new fa
    have eh : Ex (upd F a (.lst vs)) H := fun b u e => by
      by_cases hb : b = a
      · subst hb
        rw [upd_same] at e
        cases e
        exact ha
      · rw [upd_ne hb] at e
        exact s.gr.hh b u e
    have g0 : Gr Z (upd F a (.lst vs)) Z H := ⟨Ex.refl _, eh, s.ex, fun _ _ _ => rfl⟩
    obtain ⟨w, B2, t1, t2, t3, t4, t5⟩ := (h1.monoF ef).at hi h2
    have ew : w = .ref a := by
      rw [q1] at t1
      cases t1
      rfl
    have mB : a ∈ B2 := by
      cases t2 with
      | lst _ _ => cases ew; exact List.mem_cons_self
    obtain ⟨A', r1, r2, r3⟩ := t5 (Z' := Z) (H' := H) (v' := .ref a) (o' := .vwa a ds) (B' := []) (Ex.refl _) (fun _ _ _ _ e => e) (.vwa (.of upd_same) rl) List.nodup_nil fun _ m => nomatch m
    rw [set_same q1] at r1
    refine (h a).run Z (upd F a (.lst vs)) Z σ H D ⟨g0, A', r1, r2, fun b m => ?_⟩ ⟨fun τ Z1 σ1 H1 k s1 => ?_, fun _ _ _ _ z => z.elim, fun _ _ _ _ z => z.elim, fun o w Z1 H1 A1 k g1 rw1 n1 => ?_, fun _ _ _ _ _ _ z => z.elim, GX.never fun _ z => Bool.noConfusion z.1⟩
    · rcases r3 b m with z | z
      · refine ⟨(h3 b z.1).1, ?_⟩
        rw [upd_ne fun q => z.2 (by rw [q]; exact mB)]
        exact (h3 b z.1).2
      · exact nomatch z
    · obtain ⟨τ', kl, e1, k1, k2⟩ := k
      replace s1 := s1.le kl
      have gF : Gr Z0 F Z1 H1 := ⟨s.gr.zz.trans s1.gr.zz, ef.trans s1.gr.hh, s1.gr.zh, fun b u e => (s1.gr.nw b u (ef b u e)).trans (s.gr.nw b u e)⟩
      obtain ⟨A1, l1, l2, l3⟩ := s1.st
      obtain ⟨w1, B1, u1, u2, u3, u4, u5⟩ := l1.at e1 l2
      have aA1 : a ∉ A1 := fun m => by
        have := (l3 a m).2
        rw [upd_same] at this
        cases this
      have z1a : Z1 a = none := (s1.gr.nw a _ upd_same).trans za
      have h1a : H1 a = some (.lst vs) := s1.gr.hh a _ upd_same
      cases u2 with
      | vwa c1 c2 =>
        obtain ⟨A2, p1, p2, p3⟩ := u5 (Z' := Z1) (H' := H1) (v' := .ref a) (o' := .lst (ds.map .fz)) (B' := [a]) (Ex.refl _) (fun _ _ _ _ e => e) (.lst h1a (rl.mono s1.gr.zz).own) (by simp) fun b m mb => by
          have : b = a := by simpa using m
          subst this
          exact (aA1 mb).elim
        rw [set_same u1] at p1
        refine gd.nx _ Z1 σ1 H1 k2 ⟨gF, A2, StL.kp ef s1.gr.zz (kp_set k1 e1 (O.nvL_fz ds)) h1 p1, p2, fun b m => ?_⟩
        rcases p3 b m with z | z
        · have hb := l3 b z.1
          refine ⟨hb.1, ?_⟩
          have ne : b ≠ a := fun q => aA1 (by rw [← q]; exact z.1)
          have h4 := hb.2
          rw [upd_ne ne] at h4
          exact h4
        · have : b = a := by simpa using z
          subst this
          exact ⟨z1a, fa⟩
    · exact gd.rt o w Z1 H1 A1 k.2 ⟨s.gr.zz.trans g1.zz, ef.trans g1.hh, g1.zh, fun b u e => (g1.nw b u (ef b u e)).trans (s.gr.nw b u e)⟩ (rw1.unF k.1) ⟨n1.1, fun b m => ⟨ef.free (n1.2 b m).1, (n1.2 b m).2⟩⟩
end
end M
namespace M
open PySem L2 PySem.Spec PyProof.Rows
section
variable {X : Cx} {ρ : Slots} {a b : Expr} {pos : Pos} {p : Str} {m : Int} {k : Bool}
theorem mt_inTT_i {xs : List Int} (ha : ME X ρ a (.fz (.int m))) (hb : MU X ρ b (xs.map .int)) (hm : behindInMarks .In b = false := by rfl) : MT X ρ (.Compare a [.In] [b] pos) (xs.contains m) := (mt_inT ha hb rfl flat_i hm).is among_i
theorem mt_niTT_i {xs : List Int} (ha : ME X ρ a (.fz (.int m))) (hb : MU X ρ b (xs.map .int)) (hm : behindInMarks .NotIn b = false := by rfl) : MT X ρ (.Compare a [.NotIn] [b] pos) (!(xs.contains m)) := (mt_niT ha hb rfl flat_i hm).is (by rw [among_i])
theorem mt_inTT_s {xs : List Str} (ha : ME X ρ a (.fz (.str p))) (hb : MU X ρ b (xs.map .str)) (hm : behindInMarks .In b = false := by rfl) : MT X ρ (.Compare a [.In] [b] pos) (xs.contains p) := (mt_inT ha hb rfl flat_s hm).is among_s
theorem mt_niTT_s {xs : List Str} (ha : ME X ρ a (.fz (.str p))) (hb : MU X ρ b (xs.map .str)) (hm : behindInMarks .NotIn b = false := by rfl) : MT X ρ (.Compare a [.NotIn] [b] pos) (!(xs.contains p)) := (mt_niT ha hb rfl flat_s hm).is (by rw [among_s])
theorem me_inTT_s {xs : List Str} (ha : ME X ρ a (.fz (.str p))) (hb : MU X ρ b (xs.map .str)) (hm : behindInMarks .In b = false := by rfl) : ME X ρ (.Compare a [.In] [b] pos) (.fz (.bl (xs.contains p))) := (me_inT ha hb rfl flat_s hm).isB among_s
theorem me_niTT_s {xs : List Str} (ha : ME X ρ a (.fz (.str p))) (hb : MU X ρ b (xs.map .str)) (hm : behindInMarks .NotIn b = false := by rfl) : ME X ρ (.Compare a [.NotIn] [b] pos) (.fz (.bl (!(xs.contains p)))) := (me_niT ha hb rfl flat_s hm).isB (by rw [among_s])
end
end M
namespace M
open PySem L2 PySem.Spec PyProof.Rows
/-! ### things of any kind -/
def isiD (T : String) (d : D) : Option Bool := d.tyN.bind fun t => kitB t T
def asI : D → Option Int
  | .int i => some i
  | _ => none
def asS : D → Option Str
  | .str x => some x
  | _ => none
def asB : D → Option Bool
  | .bl b => some b
  | _ => none
theorem asI_is {d : D} {i : Int} (h : asI d = some i) : O.fz d = .fz (.int i) := by
  cases d <;> cases h
  rfl
theorem asS_is {d : D} {i : Str} (h : asS d = some i) : O.fz d = .fz (.str i) := by
  cases d <;> cases h
  rfl
theorem asB_is {d : D} {i : Bool} (h : asB d = some i) : O.fz d = .fz (.bl i) := by
  cases d <;> cases h
  rfl
section
variable {X : Cx} {ρ : Slots} {a b c e : Expr} {pos p0 p1 : Pos} {d : D} {k : Bool}
theorem me_isiD {T : String} {TS : Str} (hk : isiD T d = some k) (hg : Gl X "isinstance") (hm : X.mg "isinstance" = none) (hT : PE X (.Name TS p1) (tC (.ty T))) (ha : MV X ρ a (.fz d)) (n1 : NS X a := by exact fun _ => rfl) :
    ME X ρ (.Call (.Name "isinstance" p0) [a, .Name TS p1] [] pos) (.fz (.bl k)) := by
  obtain ⟨t, h1, h2⟩ := Option.bind_eq_some_iff.mp hk
  exact me_isi hg hm hT ha (o := .fz d) h1 h2 n1
end
end M
namespace M
open PySem L2 PySem.Spec PyProof.Rows
/-! ### C() of a class without an __init__ of its own -/
structure MkP (K : PySem.W.Frag) (C : Addr) : Prop where
  makes : PySem.W.makesIn K C = true
  init : PySem.W.findIn K (.ref C) "__init__" = some (some (.builtin "object.__init__"))
  kp : PySem.W.keepIn K (.ref C) = true
theorem run_plain {X : Cx} {C : Addr} {pins : List (Addr × Obj)} {σ : L2.St} {H : Hp} {s : Shared} {Q : VK} (M : MkP X.K C) (I : Inv X pins σ H s)
    (h : ∀ x dx, H x = none → H dx = none → dx ≠ x → Q (.ref x) (upd (upd H dx (.own x)) x (.ins C dx []))) : wpAny (model X.prog X.w) X.A (call (.ref C) []) (EP X pins σ Q) X.xe s := by
  have hq := h (s.heap.objs.size + 1) s.heap.objs.size (I.hok.fresh (Nat.le_succ _)) (I.hok.fresh (Nat.le_refl _)) (Nat.ne_of_lt (Nat.lt_succ_self _))
  have I2 := Inv.made (C := C) I
  have Y := PySem.W.makes_of (M := model X.prog X.w) I.kIn M.makes
  refine wpAny_call (make_map0 I.kIn M.makes M.init (fun self => PySem.W.Looks.of_pure (PySem.W.oi_bind self)) ?_)
  obtain ⟨hh, g, d, t, os⟩ := s
  have hx : ((hh.push PySem.W.emptyDict).push (PySem.W.instObj C hh.objs.size)).get? (hh.objs.size + 1) = some (PySem.W.instObj C hh.objs.size) := by heap_get
  have t1 : PySem.W.Looks (model X.prog X.w) ((hh.push PySem.W.emptyDict).push (PySem.W.instObj C hh.objs.size)) (typeOf (.ref (hh.objs.size + 1))) (.ref C) := (PySem.W.Looks.ld hx).andThen .now
  have t2 : PySem.W.Looks (model X.prog X.w) ((hh.push PySem.W.emptyDict).push (PySem.W.instObj C hh.objs.size)) (isInstance (.ref (hh.objs.size + 1)) (.type "object")) true := t1.andThen (Y.top.keeps fun b o e => Heap.get?_push_of_some _ (Heap.get?_push_of_some _ e))
  refine PySem.codeAny_call_builtin PySem.W.oi_plain PySem.W.entry_oi (@PySem.W.check_slot (model X.prog X.w) _ _ _ "object.__init__" "object" "__init__" (.ref (hh.objs.size + 1)) [] [] _ PySem.W.oi_kind PySem.W.oi_split t2 (PySem.W.oi_args (.ref (hh.objs.size + 1))) ?_)
  rw [PySem.W.oi_run]
  exact wpAny_pure (And.intro rfl ⟨V.ref (hh.objs.size + 1), _, I2, rfl, hq⟩)
section
variable {X : Cx} {ρ : Slots} {e a b : Expr} {es : List Expr} {pos p0 p1 : Pos} {nm : Str} {C : Addr} {ns : List Str} {ds : List D} {o : O} {d : D}
theorem pe_plain (mp : MkP X.K C) (hg : Gl X nm) (hm : X.mg nm = some (.ref C)) (hdb : (nm == ("__debug__" : Str)) = false := by decide) : PE X (.Call (.Name nm p0) [] [] pos) (fun σ H Q => ∀ x dx, H x = none → H dx = none → dx ≠ x → Q (.ref x) (upd (upd H dx (.own x)) x (.ins C dx []))) := by
  refine ⟨fun pins s σ H Q I h => ?_⟩
  refine wpAny_Call_Name_kw (ld_glob I hg hm ?_ hdb)
  exact PySem.W.callWith_K0 I.kIn mp.kp (run_plain mp I h)
theorem me_plain (mp : MkP X.K C) (hm : X.mg nm = some (.ref C)) (hg : Gl X nm := by rfl) (hdb : (nm == ("__debug__" : Str)) = false := by decide) : ME X ρ (.Call (.Name nm p0) [] [] pos) (.ins C [] []) := .mk fun Z0 F Z σ H s Q q =>
  PE_w (pe_plain mp hg hm hdb) fun x dx hx hdx ne => by
    have h2 : (upd H dx (.own x)) x = none := by rw [upd_ne ne.symm]; exact hx
    exact q (.ref x) Z _ [x] ((Gr.new s.ex hdx).trans (Gr.new ((s.ex).trans (Ex.new hdx)) h2)) (.ins (dx := dx) upd_same .nil) (new_one hx (s.ex.free hx))
/-! ### defs with defaults -/
theorem fn_mD {α : Type} {P : Program} {w : World} {K : PySem.W.Frag} {mg : Str → Option Value} {base : Heap} {x qual : Str} {pr : Arguments} {bo : List Stmt} {sc : Scope} {dvs : List V} {kws : List (Str × V)} {f : Addr} {fd : FuncData} {N ps : List Str} {k : Nat} {ar : α → List O} {pre : α → Prop} {res : α → O}
    (F : FunD K x qual pr bo sc dvs kws f fd) (S : FnScope N ps sc) (hl : ∀ x, (ar x).length = ps.length) (hn : ∀ x, pre x → (res x).nv = true)
    (hb : ∀ (cdv : Value) (A : Around) (outer : List Env) (s : Shared) (H : Hp) (E : XK), Room k (A.deeper (envOfC qual sc s.heap.objs.size f cdv)) → ∀ x, pre x →
      MS (cxOf CX0 P w K mg base N qual sc f cdv A outer s H E).nox ((ar x).map some ++ List.replicate (N.length - ps.length) none) bo { nx := fun _ => res x = .fz .non, rt := fun o => o = res x }) :
    FnOk P w K mg base CX0 (k + 1) f fd ps (SpM K ar pre res) := by
  refine F.ok S (fun vs H Q E h => ?_) (fun cdv A outer s H vs Q E hr h => ?_)
  · obtain ⟨x, Z, _, r, _⟩ := h
    rw [r.length, hl]
  · obtain ⟨x, Z, ez, r, hp, q⟩ := h
    refine ⟨_, PSs.nox pss_w, (hb cdv A outer s H E hr x hp).run Z H Z _ H _ ⟨Gr.refl ez, [], ?_, List.nodup_nil, fun _ m => nomatch m⟩ ⟨fun ρ Z' σ H' e s' => ?_, fun _ _ _ _ z => z.elim, fun _ _ _ _ z => z.elim, fun o v Z' H' A e g r n => ?_, fun _ _ _ _ _ _ z => z.elim, GX.never fun e z => by
      have n := hn x hp
      rw [← show O.rs e = res x from z] at n
      cases n⟩⟩
    · have e : L2.start N vs = vs.map some ++ List.replicate (N.length - ps.length) none := by
        unfold L2.start
        rw [r.length, hl]
      rw [e]
      exact stL_more _ (stL_args r)
    · refine q _ Z' H' [] s'.gr ?_ .nil
      rw [e]
      exact .fz .non
    · subst e
      exact q _ Z' H' A g (r.unF (hn x hp)) n
theorem fn_mXD {α : Type} {P : Program} {w : World} {K : PySem.W.Frag} {mg : Str → Option Value} {base : Heap} {x qual : Str} {pr : Arguments} {bo : List Stmt} {sc : Scope} {dvs : List V} {kws : List (Str × V)} {f : Addr} {fd : FuncData} {N ps : List Str} {k : Nat} {ar : α → List O} {pre : α → Prop} {s0 s1 : Addr → α → O} {res : α → O}
    (F : FunD K x qual pr bo sc dvs kws f fd) (S : FnScope N ps sc) (hl : ∀ x, (ar x).length + 1 = ps.length) (hn1 : ∀ l x, pre x → (s1 l x).nv = true) (hn2 : ∀ x, pre x → (res x).nv = true) (hat : ∀ l x, ∃ C ns os, s1 l x = .at l C ns os)
    (hb : ∀ (cdv : Value) (A : Around) (outer : List Env) (s : Shared) (H : Hp) (E : XK), Room k (A.deeper (envOfC qual sc s.heap.objs.size f cdv)) → ∀ (l : Addr) x, pre x →
      MS (cxOf CX0 P w K mg base N qual sc f cdv A outer s H E).nox (some (s0 l x) :: (ar x).map some ++ List.replicate (N.length - ps.length) none) bo { nx := fun ρ => res x = .fz .non ∧ ρ[0]? = some (some (s1 l x)), rs := fun o ρ => o = res x ∧ ρ[0]? = some (some (s1 l x)) }) :
    FnOk P w K mg base CX0 (k + 1) f fd ps (SpX K ar pre s0 s1 res) := by
  refine F.ok S (fun vs H Q E h => ?_) (fun cdv A outer s H vs Q E hr h => ?_)
  · obtain ⟨x, Z, F, l, vs', A, rfl, _, _, _, _, _, r, _⟩ := h
    rw [List.length_cons, r.length, hl]
  · obtain ⟨x, Z, F0, l, vs', A0, rfl, ez, ef, nA, fA, rs, r, hp, q⟩ := h
    obtain ⟨C, ns, os, hs1⟩ := hat l x
    have st0 : StL K Z F0 H (some (s0 l x) :: (ar x).map some) (some (.ref l) :: vs'.map some) (A0 ++ []) := .so rs (stL_args (r.mono (Ex.refl _) (Ex.refl _) fun _ m => nomatch m))
    refine ⟨_, PSs.nox pss_w, (hb cdv A outer s H E hr l x hp).run Z F0 Z _ H _ ⟨⟨Ex.refl _, ef, ez.trans ef, fun _ _ _ => rfl⟩, A0 ++ [], ?_, by rw [List.append_nil]; exact nA, fun a m => ?_⟩ ⟨fun ρ Z' σ H' e s' => ?_, fun _ _ _ _ z => z.elim, fun _ _ _ _ z => z.elim, fun _ _ _ _ _ z => z.elim, fun o ρ v Z' σ H' e s' => ?_, GX.never fun _ z => z⟩⟩
    · have e : L2.start N (.ref l :: vs') = (some (.ref l) :: vs'.map some) ++ List.replicate (N.length - ps.length) none := by
        unfold L2.start
        rw [List.length_cons, r.length, hl]
        rfl
      rw [e]
      exact stL_more _ st0
    · rw [List.append_nil] at m
      exact ⟨ez.free (fA a m), fA a m⟩
    · obtain ⟨en, e⟩ := e
      obtain ⟨A1, t1, t2, t3⟩ := s'.st
      obtain ⟨v, B, u1, u2, u3, u4, _⟩ := t1.at e t2
      have hn := hn1 l x hp
      rw [hs1] at u2 hn
      cases u2 with
      | @«at» _ _ dx _ vs1 _ B1 h0 rl =>
        refine q .non Z' H' ((l :: B1) ++ ([] ++ [])) s'.gr (.cons ?_ (.cons (A := []) ?_ .nil)) (by simpa using u3) fun a m => ?_
        · rw [hs1]
          exact (RepO.at h0 rl).unF hn
        · rw [en]
          exact .fz .non
        · have m : a ∈ l :: B1 := by simpa using m
          exact ⟨(t3 a (u4 a m)).2, (t3 a (u4 a m)).1⟩
    · obtain ⟨en, e⟩ := e
      subst en
      obtain ⟨A1, t1, t2, t3⟩ := s'.st
      obtain ⟨B, Cc, w1, w2, w3, w4⟩ := t1.last t2
      obtain ⟨n1, n2, n3⟩ := List.nodup_append.mp w3
      obtain ⟨v0, B0, u1, u2, u3, u4, _⟩ := w1.at e n1
      have hn := hn1 l x hp
      rw [hs1] at u2 hn
      cases u2 with
      | @«at» _ _ dx _ vs1 _ B1 h0 rl =>
        refine q v Z' H' ((l :: B1) ++ (Cc ++ [])) s'.gr (.cons ?_ (.cons (w2.unF (hn2 x hp)) .nil)) ?_ fun a m => ?_
        · rw [hs1]
          exact (RepO.at h0 rl).unF hn
        · rw [List.append_nil]
          exact List.nodup_append.mpr ⟨u3, n2, fun a ha b hb => n3 a (u4 a ha) b hb⟩
        · rw [List.append_nil] at m
          have m2 : a ∈ B ++ Cc := by
            rcases List.mem_append.mp m with z | z
            · exact List.mem_append_left _ (u4 a z)
            · exact List.mem_append_right _ z
          exact ⟨(t3 a (w4 a m2)).2, (t3 a (w4 a m2)).1⟩
theorem fun_mkD {K : PySem.W.Frag} {x qual : Str} {st : Stmt} {f T : Addr} {oc : Value} {od an td : Option Addr} {osl tsl : Array (Option Value)} {kV doc pm cdv ct : Value} {dvs : List V} {its : List Value} {n : Nat} (l : K.lookup f = some ⟨oc, od, .func (PySem.W.fnOf x qual (defArgs st) (defBody st) (defScope st) (.ref T) kV doc pm an cdv ct), osl⟩)
    (c : PySem.W.codeIn K cdv qual = true) (k : PySem.W.keepIn K (.ref f) = true) (lT : K.lookup T = some ⟨.type "tuple", td, .seq its.toArray n, tsl⟩) (hv : Vals dvs its) (hne : dvs ≠ []) : FunD K x qual (defArgs st) (defBody st) (defScope st) dvs [] f (PySem.W.fnOf x qual (defArgs st) (defBody st) (defScope st) (.ref T) kV doc pm an cdv ct) :=
  ⟨⟨oc, od, _, kV, doc, pm, an, cdv, ct, osl, rfl, l, c, .inr ⟨hne, T, _, its, n, rfl, lT, rfl, hv⟩, .inl rfl⟩, k⟩
/-- a default is a plain value -/
inductive Dfl : List V → List D → Prop where
  | nil : Dfl [] []
  | cons {v : V} {d : D} {vs : List V} {ds : List D} : Sc d v → Dfl vs ds → Dfl (v :: vs) (d :: ds)
theorem Dfl.own {K : PySem.W.Frag} {Z F H : Hp} : ∀ {vs : List V} {ds : List D}, Dfl vs ds → RepOL K Z F H vs (ds.map .fz) []
  | _, _, .nil => .nil
  | _, _, .cons h r => .cons (A := []) (B := []) (.fz h.rep) r.own
theorem RepOL.app1 {K : PySem.W.Frag} {Z F H : Hp} : ∀ {vs : List V} {os : List O} {A : List Addr}, RepOL K Z F H vs os A → A = [] → ∀ {ws : List V} {us : List O}, RepOL K Z F H ws us [] → RepOL K Z F H (vs ++ ws) (os ++ us) []
  | _, _, _, .nil, _, _, _, s => s
  | _, _, _, .cons h r, e, _, _, s => by
    obtain ⟨rfl, rfl⟩ := List.append_eq_nil_iff.mp e
    exact .cons (A := []) (B := []) h (RepOL.app1 r rfl s)
theorem RepOL.app0 {K : PySem.W.Frag} {Z F H : Hp} {vs ws : List V} {os us : List O} (r : RepOL K Z F H vs os []) (s : RepOL K Z F H ws us []) : RepOL K Z F H (vs ++ ws) (os ++ us) [] := r.app1 rfl s
structure Mk1D (P : Program) (w : World) (K : PySem.W.Frag) (mg : Str → Option Value) (base : Heap) (name : Str) (C : Addr) (k : Nat) (ps : List Str) (dvs : List V) (sp : Sp) : Prop where
  ex : ∃ (f : Addr) (fd : FuncData) (dd : List Value), mg name = some (.ref C) ∧ Mk K C f ∧ Binds K fd ps dd ∧ Vals dvs dd ∧ FnOk P w K mg base CX0 k f fd ps sp
theorem me_makeD {α : Type} {ar : α → List O} {pre : α → Prop} {res : α → List O} {k : Nat} {ps : List Str} {dvs : List V} {dds : List D} {ro : List O} (c : Mk1D X.prog X.w X.K X.mg X.base nm C k ps dvs (SpI X.K C ns ar pre res)) (hd : Dfl dvs dds) (x : α) (ha : MA X ρ (e :: es) ro) (hx : ar x = ro ++ dds.map .fz) (hp : pre x) (hr : Room (k + 1) X.A) {os : List O} (hres : res x = os := by first | (dsimp only; done) | (dsimp only; rfl) | rfl) (hg : Gl X nm := by rfl)
    (hdb : (nm == ("__debug__" : Str)) = false := by decide) (he : starEach (e :: es) X.env = (false, eval e X.env) :: starEach es X.env := by rfl) (hpl : (backTo pos (starEach es X.env)).any (·.1) = false := by rfl) : ME X ρ (.Call (.Name nm p0) (e :: es) [] pos) (.ins C ns os) := by
  subst hres
  obtain ⟨f, fd, dd, hm, M, hb, hv, F⟩ := c.ex
  exact .mk fun Z0 F0 Z σ H s Q q => PE_w (pe_make M F hr hg hm hb hv pass0 pa_w hdb he hpl) (ha.run Z0 F0 Z σ H s _ fun vs Z1 H1 g1 r1 l dx nl ndx ne =>
    ⟨x, Z1, H1, l, dx, vs ++ dvs, rfl, g1.zh, (Ex.new ndx).trans (Ex.new (by rw [upd_ne ne.symm]; exact nl)), nl, upd_same, by rw [hx]; exact r1.app0 hd.own, hp, fun Z2 H2 A g2 r2 n2 =>
      ⟨rfl, q (.ref l) Z2 H2 A (g1.trans g2) (r2.unAt.mono (Ex.refl _) (fun _ _ z => by cases z) fun _ _ _ z => z) ⟨n2.1, fun a m => ⟨g1.hh.free (n2.2 a m).1, (n2.2 a m).2⟩⟩⟩⟩)
/-- C(..) without arguments -/
theorem me_make0 {α : Type} {ar : α → List O} {pre : α → Prop} {res : α → List O} {k : Nat} {ps : List Str} (c : Mk1 X.prog X.w X.K X.mg X.base nm C k ps (SpI X.K C ns ar pre res)) (x : α) (hx : ar x = []) (hp : pre x) (hr : Room (k + 1) X.A) {os : List O} (hres : res x = os := by first | (dsimp only; done) | (dsimp only; rfl) | rfl) (hg : Gl X nm := by rfl)
    (hdb : (nm == ("__debug__" : Str)) = false := by decide) : ME X ρ (.Call (.Name nm p0) [] [] pos) (.ins C ns os) := by
  subst hres
  obtain ⟨f, fd, hm, M, hb, F⟩ := c.ex
  exact .mk fun Z0 F0 Z σ H s Q q => PE_w (pe_make0 M F hr hg hm hb .nil pass0 hdb) (fun l dx nl ndx ne =>
    ⟨x, Z, H, l, dx, [], rfl, s.ex, (Ex.new ndx).trans (Ex.new (by rw [upd_ne ne.symm]; exact nl)), nl, upd_same, by rw [hx]; exact .nil, hp, fun Z2 H2 A g2 r2 n2 =>
      ⟨rfl, q (.ref l) Z2 H2 A g2 (r2.unAt.mono (Ex.refl _) (fun _ _ z => by cases z) fun _ _ _ z => z) ⟨n2.1, fun a m => ⟨(n2.2 a m).1, (n2.2 a m).2⟩⟩⟩⟩)
/-- a method with defaults, that changes nothing -/
structure Mt1D (P : Program) (w : World) (K : PySem.W.Frag) (mg : Str → Option Value) (base : Heap) (C : Addr) (m : Str) (k : Nat) (ps : List Str) (dvs : List V) (sp : Sp) : Prop where
  ex : ∃ (f : Addr) (fd : FuncData) (dd : List Value), Meth K C m f ∧ Binds K fd ps dd ∧ Vals dvs dd ∧ FnOk P w K mg base CX0 k f fd ps sp
end
end M
namespace M
open PySem L2 PySem.Spec PyProof.Rows
/-! ### places: parts of own things, at which these are changed -/
section
variable {K : PySem.W.Frag} {Z0 Z Z' Z1 F F' H H' H1 : Hp} {ρ ρ' : Slots} {σ : L2.St}
theorem RepOL.foc : ∀ {vs : List V} {os : List O} {A : List Addr} {j : Nat} {o : O}, RepOL K Z F H vs os A → os[j]? = some o → A.Nodup →
    ∃ v B, vs[j]? = some v ∧ RepO K Z F H v o B ∧ B.Nodup ∧ (∀ a ∈ B, a ∈ A) ∧ ∀ {Z' H' : Hp} {o' : O} {B' : List Addr}, Ex Z Z' → (∀ a ∈ A, a ∉ B → ∀ u, H a = some u → H' a = some u) → RepO K Z' F H' v o' B' → B'.Nodup → (∀ a ∈ B', a ∈ A → a ∈ B) →
      ∃ A', RepOL K Z' F H' vs (os.set j o') A' ∧ A'.Nodup ∧ ∀ a ∈ A', (a ∈ A ∧ a ∉ B) ∨ a ∈ B'
  | _, _, _, _, _, .nil, e, _ => by simp at e
  | _, _, _, 0, _, .cons (A := A1) (B := A2) q h, e, nA => by
    simp at e
    subst e
    obtain ⟨n1, n2, n3⟩ := List.nodup_append.mp nA
    refine ⟨_, A1, rfl, q, n1, fun a m => List.mem_append_left _ m, fun ez k r n d => ?_⟩
    refine ⟨_, .cons r (RepOL.mono ez (Ex.refl _) h fun a m => k a (List.mem_append_right _ m) fun z => n3 a z a m rfl), List.nodup_append.mpr ⟨n, n2, fun a ha b hb e => ?_⟩, fun a m => ?_⟩
    · subst e
      exact n3 a (d a ha (List.mem_append_right _ hb)) a hb rfl
    · rcases List.mem_append.mp m with m | m
      · exact .inr m
      · exact .inl ⟨List.mem_append_right _ m, fun z => n3 a z a m rfl⟩
  | _, _, _, j + 1, _, .cons (A := A1) (B := A2) q h, e, nA => by
    obtain ⟨n1, n2, n3⟩ := List.nodup_append.mp nA
    obtain ⟨v, B, h1, h2, h3, h4, h5⟩ := RepOL.foc (j := j) h (by simpa using e) n2
    refine ⟨v, B, by simpa using h1, h2, h3, fun a m => List.mem_append_right _ (h4 a m), fun ez k r n d => ?_⟩
    obtain ⟨A', q1, q2, q3⟩ := h5 ez (fun a m nb => k a (List.mem_append_right _ m) nb) r n fun a m z => d a m (List.mem_append_right _ z)
    refine ⟨_, .cons (q.mono ez (Ex.refl _) fun a m => k a (List.mem_append_left _ m) fun z => n3 a m a (h4 a z) rfl) q1, List.nodup_append.mpr ⟨n1, q2, fun a ha b hb e => ?_⟩, fun a m => ?_⟩
    · subst e
      rcases q3 a hb with z | z
      · exact n3 a ha a z.1 rfl
      · exact n3 a ha a (h4 a (d a z (List.mem_append_left _ ha))) rfl
    · rcases List.mem_append.mp m with m | m
      · exact .inl ⟨List.mem_append_left _ m, fun z => n3 a m a (h4 a z) rfl⟩
      · exact (q3 a m).imp (fun z => ⟨List.mem_append_right _ z.1, z.2⟩) id
/-- a state with what it owns -/
structure StA (K : PySem.W.Frag) (ρ : Slots) (Z0 F Z : Hp) (σ : L2.St) (H : Hp) (A : List Addr) : Prop where
  gr : Gr Z0 F Z H
  st : StL K Z F H ρ σ A
  nd : A.Nodup
  ds : ∀ a ∈ A, Z a = none ∧ F a = none
theorem StA.r {A : List Addr} (s : StA K ρ Z0 F Z σ H A) : StR K ρ Z0 F Z σ H := ⟨s.gr, A, s.st, s.nd, s.ds⟩
theorem StR.a (s : StR K ρ Z0 F Z σ H) : ∃ A, StA K ρ Z0 F Z σ H A := let ⟨A, h1, h2, h3⟩ := s.st; ⟨A, s.gr, h1, h2, h3⟩
theorem StA.grow {A : List Addr} (s : StA K ρ Z0 F Z σ H A) (g : Gr Z H Z' H') : StA K ρ Z0 F Z' σ H' A := by
  refine ⟨s.gr.trans g, s.st.mono g.zz fun a _ u e => g.hh a u e, s.nd, fun a m => ⟨?_, (s.ds a m).2⟩⟩
  obtain ⟨u, e⟩ := s.st.there a m
  rw [g.nw a u e]
  exact (s.ds a m).1
/-- what a change at A must leave as it is -/
def Kept (F : Hp) (T A : List Addr) (a : Addr) : Prop := a ∉ A ∧ (a ∈ T ∨ ∃ u, F a = some u)
/-- the part at a place: what is there, and what comes of it where it is changed -/
structure FocA (K : PySem.W.Frag) (F Z : Hp) (Z0 : Hp) (σ : L2.St) (H : Hp) (T : List Addr) (v : V) (o : O) (R : O → Slots) (A : List Addr) : Prop where
  rp : RepO K Z F H v o A
  nd : A.Nodup
  ds : ∀ a ∈ A, a ∈ T ∧ Z a = none ∧ F a = none
  th : ∀ a ∈ T, ∃ u, H a = some u
  fh : Ex F H
  k : ∀ {Z' H' : Hp} {w : V} {o' p : O} {B : List Addr}, Ex Z Z' → (∀ a, Kept F T A a → Z' a = Z a) → Ex Z' H' → (∀ a, Kept F T A a → ∀ u, H a = some u → H' a = some u) → RepOL K Z' F H' [v, w] [o', p] B → B.Nodup → (∀ a ∈ B, (a ∈ A ∨ a ∉ T ∧ F a = none) ∧ Z' a = none) →
    StR K (R o' ++ [some p]) Z0 F Z' (σ ++ [some w]) H'
def Foc (K : PySem.W.Frag) (Z0 F Z : Hp) (σ : L2.St) (H : Hp) (T : List Addr) (v : V) (o : O) (R : O → Slots) : Prop := ∃ A, FocA K F Z Z0 σ H T v o R A
theorem StA.foc {T : List Addr} {i : Nat} {o : O} (s : StA K ρ Z0 F Z σ H T) (hi : ρ[i]? = some (some o)) : ∃ v, σ[i]? = some (some v) ∧ Foc K Z0 F Z σ H T v o (fun o' => ρ.set i (some o')) := by
  obtain ⟨v, B0, q1, q2, q3, q4, q5⟩ := s.st.at hi s.nd
  refine ⟨v, q1, B0, q2, q3, fun a m => ⟨q4 a m, s.ds a (q4 a m)⟩, s.st.there, s.gr.hh, fun {Z' H' w o' p B} ez nz zh k r n d => ?_⟩
  cases r with
  | @cons _ _ _ _ A1 B1 ra r =>
    cases r with
    | @cons _ _ _ _ A2 B2 rb r =>
      cases r
      rw [List.append_nil] at n d
      obtain ⟨n1, n2, n3⟩ := List.nodup_append.mp n
      have apart : ∀ a ∈ A1 ++ A2, a ∈ T → a ∈ B0 := fun a m ma => (d a m).1.elim id fun z => absurd ma z.1
      obtain ⟨A', r1, r2, r3⟩ := q5 (v' := v) ez (fun a m nb u e => k a ⟨nb, .inl m⟩ u e) ra n1 fun a m ma => apart a (List.mem_append_left _ m) ma
      rw [set_same q1] at r1
      have hF : ∀ a u, F a = some u → a ∉ B0 := fun a u e m => by
        rw [(s.ds a (q4 a m)).2] at e
        cases e
      refine ⟨⟨s.gr.zz.trans ez, fun a u e => k a ⟨hF a u e, .inr ⟨u, e⟩⟩ u (s.gr.hh a u e), zh, fun a u e => (nz a ⟨hF a u e, .inr ⟨u, e⟩⟩).trans (s.gr.nw a u e)⟩, A' ++ A2, r1.push rb, List.nodup_append.mpr ⟨r2, n2, fun a ha b hb e => ?_⟩, fun a m => ?_⟩
      · subst e
        rcases r3 a ha with z | z
        · exact z.2 (apart a (List.mem_append_right _ hb) z.1)
        · exact n3 a z a hb rfl
      · have new : a ∈ A1 ++ A2 → Z' a = none ∧ F a = none := fun y => by
          refine ⟨(d a y).2, ?_⟩
          rcases (d a y).1 with z | z
          · exact (s.ds a (q4 a z)).2
          · exact z.2
        rcases List.mem_append.mp m with m | m
        · rcases r3 a m with z | z
          · exact ⟨(nz a ⟨z.2, .inl z.1⟩).trans (s.ds a z.1).1, (s.ds a z.1).2⟩
          · exact new (List.mem_append_left _ z)
        · exact new (List.mem_append_right _ m)
theorem Foc.grow {T : List Addr} {v : V} {o : O} {R : O → Slots} (f : Foc K Z0 F Z σ H T v o R) (g : Gr Z H Z1 H1) : Foc K Z0 F Z1 σ H1 T v o R := by
  obtain ⟨A, f⟩ := f
  refine ⟨A, f.rp.ex g.zz g.hh, f.nd, fun a m => ⟨(f.ds a m).1, ?_, (f.ds a m).2.2⟩, fun a m => ?_, f.fh.trans g.hh, fun {Z' H' w o' p B} ez nz zh k r n d => ?_⟩
  · obtain ⟨u, e⟩ := f.rp.there a m
    exact (g.nw a u e).trans (f.ds a m).2.1
  · obtain ⟨u, e⟩ := f.th a m
    exact ⟨u, g.hh a u e⟩
  · refine f.k (g.zz.trans ez) (fun a ka => ?_) zh (fun a ka u e => k a ka u (g.hh a u e)) r n d
    have : ∃ u, H a = some u := ka.2.elim (f.th a) fun ⟨u, e⟩ => ⟨u, f.fh a u e⟩
    obtain ⟨u, e⟩ := this
    exact (nz a ka).trans (g.nw a u e)
theorem FocA.chg {T A : List Addr} {v : V} {o : O} {R : O → Slots} (f : FocA K F Z Z0 σ H T v o R A) {o' : O} {B : List Addr} (ez : Ex Z Z') (nz : ∀ a, Kept F T A a → Z' a = Z a) (zh : Ex Z' H') (k : ∀ a, Kept F T A a → ∀ u, H a = some u → H' a = some u) (r : RepO K Z' F H' v o' B) (n : B.Nodup) (d : ∀ a ∈ B, (a ∈ A ∨ a ∉ T ∧ F a = none) ∧ Z' a = none) : StR K (R o') Z0 F Z' σ H' := by
  have := f.k (w := .non) (p := .fz .non) ez nz zh k (.cons r (.cons (A := []) (.fz .non) .nil)) (by simpa using n) (fun a m => d a (by simpa using m))
  exact this.pop
/-- one step down -/
theorem FocA.down {X : Type} {T A : List Addr} {v : V} {mk : List O → O} {cell : X → List V → HO} {P : Addr → Prop} {R : O → Slots} {os : List O} {j : Nat} {o : O}
    (hmk : ∀ {Z H : Hp} {v : V} {os : List O} {A : List Addr}, RepO K Z F H v (mk os) A ↔ ∃ a x vs A1, P a ∧ v = .ref a ∧ A = a :: A1 ∧ H a = some (cell x vs) ∧ RepOL K Z F H vs os A1)
    (f : FocA K F Z Z0 σ H T v (mk os) R A) (hj : os[j]? = some o) : ∃ a x vs v', v = .ref a ∧ H a = some (cell x vs) ∧ vs.length = os.length ∧ vs[j]? = some v' ∧ Foc K Z0 F Z σ H T v' o (fun o' => R (mk (os.set j o'))) := by
  obtain ⟨a, x, vs, A1, pa, rfl, rfl, ha, rl⟩ := hmk.mp f.rp
  obtain ⟨na, nA⟩ := List.nodup_cons.mp f.nd
  obtain ⟨v', B, q1, q2, q3, q4, q5⟩ := rl.foc hj nA
  have lenL : ∀ {vs : List V} {os : List O} {A : List Addr}, RepOL K Z F H vs os A → vs.length = os.length := fun r => r.length
  refine ⟨a, x, vs, v', rfl, ha, lenL rl, q1, B, q2, q3, fun b m => f.ds b (List.mem_cons_of_mem _ (q4 b m)), f.th, f.fh, fun {Z' H' w o' p B2} ez nz zh k r n d => ?_⟩
  cases r with
  | @cons _ _ _ _ B3 _ ra r =>
    cases r with
    | @cons _ _ _ _ B4 _ rb r =>
      cases r
      rw [List.append_nil] at n d
      obtain ⟨n1, n2, n3⟩ := List.nodup_append.mp n
      have aB : a ∉ B := fun m => na (q4 a m)
      have kA : ∀ b ∈ A1, b ∉ B → Kept F T B b := fun b m nb => ⟨nb, .inl (f.ds b (List.mem_cons_of_mem _ m)).1⟩
      have kT : ∀ b, Kept F T (a :: A1) b → Kept F T B b := fun b kb => ⟨fun m => kb.1 (List.mem_cons_of_mem _ (q4 b m)), kb.2⟩
      have ka : Kept F T B a := ⟨aB, .inl (f.ds a List.mem_cons_self).1⟩
      have apart : ∀ b ∈ B3 ++ B4, b ∈ a :: A1 → b ∈ B := fun b m mb => (d b m).1.elim id fun z => absurd (f.ds b mb).1 z.1
      obtain ⟨A', t1, t2, t3⟩ := q5 ez (fun b m nb u e => k b (kA b m nb) u e) ra n1 fun b m mb => apart b (List.mem_append_left _ m) (List.mem_cons_of_mem _ mb)
      have rm : RepO K Z' F H' (.ref a) (mk (os.set j o')) (a :: A') := hmk.mpr ⟨a, x, vs, A', pa, rfl, rfl, k a ka _ ha, t1⟩
      have aA' : a ∉ A' := fun m => by
        rcases t3 a m with z | z
        · exact na z.1
        · exact aB (apart a (List.mem_append_left _ z) List.mem_cons_self)
      refine f.k ez (fun b kb => nz b (kT b kb)) zh (fun b kb u e => k b (kT b kb) u e) (.cons rm (.cons rb .nil)) ?_ fun b m => ?_
      · rw [List.append_nil]
        refine List.nodup_append.mpr ⟨List.nodup_cons.mpr ⟨aA', t2⟩, n2, fun b hb c hc e => ?_⟩
        subst e
        rcases List.mem_cons.mp hb with z | z
        · subst z
          exact aB (apart b (List.mem_append_right _ hc) List.mem_cons_self)
        · rcases t3 b z with y | y
          · exact y.2 (apart b (List.mem_append_right _ hc) (List.mem_cons_of_mem _ y.1))
          · exact n3 b y b hc rfl
      · rw [List.append_nil] at m
        have new : b ∈ B3 ++ B4 → (b ∈ a :: A1 ∨ b ∉ T ∧ F b = none) ∧ Z' b = none := fun y => ⟨(d b y).1.imp (fun z => List.mem_cons_of_mem _ (q4 b z)) id, (d b y).2⟩
        rcases List.mem_append.mp m with m | m
        · rcases List.mem_cons.mp m with z | z
          · subst z
            exact ⟨.inl List.mem_cons_self, (nz b ka).trans (f.ds b List.mem_cons_self).2.1⟩
          · rcases t3 b z with y | y
            · exact ⟨.inl (List.mem_cons_of_mem _ y.1), (nz b (kA b y.1 y.2)).trans (f.ds b (List.mem_cons_of_mem _ y.1)).2.1⟩
            · exact new (List.mem_append_left _ y)
        · exact new (List.mem_append_right _ m)
theorem hm_lst : ∀ {Z H : Hp} {v : V} {os : List O} {A : List Addr}, RepO K Z F H v (.lst os) A ↔ ∃ a, ∃ _ : Unit, ∃ vs A1, True ∧ v = .ref a ∧ A = a :: A1 ∧ H a = some (.lst vs) ∧ RepOL K Z F H vs os A1 := by
  intro Z H v os A
  constructor
  · intro r
    cases r with
    | lst h r => exact ⟨_, (), _, _, trivial, rfl, rfl, h, r⟩
  · rintro ⟨a, _, vs, A1, _, rfl, rfl, h, r⟩
    exact .lst h r
theorem hm_ins {C : Addr} {ns : List Str} : ∀ {Z H : Hp} {v : V} {os : List O} {A : List Addr}, RepO K Z F H v (.ins C ns os) A ↔ ∃ a, ∃ dx : Addr, ∃ vs A1, True ∧ v = .ref a ∧ A = a :: A1 ∧ H a = some (.ins C dx (ns.zip vs)) ∧ RepOL K Z F H vs os A1 := by
  intro Z H v os A
  constructor
  · intro r
    cases r with
    | ins h r => exact ⟨_, _, _, _, trivial, rfl, rfl, h, r⟩
  · rintro ⟨a, _, vs, A1, _, rfl, rfl, h, r⟩
    exact .ins h r
theorem hm_at {l C : Addr} {ns : List Str} : ∀ {Z H : Hp} {v : V} {os : List O} {A : List Addr}, RepO K Z F H v (.at l C ns os) A ↔ ∃ a, ∃ dx : Addr, ∃ vs A1, a = l ∧ v = .ref a ∧ A = a :: A1 ∧ H a = some (.ins C dx (ns.zip vs)) ∧ RepOL K Z F H vs os A1 := by
  intro Z H v os A
  constructor
  · intro r
    cases r with
    | «at» h r => exact ⟨_, _, _, _, rfl, rfl, rfl, h, r⟩
  · rintro ⟨a, _, vs, A1, rfl, rfl, rfl, h, r⟩
    exact .at h r
theorem hm_dct {ks : List Key} : ∀ {Z H : Hp} {v : V} {os : List O} {A : List Addr}, RepO K Z F H v (.dct ks os) A ↔ ∃ a, ∃ _ : Unit, ∃ vs A1, True ∧ v = .ref a ∧ A = a :: A1 ∧ H a = some (.dK (ks.zip vs)) ∧ RepOL K Z F H vs os A1 := by
  intro Z H v os A
  constructor
  · intro r
    cases r with
    | dct h r => exact ⟨_, (), _, _, trivial, rfl, rfl, h, r⟩
  · rintro ⟨a, _, vs, A1, _, rfl, rfl, h, r⟩
    exact .dct h r
theorem hm_dctT {ks : List (List Key)} : ∀ {Z H : Hp} {v : V} {os : List O} {A : List Addr}, RepO K Z F H v (.dctT ks os) A ↔ ∃ a, ∃ _ : Unit, ∃ vs A1, True ∧ v = .ref a ∧ A = a :: A1 ∧ H a = some (.dT (ks.zip vs)) ∧ RepOL K Z F H vs os A1 := by
  intro Z H v os A
  constructor
  · intro r
    cases r with
    | dctT h r => exact ⟨_, (), _, _, trivial, rfl, rfl, h, r⟩
  · rintro ⟨a, _, vs, A1, _, rfl, rfl, h, r⟩
    exact .dctT h r
end
end M
namespace M
open PySem L2 PySem.Spec PyProof.Rows
section
variable {X : Cx} {ρ ρ' : Slots} {R : O → Slots} {e a b c elt : Expr} {es rest : List Expr} {st : Stmt} {sts : List Stmt} {G : Go} {o o1 o2 : O} {d : D} {ds : List D} {os : List O} {pos p0 p1 p2 p3 p4 p5 p6 : Pos} {i j : Nat} {x nm f : Str} {m n k : Int} {p q : Str} {C : Addr} {ns : List Str}
/-- an expression that tells a place, and changes nothing -/
structure MQ (X : Cx) (ρ : Slots) (e : Expr) (o : O) (R : O → Slots) : Prop where
  run : ∀ (Z0 F Z : Hp) (σ : L2.St) (H : Hp) (T : List Addr), StA X.K ρ Z0 F Z σ H T → ∀ Q : VK, (∀ v Z' H', Gr Z H Z' H' → Foc X.K Z0 F Z' σ H' T v o R → Q v H') → wE X e σ H Q
/-- .. that changes slots ahead -/
structure MP (X : Cx) (ρ : Slots) (e : Expr) (o : O) (ρ' : Slots) (R : O → Slots) : Prop where
  run : ∀ (Z0 F Z : Hp) (σ : L2.St) (H : Hp) (T : List Addr), StA X.K ρ Z0 F Z σ H T → ∀ Q : VK, (∀ v Z' H' T', StR X.K ρ' Z0 F Z' σ H' → Foc X.K Z0 F Z' σ H' T' v o R → Q v H') → wE X e σ H Q
theorem MQ.toP (h : MQ X ρ e o R) : MP X ρ e o ρ R := .mk fun Z0 F Z σ H T s Q q => h.run Z0 F Z σ H T s Q fun v Z' H' g f => q v Z' H' T (s.grow g).r f
theorem mq_var (p : PE X (.Name x pos) (tVar i)) (hi : ρ[i]? = some (some o)) : MQ X ρ (.Name x pos) o (fun o' => ρ.set i (some o')) := .mk fun Z0 F Z σ H T s Q q => by
  obtain ⟨v, e1, f⟩ := s.foc hi
  exact PE_w p ⟨v, e1, q v Z H (Gr.refl s.gr.zh) f⟩
theorem mq_fld {j : Nat} (h : MQ X ρ e (.ins C ns os) R) (cc : OC X.K C ns) (hd : os[j]? = some o := by rfl) (hj : nmAt ns f = some j := by decide +kernel) (hb : attributeBase e f X.env (eval e X.env) = eval e X.env := by rfl) : MQ X ρ (.Attribute e f pos) o (fun o' => R (.ins C ns (os.set j o'))) := .mk fun Z0 F Z σ H T s Q q =>
  PE_w (pe_fld pe_w hb) (h.run Z0 F Z σ H T s _ fun v Z1 H1 g f => by
    obtain ⟨A, f⟩ := f
    obtain ⟨a, dx, vs, v', rfl, ha, hl, hv, f'⟩ := f.down hm_ins hd
    exact ⟨a, C, dx, _, v', rfl, ha, cc.cl, cc.na _ (nmAt_mem hj), look_zip hj hv, q v' Z1 H1 g f'⟩)
theorem mq_fldA {j : Nat} {l : Addr} (h : MQ X ρ e (.at l C ns os) R) (cc : OC X.K C ns) (hd : os[j]? = some o := by rfl) (hj : nmAt ns f = some j := by decide +kernel) (hb : attributeBase e f X.env (eval e X.env) = eval e X.env := by rfl) : MQ X ρ (.Attribute e f pos) o (fun o' => R (.at l C ns (os.set j o'))) := .mk fun Z0 F Z σ H T s Q q =>
  PE_w (pe_fld pe_w hb) (h.run Z0 F Z σ H T s _ fun v Z1 H1 g f => by
    obtain ⟨A, f⟩ := f
    obtain ⟨a, dx, vs, v', rfl, ha, hl, hv, f'⟩ := f.down hm_at hd
    exact ⟨a, C, dx, _, v', rfl, ha, cc.cl, cc.na _ (nmAt_mem hj), look_zip hj hv, q v' Z1 H1 g f'⟩)
theorem Foc.unloc {K : PySem.W.Frag} {Z0 F Z H : Hp} {σ : L2.St} {T : List Addr} {v : V} {l : Addr} (f : Foc K Z0 F Z σ H T v (.loc l o) R) : v = .ref l ∧ Foc K Z0 F Z σ H T v o (fun o' => R (.loc l o')) := by
  obtain ⟨A, f⟩ := f
  have ev : v = .ref l := by
    cases f.rp with
    | loc r => rfl
  subst ev
  refine ⟨rfl, A, ?_, f.nd, f.ds, f.th, f.fh, fun ez nz zh k r n d => f.k ez nz zh k ?_ n d⟩
  · cases f.rp with
    | loc r => exact r
  · cases r with
    | cons r1 r2 => exact .cons (.loc r1) r2
theorem mq_loc {l : Addr} (h : MQ X ρ e (.loc l o) R) : MQ X ρ e o (fun o' => R (.loc l o')) := .mk fun Z0 F Z σ H T s Q q => h.run Z0 F Z σ H T s Q fun v Z' H' g f => q v Z' H' g f.unloc.2
theorem MV.unloc {l : Addr} (h : MV X ρ e (.loc l o)) : MV X ρ e o := .mk fun Z0 F Z σ H s Q q => h.run Z0 F Z σ H s Q fun v Z' H' A g r => by
  cases r with
  | loc r => exact q _ Z' H' A g r
theorem mq_ix {j : Nat} (h : MQ X ρ a (.lst os) R) (hb : ME X ρ b (.fz (.int k))) (hk : ixN os.length k = some j) (hd : os[j]? = some o) (hp : PlainIx b := by exact fun _ _ => rfl) : MQ X ρ (.Subscript a b pos) o (fun o' => R (.lst (os.set j o'))) := .mk fun Z0 F Z σ H T s Q q =>
  PE_w (pe_ix ix_list pe_w pe_w hp) (h.run Z0 F Z σ H T s _ fun v Z1 H1 g1 f => hb.run Z0 F Z1 σ H1 (s.grow g1).r _ fun w Z2 H2 A2 g2 r2 n2 => by
    cases r2 with
    | fz r2 =>
      cases r2
      obtain ⟨A, f⟩ := f.grow g2
      obtain ⟨a, _, vs, v', rfl, ha, hl, hv, f'⟩ := f.down hm_lst hd
      exact ⟨a, vs, k, v', rfl, rfl, SqL.of ha, by unfold L2.atI; rw [hl, hk]; exact hv, q v' Z2 H2 (g1.trans g2) f'⟩)
/-- a cell is changed in place -/
theorem FocA.mut {K : PySem.W.Frag} {Z0 F Z H : Hp} {σ : L2.St} {T A : List Addr} {v : V} (f : FocA K F Z Z0 σ H T v o R A) (zh : Ex Z H) {a : Addr} (ha : a ∈ A) {c : HO} {o' : O} {B : List Addr} (r : RepO K Z F (upd H a c) v o' B) (n : B.Nodup) (d : ∀ b ∈ B, b ∈ A ∨ (b ∉ T ∧ Z b = none ∧ F b = none)) : StR K (R o') Z0 F Z σ (upd H a c) := by
  refine f.chg (Ex.refl _) (fun _ _ => rfl) (zh.mut (f.ds a ha).2.1) (fun b kb u e => ?_) r n fun b m => ?_
  · rw [upd_ne fun q => kb.1 (by rw [q]; exact ha)]
    exact e
  · rcases d b m with z | z
    · exact ⟨.inl z, (f.ds b z).2.1⟩
    · exact ⟨.inr ⟨z.1, z.2.2⟩, z.2.1⟩
/-- p.append(e) -/
theorem m_appendP (h : MP X ρ a (.lst os) ρ' R) (he : ME X ρ' e o) (hl : os.length < sizeLine) (k : G.nx (R (.lst (os ++ [o]))))
    (q : ∀ t, PE X (.Call (.Attribute a "append" p2) [e] [] p3) t → PS X (.Expr (.Call (.Attribute a "append" p2) [e] [] p3) p4) (tDrop t) := by exact fun _ h => ps_expr h)
    (pm : PE X (.Call (.Attribute a "append" p2) [e] [] p3) (tBM X.K "list" rAppend (wE X a) (tCons (wE X e) tNil)) := by exact pe_bm PySem.F.plainAttrs_list PySem.F.slot_list_append PySem.F.type_list_append mt_append pe_w (pa_cons pe_w pa_nil)) : MS1 X ρ (.Expr (.Call (.Attribute a "append" p2) [e] [] p3) p4) G := .mk fun Z0 F Z σ H D s g => by
  obtain ⟨T, s⟩ := s.a
  refine PS_w (q _ pm) (h.run Z0 F Z σ H T s _ fun v Z1 H1 T1 s1 f => ?_)
  have f0 := f
  obtain ⟨A, f⟩ := f
  obtain ⟨l, _, vs, A1, _, rfl, rfl, h0, rl⟩ := hm_lst.mp f.rp
  refine ⟨.inl ⟨rfl, _, SqL.of h0⟩, he.run Z0 F Z1 σ H1 s1 _ fun w Z2 H2 B g1 r2 n2 => ?_⟩
  obtain ⟨na, nA'⟩ := List.nodup_cons.mp f.nd
  have th := f.rp.there
  have thT := f.th
  have fh1 := f.fh
  obtain ⟨A', f'⟩ := f0.grow g1
  obtain ⟨l', _, vs', A1', _, el, rfl, h0', rl'⟩ := hm_lst.mp f'.rp
  cases el
  have ev : vs' = vs := by
    have := g1.hh _ _ h0
    rw [h0'] at this
    cases this
    rfl
  subst ev
  obtain ⟨na', nA2⟩ := List.nodup_cons.mp f'.nd
  have nB : ∀ b ∈ B, b ∉ T1 := fun b m mt => by
    obtain ⟨u, hu⟩ := thT b mt
    rw [(n2.2 b m).1] at hu
    cases hu
  have nBA : ∀ b ∈ B, b ∉ l :: A1' := fun b m mb => nB b m (f'.ds b mb).1
  refine ⟨l, vs', w, rfl, rfl, h0', by rw [rl'.length]; exact hl, ?_⟩
  have r1' : RepOL X.K Z2 F (upd H2 l (.lst (vs' ++ [w]))) vs' os A1' := rl'.mono (Ex.refl _) (Ex.refl _) fun b m u hu => by
    rw [upd_ne fun q => na' (by rw [← q]; exact m)]
    exact hu
  have r2' : RepO X.K Z2 F (upd H2 l (.lst (vs' ++ [w]))) w o B := r2.frame fun b m => upd_ne fun q => nBA b m (by rw [q]; exact List.mem_cons_self)
  refine g.nx _ Z2 σ _ k (f'.mut g1.zh List.mem_cons_self (.lst upd_same (r1'.snoc r2')) ?_ fun b m => ?_)
  · refine List.nodup_cons.mpr ⟨fun m => ?_, List.nodup_append.mpr ⟨nA2, n2.1, fun b hb c hc e => nBA c hc (by rw [← e]; exact List.mem_cons_of_mem _ hb)⟩⟩
    rcases List.mem_append.mp m with m | m
    · exact na' m
    · exact nBA _ m List.mem_cons_self
  · rcases List.mem_cons.mp m with z | z
    · exact .inl (by rw [z]; exact List.mem_cons_self)
    · rcases List.mem_append.mp z with z | z
      · exact .inl (List.mem_cons_of_mem _ z)
      · exact .inr ⟨nB b z, (n2.2 b z).2, fh1.free (n2.2 b z).1⟩
end
end M
namespace M
open PySem L2 PySem.Spec PyProof.Rows
section
variable {X : Cx} {ρ ρ' : Slots} {R : O → Slots} {e a b c elt : Expr} {es rest : List Expr} {st : Stmt} {sts : List Stmt} {G : Go} {o o1 o2 : O} {d : D} {ds : List D} {os : List O} {pos p0 p1 p2 p3 p4 p5 p6 : Pos} {i j : Nat} {x nm f : Str} {m n k : Int} {C : Addr} {ns : List Str}
theorem RepOL.apZ {K : PySem.W.Frag} {Z F H : Hp} {ws : List V} {ds : List D} (s : RepL K Z ws ds) : ∀ {vs : List V} {os : List O} {A : List Addr}, RepOL K Z F H vs os A → RepOL K Z F H (vs ++ ws) (os ++ ds.map .fz) A
  | _, _, _, .nil => s.own
  | _, _, _, .cons h r => .cons h (r.apZ s)
/-- the list at a place is changed by a step of its own -/
theorem FocA.chgL {K : PySem.W.Frag} {Z0 F Z H : Hp} {σ : L2.St} {T A A1 : List Addr} {l : Addr} {us : List V} {os' : List O} (f : FocA K F Z Z0 σ H T (.ref l) o R A) (eA : A = l :: A1) (zh : Ex Z H) (r : RepOL K Z F H us os' A1) : StR K (R (.lst os')) Z0 F Z σ (upd H l (.lst us)) := by
  subst eA
  obtain ⟨na, nA⟩ := List.nodup_cons.mp f.nd
  refine f.mut zh List.mem_cons_self (.lst upd_same (r.mono (Ex.refl _) (Ex.refl _) fun b m u hu => ?_)) f.nd fun b m => .inl m
  rw [upd_ne fun q => na (by rw [← q]; exact m)]
  exact hu
/-- p.extend(e), e a list of frozen things -/
theorem m_extendP (h : MP X ρ a (.lst os) ρ' R) (he : MV X ρ' e (.lst (ds.map .fz))) (hl : os.length + ds.length ≤ sizeLine) (k : G.nx (R (.lst (os ++ ds.map .fz))))
    (q : ∀ t, PE X (.Call (.Attribute a "extend" p2) [e] [] p3) t → PS X (.Expr (.Call (.Attribute a "extend" p2) [e] [] p3) p4) (tDrop t) := by exact fun _ h => ps_expr h)
    (pm : PE X (.Call (.Attribute a "extend" p2) [e] [] p3) (tBM X.K "list" rExtend (wE X a) (tCons (wE X e) tNil)) := by exact pe_bm PySem.F.plainAttrs_list PySem.F.slot_list_extend PySem.F.type_list_extend mt_extend pe_w (pa_cons pe_w pa_nil)) : MS1 X ρ (.Expr (.Call (.Attribute a "extend" p2) [e] [] p3) p4) G := .mk fun Z0 F Z σ H D s g => by
  obtain ⟨T, s⟩ := s.a
  refine PS_w (q _ pm) (h.run Z0 F Z σ H T s _ fun v Z1 H1 T1 s1 f => ?_)
  have f0 := f
  obtain ⟨A, f⟩ := f
  obtain ⟨l, _, vs, A1, _, rfl, rfl, h0, rl⟩ := hm_lst.mp f.rp
  refine ⟨.inl ⟨rfl, _, SqL.of h0⟩, he.run Z0 F Z1 σ H1 s1 _ fun w Z2 H2 B g1 r2 => ?_⟩
  cases r2 with
  | @lst b zs _ B0 hb rb =>
    obtain ⟨_, rz⟩ := rb.fzs
    obtain ⟨A', f'⟩ := f0.grow g1
    obtain ⟨l', _, vs', A1', _, el, rfl, h0', rl'⟩ := hm_lst.mp f'.rp
    cases el
    exact ⟨l, b, vs', zs, rfl, rfl, h0', hb, by rw [rl'.length, rz.length]; exact hl, g.nx _ Z2 σ _ k (f'.chgL rfl g1.zh (rl'.apZ rz))⟩
/-- p.clear() -/
theorem m_clearP (h : MP X ρ a (.lst os) ρ' R) (k : G.nx (R (.lst [])))
    (q : ∀ t, PE X (.Call (.Attribute a "clear" p2) [] [] p3) t → PS X (.Expr (.Call (.Attribute a "clear" p2) [] [] p3) p4) (tDrop t) := by exact fun _ h => ps_expr h)
    (pm : PE X (.Call (.Attribute a "clear" p2) [] [] p3) (tBM0 X.K "list" rClear (wE X a)) := by exact pe_bm0 PySem.F.plainAttrs_list PySem.F.slot_list_clear PySem.F.type_list_clear mt_clear pe_w) : MS1 X ρ (.Expr (.Call (.Attribute a "clear" p2) [] [] p3) p4) G := .mk fun Z0 F Z σ H D s g => by
  obtain ⟨T, s⟩ := s.a
  refine PS_w (q _ pm) (h.run Z0 F Z σ H T s _ fun v Z1 H1 T1 s1 f => ?_)
  obtain ⟨A, f⟩ := f
  obtain ⟨l, _, vs, A1, _, rfl, rfl, h0, rl⟩ := hm_lst.mp f.rp
  refine ⟨.inl ⟨rfl, _, SqL.of h0⟩, l, vs, rfl, rfl, h0, g.nx _ Z1 σ _ k ?_⟩
  exact f.mut s1.gr.zh List.mem_cons_self (.lst upd_same .nil) (by simp) fun b m => by
    have : b = l := by simpa using m
    exact .inl (by rw [this]; exact List.mem_cons_self)
theorem RepOL.ins1 {K : PySem.W.Frag} {Z F H : Hp} {w : V} {d : D} (h : Rep K Z w d) : ∀ {vs : List V} {os : List O} {A : List Addr} (j : Nat), RepOL K Z F H vs os A → RepOL K Z F H (vs.take j ++ [w] ++ vs.drop j) (os.take j ++ [.fz d] ++ os.drop j) A
  | _, _, _, 0, r => .cons (A := []) (.fz h) r
  | _, _, _, j + 1, .nil => .cons (A := []) (.fz h) .nil
  | _, _, _, j + 1, .cons g r => .cons g (RepOL.ins1 h j r)
abbrev rInsert : V → List V → Hp → VK → Prop := fun x vs H Q => ∃ (l : Addr) (xs : List V) (i : Int) (y : V), x = .ref l ∧ vs = [.int i, y] ∧ H l = some (.lst xs) ∧ xs.length < sizeLine ∧ 0 ≤ i ∧ i < 2 ^ 63 ∧
    Q .non (upd H l (.lst (xs.take i.toNat ++ [y] ++ xs.drop i.toNat)))
/-- p.insert(k, e), k not below 0 -/
theorem m_insertP (h : MP X ρ a (.lst os) ρ' R) (hb : ME X ρ' b (.fz (.int n))) (he : ME X ρ' e (.fz d)) (hl : os.length < sizeLine) (hn : 0 ≤ n ∧ n < 2 ^ 63) (k : G.nx (R (.lst (os.take n.toNat ++ [.fz d] ++ os.drop n.toNat))))
    (q : ∀ t, PE X (.Call (.Attribute a "insert" p2) [b, e] [] p3) t → PS X (.Expr (.Call (.Attribute a "insert" p2) [b, e] [] p3) p4) (tDrop t) := by exact fun _ h => ps_expr h)
    (pm : PE X (.Call (.Attribute a "insert" p2) [b, e] [] p3) (tBM X.K "list" rInsert (wE X a) (tCons (wE X b) (tCons (wE X e) tNil))) := by exact pe_bm PySem.F.plainAttrs_list PySem.F.slot_list_insert PySem.F.type_list_insert mt_insert pe_w (pa_cons pe_w (pa_cons pe_w pa_nil))) : MS1 X ρ (.Expr (.Call (.Attribute a "insert" p2) [b, e] [] p3) p4) G := .mk fun Z0 F Z σ H D s g => by
  obtain ⟨T, s⟩ := s.a
  refine PS_w (q _ pm) (h.run Z0 F Z σ H T s _ fun v Z1 H1 T1 s1 f => ?_)
  have f0 := f
  obtain ⟨A, f⟩ := f
  obtain ⟨l, _, vs, A1, _, rfl, rfl, h0, rl⟩ := hm_lst.mp f.rp
  refine ⟨.inl ⟨rfl, _, SqL.of h0⟩, hb.run Z0 F Z1 σ H1 s1 _ fun w Z2 H2 B g1 r2 n2 => he.run Z0 F Z2 σ H2 (s1.grow g1) _ fun y Z3 H3 B3 g2 r3 n3 => ?_⟩
  cases r2 with
  | fz r2 =>
    cases r2
    cases r3 with
    | fz r3 =>
      have g12 := g1.trans g2
      obtain ⟨A', f'⟩ := f0.grow g12
      obtain ⟨l', _, vs', A1', _, el, rfl, h0', rl'⟩ := hm_lst.mp f'.rp
      cases el
      exact ⟨l, vs', n, y, rfl, rfl, h0', by rw [rl'.length]; exact hl, hn.1, hn.2, g.nx _ Z3 σ _ k (f'.chgL rfl g12.zh (rl'.ins1 r3 _))⟩
theorem RepOL.setZ {K : PySem.W.Frag} {Z F H : Hp} {w : V} {d : D} (h : Rep K Z w d) : ∀ {vs : List V} {os : List O} {A : List Addr} (j : Nat), RepOL K Z F H vs os A → ∃ A', RepOL K Z F H (vs.set j w) (os.set j (.fz d)) A' ∧ (A.Nodup → A'.Nodup) ∧ ∀ a ∈ A', a ∈ A
  | _, _, _, _, .nil => ⟨[], .nil, id, fun _ m => m⟩
  | _, _, _, 0, .cons (A := A1) (B := A2) g r => ⟨[] ++ A2, .cons (.fz h) r, fun n => (List.nodup_append.mp n).2.1, fun a m => List.mem_append_right _ m⟩
  | _, _, _, j + 1, .cons (A := A1) (B := A2) g r => by
    obtain ⟨A', q1, q2, q3⟩ := RepOL.setZ h j r
    refine ⟨A1 ++ A', .cons g q1, fun n => ?_, fun a m => (List.mem_append.mp m).elim (List.mem_append_left _) fun z => List.mem_append_right _ (q3 a z)⟩
    obtain ⟨n1, n2, n3⟩ := List.nodup_append.mp n
    exact List.nodup_append.mpr ⟨n1, q2 n2, fun x hx y hy => n3 x hx y (q3 y hy)⟩
/-- p[k] = e -/
theorem m_setItemP (h : MQ X ρ a (.lst os) R) (hb : ME X ρ b (.fz (.int k))) (hc : ME X ρ c (.fz d)) (hj : ixN os.length k = some j) (kk : G.nx (R (.lst (os.set j (.fz d)))))
    (pm : PS X (.Assign [.Subscript a b p2] c p3) (tAsg (wE X c) (gSub (wE X a) (wE X b) rSetL)) := by exact ps_asg pe_w (pg_sub pe_w pe_w set_list)) : MS1 X ρ (.Assign [.Subscript a b p2] c p3) G := .mk fun Z0 F Z σ H D s g => by
  obtain ⟨T, s⟩ := s.a
  refine PS_w pm (hc.run Z0 F Z σ H s.r _ fun w Z1 H1 B g1 r2 n2 => h.run Z0 F Z1 σ H1 T (s.grow g1) _ fun v Z2 H2 g2 f => hb.run Z0 F Z2 σ H2 ((s.grow g1).grow g2).r _ fun y Z3 H3 B3 g3 r3 n3 => ?_)
  cases r3 with
  | fz r3 =>
    cases r3
    cases r2 with
    | fz r2 =>
      obtain ⟨A, f⟩ := f.grow g3
      obtain ⟨l, _, vs, A1, _, rfl, rfl, h0, rl⟩ := hm_lst.mp f.rp
      refine ⟨l, vs, k, j, rfl, rfl, h0, by rw [rl.length]; exact hj, g.nx _ Z3 σ _ kk ?_⟩
      obtain ⟨A', q1, q2, q3⟩ := rl.setZ (r2.mono (g2.zz.trans g3.zz)) j
      obtain ⟨na, nA⟩ := List.nodup_cons.mp f.nd
      refine f.mut g3.zh List.mem_cons_self (.lst upd_same (q1.mono (Ex.refl _) (Ex.refl _) fun b m u hu => ?_)) (List.nodup_cons.mpr ⟨fun m => na (q3 _ m), q2 nA⟩) fun b m => .inl ?_
      · rw [upd_ne fun q => na (by rw [← q]; exact q3 b m)]
        exact hu
      · rcases List.mem_cons.mp m with z | z
        · rw [z]; exact List.mem_cons_self
        · exact List.mem_cons_of_mem _ (q3 b z)
/-- p.f = e, an attribute that is there or not -/
theorem m_setFldP {all : List Str} (h : MQ X ρ a (.ins C ns os) R) (hl : os.length = ns.length) (h1000 : ns.length < 1000) (cc : OC X.K C all) (hm : nm ∈ all) (he : ME X ρ e o)
    (kk : G.nx (R (.ins C (nsPut ns nm) (xsPut ns nm os o))))
    (hs : swapsWith e (some (.Attribute a nm p2)) p3.line X.env = pure false := by rfl) : MS1 X ρ (.Assign [.Attribute a nm p2] e p3) G := .mk fun Z0 F Z σ H D s g => by
  obtain ⟨T, s⟩ := s.a
  refine PS_w (ps_fld pe_w pe_w hs) (he.run Z0 F Z σ H s.r _ fun w Z1 H1 B g1 r2 n2 => h.run Z0 F Z1 σ H1 T (s.grow g1) _ fun v Z2 H2 g2 f => ?_)
  obtain ⟨A, f⟩ := f
  obtain ⟨l, dx, vs, A1, _, rfl, rfl, h0, rl⟩ := hm_ins.mp f.rp
  have hlv : vs.length = ns.length := by rw [rl.length]; exact hl
  refine ⟨l, C, dx, _, rfl, h0, cc.cl, cc.na _ hm, by rw [List.length_zip, hlv]; omega, ?_⟩
  rw [put_zip hlv]
  obtain ⟨na, nA⟩ := List.nodup_cons.mp f.nd
  have nT : ∀ b ∈ B, b ∉ T := fun b m mt => by
    obtain ⟨u, hu⟩ := s.st.there b mt
    rw [(n2.2 b m).1] at hu
    cases hu
  have nB : ∀ b ∈ B, b ∉ l :: A1 := fun b m mb => nT b m (f.ds b mb).1
  have r1' := rl.mono (H' := upd H2 l (.ins C dx ((nsPut ns nm).zip (xsPut ns nm vs w)))) (Ex.refl _) (Ex.refl _) fun b m u hu => by
    rw [upd_ne fun q => na (by rw [← q]; exact m)]
    exact hu
  have r2' := (r2.ex g2.zz g2.hh).frame (H' := upd H2 l (.ins C dx ((nsPut ns nm).zip (xsPut ns nm vs w)))) fun b m => upd_ne fun q => nB b m (by rw [q]; exact List.mem_cons_self)
  obtain ⟨A', q1, q2, q3⟩ := RepOL.put r2' n2.1 hlv r1' nA fun b m mb => nB b mb (List.mem_cons_of_mem _ m)
  refine g.nx _ Z2 σ _ kk (f.mut g2.zh List.mem_cons_self (.ins upd_same q1) (List.nodup_cons.mpr ⟨fun m => ?_, q2⟩) fun b m => ?_)
  · rcases q3 _ m with z | z
    · exact na z
    · exact nB _ z List.mem_cons_self
  · rcases List.mem_cons.mp m with z | z
    · exact .inl (by rw [z]; exact List.mem_cons_self)
    · rcases q3 _ z with z | z
      · exact .inl (List.mem_cons_of_mem _ z)
      · refine .inr ⟨nT b z, ?_, s.gr.hh.free (n2.2 b z).1⟩
        obtain ⟨u, hu⟩ := r2.there b z
        exact (g2.nw b u hu).trans (n2.2 b z).2
end
end M
namespace M
open PySem L2 PySem.Spec PyProof.Rows
/-! ### defs that change one of their arguments -/
def SpJ {α : Type} (K : PySem.W.Frag) (ar1 ar2 : α → List O) (pre : α → Prop) (s0 s1 : α → O) (res : α → O) : Sp := fun vs H Q _ => ∃ (x : α) (Z F : Hp) (l : Addr) (us1 us2 : List V) (A : List Addr), vs = us1 ++ .ref l :: us2 ∧ Ex Z F ∧ Ex F H ∧ A.Nodup ∧ (∀ a ∈ A, F a = none) ∧ RepO K Z F H (.ref l) (s0 x) A ∧ RepOL K Z F F us1 (ar1 x) [] ∧ RepOL K Z F F us2 (ar2 x) [] ∧ pre x ∧
  ∀ v Z' H' B, Gr Z F Z' H' → RepOL K Z' (fun _ => none) H' [.ref l, v] [s1 x, res x] B → B.Nodup → (∀ a ∈ B, F a = none ∧ Z' a = none) → Q v H'
theorem StL.glueR {K : PySem.W.Frag} {Z F H : Hp} {τ : Slots} {υ : L2.St} {B : List Addr} (s : StL K Z F H τ υ B) : ∀ {ρ : Slots} {σ : L2.St} {A : List Addr}, StL K Z F H ρ σ A → StL K Z F H (ρ ++ τ) (σ ++ υ) (A ++ B)
  | _, _, _, .nil => s
  | _, _, _, .no h => .no (StL.glueR s h)
  | _, _, _, .so r h => by
    rw [List.append_assoc]
    exact .so r (StL.glueR s h)
theorem StL.glue {K : PySem.W.Frag} {Z F H : Hp} {ρ τ : Slots} {σ υ : L2.St} {A B : List Addr} (h : StL K Z F H ρ σ A) (s : StL K Z F H τ υ B) : StL K Z F H (ρ ++ τ) (σ ++ υ) (A ++ B) := StL.glueR s h
theorem fn_mJ {α : Type} {P : Program} {w : World} {K : PySem.W.Frag} {mg : Str → Option Value} {base : Heap} {x qual : Str} {st : Stmt} {f : Addr} {fd : FuncData} {N ps : List Str} {n k : Nat} {ar1 ar2 : α → List O} {pre : α → Prop} {s0 s1 : α → O} {res : α → O}
    (F : Fun K x qual st f fd) (S : FnScope N ps (defScope st)) (hl1 : ∀ x, (ar1 x).length = n) (hl : ∀ x, (ar1 x).length + (ar2 x).length + 1 = ps.length) (hn1 : ∀ x, pre x → (s1 x).nv = true) (hn2 : ∀ x, pre x → (res x).nv = true)
    (hb : ∀ (cdv : Value) (A : Around) (outer : List Env) (s : Shared) (H : Hp) (E : XK), Room k (A.deeper (envOfC qual (defScope st) s.heap.objs.size f cdv)) → ∀ (l : Addr) x, pre x →
      MS (cxOf CX0 P w K mg base N qual (defScope st) f cdv A outer s H E).nox ((ar1 x).map some ++ some (.loc l (s0 x)) :: (ar2 x).map some ++ List.replicate (N.length - ps.length) none) (defBody st) { nx := fun ρ => res x = .fz .non ∧ ρ[n]? = some (some (.loc l (s1 x))), rs := fun o ρ => o = res x ∧ ρ[n]? = some (some (.loc l (s1 x))) }) :
    FnOk P w K mg base CX0 (k + 1) f fd ps (SpJ K ar1 ar2 pre s0 s1 res) := by
  refine F.ok S (fun vs H Q E h => ?_) (fun cdv A outer s H vs Q E hr h => ?_)
  · obtain ⟨x, Z, F, l, us1, us2, A, rfl, _, _, _, _, _, r1, r2, _⟩ := h
    rw [List.length_append, List.length_cons, r1.length, r2.length, ← hl x]
    omega
  · obtain ⟨x, Z, F0, l, us1, us2, A0, rfl, ez, ef, nA, fA, rs, r1, r2, hp, q⟩ := h
    have e1 : us1.length = n := by rw [r1.length, hl1]
    have ln : us1.length + us2.length + 1 = ps.length := by rw [r1.length, r2.length, hl]
    have sa : StL K Z F0 H (some (.loc l (s0 x)) :: (ar2 x).map some) (some (.ref l) :: us2.map some) (A0 ++ []) := .so (.loc rs) (stL_args (r2.mono (Ex.refl _) (Ex.refl _) fun _ m => nomatch m))
    have st0 := StL.glue (stL_args (r1.mono (H' := H) (Ex.refl _) (Ex.refl _) fun _ m => nomatch m)) sa
    refine ⟨_, pss_w, (hb cdv A outer s H E hr l x hp).run Z F0 Z _ H _ ⟨⟨Ex.refl _, ef, ez.trans ef, fun _ _ _ => rfl⟩, [] ++ (A0 ++ []), ?_, by rw [List.append_nil]; exact nA, fun a m => ?_⟩ ⟨fun ρ Z' σ H' e s' => ?_, fun _ _ _ _ z => z.elim, fun _ _ _ _ z => z.elim, fun _ _ _ _ _ z => z.elim, fun o ρ v Z' σ H' e s' => ?_, GX.never fun _ z => z⟩⟩
    · have e : L2.start N (us1 ++ .ref l :: us2) = (us1.map some ++ (some (.ref l) :: us2.map some)) ++ List.replicate (N.length - ps.length) none := by
        unfold L2.start
        rw [List.length_append, List.length_cons, ← ln, List.map_append]
        rfl
      rw [e]
      exact stL_more _ st0
    · rw [List.append_nil] at m
      exact ⟨ez.free (fA a m), fA a m⟩
    · obtain ⟨en, e⟩ := e
      obtain ⟨A1, t1, t2, t3⟩ := s'.st
      obtain ⟨v, B, u1, u2, u3, u4, _⟩ := t1.at e t2
      have hn := hn1 x hp
      cases u2 with
      | loc u2 =>
        refine q .non Z' H' (B ++ ([] ++ [])) s'.gr (.cons (u2.unF hn) (.cons (A := []) ?_ .nil)) (by simpa using u3) fun a m => ?_
        · rw [en]
          exact .fz .non
        · have m : a ∈ B := by simpa using m
          exact ⟨(t3 a (u4 a m)).2, (t3 a (u4 a m)).1⟩
    · obtain ⟨en, e⟩ := e
      subst en
      obtain ⟨A1, t1, t2, t3⟩ := s'.st
      obtain ⟨B, Cc, w1, w2, w3, w4⟩ := t1.last t2
      obtain ⟨n1, n2, n3⟩ := List.nodup_append.mp w3
      obtain ⟨v0, B0, u1, u2, u3, u4, _⟩ := w1.at e n1
      have hn := hn1 x hp
      cases u2 with
      | loc u2 =>
        refine q v Z' H' (B0 ++ (Cc ++ [])) s'.gr (.cons (u2.unF hn) (.cons (w2.unF (hn2 x hp)) .nil)) ?_ fun a m => ?_
        · rw [List.append_nil]
          exact List.nodup_append.mpr ⟨u3, n2, fun a ha b hb => n3 a (u4 a ha) b hb⟩
        · rw [List.append_nil] at m
          have m2 : a ∈ B ++ Cc := by
            rcases List.mem_append.mp m with z | z
            · exact List.mem_append_left _ (u4 a z)
            · exact List.mem_append_right _ z
          exact ⟨(t3 a (w4 a m2)).2, (t3 a (w4 a m2)).1⟩
theorem fn_mJD {α : Type} {P : Program} {w : World} {K : PySem.W.Frag} {mg : Str → Option Value} {base : Heap} {x qual : Str} {pr : Arguments} {bo : List Stmt} {sc : Scope} {dvs : List V} {kws : List (Str × V)} {f : Addr} {fd : FuncData} {N ps : List Str} {n k : Nat} {ar1 ar2 : α → List O} {pre : α → Prop} {s0 s1 : α → O} {res : α → O}
    (F : FunD K x qual pr bo sc dvs kws f fd) (S : FnScope N ps sc) (hl1 : ∀ x, (ar1 x).length = n) (hl : ∀ x, (ar1 x).length + (ar2 x).length + 1 = ps.length) (hn1 : ∀ x, pre x → (s1 x).nv = true) (hn2 : ∀ x, pre x → (res x).nv = true)
    (hb : ∀ (cdv : Value) (A : Around) (outer : List Env) (s : Shared) (H : Hp) (E : XK), Room k (A.deeper (envOfC qual sc s.heap.objs.size f cdv)) → ∀ (l : Addr) x, pre x →
      MS (cxOf CX0 P w K mg base N qual sc f cdv A outer s H E).nox ((ar1 x).map some ++ some (.loc l (s0 x)) :: (ar2 x).map some ++ List.replicate (N.length - ps.length) none) bo { nx := fun ρ => res x = .fz .non ∧ ρ[n]? = some (some (.loc l (s1 x))), rs := fun o ρ => o = res x ∧ ρ[n]? = some (some (.loc l (s1 x))) }) :
    FnOk P w K mg base CX0 (k + 1) f fd ps (SpJ K ar1 ar2 pre s0 s1 res) := by
  refine F.ok S (fun vs H Q E h => ?_) (fun cdv A outer s H vs Q E hr h => ?_)
  · obtain ⟨x, Z, F, l, us1, us2, A, rfl, _, _, _, _, _, r1, r2, _⟩ := h
    rw [List.length_append, List.length_cons, r1.length, r2.length, ← hl x]
    omega
  · obtain ⟨x, Z, F0, l, us1, us2, A0, rfl, ez, ef, nA, fA, rs, r1, r2, hp, q⟩ := h
    have e1 : us1.length = n := by rw [r1.length, hl1]
    have ln : us1.length + us2.length + 1 = ps.length := by rw [r1.length, r2.length, hl]
    have sa : StL K Z F0 H (some (.loc l (s0 x)) :: (ar2 x).map some) (some (.ref l) :: us2.map some) (A0 ++ []) := .so (.loc rs) (stL_args (r2.mono (Ex.refl _) (Ex.refl _) fun _ m => nomatch m))
    have st0 := StL.glue (stL_args (r1.mono (H' := H) (Ex.refl _) (Ex.refl _) fun _ m => nomatch m)) sa
    refine ⟨_, PSs.nox pss_w, (hb cdv A outer s H E hr l x hp).run Z F0 Z _ H _ ⟨⟨Ex.refl _, ef, ez.trans ef, fun _ _ _ => rfl⟩, [] ++ (A0 ++ []), ?_, by rw [List.append_nil]; exact nA, fun a m => ?_⟩ ⟨fun ρ Z' σ H' e s' => ?_, fun _ _ _ _ z => z.elim, fun _ _ _ _ z => z.elim, fun _ _ _ _ _ z => z.elim, fun o ρ v Z' σ H' e s' => ?_, GX.never fun _ z => z⟩⟩
    · have e : L2.start N (us1 ++ .ref l :: us2) = (us1.map some ++ (some (.ref l) :: us2.map some)) ++ List.replicate (N.length - ps.length) none := by
        unfold L2.start
        rw [List.length_append, List.length_cons, ← ln, List.map_append]
        rfl
      rw [e]
      exact stL_more _ st0
    · rw [List.append_nil] at m
      exact ⟨ez.free (fA a m), fA a m⟩
    · obtain ⟨en, e⟩ := e
      obtain ⟨A1, t1, t2, t3⟩ := s'.st
      obtain ⟨v, B, u1, u2, u3, u4, _⟩ := t1.at e t2
      have hn := hn1 x hp
      cases u2 with
      | loc u2 =>
        refine q .non Z' H' (B ++ ([] ++ [])) s'.gr (.cons (u2.unF hn) (.cons (A := []) ?_ .nil)) (by simpa using u3) fun a m => ?_
        · rw [en]
          exact .fz .non
        · have m : a ∈ B := by simpa using m
          exact ⟨(t3 a (u4 a m)).2, (t3 a (u4 a m)).1⟩
    · obtain ⟨en, e⟩ := e
      subst en
      obtain ⟨A1, t1, t2, t3⟩ := s'.st
      obtain ⟨B, Cc, w1, w2, w3, w4⟩ := t1.last t2
      obtain ⟨n1, n2, n3⟩ := List.nodup_append.mp w3
      obtain ⟨v0, B0, u1, u2, u3, u4, _⟩ := w1.at e n1
      have hn := hn1 x hp
      cases u2 with
      | loc u2 =>
        refine q v Z' H' (B0 ++ (Cc ++ [])) s'.gr (.cons (u2.unF hn) (.cons (w2.unF (hn2 x hp)) .nil)) ?_ fun a m => ?_
        · rw [List.append_nil]
          exact List.nodup_append.mpr ⟨u3, n2, fun a ha b hb => n3 a (u4 a ha) b hb⟩
        · rw [List.append_nil] at m
          have m2 : a ∈ B ++ Cc := by
            rcases List.mem_append.mp m with z | z
            · exact List.mem_append_left _ (u4 a z)
            · exact List.mem_append_right _ z
          exact ⟨(t3 a (w4 a m2)).2, (t3 a (w4 a m2)).1⟩
section
variable {X : Cx} {ρ ρ' : Slots} {R : O → Slots} {e a b c elt : Expr} {es rest : List Expr} {st : Stmt} {sts : List Stmt} {G : Go} {o o1 o2 : O} {d : D} {ds ds1 ds2 : List D} {os : List O} {pos p0 p1 p2 p3 p4 p5 p6 : Pos} {i j : Nat} {nm : Str} {C : Addr} {ns : List Str}
/-- arguments, one of them a place -/
structure MJ (X : Cx) (ρ : Slots) (es : List Expr) (ds1 ds2 : List D) (o : O) (R : O → Slots) : Prop where
  run : ∀ (Z0 F Z : Hp) (σ : L2.St) (H : Hp) (T : List Addr), StA X.K ρ Z0 F Z σ H T → ∀ Q : List V → Hp → Prop,
    (∀ us1 v us2 Z' H', Gr Z H Z' H' → RepL X.K Z' us1 ds1 → Foc X.K Z0 F Z' σ H' T v o R → RepL X.K Z' us2 ds2 → Q (us1 ++ v :: us2) H') → wA X es σ H Q
theorem mj_here (h : MQ X ρ a o R) (h2 : MF X ρ es ds2) (hs : starEach (a :: es) X.env = (false, eval a X.env) :: starEach es X.env := by rfl) : MJ X ρ (a :: es) [] ds2 o R := .mk fun Z0 F Z σ H T s Q q =>
  PA_w (pa_cons pe_w pa_w hs) (h.run Z0 F Z σ H T s _ fun v Z1 H1 g1 f => h2.run Z0 F Z1 σ H1 (s.grow g1).r _ fun us Z2 H2 g2 r2 => q [] v us Z2 H2 (g1.trans g2) .nil (f.grow g2) r2)
theorem mj_cons (h : ME X ρ a (.fz d)) (h2 : MJ X ρ es ds1 ds2 o R) (hs : starEach (a :: es) X.env = (false, eval a X.env) :: starEach es X.env := by rfl) : MJ X ρ (a :: es) (d :: ds1) ds2 o R := .mk fun Z0 F Z σ H T s Q q =>
  PA_w (pa_cons pe_w pa_w hs) (h.run Z0 F Z σ H s.r _ fun w Z1 H1 A1 g1 r1 n1 => by
    cases r1 with
    | fz r1 => exact h2.run Z0 F Z1 σ H1 T (s.grow g1) _ fun us1 v us2 Z2 H2 g2 r2 f r3 => q (w :: us1) v us2 Z2 H2 (g1.trans g2) (.cons (r1.mono g2.zz) r2) f r3)
/-- things that lie in the heap -/
def O.isRef : O → Bool
  | .lst _ => true
  | .ins _ _ _ => true
  | .dct _ _ => true
  | .dctT _ _ => true
  | .loc _ _ => true
  | _ => false
theorem RepO.isRef {K : PySem.W.Frag} {Z F H : Hp} {v : V} {A : List Addr} (r : RepO K Z F H v o A) (h : o.isRef = true) : ∃ l, v = .ref l := by
  cases r with
  | fz _ => cases h
  | lst _ _ => exact ⟨_, rfl⟩
  | ins _ _ => exact ⟨_, rfl⟩
  | dct _ _ => exact ⟨_, rfl⟩
  | dctT _ _ => exact ⟨_, rfl⟩
  | loc _ => exact ⟨_, rfl⟩
  | vw _ _ => cases h
  | vwa _ _ => cases h
  | tup _ _ => cases h
  | «at» _ _ => cases h
  | pt => cases h
  | lk _ => cases h
/-- what a promise of that kind gives at a place -/
theorem spJ_at {α : Type} {K : PySem.W.Frag} {ar1 ar2 : α → List O} {pre : α → Prop} {s0 s1 : α → O} {res : α → O} {Z0 F Z H : Hp} {σ : L2.St} {T : List Addr} {E : XK} {Q : VK} {us1 us2 : List V} {v : V} (x : α) (zh : Ex Z H) (f : Foc K Z0 F Z σ H T v (s0 x) R) (hr : (s0 x).isRef = true)
    (r1 : RepL K Z us1 ds1) (r2 : RepL K Z us2 ds2) (h1 : ar1 x = ds1.map .fz) (h2 : ar2 x = ds2.map .fz) (hp : pre x) (q : ∀ w Z2 H2, StR K (R (s1 x) ++ [some (res x)]) Z0 F Z2 (σ ++ [some w]) H2 → Q w H2) : SpJ K ar1 ar2 pre s0 s1 res ((us1 ++ v :: us2) ++ []) H Q E := by
  obtain ⟨A, f⟩ := f
  obtain ⟨l, rfl⟩ := f.rp.isRef hr
  refine ⟨x, Z, wo H A, l, us1, us2, A, by rw [List.append_nil], ex_to_wo zh fun a m => (f.ds a m).2.1, ex_wo, f.nd, fun a m => wo_in m, f.rp.mono (Ex.refl _) (ex_to_wo f.fh fun a m => (f.ds a m).2.2) fun a _ u e => e, by rw [h1]; exact r1.own, by rw [h2]; exact r2.own, hp, fun w Z2 H2 B g2 rb nB dB => ?_⟩
  have there : ∀ a, Kept F T A a → ∃ u, H a = some u := fun a ka => ka.2.elim (f.th a) fun ⟨u, e⟩ => ⟨u, f.fh a u e⟩
  refine q w Z2 H2 (f.k g2.zz (fun a ka => ?_) g2.zh (fun a ka u e => g2.hh a u (by rw [wo_out ka.1]; exact e)) (rb.mono (Ex.refl _) (fun _ _ z => by cases z) fun _ _ _ z => z) nB fun a m => ⟨?_, (dB a m).2⟩)
  · obtain ⟨u, e⟩ := there a ka
    exact g2.nw a u (by rw [wo_out ka.1]; exact e)
  · rcases wo_none (dB a m).1 with z | z
    · exact .inl z
    · refine .inr ⟨fun mt => ?_, f.fh.free z⟩
      obtain ⟨u, e⟩ := f.th a mt
      rw [z] at e
      cases e
/-- f(.., p, ..), the def changing what is at p -/
theorem mx_fnJ {α : Type} {ar1 ar2 : α → List O} {pre : α → Prop} {s0 s1 : α → O} {res : α → O} {k : Nat} {ps : List Str} (c : Fn1 X.prog X.w X.K X.mg X.base nm k ps (SpJ X.K ar1 ar2 pre s0 s1 res)) (x : α) (ha : MJ X ρ (e :: es) ds1 ds2 (s0 x) R) (h1 : ar1 x = ds1.map .fz) (h2 : ar2 x = ds2.map .fz) (hp : pre x) (hr : Room k X.A) (href : (s0 x).isRef = true := by rfl) (hg : Gl X nm := by rfl)
    (hdb : (nm == ("__debug__" : Str)) = false := by decide) (he : starEach (e :: es) X.env = (false, eval e X.env) :: starEach es X.env := by rfl) (hpl : (backTo pos (starEach es X.env)).any (·.1) = false := by rfl) {o' : O} {τ : Slots} (hres : res x = o' := by first | (dsimp only; done) | (dsimp only; rfl) | rfl) (hr1 : R (s1 x) = τ := by rfl) : MX X ρ (.Call (.Name nm p0) (e :: es) [] pos) o' τ := by
  subst hres hr1
  obtain ⟨f, fd, hm, hk, hb, F⟩ := c.ex
  refine .mk fun Z0 F0 Z σ H s Q q => ?_
  obtain ⟨T, s⟩ := s.a
  exact PE_w (pe_call F hr hg hm hk hb .nil pass0 pa_w hdb he hpl) (ha.run Z0 F0 Z σ H T s _ fun us1 v us2 Z1 H1 g1 r1 f r2 => spJ_at x g1.zh f href r1 r2 h1 h2 hp q)
/-- p.m(e, ..), the method changing what is at p -/
theorem mx_mtJ {α : Type} {ar1 ar2 : α → List O} {pre : α → Prop} {s0 s1 : α → O} {res : α → O} {k : Nat} {ps all : List Str} {pl : Sem Bool} (c : Mt1 X.prog X.w X.K X.mg X.base C nm k ps (SpJ X.K ar1 ar2 pre s0 s1 res)) (cc : OC X.K C all) (x : α) (ho : MQ X ρ a (.ins C ns os) R) (hs0 : s0 x = .ins C ns os) (ha : MF X ρ (e :: es) ds) (h1 : ar1 x = []) (h2 : ar2 x = ds.map .fz) (hp : pre x) (hr : Room k X.A)
    (hnm : nmAt ns nm = none := by decide +kernel) (he : starEach (e :: es) X.env = (false, eval e X.env) :: starEach es X.env := by rfl) (hpl : (backTo pos (starEach es X.env)).any (·.1) = false := by rfl)
    (ht : eval (.Call (.Attribute a nm p1) (e :: es) [] pos) X.env = (do
      let ov ← eval a X.env
      standAt p1.atName
      let (f, first) ← holding [ov] (getMethod ov nm pl)
      callWith pos f first (backTo pos (starEach (e :: es) X.env)) (backToKw pos (keywordEach [] X.env))) := by rfl) {o' : O} {τ : Slots} (hres : res x = o' := by first | (dsimp only; done) | (dsimp only; rfl) | rfl) (hr1 : R (s1 x) = τ := by rfl) : MX X ρ (.Call (.Attribute a nm p1) (e :: es) [] pos) o' τ := by
  subst hres hr1
  obtain ⟨f, fd, hm, hb, F⟩ := c.ex
  refine .mk fun Z0 F0 Z σ H s Q q => ?_
  obtain ⟨T, s⟩ := s.a
  refine PE_w (pe_meth (pl := pl) pe_w cc.cl hm F hr hb .nil pass0 pa_w he hpl ht) (ho.run Z0 F0 Z σ H T s _ fun v Z1 H1 g1 f => ?_)
  have f0 := f
  obtain ⟨A, f⟩ := f
  obtain ⟨l, dx, vs, A1, _, rfl, rfl, h0, rl⟩ := hm_ins.mp f.rp
  refine ⟨l, dx, _, rfl, h0, look_none hnm, ha.run Z0 F0 Z1 σ H1 (s.grow g1).r _ fun us Z2 H2 g2 r2 => ?_⟩
  exact spJ_at (us1 := []) (ds1 := []) x g2.zh (by rw [hs0]; exact f0.grow g2) (by rw [hs0]; rfl) .nil r2 h1 h2 hp q
/-- p.m() -/
theorem mx_mtJ0 {α : Type} {ar1 ar2 : α → List O} {pre : α → Prop} {s0 s1 : α → O} {res : α → O} {k : Nat} {ps all : List Str} {pl : Sem Bool} (c : Mt1 X.prog X.w X.K X.mg X.base C nm k ps (SpJ X.K ar1 ar2 pre s0 s1 res)) (cc : OC X.K C all) (x : α) (ho : MQ X ρ a (.ins C ns os) R) (hs0 : s0 x = .ins C ns os) (h1 : ar1 x = []) (h2 : ar2 x = []) (hp : pre x) (hr : Room k X.A)
    (hnm : nmAt ns nm = none := by decide +kernel)
    (ht : eval (.Call (.Attribute a nm p1) [] [] pos) X.env = (do
      let ov ← eval a X.env
      standAt p1.atName
      let (f, first) ← holding [ov] (getMethod ov nm pl)
      callWith pos f first (backTo pos (starEach [] X.env)) (backToKw pos (keywordEach [] X.env))) := by rfl) {o' : O} {τ : Slots} (hres : res x = o' := by first | (dsimp only; done) | (dsimp only; rfl) | rfl) (hr1 : R (s1 x) = τ := by rfl) : MX X ρ (.Call (.Attribute a nm p1) [] [] pos) o' τ := by
  subst hres hr1
  obtain ⟨f, fd, hm, hb, F⟩ := c.ex
  refine .mk fun Z0 F0 Z σ H s Q q => ?_
  obtain ⟨T, s⟩ := s.a
  refine PE_w (pe_meth0 (pl := pl) pe_w cc.cl hm F hr hb .nil pass0 ht) (ho.run Z0 F0 Z σ H T s _ fun v Z1 H1 g1 f => ?_)
  have f0 := f
  obtain ⟨A, f⟩ := f
  obtain ⟨l, dx, vs, A1, _, rfl, rfl, h0, rl⟩ := hm_ins.mp f.rp
  refine ⟨l, dx, _, rfl, h0, look_none hnm, ?_⟩
  exact spJ_at (E := E0) (us1 := []) (us2 := []) (ds1 := []) (ds2 := []) x g1.zh (by rw [hs0]; exact f0) (by rw [hs0]; rfl) .nil .nil h1 h2 hp q
end
end M
namespace M
open PySem L2 PySem.Spec PyProof.Rows
/-! ### while -/
section
variable {V W R : Type}
def wlN (c : V → Option Bool) (b : V → Option (Ou V V R)) : Nat → V → Option (Ou V V R)
  | 0, _ => none
  | n + 1, v => bd (c v) fun k => cond k (bd (b v) fun o => match o with
    | .nx v' => wlN c b n v'
    | .ct v' => wlN c b n v'
    | .bk v' => some (.nx v')
    | .rt r => some (.rt r)) (some (.nx v))
open Classical in
noncomputable def wl (c : V → Option Bool) (b : V → Option (Ou V V R)) (v : V) : Option (Ou V V R) := if h : ∃ n o, wlN c b n v = some o then some h.choose_spec.choose else none
theorem wl_some {c : V → Option Bool} {b : V → Option (Ou V V R)} {v : V} {o : Ou V V R} (h : wl c b v = some o) : ∃ n, wlN c b n v = some o := by
  unfold wl at h
  split at h
  · rename_i q
    have e := q.choose_spec.choose_spec
    rw [Option.some.inj h] at e
    exact ⟨_, e⟩
  · cases h
theorem wlN_more {c : V → Option Bool} {b : V → Option (Ou V V R)} : ∀ {n m : Nat} {v : V} {o : Ou V V R}, wlN c b n v = some o → n ≤ m → wlN c b m v = some o
  | 0, _, _, _, h, _ => by cases h
  | n + 1, 0, _, _, _, l => by omega
  | n + 1, m + 1, v, o, h, l => by
    obtain ⟨k, e1, h⟩ := bd_some h
    show bd (c v) _ = _
    rw [bd_of e1]
    cases k with
    | false => exact h
    | true =>
      obtain ⟨o1, e2, h⟩ := bd_some (show bd (b v) _ = some o from h)
      show bd (b v) _ = _
      rw [bd_of e2]
      cases o1 with
      | nx v' => exact wlN_more h (by omega)
      | ct v' => exact wlN_more h (by omega)
      | bk v' => exact h
      | rt r => exact h
theorem wl_of {c : V → Option Bool} {b : V → Option (Ou V V R)} {n : Nat} {v : V} {o : Ou V V R} (h : wlN c b n v = some o) : wl c b v = some o := by
  have ex : ∃ n o, wlN c b n v = some o := ⟨n, o, h⟩
  unfold wl
  rw [dif_pos ex]
  have e := ex.choose_spec.choose_spec
  have e1 := wlN_more e (Nat.le_max_left _ n)
  have e2 := wlN_more h (Nat.le_max_right ex.choose n)
  rw [e1] at e2
  exact e2
/-- a loop that ends: an invariant with a measure -/
theorem ok_wl {c : V → Option Bool} {b : V → Option (Ou V V R)} {Q : Ou V V R → Prop} (I : Nat → V → Prop) {m : Nat} {v : V} (h0 : I m v)
    (h : ∀ m v, I m v → Ok (c v) fun k => if k = true then Ok (b v) fun o => match o with
      | .nx v' => ∃ m', m' < m ∧ I m' v'
      | .ct v' => ∃ m', m' < m ∧ I m' v'
      | .bk v' => Q (.nx v')
      | .rt r => Q (.rt r) else Q (.nx v)) : Ok (wl c b v) Q := by
  suffices H : ∀ m v, I m v → ∃ o, wlN c b (m + 1) v = some o ∧ Q o by
    obtain ⟨o, e, q⟩ := H m v h0
    exact ⟨o, wl_of e, q⟩
  intro m
  induction m using Nat.strongRecOn with
  | _ m ih =>
    intro v hv
    obtain ⟨k, e1, q1⟩ := h m v hv
    have st : ∀ o, wlN c b (m + 1) v = some o ↔ bd (c v) (fun k => cond k (bd (b v) fun o => match o with
      | .nx v' => wlN c b m v'
      | .ct v' => wlN c b m v'
      | .bk v' => some (.nx v')
      | .rt r => some (.rt r)) (some (.nx v))) = some o := fun o => Iff.rfl
    cases k with
    | false =>
      rw [if_neg Bool.false_ne_true] at q1
      exact ⟨_, (st _).mpr (by rw [bd_of e1]; rfl), q1⟩
    | true =>
      rw [if_pos rfl] at q1
      obtain ⟨o, e2, q2⟩ := q1
      have go : ∀ v', (∃ m', m' < m ∧ I m' v') → ∃ o, wlN c b m v' = some o ∧ Q o := fun v' ⟨m', l, i⟩ => by
        obtain ⟨o, e, q⟩ := ih m' l v' i
        exact ⟨o, wlN_more e (by omega), q⟩
      have fin : ∀ o2, (match o with
        | .nx v' => wlN c b m v'
        | .ct v' => wlN c b m v'
        | .bk v' => some (.nx v')
        | .rt r => some (.rt r)) = some o2 → wlN c b (m + 1) v = some o2 := fun o2 e => (st _).mpr (by rw [bd_of e1]; show bd (b v) _ = _; rw [bd_of e2]; exact e)
      cases o with
      | nx v' => obtain ⟨o2, e3, q3⟩ := go v' q2; exact ⟨o2, fin _ e3, q3⟩
      | ct v' => obtain ⟨o2, e3, q3⟩ := go v' q2; exact ⟨o2, fin _ e3, q3⟩
      | bk v' => exact ⟨_, fin _ rfl, q2⟩
      | rt r => exact ⟨_, fin _ rfl, q2⟩
variable {X : Cx} {ρ ρ' : Slots} {e a c elt : Expr} {st : Stmt} {sts : List Stmt} {G : Go} {pos p0 : Pos}
theorem m_whileO {body : List Stmt} (p : PS X st (tWhile (wT X c) (wS X body))) {cm : V → Option Bool} {bm : V → Option (Ou V V R)} {v0 : V} {out : Ou V V R} (hx : wl cm bm v0 = some out) (Rn : V → Slots) (er : R → O) (h0 : Le ρ (Rn v0))
    (hc : ∀ v k, cm v = some k → MT X (Rn v) c k) (hs : ∀ v o, bm v = some o → MS X (Rn v) body (goO Rn Rn er o))
    (hd : ∀ v τ, out = .nx v → Le τ (Rn v) → G.nx τ) (hr : ∀ r, out = .rt r → G.rt (er r)) : MS1 X ρ st G := .mk fun Z0 F Z σ H D s g => by
  obtain ⟨n, hn⟩ := wl_some hx
  refine PS_w p ⟨fun m σ' H' => ∃ v Z', wlN cm bm m v = some out ∧ StR X.K (Rn v) Z0 F Z' σ' H', ⟨n, v0, Z, hn, s.le h0⟩, ?_⟩
  rintro m σ1 H1 ⟨v, Z1, hv, s1⟩
  cases m with
  | zero => cases hv
  | succ m =>
    obtain ⟨k, e1, hv⟩ := bd_some hv
    refine (hc v k e1).run Z0 F Z1 σ1 H1 s1 _ fun Z2 H2 g2 => ?_
    cases k with
    | false =>
      rw [if_neg Bool.false_ne_true]
      cases hv
      exact g.nx _ Z2 σ1 H2 (hd v _ rfl (Le.refl _)) (s1.grow g2)
    | true =>
      rw [if_pos rfl]
      obtain ⟨o, e2, hv⟩ := bd_some (show bd (bm v) _ = some out from hv)
      refine ⟨fun σ' H' => ∃ v' Z', wlN cm bm m v' = some out ∧ StR X.K (Rn v') Z0 F Z' σ' H', fun σ' H' q => ⟨m, Nat.lt_succ_self m, q⟩, ?_⟩
      refine (hs v o e2).run Z0 F Z2 σ1 H2 _ (s1.grow g2) ⟨fun τ Z3 σ3 H3 q s3 => ?_, fun τ Z3 σ3 H3 q s3 => ?_, fun τ Z3 σ3 H3 q s3 => ?_, fun o' w Z3 H3 A q g3 r n => ?_, fun _ _ _ _ _ _ z => z.elim, g.ex.imp fun o' q => by
        obtain ⟨r', rfl, rfl⟩ := q
        cases hv
        exact hr r' rfl⟩
      · obtain ⟨v', rfl, l⟩ := q
        exact ⟨v', Z3, hv, s3.le l⟩
      · obtain ⟨v', rfl, l⟩ := q
        cases hv
        exact g.nx _ Z3 σ3 H3 (hd v' _ rfl l) s3
      · obtain ⟨v', rfl, l⟩ := q
        exact ⟨v', Z3, hv, s3.le l⟩
      · obtain ⟨r', rfl, rfl⟩ := q
        cases hv
        exact g.rt _ w Z3 H3 A (hr r' rfl) g3 r n
/-! ### tests that change slots -/
theorem m_ifX {A B : List Stmt} {k : Bool} (h : MX X ρ c (.fz (.bl k)) ρ') (h1 : k = true → MS X ρ' A G) (h2 : k = false → MS X ρ' B G) (he : ∀ whole, isTrue c X.env whole = (do let v ← whole; standAt c.pos; holding [v] (truthy v)) := by intro _; rfl) : MS1 X ρ (.If c A B pos) G := .mk fun Z0 F Z σ H D s g =>
  PS_w (ps_if (pt_val pe_w he) pss_w pss_w) (h.run Z0 F Z σ H s _ fun v Z1 H1 s1 => by
    obtain ⟨T, t1, t2, t3⟩ := s1.st
    obtain ⟨B1, C1, q1, q2, q3, q4⟩ := t1.last t2
    cases q2 with
    | fz q2 =>
      cases q2
      refine ⟨k, rfl, ?_⟩
      cases k with
      | true => exact (h1 rfl).run Z0 F Z1 σ H1 D s1.pop g
      | false => exact (h2 rfl).run Z0 F Z1 σ H1 D s1.pop g)
theorem m_ifNX {A B : List Stmt} {k : Bool} (h : MX X ρ c (.fz (.bl k)) ρ') (h1 : k = false → MS X ρ' A G) (h2 : k = true → MS X ρ' B G) (he : ∀ whole, isTrue c X.env whole = (do let v ← whole; standAt c.pos; holding [v] (truthy v)) := by intro _; rfl) : MS1 X ρ (.If (.UnaryOp .Not c p0) A B pos) G := .mk fun Z0 F Z σ H D s g =>
  PS_w (ps_if (pt_not (pt_val pe_w he)) pss_w pss_w) (h.run Z0 F Z σ H s _ fun v Z1 H1 s1 => by
    obtain ⟨T, t1, t2, t3⟩ := s1.st
    obtain ⟨B1, C1, q1, q2, q3, q4⟩ := t1.last t2
    cases q2 with
    | fz q2 =>
      cases q2
      refine ⟨k, rfl, ?_⟩
      cases k with
      | false => exact (h1 rfl).run Z0 F Z1 σ H1 D s1.pop g
      | true => exact (h2 rfl).run Z0 F Z1 σ H1 D s1.pop g)
end
end M
namespace M
open PySem L2 PySem.Spec PyProof.Rows
/-! ### the same within a def that changes slot n -/
def goS {V W R : Type} (n : Nat) (ei : R → O) (Rn : V → Slots) (Rw : W → Slots) (er : R → O) (o : Ou V W R) : Go :=
  { nx := fun τ => ∃ v, o = .nx v ∧ Le τ (Rn v), bk := fun τ => ∃ w, o = .bk w ∧ Le τ (Rw w), ct := fun τ => ∃ w, o = .ct w ∧ Le τ (Rw w), rs := fun q τ => ∃ r, o = .rt r ∧ q = er r ∧ τ[n]? = some (some (ei r)) }
section
variable {X : Cx} {ρ ρ' : Slots} {R' : O → Slots} {e a b c elt : Expr} {es : List Expr} {st : Stmt} {sts : List Stmt} {G : Go} {o o1 o2 : O} {d : D} {ds : List D} {os : List O} {pos p0 p1 p2 p3 p4 : Pos} {i n : Nat} {x nm : Str} {α β V W R : Type}
theorem m_forSx {xs : List α} {enc : α → D} {wi : TI} {g : TG} {body : List Stmt} (p : PS X st (tFor wi g (wS X body))) (h : MI X ρ wi (xs.map enc)) {f : α → V → Option (Ou V V R)} {v0 : V} {out : Ou V V R} (hx : lpO f xs v0 = some out) (ei : R → O) (Rn : V → Slots) (er : R → O) (h0 : Le ρ (Rn v0))
    (hs : ∀ (x : α) (v : V) (o : Ou V V R), x ∈ xs → f x v = some o → ∃ τ' ws, MTg g X.K (Rn v) (enc x) τ' ws ∧ MS X τ' body (goS n ei Rn Rn er o))
    (hd : ∀ v τ, out = .nx v → Le τ (Rn v) → G.nx τ) (hr : ∀ r τ, out = .rt r → τ[n]? = some (some (ei r)) → G.rs (er r) τ) : MS1 X ρ st G := by
  refine m_forTS (xs := xs) (enc := enc) p h (fun v : V => Rn v) (fun j v => lpO f (xs.drop j) v = some out) ⟨v0, hx, h0⟩ (fun j y v hj hv => ?_) fun τ v hv l => ?_
  · obtain ⟨hi, ey⟩ := List.getElem?_eq_some_iff.mp hj
    rw [← List.getElem_cons_drop (h := hi), ey] at hv
    obtain ⟨o, e1, e2⟩ := bd_some hv
    obtain ⟨τ', ws, t1, t2⟩ := hs y v o (List.mem_of_getElem? hj) e1
    refine ⟨τ', ws, t1, ms_imp t2 (fun τ l => ?_) (fun q l => l.elim) (fun τ l => ?_) (fun τ l => ?_) fun q τ l => ?_⟩
    · obtain ⟨v', rfl, l⟩ := l
      exact ⟨v', e2, l⟩
    · obtain ⟨v', rfl, l⟩ := l
      cases e2
      exact hd v' τ rfl l
    · obtain ⟨v', rfl, l⟩ := l
      exact ⟨v', e2, l⟩
    · obtain ⟨r, rfl, rfl, l⟩ := l
      cases e2
      exact hr r τ rfl l
  · rw [List.drop_length] at hv
    cases hv
    exact hd v τ rfl l
theorem m_ifSx {c : Expr} {a b : List Stmt} {t : Bool} {p : Pos} {out : Ou V W R} (ei : R → O) (Rn : V → Slots) (Rw : W → Slots) (er : R → O) (hc : MT X ρ c t) (h1 : t = true → MS X ρ a (goS n ei Rn Rw er out)) (h2 : t = false → MS X ρ b (goS n ei Rn Rw er out))
    (kn : ∀ v τ, out = .nx v → Le τ (Rn v) → G.nx τ) (kb : ∀ w τ, out = .bk w → Le τ (Rw w) → G.bk τ) (kc : ∀ w τ, out = .ct w → Le τ (Rw w) → G.ct τ) (kr : ∀ r τ, out = .rt r → τ[n]? = some (some (ei r)) → G.rs (er r) τ) : MS1 X ρ (.If c a b p) G := by
  have im : ∀ {s : List Stmt}, MS X ρ s (goS n ei Rn Rw er out) → MS X ρ s G := fun h => ms_imp h (fun τ ⟨v, e, l⟩ => kn v τ e l) (fun q z => z.elim) (fun τ ⟨v, e, l⟩ => kb v τ e l) (fun τ ⟨v, e, l⟩ => kc v τ e l) fun q τ ⟨r, e, l, h⟩ => by rw [l]; exact kr r τ e h
  exact m_if hc (fun h => im (h1 h)) fun h => im (h2 h)
theorem m_whileSx {body : List Stmt} (p : PS X st (tWhile (wT X c) (wS X body))) {cm : V → Option Bool} {bm : V → Option (Ou V V R)} {v0 : V} {out : Ou V V R} (hx : wl cm bm v0 = some out) (ei : R → O) (Rn : V → Slots) (er : R → O) (h0 : Le ρ (Rn v0))
    (hc : ∀ v k, cm v = some k → MT X (Rn v) c k) (hs : ∀ v o, bm v = some o → MS X (Rn v) body (goS n ei Rn Rn er o))
    (hd : ∀ v τ, out = .nx v → Le τ (Rn v) → G.nx τ) (hr : ∀ r τ, out = .rt r → τ[n]? = some (some (ei r)) → G.rs (er r) τ) : MS1 X ρ st G := .mk fun Z0 F Z σ H D s g => by
  obtain ⟨m, hm⟩ := wl_some hx
  refine PS_w p ⟨fun m σ' H' => ∃ v Z', wlN cm bm m v = some out ∧ StR X.K (Rn v) Z0 F Z' σ' H', ⟨m, v0, Z, hm, s.le h0⟩, ?_⟩
  rintro m σ1 H1 ⟨v, Z1, hv, s1⟩
  cases m with
  | zero => cases hv
  | succ m =>
    obtain ⟨k, e1, hv⟩ := bd_some hv
    refine (hc v k e1).run Z0 F Z1 σ1 H1 s1 _ fun Z2 H2 g2 => ?_
    cases k with
    | false =>
      rw [if_neg Bool.false_ne_true]
      cases hv
      exact g.nx _ Z2 σ1 H2 (hd v _ rfl (Le.refl _)) (s1.grow g2)
    | true =>
      rw [if_pos rfl]
      obtain ⟨o, e2, hv⟩ := bd_some (show bd (bm v) _ = some out from hv)
      refine ⟨fun σ' H' => ∃ v' Z', wlN cm bm m v' = some out ∧ StR X.K (Rn v') Z0 F Z' σ' H', fun σ' H' q => ⟨m, Nat.lt_succ_self m, q⟩, ?_⟩
      refine (hs v o e2).run Z0 F Z2 σ1 H2 _ (s1.grow g2) ⟨fun τ Z3 σ3 H3 q s3 => ?_, fun τ Z3 σ3 H3 q s3 => ?_, fun τ Z3 σ3 H3 q s3 => ?_, fun _ _ _ _ _ z => z.elim, fun o' τ w Z3 σ3 H3 q s3 => ?_, g.ex.imp fun _ z => z.elim⟩
      · obtain ⟨v', rfl, l⟩ := q
        exact ⟨v', Z3, hv, s3.le l⟩
      · obtain ⟨v', rfl, l⟩ := q
        cases hv
        exact g.nx _ Z3 σ3 H3 (hd v' _ rfl l) s3
      · obtain ⟨v', rfl, l⟩ := q
        exact ⟨v', Z3, hv, s3.le l⟩
      · obtain ⟨r', rfl, rfl, l⟩ := q
        cases hv
        exact g.rs _ τ w Z3 σ3 H3 (hr r' τ rfl l) s3
/-! ### typed lists at places -/
theorem m_appendPT {xs : List α} {enc : α → D} {y : α} (h : MP X ρ a (.lst ((xs.map enc).map .fz)) ρ' R') (he : ME X ρ' e (.fz (enc y))) (hl : xs.length < sizeLine) (k : G.nx (R' (.lst (((xs ++ [y]).map enc).map .fz))))
    (q : ∀ t, PE X (.Call (.Attribute a "append" p2) [e] [] p3) t → PS X (.Expr (.Call (.Attribute a "append" p2) [e] [] p3) p4) (tDrop t) := by exact fun _ h => ps_expr h)
    (pm : PE X (.Call (.Attribute a "append" p2) [e] [] p3) (tBM X.K "list" rAppend (wE X a) (tCons (wE X e) tNil)) := by exact pe_bm PySem.F.plainAttrs_list PySem.F.slot_list_append PySem.F.type_list_append mt_append pe_w (pa_cons pe_w pa_nil)) : MS1 X ρ (.Expr (.Call (.Attribute a "append" p2) [e] [] p3) p4) G :=
  m_appendP h he (by rw [List.length_map, List.length_map]; exact hl) (by rw [List.map_append, List.map_append] at k; exact k) q pm
theorem m_extendPT {xs ys : List α} {enc : α → D} (h : MP X ρ a (.lst ((xs.map enc).map .fz)) ρ' R') (he : MV X ρ' e (.lst ((ys.map enc).map .fz))) (hl : xs.length + ys.length ≤ sizeLine) (k : G.nx (R' (.lst (((xs ++ ys).map enc).map .fz))))
    (q : ∀ t, PE X (.Call (.Attribute a "extend" p2) [e] [] p3) t → PS X (.Expr (.Call (.Attribute a "extend" p2) [e] [] p3) p4) (tDrop t) := by exact fun _ h => ps_expr h)
    (pm : PE X (.Call (.Attribute a "extend" p2) [e] [] p3) (tBM X.K "list" rExtend (wE X a) (tCons (wE X e) tNil)) := by exact pe_bm PySem.F.plainAttrs_list PySem.F.slot_list_extend PySem.F.type_list_extend mt_extend pe_w (pa_cons pe_w pa_nil)) : MS1 X ρ (.Expr (.Call (.Attribute a "extend" p2) [e] [] p3) p4) G :=
  m_extendP h he (by rw [List.length_map, List.length_map, List.length_map]; exact hl) (by rw [List.map_append, List.map_append] at k; exact k) q pm
theorem m_insertPT {xs : List α} {enc : α → D} {y : α} {j : Int} (h : MP X ρ a (.lst ((xs.map enc).map .fz)) ρ' R') (hb : ME X ρ' b (.fz (.int j))) (he : ME X ρ' e (.fz (enc y))) (hl : xs.length < sizeLine ∧ 0 ≤ j ∧ j < 2 ^ 63) (k : G.nx (R' (.lst (((xs.take j.toNat ++ [y] ++ xs.drop j.toNat).map enc).map .fz))))
    (q : ∀ t, PE X (.Call (.Attribute a "insert" p2) [b, e] [] p3) t → PS X (.Expr (.Call (.Attribute a "insert" p2) [b, e] [] p3) p4) (tDrop t) := by exact fun _ h => ps_expr h)
    (pm : PE X (.Call (.Attribute a "insert" p2) [b, e] [] p3) (tBM X.K "list" rInsert (wE X a) (tCons (wE X b) (tCons (wE X e) tNil))) := by exact pe_bm PySem.F.plainAttrs_list PySem.F.slot_list_insert PySem.F.type_list_insert mt_insert pe_w (pa_cons pe_w (pa_cons pe_w pa_nil))) : MS1 X ρ (.Expr (.Call (.Attribute a "insert" p2) [b, e] [] p3) p4) G :=
  m_insertP h hb he (by rw [List.length_map, List.length_map]; exact hl.1) hl.2 (by
    rw [List.map_append, List.map_append, List.map_append, List.map_append, List.map_take, List.map_take, List.map_drop, List.map_drop] at k
    exact k) q pm
theorem m_setItemPT {xs : List α} {enc : α → D} {y : α} {k : Int} {j : Nat} (hj : ixN xs.length k = some j) (h : MQ X ρ a (.lst ((xs.map enc).map .fz)) R') (hb : ME X ρ b (.fz (.int k))) (hc : ME X ρ c (.fz (enc y))) (kk : G.nx (R' (.lst (((xs.set j y).map enc).map .fz))))
    (pm : PS X (.Assign [.Subscript a b p2] c p3) (tAsg (wE X c) (gSub (wE X a) (wE X b) rSetL)) := by exact ps_asg pe_w (pg_sub pe_w pe_w set_list)) : MS1 X ρ (.Assign [.Subscript a b p2] c p3) G :=
  m_setItemP h hb hc (by rw [List.length_map, List.length_map]; exact hj) (by rw [List.map_set, List.map_set] at kk; exact kk) pm
theorem m_retNS (p : PS X st tRetN) (k : G.rs (.fz .non) ρ) : MS1 X ρ st G := .mk fun Z0 F Z σ H D s g => PS_w p (g.rs _ ρ .non Z σ H k (s.push (Gr.refl s.ex) (.fz .non) .nil))
theorem Le.get : ∀ {ρ τ : Slots} {n : Nat} {o : O}, Le ρ τ → τ[n]? = some (some o) → ρ[n]? = some (some o)
  | _, _, _, _, .nil, h => h
  | _, _, 0, _, .no _, h => by simp at h
  | _, _, 0, _, .eq _, h => h
  | _, _, n + 1, _, .no l, h => by
    simp only [List.getElem?_cons_succ] at h ⊢
    exact Le.get l h
  | _, _, n + 1, _, .eq l, h => by
    simp only [List.getElem?_cons_succ] at h ⊢
    exact Le.get l h
theorem m_setVw {i : Nat} {ds : List D} (p : PS X st (tAsg (wE X e) (gName i))) (h : MV X ρ e (.vw ds)) (k : G.nx (ρ.set i (some (.vw ds)))) (hi : i < ρ.length := by exact Nat.le_of_ble_eq_true rfl) : MS1 X ρ st G := .mk fun Z0 F Z σ H D s g =>
  PS_w p (h.run Z0 F Z σ H s _ fun v Z' H' A gg r => by
    cases r with
    | vw l rl => exact g.nx _ Z' _ H' k (s.put gg (.vw l rl) .nil hi))
/-- a call that changes slots, handed back by a def that itself changes none -/
theorem m_retXP (p : PS X st (tRet (wE X e))) (h : MX X ρ e o ρ') (hn : o.nv = true) (k : G.rt o) : MS1 X ρ st G := .mk fun Z0 F Z σ H D s g =>
  PS_w p (h.run Z0 F Z σ H s _ fun v Z' H' s' => by
    obtain ⟨A, h1, h2, h3⟩ := s'.st
    obtain ⟨B, C, q1, q2, q3, q4⟩ := h1.last h2
    exact g.rt o v Z' H' C k s'.gr q2 ⟨(List.nodup_append.mp q3).2.1, fun a m => ⟨(h3 a (q4 a (List.mem_append_right _ m))).2, (h3 a (q4 a (List.mem_append_right _ m))).1⟩⟩)
end
/-- the promise of a def that changes one of its arguments, by its mirror -/
def SpJF {A I R : Type} (K : PySem.W.Frag) (ar1 ar2 : A → List O) (f : A → Option (I × R)) (s0 : A → O) (s1 : I → O) (er : R → O) : Sp := SpJ K (fun x : A × (I × R) => ar1 x.1) (fun x => ar2 x.1) (fun x => f x.1 = some x.2) (fun x => s0 x.1) (fun x => s1 x.2.1) (fun x => er x.2.2)
end M
namespace M
open PySem L2 PySem.Spec PyProof.Rows
/-! ### defs that may refuse -/
/-- what a def tells: a result or an error -/
inductive Xr (E R : Type) where
  | ok (r : R) | er (e : E)
def exO {E R : Type} (te : E → Er) (er : R → O) : Xr E R → O
  | .ok r => er r
  | .er e => .rs (te e)
def ThrE (K : PySem.W.Frag) (E : XK) (e : Er) (Z H : Hp) : Prop := Thrown K (fun c d _ H => E c d H) e Z [] H
theorem thrown_of {K : PySem.W.Frag} {E : XK} {e : Er} {Z H : Hp} {σ : L2.St} (h : ThrE K E e Z H) : Thrown K (fun c d _ H => E c d H) e Z σ H := by
  unfold ThrE Thrown at h
  unfold Thrown
  cases hf : e.fld with
  | none => rw [hf] at h; exact h
  | some p => rw [hf] at h; exact h
def EW (W : WX) : XK := fun c d H => ∀ σ, W c d σ H
theorem thrE_of {K : PySem.W.Frag} {W : WX} {e : Er} {Z H : Hp} (h : ∀ σ, Thrown K W e Z σ H) : ThrE K (EW W) e Z H := by
  unfold Thrown at h
  unfold ThrE Thrown
  cases hf : e.fld with
  | none => intro σ; have := h σ; rw [hf] at this; exact this
  | some p => intro a v na r σ; have := h σ; rw [hf] at this; exact this a v na r
theorem stL_blank {K : PySem.W.Frag} {Z F H : Hp} : ∀ σ : L2.St, StL K Z F H (List.replicate σ.length none) σ []
  | [] => .nil
  | _ :: σ => .no (stL_blank σ)
theorem StR.blank {K : PySem.W.Frag} {Z0 F Z' H' : Hp} (g : Gr Z0 F Z' H') (σ : L2.St) : StR K (List.replicate σ.length none) Z0 F Z' σ H' := ⟨g, [], stL_blank σ, List.nodup_nil, fun _ m => nomatch m⟩
theorem pass_ew {X : Cx} {W : WX} (tk : Takes X W) : Passes (L2.CX X.prog X.w) X (EW W) := passes_call tk fun _ _ σ _ h => h σ
/-- a def that is known to refuse nothing -/
theorem _root_.L2.FnOk.known {P : Program} {w : World} {K : PySem.W.Frag} {mg : Str → Option Value} {base : Heap} {k : Nat} {f : Addr} {fd : FuncData} {ps : List Str} {sp sp' : Sp} (F : FnOk P w K mg base (L2.CX P w) k f fd ps sp)
    (h : ∀ vs H Q E, sp' vs H Q E → sp vs H Q (fun _ _ _ => False)) : FnOk P w K mg base CX0 k f fd ps sp' :=
  ⟨fun vs H Q E q => F.len vs H Q _ (h _ _ _ _ q), fun A outer s H args us vs Q E hr he hb hv hs => codeAny_mono (F.run A outer s H args us vs Q _ hr he hb hv (h _ _ _ _ hs)) fun r s' q => by
    cases r with
    | ok r => cases r <;> exact q
    | error e =>
      obtain ⟨_, _, _, _, _, _, _, _, _, _, _, _, z⟩ := q
      exact z.elim⟩
def SpE {α : Type} (K : PySem.W.Frag) (ar : α → List O) (pre : α → Prop) (res : α → O) : Sp := fun vs H Q E => ∃ (x : α) (Z : Hp), Ex Z H ∧ RepOL K Z H H vs (ar x) [] ∧ pre x ∧
  (∀ v Z' H' A, Gr Z H Z' H' → RepO K Z' (fun _ => none) H' v (res x) A → New H Z' A → Q v H') ∧ ∀ e Z' H', res x = .rs e → Gr Z H Z' H' → ThrE K E e Z' H'
/-- its body keeps its promise -/
theorem fn_mE {α : Type} {P : Program} {w : World} {K : PySem.W.Frag} {mg : Str → Option Value} {base : Heap} {x qual : Str} {st : Stmt} {f : Addr} {fd : FuncData} {N ps : List Str} {k : Nat} {ar : α → List O} {pre : α → Prop} {res : α → O}
    (F : Fun K x qual st f fd) (S : FnScope N ps (defScope st)) (hl : ∀ x, (ar x).length = ps.length) (hn : ∀ x, pre x → (res x).nv = true ∨ ∃ e, res x = .rs e)
    (hb : ∀ (cdv : Value) (A : Around) (outer : List Env) (s : Shared) (H : Hp) (E : XK), Room k (A.deeper (envOfC qual (defScope st) s.heap.objs.size f cdv)) →
      PassesOwn (model P w) (A.deeper (envOfC qual (defScope st) s.heap.objs.size f cdv)) (cxOf (L2.CX P w) P w K mg base N qual (defScope st) f cdv A outer s H E).env (cxOf (L2.CX P w) P w K mg base N qual (defScope st) f cdv A outer s H E).xe → ∀ x, pre x →
      MS (cxOf (L2.CX P w) P w K mg base N qual (defScope st) f cdv A outer s H E) ((ar x).map some ++ List.replicate (N.length - ps.length) none) (defBody st) { nx := fun _ => res x = .fz .non, rt := fun o => o = res x }) :
    FnOk P w K mg base (L2.CX P w) (k + 1) f fd ps (SpE K ar pre res) := by
  refine F.okX S (fun vs H Q E h => ?_) (fun cdv A outer s H vs Q E hr h => ?_)
  · obtain ⟨x, Z, _, r, _⟩ := h
    rw [r.length, hl]
  · obtain ⟨x, Z, ez, r, hp, q, qx⟩ := h
    refine ⟨_, pss_w, (hb cdv A outer s H E hr (passes_of rfl) x hp).run Z H Z _ H _ ⟨Gr.refl ez, [], ?_, List.nodup_nil, fun _ m => nomatch m⟩ ⟨fun ρ Z' σ H' e s' => ?_, fun _ _ _ _ z => z.elim, fun _ _ _ _ z => z.elim, fun o v Z' H' A e g r n => ?_, fun _ _ _ _ _ _ z => z.elim, ⟨_, takes_of rfl rfl rfl rfl, fun e ρ Z' σ H' k s' => thrown_of (qx e Z' H' k.symm s'.gr)⟩⟩⟩
    · have e : L2.start N vs = vs.map some ++ List.replicate (N.length - ps.length) none := by
        unfold L2.start
        rw [r.length, hl]
      rw [e]
      exact stL_more _ (stL_args r)
    · refine q _ Z' H' [] s'.gr ?_ .nil
      rw [e]
      exact .fz .non
    · subst e
      rcases hn x hp with hn | ⟨e, hn⟩
      · exact q _ Z' H' A g (r.unF hn) n
      · rw [hn] at r
        cases r
structure Fn1E (P : Program) (w : World) (K : PySem.W.Frag) (mg : Str → Option Value) (base : Heap) (name : Str) (k : Nat) (ps : List Str) (sp : Sp) : Prop where
  ex : ∃ (f : Addr) (fd : FuncData), mg name = some (.ref f) ∧ PySem.W.keepIn K (.ref f) = true ∧ Binds K fd ps [] ∧ FnOk P w K mg base (L2.CX P w) k f fd ps sp
theorem Fn1E.ok {P : Program} {w : World} {K : PySem.W.Frag} {mg : Str → Option Value} {base : Heap} {name : Str} {k : Nat} {ps : List Str} {α : Type} {ar : α → List O} {pre : α → Prop} {res : α → O} (c : Fn1E P w K mg base name k ps (SpE K ar pre res)) : Fn1 P w K mg base name k ps (SpM K ar (fun x => pre x ∧ ∀ e, res x ≠ .rs e) res) := by
  obtain ⟨f, fd, hm, hk, hb, F⟩ := c.ex
  exact ⟨f, fd, hm, hk, hb, F.known fun vs H Q E ⟨x, Z, ez, r, ⟨hp, hn⟩, q⟩ => ⟨x, Z, ez, r, hp, q, fun e _ _ z => absurd z (hn e)⟩⟩
/-- an expression that raises -/
structure MRz (X : Cx) (ρ : Slots) (e : Expr) (er : Er) : Prop where
  run : ∀ (Z0 F Z : Hp) (σ : L2.St) (H : Hp), StR X.K ρ Z0 F Z σ H → ∀ (W : WX), Takes X W → (∀ σ' Z' H', Gr Z0 F Z' H' → Thrown X.K W er Z' σ' H') → ∀ Q : VK, wE X e σ H Q
section
variable {X : Cx} {ρ : Slots} {e a b elt : Expr} {es : List Expr} {st : Stmt} {sts : List Stmt} {G : Go} {o o1 o2 : O} {d : D} {ds : List D} {pos p0 p1 p2 p3 : Pos} {i : Nat} {x nm f : Str} {er : Er}
/-- a call that raises -/
theorem mz_fn {α : Type} {ar : α → List O} {pre : α → Prop} {res : α → O} {k : Nat} {ps : List Str} (c : Fn1E X.prog X.w X.K X.mg X.base nm k ps (SpE X.K ar pre res)) (x : α) (ha : MA X ρ (e :: es) (ar x)) (hp : pre x) (hr : Room k X.A) (hres : res x = .rs er := by first | (dsimp only; done) | (dsimp only; rfl) | rfl) (hg : Gl X nm := by rfl)
    (hdb : (nm == ("__debug__" : Str)) = false := by decide) (he : starEach (e :: es) X.env = (false, eval e X.env) :: starEach es X.env := by rfl) (hpl : (backTo pos (starEach es X.env)).any (·.1) = false := by rfl) : MRz X ρ (.Call (.Name nm p0) (e :: es) [] pos) er := by
  obtain ⟨f, fd, hm, hk, hb, F⟩ := c.ex
  exact .mk fun Z0 F0 Z σ H s W tk qx Q => PE_w (pe_call F hr hg hm hk hb .nil (pass_ew tk) pa_w hdb he hpl) (ha.run Z0 F0 Z σ H s _ fun vs Z1 H1 g1 r1 =>
    ⟨x, Z1, g1.zh, by rw [List.append_nil]; exact r1, hp, (fun v Z2 H2 A g2 r2 n2 => by
      rw [hres] at r2
      cases r2), (fun e Z2 H2 z g2 => by
      rw [hres] at z
      cases z
      exact thrE_of fun σ' => qx σ' Z2 H2 (s.gr.trans (g1.trans g2)))⟩)
theorem gx_thrown {Z0 F : Hp} {r : O → Prop} (g : GX X Z0 F r) (k : r (.rs er)) : ∃ W : WX, Takes X W ∧ ∀ σ' Z' H', Gr Z0 F Z' H' → Thrown X.K W er Z' σ' H' := by
  obtain ⟨W, tk, kk⟩ := g
  exact ⟨W, tk, fun σ' Z' H' g => kk er _ Z' σ' H' k (StR.blank g σ')⟩
/-! statements that raise -/
theorem m_rzAsg {g : TG} (p : PS X st (tAsg (wE X e) g)) (h : MRz X ρ e er) (k : G.rt (.rs er)) : MS1 X ρ st G := .mk fun Z0 F Z σ H D s gd => by
  obtain ⟨W, tk, kk⟩ := gx_thrown gd.ex k
  exact PS_w p (h.run Z0 F Z σ H s W tk kk _)
theorem m_rzDrop (p : PS X st (tDrop (wE X e))) (h : MRz X ρ e er) (k : G.rt (.rs er)) : MS1 X ρ st G := .mk fun Z0 F Z σ H D s gd => by
  obtain ⟨W, tk, kk⟩ := gx_thrown gd.ex k
  exact PS_w p (h.run Z0 F Z σ H s W tk kk _)
theorem m_rzRet (p : PS X st (tRet (wE X e))) (h : MRz X ρ e er) (k : G.rt (.rs er)) : MS1 X ρ st G := .mk fun Z0 F Z σ H D s gd => by
  obtain ⟨W, tk, kk⟩ := gx_thrown gd.ex k
  exact PS_w p (h.run Z0 F Z σ H s W tk kk _)
theorem m_rzFld (pn : PE X (.Name x p1) (tVar i)) (h : MRz X ρ e er) (k : G.rt (.rs er)) (hs : swapsWith e (some (.Attribute (.Name x p1) f p2)) p3.line X.env = pure false := by rfl) : MS1 X ρ (.Assign [.Attribute (.Name x p1) f p2] e p3) G := .mk fun Z0 F Z σ H D s gd => by
  obtain ⟨W, tk, kk⟩ := gx_thrown gd.ex k
  exact PS_w (ps_fld pn pe_w hs) (h.run Z0 F Z σ H s W tk kk _)
/-- raise C('m') -/
theorem m_raise {C : Addr} (pm : PMk X e (fun _ H Q => Q (.ref C) none H)) (k : G.rt (.rs ⟨C, none⟩)) (hc : X.calm = true := by rfl) : MS1 X ρ (.Raise (some e) none pos) G := .mk fun Z0 F Z σ H D s gd => by
  obtain ⟨W, tk, kk⟩ := gd.ex
  exact PS_w (ps_raise hc tk pm) (kk ⟨C, none⟩ ρ Z σ H k s)
end
/-- a class of errors without an __init__ of its own -/
structure XcC (K : PySem.W.Frag) (mg : Str → Option Value) (nm : Str) (C : Addr) : Prop where
  q : PySem.W.excIn K C [.type "ValueError", .type "Exception", .type "BaseException", .type "object"] "ValueError.__new__" = true
  g : mg nm = some (.ref C)
  k : PySem.W.keepIn K (.ref C) = true
  b : PySem.W.subIn K (.ref C) (.type "BaseException") = some true
  t : PySem.W.typeIn K (.ref C) = some (.type "type")
theorem pm_own {X : Cx} {nm m : Str} {C : Addr} {j : Nat} {p p2 pos : Pos} (c : XcC X.K X.mg nm C) (hg : Gl X nm := by rfl) (hdb : (nm == ("__debug__" : Str)) = false := by decide) : PMk X (.Call (.Name nm p) [.Constant (.str m) j p2] [] pos) (fun _ H Q => Q (.ref C) none H) :=
  pmk_own PySem.F.excBase_ValueError c.q c.g c.k (raises_own c.b c.t) hg hdb
/-! ### makers that may refuse -/
def SpXE {α : Type} (K : PySem.W.Frag) (ar : α → List O) (pre : α → Prop) (s0 s1 : Addr → α → O) (res : α → O) : Sp := fun vs H Q E => ∃ (x : α) (Z F : Hp) (l : Addr) (vs' : List V) (A : List Addr), vs = .ref l :: vs' ∧ Ex Z F ∧ Ex F H ∧ A.Nodup ∧ (∀ a ∈ A, F a = none) ∧ RepO K Z F H (.ref l) (s0 l x) A ∧ RepOL K Z F F vs' (ar x) [] ∧ pre x ∧
  (∀ v Z' H' B, Gr Z F Z' H' → RepOL K Z' (fun _ => none) H' [.ref l, v] [s1 l x, res x] B → B.Nodup → (∀ a ∈ B, F a = none ∧ Z' a = none) → Q v H') ∧ ∀ e Z' H', res x = .rs e → Gr Z F Z' H' → ThrE K E e Z' H'
theorem fn_mXE {α : Type} {P : Program} {w : World} {K : PySem.W.Frag} {mg : Str → Option Value} {base : Heap} {x qual : Str} {st : Stmt} {f : Addr} {fd : FuncData} {N ps : List Str} {k : Nat} {ar : α → List O} {pre : α → Prop} {s0 s1 : Addr → α → O} {res : α → O}
    (F : Fun K x qual st f fd) (S : FnScope N ps (defScope st)) (hl : ∀ x, (ar x).length + 1 = ps.length) (hn1 : ∀ l x, pre x → (s1 l x).nv = true) (hn2 : ∀ x, pre x → (res x).nv = true ∨ ∃ e, res x = .rs e) (hat : ∀ l x, ∃ C ns os, s1 l x = .at l C ns os)
    (hb : ∀ (cdv : Value) (A : Around) (outer : List Env) (s : Shared) (H : Hp) (E : XK), Room k (A.deeper (envOfC qual (defScope st) s.heap.objs.size f cdv)) →
      PassesOwn (model P w) (A.deeper (envOfC qual (defScope st) s.heap.objs.size f cdv)) (cxOf (L2.CX P w) P w K mg base N qual (defScope st) f cdv A outer s H E).env (cxOf (L2.CX P w) P w K mg base N qual (defScope st) f cdv A outer s H E).xe → ∀ (l : Addr) x, pre x →
      MS (cxOf (L2.CX P w) P w K mg base N qual (defScope st) f cdv A outer s H E) (some (s0 l x) :: (ar x).map some ++ List.replicate (N.length - ps.length) none) (defBody st) { nx := fun ρ => res x = .fz .non ∧ ρ[0]? = some (some (s1 l x)), rs := fun o ρ => o = res x ∧ ρ[0]? = some (some (s1 l x)), rt := fun o => o = res x ∧ ∃ e, o = .rs e }) :
    FnOk P w K mg base (L2.CX P w) (k + 1) f fd ps (SpXE K ar pre s0 s1 res) := by
  refine F.okX S (fun vs H Q E h => ?_) (fun cdv A outer s H vs Q E hr h => ?_)
  · obtain ⟨x, Z, F, l, vs', A, rfl, _, _, _, _, _, r, _⟩ := h
    rw [List.length_cons, r.length, hl]
  · obtain ⟨x, Z, F0, l, vs', A0, rfl, ez, ef, nA, fA, rs, r, hp, q, qx⟩ := h
    obtain ⟨C, ns, os, hs1⟩ := hat l x
    have st0 : StL K Z F0 H (some (s0 l x) :: (ar x).map some) (some (.ref l) :: vs'.map some) (A0 ++ []) := .so rs (stL_args (r.mono (Ex.refl _) (Ex.refl _) fun _ m => nomatch m))
    refine ⟨_, pss_w, (hb cdv A outer s H E hr (passes_of rfl) l x hp).run Z F0 Z _ H _ ⟨⟨Ex.refl _, ef, ez.trans ef, fun _ _ _ => rfl⟩, A0 ++ [], ?_, by rw [List.append_nil]; exact nA, fun a m => ?_⟩ ⟨fun ρ Z' σ H' e s' => ?_, fun _ _ _ _ z => z.elim, fun _ _ _ _ z => z.elim, fun o v Z' H' A k g r n => ?_, fun o ρ v Z' σ H' e s' => ?_, ⟨_, takes_of rfl rfl rfl rfl, fun e ρ Z' σ H' k s' => thrown_of (qx e Z' H' k.1.symm s'.gr)⟩⟩⟩
    · have e : L2.start N (.ref l :: vs') = (some (.ref l) :: vs'.map some) ++ List.replicate (N.length - ps.length) none := by
        unfold L2.start
        rw [List.length_cons, r.length, hl]
        rfl
      rw [e]
      exact stL_more _ st0
    · rw [List.append_nil] at m
      exact ⟨ez.free (fA a m), fA a m⟩
    · obtain ⟨en, e⟩ := e
      obtain ⟨A1, t1, t2, t3⟩ := s'.st
      obtain ⟨v, B, u1, u2, u3, u4, _⟩ := t1.at e t2
      have hn := hn1 l x hp
      rw [hs1] at u2 hn
      cases u2 with
      | @«at» _ _ dx _ vs1 _ B1 h0 rl =>
        refine q .non Z' H' ((l :: B1) ++ ([] ++ [])) s'.gr (.cons ?_ (.cons (A := []) ?_ .nil)) (by simpa using u3) fun a m => ?_
        · rw [hs1]
          exact (RepO.at h0 rl).unF hn
        · rw [en]
          exact .fz .non
        · have m : a ∈ l :: B1 := by simpa using m
          exact ⟨(t3 a (u4 a m)).2, (t3 a (u4 a m)).1⟩
    · obtain ⟨_, e, rfl⟩ := k
      cases r
    · obtain ⟨en, e⟩ := e
      subst en
      obtain ⟨A1, t1, t2, t3⟩ := s'.st
      obtain ⟨B, Cc, w1, w2, w3, w4⟩ := t1.last t2
      obtain ⟨n1, n2, n3⟩ := List.nodup_append.mp w3
      obtain ⟨v0, B0, u1, u2, u3, u4, _⟩ := w1.at e n1
      have hn := hn1 l x hp
      rw [hs1] at u2 hn
      cases u2 with
      | @«at» _ _ dx _ vs1 _ B1 h0 rl =>
        rcases hn2 x hp with hn2 | ⟨ee, hn2⟩
        · refine q v Z' H' ((l :: B1) ++ (Cc ++ [])) s'.gr (.cons ?_ (.cons (w2.unF hn2) .nil)) ?_ fun a m => ?_
          · rw [hs1]
            exact (RepO.at h0 rl).unF hn
          · rw [List.append_nil]
            exact List.nodup_append.mpr ⟨u3, n2, fun a ha b hb => n3 a (u4 a ha) b hb⟩
          · rw [List.append_nil] at m
            have m2 : a ∈ B ++ Cc := by
              rcases List.mem_append.mp m with z | z
              · exact List.mem_append_left _ (u4 a z)
              · exact List.mem_append_right _ z
            exact ⟨(t3 a (w4 a m2)).2, (t3 a (w4 a m2)).1⟩
        · rw [hn2] at w2
          cases w2
/-- of a new instance -/
def SpIE {α : Type} (K : PySem.W.Frag) (C : Addr) (ns : List Str) (ar : α → List O) (pre : α → Prop) (res : α → List O) (er : α → Option Er) : Sp := fun vs H Q E => ∃ (x : α) (Z F : Hp) (l dx : Addr) (vs' : List V), vs = .ref l :: vs' ∧ Ex Z F ∧ Ex F H ∧ F l = none ∧ H l = some (.ins C dx []) ∧ RepOL K Z F F vs' (ar x) [] ∧ pre x ∧
  (er x = none → ∀ Z' H' A, Gr Z F Z' H' → RepO K Z' (fun _ => none) H' (.ref l) (.at l C ns (res x)) A → New F Z' A → Q .non H') ∧ ∀ e Z' H', er x = some e → Gr Z F Z' H' → ThrE K E e Z' H'
theorem SpXE.init {α : Type} {P : Program} {w : World} {K : PySem.W.Frag} {mg : Str → Option Value} {base : Heap} {CX : CXT} {k : Nat} {f : Addr} {fd : FuncData} {ps : List Str} {ar : α → List O} {pre : α → Prop} {s0 s1 : Addr → α → O} {res : α → O} {β : Type} {arb : β → List O} {preb : β → Prop} {resb : β → List O} {erb : β → Option Er} {C : Addr} {ns : List Str} (g : β → α)
    (h : FnOk P w K mg base CX k f fd ps (SpXE K ar pre s0 s1 res)) (har : ∀ y, ar (g y) = arb y) (hp : ∀ y, preb y → pre (g y)) (h0 : ∀ l y, s0 l (g y) = .at l C [] []) (h1 : ∀ l y, erb y = none → s1 l (g y) = .at l C ns (resb y)) (h2 : ∀ y, (erb y = none ∧ res (g y) = .fz .non) ∨ ∃ e, erb y = some e ∧ res (g y) = .rs e) :
    FnOk P w K mg base CX k f fd ps (SpIE K C ns arb preb resb erb) := h.imp fun vs H Q E hh => by
  obtain ⟨y, Z, F, l, dx, vs', rfl, ez, ef, nl, hi, r, hpr, q, qx⟩ := hh
  have fl : ∀ a ∈ [l], F a = none := fun a m => by
    have e : a = l := by simpa using m
    rw [e]
    exact nl
  refine ⟨g y, Z, F, l, vs', [l], rfl, ez, ef, by simp, fl, ?_, by rw [har]; exact r, hp y hpr, fun v Z' H' B gg rr nB dB => ?_, fun e Z' H' z gg => ?_⟩
  · rw [h0]
    exact .at (dx := dx) hi .nil
  · rcases h2 y with ⟨en, er⟩ | ⟨e, en, er⟩
    · rw [er, h1 l y en] at rr
      cases rr with
      | @cons _ _ _ _ A1 B1 ra rb =>
        cases rb with
        | @cons _ _ _ _ A2 B2 rb rc =>
          cases rb with
          | fz rb =>
            cases rb
            cases rc
            rw [List.append_nil, List.append_nil] at nB dB
            exact q en Z' H' A1 gg ra ⟨nB, dB⟩
    · rw [er] at rr
      cases rr with
      | cons ra rb =>
        cases rb with
        | cons rb rc => cases rb
  · rcases h2 y with ⟨en, er⟩ | ⟨e', en, er⟩
    · rw [er] at z
      cases z
    · rw [er] at z
      cases z
      exact qx e Z' H' en gg
structure Mk1E (P : Program) (w : World) (K : PySem.W.Frag) (mg : Str → Option Value) (base : Heap) (name : Str) (C : Addr) (k : Nat) (ps : List Str) (sp : Sp) : Prop where
  ex : ∃ (f : Addr) (fd : FuncData), mg name = some (.ref C) ∧ Mk K C f ∧ Binds K fd ps [] ∧ FnOk P w K mg base (L2.CX P w) k f fd ps sp
structure Cf1E (P : Program) (w : World) (K : PySem.W.Frag) (mg : Str → Option Value) (base : Heap) (nmC m : Str) (k : Nat) (ps : List Str) (sp : Sp) : Prop where
  ex : ∃ (C : Addr) (mc : Value) (f : Addr) (fd : FuncData), mg nmC = some (.ref C) ∧ ClX.CRead K C mc ∧ ClX.CVal K C mc m (.ref f) (.ref f) ∧ PySem.W.keepIn K (.ref f) = true ∧ Binds K fd ps [] ∧ FnOk P w K mg base (L2.CX P w) k f fd ps sp
section
variable {P : Program} {w : World} {K : PySem.W.Frag} {mg : Str → Option Value} {base : Heap} {name m : Str} {k : Nat} {ps : List Str} {α : Type} {C : Addr} {ns : List Str} {ar : α → List O} {pre : α → Prop}
theorem Mk1E.ok {res : α → List O} {er : α → Option Er} (c : Mk1E P w K mg base name C k ps (SpIE K C ns ar pre res er)) : Mk1 P w K mg base name C k ps (SpI K C ns ar (fun x => pre x ∧ er x = none) res) := by
  obtain ⟨f, fd, hm, hk, hb, F⟩ := c.ex
  exact ⟨f, fd, hm, hk, hb, F.known fun vs H Q E ⟨x, Z, F, l, dx, vs', e, ez, ef, nl, hi, r, ⟨hp, hn⟩, q⟩ => ⟨x, Z, F, l, dx, vs', e, ez, ef, nl, hi, r, hp, fun _ => q, fun e _ _ z => by rw [hn] at z; cases z⟩⟩
theorem Cf1E.ok {s0 s1 : Addr → α → O} {res : α → O} (c : Cf1E P w K mg base name m k ps (SpXE K ar pre s0 s1 res)) : Cf1 P w K mg base name m k ps (SpX K ar (fun x => pre x ∧ ∀ e, res x ≠ .rs e) s0 s1 res) := by
  obtain ⟨C, mc, f, fd, hm, h1, h2, hk, hb, F⟩ := c.ex
  exact ⟨C, mc, f, fd, hm, h1, h2, hk, hb, F.known fun vs H Q E ⟨x, Z, F, l, vs', A, e, ez, ef, nA, fA, rs, r, ⟨hp, hn⟩, q⟩ => ⟨x, Z, F, l, vs', A, e, ez, ef, nA, fA, rs, r, hp, q, fun e _ _ z => absurd z (hn e)⟩⟩
end
section
variable {X : Cx} {ρ : Slots} {e : Expr} {es : List Expr} {pos p0 p1 p2 : Pos} {i : Nat} {xx nm : Str} {C : Addr} {ns all : List Str} {os : List O} {ds : List D} {er : Er}
/-- C(..) that raises -/
theorem mz_make {α : Type} {ar : α → List O} {pre : α → Prop} {res : α → List O} {err : α → Option Er} {k : Nat} {ps : List Str} (c : Mk1E X.prog X.w X.K X.mg X.base nm C k ps (SpIE X.K C ns ar pre res err)) (x : α) (ha : MA X ρ (e :: es) (ar x)) (hp : pre x) (hr : Room (k + 1) X.A) (hres : err x = some er := by first | (dsimp only; done) | (dsimp only; rfl) | rfl) (hg : Gl X nm := by rfl)
    (hdb : (nm == ("__debug__" : Str)) = false := by decide) (he : starEach (e :: es) X.env = (false, eval e X.env) :: starEach es X.env := by rfl) (hpl : (backTo pos (starEach es X.env)).any (·.1) = false := by rfl) : MRz X ρ (.Call (.Name nm p0) (e :: es) [] pos) er := by
  obtain ⟨f, fd, hm, M, hb, F⟩ := c.ex
  exact .mk fun Z0 F0 Z σ H s W tk qx Q => PE_w (pe_make M F hr hg hm hb .nil (pass_ew tk) pa_w hdb he hpl) (ha.run Z0 F0 Z σ H s _ fun vs Z1 H1 g1 r1 l dx nl ndx ne =>
    ⟨x, Z1, H1, l, dx, vs, by rw [List.append_nil], g1.zh, (Ex.new ndx).trans (Ex.new (by rw [upd_ne ne.symm]; exact nl)), nl, upd_same, r1, hp, (fun z => by
      rw [hres] at z
      cases z), (fun e Z2 H2 z g2 => by
      rw [hres] at z
      cases z
      exact thrE_of fun σ' => qx σ' Z2 H2 (s.gr.trans (g1.trans g2)))⟩)
/-- N.m(x, e, ..) that raises, x a slot with an own instance at a known place -/
theorem mz_cfn {α : Type} {ar : α → List O} {pre : α → Prop} {s0 s1 : Addr → α → O} {res : α → O} {k : Nat} {ps : List Str} {l : Addr} {nmC : Str} {pl : Sem Bool} (c : Cf1E X.prog X.w X.K X.mg X.base nmC nm k ps (SpXE X.K ar pre s0 s1 res)) (x : α) (pn : PE X (.Name xx p2) (tVar i)) (hi : ρ[i]? = some (some (.at l C ns os))) (ha : MF X ρ es ds) (h0 : s0 l x = .at l C ns os) (hx : ar x = ds.map .fz) (hp : pre x) (hr : Room k X.A) (hres : res x = .rs er)
    (hg : Gl X nmC := by rfl) (hdb : (nmC == ("__debug__" : Str)) = false := by decide) (hst : starEach (.Name xx p2 :: es) X.env = (false, eval (.Name xx p2) X.env) :: starEach es X.env := by rfl) (hpl : (backTo pos (starEach es X.env)).any (·.1) = false := by rfl)
    (ht : eval (.Call (.Attribute (.Name nmC p0) nm p1) (.Name xx p2 :: es) [] pos) X.env = (do
      let ov ← eval (.Name nmC p0) X.env
      standAt p1.atName
      let (f, first) ← holding [ov] (getMethod ov nm pl)
      callWith pos f first (backTo pos (starEach (.Name xx p2 :: es) X.env)) (backToKw pos (keywordEach [] X.env))) := by rfl) : MRz X ρ (.Call (.Attribute (.Name nmC p0) nm p1) (.Name xx p2 :: es) [] pos) er := by
  obtain ⟨Cc, mc, f, fd, hmC, r, kv, hk, hb, F⟩ := c.ex
  refine .mk fun Z0 F0 Z σ H s W tk qx Q => PE_w (pe_cfn (pl := pl) hg hmC r kv hk F hr hb .nil (pass_ew tk) (pa_cons pn pa_w hst) hdb hst hpl ht) ?_
  obtain ⟨v, A, e1, r1, nA, dA, k1⟩ := s.updX hi
  have th := r1.there
  cases r1 with
  | @«at» l _ dx _ vs0 _ A h0' rl =>
    refine ⟨_, e1, ha.run Z0 F0 Z σ H s _ fun vs Z1 H1 g1 ra => ?_⟩
    have z1 : ∀ a ∈ (l :: A), Z1 a = none := fun a m => by
      obtain ⟨u, e⟩ := th a m
      rw [g1.nw a u e]
      exact (dA a m).1
    have fw : Ex F0 (wo H1 (l :: A)) := ex_to_wo (s.gr.hh.trans g1.hh) fun a m => (dA a m).2
    refine ⟨x, Z1, wo H1 (l :: A), l, vs, l :: A, by rw [List.append_nil], ex_to_wo g1.zh z1, ex_wo, nA, fun a m => wo_in m, by rw [h0]; exact (RepO.at h0' rl).mono g1.zz fw fun a _ u e => g1.hh a u e, by rw [hx]; exact ra.own, hp, (fun w Z2 H2 B g2 rb nB dB => by
      rw [hres] at rb
      cases rb with
      | cons rb rc =>
        cases rc with
        | cons rc rd => cases rc), (fun e Z2 H2 z g2 => by
      rw [hres] at z
      cases z
      refine thrE_of fun σ' => qx σ' Z2 H2 ⟨s.gr.zz.trans (g1.zz.trans g2.zz), fw.trans g2.hh, g2.zh, fun a u e => ?_⟩
      rw [g2.nw a u (fw a u e), g1.nw a u (s.gr.hh a u e), s.gr.nw a u e])⟩
end
/-! ### mirrors that may refuse -/
def SpFE {A E R : Type} (K : PySem.W.Frag) (ar : A → List O) (f : A → Option (Xr E R)) (te : E → Er) (er : R → O) : Sp := SpE K (fun x : A × Xr E R => ar x.1) (fun x => f x.1 = some x.2) (fun x => exO te er x.2)
def okx {E R : Type} : Option (Xr E R) → Option R
  | some (.ok r) => some r
  | _ => none
theorem okx_is {E R : Type} {m : Option (Xr E R)} {r : R} (h : okx m = some r) : m = some (.ok r) := by
  cases m with
  | none => cases h
  | some m =>
    cases m with
    | ok x => cases h; rfl
    | er x => cases h
theorem okx_of {E R : Type} {m : Option (Xr E R)} {r : R} (h : m = some (.ok r)) : okx m = some r := by rw [h]; rfl
def bdx {E R S : Type} : Option (Xr E R) → (R → Option (Xr E S)) → Option (Xr E S)
  | some (.ok r), k => k r
  | some (.er e), _ => some (.er e)
  | none, _ => none
theorem bdx_some {E R S : Type} {m : Option (Xr E R)} {k : R → Option (Xr E S)} {y : Xr E S} (h : bdx m k = some y) : (∃ e, m = some (.er e) ∧ (some (.er e) : Option (Xr E S)) = some y) ∨ ∃ v, m = some (.ok v) ∧ k v = some y := by
  cases m with
  | none => cases h
  | some m =>
    cases m with
    | ok x => exact .inr ⟨x, rfl, h⟩
    | er x => exact .inl ⟨x, rfl, h⟩
def bdo {E R S V W : Type} : Option (Xr E R) → (R → Option (Ou V W (Xr E S))) → Option (Ou V W (Xr E S))
  | some (.ok r), k => k r
  | some (.er e), _ => some (.rt (.er e))
  | none, _ => none
theorem bdo_some {E R S V W : Type} {m : Option (Xr E R)} {k : R → Option (Ou V W (Xr E S))} {y : Ou V W (Xr E S)} (h : bdo m k = some y) : (∃ e, m = some (.er e) ∧ (some (.rt (.er e)) : Option (Ou V W (Xr E S))) = some y) ∨ ∃ v, m = some (.ok v) ∧ k v = some y := by
  cases m with
  | none => cases h
  | some m =>
    cases m with
    | ok x => exact .inr ⟨x, rfl, h⟩
    | er x => exact .inl ⟨x, rfl, h⟩
theorem exO_nv {E R : Type} {te : E → Er} {er : R → O} (h : ∀ r, (er r).nv = true) : ∀ y : Xr E R, (exO te er y).nv = true ∨ ∃ e, exO te er y = .rs e
  | .ok r => .inl (h r)
  | .er e => .inr ⟨_, rfl⟩
def atX {E T : Type} (l C : Addr) (ns : List Str) (os : T → List O) : Xr E T → O
  | .ok t => .at l C ns (os t)
  | .er _ => .at l C [] []
def osX {E T : Type} (os : T → List O) : Xr E T → List O
  | .ok t => os t
  | .er _ => []
def erX {E T : Type} (te : E → Er) : Xr E T → Option Er
  | .ok _ => none
  | .er e => some (te e)
theorem atX_nv {E T : Type} {l C : Addr} {ns : List Str} {os : T → List O} (h : ∀ t, O.nvL (os t) = true) : ∀ y : Xr E T, (atX l C ns os y).nv = true
  | .ok t => h t
  | .er _ => rfl
theorem atX_at {E T : Type} {l C : Addr} {ns : List Str} {os : T → List O} : ∀ y : Xr E T, ∃ C' ns' os', atX l C ns os y = .at l C' ns' os'
  | .ok t => ⟨_, _, _, rfl⟩
  | .er _ => ⟨_, _, _, rfl⟩
theorem atX_ok {E T : Type} {te : E → Er} {l C : Addr} {ns : List Str} {os : T → List O} : ∀ y : Xr E T, erX te y = none → atX l C ns os y = .at l C ns (osX os y)
  | .ok _, _ => rfl
  | .er _, h => nomatch h
theorem erX_ex {E T : Type} {te : E → Er} : ∀ y : Xr E T, (erX te y = none ∧ exO te (fun _ => .fz .non) y = .fz .non) ∨ ∃ e, erX te y = some e ∧ exO te (fun _ => .fz .non) y = .rs e
  | .ok _ => .inl ⟨rfl, rfl⟩
  | .er _ => .inr ⟨_, rfl, rfl⟩
end M
namespace M
open PySem L2 PySem.Spec PyProof.Rows
/-! ### try: .. except C as n: a suite that hands back -/
def tryR {V E R S : Type} : Ou V Unit (Xr E R) → (V → Option S) → (R → Option S) → (E → Option S) → Option S
  | .nx v, k, _, _ => k v
  | .rt (.ok r), _, kr, _ => kr r
  | .rt (.er e), _, _, kx => kx e
  | _, _, _, _ => none
theorem le_none : ∀ ρ : Slots, Le ρ (List.replicate ρ.length none)
  | [] => .nil
  | _ :: ρ => .no (le_none ρ)
theorem le_blank {x : Option O} : ∀ (ρ : Slots) (i : Nat), Le (ρ.set i x) ((List.replicate ρ.length none).set i x)
  | [], _ => .nil
  | _ :: ρ, 0 => .eq (le_none ρ)
  | _ :: ρ, i + 1 => .no (le_blank ρ i)
section
variable {X : Cx} {ρ : Slots} {G : Go}
theorem m_tryO {E R V : Type} {xc n : Str} {C : Addr} {i : Nat} {body suite : List Stmt} {b0 : Stmt} {np pos pos' : Pos} {out : Ou V Unit (Xr E R)} (Rn : V → Slots) (te : E → Er) (er : R → O)
    (hN : X.N.Nodup) (hi : X.N[i]? = some n) (hln : X.env.kindOf n = some .local) (hc : Names X xc (.ref C)) (hne : ∀ r e, er r ≠ .rs e) (hnf : ∀ e, (te e).fld = none)
    (hb : ∀ (pn : List (Addr × Obj)) (xe : Value → Shared → Prop), PassesOwn (model X.prog X.w) X.A X.env xe → MS (X.tr pn xe) ρ body (goO Rn (fun _ : Unit => []) (exO te er) out))
    (kb : ∀ w, out ≠ .bk w) (kc : ∀ w, out ≠ .ct w) (kr : ∀ r, out = .rt (.ok r) → G.rt (er r))
    (hm : ∀ e, out = .rt (.er e) → PySem.W.exmOne X.K (.ref (te e).C) (.ref C) = some true)
    (hs : ∀ e, out = .rt (.er e) → ∀ (a : Addr) (oe : Obj) (pn : List (Addr × Obj)), Zc (.ref (te e).C) none oe → (∃ vs, oe.data = .fields vs) → MS (X.suite a ((a, oe) :: pn)) ((List.replicate X.N.length none).set i (some (.pt a))) (b0 :: suite) { rt := fun o => G.rt o ∧ ∀ e, o ≠ .rs e })
    (kn : ∀ v τ, out = .nx v → Le τ (Rn v) → G.nx τ)
    (e1 : X.stack = X.env :: X.outer := by rfl) (e2 : X.env.frame = some X.env.locals := by rfl) : MS1 X ρ (.Try body [.ExceptHandler (some (.Name xc np)) (some n) (b0 :: suite) pos'] [] [] pos) G := .mk fun Z0 F Z σ H D s g => by
  obtain ⟨Wout, tk, kk⟩ := g.ex
  refine PS_w (ps_try_as (i := i) (tb := fun W => fun D σ H => ∀ pn xe, Takes (X.tr pn xe) W → PassesOwn (model X.prog X.w) X.A X.env xe → wS (X.tr pn xe) body D σ H)
    (ts := fun a cls d => fun D σ H => ∀ (oe : Obj) (pn : List (Addr × Obj)), Zc cls d oe → (∃ vs, oe.data = .fields vs) → wS (X.suite a ((a, oe) :: pn)) (b0 :: suite) D σ H) e1 e2 hN hi hln hc tk
    (fun W pn xe t po => ⟨fun pins s σ H D I h => h pn xe t po pins s I⟩) (fun a oe cls d pn hz hf => ⟨fun pins s σ H D I h => h oe pn hz hf pins s I⟩)) ?_
  intro pn xe t po
  refine (hb pn xe po).run Z0 F Z σ H D s ⟨fun τ Z σ H ⟨v, e, l⟩ s' => g.nx τ Z σ H (kn v τ e l) s', fun _ _ _ _ ⟨w, e, _⟩ => absurd e (kb w), fun _ _ _ _ ⟨w, e, _⟩ => absurd e (kc w), fun o v Z' H' A k g' r n => ?_, fun _ _ _ _ _ _ z => z.elim, ⟨_, t, fun e ρ' Z' σ' H' k s' => ?_⟩⟩
  · obtain ⟨x, e, rfl⟩ := k
    cases x with
    | ok x => exact g.rt _ v Z' H' A (kr x e) g' r n
    | er x => cases r
  · obtain ⟨x, eo, ex⟩ := k
    cases x with
    | ok x => exact absurd ex.symm (hne x e)
    | er x =>
      cases ex
      unfold Thrown
      rw [hnf x]
      refine ⟨true, hm x eo, fun _ a na oe pn' hz hf => ?_, fun z => nomatch z⟩
      intro pins s2 I2
      have ln : σ'.length = X.N.length := by
        have := I2.len
        rw [List.length_set] at this
        exact this
      have lr : ρ'.length = X.N.length := by rw [← s'.len, ln]
      have hl : i < ρ'.length := by
        rw [lr]
        exact (List.getElem?_eq_some_iff.mp hi).1
      have s3 := s'.put (v := .ref a) (Gr.refl s'.ex) (RepO.pt (a := a)) .nil hl
      have le := le_blank (x := some (O.pt a)) ρ' i
      rw [lr] at le
      exact (hs x eo a oe pn' hz hf).run Z0 F Z' _ H' { nx := fun σ' H' => D.nx (σ'.set i none) H', rt := D.rt, bk := fun σ' H' => D.bk (σ'.set i none) H', ct := fun σ' H' => D.ct (σ'.set i none) H' } (s3.le le) ⟨fun _ _ _ _ z => z.elim, fun _ _ _ _ z => z.elim, fun _ _ _ _ z => z.elim, fun o v Z H A k g' r n => g.rt o v Z H A k.1 g' r n, fun _ _ _ _ _ _ z => z.elim, GX.never fun e z => z.2 e rfl⟩ pins s2 I2
end
/-! ### isinstance of the error that a suite holds -/
section
variable {X : Cx} {ρ : Slots} {a C E : Addr} {oe : Obj} {pn : List (Addr × Obj)} {i : Nat} {n nm : Str} {p0 p1 p2 pos : Pos} {b : Bool} {T : String}
theorem me_isiE (c : ExcC X.K C) (hz : Zc (.ref C) none oe) (hf : ∃ vs, oe.data = .fields vs) (hg : Gl X "isinstance") (hm : X.mg "isinstance" = none) (hE : X.mg nm = some (.ref E)) (p : PE (X.suite a ((a, oe) :: pn)) (.Name n p2) (tVar i)) (hi : ρ[i]? = some (some (.pt a))) (hk : PySem.W.kitOne X.K (.ref C) (.ref E) = some b) (hgE : Gl X nm := by rfl) (hd : (nm == ("__debug__" : Str)) = false := by decide) :
    ME (X.suite a ((a, oe) :: pn)) ρ (.Call (.Name "isinstance" p0) [.Name n p2, .Name nm p1] [] pos) (.fz (.bl b)) := .mk fun Z0 F Z σ H s Q q =>
  PE_w (pe_callB (call_isE c hz hf) hg hm (by decide +kernel) (pa_cons pe_w (pa_cons (pe_glob (v := .ref E) hgE hE rfl hd) pa_nil) rfl) (he := rfl)) ((mv_var p hi).run Z0 F Z σ H s _ fun v Z1 H1 A1 g1 r1 => by
    cases r1
    exact ⟨.ref E, .ref E, b, rfl, fun u r => r, hk, q _ Z1 H1 [] g1 (.fz (.bl b)) .nil⟩)
theorem me_isiEB (c : ExcC X.K C) (hz : Zc (.ref C) none oe) (hf : ∃ vs, oe.data = .fields vs) (hg : Gl X "isinstance") (hm : X.mg "isinstance" = none) (hT : PE (X.suite a ((a, oe) :: pn)) (.Name nm p1) (tC (.ty T))) (p : PE (X.suite a ((a, oe) :: pn)) (.Name n p2) (tVar i)) (hi : ρ[i]? = some (some (.pt a))) (hk : PySem.W.kitOne X.K (.ref C) (.type T) = some b) :
    ME (X.suite a ((a, oe) :: pn)) ρ (.Call (.Name "isinstance" p0) [.Name n p2, .Name nm p1] [] pos) (.fz (.bl b)) := .mk fun Z0 F Z σ H s Q q =>
  PE_w (pe_callB (call_isE c hz hf) hg hm (by decide +kernel) (pa_cons pe_w (pa_cons hT pa_nil) rfl) (he := rfl)) ((mv_var p hi).run Z0 F Z σ H s _ fun v Z1 H1 A1 g1 r1 => by
    cases r1
    exact ⟨.ty T, .type T, b, rfl, fun u r => r, hk, q _ Z1 H1 [] g1 (.fz (.bl b)) .nil⟩)
end
end M
namespace M
open PySem L2 PySem.Spec PyProof.Rows
/-! ### a text against a dict -/
section
open PySem.SeqAt
open PySem.AutoSeq1 (wpAny_loadPart')
open PySem.MeetsSeq PySem.MeetsSeq2 PySem.MeetsSeq3
theorem dict_eq_declines_str (l : Addr) (es : Array DictEntry) (ep : Nat) (dd : Option Addr) (sl : Array (Option Value)) (b : Str) (u : Tok) :
    Meets (Builtin.«dict.__eq__» ⟨[.ref l, .str b u], []⟩) (fun _ R s => s.heap.get? l = some { cls := .type "dict", dict := dd, data := .dict es ep, slots := sl } ∧ R (.ok (.ret .notImplemented)) s) :=
  .of_wp fun prog w A R s h => by obtain ⟨hp, g, d, tk, os⟩ := s; obtain ⟨hl, h⟩ := h; have f1 := F.sub_str_dict; wp_walk using wpAny_loadPart' hl; exact ⟨_, rfl, h⟩
theorem str_eq_declines_dict (b : Str) (u : Tok) (l : Addr) (es : Array DictEntry) (ep : Nat) (dd : Option Addr) (sl : Array (Option Value)) :
    Meets (Builtin.«str.__eq__» ⟨[.str b u, .ref l], []⟩) (fun _ R s => s.heap.get? l = some { cls := .type "dict", dict := dd, data := .dict es ep, slots := sl } ∧ R (.ok (.ret .notImplemented)) s) :=
  .of_wp fun prog w A R s h => by obtain ⟨hp, g, d, tk, os⟩ := s; obtain ⟨hl, h⟩ := h; wp_walk using wpAny_loadPart' hl, wpAny_load hl; exact ⟨_, rfl, h⟩
theorem RcAt.str_dict {A : Around} {s : Shared} {l : Addr} {o : Obj} {es : Array DictEntry} {ep : Nat} (b : Str) (u : Tok) (ho : s.heap.get? l = some o) (hc : o.cls = .type "dict") (hd : o.data = .dict es ep) (hu : A.units < cLine) : RcAt A s (.str b u) (.ref l) false := fun prog w E Q h => by
  obtain ⟨cls, dd, data, sl⟩ := o
  simp only at hc hd
  subst hc hd
  exact rc_eq_decline_or (k := false) (typeIs_str s b u) ⟨_, ho, rfl⟩ (by decide) PySem.F.sub_dict_str F.slot_str_eq F.slot_dict_eq_refl
    (fun _ hq => call_meets F.slot_str_eq (typeIs_str s b u) F.entry_str_eq (F.args_str_eq_2 _ _) (str_eq_declines_dict b u l es ep dd sl) ⟨ho, hq⟩)
    (fun _ hq => call_meets F.slot_dict_eq_refl ⟨_, ho, rfl⟩ F.entry_dict_eq (F.args_dict_eq_2 _ _) (dict_eq_declines_str l es ep dd sl b u) ⟨ho, hq⟩)
    (fun _ hq => wpAny_of_eq (rfl : isSame (.str b u) (.ref l) = pure false) hq) (.inr hu) h
theorem EqAt.str_dict {A : Around} {s : Shared} {l : Addr} {o : Obj} {es : Array DictEntry} {ep : Nat} (b : Str) (u : Tok) (ho : s.heap.get? l = some o) (hc : o.cls = .type "dict") (hd : o.data = .dict es ep) (hu : A.units < cLine) : EqAt A s (.str b u) (.ref l) false := fun prog w E Q h => by
  unfold eqBool
  refine wpAny_holding ?_
  refine wpAny_ite_split (fun hab => absurd (eq_of_beq hab) nofun) (fun _ => ?_)
  exact wpAny_bind (M.RcAt.str_dict b u ho hc hd hu prog w E _ (wpAny_truthy_bool h))
end
/-! ### a thing of any kind among texts -/
def D.amS : D → List Str → Bool
  | .str x, xs => xs.contains x
  | _, _ => false
def D.inOk : D → Bool
  | .ty _ => false
  | .opq _ => false
  | .ins _ _ _ => false
  | _ => true
def eqSD (d : D) (z : Str) : Bool := match d with
  | .str w => z == w
  | _ => false
section
variable {X : Cx} {pins : List (Addr × Obj)} {σ : L2.St} {H Z : Hp} {s : Shared}
theorem eqS_at (I : Inv X pins σ H s) (hu : X.A.in1.units < cLine) {v : V} {d : D} {u : Value} (r : Rep X.K Z v d) (e : Ex Z H) (rv : RelV v u) (k : d.inOk = true) (z : Str) (t : Tok) : SeqAt.EqAt X.A.in1 s (.str z t) u (eqSD d z) := by
  cases r with
  | non =>
    obtain rfl : u = Value.none := rv
    exact SeqAt.EqAt.str_none z t
  | bl b =>
    obtain rfl : u = Value.bool b := rv
    exact SeqAt.EqAt.str_bool z t b
  | int i =>
    obtain ⟨t', rfl⟩ := rv
    exact SeqAt.EqAt.str_int z t i t'
  | str x =>
    obtain ⟨t', rfl⟩ := rv
    exact SeqAt.EqAt.str_str z t x t'
  | ty n => exact nomatch k
  | opq a => exact nomatch k
  | ins h r => exact nomatch k
  | tup h r =>
    cases rv
    obtain ⟨its, r2, pl, _⟩ := I.tuple (ex_t e h)
    exact SeqAt.EqAt.str_tuple z t pl hu
  | lst h r =>
    cases rv
    obtain ⟨its, r2, pl, _⟩ := I.list (ex_l e h)
    exact SeqAt.EqAt.str_list z t pl.isList hu
  | dct h r =>
    cases rv
    obtain ⟨_, _, vs, _, x⟩ := I.hok _ _ (e _ _ h)
    obtain ⟨o, es, ep, ho, hx, hd, _⟩ := id x
    exact EqAt.str_dict z t ho hx.1 hd hu
  | dctT h r =>
    cases rv
    obtain ⟨_, _, xs, _, o, es, ep, ho, hx, hd, _⟩ := I.hok _ _ (e _ _ h)
    exact EqAt.str_dict z t ho hx.1 hd hu
def eqSV (d : D) : Value → Bool
  | .str z _ => eqSD d z
  | _ => false
theorem any_eqS {d : D} : ∀ {xs : List Str} {its : List Value}, Vals (xs.map V.str) its → its.any (eqSV d) = d.amS xs
  | [], _, h => by
    cases h
    cases d <;> rfl
  | x :: xs, _, h => by
    cases h with
    | cons a b =>
      obtain ⟨t, rfl⟩ := a
      rw [List.any_cons, any_eqS b]
      cases d with
      | str w =>
        show (x == w || xs.contains w) = (x :: xs).contains w
        rw [List.contains_cons]
        congr 1
        exact BEq.comm
      | _ => rfl
theorem vals_str {xs : List Str} {its : List Value} (h : Vals (xs.map V.str) its) : ∀ y ∈ its, ∃ z t, y = .str z t := by
  induction xs generalizing its with
  | nil =>
    cases h
    exact fun _ m => nomatch m
  | cons x xs ih =>
    cases h with
    | cons a b =>
      obtain ⟨t, rfl⟩ := a
      intro y m
      rcases List.mem_cons.mp m with rfl | m
      · exact ⟨_, _, rfl⟩
      · exact ih b y m
def rInS (K : PySem.W.Frag) (neg : Bool) : R2 := fun x y H Q => ∃ (p : Addr) (d : D) (xs : List Str) (Z : Hp), y = .ref p ∧ SqT K H p (xs.map V.str) ∧ Ex Z H ∧ Rep K Z x d ∧ d.inOk = true ∧ Q (.bl (if neg then !(d.amS xs) else d.amS xs)) H
theorem op_inSD (hu : X.A.units + 64 < cLine) : OpR X (compareOp .In) (rInS X.K false) := by
  intro pins s σ H x y v u Q I rx ry h
  obtain ⟨p, d, xs, Z, rfl, hq, ez, rd, hk, q⟩ := h
  cases ry
  obtain ⟨its, r, pl, hz⟩ := I.tuple hq
  have hu1 : X.A.in1.units < cLine := by
    show X.A.units + 1 < cLine
    omega
  refine SeqAt.in_tupleAt (eqSV d) pl (fun w hw => ?_) ⟨.bl _, H, I, rfl, ?_⟩
  · obtain ⟨z, t, rfl⟩ := vals_str r w (by simpa using hw)
    exact eqS_at I hu1 rd ez rx hk z t
  · rw [show its.toArray.any (eqSV d) = its.any (eqSV d) by simp, any_eqS r]
    exact q
theorem op_niSD (hu : X.A.units + 64 < cLine) : OpR X (compareOp .NotIn) (rInS X.K true) := by
  intro pins s σ H x y v u Q I rx ry h
  obtain ⟨p, d, xs, Z, rfl, hq, ez, rd, hk, q⟩ := h
  cases ry
  obtain ⟨its, r, pl, hz⟩ := I.tuple hq
  have hu1 : X.A.in1.units < cLine := by
    show X.A.units + 1 < cLine
    omega
  refine SeqAt.notIn_tupleAt (eqSV d) pl (fun w hw => ?_) ⟨.bl _, H, I, rfl, ?_⟩
  · obtain ⟨z, t, rfl⟩ := vals_str r w (by simpa using hw)
    exact eqS_at I hu1 rd ez rx hk z t
  · rw [show its.toArray.any (eqSV d) = its.any (eqSV d) by simp, any_eqS r]
    exact q
end
section
variable {X : Cx} {ρ : Slots} {a b : Expr} {d : D} {xs : List Str} {pos p1 p2 p3 : Pos} {x : Str}
theorem inS_core {neg : Bool} (ha : ME X ρ a (.fz d)) (hb : MU X ρ b (xs.map .str)) (hk : d.inOk = true) {Z0 F Z : Hp} {σ : L2.St} {H : Hp} (s : StR X.K ρ Z0 F Z σ H) {Q : VK} (q : ∀ Z' H', Gr Z H Z' H' → Q (.bl (if neg then !(d.amS xs) else d.amS xs)) H') : tOp (rInS X.K neg) (wE X a) (wE X b) σ H Q :=
  ha.run Z0 F Z σ H s _ fun v Z1 H1 A1 g1 r1 n1 => by
    cases r1 with
    | fz r1 =>
      refine hb.run Z0 F Z1 σ H1 (s.grow g1) _ fun l vs Z2 H2 g2 l2 r2 => ?_
      have e2 := r2.strs
      subst e2
      exact ⟨l, d, xs, Z1, rfl, l2, g1.zh.trans g2.hh, r1, hk, q Z2 H2 (g1.trans g2)⟩
theorem mt_inDS (hu : X.A.units + 64 < cLine) (hk : d.inOk = true) (ha : ME X ρ a (.fz d)) (hb : MU X ρ b (xs.map .str)) (hm : behindInMarks .In b = false := by rfl) : MT X ρ (.Compare a [.In] [b] pos) (d.amS xs) := .mk fun Z0 F Z σ H s Q q =>
  PT_w (pt_cmpR (op_inSD hu) pe_w pe_w hm) (inS_core (neg := false) ha hb hk s fun Z' H' g => ⟨_, rfl, q Z' H' g⟩)
theorem mt_niDS (hu : X.A.units + 64 < cLine) (hk : d.inOk = true) (ha : ME X ρ a (.fz d)) (hb : MU X ρ b (xs.map .str)) (hm : behindInMarks .NotIn b = false := by rfl) : MT X ρ (.Compare a [.NotIn] [b] pos) (!(d.amS xs)) := .mk fun Z0 F Z σ H s Q q =>
  PT_w (pt_cmpR (op_niSD hu) pe_w pe_w hm) (inS_core (neg := true) ha hb hk s fun Z' H' g => ⟨_, rfl, q Z' H' g⟩)
theorem me_inDS (hu : X.A.units + 64 < cLine) (hk : d.inOk = true) (ha : ME X ρ a (.fz d)) (hb : MU X ρ b (xs.map .str)) (hm : behindInMarks .In b = false := by rfl) : ME X ρ (.Compare a [.In] [b] pos) (.fz (.bl (d.amS xs))) := .mk fun Z0 F Z σ H s Q q =>
  PE_w (pe_cmpR (op_inSD hu) pe_w pe_w hm) (inS_core (neg := false) ha hb hk s fun Z' H' g => q _ Z' H' [] g (.fz (.bl _)) .nil)
theorem me_niDS (hu : X.A.units + 64 < cLine) (hk : d.inOk = true) (ha : ME X ρ a (.fz d)) (hb : MU X ρ b (xs.map .str)) (hm : behindInMarks .NotIn b = false := by rfl) : ME X ρ (.Compare a [.NotIn] [b] pos) (.fz (.bl (!(d.amS xs)))) := .mk fun Z0 F Z σ H s Q q =>
  PE_w (pe_cmpR (op_niSD hu) pe_w pe_w hm) (inS_core (neg := true) ha hb hk s fun Z' H' g => q _ Z' H' [] g (.fz (.bl _)) .nil)
/-- {}, frozen -/
theorem me_dict0 : ME X ρ (.Dict [] [] pos) (.fz (.dct [] [])) := .mk fun Z0 F Z σ H s Q q => PE_w pe_dnewK fun p hp => by
  refine q (.ref p) _ _ [] (Gr.newz (o := .dK []) s.ex hp) (.fz (.dct (ks := []) (vs := []) upd_same .nil)) .nil
/-- s.upper() -/
theorem me_upper (hz : x.length ≤ 5592405) (ha : ME X ρ a (.fz (.str x))) (hbase : attributeBase a "upper" X.env (eval a X.env) = eval a X.env := by rfl) (hline : (p1.endLine == pos.line) = true := by rfl) : ME X ρ (.Call (.Attribute a "upper" p1) [] [] pos) (.fz (.str (Txt.upper x))) := .mk fun Z0 F Z σ H s Q q =>
  PE_w (pe_upper pe_w hbase hline) (ha.run Z0 F Z σ H s _ fun v Z1 H1 A1 g1 r1 n1 => by
    cases r1 with
    | fz r1 =>
      cases r1
      exact ⟨⟨_, rfl⟩, x, rfl, rfl, hz, q _ Z1 H1 [] g1 (.fz (.str _)) .nil⟩)
end
theorem me_onA {X : Cx} {ρ : Slots} {a : Expr} {o r : O} {f : Str} {pos : Pos} (m : MV X ρ a o) (h : MV X ρ a o → ME X ρ (.Attribute a f pos) r) : ME X ρ (.Attribute a f pos) r := h m
theorem kit_false {K : PySem.W.Frag} {C E : Addr} (h0 : PySem.W.mroIn K C (.ref C) = some true) (h1 : PySem.W.isClsIn K E = true) (h2 : PySem.W.typeIn K (.ref E) = some (.type "type")) (h3 : PySem.W.mroIn K C (.ref E) = some false) : PySem.W.kitOne K (.ref C) (.ref E) = some false := by
  unfold PySem.W.kitOne
  split
  · rename_i h
    have h := eq_of_beq h
    cases h
    rw [h0] at h3
    cases h3
  · have e : PySem.W.kitCls K (.ref C) (.ref E) = if ((PySem.W.clsIn K E).isSome && PySem.W.typeIn K (.ref E) == some (.type "type")) = true then PySem.W.mroIn K C (.ref E) else none := rfl
    rw [e, if_pos, h3]
    rw [h2]
    show ((PySem.W.clsIn K E).isSome && _) = true
    rw [show (PySem.W.clsIn K E).isSome = true from h1]
    decide
theorem kit_ty {K : PySem.W.Frag} {C : Addr} {T : String} {b : Bool} (h1 : PySem.W.kitMeta T = true) (h3 : PySem.W.mroIn K C (.type T) = some b) : PySem.W.kitOne K (.ref C) (.type T) = some b := by
  unfold PySem.W.kitOne
  split
  · rename_i h
    have h := eq_of_beq h
    cases h
  · have e : PySem.W.kitCls K (.ref C) (.type T) = if PySem.W.kitMeta T = true then PySem.W.mroIn K C (.type T) else none := rfl
    rw [e, if_pos h1, h3]
end M
namespace M
open PySem L2 PySem.Spec PyProof.Rows
/-! ### things of any kind, more -/
def ixD : D → Int → Option D
  | .lst ds, k => L2.atI ds k
  | .tup ds, k => L2.atI ds k
  | _, _ => none
section
variable {X : Cx} {ρ : Slots} {a b : Expr} {d y : D} {ds : List D} {k : Int} {pos p0 p1 : Pos} {x z : Str}
theorem me_ixD (h : ixD d k = some y) (ha : ME X ρ a (.fz d)) (hb : ME X ρ b (.fz (.int k))) (hp : PlainIx b := by exact fun _ _ => rfl) : ME X ρ (.Subscript a b pos) (.fz y) := by
  cases d with
  | lst ds => exact me_ixL (MV.l (ME.v ha) (.fz _)) hb h hp
  | tup ds => exact me_ixT (MV.u (ME.v ha) (.fz _)) hb h hp
  | _ => cases h
/-- list(t), t a tuple -/
theorem me_listT (hg : Gl X "list") (hm : X.mg "list" = none) (ha : MU X ρ a ds) (n1 : NS X a := by exact fun _ => rfl) : ME X ρ (.Call (.Name "list" p0) [a] [] pos) (.lst (ds.map .fz)) := .mk fun Z0 F Z σ H s Q q =>
  PE_w (pe_callTy call_list_of hg hm (by decide +kernel) (pa_cons pe_w pa_nil (n1 _)) (he := n1 _)) (ha.run Z0 F Z σ H s _ fun l vs Z1 H1 g1 l1 r1 => ⟨l, vs, rfl, .inr l1, fun p hp =>
    q _ Z1 _ [p] (g1.trans (Gr.new g1.zh hp)) (.lst upd_same r1.own) (new_one (g1.hh.free hp) (g1.zh.free hp))⟩)
theorem strs_own {K : PySem.W.Frag} {Z F H : Hp} : ∀ ys : List Str, RepOL K Z F H (ys.map V.str) ((ys.map D.str).map .fz) []
  | [] => .nil
  | y :: ys => .cons (A := []) (B := []) (.fz (.str y)) (strs_own ys)
/-- s.split(z) -/
theorem me_split (hz : (z.length == 0) = false ∧ x.length + 2 ≤ sizeLine) (ha : ME X ρ a (.fz (.str x))) (hb : ME X ρ b (.fz (.str z))) (hs : starEach [b] X.env = [(false, eval b X.env)] := by rfl) (hbase : attributeBase a "split" X.env (eval a X.env) = eval a X.env := by rfl) (hline : (p1.endLine == pos.line) = true := by rfl) :
    ME X ρ (.Call (.Attribute a "split" p1) [b] [] pos) (.lst (((Txt.split x z).map D.str).map .fz)) := .mk fun Z0 F Z σ H s Q qq =>
  PE_w (pe_split pe_w pe_w hs hbase hline) (ha.run Z0 F Z σ H s _ fun v Z1 H1 A1 g1 r1 n1 => by
    cases r1 with
    | fz r1 =>
      cases r1
      refine ⟨⟨_, rfl⟩, hb.run Z0 F Z1 σ H1 (s.grow g1) _ fun v Z2 H2 A2 g2 r2 n2 => ?_⟩
      cases r2 with
      | fz r2 =>
        cases r2
        refine ⟨x, z, rfl, rfl, hz.1, hz.2, fun p hp => ?_⟩
        have g3 := g1.trans g2
        exact qq _ Z2 _ [p] (g3.trans (Gr.new g2.zh hp)) (.lst upd_same (strs_own _)) (new_one (g3.hh.free hp) (g2.zh.free hp)))
end
end M
namespace M
open PySem L2 PySem.Spec PyProof.Rows
/-- behind a loop that is left by break alone, in a block without ways out -/
def ouV {V W R S : Type} : Ou V W R → (V → Option S) → Option S
  | .nx v, k => k v
  | _, _ => none
/-! ### a if c else b; own lists under other names -/
section
variable {X : Cx} {ρ : Slots} {a b c : Expr} {o : O} {os : List O} {sts : List Stmt} {G : Go} {k : Bool} {pos : Pos} {x : Str} {i j : Nat} {l : Addr}
theorem me_ifE (hc : MT X ρ c k) (ha : k = true → ME X ρ a o) (hb : k = false → ME X ρ b o) : ME X ρ (.IfExp c a b pos) o := .mk fun Z0 F Z σ H s Q q =>
  PE_w (pe_ifExp pt_w pe_w pe_w) (hc.run Z0 F Z σ H s _ fun Z1 H1 g1 => by
    cases k with
    | true => exact (ha rfl).run Z0 F Z1 σ H1 (s.grow g1) Q fun v Z2 H2 A g2 r n => q v Z2 H2 A (g1.trans g2) r ⟨n.1, fun a m => ⟨g1.hh.free (n.2 a m).1, (n.2 a m).2⟩⟩
    | false => exact (hb rfl).run Z0 F Z1 σ H1 (s.grow g1) Q fun v Z2 H2 A g2 r n => q v Z2 H2 A (g1.trans g2) r ⟨n.1, fun a m => ⟨g1.hh.free (n.2 a m).1, (n.2 a m).2⟩⟩)
/-- an own list's place is known from here on -/
theorem ms_toLoc (hi : ρ[i]? = some (some (.lst os))) (h : ∀ a, MS X (ρ.set i (some (.loc a (.lst os)))) sts G) : MS X ρ sts G := .mk fun Z0 F Z σ H D s g => by
  obtain ⟨A, h1, h2, h3⟩ := s.st
  obtain ⟨v, B, q1, q2, q3, q4, q5⟩ := h1.at hi h2
  cases q2 with
  | @lst a vs _ B1 ha r =>
    refine (h a).run Z0 F Z σ H D ?_ g
    obtain ⟨A', r1, r2, r3⟩ := q5 (Z' := Z) (H' := H) (v' := .ref a) (o' := .loc a (.lst os)) (B' := a :: B1) (Ex.refl _) (fun _ _ _ _ e => e) (.loc (.lst ha r)) q3 fun b m _ => m
    rw [set_same q1] at r1
    exact ⟨s.gr, A', r1, r2, fun b m => (r3 b m).elim (fun z => h3 b z.1) fun z => h3 b (q4 b z)⟩
/-- such a list's address, as a thing -/
theorem me_opq (p : PE X (.Name x pos) (tVar i)) (hi : ρ[i]? = some (some (.loc l o))) : ME X ρ (.Name x pos) (.fz (.opq l)) := .mk fun Z0 F Z σ H s Q q => by
  refine (mv_var p hi).run Z0 F Z σ H s Q fun v Z1 H1 A g r => ?_
  cases r with
  | loc r => exact q _ Z1 H1 [] g (.fz (.opq _)) .nil
/-- the place under another name -/
theorem mq_opq (p : PE X (.Name x pos) (tVar j)) (hj : ρ[j]? = some (some (.fz (.opq l)))) (hi : ρ[i]? = some (some (.loc l o))) : MQ X ρ (.Name x pos) o (fun o' => ρ.set i (some (.loc l o'))) := .mk fun Z0 F Z σ H T s Q q => by
  obtain ⟨v, e1, f⟩ := s.foc hi
  obtain ⟨ev, f2⟩ := f.unloc
  obtain ⟨w, e2, f3⟩ := s.foc hj
  obtain ⟨A3, f3⟩ := f3
  have ew : w = .ref l := by
    cases f3.rp with
    | fz r => cases r; rfl
  subst ev ew
  exact PE_w p ⟨_, e2, q (.ref l) Z H (Gr.refl s.gr.zh) f2⟩
end
end M
namespace M
open PySem L2 PySem.Spec PyProof.Rows
/-! ### xs[c::k] -/
def stpI (lo k : Int) (n : Nat) : List Nat := sliceRange (sliceBounds (some lo) none (some k) n).1 (sliceBounds (some lo) none (some k) n).2.1 (sliceBounds (some lo) none (some k) n).2.2
def stp {α : Type} (xs : List α) (lo k : Int) : List α := (stpI lo k xs.length).filterMap (xs[·]?)
theorem vals_pick {xs : List V} {its : List Value} (h : Vals xs its) : ∀ is : List Nat, Vals (is.filterMap (xs[·]?)) (is.filterMap (its[·]?))
  | [] => .nil
  | i :: is => by
    have hl := h.length
    rw [List.filterMap_cons, List.filterMap_cons]
    cases e : xs[i]? with
    | none =>
      have : its[i]? = none := by
        rw [List.getElem?_eq_none_iff] at e ⊢
        omega
      rw [this]
      exact vals_pick h is
    | some x =>
      obtain ⟨u, e2, r⟩ := h.get e
      rw [e2]
      exact .cons r (vals_pick h is)
theorem rep_pick {K : PySem.W.Frag} {Z : Hp} {vs : List V} {ds : List D} (h : RepL K Z vs ds) : ∀ is : List Nat, RepL K Z (is.filterMap (vs[·]?)) (is.filterMap (ds[·]?))
  | [] => .nil
  | i :: is => by
    have hl := h.length
    rw [List.filterMap_cons, List.filterMap_cons]
    cases e : ds[i]? with
    | none =>
      have : vs[i]? = none := by
        rw [List.getElem?_eq_none_iff] at e ⊢
        omega
      rw [this]
      exact rep_pick h is
    | some d =>
      obtain ⟨v, e2, r⟩ := h.get e
      rw [e2]
      exact .cons r (rep_pick h is)
section
variable {X : Cx}
def tStp (K : PySem.W.Frag) (lo k : Int) (te : TE) : TE := fun σ H Q => te σ H fun x H1 => ∃ a xs, x = .ref a ∧ SqL K H1 a xs ∧ ∀ p, H1 p = none → Q (.ref p) (upd H1 p (.lst (stp xs lo k)))
theorem pe_stp {e : Expr} {te : TE} {lo k : Int} {k1 k2 : Nat} {p1 p2 p3 pos : Pos} (h0 : k ≠ 0) (he : PE X e te) : PE X (.Subscript e (.Slice (some (.Constant (.int lo) k1 p1)) none (some (.Constant (.int k) k2 p2)) p3) pos) (tStp X.K lo k te) := by
  refine ⟨fun pins s σ H Q I h => ?_⟩
  refine Subscript_ (thn (he.run pins s σ H _ I h) fun v s1 ⟨x, H1, I1, r1, q1⟩ => ?_)
  obtain ⟨a, xs, ex, hx, q⟩ := q1
  subst ex
  cases r1
  have hlo : PO X (some (.Constant (.int lo) k1 p1)) (tPart (tC (.int lo))) := po_some pe_int
  have hst : PO X (some (.Constant (.int k) k2 p2)) (tPart (tC (.int k))) := po_some pe_int
  refine wpAny_Slice (thn (hlo.run pins s1 σ H1 (fun o H2 => o = some lo ∧ H2 = H1) I1 ⟨lo, rfl, rfl, rfl⟩) fun vl s2 ⟨l, H2, I2, pl, el, e2⟩ => ?_)
  subst el e2
  refine thn (po_none.run pins s2 σ H2 (fun o H3 => o = none ∧ H3 = H2) I2 ⟨rfl, rfl⟩) fun vu s3 ⟨u, H3, I3, pu, eu, e3⟩ => ?_
  subst eu e3
  refine thn (hst.run pins s3 σ H3 (fun o H4 => o = some k ∧ H4 = H3) I3 ⟨k, rfl, rfl, rfl⟩) fun vs s4 ⟨o, H4, I4, ps, eo, e4⟩ => ?_
  subst eo e4
  have I5 : Inv X pins σ H4 { s4 with heap := s4.heap.push { cls := .type "slice", data := .fields #[vl, vu, vs] } } := I4.kept (t' := s4.toks) fun b ob q => Heap.get?_push_of_some _ q
  obtain ⟨its, r, ht, hz⟩ := I5.list hx
  have hlen := r.length
  show wpAny (model X.prog X.w) X.A (subscriptTail e (.Slice (some (.Constant (.int lo) k1 p1)) none (some (.Constant (.int k) k2 p2)) p3) (.ref a) (.ref s4.heap.objs.size)) (EP X pins σ Q) X.xe { s4 with heap := s4.heap.push { cls := .type "slice", data := .fields #[vl, vu, vs] } }
  refine tail_any (ops := [.ref a, .ref s4.heap.objs.size]) ht.isList.typeIs (PySem.slot_list_getitem.lookup) ?_ (by with_unfolding_all rfl)
  refine wpAny_getItem_list_slice ht.isList (Heap.IsSliceOf.new _ vl vu vs) pl pu ps (fun z => h0 (Option.some.inj z)) ?_ (by rw [List.size_toArray]; omega)
  have ep : slicePick its.toArray (some lo) none (some k) = (stp its lo k).toArray := by
    unfold slicePick stp stpI
    simp
  have hz2 : (stp xs lo k).length ≤ sizeLine := by
    have h1 := slicePick_size_le its.toArray (some lo) none (some k)
    rw [ep] at h1
    have h2 : (stp xs lo k).length = (stp its lo k).length := by
      unfold stp
      rw [hlen]
      exact (vals_pick r _).length
    simp at h1
    omega
  rw [ep]
  have rv : Vals (stp xs lo k) (stp its lo k) := by
    unfold stp
    rw [hlen]
    exact vals_pick r _
  refine ⟨.ref _, _, I5.laid (t' := s4.toks) (o := .lst (stp xs lo k)) (fun b ob q => Heap.get?_push_of_some _ q) (Nat.le_refl _) ?_, rfl, q _ (I5.hok.fresh (Nat.le_refl _))⟩
  exact ⟨hz2, _, 0, rv, Heap.get?_push_size _ rfl⟩
variable {ρ : Slots} {a : Expr} {α : Type}
theorem me_stpT {xs : List α} {enc : α → D} {lo k : Int} {k1 k2 : Nat} {p1 p2 p3 pos : Pos} (ha : ML X ρ a (xs.map enc)) (h0 : k ≠ 0 := by decide) : ME X ρ (.Subscript a (.Slice (some (.Constant (.int lo) k1 p1)) none (some (.Constant (.int k) k2 p2)) p3) pos) (.lst (((stp xs lo k).map enc).map .fz)) := .mk fun Z0 F Z σ H s Q q =>
  PE_w (pe_stp h0 pe_w) (ha.run Z0 F Z σ H s _ fun l vs Z1 H1 g1 l1 r1 => ⟨l, vs, rfl, l1, fun p hp => by
    have e : (stp xs lo k).map enc = (stpI lo k vs.length).filterMap ((xs.map enc)[·]?) := by
      have hl := r1.length
      rw [List.length_map] at hl
      unfold stp
      rw [hl, List.map_filterMap]
      congr 1
      funext i
      rw [List.getElem?_map]
    rw [e] at q
    exact q _ Z1 _ [p] (g1.trans (Gr.new g1.zh hp)) (.lst upd_same (rep_pick r1 _).own) (new_one (g1.hh.free hp) (g1.zh.free hp))⟩)
end
/-! ### lists of any standing put together -/
def rCatS (K : PySem.W.Frag) : R2 := fun x y H Q => ∃ (l b : Addr) (xs zs : List V), x = .ref l ∧ y = .ref b ∧ SqL K H l xs ∧ SqL K H b zs ∧ xs.length + zs.length ≤ sizeLine ∧ ∀ p, H p = none → Q (.ref p) (upd H p (.lst (xs ++ zs)))
section
variable {X : Cx}
theorem op_catS : OpR X (binaryOp .Add) (rCatS X.K) := by
  intro pins s σ H x y v u Q I rx ry h
  obtain ⟨l, b, xs, zs, rfl, rfl, hl, hb, hz, q⟩ := h
  cases rx
  cases ry
  obtain ⟨its, r, ⟨⟨cls, dd, data, sl⟩, n, ho, hc, hdn, hd⟩, h1⟩ := I.list hl
  obtain ⟨its2, r2, ⟨⟨cls2, dd2, data2, sl2⟩, n2, ho2, hc2, hdn2, hd2⟩, h2⟩ := I.list hb
  simp only at hc hd hc2 hd2
  subst hc hd hc2 hd2
  have e1 := r.length
  have e2 := r2.length
  have ea : its.toArray ++ its2.toArray = (its ++ its2).toArray := by simp
  refine concat_meets ⟨_, ho, rfl⟩ ⟨_, ho2, rfl⟩ noFill_list_add seq_list_add PySem.F.slot_list_add PySem.F.entry_list_add (PySem.F.args_list_add_2 _ _) (list_addW l b its.toArray its2.toArray n n2 dd dd2 sl sl2 (by rw [List.size_toArray, List.size_toArray]; omega)) ⟨ho, ho2, ?_⟩
  rw [ea]
  exact ⟨.ref _, _, I.lnew (t' := s.toks) (r.append r2) (by rw [List.length_append]; omega), rfl, q _ I.fresh⟩
variable {ρ : Slots} {a b : Expr} {α : Type} {pos : Pos}
theorem me_catMM {xs ys : List α} {enc : α → D} (hl : xs.length + ys.length ≤ sizeLine) (ha : ML X ρ a (xs.map enc)) (hb : ML X ρ b (ys.map enc)) : ME X ρ (.BinOp a .Add b pos) (.lst (((xs ++ ys).map enc).map .fz)) := .mk fun Z0 F Z σ H s Q q =>
  PE_w (pe_op op_catS pe_w pe_w) (ha.run Z0 F Z σ H s _ fun l vs Z1 H1 g1 l1 r1 => hb.run Z0 F Z1 σ H1 (s.grow g1) _ fun l2 us Z2 H2 g2 l2' r2 => by
    have g := g1.trans g2
    have e1 := r1.length
    have e2 := r2.length
    rw [List.length_map] at e1 e2
    refine ⟨l, l2, vs, us, rfl, rfl, ex_l g2.hh l1, l2', by omega, fun p hp => ?_⟩
    rw [List.map_append] at q
    exact q _ Z2 _ [p] (g.trans (Gr.new g.zh hp)) (.lst upd_same ((r1.mono g2.zz).append r2).own) (new_one (g.hh.free hp) (g.zh.free hp)))
end
end M
namespace M
open PySem L2 PySem.Spec PyProof.Rows
/-! ### another form of the same thing -/
section
variable {X : Cx} {ρ : Slots} {e : Expr} {d d' : D}
theorem MV.as (h : MV X ρ e (.fz d)) (q : d = d') : MV X ρ e (.fz d') := q ▸ h
theorem ME.as (h : ME X ρ e (.fz d)) (q : d = d') : ME X ρ e (.fz d') := q ▸ h
end
/-! ### {k: i, ..}.get(s, i), keys texts -/
def dgI : List (Str × Int) → Str → Int → Int
  | [], _, d => d
  | (k, v) :: r, s, d => if s = k then v else dgI r s d
def dgK (kvs : List (Str × Int)) : List (Key × V) := kvs.map fun p => (.inr p.1, .int p.2)
theorem valV_dgK (s : Str) (d : Int) : ∀ kvs : List (Str × Int), (valV (dgK kvs) (.inr s)).getD (.int d) = .int (dgI kvs s d)
  | [] => rfl
  | (k, v) :: r => by
    show (valV ((Sum.inr k, V.int v) :: dgK r) (.inr s)).getD (.int d) = .int (if s = k then v else dgI r s d)
    by_cases e : s = k
    · rw [valV_pos (p := ((Sum.inr k : Key), V.int v)) (by rw [e]), if_pos e]; rfl
    · rw [valV_neg (p := ((Sum.inr k : Key), V.int v)) (fun z => e (Sum.inr.inj z).symm), if_neg e]
      exact valV_dgK s d r
theorem mergeK_app : ∀ (kvs : List (Str × Int)) (acc : List (Key × V)), (∀ p ∈ kvs, valV acc (.inr p.1) = none) → (kvs.map (·.1)).Nodup → mergeK acc (dgK kvs) = acc ++ dgK kvs
  | [], acc, _, _ => (List.append_nil _).symm
  | (k, v) :: r, acc, h, nd => by
    show mergeK (putK acc (.inr k) (.int v)) (dgK r) = acc ++ ((.inr k, .int v) :: dgK r)
    have hk := h (k, v) List.mem_cons_self
    rw [List.map_cons, List.nodup_cons] at nd
    rw [putK_new _ hk, mergeK_app r _ (fun p m => ?_) nd.2, List.append_assoc]; rfl
    rw [valV_snoc _ _ _ _ hk, if_neg (fun z => ?_)]
    · exact h p (List.mem_cons_of_mem _ m)
    · exact nd.1 (by rw [← Sum.inr.inj z]; exact List.mem_map_of_mem m)
structure MPs (X : Cx) (pos : Pos) (keys : List (Option Expr)) (values : List Expr) (kvs : List (Str × Int)) : Prop where
  ex : ∃ trs, PPs X pos keys values trs ∧ keys.length = kvs.length ∧ values.length = kvs.length ∧ keys.all (·.isSome) = true ∧ ∀ (σ : L2.St) (H : Hp) (Q : List (V × V) → Hp → Prop), Q ((dgK kvs).map fun kv => (kV kv.1, kv.2)) H → tPairs trs σ H Q
theorem mps_nil {X : Cx} {pos : Pos} : MPs X pos [] [] [] := ⟨[], pps_nil, rfl, rfl, rfl, fun _ _ _ q => q⟩
theorem mps_cons {X : Cx} {pos p1 p2 : Pos} {j1 j2 : Nat} {k : Str} {v : Int} {ks : List (Option Expr)} {vs : List Expr} {kvs : List (Str × Int)} (h : MPs X pos ks vs kvs) : MPs X pos (some (.Constant (.str k) j1 p1) :: ks) (.Constant (.int v) j2 p2 :: vs) ((k, v) :: kvs) := by
  obtain ⟨trs, p, l1, l2, a, q⟩ := h.ex
  refine ⟨(tC (.str k), tC (.int v)) :: trs, pps_cons pe_str pe_int p, by rw [List.length_cons, List.length_cons, l1], by rw [List.length_cons, List.length_cons, l2], a, fun σ H Q z => q σ H _ z⟩
section
variable {X : Cx} {ρ : Slots} {e f : Expr} {pos dpos apos cpos : Pos} {s : Str} {d : Int} {keys : List (Option Expr)} {values : List Expr} {kvs : List (Str × Int)}
theorem me_dget (hu : X.A.units + 64 < cLine) (m : MPs X dpos keys values kvs) (he : ME X ρ e (.fz (.str s))) (hf : ME X ρ f (.fz (.int d))) (nd : (kvs.map (·.1)).Nodup := by decide) (h0 : kvs.length ≠ 0 ∧ kvs.length ≤ 15 := by decide)
    (m2 : M2 X (.Dict keys values dpos) "get" apos e f cpos := by exact ⟨rfl, rfl, rfl, rfl⟩) : ME X ρ (.Call (.Attribute (.Dict keys values dpos) "get" apos) [e, f] [] cpos) (.fz (.int (dgI kvs s d))) := by
  obtain ⟨trs, p, l1, l2, a, q⟩ := m.ex
  refine .mk fun Z0 F Z σ H st Q qq => PE_w (pe_dget2 (by omega) (pe_disp p a (l1.trans l2.symm) (fun z => h0.1 (by rw [← l1, z]; rfl)) (by rw [l1]; exact h0.2)) pe_w pe_w m2) fun x hx => q σ _ _ ⟨upd_same, dgK kvs, rfl, by show (List.map _ kvs).length ≤ 15; rw [List.length_map]; exact h0.2, x, rfl, .inl ⟨_, .inl upd_same⟩, ?_⟩
  rw [mergeK_app kvs [] (fun _ _ => rfl) nd, List.nil_append]
  rw [show upd (upd H x (.dK [])) x (.dK (dgK kvs)) = upd H x (.dK (dgK kvs)) from by funext b; by_cases hb : b = x <;> simp [upd, hb]]
  have g0 : Gr Z H Z (upd H x (.dK (dgK kvs))) := Gr.new st.ex hx
  have s1 := st.grow g0
  refine he.run Z0 F Z σ _ s1 _ fun v Z1 H1 A1 g1 r1 n1 => hf.run Z0 F Z1 σ H1 (s1.grow g1) _ fun u Z2 H2 A2 g2 r2 n2 => ?_
  cases r1 with
  | fz r1 => cases r1 with
    | str => cases r2 with
      | fz r2 => cases r2 with
        | int =>
          have hd : H2 x = some (.dK (dgK kvs)) := g2.hh _ _ (g1.hh _ _ upd_same)
          refine ⟨_, DGet.k (k := .inr s) hd, ?_⟩
          rw [valV_dgK]
          exact qq _ Z2 H2 [] (g0.trans (g1.trans g2)) (.fz (.int _)) .nil
end
def asLD : D → Option (List D)
  | .lst ds => some ds
  | _ => none
theorem asLD_is {d : D} {l : List D} (h : asLD d = some l) : O.fz d = .fz (.lst (l.map e_d)) := by
  cases d with
  | lst ds => injection h with h; subst h; exact congrArg (fun z => O.fz (.lst z)) (List.map_id ds).symm
  | non => nomatch h
  | bl _ => nomatch h
  | int _ => nomatch h
  | str _ => nomatch h
  | ty _ => nomatch h
  | opq _ => nomatch h
  | tup _ => nomatch h
  | ins _ _ _ => nomatch h
  | dct _ _ => nomatch h
  | dctT _ _ => nomatch h
/-! ### no promise -/
theorem fn_vac {A R : Type} {P : Program} {w : World} {K : PySem.W.Frag} {mg : Str → Option Value} {base : Heap} {CX : CXT} {k : Nat} {f : Addr} {fd : FuncData} {ps : List Str} {ar : A → List O} {g : A → Option R} {er : R → O} (h : ∀ x, g x = none) : FnOk P w K mg base CX k f fd ps (SpF K ar g er) :=
  ⟨fun vs H Q E z => (by
      obtain ⟨x, _, _, _, hp, _⟩ := z
      have hp : g x.1 = some x.2 := hp
      rw [h] at hp; cases hp), fun A outer s H args us vs Q E hr he hb hv z => (by
      obtain ⟨x, _, _, _, hp, _⟩ := z
      have hp : g x.1 = some x.2 := hp
      rw [h] at hp; cases hp)⟩
theorem fn_vacE {A R E' : Type} {P : Program} {w : World} {K : PySem.W.Frag} {mg : Str → Option Value} {base : Heap} {CX : CXT} {k : Nat} {f : Addr} {fd : FuncData} {ps : List Str} {ar : A → List O} {g : A → Option (Xr E' R)} {te : E' → Er} {er : R → O} (h : ∀ x, g x = none) : FnOk P w K mg base CX k f fd ps (SpFE K ar g te er) :=
  ⟨fun vs H Q E z => (by
      obtain ⟨x, _, _, _, hp, _⟩ := z
      have hp : g x.1 = some x.2 := hp
      rw [h] at hp; cases hp), fun A outer s H args us vs Q E hr he hb hv z => (by
      obtain ⟨x, _, _, _, hp, _⟩ := z
      have hp : g x.1 = some x.2 := hp
      rw [h] at hp; cases hp)⟩
end M
namespace M
open PySem L2 PySem.Spec PyProof.Rows
theorem r_u65 {k : Nat} {A : Around} (r : Room k A) : A.units + 65 < cLine := by have := r.un; omega
/-! ### data in lists of data -/
theorem pyL_any (ds : List D) (p : PyData → Bool) : (D.pyL ds).any p = ds.any fun z => p z.py := by
  induction ds with
  | nil => rfl
  | cons d r ih =>
    show (p d.py || (D.pyL r).any p) = (p d.py || r.any _)
    rw [ih]
section
variable {X : Cx} {ρ : Slots} {a b : Expr} {o2 : O} {d : D} {ds : List D} {pos : Pos}
theorem me_inD (hu : X.A.units + 65 < cLine) (h : d.ok ∧ (D.lst ds).ok) (e2 : o2.frz = .lst ds) (ha : MV X ρ a (.fz d)) (hb : MV X ρ b o2) (hm : behindInMarks .In b = false := by rfl) : ME X ρ (.Compare a [.In] [b] pos) (.fz (.bl (ds.any fun z => D.eqv z d))) :=
  me_rD (t := tOp (rInD X.K) (wE X a) (wE X b)) (pe_cmpR (op_inD hu) pe_w pe_w hm) ha hb h.1.1 (by rw [e2]; exact h.2.1) fun x y H Q p1 p2 q => ⟨_, D.pyL ds, p1, by rw [e2] at p2; exact p2, h.1.2, h.2.2, by rw [pyL_any]; exact q⟩
theorem me_niD (hu : X.A.units + 65 < cLine) (h : d.ok ∧ (D.lst ds).ok) (e2 : o2.frz = .lst ds) (ha : MV X ρ a (.fz d)) (hb : MV X ρ b o2) (hm : behindInMarks .NotIn b = false := by rfl) : ME X ρ (.Compare a [.NotIn] [b] pos) (.fz (.bl (!(ds.any fun z => D.eqv z d)))) :=
  me_rD (t := tOp (rNotInD X.K) (wE X a) (wE X b)) (pe_cmpR (op_notInD hu) pe_w pe_w hm) ha hb h.1.1 (by rw [e2]; exact h.2.1) fun x y H Q p1 p2 q => ⟨_, D.pyL ds, p1, by rw [e2] at p2; exact p2, h.1.2, h.2.2, by rw [pyL_any]; exact q⟩
theorem mt_inD (hu : X.A.units + 65 < cLine) (h : d.ok ∧ (D.lst ds).ok) (e2 : o2.frz = .lst ds) (ha : MV X ρ a (.fz d)) (hb : MV X ρ b o2) (hm : behindInMarks .In b = false := by rfl) : MT X ρ (.Compare a [.In] [b] pos) (ds.any fun z => D.eqv z d) :=
  mt_rD (r := rInD X.K) (pt_cmpR (op_inD hu) pe_w pe_w hm) ha hb h.1.1 (by rw [e2]; exact h.2.1) fun x y H Q p1 p2 q => ⟨_, D.pyL ds, p1, by rw [e2] at p2; exact p2, h.1.2, h.2.2, by rw [pyL_any]; exact q⟩
theorem mt_niD (hu : X.A.units + 65 < cLine) (h : d.ok ∧ (D.lst ds).ok) (e2 : o2.frz = .lst ds) (ha : MV X ρ a (.fz d)) (hb : MV X ρ b o2) (hm : behindInMarks .NotIn b = false := by rfl) : MT X ρ (.Compare a [.NotIn] [b] pos) (!(ds.any fun z => D.eqv z d)) :=
  mt_rD (r := rNotInD X.K) (pt_cmpR (op_notInD hu) pe_w pe_w hm) ha hb h.1.1 (by rw [e2]; exact h.2.1) fun x y H Q p1 p2 q => ⟨_, D.pyL ds, p1, by rw [e2] at p2; exact p2, h.1.2, h.2.2, by rw [pyL_any]; exact q⟩
/-- typed -/
def inDL {α : Type} (enc : α → D) (xs : List α) (d : D) : Bool := xs.any fun z => D.eqv (enc z) d
variable {α : Type} {enc : α → D} {xs : List α}
theorem inDL_is : ((xs.map enc).any fun z => D.eqv z d) = inDL enc xs d := by unfold inDL; rw [List.any_map]; rfl
theorem me_inDL (hu : X.A.units + 65 < cLine) (h : d.ok ∧ (D.lst (xs.map enc)).ok) (e2 : o2.frz = .lst (xs.map enc)) (ha : MV X ρ a (.fz d)) (hb : MV X ρ b o2) (hm : behindInMarks .In b = false := by rfl) : ME X ρ (.Compare a [.In] [b] pos) (.fz (.bl (inDL enc xs d))) := inDL_is ▸ me_inD hu h e2 ha hb hm
theorem me_niDL (hu : X.A.units + 65 < cLine) (h : d.ok ∧ (D.lst (xs.map enc)).ok) (e2 : o2.frz = .lst (xs.map enc)) (ha : MV X ρ a (.fz d)) (hb : MV X ρ b o2) (hm : behindInMarks .NotIn b = false := by rfl) : ME X ρ (.Compare a [.NotIn] [b] pos) (.fz (.bl (!(inDL enc xs d)))) := inDL_is ▸ me_niD hu h e2 ha hb hm
theorem mt_inDL (hu : X.A.units + 65 < cLine) (h : d.ok ∧ (D.lst (xs.map enc)).ok) (e2 : o2.frz = .lst (xs.map enc)) (ha : MV X ρ a (.fz d)) (hb : MV X ρ b o2) (hm : behindInMarks .In b = false := by rfl) : MT X ρ (.Compare a [.In] [b] pos) (inDL enc xs d) := inDL_is ▸ mt_inD hu h e2 ha hb hm
theorem mt_niDL (hu : X.A.units + 65 < cLine) (h : d.ok ∧ (D.lst (xs.map enc)).ok) (e2 : o2.frz = .lst (xs.map enc)) (ha : MV X ρ a (.fz d)) (hb : MV X ρ b o2) (hm : behindInMarks .NotIn b = false := by rfl) : MT X ρ (.Compare a [.NotIn] [b] pos) (!(inDL enc xs d)) := inDL_is ▸ mt_niD hu h e2 ha hb hm
end
/-! ### max and min of a list -/
def mxL : List Int → Option Int
  | [] => none
  | x :: r => some (r.foldl max x)
def mnL : List Int → Option Int
  | [] => none
  | x :: r => some (r.foldl min x)
theorem foldl_max : ∀ (r : List Int) (x : Int), (r.foldl max x ∈ x :: r) ∧ ∀ y ∈ x :: r, y ≤ r.foldl max x
  | [], x => ⟨List.mem_cons_self, fun y m => by cases List.mem_singleton.mp m; exact Int.le_refl _⟩
  | y :: r, x => by
    obtain ⟨h1, h2⟩ := foldl_max r (max x y)
    show (r.foldl max (max x y) ∈ _) ∧ ∀ z ∈ _, z ≤ r.foldl max (max x y)
    have h3 := h2 _ List.mem_cons_self
    refine ⟨?_, fun z m => ?_⟩
    · rcases List.mem_cons.mp h1 with e | m
      · rw [e]
        by_cases c : x ≤ y
        · rw [Int.max_eq_right c]; exact List.mem_cons_of_mem _ List.mem_cons_self
        · rw [Int.max_eq_left (by omega)]; exact List.mem_cons_self
      · exact List.mem_cons_of_mem _ (List.mem_cons_of_mem _ m)
    · rcases List.mem_cons.mp m with rfl | m
      · omega
      · rcases List.mem_cons.mp m with rfl | m
        · omega
        · exact h2 z (List.mem_cons_of_mem _ m)
theorem foldl_min : ∀ (r : List Int) (x : Int), (r.foldl min x ∈ x :: r) ∧ ∀ y ∈ x :: r, r.foldl min x ≤ y
  | [], x => ⟨List.mem_cons_self, fun y m => by cases List.mem_singleton.mp m; exact Int.le_refl _⟩
  | y :: r, x => by
    obtain ⟨h1, h2⟩ := foldl_min r (min x y)
    show (r.foldl min (min x y) ∈ _) ∧ ∀ z ∈ _, r.foldl min (min x y) ≤ z
    have h3 := h2 _ List.mem_cons_self
    refine ⟨?_, fun z m => ?_⟩
    · rcases List.mem_cons.mp h1 with e | m
      · rw [e]
        by_cases c : x ≤ y
        · rw [Int.min_eq_left c]; exact List.mem_cons_self
        · rw [Int.min_eq_right (by omega)]; exact List.mem_cons_of_mem _ List.mem_cons_self
      · exact List.mem_cons_of_mem _ (List.mem_cons_of_mem _ m)
    · rcases List.mem_cons.mp m with rfl | m
      · omega
      · rcases List.mem_cons.mp m with rfl | m
        · omega
        · exact h2 z (List.mem_cons_of_mem _ m)
theorem mxL_is {ns : List Int} {m : Int} (h : mxL ns = some m) : m ∈ ns ∧ ∀ y ∈ ns, y ≤ m := by
  cases ns with
  | nil => cases h
  | cons x r => cases h; exact foldl_max r x
theorem mnL_is {ns : List Int} {m : Int} (h : mnL ns = some m) : m ∈ ns ∧ ∀ y ∈ ns, m ≤ y := by
  cases ns with
  | nil => cases h
  | cons x r => cases h; exact foldl_min r x
end M
namespace M
open PySem L2 PySem.Spec PyProof.Rows
/-! ### a try whose body raises nothing -/
section
variable {X : Cx} {ρ : Slots} {G : Go}
theorem m_tryK {body : List Stmt} {h0 : ExceptHandler} {hs : List ExceptHandler} {pos : Pos} (hb : MS X ρ body G) (hX : X.nox = X := by rfl) : MS1 X ρ (.Try body (h0 :: hs) [] [] pos) G := .mk fun Z0 F Z σ H D s g =>
  PS_w (ps_try_thru0 (t := wS X body) (by rw [hX]; exact pss_w)) (hb.run Z0 F Z σ H D s g)
end
/-! ### {k: s, ..}[t], texts -/
def dgT : List (Str × Str) → Str → Option Str
  | [], _ => none
  | (k, v) :: r, s => if s = k then some v else dgT r s
def dgKT (kvs : List (Str × Str)) : List (Key × V) := kvs.map fun p => (.inr p.1, .str p.2)
theorem valV_dgT (s : Str) {v : Str} : ∀ {kvs : List (Str × Str)}, dgT kvs s = some v → valV (dgKT kvs) (.inr s) = some (.str v)
  | [], h => by cases h
  | (k, u) :: r, h => by
    have h : (if s = k then some u else dgT r s) = some v := h
    show valV ((Sum.inr k, V.str u) :: dgKT r) (.inr s) = _
    by_cases e : s = k
    · rw [if_pos e] at h
      injection h with h
      subst h
      exact valV_pos (p := ((Sum.inr k : Key), V.str u)) (by rw [e])
    · rw [if_neg e] at h
      rw [valV_neg (p := ((Sum.inr k : Key), V.str u)) (fun z => e (Sum.inr.inj z).symm)]
      exact valV_dgT s h
theorem mergeK_appT : ∀ (kvs : List (Str × Str)) (acc : List (Key × V)), (∀ p ∈ kvs, valV acc (.inr p.1) = none) → (kvs.map (·.1)).Nodup → mergeK acc (dgKT kvs) = acc ++ dgKT kvs
  | [], acc, _, _ => (List.append_nil _).symm
  | (k, v) :: r, acc, h, nd => by
    show mergeK (putK acc (.inr k) (.str v)) (dgKT r) = acc ++ ((.inr k, .str v) :: dgKT r)
    have hk := h (k, v) List.mem_cons_self
    rw [List.map_cons, List.nodup_cons] at nd
    rw [putK_new _ hk, mergeK_appT r _ (fun p m => ?_) nd.2, List.append_assoc]; rfl
    rw [valV_snoc _ _ _ _ hk, if_neg (fun z => ?_)]
    · exact h p (List.mem_cons_of_mem _ m)
    · exact nd.1 (by rw [← Sum.inr.inj z]; exact List.mem_map_of_mem m)
structure MPt (X : Cx) (pos : Pos) (keys : List (Option Expr)) (values : List Expr) (kvs : List (Str × Str)) : Prop where
  ex : ∃ trs, PPs X pos keys values trs ∧ keys.length = kvs.length ∧ values.length = kvs.length ∧ keys.all (·.isSome) = true ∧ ∀ (σ : L2.St) (H : Hp) (Q : List (V × V) → Hp → Prop), Q ((dgKT kvs).map fun kv => (kV kv.1, kv.2)) H → tPairs trs σ H Q
theorem mpt_nil {X : Cx} {pos : Pos} : MPt X pos [] [] [] := ⟨[], pps_nil, rfl, rfl, rfl, fun _ _ _ q => q⟩
theorem mpt_cons {X : Cx} {pos p1 p2 : Pos} {j1 j2 : Nat} {k v : Str} {ks : List (Option Expr)} {vs : List Expr} {kvs : List (Str × Str)} (h : MPt X pos ks vs kvs) : MPt X pos (some (.Constant (.str k) j1 p1) :: ks) (.Constant (.str v) j2 p2 :: vs) ((k, v) :: kvs) := by
  obtain ⟨trs, p, l1, l2, a, q⟩ := h.ex
  refine ⟨(tC (.str k), tC (.str v)) :: trs, pps_cons pe_str pe_str p, by rw [List.length_cons, List.length_cons, l1], by rw [List.length_cons, List.length_cons, l2], a, fun σ H Q z => q σ H _ z⟩
section
variable {X : Cx} {ρ : Slots} {e : Expr} {pos dpos : Pos} {s v : Str} {keys : List (Option Expr)} {values : List Expr} {kvs : List (Str × Str)}
theorem me_dixT (hu : X.A.units + 64 < cLine) (m : MPt X dpos keys values kvs) (h : dgT kvs s = some v) (he : ME X ρ e (.fz (.str s))) (nd : (kvs.map (·.1)).Nodup := by decide) (h0 : kvs.length ≠ 0 ∧ kvs.length ≤ 15 := by decide)
    (hs : NoSl e := by exact fun _ _ => rfl) : ME X ρ (.Subscript (.Dict keys values dpos) e pos) (.fz (.str v)) := by
  obtain ⟨trs, p, l1, l2, a, q⟩ := m.ex
  refine .mk fun Z0 F Z σ H st Q qq => PE_w (pe_dget (by omega) (pe_disp p a (l1.trans l2.symm) (fun z => h0.1 (by rw [← l1, z]; rfl)) (by rw [l1]; exact h0.2)) pe_w hs) fun x hx => q σ _ _ ⟨upd_same, dgKT kvs, rfl, by show (List.map _ kvs).length ≤ 15; rw [List.length_map]; exact h0.2, ?_⟩
  rw [mergeK_appT kvs [] (fun _ _ => rfl) nd, List.nil_append]
  rw [show upd (upd H x (.dK [])) x (.dK (dgKT kvs)) = upd H x (.dK (dgKT kvs)) from by funext b; by_cases hb : b = x <;> simp [upd, hb]]
  have g0 : Gr Z H Z (upd H x (.dK (dgKT kvs))) := Gr.new st.ex hx
  have s1 := st.grow g0
  refine he.run Z0 F Z σ _ s1 _ fun u Z1 H1 A1 g1 r1 n1 => ?_
  cases r1 with
  | fz r1 => cases r1 with
    | str =>
      have hd : H1 x = some (.dK (dgKT kvs)) := g1.hh _ _ upd_same
      have hg := DGet.k (k := .inr s) hd
      rw [valV_dgT s h] at hg
      exact ⟨_, _, rfl, hg, qq _ Z1 H1 [] (g0.trans g1) (.fz (.str _)) .nil⟩
end
/-! ### {k: i, ..}[t] -/
def dgO : List (Str × Int) → Str → Option Int
  | [], _ => none
  | (k, v) :: r, s => if s = k then some v else dgO r s
theorem valV_dgO (s : Str) {v : Int} : ∀ {kvs : List (Str × Int)}, dgO kvs s = some v → valV (dgK kvs) (.inr s) = some (.int v)
  | [], h => by cases h
  | (k, u) :: r, h => by
    have h : (if s = k then some u else dgO r s) = some v := h
    show valV ((Sum.inr k, V.int u) :: dgK r) (.inr s) = _
    by_cases e : s = k
    · rw [if_pos e] at h
      injection h with h
      subst h
      exact valV_pos (p := ((Sum.inr k : Key), V.int u)) (by rw [e])
    · rw [if_neg e] at h
      rw [valV_neg (p := ((Sum.inr k : Key), V.int u)) (fun z => e (Sum.inr.inj z).symm)]
      exact valV_dgO s h
section
variable {X : Cx} {ρ : Slots} {e : Expr} {pos dpos : Pos} {s : Str} {v : Int} {keys : List (Option Expr)} {values : List Expr} {kvs : List (Str × Int)}
theorem me_dixI (hu : X.A.units + 64 < cLine) (m : MPs X dpos keys values kvs) (h : dgO kvs s = some v) (he : ME X ρ e (.fz (.str s))) (nd : (kvs.map (·.1)).Nodup := by decide) (h0 : kvs.length ≠ 0 ∧ kvs.length ≤ 15 := by decide)
    (hs : NoSl e := by exact fun _ _ => rfl) : ME X ρ (.Subscript (.Dict keys values dpos) e pos) (.fz (.int v)) := by
  obtain ⟨trs, p, l1, l2, a, q⟩ := m.ex
  refine .mk fun Z0 F Z σ H st Q qq => PE_w (pe_dget (by omega) (pe_disp p a (l1.trans l2.symm) (fun z => h0.1 (by rw [← l1, z]; rfl)) (by rw [l1]; exact h0.2)) pe_w hs) fun x hx => q σ _ _ ⟨upd_same, dgK kvs, rfl, by show (List.map _ kvs).length ≤ 15; rw [List.length_map]; exact h0.2, ?_⟩
  rw [mergeK_app kvs [] (fun _ _ => rfl) nd, List.nil_append]
  rw [show upd (upd H x (.dK [])) x (.dK (dgK kvs)) = upd H x (.dK (dgK kvs)) from by funext b; by_cases hb : b = x <;> simp [upd, hb]]
  have g0 : Gr Z H Z (upd H x (.dK (dgK kvs))) := Gr.new st.ex hx
  have s1 := st.grow g0
  refine he.run Z0 F Z σ _ s1 _ fun u Z1 H1 A1 g1 r1 n1 => ?_
  cases r1 with
  | fz r1 => cases r1 with
    | str =>
      have hd : H1 x = some (.dK (dgK kvs)) := g1.hh _ _ upd_same
      have hg := DGet.k (k := .inr s) hd
      rw [valV_dgO s h] at hg
      exact ⟨_, _, rfl, hg, qq _ Z1 H1 [] (g0.trans g1) (.fz (.int _)) .nil⟩
end
end M
namespace M
open PySem L2 PySem.Spec PyProof.Rows
/-! ### what a thing is just now -/
section
variable {K : PySem.W.Frag} {Z F H : Hp}
mutual
theorem RepK.rep (e : Ex Z H) (f : Ex F H) : ∀ {v : V} {o : O}, RepK K Z F v o → Rep K H v o.frz
  | _, _, .fz h => h.mono e
  | _, _, .vw h r => .lst (ex_l f h) (r.mono e)
  | _, _, .vwa h r => .lst (ex_l f h) (r.mono e)
  | _, .lk o, .lk h => RepK.rep (o := o) e f h
  | _, _, .lst h r => .lst (SqL.of (f _ _ h)) (RepKL.rep e f r)
  | _, _, .tup h r => .tup (SqT.of (f _ _ h)) (RepKL.rep e f r)
  | _, _, .ins h r => .ins (f _ _ h) (RepKL.rep e f r)
  | _, .loc _ o, .loc h => RepK.rep (o := o) e f h
  | _, _, .pt => .opq _
  | _, _, .at h r => .ins (f _ _ h) (RepKL.rep e f r)
  | _, _, .dct h r => .dct (f _ _ h) (RepKL.rep e f r)
  | _, _, .dctT h r => .dctT (f _ _ h) (RepKL.rep e f r)
theorem RepKL.rep (e : Ex Z H) (f : Ex F H) : ∀ {vs : List V} {os : List O}, RepKL K Z F vs os → RepL K H vs (O.frzL os)
  | _, _, .nil => .nil
  | _, _, .cons h r => .cons (RepK.rep e f h) (RepKL.rep e f r)
end
mutual
theorem RepO.rep (e : Ex Z H) (f : Ex F H) : ∀ {v : V} {o : O} {A : List Addr}, RepO K Z F H v o A → Rep K H v o.frz
  | _, _, _, .fz h => h.mono e
  | _, _, _, .vw h r => .lst (ex_l f h) (r.mono e)
  | _, _, _, .vwa h r => .lst (ex_l f h) (r.mono e)
  | _, .lk o, _, .lk h => RepK.rep (o := o) e f h
  | _, _, _, .lst h r => .lst (SqL.of h) (RepOL.rep e f r)
  | _, _, _, .tup h r => .tup (SqT.of h) (RepOL.rep e f r)
  | _, _, _, .ins h r => .ins h (RepOL.rep e f r)
  | _, .loc _ o, _, .loc h => RepO.rep (o := o) e f h
  | _, _, _, .pt => .opq _
  | _, _, _, .at h r => .ins h (RepOL.rep e f r)
  | _, _, _, .dct h r => .dct h (RepOL.rep e f r)
  | _, _, _, .dctT h r => .dctT h (RepOL.rep e f r)
theorem RepOL.rep (e : Ex Z H) (f : Ex F H) : ∀ {vs : List V} {os : List O} {A : List Addr}, RepOL K Z F H vs os A → RepL K H vs (O.frzL os)
  | _, _, _, .nil => .nil
  | _, _, _, .cons h r => .cons (RepO.rep e f h) (RepOL.rep e f r)
end
end
/-- an expression that tells a thing, which is d now -/
structure MD (X : Cx) (ρ : Slots) (e : Expr) (d : D) : Prop where
  run : ∀ (Z0 F Z : Hp) (σ : L2.St) (H : Hp), StR X.K ρ Z0 F Z σ H → ∀ Q : VK, (∀ v Z' H', Gr Z H Z' H' → Rep X.K H' v d → Q v H') → wE X e σ H Q
/-! ### tables as lists of pairs -/
section
variable {κ : Type} [DecidableEq κ] {β γ : Type}
def lkp (m : List (κ × β)) (k : κ) : Option β := (m.find? fun p => decide (p.1 = k)).map (·.2)
def ptk (m : List (κ × β)) (k : κ) (y : β) : List (κ × β) := if (m.any fun p => decide (p.1 = k)) = true then m.map (fun p => if p.1 = k then (p.1, y) else p) else m ++ [(k, y)]
theorem lkp_V (m : List (κ × V)) (k : κ) : valV m k = lkp m k := rfl
theorem lkp_pos {p : κ × β} {r : List (κ × β)} {k : κ} (e : p.1 = k) : lkp (p :: r) k = some p.2 := by simp [lkp, List.find?_cons, e]
theorem lkp_neg {p : κ × β} {r : List (κ × β)} {k : κ} (e : ¬ p.1 = k) : lkp (p :: r) k = lkp r k := by simp [lkp, List.find?_cons, e]
theorem lkp_any (m : List (κ × β)) (k : κ) : (m.any fun p => decide (p.1 = k)) = (lkp m k).isSome := by
  induction m with
  | nil => rfl
  | cons p r ih =>
    rw [List.any_cons]
    by_cases e : p.1 = k
    · simp only [lkp_pos e, decide_eq_true e, Bool.true_or, Option.isSome_some]
    · rw [lkp_neg e, decide_eq_false e, Bool.false_or, ih]
theorem lkp_map (k j : κ) (y : β) (m : List (κ × β)) : lkp (m.map fun p => if p.1 = k then (p.1, y) else p) j = (lkp m j).map fun x => if j = k then y else x := by
  induction m with
  | nil => rfl
  | cons p r ih =>
    rw [List.map_cons]
    by_cases h : p.1 = k
    · rw [if_pos h]
      by_cases e : p.1 = j
      · rw [lkp_pos (p := (p.1, y)) e, lkp_pos e, Option.map_some, if_pos (e.symm.trans h)]
      · rw [lkp_neg (p := (p.1, y)) e, lkp_neg e, ih]
    · rw [if_neg h]
      by_cases e : p.1 = j
      · rw [lkp_pos (p := p) e, lkp_pos e, Option.map_some, if_neg (fun z => h (e.trans z))]
      · rw [lkp_neg (p := p) e, lkp_neg e, ih]
theorem lkp_app (k j : κ) (y : β) : ∀ m : List (κ × β), lkp m k = none → lkp (m ++ [(k, y)]) j = if j = k then some y else lkp m j
  | [], _ => by
    by_cases e : k = j
    · rw [if_pos e.symm]; exact lkp_pos (p := (k, y)) e
    · rw [if_neg (fun z => e z.symm)]; exact lkp_neg (p := (k, y)) e
  | p :: r, hn => by
    rw [List.cons_append]
    have hk : ¬ p.1 = k := fun z => by rw [lkp_pos z] at hn; cases hn
    rw [lkp_neg hk] at hn
    have ih := lkp_app k j y r hn
    by_cases e : p.1 = j
    · rw [lkp_pos e, lkp_pos e, if_neg (fun z => hk (e.trans z))]
    · rw [lkp_neg e, lkp_neg e, ih]
theorem lkp_ptk (m : List (κ × β)) (k j : κ) (y : β) : lkp (ptk m k y) j = if j = k then some y else lkp m j := by
  unfold ptk
  rw [lkp_any]
  cases h : lkp m k with
  | none => rw [if_neg (by simp), lkp_app k j y m h]
  | some x =>
    rw [if_pos (by rfl), lkp_map]
    by_cases e : j = k
    · subst e; rw [h, if_pos rfl]; simp
    · rw [if_neg e]; cases lkp m j <;> simp [e]
theorem ptk_len (m : List (κ × β)) (k : κ) (y : β) : (ptk m k y).length ≤ m.length + 1 := by
  unfold ptk
  split
  · rw [List.length_map]; omega
  · rw [List.length_append]; exact Nat.le_refl _
/-- tables alike: entry by entry -/
def Tb (P : β → γ → Prop) : List (κ × β) → List (κ × γ) → Prop
  | [], [] => True
  | p :: r, q :: t => p.1 = q.1 ∧ P p.2 q.2 ∧ Tb P r t
  | _, _ => False
theorem Tb.lkp {P : β → γ → Prop} (k : κ) : ∀ {m : List (κ × β)} {n : List (κ × γ)}, Tb P m n → (lkp m k = none ∧ lkp n k = none) ∨ ∃ x y, lkp m k = some x ∧ lkp n k = some y ∧ P x y
  | [], [], _ => .inl ⟨rfl, rfl⟩
  | p :: r, q :: t, h => by
    obtain ⟨h1, h2, h3⟩ := h
    by_cases e : p.1 = k
    · exact .inr ⟨p.2, q.2, lkp_pos e, lkp_pos (h1.symm.trans e), h2⟩
    · rw [lkp_neg e, lkp_neg (fun z => e (h1.trans z))]
      exact Tb.lkp k h3
theorem Tb.ptk {P : β → γ → Prop} {x : β} {y : γ} (hxy : P x y) (k : κ) {m : List (κ × β)} {n : List (κ × γ)} (h : Tb P m n) : Tb P (ptk m k x) (M.ptk n k y) := by
  have mp : ∀ {m : List (κ × β)} {n : List (κ × γ)}, Tb P m n → Tb P (m.map fun p => if p.1 = k then (p.1, x) else p) (n.map fun p => if p.1 = k then (p.1, y) else p) := by
    intro m
    induction m with
    | nil => intro n h; cases n with
      | nil => exact trivial
      | cons => exact h.elim
    | cons p r ih => intro n h; cases n with
      | nil => exact h.elim
      | cons q t =>
        obtain ⟨h1, h2, h3⟩ := h
        rw [List.map_cons, List.map_cons]
        by_cases e : p.1 = k
        · rw [if_pos e, if_pos (h1.symm.trans e)]; exact ⟨h1, hxy, ih h3⟩
        · rw [if_neg e, if_neg (fun z => e (h1.trans z))]; exact ⟨h1, h2, ih h3⟩
  have ap : ∀ {m : List (κ × β)} {n : List (κ × γ)}, Tb P m n → Tb P (m ++ [(k, x)]) (n ++ [(k, y)]) := by
    intro m
    induction m with
    | nil => intro n h; cases n with
      | nil => exact ⟨rfl, hxy, trivial⟩
      | cons => exact h.elim
    | cons p r ih => intro n h; cases n with
      | nil => exact h.elim
      | cons q t => exact ⟨h.1, h.2.1, ih h.2.2⟩
  have an : (m.any fun p => decide (p.1 = k)) = (n.any fun p => decide (p.1 = k)) := by
    rw [lkp_any, lkp_any]
    rcases h.lkp k with ⟨a, b⟩ | ⟨_, _, a, b, _⟩ <;> rw [a, b] <;> rfl
  unfold M.ptk
  rw [an]
  split
  · exact mp h
  · exact ap h
theorem zip_map (m : List (κ × β)) : (m.map (·.1)).zip (m.map (·.2)) = m := by
  induction m with
  | nil => rfl
  | cons p r ih => rw [List.map_cons, List.map_cons, List.zip_cons_cons, ih]
end
theorem RepL.tb {K : PySem.W.Frag} {Z : Hp} {κ : Type} [DecidableEq κ] : ∀ {m : List (κ × D)} {vs : List V}, RepL K Z vs (m.map (·.2)) → Tb (fun d v => Rep K Z v d) m ((m.map (·.1)).zip vs)
  | [], _, .nil => trivial
  | p :: r, _, .cons h t => ⟨rfl, h, RepL.tb t⟩
theorem Tb.repL {K : PySem.W.Frag} {Z : Hp} {κ : Type} [DecidableEq κ] : ∀ {m : List (κ × D)} {n : List (κ × V)}, Tb (fun d v => Rep K Z v d) m n → n = (m.map (·.1)).zip (n.map (·.2)) ∧ RepL K Z (n.map (·.2)) (m.map (·.2))
  | [], [], _ => ⟨rfl, .nil⟩
  | p :: r, q :: t, h => by
    obtain ⟨h1, h2⟩ := Tb.repL h.2.2
    refine ⟨?_, .cons h.2.1 h2⟩
    rw [List.map_cons, List.map_cons, List.zip_cons_cons, ← h1, h.1]
/-! ### keys -/
def keyD : D → Option Key
  | .int i => some (.inl i)
  | .str x => some (.inr x)
  | _ => none
def keysD : List D → Option (List Key)
  | [] => some []
  | d :: r => (keyD d).bind fun k => (keysD r).map fun t => k :: t
theorem key_V {K : PySem.W.Frag} {Z : Hp} {v : V} {d : D} {k : Key} (h : keyD d = some k) (r : Rep K Z v d) : v = kV k := by
  cases r with
  | int i => cases h; rfl
  | str x => cases h; rfl
  | _ => cases h
theorem keys_V {K : PySem.W.Frag} {Z : Hp} : ∀ {ds : List D} {vs : List V} {k : List Key}, keysD ds = some k → RepL K Z vs ds → vs = k.map kV
  | [], _, _, h, .nil => by cases h; rfl
  | d :: r, _, _, h, .cons a b => by
    unfold keysD at h
    obtain ⟨k0, h1, h2⟩ := Option.bind_eq_some_iff.mp h
    obtain ⟨t, h3, rfl⟩ := Option.map_eq_some_iff.mp h2
    rw [key_V h1 a, keys_V h3 b]; rfl
/-! ### own tables in slots: entries frozen -/
def oK (m : List (Key × D)) : O := .dct (m.map (·.1)) ((m.map (·.2)).map .fz)
def oT (m : List (List Key × D)) : O := .dctT (m.map (·.1)) ((m.map (·.2)).map .fz)
section
variable {X : Cx} {ρ : Slots} {R : O → Slots} {e e1 e2 f o a : Expr} {es : List Expr} {d y : D} {ds vs : List D} {pos p1 p2 p3 apos cpos : Pos} {C : Addr} {ns : List Str} {nm : Str} {oo : O} {G : Go}
theorem MV.now (h : MV X ρ e oo) : MD X ρ e oo.frz := .mk fun Z0 F Z σ H s Q q => h.run Z0 F Z σ H s Q fun v Z' H' A g r => q v Z' H' g (r.rep g.zh (s.gr.hh.trans g.hh))
theorem MD.toI {i : Int} (h : MD X ρ e (.int i)) : ME X ρ e (.fz (.int i)) := .mk fun Z0 F Z σ H s Q q => h.run Z0 F Z σ H s Q fun v Z' H' g r => by
  cases r
  exact q _ Z' H' [] g (.fz (.int _)) .nil
theorem MD.toB {b : Bool} (h : MD X ρ e (.bl b)) : ME X ρ e (.fz (.bl b)) := .mk fun Z0 F Z σ H s Q q => h.run Z0 F Z σ H s Q fun v Z' H' g r => by
  cases r
  exact q _ Z' H' [] g (.fz (.bl _)) .nil
theorem md_fld {j : Nat} (h : MD X ρ e (.ins C ns ds)) (cc : OC X.K C ns) (hd : ds[j]? = some d := by rfl) (hj : nmAt ns nm = some j := by decide +kernel) (hb : attributeBase e nm X.env (eval e X.env) = eval e X.env := by rfl) : MD X ρ (.Attribute e nm pos) d := .mk fun Z0 F Z σ H s Q q =>
  PE_w (pe_fld pe_w hb) (h.run Z0 F Z σ H s _ fun v Z1 H1 g1 r1 => by
    cases r1 with
    | @ins a C dx ns vs ds hz rl =>
      obtain ⟨v, hv, rv⟩ := rl.get hd
      exact ⟨a, C, dx, _, v, rfl, hz, cc.cl, cc.na nm (nmAt_mem hj), look_zip hj hv, q v Z1 H1 g1 rv⟩)
/-- an own tuple of frozen things -/
theorem me_tupO {n : Nat} (h : MF X ρ es ds) (hl : ds.length ≤ 1000 := by first | decide | (simp; done)) : ME X ρ (.Tuple es n pos) (.tup (ds.map .fz)) := .mk fun Z0 F Z σ H s Q q =>
  PE_w (pe_tup pa_w) (h.run Z0 F Z σ H s _ fun vs Z1 H1 g1 r1 => ⟨(by rw [r1.length]; exact Nat.le_of_lt (small1000 hl)), fun p hp => by
    refine q _ Z1 _ [p] (g1.trans (Gr.new g1.zh hp)) (.tup upd_same r1.own) (new_one (g1.hh.free hp) (g1.zh.free hp))⟩)
theorem me_dct0 : ME X ρ (.Dict [] [] pos) (oK []) := .mk fun Z0 F Z σ H s Q q => PE_w pe_dnewK fun p hp => by
  refine q (.ref p) Z _ [p] (Gr.new s.ex hp) (.dct (ks := []) (vs := []) upd_same .nil) (new_one hp (s.ex.free hp))
theorem me_dctT0 : ME X ρ (.Dict [] [] pos) (oT []) := .mk fun Z0 F Z σ H s Q q => PE_w pe_dnewT fun p hp => by
  refine q (.ref p) Z _ [p] (Gr.new s.ex hp) (.dctT (ks := []) (vs := []) upd_same .nil) (new_one hp (s.ex.free hp))
/-- d.get(k, y): the thing now -/
theorem md_getK {m : List (Key × D)} {dk : D} {k : Key} (hu : X.A.units + 64 < cLine) (hd : MD X ρ o (.dct (m.map (·.1)) (m.map (·.2)))) (he : ME X ρ e (.fz dk)) (hk : keyD dk = some k) (hf : ME X ρ f (.fz y)) (m2 : M2 X o "get" apos e f cpos := by exact ⟨rfl, rfl, rfl, rfl⟩) :
    MD X ρ (.Call (.Attribute o "get" apos) [e, f] [] cpos) ((lkp m k).getD y) := .mk fun Z0 F Z σ H s Q q =>
  PE_w (pe_dget2 (by omega) pe_w pe_w pe_w m2) (hd.run Z0 F Z σ H s _ fun v Z1 H1 g1 r1 => by
    cases r1 with
    | @dct a _ vs _ h0 rl =>
      refine ⟨a, rfl, .inl ⟨_, .inl h0⟩, he.run Z0 F Z1 σ H1 (s.grow g1) _ fun u Z2 H2 A2 g2 r2 n2 => hf.run Z0 F Z2 σ H2 ((s.grow g1).grow g2) _ fun w Z3 H3 A3 g3 r3 n3 => ?_⟩
      cases r2 with
      | fz r2 =>
        cases r3 with
        | fz r3 =>
          rw [key_V hk r2]
          have g23 := g2.trans g3
          refine ⟨_, DGet.k (g23.hh _ _ h0), q _ Z3 H3 (g1.trans g23) ?_⟩
          rw [lkp_V]
          rcases (rl.mono g23.hh).tb.lkp k with ⟨q1, q2⟩ | ⟨x, z, q1, q2, q3⟩
          · rw [q1, q2]; exact r3.mono g3.zh
          · rw [q1, q2]; exact q3)
theorem md_getT {m : List (List Key × D)} {k : List Key} (hu : X.A.units + 64 < cLine) (hd : MD X ρ o (.dctT (m.map (·.1)) (m.map (·.2)))) (he : MV X ρ e (.tup (ds.map .fz))) (hk : keysD ds = some k) (hf : ME X ρ f (.fz y)) (m2 : M2 X o "get" apos e f cpos := by exact ⟨rfl, rfl, rfl, rfl⟩) :
    MD X ρ (.Call (.Attribute o "get" apos) [e, f] [] cpos) ((lkp m k).getD y) := .mk fun Z0 F Z σ H s Q q =>
  PE_w (pe_dget2 (by omega) pe_w pe_w pe_w m2) (hd.run Z0 F Z σ H s _ fun v Z1 H1 g1 r1 => by
    cases r1 with
    | @dctT a _ vs _ h0 rl =>
      refine ⟨a, rfl, .inr ⟨_, .inl h0⟩, he.run Z0 F Z1 σ H1 (s.grow g1) _ fun u Z2 H2 A2 g2 r2 => hf.run Z0 F Z2 σ H2 ((s.grow g1).grow g2) _ fun w Z3 H3 A3 g3 r3 n3 => ?_⟩
      cases r2 with
      | @tup b ws _ _ hb rb =>
        cases r3 with
        | fz r3 =>
          obtain ⟨_, rz⟩ := rb.fzs
          have ew := keys_V hk rz
          subst ew
          have g23 := g2.trans g3
          refine ⟨_, DGet.t (g23.hh _ _ h0) (g3.hh _ _ hb), q _ Z3 H3 (g1.trans g23) ?_⟩
          rw [lkp_V]
          rcases (rl.mono g23.hh).tb.lkp k with ⟨q1, q2⟩ | ⟨x, z, q1, q2, q3⟩
          · rw [q1, q2]; exact r3.mono g3.zh
          · rw [q1, q2]; exact q3)
/-- .. of own tables with frozen entries -/
theorem me_getK {m : List (Key × D)} {dk : D} {k : Key} (hu : X.A.units + 64 < cLine) (hd : MV X ρ o (oK m)) (he : ME X ρ e (.fz dk)) (hk : keyD dk = some k) (hf : ME X ρ f (.fz y)) (m2 : M2 X o "get" apos e f cpos := by exact ⟨rfl, rfl, rfl, rfl⟩) :
    ME X ρ (.Call (.Attribute o "get" apos) [e, f] [] cpos) (.fz ((lkp m k).getD y)) := .mk fun Z0 F Z σ H s Q q =>
  PE_w (pe_dget2 (by omega) pe_w pe_w pe_w m2) (hd.run Z0 F Z σ H s _ fun v Z1 H1 A1 g1 r1 => by
    cases r1 with
    | @dct a _ vs _ _ h0 rl =>
      refine ⟨a, rfl, .inl ⟨_, .inl h0⟩, he.run Z0 F Z1 σ H1 (s.grow g1) _ fun u Z2 H2 A2 g2 r2 n2 => hf.run Z0 F Z2 σ H2 ((s.grow g1).grow g2) _ fun w Z3 H3 A3 g3 r3 n3 => ?_⟩
      cases r2 with
      | fz r2 =>
        cases r3 with
        | fz r3 =>
          rw [key_V hk r2]
          have g23 := g2.trans g3
          refine ⟨_, DGet.k (g23.hh _ _ h0), q _ Z3 H3 [] (g1.trans g23) (.fz ?_) .nil⟩
          rw [lkp_V]
          rcases (rl.fzs.2.mono g23.zz).tb.lkp k with ⟨q1, q2⟩ | ⟨x, z, q1, q2, q3⟩
          · rw [q1, q2]; exact r3
          · rw [q1, q2]; exact q3)
theorem me_getT {m : List (List Key × D)} {k : List Key} (hu : X.A.units + 64 < cLine) (hd : MV X ρ o (oT m)) (he : MV X ρ e (.tup (ds.map .fz))) (hk : keysD ds = some k) (hf : ME X ρ f (.fz y)) (m2 : M2 X o "get" apos e f cpos := by exact ⟨rfl, rfl, rfl, rfl⟩) :
    ME X ρ (.Call (.Attribute o "get" apos) [e, f] [] cpos) (.fz ((lkp m k).getD y)) := .mk fun Z0 F Z σ H s Q q =>
  PE_w (pe_dget2 (by omega) pe_w pe_w pe_w m2) (hd.run Z0 F Z σ H s _ fun v Z1 H1 A1 g1 r1 => by
    cases r1 with
    | @dctT a _ vs _ _ h0 rl =>
      refine ⟨a, rfl, .inr ⟨_, .inl h0⟩, he.run Z0 F Z1 σ H1 (s.grow g1) _ fun u Z2 H2 A2 g2 r2 => hf.run Z0 F Z2 σ H2 ((s.grow g1).grow g2) _ fun w Z3 H3 A3 g3 r3 n3 => ?_⟩
      cases r2 with
      | @tup b ws _ _ hb rb =>
        cases r3 with
        | fz r3 =>
          obtain ⟨_, rz⟩ := rb.fzs
          have ew := keys_V hk rz
          subst ew
          have g23 := g2.trans g3
          refine ⟨_, DGet.t (g23.hh _ _ h0) (g3.hh _ _ hb), q _ Z3 H3 [] (g1.trans g23) (.fz ?_) .nil⟩
          rw [lkp_V]
          rcases (rl.fzs.2.mono g23.zz).tb.lkp k with ⟨q1, q2⟩ | ⟨x, z, q1, q2, q3⟩
          · rw [q1, q2]; exact r3
          · rw [q1, q2]; exact q3)
/-- p[e] = v -/
theorem m_putK {m : List (Key × D)} {dk : D} {k : Key} (hu : X.A.units + 64 < cLine) (h : MQ X ρ a (oK m) R) (he : ME X ρ e (.fz dk)) (hk : keyD dk = some k) (hv : ME X ρ f (.fz y)) (hl : m.length < sizeLine) (kk : G.nx (R (oK (ptk m k y))))
    (hs : swapsWith f (some (.Subscript a e p1)) p2.line X.env = pure false := by rfl) : MS1 X ρ (.Assign [.Subscript a e p1] f p2) G := .mk fun Z0 F Z σ H D s g => by
  obtain ⟨T, s⟩ := s.a
  refine PS_w (ps_dput (by omega) pe_w pe_w pe_w hs) (hv.run Z0 F Z σ H s.r _ fun w Z1 H1 A1 g1 r1 n1 => h.run Z0 F Z1 σ H1 T (s.grow g1) _ fun v Z2 H2 g2 fc => he.run Z0 F Z2 σ H2 ((s.grow g1).grow g2).r _ fun u Z3 H3 A3 g3 r3 n3 => ?_)
  cases r1 with
  | fz r1 =>
    cases r3 with
    | fz r3 =>
      obtain ⟨A, fc⟩ := fc.grow g3
      obtain ⟨l, _, vs, A1', _, rfl, rfl, h0, rl⟩ := hm_dct.mp fc.rp
      obtain ⟨eA, rz⟩ := rl.fzs
      subst eA
      have t := (Tb.ptk (P := fun d v => Rep X.K Z3 v d) ((r1.mono g2.zz).mono g3.zz) k rz.tb).repL
      rw [key_V hk r3]
      refine ⟨l, _, rfl, DPut.k h0 (by rw [List.length_zip, rz.length, List.length_map, List.length_map, Nat.min_self]; exact hl), g.nx _ Z3 σ _ kk ?_⟩
      have ep : putK ((m.map (·.1)).zip vs) k w = ptk ((m.map (·.1)).zip vs) k w := rfl
      rw [ep, t.1]
      exact fc.mut g3.zh List.mem_cons_self (.dct upd_same t.2.own) (by simp) fun b mb => .inl mb
theorem m_putT {m : List (List Key × D)} {k : List Key} (hu : X.A.units + 64 < cLine) (h : MQ X ρ a (oT m) R) (he : MV X ρ e (.tup (ds.map .fz))) (hk : keysD ds = some k) (hv : ME X ρ f (.fz y)) (hl : m.length < sizeLine) (kk : G.nx (R (oT (ptk m k y))))
    (hs : swapsWith f (some (.Subscript a e p1)) p2.line X.env = pure false := by rfl) : MS1 X ρ (.Assign [.Subscript a e p1] f p2) G := .mk fun Z0 F Z σ H D s g => by
  obtain ⟨T, s⟩ := s.a
  refine PS_w (ps_dput (by omega) pe_w pe_w pe_w hs) (hv.run Z0 F Z σ H s.r _ fun w Z1 H1 A1 g1 r1 n1 => h.run Z0 F Z1 σ H1 T (s.grow g1) _ fun v Z2 H2 g2 fc => he.run Z0 F Z2 σ H2 ((s.grow g1).grow g2).r _ fun u Z3 H3 A3 g3 r3 => ?_)
  cases r1 with
  | fz r1 =>
    cases r3 with
    | @tup b ws _ _ hb rb =>
      obtain ⟨_, rzb⟩ := rb.fzs
      have ew := keys_V hk rzb
      subst ew
      obtain ⟨A, fc⟩ := fc.grow g3
      obtain ⟨l, _, vs, A1', _, rfl, rfl, h0, rl⟩ := hm_dctT.mp fc.rp
      obtain ⟨eA, rz⟩ := rl.fzs
      subst eA
      have t := (Tb.ptk (P := fun d v => Rep X.K Z3 v d) ((r1.mono g2.zz).mono g3.zz) k rz.tb).repL
      refine ⟨l, _, rfl, DPut.t h0 hb (by rw [List.length_zip, rz.length, List.length_map, List.length_map, Nat.min_self]; exact hl), g.nx _ Z3 σ _ kk ?_⟩
      have ep : putK ((m.map (·.1)).zip vs) k w = ptk ((m.map (·.1)).zip vs) k w := rfl
      rw [ep, t.1]
      exact fc.mut g3.zh List.mem_cons_self (.dctT upd_same t.2.own) (by simp) fun b mb => .inl mb
end
end M
namespace M
open PySem L2 PySem.Spec PyProof.Rows
/-! ### setdefault with a tuple as the key -/
section
variable {X : Cx} {pins : List (Addr × Obj)} {σ : L2.St} {H : Hp} {s : Shared} {a b : Addr} {r : Value} {d : V} {k : List Key} {A : Around} {E : Value → Shared → Prop}
theorem d_setdT {kvs : List (List Key × V)} {Q : Value → Shared → Prop} (hu : A.units + 1 < cLine) (I : Inv X pins σ H s) (e : H a = some (.dT kvs)) (eb : H b = some (.tup (k.map kV))) (rd : RelV d r) (hl : kvs.length < sizeLine)
    (h1 : ∀ v, valV kvs k = some v → ∀ (w' : Value) (s' : Shared), Inv X pins σ H s' → RelV v w' → Q w' s') (h2 : valV kvs k = none → ∀ (w' : Value) (s' : Shared), Inv X pins σ (upd H a (.dT (putK kvs k d))) s' → RelV d w' → Q w' s') :
    wpAny (model X.prog X.w) A (call (.builtin "dict.setdefault") [.ref a, .ref b, r]) Q E s := by
  obtain ⟨z, hd, xs, rel, dd⟩ := dt_of I.hok e
  have hz : xs.length ≤ sizeLine := by rw [← Paired.length rel]; exact z
  refine call_setdefault_heap (hsz := hz) (tupleKind_room_in1 hu) (key_of I.hok eb) hd dd (fun p hp => ?_) fun hn h' dd' hs => ?_
  · have q := rel.val k
    rw [hp] at q
    cases q0 : valV kvs k with
    | none => rw [q0] at q; exact (show False from q).elim
    | some v0 => rw [q0] at q; exact h1 v0 q0 _ _ (I.tok _) q
  · have q := rel.val k
    rw [hn] at q
    cases q0 : valV kvs k with
    | some v0 => rw [q0] at q; exact (show False from q).elim
    | none =>
      have hl2 : (putK kvs k d).length ≤ sizeLine := by
        have := length_putK kvs k d
        omega
      obtain ⟨q, es, ep, hq, h2', h3, h4, _, h5⟩ := dd'
      refine h2 q0 _ _ (d_write I (by rw [e]; exact True.intro) hs ⟨q, hq⟩ ⟨hl2, hd, _, (rel.put k eb rd).keeps fun c ys ec => ?_, q, es, ep, hq, h2', h3, h4, h5⟩) rd
      rw [upd_ne (ne_of ec e (fun z => nomatch z))]
      exact ec
end
def tDSetdT (td ty tx : TE) : TE := fun σ H Q => td σ H fun x H1 => ∃ a, x = .ref a ∧ IsD H1 a ∧ ty σ H1 fun y H2 => tx σ H2 fun z H3 => ∃ (kvs : List (List Key × V)) (k : List Key) (b : Addr), H3 a = some (.dT kvs) ∧ y = .ref b ∧ H3 b = some (.tup (k.map kV)) ∧ kvs.length < sizeLine ∧
  (∀ v, valV kvs k = some v → Q v H3) ∧ (valV kvs k = none → Q z (upd H3 a (.dT (putK kvs k z))))
theorem pe_dsetdT {X : Cx} {o e f : Expr} {td ty tx : TE} {apos cpos : Pos} (hu : X.A.units + 1 < cLine) (ho : PE X o td) (he : PE X e ty) (hf : PE X f tx) (m : M2 X o "setdefault" apos e f cpos) : PE X (.Call (.Attribute o "setdefault" apos) [e, f] [] cpos) (tDSetdT td ty tx) := by
  refine ⟨fun pins s σ H Q I h => ?_⟩
  refine wpAny_Call_method m.base m.few m.line PySem.F.plainAttrs_dict PySem.F.slot_dict_setdefault PySem.F.type_dict_setdefault (thn (ho.run pins s σ H _ I h) fun u s1 ⟨x, H1, I1, rx, a, ex, d, q1⟩ => ?_)
  subst ex
  obtain rfl : u = Value.ref a := rx
  obtain ⟨t1, t2, _⟩ := isD_at I1 d
  refine ⟨t1, t2, ?_⟩
  rw [m.trees]
  refine Calls.callWith_builtin rfl (Calls.evalArgs_plain (Calls.spliced_cons (thn (he.run pins s1 σ H1 _ I1 q1) fun iv s2 ⟨y, H2, I2, ry, q2⟩ =>
    Calls.spliced_cons (thn (hf.run pins s2 σ H2 _ I2 q2) fun fv s3 ⟨z, H3, I3, rz, kvs, k, b, ea, ey, eb, hl, q3, q4⟩ => Calls.spliced_nil ?_))))
  subst ey
  cases (show iv = Value.ref b from ry)
  exact d_setdT hu I3 ea eb rz hl (fun v hv w' s4 I4 rw' => ⟨v, _, I4, rw', q3 v hv⟩) fun hn w' s4 I4 rw' => ⟨z, _, I4, rw', q4 hn⟩
/-! ### the place of a key -/
section
variable {κ : Type} [DecidableEq κ] {β : Type}
def ixk : List (κ × β) → κ → Option Nat
  | [], _ => none
  | p :: r, k => if p.1 = k then some 0 else (ixk r k).map (· + 1)
theorem ixk_val : ∀ {m : List (κ × β)} {vs : List V} {k : κ}, vs.length = m.length → valV ((m.map (·.1)).zip vs) k = (ixk m k).bind fun j => vs[j]?
  | [], [], _, _ => rfl
  | p :: r, v :: vs, k, h => by
    show valV ((p.1, v) :: ((r.map (·.1)).zip vs)) k = _
    unfold ixk
    by_cases e : p.1 = k
    · rw [if_pos e, valV_pos e]; rfl
    · rw [if_neg e, valV_neg e, ixk_val (m := r) (by simpa using h)]
      cases ixk r k <;> rfl
theorem ixk_lt : ∀ {m : List (κ × β)} {k : κ} {j : Nat}, ixk m k = some j → j < m.length
  | p :: r, k, j, h => by
    unfold ixk at h
    by_cases e : p.1 = k
    · rw [if_pos e] at h; cases h; rw [List.length_cons]; omega
    · rw [if_neg e] at h
      obtain ⟨i, h1, rfl⟩ := Option.map_eq_some_iff.mp h
      have := ixk_lt h1
      rw [List.length_cons]; omega
end
/-- the table with a thing at the place of the key, or at the end -/
def tbS {β : Type} (m : List (List Key × β)) (k : List Key) (f : Option β → β) : List (List Key × β) :=
  match ixk m k with
  | some j => m.set j (((m[j]?).map (·.1)).getD k, f ((m[j]?).map (·.2)))
  | none => m ++ [(k, f none)]
abbrev oTab (m : List (List Key × O)) : O := .dctT (m.map (·.1)) (m.map (·.2))
def inl0 (b : Addr) : Option O → O
  | some o => .loc b o
  | none => .loc b (.dct [] [])
section
variable {X : Cx} {ρ ρ' : Slots} {R R' : O → Slots} {e a f call : Expr} {d y : D} {ds : List D} {pos p1 p2 p3 apos cpos dpos : Pos} {i : Nat} {st : Stmt} {sts : List Stmt} {G : Go} {oo o' : O} {nm : Str}
theorem map_set1 {α β : Type} (f : α → β) : ∀ (l : List α) (j : Nat) (x : α), (l.set j x).map f = (l.map f).set j (f x) := fun l j x => List.map_set
/-- x = p.setdefault(k, {}) -/
theorem m_setdef {m : List (List Key × O)} {k : List Key} (p : PS X st (tAsg (wE X (.Call (.Attribute a "setdefault" apos) [e, .Dict [] [] dpos] [] cpos)) (gName i))) (hu : X.A.units + 64 < cLine) (h : MQ X ρ a (oTab m) R) (he : MV X ρ e (.tup (ds.map .fz))) (hk : keysD ds = some k) (hl : m.length < sizeLine) (hall : ∀ q ∈ m, ∃ ks os, q.2 = .dct ks os)
    (kk : ∀ b, G.nx ((R (oTab (tbS m k (inl0 b)))).set i (some (.pt b)))) (hi : ∀ o', i < (R o').length) (m2 : M2 X a "setdefault" apos e (.Dict [] [] dpos) cpos := by exact ⟨rfl, rfl, rfl, rfl⟩) : MS1 X ρ st G := .mk fun Z0 F Z σ H D s g => by
  obtain ⟨T, s⟩ := s.a
  refine PS_w p (PE_w (pe_dsetdT (by omega) pe_w pe_w pe_dnewK m2) (h.run Z0 F Z σ H T s _ fun v Z1 H1 g1 f0 => ?_))
  have fA := f0
  obtain ⟨A, fA⟩ := fA
  obtain ⟨l, _, vs, A1, _, rfl, rfl, h0, rl⟩ := hm_dctT.mp fA.rp
  refine ⟨l, rfl, .inr ⟨_, .inl h0⟩, he.run Z0 F Z1 σ H1 (s.grow g1).r _ fun u Z2 H2 A2 g2 r2 => fun q hq => ?_⟩
  cases r2 with
  | @tup b ws _ _ hb rb =>
    obtain ⟨_, rzb⟩ := rb.fzs
    have ew := keys_V hk rzb
    subst ew
    have g3 : Gr Z2 H2 Z2 (upd H2 q (.dK [])) := Gr.new (g2.zh) hq
    have g23 := g2.trans g3
    have s3 := ((s.grow g1).grow g23)
    have lv : vs.length = m.length := by rw [rl.length, List.length_map]
    refine ⟨_, k, b, g23.hh _ _ h0, rfl, g3.hh _ _ hb, by rw [List.length_zip, lv, List.length_map, Nat.min_self]; exact hl, fun v hv => ?_, fun hv => ?_⟩
    · rw [ixk_val lv] at hv
      obtain ⟨j, hj, hvj⟩ := Option.bind_eq_some_iff.mp hv
      have jl := ixk_lt hj
      have em : m[j]? = some m[j] := List.getElem?_eq_getElem jl
      have eo : (m.map (·.2))[j]? = some m[j].2 := by rw [List.getElem?_map, em]; rfl
      obtain ⟨ks', os', ed⟩ := hall _ (List.getElem_mem jl)
      obtain ⟨A', f3⟩ := f0.grow g23
      obtain ⟨l', _, vs', A1', _, el, rfl, h0', rl'⟩ := hm_dctT.mp f3.rp
      cases el
      have ev : vs' = vs := by
        have z := g23.hh _ _ h0
        rw [h0'] at z
        have z := HO.dT.inj (Option.some.inj z)
        have l1 : vs'.length = (m.map (·.1)).length := by rw [rl'.length, List.length_map, List.length_map]
        have l2 : vs.length = (m.map (·.1)).length := by rw [lv, List.length_map]
        have := congrArg (List.map Prod.snd) z
        rwa [List.map_snd_zip (by omega), List.map_snd_zip (by omega)] at this
      subst ev
      obtain ⟨na, nA⟩ := List.nodup_cons.mp f3.nd
      obtain ⟨v', B, q1, q2, q3, q4, q5⟩ := rl'.foc eo nA
      rw [hvj] at q1
      cases q1
      rw [ed] at q2
      obtain ⟨c, _, vs2, B2, _, rfl, rfl, hc, rl2⟩ := hm_dct.mp q2
      have q2' : RepO X.K Z2 F (upd H2 q (.dK [])) (.ref c) (.loc c m[j].2) (c :: B2) := by rw [ed]; exact .loc q2
      obtain ⟨A3, t1, t2, t3⟩ := q5 (Z' := Z2) (H' := upd H2 q (.dK [])) (Ex.refl _) (fun _ _ _ _ e => e) q2' q3 (fun _ m _ => m)
      have tb : (tbS m k (inl0 c)).map (·.1) = m.map (·.1) ∧ (tbS m k (inl0 c)).map (·.2) = (m.map (·.2)).set j (.loc c m[j].2) := by
        unfold tbS
        rw [hj]
        show (m.set j (((m[j]?).map (·.1)).getD k, inl0 c ((m[j]?).map (·.2)))).map (·.1) = _ ∧ (m.set j (((m[j]?).map (·.1)).getD k, inl0 c ((m[j]?).map (·.2)))).map (·.2) = _
        rw [em, List.map_set, List.map_set]
        refine ⟨?_, rfl⟩
        show (m.map (·.1)).set j m[j].1 = _
        have : (m.map (·.1))[j]? = some m[j].1 := by rw [List.getElem?_map, em]; rfl
        exact (List.ext_getElem? fun i => by
          rw [List.getElem?_set]
          split
          · rename_i hh
            subst hh
            split
            · exact this.symm
            · rename_i hn; rw [List.length_map] at hn; omega
          · rfl)
      have sub : ∀ x ∈ A3, x ∈ A1' := fun x m => (t3 x m).elim (fun z => z.1) fun z => q4 x z
      have st := f3.k (w := .ref c) (p := .pt c) (o' := oTab (tbS m k (inl0 c))) (B := (l :: A3) ++ ([] ++ [])) (Ex.refl _) (fun _ _ => rfl) g3.zh (fun _ _ _ e => e)
        (.cons (by show RepO _ _ _ _ _ (.dctT _ _) _; rw [tb.1, tb.2]; exact .dctT h0' t1) (.cons .pt .nil)) (by rw [List.append_nil, List.append_nil]; exact List.nodup_cons.mpr ⟨fun z => na (sub l z), t2⟩) (fun x m => by
          rw [List.append_nil, List.append_nil] at m
          rcases List.mem_cons.mp m with rfl | m
          · exact ⟨.inl List.mem_cons_self, (f3.ds _ List.mem_cons_self).2.1⟩
          · exact ⟨.inl (List.mem_cons_of_mem _ (sub x m)), (f3.ds x (List.mem_cons_of_mem _ (sub x m))).2.1⟩)
      exact g.nx _ Z2 _ _ (kk c) (st.take (hi _))
    · have hn : ixk m k = none := by
        rw [ixk_val lv] at hv
        cases h' : ixk m k with
        | none => rfl
        | some j =>
          rw [h'] at hv
          have jl := ixk_lt h'
          have hv : vs[j]? = none := hv
          rw [List.getElem?_eq_getElem (by omega)] at hv
          cases hv
      obtain ⟨A', f2⟩ := f0.grow g2
      obtain ⟨l', _, vs', A1', _, el, rfl, h0', rl'⟩ := hm_dctT.mp f2.rp
      cases el
      have ev : vs' = vs := by
        have z := g2.hh _ _ h0
        rw [h0'] at z
        have z := HO.dT.inj (Option.some.inj z)
        have l1 : vs'.length = (m.map (·.1)).length := by rw [rl'.length, List.length_map, List.length_map]
        have l2 : vs.length = (m.map (·.1)).length := by rw [lv, List.length_map]
        have := congrArg (List.map Prod.snd) z
        rwa [List.map_snd_zip (by omega), List.map_snd_zip (by omega)] at this
      subst ev
      obtain ⟨na, nA⟩ := List.nodup_cons.mp f2.nd
      have lq : l ≠ q := fun z => by rw [z, hq] at h0'; cases h0'
      have qA : q ∉ A1' := fun z => by
        obtain ⟨u, hu'⟩ := rl'.there q z
        rw [hq] at hu'; cases hu'
      have qT : q ∉ T := fun z => by
        obtain ⟨u, hu'⟩ := f2.th q z
        rw [hq] at hu'; cases hu'
      have qF : F q = none := f2.fh.free hq
      have qZ : Z2 q = none := g2.zh.free hq
      have ep : putK ((m.map (·.1)).zip vs') k (.ref q) = (m.map (·.1) ++ [k]).zip (vs' ++ [.ref q]) := by
        rw [putK_new _ hv, List.zip_append (by rw [List.length_map, lv])]
        rfl
      rw [ep]
      generalize eH : upd (upd H2 q (.dK [])) l (.dT ((m.map (·.1) ++ [k]).zip (vs' ++ [.ref q]))) = H4
      have hl4 : H4 l = some (.dT ((m.map (·.1) ++ [k]).zip (vs' ++ [.ref q]))) := by rw [← eH]; exact upd_same
      have hq4 : H4 q = some (.dK []) := by rw [← eH, upd_ne lq.symm, upd_same]
      have ho4 : ∀ x, x ≠ l → x ≠ q → H4 x = H2 x := fun x h1 h2 => by rw [← eH, upd_ne h1, upd_ne h2]
      have r1 : RepOL X.K Z2 F H4 vs' (m.map (·.2)) A1' := rl'.mono (Ex.refl _) (Ex.refl _) fun x mx u hu' => by
        rw [ho4 x (fun z => na (z ▸ mx)) (fun z => qA (z ▸ mx))]; exact hu'
      have rq : RepO X.K Z2 F H4 (.ref q) (.loc q (.dct [] [])) [q] := .loc (.dct (ks := []) (vs := []) hq4 .nil)
      have tb : (tbS m k (inl0 q)).map (·.1) = m.map (·.1) ++ [k] ∧ (tbS m k (inl0 q)).map (·.2) = m.map (·.2) ++ [.loc q (.dct [] [])] := by
        unfold tbS
        rw [hn]
        exact ⟨by rw [List.map_append]; rfl, by rw [List.map_append]; rfl⟩
      have zl : Z2 l = none := (f2.ds l List.mem_cons_self).2.1
      have st := f2.k (w := .ref q) (p := .pt q) (o' := oTab (tbS m k (inl0 q))) (B := (l :: (A1' ++ [q])) ++ ([] ++ [])) (Z' := Z2) (H' := H4) (Ex.refl _) (fun _ _ => rfl) (fun x u hx => by
          rw [ho4 x (fun z => by rw [z, zl] at hx; cases hx) (fun z => by rw [z, qZ] at hx; cases hx)]; exact g2.zh x u hx) (fun x kx u hx => by
          rw [ho4 x (fun z => kx.1 (by rw [z]; exact List.mem_cons_self)) (fun z => by rw [z, hq] at hx; cases hx)]; exact hx)
        (.cons (by show RepO _ _ _ _ _ (.dctT _ _) _; rw [tb.1, tb.2]; exact .dctT hl4 (r1.snoc rq)) (.cons .pt .nil)) (by
          rw [List.append_nil, List.append_nil]
          refine List.nodup_cons.mpr ⟨fun z => ?_, List.nodup_append.mpr ⟨nA, by simp, fun x hx y hy e => ?_⟩⟩
          · rcases List.mem_append.mp z with z | z
            · exact na z
            · exact lq (List.mem_singleton.mp z)
          · cases List.mem_singleton.mp hy
            exact qA (e ▸ hx)) (fun x mx => by
          rw [List.append_nil, List.append_nil] at mx
          rcases List.mem_cons.mp mx with rfl | mx
          · exact ⟨.inl List.mem_cons_self, zl⟩
          · rcases List.mem_append.mp mx with mx | mx
            · exact ⟨.inl (List.mem_cons_of_mem _ mx), (f2.ds x (List.mem_cons_of_mem _ mx)).2.1⟩
            · cases List.mem_singleton.mp mx
              exact ⟨.inr ⟨qT, qF⟩, qZ⟩)
      exact g.nx _ Z2 _ _ (kk q) (st.take (hi _))
/-! ### a name for a part of what another slot has -/
structure FP (X : Cx) (ρ : Slots) (b : Addr) (o : O) (R : O → Slots) : Prop where
  run : ∀ (Z0 F Z : Hp) (σ : L2.St) (H : Hp) (T : List Addr), StA X.K ρ Z0 F Z σ H T → Foc X.K Z0 F Z σ H T (.ref b) o R
theorem pt_at {K : PySem.W.Frag} {Z0 F Z H : Hp} {σ : L2.St} {b : Addr} (s : StR K ρ Z0 F Z σ H) (hi : ρ[i]? = some (some (.pt b))) : σ[i]? = some (some (.ref b)) := by
  obtain ⟨T, s⟩ := s.a
  obtain ⟨v, B, q1, q2, _⟩ := s.st.at hi s.nd
  cases q2
  exact q1
theorem mq_pt {b : Addr} (p : PE X (.Name nm pos) (tVar i)) (fp : FP X ρ b oo R) (hi : ρ[i]? = some (some (.pt b))) : MQ X ρ (.Name nm pos) oo R := .mk fun Z0 F Z σ H T s Q q =>
  PE_w p ⟨_, pt_at s.r hi, q _ Z H (Gr.refl s.gr.zh) (fp.run Z0 F Z σ H T s)⟩
theorem mv_pt {b : Addr} (p : PE X (.Name nm pos) (tVar i)) (fp : FP X ρ b oo R) (hi : ρ[i]? = some (some (.pt b))) : MV X ρ (.Name nm pos) oo := .mk fun Z0 F Z σ H s Q q => by
  obtain ⟨T, s⟩ := s.a
  obtain ⟨A, f⟩ := fp.run Z0 F Z σ H T s
  exact PE_w p ⟨_, pt_at s.r hi, q _ Z H A (Gr.refl s.gr.zh) f.rp⟩
theorem fp_var {i : Nat} {l : Addr} {oo : O} (hi : ρ[i]? = some (some (.loc l oo))) : FP X ρ l oo (fun o' => ρ.set i (some (.loc l o'))) := .mk fun Z0 F Z σ H T s => by
  obtain ⟨v, e1, f⟩ := s.foc hi
  have := f.unloc
  rw [← this.1]
  exact this.2
/-- a mark is forgotten -/
theorem ms_weak {i : Nat} (hi : ρ[i]? = some (some oo)) (hw : ∀ {Z F H : Hp} {v : V} {A : List Addr}, RepO X.K Z F H v oo A → RepO X.K Z F H v o' A) (h : MS X (ρ.set i (some o')) sts G) : MS X ρ sts G := .mk fun Z0 F Z σ H D s g => by
  obtain ⟨T, s⟩ := s.a
  obtain ⟨v, B, q1, q2, q3, q4, q5⟩ := s.st.at hi s.nd
  obtain ⟨A', t1, t2, t3⟩ := q5 (Z' := Z) (H' := H) (v' := v) (Ex.refl _) (fun _ _ _ _ e => e) (hw q2) q3 (fun _ m _ => m)
  rw [set_same q1] at t1
  exact h.run Z0 F Z σ H D ⟨s.gr, A', t1, t2, fun a m => (t3 a m).elim (fun z => s.ds a z.1) fun z => s.ds a (q4 a z)⟩ g
end
end M
namespace M
open PySem L2 PySem.Spec PyProof.Rows
section
variable {X : Cx} {ρ ρ' : Slots} {R R' : O → Slots} {e a b f call : Expr} {es : List Expr} {d y : D} {ds : List D} {pos p0 p1 p2 p3 apos cpos dpos : Pos} {i j : Nat} {st : Stmt} {sts : List Stmt} {G : Go} {oo o o' : O} {nm : Str} {C : Addr} {ns : List Str} {os : List O} {k : Int}
/-! ### what is looked at -/
theorem MV.unlk (h : MV X ρ e (.lk o)) : MV X ρ e o := .mk fun Z0 F Z σ H s Q q => h.run Z0 F Z σ H s Q fun v Z' H' A g r => by
  cases r with
  | lk r =>
    obtain ⟨A, r⟩ := r.toO (s.gr.hh.trans g.hh)
    exact q v Z' H' A g r
theorem MV.lkloc {l : Addr} (h : MV X ρ e (.lk (.loc l o))) : MV X ρ e (.lk o) := .mk fun Z0 F Z σ H s Q q => h.run Z0 F Z σ H s Q fun v Z' H' A g r => by
  cases r with
  | lk r =>
    cases r with
    | loc r => exact q _ Z' H' [] g (.lk r)
theorem MV.lkfz (h : MV X ρ e (.lk (.fz d))) : ME X ρ e (.fz d) := MV.em h.unlk
theorem mv_fldK {j : Nat} (h : MV X ρ e (.lk (.ins C ns os))) (cc : OC X.K C ns) (hd : os[j]? = some o := by rfl) (hj : nmAt ns nm = some j := by decide +kernel) (hb : attributeBase e nm X.env (eval e X.env) = eval e X.env := by rfl) : MV X ρ (.Attribute e nm pos) (.lk o) := .mk fun Z0 F Z σ H s Q q =>
  PE_w (pe_fld pe_w hb) (h.run Z0 F Z σ H s _ fun v Z1 H1 A1 g1 r1 => by
    cases r1 with
    | lk r1 =>
      cases r1 with
      | @ins a C dx ns vs os hz rl =>
        obtain ⟨v, hv, rv⟩ := rl.get hd
        exact ⟨a, C, dx, _, v, rfl, (s.gr.hh.trans g1.hh) _ _ hz, cc.cl, cc.na nm (nmAt_mem hj), look_zip hj hv, q v Z1 H1 [] g1 (.lk rv)⟩)
theorem MV.lkk (h : MV X ρ e (.lk (.lst (ds.map .fz)))) : MK X ρ e ds := .mk fun Z0 F Z σ H s Q q => h.run Z0 F Z σ H s Q fun v Z' H' A g r => by
  cases r with
  | lk r =>
    cases r with
    | lst h r => exact q _ _ Z' H' g (.inr (.of h)) r.fzs
theorem mv_ixO {j : Nat} (h : MV X ρ a (.lst os)) (hb : ME X ρ b (.fz (.int k))) (hk : ixN os.length k = some j) (hd : os[j]? = some o) (hp : PlainIx b := by exact fun _ _ => rfl) : MV X ρ (.Subscript a b pos) o := .mk fun Z0 F Z σ H s Q q =>
  PE_w (pe_ix ix_list pe_w pe_w hp) (h.run Z0 F Z σ H s _ fun v Z1 H1 A1 g1 r1 => by
    cases r1 with
    | @lst l vs os A ha rl =>
      refine hb.run Z0 F Z1 σ H1 (s.grow g1) _ fun w Z2 H2 A2 g2 r2 n2 => ?_
      cases r2 with
      | fz r2 =>
        cases r2
        obtain ⟨v', B, hv, rv⟩ := rl.get hd
        exact ⟨l, vs, k, v', rfl, rfl, SqL.of (g2.hh _ _ ha), by unfold L2.atI; rw [rl.length, hk]; exact hv, q v' Z2 H2 B (g1.trans g2) (rv.ex g2.zz g2.hh)⟩)
theorem mv_ixK {j : Nat} (h : MV X ρ a (.lk (.lst os))) (hb : ME X ρ b (.fz (.int k))) (hk : ixN os.length k = some j) (hd : os[j]? = some o) (hp : PlainIx b := by exact fun _ _ => rfl) : MV X ρ (.Subscript a b pos) (.lk o) := .mk fun Z0 F Z σ H s Q q =>
  PE_w (pe_ix ix_list pe_w pe_w hp) (h.run Z0 F Z σ H s _ fun v Z1 H1 A1 g1 r1 => by
    cases r1 with
    | lk r1 =>
      cases r1 with
      | @lst l vs os ha rl =>
        refine hb.run Z0 F Z1 σ H1 (s.grow g1) _ fun w Z2 H2 A2 g2 r2 n2 => ?_
        cases r2 with
        | fz r2 =>
          cases r2
          obtain ⟨v', hv, rv⟩ := rl.get hd
          exact ⟨l, vs, k, v', rfl, rfl, SqL.of ((s.gr.hh.trans (g1.hh.trans g2.hh)) _ _ ha), by unfold L2.atI; rw [rl.length, hk]; exact hv, q v' Z2 H2 [] (g1.trans g2) (.lk (rv.mono g2.zz (Ex.refl _)))⟩)
theorem ma_lk (h : MV X ρ e o) (h2 : MA X ρ es os) (hs : starEach (e :: es) X.env = (false, eval e X.env) :: starEach es X.env := by rfl) : MA X ρ (e :: es) (.lk o :: os) := .mk fun Z0 F Z σ H s Q q =>
  PA_w (pa_cons pe_w pa_w hs) (h.run Z0 F Z σ H s _ fun v Z1 H1 A1 g1 r1 =>
    h2.run Z0 F Z1 σ H1 (s.grow g1) _ fun ws Z2 H2 g2 r2 => q _ Z2 H2 (g1.trans g2) (.cons (A := []) (B := []) (.lk ((r1.toK (s.gr.hh.trans g1.hh)).mono g2.zz g2.hh)) r2))
/-- a method that looks at an own thing -/
theorem me_mtL {α : Type} {ar : α → List O} {pre : α → Prop} {res : α → O} {k : Nat} {ps all : List Str} {ro os0 : List O} {pl : Sem Bool} (c : Mt1 X.prog X.w X.K X.mg X.base C nm k ps (SpM X.K ar pre res)) (cc : OC X.K C all) (x : α) (ho : MV X ρ a (.ins C ns os0)) (ha : MA X ρ (e :: es) ro) (hx : ar x = .lk (.ins C ns os0) :: ro) (hp : pre x) (hr : Room k X.A) {o : O} (hres : res x = o := by first | (dsimp only; done) | (dsimp only; rfl) | rfl)
    (hnm : nmAt ns nm = none := by decide +kernel) (he : starEach (e :: es) X.env = (false, eval e X.env) :: starEach es X.env := by rfl) (hpl : (backTo pos (starEach es X.env)).any (·.1) = false := by rfl)
    (ht : eval (.Call (.Attribute a nm p1) (e :: es) [] pos) X.env = (do
      let ov ← eval a X.env
      standAt p1.atName
      let (f, first) ← holding [ov] (getMethod ov nm pl)
      callWith pos f first (backTo pos (starEach (e :: es) X.env)) (backToKw pos (keywordEach [] X.env))) := by rfl) : ME X ρ (.Call (.Attribute a nm p1) (e :: es) [] pos) o := by
  subst hres
  obtain ⟨f, fd, hm, hb, F⟩ := c.ex
  exact .mk fun Z0 F0 Z σ H s Q q => PE_w (pe_meth (pl := pl) pe_w cc.cl hm F hr hb .nil pass0 pa_w he hpl ht) (ho.run Z0 F0 Z σ H s _ fun v Z1 H1 A1 g1 r1 => by
    have r1' := r1
    cases r1' with
    | @ins l C dx ns vs0 os _ hz rl =>
      refine ⟨l, dx, _, rfl, hz, look_none hnm, ha.run Z0 F0 Z1 σ H1 (s.grow g1) _ fun vs Z2 H2 g2 r2 => ?_⟩
      refine ⟨x, Z2, g2.zh, by rw [List.append_nil, hx]; exact .cons (A := []) (.lk ((r1.toK (s.gr.hh.trans g1.hh)).mono g2.zz g2.hh)) r2, hp, fun v Z3 H3 A g3 r3 n3 => ?_⟩
      exact q v Z3 H3 A ((g1.trans g2).trans g3) (r3.mono (Ex.refl _) (fun _ _ z => by cases z) fun _ _ _ z => z) ⟨n3.1, fun a m => ⟨(g1.trans g2).hh.free (n3.2 a m).1, (n3.2 a m).2⟩⟩)
theorem me_mtL0 {α : Type} {ar : α → List O} {pre : α → Prop} {res : α → O} {k : Nat} {ps all : List Str} {os0 : List O} {pl : Sem Bool} (c : Mt1 X.prog X.w X.K X.mg X.base C nm k ps (SpM X.K ar pre res)) (cc : OC X.K C all) (x : α) (ho : MV X ρ a (.ins C ns os0)) (hx : ar x = [.lk (.ins C ns os0)]) (hp : pre x) (hr : Room k X.A) {o : O} (hres : res x = o := by first | (dsimp only; done) | (dsimp only; rfl) | rfl)
    (hnm : nmAt ns nm = none := by decide +kernel)
    (ht : eval (.Call (.Attribute a nm p1) [] [] pos) X.env = (do
      let ov ← eval a X.env
      standAt p1.atName
      let (f, first) ← holding [ov] (getMethod ov nm pl)
      callWith pos f first (backTo pos (starEach [] X.env)) (backToKw pos (keywordEach [] X.env))) := by rfl) : ME X ρ (.Call (.Attribute a nm p1) [] [] pos) o := by
  subst hres
  obtain ⟨f, fd, hm, hb, F⟩ := c.ex
  exact .mk fun Z0 F0 Z σ H s Q q => PE_w (pe_meth0 (pl := pl) pe_w cc.cl hm F hr hb .nil pass0 ht) (ho.run Z0 F0 Z σ H s _ fun v Z1 H1 A1 g1 r1 => by
    have r1' := r1
    cases r1' with
    | @ins l C dx ns vs0 os _ hz rl =>
      refine ⟨l, dx, _, rfl, hz, look_none hnm, ?_⟩
      refine ⟨x, Z1, g1.zh, by rw [List.append_nil, hx]; exact .cons (A := []) (.lk (r1.toK (s.gr.hh.trans g1.hh))) .nil, hp, fun v Z3 H3 A g3 r3 n3 => ?_⟩
      exact q v Z3 H3 A (g1.trans g3) (r3.mono (Ex.refl _) (fun _ _ z => by cases z) fun _ _ _ z => z) ⟨n3.1, fun a m => ⟨g1.hh.free (n3.2 a m).1, (n3.2 a m).2⟩⟩)
end
/-! ### own things without views -/
class Nv (o : O) : Prop where
  nv : o.nv = true
instance {d : D} : Nv (.fz d) := ⟨rfl⟩
instance {ds : List D} : Nv (.lst (ds.map .fz)) := ⟨O.nvL_fz ds⟩
instance {a : Addr} {o : O} [h : Nv o] : Nv (.loc a o) := ⟨h.nv⟩
instance {a : Addr} : Nv (.pt a) := ⟨rfl⟩
class NvL (os : List O) : Prop where
  nv : O.nvL os = true
instance : NvL [] := ⟨rfl⟩
instance {o : O} {os : List O} [h : Nv o] [t : NvL os] : NvL (o :: os) := ⟨by show (o.nv && O.nvL os) = true; rw [h.nv, t.nv]; rfl⟩
instance (priority := low) {β : Type} {g : β → O} {xs : List β} [h : ∀ x, Nv (g x)] : NvL (xs.map g) := ⟨by
  induction xs with
  | nil => rfl
  | cons x r ih => show ((g x).nv && O.nvL (r.map g)) = true; rw [(h x).nv, ih]; rfl⟩
instance {os : List O} [h : NvL os] : Nv (.lst os) := ⟨h.nv⟩
instance {os : List O} [h : NvL os] : Nv (.tup os) := ⟨h.nv⟩
instance {C : Addr} {ns : List Str} {os : List O} [h : NvL os] : Nv (.ins C ns os) := ⟨h.nv⟩
instance {ks : List Key} {os : List O} [h : NvL os] : Nv (.dct ks os) := ⟨h.nv⟩
instance {ks : List (List Key)} {os : List O} [h : NvL os] : Nv (.dctT ks os) := ⟨h.nv⟩
instance {a C : Addr} {ns : List Str} {os : List O} [h : NvL os] : Nv (.at a C ns os) := ⟨h.nv⟩
theorem Nv.is (o : O) [h : Nv o] : o.nv = true := h.nv
theorem kp_auto2 {ρ τ : Slots} (l : Kp ρ τ := by repeat (first | exact Kp.nil | refine Kp.no ?_ | refine Kp.va ?_ | refine Kp.lk ?_ | refine Kp.nv rfl ?_ | refine Kp.nv (O.nvL_fz _) ?_ | refine Kp.nv (Nv.is _) ?_)) : Kp ρ τ := l
/-! ### tables as lists of pairs, further -/
theorem lkp_map2 {κ β γ : Type} [DecidableEq κ] (g : β → γ) (k : κ) : ∀ m : List (κ × β), lkp (m.map fun p => (p.1, g p.2)) k = (lkp m k).map g
  | [] => rfl
  | p :: r => by
    rw [List.map_cons]
    by_cases e : p.1 = k
    · rw [lkp_pos (p := (p.1, g p.2)) e, lkp_pos e]; rfl
    · rw [lkp_neg (p := (p.1, g p.2)) e, lkp_neg e, lkp_map2 g k r]
theorem ixk_map2 {κ β γ : Type} [DecidableEq κ] (g : β → γ) (k : κ) : ∀ m : List (κ × β), ixk (m.map fun p => (p.1, g p.2)) k = ixk m k
  | [] => rfl
  | p :: r => by
    show (if p.1 = k then some 0 else (ixk (r.map fun p => (p.1, g p.2)) k).map (· + 1)) = if p.1 = k then some 0 else (ixk r k).map (· + 1)
    rw [ixk_map2 g k r]
theorem ptk_map2 {κ β γ : Type} [DecidableEq κ] (g : β → γ) (m : List (κ × β)) (k : κ) (y : β) : (ptk m k y).map (fun p => (p.1, g p.2)) = ptk (m.map fun p => (p.1, g p.2)) k (g y) := by
  unfold ptk
  have e : (m.any fun p => decide (p.1 = k)) = ((m.map fun p => (p.1, g p.2)).any fun p => decide (p.1 = k)) := by rw [List.any_map]; rfl
  rw [e]
  split
  · rw [List.map_map, List.map_map]
    refine List.map_congr_left fun p _ => ?_
    show ((if p.1 = k then (p.1, y) else p).1, g (if p.1 = k then (p.1, y) else p).2) = if p.1 = k then (p.1, g y) else (p.1, g p.2)
    split <;> rfl
  · rw [List.map_append]; rfl
theorem ixk_lkp {κ β : Type} [DecidableEq κ] : ∀ (m : List (κ × β)) (k : κ), lkp m k = (ixk m k).bind fun j => (m[j]?).map (·.2)
  | [], _ => rfl
  | p :: r, k => by
    unfold ixk
    by_cases e : p.1 = k
    · rw [if_pos e, lkp_pos e]; rfl
    · rw [if_neg e, lkp_neg e, ixk_lkp r k]
      cases ixk r k <;> rfl
theorem ixk_key {κ β : Type} [DecidableEq κ] : ∀ {m : List (κ × β)} {k : κ} {j : Nat}, ixk m k = some j → (m[j]?).map (·.1) = some k
  | p :: r, k, j, h => by
    unfold ixk at h
    by_cases e : p.1 = k
    · rw [if_pos e] at h; cases h; exact congrArg some e
    · rw [if_neg e] at h
      obtain ⟨i, h1, rfl⟩ := Option.map_eq_some_iff.mp h
      have := ixk_key h1
      simpa using this
end M
namespace M
open PySem L2 PySem.Spec PyProof.Rows
/-! ### own tables of any things -/
section
variable {β : Type}
abbrev oDK (g : β → O) (m : List (Key × β)) : O := .dct (m.map (·.1)) (m.map fun p => g p.2)
abbrev oDT (g : β → O) (m : List (List Key × β)) : O := .dctT (m.map (·.1)) (m.map fun p => g p.2)
theorem oDK_fz (enc : β → D) (m : List (Key × β)) : oDK (fun y => .fz (enc y)) m = oK (m.map fun p => (p.1, enc p.2)) := by
  unfold oDK oK
  rw [List.map_map, List.map_map, List.map_map]
  rfl
theorem oDT_fz (enc : β → D) (m : List (List Key × β)) : oDT (fun y => .fz (enc y)) m = oT (m.map fun p => (p.1, enc p.2)) := by
  unfold oDT oT
  rw [List.map_map, List.map_map, List.map_map]
  rfl
theorem RepOL.tbO {K : PySem.W.Frag} {Z F H : Hp} {κ : Type} [DecidableEq κ] {g : β → O} : ∀ {m : List (κ × β)} {vs : List V} {A : List Addr}, RepOL K Z F H vs (m.map fun p => g p.2) A → Tb (fun y v => ∃ B, RepO K Z F H v (g y) B) m ((m.map (·.1)).zip vs)
  | [], _, _, .nil => trivial
  | p :: r, _, _, .cons h t => ⟨rfl, ⟨_, h⟩, RepOL.tbO t⟩
end
section
variable {X : Cx} {ρ ρ' : Slots} {R R' : O → Slots} {e a b f call o : Expr} {es : List Expr} {d y dk : D} {ds : List D} {pos p0 p1 p2 p3 p4 apos cpos dpos : Pos} {i j : Nat} {st : Stmt} {sts : List Stmt} {G : Go} {oo o' : O} {nm : Str} {C : Addr} {ns : List Str} {os : List O} {β : Type} {g : β → O} {enc : β → D} {k : Key} {ks : List Key} {y0 y1 : β}
theorem mv_getK {m : List (Key × β)} (hu : X.A.units + 64 < cLine) (hd : MV X ρ o (oDK g m)) (he : ME X ρ e (.fz dk)) (hk : keyD dk = some k) (hf : MV X ρ f (g y0)) (m2 : M2 X o "get" apos e f cpos := by exact ⟨rfl, rfl, rfl, rfl⟩) :
    MV X ρ (.Call (.Attribute o "get" apos) [e, f] [] cpos) (g ((lkp m k).getD y0)) := .mk fun Z0 F Z σ H s Q q =>
  PE_w (pe_dget2 (by omega) pe_w pe_w pe_w m2) (hd.run Z0 F Z σ H s _ fun v Z1 H1 A1 g1 r1 => by
    cases r1 with
    | @dct a _ vs _ _ h0 rl =>
      refine ⟨a, rfl, .inl ⟨_, .inl h0⟩, he.run Z0 F Z1 σ H1 (s.grow g1) _ fun u Z2 H2 A2 g2 r2 n2 => hf.run Z0 F Z2 σ H2 ((s.grow g1).grow g2) _ fun w Z3 H3 A3 g3 r3 => ?_⟩
      cases r2 with
      | fz r2 =>
        rw [key_V hk r2]
        have g23 := g2.trans g3
        rcases rl.tbO.lkp k with ⟨q1, q2⟩ | ⟨x, z, q1, q2, B, q3⟩
        · exact ⟨_, DGet.k (g23.hh _ _ h0), q _ Z3 H3 A3 (g1.trans g23) (by rw [lkp_V, q1, q2]; exact r3)⟩
        · exact ⟨_, DGet.k (g23.hh _ _ h0), q _ Z3 H3 B (g1.trans g23) (by rw [lkp_V, q1, q2]; exact q3.ex g23.zz g23.hh)⟩)
theorem mv_getT {m : List (List Key × β)} (hu : X.A.units + 64 < cLine) (hd : MV X ρ o (oDT g m)) (he : MV X ρ e (.tup (ds.map .fz))) (hk : keysD ds = some ks) (hf : MV X ρ f (g y0)) (m2 : M2 X o "get" apos e f cpos := by exact ⟨rfl, rfl, rfl, rfl⟩) :
    MV X ρ (.Call (.Attribute o "get" apos) [e, f] [] cpos) (g ((lkp m ks).getD y0)) := .mk fun Z0 F Z σ H s Q q =>
  PE_w (pe_dget2 (by omega) pe_w pe_w pe_w m2) (hd.run Z0 F Z σ H s _ fun v Z1 H1 A1 g1 r1 => by
    cases r1 with
    | @dctT a _ vs _ _ h0 rl =>
      refine ⟨a, rfl, .inr ⟨_, .inl h0⟩, he.run Z0 F Z1 σ H1 (s.grow g1) _ fun u Z2 H2 A2 g2 r2 => hf.run Z0 F Z2 σ H2 ((s.grow g1).grow g2) _ fun w Z3 H3 A3 g3 r3 => ?_⟩
      cases r2 with
      | @tup b ws _ _ hb rb =>
        obtain ⟨_, rz⟩ := rb.fzs
        have ew := keys_V hk rz
        subst ew
        have g23 := g2.trans g3
        rcases rl.tbO.lkp ks with ⟨q1, q2⟩ | ⟨x, z, q1, q2, B, q3⟩
        · exact ⟨_, DGet.t (g23.hh _ _ h0) (g3.hh _ _ hb), q _ Z3 H3 A3 (g1.trans g23) (by rw [lkp_V, q1, q2]; exact r3)⟩
        · exact ⟨_, DGet.t (g23.hh _ _ h0) (g3.hh _ _ hb), q _ Z3 H3 B (g1.trans g23) (by rw [lkp_V, q1, q2]; exact q3.ex g23.zz g23.hh)⟩)
theorem mv_dixK {m : List (Key × β)} (hu : X.A.units + 64 < cLine) (hl : lkp m k = some y1) (hd : MV X ρ o (oDK g m)) (he : ME X ρ e (.fz dk)) (hk : keyD dk = some k) (hs : NoSl e := by exact fun _ _ _ _ z => nomatch z) : MV X ρ (.Subscript o e pos) (g y1) := .mk fun Z0 F Z σ H s Q q =>
  PE_w (pe_dget (by omega) pe_w pe_w hs) (hd.run Z0 F Z σ H s _ fun v Z1 H1 A1 g1 r1 => he.run Z0 F Z1 σ H1 (s.grow g1) _ fun u Z2 H2 A2 g2 r2 n2 => by
    cases r1 with
    | @dct a _ vs _ _ h0 rl =>
      cases r2 with
      | fz r2 =>
        rw [key_V hk r2]
        rcases rl.tbO.lkp k with ⟨q1, q2⟩ | ⟨x, z, q1, q2, B, q3⟩
        · rw [hl] at q1; cases q1
        · rw [hl] at q1; cases q1
          refine ⟨a, z, rfl, ?_, q _ Z2 H2 B (g1.trans g2) (q3.ex g2.zz g2.hh)⟩
          have := DGet.k (k := k) (g2.hh _ _ h0)
          rwa [lkp_V, q2] at this)
theorem mv_dixT {m : List (List Key × β)} (hu : X.A.units + 64 < cLine) (hl : lkp m ks = some y1) (hd : MV X ρ o (oDT g m)) (he : MV X ρ e (.tup (ds.map .fz))) (hk : keysD ds = some ks) (hs : NoSl e := by exact fun _ _ _ _ z => nomatch z) : MV X ρ (.Subscript o e pos) (g y1) := .mk fun Z0 F Z σ H s Q q =>
  PE_w (pe_dget (by omega) pe_w pe_w hs) (hd.run Z0 F Z σ H s _ fun v Z1 H1 A1 g1 r1 => he.run Z0 F Z1 σ H1 (s.grow g1) _ fun u Z2 H2 A2 g2 r2 => by
    cases r1 with
    | @dctT a _ vs _ _ h0 rl =>
      cases r2 with
      | @tup b ws _ _ hb rb =>
        obtain ⟨_, rz⟩ := rb.fzs
        have ew := keys_V hk rz
        subst ew
        rcases rl.tbO.lkp ks with ⟨q1, q2⟩ | ⟨x, z, q1, q2, B, q3⟩
        · rw [hl] at q1; cases q1
        · rw [hl] at q1; cases q1
          refine ⟨a, z, rfl, ?_, q _ Z2 H2 B (g1.trans g2) (q3.ex g2.zz g2.hh)⟩
          have := DGet.t (k := ks) (g2.hh _ _ h0) hb
          rwa [lkp_V, q2] at this)
/-! ### x in d -/
theorem dk_in {m : List (Key × β)} {Z0 F Z H : Hp} {σ : L2.St} {Q : VK} {v : V} {A : List Addr} (he : ME X ρ e (.fz dk)) (hk : keyD dk = some k) (hd : MV X ρ o (oDK g m)) (s : StR X.K ρ Z0 F Z σ H) (neg : Bool) (q : ∀ Z' H', Gr Z H Z' H' → Q (.bl (if neg then !(lkp m k).isSome else (lkp m k).isSome)) H') :
    wE X e σ H fun y H1 => wE X o σ H1 fun x H2 => ∃ a o, x = .ref a ∧ DGet H2 a y o ∧ Q (.bl (if neg then !o.isSome else o.isSome)) H2 := he.run Z0 F Z σ H s _ fun u Z1 H1 A1 g1 r1 n1 => hd.run Z0 F Z1 σ H1 (s.grow g1) _ fun v Z2 H2 A2 g2 r2 => by
  cases r1 with
  | fz r1 =>
    cases r2 with
    | @dct a _ vs _ _ h0 rl =>
      rw [key_V hk r1]
      refine ⟨a, _, rfl, DGet.k h0, ?_⟩
      have t : (valV ((m.map (·.1)).zip vs) k).isSome = (lkp m k).isSome := by
        rcases rl.tbO.lkp k with ⟨q1, q2⟩ | ⟨x, z, q1, q2, _⟩ <;> (rw [lkp_V, q1, q2]; rfl)
      rw [t]
      exact q Z2 H2 (g1.trans g2)
theorem dt_in {m : List (List Key × β)} {Z0 F Z H : Hp} {σ : L2.St} {Q : VK} {v : V} {A : List Addr} (he : MV X ρ e (.tup (ds.map .fz))) (hk : keysD ds = some ks) (hd : MV X ρ o (oDT g m)) (s : StR X.K ρ Z0 F Z σ H) (neg : Bool) (q : ∀ Z' H', Gr Z H Z' H' → Q (.bl (if neg then !(lkp m ks).isSome else (lkp m ks).isSome)) H') :
    wE X e σ H fun y H1 => wE X o σ H1 fun x H2 => ∃ a o, x = .ref a ∧ DGet H2 a y o ∧ Q (.bl (if neg then !o.isSome else o.isSome)) H2 := he.run Z0 F Z σ H s _ fun u Z1 H1 A1 g1 r1 => hd.run Z0 F Z1 σ H1 (s.grow g1) _ fun v Z2 H2 A2 g2 r2 => by
  cases r1 with
  | @tup b ws _ _ hb rb =>
    obtain ⟨_, rz⟩ := rb.fzs
    have ew := keys_V hk rz
    subst ew
    cases r2 with
    | @dctT a _ vs _ _ h0 rl =>
      refine ⟨a, _, rfl, DGet.t h0 (g2.hh _ _ hb), ?_⟩
      have t : (valV ((m.map (·.1)).zip vs) ks).isSome = (lkp m ks).isSome := by
        rcases rl.tbO.lkp ks with ⟨q1, q2⟩ | ⟨x, z, q1, q2, _⟩ <;> (rw [lkp_V, q1, q2]; rfl)
      rw [t]
      exact q Z2 H2 (g1.trans g2)
theorem me_inDK {m : List (Key × β)} (hu : X.A.units + 64 < cLine) (he : ME X ρ e (.fz dk)) (hk : keyD dk = some k) (hd : MV X ρ o (oDK g m)) (hb : behindInMarks .In o = false := by rfl) : ME X ρ (.Compare e [.In] [o] pos) (.fz (.bl (lkp m k).isSome)) := .mk fun Z0 F Z σ H s Q q =>
  PE_w (pe_cmp (pc_din (by omega) pe_w pe_w) hb) (dk_in (v := .non) (A := []) he hk hd s false fun Z' H' g => q _ Z' H' [] g (.fz (.bl _)) .nil)
theorem me_niDK {m : List (Key × β)} (hu : X.A.units + 64 < cLine) (he : ME X ρ e (.fz dk)) (hk : keyD dk = some k) (hd : MV X ρ o (oDK g m)) (hb : behindInMarks .NotIn o = false := by rfl) : ME X ρ (.Compare e [.NotIn] [o] pos) (.fz (.bl (!(lkp m k).isSome))) := .mk fun Z0 F Z σ H s Q q =>
  PE_w (pe_cmp (pc_dnotin (by omega) pe_w pe_w) hb) (dk_in (v := .non) (A := []) he hk hd s true fun Z' H' g => q _ Z' H' [] g (.fz (.bl _)) .nil)
theorem me_inDT {m : List (List Key × β)} (hu : X.A.units + 64 < cLine) (he : MV X ρ e (.tup (ds.map .fz))) (hk : keysD ds = some ks) (hd : MV X ρ o (oDT g m)) (hb : behindInMarks .In o = false := by rfl) : ME X ρ (.Compare e [.In] [o] pos) (.fz (.bl (lkp m ks).isSome)) := .mk fun Z0 F Z σ H s Q q =>
  PE_w (pe_cmp (pc_din (by omega) pe_w pe_w) hb) (dt_in (v := .non) (A := []) he hk hd s false fun Z' H' g => q _ Z' H' [] g (.fz (.bl _)) .nil)
theorem me_niDT {m : List (List Key × β)} (hu : X.A.units + 64 < cLine) (he : MV X ρ e (.tup (ds.map .fz))) (hk : keysD ds = some ks) (hd : MV X ρ o (oDT g m)) (hb : behindInMarks .NotIn o = false := by rfl) : ME X ρ (.Compare e [.NotIn] [o] pos) (.fz (.bl (!(lkp m ks).isSome))) := .mk fun Z0 F Z σ H s Q q =>
  PE_w (pe_cmp (pc_dnotin (by omega) pe_w pe_w) hb) (dt_in (v := .non) (A := []) he hk hd s true fun Z' H' g => q _ Z' H' [] g (.fz (.bl _)) .nil)
theorem mt_me {c : Expr} {op : CmpOp} {k : Bool} (h : ME X ρ (.Compare e [op] [o] pos) (.fz (.bl k))) (he : ∀ whole, isTrue (.Compare e [op] [o] pos) X.env whole = (do let v ← whole; standAt (Expr.Compare e [op] [o] pos).pos; holding [v] (truthy v)) := by intro _; rfl) : MT X ρ (.Compare e [op] [o] pos) k := mt_val h he
/-! ### p[e] = v -/
theorem m_putDK {m : List (Key × β)} (hu : X.A.units + 64 < cLine) (h : MQ X ρ a (oDK (fun y => .fz (enc y)) m) R) (he : ME X ρ e (.fz dk)) (hk : keyD dk = some k) (hv : ME X ρ f (.fz (enc y1))) (hl : m.length < sizeLine) (kk : G.nx (R (oDK (fun y => .fz (enc y)) (ptk m k y1))))
    (hs : swapsWith f (some (.Subscript a e p1)) p2.line X.env = pure false := by rfl) : MS1 X ρ (.Assign [.Subscript a e p1] f p2) G := by
  rw [oDK_fz] at h
  rw [oDK_fz, ptk_map2] at kk
  exact m_putK hu h he hk hv (by rw [List.length_map]; exact hl) kk hs
theorem m_putDT {m : List (List Key × β)} (hu : X.A.units + 64 < cLine) (h : MQ X ρ a (oDT (fun y => .fz (enc y)) m) R) (he : MV X ρ e (.tup (ds.map .fz))) (hk : keysD ds = some ks) (hv : ME X ρ f (.fz (enc y1))) (hl : m.length < sizeLine) (kk : G.nx (R (oDT (fun y => .fz (enc y)) (ptk m ks y1))))
    (hs : swapsWith f (some (.Subscript a e p1)) p2.line X.env = pure false := by rfl) : MS1 X ρ (.Assign [.Subscript a e p1] f p2) G := by
  rw [oDT_fz] at h
  rw [oDT_fz, ptk_map2] at kk
  exact m_putT hu h he hk hv (by rw [List.length_map]; exact hl) kk hs
end
/-! ### a place goes on behind a change -/
section
variable {K : PySem.W.Frag} {Z0 F Z Z' H H' : Hp} {σ : L2.St} {T A B : List Addr} {v : V} {o o' : O} {R : O → Slots}
theorem FocA.step (f : FocA K F Z Z0 σ H T v o R A) (ez : Ex Z Z') (nz : ∀ a, Kept F T A a → Z' a = Z a) (zh : Ex Z' H') (k : ∀ a, Kept F T A a → ∀ u, H a = some u → H' a = some u) (th : ∀ a ∈ A, ∃ u, H' a = some u) (fh : Ex F H') (r : RepO K Z' F H' v o' B) (n : B.Nodup) (d : ∀ a ∈ B, (a ∈ A ∨ a ∉ T ∧ F a = none) ∧ Z' a = none) : FocA K F Z' Z0 σ H' (T ++ B) v o' R B := by
  have nB : ∀ a, Kept F T A a → a ∉ B := fun a ka m => by
    rcases (d a m).1 with z | z
    · exact ka.1 z
    · rcases ka.2 with y | ⟨u, y⟩
      · exact z.1 y
      · rw [z.2] at y; cases y
  have kB : ∀ a, Kept F T A a → Kept F (T ++ B) B a := fun a ka => ⟨nB a ka, ka.2.imp (List.mem_append_left _) id⟩
  refine ⟨r, n, fun a m => ⟨List.mem_append_right _ m, (d a m).2, ?_⟩, fun a m => ?_, fh, fun {Z2 H2 w o2 p B2} ez2 nz2 zh2 k2 r2 n2 d2 => ?_⟩
  · rcases (d a m).1 with z | z
    · exact (f.ds a z).2.2
    · exact z.2
  · rcases List.mem_append.mp m with m | m
    · by_cases ma : a ∈ A
      · exact th a ma
      · obtain ⟨u, e⟩ := f.th a m
        exact ⟨u, k a ⟨ma, .inl m⟩ u e⟩
    · exact r.there a m
  · refine f.k (ez.trans ez2) (fun a ka => (nz2 a (kB a ka)).trans (nz a ka)) zh2 (fun a ka u e => k2 a (kB a ka) u (k a ka u e)) r2 n2 fun a m => ⟨?_, (d2 a m).2⟩
    rcases (d2 a m).1 with z | z
    · exact (d a z).1
    · exact .inr ⟨fun y => z.1 (List.mem_append_left _ y), z.2⟩
end
section
variable {κ : Type} [DecidableEq κ] {β : Type}
def sdK (m : List (κ × β)) (k : κ) (y : β) : List (κ × β) := if (lkp m k).isSome = true then m else m ++ [(k, y)]
/-- the place of the key behind a setdefault -/
def sdI (m : List (κ × β)) (k : κ) : Nat := (ixk m k).getD m.length
theorem sdK_old {m : List (κ × β)} {k : κ} {y x : β} (h : lkp m k = some x) : sdK m k y = m := by unfold sdK; rw [h]; rfl
theorem sdK_new {m : List (κ × β)} {k : κ} {y : β} (h : lkp m k = none) : sdK m k y = m ++ [(k, y)] := by unfold sdK; rw [h]; rfl
theorem ixk_none {m : List (κ × β)} {k : κ} (h : lkp m k = none) : ixk m k = none := by
  rw [ixk_lkp] at h
  cases e : ixk m k with
  | none => rfl
  | some j =>
    rw [e] at h
    have := ixk_lt e
    have h : (m[j]?).map (·.2) = none := h
    rw [List.getElem?_eq_getElem this] at h
    cases h
theorem ixk_some {m : List (κ × β)} {k : κ} {x : β} (h : lkp m k = some x) : ∃ j, ixk m k = some j ∧ (m[j]?).map (·.2) = some x := by
  rw [ixk_lkp] at h
  exact Option.bind_eq_some_iff.mp h
theorem sd_at {m : List (κ × β)} {k : κ} {y : β} : ((sdK m k y)[sdI m k]?).map (·.2) = some ((lkp m k).getD y) := by
  cases h : lkp m k with
  | none =>
    rw [sdK_new h]
    unfold sdI
    rw [ixk_none h]
    simp
  | some x =>
    obtain ⟨j, e, q⟩ := ixk_some h
    rw [sdK_old h]
    unfold sdI
    rw [e]
    exact q
theorem sd_keys {m : List (κ × β)} {k : κ} {y : β} : (sdK m k y).map (·.1) = (ptk m k y).map (·.1) := by
  unfold sdK ptk
  rw [lkp_any]
  cases h : lkp m k with
  | none => rfl
  | some x =>
    simp only [Option.isSome_some, if_true]
    rw [List.map_map]
    exact List.map_congr_left fun p _ => by show p.1 = (if p.1 = k then (p.1, y) else p).1; split <;> rfl
theorem ixk_map_set {γ : Type} {g : β → γ} : ∀ {m : List (κ × β)} {k : κ} {j : Nat} (z : β), ixk m k = some j → (∀ p ∈ m, True) → (m.map (·.1)).Nodup → (m.map fun p => g p.2).set j (g z) = (m.map (fun p => if p.1 = k then (p.1, z) else p)).map fun p => g p.2
  | p :: r, k, j, z, h, _, nd => by
    unfold ixk at h
    by_cases e : p.1 = k
    · rw [if_pos e] at h
      cases h
      rw [List.map_cons, List.map_cons, List.map_cons, if_pos e, List.set_cons_zero]
      have nr : ∀ q ∈ r, q.1 ≠ k := fun q m y => by
        rw [List.map_cons, List.nodup_cons] at nd
        exact nd.1 (by rw [e, ← y]; exact List.mem_map_of_mem m)
      rw [List.map_map]
      congr 1
      exact List.map_congr_left fun q m => by show g q.2 = g (if q.1 = k then (q.1, z) else q).2; rw [if_neg (nr q m)]
    · rw [if_neg e] at h
      obtain ⟨i, h1, rfl⟩ := Option.map_eq_some_iff.mp h
      rw [List.map_cons, List.map_cons, List.map_cons, if_neg e, List.set_cons_succ]
      rw [List.map_cons, List.nodup_cons] at nd
      exact congrArg _ (ixk_map_set z h1 (fun _ _ => trivial) nd.2)
end
end M
namespace M
open PySem L2 PySem.Spec PyProof.Rows
section
variable {κ : Type} [DecidableEq κ] {β γ : Type}
/-- the table with y at the place of the key, or at the end -/
def utK (m : List (κ × β)) (k : κ) (y : β) : List (κ × β) :=
  match ixk m k with
  | some j => m.set j (((m[j]?).map (·.1)).getD k, y)
  | none => m ++ [(k, y)]
theorem utK_new {m : List (κ × β)} {k : κ} {y : β} (h : ixk m k = none) : utK m k y = m ++ [(k, y)] := by unfold utK; rw [h]
theorem utK_old {m : List (κ × β)} {k : κ} {y : β} {j : Nat} (h : ixk m k = some j) : utK m k y = m.set j (k, y) := by
  unfold utK
  rw [h]
  show m.set j (((m[j]?).map (·.1)).getD k, y) = _
  rw [ixk_key h]
  rfl
theorem ixk_lkp_none {m : List (κ × β)} {k : κ} (h : ixk m k = none) : lkp m k = none := by rw [ixk_lkp, h]; rfl
theorem utK_keys (m : List (κ × β)) (k : κ) (y y0 : β) : (utK m k y).map (·.1) = (sdK m k y0).map (·.1) := by
  cases h : ixk m k with
  | none => rw [utK_new h, sdK_new (ixk_lkp_none h), List.map_append, List.map_append]; rfl
  | some j =>
    have jl := ixk_lt h
    have : lkp m k = some m[j].2 := by rw [ixk_lkp, h]; show (m[j]?).map (·.2) = _; rw [List.getElem?_eq_getElem jl]; rfl
    rw [utK_old h, sdK_old this, List.map_set]
    have q := ixk_key h
    rw [← List.getElem?_map] at q
    apply List.ext_getElem?
    intro i
    rw [List.getElem?_set]
    split
    · rename_i e
      subst e
      rw [q]
      split
      · rfl
      · rename_i n; rw [List.length_map] at n; exact absurd jl n
    · rfl
theorem utK_vals (g : β → γ) (m : List (κ × β)) (k : κ) (y y0 : β) : ((utK m k y).map fun p => g p.2) = ((sdK m k y0).map fun p => g p.2).set (sdI m k) (g y) := by
  unfold sdI
  cases h : ixk m k with
  | none =>
    rw [utK_new h, sdK_new (ixk_lkp_none h), List.map_append, List.map_append]
    show _ = List.set _ m.length _
    rw [List.set_append_right _ _ (by rw [List.length_map]; exact Nat.le_refl _), List.length_map, Nat.sub_self]
    rfl
  | some j =>
    have jl := ixk_lt h
    have : lkp m k = some m[j].2 := by rw [ixk_lkp, h]; show (m[j]?).map (·.2) = _; rw [List.getElem?_eq_getElem jl]; rfl
    rw [utK_old h, sdK_old this, List.map_set]
    rfl
theorem lkp_utK : ∀ (m : List (κ × β)) (k j : κ) (y : β), lkp (utK m k y) j = if j = k then some y else lkp m j
  | [], k, j, y => by
    rw [utK_new rfl]
    by_cases e : j = k
    · rw [if_pos e]; exact lkp_pos (p := (k, y)) e.symm
    · rw [if_neg e]; exact lkp_neg (p := (k, y)) fun z => e z.symm
  | p :: r, k, j, y => by
    have ih := lkp_utK r k j y
    by_cases e : p.1 = k
    · have h : ixk (p :: r) k = some 0 := by unfold ixk; rw [if_pos e]
      rw [utK_old h]
      show lkp ((k, y) :: r) j = _
      by_cases q : j = k
      · rw [if_pos q]; exact lkp_pos (p := (k, y)) q.symm
      · rw [if_neg q, lkp_neg (p := (k, y)) (fun z => q z.symm), lkp_neg (p := p) fun z => q (z.symm.trans e)]
    · have h : utK (p :: r) k y = p :: utK r k y := by
        cases h : ixk r k with
        | none =>
          rw [utK_new h, utK_new (by unfold ixk; rw [if_neg e, h]; rfl)]
          rfl
        | some i =>
          rw [utK_old h, utK_old (j := i + 1) (by unfold ixk; rw [if_neg e, h]; rfl)]
          rfl
      rw [h]
      by_cases q : p.1 = j
      · rw [lkp_pos q, lkp_pos q, if_neg fun z => e (q.trans z)]
      · rw [lkp_neg q, lkp_neg q, ih]
theorem utK_len (m : List (κ × β)) (k : κ) (y : β) : (utK m k y).length ≤ m.length + 1 := by
  cases h : ixk m k with
  | none => rw [utK_new h, List.length_append]; exact Nat.le_refl _
  | some j => rw [utK_old h, List.length_set]; omega
end
/-! ### places of a state -/
structure FQ (X : Cx) (ρ : Slots) (o : O) (R : O → Slots) : Prop where
  run : ∀ (Z0 F Z : Hp) (σ : L2.St) (H : Hp) (T : List Addr), StA X.K ρ Z0 F Z σ H T → ∃ v, Foc X.K Z0 F Z σ H T v o R
section
variable {X : Cx} {ρ ρ' : Slots} {R R' : O → Slots} {e a f : Expr} {d dk : D} {ds : List D} {pos p0 p1 p2 p3 apos cpos dpos : Pos} {i j : Nat} {st : Stmt} {sts : List Stmt} {G : Go} {oo o o' : O} {nm : Str} {C l b : Addr} {ns : List Str} {os : List O} {β : Type} {g : β → O} {k : Key} {ks : List Key} {y0 : β}
theorem fq_var (hi : ρ[i]? = some (some o)) : FQ X ρ o (fun o' => ρ.set i (some o')) := .mk fun Z0 F Z σ H T s => by
  obtain ⟨v, _, f⟩ := s.foc hi
  exact ⟨v, f⟩
theorem FQ.loc (h : FQ X ρ (.loc l o) R) : FQ X ρ o (fun o' => R (.loc l o')) := .mk fun Z0 F Z σ H T s => by
  obtain ⟨v, f⟩ := h.run Z0 F Z σ H T s
  exact ⟨v, f.unloc.2⟩
theorem FQ.fp (h : FQ X ρ (.loc l o) R) : FP X ρ l o (fun o' => R (.loc l o')) := .mk fun Z0 F Z σ H T s => by
  obtain ⟨v, f⟩ := h.run Z0 F Z σ H T s
  have := f.unloc
  rw [← this.1]
  exact this.2
theorem FQ.fld (h : FQ X ρ (.ins C ns os) R) (hd : os[j]? = some o) : FQ X ρ o (fun o' => R (.ins C ns (os.set j o'))) := .mk fun Z0 F Z σ H T s => by
  obtain ⟨v, A, f⟩ := h.run Z0 F Z σ H T s
  obtain ⟨_, _, _, v', _, _, _, _, f'⟩ := f.down hm_ins hd
  exact ⟨v', f'⟩
theorem FQ.it (h : FQ X ρ (.lst os) R) (hd : os[j]? = some o) : FQ X ρ o (fun o' => R (.lst (os.set j o'))) := .mk fun Z0 F Z σ H T s => by
  obtain ⟨v, A, f⟩ := h.run Z0 F Z σ H T s
  obtain ⟨_, _, _, v', _, _, _, _, f'⟩ := f.down hm_lst hd
  exact ⟨v', f'⟩
theorem FQ.enK {kk : List Key} (h : FQ X ρ (.dct kk os) R) (hd : os[j]? = some o) : FQ X ρ o (fun o' => R (.dct kk (os.set j o'))) := .mk fun Z0 F Z σ H T s => by
  obtain ⟨v, A, f⟩ := h.run Z0 F Z σ H T s
  obtain ⟨_, _, _, v', _, _, _, _, f'⟩ := f.down hm_dct hd
  exact ⟨v', f'⟩
theorem FQ.enT {kk : List (List Key)} (h : FQ X ρ (.dctT kk os) R) (hd : os[j]? = some o) : FQ X ρ o (fun o' => R (.dctT kk (os.set j o'))) := .mk fun Z0 F Z σ H T s => by
  obtain ⟨v, A, f⟩ := h.run Z0 F Z σ H T s
  obtain ⟨_, _, _, v', _, _, _, _, f'⟩ := f.down hm_dctT hd
  exact ⟨v', f'⟩
theorem FocA.same {K : PySem.W.Frag} {Z0 F Z H : Hp} {σ : L2.St} {T A : List Addr} {v : V} (f : FocA K F Z Z0 σ H T v o R A) (zh : Ex Z H) (hw : RepO K Z F H v o' A) : StR K (R o') Z0 F Z σ H :=
  f.chg (Ex.refl _) (fun _ _ => rfl) zh (fun _ _ _ e => e) hw f.nd fun a m => ⟨.inl m, (f.ds a m).2.1⟩
/-- a mark is forgotten -/
theorem ms_unloc (fq : FQ X ρ (.loc b o) R) (h : MS X (R o) sts G) : MS X ρ sts G := .mk fun Z0 F Z σ H D s g => by
  obtain ⟨T, s⟩ := s.a
  obtain ⟨v, A, f⟩ := fq.run Z0 F Z σ H T s
  refine h.run Z0 F Z σ H D (f.same s.gr.zh ?_) g
  cases f.rp with
  | loc r => exact r
/-- a place gets a name -/
theorem m_aliasP (p : PS X st (tAsg (wE X e) (gName i))) (h : MP X ρ e o ρ' R) (href : o.isRef = true) (kk : ∀ b, G.nx ((R (.loc b o)).set i (some (.pt b)))) (hi : ∀ o', i < (R o').length) : MS1 X ρ st G := .mk fun Z0 F Z σ H D s g => by
  obtain ⟨T, s⟩ := s.a
  refine PS_w p (h.run Z0 F Z σ H T s _ fun v Z1 H1 T1 s1 f => ?_)
  obtain ⟨A, f⟩ := f
  obtain ⟨b, rfl⟩ := f.rp.isRef href
  have st := f.k (w := .ref b) (p := .pt b) (o' := .loc b o) (B := A ++ ([] ++ [])) (Ex.refl _) (fun _ _ => rfl) s1.gr.zh (fun _ _ _ e => e) (.cons (.loc f.rp) (.cons .pt .nil)) (by simpa using f.nd) (fun a m => by
    have m : a ∈ A := by simpa using m
    exact ⟨.inl m, (f.ds a m).2.1⟩)
  exact g.nx _ Z1 _ _ (kk b) (st.take (hi _))
/-- p.setdefault(k, y) as a place -/
theorem mp_setdefK {m : List (Key × β)} (h : MQ X ρ a (oDK g m) R) (he : ME X ρ e (.fz dk)) (hk : keyD dk = some k) (hf : ME X ρ f (g y0)) (hl : m.length < sizeLine) (m2 : M2 X a "setdefault" apos e f cpos := by exact ⟨rfl, rfl, rfl, rfl⟩) :
    MP X ρ (.Call (.Attribute a "setdefault" apos) [e, f] [] cpos) (g ((lkp m k).getD y0)) (R (oDK g (sdK m k y0))) (fun o' => R (.dct ((sdK m k y0).map (·.1)) (((sdK m k y0).map fun p => g p.2).set (sdI m k) o'))) := .mk fun Z0 F Z σ H T s Q q =>
  PE_w (pe_dsetd pe_w pe_w pe_w m2) (h.run Z0 F Z σ H T s _ fun v Z1 H1 g1 f0 => by
    have fA := f0
    obtain ⟨A, fA⟩ := fA
    obtain ⟨l, _, vs, A1, _, rfl, rfl, h0, rl⟩ := hm_dct.mp fA.rp
    refine ⟨l, rfl, .inl ⟨_, .inl h0⟩, he.run Z0 F Z1 σ H1 (s.grow g1).r _ fun u Z2 H2 A2 g2 r2 n2 => hf.run Z0 F Z2 σ H2 ((s.grow g1).grow g2).r _ fun w Z3 H3 A3 g3 r3 n3 => ?_⟩
    cases r2 with
    | fz r2 =>
      have g23 := g2.trans g3
      have lv : vs.length = m.length := by rw [rl.length, List.length_map]
      obtain ⟨A', f3⟩ := f0.grow g23
      obtain ⟨l', _, vs', A1', _, el, rfl, h0', rl'⟩ := hm_dct.mp f3.rp
      cases el
      have ev : vs' = vs := by
        have z := g23.hh _ _ h0
        rw [h0'] at z
        have z := HO.dK.inj (Option.some.inj z)
        have l1 : vs'.length = (m.map (·.1)).length := by rw [rl'.length, List.length_map, List.length_map]
        have l2 : vs.length = (m.map (·.1)).length := by rw [lv, List.length_map]
        have := congrArg (List.map Prod.snd) z
        rwa [List.map_snd_zip (by omega), List.map_snd_zip (by omega)] at this
      subst ev
      refine ⟨_, k, h0', key_V hk r2, by rw [List.length_zip, lv, List.length_map, Nat.min_self]; exact hl, fun v hv => ?_, fun hn => ?_⟩
      · rw [ixk_val lv] at hv
        obtain ⟨j, hj, hvj⟩ := Option.bind_eq_some_iff.mp hv
        have jl := ixk_lt hj
        have ex : lkp m k = some m[j].2 := by rw [ixk_lkp, hj]; show (m[j]?).map (·.2) = _; rw [List.getElem?_eq_getElem jl]; rfl
        have st := f3.same (R := R) g3.zh f3.rp
        have hd : (m.map fun p => g p.2)[j]? = some (g ((lkp m k).getD y0)) := by rw [List.getElem?_map, List.getElem?_eq_getElem jl, ex]; rfl
        obtain ⟨_, _, vs2, v', e1, e2, e3, e4, f4⟩ := f3.down hm_dct hd
        cases e1
        rw [h0'] at e2
        have z := HO.dK.inj (Option.some.inj e2)
        have ev2 : vs2 = vs' := by
          have l1 : vs2.length = (m.map (·.1)).length := by simp only [List.length_map] at e3 ⊢; exact e3
          have l2 : vs'.length = (m.map (·.1)).length := by rw [lv, List.length_map]
          have := congrArg (List.map Prod.snd) z
          rw [List.map_snd_zip (by omega), List.map_snd_zip (by omega)] at this
          exact this.symm
        subst ev2
        rw [hvj] at e4
        cases e4
        have es : sdI m k = j := by unfold sdI; rw [hj]; rfl
        rw [sdK_old ex, es] at q
        exact q v Z3 H3 T st f4
      · have hnone : ixk m k = none := by
          rw [ixk_val lv] at hn
          cases h' : ixk m k with
          | none => rfl
          | some j =>
            rw [h'] at hn
            have jl := ixk_lt h'
            have hn : vs'[j]? = none := hn
            rw [List.getElem?_eq_getElem (by omega)] at hn
            cases hn
        have ln : lkp m k = none := ixk_lkp_none hnone
        obtain ⟨na, nA⟩ := List.nodup_cons.mp f3.nd
        have ep : putK ((m.map (·.1)).zip vs') k w = (m.map (·.1) ++ [k]).zip (vs' ++ [w]) := by
          rw [putK_new _ hn, List.zip_append (by rw [List.length_map, lv])]
          rfl
        rw [ep]
        have new3 : ∀ x ∈ A3, H2 x = none ∧ Z3 x = none := n3.2
        have lA : ∀ x ∈ A3, x ≠ l ∧ x ∉ A1' ∧ x ∉ T ∧ F x = none := fun x mx => by
          have hx2 := (new3 x mx).1
          obtain ⟨A2', f2⟩ := f0.grow g2
          obtain ⟨_, _, vs2, A12, _, e1, rfl, e2, rl2⟩ := hm_dct.mp f2.rp
          cases e1
          refine ⟨(fun z => by rw [z, e2] at hx2; cases hx2), fun z => ?_, fun z => ?_, f2.fh.free hx2⟩
          · have m' := (f3.ds x (List.mem_cons_of_mem _ z)).1
            obtain ⟨u, hu⟩ := f2.th x m'
            rw [hx2] at hu; cases hu
          · obtain ⟨u, hu⟩ := f2.th x z
            rw [hx2] at hu; cases hu
        have zl : Z3 l = none := (f3.ds l List.mem_cons_self).2.1
        generalize eH : upd H3 l (.dK ((m.map (·.1) ++ [k]).zip (vs' ++ [w]))) = H4
        have hl4 : H4 l = some (.dK ((m.map (·.1) ++ [k]).zip (vs' ++ [w]))) := by rw [← eH]; exact upd_same
        have ho4 : ∀ x, x ≠ l → H4 x = H3 x := fun x h1 => by rw [← eH, upd_ne h1]
        have r1 : RepOL X.K Z3 F H4 vs' (m.map fun p => g p.2) A1' := rl'.mono (Ex.refl _) (Ex.refl _) fun x mx u hu' => by
          rw [ho4 x (fun z => na (z ▸ mx))]; exact hu'
        have rq : RepO X.K Z3 F H4 w (g y0) A3 := r3.mono (Ex.refl _) (Ex.refl _) fun x mx u hu' => by
          rw [ho4 x (lA x mx).1]; exact hu'
        have tb : (sdK m k y0).map (·.1) = m.map (·.1) ++ [k] ∧ ((sdK m k y0).map fun p => g p.2) = (m.map fun p => g p.2) ++ [g y0] := by
          rw [sdK_new ln]
          exact ⟨by rw [List.map_append]; rfl, by rw [List.map_append]; rfl⟩
        have rr : RepO X.K Z3 F H4 (.ref l) (oDK g (sdK m k y0)) (l :: (A1' ++ A3)) := by
          show RepO _ _ _ _ _ (.dct _ _) _
          rw [tb.1, tb.2]
          exact .dct hl4 (r1.snoc rq)
        have kh : ∀ x, Kept F T (l :: A1') x → ∀ u, H3 x = some u → H4 x = some u := fun x kx u hu => by rw [ho4 x fun z => kx.1 (by rw [z]; exact List.mem_cons_self)]; exact hu
        have zh4 : Ex Z3 H4 := fun x u hx => by rw [ho4 x fun z => by rw [z, zl] at hx; cases hx]; exact g3.zh x u hx
        have ndB : (l :: (A1' ++ A3)).Nodup := List.nodup_cons.mpr ⟨fun z => (List.mem_append.mp z).elim na fun z => (lA l z).1 rfl, List.nodup_append.mpr ⟨nA, n3.1, fun x hx y hy e => (lA y hy).2.1 (e ▸ hx)⟩⟩
        have dB : ∀ x ∈ l :: (A1' ++ A3), (x ∈ l :: A1' ∨ x ∉ T ∧ F x = none) ∧ Z3 x = none := fun x mx => by
          rcases List.mem_cons.mp mx with rfl | mx
          · exact ⟨.inl List.mem_cons_self, zl⟩
          · rcases List.mem_append.mp mx with mx | mx
            · exact ⟨.inl (List.mem_cons_of_mem _ mx), (f3.ds x (List.mem_cons_of_mem _ mx)).2.1⟩
            · exact ⟨.inr ⟨(lA x mx).2.2.1, (lA x mx).2.2.2⟩, (new3 x mx).2⟩
        have th4 : ∀ x ∈ l :: A1', ∃ u, H4 x = some u := fun x mx => by
          rcases List.mem_cons.mp mx with rfl | mx
          · exact ⟨_, hl4⟩
          · obtain ⟨u, hu⟩ := rl'.there x mx
            exact ⟨u, by rw [ho4 x fun z => na (z ▸ mx)]; exact hu⟩
        have fh4 : Ex F H4 := fun x u hx => by
          rw [ho4 x fun z => by rw [z, (f3.ds l List.mem_cons_self).2.2] at hx; cases hx]; exact f3.fh x u hx
        have st := f3.chg (R := R) (Ex.refl _) (fun _ _ => rfl) zh4 kh rr ndB dB
        have f4 := f3.step (Ex.refl _) (fun _ _ => rfl) zh4 kh th4 fh4 rr ndB dB
        have es : sdI m k = m.length := by unfold sdI; rw [hnone]; rfl
        have hd : ((sdK m k y0).map fun p => g p.2)[sdI m k]? = some (g ((lkp m k).getD y0)) := by
          rw [tb.2, es, ln, List.getElem?_append_right (by rw [List.length_map]; exact Nat.le_refl _), List.length_map, Nat.sub_self]
          rfl
        obtain ⟨_, _, vs2, v', e1, e2, e3, e4, f5⟩ := f4.down hm_dct hd
        cases e1
        have ev2 : v' = w := by
          rw [hl4] at e2
          have z := HO.dK.inj (Option.some.inj e2)
          rw [tb.1] at z
          have l1 : vs2.length = (m.map (·.1) ++ [k]).length := by rw [e3, tb.2, List.length_append, List.length_append, List.length_map, List.length_map]; rfl
          have l2 : (vs' ++ [w]).length = (m.map (·.1) ++ [k]).length := by rw [List.length_append, List.length_append, lv, List.length_map]; rfl
          have := congrArg (List.map Prod.snd) z
          rw [List.map_snd_zip (by omega), List.map_snd_zip (by omega)] at this
          rw [← this, es, List.getElem?_append_right (by omega), lv, Nat.sub_self] at e4
          exact (Option.some.inj e4).symm
        subst ev2
        exact q _ Z3 H4 _ st f5)
/-- p.setdefault(k, y) as a place -/
theorem mp_setdefT {m : List (List Key × β)} (h : MQ X ρ a (oDT g m) R) (hu : X.A.units + 64 < cLine) (he : MV X ρ e (.tup (ds.map .fz))) (hk : keysD ds = some ks) (hf : ME X ρ f (g y0)) (hl : m.length < sizeLine) (m2 : M2 X a "setdefault" apos e f cpos := by exact ⟨rfl, rfl, rfl, rfl⟩) :
    MP X ρ (.Call (.Attribute a "setdefault" apos) [e, f] [] cpos) (g ((lkp m ks).getD y0)) (R (oDT g (sdK m ks y0))) (fun o' => R (.dctT ((sdK m ks y0).map (·.1)) (((sdK m ks y0).map fun p => g p.2).set (sdI m ks) o'))) := .mk fun Z0 F Z σ H T s Q q =>
  PE_w (pe_dsetdT (by omega) pe_w pe_w pe_w m2) (h.run Z0 F Z σ H T s _ fun v Z1 H1 g1 f0 => by
    have fA := f0
    obtain ⟨A, fA⟩ := fA
    obtain ⟨l, _, vs, A1, _, rfl, rfl, h0, rl⟩ := hm_dctT.mp fA.rp
    refine ⟨l, rfl, .inr ⟨_, .inl h0⟩, he.run Z0 F Z1 σ H1 (s.grow g1).r _ fun u Z2 H2 A2 g2 r2 => hf.run Z0 F Z2 σ H2 ((s.grow g1).grow g2).r _ fun w Z3 H3 A3 g3 r3 n3 => ?_⟩
    cases r2 with
    | @tup kb ws _ _ hb rb =>
      obtain ⟨_, rzb⟩ := rb.fzs
      have ew := keys_V hk rzb
      subst ew
      have g23 := g2.trans g3
      have lv : vs.length = m.length := by rw [rl.length, List.length_map]
      obtain ⟨A', f3⟩ := f0.grow g23
      obtain ⟨l', _, vs', A1', _, el, rfl, h0', rl'⟩ := hm_dctT.mp f3.rp
      cases el
      have ev : vs' = vs := by
        have z := g23.hh _ _ h0
        rw [h0'] at z
        have z := HO.dT.inj (Option.some.inj z)
        have l1 : vs'.length = (m.map (·.1)).length := by rw [rl'.length, List.length_map, List.length_map]
        have l2 : vs.length = (m.map (·.1)).length := by rw [lv, List.length_map]
        have := congrArg (List.map Prod.snd) z
        rwa [List.map_snd_zip (by omega), List.map_snd_zip (by omega)] at this
      subst ev
      refine ⟨_, ks, kb, h0', rfl, g3.hh _ _ hb, by rw [List.length_zip, lv, List.length_map, Nat.min_self]; exact hl, fun v hv => ?_, fun hn => ?_⟩
      · rw [ixk_val lv] at hv
        obtain ⟨j, hj, hvj⟩ := Option.bind_eq_some_iff.mp hv
        have jl := ixk_lt hj
        have ex : lkp m ks = some m[j].2 := by rw [ixk_lkp, hj]; show (m[j]?).map (·.2) = _; rw [List.getElem?_eq_getElem jl]; rfl
        have st := f3.same (R := R) g3.zh f3.rp
        have hd : (m.map fun p => g p.2)[j]? = some (g ((lkp m ks).getD y0)) := by rw [List.getElem?_map, List.getElem?_eq_getElem jl, ex]; rfl
        obtain ⟨_, _, vs2, v', e1, e2, e3, e4, f4⟩ := f3.down hm_dctT hd
        cases e1
        rw [h0'] at e2
        have z := HO.dT.inj (Option.some.inj e2)
        have ev2 : vs2 = vs' := by
          have l1 : vs2.length = (m.map (·.1)).length := by simp only [List.length_map] at e3 ⊢; exact e3
          have l2 : vs'.length = (m.map (·.1)).length := by rw [lv, List.length_map]
          have := congrArg (List.map Prod.snd) z
          rw [List.map_snd_zip (by omega), List.map_snd_zip (by omega)] at this
          exact this.symm
        subst ev2
        rw [hvj] at e4
        cases e4
        have es : sdI m ks = j := by unfold sdI; rw [hj]; rfl
        rw [sdK_old ex, es] at q
        exact q v Z3 H3 T st f4
      · have hnone : ixk m ks = none := by
          rw [ixk_val lv] at hn
          cases h' : ixk m ks with
          | none => rfl
          | some j =>
            rw [h'] at hn
            have jl := ixk_lt h'
            have hn : vs'[j]? = none := hn
            rw [List.getElem?_eq_getElem (by omega)] at hn
            cases hn
        have ln : lkp m ks = none := ixk_lkp_none hnone
        obtain ⟨na, nA⟩ := List.nodup_cons.mp f3.nd
        have ep : putK ((m.map (·.1)).zip vs') ks w = (m.map (·.1) ++ [ks]).zip (vs' ++ [w]) := by
          rw [putK_new _ hn, List.zip_append (by rw [List.length_map, lv])]
          rfl
        rw [ep]
        have new3 : ∀ x ∈ A3, H2 x = none ∧ Z3 x = none := n3.2
        have lA : ∀ x ∈ A3, x ≠ l ∧ x ∉ A1' ∧ x ∉ T ∧ F x = none := fun x mx => by
          have hx2 := (new3 x mx).1
          obtain ⟨A2', f2⟩ := f0.grow g2
          obtain ⟨_, _, vs2, A12, _, e1, rfl, e2, rl2⟩ := hm_dctT.mp f2.rp
          cases e1
          refine ⟨(fun z => by rw [z, e2] at hx2; cases hx2), fun z => ?_, fun z => ?_, f2.fh.free hx2⟩
          · have m' := (f3.ds x (List.mem_cons_of_mem _ z)).1
            obtain ⟨u, hu⟩ := f2.th x m'
            rw [hx2] at hu; cases hu
          · obtain ⟨u, hu⟩ := f2.th x z
            rw [hx2] at hu; cases hu
        have zl : Z3 l = none := (f3.ds l List.mem_cons_self).2.1
        generalize eH : upd H3 l (.dT ((m.map (·.1) ++ [ks]).zip (vs' ++ [w]))) = H4
        have hl4 : H4 l = some (.dT ((m.map (·.1) ++ [ks]).zip (vs' ++ [w]))) := by rw [← eH]; exact upd_same
        have ho4 : ∀ x, x ≠ l → H4 x = H3 x := fun x h1 => by rw [← eH, upd_ne h1]
        have r1 : RepOL X.K Z3 F H4 vs' (m.map fun p => g p.2) A1' := rl'.mono (Ex.refl _) (Ex.refl _) fun x mx u hu' => by
          rw [ho4 x (fun z => na (z ▸ mx))]; exact hu'
        have rq : RepO X.K Z3 F H4 w (g y0) A3 := r3.mono (Ex.refl _) (Ex.refl _) fun x mx u hu' => by
          rw [ho4 x (lA x mx).1]; exact hu'
        have tb : (sdK m ks y0).map (·.1) = m.map (·.1) ++ [ks] ∧ ((sdK m ks y0).map fun p => g p.2) = (m.map fun p => g p.2) ++ [g y0] := by
          rw [sdK_new ln]
          exact ⟨by rw [List.map_append]; rfl, by rw [List.map_append]; rfl⟩
        have rr : RepO X.K Z3 F H4 (.ref l) (oDT g (sdK m ks y0)) (l :: (A1' ++ A3)) := by
          show RepO _ _ _ _ _ (.dctT _ _) _
          rw [tb.1, tb.2]
          exact .dctT hl4 (r1.snoc rq)
        have kh : ∀ x, Kept F T (l :: A1') x → ∀ u, H3 x = some u → H4 x = some u := fun x kx u hu => by rw [ho4 x fun z => kx.1 (by rw [z]; exact List.mem_cons_self)]; exact hu
        have zh4 : Ex Z3 H4 := fun x u hx => by rw [ho4 x fun z => by rw [z, zl] at hx; cases hx]; exact g3.zh x u hx
        have ndB : (l :: (A1' ++ A3)).Nodup := List.nodup_cons.mpr ⟨fun z => (List.mem_append.mp z).elim na fun z => (lA l z).1 rfl, List.nodup_append.mpr ⟨nA, n3.1, fun x hx y hy e => (lA y hy).2.1 (e ▸ hx)⟩⟩
        have dB : ∀ x ∈ l :: (A1' ++ A3), (x ∈ l :: A1' ∨ x ∉ T ∧ F x = none) ∧ Z3 x = none := fun x mx => by
          rcases List.mem_cons.mp mx with rfl | mx
          · exact ⟨.inl List.mem_cons_self, zl⟩
          · rcases List.mem_append.mp mx with mx | mx
            · exact ⟨.inl (List.mem_cons_of_mem _ mx), (f3.ds x (List.mem_cons_of_mem _ mx)).2.1⟩
            · exact ⟨.inr ⟨(lA x mx).2.2.1, (lA x mx).2.2.2⟩, (new3 x mx).2⟩
        have th4 : ∀ x ∈ l :: A1', ∃ u, H4 x = some u := fun x mx => by
          rcases List.mem_cons.mp mx with rfl | mx
          · exact ⟨_, hl4⟩
          · obtain ⟨u, hu⟩ := rl'.there x mx
            exact ⟨u, by rw [ho4 x fun z => na (z ▸ mx)]; exact hu⟩
        have fh4 : Ex F H4 := fun x u hx => by
          rw [ho4 x fun z => by rw [z, (f3.ds l List.mem_cons_self).2.2] at hx; cases hx]; exact f3.fh x u hx
        have st := f3.chg (R := R) (Ex.refl _) (fun _ _ => rfl) zh4 kh rr ndB dB
        have f4 := f3.step (Ex.refl _) (fun _ _ => rfl) zh4 kh th4 fh4 rr ndB dB
        have es : sdI m ks = m.length := by unfold sdI; rw [hnone]; rfl
        have hd : ((sdK m ks y0).map fun p => g p.2)[sdI m ks]? = some (g ((lkp m ks).getD y0)) := by
          rw [tb.2, es, ln, List.getElem?_append_right (by rw [List.length_map]; exact Nat.le_refl _), List.length_map, Nat.sub_self]
          rfl
        obtain ⟨_, _, vs2, v', e1, e2, e3, e4, f5⟩ := f4.down hm_dctT hd
        cases e1
        have ev2 : v' = w := by
          rw [hl4] at e2
          have z := HO.dT.inj (Option.some.inj e2)
          rw [tb.1] at z
          have l1 : vs2.length = (m.map (·.1) ++ [ks]).length := by rw [e3, tb.2, List.length_append, List.length_append, List.length_map, List.length_map]; rfl
          have l2 : (vs' ++ [w]).length = (m.map (·.1) ++ [ks]).length := by rw [List.length_append, List.length_append, lv, List.length_map]; rfl
          have := congrArg (List.map Prod.snd) z
          rw [List.map_snd_zip (by omega), List.map_snd_zip (by omega)] at this
          rw [← this, es, List.getElem?_append_right (by omega), lv, Nat.sub_self] at e4
          exact (Option.some.inj e4).symm
        subst ev2
        exact q _ Z3 H4 _ st f5)
end
end M
namespace L2
open PySem PySem.Spec PyProof.Rows
section
variable {X : Cx} {pins : List (Addr × Obj)} {σ : St} {H : Hp} {s : Shared} {d : Addr} {o : Obj}
theorem Inv.frzTv {kvs : List (List Key × V)} (I : Inv X pins σ H s) (h : H d = some (.frz o (.dT kvs))) :
    (d == sysModules) = false ∧ s.heap.get? d = some o ∧ o.ExactDict ∧ ∃ (es : Array DictEntry) (ep : Nat), o.data = .dict es ep ∧ es.size = kvs.length ∧
      ∀ (i : Nat) (k : List Key) (v : V), kvs[i]? = some (k, v) → ∃ (en : DictEntry) (q : Addr), es[i]? = some en ∧ en.key = .ref q ∧ H q = some (.tup (k.map kV)) ∧ RelV v en.val := by
  obtain ⟨hd, z, hs, xs, pr, o', es, ep, ho, hx, hdt, he, _⟩ := I.hok d _ h
  rw [hd] at ho
  cases ho
  refine ⟨hs, hd, hx, es, ep, hdt, ?_, fun i k v e => ?_⟩
  · have l1 : es.size = xs.length := size_of_entries he
    have l2 : kvs.length = xs.length := Paired.length pr
    omega
  · obtain ⟨b, hb, e1, e2, e3⟩ := paired_get pr e
    have q := entry_at he i
    rw [hb] at q
    exact ⟨_, b.2.1, q, rfl, e2, e3⟩
/-- the keys' own tuples of the object -/
def KeysAt (o : Obj) (qs : List Addr) : Prop := ∃ es ep, o.data = .dict es ep ∧ ∀ (i : Nat) (en : DictEntry), es[i]? = some en → ∃ q, qs[i]? = some q ∧ en.key = .ref q
/-- the pairs of the locked dict with tuple keys, each a new tuple: the key's own tuple, the value -/
def Itit (d : Addr) (o : Obj) (kvs : List (List Key × V)) (qs : List Addr) : It :=
  ⟨fun i H => H d = some (.frz o (.dT kvs)) ∧ i < kvs.length, fun i H x H' => ∃ T k v q, kvs[i]? = some (k, v) ∧ x = .ref T ∧ H T = none ∧ qs[i]? = some q ∧ H' = upd H T (.tup [.ref q, v]), fun i H => H d = some (.frz o (.dT kvs)) ∧ kvs.length ≤ i⟩
theorem turn_itemsT {P : Program} {w : World} {K : PySem.W.Frag} {es : Array DictEntry} {ep : Nat} {kvs : List (List Key × V)} {elts : List Expr} {kk : Nat} {tpos : Pos} {qs : List Addr} (it : Addr) (hod : o.data = .dict es ep) (hqs : KeysAt o qs) :
    Turn P w K (.Tuple elts kk tpos) (Itit d o kvs qs) [it] it (fun i h => ∃ ok ov, IsItemIter h it d i kvs.length ep ok ov) where
  mem := by simp
  obj := fun i h st b hb => by
    have e : b = it := by simpa using hb
    subst e
    obtain ⟨ok, ov, e⟩ := st
    exact ⟨_, e, fun v z => nomatch z⟩
  keep := fun i h h' st k => let ⟨ok, ov, e⟩ := st; ⟨ok, ov, k it (by simp) _ e⟩
  item := by
    intro X hP hw hK hc i pins s σ H E I hf st hg
    subst hP hw hK
    obtain ⟨hd, hi⟩ := hg
    obtain ⟨hs, hgd, hx, es', ep', hdt, hsz, ent⟩ := I.frzTv hd
    obtain ⟨rfl, rfl⟩ := dict_ep hod hdt
    obtain ⟨⟨k, v⟩, hkv⟩ : ∃ p, kvs[i]? = some p := ⟨kvs[i], List.getElem?_eq_getElem hi⟩
    obtain ⟨en, q, hen, hkey, hq, rv⟩ := ent i k v hkv
    obtain ⟨es2, ep2, hod2, hqs⟩ := hqs
    obtain ⟨rfl, rfl⟩ := dict_ep hod hod2
    obtain ⟨q', hqq, hk'⟩ := hqs i en hen
    have eq : q' = q := by rw [hkey] at hk'; exact (Value.ref.inj hk').symm
    subst eq
    obtain ⟨ok, ov, he⟩ := st
    rw [← hsz] at he
    have hlt : it < s.heap.objs.size := Heap.lt_size he
    have hie : i < es2.size := by omega
    have een : es2[i] = en := by
      have := Array.getElem?_eq_getElem hie
      rw [hen] at this
      exact (Option.some.inj this).symm
    refine wpAny_pyNext_items_item_raw he ⟨o, hgd, hx, hdt⟩ hie fun h' ho hT hz hk => ?_
    rw [een] at ho hT
    refine ⟨_, rfl, wpAny_letOwnedTupleGo_items (s := { s with heap := h' }) ho fun h'' he' sb => ?_⟩
    have hT2 : h''.get? s.heap.objs.size = some { cls := .type "tuple", data := .seq #[en.key, en.val] } := (sb.2 _ (Nat.ne_of_gt hlt)).trans hT
    have new : ObjOk X.prog X.w (upd H s.heap.objs.size (.tup [.ref q', v])) h'' s.heap.objs.size (.tup [.ref q', v]) :=
      ⟨by show 2 ≤ sizeLine; decide, [en.key, en.val], .cons hkey (.cons rv .nil), ⟨_, hT2, rfl, _, rfl⟩⟩
    have I1 : Inv X pins σ (upd H s.heap.objs.size (.tup [.ref q', v])) { s with heap := h'' } :=
      I.turnedNew (t' := s.toks) (ch := [it]) (fun b ob hb e => (sb.2 b (by simpa using hb)).trans (hk b ob (by simpa using hb) e)) hf (Nat.le_refl _) new
    refine ⟨.ref s.heap.objs.size, _, I1, rfl, ⟨_, k, v, _, hkv, rfl, I.hok.fresh (Nat.le_refl _), hqq, rfl⟩, ⟨en.key, en.val, ?_⟩, fun b hb => ?_⟩
    · rw [← hsz]; exact he'
    · have e : b = it := by simpa using hb
      rw [e, upd_ne (Nat.ne_of_lt hlt)]
      exact (hf it (by simp)).1
  done := by
    intro X hP hw hK hc i pins s σ H E I hf st hg
    subst hP hw hK
    obtain ⟨hd, hi⟩ := hg
    obtain ⟨f0, f1, f2, f3, f4, f5⟩ := hf it (by simp)
    obtain ⟨hs, hgd, hx, es', ep', hdt, hsz, ent⟩ := I.frzTv hd
    obtain ⟨rfl, rfl⟩ := dict_ep hod hdt
    obtain ⟨ok, ov, he⟩ := st
    rw [← hsz] at he
    exact wpAny_pyNext_items_end_raw (I.ok.hd hc) he ⟨o, hgd, hx, hdt⟩ (by omega) fun h' eb => ⟨rfl, I.turned (t' := s.toks) (fun b ob hb e => eb b ob hb e) f0 f1 f3 f4 f5⟩
  self := fun A i s Q E st h => let ⟨_, _, e⟩ := st; PySem.W.kcp_self e h
end
/-- the dict with tuple keys is locked by the caller -/
def iItemsT (td : TE) (qs : List Addr) : TI := fun σ H R => td σ H fun x H1 => ∃ d o kvs, x = .ref d ∧ H1 d = some (.frz o (.dT kvs)) ∧ KeysAt o qs ∧ R (Itit d o kvs qs) H1
theorem pi_itemsT {X : Cx} {qs : List Addr} {e : Expr} {td : TE} {apos cpos : Pos} {elts : List Expr} {kk : Nat} {tpos : Pos} (he : PE X e td) (hbase : attributeBase e "items" X.env (eval e X.env) = eval e X.env := by rfl) (hline : (apos.endLine == cpos.line) = true := by rfl) :
    PI X (.Tuple elts kk tpos) (.Call (.Attribute e "items" apos) [] [] cpos) (iItemsT td qs) := by
  refine ⟨fun pins s σ H R I h => ?_⟩
  refine wpAny_Call_method (T := "dict") (id := "dict.items") hbase rfl hline F.plainAttrs_dict F.slot_dict_items F.type_dict_items (thn (he.run pins s σ H _ I h) fun u s1 ⟨x, H1, I1, rx, d, o, kvs, ex, hd, hqs, q⟩ => ?_)
  subst ex
  obtain rfl : u = Value.ref d := rx
  obtain ⟨hs, hgd, hx, es, ep, hdt, hsz, ent⟩ := I1.frzTv hd
  have raw : s1.heap.DictRaw d es ep := ⟨o, hgd, hx, hdt⟩
  refine ⟨raw.typeIs, fun b e => by cases e; exact ⟨o, hgd, hx.2.1⟩, ?_⟩
  have I2 : Inv X pins σ H1 { s1 with heap := s1.heap.push { cls := .type "dict_items", data := .fields #[.ref d] } } := I1.kept (t' := s1.toks) fun b ob q => Heap.get?_push_of_some _ q
  have fin : wpAny (model X.prog X.w) X.A (pyIter (.ref s1.heap.objs.size)) (PIE X pins σ (.Tuple elts kk tpos) R) X.xe { s1 with heap := s1.heap.push { cls := .type "dict_items", data := .fields #[.ref d] } } := by
    refine wpAny_pyIter_items_raw (d := d) ⟨_, Heap.get?_push_size _ rfl, rfl, rfl⟩ ⟨o, Heap.get?_push_of_some _ hgd, hx, hdt⟩ (pi_one (tk := s1.toks) I2 _ (turn_itemsT _ hdt hqs) ⟨.none, .none, ?_⟩ q)
    rw [← hsz]
    exact Heap.get?_push_size _ rfl
  show wpAny _ _ (callWith cpos (.builtin "dict.items") [.ref d] [] []) _ X.xe s1
  exact method_meetsIn F.slot_dict_items F.entry_dict_items rfl (PySem.evalArgs_none ⟨rfl, raw.typeIs, F.args_dict_items_1 _, _, meets_dict_items_raw d hs, ⟨es, ep, raw⟩, fin⟩)
/-- for over the items, the dict locked while it runs -/
def tForIT (td : TE) (g : TG) (tb : TS) : TS := fun D σ H => ∃ d kvs, H d = some (.dT kvs) ∧ ∀ od qs, (∀ (j : Nat) (k : List Key) (v : V), kvs[j]? = some (k, v) → ∃ q, qs[j]? = some q ∧ H q = some (.tup (k.map kV))) → qs.length = kvs.length → KeysAt od qs →
  tFor (iItemsT td qs) g tb ⟨fun σ' H' => H' d = some (.frz od (.dT kvs)) ∧ D.nx σ' (upd H' d (.dT kvs)), fun v H' => H' d = some (.frz od (.dT kvs)) ∧ D.rt v (upd H' d (.dT kvs)), fun σ' H' => H' d = some (.frz od (.dT kvs)) ∧ D.bk σ' (upd H' d (.dT kvs)), fun σ' H' => H' d = some (.frz od (.dT kvs)) ∧ D.ct σ' (upd H' d (.dT kvs))⟩ σ (upd H d (.frz od (.dT kvs)))
theorem ps_forIT {X : Cx} {st : Stmt} {td : TE} {g : TG} {tb : TS} (h : ∀ qs, PS X st (tFor (iItemsT td qs) g tb)) : PS X st (tForIT td g tb) := by
  refine ⟨fun pins s σ H D I hw => ?_⟩
  obtain ⟨d, kvs, hd, hw⟩ := hw
  obtain ⟨od, I1⟩ := I.lock hd True.intro
  obtain ⟨hs, hgd, hx, es, ep, hdt, hsz, ent⟩ := I1.frzTv upd_same
  have hq : ∃ qs : List Addr, qs.length = es.size ∧ ∀ (i : Nat) (en : DictEntry), es[i]? = some en → ∃ q, qs[i]? = some q ∧ en.key = .ref q := by
    refine ⟨es.toList.map fun en => match en.key with | .ref q => q | _ => d, by simp, fun i en he => ?_⟩
    have hi : i < kvs.length := by
      have := (Array.getElem?_eq_some_iff.mp he).1
      omega
    obtain ⟨⟨k, v⟩, hkv⟩ : ∃ p, kvs[i]? = some p := ⟨kvs[i], List.getElem?_eq_getElem hi⟩
    obtain ⟨en', q, hen, hkey, _⟩ := ent i k v hkv
    rw [he] at hen
    cases hen
    refine ⟨q, ?_, hkey⟩
    rw [List.getElem?_map, Array.getElem?_toList, he]
    show some (match en.key with | .ref q => q | _ => d) = _
    rw [hkey]
  obtain ⟨qs, hql, hqs⟩ := hq
  have hk : ∀ (j : Nat) (k : List Key) (v : V), kvs[j]? = some (k, v) → ∃ q, qs[j]? = some q ∧ H q = some (.tup (k.map kV)) := fun j k v e => by
    obtain ⟨en, q, hen, hkey, hq, _⟩ := ent j k v e
    obtain ⟨q', h1, h2⟩ := hqs j en hen
    rw [hkey] at h2
    cases h2
    refine ⟨q, h1, ?_⟩
    by_cases z : q = d
    · rw [z, upd_same] at hq; cases hq
    · rwa [upd_ne z] at hq
  refine thn ((h qs).run pins s σ _ _ I1 (hw od qs hk (hql.trans hsz) ⟨es, ep, hdt, hqs⟩)) fun f s1 q => ?_
  cases f with
  | next => obtain ⟨σ', H', I2, e, q⟩ := q; exact ⟨σ', _, I2.unlock e (I.nofrz hd True.intro), q⟩
  | brk => obtain ⟨σ', H', I2, e, q⟩ := q; exact ⟨σ', _, I2.unlock e (I.nofrz hd True.intro), q⟩
  | cont => obtain ⟨σ', H', I2, e, q⟩ := q; exact ⟨σ', _, I2.unlock e (I.nofrz hd True.intro), q⟩
  | ret v => obtain ⟨x, σ', H', I2, r, e, q⟩ := q; exact ⟨x, σ', _, I2.unlock e (I.nofrz hd True.intro), r, q⟩
end L2
namespace M
open PySem L2 PySem.Spec PyProof.Rows
/-! ### own things without tuples -/
mutual
def O.nt : O → Bool
  | .lst os => O.ntL os
  | .tup _ => false
  | .ins _ _ os => O.ntL os
  | .at _ _ _ os => O.ntL os
  | .loc _ o => o.nt
  | .dct _ os => O.ntL os
  | .dctT _ os => O.ntL os
  | _ => true
def O.ntL : List O → Bool
  | [] => true
  | o :: r => o.nt && O.ntL r
end
section
variable {K : PySem.W.Frag} {Z F H : Hp}
mutual
theorem RepO.nt : ∀ {v : V} {o : O} {A : List Addr}, RepO K Z F H v o A → o.nt = true → ∀ a ∈ A, ∀ xs, H a ≠ some (.tup xs)
  | _, _, _, .fz _, _, _, m => nomatch m
  | _, _, _, .vw _ _, _, _, m => nomatch m
  | _, _, _, .vwa _ _, _, _, m => nomatch m
  | _, _, _, .lk _, _, _, m => nomatch m
  | _, _, _, .pt, _, _, m => nomatch m
  | _, _, _, .tup _ _, n, _, _ => nomatch n
  | _, .loc _ o, _, .loc h, n, a, m => RepO.nt (o := o) h n a m
  | _, _, _, .lst h r, n, a, m => (List.mem_cons.mp m).elim (fun e xs z => by rw [e, h] at z; cases z) fun m => RepOL.nt r n a m
  | _, _, _, .ins h r, n, a, m => (List.mem_cons.mp m).elim (fun e xs z => by rw [e, h] at z; cases z) fun m => RepOL.nt r n a m
  | _, _, _, .at h r, n, a, m => (List.mem_cons.mp m).elim (fun e xs z => by rw [e, h] at z; cases z) fun m => RepOL.nt r n a m
  | _, _, _, .dct h r, n, a, m => (List.mem_cons.mp m).elim (fun e xs z => by rw [e, h] at z; cases z) fun m => RepOL.nt r n a m
  | _, _, _, .dctT h r, n, a, m => (List.mem_cons.mp m).elim (fun e xs z => by rw [e, h] at z; cases z) fun m => RepOL.nt r n a m
theorem RepOL.nt : ∀ {vs : List V} {os : List O} {A : List Addr}, RepOL K Z F H vs os A → O.ntL os = true → ∀ a ∈ A, ∀ xs, H a ≠ some (.tup xs)
  | _, _, _, .nil, _, _, m => nomatch m
  | _, _, _, .cons h r, n, a, m => (List.mem_append.mp m).elim (fun m => RepO.nt h (Bool.and_eq_true_iff.mp n).1 a m) fun m => RepOL.nt r (Bool.and_eq_true_iff.mp n).2 a m
end
theorem StL.nt : ∀ {ρ : Slots} {σ : L2.St} {A : List Addr}, StL K Z F H ρ σ A → (∀ o, some o ∈ ρ → o.nt = true) → ∀ a ∈ A, ∀ xs, H a ≠ some (.tup xs)
  | _, _, _, .nil, _, _, m => nomatch m
  | _, _, _, .no h, n, a, m => h.nt (fun o z => n o (List.mem_cons_of_mem _ z)) a m
  | _, _, _, .so r h, n, a, m => (List.mem_append.mp m).elim (fun m => r.nt (n _ List.mem_cons_self) a m) fun m => h.nt (fun o z => n o (List.mem_cons_of_mem _ z)) a m
end
class Nt (o : O) : Prop where
  nt : o.nt = true
class NtL (os : List O) : Prop where
  nt : O.ntL os = true
instance {d : D} : Nt (.fz d) := ⟨rfl⟩
instance {o : O} : Nt (.lk o) := ⟨rfl⟩
instance {ds : List D} : Nt (.vw ds) := ⟨rfl⟩
instance {a : Addr} {ds : List D} : Nt (.vwa a ds) := ⟨rfl⟩
instance {a : Addr} : Nt (.pt a) := ⟨rfl⟩
instance {a : Addr} {o : O} [h : Nt o] : Nt (.loc a o) := ⟨h.nt⟩
instance : NtL [] := ⟨rfl⟩
instance {o : O} {os : List O} [h : Nt o] [t : NtL os] : NtL (o :: os) := ⟨by show (o.nt && O.ntL os) = true; rw [h.nt, t.nt]; rfl⟩
instance (priority := low) {β : Type} {g : β → O} {xs : List β} [h : ∀ x, Nt (g x)] : NtL (xs.map g) := ⟨by
  induction xs with
  | nil => rfl
  | cons x r ih => show ((g x).nt && O.ntL (r.map g)) = true; rw [(h x).nt, ih]; rfl⟩
instance {os : List O} [h : NtL os] : Nt (.lst os) := ⟨h.nt⟩
instance {C : Addr} {ns : List Str} {os : List O} [h : NtL os] : Nt (.ins C ns os) := ⟨h.nt⟩
instance {a C : Addr} {ns : List Str} {os : List O} [h : NtL os] : Nt (.at a C ns os) := ⟨h.nt⟩
instance {ks : List Key} {os : List O} [h : NtL os] : Nt (.dct ks os) := ⟨h.nt⟩
instance {ks : List (List Key)} {os : List O} [h : NtL os] : Nt (.dctT ks os) := ⟨h.nt⟩
class NtS (ρ : Slots) : Prop where
  nt : ∀ o, some o ∈ ρ → o.nt = true
instance : NtS [] := ⟨fun _ m => nomatch m⟩
instance {ρ : Slots} [t : NtS ρ] : NtS (none :: ρ) := ⟨fun o m => (List.mem_cons.mp m).elim (fun z => nomatch z) (t.nt o)⟩
instance {o : O} {ρ : Slots} [h : Nt o] [t : NtS ρ] : NtS (some o :: ρ) := ⟨fun o m => (List.mem_cons.mp m).elim (fun z => by cases z; exact h.nt) (t.nt o)⟩
def kD : Key → D
  | .inl i => .int i
  | .inr x => .str x
theorem keysD_kD : ∀ k : List Key, keysD (k.map kD) = some k
  | [] => rfl
  | .inl i :: r => by
    show (keysD (r.map kD)).map _ = _
    rw [keysD_kD r]; rfl
  | .inr x :: r => by
    show (keysD (r.map kD)).map _ = _
    rw [keysD_kD r]; rfl
theorem kD_rep {K : PySem.W.Frag} {Z F : Hp} : ∀ k : List Key, RepKL K Z F (k.map kV) ((k.map kD).map .fz)
  | [] => .nil
  | .inl i :: r => .cons (.fz (.int i)) (kD_rep r)
  | .inr x :: r => .cons (.fz (.str x)) (kD_rep r)
/-! ### a thing is locked while a statement runs -/
section
variable {K : PySem.W.Frag} {Z0 F Z H : Hp} {ρ τ : Slots} {σ : L2.St} {i : Nat} {l d : Addr} {o : O} {u lu : HO} {qs : List Addr}
def lkF (F H : Hp) (B qs : List Addr) (d : Addr) (lu : HO) : Hp := fun a => if a = d then some lu else if a ∈ B ∨ a ∈ qs then H a else F a
theorem lkF_d {B : List Addr} : lkF F H B qs d lu d = some lu := if_pos rfl
theorem lkF_in {B : List Addr} {a : Addr} (h : a ≠ d) (m : a ∈ B ∨ a ∈ qs) : lkF F H B qs d lu a = H a := by unfold lkF; rw [if_neg h, if_pos m]
theorem lkF_out {B : List Addr} {a : Addr} (h : a ≠ d) (m : ¬ (a ∈ B ∨ a ∈ qs)) : lkF F H B qs d lu a = F a := by unfold lkF; rw [if_neg h, if_neg m]
theorem locked (s : StR K ρ Z0 F Z σ H) (hi : ρ[i]? = some (some (.loc l o))) (nt : ∀ o, some o ∈ ρ → o.nt = true) : σ[i]? = some (some (.ref l)) ∧ ∃ B, RepO K Z F H (.ref l) o B ∧ B.Nodup ∧ (∀ a ∈ B, Z a = none ∧ F a = none) ∧
    ∀ {d : Addr} {u lu : HO} {qs : List Addr}, d ∈ B → H d = some u → (∀ q ∈ qs, ∃ xs, H q = some (.tup xs)) →
      Ex F (lkF F H B qs d lu) ∧ StR K (ρ.set i (some (.pt l))) Z (lkF F H B qs d lu) Z σ (upd H d lu) ∧
      ∀ {τ : Slots} {Zn Hn : Hp} {σn : L2.St}, StR K τ Z (lkF F H B qs d lu) Zn σn Hn → τ[i]? = some (some (.pt l)) → Kp (ρ.set i (some (.pt l))) τ → o.nv = true → StR K (τ.set i (some (.loc l o))) Z0 F Zn σn (upd Hn d u) := by
  obtain ⟨A, h1, h2, h3⟩ := s.st
  obtain ⟨v, B, q1, q2, q3, q4, q5⟩ := h1.at hi h2
  have ev : v = .ref l := by cases q2 with | loc _ => rfl
  subst ev
  have r0 : RepO K Z F H (.ref l) o B := by cases q2 with | loc r => exact r
  refine ⟨q1, B, r0, q3, fun a m => h3 a (q4 a m), fun {d u lu qs} hd hu hq => ?_⟩
  generalize eF : lkF F H B qs d lu = F1
  have zd : Z d = none := (h3 d (q4 d hd)).1
  have fd : F d = none := (h3 d (q4 d hd)).2
  have F1d : F1 d = some lu := by rw [← eF]; exact lkF_d
  have F1i : ∀ a, a ≠ d → (a ∈ B ∨ a ∈ qs) → F1 a = H a := fun a n m => by rw [← eF]; exact lkF_in n m
  have F1o : ∀ a, a ≠ d → ¬ (a ∈ B ∨ a ∈ qs) → F1 a = F a := fun a n m => by rw [← eF]; exact lkF_out n m
  have ef : Ex F F1 := fun a w e => by
    have n : a ≠ d := fun z => by rw [z, fd] at e; cases e
    by_cases m : a ∈ B ∨ a ∈ qs
    · rw [F1i a n m]; exact s.gr.hh a w e
    · rw [F1o a n m]; exact e
  have eh : Ex F1 (upd H d lu) := fun a w e => by
    by_cases n : a = d
    · subst n
      rw [F1d] at e
      rw [upd_same]; exact e
    · rw [upd_ne n]
      by_cases m : a ∈ B ∨ a ∈ qs
      · rw [F1i a n m] at e; exact e
      · rw [F1o a n m] at e; exact s.gr.hh a w e
  have zh : Ex Z (upd H d lu) := fun a w e => by
    rw [upd_ne fun z => by rw [z, zd] at e; cases e]
    exact s.gr.zh a w e
  obtain ⟨A', t1, t2, t3⟩ := q5 (Z' := Z) (H' := upd H d lu) (v' := .ref l) (o' := .pt l) (B' := []) (Ex.refl _) (fun a m nb w e => by
    rw [upd_ne (show a ≠ d from fun z => nb (by rw [z]; exact hd))]; exact e) .pt List.nodup_nil fun _ m => nomatch m
  rw [set_same q1] at t1
  have ntA : ∀ a ∈ A, ∀ xs, H a ≠ some (.tup xs) := h1.nt nt
  have F1A : ∀ a ∈ A, a ∉ B → F1 a = none := fun a m nb => by
    have n : a ≠ d := fun z => nb (by rw [z]; exact hd)
    have nm : ¬ (a ∈ B ∨ a ∈ qs) := fun z => z.elim nb fun z => by
      obtain ⟨xs, e⟩ := hq a z
      exact ntA a m xs e
    rw [F1o a n nm]; exact (h3 a m).2
  refine ⟨ef, ⟨⟨Ex.refl _, eh, zh, fun _ _ _ => rfl⟩, A', t1.monoF ef, t2, fun a m => ?_⟩, fun {τ Zn Hn σn} sn hp hk hv => ?_⟩
  · rcases t3 a m with z | z
    · exact ⟨(h3 a z.1).1, F1A a z.1 z.2⟩
    · exact nomatch z
  · obtain ⟨An, l1, l2, l3⟩ := sn.st
    obtain ⟨w, Bn, u1, u2, u3, u4, u5⟩ := l1.at hp l2
    have ew : w = .ref l := by cases u2; rfl
    subst ew
    have nd : ∀ a ∈ An, a ≠ d := fun a m z => by rw [z] at m; rw [(l3 d m).2] at F1d; cases F1d
    have HnB : ∀ a ∈ B, a ≠ d → Hn a = H a := fun a m n => by
      obtain ⟨w, e⟩ := r0.there a m
      rw [e]
      exact sn.gr.hh a w (by rw [F1i a n (.inl m)]; exact e)
    have rB : RepO K Zn F (upd Hn d u) (.ref l) (.loc l o) B := .loc (r0.mono sn.gr.zz (Ex.refl _) fun a m w e => by
      by_cases n : a = d
      · subst n
        rw [hu] at e
        rw [upd_same]; exact e
      · rw [upd_ne n, HnB a m n]; exact e)
    have ZnB : ∀ a ∈ B, Zn a = none := fun a m => by
      have : ∃ w, F1 a = some w := by
        by_cases n : a = d
        · exact ⟨_, by rw [n]; exact F1d⟩
        · obtain ⟨w, e⟩ := r0.there a m
          exact ⟨w, by rw [F1i a n (.inl m)]; exact e⟩
      obtain ⟨w, e⟩ := this
      rw [sn.gr.nw a w e]
      exact (h3 a (q4 a m)).1
    have l1' : StL K Zn F1 (upd Hn d u) τ σn An := l1.mono (Ex.refl _) fun a m w e => by rw [upd_ne (nd a m)]; exact e
    have l2' : StL K Zn F (upd Hn d u) τ σn An := StL.kp ef sn.gr.zz hk t1 (by
      exact l1')
    obtain ⟨w2, Bn2, y1, y2, y3, y4, y5⟩ := l2'.at hp l2
    have eB2 : Bn2 = [] := by cases y2; rfl
    subst eB2
    have BA : ∀ a ∈ B, a ∉ An := fun a m z => by
      have := (l3 a z).2
      by_cases n : a = d
      · rw [n, F1d] at this; cases this
      · obtain ⟨w, e⟩ := r0.there a m
        rw [F1i a n (.inl m), e] at this; cases this
    obtain ⟨A2, x1, x2, x3⟩ := y5 (Z' := Zn) (H' := upd Hn d u) (v' := .ref l) (o' := .loc l o) (B' := B) (Ex.refl _) (fun _ _ _ _ e => e) rB q3 fun a m z => absurd z (BA a m)
    rw [set_same u1] at x1
    have znd : Zn d = none := ZnB d hd
    refine ⟨⟨s.gr.zz.trans sn.gr.zz, fun a w e => ?_, fun a w e => ?_, fun a w e => (sn.gr.nw a w (ef a w e)).trans (s.gr.nw a w e)⟩, A2, x1, x2, fun a m => ?_⟩
    · rw [upd_ne fun z => by rw [z, fd] at e; cases e]
      exact sn.gr.hh a w (ef a w e)
    · rw [upd_ne fun z => by rw [z, znd] at e; cases e]
      exact sn.gr.zh a w e
    · rcases x3 a m with z | z
      · refine ⟨(l3 a z.1).1, ?_⟩
        have n := nd a z.1
        have := (l3 a z.1).2
        by_cases mm : a ∈ B ∨ a ∈ qs
        · cases e : F a with
          | none => rfl
          | some w =>
            have := ef a w e
            rw [(l3 a z.1).2] at this
            cases this
        · rw [F1o a n mm] at this; exact this
      · exact ⟨ZnB a z, (h3 a (q4 a z)).2⟩
end
end M
namespace M
open PySem L2 PySem.Spec PyProof.Rows
section
variable {X : Cx} {ρ : Slots} {e : Expr} {st : Stmt} {G : Go} {o : O} {pos p0 p1 p2 : Pos} {i i1 i2 j : Nat} {nm x : Str} {C l : Addr} {ns : List Str} {os : List O} {β V : Type} {g : β → O}
/-- where the table is, and that e tells it -/
structure Pth (X : Cx) (i : Nat) (l : Addr) (o : O) (e : Expr) (g : β → O) (m : List (List Key × β)) : Prop where
  run : ∀ (Z F H : Hp) (B : List Addr), RepO X.K Z F H (.ref l) o B → B.Nodup → ∃ d vs B1, d ∈ B ∧ H d = some (.dT ((m.map (·.1)).zip vs)) ∧ RepOL X.K Z F H vs (m.map fun p => g p.2) B1 ∧ B1.Nodup ∧ d ∉ B1 ∧ (∀ a ∈ B1, a ∈ B) ∧
    ∀ (σ : L2.St) (H1 : Hp) (Q : VK), σ[i]? = some (some (.ref l)) → (∀ a ∈ B, a ≠ d → H1 a = H a) → Q (.ref d) H1 → wE X e σ H1 Q
theorem pth_var {m : List (List Key × β)} (p : PE X (.Name x p1) (tVar i)) : Pth X i l (oDT g m) (.Name x p1) g m := .mk fun Z F H B r n => by
  obtain ⟨a, _, vs, B1, _, e1, rfl, h0, rl⟩ := hm_dctT.mp r
  cases e1
  obtain ⟨na, nB⟩ := List.nodup_cons.mp n
  exact ⟨l, vs, B1, List.mem_cons_self, h0, rl, nB, na, fun a m => List.mem_cons_of_mem _ m, fun σ H1 Q hs _ q => PE_w p ⟨_, hs, q⟩⟩
theorem pth_fld {m : List (List Key × β)} (p : PE X (.Name x p1) (tVar i)) (cc : OC X.K C ns) (hd : os[j]? = some (oDT g m)) (hj : nmAt ns nm = some j := by decide +kernel) (hb : attributeBase (.Name x p1) nm X.env (eval (.Name x p1) X.env) = eval (.Name x p1) X.env := by rfl) : Pth X i l (.ins C ns os) (.Attribute (.Name x p1) nm p2) g m := .mk fun Z F H B r n => by
  obtain ⟨a, dx, vs, B1, _, e1, rfl, h0, rl⟩ := hm_ins.mp r
  cases e1
  obtain ⟨na, nB⟩ := List.nodup_cons.mp n
  obtain ⟨v, B2, q1, q2, q3, q4, _⟩ := rl.foc hd nB
  obtain ⟨d, _, vs2, B3, _, e2, rfl, h2, rl2⟩ := hm_dctT.mp q2
  subst e2
  obtain ⟨nd, nB3⟩ := List.nodup_cons.mp q3
  refine ⟨d, vs2, B3, List.mem_cons_of_mem _ (q4 d List.mem_cons_self), h2, rl2, nB3, nd, fun a m => List.mem_cons_of_mem _ (q4 a (List.mem_cons_of_mem _ m)), fun σ H1 Q hs hk q => ?_⟩
  refine PE_w (pe_fld p hb) ⟨_, hs, l, C, dx, _, .ref d, rfl, ?_, cc.cl, cc.na nm (nmAt_mem hj), look_zip hj q1, q⟩
  rw [hk l List.mem_cons_self fun z => na (by rw [z]; exact q4 d List.mem_cons_self)]
  exact h0
/-- for k, y in d.items(), d a table that slot i holds or has in it -/
theorem m_forIt {m : List (List Key × β)} {body : List Stmt} (p : ∀ qs, PS X st (tFor (iItemsT (wE X e) qs) (gTup X.K 2 (gCons (gName i1) (gCons (gName i2) gNil))) (wS X body)))
    (hi : ρ[i]? = some (some (.loc l o))) (pth : Pth X i l o e g m) (nts : NtS ρ) (nvo : Nv o) {f : (List Key × β) → V → Option V} {v0 out : V} (hx : lp f m v0 = some out) (Rn : V → Slots) (h0 : Le (ρ.set i (some (.pt l))) (Rn v0))
    (h1 : ∀ v, i1 < (Rn v).length) (h2 : ∀ v, i2 < (Rn v).length)
    (hs : ∀ (q : List Key × β) (v v' : V), q ∈ m → f q v = some v' → MS X (((Rn v).set i1 (some (.lk (.tup ((q.1.map kD).map .fz))))).set i2 (some (.lk (g q.2)))) body { nx := fun τ => Le τ (Rn v'), ct := fun τ => Le τ (Rn v') })
    (hp : ∀ v, (Rn v)[i]? = some (some (.pt l))) (hk : ∀ v, Kp (ρ.set i (some (.pt l))) (Rn v)) (k : ∀ τ, Le τ ((Rn out).set i (some (.loc l o))) → G.nx τ) : MS1 X ρ st G := .mk fun Z0 F Z σ H D s gd => by
  obtain ⟨q1, B, r0, nB, dB, lk⟩ := locked s hi nts.nt
  obtain ⟨d, vs, B1, dm, hd, rl, nB1, dB1, sub, hev⟩ := pth.run Z F H B r0 nB
  have lv : vs.length = m.length := by rw [rl.length, List.length_map]
  generalize ekv : (m.map (·.1)).zip vs = kvs at hd
  have lkv : kvs.length = m.length := by rw [← ekv, List.length_zip, lv, List.length_map, Nat.min_self]
  refine PS_w (ps_forIT p) ⟨d, kvs, hd, fun od qs hqs hql ka => ?_⟩
  have hqt : ∀ q ∈ qs, ∃ xs, H q = some (.tup xs) := fun q mq => by
    obtain ⟨j, hj, rfl⟩ := List.mem_iff_getElem.mp mq
    have hj' : j < kvs.length := by omega
    obtain ⟨q', e1, e2⟩ := hqs j kvs[j].1 kvs[j].2 (List.getElem?_eq_getElem hj')
    rw [List.getElem?_eq_getElem hj] at e1
    cases e1
    exact ⟨_, e2⟩
  obtain ⟨ef, s1, back⟩ := lk (u := .dT kvs) (lu := .frz od (.dT kvs)) (qs := qs) dm hd hqt
  generalize eF : lkF F H B qs d (.frz od (.dT kvs)) = F1 at ef s1 back
  have F1d : F1 d = some (.frz od (.dT kvs)) := by rw [← eF]; exact lkF_d
  have fin : ∀ {τ : Slots} {v : V} {Zn Hn : Hp} {σn : L2.St}, StR X.K (Rn v) Z F1 Zn σn Hn → StR X.K ((Rn v).set i (some (.loc l o))) Z0 F Zn σn (upd Hn d (.dT kvs)) := fun s => back s (hp _) (hk _) nvo.nv
  refine hev σ _ _ q1 (fun a _ n => upd_ne n) ⟨d, od, kvs, rfl, upd_same, ka, ?_⟩
  refine ⟨fun j mm σ H => mm = m.length - j ∧ j ≤ m.length ∧ ∃ v Z2, lp f (m.drop j) v = some out ∧ StR X.K (Rn v) Z F1 Z2 σ H, ⟨m.length, by simp, Nat.zero_le _, v0, Z, hx, s1.le h0⟩, ?_⟩
  rintro j mm σ2 H2 ⟨rfl, hj, v, Z2, hv, s2⟩
  have H2d : H2 d = some (.frz od (.dT kvs)) := s2.gr.hh d _ F1d
  by_cases hlt : j < m.length
  · refine .inr ⟨⟨H2d, by omega⟩, ?_⟩
    rw [← List.getElem_cons_drop (h := hlt)] at hv
    obtain ⟨v', e1, e2⟩ := bd_some hv
    refine ⟨fun σ' H' => ∃ Z2, StR X.K (Rn v') Z F1 Z2 σ' H', fun σ' H' ⟨Z3, q⟩ => ⟨m.length - (j + 1), by omega, rfl, hlt, v', Z3, e2, q⟩, fun y H3 hy => ?_⟩
    obtain ⟨T, ky, vy, q, hky, rfl, hT, hq, rfl⟩ := hy
    have jv : j < vs.length := by omega
    have ek : ky = m[j].1 ∧ vy = vs[j] := by
      rw [← ekv, List.getElem?_zip_eq_some] at hky
      obtain ⟨a, b⟩ := hky
      rw [List.getElem?_map, List.getElem?_eq_getElem hlt] at a
      rw [List.getElem?_eq_getElem jv] at b
      exact ⟨(Option.some.inj a).symm, (Option.some.inj b).symm⟩
    obtain ⟨rfl, rfl⟩ := ek
    have s3 : StR X.K (Rn v) Z F1 Z2 σ2 (upd H2 T (.tup [.ref q, vs[j]])) := s2.grow (Gr.new s2.gr.zh hT)
    refine ⟨T, _, rfl, .of upd_same, rfl, .ref q, [vs[j]], rfl, vs[j], [], rfl, rfl, ?_⟩
    have F1q : F1 q = some (.tup (m[j].1.map kV)) := by
      obtain ⟨q', a, b⟩ := hqs j m[j].1 vs[j] hky
      rw [hq] at a
      cases a
      rw [← eF, lkF_in (fun z => by rw [z, hd] at b; cases b) (.inr (List.mem_of_getElem? hq))]
      exact b
    have rp : RepO X.K Z2 F1 (upd H2 T (.tup [.ref q, vs[j]])) (.ref q) (.lk (.tup ((m[j].1.map kD).map .fz))) [] := .lk (.tup F1q (kD_rep _))
    have rv : RepO X.K Z2 F1 (upd H2 T (.tup [.ref q, vs[j]])) vs[j] (.lk (g m[j].2)) [] := by
      obtain ⟨w, B2, a1, a2, _, a4, _⟩ := rl.foc (j := j) (o := g m[j].2) (by rw [List.getElem?_map, List.getElem?_eq_getElem hlt]; rfl) nB1
      rw [List.getElem?_eq_getElem jv] at a1
      cases a1
      have a3 : RepO X.K Z F F1 vs[j] (g m[j].2) B2 := a2.mono (Ex.refl _) (Ex.refl _) fun a ma u hu => by
        have n : a ≠ d := fun z => dB1 (by rw [← z]; exact a4 a ma)
        rw [← eF, lkF_in n (.inl (sub a (a4 a ma)))]
        exact hu
      exact .lk ((a3.toK ef).mono s2.gr.zz (Ex.refl _))
    have s4 := (s3.put (Gr.refl s3.ex) rp .nil (h1 v)).put (Gr.refl s3.ex) rv .nil (by rw [List.length_set]; exact h2 v)
    exact (hs m[j] v v' (List.getElem_mem hlt) e1).run Z F1 Z2 _ _ _ s4 ⟨fun τ Z σ H k s => ⟨Z, s.le k⟩, fun _ _ _ _ z => z.elim, fun τ Z σ H k s => ⟨Z, s.le k⟩, fun _ _ _ _ _ z => z.elim, fun _ _ _ _ _ _ z => z.elim, GX.never fun _ z => z⟩
  · have e : j = m.length := by omega
    subst e
    rw [List.drop_length] at hv
    cases hv
    exact .inl ⟨⟨H2d, by omega⟩, H2d, gd.nx _ Z2 σ2 _ (k _ (Le.refl _)) (fin (τ := []) s2)⟩
end
end M
namespace M
open PySem PySem.Spec PyProof.Rows
/-- each text once, in the order of their first coming -/
def dd1 (σ : List Str) (x : Str) : List Str := if σ.any (· == x) = true then σ else σ ++ [x]
def dd (xs : List Str) : List Str := xs.foldl dd1 []
theorem dd_snoc (xs : List Str) (x : Str) : dd (xs ++ [x]) = dd1 (dd xs) x := by unfold dd; rw [List.foldl_append]; rfl
theorem dd1_len (σ : List Str) (x : Str) : (dd1 σ x).length = if σ.any (· == x) = true then σ.length else σ.length + 1 := by
  unfold dd1; split <;> simp
theorem dd1_any (σ : List Str) (x k : Str) : (dd1 σ x).any (· == k) = (σ.any (· == k) || decide (k = x)) := by
  unfold dd1
  split
  · rename_i h
    by_cases e : k = x
    · rw [e, h]; rfl
    · rw [decide_eq_false e, Bool.or_false]
  · rw [List.any_append]
    congr 1
    rw [List.any_cons, List.any_nil, Bool.or_false]
    by_cases e : k = x
    · rw [e, beq_self_eq_true, decide_eq_true rfl]
    · rw [decide_eq_false e]
      exact beq_eq_false_iff_ne.mpr fun z => e z.symm
theorem dd_le (xs : List Str) : (dd xs).length ≤ xs.length := by
  have : ∀ (ys σ : List Str), (ys.foldl dd1 σ).length ≤ σ.length + ys.length := by
    intro ys
    induction ys with
    | nil => intro σ; exact Nat.le_refl _
    | cons y r ih =>
      intro σ
      refine Nat.le_trans (ih _) ?_
      rw [dd1_len, List.length_cons]
      split <;> omega
  have := this xs []
  rw [List.length_nil, Nat.zero_add] at this
  exact this
section
variable {prog : Program} {w : World} {A : Around}
/-- the loop that lays a walk's texts into a set -/
theorem set_loop {R : Result → Shared → Prop} {it S : Addr} {fp wr : List Addr} {g : Array GenState → Array GenState → Prop} {P : Nat → Value → Prop} {St : Nat → Shared → Prop} {xs : List Str} (W : WalksS prog w A.in1 it fp wr g xs.length P St) (sf : S ∉ fp) (hb : xs.length + 1 < scanBound)
    (hv : ∀ i v, P i v → ∃ y t, xs[i]? = some y ∧ v = .str y t) : ∀ (todo done : List Str) (s : Shared), xs = done ++ todo → St done.length s → s.heap.SetOf (strKind prog w) S (fun q => (dd done).any (· == q)) (dd done).length →
      (∀ s', Moved (S :: wr) g s s' → s'.heap.SetOf (strKind prog w) S (fun q => (dd xs).any (· == q)) (dd xs).length → R (.ok (.ret .none)) s') → codeAny (model prog w) A (.builtin "set.update.loop" ⟨[.ref S, .ref it], []⟩) R s
  | [], done, s, e, hs, hS, k => by
    rw [List.append_nil] at e
    subst e
    refine codeAny_builtin F.entry_set_update_loop ?_
    rw [Around.under_plainId F.plain_set_update_loop _]
    refine wpAny_bind (W.done s _ _ hs fun s' mv => ?_)
    refine wpAny_pure (k s' (mv.mono fun b m => List.mem_cons_of_mem _ m) ?_)
    obtain ⟨o, es, ep, tb, ho, r⟩ := hS
    exact ⟨o, es, ep, tb, mv.heap S _ (fun z => sf (W.sub _ z)) ho, r⟩
  | y :: todo, done, s, e, hs, hS, k => by
    have hy : xs[done.length]? = some y := by rw [e, List.getElem?_append_right (Nat.le_refl _), Nat.sub_self]; rfl
    have hl : done.length < xs.length := (List.getElem?_eq_some_iff.mp hy).1
    refine codeAny_builtin F.entry_set_update_loop ?_
    rw [Around.under_plainId F.plain_set_update_loop _]
    refine wpAny_bind (W.item done.length s _ _ hl hs fun v s' hP hs' mv => ?_)
    obtain ⟨y', t, ey, rfl⟩ := hv _ v hP
    rw [hy] at ey
    cases ey
    have hS' : s'.heap.SetOf (strKind prog w) S (fun q => (dd done).any (· == q)) (dd done).length := by
      obtain ⟨o, es, ep, tb, ho, r⟩ := hS
      exact ⟨o, es, ep, tb, mv.heap S _ (fun z => sf (W.sub _ z)) ho, r⟩
    refine wpAny_bind (wpAny_holding ?_)
    unfold setAdd
    refine wpAny_holding (wpAny_bind ((strKind prog w).pyHash (k := y) (strKind_is _ _ _ _) ?_))
    have room : (dd done).length + 1 < scanBound := by have := dd_le done; omega
    refine wpAny_setAddHashed_of (knd := strKind prog w) (s := { s' with toks := s'.toks + 1 }) (strKind_is _ _ _ _) rfl hS' room fun h' sb hS2 => ?_
    refine wpAny_pure ⟨plainId_quiet F.plain_set_update_loop _, set_loop W sf hb hv todo (done ++ [y]) _ (by rw [e, List.append_assoc]; rfl) ?_ (SetOf_congr hS2 (fun q => by rw [dd_snoc, dd1_any]) (by rw [dd_snoc, dd1_len])) fun s2 mv2 hS3 => ?_⟩
    · rw [List.length_append]
      exact W.frame _ s' _ _ hs' (Nat.le_succ _) fun b m o ho => by
        rw [sb.2 b fun z => sf (by rw [← z]; exact m)]; exact ho
    · exact k s2 (Moved.trans W.gtrans ((mv.mono fun b m => List.mem_cons_of_mem _ m).then_heap (Nat.le_succ _) fun b o m ho => by
        rw [sb.2 b fun z => m (by rw [z]; exact List.mem_cons_self)]; exact ho) mv2) hS3
set_option maxHeartbeats 3200000 in
/-- set(l) of a list of texts -/
theorem set_strs {E : Value → Shared → Prop} {s : Shared} {l : Addr} {its : Array Value} {xs : List Str} {Q : Value → Shared → Prop} (calm : A.handled = none) (il : s.heap.IsList l its) (hx : StrsAre its.toList xs) (hb : xs.length + 1 < scanBound)
    (k : ∀ (h' : Heap) (tk : Nat), h'.SetOf (strKind prog w) s.heap.objs.size (fun q => (dd xs).any (· == q)) (dd xs).length → (∀ b o, b < s.heap.objs.size → s.heap.get? b = some o → h'.get? b = some o) → Q (.ref s.heap.objs.size) { s with heap := h', toks := tk }) :
    wpAny (model prog w) A (call (.type "set") [.ref l]) Q E s := by
  obtain ⟨c, tl, hmro⟩ := F.called_set.mro
  have f1 := F.called_set.made
  have f2 := F.called_set.sub
  have f3 := F.called_set.notType
  have f4 := F.called_set.canCreate
  have f5 := F.typeCall_set_1 (.ref l)
  refine wpAny_call (codeAny_of_tree (show wpAny _ _ (callAny (.type "set") _) _ _ _ from wpAny_pure ⟨Code.quiet_builtin _ (by decide +kernel), codeAny_builtin F.entry_type_call ?_⟩))
  rw [Around.under_plain (weight_type_call_type "set" [.ref l] []) rfl]
  repeat (any_goals (first | assumption | wp_step))
  generalize eN : s.heap.objs.size = N at k
  refine codeAny_mono (code_set_new_1 (.ref l) (E := E) (Q₁ := fun ob s1 => ∃ led : Bool, ob = .ref N ∧ s1 = { s with heap := s.heap.push { cls := .type "set", dict := none, data := .set #[] 0 (.fresh 0 0 led) } }) fun led => ⟨led, by rw [eN], rfl⟩) fun r s1 hr => ?_
  rcases r with e | fl
  · exact hr
  · rcases fl with _ | _ | _ | ob
    all_goals first | exact hr.elim | skip
    obtain ⟨led, rfl, rfl⟩ := hr
    generalize eO : ({ cls := .type "set", dict := none, data := .set #[] 0 (.fresh 0 0 led) } : Obj) = ns
    have gN : (s.heap.push ns).get? N = some ns := by rw [← eN]; exact Heap.get?_push_size _ (by rw [← eO]; rfl)
    have tN : Shared.TypeIs { s with heap := s.heap.push ns } (.ref N) "set" := ⟨_, gN, by rw [← eO]⟩
    have f6 := F.called_set.init.lookup
    have f7 := F.called_set.init.bind (.ref N)
    repeat (any_goals (first | assumption | wp_step))
    refine codeAny_mono (codeAny_call_builtin (R := wants (fun r s2 => r = .none ∧ ∃ h' tk, s2 = { s with heap := h', toks := tk } ∧ h'.SetOf (strKind prog w) N (fun q => (dd xs).any (· == q)) (dd xs).length ∧ ∀ b o, b < N → s.heap.get? b = some o → h'.get? b = some o) E)
      F.called_set.init.plain F.entry_set_init (check_set_init_1 tN ?_)) fun r2 s2 h2 => ?_
    · obtain ⟨ol, hol, hc, nl, hd⟩ := il
      obtain ⟨oc, od, oa, os⟩ := ol
      simp only at hc hd
      subst hc hd
      have gl : (s.heap.push ns).get? l = some { cls := .type "list", dict := od, data := .seq its nl, slots := os } := Heap.get?_push_of_some _ hol
      have f8 := F.sub_list_set
      have f9 := F.sub_list_frozenset
      have f10 : (Value.type "list" == Value.type "dict") = false := by decide
      have ll : (s.heap.push ns).IsList l its := ⟨_, gl, rfl, nl, rfl⟩
      have ln : l < N := by rw [← eN]; exact Heap.lt_size hol
      have sz : (s.heap.push ns).objs.size = N + 1 := by rw [Heap.size_push, eN]
      have nI : l ≠ (s.heap.push ns).objs.size := by rw [sz]; exact Nat.ne_of_lt (Nat.lt_succ_of_lt ln)
      have sf : N ∉ [(s.heap.push ns).objs.size, l] := by
        rw [sz]
        intro m
        rcases List.mem_cons.mp m with z | z
        · exact absurd z (Nat.ne_of_lt (Nat.lt_succ_self _))
        · exact absurd (List.mem_singleton.mp z) (Nat.ne_of_gt ln)
      subst eO
      unfold Builtin.«set.__init__» noKeywords Builtin.Frozenset.updateFrom
      generalize hPI : pyIter = PI
      wp_walk
      subst hPI
      refine wpAny_pyIter_list ll ?_
      refine wpAny_bind (wpAny_runValue ?_)
      have lx : its.size = xs.length := by rw [← StrsAre.len_eq hx, Array.length_toList]
      have c3 : A.in1.in1.in1.handled = none := by simp [calm]
      have Wk := (Walks.list (prog := prog) (w := w) c3 _ l nI its).toS
      rw [lx] at Wk
      refine set_loop (xs := xs) Wk sf hb (fun i v e => ?_) xs [] _ rfl ⟨⟨_, Heap.get?_push_size _ rfl, rfl, rfl⟩, ll.push _⟩ ?_ fun s' mv hS' => ?_
      · have e : its[i]? = some v := e
        obtain ⟨t, ev⟩ := SS.strs_at hx i v (by rw [Array.getElem?_toList]; exact e)
        have il : i < xs.length := by have := (Array.getElem?_eq_some_iff.mp e).1; omega
        exact ⟨xs[i], t, List.getElem?_eq_getElem il, by rw [ev, List.getD_eq_getElem?_getD, List.getElem?_eq_getElem il]; rfl⟩
      · have g2 : ((s.heap.push { cls := .type "set", dict := none, data := .set #[] 0 (.fresh 0 0 led) }).push { cls := .type "list_iterator", data := .fields #[.ref l, .int 0 0] }).get? N = some { cls := .type "set", dict := none, data := .set #[] 0 (.fresh 0 0 led) } := Heap.get?_push_of_some _ gN
        exact SetOf_congr ((setObjOf_fresh (knd := strKind prog w) led).setOf g2 (by unfold scanBound; omega)) (fun _ => rfl) rfl
      · obtain ⟨h', g', d', tk', os'⟩ := s'
        have e1 : g' = s.gens := mv.gens
        have e2 : d' = s.drawn := mv.drawn
        have e3 : os' = s.os := mv.os
        subst e1 e2 e3
        refine wpAny_pure (wpAny_pure ⟨rfl, h', tk', rfl, hS', fun b o hl ho => ?_⟩)
        refine mv.heap b o (fun m => ?_) (Heap.get?_push_of_some _ (Heap.get?_push_of_some _ ho))
        rcases List.mem_cons.mp m with z | z
        · exact absurd z (Nat.ne_of_lt hl)
        · have := List.mem_singleton.mp z
          rw [sz] at this
          exact absurd this (Nat.ne_of_lt (Nat.lt_succ_of_lt hl))
    · rcases r2 with e2 | fl2
      · exact h2
      · rcases fl2 with _ | _ | _ | r3
        all_goals first | exact h2.elim | skip
        obtain ⟨rfl, h', tk, rfl, hS', hk'⟩ := h2
        repeat (any_goals (first | assumption | wp_step))
        exact k _ _ hS' hk'
end
end M
namespace M
open PySem L2 PySem.Spec PyProof.Rows
section
variable {X : Cx} {ρ : Slots} {e : Expr} {p p2 q pos : Pos}
theorem StrsOf : ∀ {ys : List Str} {us : List Value}, L2.Vals (ys.map L2.V.str) us → StrsAre us ys
  | [], _, .nil => .nil
  | y :: ys, _, .cons r t => by
    obtain ⟨k, rfl⟩ := r
    exact .cons y k (StrsOf t)
/-- len(set(e)), e a list of texts -/
theorem me_lenSet {xs : List Str} (hc : X.calm = true) (hg : L2.Gl X "len") (hm : X.mg "len" = none) (hg2 : L2.Gl X "set") (hm2 : X.mg "set" = none) (ha : ML X ρ e (xs.map .str)) (hb : xs.length + 1 < scanBound)
    (na : starEach [e] X.env = (false, eval e X.env) :: starEach [] X.env := by rfl) : ME X ρ (.Call (.Name "len" p) [.Call (.Name "set" p2) [e] [] q] [] pos) (.fz (.int (dd xs).length)) := .mk fun Z0 F Z σ H s Q qq => by
  refine PE_w (t := fun σ H Q => wE X e σ H fun x H1 => ∃ l, x = .ref l ∧ L2.SqL X.K H1 l (xs.map L2.V.str) ∧ Q (.int (dd xs).length) H1) ⟨fun pins s σ H Q I h => ?_⟩ (ha.run Z0 F Z σ H s _ fun a vs Z1 H1 g1 l1 r1 => ?_)
  · refine Call_ (ld_blt I hg hm boot_len ?_)
    refine callWith_builtin1 (args_cons ?_ rfl) rfl rfl
    refine Call_ (ld_blt I hg2 hm2 boot_set ?_)
    refine callWith_type1 (args_cons (L2.thn (h pins s I) fun v s1 ⟨x, H1, I1, r1, l, ex, hq, q1⟩ => args_nil ?_) na) na rfl
    subst ex
    cases r1
    obtain ⟨its, r, pl, hz⟩ := I1.list hq
    refine set_strs (I1.ok.hd hc) pl.isList (by simpa using StrsOf r) hb fun h' tk hS hk => args_nil ?_
    obtain ⟨o, es, ep, t, ho, hex, hd, _, _, _, hf, hn⟩ := hS
    have I2 : L2.Inv X pins σ H1 { s1 with heap := h', toks := tk } := I1.kept fun b o e => hk b o (Heap.lt_size e) e
    have := dd_le xs
    exact call_len_set ho hex hd hf (by rw [hn]; have : scanBound = 4096 := rfl; omega) ⟨.int (dd xs).length, H1, I2.tok _, ⟨_, by rw [hn]⟩, q1⟩
  · have e := r1.strs
    subst e
    exact ⟨a, rfl, l1, qq _ Z1 H1 [] g1 (.fz (.int _)) .nil⟩
end
end M
namespace M
open PySem L2 PySem.Spec PyProof.Rows
section
variable {X : Cx} {ρ ρ' : Slots} {R R' : O → Slots} {e a b c f : Expr} {es : List Expr} {d d1 dk : D} {ds : List D} {pos p0 p1 p2 p3 p4 : Pos} {i j : Nat} {st : Stmt} {sts : List Stmt} {G : Go} {o o' : O} {nm : Str} {C l : Addr} {ns : List Str} {os : List O} {β : Type} {g : β → O} {enc : β → D} {k : Key} {ks : List Key} {y1 : β} {n : Int}
theorem keysD_cons (h : keyD d = some k) (t : keysD ds = some ks) : keysD (d :: ds) = some (k :: ks) := by
  show (keyD d).bind _ = _
  rw [h, t]
  rfl
/-- a slot's own thing at a known address -/
theorem ms_locO (hi : ρ[i]? = some (some o)) (hr : o.isRef = true) (h : ∀ a, MS X (ρ.set i (some (.loc a o))) sts G) : MS X ρ sts G := .mk fun Z0 F Z σ H D s g => by
  obtain ⟨T, s⟩ := s.a
  obtain ⟨v, _, f⟩ := s.foc hi
  obtain ⟨A, f⟩ := f
  obtain ⟨a, rfl⟩ := f.rp.isRef hr
  exact (h a).run Z0 F Z σ H D (f.same s.gr.zh (.loc f.rp)) g
/-- p.f = e, f there -/
theorem m_setFldPO {all : List Str} (h : MQ X ρ a (.ins C ns os) R) (cc : OC X.K C all) (he : ME X ρ e o) (kk : G.nx (R (.ins C ns (os.set j o)))) (hj : nmAt ns nm = some j := by decide +kernel) (hm : nm ∈ all := by decide +kernel) (hl : os.length = ns.length := by rfl) (h1000 : ns.length < 1000 := by decide +kernel)
    (hs : swapsWith e (some (.Attribute a nm p2)) p3.line X.env = pure false := by rfl) : MS1 X ρ (.Assign [.Attribute a nm p2] e p3) G :=
  m_setFldP h hl h1000 cc hm he (by rw [nsPut_old hj, xsPut_old hj hl]; exact kk) hs
/-- dict(x), x an own table -/
theorem me_dictK {m : List (Key × β)} (hg : Gl X "dict") (hm : X.mg "dict" = none) (ha : MV X ρ a (oDK (fun y => .fz (enc y)) m)) (n1 : NS X a := by exact fun _ => rfl) : ME X ρ (.Call (.Name "dict" p0) [a] [] pos) (oDK (fun y => .fz (enc y)) m) := .mk fun Z0 F Z σ H s Q q =>
  PE_w (pe_callTy call_dictD hg hm (by decide +kernel) (pa_cons pe_w pa_nil (n1 _)) (he := n1 _)) (ha.run Z0 F Z σ H s _ fun v Z1 H1 A1 g1 r1 => by
    rw [oDK_fz] at r1 q
    cases r1 with
    | @dct l _ vs _ _ h0 rl =>
      refine ⟨l, _, rfl, .inl h0, fun p hp => ?_⟩
      exact q _ Z1 _ [p] (g1.trans (Gr.new g1.zh hp)) (.dct upd_same rl.fzs.2.own) (new_one (g1.hh.free hp) (g1.zh.free hp)))
theorem me_dictF {ks : List Key} {ds : List D} (hg : Gl X "dict") (hm : X.mg "dict" = none) (ha : MV X ρ a (.fz (.dct ks ds))) (n1 : NS X a := by exact fun _ => rfl) : ME X ρ (.Call (.Name "dict" p0) [a] [] pos) (.dct ks (ds.map .fz)) := .mk fun Z0 F Z σ H s Q q =>
  PE_w (pe_callTy call_dictD hg hm (by decide +kernel) (pa_cons pe_w pa_nil (n1 _)) (he := n1 _)) (ha.run Z0 F Z σ H s _ fun v Z1 H1 A1 g1 r1 => by
    cases r1 with
    | fz r1 =>
      cases r1 with
      | dct h0 rl =>
        refine ⟨_, _, rfl, .inl (g1.zh _ _ h0), fun p hp => ?_⟩
        exact q _ Z1 _ [p] (g1.trans (Gr.new g1.zh hp)) (.dct upd_same rl.own) (new_one (g1.hh.free hp) (g1.zh.free hp)))
theorem MV.lku (h : MV X ρ e (.lk (.tup (ds.map .fz)))) : MU X ρ e ds := .mk fun Z0 F Z σ H s Q q => h.run Z0 F Z σ H s Q fun v Z' H' A g r => by
  cases r with
  | lk r =>
    cases r with
    | tup h r => exact q _ _ Z' H' g (.of ((s.gr.hh.trans g.hh) _ _ h)) r.fzs
end
end M
namespace M
open PySem L2 PySem.Spec PyProof.Rows
section
variable {X : Cx} {ρ ρ' : Slots} {R R' : O → Slots} {e a b c f : Expr} {es : List Expr} {d d1 dk : D} {ds : List D} {pos p0 p1 p2 p3 p4 : Pos} {i j : Nat} {st : Stmt} {sts : List Stmt} {G : Go} {o o' : O} {nm x : Str} {C l : Addr} {ns : List Str} {os : List O} {β : Type} {g : β → O} {enc : β → D}
/-- x.append(e), e of another kind: the list is forgotten -/
theorem m_appendN {xs : List β} (hl : xs.length < sizeLine) (p : PE X (.Name x p1) (tVar i)) (hi : ρ[i]? = some (some (.lst ((xs.map enc).map .fz)))) (he : ME X ρ e o) (k : ∀ q, G.nx (ρ.set i (some q)))
    (q : ∀ t, PE X (.Call (.Attribute (.Name x p1) "append" p2) [e] [] p3) t → PS X (.Expr (.Call (.Attribute (.Name x p1) "append" p2) [e] [] p3) p4) (tDrop t) := by exact fun _ h => ps_expr h)
    (pm : PE X (.Call (.Attribute (.Name x p1) "append" p2) [e] [] p3) (tBM X.K "list" rAppend (tVar i) (tCons (wE X e) tNil)) := by exact pe_bm PySem.F.plainAttrs_list PySem.F.slot_list_append PySem.F.type_list_append mt_append (pv _) (pa_cons pe_w pa_nil)) : MS1 X ρ (.Expr (.Call (.Attribute (.Name x p1) "append" p2) [e] [] p3) p4) G :=
  m_append p hi he (by rw [List.length_map, List.length_map]; exact hl) (k _) q pm
/-- f(e), the def changing what is handed to it, which is new -/
theorem me_fnJf {α : Type} {ar1 ar2 : α → List O} {pre : α → Prop} {s0 s1 : α → O} {res : α → O} {k : Nat} {ps : List Str} (c : Fn1 X.prog X.w X.K X.mg X.base nm k ps (SpJ X.K ar1 ar2 pre s0 s1 res)) (y : α) (ha : ME X ρ e (s0 y)) (h1 : ar1 y = []) (h2 : ar2 y = []) (hp : pre y) (hr : Room k X.A) (href : (s0 y).isRef = true := by rfl) (hg : Gl X nm := by rfl)
    (hdb : (nm == ("__debug__" : Str)) = false := by decide) (he : starEach [e] X.env = (false, eval e X.env) :: starEach [] X.env := by rfl) {o' : O} (hres : res y = o' := by first | (dsimp only; done) | (dsimp only; rfl) | rfl) : ME X ρ (.Call (.Name nm p0) [e] [] pos) o' := by
  subst hres
  obtain ⟨f, fd, hm, hk, hb, F⟩ := c.ex
  refine .mk fun Z0 F0 Z σ H s Q q => ?_
  exact PE_w (pe_call F hr hg hm hk hb .nil pass0 (pa_cons pe_w pa_nil he) hdb he (by rfl)) (ha.run Z0 F0 Z σ H s _ fun v Z1 H1 A1 g1 r1 n1 => by
    obtain ⟨l, rfl⟩ := r1.isRef href
    have zA : ∀ a ∈ A1, Z1 a = none := fun a m => (n1.2 a m).2
    have eHw : Ex H (wo H1 A1) := fun a u e => by
      rw [wo_out fun m => by rw [(n1.2 a m).1] at e; cases e]
      exact g1.hh a u e
    refine ⟨y, Z1, wo H1 A1, l, [], [], A1, rfl, ex_to_wo g1.zh zA, ex_wo, n1.1, fun a m => wo_in m, r1.mono (Ex.refl _) (s.gr.hh.trans eHw) fun a _ u e => e, by rw [h1]; exact .nil, by rw [h2]; exact .nil, hp, fun v Z2 H2 B g2 rb nB dB => ?_⟩
    cases rb with
    | @cons _ _ _ _ B1 _ ra rb =>
      cases rb with
      | @cons _ _ _ _ B2 _ rb r0 =>
        cases r0
        rw [List.append_nil] at nB dB
        have hB2 : ∀ a ∈ B2, H a = none := fun a m => by
          rcases wo_none (dB a (List.mem_append_right _ m)).1 with z | z
          · exact (n1.2 a z).1
          · exact g1.hh.free z
        refine q v Z2 H2 B2 ⟨g1.zz.trans g2.zz, eHw.trans g2.hh, g2.zh, fun a u e => (g2.nw a u (eHw a u e)).trans (g1.nw a u e)⟩ (rb.mono (Ex.refl _) (fun _ _ z => by cases z) fun _ _ _ z => z) ⟨(List.nodup_append.mp nB).2.1, fun a m => ⟨hB2 a m, (dB a (List.mem_append_right _ m)).2⟩⟩)
/-- return x, x a slot's own thing, the slots told -/
theorem m_retMS (p : PS X st (tRet (wE X (.Name x p1)))) (pn : PE X (.Name x p1) (tVar i)) (hi : ρ[i]? = some (some o)) (hr : o.isRef = true) (k : ∀ l, G.rs o (ρ.set i (some (.pt l)))) : MS1 X ρ st G := .mk fun Z0 F Z σ H D s g => by
  obtain ⟨T, s⟩ := s.a
  obtain ⟨v, e, A, f⟩ := s.foc hi
  obtain ⟨l, rfl⟩ := f.rp.isRef hr
  refine PS_w p (PE_w pn ⟨_, e, ?_⟩)
  have st := f.k (w := .ref l) (p := o) (o' := .pt l) (B := [] ++ (A ++ [])) (Ex.refl _) (fun _ _ => rfl) s.gr.zh (fun _ _ _ e => e) (.cons .pt (.cons f.rp .nil)) (by simpa using f.nd) (fun a m => by
    have m : a ∈ A := by simpa using m
    exact ⟨.inl m, (f.ds a m).2.1⟩)
  exact g.rs _ _ _ Z _ H (k l) st
end
end M
namespace M
open PySem L2
/-- a tuple of ints and texts -/
def litV : D → V
  | .int i => .int i
  | .str x => .str x
  | .bl b => .bl b
  | _ => .non
def litB : D → Bool
  | .int _ => true
  | .str _ => true
  | .bl _ => true
  | .non => true
  | _ => false
theorem litV_rep {K : PySem.W.Frag} {Z : Hp} : ∀ {ds : List D}, ds.all litB = true → RepL K Z (ds.map litV) ds
  | [], _ => .nil
  | d :: ds, h => by
    rw [List.all_cons, Bool.and_eq_true] at h
    refine .cons ?_ (litV_rep h.2)
    cases d with
    | int i => exact .int i
    | str x => exact .str x
    | bl b => exact .bl b
    | non => exact .non
    | _ => cases h.1
theorem tupV_ok {K : PySem.W.Frag} {h : Heap} {mg : Str → Option Value} {x : Str} {ds : List D} (X : K.In h) (G : h.Ns mainGlobals mg) (hl : ds.all litB = true) (c : tupV K x (ds.map litV) = true) : TupC K mg x ds := by
  obtain ⟨c2, c⟩ := He.ba c
  have m := PySem.W.mg_of X G (He.eqO_ok c2)
  split at c
  · rename_i cn od its n sl e
    obtain ⟨h1, h2⟩ := He.ba c
    obtain ⟨h3, h4⟩ := He.ba h2
    exact ⟨⟨_, _, its, n, _, m, e, congrArg Value.type (of_decide_eq_true h1), rfl, of_decide_eq_true h3, He.relAll_ok h4, fun Z => litV_rep hl⟩⟩
  · cases c
end M
namespace M
open PySem L2
/-! tuples cut, tuples put together -/
section
variable {X : Cx} {ρ : Slots} {a b : Expr} {ds es : List D} {pos p2 : Pos} {lo hi : Option Expr} {li hj : Option Int}
/-- a[lo:hi] of a tuple, not the whole -/
theorem me_slT (hn : ¬ (HT.sIx ds.length 0 li = 0 ∧ HT.sIx ds.length ds.length hj = ds.length)) (ha : MU X ρ a ds) (hl : MO X ρ lo li) (hh : MO X ρ hi hj) : ME X ρ (.Subscript a (.Slice lo hi none p2) pos) (.fz (.tup (cutG ds li hj))) := .mk fun Z0 F Z σ H s Q q => by
  obtain ⟨tl, pl, kl⟩ := hl.run
  obtain ⟨th, ph, kh⟩ := hh.run
  refine PE_w (pe_slice sl_tup pe_w pl ph) (ha.run Z0 F Z σ H s _ fun l vs Z1 H1 g1 l1 r1 => kl Z0 F Z1 σ H1 (s.grow g1) _ fun Z2 H2 g2 => kh Z0 F Z2 σ H2 (s.grow (g1.trans g2)) _ fun Z3 H3 g3 => ?_)
  refine ⟨l, vs, rfl, ex_t (g2.hh.trans g3.hh) l1, by rw [r1.length]; exact hn, fun p hp => ?_⟩
  have g := g1.trans (g2.trans g3)
  have r3 := (r1.mono (g2.zz.trans g3.zz)).cut li hj
  exact q _ (upd Z3 p (.tup (cutV vs li hj))) _ [] (g.trans (Gr.newz g.zh hp)) (.fz (.tup (.of upd_same) (r3.mono (Ex.new (g.zh.free hp))))) .nil
/-- a + b of tuples, neither empty -/
theorem me_catTT (h1 : ds ≠ []) (h2 : es ≠ []) (hl : ds.length + es.length ≤ 1000) (ha : MU X ρ a ds) (hb : MU X ρ b es) : ME X ρ (.BinOp a .Add b pos) (.fz (.tup (ds ++ es))) := .mk fun Z0 F Z σ H s Q q =>
  PE_w (pe_op op_catT pe_w pe_w) (ha.run Z0 F Z σ H s _ fun l vs Z1 H1 g1 l1 r1 => hb.run Z0 F Z1 σ H1 (s.grow g1) _ fun l2 us Z2 H2 g2 l2' r2 => by
    have g := g1.trans g2
    have e1 := r1.length
    have e2 := r2.length
    have d1 := List.length_pos_iff.mpr h1
    have d2 := List.length_pos_iff.mpr h2
    refine ⟨l, l2, vs, us, rfl, rfl, ex_t g2.hh l1, l2', fun z => by rw [z] at e1; simp at e1; omega, by show _ ≤ 16777216; omega, fun z => by rw [z] at e2; simp at e2; omega, fun _ p hp => ?_⟩
    exact q _ (upd Z2 p (.tup (vs ++ us))) _ [] (g.trans (Gr.newz g.zh hp)) (.fz (.tup (.of upd_same) (((r1.mono g2.zz).append r2).mono (Ex.new (g.zh.free hp))))) .nil)
end
end M
namespace M
open PySem L2
/-! if a or not f(..): f changing things -/
section
variable {X : Cx} {ρ : Slots} {a c : Expr} {pos po p0 : Pos} {G : Go}
theorem m_ifOrNX {A B : List Stmt} {m : Bool} (ha : MT X ρ a m) (h0 : m = true → MS X ρ A G) (h1 : m = false → ∃ (k : Bool) (ρ' : Slots), MX X ρ c (.fz (.bl k)) ρ' ∧ (k = false → MS X ρ' A G) ∧ (k = true → MS X ρ' B G))
    (he : ∀ whole, isTrue c X.env whole = (do let v ← whole; standAt c.pos; holding [v] (truthy v)) := by intro _; rfl) : MS1 X ρ (.If (.BoolOp .Or [a, .UnaryOp .Not c p0] po) A B pos) G := .mk fun Z0 F Z σ H D s g =>
  PS_w (ps_if (PW.pt (pw_or pt_w (pw_or1 (pt_not (pt_val pe_w he))))) pss_w pss_w) (ha.run Z0 F Z σ H s _ fun Z1 H1 g1 => by
    cases m with
    | true => exact (h0 rfl).run Z0 F Z1 σ H1 D (s.grow g1) g
    | false =>
      obtain ⟨k, ρ', h, k1, k2⟩ := h1 rfl
      exact h.run Z0 F Z1 σ H1 (s.grow g1) _ fun v Z2 H2 s1 => by
        obtain ⟨T, t1, t2, t3⟩ := s1.st
        obtain ⟨B1, C1, q1, q2, q3, q4⟩ := t1.last t2
        cases q2 with
        | fz q2 =>
          cases q2
          refine ⟨k, rfl, ?_⟩
          cases k with
          | false => exact (k1 rfl).run Z0 F Z2 σ H2 D s1.pop g
          | true => exact (k2 rfl).run Z0 F Z2 σ H2 D s1.pop g)
end
end M
namespace M
open PySem L2 PySem.Spec PyProof.Rows
/-! methods that may refuse; self is looked at alone -/
structure Mt1E (P : Program) (w : World) (K : PySem.W.Frag) (mg : Str → Option Value) (base : Heap) (C : Addr) (m : Str) (k : Nat) (ps : List Str) (sp : Sp) : Prop where
  ex : ∃ (f : Addr) (fd : FuncData), Meth K C m f ∧ Binds K fd ps [] ∧ FnOk P w K mg base (L2.CX P w) k f fd ps sp
theorem Mt1E.ok {P : Program} {w : World} {K : PySem.W.Frag} {mg : Str → Option Value} {base : Heap} {C : Addr} {m : Str} {k : Nat} {ps : List Str} {α : Type} {ar : α → List O} {pre : α → Prop} {res : α → O} (c : Mt1E P w K mg base C m k ps (SpE K ar pre res)) : Mt1 P w K mg base C m k ps (SpM K ar (fun x => pre x ∧ ∀ e, res x ≠ .rs e) res) := by
  obtain ⟨f, fd, hm, hb, F⟩ := c.ex
  exact ⟨f, fd, hm, hb, F.known fun vs H Q E ⟨x, Z, ez, r, ⟨hp, hn⟩, q⟩ => ⟨x, Z, ez, r, hp, q, fun e _ _ z => absurd z (hn e)⟩⟩
section
variable {X : Cx} {ρ : Slots} {a e : Expr} {es : List Expr} {pos p1 : Pos} {nm : Str} {C : Addr} {ns : List Str} {ds : List D} {er : Er}
theorem mz_mt {α : Type} {ar : α → List O} {pre : α → Prop} {res : α → O} {k : Nat} {ps : List Str} {ro : List O} {pl : Sem Bool} (c : Mt1E X.prog X.w X.K X.mg X.base C nm k ps (SpE X.K ar pre res)) (cc : OC X.K C ns) (x : α) (ho : MV X ρ a (.fz (.ins C ns ds))) (ha : MA X ρ (e :: es) ro) (hx : ar x = .fz (.ins C ns ds) :: ro) (hp : pre x) (hr : Room k X.A) (hres : res x = .rs er := by first | (dsimp only; done) | (dsimp only; rfl) | rfl)
    (hnm : nmAt ns nm = none := by decide +kernel) (he : starEach (e :: es) X.env = (false, eval e X.env) :: starEach es X.env := by rfl) (hpl : (backTo pos (starEach es X.env)).any (·.1) = false := by rfl)
    (ht : eval (.Call (.Attribute a nm p1) (e :: es) [] pos) X.env = (do
      let ov ← eval a X.env
      standAt p1.atName
      let (f, first) ← holding [ov] (getMethod ov nm pl)
      callWith pos f first (backTo pos (starEach (e :: es) X.env)) (backToKw pos (keywordEach [] X.env))) := by rfl) : MRz X ρ (.Call (.Attribute a nm p1) (e :: es) [] pos) er := by
  obtain ⟨f, fd, hm, hb, F⟩ := c.ex
  exact .mk fun Z0 F0 Z σ H s W tk qx Q => PE_w (pe_meth (pl := pl) pe_w cc.cl hm F hr hb .nil (pass_ew tk) pa_w he hpl ht) (ho.run Z0 F0 Z σ H s _ fun v Z1 H1 A1 g1 r1 => by
    cases r1 with
    | fz r1 =>
      have r1' := r1
      cases r1' with
      | @ins l C dx ns vs0 ds hz rl =>
        refine ⟨l, dx, _, rfl, g1.zh _ _ hz, look_none hnm, ha.run Z0 F0 Z1 σ H1 (s.grow g1) _ fun vs Z2 H2 g2 r2 => ?_⟩
        refine ⟨x, Z2, g2.zh, by rw [List.append_nil, hx]; exact .cons (A := []) (.fz (r1.mono g2.zz)) r2, hp, fun v Z3 H3 A g3 r3 n3 => ?_, fun e Z3 H3 z g3 => ?_⟩
        · rw [hres] at r3
          cases r3
        · rw [hres] at z
          cases z
          exact thrE_of fun σ' => qx σ' Z3 H3 (s.gr.trans ((g1.trans g2).trans g3)))
end
/-! a list of instances against no list -/
section
variable {X : Cx} {ρ : Slots} {a b : Expr} {pos : Pos} {o : O} {β : Type} {enc : β → D} {xs : List β}
theorem ok_nil : D.ok (.lst []) := ⟨rfl, rfl⟩
theorem me_eqNil (hu : X.A.units + 64 < cLine) (h : xs = []) (ha : MV X ρ a o) (e1 : o.frz = .lst (xs.map enc)) (hb : MV X ρ b (.lst [])) : ME X ρ (.Compare a [.Eq] [b] pos) (.fz (.bl true)) := by
  subst h
  exact me_eqDT (d1 := .lst []) (d2 := .lst []) hu ⟨ok_nil, ok_nil⟩ e1 rfl ha hb
theorem me_neNil (hu : X.A.units + 64 < cLine) (h : xs = []) (ha : MV X ρ a o) (e1 : o.frz = .lst (xs.map enc)) (hb : MV X ρ b (.lst [])) : ME X ρ (.Compare a [.NotEq] [b] pos) (.fz (.bl false)) := by
  subst h
  exact me_neDT (d1 := .lst []) (d2 := .lst []) hu ⟨ok_nil, ok_nil⟩ e1 rfl ha hb
theorem mt_eqNil (hu : X.A.units + 64 < cLine) (h : xs = []) (ha : MV X ρ a o) (e1 : o.frz = .lst (xs.map enc)) (hb : MV X ρ b (.lst [])) : MT X ρ (.Compare a [.Eq] [b] pos) true := by
  subst h
  exact mt_eqDT (d1 := .lst []) (d2 := .lst []) hu ⟨ok_nil, ok_nil⟩ e1 rfl ha hb
theorem mt_neNil (hu : X.A.units + 64 < cLine) (h : xs = []) (ha : MV X ρ a o) (e1 : o.frz = .lst (xs.map enc)) (hb : MV X ρ b (.lst [])) : MT X ρ (.Compare a [.NotEq] [b] pos) false := by
  subst h
  exact mt_neDT (d1 := .lst []) (d2 := .lst []) hu ⟨ok_nil, ok_nil⟩ e1 rfl ha hb
end
end M
namespace M
open PySem L2 PySem.Spec PyProof.Rows
/-! ### a def that tells a tuple of some items of its one argument, a tuple: nothing else is changed by it -/
inductive IxEs (x : Str) : List Expr → List Int → Prop
  | nil : IxEs x [] []
  | cons {p1 p2 p3 : Pos} {j : Nat} {k : Int} {es : List Expr} {ks : List Int} (h : IxEs x es ks) : IxEs x (.Subscript (.Name x p1) (.Constant (.int k) j p2) p3 :: es) (k :: ks)
/-- the items at ks -/
inductive AtAll (xs : List V) : List Int → List V → Prop
  | nil : AtAll xs [] []
  | cons {k : Int} {z : V} {ks : List Int} {zs : List V} (h : atI xs k = some z) (t : AtAll xs ks zs) : AtAll xs (k :: ks) (z :: zs)
section
variable {X : Cx} {pins : List (Addr × Obj)} {σ : L2.St} {H : Hp} {s : Shared} {x : Str} {i : Nat} {p : Addr} {xs : List V} {E : Value → Shared → Prop}
theorem one_item {p1 p2 p3 : Pos} {j : Nat} {k : Int} {z : V} {Q : Value → Shared → Prop} (hN : X.N[i]? = some x) (hk : X.env.kindOf x = some .local) (hσ : σ[i]? = some (some (.ref p))) (hd : (x == ("__debug__" : Str)) = false) (I : Inv X pins σ H s) (hq : SqT X.K H p xs) (he : atI xs k = some z)
    (fin : ∀ w, RelV z w → Q w { s with toks := s.toks + 1 }) : wpAny (model X.prog X.w) X.A (eval (.Subscript (.Name x p1) (.Constant (.int k) j p2) p3) X.env) Q E s := by
  refine Subscript_ ?_
  obtain ⟨m, hn, hl⟩ := I.loc
  obtain ⟨u, r, l⟩ := hl i x (.ref p) hN hσ (.inl hk)
  cases r
  rcases l with ⟨hk', hm⟩ | ⟨hk', _⟩
  · refine wpAny_Name (wpAny_loadName_local I.ok.kind hk hn hm ?_) hd
    refine wpAny_Constant_int ?_
    have I1 : Inv X pins σ H { s with toks := s.toks + 1 } := I.tok _
    obtain ⟨its, r, pl, hz⟩ := I1.tuple hq
    obtain ⟨jj, h1, h2, h3, h4, h5⟩ := atI_get he
    obtain ⟨w, ew, rw'⟩ := r.get h2
    have hl := r.length
    have hn := line63
    exact subscriptTail_builtinR (x := w) pl.typeIs slot_tuple_getitem.lookup
      (getItem_tuple (j := jj) (Q := fun r s' => r = w ∧ Q r s') pl (by omega) (by omega) (by rw [List.size_toArray, ← hl]; exact h1) (by simpa using ew) ⟨rfl, fin w rw'⟩) (by with_unfolding_all rfl)
  · exfalso
    rcases hk' with z | z
    · have := hk.symm.trans z; cases this
    · have := hk.symm.trans z; cases this
theorem all_items {Q : List Value → Shared → Prop} {pos : Pos} (hN : X.N[i]? = some x) (hk : X.env.kindOf x = some .local) (hσ : σ[i]? = some (some (.ref p))) (hd : (x == ("__debug__" : Str)) = false) (hq : SqT X.K H p xs) {es : List Expr} {ks : List Int} (h : IxEs x es ks) : ∀ {zs : List V} {s : Shared}, Inv X pins σ H s → AtAll xs ks zs →
    (∀ ws tk, Vals zs ws → Q ws { s with toks := tk }) → wpAny (model X.prog X.w) X.A (spliced (backTo pos (starEach es X.env))) Q E s := by
  induction h generalizing Q with
  | nil =>
    intro zs s I ha fin
    cases ha
    exact Calls.spliced_nil (fin [] s.toks .nil)
  | @cons p1 p2 p3 j k es ks h ih =>
    intro zs s I ha fin
    cases ha with
    | @cons _ z _ zs he t =>
      show wpAny _ _ (spliced ((false, eval (.Subscript (.Name x p1) (.Constant (.int k) j p2) p3) X.env) :: backTo pos (starEach es X.env))) _ _ s
      refine Calls.spliced_cons (one_item hN hk hσ hd I hq he fun w rw => ?_)
      exact ih (I.tok _) t fun ws tk r => fin (w :: ws) tk (.cons rw r)
/-- what a call of such a def leaves: a new tuple -/
def KeyLeft (s : Shared) (zs : List V) (u : Value) (s' : Shared) : Prop := ∃ h' tk, s' = { s with heap := h', toks := tk } ∧ (∀ b o, s.heap.get? b = some o → h'.get? b = some o) ∧ ∃ (ws : List Value) (q : Addr), Vals zs ws ∧ u = .ref q ∧ h'.get? q = some { cls := .type "tuple", data := .seq ws.toArray }
theorem key_run {A1 : Around} {nm qual : Str} {st : Stmt} {f : Addr} {fd : FuncData} {es : List Expr} {ks : List Int} {zs : List V} {c : Nat} {q3 q4 : Pos} (sb : Sub X 1 A1) (F : Fun X.K nm qual st f fd) (S : FnScope [x] [x] (defScope st)) (hloc : (defScope st).names.lookup x = some .local) (bd : Binds X.K fd [x] [])
    (hb : defBody st = [.Return (some (.Tuple es c q3)) q4]) (hx : IxEs x es ks) (hd : (x == ("__debug__" : Str)) = false) (I : Inv X pins σ H s) (hq : SqT X.K H p xs) (ha : AtAll xs ks zs) (hz : zs.length ≤ sizeLine) :
    wpAny (model X.prog X.w) A1 (call (.ref f) [.ref p]) (KeyLeft s zs) (fun _ _ => False) s := by
  have e0 : Env0 X.prog X.w X.K X.mg X.base A1 X.stack s H := by
    have e := I.env0
    exact ⟨by rw [sb.fr]; exact e.frames, e.mod, e.bs, e.bsz, e.funs, e.frf, e.hok, e.bare⟩
  have bs := bd s [.ref p] I.kIn rfl
  obtain ⟨oc, od, kV, dc, pm, an, cdv, ct, osl, rfl, lk, hcd⟩ := F.ex
  have KX : X.K.In s.heap := I.kIn
  have lim : s.heap.NoLimit := e0.mod.nolimit.keeps fun b o e => (e0.bs b o e).1
  have r : Vals [V.ref p] [Value.ref p] := .cons rfl .nil
  have hkind : ∀ y ∈ [x].zip [Value.ref p], (defScope st).names.lookup y.1 = some .local ∨ ((defScope st).names.lookup y.1 = some .cell ∧ ((cellsFrom (s.heap.objs.size + 1) (defScope st).names []).lookup y.1).isSome = true) := fun y hy => by
    have : y = (x, Value.ref p) := by simpa using hy
    subst this
    exact .inl hloc
  refine wpAny_call ?_
  refine codeAny_call_function sb.room.depth (KX _ _ lk) rfl S.co S.gen rfl (PySem.W.codeRec_of KX hcd) ?_
  have bs' := bs
  rw [List.append_nil] at bs'
  refine bs' _ _ _ _ ?_
  refine wpAny_newFunctionEnv_cells S.kind hkind fun env he s1 y => ?_
  subst he
  refine ⟨lim.keeps y.toInCall.keep, codeAny_func ?_⟩
  have J : Inv (cxOf CX0 X.prog X.w X.K X.mg X.base [x] qual (defScope st) f cdv A1 X.stack s H fun _ _ _ => False) [] (L2.start [x] [V.ref p]) H s1 := inv_start S sb.room.hd e0 rfl r y
  obtain ⟨h1, tk, rfl, hk⟩ := y.done
  rw [hb]
  have J1 := J.tok tk
  refine wpAny_execs_cons (wpAny_Return_some (wpAny_Tuple_spliced ?_))
  refine all_items (X := cxOf CX0 X.prog X.w X.K X.mg X.base [x] qual (defScope st) f cdv A1 X.stack s H fun _ _ _ => False) (i := 0) rfl (by
    show (envOfC qual (defScope st) s.heap.objs.size f cdv).kindOf x = _
    exact hloc) rfl hd hq hx J1 ha fun ws tk2 rw' => ?_
  refine ⟨by rw [← rw'.length]; exact hz, ?_⟩
  refine ⟨_, tk2, rfl, fun b o e => Heap.get?_push_of_some _ (hk b o e), ws, _, rw', rfl, Heap.get?_push_size _ rfl⟩
end
/-! ### sorted(xs, key=f) -/
section
variable {β : Type} {K : PySem.W.Frag} {Z : Hp} {enc : β → D}
def StandK (K : PySem.W.Frag) (Z : Hp) (enc : β → D) (u : Value) (b : β) : Prop := ∃ x, RelV x u ∧ Rep K Z x (enc b)
theorem each_in : ∀ {xs : List V} {us : List Value} {bs : List β}, Vals xs us → RepL K Z xs (bs.map enc) → PySem.W.EachIs (StandK K Z enc) us bs
  | [], _, [], .nil, .nil => .nil
  | _ :: _, _, _ :: _, .cons r1 r2, .cons h1 h2 => .cons ⟨_, r1, h1⟩ (each_in r2 h2)
theorem each_out : ∀ {us : List Value} {bs : List β}, PySem.W.EachIs (StandK K Z enc) us bs → ∃ xs, Vals xs us ∧ RepL K Z xs (bs.map enc)
  | _, _, .nil => ⟨[], .nil, .nil⟩
  | _, _, .cons ⟨x, r, h⟩ t => by
    obtain ⟨xs, q1, q2⟩ := each_out t
    exact ⟨x :: xs, .cons r q1, .cons h q2⟩
/-- the ints at ks -/
inductive AtInts (ds : List D) : List Int → List Int → Prop
  | nil : AtInts ds [] []
  | cons {k z : Int} {ks zs : List Int} (h : atI ds k = some (.int z)) (t : AtInts ds ks zs) : AtInts ds (k :: ks) (z :: zs)
theorem AtInts.all {ds : List D} {xs : List V} (r : RepL K Z xs ds) : ∀ {ks zs : List Int}, AtInts ds ks zs → AtAll xs ks (zs.map V.int)
  | _, _, .nil => .nil
  | _, _, .cons h t => by
    obtain ⟨v, e, rv⟩ := r.atI h
    cases rv
    exact .cons e (t.all r)
theorem AtInts.len {ds : List D} : ∀ {ks zs : List Int}, AtInts ds ks zs → zs.length = ks.length
  | _, _, .nil => rfl
  | _, _, .cons _ t => congrArg (· + 1) t.len
theorem reads_ints {h : Heap} : ∀ {zs : List Int} {ws : List Value}, Vals (zs.map V.int) ws → ReadsAll h ws (zs.map PyData.int) []
  | [], _, .nil => .nil
  | z :: zs, _, .cons r t => by
    obtain ⟨tk, rfl⟩ := r
    exact .cons (.int z tk) (reads_ints t)
def rSortK (K : PySem.W.Frag) (enc : β → D) (key : β → List Int) (bs : List β) (f : Addr) : List V → List V → Hp → VK → Prop := fun vs zs H Q => ∃ (Z : Hp) (l : Addr) (xs : List V), vs = [.ref l] ∧ zs = [.ref f] ∧ SqL K H l xs ∧ RepL K Z xs (bs.map enc) ∧ Ex Z H ∧
  ∀ ys p, RepL K Z ys ((bs.mergeSort (PySem.W.dataLe false fun b => PyData.tuple ((key b).map PyData.int))).map enc) → H p = none → Q (.ref p) (upd H p (.lst ys))
/-- f tells the tuple of the ints at ks of its argument, a tuple -/
structure KeyF (K : PySem.W.Frag) (f : Addr) (ks : List Int) : Prop where
  ex : ∃ (nm qual x : Str) (st : Stmt) (fd : FuncData) (es : List Expr) (c : Nat) (q3 q4 : Pos), Fun K nm qual st f fd ∧ FnScope [x] [x] (defScope st) ∧ (defScope st).names.lookup x = some .local ∧ Binds K fd [x] [] ∧
    defBody st = [.Return (some (.Tuple es c q3)) q4] ∧ IxEs x es ks ∧ (x == ("__debug__" : Str)) = false
theorem cr_sortK {X : Cx} {bs : List β} {enc : β → D} {k0 : β → Int} {kr : β → List Int} {f : Addr} {ks : List Int} (hu : X.A.units + 64 < cLine) (hr : Room 3 X.A) (kf : KeyF X.K f ks) (hk1 : ks.length ≤ 50) (hk : ∀ b ∈ bs, ∃ ds, enc b = .tup ds ∧ AtInts ds ks (k0 b :: kr b)) : CallRK X (.builtin "sorted") [Str.ofString "key"] (rSortK X.K enc (fun b => k0 b :: kr b) bs f) := by
  intro pins s σ H vs zs us ws Q I r rz h
  obtain ⟨Z, l, xs, rfl, rfl, hs, rl, ez, q⟩ := h
  obtain ⟨its, rv, hl, hz⟩ := I.list hs
  obtain ⟨u, rfl, ru⟩ := vals1 r
  obtain rfl : u = Value.ref l := ru
  obtain ⟨w1, rfl, e1⟩ := vals1 rz
  obtain rfl : w1 = Value.ref f := e1
  obtain ⟨nm, qual, x, st, fd, es, c, q3, q4, F, S, hloc, bd, hb, hx, hd⟩ := kf.ex
  have hlen : its.length = bs.length := by rw [← rv.length, rl.length, List.length_map]
  have e := each_in rv rl
  have sb : Sub X 1 X.A.in1.in1 := ⟨hr.in1.in1, rfl⟩
  have dep : ∀ zs : List Int, PyData.depth (.tuple (zs.map PyData.int)) ≤ 2 := fun zs => by
    induction zs with
    | nil => decide
    | cons z zs ih =>
      simp only [List.map_cons, PyData.depth, PyData.depthAll] at ih ⊢
      omega
  have alik : ∀ (as cs : List Int), PySem.W.alikeAll (as.map PyData.int) (cs.map PyData.int) = true := fun as => by
    induction as with
    | nil => intro cs; rfl
    | cons a as ih =>
      intro cs
      cases cs with
      | nil => rfl
      | cons c cs =>
        show (true && PySem.W.alikeAll _ _) = true
        rw [ih cs]
        rfl
  refine PySem.W.sorted_key_data (β := β) (R := StandK X.K Z enc) (b := false) (f := .ref f) (fun b => PyData.tuple ((k0 b :: kr b).map PyData.int)) hl.isList e (PySem.W.AllAlike.of fun a b => alik _ _) (PySem.W.Sortable.tuples fun b => ⟨.int (k0 b), (kr b).map PyData.int, rfl⟩) (by rw [← hlen, ← rv.length]; exact hz) (fun b m => by have := dep (k0 b :: kr b); omega) (ksk_s1 _ _) (fun _ => ksk_l1 _ _) (fun _ => ksk_t1 _ _) (fun v b hR hm hh tk keep => ?_) fun out c h' tk keep none new len each => ?_
  · have J : Inv X pins σ H { s with heap := hh, toks := tk } := I.kept keep
    obtain ⟨xv, r1, r2⟩ := hR
    obtain ⟨ds, ed, ai⟩ := hk b hm
    rw [ed] at r2
    cases r2 with
    | @tup p vs _ sq rl2 =>
      cases r1
      refine wpAny_mono (key_run sb F S hloc bd hb hx hd J (ex_t ez sq) (ai.all rl2) (by rw [List.length_map, ai.len]; exact Nat.le_trans hk1 (by decide))) (fun u s' hs' => ?_) fun _ _ z => z
      obtain ⟨h', tk', rfl, kp, ws, q, rw', rfl, eq⟩ := hs'
      exact ⟨h', tk', rfl, kp, .tuple eq rfl rfl (reads_ints rw')⟩
  · obtain ⟨ys, v1, v2⟩ := each_out each
    exact ⟨.ref _, upd H (s.heap.objs.size + 1) (.lst ys), I.laid (t' := tk) keep (Nat.le_succ _) ⟨by rw [v1.length, len, ← hlen, ← rv.length]; exact hz, out, c, v1, new⟩, rfl, q ys _ v2 (I.hok.fresh (Nat.le_succ _))⟩
end
section
variable {X : Cx} {ρ : Slots} {a : Expr} {pos p0 p1 p2 : Pos} {β : Type} {enc : β → D} {bs : List β} {k0 : β → Int} {kr : β → List Int} {f : Addr} {ks : List Int} {nm : Str}
theorem me_sortedK (hu : X.A.units + 64 < cLine) (hr : Room 3 X.A) (kf : KeyF X.K f ks) (hm2 : X.mg nm = some (.ref f)) (hk1 : ks.length ≤ 50) (hk : ∀ b ∈ bs, ∃ ds, enc b = .tup ds ∧ AtInts ds ks (k0 b :: kr b)) (hg : Gl X "sorted") (hm : X.mg "sorted" = none) (ha : ML X ρ a (bs.map enc)) (hg2 : Gl X nm := by rfl) (hd2 : (nm == ("__debug__" : Str)) = false := by decide) (n1 : NS X a := by exact fun _ => rfl)
    (hall : (backToKw pos (keywordEach [⟨"key", .Name nm p1, p2⟩] X.env)).all (·.1.isSome) = true := by rfl) (hnone : (backToKw pos (keywordEach [⟨"key", .Name nm p1, p2⟩] X.env)).any (·.1.isNone) = false := by rfl) (hks : (backToKw pos (keywordEach [⟨"key", .Name nm p1, p2⟩] X.env)).filterMap (·.1) = [Str.ofString "key"] := by rfl) :
    ME X ρ (.Call (.Name "sorted" p0) [a] [⟨"key", .Name nm p1, p2⟩] pos) (.lst (((bs.mergeSort (PySem.W.dataLe false fun b => PyData.tuple ((k0 b :: kr b).map PyData.int))).map enc).map .fz)) := .mk fun Z0 F Z σ H s Q q =>
  PE_w (pe_callBK (cr_sortK hu hr kf hk1 hk) hg hm (by decide +kernel) (pa_cons pe_w pa_nil (n1 _)) (pk_cons (pe_glob (v := .ref f) hg2 hm2 rfl hd2) pk_nil) (he := congrArg (backTo pos) (n1 _)) (hpl := by rw [n1]; rfl) (hall := hall) (hnone := hnone) (hks := hks)) (ha.run Z0 F Z σ H s _ fun l vs Z1 H1 g1 l1 r1 =>
    ⟨Z1, l, vs, rfl, rfl, l1, r1, g1.zh, fun ys p ry hp => q _ Z1 _ [p] (g1.trans (Gr.new g1.zh hp)) (.lst upd_same ry.own) (new_one (g1.hh.free hp) (g1.zh.free hp))⟩)
end
end M
namespace M
open PySem L2 PySem.Spec PyProof.Rows
/-! ### expressions that change slots, frozen values -/
theorem StR.re {K : PySem.W.Frag} {Z0 F Z H : Hp} {ρ : Slots} {σ : L2.St} (s : StR K ρ Z0 F Z σ H) : StR K ρ Z F Z σ H := ⟨⟨Ex.refl _, s.gr.hh, s.gr.zh, fun _ _ _ => rfl⟩, s.st⟩
structure MXF (X : Cx) (ρ : Slots) (e : Expr) (d : D) (ρ' : Slots) : Prop where
  run : ∀ (Z0 F Z : Hp) (σ : L2.St) (H : Hp), StR X.K ρ Z0 F Z σ H → ∀ Q : VK, (∀ v Z' H', StR X.K ρ' Z0 F Z' σ H' → Ex Z Z' → Rep X.K Z' v d → Q v H') → wE X e σ H Q
/-- a test, the slots behind it -/
structure MTX (X : Cx) (ρ : Slots) (e : Expr) (k : Bool) (ρ' : Slots) : Prop where
  run : ∀ (Z0 F Z : Hp) (σ : L2.St) (H : Hp), StR X.K ρ Z0 F Z σ H → ∀ Q : Bool → Hp → Prop, (∀ Z' H', StR X.K ρ' Z0 F Z' σ H' → Q k H') → wT X e σ H Q
/-- and, or: the slots behind each way -/
structure MWC (X : Cx) (ρ : Slots) (e : Expr) (P1 P0 : Slots → Prop) : Prop where
  run : ∀ (Z0 F Z : Hp) (σ : L2.St) (H : Hp), StR X.K ρ Z0 F Z σ H → ∀ Q : Bool → Hp → Prop, (∀ ρ' Z' H', P1 ρ' → StR X.K ρ' Z0 F Z' σ H' → Q true H') → (∀ ρ' Z' H', P0 ρ' → StR X.K ρ' Z0 F Z' σ H' → Q false H') → wW X e σ H Q
structure MEC (X : Cx) (ρ : Slots) (e : Expr) (P : D → Slots → Prop) : Prop where
  run : ∀ (Z0 F Z : Hp) (σ : L2.St) (H : Hp), StR X.K ρ Z0 F Z σ H → ∀ Q : VK, (∀ v d ρ' Z' H', P d ρ' → StR X.K ρ' Z0 F Z' σ H' → Rep X.K Z' v d → Q v H') → wE X e σ H Q
/-- what is walked, the slots behind -/
structure MIX (X : Cx) (ρ : Slots) (wi : TI) (ds : List D) (ρ' : Slots) : Prop where
  run : ∀ (Z0 F Z : Hp) (σ : L2.St) (H : Hp), StR X.K ρ Z0 F Z σ H → ∀ R : It → Hp → Prop, (∀ J Z' H', StR X.K ρ' Z0 F Z' σ H' → Wk X.K Z' F J ds → R J H') → wi σ H R
/-- frozen arguments -/
structure MFX (X : Cx) (ρ : Slots) (es : List Expr) (ds : List D) (ρ' : Slots) : Prop where
  run : ∀ (Z0 F Z : Hp) (σ : L2.St) (H : Hp), StR X.K ρ Z0 F Z σ H → ∀ Q : List V → Hp → Prop, (∀ vs Z' H', StR X.K ρ' Z0 F Z' σ H' → Ex Z Z' → RepL X.K Z' vs ds → Q vs H') → wA X es σ H Q
/-- frozen ones for parameters that are looked at -/
inductive ArF : List D → List O → Prop
  | nil : ArF [] []
  | fz {d : D} {ds : List D} {os : List O} : ArF ds os → ArF (d :: ds) (.fz d :: os)
  | vw {xs ds : List D} {os : List O} : ArF ds os → ArF (.lst xs :: ds) (.vw xs :: os)
theorem ArF.rep {K : PySem.W.Frag} {Z H : Hp} (zh : Ex Z H) : ∀ {vs : List V} {ds : List D} {os : List O}, RepL K Z vs ds → ArF ds os → RepOL K Z H H vs os []
  | _, _, _, .nil, .nil => .nil
  | _, _, _, .cons h r, .fz t => .cons (A := []) (.fz h) (t.rep zh r)
  | _, _, _, .cons h r, .vw t => by
    cases h with
    | lst a b => exact .cons (A := []) (.vw (ex_l zh a) b) (t.rep zh r)
section
variable {X : Cx} {ρ ρ' ρ1 ρ2 : Slots} {R : O → Slots} {e f a b c : Expr} {es rest : List Expr} {d d1 d2 dk : D} {ds ds2 : List D} {pos p0 p1 p2 p3 p4 : Pos} {i j : Nat} {st : Stmt} {sts : List Stmt} {G : Go} {o o' o2 : O} {nm nx1 : Str} {C l : Addr} {ns : List Str} {os : List O} {k : Bool} {P1 P0 : Slots → Prop} {P : D → Slots → Prop}
theorem MX.xf (h : MX X ρ e o ρ') (hd : o.frz = d) (n : o.nv = true) : MXF X ρ e d ρ' := .mk fun Z0 F Z σ H s Q q => h.run Z F Z σ H s.re _ fun v Z' H' s1 => by
  subst hd
  obtain ⟨T, t1, t2, t3⟩ := s1.st
  obtain ⟨B, C, q1, q2, q3, q4⟩ := t1.last t2
  obtain ⟨n1, n2, n3⟩ := List.nodup_append.mp q3
  have zC : ∀ a ∈ C, Z' a = none ∧ F a = none := fun a m => t3 a (q4 a (List.mem_append_right _ m))
  have ez : Ex Z' (frzAt Z' H' C) := ex_frzAt s1.gr.zh
  have g : Gr Z F (frzAt Z' H' C) H' := ⟨s1.gr.zz.trans ez, s1.gr.hh, frzAt_ex s1.gr.zh, fun a u e => by
    rw [frzAt_out fun m => by rw [(zC a m).2] at e; cases e]
    exact s1.gr.nw a u e⟩
  have r : Rep X.K (frzAt Z' H' C) v o.frz := q2.frz ez (fun a m => frzAt_in m) n
  refine q v (frzAt Z' H' C) H' (StR.unbase s.gr ⟨g, B, q1.mono ez fun _ _ _ e => e, n1, fun a m => ?_⟩) (s1.gr.zz.trans ez) r
  have z := t3 a (q4 a (List.mem_append_left _ m))
  exact ⟨by rw [frzAt_out fun mc => n3 a m a mc rfl]; exact z.1, z.2⟩
theorem MX.xl {α : Type} {xs : List α} {enc : α → D} (h : MX X ρ e (.lst ((xs.map enc).map .fz)) ρ') : MXF X ρ e (.lst (xs.map enc)) ρ' := h.xf frz_own (O.nvL_fz _)
theorem MX.xz (h : MX X ρ e (.fz d) ρ') : MXF X ρ e d ρ' := h.xf rfl rfl
theorem ME.xf (h : ME X ρ e (.fz d)) : MXF X ρ e d ρ := .mk fun Z0 F Z σ H s Q q => h.run Z0 F Z σ H s Q fun v Z' H' A g r n => by
  cases r with
  | fz r => exact q v Z' H' (s.grow g) g.zz r
theorem MXF.tx (h : MXF X ρ e d ρ') : MX X ρ e (.fz d) ρ' := .mk fun Z0 F Z σ H s Q q => h.run Z0 F Z σ H s Q fun v Z' H' s1 _ r => q v Z' H' (s1.push (Gr.refl s1.gr.zh) (.fz r) .nil)
theorem MXF.is (h : MXF X ρ e d ρ') (q : d = d2) : MXF X ρ e d2 ρ' := q ▸ h
/-! operators -/
theorem mxf_op2 {r : R2} {t : TE} (p : PE X e (tOp r (wE X a) (wE X b))) (ha : MXF X ρ a d1 ρ1) (hb : MXF X ρ1 b d2 ρ2) (h : ∀ (Z H : Hp) (v w : V) (Q : VK), Ex Z H → Rep X.K Z v d1 → Rep X.K Z w d2 → (∀ u, Sc d u → Q u H) → r v w H Q) : MXF X ρ e d ρ2 := .mk fun Z0 F Z σ H s Q q =>
  PE_w p (ha.run Z0 F Z σ H s _ fun v Z1 H1 s1 e1 r1 => hb.run Z0 F Z1 σ H1 s1 _ fun w Z2 H2 s2 e2 r2 => h Z2 H2 v w Q s2.gr.zh (r1.mono e2) r2 fun u su => q u Z2 H2 s2 (e1.trans e2) su.rep)
theorem mxf_cmp {op : CmpOp} {r : R2} {x y : V} (ho : OpR X (compareOp op) r) (ha : MXF X ρ a d1 ρ1) (hb : MXF X ρ1 b d2 ρ2) (s1 : Sc d1 x) (s2 : Sc d2 y) (h : ∀ H (Q : VK), Q (.bl k) H → r x y H Q) (hm : behindInMarks op b = false) : MXF X ρ (.Compare a [op] [b] pos) (.bl k) ρ2 :=
  mxf_op2 (t := tOp r (wE X a) (wE X b)) (pe_cmpR ho pe_w pe_w hm) ha hb fun Z H v w Q _ r1 r2 q => by
    rw [s1.eq r1, s2.eq r2]
    exact h H Q (q _ (.bl k))
theorem mxf_eqD (hu : X.A.units + 64 < cLine) (h : d1.ok ∧ d2.ok) (ha : MXF X ρ a d1 ρ1) (hb : MXF X ρ1 b d2 ρ2) : MXF X ρ (.Compare a [.Eq] [b] pos) (.bl (D.eqv d1 d2)) ρ2 :=
  mxf_op2 (t := tOp (rEqD X.K) (wE X a) (wE X b)) (pe_cmpR (op_eqD hu) pe_w pe_w (nomark _)) ha hb fun Z H v w Q zh r1 r2 q => ⟨_, _, r1.dp zh h.1.1, r2.dp zh h.2.1, h.1.2, h.2.2, q _ (.bl _)⟩
theorem mxf_neD (hu : X.A.units + 64 < cLine) (h : d1.ok ∧ d2.ok) (ha : MXF X ρ a d1 ρ1) (hb : MXF X ρ1 b d2 ρ2) : MXF X ρ (.Compare a [.NotEq] [b] pos) (.bl (!D.eqv d1 d2)) ρ2 :=
  mxf_op2 (t := tOp (rNeD X.K) (wE X a) (wE X b)) (pe_cmpR (op_neD hu) pe_w pe_w (nomark _)) ha hb fun Z H v w Q zh r1 r2 q => ⟨_, _, r1.dp zh h.1.1, r2.dp zh h.2.1, h.1.2, h.2.2, q _ (.bl _)⟩
/-- .. what is looked at behind -/
theorem mxf_opV {r : R2} (p : PE X e (tOp r (wE X a) (wE X b))) (ha : MXF X ρ a d1 ρ1) (hb : MV X ρ1 b o2) (h1 : d1.pl = true) (h2 : o2.frz.pl = true) (h : ∀ (x y : V) (H : Hp) (Q : VK), Dp X.K H x d1.py → Dp X.K H y o2.frz.py → Q (.bl k) H → r x y H Q) : MXF X ρ e (.bl k) ρ1 := .mk fun Z0 F Z σ H s Q q =>
  PE_w p (ha.run Z0 F Z σ H s _ fun v Z1 H1 s1 e1 r1 => hb.run Z0 F Z1 σ H1 s1 _ fun w Z2 H2 A g2 r2 => h v w H2 Q ((r1.mono g2.zz).dp g2.zh h1) (r2.dp g2.zh (s1.gr.hh.trans g2.hh) h2) (q _ Z2 H2 (s1.grow g2) (e1.trans g2.zz) (.bl k)))
theorem mxf_eqV (hu : X.A.units + 64 < cLine) (h : d1.ok ∧ d2.ok) (e2 : o2.frz = d2) (ha : MXF X ρ a d1 ρ1) (hb : MV X ρ1 b o2) : MXF X ρ (.Compare a [.Eq] [b] pos) (.bl (D.eqv d1 d2)) ρ1 := by
  subst e2
  exact mxf_opV (r := rEqD X.K) (pe_cmpR (op_eqD hu) pe_w pe_w (nomark _)) ha hb h.1.1 h.2.1 fun x y H Q p1 p2 q => ⟨_, _, p1, p2, h.1.2, h.2.2, q⟩
theorem mxf_neV (hu : X.A.units + 64 < cLine) (h : d1.ok ∧ d2.ok) (e2 : o2.frz = d2) (ha : MXF X ρ a d1 ρ1) (hb : MV X ρ1 b o2) : MXF X ρ (.Compare a [.NotEq] [b] pos) (.bl (!D.eqv d1 d2)) ρ1 := by
  subst e2
  exact mxf_opV (r := rNeD X.K) (pe_cmpR (op_neD hu) pe_w pe_w (nomark _)) ha hb h.1.1 h.2.1 fun x y H Q p1 p2 q => ⟨_, _, p1, p2, h.1.2, h.2.2, q⟩
theorem mxf_isN {k2 : Nat} (ha : MXF X ρ a d ρ1) : MXF X ρ (.Compare a [.Is] [.Constant .none k2 p2] pos) (.bl d.isNon) ρ1 := .mk fun Z0 F Z σ H s Q q =>
  PE_w (pe_cmpR op_isN pe_w pe_non (nomark _)) (ha.run Z0 F Z σ H s _ fun v Z1 H1 s1 e1 r1 => ⟨rfl, by rw [r1.isNon]; exact q _ Z1 H1 s1 e1 (.bl _)⟩)
theorem mxf_notN {k2 : Nat} (ha : MXF X ρ a d ρ1) : MXF X ρ (.Compare a [.IsNot] [.Constant .none k2 p2] pos) (.bl (!d.isNon)) ρ1 := .mk fun Z0 F Z σ H s Q q =>
  PE_w (pe_cmpR op_notN pe_w pe_non (nomark _)) (ha.run Z0 F Z σ H s _ fun v Z1 H1 s1 e1 r1 => ⟨rfl, by rw [r1.isNon]; exact q _ Z1 H1 s1 e1 (.bl _)⟩)
/-! tests -/
theorem MT.tx (h : MT X ρ e k) : MTX X ρ e k ρ := .mk fun Z0 F Z σ H s Q q => h.run Z0 F Z σ H s Q fun Z' H' g => q Z' H' (s.grow g)
theorem mtx_me (h : MXF X ρ e (.bl k) ρ') (he : ∀ whole, isTrue e X.env whole = (do let v ← whole; standAt e.pos; holding [v] (truthy v)) := by intro _; rfl) : MTX X ρ e k ρ' := .mk fun Z0 F Z σ H s Q q =>
  PT_w (pt_val pe_w he) (h.run Z0 F Z σ H s _ fun v Z1 H1 s1 _ r1 => by
    cases r1
    exact ⟨k, rfl, q Z1 H1 s1⟩)
theorem mtx_op2 {r : R2} (p : PT X e (tTest (tOp r (wE X a) (wE X b)))) (ha : MXF X ρ a d1 ρ1) (hb : MXF X ρ1 b d2 ρ2) (h : ∀ (Z H : Hp) (v w : V) (Q : VK), Ex Z H → Rep X.K Z v d1 → Rep X.K Z w d2 → Q (.bl k) H → r v w H Q) : MTX X ρ e k ρ2 := .mk fun Z0 F Z σ H s Q q =>
  PT_w p (ha.run Z0 F Z σ H s _ fun v Z1 H1 s1 e1 r1 => hb.run Z0 F Z1 σ H1 s1 _ fun w Z2 H2 s2 e2 r2 => h Z2 H2 v w _ s2.gr.zh (r1.mono e2) r2 ⟨k, rfl, q Z2 H2 s2⟩)
theorem mtx_opV {r : R2} (p : PT X e (tTest (tOp r (wE X a) (wE X b)))) (ha : MXF X ρ a d1 ρ1) (hb : MV X ρ1 b o2) (h1 : d1.pl = true) (h2 : o2.frz.pl = true) (h : ∀ (x y : V) (H : Hp) (Q : VK), Dp X.K H x d1.py → Dp X.K H y o2.frz.py → Q (.bl k) H → r x y H Q) : MTX X ρ e k ρ1 := .mk fun Z0 F Z σ H s Q q =>
  PT_w p (ha.run Z0 F Z σ H s _ fun v Z1 H1 s1 e1 r1 => hb.run Z0 F Z1 σ H1 s1 _ fun w Z2 H2 A g2 r2 => h v w H2 _ ((r1.mono g2.zz).dp g2.zh h1) (r2.dp g2.zh (s1.gr.hh.trans g2.hh) h2) ⟨k, rfl, q Z2 H2 (s1.grow g2)⟩)
theorem mtx_eqD (hu : X.A.units + 64 < cLine) (h : d1.ok ∧ d2.ok) (ha : MXF X ρ a d1 ρ1) (hb : MXF X ρ1 b d2 ρ2) : MTX X ρ (.Compare a [.Eq] [b] pos) (D.eqv d1 d2) ρ2 :=
  mtx_op2 (r := rEqD X.K) (pt_cmpR (op_eqD hu) pe_w pe_w (nomark _)) ha hb fun Z H v w Q zh r1 r2 q => ⟨_, _, r1.dp zh h.1.1, r2.dp zh h.2.1, h.1.2, h.2.2, q⟩
theorem mtx_neD (hu : X.A.units + 64 < cLine) (h : d1.ok ∧ d2.ok) (ha : MXF X ρ a d1 ρ1) (hb : MXF X ρ1 b d2 ρ2) : MTX X ρ (.Compare a [.NotEq] [b] pos) (!D.eqv d1 d2) ρ2 :=
  mtx_op2 (r := rNeD X.K) (pt_cmpR (op_neD hu) pe_w pe_w (nomark _)) ha hb fun Z H v w Q zh r1 r2 q => ⟨_, _, r1.dp zh h.1.1, r2.dp zh h.2.1, h.1.2, h.2.2, q⟩
theorem mtx_eqV (hu : X.A.units + 64 < cLine) (h : d1.ok ∧ d2.ok) (e2 : o2.frz = d2) (ha : MXF X ρ a d1 ρ1) (hb : MV X ρ1 b o2) : MTX X ρ (.Compare a [.Eq] [b] pos) (D.eqv d1 d2) ρ1 := by
  subst e2
  exact mtx_opV (r := rEqD X.K) (pt_cmpR (op_eqD hu) pe_w pe_w (nomark _)) ha hb h.1.1 h.2.1 fun x y H Q p1 p2 q => ⟨_, _, p1, p2, h.1.2, h.2.2, q⟩
theorem mtx_neV (hu : X.A.units + 64 < cLine) (h : d1.ok ∧ d2.ok) (e2 : o2.frz = d2) (ha : MXF X ρ a d1 ρ1) (hb : MV X ρ1 b o2) : MTX X ρ (.Compare a [.NotEq] [b] pos) (!D.eqv d1 d2) ρ1 := by
  subst e2
  exact mtx_opV (r := rNeD X.K) (pt_cmpR (op_neD hu) pe_w pe_w (nomark _)) ha hb h.1.1 h.2.1 fun x y H Q p1 p2 q => ⟨_, _, p1, p2, h.1.2, h.2.2, q⟩
theorem mtx_isN {k2 : Nat} (ha : MXF X ρ a d ρ1) : MTX X ρ (.Compare a [.Is] [.Constant .none k2 p2] pos) d.isNon ρ1 := .mk fun Z0 F Z σ H s Q q =>
  PT_w (pt_cmpR op_isN pe_w pe_non (nomark _)) (ha.run Z0 F Z σ H s _ fun v Z1 H1 s1 e1 r1 => ⟨rfl, d.isNon, by rw [r1.isNon], q Z1 H1 s1⟩)
theorem mtx_notN {k2 : Nat} (ha : MXF X ρ a d ρ1) : MTX X ρ (.Compare a [.IsNot] [.Constant .none k2 p2] pos) (!d.isNon) ρ1 := .mk fun Z0 F Z σ H s Q q =>
  PT_w (pt_cmpR op_notN pe_w pe_non (nomark _)) (ha.run Z0 F Z σ H s _ fun v Z1 H1 s1 e1 r1 => ⟨rfl, !d.isNon, by rw [r1.isNon], q Z1 H1 s1⟩)
theorem MTX.is {l : Bool} (h : MTX X ρ e k ρ') (q : k = l) : MTX X ρ e l ρ' := q ▸ h
theorem mtx_not (h : MTX X ρ a k ρ') : MTX X ρ (.UnaryOp .Not a pos) (!k) ρ' := .mk fun Z0 F Z σ H s Q q => PT_w (pt_not pt_w) (h.run Z0 F Z σ H s _ fun Z1 H1 s1 => q Z1 H1 s1)
theorem mwc_or1 (h : MTX X ρ a k ρ1) (h1 : k = true → P1 ρ1) (h0 : k = false → P0 ρ1) : MWC X ρ (.BoolOp .Or [a] pos) P1 P0 := .mk fun Z0 F Z σ H s Q q1 q0 => PW_w (pw_or1 pt_w) (h.run Z0 F Z σ H s _ fun Z1 H1 s1 => by
  cases k with
  | true => exact q1 _ Z1 H1 (h1 rfl) s1
  | false => exact q0 _ Z1 H1 (h0 rfl) s1)
theorem mwc_and1 (h : MTX X ρ a k ρ1) (h1 : k = true → P1 ρ1) (h0 : k = false → P0 ρ1) : MWC X ρ (.BoolOp .And [a] pos) P1 P0 := .mk fun Z0 F Z σ H s Q q1 q0 => PW_w (pw_and1 pt_w) (h.run Z0 F Z σ H s _ fun Z1 H1 s1 => by
  cases k with
  | true => exact q1 _ Z1 H1 (h1 rfl) s1
  | false => exact q0 _ Z1 H1 (h0 rfl) s1)
theorem mwc_or (h : MTX X ρ a k ρ1) (h1 : k = true → P1 ρ1) (h0 : k = false → MWC X ρ1 (.BoolOp .Or (b :: rest) pos) P1 P0) : MWC X ρ (.BoolOp .Or (a :: b :: rest) pos) P1 P0 := .mk fun Z0 F Z σ H s Q q1 q0 => PW_w (pw_or pt_w pw_w) (h.run Z0 F Z σ H s _ fun Z1 H1 s1 => by
  cases k with
  | true => exact q1 _ Z1 H1 (h1 rfl) s1
  | false => exact (h0 rfl).run Z0 F Z1 σ H1 s1 Q q1 q0)
theorem mwc_and (h : MTX X ρ a k ρ1) (h1 : k = true → MWC X ρ1 (.BoolOp .And (b :: rest) pos) P1 P0) (h0 : k = false → P0 ρ1) : MWC X ρ (.BoolOp .And (a :: b :: rest) pos) P1 P0 := .mk fun Z0 F Z σ H s Q q1 q0 => PW_w (pw_and pt_w pw_w) (h.run Z0 F Z σ H s _ fun Z1 H1 s1 => by
  cases k with
  | true => exact (h1 rfl).run Z0 F Z1 σ H1 s1 Q q1 q0
  | false => exact q0 _ Z1 H1 (h0 rfl) s1)
theorem m_ifC {A B : List Stmt} (h : MWC X ρ e (fun τ => MS X τ A G) (fun τ => MS X τ B G)) : MS1 X ρ (.If e A B pos) G := .mk fun Z0 F Z σ H D s g =>
  PS_w (ps_if (PW.pt pw_w) pss_w pss_w) (h.run Z0 F Z σ H s _ (fun τ Z1 H1 m s1 => m.run Z0 F Z1 σ H1 D s1 g) fun τ Z1 H1 m s1 => m.run Z0 F Z1 σ H1 D s1 g)
theorem m_ifT {A B : List Stmt} (h : MTX X ρ e k ρ') (h1 : k = true → MS X ρ' A G) (h0 : k = false → MS X ρ' B G) : MS1 X ρ (.If e A B pos) G := .mk fun Z0 F Z σ H D s g =>
  PS_w (ps_if pt_w pss_w pss_w) (h.run Z0 F Z σ H s _ fun Z1 H1 s1 => by
    cases k with
    | true => exact (h1 rfl).run Z0 F Z1 σ H1 D s1 g
    | false => exact (h0 rfl).run Z0 F Z1 σ H1 D s1 g)
/-! values by and, or -/
theorem mec_xf (h : MXF X ρ e d ρ') (q : P d ρ') : MEC X ρ e P := .mk fun Z0 F Z σ H s Q k => h.run Z0 F Z σ H s Q fun v Z' H' s1 _ r => k v d ρ' Z' H' q s1 r
theorem mec_one {op : BoolOp} (h : MEC X ρ a P) : MEC X ρ (.BoolOp op [a] pos) P := .mk fun Z0 F Z σ H s Q q => PE_w (pe_one pe_w) (h.run Z0 F Z σ H s Q q)
theorem mec_and (h : MXF X ρ a (.bl k) ρ1) (h1 : k = true → MEC X ρ1 (.BoolOp .And (b :: rest) pos) P) (h0 : k = false → P (.bl false) ρ1) : MEC X ρ (.BoolOp .And (a :: b :: rest) pos) P := .mk fun Z0 F Z σ H s Q q =>
  PE_w (pe_and pe_w pe_w) (h.run Z0 F Z σ H s _ fun v Z1 H1 s1 _ r1 => by
    cases r1
    refine ⟨k, rfl, ?_⟩
    cases k with
    | true => exact (h1 rfl).run Z0 F Z1 σ H1 s1 Q q
    | false => exact q _ _ _ Z1 H1 (h0 rfl) s1 (.bl false))
theorem mec_or (h : MXF X ρ a (.bl k) ρ1) (h1 : k = true → P (.bl true) ρ1) (h0 : k = false → MEC X ρ1 (.BoolOp .Or (b :: rest) pos) P) : MEC X ρ (.BoolOp .Or (a :: b :: rest) pos) P := .mk fun Z0 F Z σ H s Q q =>
  PE_w (pe_or pe_w pe_w) (h.run Z0 F Z σ H s _ fun v Z1 H1 s1 _ r1 => by
    cases r1
    refine ⟨k, rfl, ?_⟩
    cases k with
    | true => exact q _ _ _ Z1 H1 (h1 rfl) s1 (.bl true)
    | false => exact (h0 rfl).run Z0 F Z1 σ H1 s1 Q q)
theorem m_retC (p : PS X st (tRet (wE X e))) (h : MEC X ρ e (fun d _ => G.rt (.fz d))) : MS1 X ρ st G := .mk fun Z0 F Z σ H D s g =>
  PS_w p (h.run Z0 F Z σ H s _ fun v d ρ' Z' H' k s1 r => g.rt _ v Z' H' [] k s1.gr (.fz r) ⟨List.nodup_nil, fun _ m => nomatch m⟩)
theorem m_retCS (p : PS X st (tRet (wE X e))) (h : MEC X ρ e (fun d τ => G.rs (.fz d) τ)) : MS1 X ρ st G := .mk fun Z0 F Z σ H D s g =>
  PS_w p (h.run Z0 F Z σ H s _ fun v d ρ' Z' H' k s1 r => g.rs _ ρ' v Z' σ H' k (s1.push (Gr.refl s1.gr.zh) (.fz r) .nil))
/-! calls -/
theorem mfx_nil : MFX X ρ [] [] ρ := .mk fun Z0 F Z σ H s Q q => PA_w pa_nil (q [] Z H s (Ex.refl _) .nil)
theorem mfx_cons (h : MXF X ρ a d ρ1) (t : MFX X ρ1 es ds ρ2) (hs : starEach (a :: es) X.env = (false, eval a X.env) :: starEach es X.env := by rfl) : MFX X ρ (a :: es) (d :: ds) ρ2 := .mk fun Z0 F Z σ H s Q q =>
  PA_w (pa_cons pe_w pa_w hs) (h.run Z0 F Z σ H s _ fun v Z1 H1 s1 e1 r1 => t.run Z0 F Z1 σ H1 s1 _ fun vs Z2 H2 s2 e2 r2 => q (v :: vs) Z2 H2 s2 (e1.trans e2) (.cons (r1.mono e2) r2))
theorem mx_fnX {α : Type} {ar : α → List O} {pre : α → Prop} {res : α → O} {k : Nat} {ps : List Str} (c : Fn1 X.prog X.w X.K X.mg X.base nm k ps (SpM X.K ar pre res)) (x : α) (ha : MFX X ρ (e :: es) ds ρ') (har : ArF ds (ar x)) (hp : pre x) (hr : Room k X.A) {o : O} (hres : res x = o := by first | (dsimp only; done) | (dsimp only; rfl) | rfl) (hg : Gl X nm := by rfl)
    (hdb : (nm == ("__debug__" : Str)) = false := by decide) (he : starEach (e :: es) X.env = (false, eval e X.env) :: starEach es X.env := by rfl) (hpl : (backTo pos (starEach es X.env)).any (·.1) = false := by rfl) : MX X ρ (.Call (.Name nm p0) (e :: es) [] pos) o ρ' := by
  subst hres
  obtain ⟨f, fd, hm, hk, hb, F⟩ := c.ex
  refine .mk fun Z0 F0 Z σ H s Q q => PE_w (pe_call F hr hg hm hk hb .nil pass0 pa_w hdb he hpl) (ha.run Z0 F0 Z σ H s _ fun vs Z1 H1 s1 e1 r1 => ⟨x, Z1, s1.gr.zh, by rw [List.append_nil]; exact har.rep s1.gr.zh r1, hp, fun v Z2 H2 A g2 r2 n2 => ?_⟩)
  exact q v Z2 H2 (s1.push g2 (r2.mono (Ex.refl _) (fun _ _ z => by cases z) fun _ _ _ z => z) n2)
/-! statements -/
/-- a slot's own thing moves -/
theorem mx_take (p : PE X (.Name nx1 p1) (tVar i)) (hi : ρ[i]? = some (some (.loc l o))) : MX X ρ (.Name nx1 p1) o (ρ.set i (some (.pt l))) := .mk fun Z0 F Z σ H s Q q => by
  obtain ⟨T, s⟩ := s.a
  obtain ⟨v, e, A, f⟩ := s.foc hi
  have f' := f.rp
  cases f' with
  | loc r =>
    refine PE_w p ⟨_, e, q _ Z H ?_⟩
    exact f.k (w := .ref l) (p := o) (o' := .pt l) (B := [] ++ (A ++ [])) (Ex.refl _) (fun _ _ => rfl) s.gr.zh (fun _ _ _ e => e) (.cons .pt (.cons r .nil)) (by simpa using f.nd) (fun a m => by
      have m : a ∈ A := by simpa using m
      exact ⟨.inl m, (f.ds a m).2.1⟩)
theorem m_setFldX {all : List Str} (he : MX X ρ e o ρ') (h : MQ X ρ' a (.ins C ns os) R) (cc : OC X.K C all) (kk : G.nx (R (.ins C ns (os.set j o)))) (hj : nmAt ns nm = some j := by decide +kernel) (hm : nm ∈ all := by decide +kernel) (hl : os.length = ns.length := by rfl) (h1000 : ns.length < 1000 := by decide +kernel)
    (hs : swapsWith e (some (.Attribute a nm p2)) p3.line X.env = pure false := by rfl) : MS1 X ρ (.Assign [.Attribute a nm p2] e p3) G := .mk fun Z0 F Z σ H D s g => by
  rw [← nsPut_old hj, ← xsPut_old hj hl] at kk
  refine PS_w (ps_fld pe_w pe_w hs) (he.run Z0 F Z σ H s _ fun w Z1 H1 sp => ?_)
  obtain ⟨T0, t1, t2, t3⟩ := sp.st
  obtain ⟨T, B, q1, r2, q3, q4⟩ := t1.last t2
  obtain ⟨n1, n2, n3⟩ := List.nodup_append.mp q3
  have zB : ∀ a ∈ B, Z1 a = none ∧ F a = none := fun a m => t3 a (q4 a (List.mem_append_right _ m))
  have s1 : StA X.K ρ' Z0 F Z1 σ H1 T := ⟨sp.gr, q1, n1, fun a m => t3 a (q4 a (List.mem_append_left _ m))⟩
  refine h.run Z0 F Z1 σ H1 T s1 _ fun v Z2 H2 g2 f => ?_
  obtain ⟨A, f⟩ := f
  obtain ⟨l, dx, vs, A1, _, rfl, rfl, h0, rl⟩ := hm_ins.mp f.rp
  have hlv : vs.length = ns.length := by rw [rl.length]; exact hl
  refine ⟨l, C, dx, _, rfl, h0, cc.cl, cc.na _ hm, by rw [List.length_zip, hlv]; omega, ?_⟩
  rw [put_zip hlv]
  obtain ⟨na, nA⟩ := List.nodup_cons.mp f.nd
  have nT : ∀ b ∈ B, b ∉ T := fun b m mt => n3 b mt b m rfl
  have nB : ∀ b ∈ B, b ∉ l :: A1 := fun b m mb => nT b m (f.ds b mb).1
  have r1' := rl.mono (H' := upd H2 l (.ins C dx ((nsPut ns nm).zip (xsPut ns nm vs w)))) (Ex.refl _) (Ex.refl _) fun b m u hu => by
    rw [upd_ne fun q => na (by rw [← q]; exact m)]
    exact hu
  have r2' := (r2.ex g2.zz g2.hh).frame (H' := upd H2 l (.ins C dx ((nsPut ns nm).zip (xsPut ns nm vs w)))) fun b m => upd_ne fun q => nB b m (by rw [q]; exact List.mem_cons_self)
  obtain ⟨A', y1, y2, y3⟩ := RepOL.put r2' n2 hlv r1' nA fun b m mb => nB b mb (List.mem_cons_of_mem _ m)
  refine g.nx _ Z2 σ _ kk (f.mut g2.zh List.mem_cons_self (.ins upd_same y1) (List.nodup_cons.mpr ⟨fun m => ?_, y2⟩) fun b m => ?_)
  · rcases y3 _ m with z | z
    · exact na z
    · exact nB _ z List.mem_cons_self
  · rcases List.mem_cons.mp m with z | z
    · exact .inl (by rw [z]; exact List.mem_cons_self)
    · rcases y3 _ z with z | z
      · exact .inl (List.mem_cons_of_mem _ z)
      · refine .inr ⟨nT b z, ?_, (zB b z).2⟩
        obtain ⟨u, hu⟩ := r2.there b z
        exact (g2.nw b u hu).trans (zB b z).1
theorem m_putKX {m : List (Key × D)} {y : D} {k : Key} (hu : X.A.units + 64 < cLine) (hv : MXF X ρ f y ρ') (h : MQ X ρ' a (oK m) R) (he : ME X ρ' e (.fz dk)) (hk : keyD dk = some k) (hl : m.length < sizeLine) (kk : G.nx (R (oK (ptk m k y))))
    (hs : swapsWith f (some (.Subscript a e p1)) p2.line X.env = pure false := by rfl) : MS1 X ρ (.Assign [.Subscript a e p1] f p2) G := .mk fun Z0 F Z σ H D s g => by
  refine PS_w (ps_dput (by omega) pe_w pe_w pe_w hs) (hv.run Z0 F Z σ H s _ fun w Z1 H1 sx ex r1 => ?_)
  obtain ⟨T, s1⟩ := sx.a
  refine h.run Z0 F Z1 σ H1 T s1 _ fun v Z2 H2 g2 fc => he.run Z0 F Z2 σ H2 (s1.grow g2).r _ fun u Z3 H3 A3 g3 r3 n3 => ?_
  cases r3 with
  | fz r3 =>
    obtain ⟨A, fc⟩ := fc.grow g3
    obtain ⟨l, _, vs, A1', _, rfl, rfl, h0, rl⟩ := hm_dct.mp fc.rp
    obtain ⟨eA, rz⟩ := rl.fzs
    subst eA
    have t := (Tb.ptk (P := fun d v => Rep X.K Z3 v d) ((r1.mono g2.zz).mono g3.zz) k rz.tb).repL
    rw [key_V hk r3]
    refine ⟨l, _, rfl, DPut.k h0 (by rw [List.length_zip, rz.length, List.length_map, List.length_map, Nat.min_self]; exact hl), g.nx _ Z3 σ _ kk ?_⟩
    have ep : putK ((m.map (·.1)).zip vs) k w = ptk ((m.map (·.1)).zip vs) k w := rfl
    rw [ep, t.1]
    exact fc.mut g3.zh List.mem_cons_self (.dct upd_same t.2.own) (by simp) fun b mb => .inl mb
theorem m_putDKX {β : Type} {enc : β → D} {y1 : β} {m : List (Key × β)} {k : Key} (hu : X.A.units + 64 < cLine) (hv : MXF X ρ f (enc y1) ρ') (h : MQ X ρ' a (oDK (fun y => .fz (enc y)) m) R) (he : ME X ρ' e (.fz dk)) (hk : keyD dk = some k) (hl : m.length < sizeLine) (kk : G.nx (R (oDK (fun y => .fz (enc y)) (ptk m k y1))))
    (hs : swapsWith f (some (.Subscript a e p1)) p2.line X.env = pure false := by rfl) : MS1 X ρ (.Assign [.Subscript a e p1] f p2) G := by
  rw [oDK_fz] at h
  rw [oDK_fz, ptk_map2] at kk
  exact m_putKX hu hv h he hk (by rw [List.length_map]; exact hl) kk hs
end
end M
namespace M
open PySem L2 PySem.Spec PyProof.Rows
/-! ### walks over what changes slots -/
section
variable {X : Cx} {ρ ρ' : Slots} {e : Expr} {ds : List D} {st : Stmt} {G : Go} {α V R : Type}
theorem mix_list (h : MXF X ρ e (.lst ds) ρ') : MIX X ρ (iList X.K (wE X e)) ds ρ' := .mk fun Z0 F Z σ H s R q => h.run Z0 F Z σ H s _ fun v Z' H' s1 ez r0 => by
  cases r0 with
  | @lst a vs _ l r =>
    have lv : ∀ {Z2 H2 : Hp}, Ex Z' Z2 → Ex Z2 H2 → SqL X.K H2 a vs := fun e z => ex_l (e.trans z) l
    refine ⟨a, rfl, ⟨vs, lv (Ex.refl _) s1.gr.zh⟩, q _ Z' H' s1 ⟨fun j d Z2 H2 hd ez ef zh => ?_, fun Z2 H2 ez ef zh => ⟨vs, lv ez zh, Nat.le_of_eq r.length⟩⟩⟩
    obtain ⟨x, hx, rx⟩ := r.get hd
    refine ⟨⟨vs, x, lv ez zh, hx⟩, fun y H3 hy => ?_⟩
    obtain ⟨e3, hy⟩ := hy
    subst e3
    have e4 := hy vs (lv ez zh)
    rw [hx] at e4
    cases e4
    exact ⟨Z2, Gr.refl zh, rx.mono ez⟩
theorem m_forX {wi : TI} {g : TG} {body : List Stmt} (p : PS X st (tFor wi g (wS X body))) (h : MIX X ρ wi ds ρ') (I : Nat → Slots → Prop) (h0 : I 0 ρ')
    (hs : ∀ (j : Nat) (d : D) (τ : Slots), ds[j]? = some d → I j τ → ∃ τ' ws, MTg g X.K τ d τ' ws ∧ MS X τ' body { nx := I (j + 1), ct := I (j + 1), bk := G.nx, rt := G.rt, rs := G.rs })
    (hd : ∀ τ, I ds.length τ → G.nx τ) : MS1 X ρ st G := .mk fun Z0 F Z σ H D s gd => by
  refine PS_w p (h.run Z0 F Z σ H s _ fun J Z1 H1 s1 wk => ?_)
  have g0 : Gr Z0 F Z1 H1 := s1.gr
  refine ⟨fun j m σ H => m = ds.length - j ∧ j ≤ ds.length ∧ ∃ τ Z2, I j τ ∧ StR X.K τ Z1 F Z2 σ H, ⟨ds.length, by simp, Nat.zero_le _, ρ', Z1, h0, ⟨⟨Ex.refl _, g0.hh, g0.zh, fun _ _ _ => rfl⟩, s1.st⟩⟩, ?_⟩
  rintro j m σ2 H2 ⟨rfl, hj, τ, Z2, hI, s2⟩
  by_cases hlt : j < ds.length
  · obtain ⟨d, ed⟩ : ∃ d, ds[j]? = some d := ⟨ds[j], by simp [hlt]⟩
    obtain ⟨w1, w2⟩ := wk.go j d Z2 H2 ed s2.gr.zz s2.gr.hh s2.gr.zh
    refine .inr ⟨w1, fun σ' H' => ∃ τ Z2, I (j + 1) τ ∧ StR X.K τ Z1 F Z2 σ' H', fun σ' H' q => ⟨ds.length - (j + 1), by omega, rfl, hlt, q⟩, fun x H3 hy => ?_⟩
    obtain ⟨Z3, g3, r3⟩ := w2 x H3 hy
    have s3 := s2.grow g3
    obtain ⟨τ', ws, t1, t2⟩ := hs j d τ ed hI
    refine t1.run Z1 F Z3 σ2 H3 x s3 r3 _ fun σ4 s4 _ => ?_
    exact t2.run Z1 F Z3 σ4 H3 _ s4 ⟨fun τ Z σ H k s => ⟨τ, Z, k, s⟩, fun τ Z σ H k s => gd.nx τ Z σ H k (s.unbase g0), fun τ Z σ H k s => ⟨τ, Z, k, s⟩, fun o v Z H A k gr r n => gd.rt o v Z H A k (g0.base gr) r n, fun o ρ v Z σ H k s => gd.rs o ρ v Z σ H k (s.unbase g0), gd.ex.rebase g0⟩
  · have e : j = ds.length := by omega
    subst e
    exact .inl ⟨wk.stop Z2 H2 s2.gr.zz s2.gr.hh s2.gr.zh, gd.nx τ Z2 σ2 H2 (hd τ hI) (s2.unbase g0)⟩
theorem m_forXT {β : Type} {xs : List α} {enc : α → D} {wi : TI} {g : TG} {body : List Stmt} (p : PS X st (tFor wi g (wS X body))) (h : MIX X ρ wi (xs.map enc) ρ') (R : β → Slots) (S : Nat → β → Prop) (h0 : ∃ y, S 0 y ∧ Le ρ' (R y))
    (hs : ∀ (j : Nat) (x : α) (y : β), xs[j]? = some x → S j y → ∃ τ' ws, MTg g X.K (R y) (enc x) τ' ws ∧ MS X τ' body { nx := fun τ => ∃ y, S (j + 1) y ∧ Le τ (R y), ct := fun τ => ∃ y, S (j + 1) y ∧ Le τ (R y), bk := G.nx, rt := G.rt, rs := G.rs })
    (hd : ∀ τ y, S xs.length y → Le τ (R y) → G.nx τ) : MS1 X ρ st G := by
  refine m_forX p h (fun j τ => ∃ x, S j x ∧ Le τ (R x)) h0 (fun j d τ hj l => ?_) fun τ ⟨x, h1, h2⟩ => hd τ x (by rw [List.length_map] at h1; exact h1) h2
  obtain ⟨x, l1, l2⟩ := l
  rw [List.getElem?_map] at hj
  obtain ⟨y, hy, rfl⟩ := Option.map_eq_some_iff.mp hj
  obtain ⟨τ', ws, t1, t2⟩ := hs j y x hy l1
  exact ⟨τ', ws, .mk fun Z0 F Z σ H v s r Q q => t1.run Z0 F Z σ H v (s.le l2) r Q q, t2⟩
theorem m_forPX {xs : List α} {enc : α → D} {wi : TI} {g : TG} {body : List Stmt} (p : PS X st (tFor wi g (wS X body))) (h : MIX X ρ wi (xs.map enc) ρ') {f : α → V → Option V} {v0 v1 : V} (hx : lp f xs v0 = some v1) (Rn : V → Slots) (h0 : Le ρ' (Rn v0))
    (hs : ∀ (x : α) (v v' : V), x ∈ xs → f x v = some v' → ∃ τ' ws, MTg g X.K (Rn v) (enc x) τ' ws ∧ MS X τ' body { nx := fun τ => Le τ (Rn v') })
    (hd : ∀ τ, Le τ (Rn v1) → G.nx τ) : MS1 X ρ st G := by
  refine m_forXT (xs := xs) (enc := enc) p h (fun v : V => Rn v) (fun j v => lp f (xs.drop j) v = some v1) ⟨v0, hx, h0⟩ (fun j y v hj hv => ?_) fun τ v hv l => hd τ ?_
  · obtain ⟨hi, ey⟩ := List.getElem?_eq_some_iff.mp hj
    rw [← List.getElem_cons_drop (h := hi), ey] at hv
    obtain ⟨v', e1, e2⟩ := bd_some hv
    obtain ⟨τ', ws, t1, t2⟩ := hs y v v' (List.mem_of_getElem? hj) e1
    exact ⟨τ', ws, t1, ms_imp t2 (fun τ l => ⟨v', e2, l⟩) (fun _ z => z.elim) (fun _ z => z.elim) (fun _ z => z.elim) fun _ _ z => z.elim⟩
  · rw [List.drop_length] at hv
    cases hv
    exact l
theorem m_forOX {xs : List α} {enc : α → D} {wi : TI} {g : TG} {body : List Stmt} (p : PS X st (tFor wi g (wS X body))) (h : MIX X ρ wi (xs.map enc) ρ') {f : α → V → Option (Ou V V R)} {v0 : V} {out : Ou V V R} (hx : lpO f xs v0 = some out) (Rn : V → Slots) (er : R → O) (h0 : Le ρ' (Rn v0))
    (hs : ∀ (x : α) (v : V) (o : Ou V V R), x ∈ xs → f x v = some o → ∃ τ' ws, MTg g X.K (Rn v) (enc x) τ' ws ∧ MS X τ' body (goO Rn Rn er o))
    (hd : ∀ v τ, out = .nx v → Le τ (Rn v) → G.nx τ) (hr : ∀ r, out = .rt r → G.rt (er r)) : MS1 X ρ st G := by
  refine m_forXT (xs := xs) (enc := enc) p h (fun v : V => Rn v) (fun j v => lpO f (xs.drop j) v = some out) ⟨v0, hx, h0⟩ (fun j y v hj hv => ?_) fun τ v hv l => ?_
  · obtain ⟨hi, ey⟩ := List.getElem?_eq_some_iff.mp hj
    rw [← List.getElem_cons_drop (h := hi), ey] at hv
    obtain ⟨o, e1, e2⟩ := bd_some hv
    obtain ⟨τ', ws, t1, t2⟩ := hs y v o (List.mem_of_getElem? hj) e1
    refine ⟨τ', ws, t1, ms_imp t2 (fun τ l => ?_) (fun q l => ?_) (fun τ l => ?_) (fun τ l => ?_) fun _ _ z => z.elim⟩
    · obtain ⟨v', rfl, l⟩ := l
      exact ⟨v', e2, l⟩
    · obtain ⟨r, rfl, rfl⟩ := l
      cases e2
      exact hr r rfl
    · obtain ⟨v', rfl, l⟩ := l
      cases e2
      exact hd v' τ rfl l
    · obtain ⟨v', rfl, l⟩ := l
      exact ⟨v', e2, l⟩
  · rw [List.drop_length] at hv
    cases hv
    exact hd v τ rfl l
theorem m_forSxX {n : Nat} {xs : List α} {enc : α → D} {wi : TI} {g : TG} {body : List Stmt} (p : PS X st (tFor wi g (wS X body))) (h : MIX X ρ wi (xs.map enc) ρ') {f : α → V → Option (Ou V V R)} {v0 : V} {out : Ou V V R} (hx : lpO f xs v0 = some out) (ei : R → O) (Rn : V → Slots) (er : R → O) (h0 : Le ρ' (Rn v0))
    (hs : ∀ (x : α) (v : V) (o : Ou V V R), x ∈ xs → f x v = some o → ∃ τ' ws, MTg g X.K (Rn v) (enc x) τ' ws ∧ MS X τ' body (goS n ei Rn Rn er o))
    (hd : ∀ v τ, out = .nx v → Le τ (Rn v) → G.nx τ) (hr : ∀ r τ, out = .rt r → τ[n]? = some (some (ei r)) → G.rs (er r) τ) : MS1 X ρ st G := by
  refine m_forXT (xs := xs) (enc := enc) p h (fun v : V => Rn v) (fun j v => lpO f (xs.drop j) v = some out) ⟨v0, hx, h0⟩ (fun j y v hj hv => ?_) fun τ v hv l => ?_
  · obtain ⟨hi, ey⟩ := List.getElem?_eq_some_iff.mp hj
    rw [← List.getElem_cons_drop (h := hi), ey] at hv
    obtain ⟨o, e1, e2⟩ := bd_some hv
    obtain ⟨τ', ws, t1, t2⟩ := hs y v o (List.mem_of_getElem? hj) e1
    refine ⟨τ', ws, t1, ms_imp t2 (fun τ l => ?_) (fun q l => l.elim) (fun τ l => ?_) (fun τ l => ?_) fun q τ l => ?_⟩
    · obtain ⟨v', rfl, l⟩ := l
      exact ⟨v', e2, l⟩
    · obtain ⟨v', rfl, l⟩ := l
      cases e2
      exact hd v' τ rfl l
    · obtain ⟨v', rfl, l⟩ := l
      exact ⟨v', e2, l⟩
    · obtain ⟨r, rfl, rfl, l⟩ := l
      cases e2
      exact hr r τ rfl l
  · rw [List.drop_length] at hv
    cases hv
    exact hd v τ rfl l
end
/-! ### a slot's own thing is lent while a statement runs: it is looked at alone -/
def O.inHp : O → Bool
  | .lst _ => true
  | .ins _ _ _ => true
  | .dct _ _ => true
  | .dctT _ _ => true
  | _ => false
theorem RepO.inHp {K : PySem.W.Frag} {Z F H : Hp} {l : Addr} {o : O} {A : List Addr} (r : RepO K Z F H (.ref l) o A) (hp : o.inHp = true) : ∃ u, l ∈ A ∧ H l = some u := by
  cases r with
  | fz _ => cases hp
  | lst h _ => exact ⟨_, List.mem_cons_self, h⟩
  | ins h _ => exact ⟨_, List.mem_cons_self, h⟩
  | dct h _ => exact ⟨_, List.mem_cons_self, h⟩
  | dctT h _ => exact ⟨_, List.mem_cons_self, h⟩
  | loc _ => cases hp
  | vw _ _ => cases hp
  | vwa _ _ => cases hp
  | tup _ _ => cases hp
  | «at» _ _ => cases hp
  | pt => cases hp
  | lk _ => cases hp
theorem upd_id {H : Hp} {l : Addr} {u : HO} (e : H l = some u) : upd H l u = H := by
  funext a
  by_cases h : a = l
  · subst h; rw [upd_same, e]
  · rw [upd_ne h]
section
variable {X : Cx} {ρ : Slots} {st : Stmt} {G : Go} {o : O} {i : Nat} {l : Addr}
theorem m_lend (hi : ρ[i]? = some (some (.loc l o))) (hr : o.inHp = true) [nts : NtS ρ] [nvo : Nv o] (h : MS1 X (ρ.set i (some (.lk (.loc l o)))) st { nx := fun τ => ∃ τ', Le τ τ' ∧ τ'[i]? = some (some (.lk (.loc l o))) ∧ Kp (ρ.set i (some (.pt l))) (τ'.set i (some (.pt l))) ∧ G.nx (τ'.set i (some (.loc l o))) }) : MS1 X ρ st G := .mk fun Z0 F Z σ H D s gd => by
  obtain ⟨q1, B, r0, nB, dB, lk⟩ := locked s hi nts.nt
  obtain ⟨u, dm, hd⟩ := r0.inHp hr
  obtain ⟨ef, s1, back⟩ := lk (u := u) (lu := u) (qs := []) dm hd (fun _ m => nomatch m)
  have F1l : lkF F H B [] l u l = some u := lkF_d
  have F1B : ∀ a ∈ B, lkF F H B [] l u a = H a := fun a m => by
    by_cases e : a = l
    · rw [e, F1l, hd]
    · exact lkF_in e (.inl m)
  generalize lkF F H B [] l u = F1 at ef s1 back F1l F1B
  rw [upd_id hd] at s1
  have rk : RepK X.K Z F1 (.ref l) (.loc l o) := .loc ((r0.mono (H' := F1) (Ex.refl _) (Ex.refl _) fun a m u e => by rw [F1B a m]; exact e).toK ef)
  have hlen : i < ρ.length := by
    rw [List.getElem?_eq_some_iff] at hi
    exact hi.1
  have s2 : StR X.K (ρ.set i (some (.lk (.loc l o)))) Z F1 Z σ H := by
    obtain ⟨T, sa⟩ := s1.a
    obtain ⟨v, _, A, f⟩ := sa.foc (i := i) (o := .pt l) (by rw [List.getElem?_set_self hlen])
    have f' := f.rp
    cases f' with
    | pt =>
      have := f.same s1.gr.zh (o' := .lk (.loc l o)) (.lk rk)
      rw [List.set_set] at this
      exact this
  refine h.run Z F1 Z σ H D s2 ⟨fun τ Zn σn Hn ⟨τ', le, ti, kp, k⟩ sn => ?_, fun _ _ _ _ z => z.elim, fun _ _ _ _ z => z.elim, fun _ _ _ _ _ z => z.elim, fun _ _ _ _ _ _ z => z.elim, GX.never fun _ z => z⟩
  have s3 := sn.le le
  have hlen' : i < τ'.length := by
    rw [List.getElem?_eq_some_iff] at ti
    exact ti.1
  have s4 : StR X.K (τ'.set i (some (.pt l))) Z F1 Zn σn Hn := by
    obtain ⟨T, sa⟩ := s3.a
    obtain ⟨v, _, A, f⟩ := sa.foc ti
    have f' := f.rp
    cases f' with
    | lk f' =>
      cases f' with
      | loc _ => exact f.same s3.gr.zh (o' := .pt l) .pt
  have b := back s4 (by rw [List.getElem?_set_self hlen']) kp nvo.nv
  rw [upd_id (s3.gr.hh l u F1l), List.set_set] at b
  exact gd.nx _ Zn σn Hn k b
end
/-! ### tuples of ints: < -/
def ltL : List Int → List Int → Bool
  | [], [] => false
  | [], _ :: _ => true
  | _ :: _, [] => false
  | x :: xs, y :: ys => if x = y then ltL xs ys else decide (x < y)
theorem lexAt_shift (e r : Nat → Bool) (z : Bool) : ∀ (k i : Nat), Ob.lexAt e r z (i + 1) k = Ob.lexAt (fun j => e (j + 1)) (fun j => r (j + 1)) z i k
  | 0, _ => rfl
  | k + 1, i => by rw [Ob.lexAt_succ, Ob.lexAt_succ, lexAt_shift e r z k]
theorem lexAt_lt : ∀ (ns ms : List Int), Ob.lexAt (fun j => decide (ns.getD j 0 = ms.getD j 0)) (fun j => decide (ns.getD j 0 < ms.getD j 0)) (decide (ns.length < ms.length)) 0 (min ns.length ms.length) = ltL ns ms
  | [], [] => rfl
  | [], m :: ms => by simp [ltL, Ob.lexAt]
  | n :: ns, [] => by simp [ltL, Ob.lexAt]
  | n :: ns, m :: ms => by
    rw [show min (n :: ns).length (m :: ms).length = min ns.length ms.length + 1 by simp [Nat.succ_min_succ], Ob.lexAt_succ, lexAt_shift]
    have ih := lexAt_lt ns ms
    simp only [List.getD_cons_succ, List.getD_cons_zero, List.length_cons, Nat.add_lt_add_iff_right, ltL]
    rw [ih]
    by_cases h : n = m
    · rw [if_pos (by simpa using h), if_pos h]
    · rw [if_neg (by simpa using h), if_neg h]
def rLtT (K : PySem.W.Frag) : R2 := fun x y H Q => ∃ (a b : Addr) (ns ms : List Int), x = .ref a ∧ y = .ref b ∧ SqT K H a (ns.map V.int) ∧ SqT K H b (ms.map V.int) ∧ Q (.bl (ltL ns ms)) H
theorem op_ltT {X : Cx} (hu : X.A.units < cLine) : OpR X (compareOp .Lt) (rLtT X.K) := by
  intro pins s σ H x y v u Q I rx ry h
  obtain ⟨a, b, ns, ms, rfl, rfl, ha, hb, q⟩ := h
  cases rx
  cases ry
  obtain ⟨its, r1, p1, _⟩ := I.tuple ha
  obtain ⟨its2, r2, p2, _⟩ := I.tuple hb
  have i1 : IntsAre its ns := Vals.ints r1
  have i2 : IntsAre its2 ms := Vals.ints r2
  have e1 : its.toArray.size = ns.length := by rw [List.size_toArray]; exact i1.length
  have e2 : its2.toArray.size = ms.length := by rw [List.size_toArray]; exact i2.length
  have at1 : ∀ j (h1 : j < its.toArray.size), ∃ t, its.toArray[j] = .int (ns.getD j 0) t := fun j h1 => PyProof.Rows.IntsAre.int_at i1 _ _ (by simp at h1; simp [h1])
  have at2 : ∀ j (h1 : j < its2.toArray.size), ∃ t, its2.toArray[j] = .int (ms.getD j 0) t := fun j h1 => PyProof.Rows.IntsAre.int_at i2 _ _ (by simp at h1; simp [h1])
  have R := Ob.RcOp.tuples_lt (A := X.A) (s := s) (e := fun j => decide (ns.getD j 0 = ms.getD j 0)) (r := fun j => decide (ns.getD j 0 < ms.getD j 0)) p1 p2 hu (fun j h1 h2 => by
    obtain ⟨t, et⟩ := at1 j h1
    obtain ⟨t', et'⟩ := at2 j h2
    rw [et, et']
    have z : (ns.getD j 0 == ms.getD j 0) = decide (ns.getD j 0 = ms.getD j 0) := by
      by_cases q : ns.getD j 0 = ms.getD j 0
      · rw [decide_eq_true q]; exact beq_iff_eq.mpr q
      · rw [decide_eq_false q]; exact beq_eq_false_iff_ne.mpr q
    rw [← z]
    exact SeqAt.EqAt.int_int _ _ _ _) (fun j h1 h2 _ => by
    obtain ⟨t, et⟩ := at1 j h1
    obtain ⟨t', et'⟩ := at2 j h2
    rw [et, et']
    exact Ob.RcOp.lt_int _ _ _ _)
  rw [e1, e2, lexAt_lt] at R
  have z : wpAny (model X.prog X.w) X.A (compareOp .Lt (.ref a) (.ref b)) (EP X pins σ Q) X.xe s := R X.prog X.w X.xe (EP X pins σ Q) ⟨.bl _, H, I, rfl, q⟩
  exact z
section
variable {X : Cx} {ρ : Slots} {a b : Expr} {ns ms : List Int} {pos : Pos}
theorem me_ltT (hu : X.A.units + 64 < cLine) (ha : MU X ρ a (ns.map .int)) (hb : MU X ρ b (ms.map .int)) : ME X ρ (.Compare a [.Lt] [b] pos) (.fz (.bl (ltL ns ms))) := .mk fun Z0 F Z σ H s Q q =>
  PE_w (pe_cmpR (op_ltT (by omega)) pe_w pe_w (nomark _)) (ha.run Z0 F Z σ H s _ fun l vs Z1 H1 g1 l1 r1 => hb.run Z0 F Z1 σ H1 (s.grow g1) _ fun l2 us Z2 H2 g2 l2' r2 => by
    rw [r1.ints] at l1
    rw [r2.ints] at l2'
    exact ⟨l, l2, ns, ms, rfl, rfl, ex_t g2.hh l1, l2', q _ Z2 H2 [] (g1.trans g2) (.fz (.bl _)) .nil⟩)
end
end M
namespace M
open PySem L2 PySem.Spec PyProof.Rows
/-! ### sorted by a def that tells a tuple -/
structure KeyC (K : PySem.W.Frag) (mg : Str → Option Value) (nm : Str) (ks : List Int) : Prop where
  ex : ∃ f, mg nm = some (.ref f) ∧ KeyF K f ks
def srtK {β : Type} (key : β → List Int) (bs : List β) : List β := bs.mergeSort (PySem.W.dataLe false fun b => PyData.tuple ((key b).map PyData.int))
section
variable {X : Cx} {ρ : Slots} {a : Expr} {pos p0 p1 p2 : Pos} {β : Type} {enc : β → D} {bs : List β} {k0 : β → Int} {kr : β → List Int} {ks : List Int} {nm : Str}
theorem me_sortedKC (kc : KeyC X.K X.mg nm ks) (hu : X.A.units + 64 < cLine) (hr : Room 3 X.A) (hk1 : ks.length ≤ 50) (hk : ∀ b ∈ bs, ∃ ds, enc b = .tup ds ∧ AtInts ds ks (k0 b :: kr b)) (hg : Gl X "sorted") (hm : X.mg "sorted" = none) (ha : ML X ρ a (bs.map enc)) (hg2 : Gl X nm := by rfl) (hd2 : (nm == ("__debug__" : Str)) = false := by decide) (n1 : NS X a := by exact fun _ => rfl)
    (hall : (backToKw pos (keywordEach [⟨"key", .Name nm p1, p2⟩] X.env)).all (·.1.isSome) = true := by rfl) (hnone : (backToKw pos (keywordEach [⟨"key", .Name nm p1, p2⟩] X.env)).any (·.1.isNone) = false := by rfl) (hks : (backToKw pos (keywordEach [⟨"key", .Name nm p1, p2⟩] X.env)).filterMap (·.1) = [Str.ofString "key"] := by rfl) :
    ME X ρ (.Call (.Name "sorted" p0) [a] [⟨"key", .Name nm p1, p2⟩] pos) (.lst (((srtK (fun b => k0 b :: kr b) bs).map enc).map .fz)) := by
  obtain ⟨f, e, kf⟩ := kc.ex
  exact me_sortedK hu hr kf e hk1 hk hg hm ha hg2 hd2 n1 hall hnone hks
end
end M
namespace K51
open PySem L2 M
section
variable {P : Program} {w : World} {K : PySem.W.Frag} {mg : Str → Option Value} {base : Heap} {C_Days : Addr}
abbrev e_T_i_i_i (p : (Int × Int × Int)) : D := .tup [.int p.1, .int p.2.1, .int p.2.2]
/-! turn_of -/
structure R_Days where
  waiting : (List (Int × Int × Int × D))
  known : (List (Key × Bool))
abbrev e_T_i_i_i_d (p : (Int × Int × Int × D)) : D := .tup [.int p.1, .int p.2.1, .int p.2.2.1, p.2.2.2]
abbrev oo_Days (C_Days : Addr) (p : R_Days) : O := .ins C_Days ["waiting", "known"] [.lst ((p.waiting.map e_T_i_i_i_d).map .fz), oDK (fun y => .fz (D.bl y)) p.known]
noncomputable def M_turn_of (one : (Int × Int × Int × D)) : Option (Int × Int × Int) :=
  some (one.1, one.2.1, one.2.2.1)
def sp_turn_of (K : PySem.W.Frag) : Sp := SpF K (fun x : (Int × Int × Int × D) => [.fz (e_T_i_i_i_d x)]) (fun x => M_turn_of x) (fun r => .fz (e_T_i_i_i r))
abbrev N_turn_of : List Str := ["one"]
theorem sc_turn_of : FnScope N_turn_of ["one"] (defScope s_turn_of) := ⟨rfl, rfl, rfl, by decide +kernel, rfl, by decide +kernel, by decide +kernel⟩
theorem ok_turn_of {f : Addr} {fd : FuncData} (F : Fun K "turn_of" "turn_of" s_turn_of f fd)  : FnOk P w K mg base CX0 1 f fd ["one"] (sp_turn_of K) := by
  refine fn_m F sc_turn_of (fun x => rfl) (fun x _ => rfl) fun cdv A outer s H E hr x hx => ?_
  obtain ⟨one, r⟩ := x
  replace hx : M_turn_of one = some r := hx
  have nd := sc_turn_of.nd
  unfold M_turn_of at hx
  show MS _ [some (.fz (e_T_i_i_i_d one))] _ _
  refine ms_one (m_ret (ps_ret pe_w) (ME.r (me_tup (mf_cons (me_ixT (MV.u (ME.v (me_var (pv 0) rfl)) (.fz _)) me_int rfl) (mf_cons (me_ixT (MV.u (ME.v (me_var (pv 0) rfl)) (.fz _)) me_int rfl) (mf_cons (me_ixT (MV.u (ME.v (me_var (pv 0) rfl)) (.fz _)) me_int rfl) mf_nil))))) ?_)
  cases hx; rfl

/-! Days.__init__ -/
noncomputable def M_Days___init__  : Option R_Days :=
  lt ([] : List (Int × Int × Int × D)) fun self_waiting =>
  lt ([] : (List (Key × Bool))) fun self_known =>
  some ({ waiting := self_waiting, known := self_known } : R_Days)
def sp_Days___init__ (K : PySem.W.Frag) (C_Days : Addr) : Sp := SpX K (fun x : ((Unit) × R_Days) => []) (fun x => M_Days___init__  = some x.2) (fun l x => .at l C_Days [] []) (fun l x => .at l C_Days ["waiting", "known"] [(.lst ((x.2.waiting.map e_T_i_i_i_d).map .fz)), (oDK (fun y => .fz (D.bl y)) x.2.known)]) (fun _ => .fz .non)
def spI_Days___init__ (K : PySem.W.Frag) (C_Days : Addr) : Sp := SpI K C_Days ["waiting", "known"] (fun x : ((Unit) × R_Days) => []) (fun x => M_Days___init__  = some x.2) (fun x => [(.lst ((x.2.waiting.map e_T_i_i_i_d).map .fz)), (oDK (fun y => .fz (D.bl y)) x.2.known)])
theorem toI_Days___init__ {k : Nat} {f : Addr} {fd : FuncData} {ps : List Str} {C_Days : Addr} (h : FnOk P w K mg base CX0 k f fd ps (sp_Days___init__ K C_Days)) : FnOk P w K mg base CX0 k f fd ps (spI_Days___init__ K C_Days) := SpX.init (fun y => y) h (fun _ => rfl) (fun _ h => h) (fun _ _ => rfl) (fun _ _ => rfl)
abbrev N_Days___init__ : List Str := ["self"]
theorem sc_Days___init__ : FnScope N_Days___init__ ["self"] (defScope s_Days___init__) := ⟨rfl, rfl, rfl, by decide +kernel, rfl, by decide +kernel, by decide +kernel⟩
theorem ok_Days___init__ {f : Addr} {fd : FuncData} (F : Fun K "__init__" "Days.__init__" s_Days___init__ f fd) (o_Days : OC K C_Days ["waiting", "known"]) : FnOk P w K mg base CX0 1 f fd ["self"] (sp_Days___init__ K C_Days) := by
  refine fn_mX F sc_Days___init__ (fun x => rfl) (fun l x _ => Nv.is _) (fun x _ => rfl) (fun l x => ⟨_, _, _, rfl⟩) fun cdv A outer s H E hr l x hx => ?_
  obtain ⟨_, r⟩ := x
  replace hx : M_Days___init__  = some r := hx
  have nd := sc_Days___init__.nd
  unfold M_Days___init__ at hx
  show MS _ [some (.at l C_Days [] [])] _ _
  replace hx := lt_some hx
  obtain ⟨self_waiting, eself_waiting, hx⟩ := hx
  refine ms_cons (m_setFldN (i := 0) (pv _) rfl o_Days (ME.is (o' := (.lst ((self_waiting.map e_T_i_i_i_d).map .fz))) (me_lst (ds := [].map e_T_i_i_i_d) mf_nil) (by rw [eself_waiting] <;> rfl)) ?_)
  show MS _ [some (.at l C_Days ["waiting"] [(.lst ((self_waiting.map e_T_i_i_i_d).map .fz))])] _ _
  replace hx := lt_some hx
  obtain ⟨self_known, eself_known, hx⟩ := hx
  refine ms_one (m_setFldN (i := 0) (pv _) rfl o_Days (ME.is (o' := (oDK (fun y => .fz (D.bl y)) self_known)) (ME.is (o' := oDK (fun y => .fz (D.bl y)) ([] : (List (Key × Bool)))) me_dct0 rfl) (by rw [eself_known] <;> rfl)) ?_)
  cases hx; exact ⟨rfl, rfl⟩

/-! Days.put -/
noncomputable def M_Days_put (self : R_Days) (day : Int) (rank : Int) (number : Int) (row : D) : Option (R_Days × Unit) :=
  gd (self.waiting.length < sizeLine) <|
  lt (self.waiting ++ [(day, rank, number, row)]) fun c_waiting =>
  gd ((({ self with waiting := c_waiting } : R_Days).known).length < sizeLine) <|
  lt (ptk (({ self with waiting := c_waiting } : R_Days).known) ((.inl number) : Key) true) fun c_known =>
  some (({ ({ self with waiting := c_waiting } : R_Days) with known := c_known } : R_Days), ())
def sp_Days_put (K : PySem.W.Frag) (C_Days : Addr) : Sp := SpJF K (fun x : R_Days × Int × Int × Int × D => []) (fun x : R_Days × Int × Int × Int × D => [.fz (.int x.2.1), .fz (.int x.2.2.1), .fz (.int x.2.2.2.1), .fz x.2.2.2.2]) (fun x => M_Days_put x.1 x.2.1 x.2.2.1 x.2.2.2.1 x.2.2.2.2) (fun x => oo_Days C_Days x.1) (fun i => oo_Days C_Days i) (fun r => .fz (.non))
abbrev N_Days_put : List Str := ["self", "day", "rank", "number", "row"]
theorem sc_Days_put : FnScope N_Days_put ["self", "day", "rank", "number", "row"] (defScope s_Days_put) := ⟨rfl, rfl, rfl, by decide +kernel, rfl, by decide +kernel, by decide +kernel⟩
theorem ok_Days_put {f : Addr} {fd : FuncData} (F : Fun K "put" "Days.put" s_Days_put f fd) (o_Days : OC K C_Days ["waiting", "known"]) : FnOk P w K mg base CX0 1 f fd ["self", "day", "rank", "number", "row"] (sp_Days_put K C_Days) := by
  refine fn_mJ F sc_Days_put (fun x => rfl) (fun x => rfl) (fun x _ => Nv.is _) (fun x _ => rfl) fun cdv A outer s H E hr l x hx => ?_
  obtain ⟨⟨self, day, rank, number, row⟩, r⟩ := x
  replace hx : M_Days_put self day rank number row = some r := hx
  have nd := sc_Days_put.nd
  unfold M_Days_put at hx
  show MS _ [some (.loc l (oo_Days C_Days self)), some (.fz (.int day)), some (.fz (.int rank)), some (.fz (.int number)), some (.fz row)] _ _
  replace hx := gd_some hx
  obtain ⟨g1, hx⟩ := hx
  replace hx := lt_some hx
  obtain ⟨c_waiting, ec_waiting, hx⟩ := hx
  refine ms_cons (m_appendPT (xs := self.waiting) (enc := e_T_i_i_i_d) (y := (day, rank, number, row)) (MQ.toP (mq_fld (j := 0) (mq_loc (mq_var (pv 0) rfl)) o_Days)) (me_tup (mf_cons (me_var (pv 1) rfl) (mf_cons (me_var (pv 2) rfl) (mf_cons (me_var (pv 3) rfl) (mf_cons (me_var (pv 4) rfl) mf_nil))))) g1 ?_)
  rw [← ec_waiting]
  show MS _ [some (.loc l (oo_Days C_Days ({ self with waiting := c_waiting } : R_Days))), some (.fz (.int day)), some (.fz (.int rank)), some (.fz (.int number)), some (.fz row)] _ _
  replace hx := gd_some hx
  obtain ⟨g2, hx⟩ := hx
  replace hx := lt_some hx
  obtain ⟨c_known, ec_known, hx⟩ := hx
  refine ms_one (m_putDK (m := ({ self with waiting := c_waiting } : R_Days).known) (enc := D.bl) (y1 := true) hr.units (mq_fld (j := 1) (mq_loc (mq_var (pv 0) rfl)) o_Days) (me_var (pv 3) rfl) rfl me_bl g2 ?_)
  rw [← ec_known]
  cases hx; exact ⟨rfl, rfl⟩

/-! Days.has_number -/
noncomputable def M_Days_has_number (self : R_Days) (number : Int) : Option Bool :=
  some ((lkp self.known ((.inl number) : Key)).isSome)
def sp_Days_has_number (K : PySem.W.Frag) (C_Days : Addr) : Sp := SpF K (fun x : R_Days × Int => [.lk (oo_Days C_Days x.1), .fz (.int x.2)]) (fun x => M_Days_has_number x.1 x.2) (fun r => .fz (.bl r))
abbrev N_Days_has_number : List Str := ["self", "number"]
theorem sc_Days_has_number : FnScope N_Days_has_number ["self", "number"] (defScope s_Days_has_number) := ⟨rfl, rfl, rfl, by decide +kernel, rfl, by decide +kernel, by decide +kernel⟩
theorem ok_Days_has_number {f : Addr} {fd : FuncData} (F : Fun K "has_number" "Days.has_number" s_Days_has_number f fd) (o_Days : OC K C_Days ["waiting", "known"]) : FnOk P w K mg base CX0 1 f fd ["self", "number"] (sp_Days_has_number K C_Days) := by
  refine fn_m F sc_Days_has_number (fun x => rfl) (fun x _ => rfl) fun cdv A outer s H E hr x hx => ?_
  obtain ⟨⟨self, number⟩, r⟩ := x
  replace hx : M_Days_has_number self number = some r := hx
  have nd := sc_Days_has_number.nd
  unfold M_Days_has_number at hx
  show MS _ [some (.lk (oo_Days C_Days self)), some (.fz (.int number))] _ _
  refine ms_one (m_ret (ps_ret pe_w) (ME.r (me_inDK (m := self.known) (g := (fun y => .fz (D.bl y))) hr.units (me_var (pv 1) rfl) rfl (mv_fld (j := 1) (MV.unlk (mv_var (pv 0) rfl)) o_Days))) ?_)
  cases hx; rfl

/-! Days.up_to -/
noncomputable def M_Days_up_to (self : R_Days) (day : Int) : Option (R_Days × (List (Int × Int × Int × D))) :=
  lt ([] : List (Int × Int × Int × D)) fun taken =>
  lt ([] : List (Int × Int × Int × D)) fun left =>
  bd (lp (fun (x2 : (Int × Int × Int × D)) (p1 : (List (Int × Int × Int × D)) × (List (Int × Int × Int × D))) => (cond (decide (x2.1 ≤ day)) (gd (p1.1.length < sizeLine) <|
      lt (p1.1 ++ [x2]) fun taken_1 =>
      some (taken_1, p1.2)) (gd (p1.2.length < sizeLine) <|
      lt (p1.2 ++ [x2]) fun left_1 =>
      some (p1.1, left_1)) : Option ((List (Int × Int × Int × D)) × (List (Int × Int × Int × D))))) self.waiting (taken, left)) fun p3 =>
  some (({ self with waiting := p3.2 } : R_Days), (srtK (fun b : (Int × Int × Int × D) => [b.1, b.2.1, b.2.2.1]) p3.1))
def sp_Days_up_to (K : PySem.W.Frag) (C_Days : Addr) : Sp := SpJF K (fun x : R_Days × Int => []) (fun x : R_Days × Int => [.fz (.int x.2)]) (fun x => M_Days_up_to x.1 x.2) (fun x => oo_Days C_Days x.1) (fun i => oo_Days C_Days i) (fun r => .lst ((r.map e_T_i_i_i_d).map .fz))
abbrev N_Days_up_to : List Str := ["self", "day", "taken", "left", "one"]
theorem sc_Days_up_to : FnScope N_Days_up_to ["self", "day"] (defScope s_Days_up_to) := ⟨rfl, rfl, rfl, by decide +kernel, rfl, by decide +kernel, by decide +kernel⟩
theorem ok_Days_up_to {f : Addr} {fd : FuncData} (F : Fun K "up_to" "Days.up_to" s_Days_up_to f fd) (z_sorted : mg "sorted" = none) (o_Days : OC K C_Days ["waiting", "known"]) (k_turn_of : KeyC K mg "turn_of" [0, 1, 2]) : FnOk P w K mg base CX0 5 f fd ["self", "day"] (sp_Days_up_to K C_Days) := by
  refine fn_mJ F sc_Days_up_to (fun x => rfl) (fun x => rfl) (fun x _ => Nv.is _) (fun x _ => O.nvL_fz _) fun cdv A outer s H E hr l x hx => ?_
  obtain ⟨⟨self, day⟩, r⟩ := x
  replace hx : M_Days_up_to self day = some r := hx
  have nd := sc_Days_up_to.nd
  unfold M_Days_up_to at hx
  show MS _ [some (.loc l (oo_Days C_Days self)), some (.fz (.int day)), none, none, none] _ _
  replace hx := lt_some hx
  obtain ⟨taken, etaken, hx⟩ := hx
  refine ms_cons (m_set (ps_set (i := 2) nd rfl (Or.inl rfl) pe_w) (ME.is (o' := (.lst ((taken.map e_T_i_i_i_d).map .fz))) (me_lst (ds := [].map e_T_i_i_i_d) mf_nil) (by rw [etaken] <;> rfl)) ?_)
  show MS _ [some (.loc l (oo_Days C_Days self)), some (.fz (.int day)), some (.lst ((taken.map e_T_i_i_i_d).map .fz)), none, none] _ _
  replace hx := lt_some hx
  obtain ⟨left, eleft, hx⟩ := hx
  refine ms_cons (m_set (ps_set (i := 3) nd rfl (Or.inl rfl) pe_w) (ME.is (o' := (.lst ((left.map e_T_i_i_i_d).map .fz))) (me_lst (ds := [].map e_T_i_i_i_d) mf_nil) (by rw [eleft] <;> rfl)) ?_)
  show MS _ [some (.loc l (oo_Days C_Days self)), some (.fz (.int day)), some (.lst ((taken.map e_T_i_i_i_d).map .fz)), some (.lst ((left.map e_T_i_i_i_d).map .fz)), none] _ _
  refine ms_cons (m_lend (i := 0) rfl rfl ?_)
  replace hx := bd_some hx
  obtain ⟨p3, hp3, hx⟩ := hx
  refine  (m_forP (xs := self.waiting) (enc := e_T_i_i_i_d) (ps_for PassesOwn.never rfl (pi_list pe_w) (pg_name (i := 4) nd rfl (Or.inl rfl)) pss_w) (by exact (mi_list (ds := self.waiting.map e_T_i_i_i_d) (MV.lkk (mv_fldK (j := 0) (MV.lkloc (mv_var (pv 0) rfl)) o_Days)))) hp3 (fun p1 => [some (.lk (.loc l (oo_Days C_Days self))), some (.fz (.int day)), some (.lst ((p1.1.map e_T_i_i_i_d).map .fz)), some (.lst ((p1.2.map e_T_i_i_i_d).map .fz)), none]) le_auto (fun x2 p1 p1o mx hx => ?_) fun τ le => ?_)
  ·
    refine ⟨_, _, mg_name, ?_⟩
    show MS _ [some (.lk (.loc l (oo_Days C_Days self))), some (.fz (.int day)), some (.lst ((p1.1.map e_T_i_i_i_d).map .fz)), some (.lst ((p1.2.map e_T_i_i_i_d).map .fz)), some (.fz (e_T_i_i_i_d x2))] _ _
    refine ms_one (m_if (t := (decide (x2.1 ≤ day))) (mt_le (me_ixT (MV.u (ME.v (me_var (pv 4) rfl)) (.fz _)) me_int rfl) (me_var (pv 1) rfl)) (fun h => ?_) fun h => ?_)
    · replace hx := cond_t hx h
      replace hx := gd_some hx
      obtain ⟨g4, hx⟩ := hx
      replace hx := lt_some hx
      obtain ⟨taken_1, etaken_1, hx⟩ := hx
      refine ms_one (m_appendT (i := 2) (xs := p1.1) (enc := e_T_i_i_i_d) (y := x2) g4 (pv _) rfl (me_var (pv 4) rfl) ?_)
      rw [← etaken_1]
      cases hx; exact le_auto
    · replace hx := cond_f hx h
      replace hx := gd_some hx
      obtain ⟨g5, hx⟩ := hx
      replace hx := lt_some hx
      obtain ⟨left_1, eleft_1, hx⟩ := hx
      refine ms_one (m_appendT (i := 3) (xs := p1.2) (enc := e_T_i_i_i_d) (y := x2) g5 (pv _) rfl (me_var (pv 4) rfl) ?_)
      rw [← eleft_1]
      cases hx; exact le_auto
  refine ⟨_, le, rfl, kp_auto2, ?_⟩
  show MS _ [some (.loc l (oo_Days C_Days self)), some (.fz (.int day)), some (.lst ((p3.1.map e_T_i_i_i_d).map .fz)), some (.lst ((p3.2.map e_T_i_i_i_d).map .fz)), none] _ _
  refine ms_toLoc (i := 3) rfl fun a6 => ?_
  refine ms_cons (m_setFldX (j := 0) (mx_take (pv 3) rfl) (mq_loc (mq_var (pv 0) rfl)) o_Days ?_)
  show MS _ [some (.loc l (oo_Days C_Days ({ self with waiting := p3.2 } : R_Days))), some (.fz (.int day)), some (.lst ((p3.1.map e_T_i_i_i_d).map .fz)), some (.pt a6), none] _ _
  refine ms_one (m_retS (ps_ret pe_w) (me_sortedKC (bs := p3.1) (enc := e_T_i_i_i_d) (k0 := fun b => b.1) (kr := fun b => [b.2.1, b.2.2.1]) k_turn_of hr.units (hr.mono (by decide)) (by decide) (fun b _ => ⟨_, rfl, (.cons rfl (.cons rfl (.cons rfl .nil)))⟩) (by rfl) z_sorted (ml_var (pv 2) rfl)) ?_)
  cases hx; exact ⟨rfl, rfl⟩
/-! _law_cell -/
noncomputable def M__law_cell (script : (List Int)) (k_0 : Int) : Option Int :=
  cond (decide (k_0 < (script.length : Int))) (bd (L2.atI script k_0) fun v1 =>
    some v1) <|
  some (0 : Int)
def sp__law_cell (K : PySem.W.Frag) : Sp := SpF K (fun x : (List Int) × Int => [.vw (x.1.map D.int), .fz (.int x.2)]) (fun x => M__law_cell x.1 x.2) (fun r => .fz (.int r))
abbrev N__law_cell : List Str := ["_law_script", "_law_k"]
theorem sc__law_cell : FnScope N__law_cell ["_law_script", "_law_k"] (defScope s__law_cell) := ⟨rfl, rfl, rfl, by decide +kernel, rfl, by decide +kernel, by decide +kernel⟩
theorem ok__law_cell {f : Addr} {fd : FuncData} (F : Fun K "_law_cell" "_law_cell" s__law_cell f fd) (z_len : mg "len" = none) : FnOk P w K mg base CX0 1 f fd ["_law_script", "_law_k"] (sp__law_cell K) := by
  refine fn_m F sc__law_cell (fun x => rfl) (fun x _ => rfl) fun cdv A outer s H E hr x hx => ?_
  obtain ⟨⟨script, k_0⟩, r⟩ := x
  replace hx : M__law_cell script k_0 = some r := hx
  have nd := sc__law_cell.nd
  unfold M__law_cell at hx
  show MS _ [some (.vw (script.map D.int)), some (.fz (.int k_0))] _ _
  refine ms_cons (m_if (t := (decide (k_0 < (script.length : Int)))) (mt_lt (me_var (pv 1) rfl) (me_lenLT (xs := script) (enc := D.int) (by rfl) z_len (ml_var (pv 0) rfl))) (fun h => ?_) fun h => ms_nil ?_)
  · replace hx := cond_t hx h
    replace hx := bd_some hx
    obtain ⟨v1, hv1, hx⟩ := hx
    refine ms_one (m_ret (ps_ret pe_w) (ME.r (me_ixLT (xs := script) (enc := D.int) hv1 (ml_var (pv 0) rfl) (me_var (pv 1) rfl))) ?_)
    cases hx; rfl
  replace hx := cond_f hx h
  refine ms_one (m_ret (ps_ret pe_w) (ME.r me_int) ?_)
  cases hx; rfl

/-! _law_whole -/
noncomputable def M__law_whole (found : D) : Option Bool :=
  bd (isiD "int" found) fun k1 =>
  bd (cond k1 (bd (isiD "bool" found) fun k2 => some (!k2)) (some false)) fun v3 =>
  some v3
def sp__law_whole (K : PySem.W.Frag) : Sp := SpF K (fun x : D => [.fz x]) (fun x => M__law_whole x) (fun r => .fz (.bl r))
abbrev N__law_whole : List Str := ["_law_found"]
theorem sc__law_whole : FnScope N__law_whole ["_law_found"] (defScope s__law_whole) := ⟨rfl, rfl, rfl, by decide +kernel, rfl, by decide +kernel, by decide +kernel⟩
theorem ok__law_whole {f : Addr} {fd : FuncData} (F : Fun K "_law_whole" "_law_whole" s__law_whole f fd) (z_isinstance : mg "isinstance" = none) (z_int : mg "int" = none) (z_bool : mg "bool" = none) : FnOk P w K mg base CX0 1 f fd ["_law_found"] (sp__law_whole K) := by
  refine fn_m F sc__law_whole (fun x => rfl) (fun x _ => rfl) fun cdv A outer s H E hr x hx => ?_
  obtain ⟨found, r⟩ := x
  replace hx : M__law_whole found = some r := hx
  have nd := sc__law_whole.nd
  unfold M__law_whole at hx
  show MS _ [some (.fz found)] _ _
  replace hx := bd_some hx
  obtain ⟨k1, hk1, hx⟩ := hx
  replace hx := bd_some hx
  obtain ⟨v3, hv3, hx⟩ := hx
  refine ms_one (m_ret (ps_ret pe_w) (ME.r (ME.isB (me_and (me_isiD (T := "int") hk1 (by rfl) z_isinstance (pe_bltn (v := .ty "int") (by rfl) z_int (by decide +kernel) rfl) (mv_var (pv 0) rfl)) fun q4 => (by have hx := cond_t hv3 q4; replace hx := bd_some hx; obtain ⟨k2, hk2, hx⟩ := hx; cases hx; exact (me_one (me_not (me_isiD (T := "bool") hk2 (by rfl) z_isinstance (pe_bltn (v := .ty "bool") (by rfl) z_bool (by decide +kernel) rfl) (mv_var (pv 0) rfl)))))) (and_c hv3))) ?_)
  cases hx; rfl

/-! _law_mix -/
noncomputable def M__law_mix (cell_here : Int) (k_0 : Int) : Option Int :=
  lt ([999983, 999979, 999961, 999959, 999953, 999931, 999917, 999907] : (List Int)) fun primes =>
  bd (L2.atI primes (k_0 % 8)) fun v1 =>
  gd (0 < v1) <|
  lt ((((cell_here % 1000000000) + 11) * 48271) % v1) fun number =>
  gd (CMul number ((number + (2 * k_0)) + 1)) <|
  some (((number * ((number + (2 * k_0)) + 1)) / 7) % 100003)
def sp__law_mix (K : PySem.W.Frag) : Sp := SpF K (fun x : Int × Int => [.fz (.int x.1), .fz (.int x.2)]) (fun x => M__law_mix x.1 x.2) (fun r => .fz (.int r))
abbrev N__law_mix : List Str := ["_law_cell_here", "_law_k", "_law_primes", "_law_number"]
theorem sc__law_mix : FnScope N__law_mix ["_law_cell_here", "_law_k"] (defScope s__law_mix) := ⟨rfl, rfl, rfl, by decide +kernel, rfl, by decide +kernel, by decide +kernel⟩
theorem ok__law_mix {f : Addr} {fd : FuncData} (F : Fun K "_law_mix" "_law_mix" s__law_mix f fd)  : FnOk P w K mg base CX0 1 f fd ["_law_cell_here", "_law_k"] (sp__law_mix K) := by
  refine fn_m F sc__law_mix (fun x => rfl) (fun x _ => rfl) fun cdv A outer s H E hr x hx => ?_
  obtain ⟨⟨cell_here, k_0⟩, r⟩ := x
  replace hx : M__law_mix cell_here k_0 = some r := hx
  have nd := sc__law_mix.nd
  unfold M__law_mix at hx
  show MS _ [some (.fz (.int cell_here)), some (.fz (.int k_0)), none, none] _ _
  replace hx := lt_some hx
  obtain ⟨primes, eprimes, hx⟩ := hx
  refine ms_cons (m_set (ps_set (i := 2) nd rfl (Or.inl rfl) pe_w) (ME.is (o' := (.lst ((primes.map D.int).map .fz))) (me_lst (ds := [999983, 999979, 999961, 999959, 999953, 999931, 999917, 999907].map D.int) (mf_cons me_int (mf_cons me_int (mf_cons me_int (mf_cons me_int (mf_cons me_int (mf_cons me_int (mf_cons me_int (mf_cons me_int mf_nil))))))))) (by rw [eprimes] <;> rfl)) ?_)
  show MS _ [some (.fz (.int cell_here)), some (.fz (.int k_0)), some (.lst ((primes.map D.int).map .fz)), none] _ _
  replace hx := bd_some hx
  obtain ⟨v1, hv1, hx⟩ := hx
  replace hx := gd_some hx
  obtain ⟨g2, hx⟩ := hx
  replace hx := lt_some hx
  obtain ⟨number, enumber, hx⟩ := hx
  refine ms_cons (m_set (ps_set (i := 3) nd rfl (Or.inl rfl) pe_w) (ME.is (o' := (.fz (.int number))) (me_mod (me_mul (me_add (me_mod (me_var (pv 0) rfl) (ME.is (o' := .fz (.int 1000000000)) (me_pow me_int me_int ⟨by decide, by decide, by decide⟩) rfl) (by decide)) me_int) me_int (.inr ⟨by decide, by decide⟩)) (me_ixLT (xs := primes) (enc := D.int) hv1 (ml_var (pv 2) rfl) (me_mod (me_var (pv 1) rfl) me_int (by decide))) g2) (by rw [enumber] <;> rfl)) ?_)
  show MS _ [some (.fz (.int cell_here)), some (.fz (.int k_0)), some (.lst ((primes.map D.int).map .fz)), some (.fz (.int number))] _ _
  replace hx := gd_some hx
  obtain ⟨g3, hx⟩ := hx
  refine ms_one (m_ret (ps_ret pe_w) (ME.r (me_mod (me_fdiv (me_mul (me_var (pv 3) rfl) (me_add (me_add (me_var (pv 3) rfl) (me_mul me_int (me_var (pv 1) rfl) (.inl ⟨by decide, by decide⟩))) me_int) g3) me_int ⟨by decide, by decide⟩) me_int (by decide))) ?_)
  cases hx; rfl

/-! _law_ahead -/
noncomputable def M__law_ahead (one : (Int × Int × Int × D)) (other : (Int × Int × Int × D)) : Option Bool :=
  some (ltL [one.1, one.2.1, one.2.2.1] [other.1, other.2.1, other.2.2.1])
def sp__law_ahead (K : PySem.W.Frag) : Sp := SpF K (fun x : (Int × Int × Int × D) × (Int × Int × Int × D) => [.fz (e_T_i_i_i_d x.1), .fz (e_T_i_i_i_d x.2)]) (fun x => M__law_ahead x.1 x.2) (fun r => .fz (.bl r))
abbrev N__law_ahead : List Str := ["_law_one", "_law_other"]
theorem sc__law_ahead : FnScope N__law_ahead ["_law_one", "_law_other"] (defScope s__law_ahead) := ⟨rfl, rfl, rfl, by decide +kernel, rfl, by decide +kernel, by decide +kernel⟩
theorem ok__law_ahead {f : Addr} {fd : FuncData} (F : Fun K "_law_ahead" "_law_ahead" s__law_ahead f fd)  : FnOk P w K mg base CX0 1 f fd ["_law_one", "_law_other"] (sp__law_ahead K) := by
  refine fn_m F sc__law_ahead (fun x => rfl) (fun x _ => rfl) fun cdv A outer s H E hr x hx => ?_
  obtain ⟨⟨one, other⟩, r⟩ := x
  replace hx : M__law_ahead one other = some r := hx
  have nd := sc__law_ahead.nd
  unfold M__law_ahead at hx
  show MS _ [some (.fz (e_T_i_i_i_d one)), some (.fz (e_T_i_i_i_d other))] _ _
  refine ms_one (m_ret (ps_ret pe_w) (ME.r (me_ltT (ns := [one.1, one.2.1, one.2.2.1]) (ms := [other.1, other.2.1, other.2.2.1]) hr.units (MV.u (ME.v (me_tup (mf_cons (me_ixT (MV.u (ME.v (me_var (pv 0) rfl)) (.fz _)) me_int rfl) (mf_cons (me_ixT (MV.u (ME.v (me_var (pv 0) rfl)) (.fz _)) me_int rfl) (mf_cons (me_ixT (MV.u (ME.v (me_var (pv 0) rfl)) (.fz _)) me_int rfl) mf_nil))))) (.fz _)) (MV.u (ME.v (me_tup (mf_cons (me_ixT (MV.u (ME.v (me_var (pv 1) rfl)) (.fz _)) me_int rfl) (mf_cons (me_ixT (MV.u (ME.v (me_var (pv 1) rfl)) (.fz _)) me_int rfl) (mf_cons (me_ixT (MV.u (ME.v (me_var (pv 1) rfl)) (.fz _)) me_int rfl) mf_nil))))) (.fz _)))) ?_)
  cases hx; rfl

/-! _law_due -/
noncomputable def M__law_due (waiting : (List (Int × Int × Int × D))) (day : Int) : Option (List (Int × Int × Int × D)) :=
  lt ([] : List (Int × Int × Int × D)) fun due_here =>
  bd (lp (fun (x2 : (Int × Int × Int × D)) (p1 : (List (Int × Int × Int × D))) => (cond (decide (x2.1 ≤ day)) (bd (wl (fun (p4 : Int) => (bd (cond (decide (p4 < (p1.length : Int))) (bd (L2.atI p1 p4) fun v6 => bd (M__law_ahead v6 x2) fun v7 => some v7) (some false)) fun v8 => some v8 : Option Bool)) (fun (p4 : Int) => (lt (p4 + 1) fun at_0 =>
        some (.nx at_0) : Option (Ou (Int) (Int) (List (Int × Int × Int × D))))) (0 : Int)) fun o5 => ouV o5 fun p4 =>
      gd (p1.length < sizeLine ∧ 0 ≤ p4 ∧ p4 < 2 ^ 63) <|
      lt (p1.take p4.toNat ++ [x2] ++ p1.drop p4.toNat) fun due_here_1 =>
      some due_here_1) (some p1) : Option ((List (Int × Int × Int × D))))) waiting due_here) fun p3 =>
  some p3
def sp__law_due (K : PySem.W.Frag) : Sp := SpF K (fun x : (List (Int × Int × Int × D)) × Int => [.vw (x.1.map e_T_i_i_i_d), .fz (.int x.2)]) (fun x => M__law_due x.1 x.2) (fun r => .lst ((r.map e_T_i_i_i_d).map .fz))
abbrev N__law_due : List Str := ["_law_waiting", "_law_day", "_law_due_here", "_law_one", "_law_at"]
theorem sc__law_due : FnScope N__law_due ["_law_waiting", "_law_day"] (defScope s__law_due) := ⟨rfl, rfl, rfl, by decide +kernel, rfl, by decide +kernel, by decide +kernel⟩
theorem ok__law_due {f : Addr} {fd : FuncData} (F : Fun K "_law_due" "_law_due" s__law_due f fd) (z_len : mg "len" = none) (c__law_ahead : Fn1 P w K mg base "_law_ahead" 1 ["_law_one", "_law_other"] (sp__law_ahead K)) : FnOk P w K mg base CX0 2 f fd ["_law_waiting", "_law_day"] (sp__law_due K) := by
  refine fn_m F sc__law_due (fun x => rfl) (fun x _ => O.nvL_fz _) fun cdv A outer s H E hr x hx => ?_
  obtain ⟨⟨waiting, day⟩, r⟩ := x
  replace hx : M__law_due waiting day = some r := hx
  have nd := sc__law_due.nd
  unfold M__law_due at hx
  show MS _ [some (.vw (waiting.map e_T_i_i_i_d)), some (.fz (.int day)), none, none, none] _ _
  replace hx := lt_some hx
  obtain ⟨due_here, edue_here, hx⟩ := hx
  refine ms_cons (m_set (ps_set (i := 2) nd rfl (Or.inl rfl) pe_w) (ME.is (o' := (.lst ((due_here.map e_T_i_i_i_d).map .fz))) (me_lst (ds := [].map e_T_i_i_i_d) mf_nil) (by rw [edue_here] <;> rfl)) ?_)
  show MS _ [some (.vw (waiting.map e_T_i_i_i_d)), some (.fz (.int day)), some (.lst ((due_here.map e_T_i_i_i_d).map .fz)), none, none] _ _
  replace hx := bd_some hx
  obtain ⟨p3, hp3, hx⟩ := hx
  refine ms_cons (m_forP (xs := waiting) (enc := e_T_i_i_i_d) (ps_for PassesOwn.never rfl (pi_list pe_w) (pg_name (i := 3) nd rfl (Or.inl rfl)) pss_w) (by exact (mi_list (ds := waiting.map e_T_i_i_i_d) (mk_var (pv 0) rfl))) hp3 (fun p1 => [some (.vw (waiting.map e_T_i_i_i_d)), some (.fz (.int day)), some (.lst ((p1.map e_T_i_i_i_d).map .fz)), none, none]) le_auto (fun x2 p1 p1o mx hx => ?_) fun τ le => ?_)
  ·
    refine ⟨_, _, mg_name, ?_⟩
    show MS _ [some (.vw (waiting.map e_T_i_i_i_d)), some (.fz (.int day)), some (.lst ((p1.map e_T_i_i_i_d).map .fz)), some (.fz (e_T_i_i_i_d x2)), none] _ _
    refine ms_one (m_if (t := (decide (x2.1 ≤ day))) (mt_le (me_ixT (MV.u (ME.v (me_var (pv 3) rfl)) (.fz _)) me_int rfl) (me_var (pv 1) rfl)) (fun h => ?_) fun h => ?_)
    · replace hx := cond_t hx h
      refine ms_cons (m_set (ps_set (i := 4) nd rfl (Or.inl rfl) pe_w) me_int ?_)
      show MS _ [some (.vw (waiting.map e_T_i_i_i_d)), some (.fz (.int day)), some (.lst ((p1.map e_T_i_i_i_d).map .fz)), some (.fz (e_T_i_i_i_d x2)), some (.fz (.int (0 : Int)))] _ _
      replace hx := bd_some hx
      obtain ⟨o5, ho5, hx⟩ := hx
      refine ms_cons (m_whileO (ps_while PassesOwn.never pt_w pss_w) ho5 (fun p4 => [some (.vw (waiting.map e_T_i_i_i_d)), some (.fz (.int day)), some (.lst ((p1.map e_T_i_i_i_d).map .fz)), some (.fz (e_T_i_i_i_d x2)), some (.fz (.int p4))]) (fun r => .lst ((r.map e_T_i_i_i_d).map .fz)) le_auto (fun p4 k hx => ?_) (fun p4 p4o hx => ?_) (fun p4 τ e le => ?_) fun q e => ?_)
      · replace hx := bd_some hx; obtain ⟨v8, hv8, hx⟩ := hx; injection hx with hx; subst k; exact (MW.t (MW.is (mw_and (mt_lt (me_var (pv 4) rfl) (me_lenLT (xs := p1) (enc := e_T_i_i_i_d) (by rfl) z_len (ml_var (pv 2) rfl))) fun q9 => (by have hx := cond_t hv8 q9; replace hx := bd_some hx; obtain ⟨v6, hv6, hx⟩ := hx; replace hx := bd_some hx; obtain ⟨v7, hv7, hx⟩ := hx; first | (cases hx; exact (mw_and1 (mt_val (me_fn c__law_ahead ((v6, x2), v7) (ma_fz (me_ixLT (xs := p1) (enc := e_T_i_i_i_d) hv6 (ml_var (pv 2) rfl) (me_var (pv 4) rfl)) (ma_fz (me_var (pv 3) rfl) ma_nil)) hv7 (hr.mono (by decide)))))) | (injection hx with hx; subst hx; exact (mw_and1 (mt_val (me_fn c__law_ahead ((v6, x2), v7) (ma_fz (me_ixLT (xs := p1) (enc := e_T_i_i_i_d) hv6 (ml_var (pv 2) rfl) (me_var (pv 4) rfl)) (ma_fz (me_var (pv 3) rfl) ma_nil)) hv7 (hr.mono (by decide)))))))) (and_c hv8)))
      ·
        show MS _ [some (.vw (waiting.map e_T_i_i_i_d)), some (.fz (.int day)), some (.lst ((p1.map e_T_i_i_i_d).map .fz)), some (.fz (e_T_i_i_i_d x2)), some (.fz (.int p4))] _ _
        replace hx := lt_some hx
        obtain ⟨at_0, eat_0, hx⟩ := hx
        refine ms_one (m_set (ps_set (i := 4) nd rfl (Or.inl rfl) pe_w) (ME.is (o' := (.fz (.int at_0))) (me_add (me_var (pv 4) rfl) me_int) (by rw [eat_0] <;> rfl)) ?_)
        cases hx; exact ⟨_, rfl, le_auto⟩
      · subst e
        dsimp only [ouV] at hx
        refine ms_le le ?_
        show MS _ [some (.vw (waiting.map e_T_i_i_i_d)), some (.fz (.int day)), some (.lst ((p1.map e_T_i_i_i_d).map .fz)), some (.fz (e_T_i_i_i_d x2)), some (.fz (.int p4))] _ _
        replace hx := gd_some hx
        obtain ⟨g10, hx⟩ := hx
        replace hx := lt_some hx
        obtain ⟨due_here_1, edue_here_1, hx⟩ := hx
        refine ms_one (m_insertPT (xs := p1) (enc := e_T_i_i_i_d) (y := x2) (MQ.toP (mq_var (pv 2) rfl)) (me_var (pv 4) rfl) (me_var (pv 3) rfl) g10 ?_)
        rw [← edue_here_1]
        cases hx; exact le_auto
      · subst e; cases hx
    · replace hx := cond_f hx h
      refine ms_nil ?_
      cases hx; exact le_auto
  refine ms_le le ?_
  show MS _ [some (.vw (waiting.map e_T_i_i_i_d)), some (.fz (.int day)), some (.lst ((p3.map e_T_i_i_i_d).map .fz)), none, none] _ _
  refine ms_one (m_ret (ps_ret pe_w) (mr_var (pv 2) rfl) ?_)
  cases hx; rfl

/-! _law_same -/
noncomputable def M__law_same (found : (List (Int × Int × Int × D))) (due_here : (List (Int × Int × Int × D))) : Option Bool :=
  cond ((!true) || (!((found.length : Int) == (due_here.length : Int)))) (some false) <|
  bd (lpO (fun (x2 : (Int × Int × Int × D)) (p1 : Unit) => (cond ((!true) || (!((4 : Int) == 4))) (some (.rt false)) <|
    bd (M__law_whole (.int x2.1)) fun v4 =>
    bd (cond (!v4) (some true) (bd (M__law_whole (.int x2.2.1)) fun v5 => bd (cond (!v5) (some true) (bd (M__law_whole (.int x2.2.2.1)) fun v6 => some (!v6))) fun v7 => some v7)) fun v9 =>
    cond v9 (some (.rt false)) <|
    some (.nx ()) : Option (Ou (Unit) (Unit) Bool))) found ()) fun o3 => ouR o3 fun p1 =>
  gd (D.ok (.lst (found.map e_T_i_i_i_d)) ∧ D.ok (.lst (due_here.map e_T_i_i_i_d))) <|
  some ((D.eqv (.lst (found.map e_T_i_i_i_d)) (.lst (due_here.map e_T_i_i_i_d))))
def sp__law_same (K : PySem.W.Frag) : Sp := SpF K (fun x : (List (Int × Int × Int × D)) × (List (Int × Int × Int × D)) => [.vw (x.1.map e_T_i_i_i_d), .vw (x.2.map e_T_i_i_i_d)]) (fun x => M__law_same x.1 x.2) (fun r => .fz (.bl r))
abbrev N__law_same : List Str := ["_law_found", "_law_due_here", "_law_one"]
theorem sc__law_same : FnScope N__law_same ["_law_found", "_law_due_here"] (defScope s__law_same) := ⟨rfl, rfl, rfl, by decide +kernel, rfl, by decide +kernel, by decide +kernel⟩
theorem ok__law_same {f : Addr} {fd : FuncData} (F : Fun K "_law_same" "_law_same" s__law_same f fd) (z_isinstance : mg "isinstance" = none) (z_list : mg "list" = none) (z_len : mg "len" = none) (z_tuple : mg "tuple" = none) (c__law_whole : Fn1 P w K mg base "_law_whole" 1 ["_law_found"] (sp__law_whole K)) : FnOk P w K mg base CX0 2 f fd ["_law_found", "_law_due_here"] (sp__law_same K) := by
  refine fn_m F sc__law_same (fun x => rfl) (fun x _ => rfl) fun cdv A outer s H E hr x hx => ?_
  obtain ⟨⟨found, due_here⟩, r⟩ := x
  replace hx : M__law_same found due_here = some r := hx
  have nd := sc__law_same.nd
  unfold M__law_same at hx
  show MS _ [some (.vw (found.map e_T_i_i_i_d)), some (.vw (due_here.map e_T_i_i_i_d)), none] _ _
  refine ms_cons (m_if (t := ((!true) || (!((found.length : Int) == (due_here.length : Int))))) (MW.t (mw_or (mt_not (mt_val (me_isi (k := true) (by rfl) z_isinstance (pe_bltn (v := .ty "list") (by rfl) z_list (by decide +kernel) rfl) (mv_var (pv 0) rfl) rfl (by decide +kernel)))) fun _ => (mw_or1 (mt_neI (me_lenLT (xs := found) (enc := e_T_i_i_i_d) (by rfl) z_len (ml_var (pv 0) rfl)) (me_lenLT (xs := due_here) (enc := e_T_i_i_i_d) (by rfl) z_len (ml_var (pv 1) rfl)))))) (fun h => ?_) fun h => ms_nil ?_)
  · replace hx := cond_t hx h
    refine ms_one (m_ret (ps_ret pe_w) (ME.r me_bl) ?_)
    cases hx; rfl
  replace hx := cond_f hx h
  replace hx := bd_some hx
  obtain ⟨o3, ho3, hx⟩ := hx
  refine ms_cons (m_forO (xs := found) (enc := e_T_i_i_i_d) (ps_for PassesOwn.never rfl (pi_list pe_w) (pg_name (i := 2) nd rfl (Or.inl rfl)) pss_w) (by exact (mi_list (ds := found.map e_T_i_i_i_d) (mk_var (pv 0) rfl))) ho3 (fun p1 => [some (.vw (found.map e_T_i_i_i_d)), some (.vw (due_here.map e_T_i_i_i_d)), none]) (fun r => .fz (.bl r)) le_auto (fun x2 p1 p1o mx hx => ?_) (fun p1 τ e le => ?_) fun q e => ?_)
  ·
    refine ⟨_, _, mg_name, ?_⟩
    show MS _ [some (.vw (found.map e_T_i_i_i_d)), some (.vw (due_here.map e_T_i_i_i_d)), some (.fz (e_T_i_i_i_d x2))] _ _
    refine ms_cons (m_if (t := ((!true) || (!((4 : Int) == 4)))) (MW.t (mw_or (mt_not (mt_val (me_isi (k := true) (by rfl) z_isinstance (pe_bltn (v := .ty "tuple") (by rfl) z_tuple (by decide +kernel) rfl) (mv_var (pv 2) rfl) rfl (by decide +kernel)))) fun _ => (mw_or1 (mt_neI (ME.is (o' := .fz (.int 4)) (me_lenT (by rfl) z_len (MV.u (ME.v (me_var (pv 2) rfl)) (.fz _))) (by rfl)) me_int)))) (fun h => ?_) fun h => ms_nil ?_)
    · replace hx := cond_t hx h
      refine ms_one (m_ret (ps_ret pe_w) (ME.r me_bl) ?_)
      cases hx; exact ⟨_, rfl, rfl⟩
    replace hx := cond_f hx h
    replace hx := bd_some hx
    obtain ⟨v4, hv4, hx⟩ := hx
    replace hx := bd_some hx
    obtain ⟨v9, hv9, hx⟩ := hx
    refine ms_one (m_if (t := v9) (MW.t (MW.is (mw_or (mt_not (mt_val (me_fn c__law_whole ((.int x2.1), v4) (ma_fz (me_ixT (MV.u (ME.v (me_var (pv 2) rfl)) (.fz _)) me_int rfl) ma_nil) hv4 (hr.mono (by decide))))) fun q10 => (by have hx := cond_f hv9 q10; replace hx := bd_some hx; obtain ⟨v5, hv5, hx⟩ := hx; replace hx := bd_some hx; obtain ⟨v7, hv7, hx⟩ := hx; first | (cases hx; exact (MW.is (mw_or (mt_not (mt_val (me_fn c__law_whole ((.int x2.2.1), v5) (ma_fz (me_ixT (MV.u (ME.v (me_var (pv 2) rfl)) (.fz _)) me_int rfl) ma_nil) hv5 (hr.mono (by decide))))) fun q8 => (by have hx := cond_f hv7 q8; replace hx := bd_some hx; obtain ⟨v6, hv6, hx⟩ := hx; cases hx; exact (mw_or1 (mt_not (mt_val (me_fn c__law_whole ((.int x2.2.2.1), v6) (ma_fz (me_ixT (MV.u (ME.v (me_var (pv 2) rfl)) (.fz _)) me_int rfl) ma_nil) hv6 (hr.mono (by decide)))))))) (or_c hv7))) | (injection hx with hx; subst hx; exact (MW.is (mw_or (mt_not (mt_val (me_fn c__law_whole ((.int x2.2.1), v5) (ma_fz (me_ixT (MV.u (ME.v (me_var (pv 2) rfl)) (.fz _)) me_int rfl) ma_nil) hv5 (hr.mono (by decide))))) fun q8 => (by have hx := cond_f hv7 q8; replace hx := bd_some hx; obtain ⟨v6, hv6, hx⟩ := hx; cases hx; exact (mw_or1 (mt_not (mt_val (me_fn c__law_whole ((.int x2.2.2.1), v6) (ma_fz (me_ixT (MV.u (ME.v (me_var (pv 2) rfl)) (.fz _)) me_int rfl) ma_nil) hv6 (hr.mono (by decide)))))))) (or_c hv7))))) (or_c hv9))) (fun h => ?_) fun h => ms_nil ?_)
    · replace hx := cond_t hx h
      refine ms_one (m_ret (ps_ret pe_w) (ME.r me_bl) ?_)
      cases hx; exact ⟨_, rfl, rfl⟩
    replace hx := cond_f hx h
    cases hx; exact ⟨_, rfl, le_auto⟩
  · subst e
    dsimp only [ouR] at hx
    refine ms_le le ?_
    show MS _ [some (.vw (found.map e_T_i_i_i_d)), some (.vw (due_here.map e_T_i_i_i_d)), none] _ _
    replace hx := gd_some hx
    obtain ⟨g11, hx⟩ := hx
    refine ms_one (m_ret (ps_ret pe_w) (ME.r (me_eqDT (d1 := .lst (found.map e_T_i_i_i_d)) (d2 := .lst (due_here.map e_T_i_i_i_d)) hr.units g11 rfl rfl (mv_var (pv 0) rfl) (mv_var (pv 1) rfl))) ?_)
    cases hx; rfl
  · subst e; cases hx; rfl
/-! _law_put -/
noncomputable def M__law_put (days : R_Days) (one : (Int × Int × Int × D)) (known : Bool) : Option (R_Days × Bool) :=
  bd (M_Days_has_number days one.2.2.1) fun v1 =>
  cond ((!true) || (!(v1 == known))) (some (days, false)) <|
  bd (M_Days_put days one.1 one.2.1 one.2.2.1 one.2.2.2) fun v2 =>
  cond false (some (v2.1, false)) <|
  bd (M_Days_has_number v2.1 one.2.2.1) fun v3 =>
  some (v2.1, (decide (v3 = true)))
def sp__law_put (K : PySem.W.Frag) (C_Days : Addr) : Sp := SpJF K (fun x : R_Days × (Int × Int × Int × D) × Bool => []) (fun x : R_Days × (Int × Int × Int × D) × Bool => [.fz (e_T_i_i_i_d x.2.1), .fz (.bl x.2.2)]) (fun x => M__law_put x.1 x.2.1 x.2.2) (fun x => oo_Days C_Days x.1) (fun i => oo_Days C_Days i) (fun r => .fz (.bl r))
abbrev N__law_put : List Str := ["_law_days", "_law_one", "_law_known", "_law_found"]
theorem sc__law_put : FnScope N__law_put ["_law_days", "_law_one", "_law_known"] (defScope s__law_put) := ⟨rfl, rfl, rfl, by decide +kernel, rfl, by decide +kernel, by decide +kernel⟩
theorem ok__law_put {f : Addr} {fd : FuncData} (F : Fun K "_law_put" "_law_put" s__law_put f fd) (z_isinstance : mg "isinstance" = none) (z_bool : mg "bool" = none) (o_Days : OC K C_Days ["waiting", "known"]) (m_Days_has_number : Mt1 P w K mg base C_Days "has_number" 1 ["self", "number"] (sp_Days_has_number K C_Days)) (m_Days_put : Mt1 P w K mg base C_Days "put" 1 ["self", "day", "rank", "number", "row"] (sp_Days_put K C_Days)) : FnOk P w K mg base CX0 2 f fd ["_law_days", "_law_one", "_law_known"] (sp__law_put K C_Days) := by
  refine fn_mJ F sc__law_put (fun x => rfl) (fun x => rfl) (fun x _ => Nv.is _) (fun x _ => rfl) fun cdv A outer s H E hr l x hx => ?_
  obtain ⟨⟨days, one, known⟩, r⟩ := x
  replace hx : M__law_put days one known = some r := hx
  have nd := sc__law_put.nd
  unfold M__law_put at hx
  show MS _ [some (.loc l (oo_Days C_Days days)), some (.fz (e_T_i_i_i_d one)), some (.fz (.bl known)), none] _ _
  replace hx := bd_some hx
  obtain ⟨v1, hv1, hx⟩ := hx
  refine ms_cons (m_set (ps_set (i := 3) nd rfl (Or.inl rfl) pe_w) (me_mtL m_Days_has_number o_Days ((days, one.2.2.1), v1) (MV.unloc (mv_var (pv 0) rfl)) (ma_fz (me_ixT (MV.u (ME.v (me_var (pv 1) rfl)) (.fz _)) me_int rfl) ma_nil) rfl hv1 (hr.mono (by decide))) ?_)
  show MS _ [some (.loc l (oo_Days C_Days days)), some (.fz (e_T_i_i_i_d one)), some (.fz (.bl known)), some (.fz (.bl v1))] _ _
  refine ms_cons (m_if (t := ((!true) || (!(v1 == known)))) (MW.t (mw_or (mt_not (mt_val (me_isi (k := true) (by rfl) z_isinstance (pe_bltn (v := .ty "bool") (by rfl) z_bool (by decide +kernel) rfl) (mv_var (pv 3) rfl) rfl (by decide +kernel)))) fun _ => (mw_or1 (mt_neB (me_var (pv 3) rfl) (me_var (pv 2) rfl))))) (fun h => ?_) fun h => ms_nil ?_)
  · replace hx := cond_t hx h
    refine ms_one (m_retS (ps_ret pe_w) me_bl ?_)
    cases hx; exact ⟨rfl, rfl⟩
  replace hx := cond_f hx h
  replace hx := bd_some hx
  obtain ⟨v2, hv2, hx⟩ := hx
  refine ms_cons (m_ifT (k := false) (MTX.is (l := false) (mtx_notN (MX.xz (show MX _ _ _ _ [some (.loc l (oo_Days C_Days v2.1)), some (.fz (e_T_i_i_i_d one)), some (.fz (.bl known)), some (.fz (.bl v1))] from (by exact (mx_mtJ m_Days_put o_Days ((days, one.1, one.2.1, one.2.2.1, one.2.2.2), v2) (mq_loc (mq_var (pv 0) rfl)) rfl (mf_cons (me_ixT (MV.u (ME.v (me_var (pv 1) rfl)) (.fz _)) me_int rfl) (mf_cons (me_ixT (MV.u (ME.v (me_var (pv 1) rfl)) (.fz _)) me_int rfl) (mf_cons (me_ixT (MV.u (ME.v (me_var (pv 1) rfl)) (.fz _)) me_int rfl) (mf_cons (me_ixT (MV.u (ME.v (me_var (pv 1) rfl)) (.fz _)) me_int rfl) mf_nil)))) rfl rfl hv2 (hr.mono (by decide))))))) (by rfl)) (fun h => ?_) fun h => ms_nil ?_)
  · replace hx := cond_t hx h; show MS _ [some (.loc l (oo_Days C_Days v2.1)), some (.fz (e_T_i_i_i_d one)), some (.fz (.bl known)), some (.fz (.bl v1))] _ _
    refine ms_one (m_retS (ps_ret pe_w) me_bl ?_)
    cases hx; exact ⟨rfl, rfl⟩
  replace hx := cond_f hx h
  show MS _ [some (.loc l (oo_Days C_Days v2.1)), some (.fz (e_T_i_i_i_d one)), some (.fz (.bl known)), some (.fz (.bl v1))] _ _
  replace hx := bd_some hx
  obtain ⟨v3, hv3, hx⟩ := hx
  refine ms_one (m_retS (ps_ret pe_w) (me_isB (me_mtL m_Days_has_number o_Days ((v2.1, one.2.2.1), v3) (MV.unloc (mv_var (pv 0) rfl)) (ma_fz (me_ixT (MV.u (ME.v (me_var (pv 1) rfl)) (.fz _)) me_int rfl) ma_nil) rfl hv3 (hr.mono (by decide))) me_bl) ?_)
  cases hx; exact ⟨rfl, rfl⟩

/-! _law_triple -/
noncomputable def M__law_triple (cell_here : Int) (k_0 : Int) (day : Int) (triples : (List (Int × Int × Int))) : Option (Int × Int × Int) :=
  bd (M__law_mix cell_here (1 : Int)) fun v1 =>
  lt ((v1 * 64) + k_0) fun number =>
  bd (M__law_mix cell_here (2 : Int)) fun v2 =>
  lt (v2 % 3) fun rank =>
  bd (M__law_mix cell_here (4 : Int)) fun v3 =>
  bd (cond (((v3 % 4) == 1)) (bd (M__law_mix cell_here (2 : Int)) fun v5 =>
    lt (v5 % 2000) fun rank_1 =>
    some rank_1) (some rank) : Option (Int)) fun p4 =>
  gd (D.ok (.lst (triples.map e_T_i_i_i)) ∧ D.ok (.lst (([] : List (Int × Int × Int)).map e_T_i_i_i))) <|
  bd (cond (!(D.eqv (.lst (triples.map e_T_i_i_i)) (.lst (([] : List (Int × Int × Int)).map e_T_i_i_i)))) (bd (M__law_mix cell_here (5 : Int)) fun v7 => some (((v7 % 3) == 1))) (some false)) fun v8 =>
  bd (cond v8 (bd (M__law_mix cell_here (6 : Int)) fun v11 =>
    gd (0 < (triples.length : Int)) <|
    bd (L2.atI triples (v11 % (triples.length : Int))) fun v13 =>
    gd (D.ok (e_T_i_i_i (day, p4, v13.2.2)) ∧ D.ok (.lst (triples.map e_T_i_i_i))) <|
    cond (!(inDL e_T_i_i_i triples (e_T_i_i_i (day, p4, v13.2.2)))) (some v13.2.2) (some number)) (some number) : Option (Int)) fun p10 =>
  some (day, p4, p10)
def sp__law_triple (K : PySem.W.Frag) : Sp := SpF K (fun x : Int × Int × Int × (List (Int × Int × Int)) => [.fz (.int x.1), .fz (.int x.2.1), .fz (.int x.2.2.1), .vw (x.2.2.2.map e_T_i_i_i)]) (fun x => M__law_triple x.1 x.2.1 x.2.2.1 x.2.2.2) (fun r => .fz (e_T_i_i_i r))
abbrev N__law_triple : List Str := ["_law_cell_here", "_law_k", "_law_day", "_law_triples", "_law_number", "_law_rank", "_law_old"]
theorem sc__law_triple : FnScope N__law_triple ["_law_cell_here", "_law_k", "_law_day", "_law_triples"] (defScope s__law_triple) := ⟨rfl, rfl, rfl, by decide +kernel, rfl, by decide +kernel, by decide +kernel⟩
theorem ok__law_triple {f : Addr} {fd : FuncData} (F : Fun K "_law_triple" "_law_triple" s__law_triple f fd) (z_len : mg "len" = none) (c__law_mix : Fn1 P w K mg base "_law_mix" 1 ["_law_cell_here", "_law_k"] (sp__law_mix K)) : FnOk P w K mg base CX0 2 f fd ["_law_cell_here", "_law_k", "_law_day", "_law_triples"] (sp__law_triple K) := by
  refine fn_m F sc__law_triple (fun x => rfl) (fun x _ => rfl) fun cdv A outer s H E hr x hx => ?_
  obtain ⟨⟨cell_here, k_0, day, triples⟩, r⟩ := x
  replace hx : M__law_triple cell_here k_0 day triples = some r := hx
  have nd := sc__law_triple.nd
  unfold M__law_triple at hx
  show MS _ [some (.fz (.int cell_here)), some (.fz (.int k_0)), some (.fz (.int day)), some (.vw (triples.map e_T_i_i_i)), none, none, none] _ _
  replace hx := bd_some hx
  obtain ⟨v1, hv1, hx⟩ := hx
  replace hx := lt_some hx
  obtain ⟨number, enumber, hx⟩ := hx
  refine ms_cons (m_set (ps_set (i := 4) nd rfl (Or.inl rfl) pe_w) (ME.is (o' := (.fz (.int number))) (me_add (me_mul (me_fn c__law_mix ((cell_here, 1), v1) (ma_fz (me_var (pv 0) rfl) (ma_fz me_int ma_nil)) hv1 (hr.mono (by decide))) me_int (.inr ⟨by decide, by decide⟩)) (me_var (pv 1) rfl)) (by rw [enumber] <;> rfl)) ?_)
  show MS _ [some (.fz (.int cell_here)), some (.fz (.int k_0)), some (.fz (.int day)), some (.vw (triples.map e_T_i_i_i)), some (.fz (.int number)), none, none] _ _
  replace hx := bd_some hx
  obtain ⟨v2, hv2, hx⟩ := hx
  replace hx := lt_some hx
  obtain ⟨rank, erank, hx⟩ := hx
  refine ms_cons (m_set (ps_set (i := 5) nd rfl (Or.inl rfl) pe_w) (ME.is (o' := (.fz (.int rank))) (me_mod (me_fn c__law_mix ((cell_here, 2), v2) (ma_fz (me_var (pv 0) rfl) (ma_fz me_int ma_nil)) hv2 (hr.mono (by decide))) me_int (by decide)) (by rw [erank] <;> rfl)) ?_)
  show MS _ [some (.fz (.int cell_here)), some (.fz (.int k_0)), some (.fz (.int day)), some (.vw (triples.map e_T_i_i_i)), some (.fz (.int number)), some (.fz (.int rank)), none] _ _
  replace hx := bd_some hx
  obtain ⟨v3, hv3, hx⟩ := hx
  replace hx := bd_some hx
  obtain ⟨p4, hp4, hx⟩ := hx
  refine ms_cons (m_ifP (out := p4) (fun p4 => [some (.fz (.int cell_here)), some (.fz (.int k_0)), some (.fz (.int day)), some (.vw (triples.map e_T_i_i_i)), some (.fz (.int number)), some (.fz (.int p4)), none]) (t := (((v3 % 4) == 1))) (mt_eqI (me_mod (me_fn c__law_mix ((cell_here, 4), v3) (ma_fz (me_var (pv 0) rfl) (ma_fz me_int ma_nil)) hv3 (hr.mono (by decide))) me_int (by decide)) me_int) (fun h => ?_) (fun h => ?_) fun τ le => ?_)
  · replace hx := cond_t hp4 h
    replace hx := bd_some hx
    obtain ⟨v5, hv5, hx⟩ := hx
    replace hx := lt_some hx
    obtain ⟨rank_1, erank_1, hx⟩ := hx
    refine ms_one (m_set (ps_set (i := 5) nd rfl (Or.inl rfl) pe_w) (ME.is (o' := (.fz (.int rank_1))) (me_mod (me_fn c__law_mix ((cell_here, 2), v5) (ma_fz (me_var (pv 0) rfl) (ma_fz me_int ma_nil)) hv5 (hr.mono (by decide))) me_int (by decide)) (by rw [erank_1] <;> rfl)) ?_)
    cases hx; exact le_auto
  · replace hx := cond_f hp4 h
    refine ms_nil ?_
    cases hx; exact le_auto
  refine ms_le le ?_
  show MS _ [some (.fz (.int cell_here)), some (.fz (.int k_0)), some (.fz (.int day)), some (.vw (triples.map e_T_i_i_i)), some (.fz (.int number)), some (.fz (.int p4)), none] _ _
  replace hx := gd_some hx
  obtain ⟨g6, hx⟩ := hx
  replace hx := bd_some hx
  obtain ⟨v8, hv8, hx⟩ := hx
  replace hx := bd_some hx
  obtain ⟨p10, hp10, hx⟩ := hx
  refine ms_cons (m_ifP (out := p10) (fun p10 => [some (.fz (.int cell_here)), some (.fz (.int k_0)), some (.fz (.int day)), some (.vw (triples.map e_T_i_i_i)), some (.fz (.int p10)), some (.fz (.int p4)), none]) (t := v8) (MW.t (MW.is (mw_and (mt_neDT (d1 := .lst (triples.map e_T_i_i_i)) (d2 := .lst (([] : List (Int × Int × Int)).map e_T_i_i_i)) hr.units g6 rfl frz_own (mv_var (pv 3) rfl) (ME.v (me_lst (ds := [].map e_T_i_i_i) mf_nil))) fun q9 => (by have hx := cond_t hv8 q9; replace hx := bd_some hx; obtain ⟨v7, hv7, hx⟩ := hx; cases hx; exact (mw_and1 (mt_eqI (me_mod (me_fn c__law_mix ((cell_here, 5), v7) (ma_fz (me_var (pv 0) rfl) (ma_fz me_int ma_nil)) hv7 (hr.mono (by decide))) me_int (by decide)) me_int)))) (and_c hv8))) (fun h => ?_) (fun h => ?_) fun τ le => ?_)
  · replace hx := cond_t hp10 h
    replace hx := bd_some hx
    obtain ⟨v11, hv11, hx⟩ := hx
    replace hx := gd_some hx
    obtain ⟨g12, hx⟩ := hx
    replace hx := bd_some hx
    obtain ⟨v13, hv13, hx⟩ := hx
    refine ms_cons (m_set (ps_set (i := 6) nd rfl (Or.inl rfl) pe_w) (me_ixT (MV.u (ME.v (me_ixLT (xs := triples) (enc := e_T_i_i_i) hv13 (ml_var (pv 3) rfl) (me_mod (me_fn c__law_mix ((cell_here, 6), v11) (ma_fz (me_var (pv 0) rfl) (ma_fz me_int ma_nil)) hv11 (hr.mono (by decide))) (me_lenLT (xs := triples) (enc := e_T_i_i_i) (by rfl) z_len (ml_var (pv 3) rfl)) g12))) (.fz _)) me_int rfl) ?_)
    show MS _ [some (.fz (.int cell_here)), some (.fz (.int k_0)), some (.fz (.int day)), some (.vw (triples.map e_T_i_i_i)), some (.fz (.int number)), some (.fz (.int p4)), some (.fz (.int v13.2.2))] _ _
    replace hx := gd_some hx
    obtain ⟨g14, hx⟩ := hx
    refine ms_one (m_if (t := (!(inDL e_T_i_i_i triples (e_T_i_i_i (day, p4, v13.2.2))))) (mt_niDL (xs := triples) (enc := e_T_i_i_i) (d := e_T_i_i_i (day, p4, v13.2.2)) (r_u65 hr) g14 rfl (ME.v (me_tup (mf_cons (me_var (pv 2) rfl) (mf_cons (me_var (pv 5) rfl) (mf_cons (me_var (pv 6) rfl) mf_nil))))) (mv_var (pv 3) rfl)) (fun h => ?_) fun h => ?_)
    · replace hx := cond_t hx h
      refine ms_one (m_set (ps_set (i := 4) nd rfl (Or.inl rfl) pe_w) (me_var (pv 6) rfl) ?_)
      cases hx; exact le_auto
    · replace hx := cond_f hx h
      refine ms_nil ?_
      cases hx; exact le_auto
  · replace hx := cond_f hp10 h
    refine ms_nil ?_
    cases hx; exact le_auto
  refine ms_le le ?_
  show MS _ [some (.fz (.int cell_here)), some (.fz (.int k_0)), some (.fz (.int day)), some (.vw (triples.map e_T_i_i_i)), some (.fz (.int p10)), some (.fz (.int p4)), none] _ _
  refine ms_one (m_ret (ps_ret pe_w) (ME.r (me_tup (mf_cons (me_var (pv 2) rfl) (mf_cons (me_var (pv 5) rfl) (mf_cons (me_var (pv 4) rfl) mf_nil))))) ?_)
  cases hx; rfl

/-! law -/
abbrev e_T_L_T_i_i_i_d_L_T_i_i_i_d (p : ((List (Int × Int × Int × D)) × (List (Int × Int × Int × D)))) : D := .tup [.lst (p.1.map e_T_i_i_i_d), .lst (p.2.map e_T_i_i_i_d)]
abbrev e_T_i_s (p : (Int × Str)) : D := .tup [.int p.1, .str p.2]
noncomputable def M_law (script : (List Int)) : Option Bool :=
  bd (M__law_cell script (0 : Int)) fun v1 =>
  bd (L2.atI [3, 30, 1000000] (v1 % 3)) fun v2 =>
  bd M_Days___init__ fun v3 =>
  bd M_Days___init__ fun v4 =>
  lt ([] : List (Int × Int × Int × D)) fun waiting =>
  lt ([] : List Int) fun numbers =>
  lt ([] : List (Int × Int × Int)) fun triples =>
  lt ([] : List ((List (Int × Int × Int × D)) × (List (Int × Int × Int × D)))) fun held =>
  bd (lpO (fun (x6 : (Int × Nat)) (p5 : (List ((List (Int × Int × Int × D)) × (List (Int × Int × Int × D)))) × (List (Int × Int × Int × D)) × R_Days × (List Int) × (List (Int × Int × Int))) => (gd (0 < (v2 + 1)) <|
    lt ((x6.1 / 4) % (v2 + 1)) fun day =>
    bd (M__law_mix x6.1 (0 : Int)) fun v9 =>
    cond (((v9 % 4) == 0)) (bd (M__law_due p5.2.1 day) fun v10 =>
      bd (M_Days_up_to p5.2.2.1 day) fun v11 =>
      bd (M__law_same v11.2 v10) fun v12 =>
      cond (!v12) (some (.rt false)) <|
      bd (cond ((((x6.2 : Int) % 2) == 1)) (lt ([] : List (Int × Int × Int × D)) fun due_here =>
        some (([] : List (Int × Int × Int × D)), due_here)) (some (v11.2, v10)) : Option ((List (Int × Int × Int × D)) × (List (Int × Int × Int × D)))) fun p13 =>
      gd (p5.1.length < sizeLine) <|
      lt (p5.1 ++ [(p13.1, p13.2)]) fun held_1 =>
      gd (p5.2.1.length < sizeLine) <|
      bd (fmO (fun x16 : (Int × Int × Int × D) => some (decide (day < x16.1))) (fun x16 : (Int × Int × Int × D) => some x16) p5.2.1) fun v17 =>
      some (.nx (held_1, v17, v11.1, p5.2.2.2.1, p5.2.2.2.2))) (bd (M__law_triple x6.1 (x6.2 : Int) day p5.2.2.2.2) fun v19 =>
      bd (M__law_mix x6.1 (3 : Int)) fun v20 =>
      bd (L2.atI [(.int (x6.2 : Int)), (.str ("row" : Str)), (e_T_i_s ((x6.2 : Int), ("a" : Str))), (.non)] (v20 % 4)) fun v21 =>
      lt (v19.1, v19.2.1, v19.2.2, v21) fun one =>
      bd (M__law_put p5.2.2.1 one ((p5.2.2.2.1.contains v19.2.2))) fun v22 =>
      cond (!v22.2) (some (.rt false)) <|
      gd (p5.2.1.length < sizeLine) <|
      lt (p5.2.1 ++ [one]) fun waiting_1 =>
      gd (p5.2.2.2.1.length < sizeLine) <|
      lt (p5.2.2.2.1 ++ [v19.2.2]) fun numbers_1 =>
      gd (p5.2.2.2.2.length < sizeLine) <|
      lt (p5.2.2.2.2 ++ [v19]) fun triples_1 =>
      some (.nx (p5.1, waiting_1, v22.1, numbers_1, triples_1))) : Option (Ou ((List ((List (Int × Int × Int × D)) × (List (Int × Int × Int × D)))) × (List (Int × Int × Int × D)) × R_Days × (List Int) × (List (Int × Int × Int))) ((List ((List (Int × Int × Int × D)) × (List (Int × Int × Int × D)))) × (List (Int × Int × Int × D)) × R_Days × (List Int) × (List (Int × Int × Int))) Bool))) ((cutG script (some (1 : Int)) (some (60 : Int))).zipIdx) (held, waiting, v3, numbers, triples)) fun o7 => ouR o7 fun p5 =>
  bd (M_Days_has_number v4 (64 : Int)) fun v26 =>
  cond (!decide (v26 = false)) (some false) <|
  bd (M__law_put v4 (5, 1, 64, (.str ("x" : Str))) false) fun v27 =>
  cond (!v27.2) (some false) <|
  bd (M_Days_up_to p5.2.2.1 (1000000 : Int)) fun v28 =>
  bd (M__law_due p5.2.1 (1000000 : Int)) fun v29 =>
  bd (M__law_same v28.2 v29) fun v30 =>
  cond (!v30) (some false) <|
  bd (M_Days_up_to v28.1 (1000000 : Int)) fun v31 =>
  gd (D.ok (.lst (v31.2.map e_T_i_i_i_d)) ∧ D.ok (.lst (([] : List (Int × Int × Int × D)).map e_T_i_i_i_d))) <|
  cond (!(D.eqv (.lst (v31.2.map e_T_i_i_i_d)) (.lst (([] : List (Int × Int × Int × D)).map e_T_i_i_i_d)))) (some false) <|
  bd (lpO (fun (x34 : Int) (p33 : Unit) => (bd (M_Days_has_number v31.1 x34) fun v36 =>
    bd (cond (!decide (v36 = true)) (some true) (bd (M_Days_has_number v27.1 x34) fun v37 => some (!(v37 == ((x34 == 64)))))) fun v38 =>
    cond v38 (some (.rt false)) <|
    some (.nx ()) : Option (Ou (Unit) (Unit) Bool))) p5.2.2.2.1 ()) fun o35 => ouR o35 fun p33 =>
  bd (lpO (fun (x41 : ((List (Int × Int × Int × D)) × (List (Int × Int × Int × D)))) (p40 : Unit) => (gd (D.ok (.lst (((x41).1).map e_T_i_i_i_d)) ∧ D.ok (.lst (((x41).2).map e_T_i_i_i_d))) <|
    cond (!(D.eqv (.lst (((x41).1).map e_T_i_i_i_d)) (.lst (((x41).2).map e_T_i_i_i_d)))) (some (.rt false)) <|
    some (.nx ()) : Option (Ou (Unit) (Unit) Bool))) p5.1 ()) fun o42 => ouR o42 fun p40 =>
  bd (M_Days_up_to v27.1 (4 : Int)) fun v44 =>
  gd (D.ok (.lst (v44.2.map e_T_i_i_i_d)) ∧ D.ok (.lst (([] : List (Int × Int × Int × D)).map e_T_i_i_i_d))) <|
  cond ((D.eqv (.lst (v44.2.map e_T_i_i_i_d)) (.lst (([] : List (Int × Int × Int × D)).map e_T_i_i_i_d)))) (bd (M_Days_up_to v44.1 (5 : Int)) fun v46 =>
    gd (D.ok (.lst (v46.2.map e_T_i_i_i_d)) ∧ D.ok (.lst ([(5, 1, 64, (.str ("x" : Str)))].map e_T_i_i_i_d))) <|
    some ((D.eqv (.lst (v46.2.map e_T_i_i_i_d)) (.lst ([(5, 1, 64, (.str ("x" : Str)))].map e_T_i_i_i_d))))) (some false)
/-! small texts -/
open SX TL
def Sm (x : Str) (n : Nat) : Prop := x.length ≤ n ∧ x.cps.toList.all (· < 128) = true
theorem Sm.mono {x : Str} {n m : Nat} (h : Sm x n) (l : n ≤ m) : Sm x m := ⟨Nat.le_trans h.1 l, h.2⟩
theorem tl_cat (x y : Str) : (x ++ y).cps.toList = x.cps.toList ++ y.cps.toList := TL.tl_append x y
theorem len_cat (x y : Str) : (x ++ y).length = x.length + y.length := by
  rw [TL.len_tl, TL.len_tl x, TL.len_tl y]
  show (x ++ y).cps.toList.length = _
  rw [tl_cat, List.length_append]
theorem sm_cat {x y : Str} {n m : Nat} (h : Sm x n) (k : Sm y m) : Sm (x ++ y) (n + m) := by
  refine ⟨?_, ?_⟩
  · rw [len_cat]
    have := h.1
    have := k.1
    omega
  · rw [tl_cat, List.all_append, h.2, k.2]
    rfl
theorem sm_S {a : List Nat} {n : Nat} (l : a.length ≤ n) (h : a.all (· < 128) = true) : Sm (S a) n := ⟨by rw [S_len]; exact l, h⟩
theorem sm_sg {c : Nat} (h : c < 128) : Sm (sg1 c) 1 := ⟨Nat.le_refl 1, by simp [h]⟩
theorem sm_cut {x : Str} {n : Nat} (h : Sm x n) (lo hi : Option Int) : Sm (cutS x lo hi) n := by
  have e : (cutS x lo hi).cps.toList = (x.cps.toList.drop (HT.sIx x.length 0 lo)).take (HT.sIx x.length x.length hi - HT.sIx x.length 0 lo) := rfl
  refine ⟨?_, ?_⟩
  · rw [TL.len_tl]
    show (cutS x lo hi).cps.toList.length ≤ n
    rw [e, List.length_take, List.length_drop]
    have := h.1
    rw [TL.len_tl] at this
    have : x.cps.toList.length ≤ n := this
    omega
  · rw [e]
    exact List.all_eq_true.mpr fun c m => List.all_eq_true.mp h.2 c (List.mem_of_mem_drop (List.mem_of_mem_take m))
theorem sm_rev {x : Str} {n : Nat} (h : Sm x n) : Sm (revS x) n := by
  have e : (revS x).cps.toList = x.cps.toList.reverse := rfl
  refine ⟨?_, by rw [e, List.all_reverse]; exact h.2⟩
  rw [TL.len_tl]
  show (revS x).cps.toList.length ≤ n
  rw [e, List.length_reverse]
  have := h.1
  rw [TL.len_tl] at this
  exact this
theorem sum_rep (a : Nat) : ∀ n : Nat, (List.replicate n a).sum = n * a
  | 0 => by simp
  | n + 1 => by rw [List.replicate_succ, List.sum_cons, sum_rep a n, Nat.add_mul]; omega
theorem sm_rep {x : Str} {n : Nat} {k : Int} {m : Nat} (h : Sm x n) (hk : k ≤ m) : Sm (repS x k) (m * n) := by
  have e : (repS x k).cps.toList = (List.replicate k.toNat x.cps.toList).flatten := rfl
  have l := h.1
  rw [TL.len_tl] at l
  have l : x.cps.toList.length ≤ n := l
  refine ⟨?_, ?_⟩
  · rw [TL.len_tl]
    show (repS x k).cps.toList.length ≤ _
    rw [e, List.length_flatten, List.map_replicate, sum_rep]
    exact Nat.mul_le_mul (by omega) l
  · rw [e, List.all_flatten]
    exact List.all_eq_true.mpr fun y m => by
      have := (List.mem_replicate.mp m).2
      rw [this]
      exact h.2
theorem Sm.lay {x : Str} {n : Nat} (h : Sm x n) : (PyData.str x).canLay0 = true := by
  show x.cps.all (· < 0x110000) = true
  rw [← Array.all_toList]
  exact List.all_eq_true.mpr fun c m => by
    have := List.all_eq_true.mp h.2 c m
    simp at this ⊢
    omega
theorem Sm.smp {x : Str} {n k : Nat} (h : Sm x n) : Smp k (.str x) := .str h.lay
theorem join_is (p : Str) (ys : List Str) : Txt.join p ys = S (TL.joinL p.cps.toList (ys.map fun y => y.cps.toList)) := by
  have q := join_S p.cps.toList (ys.map fun y => y.cps.toList)
  rw [List.map_map] at q
  have e : (S ∘ fun y : Str => y.cps.toList) = id := funext fun y => S_tl y
  rw [e, List.map_id, S_tl] at q
  exact q
theorem joinL_len (p : List Nat) (n : Nat) : ∀ {ys : List (List Nat)}, (∀ y ∈ ys, y.length ≤ n) → (TL.joinL p ys).length ≤ ys.length * (n + p.length)
  | [], _ => Nat.zero_le _
  | [x], h => by
    have := h x List.mem_cons_self
    show x.length ≤ 1 * _
    omega
  | x :: y :: r, h => by
    have q := joinL_len p n (ys := y :: r) fun z m => h z (List.mem_cons_of_mem _ m)
    have hx := h x List.mem_cons_self
    show (x ++ (p ++ TL.joinL p (y :: r))).length ≤ _
    rw [List.length_append, List.length_append, List.length_cons (a := x), Nat.add_mul]
    omega
theorem joinL_all (p : List Nat) (f : Nat → Bool) (hp : p.all f = true) : ∀ {ys : List (List Nat)}, (∀ y ∈ ys, y.all f = true) → (TL.joinL p ys).all f = true
  | [], _ => rfl
  | [x], h => h x List.mem_cons_self
  | x :: y :: r, h => by
    have q := joinL_all p f hp (ys := y :: r) fun z m => h z (List.mem_cons_of_mem _ m)
    show (x ++ (p ++ TL.joinL p (y :: r))).all f = true
    rw [List.all_append, List.all_append, q, hp, h x List.mem_cons_self]
    rfl
theorem sm_join {p : Str} {n m : Nat} (hp : Sm p m) {ys : List Str} (h : ∀ y ∈ ys, Sm y n) : Sm (Txt.join p ys) (ys.length * (n + m)) := by
  rw [join_is]
  have lp := hp.1
  rw [TL.len_tl] at lp
  have lp : p.cps.toList.length ≤ m := lp
  refine sm_S ?_ (joinL_all _ _ hp.2 fun y my => ?_)
  · refine Nat.le_trans (joinL_len _ n fun y my => ?_) ?_
    · obtain ⟨z, hz, rfl⟩ := List.mem_map.mp my
      have := (h z hz).1
      rw [TL.len_tl] at this
      exact this
    · rw [List.length_map]
      exact Nat.mul_le_mul_left _ (by omega)
  · obtain ⟨z, hz, rfl⟩ := List.mem_map.mp my
    exact (h z hz).2
theorem join_len {ys : List Str} {n : Nat} (h : ∀ y ∈ ys, Sm y n) : (ys.map (·.length)).sum ≤ ys.length * n := by
  induction ys with
  | nil => exact Nat.zero_le _
  | cons y r ih =>
    rw [List.map_cons, List.sum_cons, List.length_cons, Nat.add_mul]
    have := (h y List.mem_cons_self).1
    have := ih fun z m => h z (List.mem_cons_of_mem _ m)
    omega
/-! small letters -/
abbrev ABC : Str := "abcdefghijklmnopqrstuvwxyz"
theorem abc_len : ABC.length = 26 ∧ ABC.cps.toList.length = 26 := by decide +kernel
theorem abc_all : ABC.cps.toList.all (fun c => 97 ≤ c && c ≤ 122) = true := by decide +kernel
def Lc (x : Str) (n : Nat) : Prop := x.length ≤ n ∧ x.cps.toList.all (fun c => 97 ≤ c && c ≤ 122) = true
theorem Lc.sm {x : Str} {n : Nat} (h : Lc x n) : Sm x n := ⟨h.1, List.all_eq_true.mpr fun c m => by
  have := List.all_eq_true.mp h.2 c m
  simp at this ⊢
  omega⟩
theorem Lc.mono {x : Str} {n m : Nat} (h : Lc x n) (l : n ≤ m) : Lc x m := ⟨Nat.le_trans h.1 l, h.2⟩
theorem lc_cat {x y : Str} {n m : Nat} (h : Lc x n) (k : Lc y m) : Lc (x ++ y) (n + m) := by
  refine ⟨?_, ?_⟩
  · rw [len_cat]
    have := h.1
    have := k.1
    omega
  · rw [tl_cat, List.all_append, h.2, k.2]
    rfl
theorem lc_abc {c : Nat} (h : c ∈ ABC.cps.toList) : Lc (sg1 c) 1 := ⟨Nat.le_refl 1, by
  have := List.all_eq_true.mp abc_all c h
  show [c].all _ = true
  rw [List.all_cons, this]
  rfl⟩
/-! numbers as texts -/
theorem strI_n (n : Nat) : strI (n : Int) = S (numL n) := num_S n
theorem lg_of {m : Int} (h : m.natAbs < 2 ^ 250) : m.natAbs.log2 < 1920 := Nat.lt_of_lt_of_le (PySem.Flt.log2_lt_of (k := 250) (by decide) h) (by decide)
theorem zfill2 : ∀ r, r < 100 → Txt.zfill (S (numL r)) 2 = S [48 + r / 10, 48 + r % 10] := by decide +kernel
theorem numL1 {n : Nat} (h : n < 10) : numL n = [48 + n] := numL_lt h
theorem dot_S : ((".") : Str) = S [46] := by decide +kernel
theorem numL_short {n k : Nat} (hk : 0 < k) (h : n < 10 ^ k) : (S (numL n)).length ≤ k := by rw [S_len]; exact numL_len hk h
def amtL (n : Nat) : List Nat := numL (n / 100) ++ ([46] ++ [48 + n / 10 % 10, 48 + n % 10])
def amtS (n : Nat) : Str := S (amtL n)
/-! equality of data -/
theorem eqv_i (a b : Int) : D.eqv (.int a) (.int b) = (a == b) := by
  first | rfl | (show PyData.eqv (.int a) (.int b) = _; simp [PyData.eqv]) 
theorem eqv_b (a b : Bool) : D.eqv (.bl a) (.bl b) = (a == b) := by
  cases a <;> cases b <;> rfl
theorem eqv_s (a b : Str) : D.eqv (.str a) (.str b) = (a == b) := by
  first | rfl | (show PyData.eqv (.str a) (.str b) = _; simp [PyData.eqv]) 
theorem eqv_ni (b : Int) : D.eqv .non (.int b) = false := rfl
theorem eqv_l (ds es : List D) : D.eqv (.lst ds) (.lst es) = PyData.eqvAll (D.pyL ds) (D.pyL es) := rfl
theorem eqv_nil (ds : List D) : D.eqv (.lst ds) (.lst []) = ds.isEmpty := by
  cases ds <;> rfl
theorem eqv_map {α : Type} [BEq α] [LawfulBEq α] {enc : α → D} (h : ∀ a b, D.eqv (enc a) (enc b) = (a == b)) : ∀ xs ys : List α, D.eqv (.lst (xs.map enc)) (.lst (ys.map enc)) = (xs == ys)
  | [], [] => rfl
  | [], _ :: _ => rfl
  | _ :: _, [] => rfl
  | x :: xs, y :: ys => by
    have i := eqv_map h xs ys
    rw [eqv_l] at i ⊢
    show (PyData.eqv (enc x).py (enc y).py && PyData.eqvAll (D.pyL (xs.map enc)) (D.pyL (ys.map enc))) = _
    rw [i]
    have := h x y
    unfold D.eqv at this
    rw [this]
    rfl
theorem ixNn {n j : Nat} (hj : j < n) : ixN n (j : Int) = some j := by
  unfold ixN
  rw [if_pos (by omega), if_pos (by omega)]
  rfl

/-! cells -/
theorem cell_ok {ns : List Int} {k : Int} (h : 0 ≤ k) : Ok (M__law_cell ns k) fun _ => True := by
  unfold M__law_cell
  exact ok_cond (fun h1 => ok_bd (ok_atI h (of_decide_eq_true h1) fun y _ => trivial) fun y _ => ok_some trivial) fun _ => ok_some trivial

theorem fmO_filt {α : Type} (p : α → Bool) (xs : List α) : fmO (fun x => some (p x)) (fun x => some x) xs = some (xs.filter p) := by
  have := fmO_of (t := fun x => some (p x)) (f := fun x => some x) (p := p) (g := id) (xs := xs) (fun _ _ => rfl) (fun _ _ _ => rfl)
  rw [this, List.map_id]
/-! rows that wait -/
abbrev Row := Int × Int × Int × D
def ky (r : Row) : List Int := [r.1, r.2.1, r.2.2.1]
def klt (a b : Row) : Prop := ltL (ky a) (ky b) = true
theorem ltL3 (a b c d e f : Int) : ltL [a, b, c] [d, e, f] = true ↔ (a < d ∨ (a = d ∧ (b < e ∨ (b = e ∧ c < f)))) := by
  simp only [ltL]
  by_cases h1 : a = d
  · rw [if_pos h1]
    by_cases h2 : b = e
    · rw [if_pos h2]
      by_cases h3 : c = f
      · rw [if_pos h3]
        simp; omega
      · rw [if_neg h3]
        simp; omega
    · rw [if_neg h2]
      simp; omega
  · rw [if_neg h1]
    simp; omega
theorem klt_iff (a b : Row) : klt a b ↔ (a.1 < b.1 ∨ (a.1 = b.1 ∧ (a.2.1 < b.2.1 ∨ (a.2.1 = b.2.1 ∧ a.2.2.1 < b.2.2.1)))) := ltL3 _ _ _ _ _ _
theorem ky_iff (a b : Row) : ky a = ky b ↔ (a.1 = b.1 ∧ a.2.1 = b.2.1 ∧ a.2.2.1 = b.2.2.1) := by
  unfold ky
  constructor
  · intro h
    injection h with h1 h
    injection h with h2 h
    injection h with h3 h
    exact ⟨h1, h2, h3⟩
  · rintro ⟨h1, h2, h3⟩
    rw [h1, h2, h3]
theorem klt_irr (a : Row) : ¬ klt a a := by rw [klt_iff]; omega
theorem klt_tr {a b c : Row} : klt a b → klt b c → klt a c := by rw [klt_iff, klt_iff, klt_iff]; omega
theorem klt_tot {a b : Row} (h : ky a ≠ ky b) (n : ¬ klt a b) : klt b a := by
  rw [Ne, ky_iff] at h
  rw [klt_iff] at n ⊢
  omega
theorem pw_uniq {α : Type} {R : α → α → Prop} (irr : ∀ a, ¬ R a a) (tr : ∀ {a b c}, R a b → R b c → R a c) : ∀ {xs ys : List α}, xs.Pairwise R → ys.Pairwise R → (∀ x, x ∈ xs ↔ x ∈ ys) → xs = ys
  | [], [], _, _, _ => rfl
  | [], y :: ys, _, _, h => absurd ((h y).mpr List.mem_cons_self) (by simp)
  | x :: xs, [], _, _, h => absurd ((h x).mp List.mem_cons_self) (by simp)
  | x :: xs, y :: ys, p, q, h => by
    obtain ⟨p1, p2⟩ := List.pairwise_cons.mp p
    obtain ⟨q1, q2⟩ := List.pairwise_cons.mp q
    have e : x = y := by
      rcases List.mem_cons.mp ((h x).mp List.mem_cons_self) with z | z
      · exact z
      · rcases List.mem_cons.mp ((h y).mpr List.mem_cons_self) with w | w
        · exact w.symm
        · exact absurd (tr (q1 x z) (p1 y w)) (irr y)
    subst e
    rw [pw_uniq irr tr p2 q2 fun z => ?_]
    constructor
    · intro m
      rcases List.mem_cons.mp ((h z).mp (List.mem_cons_of_mem _ m)) with w | w
      · subst w; exact absurd (p1 z m) (irr z)
      · exact w
    · intro m
      rcases List.mem_cons.mp ((h z).mpr (List.mem_cons_of_mem _ m)) with w | w
      · subst w; exact absurd (q1 z m) (irr z)
      · exact w
theorem srtK_mem {xs : List Row} {x : Row} : x ∈ srtK ky xs ↔ x ∈ xs := List.mem_mergeSort
theorem dl_klt {a b : Row} (h : PySem.W.dataLe false (fun r : Row => PyData.tuple ((ky r).map PyData.int)) a b = true) : ¬ klt b a := by
  have q : (!PyProof.Rows.lexLt PyProof.Rows.itemOrd [.inl 1, .inl b.1, .inl 1, .inl b.2.1, .inl 1, .inl b.2.2.1, .inl 0] [.inl 1, .inl a.1, .inl 1, .inl a.2.1, .inl 1, .inl a.2.2.1, .inl 0]) = true := h
  rw [PyProof.Rows.lex_self (O := PyProof.Rows.itemOrd)] at q
  intro z
  rw [klt_iff] at z
  have fin : ∀ {x y : Int} {xs ys : List (Int ⊕ List Nat)}, x < y → (!PyProof.Rows.lexLt PyProof.Rows.itemOrd (.inl x :: xs) (.inl y :: ys)) = true → False := fun {x y xs ys} l q => by
    rw [PyProof.Rows.lex_diff (O := PyProof.Rows.itemOrd) (fun e => by have e := Sum.inl.inj e; omega)] at q
    have q : (!decide (x < y)) = true := q
    rw [decide_eq_true l] at q
    cases q
  by_cases e1 : b.1 = a.1
  · rw [e1, PyProof.Rows.lex_self (O := PyProof.Rows.itemOrd), PyProof.Rows.lex_self (O := PyProof.Rows.itemOrd)] at q
    by_cases e2 : b.2.1 = a.2.1
    · rw [e2, PyProof.Rows.lex_self (O := PyProof.Rows.itemOrd), PyProof.Rows.lex_self (O := PyProof.Rows.itemOrd)] at q
      exact fin (by omega) q
    · exact fin (by omega) q
  · exact fin (by omega) q
theorem srtK_pw {xs : List Row} (nd : (xs.map ky).Nodup) : (srtK ky xs).Pairwise klt := by
  have T := PySem.W.sortLe_total (PyProof.Rows.listOrd PyProof.Rows.itemOrd) false fun r : Row => PySem.W.keyToks (PyData.tuple ((ky r).map PyData.int))
  have p := (List.pairwise_mergeSort (le := PySem.W.dataLe false fun r : Row => PyData.tuple ((ky r).map PyData.int)) T.trans (fun a b => by
    have := T.total a b
    exact (Bool.or_eq_true _ _).mpr this) xs).imp fun {a b} hab => dl_klt hab
  have pm : ((srtK ky xs).map ky).Nodup := ((List.mergeSort_perm xs _).map ky).nodup_iff.mpr nd
  have p2 : (srtK ky xs).Pairwise fun a b => ky a ≠ ky b := List.pairwise_map.mp pm
  exact (p.and p2).imp fun ⟨h1, h2⟩ => klt_tot (fun e => h2 e.symm) h1
/-! taken out -/
theorem up_ok (dy : R_Days) (day : Int) (hl : dy.waiting.length < 1000) : M_Days_up_to dy day = some (({ dy with waiting := dy.waiting.filter fun x => decide (day < x.1) } : R_Days), srtK ky (dy.waiting.filter fun x => decide (x.1 ≤ day))) := by
  unfold M_Days_up_to
  refine Ok.eq (ok_lt (ok_lt (ok_bd (Q := fun p => p = ((dy.waiting.filter fun x => decide (x.1 ≤ day)), dy.waiting.filter fun x => decide (day < x.1))) (ok_lp (fun i p => p = (((dy.waiting.take i).filter fun x => decide (x.1 ≤ day)), (dy.waiting.take i).filter fun x => decide (day < x.1))) rfl (fun i x p hx hp => ?_) fun p hp => ?_) fun p hp => ?_)))
  · subst hp
    obtain ⟨hi, ex⟩ := List.getElem?_eq_some_iff.mp hx
    have st : dy.waiting.take (i + 1) = dy.waiting.take i ++ [x] := by rw [List.take_succ, hx]; rfl
    have l1 := List.length_filter_le (fun x : Row => decide (x.1 ≤ day)) (dy.waiting.take i)
    have l2 := List.length_filter_le (fun x : Row => decide (day < x.1)) (dy.waiting.take i)
    have l3 : (dy.waiting.take i).length ≤ i := by rw [List.length_take]; omega
    rw [st, List.filter_append, List.filter_append]
    refine ok_cond (fun h => ok_gd (Nat.lt_of_le_of_lt l1 (show _ < 16777216 by omega)) (ok_lt (ok_some ?_))) fun h => ok_gd (Nat.lt_of_le_of_lt l2 (show _ < 16777216 by omega)) (ok_lt (ok_some ?_))
    · have h' := of_decide_eq_true h
      simp [h', show ¬ day < x.1 by omega]
    · have h' := of_decide_eq_false h
      simp [h', show day < x.1 by omega]
  · rw [List.take_length] at hp
    exact hp
  · subst hp
    exact ok_some rfl
theorem ahead_is (a b : Row) : M__law_ahead a b = some (ltL (ky a) (ky b)) := rfl
theorem seek_ok {p : List Row} {x : Row} {day : Int} (hl : p.length < 1000) : Ok (wl (fun (p4 : Int) => (bd (cond (decide (p4 < (p.length : Int))) (bd (L2.atI p p4) fun v6 => bd (M__law_ahead v6 x) fun v7 => some v7) (some false)) fun v8 => some v8 : Option Bool)) (fun (p4 : Int) => (lt (p4 + 1) fun at_0 =>
        some (.nx at_0) : Option (Ou (Int) (Int) (List (Int × Int × Int × D))))) (0 : Int)) fun o => ∃ n : Nat, o = .nx (n : Int) ∧ n ≤ p.length ∧ (∀ y ∈ p.take n, klt y x) ∧ ∀ y, p[n]? = some y → ¬ klt y x := by
  refine ok_wl (fun m (v : Int) => ∃ n : Nat, v = n ∧ n ≤ p.length ∧ m = p.length - n ∧ ∀ y ∈ p.take n, klt y x) ⟨0, rfl, Nat.zero_le _, rfl, fun y m => by simp at m⟩ fun m v ⟨n, ev, hn, em, hy⟩ => ?_
  subst ev em
  by_cases hlt : n < p.length
  · have ea : L2.atI p (n : Int) = some p[n] := atI_nat (List.getElem?_eq_getElem hlt)
    rw [decide_eq_true (show (n : Int) < (p.length : Int) by omega)]
    simp only [cond_true]
    rw [bd_of ea, ahead_is]
    show Ok (some (ltL (ky p[n]) (ky x))) _
    refine ok_some ?_
    by_cases hk : ltL (ky p[n]) (ky x) = true
    · rw [if_pos hk]
      refine ok_lt (ok_some ⟨p.length - (n + 1), by omega, n + 1, rfl, hlt, rfl, fun y m => ?_⟩)
      rw [List.take_succ, List.getElem?_eq_getElem hlt] at m
      rcases List.mem_append.mp m with m | m
      · exact hy y m
      · have : y = p[n] := by simpa using m
        subst this
        exact hk
    · rw [if_neg hk]
      refine ⟨n, rfl, hn, hy, fun y e => ?_⟩
      rw [List.getElem?_eq_getElem hlt] at e
      cases e
      exact hk
  · rw [decide_eq_false (show ¬ (n : Int) < (p.length : Int) by omega)]
    simp only [cond_false]
    show Ok (some false) _
    refine ok_some ?_
    rw [if_neg (by decide)]
    refine ⟨n, rfl, hn, hy, fun y e => ?_⟩
    rw [List.getElem?_eq_none (by omega)] at e
    cases e
theorem due_ok {w : List Row} {day : Int} (hl : w.length < 1000) (nd : (w.map ky).Nodup) : Ok (M__law_due w day) fun ds => ds.Pairwise klt ∧ ∀ x, x ∈ ds ↔ x ∈ w ∧ x.1 ≤ day := by
  unfold M__law_due
  refine ok_lt (ok_bd (ok_lp (fun i (p : List Row) => p.length ≤ i ∧ p.Pairwise klt ∧ ∀ x, x ∈ p ↔ x ∈ w.take i ∧ x.1 ≤ day) ⟨Nat.le_refl 0, List.Pairwise.nil, fun x => by simp⟩ (fun i x p hx ⟨pl, pp, pm⟩ => ?_) fun p hp => hp) fun p ⟨_, pp, pm⟩ => ok_some ⟨pp, fun x => by rw [pm x, List.take_length]⟩)
  obtain ⟨hi, ex⟩ := List.getElem?_eq_some_iff.mp hx
  have st : w.take (i + 1) = w.take i ++ [x] := by rw [List.take_succ, hx]; rfl
  have nk : ∀ y ∈ w.take i, ky y ≠ ky x := fun y m e => by
    have n2 : ((w.take (i + 1)).map ky).Nodup := List.Nodup.sublist ((List.take_sublist _ _).map ky) nd
    rw [st, List.map_append] at n2
    exact (List.nodup_append.mp n2).2.2 (ky y) (List.mem_map_of_mem m) (ky x) (by simp) e
  refine ok_cond (fun h => ?_) fun h => ok_some ⟨by omega, pp, fun y => ?_⟩
  · have h' := of_decide_eq_true h
    refine ok_bd (seek_ok (day := day) (by omega)) fun o ⟨n, eo, hn, h1, h2⟩ => ?_
    subst eo
    show Ok (gd _ _) _
    refine ok_gd ⟨by show _ < 16777216; omega, by omega, by omega⟩ (ok_lt (ok_some ?_))
    rw [Int.toNat_natCast]
    have mem : ∀ y, y ∈ p.take n ++ [x] ++ p.drop n ↔ y ∈ p ∨ y = x := fun y => by
      have e : y ∈ p ↔ y ∈ p.take n ∨ y ∈ p.drop n := by
        rw [← List.mem_append, List.take_append_drop]
      rw [e]
      simp only [List.mem_append, List.mem_singleton]
      constructor
      · rintro ((a | a) | a)
        · exact .inl (.inl a)
        · exact .inr a
        · exact .inl (.inr a)
      · rintro ((a | a) | a)
        · exact .inl (.inl a)
        · exact .inr a
        · exact .inl (.inr a)
    have pd : (p.take n ++ p.drop n).Pairwise klt := by rw [List.take_append_drop]; exact pp
    obtain ⟨pd1, pd2, pd3⟩ := List.pairwise_append.mp pd
    have after : ∀ y ∈ p.drop n, klt x y := fun y m => by
      cases hd : p.drop n with
      | nil => rw [hd] at m; cases m
      | cons z zs =>
        have ez : p[n]? = some z := by rw [← List.head?_drop, hd]; rfl
        have zm : z ∈ p := List.mem_of_getElem? ez
        have hz : klt x z := klt_tot (nk z ((pm z).mp zm).1) (h2 z ez)
        rw [hd] at m pd2
        rcases List.mem_cons.mp m with e | m
        · subst e; exact hz
        · exact klt_tr hz ((List.pairwise_cons.mp pd2).1 y m)
    refine ⟨?_, ?_, fun y => ?_⟩
    · rw [List.length_append, List.length_append, List.length_take, List.length_drop, List.length_singleton]; omega
    · rw [List.append_assoc]
      refine List.pairwise_append.mpr ⟨pd1, List.pairwise_append.mpr ⟨List.pairwise_singleton _ _, pd2, fun a ha b hb => ?_⟩, fun a ha b hb => ?_⟩
      · rw [List.mem_singleton] at ha
        subst ha
        exact after b hb
      · rcases List.mem_append.mp hb with hb | hb
        · rw [List.mem_singleton] at hb
          subst hb
          exact h1 a ha
        · exact pd3 a ha b hb
    · rw [mem y, pm y, st, List.mem_append, List.mem_singleton]
      constructor
      · rintro (a | a)
        · exact ⟨.inl a.1, a.2⟩
        · subst a; exact ⟨.inr rfl, h'⟩
      · rintro ⟨a | a, b⟩
        · exact .inl ⟨a, b⟩
        · exact .inr a
  · have h' := of_decide_eq_false h
    rw [pm y, st, List.mem_append, List.mem_singleton]
    constructor
    · rintro ⟨a, b⟩
      exact ⟨.inl a, b⟩
    · rintro ⟨a | a, b⟩
      · exact ⟨a, b⟩
      · subst a; exact absurd b h'
theorem due_up {w : List Row} {day : Int} (hl : w.length < 1000) (nd : (w.map ky).Nodup) : M__law_due w day = some (srtK ky (w.filter fun x => decide (x.1 ≤ day))) := by
  refine Ok.eq ((due_ok (day := day) hl nd).imp fun ds ⟨h1, h2⟩ => ?_)
  refine pw_uniq klt_irr klt_tr h1 (srtK_pw (List.Nodup.sublist (List.filter_sublist.map ky) nd)) fun x => ?_
  rw [h2 x, srtK_mem, List.mem_filter, decide_eq_true_iff]
/-! what the law compares -/
def Rws (xs : List Row) : Prop := ∀ r ∈ xs, Smp 1 r.2.2.2
theorem rws_ok {xs : List Row} (h : Rws xs) : Smp 3 (.lst (xs.map e_T_i_i_i_d)) := .lst (smps_map fun r m => .tup (smps_cons (.int _) (smps_cons (.int _) (smps_cons (.int _) (smps_cons (h r m) smps_nil)))))
theorem whole_ok (n : Int) : M__law_whole (.int n) = some true := by
  unfold M__law_whole
  rw [bd_of (show isiD "int" (.int n) = some true from (by decide +kernel : kitB "int" "int" = some true))]
  refine Ok.eq (ok_bd (Q := fun v => v = true) (ok_t rfl ?_) fun v hv => ok_some hv)
  rw [bd_of (show isiD "bool" (.int n) = some false from (by decide +kernel : kitB "int" "bool" = some false))]
  exact ok_some rfl
theorem same_ok {xs : List Row} (h : Rws xs) : M__law_same xs xs = some true := by
  unfold M__law_same
  refine Ok.eq (ok_f (by simp) (ok_bd (ok_lpN (Q := fun o => o = .nx ()) (fun _ _ => True) trivial (fun i x v hx _ => ?_) fun v _ => rfl) fun o ho => ?_))
  · refine ok_f (by decide) ?_
    rw [bd_of (whole_ok _)]
    refine ok_bd (Q := fun v => v = false) ?_ fun v hv => ok_f hv (ok_some ⟨(), .inl rfl, trivial⟩)
    refine ok_f rfl ?_
    rw [bd_of (whole_ok _)]
    refine ok_bd (Q := fun v => v = false) ?_ fun v hv => ok_some hv
    refine ok_f rfl ?_
    rw [bd_of (whole_ok _)]
    exact ok_some rfl
  · subst ho
    exact ok_gd ⟨(rws_ok h).ok, (rws_ok h).ok⟩ (ok_some (rws_ok h).eqv)
theorem put_ok {dy : R_Days} {one : Row} {known : Bool} (h : (lkp dy.known ((.inl one.2.2.1) : Key)).isSome = known) (hl : dy.waiting.length < 1000) (hk : dy.known.length < 1000) : M__law_put dy one known = some (({ waiting := dy.waiting ++ [one], known := ptk dy.known ((.inl one.2.2.1) : Key) true } : R_Days), true) := by
  unfold M__law_put
  have e1 : M_Days_has_number dy one.2.2.1 = some known := by unfold M_Days_has_number; rw [h]
  have e2 : M_Days_put dy one.1 one.2.1 one.2.2.1 one.2.2.2 = some (({ waiting := dy.waiting ++ [one], known := ptk dy.known ((.inl one.2.2.1) : Key) true } : R_Days), ()) := by
    unfold M_Days_put
    exact Ok.eq (ok_gd (show dy.waiting.length < 16777216 by omega) (ok_lt (ok_gd (show dy.known.length < 16777216 by omega) (ok_lt (ok_some rfl)))))
  have e3 : M_Days_has_number ({ waiting := dy.waiting ++ [one], known := ptk dy.known ((.inl one.2.2.1) : Key) true } : R_Days) one.2.2.1 = some true := by
    unfold M_Days_has_number
    show some ((lkp (ptk dy.known _ true) _).isSome) = _
    rw [lkp_ptk, if_pos rfl]
    rfl
  rw [bd_of e1]
  refine Ok.eq (ok_f (by simp) ?_)
  rw [bd_of e2]
  refine ok_f rfl ?_
  show Ok (bd (M_Days_has_number ({ waiting := dy.waiting ++ [one], known := ptk dy.known ((.inl one.2.2.1) : Key) true } : R_Days) one.2.2.1) _) _
  rw [bd_of e3]
  exact ok_some rfl
/-! drawn -/
theorem mix0 (a : Int) {k : Int} : Ok (M__law_mix a k) fun c => 0 ≤ c := by
  unfold M__law_mix
  refine ok_lt (ok_bd (Q := fun p => 0 < p ∧ p ≤ 999983) (ok_atIm (by omega) (by show k % 8 < 8; omega) (by decide)) fun v hv => ok_gd hv.1 (ok_ltx fun x ex => ok_gd (.inl ?_) (ok_some (Int.emod_nonneg _ (by decide)))))
  have h1 := Int.emod_nonneg ((a % 1000000000 + 11) * 48271) (show v ≠ 0 by omega)
  have h2 := Int.emod_lt_of_pos ((a % 1000000000 + 11) * 48271) hv.1
  rw [← ex] at h1 h2
  exact ⟨by omega, by omega⟩
theorem tri_ok (ts : List (Int × Int × Int)) : Smp 2 (.lst (ts.map e_T_i_i_i)) := .lst (smps_map fun t _ => .tup (smps_cons (.int _) (smps_cons (.int _) (smps_cons (.int _) smps_nil))))
theorem tri1 (t : Int × Int × Int) : Smp 1 (e_T_i_i_i t) := .tup (smps_cons (.int _) (smps_cons (.int _) (smps_cons (.int _) smps_nil)))
theorem triple_ok {cell : Int} {k : Nat} (hk : k < 64) {day : Int} {ts : List (Int × Int × Int)} (h : ∀ t ∈ ts, t.2.2 % 64 < (k : Int)) : Ok (M__law_triple cell (k : Int) day ts) fun t => t.1 = day ∧ t ∉ ts ∧ t.2.2 % 64 < (k : Int) + 1 := by
  unfold M__law_triple
  refine ok_bd (mix0 cell) fun v1 h1 => ok_ltx fun number en => ok_bd (mix0 cell) fun v2 _ => ok_lt (ok_bd (mix0 cell) fun v3 _ => ?_)
  refine ok_bd (Q := fun _ => True) (ok_cond (fun _ => ok_bd (mix0 cell) fun v5 _ => ok_lt (ok_some trivial)) fun _ => ok_some trivial) fun p4 _ => ?_
  refine ok_gd ⟨(tri_ok ts).ok, (tri_ok []).ok⟩ ?_
  refine ok_bd (Q := fun b => b = true → ts ≠ []) (ok_cond (fun z => ok_bd (mix0 cell) fun v7 _ => ok_some fun _ e => ?_) fun _ => ok_some fun z => nomatch z) fun v8 hv8 => ?_
  · subst e
    exact absurd z (by decide)
  have em : number % 64 = k := by subst en; omega
  have fresh : (day, p4, number) ∉ ts ∧ number % 64 < (k : Int) + 1 := ⟨fun m => by
    have := h _ m
    have : number % 64 < (k : Int) := this
    omega, by omega⟩
  refine ok_bd (Q := fun p => (day, p4, p) ∉ ts ∧ p % 64 < (k : Int) + 1) (ok_cond (fun z => ?_) fun _ => ok_some fresh) fun p10 hp => ok_some ⟨rfl, hp.1, hp.2⟩
  have ne := hv8 z
  have pos : 0 < ts.length := List.length_pos_iff.mpr ne
  refine ok_bd (mix0 cell) fun v11 h11 => ok_gd (by omega) (ok_bd (ok_atIm (Q := fun t => t ∈ ts) (Int.emod_nonneg _ (by omega)) (Int.emod_lt_of_pos _ (by omega)) fun y m => m) fun v13 hm => ?_)
  refine ok_gd ⟨(tri1 _).ok, (tri_ok ts).ok⟩ (ok_cond (fun q => ok_some ⟨fun m => ?_, ?_⟩) fun _ => ok_some fresh)
  · have : inDL e_T_i_i_i ts (e_T_i_i_i (day, p4, v13.2.2)) = true := List.any_eq_true.mpr ⟨_, m, (tri1 _).eqv⟩
    rw [this] at q
    cases q
  · have := h _ hm
    omega
/-! the law -/
theorem szR {α : Type} (xs : List α) (h : xs.length < 1000) : xs.length < sizeLine := show _ < 16777216 by omega
theorem lkp_knows {m : List (Key × Bool)} {ns : List Int} (h : ∀ n : Int, (lkp m ((.inl n) : Key)).isSome = ns.contains n) (k : Int) : ∀ n : Int, (lkp (ptk m ((.inl k) : Key) true) ((.inl n) : Key)).isSome = (ns ++ [k]).contains n := fun n => by
  rw [lkp_ptk]
  by_cases e : n = k
  · subst e
    rw [if_pos rfl]
    simp
  · rw [if_neg (fun z => e (Sum.inl.inj z)), h n]
    simp [e]
structure Inv (i : Nat) (hd : List (List Row × List Row)) (w : List Row) (dy : R_Days) (ns : List Int) (ts : List (Int × Int × Int)) : Prop where
  wt : dy.waiting = w
  kn : ∀ n : Int, (lkp dy.known ((.inl n) : Key)).isSome = ns.contains n
  l1 : dy.known.length ≤ i
  l2 : w.length ≤ i
  l3 : ns.length ≤ i
  l4 : ts.length ≤ i
  l5 : hd.length ≤ i
  nd : (w.map ky).Nodup
  rw : Rws w
  tw : ∀ r ∈ w, (r.1, r.2.1, r.2.2.1) ∈ ts
  dw : ∀ r ∈ w, r.1 ≤ 1000000
  tm : ∀ t ∈ ts, t.2.2 % 64 < (i : Int)
  hh : ∀ q ∈ hd, q.1 = q.2 ∧ Rws q.1
theorem srt_rws {w : List Row} (h : Rws w) (p : Row → Bool) : Rws (srtK ky (w.filter p)) := fun r m => h r (List.mem_filter.mp (srtK_mem.mp m)).1
theorem law_true (ns : List Int) (hl : ns.length ≤ 63) : M_law ns = some true := by
  unfold M_law
  refine Ok.eq (ok_bd (cell_ok (by decide)) fun v1 _ => ok_bd (Q := fun v => 3 ≤ v ∧ v ≤ 1000000) (ok_atIm (by omega) (by show v1 % 3 < 3; omega) (by decide)) fun v2 hv2 => ?_)
  rw [bd_of (show M_Days___init__ = some ({ waiting := [], known := [] } : R_Days) from rfl), bd_of (show M_Days___init__ = some ({ waiting := [], known := [] } : R_Days) from rfl)]
  have cl : (cutG ns (some 1) (some 60)).length ≤ 59 := by
    unfold cutG
    rw [List.length_take, List.length_drop]
    have a : HT.sIx ns.length 0 (some (1 : Int)) = min 1 ns.length := by simp [HT.sIx] <;> omega
    have b : HT.sIx ns.length ns.length (some (60 : Int)) = min 60 ns.length := by simp [HT.sIx] <;> omega
    rw [a, b]
    omega
  refine ok_lt (ok_lt (ok_lt (ok_lt (ok_bd (ok_lpN (Q := fun o => ∃ p : List (List Row × List Row) × List Row × R_Days × List Int × List (Int × Int × Int), o = .nx p ∧ Inv 59 p.1 p.2.1 p.2.2.1 p.2.2.2.1 p.2.2.2.2) (fun i (p : List (List Row × List Row) × List Row × R_Days × List Int × List (Int × Int × Int)) => Inv i p.1 p.2.1 p.2.2.1 p.2.2.2.1 p.2.2.2.2) ⟨rfl, fun _ => rfl, Nat.le_refl 0, Nat.le_refl 0, Nat.le_refl 0, Nat.le_refl 0, Nat.le_refl 0, List.nodup_nil, fun _ m => (nomatch m), fun _ m => (nomatch m), fun _ m => (nomatch m), fun _ m => (nomatch m), fun _ m => (nomatch m)⟩ (fun i x p hx I => ?_) fun p I => ⟨p, rfl, ?_⟩) fun o ⟨p, eo, I⟩ => ?_))))
  · obtain ⟨hi, ex⟩ := List.getElem?_eq_some_iff.mp hx
    rw [List.length_zipIdx] at hi
    have ei : x.2 = i := by
      rw [List.getElem_zipIdx] at ex
      rw [← ex]
      simp
    obtain ⟨hd, w, dy, nums, ts⟩ := p
    obtain ⟨wt, kn, l1, l2, l3, l4, l5, nd, rw', tw, dw, tm, hh⟩ := I
    simp only at wt kn l1 l2 l3 l4 l5 nd rw' tw dw tm hh
    subst wt
    have i63 : i < 63 := by omega
    refine ok_gd (by omega) (ok_ltx fun day ed => ok_bd (mix0 _) fun v9 _ => ok_cond (fun _ => ?_) fun _ => ?_)
    · rw [bd_of (due_up (w := dy.waiting) (day := day) (by omega) nd)]
      show Ok (bd (M_Days_up_to dy day) _) _
      rw [bd_of (up_ok dy day (by omega))]
      have rs := srt_rws rw' fun x : Row => decide (x.1 ≤ day)
      rw [bd_of (same_ok rs)]
      refine ok_f rfl (ok_bd (Q := fun q : List Row × List Row => q.1 = q.2 ∧ Rws q.1) (ok_cond (fun _ => ok_lt (ok_some ⟨rfl, fun _ m => nomatch m⟩)) fun _ => ok_some ⟨rfl, rs⟩) fun q hq => ?_)
      refine ok_gd (szR hd (by omega)) (ok_lt (ok_gd (szR dy.waiting (by omega)) ?_))
      have fl := List.length_filter_le (fun x : Row => decide (day < x.1)) dy.waiting
      rw [bd_of (fmO_filt (fun x16 : Row => decide (day < x16.1)) dy.waiting)]
      refine ok_some ⟨_, .inl rfl, ⟨rfl, kn, Nat.le_succ_of_le l1, Nat.le_succ_of_le (Nat.le_trans fl l2), Nat.le_succ_of_le l3, Nat.le_succ_of_le l4, by show (hd ++ [_]).length ≤ i + 1; rw [List.length_append, List.length_singleton]; omega, List.Nodup.sublist (List.filter_sublist.map ky) nd, fun r m => rw' r (List.mem_filter.mp m).1, fun r m => tw r (List.mem_filter.mp m).1, fun r m => dw r (List.mem_filter.mp m).1, fun t m => Int.lt_trans (tm t m) (by omega), fun z m => ?_⟩⟩
      rcases List.mem_append.mp m with m | m
      · exact hh z m
      · rw [List.mem_singleton] at m
        subst m
        exact hq
    · rw [ei]
      refine ok_bd (triple_ok (by omega) tm) fun t ⟨t1, t2, t3⟩ => ok_bd (mix0 _) fun v20 h20 => ok_bd (ok_atIm (Q := fun d => Smp 1 d) (by omega) (by show v20 % 4 < 4; omega) fun y m => ?_) fun v21 h21 => ?_
      · simp only [List.mem_cons, List.mem_nil_iff, or_false] at m
        rcases m with m | m | m | m <;> subst m
        · exact .int _
        · exact .str (by decide +kernel)
        · exact .tup (smps_cons (.int _) (smps_cons (.str (show (PyData.str ("a" : Str)).canLay0 = true from by decide +kernel)) smps_nil))
        · exact .non
      · refine ok_ltx fun one eo => ?_
        have e3 : one.2.2.1 = t.2.2 := by rw [eo]
        rw [bd_of (put_ok (dy := dy) (one := one) (known := nums.contains t.2.2) (by rw [e3]; exact kn _) (by omega) (by omega))]
        refine ok_f rfl (ok_gd (szR dy.waiting (by omega)) (ok_lt (ok_gd (szR nums (by omega)) (ok_lt (ok_gd (szR ts (by omega)) (ok_lt (ok_some ⟨_, .inl rfl, ?_⟩)))))))
        have pl := ptk_len dy.known ((.inl one.2.2.1) : Key) true
        have eone : (one.1, one.2.1, one.2.2.1) = t := by rw [eo]
        refine ⟨rfl, by rw [e3]; exact lkp_knows kn _, by show (ptk _ _ _).length ≤ i + 1; omega, by show (dy.waiting ++ [one]).length ≤ i + 1; rw [List.length_append, List.length_singleton]; omega, by show (nums ++ [_]).length ≤ i + 1; rw [List.length_append, List.length_singleton]; omega, by show (ts ++ [_]).length ≤ i + 1; rw [List.length_append, List.length_singleton]; omega, Nat.le_succ_of_le l5, ?_, ?_, ?_, ?_, ?_, hh⟩
        · show ((dy.waiting ++ [one]).map ky).Nodup
          rw [List.map_append]
          refine List.nodup_append.mpr ⟨nd, by simp, fun a ha b hb e => ?_⟩
          subst e
          obtain ⟨r, hr, er⟩ := List.mem_map.mp ha
          have hb : a = ky one := by simpa using hb
          rw [hb] at er
          obtain ⟨k1, k2, k3⟩ := (ky_iff _ _).mp er
          have := tw r hr
          rw [k1, k2, k3, eone] at this
          exact t2 this
        · intro r m
          rcases List.mem_append.mp m with m | m
          · exact rw' r m
          · rw [List.mem_singleton] at m
            subst m
            rw [eo]
            exact h21
        · intro r m
          show _ ∈ ts ++ [t]
          rcases List.mem_append.mp m with m | m
          · exact List.mem_append_left _ (tw r m)
          · rw [List.mem_singleton] at m
            subst m
            rw [eone]
            simp
        · intro r m
          rcases List.mem_append.mp m with m | m
          · exact dw r m
          · rw [List.mem_singleton] at m
            subst m
            have : r.1 = day := by rw [eo]; exact t1
            rw [this, ed]
            have := Int.emod_lt_of_pos (x.1 / 4) (show 0 < v2 + 1 by omega)
            omega
        · intro z m
          show z.2.2 % 64 < ((i + 1 : Nat) : Int)
          rcases List.mem_append.mp m with m | m
          · have := tm z m
            omega
          · rw [List.mem_singleton] at m
            subst m
            omega
  · rw [List.length_zipIdx] at I
    obtain ⟨wt, kn, l1, l2, l3, l4, l5, nd, rw', tw, dw, tm, hh⟩ := I
    exact ⟨wt, kn, by omega, by omega, by omega, by omega, by omega, nd, rw', tw, dw, fun t m => by have := tm t m; omega, hh⟩
  · subst eo
    obtain ⟨hd, w, dy, nums, ts⟩ := p
    obtain ⟨wt, kn, l1, l2, l3, l4, l5, nd, rw', tw, dw, tm, hh⟩ := I
    simp only at wt kn l1 l2 l3 l4 l5 nd rw' tw dw tm hh
    subst wt
    show Ok (bd (M_Days_has_number ({ waiting := [], known := [] } : R_Days) 64) _) _
    rw [bd_of (show M_Days_has_number ({ waiting := [], known := [] } : R_Days) 64 = some false from rfl)]
    refine ok_f rfl ?_
    rw [bd_of (put_ok (dy := ({ waiting := [], known := [] } : R_Days)) (one := (5, 1, 64, (.str ("x" : Str)))) (known := false) rfl (by decide) (by decide))]
    refine ok_f rfl ?_
    show Ok (bd (M_Days_up_to dy 1000000) _) _
    rw [bd_of (up_ok dy 1000000 (by omega))]
    rw [bd_of (due_up (w := dy.waiting) (day := 1000000) (by omega) nd), bd_of (same_ok (srt_rws rw' _))]
    refine ok_f rfl ?_
    have none_left : dy.waiting.filter (fun x => decide ((1000000 : Int) < x.1)) = [] := List.filter_eq_nil_iff.mpr fun r m => by
      have := dw r m
      simp; omega
    rw [none_left]
    have en : srtK ky [] = [] := List.mergeSort_nil
    have e31 : M_Days_up_to ({ dy with waiting := [] } : R_Days) 1000000 = some (({ dy with waiting := [] } : R_Days), []) := (up_ok _ _ (by show 0 < 1000; decide)).trans (by
      show some (_, srtK ky []) = _
      rw [en]; rfl)
    rw [bd_of e31]
    refine ok_gd ⟨(rws_ok (xs := []) fun _ m => nomatch m).ok, (rws_ok (xs := []) fun _ m => nomatch m).ok⟩ (ok_f rfl ?_)
    refine ok_bd (ok_lpN (Q := fun o => o = .nx ()) (fun _ _ => True) trivial (fun i x v hx _ => ?_) fun v _ => rfl) fun o ho => ?_
    · have hm : nums.contains x = true := List.contains_iff_mem.mpr (List.mem_of_getElem? hx)
      rw [bd_of (show M_Days_has_number ({ dy with waiting := [] } : R_Days) x = some true from by unfold M_Days_has_number; show some _ = _; rw [kn x, hm])]
      refine ok_bd (Q := fun b => b = false) (ok_f rfl ?_) fun b hb => ok_f hb (ok_some ⟨(), .inl rfl, trivial⟩)
      have : M_Days_has_number ({ waiting := [] ++ [(5, 1, 64, (.str ("x" : Str)))], known := ptk [] ((.inl 64) : Key) true } : R_Days) x = some (x == 64) := by
        unfold M_Days_has_number
        show some ((lkp (ptk [] ((.inl 64) : Key) true) ((.inl x) : Key)).isSome) = _
        rw [lkp_ptk]
        by_cases e : x = 64
        · subst e; rfl
        · rw [if_neg (fun z => e (Sum.inl.inj z))]
          simp [e, lkp]
      rw [bd_of this]
      refine ok_some ?_
      simp
    · subst ho
      refine ok_bd (ok_lpN (Q := fun o => o = .nx ()) (fun _ _ => True) trivial (fun i x v hx _ => ?_) fun v _ => rfl) fun o ho => ?_
      · obtain ⟨e, r⟩ := hh x (List.mem_of_getElem? hx)
        rw [← e]
        exact ok_gd ⟨(rws_ok r).ok, (rws_ok r).ok⟩ (ok_f (by rw [(rws_ok r).eqv]; rfl) (ok_some ⟨(), .inl rfl, trivial⟩))
      · subst ho
        have r1 : Rws [(5, 1, 64, (.str ("x" : Str)))] := fun r m => by
          rw [List.mem_singleton] at m
          subst m
          exact .str (by decide +kernel)
        show Ok (bd (M_Days_up_to ({ waiting := [(5, 1, 64, (.str ("x" : Str)))], known := ptk [] ((.inl 64) : Key) true } : R_Days) 4) _) _
        have e4 : M_Days_up_to ({ waiting := [(5, 1, 64, (.str ("x" : Str)))], known := ptk [] ((.inl 64) : Key) true } : R_Days) 4 = some (({ waiting := [(5, 1, 64, (.str ("x" : Str)))], known := ptk [] ((.inl 64) : Key) true } : R_Days), []) := (up_ok _ _ (by show 1 < 1000; decide)).trans (by
          show some (_, srtK ky []) = _
          rw [en]; rfl)
        rw [bd_of e4]
        refine ok_gd ⟨(rws_ok (xs := []) fun _ m => nomatch m).ok, (rws_ok (xs := []) fun _ m => nomatch m).ok⟩ (ok_t rfl ?_)
        show Ok (bd (M_Days_up_to ({ waiting := [(5, 1, 64, (.str ("x" : Str)))], known := ptk [] ((.inl 64) : Key) true } : R_Days) 5) _) _
        have e1 : srtK ky [(5, 1, 64, (.str ("x" : Str)))] = [(5, 1, 64, (.str ("x" : Str)))] := List.mergeSort_singleton _
        have e5 : M_Days_up_to ({ waiting := [(5, 1, 64, (.str ("x" : Str)))], known := ptk [] ((.inl 64) : Key) true } : R_Days) 5 = some (({ waiting := [], known := ptk [] ((.inl 64) : Key) true } : R_Days), [(5, 1, 64, (.str ("x" : Str)))]) := (up_ok _ _ (by show 1 < 1000; decide)).trans (by
          show some (_, srtK ky [(5, 1, 64, (.str ("x" : Str)))]) = _
          rw [e1]; rfl)
        rw [bd_of e5]
        exact ok_gd ⟨(rws_ok r1).ok, (rws_ok r1).ok⟩ (ok_some (rws_ok r1).eqv)
abbrev N_law : List Str := ["_law_script", "_law_spread", "_law_days", "_law_other", "_law_waiting", "_law_numbers", "_law_triples", "_law_held", "_law_k", "_law_cell_here", "_law_day", "_law_due_here", "_law_found", "_law_triple_here", "_law_one", "_law_number"]
theorem sc_law : FnScope N_law ["_law_script"] (defScope s_law) := ⟨rfl, rfl, rfl, by decide +kernel, rfl, by decide +kernel, by decide +kernel⟩
theorem ok_law {f : Addr} {fd : FuncData} (F : Fun K "law" "law" s_law f fd) (z_enumerate : mg "enumerate" = none) (o_Days : OC K C_Days ["waiting", "known"]) (c__law_cell : Fn1 P w K mg base "_law_cell" 1 ["_law_script", "_law_k"] (sp__law_cell K)) (i_Days : Mk1 P w K mg base "Days" C_Days 1 ["self"] (spI_Days___init__ K C_Days)) (c__law_mix : Fn1 P w K mg base "_law_mix" 1 ["_law_cell_here", "_law_k"] (sp__law_mix K)) (c__law_due : Fn1 P w K mg base "_law_due" 2 ["_law_waiting", "_law_day"] (sp__law_due K)) (m_Days_up_to : Mt1 P w K mg base C_Days "up_to" 5 ["self", "day"] (sp_Days_up_to K C_Days)) (c__law_same : Fn1 P w K mg base "_law_same" 2 ["_law_found", "_law_due_here"] (sp__law_same K)) (c__law_triple : Fn1 P w K mg base "_law_triple" 2 ["_law_cell_here", "_law_k", "_law_day", "_law_triples"] (sp__law_triple K)) (c__law_put : Fn1 P w K mg base "_law_put" 2 ["_law_days", "_law_one", "_law_known"] (sp__law_put K C_Days)) (m_Days_has_number : Mt1 P w K mg base C_Days "has_number" 1 ["self", "number"] (sp_Days_has_number K C_Days)) : FnOk P w K mg base CX0 6 f fd ["_law_script"] (spLaw K) := by
  refine fn_m F sc_law (fun x => rfl) (fun x _ => rfl) fun cdv A outer s H E hr script hx => ?_
  have hx : M_law script = some true := law_true script hx
  have nd := sc_law.nd
  unfold M_law at hx
  show MS _ [some (.vw (script.map D.int)), none, none, none, none, none, none, none, none, none, none, none, none, none, none, none] _ _
  replace hx := bd_some hx
  obtain ⟨v1, hv1, hx⟩ := hx
  replace hx := bd_some hx
  obtain ⟨v2, hv2, hx⟩ := hx
  refine ms_cons (m_set (ps_set (i := 1) nd rfl (Or.inl rfl) pe_w) (me_ixLT (xs := [3, 30, 1000000]) (enc := D.int) hv2 (ME.l (me_lst (ds := [3, 30, 1000000].map D.int) (mf_cons me_int (mf_cons me_int (mf_cons (ME.is (o' := .fz (.int 1000000)) (me_pow me_int me_int ⟨by decide, by decide, by decide⟩) rfl) mf_nil))))) (me_mod (me_fn c__law_cell ((script, 0), v1) (ma_vw (ml_var (pv 0) rfl) (ma_fz me_int ma_nil)) hv1 (hr.mono (by decide))) me_int (by decide))) ?_)
  show MS _ [some (.vw (script.map D.int)), some (.fz (.int v2)), none, none, none, none, none, none, none, none, none, none, none, none, none, none] _ _
  replace hx := bd_some hx
  obtain ⟨v3, hv3, hx⟩ := hx
  refine ms_cons (m_set (ps_set (i := 2) nd rfl (Or.inl rfl) pe_w) (ME.is (o' := oo_Days C_Days v3) (me_make0 i_Days ((), v3) rfl hv3 (hr.mono (by decide))) rfl) ?_)
  show MS _ [some (.vw (script.map D.int)), some (.fz (.int v2)), some (oo_Days C_Days v3), none, none, none, none, none, none, none, none, none, none, none, none, none] _ _
  replace hx := bd_some hx
  obtain ⟨v4, hv4, hx⟩ := hx
  refine ms_cons (m_set (ps_set (i := 3) nd rfl (Or.inl rfl) pe_w) (ME.is (o' := oo_Days C_Days v4) (me_make0 i_Days ((), v4) rfl hv4 (hr.mono (by decide))) rfl) ?_)
  show MS _ [some (.vw (script.map D.int)), some (.fz (.int v2)), some (oo_Days C_Days v3), some (oo_Days C_Days v4), none, none, none, none, none, none, none, none, none, none, none, none] _ _
  replace hx := lt_some hx
  obtain ⟨waiting, ewaiting, hx⟩ := hx
  refine ms_cons (m_set (ps_set (i := 4) nd rfl (Or.inl rfl) pe_w) (ME.is (o' := (.lst ((waiting.map e_T_i_i_i_d).map .fz))) (me_lst (ds := [].map e_T_i_i_i_d) mf_nil) (by rw [ewaiting] <;> rfl)) ?_)
  show MS _ [some (.vw (script.map D.int)), some (.fz (.int v2)), some (oo_Days C_Days v3), some (oo_Days C_Days v4), some (.lst ((waiting.map e_T_i_i_i_d).map .fz)), none, none, none, none, none, none, none, none, none, none, none] _ _
  replace hx := lt_some hx
  obtain ⟨numbers, enumbers, hx⟩ := hx
  refine ms_cons (m_set (ps_set (i := 5) nd rfl (Or.inl rfl) pe_w) (ME.is (o' := (.lst ((numbers.map D.int).map .fz))) (me_lst (ds := [].map D.int) mf_nil) (by rw [enumbers] <;> rfl)) ?_)
  show MS _ [some (.vw (script.map D.int)), some (.fz (.int v2)), some (oo_Days C_Days v3), some (oo_Days C_Days v4), some (.lst ((waiting.map e_T_i_i_i_d).map .fz)), some (.lst ((numbers.map D.int).map .fz)), none, none, none, none, none, none, none, none, none, none] _ _
  replace hx := lt_some hx
  obtain ⟨triples, etriples, hx⟩ := hx
  refine ms_cons (m_set (ps_set (i := 6) nd rfl (Or.inl rfl) pe_w) (ME.is (o' := (.lst ((triples.map e_T_i_i_i).map .fz))) (me_lst (ds := [].map e_T_i_i_i) mf_nil) (by rw [etriples] <;> rfl)) ?_)
  show MS _ [some (.vw (script.map D.int)), some (.fz (.int v2)), some (oo_Days C_Days v3), some (oo_Days C_Days v4), some (.lst ((waiting.map e_T_i_i_i_d).map .fz)), some (.lst ((numbers.map D.int).map .fz)), some (.lst ((triples.map e_T_i_i_i).map .fz)), none, none, none, none, none, none, none, none, none] _ _
  replace hx := lt_some hx
  obtain ⟨held, eheld, hx⟩ := hx
  refine ms_cons (m_set (ps_set (i := 7) nd rfl (Or.inl rfl) pe_w) (ME.is (o' := (.lst ((held.map e_T_L_T_i_i_i_d_L_T_i_i_i_d).map .fz))) (me_lst (ds := [].map e_T_L_T_i_i_i_d_L_T_i_i_i_d) mf_nil) (by rw [eheld] <;> rfl)) ?_)
  show MS _ [some (.vw (script.map D.int)), some (.fz (.int v2)), some (oo_Days C_Days v3), some (oo_Days C_Days v4), some (.lst ((waiting.map e_T_i_i_i_d).map .fz)), some (.lst ((numbers.map D.int).map .fz)), some (.lst ((triples.map e_T_i_i_i).map .fz)), some (.lst ((held.map e_T_L_T_i_i_i_d_L_T_i_i_i_d).map .fz)), none, none, none, none, none, none, none, none] _ _
  replace hx := bd_some hx
  obtain ⟨o7, ho7, hx⟩ := hx
  refine ms_cons (m_forO (xs := ((cutG script (some (1 : Int)) (some (60 : Int))).zipIdx)) (enc := (fun p => D.tup [.int (p.2 : Nat), D.int p.1])) (ps_for PassesOwn.never rfl (pi_enum (by rfl) z_enumerate pa_w) (pg_tup (n := 2) rfl (pgs_cons (pg_name (i := 8) nd rfl (Or.inl rfl)) (pgs_cons (pg_name (i := 9) nd rfl (Or.inl rfl)) pgs_nil))) pss_w) (by exact (mi_enumT (xs := (cutG script (some (1 : Int)) (some (60 : Int)))) (enc := D.int) (ME.k (ME.frzl (me_slLT (xs := script) (enc := D.int) (ml_var (pv 0) rfl) (.some me_int) (.some me_int)))))) ho7 (fun p5 => [some (.vw (script.map D.int)), some (.fz (.int v2)), some (oo_Days C_Days p5.2.2.1), some (oo_Days C_Days v4), some (.lst ((p5.2.1.map e_T_i_i_i_d).map .fz)), some (.lst ((p5.2.2.2.1.map D.int).map .fz)), some (.lst ((p5.2.2.2.2.map e_T_i_i_i).map .fz)), some (.lst ((p5.1.map e_T_L_T_i_i_i_d_L_T_i_i_i_d).map .fz)), none, none, none, none, none, none, none, none]) (fun r => .fz (.bl r)) le_auto (fun x6 p5 p5o mx hx => ?_) (fun p5 τ e le => ?_) fun q e => ?_)
  ·
    refine ⟨_, _, (mg_tup (mgs_cons mg_name (mgs_cons mg_name mgs_nil)) rfl), ?_⟩
    show MS _ [some (.vw (script.map D.int)), some (.fz (.int v2)), some (oo_Days C_Days p5.2.2.1), some (oo_Days C_Days v4), some (.lst ((p5.2.1.map e_T_i_i_i_d).map .fz)), some (.lst ((p5.2.2.2.1.map D.int).map .fz)), some (.lst ((p5.2.2.2.2.map e_T_i_i_i).map .fz)), some (.lst ((p5.1.map e_T_L_T_i_i_i_d_L_T_i_i_i_d).map .fz)), some (.fz (.int (x6.2 : Int))), some (.fz (.int x6.1)), none, none, none, none, none, none] _ _
    replace hx := gd_some hx
    obtain ⟨g8, hx⟩ := hx
    replace hx := lt_some hx
    obtain ⟨day, eday, hx⟩ := hx
    refine ms_cons (m_set (ps_set (i := 10) nd rfl (Or.inr rfl) pe_w) (ME.is (o' := (.fz (.int day))) (me_mod (me_fdiv (me_var (pv 9) rfl) me_int ⟨by decide, by decide⟩) (me_add (me_var (pv 1) rfl) me_int) g8) (by rw [eday] <;> rfl)) ?_)
    show MS _ [some (.vw (script.map D.int)), some (.fz (.int v2)), some (oo_Days C_Days p5.2.2.1), some (oo_Days C_Days v4), some (.lst ((p5.2.1.map e_T_i_i_i_d).map .fz)), some (.lst ((p5.2.2.2.1.map D.int).map .fz)), some (.lst ((p5.2.2.2.2.map e_T_i_i_i).map .fz)), some (.lst ((p5.1.map e_T_L_T_i_i_i_d_L_T_i_i_i_d).map .fz)), some (.fz (.int (x6.2 : Int))), some (.fz (.int x6.1)), some (.fz (.int day)), none, none, none, none, none] _ _
    replace hx := bd_some hx
    obtain ⟨v9, hv9, hx⟩ := hx
    refine ms_one (m_if (t := (((v9 % 4) == 0))) (mt_eqI (me_mod (me_fn c__law_mix ((x6.1, 0), v9) (ma_fz (me_var (pv 9) rfl) (ma_fz me_int ma_nil)) hv9 (hr.mono (by decide))) me_int (by decide)) me_int) (fun h => ?_) fun h => ?_)
    · replace hx := cond_t hx h
      replace hx := bd_some hx
      obtain ⟨v10, hv10, hx⟩ := hx
      refine ms_cons (m_set (ps_set (i := 11) nd rfl (Or.inl rfl) pe_w) (me_fn c__law_due ((p5.2.1, day), v10) (ma_vw (ml_var (pv 4) rfl) (ma_fz (me_var (pv 10) rfl) ma_nil)) hv10 (hr.mono (by decide))) ?_)
      show MS _ [some (.vw (script.map D.int)), some (.fz (.int v2)), some (oo_Days C_Days p5.2.2.1), some (oo_Days C_Days v4), some (.lst ((p5.2.1.map e_T_i_i_i_d).map .fz)), some (.lst ((p5.2.2.2.1.map D.int).map .fz)), some (.lst ((p5.2.2.2.2.map e_T_i_i_i).map .fz)), some (.lst ((p5.1.map e_T_L_T_i_i_i_d_L_T_i_i_i_d).map .fz)), some (.fz (.int (x6.2 : Int))), some (.fz (.int x6.1)), some (.fz (.int day)), some (.lst ((v10.map e_T_i_i_i_d).map .fz)), none, none, none, none] _ _
      replace hx := bd_some hx
      obtain ⟨v11, hv11, hx⟩ := hx
      refine ms_cons (m_setX (ps_set (i := 12) nd rfl (Or.inl rfl) pe_w) (by exact (mx_mtJ m_Days_up_to o_Days ((p5.2.2.1, day), v11) (mq_var (pv 2) rfl) rfl (mf_cons (me_var (pv 10) rfl) mf_nil) rfl rfl hv11 (hr.mono (by decide)))) ?_)
      show MS _ [some (.vw (script.map D.int)), some (.fz (.int v2)), some (oo_Days C_Days v11.1), some (oo_Days C_Days v4), some (.lst ((p5.2.1.map e_T_i_i_i_d).map .fz)), some (.lst ((p5.2.2.2.1.map D.int).map .fz)), some (.lst ((p5.2.2.2.2.map e_T_i_i_i).map .fz)), some (.lst ((p5.1.map e_T_L_T_i_i_i_d_L_T_i_i_i_d).map .fz)), some (.fz (.int (x6.2 : Int))), some (.fz (.int x6.1)), some (.fz (.int day)), some (.lst ((v10.map e_T_i_i_i_d).map .fz)), some (.lst ((v11.2.map e_T_i_i_i_d).map .fz)), none, none, none] _ _
      replace hx := bd_some hx
      obtain ⟨v12, hv12, hx⟩ := hx
      refine ms_cons (m_if (t := (!v12)) (mt_not (mt_val (me_fn c__law_same ((v11.2, v10), v12) (ma_vw (ml_var (pv 12) rfl) (ma_vw (ml_var (pv 11) rfl) ma_nil)) hv12 (hr.mono (by decide))))) (fun h => ?_) fun h => ms_nil ?_)
      · replace hx := cond_t hx h
        refine ms_one (m_ret (ps_ret pe_w) (ME.r me_bl) ?_)
        cases hx; exact ⟨_, rfl, rfl⟩
      replace hx := cond_f hx h
      replace hx := bd_some hx
      obtain ⟨p13, hp13, hx⟩ := hx
      refine ms_cons (m_ifP (out := p13) (fun p13 => [some (.vw (script.map D.int)), some (.fz (.int v2)), some (oo_Days C_Days v11.1), some (oo_Days C_Days v4), some (.lst ((p5.2.1.map e_T_i_i_i_d).map .fz)), some (.lst ((p5.2.2.2.1.map D.int).map .fz)), some (.lst ((p5.2.2.2.2.map e_T_i_i_i).map .fz)), some (.lst ((p5.1.map e_T_L_T_i_i_i_d_L_T_i_i_i_d).map .fz)), some (.fz (.int (x6.2 : Int))), some (.fz (.int x6.1)), some (.fz (.int day)), some (.lst ((p13.2.map e_T_i_i_i_d).map .fz)), some (.lst ((p13.1.map e_T_i_i_i_d).map .fz)), none, none, none]) (t := ((((x6.2 : Int) % 2) == 1))) (mt_eqI (me_mod (me_var (pv 8) rfl) me_int (by decide)) me_int) (fun h => ?_) (fun h => ?_) fun τ le => ?_)
      · replace hx := cond_t hp13 h
        refine ms_cons (m_clearP (MQ.toP (mq_var (pv 12) rfl)) ?_)
        show MS _ [some (.vw (script.map D.int)), some (.fz (.int v2)), some (oo_Days C_Days v11.1), some (oo_Days C_Days v4), some (.lst ((p5.2.1.map e_T_i_i_i_d).map .fz)), some (.lst ((p5.2.2.2.1.map D.int).map .fz)), some (.lst ((p5.2.2.2.2.map e_T_i_i_i).map .fz)), some (.lst ((p5.1.map e_T_L_T_i_i_i_d_L_T_i_i_i_d).map .fz)), some (.fz (.int (x6.2 : Int))), some (.fz (.int x6.1)), some (.fz (.int day)), some (.lst ((v10.map e_T_i_i_i_d).map .fz)), some (.lst ((([] : List (Int × Int × Int × D)).map e_T_i_i_i_d).map .fz)), none, none, none] _ _
        replace hx := lt_some hx
        obtain ⟨due_here, edue_here, hx⟩ := hx
        refine ms_one (m_set (ps_set (i := 11) nd rfl (Or.inl rfl) pe_w) (ME.is (o' := (.lst ((due_here.map e_T_i_i_i_d).map .fz))) (me_lst (ds := [].map e_T_i_i_i_d) mf_nil) (by rw [edue_here] <;> rfl)) ?_)
        cases hx; exact le_auto
      · replace hx := cond_f hp13 h
        refine ms_nil ?_
        cases hx; exact le_auto
      refine ms_le le ?_
      show MS _ [some (.vw (script.map D.int)), some (.fz (.int v2)), some (oo_Days C_Days v11.1), some (oo_Days C_Days v4), some (.lst ((p5.2.1.map e_T_i_i_i_d).map .fz)), some (.lst ((p5.2.2.2.1.map D.int).map .fz)), some (.lst ((p5.2.2.2.2.map e_T_i_i_i).map .fz)), some (.lst ((p5.1.map e_T_L_T_i_i_i_d_L_T_i_i_i_d).map .fz)), some (.fz (.int (x6.2 : Int))), some (.fz (.int x6.1)), some (.fz (.int day)), some (.lst ((p13.2.map e_T_i_i_i_d).map .fz)), some (.lst ((p13.1.map e_T_i_i_i_d).map .fz)), none, none, none] _ _
      refine ms_frzl (i := 12) rfl ?_
      refine ms_frzl (i := 11) rfl ?_
      show MS _ [some (.vw (script.map D.int)), some (.fz (.int v2)), some (oo_Days C_Days v11.1), some (oo_Days C_Days v4), some (.lst ((p5.2.1.map e_T_i_i_i_d).map .fz)), some (.lst ((p5.2.2.2.1.map D.int).map .fz)), some (.lst ((p5.2.2.2.2.map e_T_i_i_i).map .fz)), some (.lst ((p5.1.map e_T_L_T_i_i_i_d_L_T_i_i_i_d).map .fz)), some (.fz (.int (x6.2 : Int))), some (.fz (.int x6.1)), some (.fz (.int day)), some (.fz (.lst (p13.2.map e_T_i_i_i_d))), some (.fz (.lst (p13.1.map e_T_i_i_i_d))), none, none, none] _ _
      replace hx := gd_some hx
      obtain ⟨g14, hx⟩ := hx
      replace hx := lt_some hx
      obtain ⟨held_1, eheld_1, hx⟩ := hx
      refine ms_cons (m_appendT (i := 7) (xs := p5.1) (enc := e_T_L_T_i_i_i_d_L_T_i_i_i_d) (y := (p13.1, p13.2)) g14 (pv _) rfl (me_tup (mf_cons (me_var (pv 12) rfl) (mf_cons (me_var (pv 11) rfl) mf_nil))) ?_)
      rw [← eheld_1]
      show MS _ [some (.vw (script.map D.int)), some (.fz (.int v2)), some (oo_Days C_Days v11.1), some (oo_Days C_Days v4), some (.lst ((p5.2.1.map e_T_i_i_i_d).map .fz)), some (.lst ((p5.2.2.2.1.map D.int).map .fz)), some (.lst ((p5.2.2.2.2.map e_T_i_i_i).map .fz)), some (.lst ((held_1.map e_T_L_T_i_i_i_d_L_T_i_i_i_d).map .fz)), some (.fz (.int (x6.2 : Int))), some (.fz (.int x6.1)), some (.fz (.int day)), some (.fz (.lst (p13.2.map e_T_i_i_i_d))), some (.fz (.lst (p13.1.map e_T_i_i_i_d))), none, none, none] _ _
      replace hx := gd_some hx
      obtain ⟨g15, hx⟩ := hx
      replace hx := bd_some hx
      obtain ⟨v17, hv17, hx⟩ := hx
      refine ms_one (m_setLcIfO (i := 4) (g := (gName 14)) (xs := p5.2.1) (ys := v17) (enc := e_T_i_i_i_d) (enc2 := e_T_i_i_i_d) hv17 (fun tt te ht he => ps_setLc (i := 4) (own := [("_law_one", 14)]) rfl nd rfl rfl (sw_true rfl rfl rfl (by decide +kernel)) (pi_list pe_w) (blkOk_by (N := N_law) (sc := defScope s_law) (by decide +kernel)) (fun _ _ _ _ _ => (pg_name (i := 14) nd rfl (Or.inl rfl))) (fun s H C cl fp => pts_one (ht s H C cl fp)) he) (mic_list (ml_var (pv 4) rfl)) g15 (fun x16 mx k18 hx => by have hx := hx; injection hx with hx; subst k18; exact ⟨_, _, mg_name, by decide, fun s H C cl fp => ⟨(mt_gt (me_ixT (MV.u (ME.v (me_var (pv 14) rfl)) (.fz _)) me_int rfl) (me_var (pv 10) rfl)), fun hk x16y hx => by injection hx with hx; subst x16y; exact (me_var (pv 14) rfl)⟩⟩) ?_)
      cases hx; exact ⟨_, rfl, le_auto⟩
    · replace hx := cond_f hx h
      replace hx := bd_some hx
      obtain ⟨v19, hv19, hx⟩ := hx
      refine ms_cons (m_set (ps_set (i := 13) nd rfl (Or.inl rfl) pe_w) (me_fn c__law_triple ((x6.1, (x6.2 : Int), day, p5.2.2.2.2), v19) (ma_fz (me_var (pv 9) rfl) (ma_fz (me_var (pv 8) rfl) (ma_fz (me_var (pv 10) rfl) (ma_vw (ml_var (pv 6) rfl) ma_nil)))) hv19 (hr.mono (by decide))) ?_)
      show MS _ [some (.vw (script.map D.int)), some (.fz (.int v2)), some (oo_Days C_Days p5.2.2.1), some (oo_Days C_Days v4), some (.lst ((p5.2.1.map e_T_i_i_i_d).map .fz)), some (.lst ((p5.2.2.2.1.map D.int).map .fz)), some (.lst ((p5.2.2.2.2.map e_T_i_i_i).map .fz)), some (.lst ((p5.1.map e_T_L_T_i_i_i_d_L_T_i_i_i_d).map .fz)), some (.fz (.int (x6.2 : Int))), some (.fz (.int x6.1)), some (.fz (.int day)), none, none, some (.fz (e_T_i_i_i v19)), none, none] _ _
      replace hx := bd_some hx
      obtain ⟨v20, hv20, hx⟩ := hx
      replace hx := bd_some hx
      obtain ⟨v21, hv21, hx⟩ := hx
      replace hx := lt_some hx
      obtain ⟨one, eone, hx⟩ := hx
      refine ms_cons (m_set (ps_set (i := 14) nd rfl (Or.inl rfl) pe_w) (ME.is (o' := (.fz (e_T_i_i_i_d one))) (ME.is (o' := .fz (e_T_i_i_i_d (v19.1, v19.2.1, v19.2.2, v21))) (me_catTT (List.cons_ne_nil _ _) (List.cons_ne_nil _ _) (by show 3 + 1 ≤ 1000; decide) (MV.u (ME.v (me_var (pv 13) rfl)) (.fz _)) (MV.u (ME.v (me_tup (mf_cons (me_ixLT (xs := [(.int (x6.2 : Int)), (.str ("row" : Str)), (e_T_i_s ((x6.2 : Int), ("a" : Str))), (.non)]) (enc := e_d) hv21 (ME.l (me_lst (ds := [(.int (x6.2 : Int)), (.str ("row" : Str)), (e_T_i_s ((x6.2 : Int), ("a" : Str))), (.non)].map e_d) (mf_cons (me_var (pv 8) rfl) (mf_cons me_str (mf_cons (me_tup (mf_cons (me_var (pv 8) rfl) (mf_cons me_str mf_nil))) (mf_cons me_non mf_nil)))))) (me_mod (me_fn c__law_mix ((x6.1, 3), v20) (ma_fz (me_var (pv 9) rfl) (ma_fz me_int ma_nil)) hv20 (hr.mono (by decide))) me_int (by decide))) mf_nil))) (.fz _))) rfl) (by rw [eone] <;> rfl)) ?_)
      show MS _ [some (.vw (script.map D.int)), some (.fz (.int v2)), some (oo_Days C_Days p5.2.2.1), some (oo_Days C_Days v4), some (.lst ((p5.2.1.map e_T_i_i_i_d).map .fz)), some (.lst ((p5.2.2.2.1.map D.int).map .fz)), some (.lst ((p5.2.2.2.2.map e_T_i_i_i).map .fz)), some (.lst ((p5.1.map e_T_L_T_i_i_i_d_L_T_i_i_i_d).map .fz)), some (.fz (.int (x6.2 : Int))), some (.fz (.int x6.1)), some (.fz (.int day)), none, none, some (.fz (e_T_i_i_i v19)), some (.fz (e_T_i_i_i_d one)), none] _ _
      replace hx := bd_some hx
      obtain ⟨v22, hv22, hx⟩ := hx
      refine ms_cons (m_ifNX (k := v22.2) (by exact (mx_fnJ c__law_put ((p5.2.2.1, one, ((p5.2.2.2.1.contains v19.2.2))), v22) (mj_here (mq_var (pv 2) rfl) (mf_cons (me_var (pv 14) rfl) (mf_cons (me_inLT_i (xi := p5.2.2.2.1) (me_ixT (MV.u (ME.v (me_var (pv 13) rfl)) (.fz _)) me_int rfl) (ml_var (pv 5) rfl)) mf_nil))) rfl rfl hv22 (hr.mono (by decide)))) (fun h => ?_) fun h => ms_nil ?_)
      · replace hx := cond_t hx (by rw [h]; rfl)
        refine ms_one (m_ret (ps_ret pe_w) (ME.r me_bl) ?_)
        cases hx; exact ⟨_, rfl, rfl⟩
      replace hx := cond_f hx (by rw [h]; rfl)
      show MS _ [some (.vw (script.map D.int)), some (.fz (.int v2)), some (oo_Days C_Days v22.1), some (oo_Days C_Days v4), some (.lst ((p5.2.1.map e_T_i_i_i_d).map .fz)), some (.lst ((p5.2.2.2.1.map D.int).map .fz)), some (.lst ((p5.2.2.2.2.map e_T_i_i_i).map .fz)), some (.lst ((p5.1.map e_T_L_T_i_i_i_d_L_T_i_i_i_d).map .fz)), some (.fz (.int (x6.2 : Int))), some (.fz (.int x6.1)), some (.fz (.int day)), none, none, some (.fz (e_T_i_i_i v19)), some (.fz (e_T_i_i_i_d one)), none] _ _
      replace hx := gd_some hx
      obtain ⟨g23, hx⟩ := hx
      replace hx := lt_some hx
      obtain ⟨waiting_1, ewaiting_1, hx⟩ := hx
      refine ms_cons (m_appendT (i := 4) (xs := p5.2.1) (enc := e_T_i_i_i_d) (y := one) g23 (pv _) rfl (me_var (pv 14) rfl) ?_)
      rw [← ewaiting_1]
      show MS _ [some (.vw (script.map D.int)), some (.fz (.int v2)), some (oo_Days C_Days v22.1), some (oo_Days C_Days v4), some (.lst ((waiting_1.map e_T_i_i_i_d).map .fz)), some (.lst ((p5.2.2.2.1.map D.int).map .fz)), some (.lst ((p5.2.2.2.2.map e_T_i_i_i).map .fz)), some (.lst ((p5.1.map e_T_L_T_i_i_i_d_L_T_i_i_i_d).map .fz)), some (.fz (.int (x6.2 : Int))), some (.fz (.int x6.1)), some (.fz (.int day)), none, none, some (.fz (e_T_i_i_i v19)), some (.fz (e_T_i_i_i_d one)), none] _ _
      replace hx := gd_some hx
      obtain ⟨g24, hx⟩ := hx
      replace hx := lt_some hx
      obtain ⟨numbers_1, enumbers_1, hx⟩ := hx
      refine ms_cons (m_appendT (i := 5) (xs := p5.2.2.2.1) (enc := D.int) (y := v19.2.2) g24 (pv _) rfl (me_ixT (MV.u (ME.v (me_var (pv 13) rfl)) (.fz _)) me_int rfl) ?_)
      rw [← enumbers_1]
      show MS _ [some (.vw (script.map D.int)), some (.fz (.int v2)), some (oo_Days C_Days v22.1), some (oo_Days C_Days v4), some (.lst ((waiting_1.map e_T_i_i_i_d).map .fz)), some (.lst ((numbers_1.map D.int).map .fz)), some (.lst ((p5.2.2.2.2.map e_T_i_i_i).map .fz)), some (.lst ((p5.1.map e_T_L_T_i_i_i_d_L_T_i_i_i_d).map .fz)), some (.fz (.int (x6.2 : Int))), some (.fz (.int x6.1)), some (.fz (.int day)), none, none, some (.fz (e_T_i_i_i v19)), some (.fz (e_T_i_i_i_d one)), none] _ _
      replace hx := gd_some hx
      obtain ⟨g25, hx⟩ := hx
      replace hx := lt_some hx
      obtain ⟨triples_1, etriples_1, hx⟩ := hx
      refine ms_one (m_appendT (i := 6) (xs := p5.2.2.2.2) (enc := e_T_i_i_i) (y := v19) g25 (pv _) rfl (me_var (pv 13) rfl) ?_)
      rw [← etriples_1]
      cases hx; exact ⟨_, rfl, le_auto⟩
  · subst e
    dsimp only [ouR] at hx
    refine ms_le le ?_
    show MS _ [some (.vw (script.map D.int)), some (.fz (.int v2)), some (oo_Days C_Days p5.2.2.1), some (oo_Days C_Days v4), some (.lst ((p5.2.1.map e_T_i_i_i_d).map .fz)), some (.lst ((p5.2.2.2.1.map D.int).map .fz)), some (.lst ((p5.2.2.2.2.map e_T_i_i_i).map .fz)), some (.lst ((p5.1.map e_T_L_T_i_i_i_d_L_T_i_i_i_d).map .fz)), none, none, none, none, none, none, none, none] _ _
    replace hx := bd_some hx
    obtain ⟨v26, hv26, hx⟩ := hx
    refine ms_cons (m_ifC (mwc_or (k := (!decide (v26 = false))) (MT.tx (mt_niB (me_mtL m_Days_has_number o_Days ((v4, 64), v26) (mv_var (pv 3) rfl) (ma_fz me_int ma_nil) rfl hv26 (hr.mono (by decide))) me_bl)) (fun h => ?_) fun h => ?_))
    · replace hx := cond_t hx h; show MS _ [some (.vw (script.map D.int)), some (.fz (.int v2)), some (oo_Days C_Days p5.2.2.1), some (oo_Days C_Days v4), some (.lst ((p5.2.1.map e_T_i_i_i_d).map .fz)), some (.lst ((p5.2.2.2.1.map D.int).map .fz)), some (.lst ((p5.2.2.2.2.map e_T_i_i_i).map .fz)), some (.lst ((p5.1.map e_T_L_T_i_i_i_d_L_T_i_i_i_d).map .fz)), none, none, none, none, none, none, none, none] _ _
      refine ms_one (m_ret (ps_ret pe_w) (ME.r me_bl) ?_)
      first | (cases hx; done) | (cases hx; rfl) | (injection hx with hx; show O.fz (.bl _) = O.fz (.bl true); rw [hx])
    replace hx := cond_f hx h
    replace hx := bd_some hx
    obtain ⟨v27, hv27, hx⟩ := hx
    refine mwc_or1 (k := (!v27.2)) (mtx_not (mtx_me (MX.xz (show MX _ _ _ _ [some (.vw (script.map D.int)), some (.fz (.int v2)), some (oo_Days C_Days p5.2.2.1), some (oo_Days C_Days v27.1), some (.lst ((p5.2.1.map e_T_i_i_i_d).map .fz)), some (.lst ((p5.2.2.2.1.map D.int).map .fz)), some (.lst ((p5.2.2.2.2.map e_T_i_i_i).map .fz)), some (.lst ((p5.1.map e_T_L_T_i_i_i_d_L_T_i_i_i_d).map .fz)), none, none, none, none, none, none, none, none] from (by exact (mx_fnJ c__law_put ((v4, (5, 1, 64, (.str ("x" : Str))), false), v27) (mj_here (mq_var (pv 3) rfl) (mf_cons (me_tup (mf_cons me_int (mf_cons me_int (mf_cons me_int (mf_cons me_str mf_nil))))) (mf_cons me_bl mf_nil))) rfl rfl hv27 (hr.mono (by decide)))))))) (fun h => ?_) fun h => ?_
    · replace hx := cond_t hx h; show MS _ [some (.vw (script.map D.int)), some (.fz (.int v2)), some (oo_Days C_Days p5.2.2.1), some (oo_Days C_Days v27.1), some (.lst ((p5.2.1.map e_T_i_i_i_d).map .fz)), some (.lst ((p5.2.2.2.1.map D.int).map .fz)), some (.lst ((p5.2.2.2.2.map e_T_i_i_i).map .fz)), some (.lst ((p5.1.map e_T_L_T_i_i_i_d_L_T_i_i_i_d).map .fz)), none, none, none, none, none, none, none, none] _ _
      refine ms_one (m_ret (ps_ret pe_w) (ME.r me_bl) ?_)
      first | (cases hx; done) | (cases hx; rfl) | (injection hx with hx; show O.fz (.bl _) = O.fz (.bl true); rw [hx])
    replace hx := cond_f hx h
    refine ms_nil ?_
    show MS _ [some (.vw (script.map D.int)), some (.fz (.int v2)), some (oo_Days C_Days p5.2.2.1), some (oo_Days C_Days v27.1), some (.lst ((p5.2.1.map e_T_i_i_i_d).map .fz)), some (.lst ((p5.2.2.2.1.map D.int).map .fz)), some (.lst ((p5.2.2.2.2.map e_T_i_i_i).map .fz)), some (.lst ((p5.1.map e_T_L_T_i_i_i_d_L_T_i_i_i_d).map .fz)), none, none, none, none, none, none, none, none] _ _
    replace hx := bd_some hx
    obtain ⟨v28, hv28, hx⟩ := hx
    replace hx := bd_some hx
    obtain ⟨v29, hv29, hx⟩ := hx
    replace hx := bd_some hx
    obtain ⟨v30, hv30, hx⟩ := hx
    refine ms_cons (m_ifC (mwc_or (k := (!v30)) (mtx_not (mtx_me (MX.xz (mx_fnX c__law_same ((v28.2, v29), v30) (mfx_cons (MX.xl (xs := v28.2) (enc := e_T_i_i_i_d) (show MX _ _ _ _ [some (.vw (script.map D.int)), some (.fz (.int v2)), some (oo_Days C_Days v28.1), some (oo_Days C_Days v27.1), some (.lst ((p5.2.1.map e_T_i_i_i_d).map .fz)), some (.lst ((p5.2.2.2.1.map D.int).map .fz)), some (.lst ((p5.2.2.2.2.map e_T_i_i_i).map .fz)), some (.lst ((p5.1.map e_T_L_T_i_i_i_d_L_T_i_i_i_d).map .fz)), none, none, none, none, none, none, none, none] from (by exact (mx_mtJ m_Days_up_to o_Days ((p5.2.2.1, 1000000), v28) (mq_var (pv 2) rfl) rfl (mf_cons (ME.is (o' := .fz (.int 1000000)) (me_pow me_int me_int ⟨by decide, by decide, by decide⟩) rfl) mf_nil) rfl rfl hv28 (hr.mono (by decide)))))) (mfx_cons (ME.xf (ME.frzl (me_fn c__law_due ((p5.2.1, 1000000), v29) (ma_vw (ml_var (pv 4) rfl) (ma_fz (ME.is (o' := .fz (.int 1000000)) (me_pow me_int me_int ⟨by decide, by decide, by decide⟩) rfl) ma_nil)) hv29 (hr.mono (by decide))))) mfx_nil)) (.vw (.vw .nil)) hv30 (hr.mono (by decide)))))) (fun h => ?_) fun h => ?_))
    · replace hx := cond_t hx h; show MS _ [some (.vw (script.map D.int)), some (.fz (.int v2)), some (oo_Days C_Days v28.1), some (oo_Days C_Days v27.1), some (.lst ((p5.2.1.map e_T_i_i_i_d).map .fz)), some (.lst ((p5.2.2.2.1.map D.int).map .fz)), some (.lst ((p5.2.2.2.2.map e_T_i_i_i).map .fz)), some (.lst ((p5.1.map e_T_L_T_i_i_i_d_L_T_i_i_i_d).map .fz)), none, none, none, none, none, none, none, none] _ _
      refine ms_one (m_ret (ps_ret pe_w) (ME.r me_bl) ?_)
      first | (cases hx; done) | (cases hx; rfl) | (injection hx with hx; show O.fz (.bl _) = O.fz (.bl true); rw [hx])
    replace hx := cond_f hx h
    replace hx := bd_some hx
    obtain ⟨v31, hv31, hx⟩ := hx
    replace hx := gd_some hx
    obtain ⟨g32, hx⟩ := hx
    refine mwc_or1 (k := (!(D.eqv (.lst (v31.2.map e_T_i_i_i_d)) (.lst (([] : List (Int × Int × Int × D)).map e_T_i_i_i_d))))) (mtx_neV (d1 := .lst (v31.2.map e_T_i_i_i_d)) (d2 := .lst (([] : List (Int × Int × Int × D)).map e_T_i_i_i_d)) hr.units g32 frz_own (MX.xl (xs := v31.2) (enc := e_T_i_i_i_d) (show MX _ _ _ _ [some (.vw (script.map D.int)), some (.fz (.int v2)), some (oo_Days C_Days v31.1), some (oo_Days C_Days v27.1), some (.lst ((p5.2.1.map e_T_i_i_i_d).map .fz)), some (.lst ((p5.2.2.2.1.map D.int).map .fz)), some (.lst ((p5.2.2.2.2.map e_T_i_i_i).map .fz)), some (.lst ((p5.1.map e_T_L_T_i_i_i_d_L_T_i_i_i_d).map .fz)), none, none, none, none, none, none, none, none] from (by exact (mx_mtJ m_Days_up_to o_Days ((v28.1, 1000000), v31) (mq_var (pv 2) rfl) rfl (mf_cons (ME.is (o' := .fz (.int 1000000)) (me_pow me_int me_int ⟨by decide, by decide, by decide⟩) rfl) mf_nil) rfl rfl hv31 (hr.mono (by decide)))))) (ME.v (me_lst (ds := [].map e_T_i_i_i_d) mf_nil))) (fun h => ?_) fun h => ?_
    · replace hx := cond_t hx h; show MS _ [some (.vw (script.map D.int)), some (.fz (.int v2)), some (oo_Days C_Days v31.1), some (oo_Days C_Days v27.1), some (.lst ((p5.2.1.map e_T_i_i_i_d).map .fz)), some (.lst ((p5.2.2.2.1.map D.int).map .fz)), some (.lst ((p5.2.2.2.2.map e_T_i_i_i).map .fz)), some (.lst ((p5.1.map e_T_L_T_i_i_i_d_L_T_i_i_i_d).map .fz)), none, none, none, none, none, none, none, none] _ _
      refine ms_one (m_ret (ps_ret pe_w) (ME.r me_bl) ?_)
      first | (cases hx; done) | (cases hx; rfl) | (injection hx with hx; show O.fz (.bl _) = O.fz (.bl true); rw [hx])
    replace hx := cond_f hx h
    refine ms_nil ?_
    show MS _ [some (.vw (script.map D.int)), some (.fz (.int v2)), some (oo_Days C_Days v31.1), some (oo_Days C_Days v27.1), some (.lst ((p5.2.1.map e_T_i_i_i_d).map .fz)), some (.lst ((p5.2.2.2.1.map D.int).map .fz)), some (.lst ((p5.2.2.2.2.map e_T_i_i_i).map .fz)), some (.lst ((p5.1.map e_T_L_T_i_i_i_d_L_T_i_i_i_d).map .fz)), none, none, none, none, none, none, none, none] _ _
    refine ms_frzl (i := 5) rfl ?_
    show MS _ [some (.vw (script.map D.int)), some (.fz (.int v2)), some (oo_Days C_Days v31.1), some (oo_Days C_Days v27.1), some (.lst ((p5.2.1.map e_T_i_i_i_d).map .fz)), some (.fz (.lst (p5.2.2.2.1.map D.int))), some (.lst ((p5.2.2.2.2.map e_T_i_i_i).map .fz)), some (.lst ((p5.1.map e_T_L_T_i_i_i_d_L_T_i_i_i_d).map .fz)), none, none, none, none, none, none, none, none] _ _
    replace hx := bd_some hx
    obtain ⟨o35, ho35, hx⟩ := hx
    refine ms_cons (m_forO (xs := p5.2.2.2.1) (enc := D.int) (ps_for PassesOwn.never rfl (pi_list pe_w) (pg_name (i := 15) nd rfl (Or.inl rfl)) pss_w) (by exact (mi_list (ds := p5.2.2.2.1.map D.int) (mk_var (pv 5) rfl))) ho35 (fun p33 => [some (.vw (script.map D.int)), some (.fz (.int v2)), some (oo_Days C_Days v31.1), some (oo_Days C_Days v27.1), some (.lst ((p5.2.1.map e_T_i_i_i_d).map .fz)), some (.fz (.lst (p5.2.2.2.1.map D.int))), some (.lst ((p5.2.2.2.2.map e_T_i_i_i).map .fz)), some (.lst ((p5.1.map e_T_L_T_i_i_i_d_L_T_i_i_i_d).map .fz)), none, none, none, none, none, none, none, none]) (fun r => .fz (.bl r)) le_auto (fun x34 p33 p33o mx hx => ?_) (fun p33 τ e le => ?_) fun q e => ?_)
    ·
      refine ⟨_, _, mg_name, ?_⟩
      show MS _ [some (.vw (script.map D.int)), some (.fz (.int v2)), some (oo_Days C_Days v31.1), some (oo_Days C_Days v27.1), some (.lst ((p5.2.1.map e_T_i_i_i_d).map .fz)), some (.fz (.lst (p5.2.2.2.1.map D.int))), some (.lst ((p5.2.2.2.2.map e_T_i_i_i).map .fz)), some (.lst ((p5.1.map e_T_L_T_i_i_i_d_L_T_i_i_i_d).map .fz)), none, none, none, none, none, none, none, some (.fz (.int x34))] _ _
      replace hx := bd_some hx
      obtain ⟨v36, hv36, hx⟩ := hx
      replace hx := bd_some hx
      obtain ⟨v38, hv38, hx⟩ := hx
      refine ms_one (m_if (t := v38) (MW.t (MW.is (mw_or (mt_niB (me_mtL m_Days_has_number o_Days ((v31.1, x34), v36) (mv_var (pv 2) rfl) (ma_fz (me_var (pv 15) rfl) ma_nil) rfl hv36 (hr.mono (by decide))) me_bl) fun q39 => (by have hx := cond_f hv38 q39; replace hx := bd_some hx; obtain ⟨v37, hv37, hx⟩ := hx; cases hx; exact (mw_or1 (mt_neB (me_mtL m_Days_has_number o_Days ((v27.1, x34), v37) (mv_var (pv 3) rfl) (ma_fz (me_var (pv 15) rfl) ma_nil) rfl hv37 (hr.mono (by decide))) (me_eqI (me_var (pv 15) rfl) me_int))))) (or_c hv38))) (fun h => ?_) fun h => ms_nil ?_)
      · replace hx := cond_t hx h
        refine ms_one (m_ret (ps_ret pe_w) (ME.r me_bl) ?_)
        cases hx; exact ⟨_, rfl, rfl⟩
      replace hx := cond_f hx h
      cases hx; exact ⟨_, rfl, le_auto⟩
    · subst e
      dsimp only [ouR] at hx
      refine ms_le le ?_
      show MS _ [some (.vw (script.map D.int)), some (.fz (.int v2)), some (oo_Days C_Days v31.1), some (oo_Days C_Days v27.1), some (.lst ((p5.2.1.map e_T_i_i_i_d).map .fz)), some (.fz (.lst (p5.2.2.2.1.map D.int))), some (.lst ((p5.2.2.2.2.map e_T_i_i_i).map .fz)), some (.lst ((p5.1.map e_T_L_T_i_i_i_d_L_T_i_i_i_d).map .fz)), none, none, none, none, none, none, none, none] _ _
      refine ms_frzl (i := 7) rfl ?_
      show MS _ [some (.vw (script.map D.int)), some (.fz (.int v2)), some (oo_Days C_Days v31.1), some (oo_Days C_Days v27.1), some (.lst ((p5.2.1.map e_T_i_i_i_d).map .fz)), some (.fz (.lst (p5.2.2.2.1.map D.int))), some (.lst ((p5.2.2.2.2.map e_T_i_i_i).map .fz)), some (.fz (.lst (p5.1.map e_T_L_T_i_i_i_d_L_T_i_i_i_d))), none, none, none, none, none, none, none, none] _ _
      replace hx := bd_some hx
      obtain ⟨o42, ho42, hx⟩ := hx
      refine ms_cons (m_forO (xs := p5.1) (enc := e_T_L_T_i_i_i_d_L_T_i_i_i_d) (ps_for PassesOwn.never rfl (pi_list pe_w) (pg_tup (n := 2) rfl (pgs_cons (pg_name (i := 12) nd rfl (Or.inl rfl)) (pgs_cons (pg_name (i := 11) nd rfl (Or.inl rfl)) pgs_nil))) pss_w) (by exact (mi_list (ds := p5.1.map e_T_L_T_i_i_i_d_L_T_i_i_i_d) (mk_var (pv 7) rfl))) ho42 (fun p40 => [some (.vw (script.map D.int)), some (.fz (.int v2)), some (oo_Days C_Days v31.1), some (oo_Days C_Days v27.1), some (.lst ((p5.2.1.map e_T_i_i_i_d).map .fz)), some (.fz (.lst (p5.2.2.2.1.map D.int))), some (.lst ((p5.2.2.2.2.map e_T_i_i_i).map .fz)), some (.fz (.lst (p5.1.map e_T_L_T_i_i_i_d_L_T_i_i_i_d))), none, none, none, none, none, none, none, none]) (fun r => .fz (.bl r)) le_auto (fun x41 p40 p40o mx hx => ?_) (fun p40 τ e le => ?_) fun q e => ?_)
      ·
        refine ⟨_, _, (mg_tup (mgs_cons mg_name (mgs_cons mg_name mgs_nil)) rfl), ?_⟩
        show MS _ [some (.vw (script.map D.int)), some (.fz (.int v2)), some (oo_Days C_Days v31.1), some (oo_Days C_Days v27.1), some (.lst ((p5.2.1.map e_T_i_i_i_d).map .fz)), some (.fz (.lst (p5.2.2.2.1.map D.int))), some (.lst ((p5.2.2.2.2.map e_T_i_i_i).map .fz)), some (.fz (.lst (p5.1.map e_T_L_T_i_i_i_d_L_T_i_i_i_d))), none, none, none, some (.fz (.lst (((x41).2).map e_T_i_i_i_d))), some (.fz (.lst (((x41).1).map e_T_i_i_i_d))), none, none, none] _ _
        replace hx := gd_some hx
        obtain ⟨g43, hx⟩ := hx
        refine ms_one (m_if (t := (!(D.eqv (.lst (((x41).1).map e_T_i_i_i_d)) (.lst (((x41).2).map e_T_i_i_i_d))))) (mt_neDT (d1 := .lst (((x41).1).map e_T_i_i_i_d)) (d2 := .lst (((x41).2).map e_T_i_i_i_d)) hr.units g43 rfl rfl (mv_var (pv 12) rfl) (mv_var (pv 11) rfl)) (fun h => ?_) fun h => ms_nil ?_)
        · replace hx := cond_t hx h
          refine ms_one (m_ret (ps_ret pe_w) (ME.r me_bl) ?_)
          cases hx; exact ⟨_, rfl, rfl⟩
        replace hx := cond_f hx h
        cases hx; exact ⟨_, rfl, le_auto⟩
      · subst e
        dsimp only [ouR] at hx
        refine ms_le le ?_
        show MS _ [some (.vw (script.map D.int)), some (.fz (.int v2)), some (oo_Days C_Days v31.1), some (oo_Days C_Days v27.1), some (.lst ((p5.2.1.map e_T_i_i_i_d).map .fz)), some (.fz (.lst (p5.2.2.2.1.map D.int))), some (.lst ((p5.2.2.2.2.map e_T_i_i_i).map .fz)), some (.fz (.lst (p5.1.map e_T_L_T_i_i_i_d_L_T_i_i_i_d))), none, none, none, none, none, none, none, none] _ _
        replace hx := bd_some hx
        obtain ⟨v44, hv44, hx⟩ := hx
        replace hx := gd_some hx
        obtain ⟨g45, hx⟩ := hx
        refine ms_one (m_retC (ps_ret pe_w) (mec_and (k := ((D.eqv (.lst (v44.2.map e_T_i_i_i_d)) (.lst (([] : List (Int × Int × Int × D)).map e_T_i_i_i_d))))) (mxf_eqV (d1 := .lst (v44.2.map e_T_i_i_i_d)) (d2 := .lst (([] : List (Int × Int × Int × D)).map e_T_i_i_i_d)) hr.units g45 frz_own (MX.xl (xs := v44.2) (enc := e_T_i_i_i_d) (show MX _ _ _ _ [some (.vw (script.map D.int)), some (.fz (.int v2)), some (oo_Days C_Days v31.1), some (oo_Days C_Days v44.1), some (.lst ((p5.2.1.map e_T_i_i_i_d).map .fz)), some (.fz (.lst (p5.2.2.2.1.map D.int))), some (.lst ((p5.2.2.2.2.map e_T_i_i_i).map .fz)), some (.fz (.lst (p5.1.map e_T_L_T_i_i_i_d_L_T_i_i_i_d))), none, none, none, none, none, none, none, none] from (by exact (mx_mtJ m_Days_up_to o_Days ((v27.1, 4), v44) (mq_var (pv 3) rfl) rfl (mf_cons me_int mf_nil) rfl rfl hv44 (hr.mono (by decide)))))) (ME.v (me_lst (ds := [].map e_T_i_i_i_d) mf_nil))) (fun h => ?_) fun h => ?_))
        rotate_left
        · replace hx := cond_f hx h
          first | (cases hx; done) | (cases hx; rfl) | (injection hx with hx; show O.fz (.bl _) = O.fz (.bl true); rw [hx])
        replace hx := cond_t hx h
        replace hx := bd_some hx
        obtain ⟨v46, hv46, hx⟩ := hx
        replace hx := gd_some hx
        obtain ⟨g47, hx⟩ := hx
        refine (mec_one (mec_xf (mxf_eqV (d1 := .lst (v46.2.map e_T_i_i_i_d)) (d2 := .lst ([(5, 1, 64, (.str ("x" : Str)))].map e_T_i_i_i_d)) hr.units g47 frz_own (MX.xl (xs := v46.2) (enc := e_T_i_i_i_d) (show MX _ _ _ _ [some (.vw (script.map D.int)), some (.fz (.int v2)), some (oo_Days C_Days v31.1), some (oo_Days C_Days v46.1), some (.lst ((p5.2.1.map e_T_i_i_i_d).map .fz)), some (.fz (.lst (p5.2.2.2.1.map D.int))), some (.lst ((p5.2.2.2.2.map e_T_i_i_i).map .fz)), some (.fz (.lst (p5.1.map e_T_L_T_i_i_i_d_L_T_i_i_i_d))), none, none, none, none, none, none, none, none] from (by exact (mx_mtJ m_Days_up_to o_Days ((v44.1, 5), v46) (mq_var (pv 3) rfl) rfl (mf_cons me_int mf_nil) rfl rfl hv46 (hr.mono (by decide)))))) (ME.v (me_lst (ds := [(5, 1, 64, (.str ("x" : Str)))].map e_T_i_i_i_d) (mf_cons (me_tup (mf_cons me_int (mf_cons me_int (mf_cons me_int (mf_cons me_str mf_nil))))) mf_nil)))) ?_))
        first | (cases hx; done) | (cases hx; rfl) | (injection hx with hx; show O.fz (.bl _) = O.fz (.bl true); rw [hx])
      · subst e; cases hx; rfl
    · subst e; cases hx; rfl
  · subst e; cases hx; rfl
end
theorem all_mk {l : PySem.W.OpenLaw} {w : World} {K : PySem.W.Frag} {h : Heap} {mg : Str → Option Value} {fa : Addr} (X : K.In h) (G : h.Ns mainGlobals mg) (hfa : mg "law" = some (.ref fa))
    {C_Days : Addr} (a_Days : PySem.W.nsIn K mainGlobals "Days" = some (some (.ref C_Days))) (pg_Days : PySem.W.plainGet K C_Days Str.empty = true) (hd_Days : PySem.W.hasDictIn K C_Days = true) (po_Days : PySem.W.plainOver K C_Days = true) (sa_Days : PySem.W.findIn K (.ref C_Days) "__setattr__" = some (some (.builtin "object.__setattr__"))) (mk_Days : PySem.W.makesIn K C_Days = true) (kc_Days : PySem.W.keepIn K (.ref C_Days) = true)
    (na_Days_waiting : PySem.W.findIn K (.ref C_Days) "waiting" = some none)
    (na_Days_known : PySem.W.findIn K (.ref C_Days) "known" = some none)
    {f0 : Addr} {od0 an0 : Option Addr} {sl0 : Array (Option Value)} {oc0 kV0 dc0 pm0 cd0 ct0 : Value}
    (a0 : PySem.W.nsIn K mainGlobals "_law_cell" = some (some (.ref f0))) (l0 : K.lookup f0 = some ⟨oc0, od0, .func (PySem.W.fnOf "_law_cell" "_law_cell" (defArgs s__law_cell) (defBody s__law_cell) (defScope s__law_cell) .none kV0 dc0 pm0 an0 cd0 ct0), sl0⟩) (c0 : PySem.W.codeIn K cd0 "_law_cell" = true) (k0 : PySem.W.keepIn K (.ref f0) = true)
    {f1 : Addr} {od1 an1 : Option Addr} {sl1 : Array (Option Value)} {oc1 kV1 dc1 pm1 cd1 ct1 : Value}
    (a1 : PySem.W.findIn K (.ref C_Days) "__init__" = some (some (.ref f1))) (l1 : K.lookup f1 = some ⟨oc1, od1, .func (PySem.W.fnOf "__init__" "Days.__init__" (defArgs s_Days___init__) (defBody s_Days___init__) (defScope s_Days___init__) .none kV1 dc1 pm1 an1 cd1 ct1), sl1⟩) (c1 : PySem.W.codeIn K cd1 "Days.__init__" = true) (k1 : PySem.W.keepIn K (.ref f1) = true) (i1 : PySem.W.isFn K (.ref f1) = true)
    {f2 : Addr} {od2 an2 : Option Addr} {sl2 : Array (Option Value)} {oc2 kV2 dc2 pm2 cd2 ct2 : Value}
    (a2 : PySem.W.nsIn K mainGlobals "_law_mix" = some (some (.ref f2))) (l2 : K.lookup f2 = some ⟨oc2, od2, .func (PySem.W.fnOf "_law_mix" "_law_mix" (defArgs s__law_mix) (defBody s__law_mix) (defScope s__law_mix) .none kV2 dc2 pm2 an2 cd2 ct2), sl2⟩) (c2 : PySem.W.codeIn K cd2 "_law_mix" = true) (k2 : PySem.W.keepIn K (.ref f2) = true)
    {f3 : Addr} {od3 an3 : Option Addr} {sl3 : Array (Option Value)} {oc3 kV3 dc3 pm3 cd3 ct3 : Value}
    (a3 : PySem.W.nsIn K mainGlobals "_law_ahead" = some (some (.ref f3))) (l3 : K.lookup f3 = some ⟨oc3, od3, .func (PySem.W.fnOf "_law_ahead" "_law_ahead" (defArgs s__law_ahead) (defBody s__law_ahead) (defScope s__law_ahead) .none kV3 dc3 pm3 an3 cd3 ct3), sl3⟩) (c3 : PySem.W.codeIn K cd3 "_law_ahead" = true) (k3 : PySem.W.keepIn K (.ref f3) = true)
    {f4 : Addr} {od4 an4 : Option Addr} {sl4 : Array (Option Value)} {oc4 kV4 dc4 pm4 cd4 ct4 : Value}
    (a4 : PySem.W.nsIn K mainGlobals "_law_due" = some (some (.ref f4))) (l4 : K.lookup f4 = some ⟨oc4, od4, .func (PySem.W.fnOf "_law_due" "_law_due" (defArgs s__law_due) (defBody s__law_due) (defScope s__law_due) .none kV4 dc4 pm4 an4 cd4 ct4), sl4⟩) (c4 : PySem.W.codeIn K cd4 "_law_due" = true) (k4 : PySem.W.keepIn K (.ref f4) = true)
    {f5 : Addr} {od5 an5 : Option Addr} {sl5 : Array (Option Value)} {oc5 kV5 dc5 pm5 cd5 ct5 : Value}
    (a5 : PySem.W.nsIn K mainGlobals "turn_of" = some (some (.ref f5))) (l5 : K.lookup f5 = some ⟨oc5, od5, .func (PySem.W.fnOf "turn_of" "turn_of" (defArgs s_turn_of) (defBody s_turn_of) (defScope s_turn_of) .none kV5 dc5 pm5 an5 cd5 ct5), sl5⟩) (c5 : PySem.W.codeIn K cd5 "turn_of" = true) (k5 : PySem.W.keepIn K (.ref f5) = true)
    {f6 : Addr} {od6 an6 : Option Addr} {sl6 : Array (Option Value)} {oc6 kV6 dc6 pm6 cd6 ct6 : Value}
    (a6 : PySem.W.findIn K (.ref C_Days) "up_to" = some (some (.ref f6))) (l6 : K.lookup f6 = some ⟨oc6, od6, .func (PySem.W.fnOf "up_to" "Days.up_to" (defArgs s_Days_up_to) (defBody s_Days_up_to) (defScope s_Days_up_to) .none kV6 dc6 pm6 an6 cd6 ct6), sl6⟩) (c6 : PySem.W.codeIn K cd6 "Days.up_to" = true) (k6 : PySem.W.keepIn K (.ref f6) = true) (i6 : PySem.W.isFn K (.ref f6) = true)
    {f7 : Addr} {od7 an7 : Option Addr} {sl7 : Array (Option Value)} {oc7 kV7 dc7 pm7 cd7 ct7 : Value}
    (a7 : PySem.W.nsIn K mainGlobals "_law_whole" = some (some (.ref f7))) (l7 : K.lookup f7 = some ⟨oc7, od7, .func (PySem.W.fnOf "_law_whole" "_law_whole" (defArgs s__law_whole) (defBody s__law_whole) (defScope s__law_whole) .none kV7 dc7 pm7 an7 cd7 ct7), sl7⟩) (c7 : PySem.W.codeIn K cd7 "_law_whole" = true) (k7 : PySem.W.keepIn K (.ref f7) = true)
    {f8 : Addr} {od8 an8 : Option Addr} {sl8 : Array (Option Value)} {oc8 kV8 dc8 pm8 cd8 ct8 : Value}
    (a8 : PySem.W.nsIn K mainGlobals "_law_same" = some (some (.ref f8))) (l8 : K.lookup f8 = some ⟨oc8, od8, .func (PySem.W.fnOf "_law_same" "_law_same" (defArgs s__law_same) (defBody s__law_same) (defScope s__law_same) .none kV8 dc8 pm8 an8 cd8 ct8), sl8⟩) (c8 : PySem.W.codeIn K cd8 "_law_same" = true) (k8 : PySem.W.keepIn K (.ref f8) = true)
    {f9 : Addr} {od9 an9 : Option Addr} {sl9 : Array (Option Value)} {oc9 kV9 dc9 pm9 cd9 ct9 : Value}
    (a9 : PySem.W.nsIn K mainGlobals "_law_triple" = some (some (.ref f9))) (l9 : K.lookup f9 = some ⟨oc9, od9, .func (PySem.W.fnOf "_law_triple" "_law_triple" (defArgs s__law_triple) (defBody s__law_triple) (defScope s__law_triple) .none kV9 dc9 pm9 an9 cd9 ct9), sl9⟩) (c9 : PySem.W.codeIn K cd9 "_law_triple" = true) (k9 : PySem.W.keepIn K (.ref f9) = true)
    {f10 : Addr} {od10 an10 : Option Addr} {sl10 : Array (Option Value)} {oc10 kV10 dc10 pm10 cd10 ct10 : Value}
    (a10 : PySem.W.findIn K (.ref C_Days) "has_number" = some (some (.ref f10))) (l10 : K.lookup f10 = some ⟨oc10, od10, .func (PySem.W.fnOf "has_number" "Days.has_number" (defArgs s_Days_has_number) (defBody s_Days_has_number) (defScope s_Days_has_number) .none kV10 dc10 pm10 an10 cd10 ct10), sl10⟩) (c10 : PySem.W.codeIn K cd10 "Days.has_number" = true) (k10 : PySem.W.keepIn K (.ref f10) = true) (i10 : PySem.W.isFn K (.ref f10) = true)
    {f11 : Addr} {od11 an11 : Option Addr} {sl11 : Array (Option Value)} {oc11 kV11 dc11 pm11 cd11 ct11 : Value}
    (a11 : PySem.W.findIn K (.ref C_Days) "put" = some (some (.ref f11))) (l11 : K.lookup f11 = some ⟨oc11, od11, .func (PySem.W.fnOf "put" "Days.put" (defArgs s_Days_put) (defBody s_Days_put) (defScope s_Days_put) .none kV11 dc11 pm11 an11 cd11 ct11), sl11⟩) (c11 : PySem.W.codeIn K cd11 "Days.put" = true) (k11 : PySem.W.keepIn K (.ref f11) = true) (i11 : PySem.W.isFn K (.ref f11) = true)
    {f12 : Addr} {od12 an12 : Option Addr} {sl12 : Array (Option Value)} {oc12 kV12 dc12 pm12 cd12 ct12 : Value}
    (a12 : PySem.W.nsIn K mainGlobals "_law_put" = some (some (.ref f12))) (l12 : K.lookup f12 = some ⟨oc12, od12, .func (PySem.W.fnOf "_law_put" "_law_put" (defArgs s__law_put) (defBody s__law_put) (defScope s__law_put) .none kV12 dc12 pm12 an12 cd12 ct12), sl12⟩) (c12 : PySem.W.codeIn K cd12 "_law_put" = true) (k12 : PySem.W.keepIn K (.ref f12) = true)
    {f13 : Addr} {od13 an13 : Option Addr} {sl13 : Array (Option Value)} {oc13 kV13 dc13 pm13 cd13 ct13 : Value}
    (a13 : PySem.W.nsIn K mainGlobals "law" = some (some (.ref f13))) (l13 : K.lookup f13 = some ⟨oc13, od13, .func (PySem.W.fnOf "law" "law" (defArgs s_law) (defBody s_law) (defScope s_law) .none kV13 dc13 pm13 an13 cd13 ct13), sl13⟩) (c13 : PySem.W.codeIn K cd13 "law" = true) (k13 : PySem.W.keepIn K (.ref f13) = true)
    (z_len : PySem.W.nsIn K mainGlobals "len" = some none)
    (z_sorted : PySem.W.nsIn K mainGlobals "sorted" = some none)
    (z_isinstance : PySem.W.nsIn K mainGlobals "isinstance" = some none)
    (z_int : PySem.W.nsIn K mainGlobals "int" = some none)
    (z_bool : PySem.W.nsIn K mainGlobals "bool" = some none)
    (z_list : PySem.W.nsIn K mainGlobals "list" = some none)
    (z_tuple : PySem.W.nsIn K mainGlobals "tuple" = some none)
    (z_enumerate : PySem.W.nsIn K mainGlobals "enumerate" = some none)
    : ∃ fd : FuncData, (∀ (s : Shared) (v : Value), BindsTo s fd ⟨[v], []⟩ [("_law_script", v)]) ∧ ∀ base : Heap, K.In base → base.Ns mainGlobals mg → FnOk l.prog w K mg base CX0 6 fa fd ["_law_script"] (spLaw K) := by
  have e := hfa.symm.trans (PySem.W.mg_of X G a13)
  cases e
  have z_len := PySem.W.mg_none_of X G z_len
  have z_sorted := PySem.W.mg_none_of X G z_sorted
  have z_isinstance := PySem.W.mg_none_of X G z_isinstance
  have z_int := PySem.W.mg_none_of X G z_int
  have z_bool := PySem.W.mg_none_of X G z_bool
  have z_list := PySem.W.mg_none_of X G z_list
  have z_tuple := PySem.W.mg_none_of X G z_tuple
  have z_enumerate := PySem.W.mg_none_of X G z_enumerate
  have F0 := fun_mk (st := s__law_cell) l0 c0 k0
  have b0 := F0.binds (ps := ["_law_script", "_law_k"]) fun _ _ _ _ _ _ us hl => match us, hl with | [_, _], _ => rfl
  have F1 := fun_mk (st := s_Days___init__) l1 c1 k1
  have b1 := F1.binds (ps := ["self"]) fun _ _ _ _ _ _ us hl => match us, hl with | [_], _ => rfl
  have F2 := fun_mk (st := s__law_mix) l2 c2 k2
  have b2 := F2.binds (ps := ["_law_cell_here", "_law_k"]) fun _ _ _ _ _ _ us hl => match us, hl with | [_, _], _ => rfl
  have F3 := fun_mk (st := s__law_ahead) l3 c3 k3
  have b3 := F3.binds (ps := ["_law_one", "_law_other"]) fun _ _ _ _ _ _ us hl => match us, hl with | [_, _], _ => rfl
  have F4 := fun_mk (st := s__law_due) l4 c4 k4
  have b4 := F4.binds (ps := ["_law_waiting", "_law_day"]) fun _ _ _ _ _ _ us hl => match us, hl with | [_, _], _ => rfl
  have F5 := fun_mk (st := s_turn_of) l5 c5 k5
  have b5 := F5.binds (ps := ["one"]) fun _ _ _ _ _ _ us hl => match us, hl with | [_], _ => rfl
  have F6 := fun_mk (st := s_Days_up_to) l6 c6 k6
  have b6 := F6.binds (ps := ["self", "day"]) fun _ _ _ _ _ _ us hl => match us, hl with | [_, _], _ => rfl
  have F7 := fun_mk (st := s__law_whole) l7 c7 k7
  have b7 := F7.binds (ps := ["_law_found"]) fun _ _ _ _ _ _ us hl => match us, hl with | [_], _ => rfl
  have F8 := fun_mk (st := s__law_same) l8 c8 k8
  have b8 := F8.binds (ps := ["_law_found", "_law_due_here"]) fun _ _ _ _ _ _ us hl => match us, hl with | [_, _], _ => rfl
  have F9 := fun_mk (st := s__law_triple) l9 c9 k9
  have b9 := F9.binds (ps := ["_law_cell_here", "_law_k", "_law_day", "_law_triples"]) fun _ _ _ _ _ _ us hl => match us, hl with | [_, _, _, _], _ => rfl
  have F10 := fun_mk (st := s_Days_has_number) l10 c10 k10
  have b10 := F10.binds (ps := ["self", "number"]) fun _ _ _ _ _ _ us hl => match us, hl with | [_, _], _ => rfl
  have F11 := fun_mk (st := s_Days_put) l11 c11 k11
  have b11 := F11.binds (ps := ["self", "day", "rank", "number", "row"]) fun _ _ _ _ _ _ us hl => match us, hl with | [_, _, _, _, _], _ => rfl
  have F12 := fun_mk (st := s__law_put) l12 c12 k12
  have b12 := F12.binds (ps := ["_law_days", "_law_one", "_law_known"]) fun _ _ _ _ _ _ us hl => match us, hl with | [_, _, _], _ => rfl
  have F13 := fun_mk (st := s_law) l13 c13 k13
  refine ⟨PySem.W.fnOf "law" "law" (defArgs s_law) (defBody s_law) (defScope s_law) .none kV13 dc13 pm13 an13 cd13 ct13, fun s v => .of_eq rfl, fun base _ _ => ?_⟩
  have n__law_cell : Fn1 l.prog w K mg base "_law_cell" 1 ["_law_script", "_law_k"] (sp__law_cell K) := ⟨_, _, PySem.W.mg_of X G a0, k0, b0, ok__law_cell F0 z_len⟩
  have o_Days___init__ := ok_Days___init__ (P := l.prog) (w := w) (mg := mg) (base := base) (C_Days := C_Days) F1 ⟨⟨pg_Days, hd_Days, po_Days, sa_Days⟩, fun _ => fun m => (List.mem_cons.mp m).elim (fun e => by rw [e]; exact na_Days_waiting) (fun m => (List.mem_cons.mp m).elim (fun e => by rw [e]; exact na_Days_known) (fun m => (nomatch m)))⟩
  have ni_Days : Mk1 l.prog w K mg base "Days" C_Days 1 ["self"] (spI_Days___init__ K C_Days) := ⟨_, _, PySem.W.mg_of X G a_Days, ⟨mk_Days, a1, i1, kc_Days⟩, b1, toI_Days___init__ o_Days___init__⟩
  have n__law_mix : Fn1 l.prog w K mg base "_law_mix" 1 ["_law_cell_here", "_law_k"] (sp__law_mix K) := ⟨_, _, PySem.W.mg_of X G a2, k2, b2, ok__law_mix F2 ⟩
  have n__law_ahead : Fn1 l.prog w K mg base "_law_ahead" 1 ["_law_one", "_law_other"] (sp__law_ahead K) := ⟨_, _, PySem.W.mg_of X G a3, k3, b3, ok__law_ahead F3 ⟩
  have n__law_due : Fn1 l.prog w K mg base "_law_due" 2 ["_law_waiting", "_law_day"] (sp__law_due K) := ⟨_, _, PySem.W.mg_of X G a4, k4, b4, ok__law_due F4 z_len n__law_ahead⟩
  have n_turn_of : Fn1 l.prog w K mg base "turn_of" 1 ["one"] (sp_turn_of K) := ⟨_, _, PySem.W.mg_of X G a5, k5, b5, ok_turn_of F5 ⟩
  have o_Days_up_to := ok_Days_up_to (P := l.prog) (w := w) (mg := mg) (base := base) (C_Days := C_Days) F6 z_sorted ⟨⟨pg_Days, hd_Days, po_Days, sa_Days⟩, fun _ => fun m => (List.mem_cons.mp m).elim (fun e => by rw [e]; exact na_Days_waiting) (fun m => (List.mem_cons.mp m).elim (fun e => by rw [e]; exact na_Days_known) (fun m => (nomatch m)))⟩ ⟨_, PySem.W.mg_of X G a5, ⟨_, _, _, _, _, _, _, _, _, F5, sc_turn_of, rfl, b5, rfl, (.cons (.cons (.cons .nil))), by decide⟩⟩
  have nm_Days_up_to : Mt1 l.prog w K mg base C_Days "up_to" 5 ["self", "day"] (sp_Days_up_to K C_Days) := ⟨_, _, ⟨a6, i6, k6⟩, b6, o_Days_up_to⟩
  have n__law_whole : Fn1 l.prog w K mg base "_law_whole" 1 ["_law_found"] (sp__law_whole K) := ⟨_, _, PySem.W.mg_of X G a7, k7, b7, ok__law_whole F7 z_isinstance z_int z_bool⟩
  have n__law_same : Fn1 l.prog w K mg base "_law_same" 2 ["_law_found", "_law_due_here"] (sp__law_same K) := ⟨_, _, PySem.W.mg_of X G a8, k8, b8, ok__law_same F8 z_isinstance z_list z_len z_tuple n__law_whole⟩
  have n__law_triple : Fn1 l.prog w K mg base "_law_triple" 2 ["_law_cell_here", "_law_k", "_law_day", "_law_triples"] (sp__law_triple K) := ⟨_, _, PySem.W.mg_of X G a9, k9, b9, ok__law_triple F9 z_len n__law_mix⟩
  have o_Days_has_number := ok_Days_has_number (P := l.prog) (w := w) (mg := mg) (base := base) (C_Days := C_Days) F10 ⟨⟨pg_Days, hd_Days, po_Days, sa_Days⟩, fun _ => fun m => (List.mem_cons.mp m).elim (fun e => by rw [e]; exact na_Days_waiting) (fun m => (List.mem_cons.mp m).elim (fun e => by rw [e]; exact na_Days_known) (fun m => (nomatch m)))⟩
  have nm_Days_has_number : Mt1 l.prog w K mg base C_Days "has_number" 1 ["self", "number"] (sp_Days_has_number K C_Days) := ⟨_, _, ⟨a10, i10, k10⟩, b10, o_Days_has_number⟩
  have o_Days_put := ok_Days_put (P := l.prog) (w := w) (mg := mg) (base := base) (C_Days := C_Days) F11 ⟨⟨pg_Days, hd_Days, po_Days, sa_Days⟩, fun _ => fun m => (List.mem_cons.mp m).elim (fun e => by rw [e]; exact na_Days_waiting) (fun m => (List.mem_cons.mp m).elim (fun e => by rw [e]; exact na_Days_known) (fun m => (nomatch m)))⟩
  have nm_Days_put : Mt1 l.prog w K mg base C_Days "put" 1 ["self", "day", "rank", "number", "row"] (sp_Days_put K C_Days) := ⟨_, _, ⟨a11, i11, k11⟩, b11, o_Days_put⟩
  have n__law_put : Fn1 l.prog w K mg base "_law_put" 2 ["_law_days", "_law_one", "_law_known"] (sp__law_put K C_Days) := ⟨_, _, PySem.W.mg_of X G a12, k12, b12, ok__law_put F12 z_isinstance z_bool ⟨⟨pg_Days, hd_Days, po_Days, sa_Days⟩, fun _ => fun m => (List.mem_cons.mp m).elim (fun e => by rw [e]; exact na_Days_waiting) (fun m => (List.mem_cons.mp m).elim (fun e => by rw [e]; exact na_Days_known) (fun m => (nomatch m)))⟩ nm_Days_has_number nm_Days_put⟩
  exact ok_law F13 z_enumerate ⟨⟨pg_Days, hd_Days, po_Days, sa_Days⟩, fun _ => fun m => (List.mem_cons.mp m).elim (fun e => by rw [e]; exact na_Days_waiting) (fun m => (List.mem_cons.mp m).elim (fun e => by rw [e]; exact na_Days_known) (fun m => (nomatch m)))⟩ n__law_cell ni_Days n__law_mix n__law_due nm_Days_up_to n__law_same n__law_triple n__law_put nm_Days_has_number
theorem all_hk {l : PySem.W.OpenLaw} {w : World} {K : PySem.W.Frag} {h : Heap} {mg : Str → Option Value} {fa : Addr} (X : K.In h) (G : h.Ns mainGlobals mg) (hfa : mg "law" = some (.ref fa)) (c : SaysH hd_ex0 hd_fns K) : ∃ fd : FuncData, (∀ (s : Shared) (v : Value), BindsTo s fd ⟨[v], []⟩ [("_law_script", v)]) ∧ ∀ base : Heap, K.In base → base.Ns mainGlobals mg → FnOk l.prog w K mg base CX0 6 fa fd ["_law_script"] (spLaw K) := by
  have e := c.facts
  obtain ⟨e0, e⟩ := He.ba e
  obtain ⟨e1, e⟩ := He.ba e
  obtain ⟨e2, e⟩ := He.ba e
  obtain ⟨h_a_Days, e0⟩ := He.ba e0
  obtain ⟨h_pg_Days, e0⟩ := He.ba e0
  obtain ⟨h_hd_Days, e0⟩ := He.ba e0
  obtain ⟨h_po_Days, e0⟩ := He.ba e0
  obtain ⟨h_sa_Days, e0⟩ := He.ba e0
  obtain ⟨h_mk_Days, e0⟩ := He.ba e0
  obtain ⟨h_kc_Days, e0⟩ := He.ba e0
  obtain ⟨h_na_Days_waiting, e0⟩ := He.ba e0
  obtain ⟨h_na_Days_known, e0⟩ := He.ba e0
  obtain ⟨h_a0, e0⟩ := He.ba e0
  obtain ⟨h_a1, e0⟩ := He.ba e0
  obtain ⟨h_i1, e0⟩ := He.ba e0
  obtain ⟨h_a2, e0⟩ := He.ba e0
  obtain ⟨h_a3, e0⟩ := He.ba e0
  obtain ⟨h_a4, e0⟩ := He.ba e0
  obtain ⟨h_a5, e0⟩ := He.ba e0
  obtain ⟨h_a6, e1⟩ := He.ba e1
  obtain ⟨h_i6, e1⟩ := He.ba e1
  obtain ⟨h_a7, e1⟩ := He.ba e1
  obtain ⟨h_a8, e1⟩ := He.ba e1
  obtain ⟨h_a9, e1⟩ := He.ba e1
  obtain ⟨h_a10, e1⟩ := He.ba e1
  obtain ⟨h_i10, e1⟩ := He.ba e1
  obtain ⟨h_a11, e1⟩ := He.ba e1
  obtain ⟨h_i11, e1⟩ := He.ba e1
  obtain ⟨h_a12, e1⟩ := He.ba e1
  obtain ⟨h_a13, e1⟩ := He.ba e1
  obtain ⟨h_z_len, e1⟩ := He.ba e1
  obtain ⟨h_z_sorted, e1⟩ := He.ba e1
  obtain ⟨h_z_isinstance, e1⟩ := He.ba e1
  obtain ⟨h_z_int, e1⟩ := He.ba e1
  obtain ⟨h_z_bool, e1⟩ := He.ba e1
  obtain ⟨h_z_list, e2⟩ := He.ba e2
  obtain ⟨h_z_tuple, e2⟩ := He.ba e2
  obtain ⟨h_z_enumerate, e2⟩ := He.ba e2
  obtain ⟨_, E0⟩ := c.def_ 0 (d := hd_dd0) rfl
  obtain ⟨_, _, _, _, _, _, _, _, _, l0, c0, k0⟩ := funD_raw E0
  obtain ⟨_, E1⟩ := c.def_ 1 (d := hd_dd1) rfl
  obtain ⟨_, _, _, _, _, _, _, _, _, l1, c1, k1⟩ := funD_raw E1
  obtain ⟨_, E2⟩ := c.def_ 2 (d := hd_dd2) rfl
  obtain ⟨_, _, _, _, _, _, _, _, _, l2, c2, k2⟩ := funD_raw E2
  obtain ⟨_, E3⟩ := c.def_ 3 (d := hd_dd3) rfl
  obtain ⟨_, _, _, _, _, _, _, _, _, l3, c3, k3⟩ := funD_raw E3
  obtain ⟨_, E4⟩ := c.def_ 4 (d := hd_dd4) rfl
  obtain ⟨_, _, _, _, _, _, _, _, _, l4, c4, k4⟩ := funD_raw E4
  obtain ⟨_, E5⟩ := c.def_ 5 (d := hd_dd5) rfl
  obtain ⟨_, _, _, _, _, _, _, _, _, l5, c5, k5⟩ := funD_raw E5
  obtain ⟨_, E6⟩ := c.def_ 6 (d := hd_dd6) rfl
  obtain ⟨_, _, _, _, _, _, _, _, _, l6, c6, k6⟩ := funD_raw E6
  obtain ⟨_, E7⟩ := c.def_ 7 (d := hd_dd7) rfl
  obtain ⟨_, _, _, _, _, _, _, _, _, l7, c7, k7⟩ := funD_raw E7
  obtain ⟨_, E8⟩ := c.def_ 8 (d := hd_dd8) rfl
  obtain ⟨_, _, _, _, _, _, _, _, _, l8, c8, k8⟩ := funD_raw E8
  obtain ⟨_, E9⟩ := c.def_ 9 (d := hd_dd9) rfl
  obtain ⟨_, _, _, _, _, _, _, _, _, l9, c9, k9⟩ := funD_raw E9
  obtain ⟨_, E10⟩ := c.def_ 10 (d := hd_dd10) rfl
  obtain ⟨_, _, _, _, _, _, _, _, _, l10, c10, k10⟩ := funD_raw E10
  obtain ⟨_, E11⟩ := c.def_ 11 (d := hd_dd11) rfl
  obtain ⟨_, _, _, _, _, _, _, _, _, l11, c11, k11⟩ := funD_raw E11
  obtain ⟨_, E12⟩ := c.def_ 12 (d := hd_dd12) rfl
  obtain ⟨_, _, _, _, _, _, _, _, _, l12, c12, k12⟩ := funD_raw E12
  obtain ⟨_, E13⟩ := c.def_ 13 (d := hd_dd13) rfl
  obtain ⟨_, _, _, _, _, _, _, _, _, l13, c13, k13⟩ := funD_raw E13
  exact all_mk X G hfa (dO_ok h_a_Days) h_pg_Days h_hd_Days h_po_Days (dO_ok h_sa_Days) h_mk_Days h_kc_Days (dO_ok h_na_Days_waiting) (dO_ok h_na_Days_known) (dO_ok h_a0) l0 c0 k0 (dO_ok h_a1) l1 c1 k1 h_i1 (dO_ok h_a2) l2 c2 k2 (dO_ok h_a3) l3 c3 k3 (dO_ok h_a4) l4 c4 k4 (dO_ok h_a5) l5 c5 k5 (dO_ok h_a6) l6 c6 k6 h_i6 (dO_ok h_a7) l7 c7 k7 (dO_ok h_a8) l8 c8 k8 (dO_ok h_a9) l9 c9 k9 (dO_ok h_a10) l10 c10 k10 h_i10 (dO_ok h_a11) l11 c11 k11 h_i11 (dO_ok h_a12) l12 c12 k12 (dO_ok h_a13) l13 c13 k13 (dO_ok h_z_len) (dO_ok h_z_sorted) (dO_ok h_z_isinstance) (dO_ok h_z_int) (dO_ok h_z_bool) (dO_ok h_z_list) (dO_ok h_z_tuple) (dO_ok h_z_enumerate)
end K51

open PySem PySem.W PyProof.Rows in
set_option maxRecDepth 100000 in
set_option maxHeartbeats 0 in
theorem PySem.Challenge.cw_coverroll_k51_rows_that_wait_holds : PySem.Challenge.rw_coverroll_k51_rows_that_wait.Holds := by
  w_on; o_law
  refine HandSHeadRun.head_any (r := OpenLaw.row PySem.Challenge.rw_coverroll_k51_rows_that_wait) (q := view (OpenLaw.row PySem.Challenge.rw_coverroll_k51_rows_that_wait).prog [12]) (H := K51.hd_hk) (ob := K51.hd_ob) (M := 14000) (loose := K51.hd_nms) (d := HandSHeadRun.topDef (OpenLaw.row PySem.Challenge.rw_coverroll_k51_rows_that_wait).prog 12) (kwd := []) K51.hd_ob_eq
    (by kernel_rfl) (fun s => by kernel_rfl) K51.hd_run (by kernel_rfl) (by kernel_rfl) (by kernel_rfl) (by rfl) (by first | assumption | decide +kernel) (by decide +kernel) ⟨rfl, rfl, rfl, rfl, rfl, by decide +kernel⟩ ?hw ?hc
  case hw => w_witness2
  case hc =>
    refine L2.walk_ofE (l := PySem.Challenge.rw_coverroll_k51_rows_that_wait) (n := 63) (k := 6) (x := "_law_script") (CX := L2.CX0) rfl (by decide) (by kernel_rfl) ⟨rfl, by decide, by decide⟩ ?F (fun _ _ _ _ z => z)
    intro w mg fa h Y G hmg0
    obtain ⟨K, KX, c⟩ := Y
    have hmg : mg ("law" : PySem.Str) = some (.ref fa) := by
      have e : (HandSHeadRun.topDef (OpenLaw.row PySem.Challenge.rw_coverroll_k51_rows_that_wait).prog 12).name = ("law" : PySem.Str) := by kernel_rfl
      rw [← e]
      exact hmg0
    obtain ⟨fd, hb, hF⟩ := K51.all_hk (l := PySem.Challenge.rw_coverroll_k51_rows_that_wait) (w := w) KX G hmg c
    exact ⟨K, fd, M.spLaw K, KX, hb, fun H a ns hl _ hS => M.spLaw_of hS hl, hF⟩
